import Derived.Test.YtmjbifmndhianaaGreatDoorG11
set_option linter.unusedSectionVars false
set_option linter.unusedVariables false
set_option linter.unusedSimpArgs false
set_option maxRecDepth 10000
set_option maxHeartbeats 4000000
namespace Vc
open Go Go.Proofs
structure Ky where
 a:Int
 b:Int
 c:Int
 d:Int
 e:Int
 f:Int
 g:Int
 h:Int
structure Ac where
 b:Int
 d:Int
 s:Int
 e:Int
 k:Ky
 n:Ky
 c:Bool
 u:List Int
def kz (n:Ky):Bool:=n.a==0&&(n.b==0&&(n.c==0&&(n.d==0&&(n.e==0&&(n.f==0&&(n.g==0&&(n.h==0&&true)))))))
def ckE (n last:Int):Int:=firstOf [within3 n 1 999999999,bif decide (n≤last) then 11 else 0]
def ckU:List Int→Int→Int
 | [],_=>0
 | n::r,last=>bif ckE n last != 0 then ckE n last else ckU r n
def ckF (a:Ac) (c:Bool):Int:=firstOf [within3 a.b (-1000000000000) 1000000000000,within3 a.d 0 1000000000000,within3 a.s 0 100,within3 a.e 0 100000000,bif (bif c then false else !(kz a.n)) then 1 else 0,bif decide ((256:Int) < (((ints a.u).length:Nat):Int)) then 5 else 0]
def ckA (a:Ac) (c:Bool):Int:=bif ckF a c != 0 then ckF a c else ckU a.u 0
def jr98:AFun:=⟨5,0,[.tmp 2],
 (.seq
 (.reg [] [⟨some 2,.mov (.cst (.d (.int .i64 0))),none⟩])
 (.seq
  (.reg [] [⟨some 3,.mov (.tmp 0),none⟩,
   ⟨some 4,.call 22 [(.tmp 3),(.cst (.d (.int .i64 1))),(.cst (.d (.int .i64 999999999)))],none⟩,
   ⟨some 2,.mov (.tmp 4),none⟩])
  .ret))⟩
def jr94:AFun:=⟨9,4,[.cell 2 22 true],
 (.seq
 (.reg [0,1] [⟨some 1,.box 0 22 (.tmp 0),none⟩,
  ⟨some 2,.alloc 1 [(.d (.int .i64 0)),(.d (.int .i64 0)),(.d (.int .i64 0)),(.d (.int .i64 0)),(.d (.int .u8 0)),(.d (.int .u8 0)),(.d (.int .u8 0)),(.d (.int .u8 0)),(.d (.int .u8 0)),(.d (.int .u8 0)),(.d (.int .u8 0)),(.d (.int .u8 0)),(.d (.int .u8 0)),(.d (.int .u8 0)),(.d (.int .u8 0)),(.d (.int .u8 0)),(.d (.int .u8 0)),(.d (.int .u8 0)),(.d (.int .u8 0)),(.d (.int .u8 0)),(.d (.bool false)),(.nils 1)],none⟩])
 (.seq
  (.reg [2,3] [⟨some 3,.bsl 2 3 1 0 [] [],none⟩,
   ⟨some 4,.fad 21 (.tmp 1),none⟩,
   ⟨some 5,.ld false 1 (.tmp 4),none⟩,
   ⟨some 6,.app 3 3 1 8 (.tmp 3) (.tmp 5),none⟩,
   ⟨some 7,.fad 21 (.tmp 1),none⟩,
   ⟨none,.st 1 (.tmp 7) (.tmp 6),none⟩])
  (.seq
  (.reg [] [⟨some 8,.ld true 22 (.tmp 1),none⟩,
   ⟨none,.st 22 (.tmp 2) (.tmp 8),none⟩])
  .ret)))⟩
def jr93:AFun:=⟨15,3,[.cell 2 22 true],
 (.seq
 (.reg [0,1] [⟨some 1,.box 0 22 (.tmp 0),none⟩,
  ⟨some 2,.alloc 1 [(.d (.int .i64 0)),(.d (.int .i64 0)),(.d (.int .i64 0)),(.d (.int .i64 0)),(.d (.int .u8 0)),(.d (.int .u8 0)),(.d (.int .u8 0)),(.d (.int .u8 0)),(.d (.int .u8 0)),(.d (.int .u8 0)),(.d (.int .u8 0)),(.d (.int .u8 0)),(.d (.int .u8 0)),(.d (.int .u8 0)),(.d (.int .u8 0)),(.d (.int .u8 0)),(.d (.int .u8 0)),(.d (.int .u8 0)),(.d (.int .u8 0)),(.d (.int .u8 0)),(.d (.bool false)),(.nils 1)],none⟩])
 (.seq
  (.reg [2] [⟨some 4,.fad 21 (.tmp 1),none⟩,
   ⟨some 5,.ld false 1 (.tmp 4),none⟩,
   ⟨some 6,.len (.tmp 5),none⟩,
   ⟨some 7,.msl 2 3 1 8 (.int .i64 0) (.tmp 6),none⟩,
   ⟨some 3,.mov (.tmp 7),none⟩])
  (.seq
  (.reg [] [⟨some 8,.mov (.tmp 3),none⟩,
   ⟨some 9,.fad 21 (.tmp 1),none⟩,
   ⟨some 10,.ld false 1 (.tmp 9),none⟩,
   ⟨some 11,.copy 1 (.tmp 8) (.tmp 10),none⟩])
  (.seq
   (.reg [] [⟨some 12,.mov (.tmp 3),none⟩,
    ⟨some 13,.fad 21 (.tmp 1),none⟩,
    ⟨none,.st 1 (.tmp 13) (.tmp 12),none⟩])
   (.seq
   (.reg [] [⟨some 14,.ld true 22 (.tmp 1),none⟩,
    ⟨none,.st 22 (.tmp 2) (.tmp 14),none⟩])
   .ret)))))⟩
def jr17:AFun:=⟨5,2,[.cell 2 22 true],
 (.seq
 (.reg [0,1] [⟨some 1,.cbx 0 22 (.tmp 0),none⟩,
  ⟨some 2,.alloc 1 [(.d (.int .i64 0)),(.d (.int .i64 0)),(.d (.int .i64 0)),(.d (.int .i64 0)),(.d (.int .u8 0)),(.d (.int .u8 0)),(.d (.int .u8 0)),(.d (.int .u8 0)),(.d (.int .u8 0)),(.d (.int .u8 0)),(.d (.int .u8 0)),(.d (.int .u8 0)),(.d (.int .u8 0)),(.d (.int .u8 0)),(.d (.int .u8 0)),(.d (.int .u8 0)),(.d (.int .u8 0)),(.d (.int .u8 0)),(.d (.int .u8 0)),(.d (.int .u8 0)),(.d (.bool false)),(.nils 1)],none⟩])
 (.seq
  (.reg [] [⟨some 3,.ld true 22 (.tmp 1),none⟩,
   ⟨some 4,.call 94 [(.tmp 3)],none⟩,
   ⟨none,.st 22 (.tmp 2) (.tmp 4),none⟩])
  .ret))⟩
def jr95:AFun:=⟨8,1,[.tmp 2],
 (.seq
 (.reg [0] [⟨some 1,.cbx 0 22 (.tmp 0),none⟩,
  ⟨some 2,.mov (.cst (.d (.int .i64 0))),none⟩])
 (.seq
  (.reg [] [⟨some 3,.fad 0 (.tmp 1),none⟩,
   ⟨some 4,.ld false 1 (.tmp 3),none⟩,
   ⟨some 5,.fad 3 (.tmp 1),none⟩,
   ⟨some 6,.ld false 1 (.tmp 5),none⟩,
   ⟨some 7,.arith .add .i64 (.tmp 4) (.tmp 6),none⟩,
   ⟨some 2,.mov (.tmp 7),none⟩])
  .ret))⟩
def jr25:AFun:=⟨60,3,[.tmp 2],
 (.seq
 (.reg [0] [⟨some 1,.cbx 0 22 (.tmp 0),none⟩,
  ⟨some 2,.mov (.cst (.d (.int .i64 0))),none⟩])
 (.seq
  (.seq
  (.regd [1] [⟨some 8,.fad 0 (.tmp 1),none⟩,
   ⟨some 9,.ld false 1 (.tmp 8),none⟩,
   ⟨some 10,.call 91 [(.tmp 9),(.cst (.d (.int .i64 (-1000000000000)))),(.cst (.d (.int .i64 1000000000000)))],none⟩,
   ⟨some 11,.fad 1 (.tmp 1),none⟩,
   ⟨some 12,.ld false 1 (.tmp 11),none⟩,
   ⟨some 13,.call 91 [(.tmp 12),(.cst (.d (.int .i64 0))),(.cst (.d (.int .i64 1000000000000)))],none⟩,
   ⟨some 14,.fad 2 (.tmp 1),none⟩,
   ⟨some 15,.ld false 1 (.tmp 14),none⟩,
   ⟨some 16,.call 91 [(.tmp 15),(.cst (.d (.int .i64 0))),(.cst (.d (.int .i64 100)))],none⟩,
   ⟨some 17,.fad 3 (.tmp 1),none⟩,
   ⟨some 18,.ld false 1 (.tmp 17),none⟩,
   ⟨some 19,.call 91 [(.tmp 18),(.cst (.d (.int .i64 0))),(.cst (.d (.int .i64 100000000)))],none⟩,
   ⟨some 20,.fad 20 (.tmp 1),none⟩,
   ⟨some 21,.ld false 1 (.tmp 20),none⟩,
   ⟨some 22,.not (.tmp 21),none⟩,
   ⟨some 23,.mov (.tmp 22),none⟩,
   ⟨some 24,.fad 12 (.tmp 1),some (23,true)⟩,
   ⟨some 25,.ld true 8 (.tmp 24),some (23,true)⟩,
   ⟨some 26,.build [(.d (.int .u8 0)),(.d (.int .u8 0)),(.d (.int .u8 0)),(.d (.int .u8 0)),(.d (.int .u8 0)),(.d (.int .u8 0)),(.d (.int .u8 0)),(.d (.int .u8 0))] [],some (23,true)⟩,
   ⟨some 27,.aeq true [0,0,0,0,0,0,0,0] (.tmp 25) (.tmp 26),some (23,true)⟩,
   ⟨some 28,.pick (.tmp 23) (.tmp 27) (.cst (.d (.bool false))),none⟩,
   ⟨some 29,.call 92 [(.tmp 28),(.cst (.d (.int .i64 1)))],none⟩,
   ⟨some 30,.fad 21 (.tmp 1),none⟩,
   ⟨some 31,.ld false 1 (.tmp 30),none⟩,
   ⟨some 32,.len (.tmp 31),none⟩,
   ⟨some 33,.cmp .gtr (.tmp 32) (.cst (.d (.int .i64 256))),none⟩,
   ⟨some 34,.call 92 [(.tmp 33),(.cst (.d (.int .i64 5)))],none⟩,
   ⟨some 35,.bsl 1 30 1 6 [(.int .i64 0),(.int .i64 0),(.int .i64 0),(.int .i64 0),(.int .i64 0),(.int .i64 0)] [(0,(.tmp 10)),(1,(.tmp 13)),(2,(.tmp 16)),(3,(.tmp 19)),(4,(.tmp 29)),(5,(.tmp 34))],none⟩,
   ⟨some 36,.call 90 [(.tmp 35)],none⟩,
   ⟨some 3,.mov (.tmp 36),none⟩] [(0,3),(1,3),(2,3),(0,4),(1,4),(2,4),(0,6),(1,6),(2,6),(3,6),(4,6),(5,6),(0,7),(1,7),(2,7),(3,7),(4,7),(5,7),(0,9),(1,9),(2,9),(3,9),(4,9),(5,9),(6,9),(7,9),(8,9),(0,10),(1,10),(2,10),(3,10),(4,10),(5,10),(6,10),(7,10),(8,10),(0,12),(1,12),(2,12),(3,12),(4,12),(5,12),(6,12),(7,12),(8,12),(9,12),(10,12),(11,12),(0,13),(1,13),(2,13),(3,13),(4,13),(5,13),(6,13),(7,13),(8,13),(9,13),(10,13),(11,13),(0,14),(1,14),(2,14),(3,14),(4,14),(5,14),(6,14),(7,14),(8,14),(9,14),(10,14),(11,14),(16,18),(17,18),(0,22),(1,22),(2,22),(3,22),(4,22),(5,22),(6,22),(7,22),(8,22),(9,22),(10,22),(11,22),(12,22),(13,22),(14,22),(15,22),(16,22),(17,22),(18,22),(19,22),(20,22),(21,22),(0,23),(1,23),(2,23),(3,23),(4,23),(5,23),(6,23),(7,23),(8,23),(9,23),(10,23),(11,23),(12,23),(13,23),(14,23),(15,23),(16,23),(17,23),(18,23),(19,23),(20,23),(21,23),(0,24),(1,24),(2,24),(3,24),(4,24),(5,24),(6,24),(7,24),(8,24),(9,24),(10,24),(11,24),(12,24),(13,24),(14,24),(15,24),(16,24),(17,24),(18,24),(19,24),(20,24),(21,24),(0,25),(1,25),(2,25),(3,25),(4,25),(5,25),(6,25),(7,25),(8,25),(9,25),(10,25),(11,25),(12,25),(13,25),(14,25),(15,25),(16,25),(17,25),(18,25),(19,25),(20,25),(21,25)])
  (.seq
   (.reg [] [⟨some 37,.mov (.tmp 3),none⟩,
    ⟨some 38,.cmp .neq (.tmp 37) (.cst (.d (.int .i64 0))),none⟩])
   (.cond (.tmp 38)
   (.seq
    (.reg [] [⟨some 39,.mov (.tmp 3),none⟩,
     ⟨some 2,.mov (.tmp 39),none⟩])
    .ret)
   .skip)))
  (.seq
  (.reg [] [⟨some 4,.mov (.cst (.d (.int .i64 0))),none⟩])
  (.seq
   (.seq
   (.reg [] [⟨some 40,.fad 21 (.tmp 1),none⟩,
    ⟨some 41,.ld false 1 (.tmp 40),none⟩,
    ⟨some 42,.len (.tmp 41),none⟩,
    ⟨some 43,.mov (.cst (.d (.int .i64 0))),none⟩])
   (.post [] [0,1,2]
    (.block 0
    (.keep [4,41,42,43] [0,1]
     (.loop
     (.post [4,41,42,43] [2]
      (.seq
      (.reg [] [⟨some 44,.cmp .lss (.tmp 43) (.tmp 42),none⟩])
      (.seq
       (.cond (.tmp 44)
       .skip
       (.exit 0))
       (.seq
       (.block 1
        (.seq
        (.reg [] [⟨some 45,.ixa 1 (.tmp 41) (.tmp 43),none⟩,
         ⟨some 46,.ld false 1 (.tmp 45),none⟩,
         ⟨some 6,.mov (.tmp 46),none⟩])
        (.seq
         (.seq
         (.reg [2] [⟨some 47,.mov (.tmp 6),none⟩,
          ⟨some 48,.call 91 [(.tmp 47),(.cst (.d (.int .i64 1))),(.cst (.d (.int .i64 999999999)))],none⟩,
          ⟨some 49,.mov (.tmp 6),none⟩,
          ⟨some 50,.mov (.tmp 4),none⟩,
          ⟨some 51,.cmp .leq (.tmp 49) (.tmp 50),none⟩,
          ⟨some 52,.call 92 [(.tmp 51),(.cst (.d (.int .i64 11)))],none⟩,
          ⟨some 53,.bsl 2 30 1 2 [(.int .i64 0),(.int .i64 0)] [(0,(.tmp 48)),(1,(.tmp 52))],none⟩,
          ⟨some 54,.call 90 [(.tmp 53)],none⟩,
          ⟨some 7,.mov (.tmp 54),none⟩])
         (.seq
          (.reg [] [⟨some 55,.mov (.tmp 7),none⟩,
           ⟨some 56,.cmp .neq (.tmp 55) (.cst (.d (.int .i64 0))),none⟩])
          (.cond (.tmp 56)
          (.seq
           (.reg [] [⟨some 57,.mov (.tmp 7),none⟩,
            ⟨some 2,.mov (.tmp 57),none⟩])
           .ret)
          .skip)))
         (.reg [] [⟨some 58,.mov (.tmp 6),none⟩,
          ⟨some 4,.mov (.tmp 58),none⟩]))))
       (.reg [] [⟨some 59,.arith .add .i64 (.tmp 43) (.cst (.d (.int .i64 1))),none⟩,
        ⟨some 43,.mov (.tmp 59),none⟩]))))))))))
   (.seq
   (.reg [] [⟨some 2,.mov (.cst (.d (.int .i64 0))),none⟩])
   .ret)))))⟩
def jr67:AFun:=⟨4,2,[.cell 2 22 true],
 (.seq
 (.reg [0,1] [⟨some 1,.cbx 0 22 (.tmp 0),none⟩,
  ⟨some 2,.alloc 1 [(.d (.int .i64 0)),(.d (.int .i64 0)),(.d (.int .i64 0)),(.d (.int .i64 0)),(.d (.int .u8 0)),(.d (.int .u8 0)),(.d (.int .u8 0)),(.d (.int .u8 0)),(.d (.int .u8 0)),(.d (.int .u8 0)),(.d (.int .u8 0)),(.d (.int .u8 0)),(.d (.int .u8 0)),(.d (.int .u8 0)),(.d (.int .u8 0)),(.d (.int .u8 0)),(.d (.int .u8 0)),(.d (.int .u8 0)),(.d (.int .u8 0)),(.d (.int .u8 0)),(.d (.bool false)),(.nils 1)],none⟩])
 (.seq
  (.reg [] [⟨some 3,.ld true 22 (.tmp 1),none⟩,
   ⟨none,.st 22 (.tmp 2) (.tmp 3),none⟩])
  .ret))⟩
theorem c98 (n:Int):CallDet Tryz.prog 98 [.d (.int .i64 n)] [.int .i64 (within3 n 1 999999999)]:=by
 have c22_:=c22 n 1 999999999
 refine call_of_vc (x:=jr98) (by kernel_rfl) rfl ?_
 refine ca c22_ ?_
 exact rfl
theorem c94 (a:Ac) (c:Bool) (hl:a.u.length≤1048576):CallDet Tryz.prog 94 [.d (.agg [.int .i64 (a.b),.int .i64 (a.d),.int .i64 a.s,.int .i64 a.e,.int .u8 a.k.a,.int .u8 a.k.b,.int .u8 a.k.c,.int .u8 a.k.d,.int .u8 a.k.e,.int .u8 a.k.f,.int .u8 a.k.g,.int .u8 a.k.h,.int .u8 a.n.a,.int .u8 a.n.b,.int .u8 a.n.c,.int .u8 a.n.d,.int .u8 a.n.e,.int .u8 a.n.f,.int .u8 a.n.g,.int .u8 a.n.h,.bool c,.slice 1 (ints a.u)])] [.agg [.int .i64 (a.b),.int .i64 (a.d),.int .i64 a.s,.int .i64 a.e,.int .u8 a.k.a,.int .u8 a.k.b,.int .u8 a.k.c,.int .u8 a.k.d,.int .u8 a.k.e,.int .u8 a.k.f,.int .u8 a.k.g,.int .u8 a.k.h,.int .u8 a.n.a,.int .u8 a.n.b,.int .u8 a.n.c,.int .u8 a.n.d,.int .u8 a.n.e,.int .u8 a.n.f,.int .u8 a.n.g,.int .u8 a.n.h,.bool c,.slice 1 (ints a.u)]]:=by
 have hlen:(ints a.u).length=a.u.length:=List.length_map _
 refine call_of_vc (x:=jr94) (by kernel_rfl) rfl ?_
 refine sd ?_
 refine sd ?_
 refine an ?_ ?_
 refine an ?_ ?_
 exact rfl
 refine an ?_ ?_
 exact rfl
 refine an ?_ ?_
 exact rfl
 refine an ?_ ?_
 (show ((0:Nat)+List.length (ints (Ac.u a))) * (8:Nat)≤(2:Nat) ^ (47:Nat); omega)
 (show (0:Nat)+List.length (ints (Ac.u a))≤(2:Nat) ^ (47:Nat); omega)
 refine sd ?_
 refine sd ?_
 exact rfl
theorem c93 (a:Ac) (c:Bool) (hl:a.u.length≤1048576):CallDet Tryz.prog 93 [.d (.agg [.int .i64 (a.b),.int .i64 (a.d),.int .i64 a.s,.int .i64 a.e,.int .u8 a.k.a,.int .u8 a.k.b,.int .u8 a.k.c,.int .u8 a.k.d,.int .u8 a.k.e,.int .u8 a.k.f,.int .u8 a.k.g,.int .u8 a.k.h,.int .u8 a.n.a,.int .u8 a.n.b,.int .u8 a.n.c,.int .u8 a.n.d,.int .u8 a.n.e,.int .u8 a.n.f,.int .u8 a.n.g,.int .u8 a.n.h,.bool c,.slice 1 (ints a.u)])] [.agg [.int .i64 (a.b),.int .i64 (a.d),.int .i64 a.s,.int .i64 a.e,.int .u8 a.k.a,.int .u8 a.k.b,.int .u8 a.k.c,.int .u8 a.k.d,.int .u8 a.k.e,.int .u8 a.k.f,.int .u8 a.k.g,.int .u8 a.k.h,.int .u8 a.n.a,.int .u8 a.n.b,.int .u8 a.n.c,.int .u8 a.n.d,.int .u8 a.n.e,.int .u8 a.n.f,.int .u8 a.n.g,.int .u8 a.n.h,.bool c,.slice 1 (ints a.u)]]:=by
 have hlen:(ints a.u).length=a.u.length:=List.length_map _
 have e:=copy_all (ints a.u) (.int .i64 0)
 have fin:resV [.agg [.int .i64 (a.b),.int .i64 (a.d),.int .i64 a.s,.int .i64 a.e,.int .u8 a.k.a,.int .u8 a.k.b,.int .u8 a.k.c,.int .u8 a.k.d,.int .u8 a.k.e,.int .u8 a.k.f,.int .u8 a.k.g,.int .u8 a.k.h,.int .u8 a.n.a,.int .u8 a.n.b,.int .u8 a.n.c,.int .u8 a.n.d,.int .u8 a.n.e,.int .u8 a.n.f,.int .u8 a.n.g,.int .u8 a.n.h,.bool c,.slice 1 (List.take (ints a.u).length (ints a.u)++List.drop (ints a.u).length (List.replicate (ints a.u).length (.int .i64 0)))]]=resV [.agg [.int .i64 (a.b),.int .i64 (a.d),.int .i64 a.s,.int .i64 a.e,.int .u8 a.k.a,.int .u8 a.k.b,.int .u8 a.k.c,.int .u8 a.k.d,.int .u8 a.k.e,.int .u8 a.k.f,.int .u8 a.k.g,.int .u8 a.k.h,.int .u8 a.n.a,.int .u8 a.n.b,.int .u8 a.n.c,.int .u8 a.n.d,.int .u8 a.n.e,.int .u8 a.n.f,.int .u8 a.n.g,.int .u8 a.n.h,.bool c,.slice 1 (ints a.u)]]:=by rw [e]
 refine call_of_vc (x:=jr93) (by kernel_rfl) rfl ?_
 refine an ?_ ?_
 refine an ?_ ?_
 (show (0:Int)≤(↑(List.length (ints (Ac.u a))):Int); omega)
 refine an ?_ ?_
 (show (↑(List.length (ints (Ac.u a))):Int) * (↑(8:Nat):Int)≤(2:Int) ^ (47:Nat); omega)
 (show (↑(List.length (ints (Ac.u a))):Int)≤(2:Int) ^ (47:Nat); omega)
 refine ca (And.intro rfl (And.intro rfl (And.intro ?_ rfl))) ?_
 focus (show List.length (List.replicate (List.length (ints (Ac.u a))) (Data.int IntKind.i64 (0:Int)))=List.length (ints (Ac.u a)); simp only [List.length_replicate,List.length_set,List.length_append,List.length_take,List.length_drop]; done)
 refine an ?_ ?_
 (show List.length (List.take (List.length (ints (Ac.u a))) (ints (Ac.u a))++List.drop (List.length (ints (Ac.u a))) (List.replicate (List.length (ints (Ac.u a))) (Data.int IntKind.i64 (0:Int))))=List.length (ints (Ac.u a)); simp only [List.length_replicate,List.length_set,List.length_append,List.length_take,List.length_drop]; omega)
 refine an ?_ ?_
 (show List.length (List.take (List.length (ints (Ac.u a))) (ints (Ac.u a))++List.drop (List.length (ints (Ac.u a))) (List.replicate (List.length (ints (Ac.u a))) (Data.int IntKind.i64 (0:Int))))=List.length (ints (Ac.u a)); simp only [List.length_replicate,List.length_set,List.length_append,List.length_take,List.length_drop]; omega)
 assumption
theorem c17 (a:Ac) (c:Bool) (hl:a.u.length≤1048576):CallDet Tryz.prog 17 [.d (.agg [.int .i64 (a.b),.int .i64 (a.d),.int .i64 a.s,.int .i64 a.e,.int .u8 a.k.a,.int .u8 a.k.b,.int .u8 a.k.c,.int .u8 a.k.d,.int .u8 a.k.e,.int .u8 a.k.f,.int .u8 a.k.g,.int .u8 a.k.h,.int .u8 a.n.a,.int .u8 a.n.b,.int .u8 a.n.c,.int .u8 a.n.d,.int .u8 a.n.e,.int .u8 a.n.f,.int .u8 a.n.g,.int .u8 a.n.h,.bool c,.slice 1 (ints a.u)])] [.agg [.int .i64 (a.b),.int .i64 (a.d),.int .i64 a.s,.int .i64 a.e,.int .u8 a.k.a,.int .u8 a.k.b,.int .u8 a.k.c,.int .u8 a.k.d,.int .u8 a.k.e,.int .u8 a.k.f,.int .u8 a.k.g,.int .u8 a.k.h,.int .u8 a.n.a,.int .u8 a.n.b,.int .u8 a.n.c,.int .u8 a.n.d,.int .u8 a.n.e,.int .u8 a.n.f,.int .u8 a.n.g,.int .u8 a.n.h,.bool c,.slice 1 (ints a.u)]]:=by
 have c94_:=c94 a c hl
 refine call_of_vc (x:=jr17) (by kernel_rfl) rfl ?_
 refine ca c94_ ?_
 exact rfl
theorem c67 (a:Ac) (c:Bool):CallDet Tryz.prog 67 [.d (.agg [.int .i64 (a.b),.int .i64 (a.d),.int .i64 a.s,.int .i64 a.e,.int .u8 a.k.a,.int .u8 a.k.b,.int .u8 a.k.c,.int .u8 a.k.d,.int .u8 a.k.e,.int .u8 a.k.f,.int .u8 a.k.g,.int .u8 a.k.h,.int .u8 a.n.a,.int .u8 a.n.b,.int .u8 a.n.c,.int .u8 a.n.d,.int .u8 a.n.e,.int .u8 a.n.f,.int .u8 a.n.g,.int .u8 a.n.h,.bool c,.slice 1 (ints a.u)])] [.agg [.int .i64 (a.b),.int .i64 (a.d),.int .i64 a.s,.int .i64 a.e,.int .u8 a.k.a,.int .u8 a.k.b,.int .u8 a.k.c,.int .u8 a.k.d,.int .u8 a.k.e,.int .u8 a.k.f,.int .u8 a.k.g,.int .u8 a.k.h,.int .u8 a.n.a,.int .u8 a.n.b,.int .u8 a.n.c,.int .u8 a.n.d,.int .u8 a.n.e,.int .u8 a.n.f,.int .u8 a.n.g,.int .u8 a.n.h,.bool c,.slice 1 (ints a.u)]]:=by
 refine call_of_vc (x:=jr67) (by kernel_rfl) rfl ?_
 exact rfl
theorem bne_t {x:Int} (h:¬ x=0):(x != 0)=true:=by simpa using h
theorem ckA_f {a:Ac} {c:Bool} (h:¬ ckF a c=0):resV [.int .i64 (ckF a c)]=resV [.int .i64 (ckA a c)]:=by rw [ckA,bne_t h]; rfl
theorem ckA_0 {a:Ac} {c:Bool} (h:ckF a c=0):ckA a c=ckU a.u 0:=by rw [ckA,h]; rfl
theorem ckU_f {A x last B:Int} (hi:A=bif ckE x last != 0 then ckE x last else B) (h:¬ ckE x last=0):resV [.int .i64 (ckE x last)]=resV [.int .i64 A]:=by rw [hi,bne_t h]; rfl
theorem ckU_0 {A x last B:Int} (hi:A=bif ckE x last != 0 then ckE x last else B) (h:ckE x last=0):A=B:=by rw [hi,h]; rfl
theorem ints_at {l:List Int} {k:Nat} {x:Int} (h:l[k]?=some x):(ints l)[((k:Int)).toNat]?=some (.int .i64 x):=ints_get h
structure Kl where
 k:Nat
 l:Int
theorem c25 (a:Ac) (c:Bool) (hl:a.u.length≤1048576):CallDet Tryz.prog 25 [.d (.agg [.int .i64 (a.b),.int .i64 (a.d),.int .i64 a.s,.int .i64 a.e,.int .u8 a.k.a,.int .u8 a.k.b,.int .u8 a.k.c,.int .u8 a.k.d,.int .u8 a.k.e,.int .u8 a.k.f,.int .u8 a.k.g,.int .u8 a.k.h,.int .u8 a.n.a,.int .u8 a.n.b,.int .u8 a.n.c,.int .u8 a.n.d,.int .u8 a.n.e,.int .u8 a.n.f,.int .u8 a.n.g,.int .u8 a.n.h,.bool c,.slice 1 (ints a.u)])] [.int .i64 (ckA a c)]:=by
 have hlen:(ints a.u).length=a.u.length:=List.length_map _
 have w1:=c91 a.b (-1000000000000) 1000000000000
 have w2:=c91 a.d 0 1000000000000
 have w3:=c91 a.s 0 100
 have w4:=c91 a.e 0 100000000
 have c90_:=c90 [within3 a.b (-1000000000000) 1000000000000,within3 a.d 0 1000000000000,within3 a.s 0 100,within3 a.e 0 100000000,bif (bif c then false else !(kz a.n)) then 1 else 0,bif decide ((256:Int) < (((ints a.u).length:Nat):Int)) then 5 else 0] (by simp)
 cases c
 ·refine call_of_vc (x:=jr25) (by kernel_rfl) rfl ?_
  refine ca (c91 _ _ _) ?_
  refine ca (c91 _ _ _) ?_
  refine ca (c91 _ _ _) ?_
  refine ca (c91 _ _ _) ?_
  refine ca (Exists.intro _ (And.intro rfl rfl)) ?_
  refine ca (c92 _ _) ?_
  refine sd ?_
  refine ca (c92 _ _) ?_
  refine sd ?_
  refine sd ?_
  refine ca c90_ ?_
  refine sd ?_
  refine b_ne (fun t1=>?_) (fun t1=>?_)
  replace t1:¬firstOf [within3 (Ac.b a) (-1000000000000:Int) (1000000000000:Int),within3 (Ac.d a) (0:Int) (1000000000000:Int),within3 (Ac.s a) (0:Int) (100:Int),within3 (Ac.e a) (0:Int) (100000000:Int),bif !kz (Ac.n a) then (1:Int) else (0:Int),bif decide ((256:Int) < (↑(List.length (ints (Ac.u a))):Int)) then (5:Int) else (0:Int)]=(0:Int):=t1
  rotate_left
  replace t1:firstOf [within3 (Ac.b a) (-1000000000000:Int) (1000000000000:Int),within3 (Ac.d a) (0:Int) (1000000000000:Int),within3 (Ac.s a) (0:Int) (100:Int),within3 (Ac.e a) (0:Int) (100000000:Int),bif !kz (Ac.n a) then (1:Int) else (0:Int),bif decide ((256:Int) < (↑(List.length (ints (Ac.u a))):Int)) then (5:Int) else (0:Int)]=(0:Int):=t1
  rotate_left
  exact ckA_f (a:=a) (c:=false) t1
  have h0:=ckA_0 (a:=a) (c:=false) t1
  refine loop_st (fun p:Kl=>⟨[(4,.d (.int .i64 (p.l))),(41,.d (.slice 1 (ints a.u))),(42,.d (.int .i64 (((ints a.u).length:Nat):Int))),(43,.d (.int .i64 ((p.k:Nat))))],[.none,.none,.none]⟩) (fun p=>p.k≤a.u.length∧ckA a false=ckU (a.u.drop p.k) p.l) (fun p=>a.u.length - p.k) ⟨0,0⟩ rfl ⟨Nat.zero_le _,h0⟩ ?_
  rintro ⟨k,last⟩ ⟨hk,hi⟩
  have hk:k≤a.u.length:=hk
  have hi:ckA a false=ckU (a.u.drop k) last:=hi
  dsimp only
  clear t1 h0 c90_ w1 w2 w3 w4
  by_cases hkn:k < a.u.length
  ·refine Exists.elim (get_lt a.u hkn) fun x hx=>?_
   have hx1:=ints_at hx
   rw [drop_at hx,ckU] at hi
   have c91_:=c91 x 1 999999999
   have c90_:=c90 [within3 x 1 999999999,bif decide (x≤last) then 11 else 0] (by simp)
   have fin:ckE x last=0→∃ a':Kl,((a'.k≤a.u.length∧ckA a false=ckU (a.u.drop a'.k) a'.l)∧a.u.length - a'.k < a.u.length - k)∧(⟨[(4,.d (.int .i64 (x))),(41,.d (.slice 1 (ints a.u))),(42,.d (.int .i64 (((ints a.u).length:Nat):Int))),(43,.d (.int .i64 ((k:Int)+1)))],[.none,.none,.none]⟩:St)=⟨[(4,.d (.int .i64 (a'.l))),(41,.d (.slice 1 (ints a.u))),(42,.d (.int .i64 (((ints a.u).length:Nat):Int))),(43,.d (.int .i64 ((a'.k:Nat))))],[.none,.none,.none]⟩:=fun h=>⟨⟨k+1,x⟩,⟨⟨by show k+1≤_; omega,ckU_0 hi h⟩,by show a.u.length - (k+1) < _; omega⟩,rfl⟩
   refine sd ?_
   refine b_lt (fun t1=>?_) (fun t1=>?_)
   refine ix_at hx1 ?_ ?_
   (show (0:Int)≤(↑k:Int); omega)
   refine ca c91_ ?_
   refine sd ?_
   refine ca (c92 _ _) ?_
   refine sd ?_
   refine sd ?_
   refine ca c90_ ?_
   refine sd ?_
   refine b_ne (fun t2=>?_) (fun t2=>?_)
   rotate_left
   refine ar_add ?_ ?_
   refine an ?_ ?_
   (show (-9223372036854775808:Int)≤(↑k:Int)+(1:Int); omega)
   (show (↑k:Int)+(1:Int)≤(9223372036854775807:Int); omega)
   rotate_left
   (exfalso; omega)
   exact ckU_f hi t2
   exact fin t2
  ·have e:k=a.u.length:=by omega
   subst e
   rw [List.drop_eq_nil_of_le (Nat.le_refl _)] at hi
   have hi:ckA a false=0:=hi
   rw [hi]
   refine sd ?_
   refine b_lt (fun t1=>?_) (fun t1=>?_)
   (exfalso; omega)
   exact rfl
 ·refine call_of_vc (x:=jr25) (by kernel_rfl) rfl ?_
  refine ca (c91 _ _ _) ?_
  refine ca (c91 _ _ _) ?_
  refine ca (c91 _ _ _) ?_
  refine ca (c91 _ _ _) ?_
  refine sd ?_
  refine ca (c92 _ _) ?_
  refine sd ?_
  refine ca (c92 _ _) ?_
  refine sd ?_
  refine sd ?_
  refine ca c90_ ?_
  refine sd ?_
  refine b_ne (fun t1=>?_) (fun t1=>?_)
  replace t1:¬firstOf [within3 (Ac.b a) (-1000000000000:Int) (1000000000000:Int),within3 (Ac.d a) (0:Int) (1000000000000:Int),within3 (Ac.s a) (0:Int) (100:Int),within3 (Ac.e a) (0:Int) (100000000:Int),(0:Int),bif decide ((256:Int) < (↑(List.length (ints (Ac.u a))):Int)) then (5:Int) else (0:Int)]=(0:Int):=t1
  rotate_left
  replace t1:firstOf [within3 (Ac.b a) (-1000000000000:Int) (1000000000000:Int),within3 (Ac.d a) (0:Int) (1000000000000:Int),within3 (Ac.s a) (0:Int) (100:Int),within3 (Ac.e a) (0:Int) (100000000:Int),(0:Int),bif decide ((256:Int) < (↑(List.length (ints (Ac.u a))):Int)) then (5:Int) else (0:Int)]=(0:Int):=t1
  rotate_left
  exact ckA_f (a:=a) (c:=true) t1
  have h0:=ckA_0 (a:=a) (c:=true) t1
  refine loop_st (fun p:Kl=>⟨[(4,.d (.int .i64 (p.l))),(41,.d (.slice 1 (ints a.u))),(42,.d (.int .i64 (((ints a.u).length:Nat):Int))),(43,.d (.int .i64 ((p.k:Nat))))],[.none,.none,.none]⟩) (fun p=>p.k≤a.u.length∧ckA a true=ckU (a.u.drop p.k) p.l) (fun p=>a.u.length - p.k) ⟨0,0⟩ rfl ⟨Nat.zero_le _,h0⟩ ?_
  rintro ⟨k,last⟩ ⟨hk,hi⟩
  have hk:k≤a.u.length:=hk
  have hi:ckA a true=ckU (a.u.drop k) last:=hi
  dsimp only
  clear t1 h0 c90_ w1 w2 w3 w4
  by_cases hkn:k < a.u.length
  ·refine Exists.elim (get_lt a.u hkn) fun x hx=>?_
   have hx1:=ints_at hx
   rw [drop_at hx,ckU] at hi
   have c91_:=c91 x 1 999999999
   have c90_:=c90 [within3 x 1 999999999,bif decide (x≤last) then 11 else 0] (by simp)
   have fin:ckE x last=0→∃ a':Kl,((a'.k≤a.u.length∧ckA a true=ckU (a.u.drop a'.k) a'.l)∧a.u.length - a'.k < a.u.length - k)∧(⟨[(4,.d (.int .i64 (x))),(41,.d (.slice 1 (ints a.u))),(42,.d (.int .i64 (((ints a.u).length:Nat):Int))),(43,.d (.int .i64 ((k:Int)+1)))],[.none,.none,.none]⟩:St)=⟨[(4,.d (.int .i64 (a'.l))),(41,.d (.slice 1 (ints a.u))),(42,.d (.int .i64 (((ints a.u).length:Nat):Int))),(43,.d (.int .i64 ((a'.k:Nat))))],[.none,.none,.none]⟩:=fun h=>⟨⟨k+1,x⟩,⟨⟨by show k+1≤_; omega,ckU_0 hi h⟩,by show a.u.length - (k+1) < _; omega⟩,rfl⟩
   refine sd ?_
   refine b_lt (fun t1=>?_) (fun t1=>?_)
   refine ix_at hx1 ?_ ?_
   (show (0:Int)≤(↑k:Int); omega)
   refine ca c91_ ?_
   refine sd ?_
   refine ca (c92 _ _) ?_
   refine sd ?_
   refine sd ?_
   refine ca c90_ ?_
   refine sd ?_
   refine b_ne (fun t2=>?_) (fun t2=>?_)
   rotate_left
   refine ar_add ?_ ?_
   refine an ?_ ?_
   (show (-9223372036854775808:Int)≤(↑k:Int)+(1:Int); omega)
   (show (↑k:Int)+(1:Int)≤(9223372036854775807:Int); omega)
   rotate_left
   (exfalso; omega)
   exact ckU_f hi t2
   exact fin t2
  ·have e:k=a.u.length:=by omega
   subst e
   rw [List.drop_eq_nil_of_le (Nat.le_refl _)] at hi
   have hi:ckA a true=0:=hi
   rw [hi]
   refine sd ?_
   refine b_lt (fun t1=>?_) (fun t1=>?_)
   (exfalso; omega)
   exact rfl
end Vc
