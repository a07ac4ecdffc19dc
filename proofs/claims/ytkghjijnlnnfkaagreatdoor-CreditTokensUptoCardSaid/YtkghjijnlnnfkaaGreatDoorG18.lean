import Derived.Test.YtkghjijnlnnfkaaGreatDoorG17
set_option linter.unusedSectionVars false
set_option linter.unusedVariables false
set_option linter.unusedSimpArgs false
set_option maxRecDepth 10000
set_option maxHeartbeats 4000000
namespace Vc
open Go Go.Proofs
@[irreducible] def seg33:ACode:=(.loop
 (.post [2,3,4,8,9,10] [5,6,7,8]
 (.seq
 (.seq
 (.reg [] [⟨some 70,.mov (.tmp 10),none⟩,
 ⟨some 71,.fad 21 (.tmp 2),none⟩,
 ⟨some 72,.ld false 1 (.tmp 71),none⟩,
 ⟨some 73,.len (.tmp 72),none⟩,
 ⟨some 74,.cmp .lss (.tmp 70) (.tmp 73),none⟩])
 (.cond (.tmp 74)
 .skip
 (.exit 0)))
 (.seq
 (.block 1
 (.seq
 (.seq
 (.regd [] [⟨some 77,.mov (.tmp 9),none⟩,
 ⟨some 78,.not (.tmp 77),none⟩,
 ⟨some 79,.mov (.tmp 78),none⟩,
 ⟨some 80,.fad 21 (.tmp 2),some (79,true)⟩,
 ⟨some 81,.ld false 1 (.tmp 80),some (79,true)⟩,
 ⟨some 82,.mov (.tmp 10),some (79,true)⟩,
 ⟨some 83,.ixa 1 (.tmp 81) (.tmp 82),some (79,true)⟩,
 ⟨some 84,.ld false 1 (.tmp 83),some (79,true)⟩,
 ⟨some 85,.fad 0 (.tmp 3),some (79,true)⟩,
 ⟨some 86,.ld false 1 (.tmp 85),some (79,true)⟩,
 ⟨some 87,.cmp .gtr (.tmp 84) (.tmp 86),some (79,true)⟩,
 ⟨some 88,.pick (.tmp 79) (.tmp 87) (.cst (.d (.bool false))),none⟩] [(3,5),(4,5),(3,8),(4,8),(5,8),(6,8),(7,8),(3,9),(4,9),(5,9),(6,9),(7,9)])
 (.cond (.tmp 88)
 (.seq
 (.reg [5,6] [⟨some 89,.fad 21 (.tmp 8),none⟩,
 ⟨some 90,.ld false 1 (.tmp 89),none⟩,
 ⟨some 91,.fad 0 (.tmp 3),none⟩,
 ⟨some 92,.ld false 1 (.tmp 91),none⟩,
 ⟨some 93,.bsl 5 3 1 1 [(.int .i64 0)] [(0,(.tmp 92))],none⟩,
 ⟨some 94,.app 6 3 1 8 (.tmp 90) (.tmp 93),none⟩,
 ⟨some 95,.fad 21 (.tmp 8),none⟩,
 ⟨none,.st 1 (.tmp 95) (.tmp 94),none⟩])
 (.reg [] [⟨some 9,.mov (.cst (.d (.bool true))),none⟩]))
 .skip))
 (.regd [7,8] [⟨some 96,.fad 21 (.tmp 8),none⟩,
 ⟨some 97,.ld false 1 (.tmp 96),none⟩,
 ⟨some 98,.fad 21 (.tmp 2),none⟩,
 ⟨some 99,.ld false 1 (.tmp 98),none⟩,
 ⟨some 100,.mov (.tmp 10),none⟩,
 ⟨some 101,.ixa 1 (.tmp 99) (.tmp 100),none⟩,
 ⟨some 102,.ld false 1 (.tmp 101),none⟩,
 ⟨some 103,.bsl 7 3 1 1 [(.int .i64 0)] [(0,(.tmp 102))],none⟩,
 ⟨some 104,.app 8 3 1 8 (.tmp 97) (.tmp 103),none⟩,
 ⟨some 105,.fad 21 (.tmp 8),none⟩,
 ⟨none,.st 1 (.tmp 105) (.tmp 104),none⟩] [(0,2),(1,2),(0,3),(1,3),(0,4),(1,4),(2,4),(3,4),(0,5),(1,5),(0,6),(1,6),(0,7),(1,7)])))
 (.reg [] [⟨some 75,.mov (.tmp 10),none⟩,
 ⟨some 76,.arith .add .i64 (.tmp 75) (.cst (.d (.int .i64 1))),none⟩,
 ⟨some 10,.mov (.tmp 76),none⟩])))))
def jr33:AFun:=⟨116,11,[.cell 4 22 true,.tmp 5],
 (.seq
 (.reg [0,1,2] [⟨some 2,.cbx 0 22 (.tmp 0),none⟩,
  ⟨some 3,.cbx 1 10 (.tmp 1),none⟩,
  ⟨some 4,.alloc 2 [(.d (.int .i64 0)),(.d (.int .i64 0)),(.d (.int .i64 0)),(.d (.int .i64 0)),(.d (.int .u8 0)),(.d (.int .u8 0)),(.d (.int .u8 0)),(.d (.int .u8 0)),(.d (.int .u8 0)),(.d (.int .u8 0)),(.d (.int .u8 0)),(.d (.int .u8 0)),(.d (.int .u8 0)),(.d (.int .u8 0)),(.d (.int .u8 0)),(.d (.int .u8 0)),(.d (.int .u8 0)),(.d (.int .u8 0)),(.d (.int .u8 0)),(.d (.int .u8 0)),(.d (.bool false)),(.nils 1)],none⟩,
  ⟨some 5,.mov (.cst (.d (.int .i64 0))),none⟩])
 (.seq
  (.reg [] [⟨some 11,.fad 1 (.tmp 3),none⟩,
   ⟨some 12,.ld false 1 (.tmp 11),none⟩,
   ⟨some 13,.fad 2 (.tmp 2),none⟩,
   ⟨some 14,.ld false 1 (.tmp 13),none⟩,
   ⟨some 15,.arith .mul .i64 (.tmp 12) (.tmp 14),none⟩,
   ⟨some 16,.arith .quo .i64 (.tmp 15) (.cst (.d (.int .i64 100))),none⟩,
   ⟨some 6,.mov (.tmp 16),none⟩])
  (.seq
  (.seq
   (.reg [] [⟨some 17,.mov (.tmp 6),none⟩,
    ⟨some 18,.fad 1 (.tmp 2),none⟩,
    ⟨some 19,.ld false 1 (.tmp 18),none⟩,
    ⟨some 20,.cmp .gtr (.tmp 17) (.tmp 19),none⟩])
   (.cond (.tmp 20)
   (.reg [] [⟨some 21,.fad 1 (.tmp 2),none⟩,
    ⟨some 22,.ld false 1 (.tmp 21),none⟩,
    ⟨some 6,.mov (.tmp 22),none⟩])
   .skip))
  (.seq
   (.seq
   (.regd [3] [⟨some 23,.ld true 22 (.tmp 2),none⟩,
    ⟨some 24,.ld true 10 (.tmp 3),none⟩,
    ⟨some 25,.call 105 [(.tmp 23),(.tmp 24)],none⟩,
    ⟨some 26,.not (.tmp 25),none⟩,
    ⟨some 27,.call 97 [(.tmp 26),(.cst (.d (.int .i64 27)))],none⟩,
    ⟨some 28,.fad 21 (.tmp 2),none⟩,
    ⟨some 29,.ld false 1 (.tmp 28),none⟩,
    ⟨some 30,.fad 0 (.tmp 3),none⟩,
    ⟨some 31,.ld false 1 (.tmp 30),none⟩,
    ⟨some 32,.call 66 [(.tmp 29),(.tmp 31)],none⟩,
    ⟨some 33,.call 97 [(.tmp 32),(.cst (.d (.int .i64 9)))],none⟩,
    ⟨some 34,.fad 21 (.tmp 2),none⟩,
    ⟨some 35,.ld false 1 (.tmp 34),none⟩,
    ⟨some 36,.len (.tmp 35),none⟩,
    ⟨some 37,.cmp .geq (.tmp 36) (.cst (.d (.int .i64 256))),none⟩,
    ⟨some 38,.call 97 [(.tmp 37),(.cst (.d (.int .i64 5)))],none⟩,
    ⟨some 39,.fad 0 (.tmp 2),none⟩,
    ⟨some 40,.ld false 1 (.tmp 39),none⟩,
    ⟨some 41,.fad 1 (.tmp 3),none⟩,
    ⟨some 42,.ld false 1 (.tmp 41),none⟩,
    ⟨some 43,.mov (.tmp 6),none⟩,
    ⟨some 44,.arith .sub .i64 (.tmp 42) (.tmp 43),none⟩,
    ⟨some 45,.arith .sub .i64 (.cst (.d (.int .i64 1000000000000))) (.tmp 44),none⟩,
    ⟨some 46,.cmp .gtr (.tmp 40) (.tmp 45),none⟩,
    ⟨some 47,.call 97 [(.tmp 46),(.cst (.d (.int .i64 4)))],none⟩,
    ⟨some 48,.bsl 3 3 1 4 [(.int .i64 0),(.int .i64 0),(.int .i64 0),(.int .i64 0)] [(0,(.tmp 27)),(1,(.tmp 33)),(2,(.tmp 38)),(3,(.tmp 47))],none⟩,
    ⟨some 49,.call 96 [(.tmp 48)],none⟩,
    ⟨some 7,.mov (.tmp 49),none⟩] [(0,1),(0,5),(1,5),(2,5),(3,5),(4,5),(0,6),(1,6),(2,6),(3,6),(4,6),(0,7),(1,7),(2,7),(3,7),(4,7),(5,7),(6,7),(0,8),(1,8),(2,8),(3,8),(4,8),(5,8),(6,8),(0,11),(1,11),(2,11),(3,11),(4,11),(5,11),(6,11),(7,11),(8,11),(9,11),(10,11),(0,12),(1,12),(2,12),(3,12),(4,12),(5,12),(6,12),(7,12),(8,12),(9,12),(10,12),(0,13),(1,13),(2,13),(3,13),(4,13),(5,13),(6,13),(7,13),(8,13),(9,13),(10,13),(0,14),(1,14),(2,14),(3,14),(4,14),(5,14),(6,14),(7,14),(8,14),(9,14),(10,14),(0,16),(1,16),(2,16),(3,16),(4,16),(5,16),(6,16),(7,16),(8,16),(9,16),(10,16),(11,16),(12,16),(13,16),(14,16),(15,16),(0,17),(1,17),(2,17),(3,17),(4,17),(5,17),(6,17),(7,17),(8,17),(9,17),(10,17),(11,17),(12,17),(13,17),(14,17),(15,17),(0,18),(1,18),(2,18),(3,18),(4,18),(5,18),(6,18),(7,18),(8,18),(9,18),(10,18),(11,18),(12,18),(13,18),(14,18),(15,18),(16,18),(17,18),(0,19),(1,19),(2,19),(3,19),(4,19),(5,19),(6,19),(7,19),(8,19),(9,19),(10,19),(11,19),(12,19),(13,19),(14,19),(15,19),(16,19),(17,19),(0,20),(1,20),(2,20),(3,20),(4,20),(5,20),(6,20),(7,20),(8,20),(9,20),(10,20),(11,20),(12,20),(13,20),(14,20),(15,20),(16,20),(17,20),(18,20),(19,20),(0,21),(1,21),(2,21),(3,21),(4,21),(5,21),(6,21),(7,21),(8,21),(9,21),(10,21),(11,21),(12,21),(13,21),(14,21),(15,21),(16,21),(17,21),(0,22),(1,22),(2,22),(3,22),(4,22),(5,22),(6,22),(7,22),(8,22),(9,22),(10,22),(11,22),(12,22),(13,22),(14,22),(15,22),(16,22),(17,22),(0,23),(1,23),(2,23),(3,23),(4,23),(5,23),(6,23),(7,23),(8,23),(9,23),(10,23),(11,23),(12,23),(13,23),(14,23),(15,23)])
   (.seq
    (.reg [] [⟨some 50,.mov (.tmp 7),none⟩,
     ⟨some 51,.cmp .neq (.tmp 50) (.cst (.d (.int .i64 0))),none⟩])
    (.cond (.tmp 51)
    (.seq
     (.reg [] [⟨some 52,.build [(.d (.int .i64 0)),(.d (.int .i64 0)),(.d (.int .i64 0)),(.d (.int .i64 0)),(.d (.int .u8 0)),(.d (.int .u8 0)),(.d (.int .u8 0)),(.d (.int .u8 0)),(.d (.int .u8 0)),(.d (.int .u8 0)),(.d (.int .u8 0)),(.d (.int .u8 0)),(.d (.int .u8 0)),(.d (.int .u8 0)),(.d (.int .u8 0)),(.d (.int .u8 0)),(.d (.int .u8 0)),(.d (.int .u8 0)),(.d (.int .u8 0)),(.d (.int .u8 0)),(.d (.bool false)),(.nils 1)] [],none⟩,
      ⟨some 53,.mov (.tmp 7),none⟩,
      ⟨none,.st 22 (.tmp 4) (.tmp 52),none⟩,
      ⟨some 5,.mov (.tmp 53),none⟩])
     .ret)
    .skip)))
   (.seq
   (.reg [4] [⟨some 54,.ld true 22 (.tmp 2),none⟩,
    ⟨some 55,.call 94 [(.tmp 54)],none⟩,
    ⟨some 8,.alloc 4 [(.d (.int .i64 0)),(.d (.int .i64 0)),(.d (.int .i64 0)),(.d (.int .i64 0)),(.d (.int .u8 0)),(.d (.int .u8 0)),(.d (.int .u8 0)),(.d (.int .u8 0)),(.d (.int .u8 0)),(.d (.int .u8 0)),(.d (.int .u8 0)),(.d (.int .u8 0)),(.d (.int .u8 0)),(.d (.int .u8 0)),(.d (.int .u8 0)),(.d (.int .u8 0)),(.d (.int .u8 0)),(.d (.int .u8 0)),(.d (.int .u8 0)),(.d (.int .u8 0)),(.d (.bool false)),(.nils 1)],none⟩,
    ⟨none,.st 22 (.tmp 8) (.tmp 55),none⟩])
   (.seq
    (.reg [] [⟨some 56,.fad 1 (.tmp 2),none⟩,
     ⟨some 57,.ld false 1 (.tmp 56),none⟩,
     ⟨some 58,.mov (.tmp 6),none⟩,
     ⟨some 59,.arith .sub .i64 (.tmp 57) (.tmp 58),none⟩,
     ⟨some 60,.fad 1 (.tmp 8),none⟩,
     ⟨none,.st 1 (.tmp 60) (.tmp 59),none⟩])
    (.seq
    (.reg [] [⟨some 61,.fad 0 (.tmp 2),none⟩,
     ⟨some 62,.ld false 1 (.tmp 61),none⟩,
     ⟨some 63,.fad 1 (.tmp 3),none⟩,
     ⟨some 64,.ld false 1 (.tmp 63),none⟩,
     ⟨some 65,.arith .add .i64 (.tmp 62) (.tmp 64),none⟩,
     ⟨some 66,.mov (.tmp 6),none⟩,
     ⟨some 67,.arith .sub .i64 (.tmp 65) (.tmp 66),none⟩,
     ⟨some 68,.fad 0 (.tmp 8),none⟩,
     ⟨none,.st 1 (.tmp 68) (.tmp 67),none⟩])
    (.seq
     (.reg [] [⟨some 69,.fad 21 (.tmp 8),none⟩,
      ⟨none,.st 1 (.tmp 69) (.cst (.nils 1)),none⟩])
     (.seq
     (.reg [] [⟨some 9,.mov (.cst (.d (.bool false))),none⟩])
     (.seq
      (.seq
      (.reg [] [⟨some 10,.mov (.cst (.d (.int .i64 0))),none⟩])
      (.post [3,4,8,9] [0,1,2,3,4,5,6,7,8]
       (.block 0
       (.keep [2,3,4,8,9,10] [0,1,2,3,4]
        seg33))))
      (.seq
      (.seq
       (.reg [] [⟨some 106,.mov (.tmp 9),none⟩,
        ⟨some 107,.not (.tmp 106),none⟩])
       (.cond (.tmp 107)
       (.reg [9,10] [⟨some 108,.fad 21 (.tmp 8),none⟩,
        ⟨some 109,.ld false 1 (.tmp 108),none⟩,
        ⟨some 110,.fad 0 (.tmp 3),none⟩,
        ⟨some 111,.ld false 1 (.tmp 110),none⟩,
        ⟨some 112,.bsl 9 3 1 1 [(.int .i64 0)] [(0,(.tmp 111))],none⟩,
        ⟨some 113,.app 10 3 1 8 (.tmp 109) (.tmp 112),none⟩,
        ⟨some 114,.fad 21 (.tmp 8),none⟩,
        ⟨none,.st 1 (.tmp 114) (.tmp 113),none⟩])
       .skip))
      (.seq
       (.reg [] [⟨some 115,.ld true 22 (.tmp 8),none⟩,
        ⟨none,.st 22 (.tmp 4) (.tmp 115),none⟩,
        ⟨some 5,.mov (.cst (.d (.int .i64 0))),none⟩])
       .ret))))))))))))⟩
def cel33 (r:Nat) (k:Nat) (R:List Int):AVal:=match k with | 0=>.nils 1 | _+1=>.sl r (ints R).length
def row33 (k:Nat) (R:List Int):AObj:=match k with | 0=>.none | _+1=>.row 3 1 (ints R) false
def bb33 (k:Nat) (b:Bool):Bool:=match k with | 0=>false | _+1=>b
structure P33 where
 k:Nat
 R:List Int
 b:Bool
theorem v33a {a:Ac} {c:Bool} {n m B D:Int} {q:Ky} {Q:AExit→St→Prop} (hl:a.u.length≤1000000) (h0:0 < a.u.length) (hN:∀ x,a.u[0]?=some x→n < x) (hQ:∀ y:Bool,Q (.exit 0) ⟨[(2,.ptr 0 0),(3,.ptr 1 0),(4,.ptr 2 0),(8,.ptr 4 0),(9,.d (.bool true)),(10,.d (.int .i64 (((a.u.length:Nat):Int)))),(70,.d (.int .i64 ((a.u.length:Nat):Int))),(71,.ptr 0 21),(72,.d (.slice 1 (ints a.u))),(73,.d (.int .i64 (((ints a.u).length:Nat):Int))),(74,.d (.bool y))],[.cbox [.int .i64 (a.b),.int .i64 (a.d),.int .i64 a.s,.int .i64 a.e,.int .u8 a.k.a,.int .u8 a.k.b,.int .u8 a.k.c,.int .u8 a.k.d,.int .u8 a.k.e,.int .u8 a.k.f,.int .u8 a.k.g,.int .u8 a.k.h,.int .u8 a.n.a,.int .u8 a.n.b,.int .u8 a.n.c,.int .u8 a.n.d,.int .u8 a.n.e,.int .u8 a.n.f,.int .u8 a.n.g,.int .u8 a.n.h,.bool c,.slice 1 (ints a.u)],.cbox [.int .i64 n,.int .i64 m,.int .u8 q.a,.int .u8 q.b,.int .u8 q.c,.int .u8 q.d,.int .u8 q.e,.int .u8 q.f,.int .u8 q.g,.int .u8 q.h],.box [.d (.int .i64 0),.d (.int .i64 0),.d (.int .i64 0),.d (.int .i64 0),.d (.int .u8 0),.d (.int .u8 0),.d (.int .u8 0),.d (.int .u8 0),.d (.int .u8 0),.d (.int .u8 0),.d (.int .u8 0),.d (.int .u8 0),.d (.int .u8 0),.d (.int .u8 0),.d (.int .u8 0),.d (.int .u8 0),.d (.int .u8 0),.d (.int .u8 0),.d (.int .u8 0),.d (.int .u8 0),.d (.bool false),.nils 1],.none,.box [.d (.int .i64 B),.d (.int .i64 D),.d (.int .i64 a.s),.d (.int .i64 a.e),.d (.int .u8 a.k.a),.d (.int .u8 a.k.b),.d (.int .u8 a.k.c),.d (.int .u8 a.k.d),.d (.int .u8 a.k.e),.d (.int .u8 a.k.f),.d (.int .u8 a.k.g),.d (.int .u8 a.k.h),.d (.int .u8 a.n.a),.d (.int .u8 a.n.b),.d (.int .u8 a.n.c),.d (.int .u8 a.n.d),.d (.int .u8 a.n.e),.d (.int .u8 a.n.f),.d (.int .u8 a.n.g),.d (.int .u8 a.n.h),.d (.bool c),.sl 6 (ints (n::a.u)).length],.none,.row 3 1 (ints (n::a.u)) false,.none,.none,.none,.none]⟩):vc Tryz.prog 116 seg33 ⟨[(2,.ptr 0 0),(3,.ptr 1 0),(4,.ptr 2 0),(8,.ptr 4 0),(9,.d (.bool false)),(10,.d (.int .i64 (0)))],[.cbox [.int .i64 (a.b),.int .i64 (a.d),.int .i64 a.s,.int .i64 a.e,.int .u8 a.k.a,.int .u8 a.k.b,.int .u8 a.k.c,.int .u8 a.k.d,.int .u8 a.k.e,.int .u8 a.k.f,.int .u8 a.k.g,.int .u8 a.k.h,.int .u8 a.n.a,.int .u8 a.n.b,.int .u8 a.n.c,.int .u8 a.n.d,.int .u8 a.n.e,.int .u8 a.n.f,.int .u8 a.n.g,.int .u8 a.n.h,.bool c,.slice 1 (ints a.u)],.cbox [.int .i64 n,.int .i64 m,.int .u8 q.a,.int .u8 q.b,.int .u8 q.c,.int .u8 q.d,.int .u8 q.e,.int .u8 q.f,.int .u8 q.g,.int .u8 q.h],.box [.d (.int .i64 0),.d (.int .i64 0),.d (.int .i64 0),.d (.int .i64 0),.d (.int .u8 0),.d (.int .u8 0),.d (.int .u8 0),.d (.int .u8 0),.d (.int .u8 0),.d (.int .u8 0),.d (.int .u8 0),.d (.int .u8 0),.d (.int .u8 0),.d (.int .u8 0),.d (.int .u8 0),.d (.int .u8 0),.d (.int .u8 0),.d (.int .u8 0),.d (.int .u8 0),.d (.int .u8 0),.d (.bool false),.nils 1],.none,.box [.d (.int .i64 B),.d (.int .i64 D),.d (.int .i64 a.s),.d (.int .i64 a.e),.d (.int .u8 a.k.a),.d (.int .u8 a.k.b),.d (.int .u8 a.k.c),.d (.int .u8 a.k.d),.d (.int .u8 a.k.e),.d (.int .u8 a.k.f),.d (.int .u8 a.k.g),.d (.int .u8 a.k.h),.d (.int .u8 a.n.a),.d (.int .u8 a.n.b),.d (.int .u8 a.n.c),.d (.int .u8 a.n.d),.d (.int .u8 a.n.e),.d (.int .u8 a.n.f),.d (.int .u8 a.n.g),.d (.int .u8 a.n.h),.d (.bool c),.nils 1],.none,.none,.none,.none,.none,.none]⟩ Q:=by
 have hlen:(ints a.u).length=a.u.length:=List.length_map _
 have hia:∀ (A:List Int) (z:Int),ints (A++[z])=ints A++[Data.int .i64 z]:=fun A z=>List.map_append
 unfold seg33
 refine loop_st (fun k:Nat=>⟨[(2,.ptr 0 0),(3,.ptr 1 0),(4,.ptr 2 0),(8,.ptr 4 0),(9,.d (.bool (bb33 k true))),(10,.d (.int .i64 ((k:Nat))))],[.cbox [.int .i64 (a.b),.int .i64 (a.d),.int .i64 a.s,.int .i64 a.e,.int .u8 a.k.a,.int .u8 a.k.b,.int .u8 a.k.c,.int .u8 a.k.d,.int .u8 a.k.e,.int .u8 a.k.f,.int .u8 a.k.g,.int .u8 a.k.h,.int .u8 a.n.a,.int .u8 a.n.b,.int .u8 a.n.c,.int .u8 a.n.d,.int .u8 a.n.e,.int .u8 a.n.f,.int .u8 a.n.g,.int .u8 a.n.h,.bool c,.slice 1 (ints a.u)],.cbox [.int .i64 n,.int .i64 m,.int .u8 q.a,.int .u8 q.b,.int .u8 q.c,.int .u8 q.d,.int .u8 q.e,.int .u8 q.f,.int .u8 q.g,.int .u8 q.h],.box [.d (.int .i64 0),.d (.int .i64 0),.d (.int .i64 0),.d (.int .i64 0),.d (.int .u8 0),.d (.int .u8 0),.d (.int .u8 0),.d (.int .u8 0),.d (.int .u8 0),.d (.int .u8 0),.d (.int .u8 0),.d (.int .u8 0),.d (.int .u8 0),.d (.int .u8 0),.d (.int .u8 0),.d (.int .u8 0),.d (.int .u8 0),.d (.int .u8 0),.d (.int .u8 0),.d (.int .u8 0),.d (.bool false),.nils 1],.none,.box [.d (.int .i64 B),.d (.int .i64 D),.d (.int .i64 a.s),.d (.int .i64 a.e),.d (.int .u8 a.k.a),.d (.int .u8 a.k.b),.d (.int .u8 a.k.c),.d (.int .u8 a.k.d),.d (.int .u8 a.k.e),.d (.int .u8 a.k.f),.d (.int .u8 a.k.g),.d (.int .u8 a.k.h),.d (.int .u8 a.n.a),.d (.int .u8 a.n.b),.d (.int .u8 a.n.c),.d (.int .u8 a.n.d),.d (.int .u8 a.n.e),.d (.int .u8 a.n.f),.d (.int .u8 a.n.g),.d (.int .u8 a.n.h),.d (.bool c),cel33 6 k (n::a.u.take k)],.none,row33 k (n::a.u.take k),.none,.none,.none,.none]⟩) (fun k=>k≤a.u.length) (fun k=>a.u.length - k) 0 rfl (Nat.zero_le _) ?_
 intro k hk
 have hk:k≤a.u.length:=hk
 by_cases hkn:k < a.u.length
 ·refine Exists.elim (get_lt a.u hkn) fun x hx=>?_
  have hx1:=ints_at hx
  have hst:ints (n::a.u.take (k+1))=ints (n::a.u.take k)++[Data.int .i64 x]:=by rw [take_one hx,← List.cons_append,hia]
  have hil:(ints (n::a.u.take k)).length=min k a.u.length+1:=by unfold ints; rw [List.length_map,List.length_cons,List.length_take]
  match k,hk,hkn,hx,hx1,hst,hil with
  | 0,_,_,hx,hx1,_,_ =>
   have hnx:=hN x hx
   have fin:∃ a':Nat,(a'≤a.u.length∧a.u.length - a' < a.u.length - 0)∧(⟨[(2,.ptr 0 0),(3,.ptr 1 0),(4,.ptr 2 0),(8,.ptr 4 0),(9,.d (.bool true)),(10,.d (.int .i64 (((0:Nat):Int)+1)))],[.cbox [.int .i64 (a.b),.int .i64 (a.d),.int .i64 a.s,.int .i64 a.e,.int .u8 a.k.a,.int .u8 a.k.b,.int .u8 a.k.c,.int .u8 a.k.d,.int .u8 a.k.e,.int .u8 a.k.f,.int .u8 a.k.g,.int .u8 a.k.h,.int .u8 a.n.a,.int .u8 a.n.b,.int .u8 a.n.c,.int .u8 a.n.d,.int .u8 a.n.e,.int .u8 a.n.f,.int .u8 a.n.g,.int .u8 a.n.h,.bool c,.slice 1 (ints a.u)],.cbox [.int .i64 n,.int .i64 m,.int .u8 q.a,.int .u8 q.b,.int .u8 q.c,.int .u8 q.d,.int .u8 q.e,.int .u8 q.f,.int .u8 q.g,.int .u8 q.h],.box [.d (.int .i64 0),.d (.int .i64 0),.d (.int .i64 0),.d (.int .i64 0),.d (.int .u8 0),.d (.int .u8 0),.d (.int .u8 0),.d (.int .u8 0),.d (.int .u8 0),.d (.int .u8 0),.d (.int .u8 0),.d (.int .u8 0),.d (.int .u8 0),.d (.int .u8 0),.d (.int .u8 0),.d (.int .u8 0),.d (.int .u8 0),.d (.int .u8 0),.d (.int .u8 0),.d (.int .u8 0),.d (.bool false),.nils 1],.none,.box [.d (.int .i64 B),.d (.int .i64 D),.d (.int .i64 a.s),.d (.int .i64 a.e),.d (.int .u8 a.k.a),.d (.int .u8 a.k.b),.d (.int .u8 a.k.c),.d (.int .u8 a.k.d),.d (.int .u8 a.k.e),.d (.int .u8 a.k.f),.d (.int .u8 a.k.g),.d (.int .u8 a.k.h),.d (.int .u8 a.n.a),.d (.int .u8 a.n.b),.d (.int .u8 a.n.c),.d (.int .u8 a.n.d),.d (.int .u8 a.n.e),.d (.int .u8 a.n.f),.d (.int .u8 a.n.g),.d (.int .u8 a.n.h),.d (.bool c),.sl 6 ([Data.int .i64 n]++[Data.int .i64 x]).length],.none,.row 3 1 ([Data.int .i64 n]++[Data.int .i64 x]) false,.none,.none,.none,.none]⟩:St)=⟨[(2,.ptr 0 0),(3,.ptr 1 0),(4,.ptr 2 0),(8,.ptr 4 0),(9,.d (.bool (bb33 a' true))),(10,.d (.int .i64 ((a':Nat))))],[.cbox [.int .i64 (a.b),.int .i64 (a.d),.int .i64 a.s,.int .i64 a.e,.int .u8 a.k.a,.int .u8 a.k.b,.int .u8 a.k.c,.int .u8 a.k.d,.int .u8 a.k.e,.int .u8 a.k.f,.int .u8 a.k.g,.int .u8 a.k.h,.int .u8 a.n.a,.int .u8 a.n.b,.int .u8 a.n.c,.int .u8 a.n.d,.int .u8 a.n.e,.int .u8 a.n.f,.int .u8 a.n.g,.int .u8 a.n.h,.bool c,.slice 1 (ints a.u)],.cbox [.int .i64 n,.int .i64 m,.int .u8 q.a,.int .u8 q.b,.int .u8 q.c,.int .u8 q.d,.int .u8 q.e,.int .u8 q.f,.int .u8 q.g,.int .u8 q.h],.box [.d (.int .i64 0),.d (.int .i64 0),.d (.int .i64 0),.d (.int .i64 0),.d (.int .u8 0),.d (.int .u8 0),.d (.int .u8 0),.d (.int .u8 0),.d (.int .u8 0),.d (.int .u8 0),.d (.int .u8 0),.d (.int .u8 0),.d (.int .u8 0),.d (.int .u8 0),.d (.int .u8 0),.d (.int .u8 0),.d (.int .u8 0),.d (.int .u8 0),.d (.int .u8 0),.d (.int .u8 0),.d (.bool false),.nils 1],.none,.box [.d (.int .i64 B),.d (.int .i64 D),.d (.int .i64 a.s),.d (.int .i64 a.e),.d (.int .u8 a.k.a),.d (.int .u8 a.k.b),.d (.int .u8 a.k.c),.d (.int .u8 a.k.d),.d (.int .u8 a.k.e),.d (.int .u8 a.k.f),.d (.int .u8 a.k.g),.d (.int .u8 a.k.h),.d (.int .u8 a.n.a),.d (.int .u8 a.n.b),.d (.int .u8 a.n.c),.d (.int .u8 a.n.d),.d (.int .u8 a.n.e),.d (.int .u8 a.n.f),.d (.int .u8 a.n.g),.d (.int .u8 a.n.h),.d (.bool c),cel33 6 a' (n::a.u.take a')],.none,row33 a' (n::a.u.take a'),.none,.none,.none,.none]⟩:=⟨1,⟨by omega,by omega⟩,by
    have e:a.u.take 1=[x]:=by rw [take_one hx]; rfl
    rw [e]; rfl⟩
   refine sd ?_
   refine b_lt (fun t1=>?_) (fun t1=>?_)
   refine ix_at hx1 ?_ ?_
   (show (0:Int)≤(↑(0:Nat):Int); omega)
   refine sd ?_
   refine b_lt (fun t2=>?_) (fun t2=>?_)
   refine sd ?_
   refine sd ?_
   refine sd ?_
   refine an ?_ ?_
   refine an ?_ ?_
   (show (1:Nat) * (8:Nat)≤(2:Nat) ^ (47:Nat); omega)
   (show (1:Nat)≤(2:Nat) ^ (47:Nat); omega)
   refine sd ?_
   refine ix_at hx1 ?_ ?_
   (show (0:Int)≤(↑(0:Nat):Int); omega)
   refine sd ?_
   refine sd ?_
   refine sd ?_
   refine an ?_ ?_
   refine an ?_ ?_
   exact rfl
   refine an ?_ ?_
   exact rfl
   refine an ?_ ?_
   exact rfl
   refine an ?_ ?_
   (show ((1:Nat)+(1:Nat)) * (8:Nat)≤(2:Nat) ^ (47:Nat); omega)
   (show (1:Nat)+(1:Nat)≤(2:Nat) ^ (47:Nat); omega)
   refine sd ?_
   refine ar_add ?_ ?_
   refine an ?_ ?_
   (show (-9223372036854775808:Int)≤(↑(0:Nat):Int)+(1:Int); omega)
   (show (↑(0:Nat):Int)+(1:Int)≤(9223372036854775807:Int); omega)
   rotate_left
   (exfalso; omega)
   (exfalso; omega)
   all_goals exact fin
  | k+1,_,_,hx,hx1,hst,hil =>
   have hil2:(List.map (Data.int .i64) (a.u.take (k+1))).length=min (k+1) a.u.length:=by rw [List.length_map,List.length_take]
   have fin:∃ a':Nat,(a'≤a.u.length∧a.u.length - a' < a.u.length - (k+1))∧(⟨[(2,.ptr 0 0),(3,.ptr 1 0),(4,.ptr 2 0),(8,.ptr 4 0),(9,.d (.bool true)),(10,.d (.int .i64 (((k+1:Nat):Int)+1)))],[.cbox [.int .i64 (a.b),.int .i64 (a.d),.int .i64 a.s,.int .i64 a.e,.int .u8 a.k.a,.int .u8 a.k.b,.int .u8 a.k.c,.int .u8 a.k.d,.int .u8 a.k.e,.int .u8 a.k.f,.int .u8 a.k.g,.int .u8 a.k.h,.int .u8 a.n.a,.int .u8 a.n.b,.int .u8 a.n.c,.int .u8 a.n.d,.int .u8 a.n.e,.int .u8 a.n.f,.int .u8 a.n.g,.int .u8 a.n.h,.bool c,.slice 1 (ints a.u)],.cbox [.int .i64 n,.int .i64 m,.int .u8 q.a,.int .u8 q.b,.int .u8 q.c,.int .u8 q.d,.int .u8 q.e,.int .u8 q.f,.int .u8 q.g,.int .u8 q.h],.box [.d (.int .i64 0),.d (.int .i64 0),.d (.int .i64 0),.d (.int .i64 0),.d (.int .u8 0),.d (.int .u8 0),.d (.int .u8 0),.d (.int .u8 0),.d (.int .u8 0),.d (.int .u8 0),.d (.int .u8 0),.d (.int .u8 0),.d (.int .u8 0),.d (.int .u8 0),.d (.int .u8 0),.d (.int .u8 0),.d (.int .u8 0),.d (.int .u8 0),.d (.int .u8 0),.d (.int .u8 0),.d (.bool false),.nils 1],.none,.box [.d (.int .i64 B),.d (.int .i64 D),.d (.int .i64 a.s),.d (.int .i64 a.e),.d (.int .u8 a.k.a),.d (.int .u8 a.k.b),.d (.int .u8 a.k.c),.d (.int .u8 a.k.d),.d (.int .u8 a.k.e),.d (.int .u8 a.k.f),.d (.int .u8 a.k.g),.d (.int .u8 a.k.h),.d (.int .u8 a.n.a),.d (.int .u8 a.n.b),.d (.int .u8 a.n.c),.d (.int .u8 a.n.d),.d (.int .u8 a.n.e),.d (.int .u8 a.n.f),.d (.int .u8 a.n.g),.d (.int .u8 a.n.h),.d (.bool c),.sl 6 (ints (n::a.u.take (k+1))++[Data.int .i64 x]).length],.none,.row 3 1 (ints (n::a.u.take (k+1))++[Data.int .i64 x]) false,.none,.none,.none,.none]⟩:St)=⟨[(2,.ptr 0 0),(3,.ptr 1 0),(4,.ptr 2 0),(8,.ptr 4 0),(9,.d (.bool (bb33 a' true))),(10,.d (.int .i64 ((a':Nat))))],[.cbox [.int .i64 (a.b),.int .i64 (a.d),.int .i64 a.s,.int .i64 a.e,.int .u8 a.k.a,.int .u8 a.k.b,.int .u8 a.k.c,.int .u8 a.k.d,.int .u8 a.k.e,.int .u8 a.k.f,.int .u8 a.k.g,.int .u8 a.k.h,.int .u8 a.n.a,.int .u8 a.n.b,.int .u8 a.n.c,.int .u8 a.n.d,.int .u8 a.n.e,.int .u8 a.n.f,.int .u8 a.n.g,.int .u8 a.n.h,.bool c,.slice 1 (ints a.u)],.cbox [.int .i64 n,.int .i64 m,.int .u8 q.a,.int .u8 q.b,.int .u8 q.c,.int .u8 q.d,.int .u8 q.e,.int .u8 q.f,.int .u8 q.g,.int .u8 q.h],.box [.d (.int .i64 0),.d (.int .i64 0),.d (.int .i64 0),.d (.int .i64 0),.d (.int .u8 0),.d (.int .u8 0),.d (.int .u8 0),.d (.int .u8 0),.d (.int .u8 0),.d (.int .u8 0),.d (.int .u8 0),.d (.int .u8 0),.d (.int .u8 0),.d (.int .u8 0),.d (.int .u8 0),.d (.int .u8 0),.d (.int .u8 0),.d (.int .u8 0),.d (.int .u8 0),.d (.int .u8 0),.d (.bool false),.nils 1],.none,.box [.d (.int .i64 B),.d (.int .i64 D),.d (.int .i64 a.s),.d (.int .i64 a.e),.d (.int .u8 a.k.a),.d (.int .u8 a.k.b),.d (.int .u8 a.k.c),.d (.int .u8 a.k.d),.d (.int .u8 a.k.e),.d (.int .u8 a.k.f),.d (.int .u8 a.k.g),.d (.int .u8 a.k.h),.d (.int .u8 a.n.a),.d (.int .u8 a.n.b),.d (.int .u8 a.n.c),.d (.int .u8 a.n.d),.d (.int .u8 a.n.e),.d (.int .u8 a.n.f),.d (.int .u8 a.n.g),.d (.int .u8 a.n.h),.d (.bool c),cel33 6 a' (n::a.u.take a')],.none,row33 a' (n::a.u.take a'),.none,.none,.none,.none]⟩:=⟨k+1+1,⟨by omega,by omega⟩,by rw [← hst]; rfl⟩
   refine sd ?_
   refine b_lt (fun t1=>?_) (fun t1=>?_)
   refine sd ?_
   refine ix_at hx1 ?_ ?_
   (show (0:Int)≤(↑(k+(1:Nat)):Int); omega)
   refine sd ?_
   refine sd ?_
   refine sd ?_
   refine an ?_ ?_
   refine an ?_ ?_
   exact rfl
   refine an ?_ ?_
   exact rfl
   refine an ?_ ?_
   exact rfl
   refine an ?_ ?_
   (show (List.length (List.map (Data.int IntKind.i64) (List.take (k+(1:Nat)) (Ac.u a)))+(1:Nat)+(1:Nat)) * (8:Nat)≤(2:Nat) ^ (47:Nat); omega)
   (show List.length (List.map (Data.int IntKind.i64) (List.take (k+(1:Nat)) (Ac.u a)))+(1:Nat)+(1:Nat)≤(2:Nat) ^ (47:Nat); omega)
   refine sd ?_
   refine ar_add ?_ ?_
   refine an ?_ ?_
   (show (-9223372036854775808:Int)≤(↑(k+(1:Nat)):Int)+(1:Int); omega)
   (show (↑(k+(1:Nat)):Int)+(1:Int)≤(9223372036854775807:Int); omega)
   rotate_left
   (exfalso; omega)
   all_goals exact fin
 ·have e:k=a.u.length:=by omega
  have e2:a.u.take k=a.u:=List.take_of_length_le (by omega)
  rw [e2]
  obtain ⟨j,rfl⟩:∃ j,k=j+1:=⟨k - 1,by omega⟩
  rw [← e] at hQ
  refine sd ?_
  refine b_lt (fun t1=>?_) (fun t1=>?_)
  (exfalso; omega)
  rotate_left
  all_goals exact hQ _
theorem v33b {a:Ac} {c:Bool} {n m B D:Int} {q:Ky} {Q:AExit→St→Prop} (hl:a.u.length≤1000000) (h0:0 < a.u.length) (hN:∀ x,a.u[0]?=some x→¬ n < x) (hQ:∀ (R:List Int) (b y:Bool),R++(bif b then [] else [n])=insI n a.u→R.length≤a.u.length+1→Q (.exit 0) ⟨[(2,.ptr 0 0),(3,.ptr 1 0),(4,.ptr 2 0),(8,.ptr 4 0),(9,.d (.bool b)),(10,.d (.int .i64 (((a.u.length:Nat):Int)))),(70,.d (.int .i64 ((a.u.length:Nat):Int))),(71,.ptr 0 21),(72,.d (.slice 1 (ints a.u))),(73,.d (.int .i64 (((ints a.u).length:Nat):Int))),(74,.d (.bool y))],[.cbox [.int .i64 (a.b),.int .i64 (a.d),.int .i64 a.s,.int .i64 a.e,.int .u8 a.k.a,.int .u8 a.k.b,.int .u8 a.k.c,.int .u8 a.k.d,.int .u8 a.k.e,.int .u8 a.k.f,.int .u8 a.k.g,.int .u8 a.k.h,.int .u8 a.n.a,.int .u8 a.n.b,.int .u8 a.n.c,.int .u8 a.n.d,.int .u8 a.n.e,.int .u8 a.n.f,.int .u8 a.n.g,.int .u8 a.n.h,.bool c,.slice 1 (ints a.u)],.cbox [.int .i64 n,.int .i64 m,.int .u8 q.a,.int .u8 q.b,.int .u8 q.c,.int .u8 q.d,.int .u8 q.e,.int .u8 q.f,.int .u8 q.g,.int .u8 q.h],.box [.d (.int .i64 0),.d (.int .i64 0),.d (.int .i64 0),.d (.int .i64 0),.d (.int .u8 0),.d (.int .u8 0),.d (.int .u8 0),.d (.int .u8 0),.d (.int .u8 0),.d (.int .u8 0),.d (.int .u8 0),.d (.int .u8 0),.d (.int .u8 0),.d (.int .u8 0),.d (.int .u8 0),.d (.int .u8 0),.d (.int .u8 0),.d (.int .u8 0),.d (.int .u8 0),.d (.int .u8 0),.d (.bool false),.nils 1],.none,.box [.d (.int .i64 B),.d (.int .i64 D),.d (.int .i64 a.s),.d (.int .i64 a.e),.d (.int .u8 a.k.a),.d (.int .u8 a.k.b),.d (.int .u8 a.k.c),.d (.int .u8 a.k.d),.d (.int .u8 a.k.e),.d (.int .u8 a.k.f),.d (.int .u8 a.k.g),.d (.int .u8 a.k.h),.d (.int .u8 a.n.a),.d (.int .u8 a.n.b),.d (.int .u8 a.n.c),.d (.int .u8 a.n.d),.d (.int .u8 a.n.e),.d (.int .u8 a.n.f),.d (.int .u8 a.n.g),.d (.int .u8 a.n.h),.d (.bool c),.sl 8 (ints R).length],.none,.none,.none,.row 3 1 (ints R) false,.none,.none]⟩):vc Tryz.prog 116 seg33 ⟨[(2,.ptr 0 0),(3,.ptr 1 0),(4,.ptr 2 0),(8,.ptr 4 0),(9,.d (.bool false)),(10,.d (.int .i64 (0)))],[.cbox [.int .i64 (a.b),.int .i64 (a.d),.int .i64 a.s,.int .i64 a.e,.int .u8 a.k.a,.int .u8 a.k.b,.int .u8 a.k.c,.int .u8 a.k.d,.int .u8 a.k.e,.int .u8 a.k.f,.int .u8 a.k.g,.int .u8 a.k.h,.int .u8 a.n.a,.int .u8 a.n.b,.int .u8 a.n.c,.int .u8 a.n.d,.int .u8 a.n.e,.int .u8 a.n.f,.int .u8 a.n.g,.int .u8 a.n.h,.bool c,.slice 1 (ints a.u)],.cbox [.int .i64 n,.int .i64 m,.int .u8 q.a,.int .u8 q.b,.int .u8 q.c,.int .u8 q.d,.int .u8 q.e,.int .u8 q.f,.int .u8 q.g,.int .u8 q.h],.box [.d (.int .i64 0),.d (.int .i64 0),.d (.int .i64 0),.d (.int .i64 0),.d (.int .u8 0),.d (.int .u8 0),.d (.int .u8 0),.d (.int .u8 0),.d (.int .u8 0),.d (.int .u8 0),.d (.int .u8 0),.d (.int .u8 0),.d (.int .u8 0),.d (.int .u8 0),.d (.int .u8 0),.d (.int .u8 0),.d (.int .u8 0),.d (.int .u8 0),.d (.int .u8 0),.d (.int .u8 0),.d (.bool false),.nils 1],.none,.box [.d (.int .i64 B),.d (.int .i64 D),.d (.int .i64 a.s),.d (.int .i64 a.e),.d (.int .u8 a.k.a),.d (.int .u8 a.k.b),.d (.int .u8 a.k.c),.d (.int .u8 a.k.d),.d (.int .u8 a.k.e),.d (.int .u8 a.k.f),.d (.int .u8 a.k.g),.d (.int .u8 a.k.h),.d (.int .u8 a.n.a),.d (.int .u8 a.n.b),.d (.int .u8 a.n.c),.d (.int .u8 a.n.d),.d (.int .u8 a.n.e),.d (.int .u8 a.n.f),.d (.int .u8 a.n.g),.d (.int .u8 a.n.h),.d (.bool c),.nils 1],.none,.none,.none,.none,.none,.none]⟩ Q:=by
 have hlen:(ints a.u).length=a.u.length:=List.length_map _
 have hia:∀ (A:List Int) (z:Int),ints (A++[z])=ints A++[Data.int .i64 z]:=fun A z=>List.map_append
 unfold seg33
 refine loop_st (fun p:P33=>⟨[(2,.ptr 0 0),(3,.ptr 1 0),(4,.ptr 2 0),(8,.ptr 4 0),(9,.d (.bool (bb33 p.k p.b))),(10,.d (.int .i64 ((p.k:Nat))))],[.cbox [.int .i64 (a.b),.int .i64 (a.d),.int .i64 a.s,.int .i64 a.e,.int .u8 a.k.a,.int .u8 a.k.b,.int .u8 a.k.c,.int .u8 a.k.d,.int .u8 a.k.e,.int .u8 a.k.f,.int .u8 a.k.g,.int .u8 a.k.h,.int .u8 a.n.a,.int .u8 a.n.b,.int .u8 a.n.c,.int .u8 a.n.d,.int .u8 a.n.e,.int .u8 a.n.f,.int .u8 a.n.g,.int .u8 a.n.h,.bool c,.slice 1 (ints a.u)],.cbox [.int .i64 n,.int .i64 m,.int .u8 q.a,.int .u8 q.b,.int .u8 q.c,.int .u8 q.d,.int .u8 q.e,.int .u8 q.f,.int .u8 q.g,.int .u8 q.h],.box [.d (.int .i64 0),.d (.int .i64 0),.d (.int .i64 0),.d (.int .i64 0),.d (.int .u8 0),.d (.int .u8 0),.d (.int .u8 0),.d (.int .u8 0),.d (.int .u8 0),.d (.int .u8 0),.d (.int .u8 0),.d (.int .u8 0),.d (.int .u8 0),.d (.int .u8 0),.d (.int .u8 0),.d (.int .u8 0),.d (.int .u8 0),.d (.int .u8 0),.d (.int .u8 0),.d (.int .u8 0),.d (.bool false),.nils 1],.none,.box [.d (.int .i64 B),.d (.int .i64 D),.d (.int .i64 a.s),.d (.int .i64 a.e),.d (.int .u8 a.k.a),.d (.int .u8 a.k.b),.d (.int .u8 a.k.c),.d (.int .u8 a.k.d),.d (.int .u8 a.k.e),.d (.int .u8 a.k.f),.d (.int .u8 a.k.g),.d (.int .u8 a.k.h),.d (.int .u8 a.n.a),.d (.int .u8 a.n.b),.d (.int .u8 a.n.c),.d (.int .u8 a.n.d),.d (.int .u8 a.n.e),.d (.int .u8 a.n.f),.d (.int .u8 a.n.g),.d (.int .u8 a.n.h),.d (.bool c),cel33 8 p.k p.R],.none,.none,.none,row33 p.k p.R,.none,.none]⟩) (fun p=>p.k≤a.u.length∧(p.k=0∨(p.R++rl n (a.u.drop p.k) p.b=insI n a.u∧p.R.length≤p.k+1))) (fun p=>a.u.length - p.k) ⟨0,[],false⟩ rfl ⟨Nat.zero_le _,.inl rfl⟩ ?_
 rintro ⟨k,R,b⟩ ⟨hk,hi⟩
 have hk:k≤a.u.length:=hk
 have hi:k=0∨(R++rl n (a.u.drop k) b=insI n a.u∧R.length≤k+1):=hi
 have hil:(ints R).length=R.length:=List.length_map _
 dsimp only
 by_cases hkn:k < a.u.length
 ·refine Exists.elim (get_lt a.u hkn) fun x hx=>?_
  have hx1:=ints_at hx
  match k,hk,hkn,hx,hx1,hi with
  | 0,_,_,hx,hx1,_ =>
   have hnx:=hN x hx
   have e:[x]++rl n (a.u.drop 1) false=insI n a.u:=by
    have h:=rl_f n a.u
    rw [show a.u=a.u.drop 0 from rfl,drop_at hx,rl,decide_eq_false hnx] at h
    rw [show insI n a.u=insI n (x::a.u.drop (0+1)) by rw [← drop_at hx]; rfl]
    exact h
   have fin:∃ a':P33,((a'.k≤a.u.length∧(a'.k=0∨(a'.R++rl n (a.u.drop a'.k) a'.b=insI n a.u∧a'.R.length≤a'.k+1)))∧a.u.length - a'.k < a.u.length - 0)∧(⟨[(2,.ptr 0 0),(3,.ptr 1 0),(4,.ptr 2 0),(8,.ptr 4 0),(9,.d (.bool false)),(10,.d (.int .i64 (((0:Nat):Int)+1)))],[.cbox [.int .i64 (a.b),.int .i64 (a.d),.int .i64 a.s,.int .i64 a.e,.int .u8 a.k.a,.int .u8 a.k.b,.int .u8 a.k.c,.int .u8 a.k.d,.int .u8 a.k.e,.int .u8 a.k.f,.int .u8 a.k.g,.int .u8 a.k.h,.int .u8 a.n.a,.int .u8 a.n.b,.int .u8 a.n.c,.int .u8 a.n.d,.int .u8 a.n.e,.int .u8 a.n.f,.int .u8 a.n.g,.int .u8 a.n.h,.bool c,.slice 1 (ints a.u)],.cbox [.int .i64 n,.int .i64 m,.int .u8 q.a,.int .u8 q.b,.int .u8 q.c,.int .u8 q.d,.int .u8 q.e,.int .u8 q.f,.int .u8 q.g,.int .u8 q.h],.box [.d (.int .i64 0),.d (.int .i64 0),.d (.int .i64 0),.d (.int .i64 0),.d (.int .u8 0),.d (.int .u8 0),.d (.int .u8 0),.d (.int .u8 0),.d (.int .u8 0),.d (.int .u8 0),.d (.int .u8 0),.d (.int .u8 0),.d (.int .u8 0),.d (.int .u8 0),.d (.int .u8 0),.d (.int .u8 0),.d (.int .u8 0),.d (.int .u8 0),.d (.int .u8 0),.d (.int .u8 0),.d (.bool false),.nils 1],.none,.box [.d (.int .i64 B),.d (.int .i64 D),.d (.int .i64 a.s),.d (.int .i64 a.e),.d (.int .u8 a.k.a),.d (.int .u8 a.k.b),.d (.int .u8 a.k.c),.d (.int .u8 a.k.d),.d (.int .u8 a.k.e),.d (.int .u8 a.k.f),.d (.int .u8 a.k.g),.d (.int .u8 a.k.h),.d (.int .u8 a.n.a),.d (.int .u8 a.n.b),.d (.int .u8 a.n.c),.d (.int .u8 a.n.d),.d (.int .u8 a.n.e),.d (.int .u8 a.n.f),.d (.int .u8 a.n.g),.d (.int .u8 a.n.h),.d (.bool c),.sl 8 ([Data.int .i64 x]).length],.none,.none,.none,.row 3 1 ([Data.int .i64 x]) false,.none,.none]⟩:St)=⟨[(2,.ptr 0 0),(3,.ptr 1 0),(4,.ptr 2 0),(8,.ptr 4 0),(9,.d (.bool (bb33 a'.k a'.b))),(10,.d (.int .i64 ((a'.k:Nat))))],[.cbox [.int .i64 (a.b),.int .i64 (a.d),.int .i64 a.s,.int .i64 a.e,.int .u8 a.k.a,.int .u8 a.k.b,.int .u8 a.k.c,.int .u8 a.k.d,.int .u8 a.k.e,.int .u8 a.k.f,.int .u8 a.k.g,.int .u8 a.k.h,.int .u8 a.n.a,.int .u8 a.n.b,.int .u8 a.n.c,.int .u8 a.n.d,.int .u8 a.n.e,.int .u8 a.n.f,.int .u8 a.n.g,.int .u8 a.n.h,.bool c,.slice 1 (ints a.u)],.cbox [.int .i64 n,.int .i64 m,.int .u8 q.a,.int .u8 q.b,.int .u8 q.c,.int .u8 q.d,.int .u8 q.e,.int .u8 q.f,.int .u8 q.g,.int .u8 q.h],.box [.d (.int .i64 0),.d (.int .i64 0),.d (.int .i64 0),.d (.int .i64 0),.d (.int .u8 0),.d (.int .u8 0),.d (.int .u8 0),.d (.int .u8 0),.d (.int .u8 0),.d (.int .u8 0),.d (.int .u8 0),.d (.int .u8 0),.d (.int .u8 0),.d (.int .u8 0),.d (.int .u8 0),.d (.int .u8 0),.d (.int .u8 0),.d (.int .u8 0),.d (.int .u8 0),.d (.int .u8 0),.d (.bool false),.nils 1],.none,.box [.d (.int .i64 B),.d (.int .i64 D),.d (.int .i64 a.s),.d (.int .i64 a.e),.d (.int .u8 a.k.a),.d (.int .u8 a.k.b),.d (.int .u8 a.k.c),.d (.int .u8 a.k.d),.d (.int .u8 a.k.e),.d (.int .u8 a.k.f),.d (.int .u8 a.k.g),.d (.int .u8 a.k.h),.d (.int .u8 a.n.a),.d (.int .u8 a.n.b),.d (.int .u8 a.n.c),.d (.int .u8 a.n.d),.d (.int .u8 a.n.e),.d (.int .u8 a.n.f),.d (.int .u8 a.n.g),.d (.int .u8 a.n.h),.d (.bool c),cel33 8 a'.k a'.R],.none,.none,.none,row33 a'.k a'.R,.none,.none]⟩:=⟨⟨1,[x],false⟩,⟨⟨by show 1≤_; omega,.inr ⟨e,by show 1≤1+1; omega⟩⟩,by show a.u.length - 1 < _; omega⟩,rfl⟩
   refine sd ?_
   refine b_lt (fun t1=>?_) (fun t1=>?_)
   refine ix_at hx1 ?_ ?_
   (show (0:Int)≤(↑(0:Nat):Int); omega)
   refine sd ?_
   refine b_lt (fun t2=>?_) (fun t2=>?_)
   (exfalso; omega)
   refine ix_at hx1 ?_ ?_
   (show (0:Int)≤(↑(0:Nat):Int); omega)
   refine sd ?_
   refine sd ?_
   refine sd ?_
   refine an ?_ ?_
   refine an ?_ ?_
   (show (1:Nat) * (8:Nat)≤(2:Nat) ^ (47:Nat); omega)
   (show (1:Nat)≤(2:Nat) ^ (47:Nat); omega)
   refine sd ?_
   refine ar_add ?_ ?_
   refine an ?_ ?_
   (show (-9223372036854775808:Int)≤(↑(0:Nat):Int)+(1:Int); omega)
   (show (↑(0:Nat):Int)+(1:Int)≤(9223372036854775807:Int); omega)
   rotate_left
   (exfalso; omega)
   all_goals exact fin
  | k+1,_,hkn,hx,hx1,.inr ⟨hi,hR⟩ =>
   rw [drop_at hx,rl] at hi
   cases b with
   | true =>
    have hi:R++(x::rl n (a.u.drop (k+1+1)) true)=insI n a.u:=hi
    have fin:∃ a':P33,((a'.k≤a.u.length∧(a'.k=0∨(a'.R++rl n (a.u.drop a'.k) a'.b=insI n a.u∧a'.R.length≤a'.k+1)))∧a.u.length - a'.k < a.u.length - (k+1))∧(⟨[(2,.ptr 0 0),(3,.ptr 1 0),(4,.ptr 2 0),(8,.ptr 4 0),(9,.d (.bool true)),(10,.d (.int .i64 (((k+1:Nat):Int)+1)))],[.cbox [.int .i64 (a.b),.int .i64 (a.d),.int .i64 a.s,.int .i64 a.e,.int .u8 a.k.a,.int .u8 a.k.b,.int .u8 a.k.c,.int .u8 a.k.d,.int .u8 a.k.e,.int .u8 a.k.f,.int .u8 a.k.g,.int .u8 a.k.h,.int .u8 a.n.a,.int .u8 a.n.b,.int .u8 a.n.c,.int .u8 a.n.d,.int .u8 a.n.e,.int .u8 a.n.f,.int .u8 a.n.g,.int .u8 a.n.h,.bool c,.slice 1 (ints a.u)],.cbox [.int .i64 n,.int .i64 m,.int .u8 q.a,.int .u8 q.b,.int .u8 q.c,.int .u8 q.d,.int .u8 q.e,.int .u8 q.f,.int .u8 q.g,.int .u8 q.h],.box [.d (.int .i64 0),.d (.int .i64 0),.d (.int .i64 0),.d (.int .i64 0),.d (.int .u8 0),.d (.int .u8 0),.d (.int .u8 0),.d (.int .u8 0),.d (.int .u8 0),.d (.int .u8 0),.d (.int .u8 0),.d (.int .u8 0),.d (.int .u8 0),.d (.int .u8 0),.d (.int .u8 0),.d (.int .u8 0),.d (.int .u8 0),.d (.int .u8 0),.d (.int .u8 0),.d (.int .u8 0),.d (.bool false),.nils 1],.none,.box [.d (.int .i64 B),.d (.int .i64 D),.d (.int .i64 a.s),.d (.int .i64 a.e),.d (.int .u8 a.k.a),.d (.int .u8 a.k.b),.d (.int .u8 a.k.c),.d (.int .u8 a.k.d),.d (.int .u8 a.k.e),.d (.int .u8 a.k.f),.d (.int .u8 a.k.g),.d (.int .u8 a.k.h),.d (.int .u8 a.n.a),.d (.int .u8 a.n.b),.d (.int .u8 a.n.c),.d (.int .u8 a.n.d),.d (.int .u8 a.n.e),.d (.int .u8 a.n.f),.d (.int .u8 a.n.g),.d (.int .u8 a.n.h),.d (.bool c),.sl 8 (ints R++[Data.int .i64 x]).length],.none,.none,.none,.row 3 1 (ints R++[Data.int .i64 x]) false,.none,.none]⟩:St)=⟨[(2,.ptr 0 0),(3,.ptr 1 0),(4,.ptr 2 0),(8,.ptr 4 0),(9,.d (.bool (bb33 a'.k a'.b))),(10,.d (.int .i64 ((a'.k:Nat))))],[.cbox [.int .i64 (a.b),.int .i64 (a.d),.int .i64 a.s,.int .i64 a.e,.int .u8 a.k.a,.int .u8 a.k.b,.int .u8 a.k.c,.int .u8 a.k.d,.int .u8 a.k.e,.int .u8 a.k.f,.int .u8 a.k.g,.int .u8 a.k.h,.int .u8 a.n.a,.int .u8 a.n.b,.int .u8 a.n.c,.int .u8 a.n.d,.int .u8 a.n.e,.int .u8 a.n.f,.int .u8 a.n.g,.int .u8 a.n.h,.bool c,.slice 1 (ints a.u)],.cbox [.int .i64 n,.int .i64 m,.int .u8 q.a,.int .u8 q.b,.int .u8 q.c,.int .u8 q.d,.int .u8 q.e,.int .u8 q.f,.int .u8 q.g,.int .u8 q.h],.box [.d (.int .i64 0),.d (.int .i64 0),.d (.int .i64 0),.d (.int .i64 0),.d (.int .u8 0),.d (.int .u8 0),.d (.int .u8 0),.d (.int .u8 0),.d (.int .u8 0),.d (.int .u8 0),.d (.int .u8 0),.d (.int .u8 0),.d (.int .u8 0),.d (.int .u8 0),.d (.int .u8 0),.d (.int .u8 0),.d (.int .u8 0),.d (.int .u8 0),.d (.int .u8 0),.d (.int .u8 0),.d (.bool false),.nils 1],.none,.box [.d (.int .i64 B),.d (.int .i64 D),.d (.int .i64 a.s),.d (.int .i64 a.e),.d (.int .u8 a.k.a),.d (.int .u8 a.k.b),.d (.int .u8 a.k.c),.d (.int .u8 a.k.d),.d (.int .u8 a.k.e),.d (.int .u8 a.k.f),.d (.int .u8 a.k.g),.d (.int .u8 a.k.h),.d (.int .u8 a.n.a),.d (.int .u8 a.n.b),.d (.int .u8 a.n.c),.d (.int .u8 a.n.d),.d (.int .u8 a.n.e),.d (.int .u8 a.n.f),.d (.int .u8 a.n.g),.d (.int .u8 a.n.h),.d (.bool c),cel33 8 a'.k a'.R],.none,.none,.none,row33 a'.k a'.R,.none,.none]⟩:=⟨⟨k+1+1,R++[x],true⟩,⟨⟨by show k+1+1≤_; omega,.inr ⟨by show (R++[x])++rl n (a.u.drop (k+1+1)) true=_; rw [List.append_assoc]; exact hi,by show (R++[x]).length≤k+1+1+1; rw [List.length_append]; show R.length+1≤_; omega⟩⟩,by show a.u.length - (k+1+1) < _; omega⟩,by rw [← hia]; rfl⟩
    refine sd ?_
    refine b_lt (fun t1=>?_) (fun t1=>?_)
    refine sd ?_
    refine ix_at hx1 ?_ ?_
    (show (0:Int)≤(↑(k+(1:Nat)):Int); omega)
    refine sd ?_
    refine sd ?_
    refine sd ?_
    refine an ?_ ?_
    refine an ?_ ?_
    exact rfl
    refine an ?_ ?_
    exact rfl
    refine an ?_ ?_
    exact rfl
    refine an ?_ ?_
    (show (List.length (ints R)+(1:Nat)) * (8:Nat)≤(2:Nat) ^ (47:Nat); omega)
    (show List.length (ints R)+(1:Nat)≤(2:Nat) ^ (47:Nat); omega)
    refine sd ?_
    refine ar_add ?_ ?_
    refine an ?_ ?_
    (show (-9223372036854775808:Int)≤(↑(k+(1:Nat)):Int)+(1:Int); omega)
    (show (↑(k+(1:Nat)):Int)+(1:Int)≤(9223372036854775807:Int); omega)
    rotate_left
    (exfalso; omega)
    all_goals exact fin
   | false =>
    by_cases hnx:n < x
    ·rw [decide_eq_true hnx] at hi
     have hil2:(ints R++[Data.int .i64 n]).length=R.length+1:=by rw [List.length_append,hil]; rfl
     have hi:R++(n::x::rl n (a.u.drop (k+1+1)) true)=insI n a.u:=hi
     have hR2:R.length≤k+1:=by
      have h:=congrArg List.length hi
      rw [insI_len,rl_t,List.length_append,List.length_cons,List.length_cons,List.length_drop] at h
      omega
     have fin:∃ a':P33,((a'.k≤a.u.length∧(a'.k=0∨(a'.R++rl n (a.u.drop a'.k) a'.b=insI n a.u∧a'.R.length≤a'.k+1)))∧a.u.length - a'.k < a.u.length - (k+1))∧(⟨[(2,.ptr 0 0),(3,.ptr 1 0),(4,.ptr 2 0),(8,.ptr 4 0),(9,.d (.bool true)),(10,.d (.int .i64 (((k+1:Nat):Int)+1)))],[.cbox [.int .i64 (a.b),.int .i64 (a.d),.int .i64 a.s,.int .i64 a.e,.int .u8 a.k.a,.int .u8 a.k.b,.int .u8 a.k.c,.int .u8 a.k.d,.int .u8 a.k.e,.int .u8 a.k.f,.int .u8 a.k.g,.int .u8 a.k.h,.int .u8 a.n.a,.int .u8 a.n.b,.int .u8 a.n.c,.int .u8 a.n.d,.int .u8 a.n.e,.int .u8 a.n.f,.int .u8 a.n.g,.int .u8 a.n.h,.bool c,.slice 1 (ints a.u)],.cbox [.int .i64 n,.int .i64 m,.int .u8 q.a,.int .u8 q.b,.int .u8 q.c,.int .u8 q.d,.int .u8 q.e,.int .u8 q.f,.int .u8 q.g,.int .u8 q.h],.box [.d (.int .i64 0),.d (.int .i64 0),.d (.int .i64 0),.d (.int .i64 0),.d (.int .u8 0),.d (.int .u8 0),.d (.int .u8 0),.d (.int .u8 0),.d (.int .u8 0),.d (.int .u8 0),.d (.int .u8 0),.d (.int .u8 0),.d (.int .u8 0),.d (.int .u8 0),.d (.int .u8 0),.d (.int .u8 0),.d (.int .u8 0),.d (.int .u8 0),.d (.int .u8 0),.d (.int .u8 0),.d (.bool false),.nils 1],.none,.box [.d (.int .i64 B),.d (.int .i64 D),.d (.int .i64 a.s),.d (.int .i64 a.e),.d (.int .u8 a.k.a),.d (.int .u8 a.k.b),.d (.int .u8 a.k.c),.d (.int .u8 a.k.d),.d (.int .u8 a.k.e),.d (.int .u8 a.k.f),.d (.int .u8 a.k.g),.d (.int .u8 a.k.h),.d (.int .u8 a.n.a),.d (.int .u8 a.n.b),.d (.int .u8 a.n.c),.d (.int .u8 a.n.d),.d (.int .u8 a.n.e),.d (.int .u8 a.n.f),.d (.int .u8 a.n.g),.d (.int .u8 a.n.h),.d (.bool c),.sl 8 ((ints R++[Data.int .i64 n])++[Data.int .i64 x]).length],.none,.none,.none,.row 3 1 ((ints R++[Data.int .i64 n])++[Data.int .i64 x]) false,.none,.none]⟩:St)=⟨[(2,.ptr 0 0),(3,.ptr 1 0),(4,.ptr 2 0),(8,.ptr 4 0),(9,.d (.bool (bb33 a'.k a'.b))),(10,.d (.int .i64 ((a'.k:Nat))))],[.cbox [.int .i64 (a.b),.int .i64 (a.d),.int .i64 a.s,.int .i64 a.e,.int .u8 a.k.a,.int .u8 a.k.b,.int .u8 a.k.c,.int .u8 a.k.d,.int .u8 a.k.e,.int .u8 a.k.f,.int .u8 a.k.g,.int .u8 a.k.h,.int .u8 a.n.a,.int .u8 a.n.b,.int .u8 a.n.c,.int .u8 a.n.d,.int .u8 a.n.e,.int .u8 a.n.f,.int .u8 a.n.g,.int .u8 a.n.h,.bool c,.slice 1 (ints a.u)],.cbox [.int .i64 n,.int .i64 m,.int .u8 q.a,.int .u8 q.b,.int .u8 q.c,.int .u8 q.d,.int .u8 q.e,.int .u8 q.f,.int .u8 q.g,.int .u8 q.h],.box [.d (.int .i64 0),.d (.int .i64 0),.d (.int .i64 0),.d (.int .i64 0),.d (.int .u8 0),.d (.int .u8 0),.d (.int .u8 0),.d (.int .u8 0),.d (.int .u8 0),.d (.int .u8 0),.d (.int .u8 0),.d (.int .u8 0),.d (.int .u8 0),.d (.int .u8 0),.d (.int .u8 0),.d (.int .u8 0),.d (.int .u8 0),.d (.int .u8 0),.d (.int .u8 0),.d (.int .u8 0),.d (.bool false),.nils 1],.none,.box [.d (.int .i64 B),.d (.int .i64 D),.d (.int .i64 a.s),.d (.int .i64 a.e),.d (.int .u8 a.k.a),.d (.int .u8 a.k.b),.d (.int .u8 a.k.c),.d (.int .u8 a.k.d),.d (.int .u8 a.k.e),.d (.int .u8 a.k.f),.d (.int .u8 a.k.g),.d (.int .u8 a.k.h),.d (.int .u8 a.n.a),.d (.int .u8 a.n.b),.d (.int .u8 a.n.c),.d (.int .u8 a.n.d),.d (.int .u8 a.n.e),.d (.int .u8 a.n.f),.d (.int .u8 a.n.g),.d (.int .u8 a.n.h),.d (.bool c),cel33 8 a'.k a'.R],.none,.none,.none,row33 a'.k a'.R,.none,.none]⟩:=⟨⟨k+1+1,(R++[n])++[x],true⟩,⟨⟨by show k+1+1≤_; omega,.inr ⟨by show ((R++[n])++[x])++rl n (a.u.drop (k+1+1)) true=_; rw [List.append_assoc,List.append_assoc]; exact hi,by show ((R++[n])++[x]).length≤k+1+1+1; rw [List.length_append,List.length_append]; show R.length+1+1≤_; omega⟩⟩,by show a.u.length - (k+1+1) < _; omega⟩,by rw [← hia,← hia]; rfl⟩
     refine sd ?_
     refine b_lt (fun t1=>?_) (fun t1=>?_)
     refine ix_at hx1 ?_ ?_
     (show (0:Int)≤(↑(k+(1:Nat)):Int); omega)
     refine sd ?_
     refine b_lt (fun t2=>?_) (fun t2=>?_)
     refine sd ?_
     refine sd ?_
     refine sd ?_
     refine an ?_ ?_
     refine an ?_ ?_
     exact rfl
     refine an ?_ ?_
     exact rfl
     refine an ?_ ?_
     exact rfl
     refine an ?_ ?_
     (show (List.length (ints R)+(1:Nat)) * (8:Nat)≤(2:Nat) ^ (47:Nat); omega)
     (show List.length (ints R)+(1:Nat)≤(2:Nat) ^ (47:Nat); omega)
     refine sd ?_
     refine ix_at hx1 ?_ ?_
     (show (0:Int)≤(↑(k+(1:Nat)):Int); omega)
     refine sd ?_
     refine sd ?_
     refine sd ?_
     refine an ?_ ?_
     refine an ?_ ?_
     exact rfl
     refine an ?_ ?_
     exact rfl
     refine an ?_ ?_
     exact rfl
     refine an ?_ ?_
     (show (List.length (ints R++[Data.int IntKind.i64 n])+(1:Nat)) * (8:Nat)≤(2:Nat) ^ (47:Nat); omega)
     (show List.length (ints R++[Data.int IntKind.i64 n])+(1:Nat)≤(2:Nat) ^ (47:Nat); omega)
     refine sd ?_
     refine ar_add ?_ ?_
     refine an ?_ ?_
     (show (-9223372036854775808:Int)≤(↑(k+(1:Nat)):Int)+(1:Int); omega)
     (show (↑(k+(1:Nat)):Int)+(1:Int)≤(9223372036854775807:Int); omega)
     rotate_left
     (exfalso; omega)
     (exfalso; omega)
     all_goals exact fin
    ·rw [decide_eq_false hnx] at hi
     have hi:R++(x::rl n (a.u.drop (k+1+1)) false)=insI n a.u:=hi
     have fin:∃ a':P33,((a'.k≤a.u.length∧(a'.k=0∨(a'.R++rl n (a.u.drop a'.k) a'.b=insI n a.u∧a'.R.length≤a'.k+1)))∧a.u.length - a'.k < a.u.length - (k+1))∧(⟨[(2,.ptr 0 0),(3,.ptr 1 0),(4,.ptr 2 0),(8,.ptr 4 0),(9,.d (.bool false)),(10,.d (.int .i64 (((k+1:Nat):Int)+1)))],[.cbox [.int .i64 (a.b),.int .i64 (a.d),.int .i64 a.s,.int .i64 a.e,.int .u8 a.k.a,.int .u8 a.k.b,.int .u8 a.k.c,.int .u8 a.k.d,.int .u8 a.k.e,.int .u8 a.k.f,.int .u8 a.k.g,.int .u8 a.k.h,.int .u8 a.n.a,.int .u8 a.n.b,.int .u8 a.n.c,.int .u8 a.n.d,.int .u8 a.n.e,.int .u8 a.n.f,.int .u8 a.n.g,.int .u8 a.n.h,.bool c,.slice 1 (ints a.u)],.cbox [.int .i64 n,.int .i64 m,.int .u8 q.a,.int .u8 q.b,.int .u8 q.c,.int .u8 q.d,.int .u8 q.e,.int .u8 q.f,.int .u8 q.g,.int .u8 q.h],.box [.d (.int .i64 0),.d (.int .i64 0),.d (.int .i64 0),.d (.int .i64 0),.d (.int .u8 0),.d (.int .u8 0),.d (.int .u8 0),.d (.int .u8 0),.d (.int .u8 0),.d (.int .u8 0),.d (.int .u8 0),.d (.int .u8 0),.d (.int .u8 0),.d (.int .u8 0),.d (.int .u8 0),.d (.int .u8 0),.d (.int .u8 0),.d (.int .u8 0),.d (.int .u8 0),.d (.int .u8 0),.d (.bool false),.nils 1],.none,.box [.d (.int .i64 B),.d (.int .i64 D),.d (.int .i64 a.s),.d (.int .i64 a.e),.d (.int .u8 a.k.a),.d (.int .u8 a.k.b),.d (.int .u8 a.k.c),.d (.int .u8 a.k.d),.d (.int .u8 a.k.e),.d (.int .u8 a.k.f),.d (.int .u8 a.k.g),.d (.int .u8 a.k.h),.d (.int .u8 a.n.a),.d (.int .u8 a.n.b),.d (.int .u8 a.n.c),.d (.int .u8 a.n.d),.d (.int .u8 a.n.e),.d (.int .u8 a.n.f),.d (.int .u8 a.n.g),.d (.int .u8 a.n.h),.d (.bool c),.sl 8 (ints R++[Data.int .i64 x]).length],.none,.none,.none,.row 3 1 (ints R++[Data.int .i64 x]) false,.none,.none]⟩:St)=⟨[(2,.ptr 0 0),(3,.ptr 1 0),(4,.ptr 2 0),(8,.ptr 4 0),(9,.d (.bool (bb33 a'.k a'.b))),(10,.d (.int .i64 ((a'.k:Nat))))],[.cbox [.int .i64 (a.b),.int .i64 (a.d),.int .i64 a.s,.int .i64 a.e,.int .u8 a.k.a,.int .u8 a.k.b,.int .u8 a.k.c,.int .u8 a.k.d,.int .u8 a.k.e,.int .u8 a.k.f,.int .u8 a.k.g,.int .u8 a.k.h,.int .u8 a.n.a,.int .u8 a.n.b,.int .u8 a.n.c,.int .u8 a.n.d,.int .u8 a.n.e,.int .u8 a.n.f,.int .u8 a.n.g,.int .u8 a.n.h,.bool c,.slice 1 (ints a.u)],.cbox [.int .i64 n,.int .i64 m,.int .u8 q.a,.int .u8 q.b,.int .u8 q.c,.int .u8 q.d,.int .u8 q.e,.int .u8 q.f,.int .u8 q.g,.int .u8 q.h],.box [.d (.int .i64 0),.d (.int .i64 0),.d (.int .i64 0),.d (.int .i64 0),.d (.int .u8 0),.d (.int .u8 0),.d (.int .u8 0),.d (.int .u8 0),.d (.int .u8 0),.d (.int .u8 0),.d (.int .u8 0),.d (.int .u8 0),.d (.int .u8 0),.d (.int .u8 0),.d (.int .u8 0),.d (.int .u8 0),.d (.int .u8 0),.d (.int .u8 0),.d (.int .u8 0),.d (.int .u8 0),.d (.bool false),.nils 1],.none,.box [.d (.int .i64 B),.d (.int .i64 D),.d (.int .i64 a.s),.d (.int .i64 a.e),.d (.int .u8 a.k.a),.d (.int .u8 a.k.b),.d (.int .u8 a.k.c),.d (.int .u8 a.k.d),.d (.int .u8 a.k.e),.d (.int .u8 a.k.f),.d (.int .u8 a.k.g),.d (.int .u8 a.k.h),.d (.int .u8 a.n.a),.d (.int .u8 a.n.b),.d (.int .u8 a.n.c),.d (.int .u8 a.n.d),.d (.int .u8 a.n.e),.d (.int .u8 a.n.f),.d (.int .u8 a.n.g),.d (.int .u8 a.n.h),.d (.bool c),cel33 8 a'.k a'.R],.none,.none,.none,row33 a'.k a'.R,.none,.none]⟩:=⟨⟨k+1+1,R++[x],false⟩,⟨⟨by show k+1+1≤_; omega,.inr ⟨by show (R++[x])++rl n (a.u.drop (k+1+1)) false=_; rw [List.append_assoc]; exact hi,by show (R++[x]).length≤k+1+1+1; rw [List.length_append]; show R.length+1≤_; omega⟩⟩,by show a.u.length - (k+1+1) < _; omega⟩,by rw [← hia]; rfl⟩
     refine sd ?_
     refine b_lt (fun t1=>?_) (fun t1=>?_)
     refine ix_at hx1 ?_ ?_
     (show (0:Int)≤(↑(k+(1:Nat)):Int); omega)
     refine sd ?_
     refine b_lt (fun t2=>?_) (fun t2=>?_)
     (exfalso; omega)
     refine ix_at hx1 ?_ ?_
     (show (0:Int)≤(↑(k+(1:Nat)):Int); omega)
     refine sd ?_
     refine sd ?_
     refine sd ?_
     refine an ?_ ?_
     refine an ?_ ?_
     exact rfl
     refine an ?_ ?_
     exact rfl
     refine an ?_ ?_
     exact rfl
     refine an ?_ ?_
     (show (List.length (ints R)+(1:Nat)) * (8:Nat)≤(2:Nat) ^ (47:Nat); omega)
     (show List.length (ints R)+(1:Nat)≤(2:Nat) ^ (47:Nat); omega)
     refine sd ?_
     refine ar_add ?_ ?_
     refine an ?_ ?_
     (show (-9223372036854775808:Int)≤(↑(k+(1:Nat)):Int)+(1:Int); omega)
     (show (↑(k+(1:Nat)):Int)+(1:Int)≤(9223372036854775807:Int); omega)
     rotate_left
     (exfalso; omega)
     all_goals exact fin
 ·have e:k=a.u.length:=by omega
  obtain ⟨hi,hR⟩:R++rl n (a.u.drop k) b=insI n a.u∧R.length≤k+1:=by
   rcases hi with hi | hi
   ·omega
   ·exact hi
  rw [List.drop_eq_nil_of_le (by omega),rl] at hi
  have hQ:=fun y=>hQ R b y hi (by omega)
  obtain ⟨j,rfl⟩:∃ j,k=j+1:=⟨k - 1,by omega⟩
  rw [← e] at hQ
  refine sd ?_
  refine b_lt (fun t1=>?_) (fun t1=>?_)
  (exfalso; omega)
  rotate_left
  all_goals exact hQ _
theorem v33c {a:Ac} {c:Bool} {n m B D:Int} {q:Ky} {Q:AExit→St→Prop} (hl:a.u.length≤1000000) (h0:a.u=[]) (hQ:∀ y:Bool,Q (.exit 0) ⟨[(2,.ptr 0 0),(3,.ptr 1 0),(4,.ptr 2 0),(8,.ptr 4 0),(9,.d (.bool false)),(10,.d (.int .i64 (((0:Nat):Int)))),(70,.d (.int .i64 ((0:Nat):Int))),(71,.ptr 0 21),(72,.d (.slice 1 (ints a.u))),(73,.d (.int .i64 (((ints a.u).length:Nat):Int))),(74,.d (.bool y))],[.cbox [.int .i64 (a.b),.int .i64 (a.d),.int .i64 a.s,.int .i64 a.e,.int .u8 a.k.a,.int .u8 a.k.b,.int .u8 a.k.c,.int .u8 a.k.d,.int .u8 a.k.e,.int .u8 a.k.f,.int .u8 a.k.g,.int .u8 a.k.h,.int .u8 a.n.a,.int .u8 a.n.b,.int .u8 a.n.c,.int .u8 a.n.d,.int .u8 a.n.e,.int .u8 a.n.f,.int .u8 a.n.g,.int .u8 a.n.h,.bool c,.slice 1 (ints a.u)],.cbox [.int .i64 n,.int .i64 m,.int .u8 q.a,.int .u8 q.b,.int .u8 q.c,.int .u8 q.d,.int .u8 q.e,.int .u8 q.f,.int .u8 q.g,.int .u8 q.h],.box [.d (.int .i64 0),.d (.int .i64 0),.d (.int .i64 0),.d (.int .i64 0),.d (.int .u8 0),.d (.int .u8 0),.d (.int .u8 0),.d (.int .u8 0),.d (.int .u8 0),.d (.int .u8 0),.d (.int .u8 0),.d (.int .u8 0),.d (.int .u8 0),.d (.int .u8 0),.d (.int .u8 0),.d (.int .u8 0),.d (.int .u8 0),.d (.int .u8 0),.d (.int .u8 0),.d (.int .u8 0),.d (.bool false),.nils 1],.none,.box [.d (.int .i64 B),.d (.int .i64 D),.d (.int .i64 a.s),.d (.int .i64 a.e),.d (.int .u8 a.k.a),.d (.int .u8 a.k.b),.d (.int .u8 a.k.c),.d (.int .u8 a.k.d),.d (.int .u8 a.k.e),.d (.int .u8 a.k.f),.d (.int .u8 a.k.g),.d (.int .u8 a.k.h),.d (.int .u8 a.n.a),.d (.int .u8 a.n.b),.d (.int .u8 a.n.c),.d (.int .u8 a.n.d),.d (.int .u8 a.n.e),.d (.int .u8 a.n.f),.d (.int .u8 a.n.g),.d (.int .u8 a.n.h),.d (.bool c),.nils 1],.none,.none,.none,.none,.none,.none]⟩):vc Tryz.prog 116 seg33 ⟨[(2,.ptr 0 0),(3,.ptr 1 0),(4,.ptr 2 0),(8,.ptr 4 0),(9,.d (.bool false)),(10,.d (.int .i64 (0)))],[.cbox [.int .i64 (a.b),.int .i64 (a.d),.int .i64 a.s,.int .i64 a.e,.int .u8 a.k.a,.int .u8 a.k.b,.int .u8 a.k.c,.int .u8 a.k.d,.int .u8 a.k.e,.int .u8 a.k.f,.int .u8 a.k.g,.int .u8 a.k.h,.int .u8 a.n.a,.int .u8 a.n.b,.int .u8 a.n.c,.int .u8 a.n.d,.int .u8 a.n.e,.int .u8 a.n.f,.int .u8 a.n.g,.int .u8 a.n.h,.bool c,.slice 1 (ints a.u)],.cbox [.int .i64 n,.int .i64 m,.int .u8 q.a,.int .u8 q.b,.int .u8 q.c,.int .u8 q.d,.int .u8 q.e,.int .u8 q.f,.int .u8 q.g,.int .u8 q.h],.box [.d (.int .i64 0),.d (.int .i64 0),.d (.int .i64 0),.d (.int .i64 0),.d (.int .u8 0),.d (.int .u8 0),.d (.int .u8 0),.d (.int .u8 0),.d (.int .u8 0),.d (.int .u8 0),.d (.int .u8 0),.d (.int .u8 0),.d (.int .u8 0),.d (.int .u8 0),.d (.int .u8 0),.d (.int .u8 0),.d (.int .u8 0),.d (.int .u8 0),.d (.int .u8 0),.d (.int .u8 0),.d (.bool false),.nils 1],.none,.box [.d (.int .i64 B),.d (.int .i64 D),.d (.int .i64 a.s),.d (.int .i64 a.e),.d (.int .u8 a.k.a),.d (.int .u8 a.k.b),.d (.int .u8 a.k.c),.d (.int .u8 a.k.d),.d (.int .u8 a.k.e),.d (.int .u8 a.k.f),.d (.int .u8 a.k.g),.d (.int .u8 a.k.h),.d (.int .u8 a.n.a),.d (.int .u8 a.n.b),.d (.int .u8 a.n.c),.d (.int .u8 a.n.d),.d (.int .u8 a.n.e),.d (.int .u8 a.n.f),.d (.int .u8 a.n.g),.d (.int .u8 a.n.h),.d (.bool c),.nils 1],.none,.none,.none,.none,.none,.none]⟩ Q:=by
 have hlen:(ints a.u).length=a.u.length:=List.length_map _
 have hia:∀ (A:List Int) (z:Int),ints (A++[z])=ints A++[Data.int .i64 z]:=fun A z=>List.map_append
 unfold seg33
 have h1:a.u.length=0:=by rw [h0]; rfl
 refine loop_st (fun k:Nat=>⟨[(2,.ptr 0 0),(3,.ptr 1 0),(4,.ptr 2 0),(8,.ptr 4 0),(9,.d (.bool false)),(10,.d (.int .i64 ((k:Nat))))],[.cbox [.int .i64 (a.b),.int .i64 (a.d),.int .i64 a.s,.int .i64 a.e,.int .u8 a.k.a,.int .u8 a.k.b,.int .u8 a.k.c,.int .u8 a.k.d,.int .u8 a.k.e,.int .u8 a.k.f,.int .u8 a.k.g,.int .u8 a.k.h,.int .u8 a.n.a,.int .u8 a.n.b,.int .u8 a.n.c,.int .u8 a.n.d,.int .u8 a.n.e,.int .u8 a.n.f,.int .u8 a.n.g,.int .u8 a.n.h,.bool c,.slice 1 (ints a.u)],.cbox [.int .i64 n,.int .i64 m,.int .u8 q.a,.int .u8 q.b,.int .u8 q.c,.int .u8 q.d,.int .u8 q.e,.int .u8 q.f,.int .u8 q.g,.int .u8 q.h],.box [.d (.int .i64 0),.d (.int .i64 0),.d (.int .i64 0),.d (.int .i64 0),.d (.int .u8 0),.d (.int .u8 0),.d (.int .u8 0),.d (.int .u8 0),.d (.int .u8 0),.d (.int .u8 0),.d (.int .u8 0),.d (.int .u8 0),.d (.int .u8 0),.d (.int .u8 0),.d (.int .u8 0),.d (.int .u8 0),.d (.int .u8 0),.d (.int .u8 0),.d (.int .u8 0),.d (.int .u8 0),.d (.bool false),.nils 1],.none,.box [.d (.int .i64 B),.d (.int .i64 D),.d (.int .i64 a.s),.d (.int .i64 a.e),.d (.int .u8 a.k.a),.d (.int .u8 a.k.b),.d (.int .u8 a.k.c),.d (.int .u8 a.k.d),.d (.int .u8 a.k.e),.d (.int .u8 a.k.f),.d (.int .u8 a.k.g),.d (.int .u8 a.k.h),.d (.int .u8 a.n.a),.d (.int .u8 a.n.b),.d (.int .u8 a.n.c),.d (.int .u8 a.n.d),.d (.int .u8 a.n.e),.d (.int .u8 a.n.f),.d (.int .u8 a.n.g),.d (.int .u8 a.n.h),.d (.bool c),.nils 1],.none,.none,.none,.none,.none,.none]⟩) (fun k=>k=0) (fun k=>0) 0 rfl rfl ?_
 intro k hk
 have hk:k=0:=hk
 subst hk
 refine sd ?_
 refine b_lt (fun t1=>?_) (fun t1=>?_)
 (exfalso; omega)
 rotate_left
 all_goals exact hQ _
end Vc
