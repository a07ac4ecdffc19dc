import Derived.Test.YtkghjijnlnnfkaaGreatDoorG15
import Derived.Test.YtkghjijnlnnfkaaGreatDoorG14
set_option linter.unusedSectionVars false
set_option linter.unusedVariables false
set_option linter.unusedSimpArgs false
set_option maxRecDepth 10000
set_option maxHeartbeats 4000000
namespace Vc
open Go Go.Proofs
def hr (h:Hr):Data:=.agg [.bool h.d0,.bool h.d1,.bool h.d2,.bool h.d3,.bool h.d4,.bool h.d5,.bool h.d6,.int .i64 h.f,.int .i64 h.t]
def hrs (l:List Hr):List Data:=l.map hr
def jr117:AFun:=⟨23,1,[.tmp 2],
 (.seq
 (.reg [0] [⟨some 1,.cbx 0 9 (.tmp 0),none⟩,
  ⟨some 2,.mov (.cst (.d (.int .i64 0))),none⟩])
 (.seq
  (.reg [] [⟨some 3,.fad 7 (.tmp 1),none⟩,
   ⟨some 4,.fad 0 (.tmp 3),none⟩,
   ⟨some 5,.ld false 1 (.tmp 4),none⟩,
   ⟨some 6,.cmp .lss (.tmp 5) (.cst (.d (.int .i64 0))),none⟩,
   ⟨some 7,.mov (.tmp 6),none⟩,
   ⟨some 8,.fad 7 (.tmp 1),some (7,false)⟩,
   ⟨some 9,.fad 0 (.tmp 8),some (7,false)⟩,
   ⟨some 10,.ld false 1 (.tmp 9),some (7,false)⟩,
   ⟨some 11,.fad 7 (.tmp 1),some (7,false)⟩,
   ⟨some 12,.fad 1 (.tmp 11),some (7,false)⟩,
   ⟨some 13,.ld false 1 (.tmp 12),some (7,false)⟩,
   ⟨some 14,.cmp .geq (.tmp 10) (.tmp 13),some (7,false)⟩,
   ⟨some 15,.pick (.tmp 7) (.cst (.d (.bool true))) (.tmp 14),none⟩,
   ⟨some 16,.mov (.tmp 15),none⟩,
   ⟨some 17,.fad 7 (.tmp 1),some (16,false)⟩,
   ⟨some 18,.fad 1 (.tmp 17),some (16,false)⟩,
   ⟨some 19,.ld false 1 (.tmp 18),some (16,false)⟩,
   ⟨some 20,.cmp .gtr (.tmp 19) (.cst (.d (.int .i64 86400))),some (16,false)⟩,
   ⟨some 21,.pick (.tmp 16) (.cst (.d (.bool true))) (.tmp 20),none⟩,
   ⟨some 22,.call 92 [(.tmp 21),(.cst (.d (.int .i64 14)))],none⟩,
   ⟨some 2,.mov (.tmp 22),none⟩])
  .ret))⟩
def jr116:AFun:=⟨22,3,[.tmp 4],
 (.seq
 (.reg [] [⟨some 4,.mov (.cst (.nils 1)),none⟩])
 (.seq
  (.reg [] [⟨some 5,.mov (.cst (.nils 1)),none⟩])
  (.seq
  (.seq
   (.reg [] [⟨some 8,.mov (.tmp 0),none⟩,
    ⟨some 9,.len (.tmp 8),none⟩,
    ⟨some 10,.mov (.cst (.d (.int .i64 0))),none⟩])
   (.post [5] [0,1,2]
   (.block 0
    (.asrow 2 30 1 5
    (.keep [1,5,8,9,10] []
     (.loop
     (.post [1,5,8,9,10] [0,1,2]
      (.seq
      (.reg [] [⟨some 11,.cmp .lss (.tmp 10) (.tmp 9),none⟩])
      (.seq
       (.cond (.tmp 11)
       .skip
       (.exit 0))
       (.seq
       (.block 1
        (.seq
        (.reg [0] [⟨some 12,.ixa 9 (.tmp 8) (.tmp 10),none⟩,
         ⟨some 13,.ld true 9 (.tmp 12),none⟩,
         ⟨some 7,.alloc 0 [(.d (.bool false)),(.d (.bool false)),(.d (.bool false)),(.d (.bool false)),(.d (.bool false)),(.d (.bool false)),(.d (.bool false)),(.d (.int .i64 0)),(.d (.int .i64 0))],none⟩,
         ⟨none,.st 9 (.tmp 7) (.tmp 13),none⟩])
        (.reg [1,2] [⟨some 14,.mov (.tmp 5),none⟩,
         ⟨some 15,.mov (.tmp 1),none⟩,
         ⟨some 16,.ld true 9 (.tmp 7),none⟩,
         ⟨some 17,.callv (.tmp 15) [(.tmp 16)],none⟩,
         ⟨some 18,.bsl 1 30 1 1 [(.int .i64 0)] [(0,(.tmp 17))],none⟩,
         ⟨some 19,.app 2 30 1 8 (.tmp 14) (.tmp 18),none⟩,
         ⟨some 5,.mov (.tmp 19),none⟩])))
       (.reg [] [⟨some 20,.arith .add .i64 (.tmp 10) (.cst (.d (.int .i64 1))),none⟩,
        ⟨some 10,.mov (.tmp 20),none⟩])))))))))))
  (.seq
   (.reg [] [⟨some 21,.mov (.tmp 5),none⟩,
    ⟨some 4,.mov (.tmp 21),none⟩])
   .ret))))⟩
def jr55:AFun:=⟨9,0,[.tmp 2],
 (.seq
 (.reg [] [⟨some 2,.mov (.cst (.d (.int .i64 0))),none⟩])
 (.seq
  (.seq
  (.reg [] [⟨some 3,.mov (.tmp 0),none⟩,
   ⟨some 4,.len (.tmp 3),none⟩,
   ⟨some 5,.cmp .gtr (.tmp 4) (.cst (.d (.int .i64 16))),none⟩])
  (.cond (.tmp 5)
   (.seq
   (.reg [] [⟨some 2,.mov (.cst (.d (.int .i64 5))),none⟩])
   .ret)
   .skip))
  (.seq
  (.reg [] [⟨some 6,.mov (.tmp 0),none⟩,
   ⟨some 7,.call 116 [(.tmp 6),(.cst (.d (.fn (.func 117) [])))],none⟩,
   ⟨some 8,.call 90 [(.tmp 7)],none⟩,
   ⟨some 2,.mov (.tmp 8),none⟩])
  .ret)))⟩
def jr112:AFun:=⟨5,0,[.tmp 2],
 (.seq
 (.reg [] [⟨some 2,.mov (.cst (.d (.int .i64 0))),none⟩])
 (.seq
  (.reg [] [⟨some 3,.mov (.tmp 0),none⟩,
   ⟨some 4,.call 91 [(.tmp 3),(.cst (.d (.int .i64 0))),(.cst (.d (.int .i64 100000000)))],none⟩,
   ⟨some 2,.mov (.tmp 4),none⟩])
  .ret))⟩
def jr51:AFun:=⟨5,0,[.tmp 2],
 (.seq
 (.reg [] [⟨some 2,.mov (.cst (.d (.int .i64 0))),none⟩])
 (.seq
  (.reg [] [⟨some 3,.mov (.tmp 0),none⟩,
   ⟨some 4,.call 22 [(.tmp 3),(.cst (.d (.int .i64 0))),(.cst (.d (.int .i64 100000000)))],none⟩,
   ⟨some 2,.mov (.tmp 4),none⟩])
  .ret))⟩
def jr46:AFun:=⟨25,1,[.tmp 4,.tmp 5],
 (.seq
 (.reg [] [⟨some 4,.mov (.cst (.d (.bool false))),none⟩,
  ⟨some 5,.mov (.cst (.d (.int .i64 0))),none⟩])
 (.seq
  (.seq
  (.reg [0] [⟨some 9,.mov (.tmp 0),none⟩,
   ⟨some 10,.call 55 [(.tmp 9)],none⟩,
   ⟨some 11,.mov (.tmp 1),none⟩,
   ⟨some 12,.call 112 [(.tmp 11)],none⟩,
   ⟨some 13,.bsl 0 30 1 2 [(.int .i64 0),(.int .i64 0)] [(0,(.tmp 10)),(1,(.tmp 12))],none⟩,
   ⟨some 14,.call 90 [(.tmp 13)],none⟩,
   ⟨some 6,.mov (.tmp 14),none⟩])
  (.seq
   (.reg [] [⟨some 15,.mov (.tmp 6),none⟩,
    ⟨some 16,.cmp .neq (.tmp 15) (.cst (.d (.int .i64 0))),none⟩])
   (.cond (.tmp 16)
   (.seq
    (.reg [] [⟨some 17,.mov (.tmp 6),none⟩,
     ⟨some 4,.mov (.cst (.d (.bool false))),none⟩,
     ⟨some 5,.mov (.tmp 17),none⟩])
    .ret)
   .skip)))
  (.seq
  (.reg [] [⟨some 19,.mov (.tmp 0),none⟩,
   ⟨some 20,.mov (.tmp 1),none⟩,
   ⟨some 21,.call 113 [(.tmp 19),(.tmp 20)],none⟩,
   ⟨some 18,.mov (.tmp 21),none⟩,
   ⟨some 22,.ext 0 (.tmp 18),none⟩,
   ⟨some 23,.ext 1 (.tmp 18),none⟩,
   ⟨some 7,.mov (.tmp 22),none⟩,
   ⟨some 8,.mov (.tmp 23),none⟩])
  (.seq
   (.reg [] [⟨some 24,.mov (.tmp 8),none⟩,
    ⟨some 4,.mov (.tmp 24),none⟩,
    ⟨some 5,.mov (.cst (.d (.int .i64 0))),none⟩])
   .ret))))⟩
def jr113:AFun:=⟨53,1,[.tmp 4,.tmp 5],
 (.seq
 (.reg [] [⟨some 4,.mov (.cst (.d (.int .i64 0))),none⟩,
  ⟨some 5,.mov (.cst (.d (.bool false))),none⟩])
 (.seq
  (.reg [] [⟨some 12,.mov (.tmp 1),none⟩,
   ⟨some 13,.arith .quo .i64 (.tmp 12) (.cst (.d (.int .i64 86400))),none⟩,
   ⟨some 14,.mov (.tmp 1),none⟩,
   ⟨some 15,.arith .rem .i64 (.tmp 14) (.cst (.d (.int .i64 86400))),none⟩,
   ⟨some 6,.mov (.tmp 13),none⟩,
   ⟨some 7,.mov (.tmp 15),none⟩])
  (.seq
  (.reg [] [⟨some 16,.mov (.tmp 1),none⟩,
   ⟨some 8,.mov (.tmp 16),none⟩,
   ⟨some 9,.mov (.cst (.d (.bool false))),none⟩])
  (.seq
   (.seq
   (.reg [] [⟨some 17,.mov (.tmp 0),none⟩,
    ⟨some 18,.len (.tmp 17),none⟩,
    ⟨some 19,.mov (.cst (.d (.int .i64 0))),none⟩])
   (.post [8,9] [0]
    (.block 0
    (.keep [6,7,8,9,17,18,19] []
     (.loop
     (.post [6,7,8,9,17,18,19] [0]
      (.seq
      (.reg [] [⟨some 20,.cmp .lss (.tmp 19) (.tmp 18),none⟩])
      (.seq
       (.cond (.tmp 20)
       .skip
       (.exit 0))
       (.seq
       (.block 1
        (.seq
        (.reg [0] [⟨some 21,.ixa 9 (.tmp 17) (.tmp 19),none⟩,
         ⟨some 22,.ld true 9 (.tmp 21),none⟩,
         ⟨some 11,.alloc 0 [(.d (.bool false)),(.d (.bool false)),(.d (.bool false)),(.d (.bool false)),(.d (.bool false)),(.d (.bool false)),(.d (.bool false)),(.d (.int .i64 0)),(.d (.int .i64 0))],none⟩,
         ⟨none,.st 9 (.tmp 11) (.tmp 22),none⟩])
        (.seq
         (.reg [] [⟨some 23,.mov (.tmp 6),none⟩,
          ⟨some 24,.arith .rem .i64 (.tmp 23) (.cst (.d (.int .i64 7))),none⟩,
          ⟨some 25,.fad 0 (.tmp 11),none⟩,
          ⟨some 26,.ixp 7 1 (.tmp 25) (.tmp 24),none⟩,
          ⟨some 27,.ld false 1 (.tmp 26),none⟩,
          ⟨some 28,.mov (.tmp 27),none⟩,
          ⟨some 29,.mov (.tmp 7),some (28,true)⟩,
          ⟨some 30,.fad 7 (.tmp 11),some (28,true)⟩,
          ⟨some 31,.fad 0 (.tmp 30),some (28,true)⟩,
          ⟨some 32,.ld false 1 (.tmp 31),some (28,true)⟩,
          ⟨some 33,.cmp .geq (.tmp 29) (.tmp 32),some (28,true)⟩,
          ⟨some 34,.pick (.tmp 28) (.tmp 33) (.cst (.d (.bool false))),none⟩,
          ⟨some 35,.mov (.tmp 34),none⟩,
          ⟨some 36,.mov (.tmp 7),some (35,true)⟩,
          ⟨some 37,.fad 7 (.tmp 11),some (35,true)⟩,
          ⟨some 38,.fad 1 (.tmp 37),some (35,true)⟩,
          ⟨some 39,.ld false 1 (.tmp 38),some (35,true)⟩,
          ⟨some 40,.cmp .lss (.tmp 36) (.tmp 39),some (35,true)⟩,
          ⟨some 41,.pick (.tmp 35) (.tmp 40) (.cst (.d (.bool false))),none⟩])
         (.cond (.tmp 41)
         (.reg [] [⟨some 42,.mov (.tmp 8),none⟩,
          ⟨some 43,.mov (.tmp 6),none⟩,
          ⟨some 44,.arith .mul .i64 (.tmp 43) (.cst (.d (.int .i64 86400))),none⟩,
          ⟨some 45,.fad 7 (.tmp 11),none⟩,
          ⟨some 46,.fad 1 (.tmp 45),none⟩,
          ⟨some 47,.ld false 1 (.tmp 46),none⟩,
          ⟨some 48,.arith .add .i64 (.tmp 44) (.tmp 47),none⟩,
          ⟨some 49,.maxi (.tmp 42) (.tmp 48),none⟩,
          ⟨some 8,.mov (.tmp 49),none⟩,
          ⟨some 9,.mov (.cst (.d (.bool true))),none⟩])
         .skip))))
       (.reg [] [⟨some 50,.arith .add .i64 (.tmp 19) (.cst (.d (.int .i64 1))),none⟩,
        ⟨some 19,.mov (.tmp 50),none⟩]))))))))))
   (.seq
   (.reg [] [⟨some 51,.mov (.tmp 8),none⟩,
    ⟨some 52,.mov (.tmp 9),none⟩,
    ⟨some 4,.mov (.tmp 51),none⟩,
    ⟨some 5,.mov (.tmp 52),none⟩])
   .ret)))))⟩
theorem c112 (n:Int):CallDet Tryz.prog 112 [.d (.int .i64 n)] [.int .i64 (within3 n 0 100000000)]:=by
 have c91_:=c91 n 0 100000000
 refine call_of_vc (x:=jr112) (by kernel_rfl) rfl ?_
 refine ca c91_ ?_
 exact rfl
theorem c51 (n:Int):CallDet Tryz.prog 51 [.d (.int .i64 n)] [.int .i64 (within3 n 0 100000000)]:=by
 have c22_:=c22 n 0 100000000
 refine call_of_vc (x:=jr51) (by kernel_rfl) rfl ?_
 refine ca c22_ ?_
 exact rfl
structure Kmb where
 k:Nat
 m:Int
 b:Bool
end Vc
