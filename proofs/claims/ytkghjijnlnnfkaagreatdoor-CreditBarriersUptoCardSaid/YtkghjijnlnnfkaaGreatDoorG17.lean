import Derived.Test.YtkghjijnlnnfkaaGreatDoorG16
set_option linter.unusedSectionVars false
set_option linter.unusedVariables false
set_option linter.unusedSimpArgs false
set_option maxRecDepth 10000
set_option maxHeartbeats 4000000
namespace Vc
open Go Go.Proofs
def jr145:AFun:=⟨6,2,[.tmp 4],
 (.seq
 (.reg [0,1] [⟨some 2,.cbx 0 1 (.tmp 0),none⟩,
  ⟨some 3,.cbx 1 1 (.tmp 1),none⟩,
  ⟨some 4,.mov (.cst .undef),none⟩])
 (.seq
  (.reg [] [⟨some 5,.mkf (.func 164) [] [(.tmp 3),(.tmp 2)],none⟩,
   ⟨some 4,.mov (.tmp 5),none⟩])
  .ret))⟩
def jr164:AFun:=⟨25,0,[],
 (.seq
 (.reg [] [⟨some 6,.ld false 1 (.tmp 1),none⟩,
  ⟨some 4,.mov (.tmp 6),none⟩,
  ⟨some 5,.mov (.cst (.d (.bool true))),none⟩])
 (.post [] []
  (.block 0
  (.keep [0,1,2,4,5] []
   (.loop
   (.post [0,1,2,4,5] []
    (.seq
    (.seq
     (.reg [] [⟨some 7,.mov (.tmp 5),none⟩,
      ⟨some 8,.mov (.tmp 7),none⟩,
      ⟨some 9,.mov (.tmp 4),some (8,true)⟩,
      ⟨some 10,.ld false 1 (.tmp 1),some (8,true)⟩,
      ⟨some 11,.arith .add .i64 (.tmp 10) (.cst (.d (.int .i64 691200))),some (8,true)⟩,
      ⟨some 12,.mini (.cst (.d (.int .i64 100000000))) (.tmp 11),some (8,true)⟩,
      ⟨some 13,.cmp .leq (.tmp 9) (.tmp 12),some (8,true)⟩,
      ⟨some 14,.pick (.tmp 8) (.tmp 13) (.cst (.d (.bool false))),none⟩])
     (.cond (.tmp 14)
     .skip
     (.exit 0)))
    (.block 1
     (.seq
     (.seq
      (.reg [] [⟨some 15,.mov (.tmp 0),none⟩,
       ⟨some 16,.mov (.tmp 4),none⟩,
       ⟨some 17,.callv (.tmp 15) [(.tmp 16)],none⟩,
       ⟨some 18,.not (.tmp 17),none⟩])
      (.cond (.tmp 18)
      .ret
      .skip))
     (.reg [] [⟨some 20,.ld false 1 (.tmp 2),none⟩,
      ⟨some 21,.mov (.tmp 4),none⟩,
      ⟨some 22,.call 113 [(.tmp 20),(.tmp 21)],none⟩,
      ⟨some 19,.mov (.tmp 22),none⟩,
      ⟨some 23,.ext 0 (.tmp 19),none⟩,
      ⟨some 24,.ext 1 (.tmp 19),none⟩,
      ⟨some 4,.mov (.tmp 23),none⟩,
      ⟨some 5,.mov (.tmp 24),none⟩]))))))))))⟩
def jr48:AFun:=⟨21,1,[.tmp 4,.tmp 5],
 (.seq
 (.reg [] [⟨some 4,.mov (.cst (.d (.int .i64 0))),none⟩,
  ⟨some 5,.mov (.cst (.d (.int .i64 0))),none⟩])
 (.seq
  (.seq
  (.reg [0] [⟨some 7,.mov (.tmp 0),none⟩,
   ⟨some 8,.call 55 [(.tmp 7)],none⟩,
   ⟨some 9,.mov (.tmp 1),none⟩,
   ⟨some 10,.call 112 [(.tmp 9)],none⟩,
   ⟨some 11,.bsl 0 30 1 2 [(.int .i64 0),(.int .i64 0)] [(0,(.tmp 8)),(1,(.tmp 10))],none⟩,
   ⟨some 12,.call 90 [(.tmp 11)],none⟩,
   ⟨some 6,.mov (.tmp 12),none⟩])
  (.seq
   (.reg [] [⟨some 13,.mov (.tmp 6),none⟩,
    ⟨some 14,.cmp .neq (.tmp 13) (.cst (.d (.int .i64 0))),none⟩])
   (.cond (.tmp 14)
   (.seq
    (.reg [] [⟨some 15,.mov (.tmp 6),none⟩,
     ⟨some 4,.mov (.cst (.d (.int .i64 0))),none⟩,
     ⟨some 5,.mov (.tmp 15),none⟩])
    .ret)
   .skip)))
  (.seq
  (.reg [] [⟨some 16,.mov (.tmp 0),none⟩,
   ⟨some 17,.mov (.tmp 1),none⟩,
   ⟨some 18,.call 114 [(.tmp 16),(.tmp 17)],none⟩,
   ⟨some 19,.ext 0 (.tmp 18),none⟩,
   ⟨some 20,.ext 1 (.tmp 18),none⟩,
   ⟨some 4,.mov (.tmp 19),none⟩,
   ⟨some 5,.mov (.tmp 20),none⟩])
  .ret)))⟩
def jr49:AFun:=⟨44,2,[.tmp 8,.tmp 9],
 (.seq
 (.reg [0] [⟨some 4,.cbx 0 22 (.tmp 0),none⟩,
  ⟨some 8,.mov (.cst (.d (.int .i64 0))),none⟩,
  ⟨some 9,.mov (.cst (.d (.int .i64 0))),none⟩])
 (.seq
  (.seq
  (.reg [1] [⟨some 13,.ld true 22 (.tmp 4),none⟩,
   ⟨some 14,.call 25 [(.tmp 13)],none⟩,
   ⟨some 15,.mov (.tmp 1),none⟩,
   ⟨some 16,.call 55 [(.tmp 15)],none⟩,
   ⟨some 17,.mov (.tmp 2),none⟩,
   ⟨some 18,.call 112 [(.tmp 17)],none⟩,
   ⟨some 19,.mov (.tmp 3),none⟩,
   ⟨some 20,.call 91 [(.tmp 19),(.cst (.d (.int .i64 1))),(.cst (.d (.int .i64 100000)))],none⟩,
   ⟨some 21,.bsl 1 30 1 4 [(.int .i64 0),(.int .i64 0),(.int .i64 0),(.int .i64 0)] [(0,(.tmp 14)),(1,(.tmp 16)),(2,(.tmp 18)),(3,(.tmp 20))],none⟩,
   ⟨some 22,.call 90 [(.tmp 21)],none⟩,
   ⟨some 10,.mov (.tmp 22),none⟩])
  (.seq
   (.reg [] [⟨some 23,.mov (.tmp 10),none⟩,
    ⟨some 24,.cmp .neq (.tmp 23) (.cst (.d (.int .i64 0))),none⟩])
   (.cond (.tmp 24)
   (.seq
    (.reg [] [⟨some 25,.mov (.tmp 10),none⟩,
     ⟨some 8,.mov (.cst (.d (.int .i64 0))),none⟩,
     ⟨some 9,.mov (.tmp 25),none⟩])
    .ret)
   .skip)))
  (.seq
  (.reg [] [⟨some 26,.mov (.tmp 2),none⟩,
   ⟨some 11,.mov (.tmp 26),none⟩])
  (.seq
   (.seq
   (.reg [] [⟨some 27,.ld true 22 (.tmp 4),none⟩,
    ⟨some 28,.call 95 [(.tmp 27)],none⟩,
    ⟨some 12,.mov (.tmp 28),none⟩])
   (.seq
    (.reg [] [⟨some 29,.mov (.tmp 12),none⟩,
     ⟨some 30,.cmp .geq (.tmp 29) (.cst (.d (.int .i64 0))),none⟩])
    (.cond (.tmp 30)
    (.reg [] [⟨some 31,.mov (.tmp 2),none⟩,
     ⟨some 32,.mov (.tmp 12),none⟩,
     ⟨some 33,.mov (.tmp 3),none⟩,
     ⟨some 34,.arith .quo .i64 (.tmp 32) (.tmp 33),none⟩,
     ⟨some 35,.arith .add .i64 (.tmp 31) (.tmp 34),none⟩,
     ⟨some 36,.arith .add .i64 (.tmp 35) (.cst (.d (.int .i64 1))),none⟩,
     ⟨some 11,.mov (.tmp 36),none⟩])
    .skip)))
   (.seq
   (.seq
    (.reg [] [⟨some 37,.mov (.tmp 11),none⟩,
     ⟨some 38,.cmp .gtr (.tmp 37) (.cst (.d (.int .i64 100000000))),none⟩])
    (.cond (.tmp 38)
    (.seq
     (.reg [] [⟨some 8,.mov (.cst (.d (.int .i64 0))),none⟩,
      ⟨some 9,.mov (.cst (.d (.int .i64 7))),none⟩])
     .ret)
    .skip))
   (.seq
    (.reg [] [⟨some 39,.mov (.tmp 1),none⟩,
     ⟨some 40,.mov (.tmp 11),none⟩,
     ⟨some 41,.call 114 [(.tmp 39),(.tmp 40)],none⟩,
     ⟨some 42,.ext 0 (.tmp 41),none⟩,
     ⟨some 43,.ext 1 (.tmp 41),none⟩,
     ⟨some 8,.mov (.tmp 42),none⟩,
     ⟨some 9,.mov (.tmp 43),none⟩])
    .ret))))))⟩
section
variable {l : List Hr} {t : Int}
end
structure Kml where
 k:Nat
 l:Int
end Vc
