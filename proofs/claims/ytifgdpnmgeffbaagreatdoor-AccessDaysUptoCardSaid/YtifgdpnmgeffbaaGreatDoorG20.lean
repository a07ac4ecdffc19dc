import Derived.Test.YtifgdpnmgeffbaaGreatDoorG19
set_option linter.unusedSectionVars false
set_option linter.unusedVariables false
set_option linter.unusedSimpArgs false
set_option maxRecDepth 10000
set_option maxHeartbeats 4000000
namespace Vc
open Go Go.Proofs
def jr17:AFun:=⟨100,4,[.tmp 12],
 (.seq
 (.reg [0] [⟨some 6,.cbx 0 2 (.tmp 0),none⟩,
  ⟨some 12,.mov (.cst (.d (.int .i64 0))),none⟩])
 (.seq
  (.reg [1] [⟨some 22,.ld true 2 (.tmp 6),none⟩,
   ⟨some 23,.mov (.tmp 2),none⟩,
   ⟨some 24,.mov (.tmp 3),none⟩,
   ⟨some 25,.build [(.nils 2),(.nils 6),(.d (.str [])),(.d (.str []))] [(0,2,(.tmp 22)),(2,1,(.tmp 23)),(3,1,(.tmp 24))],none⟩,
   ⟨some 13,.alloc 1 [(.nils 2),(.nils 6),(.d (.str [])),(.d (.str []))],none⟩,
   ⟨none,.st 4 (.tmp 13) (.tmp 25),none⟩])
  (.seq
  (.seq
   (.reg [2] [⟨some 26,.ld true 2 (.tmp 6),none⟩,
    ⟨some 27,.mov (.tmp 1),none⟩,
    ⟨some 28,.ld true 4 (.tmp 13),none⟩,
    ⟨some 29,.call 100 [(.tmp 26),(.tmp 27),(.tmp 28)],none⟩,
    ⟨some 30,.mov (.tmp 4),none⟩,
    ⟨some 31,.call 101 [(.tmp 30)],none⟩,
    ⟨some 32,.mov (.tmp 5),none⟩,
    ⟨some 33,.len (.tmp 32),none⟩,
    ⟨some 34,.cmp .gtr (.tmp 33) (.cst (.d (.int .i64 32))),none⟩,
    ⟨some 35,.call 103 [(.tmp 34),(.cst (.d (.int .i64 5)))],none⟩,
    ⟨some 36,.bsl 2 32 1 3 [(.int .i64 0),(.int .i64 0),(.int .i64 0)] [(0,(.tmp 29)),(1,(.tmp 31)),(2,(.tmp 35))],none⟩,
    ⟨some 37,.call 99 [(.tmp 36)],none⟩,
    ⟨some 14,.mov (.tmp 37),none⟩])
   (.seq
   (.reg [] [⟨some 38,.mov (.tmp 14),none⟩,
    ⟨some 39,.cmp .neq (.tmp 38) (.cst (.d (.int .i64 0))),none⟩])
   (.cond (.tmp 39)
    (.seq
    (.reg [] [⟨some 40,.mov (.tmp 14),none⟩,
     ⟨some 12,.mov (.tmp 40),none⟩])
    .ret)
    .skip)))
  (.seq
   (.seq
   (.reg [] [⟨some 41,.mov (.tmp 5),none⟩,
    ⟨some 42,.mkf (.func 105) [] [(.tmp 6)],none⟩,
    ⟨some 43,.call 104 [(.tmp 41),(.tmp 42)],none⟩])
   (.cond (.tmp 43)
    (.seq
    (.reg [] [⟨some 12,.mov (.cst (.d (.int .i64 10))),none⟩])
    .ret)
    .skip))
   (.seq
   (.seq
    (.reg [] [⟨some 44,.mov (.tmp 5),none⟩,
     ⟨some 45,.len (.tmp 44),none⟩,
     ⟨some 46,.mov (.cst (.d (.int .i64 0))),none⟩])
    (.post [1,3,4,5,6,13] [0,1,2]
    (.block 0
     (.keep [1,3,4,5,6,13,44,45,46] [0,1,2]
     (.loop
      (.post [1,3,4,5,6,13,44,45,46] []
      (.seq
       (.reg [] [⟨some 47,.cmp .lss (.tmp 46) (.tmp 45),none⟩])
       (.seq
       (.cond (.tmp 47)
        .skip
        (.exit 0))
       (.seq
        (.block 1
        (.seq
         (.reg [] [⟨some 48,.mov (.tmp 46),none⟩,
          ⟨some 49,.ixa 1 (.tmp 44) (.tmp 46),none⟩,
          ⟨some 50,.ld false 1 (.tmp 49),none⟩,
          ⟨some 15,.mov (.tmp 48),none⟩,
          ⟨some 16,.mov (.tmp 50),none⟩])
         (.seq
         (.reg [] [⟨some 51,.mov (.tmp 5),none⟩,
          ⟨some 52,.mov (.tmp 15),none⟩,
          ⟨some 53,.slc 1 (.tmp 51) none (some (.tmp 52)),none⟩,
          ⟨some 54,.mov (.tmp 16),none⟩,
          ⟨some 55,.call 106 [(.tmp 53),(.tmp 54)],none⟩])
         (.cond (.tmp 55)
          (.seq
          (.reg [] [⟨some 12,.mov (.cst (.d (.int .i64 9))),none⟩])
          .ret)
          .skip))))
        (.reg [] [⟨some 56,.arith .add .i64 (.tmp 46) (.cst (.d (.int .i64 1))),none⟩,
         ⟨some 46,.mov (.tmp 56),none⟩]))))))))))
   (.seq
    (.reg [] [⟨some 58,.fad 0 (.tmp 13),none⟩,
     ⟨some 59,.ld true 2 (.tmp 58),none⟩,
     ⟨some 60,.mov (.tmp 3),none⟩,
     ⟨some 61,.call 107 [(.tmp 59),(.tmp 60)],none⟩,
     ⟨some 57,.mov (.tmp 61),none⟩,
     ⟨some 62,.ext 0 (.tmp 57),none⟩,
     ⟨some 63,.ext 1 (.tmp 57),none⟩,
     ⟨some 17,.mov (.tmp 62),none⟩,
     ⟨some 18,.mov (.tmp 63),none⟩])
    (.seq
    (.seq
     (.reg [] [⟨some 64,.mov (.tmp 1),none⟩,
      ⟨some 65,.mov (.tmp 17),none⟩,
      ⟨some 66,.seq false (.tmp 64) (.tmp 65),none⟩])
     (.cond (.tmp 66)
     (.seq
      (.reg [] [⟨some 67,.mov (.tmp 5),none⟩,
       ⟨some 68,.len (.tmp 67),none⟩,
       ⟨some 69,.cmp .gtr (.tmp 68) (.cst (.d (.int .i64 0))),none⟩,
       ⟨some 70,.call 103 [(.tmp 69),(.cst (.d (.int .i64 19)))],none⟩,
       ⟨some 12,.mov (.tmp 70),none⟩])
      .ret)
     .skip))
    (.seq
     (.seq
     (.reg [] [⟨some 71,.mov (.tmp 5),none⟩,
      ⟨some 72,.len (.tmp 71),none⟩,
      ⟨some 73,.mov (.cst (.d (.int .i64 0))),none⟩])
     (.post [1,17] [0,1,2,3]
      (.block 2
      (.keep [1,4,6,13,17,71,72,73] [0,1,2]
       (.loop
       (.post [1,4,6,13,17,71,72,73] [3]
        (.seq
        (.reg [] [⟨some 74,.cmp .lss (.tmp 73) (.tmp 72),none⟩])
        (.seq
         (.cond (.tmp 74)
         .skip
         (.exit 2))
         (.seq
         (.block 3
          (.seq
          (.reg [] [⟨some 75,.ixa 1 (.tmp 71) (.tmp 73),none⟩,
           ⟨some 76,.ld false 1 (.tmp 75),none⟩,
           ⟨some 20,.mov (.tmp 76),none⟩])
          (.seq
           (.reg [3] [⟨some 77,.fad 1 (.tmp 6),none⟩,
            ⟨some 78,.ld false 1 (.tmp 77),none⟩,
            ⟨some 79,.mov (.tmp 20),none⟩,
            ⟨some 80,.ixa 6 (.tmp 78) (.tmp 79),none⟩,
            ⟨some 81,.ld true 6 (.tmp 80),none⟩,
            ⟨some 21,.alloc 3 [(.d (.str [])),(.d (.str [])),(.d (.str [])),(.d (.str [])),(.d (.int .i64 0)),(.d (.int .i64 0))],none⟩,
            ⟨none,.st 6 (.tmp 21) (.tmp 81),none⟩])
           (.seq
           (.seq
            (.reg [] [⟨some 82,.fad 0 (.tmp 21),none⟩,
             ⟨some 83,.ld false 1 (.tmp 82),none⟩,
             ⟨some 84,.mov (.tmp 17),none⟩,
             ⟨some 85,.seq true (.tmp 83) (.tmp 84),none⟩,
             ⟨some 86,.mov (.tmp 85),none⟩,
             ⟨some 87,.ld true 4 (.tmp 13),some (86,false)⟩,
             ⟨some 88,.ld true 6 (.tmp 21),some (86,false)⟩,
             ⟨some 89,.mov (.tmp 4),some (86,false)⟩,
             ⟨some 90,.call 108 [(.tmp 87),(.tmp 88),(.tmp 89)],some (86,false)⟩,
             ⟨some 91,.not (.tmp 90),some (86,false)⟩,
             ⟨some 92,.pick (.tmp 86) (.cst (.d (.bool true))) (.tmp 91),none⟩])
            (.cond (.tmp 92)
            (.seq
             (.reg [] [⟨some 12,.mov (.cst (.d (.int .i64 19))),none⟩])
             .ret)
            .skip))
           (.reg [] [⟨some 93,.fad 1 (.tmp 21),none⟩,
            ⟨some 94,.ld false 1 (.tmp 93),none⟩,
            ⟨some 17,.mov (.tmp 94),none⟩])))))
         (.reg [] [⟨some 95,.arith .add .i64 (.tmp 73) (.cst (.d (.int .i64 1))),none⟩,
          ⟨some 73,.mov (.tmp 95),none⟩]))))))))))
     (.seq
     (.reg [] [⟨some 96,.mov (.tmp 17),none⟩,
      ⟨some 97,.mov (.tmp 1),none⟩,
      ⟨some 98,.seq true (.tmp 96) (.tmp 97),none⟩,
      ⟨some 99,.call 103 [(.tmp 98),(.cst (.d (.int .i64 19)))],none⟩,
      ⟨some 12,.mov (.tmp 99),none⟩])
     .ret)))))))))⟩
end Vc
