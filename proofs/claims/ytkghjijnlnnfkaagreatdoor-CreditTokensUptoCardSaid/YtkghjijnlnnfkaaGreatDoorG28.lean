import Derived.Test.YtkghjijnlnnfkaaGreatDoorG19
import Derived.Test.YtkghjijnlnnfkaaGreatDoorG24
set_option linter.unusedSectionVars false
set_option linter.unusedVariables false
set_option linter.unusedSimpArgs false
set_option maxRecDepth 10000
set_option maxHeartbeats 4000000
namespace Vc
open Go Go.Proofs
def jr29:AFun:=⟨62,8,[.cell 4 22 true,.tmp 5,.tmp 6],
 (.seq
 (.reg [0,1] [⟨some 2,.cbx 0 22 (.tmp 0),none⟩,
  ⟨some 4,.alloc 1 [(.d (.int .i64 0)),(.d (.int .i64 0)),(.d (.int .i64 0)),(.d (.int .i64 0)),(.d (.int .u8 0)),(.d (.int .u8 0)),(.d (.int .u8 0)),(.d (.int .u8 0)),(.d (.int .u8 0)),(.d (.int .u8 0)),(.d (.int .u8 0)),(.d (.int .u8 0)),(.d (.int .u8 0)),(.d (.int .u8 0)),(.d (.int .u8 0)),(.d (.int .u8 0)),(.d (.int .u8 0)),(.d (.int .u8 0)),(.d (.int .u8 0)),(.d (.int .u8 0)),(.d (.bool false)),(.nils 1)],none⟩,
  ⟨some 5,.mov (.cst (.nils 1)),none⟩,
  ⟨some 6,.mov (.cst (.d (.int .i64 0))),none⟩])
 (.seq
  (.seq
  (.reg [2] [⟨some 15,.ld true 22 (.tmp 2),none⟩,
   ⟨some 16,.call 25 [(.tmp 15)],none⟩,
   ⟨some 17,.mov (.tmp 1),none⟩,
   ⟨some 18,.len (.tmp 17),none⟩,
   ⟨some 19,.cmp .gtr (.tmp 18) (.cst (.d (.int .i64 256))),none⟩,
   ⟨some 20,.call 92 [(.tmp 19),(.cst (.d (.int .i64 5)))],none⟩,
   ⟨some 21,.bsl 2 30 1 2 [(.int .i64 0),(.int .i64 0)] [(0,(.tmp 16)),(1,(.tmp 20))],none⟩,
   ⟨some 22,.call 90 [(.tmp 21)],none⟩,
   ⟨some 7,.mov (.tmp 22),none⟩])
  (.seq
   (.reg [] [⟨some 23,.mov (.tmp 7),none⟩,
    ⟨some 24,.cmp .neq (.tmp 23) (.cst (.d (.int .i64 0))),none⟩])
   (.cond (.tmp 24)
   (.seq
    (.reg [] [⟨some 25,.build [(.d (.int .i64 0)),(.d (.int .i64 0)),(.d (.int .i64 0)),(.d (.int .i64 0)),(.d (.int .u8 0)),(.d (.int .u8 0)),(.d (.int .u8 0)),(.d (.int .u8 0)),(.d (.int .u8 0)),(.d (.int .u8 0)),(.d (.int .u8 0)),(.d (.int .u8 0)),(.d (.int .u8 0)),(.d (.int .u8 0)),(.d (.int .u8 0)),(.d (.int .u8 0)),(.d (.int .u8 0)),(.d (.int .u8 0)),(.d (.int .u8 0)),(.d (.int .u8 0)),(.d (.bool false)),(.nils 1)] [],none⟩,
     ⟨some 26,.mov (.tmp 7),none⟩,
     ⟨none,.st 22 (.tmp 4) (.tmp 25),none⟩,
     ⟨some 5,.mov (.cst (.nils 1)),none⟩,
     ⟨some 6,.mov (.tmp 26),none⟩])
    .ret)
   .skip)))
  (.seq
  (.seq
   (.reg [] [⟨some 27,.mov (.tmp 1),none⟩,
    ⟨some 28,.call 101 [(.tmp 27),(.cst (.d (.fn (.func 99) [])))],none⟩,
    ⟨some 29,.call 90 [(.tmp 28)],none⟩,
    ⟨some 8,.mov (.tmp 29),none⟩])
   (.seq
   (.reg [] [⟨some 30,.mov (.tmp 8),none⟩,
    ⟨some 31,.cmp .neq (.tmp 30) (.cst (.d (.int .i64 0))),none⟩])
   (.cond (.tmp 31)
    (.seq
    (.reg [] [⟨some 32,.build [(.d (.int .i64 0)),(.d (.int .i64 0)),(.d (.int .i64 0)),(.d (.int .i64 0)),(.d (.int .u8 0)),(.d (.int .u8 0)),(.d (.int .u8 0)),(.d (.int .u8 0)),(.d (.int .u8 0)),(.d (.int .u8 0)),(.d (.int .u8 0)),(.d (.int .u8 0)),(.d (.int .u8 0)),(.d (.int .u8 0)),(.d (.int .u8 0)),(.d (.int .u8 0)),(.d (.int .u8 0)),(.d (.int .u8 0)),(.d (.int .u8 0)),(.d (.int .u8 0)),(.d (.bool false)),(.nils 1)] [],none⟩,
     ⟨some 33,.mov (.tmp 8),none⟩,
     ⟨none,.st 22 (.tmp 4) (.tmp 32),none⟩,
     ⟨some 5,.mov (.cst (.nils 1)),none⟩,
     ⟨some 6,.mov (.tmp 33),none⟩])
    .ret)
    .skip)))
  (.seq
   (.reg [3] [⟨some 34,.ld true 22 (.tmp 2),none⟩,
    ⟨some 35,.call 93 [(.tmp 34)],none⟩,
    ⟨some 9,.alloc 3 [(.d (.int .i64 0)),(.d (.int .i64 0)),(.d (.int .i64 0)),(.d (.int .i64 0)),(.d (.int .u8 0)),(.d (.int .u8 0)),(.d (.int .u8 0)),(.d (.int .u8 0)),(.d (.int .u8 0)),(.d (.int .u8 0)),(.d (.int .u8 0)),(.d (.int .u8 0)),(.d (.int .u8 0)),(.d (.int .u8 0)),(.d (.int .u8 0)),(.d (.int .u8 0)),(.d (.int .u8 0)),(.d (.int .u8 0)),(.d (.int .u8 0)),(.d (.int .u8 0)),(.d (.bool false)),(.nils 1)],none⟩,
    ⟨none,.st 22 (.tmp 9) (.tmp 35),none⟩])
   (.seq
   (.reg [] [⟨some 10,.mov (.cst (.nils 11)),none⟩])
   (.seq
    (.seq
    (.reg [] [⟨some 36,.mov (.tmp 1),none⟩,
     ⟨some 37,.len (.tmp 36),none⟩,
     ⟨some 38,.mov (.cst (.d (.int .i64 0))),none⟩])
    (.post [4,9,10] [0,1,2,3,4,5,6,7]
     (.block 0
     (.asrow 7 171 11 10
      (.keep [4,9,10,36,37,38] [0,1,2,3]
      (.loop
       (.post [4,9,10,36,37,38] [4,5,6,7]
       (.seq
        (.reg [] [⟨some 39,.cmp .lss (.tmp 38) (.tmp 37),none⟩])
        (.seq
        (.cond (.tmp 39)
         .skip
         (.exit 0))
        (.seq
         (.block 1
         (.seq
          (.reg [4] [⟨some 40,.mov (.tmp 38),none⟩,
           ⟨some 41,.ixa 10 (.tmp 36) (.tmp 38),none⟩,
           ⟨some 42,.ld true 10 (.tmp 41),none⟩,
           ⟨some 12,.alloc 4 [(.d (.int .i64 0)),(.d (.int .i64 0)),(.d (.int .u8 0)),(.d (.int .u8 0)),(.d (.int .u8 0)),(.d (.int .u8 0)),(.d (.int .u8 0)),(.d (.int .u8 0)),(.d (.int .u8 0)),(.d (.int .u8 0))],none⟩,
           ⟨some 11,.mov (.tmp 40),none⟩,
           ⟨none,.st 10 (.tmp 12) (.tmp 42),none⟩])
          (.seq
          (.reg [5] [⟨some 44,.ld true 22 (.tmp 9),none⟩,
           ⟨some 45,.ld true 10 (.tmp 12),none⟩,
           ⟨some 46,.call 100 [(.tmp 44),(.tmp 45)],none⟩,
           ⟨some 43,.mov (.tmp 46),none⟩,
           ⟨some 47,.ext 0 (.tmp 43),none⟩,
           ⟨some 48,.ext 1 (.tmp 43),none⟩,
           ⟨some 13,.alloc 5 [(.d (.int .i64 0)),(.d (.int .i64 0)),(.d (.int .i64 0)),(.d (.int .i64 0)),(.d (.int .u8 0)),(.d (.int .u8 0)),(.d (.int .u8 0)),(.d (.int .u8 0)),(.d (.int .u8 0)),(.d (.int .u8 0)),(.d (.int .u8 0)),(.d (.int .u8 0)),(.d (.int .u8 0)),(.d (.int .u8 0)),(.d (.int .u8 0)),(.d (.int .u8 0)),(.d (.int .u8 0)),(.d (.int .u8 0)),(.d (.int .u8 0)),(.d (.int .u8 0)),(.d (.bool false)),(.nils 1)],none⟩,
           ⟨none,.st 22 (.tmp 13) (.tmp 47),none⟩,
           ⟨some 14,.mov (.tmp 48),none⟩])
          (.seq
           (.reg [] [⟨some 49,.mov (.tmp 14),none⟩,
            ⟨some 50,.cmp .eql (.tmp 49) (.cst (.d (.int .i64 0))),none⟩])
           (.cond (.tmp 50)
           (.regd [6,7] [⟨some 51,.ld true 22 (.tmp 13),none⟩,
            ⟨some 52,.mov (.tmp 10),none⟩,
            ⟨some 53,.ld true 10 (.tmp 12),none⟩,
            ⟨some 54,.mov (.tmp 11),none⟩,
            ⟨some 55,.build [(.d (.int .i64 0)),(.d (.int .i64 0)),(.d (.int .u8 0)),(.d (.int .u8 0)),(.d (.int .u8 0)),(.d (.int .u8 0)),(.d (.int .u8 0)),(.d (.int .u8 0)),(.d (.int .u8 0)),(.d (.int .u8 0)),(.d (.int .i64 0))] [(0,10,(.tmp 53)),(10,1,(.tmp 54))],none⟩,
            ⟨some 56,.bsl 6 171 11 1 [(.agg [(.int .i64 0),(.int .i64 0),(.int .u8 0),(.int .u8 0),(.int .u8 0),(.int .u8 0),(.int .u8 0),(.int .u8 0),(.int .u8 0),(.int .u8 0),(.int .i64 0)])] [(0,(.tmp 55))],none⟩,
            ⟨some 57,.app 7 171 11 32 (.tmp 52) (.tmp 56),none⟩,
            ⟨none,.st 22 (.tmp 9) (.tmp 51),none⟩,
            ⟨some 10,.mov (.tmp 57),none⟩] [(0,1),(0,2),(1,2),(0,3),(1,3),(2,3),(0,4),(1,4),(0,5),(1,5),(0,6)])
           .skip)))))
         (.reg [] [⟨some 58,.arith .add .i64 (.tmp 38) (.cst (.d (.int .i64 1))),none⟩,
          ⟨some 38,.mov (.tmp 58),none⟩])))))))))))
    (.seq
    (.regd [] [⟨some 59,.ld true 22 (.tmp 9),none⟩,
     ⟨some 60,.mov (.tmp 10),none⟩,
     ⟨some 61,.call 102 [(.tmp 60),(.cst (.d (.fn (.func 103) [])))],none⟩,
     ⟨none,.st 22 (.tmp 4) (.tmp 59),none⟩,
     ⟨some 5,.mov (.tmp 61),none⟩,
     ⟨some 6,.mov (.cst (.d (.int .i64 0))),none⟩] [(0,1),(0,2)])
    .ret)))))))⟩
def jr34:AFun:=⟨37,6,[.cell 4 22 true,.tmp 5],
 (.seq
 (.reg [0,1] [⟨some 2,.cbx 0 22 (.tmp 0),none⟩,
  ⟨some 4,.alloc 1 [(.d (.int .i64 0)),(.d (.int .i64 0)),(.d (.int .i64 0)),(.d (.int .i64 0)),(.d (.int .u8 0)),(.d (.int .u8 0)),(.d (.int .u8 0)),(.d (.int .u8 0)),(.d (.int .u8 0)),(.d (.int .u8 0)),(.d (.int .u8 0)),(.d (.int .u8 0)),(.d (.int .u8 0)),(.d (.int .u8 0)),(.d (.int .u8 0)),(.d (.int .u8 0)),(.d (.int .u8 0)),(.d (.int .u8 0)),(.d (.int .u8 0)),(.d (.int .u8 0)),(.d (.bool false)),(.nils 1)],none⟩,
  ⟨some 5,.mov (.cst (.nils 1)),none⟩])
 (.seq
  (.reg [2] [⟨some 11,.ld true 22 (.tmp 2),none⟩,
   ⟨some 12,.call 94 [(.tmp 11)],none⟩,
   ⟨some 6,.alloc 2 [(.d (.int .i64 0)),(.d (.int .i64 0)),(.d (.int .i64 0)),(.d (.int .i64 0)),(.d (.int .u8 0)),(.d (.int .u8 0)),(.d (.int .u8 0)),(.d (.int .u8 0)),(.d (.int .u8 0)),(.d (.int .u8 0)),(.d (.int .u8 0)),(.d (.int .u8 0)),(.d (.int .u8 0)),(.d (.int .u8 0)),(.d (.int .u8 0)),(.d (.int .u8 0)),(.d (.int .u8 0)),(.d (.int .u8 0)),(.d (.int .u8 0)),(.d (.int .u8 0)),(.d (.bool false)),(.nils 1)],none⟩,
   ⟨none,.st 22 (.tmp 6) (.tmp 12),none⟩])
  (.seq
  (.reg [] [⟨some 7,.mov (.cst (.nils 1)),none⟩])
  (.seq
   (.seq
   (.reg [] [⟨some 8,.mov (.cst (.d (.int .i64 0))),none⟩])
   (.post [4,6,7] [0,1,2,3,4,5]
    (.block 0
    (.asrow 5 3 1 7
     (.keep [1,4,6,7,8] [0,1,2]
     (.loop
      (.post [1,4,6,7,8] [3,4,5]
      (.seq
       (.seq
       (.reg [] [⟨some 13,.mov (.tmp 8),none⟩,
        ⟨some 14,.mov (.tmp 1),none⟩,
        ⟨some 15,.len (.tmp 14),none⟩,
        ⟨some 16,.cmp .lss (.tmp 13) (.tmp 15),none⟩])
       (.cond (.tmp 16)
        .skip
        (.exit 0)))
       (.seq
       (.block 1
        (.seq
        (.regd [3] [⟨some 20,.ld true 22 (.tmp 6),none⟩,
         ⟨some 21,.mov (.tmp 1),none⟩,
         ⟨some 22,.mov (.tmp 8),none⟩,
         ⟨some 23,.ixa 10 (.tmp 21) (.tmp 22),none⟩,
         ⟨some 24,.ld true 10 (.tmp 23),none⟩,
         ⟨some 25,.call 33 [(.tmp 20),(.tmp 24)],none⟩,
         ⟨some 19,.mov (.tmp 25),none⟩,
         ⟨some 26,.ext 0 (.tmp 19),none⟩,
         ⟨some 27,.ext 1 (.tmp 19),none⟩,
         ⟨some 9,.alloc 3 [(.d (.int .i64 0)),(.d (.int .i64 0)),(.d (.int .i64 0)),(.d (.int .i64 0)),(.d (.int .u8 0)),(.d (.int .u8 0)),(.d (.int .u8 0)),(.d (.int .u8 0)),(.d (.int .u8 0)),(.d (.int .u8 0)),(.d (.int .u8 0)),(.d (.int .u8 0)),(.d (.int .u8 0)),(.d (.int .u8 0)),(.d (.int .u8 0)),(.d (.int .u8 0)),(.d (.int .u8 0)),(.d (.int .u8 0)),(.d (.int .u8 0)),(.d (.int .u8 0)),(.d (.bool false)),(.nils 1)],none⟩,
         ⟨none,.st 22 (.tmp 9) (.tmp 26),none⟩,
         ⟨some 10,.mov (.tmp 27),none⟩] [(0,1),(0,2),(1,2),(0,3),(0,4),(7,8),(0,9),(1,9),(2,9),(3,9),(4,9),(5,9),(6,9),(7,9),(8,9),(8,10)])
        (.seq
         (.reg [] [⟨some 28,.mov (.tmp 10),none⟩,
          ⟨some 29,.cmp .eql (.tmp 28) (.cst (.d (.int .i64 0))),none⟩])
         (.cond (.tmp 29)
         (.seq
          (.reg [] [⟨some 30,.ld true 22 (.tmp 9),none⟩,
           ⟨none,.st 22 (.tmp 6) (.tmp 30),none⟩])
          (.reg [4,5] [⟨some 31,.mov (.tmp 7),none⟩,
           ⟨some 32,.mov (.tmp 8),none⟩,
           ⟨some 33,.bsl 4 3 1 1 [(.int .i64 0)] [(0,(.tmp 32))],none⟩,
           ⟨some 34,.app 5 3 1 8 (.tmp 31) (.tmp 33),none⟩,
           ⟨some 7,.mov (.tmp 34),none⟩]))
         .skip))))
       (.reg [] [⟨some 17,.mov (.tmp 8),none⟩,
        ⟨some 18,.arith .add .i64 (.tmp 17) (.cst (.d (.int .i64 1))),none⟩,
        ⟨some 8,.mov (.tmp 18),none⟩]))))))))))
   (.seq
   (.reg [] [⟨some 35,.ld true 22 (.tmp 6),none⟩,
    ⟨some 36,.mov (.tmp 7),none⟩,
    ⟨none,.st 22 (.tmp 4) (.tmp 35),none⟩,
    ⟨some 5,.mov (.tmp 36),none⟩])
   .ret)))))⟩
def jr4:AFun:=⟨96,8,[.tmp 6],
 (.seq
 (.reg [0,1] [⟨some 3,.cbx 0 22 (.tmp 0),none⟩,
  ⟨some 4,.cbx 1 10 (.tmp 1),none⟩,
  ⟨some 6,.mov (.cst (.d (.bool false))),none⟩])
 (.seq
  (.seq
  (.reg [] [⟨some 18,.ld true 22 (.tmp 3),none⟩,
   ⟨some 19,.call 14 [(.tmp 18)],none⟩,
   ⟨some 20,.not (.tmp 19),none⟩,
   ⟨some 21,.mov (.tmp 20),none⟩,
   ⟨some 22,.mov (.tmp 2),some (21,false)⟩,
   ⟨some 23,.len (.tmp 22),some (21,false)⟩,
   ⟨some 24,.cmp .gtr (.tmp 23) (.cst (.d (.int .i64 12))),some (21,false)⟩,
   ⟨some 25,.mov (.tmp 24),some (21,false)⟩,
   ⟨some 26,.mov (.tmp 2),some (25,true)⟩,
   ⟨some 27,.len (.tmp 26),some (25,true)⟩,
   ⟨some 28,.cmp .neq (.tmp 27) (.cst (.d (.int .i64 257))),some (25,true)⟩,
   ⟨some 29,.pick (.tmp 25) (.tmp 28) (.cst (.d (.bool false))),some (21,false)⟩,
   ⟨some 30,.pick (.tmp 21) (.cst (.d (.bool true))) (.tmp 29),none⟩])
  (.cond (.tmp 30)
   (.seq
   (.reg [] [⟨some 31,.call 15 [],none⟩,
    ⟨some 6,.mov (.tmp 31),none⟩])
   .ret)
   .skip))
  (.seq
  (.regd [2] [⟨some 33,.ld true 22 (.tmp 3),none⟩,
   ⟨some 34,.call 17 [(.tmp 33)],none⟩,
   ⟨some 35,.ld true 10 (.tmp 4),none⟩,
   ⟨some 36,.call 28 [(.tmp 34),(.tmp 35)],none⟩,
   ⟨some 32,.mov (.tmp 36),none⟩,
   ⟨some 37,.ext 0 (.tmp 32),none⟩,
   ⟨some 38,.ext 1 (.tmp 32),none⟩,
   ⟨some 7,.alloc 2 [(.d (.int .i64 0)),(.d (.int .i64 0)),(.d (.int .i64 0)),(.d (.int .i64 0)),(.d (.int .u8 0)),(.d (.int .u8 0)),(.d (.int .u8 0)),(.d (.int .u8 0)),(.d (.int .u8 0)),(.d (.int .u8 0)),(.d (.int .u8 0)),(.d (.int .u8 0)),(.d (.int .u8 0)),(.d (.int .u8 0)),(.d (.int .u8 0)),(.d (.int .u8 0)),(.d (.int .u8 0)),(.d (.int .u8 0)),(.d (.int .u8 0)),(.d (.int .u8 0)),(.d (.bool false)),(.nils 1)],none⟩,
   ⟨none,.st 22 (.tmp 7) (.tmp 37),none⟩,
   ⟨some 8,.mov (.tmp 38),none⟩] [(0,2),(1,2),(5,6),(0,7),(1,7),(2,7),(3,7),(4,7),(5,7),(6,7),(6,8)])
  (.seq
   (.reg [3] [⟨some 40,.ld true 22 (.tmp 3),none⟩,
    ⟨some 41,.call 17 [(.tmp 40)],none⟩,
    ⟨some 42,.mov (.tmp 2),none⟩,
    ⟨some 43,.call 30 [(.tmp 42)],none⟩,
    ⟨some 44,.call 29 [(.tmp 41),(.tmp 43)],none⟩,
    ⟨some 39,.mov (.tmp 44),none⟩,
    ⟨some 45,.ext 0 (.tmp 39),none⟩,
    ⟨some 46,.ext 1 (.tmp 39),none⟩,
    ⟨some 47,.ext 2 (.tmp 39),none⟩,
    ⟨some 9,.alloc 3 [(.d (.int .i64 0)),(.d (.int .i64 0)),(.d (.int .i64 0)),(.d (.int .i64 0)),(.d (.int .u8 0)),(.d (.int .u8 0)),(.d (.int .u8 0)),(.d (.int .u8 0)),(.d (.int .u8 0)),(.d (.int .u8 0)),(.d (.int .u8 0)),(.d (.int .u8 0)),(.d (.int .u8 0)),(.d (.int .u8 0)),(.d (.int .u8 0)),(.d (.int .u8 0)),(.d (.int .u8 0)),(.d (.int .u8 0)),(.d (.int .u8 0)),(.d (.int .u8 0)),(.d (.bool false)),(.nils 1)],none⟩,
    ⟨none,.st 22 (.tmp 9) (.tmp 45),none⟩,
    ⟨some 10,.mov (.tmp 46),none⟩,
    ⟨some 11,.mov (.tmp 47),none⟩])
   (.seq
   (.reg [] [⟨some 48,.ld true 22 (.tmp 3),none⟩,
    ⟨some 49,.call 20 [(.tmp 48)],none⟩,
    ⟨some 12,.mov (.tmp 49),none⟩])
   (.seq
    (.reg [4,5] [⟨some 50,.mov (.tmp 12),none⟩,
     ⟨some 51,.ld true 10 (.tmp 4),none⟩,
     ⟨some 52,.call 31 [(.tmp 51)],none⟩,
     ⟨some 53,.bsl 4 3 1 2 [(.int .i64 0),(.int .i64 0)] [(0,(.tmp 50)),(1,(.tmp 52))],none⟩,
     ⟨some 54,.call 21 [(.tmp 53)],none⟩,
     ⟨some 55,.mov (.tmp 12),none⟩,
     ⟨some 56,.mov (.tmp 2),none⟩,
     ⟨some 57,.call 32 [(.tmp 56)],none⟩,
     ⟨some 58,.bsl 5 3 1 2 [(.int .i64 0),(.int .i64 0)] [(0,(.tmp 55)),(1,(.tmp 57))],none⟩,
     ⟨some 59,.call 21 [(.tmp 58)],none⟩,
     ⟨some 13,.mov (.tmp 54),none⟩,
     ⟨some 14,.mov (.tmp 59),none⟩])
    (.seq
    (.reg [6,7] [⟨some 15,.alloc 6 [(.d (.int .i64 0)),(.d (.int .i64 0)),(.d (.int .i64 0)),(.d (.int .i64 0)),(.d (.int .u8 0)),(.d (.int .u8 0)),(.d (.int .u8 0)),(.d (.int .u8 0)),(.d (.int .u8 0)),(.d (.int .u8 0)),(.d (.int .u8 0)),(.d (.int .u8 0)),(.d (.int .u8 0)),(.d (.int .u8 0)),(.d (.int .u8 0)),(.d (.int .u8 0)),(.d (.int .u8 0)),(.d (.int .u8 0)),(.d (.int .u8 0)),(.d (.int .u8 0)),(.d (.bool false)),(.nils 1)],none⟩,
     ⟨some 16,.alloc 7 [(.d (.int .i64 0)),(.d (.int .i64 0)),(.d (.int .i64 0)),(.d (.int .i64 0)),(.d (.int .u8 0)),(.d (.int .u8 0)),(.d (.int .u8 0)),(.d (.int .u8 0)),(.d (.int .u8 0)),(.d (.int .u8 0)),(.d (.int .u8 0)),(.d (.int .u8 0)),(.d (.int .u8 0)),(.d (.int .u8 0)),(.d (.int .u8 0)),(.d (.int .u8 0)),(.d (.int .u8 0)),(.d (.int .u8 0)),(.d (.int .u8 0)),(.d (.int .u8 0)),(.d (.bool false)),(.nils 1)],none⟩])
    (.seq
     (.reg [] [⟨some 17,.mov (.cst (.nils 1)),none⟩])
     (.seq
     (.seq
      (.reg [] [⟨some 60,.mov (.tmp 13),none⟩,
       ⟨some 61,.cmp .eql (.tmp 60) (.cst (.d (.int .i64 0))),none⟩])
      (.cond (.tmp 61)
      (.reg [] [⟨some 63,.ld true 22 (.tmp 3),none⟩,
       ⟨some 64,.ld true 10 (.tmp 4),none⟩,
       ⟨some 65,.call 33 [(.tmp 63),(.tmp 64)],none⟩,
       ⟨some 62,.mov (.tmp 65),none⟩,
       ⟨some 66,.ext 0 (.tmp 62),none⟩,
       ⟨some 67,.ext 1 (.tmp 62),none⟩,
       ⟨none,.st 22 (.tmp 15) (.tmp 66),none⟩,
       ⟨some 13,.mov (.tmp 67),none⟩])
      .skip))
     (.seq
      (.seq
      (.reg [] [⟨some 68,.mov (.tmp 14),none⟩,
       ⟨some 69,.cmp .eql (.tmp 68) (.cst (.d (.int .i64 0))),none⟩])
      (.cond (.tmp 69)
       (.reg [] [⟨some 71,.ld true 22 (.tmp 3),none⟩,
        ⟨some 72,.mov (.tmp 2),none⟩,
        ⟨some 73,.call 34 [(.tmp 71),(.tmp 72)],none⟩,
        ⟨some 70,.mov (.tmp 73),none⟩,
        ⟨some 74,.ext 0 (.tmp 70),none⟩,
        ⟨some 75,.ext 1 (.tmp 70),none⟩,
        ⟨none,.st 22 (.tmp 16) (.tmp 74),none⟩,
        ⟨some 17,.mov (.tmp 75),none⟩])
       .skip))
      (.seq
      (.reg [] [⟨some 76,.ld true 22 (.tmp 7),none⟩,
       ⟨some 77,.mov (.tmp 8),none⟩,
       ⟨some 78,.mov (.tmp 13),none⟩,
       ⟨some 79,.ld true 22 (.tmp 15),none⟩,
       ⟨some 80,.call 26 [(.tmp 76),(.tmp 77),(.tmp 78),(.tmp 79)],none⟩,
       ⟨some 81,.mov (.tmp 80),none⟩,
       ⟨some 82,.ld true 22 (.tmp 9),some (81,true)⟩,
       ⟨some 83,.mov (.tmp 11),some (81,true)⟩,
       ⟨some 84,.mov (.tmp 14),some (81,true)⟩,
       ⟨some 85,.ld true 22 (.tmp 16),some (81,true)⟩,
       ⟨some 86,.call 26 [(.tmp 82),(.tmp 83),(.tmp 84),(.tmp 85)],some (81,true)⟩,
       ⟨some 87,.pick (.tmp 81) (.tmp 86) (.cst (.d (.bool false))),none⟩,
       ⟨some 88,.mov (.tmp 87),none⟩,
       ⟨some 89,.mov (.tmp 10),some (88,true)⟩,
       ⟨some 90,.mov (.tmp 17),some (88,true)⟩,
       ⟨some 91,.call 35 [(.tmp 89),(.tmp 90)],some (88,true)⟩,
       ⟨some 92,.pick (.tmp 88) (.tmp 91) (.cst (.d (.bool false))),none⟩,
       ⟨some 93,.mov (.tmp 92),none⟩,
       ⟨some 94,.call 15 [],some (93,true)⟩,
       ⟨some 95,.pick (.tmp 93) (.tmp 94) (.cst (.d (.bool false))),none⟩,
       ⟨some 6,.mov (.tmp 95),none⟩])
      .ret)))))))))))⟩
def allX (c:Bool):List Tk→Int→Ac→List Int→Ac × List Int
 | [],_,X,L=>(X,L)
 | x::r,i,X,L=>bif crE X c x.n x.m x.q != 0 then allX c r (i+1) X L else allX c r (i+1) (crO X x.n x.m) (L++[i])
theorem wi_in {n a b:Int} (h:a≤n) (h2:n≤b):within3 n a b=0:=by
 unfold within3
 rw [decide_eq_false (by omega),decide_eq_false (by omega)]; rfl
theorem crE_0 {a:Ac} {c:Bool} {n m:Int} {q:Ky} (h:crE a c n m q=0):va a c n m q=true∧n∉a.u∧a.u.length≠256∧a.b+(m - pay a m)≤1000000000000:=by
 unfold crE at h
 have hlen:(ints a.u).length=a.u.length:=List.length_map _
 cases hv:va a c n m q with
 | false=>rw [hv] at h; cases h
 | true =>
  rw [hv] at h
  have h:crR a n m=0:=h
  refine ⟨rfl,fun hm=>?_,fun he=>?_,?_⟩
  ·have h2:=firstOf_zero h (bif a.u.contains n then 9 else 0) (by simp)
   rw [List.contains_iff_mem.2 hm] at h2; cases h2
  ·have h2:=firstOf_zero h (bif ((((ints a.u).length:Nat):Int)==256) then 5 else 0) (by simp)
   rw [hlen,he] at h2; cases h2
  ·have h2:=firstOf_zero h (bif decide (1000000000000 - (m - pay a m) < a.b) then 4 else 0) (by simp)
   by_cases e:1000000000000 - (m - pay a m) < a.b
   ·rw [decide_eq_true e] at h2; cases h2
   ·omega
theorem crO_ok {a:Ac} {c:Bool} {n m:Int} {q:Ky} (hA:ckA a c=0) (ht:ckT n m=0) (h:crE a c n m q=0):ckA (crO a n m) c=0:=by
 obtain ⟨ht1,ht2⟩:=ckT_b ht
 obtain ⟨_,hnu,h256,hb2⟩:=crE_0 h
 have hl:=ckA_len hA
 have hb:=(ckA_b hA).1
 obtain ⟨hd,hs0,hs1⟩:=ckA_ds hA
 obtain ⟨_,hp0,hp1,hp2,_⟩:=pay_b hA ht2.1 ht2.2
 obtain ⟨hasc,hrg⟩:=ckA_asc hA
 have hF:=ckA_F hA
 have hlen:(ints (insI n a.u)).length=a.u.length+1:=by unfold ints; rw [List.length_map,insI_len]
 have hF2:ckF (crO a n m) c=0:=by
  have e3:=firstOf_zero hF (within3 a.s 0 100) (by simp)
  have e4:=firstOf_zero hF (within3 a.e 0 100000000) (by simp)
  have e5:=firstOf_zero hF (bif (bif c then false else !(kz a.n)) then 1 else 0) (by simp)
  show firstOf [within3 (a.b+(m - pay a m)) (-1000000000000) 1000000000000,within3 (a.d - pay a m) 0 1000000000000,within3 a.s 0 100,within3 a.e 0 100000000,bif (bif c then false else !(kz a.n)) then 1 else 0,bif decide ((256:Int) < (((ints (insI n a.u)).length:Nat):Int)) then 5 else 0]=0
  rw [e3,e4,e5,wi_in (by omega) hb2,wi_in (by omega) (by omega),hlen,decide_eq_false (by omega)]; rfl
 rw [ckA_0 hF2]
 show ckU (insI n a.u) 0=0
 refine (ckU_asc (Int.le_refl 0)).2 ⟨insI_asc n hasc hnu,fun x hx=>?_⟩
 rcases (insI_mem n a.u x).1 hx with e | e
 ·omega
 ·exact hrg x e
theorem ixs_app (A:List (Tk × Int)) (x:Tk) (k:Int):ixs (A++[(x,k)])=ixs A++[Data.agg [.int .i64 x.n,.int .i64 x.m,.int .u8 x.q.a,.int .u8 x.q.b,.int .u8 x.q.c,.int .u8 x.q.d,.int .u8 x.q.e,.int .u8 x.q.f,.int .u8 x.q.g,.int .u8 x.q.h,.int .i64 k]]:=List.map_append
structure P29 where
 k:Nat
 X:Ac
 L:List (Tk × Int)
structure P34 where
 k:Nat
 X:Ac
 L:List Int
theorem ck_all {l:List Tk} (h:firstOf (l.map ckt)=0):∀ x∈l,ckT x.n x.m=0:=fun x hx=>firstOf_zero h (ckt x) (List.mem_map_of_mem hx)
theorem c29 (a:Ac) (c:Bool) (l:List Tk) (hla:a.u.length≤1048576) (hl:l.length≤200000) (hk:a.k.ok) (hn:a.n.ok) (hA:ckA a c=0) (hE:tksE l=0):CallDet Tryz.prog 29 [.d (.agg [.int .i64 (a.b),.int .i64 (a.d),.int .i64 a.s,.int .i64 a.e,.int .u8 a.k.a,.int .u8 a.k.b,.int .u8 a.k.c,.int .u8 a.k.d,.int .u8 a.k.e,.int .u8 a.k.f,.int .u8 a.k.g,.int .u8 a.k.h,.int .u8 a.n.a,.int .u8 a.n.b,.int .u8 a.n.c,.int .u8 a.n.d,.int .u8 a.n.e,.int .u8 a.n.f,.int .u8 a.n.g,.int .u8 a.n.h,.bool c,.slice 1 (ints a.u)]),.d (.slice 10 (tks l))] [.agg [.int .i64 ((allX c l 0 a []).1.b),.int .i64 ((allX c l 0 a []).1.d),.int .i64 (allX c l 0 a []).1.s,.int .i64 (allX c l 0 a []).1.e,.int .u8 (allX c l 0 a []).1.k.a,.int .u8 (allX c l 0 a []).1.k.b,.int .u8 (allX c l 0 a []).1.k.c,.int .u8 (allX c l 0 a []).1.k.d,.int .u8 (allX c l 0 a []).1.k.e,.int .u8 (allX c l 0 a []).1.k.f,.int .u8 (allX c l 0 a []).1.k.g,.int .u8 (allX c l 0 a []).1.k.h,.int .u8 (allX c l 0 a []).1.n.a,.int .u8 (allX c l 0 a []).1.n.b,.int .u8 (allX c l 0 a []).1.n.c,.int .u8 (allX c l 0 a []).1.n.d,.int .u8 (allX c l 0 a []).1.n.e,.int .u8 (allX c l 0 a []).1.n.f,.int .u8 (allX c l 0 a []).1.n.g,.int .u8 (allX c l 0 a []).1.n.h,.bool c,.slice 1 (ints (allX c l 0 a []).1.u)],.slice 1 (ints (allX c l 0 a []).2),.int .i64 0]:=by
 have hll:=tks_len l
 have h256:¬ (256:Int) < (((tks l).length:Nat):Int):=fun h=>by unfold tksE at hE; rw [decide_eq_true h] at hE; cases hE
 have hE2:firstOf (l.map ckt)=0:=by unfold tksE at hE; rw [decide_eq_false h256] at hE; exact hE
 have hT:=ck_all hE2
 have c25_:=c25 a c hla
 rw [hA] at c25_
 have c93_:=c93 a c hla
 have c101_:=c101 l (by omega)
 have c90_:=c90 (l.map ckt) (by rw [List.length_map]; omega)
 rw [hE2] at c90_
 have c90_0:CallDet Tryz.prog 90 [.d (.slice 1 [.int .i64 0,.int .i64 (bif decide ((256:Int) < (((tks l).length:Nat):Int)) then 5 else 0)])] [.int .i64 (firstOf [0,bif decide ((256:Int) < (((tks l).length:Nat):Int)) then 5 else 0])]:=c90 [0,bif decide ((256:Int) < (((tks l).length:Nat):Int)) then 5 else 0] (by simp)
 rw [show firstOf [(0:Int),bif decide ((256:Int) < (((tks l).length:Nat):Int)) then 5 else 0]=0 by rw [decide_eq_false h256]; rfl] at c90_0
 refine call_of_vc (x:=jr29) (by kernel_rfl) rfl ?_
 refine ca c25_ ?_
 refine sd ?_
 refine ca (c92 _ _) ?_
 refine sd ?_
 refine sd ?_
 refine ca c90_0 ?_
 refine sd ?_
 refine ca c101_ ?_
 refine ca c90_ ?_
 refine sd ?_
 refine ca c93_ ?_
 rotate_left
 refine loop_st (fun p:P29=>⟨[(4,.ptr 1 0),(9,.ptr 3 0),(10,.sl 7 (ixs p.L).length),(36,.d (.slice 10 (tks l))),(37,.d (.int .i64 (((tks l).length:Nat):Int))),(38,.d (.int .i64 ((p.k:Nat))))],[.none,.box [.d (.int .i64 0),.d (.int .i64 0),.d (.int .i64 0),.d (.int .i64 0),.d (.int .u8 0),.d (.int .u8 0),.d (.int .u8 0),.d (.int .u8 0),.d (.int .u8 0),.d (.int .u8 0),.d (.int .u8 0),.d (.int .u8 0),.d (.int .u8 0),.d (.int .u8 0),.d (.int .u8 0),.d (.int .u8 0),.d (.int .u8 0),.d (.int .u8 0),.d (.int .u8 0),.d (.int .u8 0),.d (.bool false),.nils 1],.none,.box [.d (.int .i64 (p.X.b)),.d (.int .i64 (p.X.d)),.d (.int .i64 (p.X.s)),.d (.int .i64 (p.X.e)),.d (.int .u8 p.X.k.a),.d (.int .u8 p.X.k.b),.d (.int .u8 p.X.k.c),.d (.int .u8 p.X.k.d),.d (.int .u8 p.X.k.e),.d (.int .u8 p.X.k.f),.d (.int .u8 p.X.k.g),.d (.int .u8 p.X.k.h),.d (.int .u8 p.X.n.a),.d (.int .u8 p.X.n.b),.d (.int .u8 p.X.n.c),.d (.int .u8 p.X.n.d),.d (.int .u8 p.X.n.e),.d (.int .u8 p.X.n.f),.d (.int .u8 p.X.n.g),.d (.int .u8 p.X.n.h),.d (.bool c),.d (.slice 1 (ints p.X.u))],.none,.none,.none,.row 171 11 (ixs p.L) false]⟩) (fun p=>(p.k≤l.length∧p.L.length≤p.k)∧(ckA p.X c=0∧p.X.k.ok∧p.X.n.ok)∧allX c l 0 a []=allX c (l.drop p.k) (p.k:Int) p.X (p.L.map Prod.snd)) (fun p=>l.length - p.k) ⟨0,a,[]⟩ rfl ⟨⟨Nat.zero_le _,Nat.zero_le _⟩,⟨hA,hk,hn⟩,rfl⟩ ?_
 rintro ⟨k,X,L⟩ ⟨⟨hkl,hLl⟩,⟨hX,hXk,hXn⟩,hi⟩
 have hkl:k≤l.length:=hkl
 have hLl:L.length≤k:=hLl
 have hX:ckA X c=0:=hX
 have hXk:X.k.ok:=hXk
 have hXn:X.n.ok:=hXn
 have hi:allX c l 0 a []=allX c (l.drop k) (k:Int) X (L.map Prod.snd):=hi
 have hil:(ixs L).length=L.length:=ixs_len L
 dsimp only
 by_cases hkn:k < l.length
 ·refine Exists.elim (get_lt l hkn) fun x hx=>?_
  have hx1:=tks_at hx
  have hct:=hT x (List.mem_of_getElem? hx)
  have c100_:CallDet Tryz.prog 100 [.d (.agg [.int .i64 (X.b),.int .i64 (X.d),.int .i64 X.s,.int .i64 X.e,.int .u8 X.k.a,.int .u8 X.k.b,.int .u8 X.k.c,.int .u8 X.k.d,.int .u8 X.k.e,.int .u8 X.k.f,.int .u8 X.k.g,.int .u8 X.k.h,.int .u8 X.n.a,.int .u8 X.n.b,.int .u8 X.n.c,.int .u8 X.n.d,.int .u8 X.n.e,.int .u8 X.n.f,.int .u8 X.n.g,.int .u8 X.n.h,.bool c,.slice 1 (ints X.u)]),.d (.agg [.int .i64 x.n,.int .i64 x.m,.int .u8 x.q.a,.int .u8 x.q.b,.int .u8 x.q.c,.int .u8 x.q.d,.int .u8 x.q.e,.int .u8 x.q.f,.int .u8 x.q.g,.int .u8 x.q.h])] _:=c100 X c x.n x.m x.q hXk hXn hX hct
  rw [drop_at hx,allX] at hi
  by_cases h0:crE X c x.n x.m x.q=0
  ·rw [h0] at hi c100_
   have hO:=crO_ok hX hct h0
   have fin:∃ a':P29,(((a'.k≤l.length∧a'.L.length≤a'.k)∧(ckA a'.X c=0∧a'.X.k.ok∧a'.X.n.ok)∧allX c l 0 a []=allX c (l.drop a'.k) (a'.k:Int) a'.X (a'.L.map Prod.snd))∧l.length - a'.k < l.length - k)∧(⟨[(4,.ptr 1 0),(9,.ptr 3 0),(10,.sl 7 (ixs L++[Data.agg [.int .i64 x.n,.int .i64 x.m,.int .u8 x.q.a,.int .u8 x.q.b,.int .u8 x.q.c,.int .u8 x.q.d,.int .u8 x.q.e,.int .u8 x.q.f,.int .u8 x.q.g,.int .u8 x.q.h,.int .i64 (k:Int)]]).length),(36,.d (.slice 10 (tks l))),(37,.d (.int .i64 (((tks l).length:Nat):Int))),(38,.d (.int .i64 ((k:Int)+1)))],[.none,.box [.d (.int .i64 0),.d (.int .i64 0),.d (.int .i64 0),.d (.int .i64 0),.d (.int .u8 0),.d (.int .u8 0),.d (.int .u8 0),.d (.int .u8 0),.d (.int .u8 0),.d (.int .u8 0),.d (.int .u8 0),.d (.int .u8 0),.d (.int .u8 0),.d (.int .u8 0),.d (.int .u8 0),.d (.int .u8 0),.d (.int .u8 0),.d (.int .u8 0),.d (.int .u8 0),.d (.int .u8 0),.d (.bool false),.nils 1],.none,.box [.d (.int .i64 ((crO X x.n x.m).b)),.d (.int .i64 ((crO X x.n x.m).d)),.d (.int .i64 ((crO X x.n x.m).s)),.d (.int .i64 ((crO X x.n x.m).e)),.d (.int .u8 (crO X x.n x.m).k.a),.d (.int .u8 (crO X x.n x.m).k.b),.d (.int .u8 (crO X x.n x.m).k.c),.d (.int .u8 (crO X x.n x.m).k.d),.d (.int .u8 (crO X x.n x.m).k.e),.d (.int .u8 (crO X x.n x.m).k.f),.d (.int .u8 (crO X x.n x.m).k.g),.d (.int .u8 (crO X x.n x.m).k.h),.d (.int .u8 (crO X x.n x.m).n.a),.d (.int .u8 (crO X x.n x.m).n.b),.d (.int .u8 (crO X x.n x.m).n.c),.d (.int .u8 (crO X x.n x.m).n.d),.d (.int .u8 (crO X x.n x.m).n.e),.d (.int .u8 (crO X x.n x.m).n.f),.d (.int .u8 (crO X x.n x.m).n.g),.d (.int .u8 (crO X x.n x.m).n.h),.d (.bool c),.d (.slice 1 (ints (crO X x.n x.m).u))],.none,.none,.none,.row 171 11 (ixs L++[Data.agg [.int .i64 x.n,.int .i64 x.m,.int .u8 x.q.a,.int .u8 x.q.b,.int .u8 x.q.c,.int .u8 x.q.d,.int .u8 x.q.e,.int .u8 x.q.f,.int .u8 x.q.g,.int .u8 x.q.h,.int .i64 (k:Int)]]) false]⟩:St)=⟨[(4,.ptr 1 0),(9,.ptr 3 0),(10,.sl 7 (ixs a'.L).length),(36,.d (.slice 10 (tks l))),(37,.d (.int .i64 (((tks l).length:Nat):Int))),(38,.d (.int .i64 ((a'.k:Nat))))],[.none,.box [.d (.int .i64 0),.d (.int .i64 0),.d (.int .i64 0),.d (.int .i64 0),.d (.int .u8 0),.d (.int .u8 0),.d (.int .u8 0),.d (.int .u8 0),.d (.int .u8 0),.d (.int .u8 0),.d (.int .u8 0),.d (.int .u8 0),.d (.int .u8 0),.d (.int .u8 0),.d (.int .u8 0),.d (.int .u8 0),.d (.int .u8 0),.d (.int .u8 0),.d (.int .u8 0),.d (.int .u8 0),.d (.bool false),.nils 1],.none,.box [.d (.int .i64 (a'.X.b)),.d (.int .i64 (a'.X.d)),.d (.int .i64 (a'.X.s)),.d (.int .i64 (a'.X.e)),.d (.int .u8 a'.X.k.a),.d (.int .u8 a'.X.k.b),.d (.int .u8 a'.X.k.c),.d (.int .u8 a'.X.k.d),.d (.int .u8 a'.X.k.e),.d (.int .u8 a'.X.k.f),.d (.int .u8 a'.X.k.g),.d (.int .u8 a'.X.k.h),.d (.int .u8 a'.X.n.a),.d (.int .u8 a'.X.n.b),.d (.int .u8 a'.X.n.c),.d (.int .u8 a'.X.n.d),.d (.int .u8 a'.X.n.e),.d (.int .u8 a'.X.n.f),.d (.int .u8 a'.X.n.g),.d (.int .u8 a'.X.n.h),.d (.bool c),.d (.slice 1 (ints a'.X.u))],.none,.none,.none,.row 171 11 (ixs a'.L) false]⟩ :=
    ⟨⟨k+1,crO X x.n x.m,L++[(x,(k:Int))]⟩,⟨⟨⟨by show k+1≤_; omega,by show (L++[(x,(k:Int))]).length≤k+1; rw [List.length_append]; show L.length+1≤_; omega⟩,⟨hO,hXk,hXn⟩,by rw [hi]; show _=allX c _ ((k+1:Nat):Int) _ _; rw [List.map_append]; rfl⟩,by show l.length - (k+1) < _; omega⟩,by rw [ixs_app]; rfl⟩
   refine sd ?_
   refine b_lt (fun t1=>?_) (fun t1=>?_)
   refine ix_at hx1 ?_ ?_
   (show (0:Int)≤(↑k:Int); omega)
   refine ca c100_ ?_
   refine sd ?_
   refine sd ?_
   refine sd ?_
   refine sd ?_
   refine an ?_ ?_
   refine an ?_ ?_
   exact rfl
   refine an ?_ ?_
   exact rfl
   refine an ?_ ?_
   exact rfl
   refine an ?_ ?_
   (show (List.length (ixs L)+(1:Nat)) * (32:Nat)≤(2:Nat) ^ (47:Nat); omega)
   (show List.length (ixs L)+(1:Nat)≤(2:Nat) ^ (47:Nat); omega)
   refine ar_add ?_ ?_
   refine an ?_ ?_
   (show (-9223372036854775808:Int)≤(↑k:Int)+(1:Int); omega)
   (show (↑k:Int)+(1:Int)≤(9223372036854775807:Int); omega)
   rotate_left
   (exfalso; omega)
   all_goals exact fin
  ·rw [bne_t h0] at hi c100_
   have fin:∃ a':P29,(((a'.k≤l.length∧a'.L.length≤a'.k)∧(ckA a'.X c=0∧a'.X.k.ok∧a'.X.n.ok)∧allX c l 0 a []=allX c (l.drop a'.k) (a'.k:Int) a'.X (a'.L.map Prod.snd))∧l.length - a'.k < l.length - k)∧(⟨[(4,.ptr 1 0),(9,.ptr 3 0),(10,.sl 7 (ixs L).length),(36,.d (.slice 10 (tks l))),(37,.d (.int .i64 (((tks l).length:Nat):Int))),(38,.d (.int .i64 ((k:Int)+1)))],[.none,.box [.d (.int .i64 0),.d (.int .i64 0),.d (.int .i64 0),.d (.int .i64 0),.d (.int .u8 0),.d (.int .u8 0),.d (.int .u8 0),.d (.int .u8 0),.d (.int .u8 0),.d (.int .u8 0),.d (.int .u8 0),.d (.int .u8 0),.d (.int .u8 0),.d (.int .u8 0),.d (.int .u8 0),.d (.int .u8 0),.d (.int .u8 0),.d (.int .u8 0),.d (.int .u8 0),.d (.int .u8 0),.d (.bool false),.nils 1],.none,.box [.d (.int .i64 (X.b)),.d (.int .i64 (X.d)),.d (.int .i64 (X.s)),.d (.int .i64 (X.e)),.d (.int .u8 X.k.a),.d (.int .u8 X.k.b),.d (.int .u8 X.k.c),.d (.int .u8 X.k.d),.d (.int .u8 X.k.e),.d (.int .u8 X.k.f),.d (.int .u8 X.k.g),.d (.int .u8 X.k.h),.d (.int .u8 X.n.a),.d (.int .u8 X.n.b),.d (.int .u8 X.n.c),.d (.int .u8 X.n.d),.d (.int .u8 X.n.e),.d (.int .u8 X.n.f),.d (.int .u8 X.n.g),.d (.int .u8 X.n.h),.d (.bool c),.d (.slice 1 (ints X.u))],.none,.none,.none,.row 171 11 (ixs L) false]⟩:St)=⟨[(4,.ptr 1 0),(9,.ptr 3 0),(10,.sl 7 (ixs a'.L).length),(36,.d (.slice 10 (tks l))),(37,.d (.int .i64 (((tks l).length:Nat):Int))),(38,.d (.int .i64 ((a'.k:Nat))))],[.none,.box [.d (.int .i64 0),.d (.int .i64 0),.d (.int .i64 0),.d (.int .i64 0),.d (.int .u8 0),.d (.int .u8 0),.d (.int .u8 0),.d (.int .u8 0),.d (.int .u8 0),.d (.int .u8 0),.d (.int .u8 0),.d (.int .u8 0),.d (.int .u8 0),.d (.int .u8 0),.d (.int .u8 0),.d (.int .u8 0),.d (.int .u8 0),.d (.int .u8 0),.d (.int .u8 0),.d (.int .u8 0),.d (.bool false),.nils 1],.none,.box [.d (.int .i64 (a'.X.b)),.d (.int .i64 (a'.X.d)),.d (.int .i64 (a'.X.s)),.d (.int .i64 (a'.X.e)),.d (.int .u8 a'.X.k.a),.d (.int .u8 a'.X.k.b),.d (.int .u8 a'.X.k.c),.d (.int .u8 a'.X.k.d),.d (.int .u8 a'.X.k.e),.d (.int .u8 a'.X.k.f),.d (.int .u8 a'.X.k.g),.d (.int .u8 a'.X.k.h),.d (.int .u8 a'.X.n.a),.d (.int .u8 a'.X.n.b),.d (.int .u8 a'.X.n.c),.d (.int .u8 a'.X.n.d),.d (.int .u8 a'.X.n.e),.d (.int .u8 a'.X.n.f),.d (.int .u8 a'.X.n.g),.d (.int .u8 a'.X.n.h),.d (.bool c),.d (.slice 1 (ints a'.X.u))],.none,.none,.none,.row 171 11 (ixs a'.L) false]⟩ :=
    ⟨⟨k+1,X,L⟩,⟨⟨⟨by show k+1≤_; omega,by show L.length≤k+1; omega⟩,⟨hX,hXk,hXn⟩,by rw [hi]; rfl⟩,by show l.length - (k+1) < _; omega⟩,rfl⟩
   refine sd ?_
   refine b_lt (fun t1=>?_) (fun t1=>?_)
   refine ix_at hx1 ?_ ?_
   (show (0:Int)≤(↑k:Int); omega)
   refine ca c100_ ?_
   refine sd ?_
   refine b_eq (fun t2=>?_) (fun t2=>?_)
   (exfalso; omega)
   refine ar_add ?_ ?_
   refine an ?_ ?_
   (show (-9223372036854775808:Int)≤(↑k:Int)+(1:Int); omega)
   (show (↑k:Int)+(1:Int)≤(9223372036854775807:Int); omega)
   rotate_left
   (exfalso; omega)
   all_goals exact fin
 ·rw [List.drop_eq_nil_of_le (by omega)] at hi
  have hi:allX c l 0 a []=(X,L.map Prod.snd):=hi
  have c102_:=c102 L (by omega)
  rw [hi]
  refine sd ?_
  refine b_lt (fun t1=>?_) (fun t1=>?_)
  (exfalso; omega)
  refine sd ?_
  refine ca c102_ ?_
  exact rfl
theorem c34 (a:Ac) (c:Bool) (l:List Tk) (hla:a.u.length≤1048576) (hl:l.length≤200000) (hk:a.k.ok) (hn:a.n.ok) (hA:ckA a c=0) (hE:tksE l=0):CallDet Tryz.prog 34 [.d (.agg [.int .i64 (a.b),.int .i64 (a.d),.int .i64 a.s,.int .i64 a.e,.int .u8 a.k.a,.int .u8 a.k.b,.int .u8 a.k.c,.int .u8 a.k.d,.int .u8 a.k.e,.int .u8 a.k.f,.int .u8 a.k.g,.int .u8 a.k.h,.int .u8 a.n.a,.int .u8 a.n.b,.int .u8 a.n.c,.int .u8 a.n.d,.int .u8 a.n.e,.int .u8 a.n.f,.int .u8 a.n.g,.int .u8 a.n.h,.bool c,.slice 1 (ints a.u)]),.d (.slice 10 (tks l))] [.agg [.int .i64 ((allX c l 0 a []).1.b),.int .i64 ((allX c l 0 a []).1.d),.int .i64 (allX c l 0 a []).1.s,.int .i64 (allX c l 0 a []).1.e,.int .u8 (allX c l 0 a []).1.k.a,.int .u8 (allX c l 0 a []).1.k.b,.int .u8 (allX c l 0 a []).1.k.c,.int .u8 (allX c l 0 a []).1.k.d,.int .u8 (allX c l 0 a []).1.k.e,.int .u8 (allX c l 0 a []).1.k.f,.int .u8 (allX c l 0 a []).1.k.g,.int .u8 (allX c l 0 a []).1.k.h,.int .u8 (allX c l 0 a []).1.n.a,.int .u8 (allX c l 0 a []).1.n.b,.int .u8 (allX c l 0 a []).1.n.c,.int .u8 (allX c l 0 a []).1.n.d,.int .u8 (allX c l 0 a []).1.n.e,.int .u8 (allX c l 0 a []).1.n.f,.int .u8 (allX c l 0 a []).1.n.g,.int .u8 (allX c l 0 a []).1.n.h,.bool c,.slice 1 (ints (allX c l 0 a []).1.u)],.slice 1 (ints (allX c l 0 a []).2)]:=by
 have hll:=tks_len l
 have h256:¬ (256:Int) < (((tks l).length:Nat):Int):=fun h=>by unfold tksE at hE; rw [decide_eq_true h] at hE; cases hE
 have hE2:firstOf (l.map ckt)=0:=by unfold tksE at hE; rw [decide_eq_false h256] at hE; exact hE
 have hT:=ck_all hE2
 have c94_:=c94 a c hla
 refine call_of_vc (x:=jr34) (by kernel_rfl) rfl ?_
 refine ca c94_ ?_
 rotate_left
 refine loop_st (fun p:P34=>⟨[(1,.d (.slice 10 (tks l))),(4,.ptr 1 0),(6,.ptr 2 0),(7,.sl 5 (ints p.L).length),(8,.d (.int .i64 ((p.k:Nat))))],[.none,.box [.d (.int .i64 0),.d (.int .i64 0),.d (.int .i64 0),.d (.int .i64 0),.d (.int .u8 0),.d (.int .u8 0),.d (.int .u8 0),.d (.int .u8 0),.d (.int .u8 0),.d (.int .u8 0),.d (.int .u8 0),.d (.int .u8 0),.d (.int .u8 0),.d (.int .u8 0),.d (.int .u8 0),.d (.int .u8 0),.d (.int .u8 0),.d (.int .u8 0),.d (.int .u8 0),.d (.int .u8 0),.d (.bool false),.nils 1],.box [.d (.int .i64 (p.X.b)),.d (.int .i64 (p.X.d)),.d (.int .i64 (p.X.s)),.d (.int .i64 (p.X.e)),.d (.int .u8 p.X.k.a),.d (.int .u8 p.X.k.b),.d (.int .u8 p.X.k.c),.d (.int .u8 p.X.k.d),.d (.int .u8 p.X.k.e),.d (.int .u8 p.X.k.f),.d (.int .u8 p.X.k.g),.d (.int .u8 p.X.k.h),.d (.int .u8 p.X.n.a),.d (.int .u8 p.X.n.b),.d (.int .u8 p.X.n.c),.d (.int .u8 p.X.n.d),.d (.int .u8 p.X.n.e),.d (.int .u8 p.X.n.f),.d (.int .u8 p.X.n.g),.d (.int .u8 p.X.n.h),.d (.bool c),.d (.slice 1 (ints p.X.u))],.none,.none,.row 3 1 (ints p.L) false]⟩) (fun p=>(p.k≤l.length∧p.L.length≤p.k)∧(ckA p.X c=0∧p.X.k.ok∧p.X.n.ok)∧allX c l 0 a []=allX c (l.drop p.k) (p.k:Int) p.X p.L) (fun p=>l.length - p.k) ⟨0,a,[]⟩ rfl ⟨⟨Nat.zero_le _,Nat.zero_le _⟩,⟨hA,hk,hn⟩,rfl⟩ ?_
 rintro ⟨k,X,L⟩ ⟨⟨hkl,hLl⟩,⟨hX,hXk,hXn⟩,hi⟩
 have hkl:k≤l.length:=hkl
 have hLl:L.length≤k:=hLl
 have hX:ckA X c=0:=hX
 have hXk:X.k.ok:=hXk
 have hXn:X.n.ok:=hXn
 have hi:allX c l 0 a []=allX c (l.drop k) (k:Int) X L:=hi
 have hil:(ints L).length=L.length:=List.length_map _
 dsimp only
 by_cases hkn:k < l.length
 ·refine Exists.elim (get_lt l hkn) fun x hx=>?_
  have hx1:=tks_at hx
  have hct:=hT x (List.mem_of_getElem? hx)
  have c33_:CallDet Tryz.prog 33 [.d (.agg [.int .i64 (X.b),.int .i64 (X.d),.int .i64 X.s,.int .i64 X.e,.int .u8 X.k.a,.int .u8 X.k.b,.int .u8 X.k.c,.int .u8 X.k.d,.int .u8 X.k.e,.int .u8 X.k.f,.int .u8 X.k.g,.int .u8 X.k.h,.int .u8 X.n.a,.int .u8 X.n.b,.int .u8 X.n.c,.int .u8 X.n.d,.int .u8 X.n.e,.int .u8 X.n.f,.int .u8 X.n.g,.int .u8 X.n.h,.bool c,.slice 1 (ints X.u)]),.d (.agg [.int .i64 x.n,.int .i64 x.m,.int .u8 x.q.a,.int .u8 x.q.b,.int .u8 x.q.c,.int .u8 x.q.d,.int .u8 x.q.e,.int .u8 x.q.f,.int .u8 x.q.g,.int .u8 x.q.h])] _:=c33 X c x.n x.m x.q hXk hXn hX hct
  rw [drop_at hx,allX] at hi
  by_cases h0:crE X c x.n x.m x.q=0
  ·rw [h0] at hi c33_
   have hO:=crO_ok hX hct h0
   have fin:∃ a':P34,(((a'.k≤l.length∧a'.L.length≤a'.k)∧(ckA a'.X c=0∧a'.X.k.ok∧a'.X.n.ok)∧allX c l 0 a []=allX c (l.drop a'.k) (a'.k:Int) a'.X a'.L)∧l.length - a'.k < l.length - k)∧(⟨[(1,.d (.slice 10 (tks l))),(4,.ptr 1 0),(6,.ptr 2 0),(7,.sl 5 (ints L++[Data.int .i64 (k:Int)]).length),(8,.d (.int .i64 ((k:Int)+1)))],[.none,.box [.d (.int .i64 0),.d (.int .i64 0),.d (.int .i64 0),.d (.int .i64 0),.d (.int .u8 0),.d (.int .u8 0),.d (.int .u8 0),.d (.int .u8 0),.d (.int .u8 0),.d (.int .u8 0),.d (.int .u8 0),.d (.int .u8 0),.d (.int .u8 0),.d (.int .u8 0),.d (.int .u8 0),.d (.int .u8 0),.d (.int .u8 0),.d (.int .u8 0),.d (.int .u8 0),.d (.int .u8 0),.d (.bool false),.nils 1],.box [.d (.int .i64 ((crO X x.n x.m).b)),.d (.int .i64 ((crO X x.n x.m).d)),.d (.int .i64 ((crO X x.n x.m).s)),.d (.int .i64 ((crO X x.n x.m).e)),.d (.int .u8 (crO X x.n x.m).k.a),.d (.int .u8 (crO X x.n x.m).k.b),.d (.int .u8 (crO X x.n x.m).k.c),.d (.int .u8 (crO X x.n x.m).k.d),.d (.int .u8 (crO X x.n x.m).k.e),.d (.int .u8 (crO X x.n x.m).k.f),.d (.int .u8 (crO X x.n x.m).k.g),.d (.int .u8 (crO X x.n x.m).k.h),.d (.int .u8 (crO X x.n x.m).n.a),.d (.int .u8 (crO X x.n x.m).n.b),.d (.int .u8 (crO X x.n x.m).n.c),.d (.int .u8 (crO X x.n x.m).n.d),.d (.int .u8 (crO X x.n x.m).n.e),.d (.int .u8 (crO X x.n x.m).n.f),.d (.int .u8 (crO X x.n x.m).n.g),.d (.int .u8 (crO X x.n x.m).n.h),.d (.bool c),.d (.slice 1 (ints (crO X x.n x.m).u))],.none,.none,.row 3 1 (ints L++[Data.int .i64 (k:Int)]) false]⟩:St)=⟨[(1,.d (.slice 10 (tks l))),(4,.ptr 1 0),(6,.ptr 2 0),(7,.sl 5 (ints a'.L).length),(8,.d (.int .i64 ((a'.k:Nat))))],[.none,.box [.d (.int .i64 0),.d (.int .i64 0),.d (.int .i64 0),.d (.int .i64 0),.d (.int .u8 0),.d (.int .u8 0),.d (.int .u8 0),.d (.int .u8 0),.d (.int .u8 0),.d (.int .u8 0),.d (.int .u8 0),.d (.int .u8 0),.d (.int .u8 0),.d (.int .u8 0),.d (.int .u8 0),.d (.int .u8 0),.d (.int .u8 0),.d (.int .u8 0),.d (.int .u8 0),.d (.int .u8 0),.d (.bool false),.nils 1],.box [.d (.int .i64 (a'.X.b)),.d (.int .i64 (a'.X.d)),.d (.int .i64 (a'.X.s)),.d (.int .i64 (a'.X.e)),.d (.int .u8 a'.X.k.a),.d (.int .u8 a'.X.k.b),.d (.int .u8 a'.X.k.c),.d (.int .u8 a'.X.k.d),.d (.int .u8 a'.X.k.e),.d (.int .u8 a'.X.k.f),.d (.int .u8 a'.X.k.g),.d (.int .u8 a'.X.k.h),.d (.int .u8 a'.X.n.a),.d (.int .u8 a'.X.n.b),.d (.int .u8 a'.X.n.c),.d (.int .u8 a'.X.n.d),.d (.int .u8 a'.X.n.e),.d (.int .u8 a'.X.n.f),.d (.int .u8 a'.X.n.g),.d (.int .u8 a'.X.n.h),.d (.bool c),.d (.slice 1 (ints a'.X.u))],.none,.none,.row 3 1 (ints a'.L) false]⟩ :=
    ⟨⟨k+1,crO X x.n x.m,L++[(k:Int)]⟩,⟨⟨⟨by show k+1≤_; omega,by show (L++[(k:Int)]).length≤k+1; rw [List.length_append]; show L.length+1≤_; omega⟩,⟨hO,hXk,hXn⟩,by rw [hi]; show _=allX c _ ((k+1:Nat):Int) _ _; rfl⟩,by show l.length - (k+1) < _; omega⟩,by rw [show ints (L++[(k:Int)])=ints L++[Data.int .i64 (k:Int)] from List.map_append]; rfl⟩
   refine sd ?_
   refine b_lt (fun t1=>?_) (fun t1=>?_)
   refine ix_at hx1 ?_ ?_
   (show (0:Int)≤(↑k:Int); omega)
   refine ca c33_ ?_
   refine sd ?_
   refine sd ?_
   refine sd ?_
   refine sd ?_
   refine an ?_ ?_
   refine an ?_ ?_
   exact rfl
   refine an ?_ ?_
   exact rfl
   refine an ?_ ?_
   exact rfl
   refine an ?_ ?_
   (show (List.length (ints L)+(1:Nat)) * (8:Nat)≤(2:Nat) ^ (47:Nat); omega)
   (show List.length (ints L)+(1:Nat)≤(2:Nat) ^ (47:Nat); omega)
   refine ar_add ?_ ?_
   refine an ?_ ?_
   (show (-9223372036854775808:Int)≤(↑k:Int)+(1:Int); omega)
   (show (↑k:Int)+(1:Int)≤(9223372036854775807:Int); omega)
   rotate_left
   (exfalso; omega)
   all_goals exact fin
  ·rw [bne_t h0] at hi c33_
   have fin:∃ a':P34,(((a'.k≤l.length∧a'.L.length≤a'.k)∧(ckA a'.X c=0∧a'.X.k.ok∧a'.X.n.ok)∧allX c l 0 a []=allX c (l.drop a'.k) (a'.k:Int) a'.X a'.L)∧l.length - a'.k < l.length - k)∧(⟨[(1,.d (.slice 10 (tks l))),(4,.ptr 1 0),(6,.ptr 2 0),(7,.sl 5 (ints L).length),(8,.d (.int .i64 ((k:Int)+1)))],[.none,.box [.d (.int .i64 0),.d (.int .i64 0),.d (.int .i64 0),.d (.int .i64 0),.d (.int .u8 0),.d (.int .u8 0),.d (.int .u8 0),.d (.int .u8 0),.d (.int .u8 0),.d (.int .u8 0),.d (.int .u8 0),.d (.int .u8 0),.d (.int .u8 0),.d (.int .u8 0),.d (.int .u8 0),.d (.int .u8 0),.d (.int .u8 0),.d (.int .u8 0),.d (.int .u8 0),.d (.int .u8 0),.d (.bool false),.nils 1],.box [.d (.int .i64 (X.b)),.d (.int .i64 (X.d)),.d (.int .i64 (X.s)),.d (.int .i64 (X.e)),.d (.int .u8 X.k.a),.d (.int .u8 X.k.b),.d (.int .u8 X.k.c),.d (.int .u8 X.k.d),.d (.int .u8 X.k.e),.d (.int .u8 X.k.f),.d (.int .u8 X.k.g),.d (.int .u8 X.k.h),.d (.int .u8 X.n.a),.d (.int .u8 X.n.b),.d (.int .u8 X.n.c),.d (.int .u8 X.n.d),.d (.int .u8 X.n.e),.d (.int .u8 X.n.f),.d (.int .u8 X.n.g),.d (.int .u8 X.n.h),.d (.bool c),.d (.slice 1 (ints X.u))],.none,.none,.row 3 1 (ints L) false]⟩:St)=⟨[(1,.d (.slice 10 (tks l))),(4,.ptr 1 0),(6,.ptr 2 0),(7,.sl 5 (ints a'.L).length),(8,.d (.int .i64 ((a'.k:Nat))))],[.none,.box [.d (.int .i64 0),.d (.int .i64 0),.d (.int .i64 0),.d (.int .i64 0),.d (.int .u8 0),.d (.int .u8 0),.d (.int .u8 0),.d (.int .u8 0),.d (.int .u8 0),.d (.int .u8 0),.d (.int .u8 0),.d (.int .u8 0),.d (.int .u8 0),.d (.int .u8 0),.d (.int .u8 0),.d (.int .u8 0),.d (.int .u8 0),.d (.int .u8 0),.d (.int .u8 0),.d (.int .u8 0),.d (.bool false),.nils 1],.box [.d (.int .i64 (a'.X.b)),.d (.int .i64 (a'.X.d)),.d (.int .i64 (a'.X.s)),.d (.int .i64 (a'.X.e)),.d (.int .u8 a'.X.k.a),.d (.int .u8 a'.X.k.b),.d (.int .u8 a'.X.k.c),.d (.int .u8 a'.X.k.d),.d (.int .u8 a'.X.k.e),.d (.int .u8 a'.X.k.f),.d (.int .u8 a'.X.k.g),.d (.int .u8 a'.X.k.h),.d (.int .u8 a'.X.n.a),.d (.int .u8 a'.X.n.b),.d (.int .u8 a'.X.n.c),.d (.int .u8 a'.X.n.d),.d (.int .u8 a'.X.n.e),.d (.int .u8 a'.X.n.f),.d (.int .u8 a'.X.n.g),.d (.int .u8 a'.X.n.h),.d (.bool c),.d (.slice 1 (ints a'.X.u))],.none,.none,.row 3 1 (ints a'.L) false]⟩ :=
    ⟨⟨k+1,X,L⟩,⟨⟨⟨by show k+1≤_; omega,by show L.length≤k+1; omega⟩,⟨hX,hXk,hXn⟩,by rw [hi]; rfl⟩,by show l.length - (k+1) < _; omega⟩,rfl⟩
   refine sd ?_
   refine b_lt (fun t1=>?_) (fun t1=>?_)
   refine ix_at hx1 ?_ ?_
   (show (0:Int)≤(↑k:Int); omega)
   refine ca c33_ ?_
   refine sd ?_
   refine b_eq (fun t2=>?_) (fun t2=>?_)
   (exfalso; omega)
   refine ar_add ?_ ?_
   refine an ?_ ?_
   (show (-9223372036854775808:Int)≤(↑k:Int)+(1:Int); omega)
   (show (↑k:Int)+(1:Int)≤(9223372036854775807:Int); omega)
   rotate_left
   (exfalso; omega)
   all_goals exact fin
 ·rw [List.drop_eq_nil_of_le (by omega)] at hi
  have hi:allX c l 0 a []=(X,L):=hi
  rw [hi]
  refine sd ?_
  refine b_lt (fun t1=>?_) (fun t1=>?_)
  (exfalso; omega)
  refine sd ?_
  exact rfl
theorem c29e (a:Ac) (c:Bool) (l:List Tk) (hla:a.u.length≤1048576) (hl:l.length≤200000) (h:¬ firstOf [ckA a c,tksE l]=0):CallDet Tryz.prog 29 [.d (.agg [.int .i64 (a.b),.int .i64 (a.d),.int .i64 a.s,.int .i64 a.e,.int .u8 a.k.a,.int .u8 a.k.b,.int .u8 a.k.c,.int .u8 a.k.d,.int .u8 a.k.e,.int .u8 a.k.f,.int .u8 a.k.g,.int .u8 a.k.h,.int .u8 a.n.a,.int .u8 a.n.b,.int .u8 a.n.c,.int .u8 a.n.d,.int .u8 a.n.e,.int .u8 a.n.f,.int .u8 a.n.g,.int .u8 a.n.h,.bool c,.slice 1 (ints a.u)]),.d (.slice 10 (tks l))] [.agg [.int .i64 0,.int .i64 0,.int .i64 0,.int .i64 0,.int .u8 0,.int .u8 0,.int .u8 0,.int .u8 0,.int .u8 0,.int .u8 0,.int .u8 0,.int .u8 0,.int .u8 0,.int .u8 0,.int .u8 0,.int .u8 0,.int .u8 0,.int .u8 0,.int .u8 0,.int .u8 0,.bool false,.slice 1 []],.slice 1 [],.int .i64 (firstOf [ckA a c,tksE l])]:=by
 have hll:=tks_len l
 have c25_:=c25 a c hla
 have c101_:=c101 l (by omega)
 have c90_:=c90 (l.map ckt) (by rw [List.length_map]; omega)
 have c90_0:CallDet Tryz.prog 90 [.d (.slice 1 [.int .i64 (ckA a c),.int .i64 (bif decide ((256:Int) < (((tks l).length:Nat):Int)) then 5 else 0)])] [.int .i64 (firstOf [ckA a c,bif decide ((256:Int) < (((tks l).length:Nat):Int)) then 5 else 0])]:=c90 [ckA a c,bif decide ((256:Int) < (((tks l).length:Nat):Int)) then 5 else 0] (by simp)
 by_cases hA:ckA a c=0
 ·have e0 : firstOf [ckA a c, tksE l] = tksE l := by
   rw [hA,fo_z]
   show (bif tksE l != 0 then tksE l else 0)=_
   by_cases e:tksE l=0
   ·rw [e]; rfl
   ·rw [bne_t e]; rfl
  rw [e0] at h ⊢
  by_cases h256:(256:Int) < (((tks l).length:Nat):Int)
  ·have e1:tksE l=5:=by unfold tksE; rw [decide_eq_true h256]; rfl
   rw [e1]
   rw [show firstOf [ckA a c,bif decide ((256:Int) < (((tks l).length:Nat):Int)) then 5 else 0]=5 by rw [hA,decide_eq_true h256]; rfl] at c90_0
   refine call_of_vc (x:=jr29) (by kernel_rfl) rfl ?_
   refine ca c25_ ?_
   refine sd ?_
   refine ca (c92 _ _) ?_
   refine sd ?_
   refine sd ?_
   refine ca c90_0 ?_
   refine sd ?_
   exact rfl
  ·have e1:tksE l=firstOf (l.map ckt):=by unfold tksE; rw [decide_eq_false h256]; rfl
   rw [e1] at h ⊢
   rw [show firstOf [ckA a c,bif decide ((256:Int) < (((tks l).length:Nat):Int)) then 5 else 0]=0 by rw [hA,decide_eq_false h256]; rfl] at c90_0
   refine call_of_vc (x:=jr29) (by kernel_rfl) rfl ?_
   refine ca c25_ ?_
   refine sd ?_
   refine ca (c92 _ _) ?_
   refine sd ?_
   refine sd ?_
   refine ca c90_0 ?_
   refine sd ?_
   refine ca c101_ ?_
   refine ca c90_ ?_
   refine sd ?_
   refine b_ne (fun t1=>?_) (fun t1=>?_)
   exact rfl
   (exfalso; omega)
 ·rw [fo_nz hA] at c90_0 ⊢
  refine call_of_vc (x:=jr29) (by kernel_rfl) rfl ?_
  refine ca c25_ ?_
  refine sd ?_
  refine ca (c92 _ _) ?_
  refine sd ?_
  refine sd ?_
  refine ca c90_0 ?_
  refine sd ?_
  refine b_ne (fun t1=>?_) (fun t1=>?_)
  exact rfl
  (exfalso; omega)
theorem cr_x (a:Ac) (c:Bool) (n m:Int) (q:Ky) (hla:a.u.length≤1048576) (hk:a.k.ok) (hn:a.n.ok) (hA:ckA a c=0) (ht:ckT n m=0):∃ (X:Ac) (e:Int),CallDet Tryz.prog 28 [.d (.agg [.int .i64 (a.b),.int .i64 (a.d),.int .i64 a.s,.int .i64 a.e,.int .u8 a.k.a,.int .u8 a.k.b,.int .u8 a.k.c,.int .u8 a.k.d,.int .u8 a.k.e,.int .u8 a.k.f,.int .u8 a.k.g,.int .u8 a.k.h,.int .u8 a.n.a,.int .u8 a.n.b,.int .u8 a.n.c,.int .u8 a.n.d,.int .u8 a.n.e,.int .u8 a.n.f,.int .u8 a.n.g,.int .u8 a.n.h,.bool c,.slice 1 (ints a.u)]),.d (.agg [.int .i64 n,.int .i64 m,.int .u8 q.a,.int .u8 q.b,.int .u8 q.c,.int .u8 q.d,.int .u8 q.e,.int .u8 q.f,.int .u8 q.g,.int .u8 q.h])] [.agg [.int .i64 (X.b),.int .i64 (X.d),.int .i64 X.s,.int .i64 X.e,.int .u8 X.k.a,.int .u8 X.k.b,.int .u8 X.k.c,.int .u8 X.k.d,.int .u8 X.k.e,.int .u8 X.k.f,.int .u8 X.k.g,.int .u8 X.k.h,.int .u8 X.n.a,.int .u8 X.n.b,.int .u8 X.n.c,.int .u8 X.n.d,.int .u8 X.n.e,.int .u8 X.n.f,.int .u8 X.n.g,.int .u8 X.n.h,.bool X.c,.slice 1 (ints X.u)],.int .i64 e]∧CallDet Tryz.prog 33 [.d (.agg [.int .i64 (a.b),.int .i64 (a.d),.int .i64 a.s,.int .i64 a.e,.int .u8 a.k.a,.int .u8 a.k.b,.int .u8 a.k.c,.int .u8 a.k.d,.int .u8 a.k.e,.int .u8 a.k.f,.int .u8 a.k.g,.int .u8 a.k.h,.int .u8 a.n.a,.int .u8 a.n.b,.int .u8 a.n.c,.int .u8 a.n.d,.int .u8 a.n.e,.int .u8 a.n.f,.int .u8 a.n.g,.int .u8 a.n.h,.bool c,.slice 1 (ints a.u)]),.d (.agg [.int .i64 n,.int .i64 m,.int .u8 q.a,.int .u8 q.b,.int .u8 q.c,.int .u8 q.d,.int .u8 q.e,.int .u8 q.f,.int .u8 q.g,.int .u8 q.h])] [.agg [.int .i64 (X.b),.int .i64 (X.d),.int .i64 X.s,.int .i64 X.e,.int .u8 X.k.a,.int .u8 X.k.b,.int .u8 X.k.c,.int .u8 X.k.d,.int .u8 X.k.e,.int .u8 X.k.f,.int .u8 X.k.g,.int .u8 X.k.h,.int .u8 X.n.a,.int .u8 X.n.b,.int .u8 X.n.c,.int .u8 X.n.d,.int .u8 X.n.e,.int .u8 X.n.f,.int .u8 X.n.g,.int .u8 X.n.h,.bool X.c,.slice 1 (ints X.u)],.int .i64 e]∧CallDet Tryz.prog 26 [.d (.agg [.int .i64 (X.b),.int .i64 (X.d),.int .i64 X.s,.int .i64 X.e,.int .u8 X.k.a,.int .u8 X.k.b,.int .u8 X.k.c,.int .u8 X.k.d,.int .u8 X.k.e,.int .u8 X.k.f,.int .u8 X.k.g,.int .u8 X.k.h,.int .u8 X.n.a,.int .u8 X.n.b,.int .u8 X.n.c,.int .u8 X.n.d,.int .u8 X.n.e,.int .u8 X.n.f,.int .u8 X.n.g,.int .u8 X.n.h,.bool X.c,.slice 1 (ints X.u)]),.d (.int .i64 e),.d (.int .i64 e),.d (.agg [.int .i64 (X.b),.int .i64 (X.d),.int .i64 X.s,.int .i64 X.e,.int .u8 X.k.a,.int .u8 X.k.b,.int .u8 X.k.c,.int .u8 X.k.d,.int .u8 X.k.e,.int .u8 X.k.f,.int .u8 X.k.g,.int .u8 X.k.h,.int .u8 X.n.a,.int .u8 X.n.b,.int .u8 X.n.c,.int .u8 X.n.d,.int .u8 X.n.e,.int .u8 X.n.f,.int .u8 X.n.g,.int .u8 X.n.h,.bool X.c,.slice 1 (ints X.u)])] [.bool true]:=by
 have hlA:=ckA_len hA
 have x:=c28 a c n m q hla hk hn
 have y:=c33 a c n m q hk hn hA ht
 rw [hA,ht] at x
 by_cases h:crE a c n m q=0
 ·rw [h] at x y
  exact ⟨⟨a.b+(m - pay a m),a.d - pay a m,a.s,a.e,a.k,a.n,c,insI n a.u⟩,0,x,y,c26s ⟨a.b+(m - pay a m),a.d - pay a m,a.s,a.e,a.k,a.n,c,insI n a.u⟩ c (by show (insI n a.u).length≤_; rw [insI_len]; omega)⟩
 ·rw [bne_t h] at x y
  exact ⟨⟨0,0,0,0,⟨0,0,0,0,0,0,0,0⟩,⟨0,0,0,0,0,0,0,0⟩,false,[]⟩,crE a c n m q,x,y,c26z _ h 0 0 0 0 0 0 0 0 0 0 0 0 0 0 0 0 0 0 0 0 false []⟩
theorem allX_ok (c:Bool):∀ (l:List Tk) (i:Int) (X:Ac) (L:List Int),(∀ x∈l,ckT x.n x.m=0)→ckA X c=0→ckA (allX c l i X L).1 c=0∧(allX c l i X L).2.length≤L.length+l.length
 | [],_,_,_,_,h=>⟨h,Nat.le_refl _⟩
 | x::r,i,X,L,hT,h=>by
  rw [allX]
  by_cases h0:crE X c x.n x.m x.q=0
  ·rw [h0]
   obtain ⟨h1,h2⟩:=allX_ok c r (i+1) (crO X x.n x.m) (L++[i]) (fun y hy=>hT y (List.mem_cons_of_mem _ hy)) (crO_ok h (hT x List.mem_cons_self) h0)
   refine ⟨h1,Nat.le_trans h2 ?_⟩
   simp only [List.length_append,List.length_cons,List.length_nil]; omega
  ·rw [bne_t h0]
   obtain ⟨h1,h2⟩:=allX_ok c r (i+1) X L (fun y hy=>hT y (List.mem_cons_of_mem _ hy)) h
   refine ⟨h1,Nat.le_trans h2 ?_⟩
   rw [List.length_cons]; omega
theorem all_x (a:Ac) (c:Bool) (l:List Tk) (hla:a.u.length≤1048576) (hl:l.length≤200000) (hk:a.k.ok) (hn:a.n.ok) (hA:ckA a c=0) (hE:tksE l=0):∃ (Y:Ac) (J:List Int),CallDet Tryz.prog 29 [.d (.agg [.int .i64 (a.b),.int .i64 (a.d),.int .i64 a.s,.int .i64 a.e,.int .u8 a.k.a,.int .u8 a.k.b,.int .u8 a.k.c,.int .u8 a.k.d,.int .u8 a.k.e,.int .u8 a.k.f,.int .u8 a.k.g,.int .u8 a.k.h,.int .u8 a.n.a,.int .u8 a.n.b,.int .u8 a.n.c,.int .u8 a.n.d,.int .u8 a.n.e,.int .u8 a.n.f,.int .u8 a.n.g,.int .u8 a.n.h,.bool c,.slice 1 (ints a.u)]),.d (.slice 10 (tks l))] [.agg [.int .i64 (Y.b),.int .i64 (Y.d),.int .i64 Y.s,.int .i64 Y.e,.int .u8 Y.k.a,.int .u8 Y.k.b,.int .u8 Y.k.c,.int .u8 Y.k.d,.int .u8 Y.k.e,.int .u8 Y.k.f,.int .u8 Y.k.g,.int .u8 Y.k.h,.int .u8 Y.n.a,.int .u8 Y.n.b,.int .u8 Y.n.c,.int .u8 Y.n.d,.int .u8 Y.n.e,.int .u8 Y.n.f,.int .u8 Y.n.g,.int .u8 Y.n.h,.bool Y.c,.slice 1 (ints Y.u)],.slice 1 (ints J),.int .i64 0]∧CallDet Tryz.prog 34 [.d (.agg [.int .i64 (a.b),.int .i64 (a.d),.int .i64 a.s,.int .i64 a.e,.int .u8 a.k.a,.int .u8 a.k.b,.int .u8 a.k.c,.int .u8 a.k.d,.int .u8 a.k.e,.int .u8 a.k.f,.int .u8 a.k.g,.int .u8 a.k.h,.int .u8 a.n.a,.int .u8 a.n.b,.int .u8 a.n.c,.int .u8 a.n.d,.int .u8 a.n.e,.int .u8 a.n.f,.int .u8 a.n.g,.int .u8 a.n.h,.bool c,.slice 1 (ints a.u)]),.d (.slice 10 (tks l))] [.agg [.int .i64 (Y.b),.int .i64 (Y.d),.int .i64 Y.s,.int .i64 Y.e,.int .u8 Y.k.a,.int .u8 Y.k.b,.int .u8 Y.k.c,.int .u8 Y.k.d,.int .u8 Y.k.e,.int .u8 Y.k.f,.int .u8 Y.k.g,.int .u8 Y.k.h,.int .u8 Y.n.a,.int .u8 Y.n.b,.int .u8 Y.n.c,.int .u8 Y.n.d,.int .u8 Y.n.e,.int .u8 Y.n.f,.int .u8 Y.n.g,.int .u8 Y.n.h,.bool Y.c,.slice 1 (ints Y.u)],.slice 1 (ints J)]∧CallDet Tryz.prog 26 [.d (.agg [.int .i64 (Y.b),.int .i64 (Y.d),.int .i64 Y.s,.int .i64 Y.e,.int .u8 Y.k.a,.int .u8 Y.k.b,.int .u8 Y.k.c,.int .u8 Y.k.d,.int .u8 Y.k.e,.int .u8 Y.k.f,.int .u8 Y.k.g,.int .u8 Y.k.h,.int .u8 Y.n.a,.int .u8 Y.n.b,.int .u8 Y.n.c,.int .u8 Y.n.d,.int .u8 Y.n.e,.int .u8 Y.n.f,.int .u8 Y.n.g,.int .u8 Y.n.h,.bool Y.c,.slice 1 (ints Y.u)]),.d (.int .i64 0),.d (.int .i64 0),.d (.agg [.int .i64 (Y.b),.int .i64 (Y.d),.int .i64 Y.s,.int .i64 Y.e,.int .u8 Y.k.a,.int .u8 Y.k.b,.int .u8 Y.k.c,.int .u8 Y.k.d,.int .u8 Y.k.e,.int .u8 Y.k.f,.int .u8 Y.k.g,.int .u8 Y.k.h,.int .u8 Y.n.a,.int .u8 Y.n.b,.int .u8 Y.n.c,.int .u8 Y.n.d,.int .u8 Y.n.e,.int .u8 Y.n.f,.int .u8 Y.n.g,.int .u8 Y.n.h,.bool Y.c,.slice 1 (ints Y.u)])] [.bool true]∧CallDet Tryz.prog 35 [.d (.slice 1 (ints J)),.d (.slice 1 (ints J))] [.bool true]:=by
 have x:=c29 a c l hla hl hk hn hA hE
 have y:=c34 a c l hla hl hk hn hA hE
 have h256:¬ (256:Int) < (((tks l).length:Nat):Int):=fun h=>by unfold tksE at hE; rw [decide_eq_true h] at hE; cases hE
 have hE2:firstOf (l.map ckt)=0:=by unfold tksE at hE; rw [decide_eq_false h256] at hE; exact hE
 obtain ⟨h1,h2⟩:=allX_ok c l 0 a [] (ck_all hE2) hA
 have h3:=ckA_len h1
 have h2:(allX c l 0 a []).2.length≤0+l.length:=h2
 have h35:=c35 (allX c l 0 a []).2 (allX c l 0 a []).2 (by omega)
 rw [show ((allX c l 0 a []).2==(allX c l 0 a []).2)=true from beq_self_eq_true _] at h35
 generalize allX c l 0 a []=W at *
 exact ⟨⟨W.1.b,W.1.d,W.1.s,W.1.e,W.1.k,W.1.n,c,W.1.u⟩,W.2,x,y,c26s ⟨W.1.b,W.1.d,W.1.s,W.1.e,W.1.k,W.1.n,c,W.1.u⟩ c (by show W.1.u.length≤_; omega),h35⟩
theorem f1 {x:Int}:firstOf [0,x]=x:=by
 rw [fo_z]
 show (bif x != 0 then x else 0)=_
 by_cases e:x=0
 ·rw [e]; rfl
 ·rw [bne_t e]; rfl
theorem c4 (a:Ac) (c:Bool) (n m:Int) (q:Ky) (l:List Tk) (hla:a.u.length≤1048576) (hl:l.length≤200000) (hk:a.k.ok) (hn:a.n.ok):CallDet Tryz.prog 4 [.d (.agg [.int .i64 (a.b),.int .i64 (a.d),.int .i64 a.s,.int .i64 a.e,.int .u8 a.k.a,.int .u8 a.k.b,.int .u8 a.k.c,.int .u8 a.k.d,.int .u8 a.k.e,.int .u8 a.k.f,.int .u8 a.k.g,.int .u8 a.k.h,.int .u8 a.n.a,.int .u8 a.n.b,.int .u8 a.n.c,.int .u8 a.n.d,.int .u8 a.n.e,.int .u8 a.n.f,.int .u8 a.n.g,.int .u8 a.n.h,.bool c,.slice 1 (ints a.u)]),.d (.agg [.int .i64 n,.int .i64 m,.int .u8 q.a,.int .u8 q.b,.int .u8 q.c,.int .u8 q.d,.int .u8 q.e,.int .u8 q.f,.int .u8 q.g,.int .u8 q.h]),.d (.slice 10 (tks l))] [.bool true]:=by
 have hll:=tks_len l
 have c14_:=c14 a c
 have c17_:=c17 a c hla
 have c20_:=c20 a c hla
 have c30_:=c30 l (by omega)
 have c31_:=c31 n m q
 have c32_:=c32 l (by omega)
 have c35_0:CallDet Tryz.prog 35 [.d (.slice 1 []),.d (.slice 1 [])] [.bool true]:=c35 [] [] (by simp)
 have c21_a:CallDet Tryz.prog 21 [.d (.slice 1 [.int .i64 (ckA a c),.int .i64 (ckT n m)])] [.int .i64 (firstOf [ckA a c,ckT n m])]:=c21 [ckA a c,ckT n m] (by simp)
 have c21_b:CallDet Tryz.prog 21 [.d (.slice 1 [.int .i64 (ckA a c),.int .i64 (tksE l)])] [.int .i64 (firstOf [ckA a c,tksE l])]:=c21 [ckA a c,tksE l] (by simp)
 have c28_:=c28 a c n m q hla hk hn
 cases hs:shU a.u with
 | false =>
  rw [hs] at c14_
  refine call_of_vc (x:=jr4) (by kernel_rfl) rfl ?_
  refine ca c14_ ?_
  refine sd ?_
  refine ca (c15) ?_
  exact rfl
 | true =>
  rw [hs] at c14_
  by_cases hA:ckA a c=0
  ·rw [hA] at c20_ c21_a c21_b
   rw [f1] at c21_a c21_b
   rw [hA,f1] at c28_
   by_cases ht:ckT n m=0
   ·obtain ⟨X,e,c28_1,c33_,c26_1⟩:=cr_x a c n m q hla hk hn hA ht
    rw [ht] at c31_ c21_a
    clear c28_
    by_cases hE:tksE l=0
    ·obtain ⟨Y,J,c29_,c34_,c26_2,c35_⟩:=all_x a c l hla hl hk hn hA hE
     rw [hE] at c32_ c21_b
     refine call_of_vc (x:=jr4) (by kernel_rfl) rfl ?_
     refine ca c14_ ?_
     refine sd ?_
     refine b_lt (fun t1=>?_) (fun t1=>?_)
     refine sd ?_
     refine b_ne (fun t2=>?_) (fun t2=>?_)
     refine ca (c15) ?_
     exact rfl
     refine ca c17_ ?_
     refine ca c28_1 ?_
     refine ca c17_ ?_
     refine ca c30_ ?_
     refine ca c29_ ?_
     refine ca c20_ ?_
     refine ca c31_ ?_
     refine sd ?_
     refine sd ?_
     refine ca c21_a ?_
     refine ca c32_ ?_
     refine sd ?_
     refine sd ?_
     refine ca c21_a ?_
     refine sd ?_
     refine ca c33_ ?_
     refine sd ?_
     refine ca c34_ ?_
     refine ca c26_1 ?_
     refine ca c26_2 ?_
     refine ca c35_ ?_
     refine ca (c15) ?_
     exact rfl
     refine sd ?_
     refine ca c17_ ?_
     refine ca c28_1 ?_
     refine ca c17_ ?_
     refine ca c30_ ?_
     refine ca c29_ ?_
     refine ca c20_ ?_
     refine ca c31_ ?_
     refine sd ?_
     refine sd ?_
     refine ca c21_a ?_
     refine ca c32_ ?_
     refine sd ?_
     refine sd ?_
     refine ca c21_a ?_
     refine sd ?_
     refine ca c33_ ?_
     refine sd ?_
     refine ca c34_ ?_
     refine ca c26_1 ?_
     refine ca c26_2 ?_
     refine ca c35_ ?_
     refine ca (c15) ?_
     exact rfl
    ·have c29_:=c29e a c l hla hl (by rw [hA,f1]; exact hE)
     rw [hA,f1] at c29_
     have c26_2:=c26z (tksE l) hE 0 0 0 0 0 0 0 0 0 0 0 0 0 0 0 0 0 0 0 0 false []
     refine call_of_vc (x:=jr4) (by kernel_rfl) rfl ?_
     refine ca c14_ ?_
     refine sd ?_
     refine b_lt (fun t1=>?_) (fun t1=>?_)
     refine sd ?_
     refine b_ne (fun t2=>?_) (fun t2=>?_)
     refine ca (c15) ?_
     exact rfl
     refine ca c17_ ?_
     refine ca c28_1 ?_
     refine ca c17_ ?_
     refine ca c30_ ?_
     refine ca c29_ ?_
     refine ca c20_ ?_
     refine ca c31_ ?_
     refine sd ?_
     refine sd ?_
     refine ca c21_a ?_
     refine ca c32_ ?_
     refine sd ?_
     refine sd ?_
     refine ca c21_b ?_
     refine sd ?_
     refine ca c33_ ?_
     refine sd ?_
     refine b_eq (fun t3=>?_) (fun t3=>?_)
     (exfalso; omega)
     refine ca c26_1 ?_
     refine ca c26_2 ?_
     refine ca c35_0 ?_
     refine ca (c15) ?_
     exact rfl
     refine sd ?_
     refine ca c17_ ?_
     refine ca c28_1 ?_
     refine ca c17_ ?_
     refine ca c30_ ?_
     refine ca c29_ ?_
     refine ca c20_ ?_
     refine ca c31_ ?_
     refine sd ?_
     refine sd ?_
     refine ca c21_a ?_
     refine ca c32_ ?_
     refine sd ?_
     refine sd ?_
     refine ca c21_b ?_
     refine sd ?_
     refine ca c33_ ?_
     refine sd ?_
     refine b_eq (fun t4=>?_) (fun t4=>?_)
     (exfalso; omega)
     refine ca c26_1 ?_
     refine ca c26_2 ?_
     refine ca c35_0 ?_
     refine ca (c15) ?_
     exact rfl
   ·rw [bne_t ht] at c28_
    have c26_1:=c26z (ckT n m) ht 0 0 0 0 0 0 0 0 0 0 0 0 0 0 0 0 0 0 0 0 false []
    by_cases hE:tksE l=0
    ·obtain ⟨Y,J,c29_,c34_,c26_2,c35_⟩:=all_x a c l hla hl hk hn hA hE
     rw [hE] at c32_ c21_b
     refine call_of_vc (x:=jr4) (by kernel_rfl) rfl ?_
     refine ca c14_ ?_
     refine sd ?_
     refine b_lt (fun t1=>?_) (fun t1=>?_)
     refine sd ?_
     refine b_ne (fun t2=>?_) (fun t2=>?_)
     refine ca (c15) ?_
     exact rfl
     refine ca c17_ ?_
     refine ca c28_ ?_
     refine ca c17_ ?_
     refine ca c30_ ?_
     refine ca c29_ ?_
     refine ca c20_ ?_
     refine ca c31_ ?_
     refine sd ?_
     refine sd ?_
     refine ca c21_a ?_
     refine ca c32_ ?_
     refine sd ?_
     refine sd ?_
     refine ca c21_b ?_
     refine sd ?_
     refine b_eq (fun t3=>?_) (fun t3=>?_)
     (exfalso; omega)
     refine sd ?_
     refine ca c34_ ?_
     refine ca c26_1 ?_
     refine ca c26_2 ?_
     refine ca c35_ ?_
     refine ca (c15) ?_
     exact rfl
     refine sd ?_
     refine ca c17_ ?_
     refine ca c28_ ?_
     refine ca c17_ ?_
     refine ca c30_ ?_
     refine ca c29_ ?_
     refine ca c20_ ?_
     refine ca c31_ ?_
     refine sd ?_
     refine sd ?_
     refine ca c21_a ?_
     refine ca c32_ ?_
     refine sd ?_
     refine sd ?_
     refine ca c21_b ?_
     refine sd ?_
     refine b_eq (fun t4=>?_) (fun t4=>?_)
     (exfalso; omega)
     refine sd ?_
     refine ca c34_ ?_
     refine ca c26_1 ?_
     refine ca c26_2 ?_
     refine ca c35_ ?_
     refine ca (c15) ?_
     exact rfl
    ·have c29_:=c29e a c l hla hl (by rw [hA,f1]; exact hE)
     rw [hA,f1] at c29_
     have c26_2:=c26z (tksE l) hE 0 0 0 0 0 0 0 0 0 0 0 0 0 0 0 0 0 0 0 0 false []
     refine call_of_vc (x:=jr4) (by kernel_rfl) rfl ?_
     refine ca c14_ ?_
     refine sd ?_
     refine b_lt (fun t1=>?_) (fun t1=>?_)
     refine sd ?_
     refine b_ne (fun t2=>?_) (fun t2=>?_)
     refine ca (c15) ?_
     exact rfl
     refine ca c17_ ?_
     refine ca c28_ ?_
     refine ca c17_ ?_
     refine ca c30_ ?_
     refine ca c29_ ?_
     refine ca c20_ ?_
     refine ca c31_ ?_
     refine sd ?_
     refine sd ?_
     refine ca c21_a ?_
     refine ca c32_ ?_
     refine sd ?_
     refine sd ?_
     refine ca c21_b ?_
     refine sd ?_
     refine b_eq (fun t3=>?_) (fun t3=>?_)
     (exfalso; omega)
     refine sd ?_
     refine b_eq (fun t4=>?_) (fun t4=>?_)
     (exfalso; omega)
     refine ca c26_1 ?_
     refine ca c26_2 ?_
     refine ca c35_0 ?_
     refine ca (c15) ?_
     exact rfl
     refine sd ?_
     refine ca c17_ ?_
     refine ca c28_ ?_
     refine ca c17_ ?_
     refine ca c30_ ?_
     refine ca c29_ ?_
     refine ca c20_ ?_
     refine ca c31_ ?_
     refine sd ?_
     refine sd ?_
     refine ca c21_a ?_
     refine ca c32_ ?_
     refine sd ?_
     refine sd ?_
     refine ca c21_b ?_
     refine sd ?_
     refine b_eq (fun t5=>?_) (fun t5=>?_)
     (exfalso; omega)
     refine sd ?_
     refine b_eq (fun t6=>?_) (fun t6=>?_)
     (exfalso; omega)
     refine ca c26_1 ?_
     refine ca c26_2 ?_
     refine ca c35_0 ?_
     refine ca (c15) ?_
     exact rfl
  ·have c29_:=c29e a c l hla hl (by rw [fo_nz hA]; exact hA)
   rw [fo_nz hA] at c29_ c21_a c21_b c28_
   rw [bne_t hA] at c28_
   have c26_1:=c26z (ckA a c) hA 0 0 0 0 0 0 0 0 0 0 0 0 0 0 0 0 0 0 0 0 false []
   refine call_of_vc (x:=jr4) (by kernel_rfl) rfl ?_
   refine ca c14_ ?_
   refine sd ?_
   refine b_lt (fun t1=>?_) (fun t1=>?_)
   refine sd ?_
   refine b_ne (fun t2=>?_) (fun t2=>?_)
   refine ca (c15) ?_
   exact rfl
   refine ca c17_ ?_
   refine ca c28_ ?_
   refine ca c17_ ?_
   refine ca c30_ ?_
   refine ca c29_ ?_
   refine ca c20_ ?_
   refine ca c31_ ?_
   refine sd ?_
   refine sd ?_
   refine ca c21_a ?_
   refine ca c32_ ?_
   refine sd ?_
   refine sd ?_
   refine ca c21_b ?_
   refine sd ?_
   refine b_eq (fun t3=>?_) (fun t3=>?_)
   (exfalso; omega)
   refine sd ?_
   refine b_eq (fun t4=>?_) (fun t4=>?_)
   (exfalso; omega)
   refine ca c26_1 ?_
   refine ca c26_1 ?_
   refine ca c35_0 ?_
   refine ca (c15) ?_
   exact rfl
   refine sd ?_
   refine ca c17_ ?_
   refine ca c28_ ?_
   refine ca c17_ ?_
   refine ca c30_ ?_
   refine ca c29_ ?_
   refine ca c20_ ?_
   refine ca c31_ ?_
   refine sd ?_
   refine sd ?_
   refine ca c21_a ?_
   refine ca c32_ ?_
   refine sd ?_
   refine sd ?_
   refine ca c21_b ?_
   refine sd ?_
   refine b_eq (fun t5=>?_) (fun t5=>?_)
   (exfalso; omega)
   refine sd ?_
   refine b_eq (fun t6=>?_) (fun t6=>?_)
   (exfalso; omega)
   refine ca c26_1 ?_
   refine ca c26_1 ?_
   refine ca c35_0 ?_
   refine ca (c15) ?_
   exact rfl
end Vc
