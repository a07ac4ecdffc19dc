import Derived.Test.YtkopkfcfgiijmaaGreatDoorG13
import Derived.Test.YtkopkfcfgiijmaaGreatDoorG14
import Derived.Test.YtkopkfcfgiijmaaGreatDoorG15
import Derived.Test.YtkopkfcfgiijmaaGreatDoorG12
import Derived.Test.YtkopkfcfgiijmaaGreatDoorG09
set_option linter.unusedSectionVars false
set_option linter.unusedVariables false
set_option linter.unusedSimpArgs false
set_option maxRecDepth 10000
set_option maxHeartbeats 4000000
namespace Vc
open Go Go.Proofs
def ir45:AFun:=⟨20,2,[.tmp 4,.tmp 5],
 (.seq
 (.reg [0] [⟨some 2,.cbx 0 2 (.tmp 0),none⟩,
 ⟨some 4,.mov (.cst (.nils 1)),none⟩,
 ⟨some 5,.mov (.cst (.d (.int .i64 0))),none⟩])
 (.seq
 (.seq
 (.regd [1] [⟨some 7,.ld true 2 (.tmp 2),none⟩,
 ⟨some 8,.call 32 [(.tmp 7)],none⟩,
 ⟨some 9,.ld true 2 (.tmp 2),none⟩,
 ⟨some 10,.mov (.tmp 1),none⟩,
 ⟨some 11,.call 33 [(.tmp 9),(.tmp 10)],none⟩,
 ⟨some 12,.bsl 1 33 1 2 [(.int .i64 0),(.int .i64 0)] [(0,(.tmp 8)),(1,(.tmp 11))],none⟩,
 ⟨some 13,.call 31 [(.tmp 12)],none⟩,
 ⟨some 6,.mov (.tmp 13),none⟩] [(0,2),(1,2),(0,3),(1,3),(2,3)])
 (.seq
 (.reg [] [⟨some 14,.mov (.tmp 6),none⟩,
 ⟨some 15,.cmp .neq (.tmp 14) (.cst (.d (.int .i64 0))),none⟩])
 (.cond (.tmp 15)
 (.seq
 (.reg [] [⟨some 16,.mov (.tmp 6),none⟩,
 ⟨some 4,.mov (.cst (.nils 1)),none⟩,
 ⟨some 5,.mov (.tmp 16),none⟩])
 .ret)
 .skip)))
 (.seq
 (.reg [] [⟨some 17,.ld true 2 (.tmp 2),none⟩,
 ⟨some 18,.mov (.tmp 1),none⟩,
 ⟨some 19,.call 100 [(.tmp 17),(.tmp 18)],none⟩,
 ⟨some 4,.mov (.tmp 19),none⟩,
 ⟨some 5,.mov (.cst (.d (.int .i64 0))),none⟩])
 .ret)))⟩
def ir46:AFun:=⟨24,1,[.tmp 6,.tmp 7],
 (.seq
 (.reg [0] [⟨some 3,.cbx 0 2 (.tmp 0),none⟩,
 ⟨some 6,.mov (.cst (.nils 1)),none⟩,
 ⟨some 7,.mov (.cst (.d (.int .i64 0))),none⟩])
 (.seq
 (.seq
 (.reg [] [⟨some 10,.ld true 2 (.tmp 3),none⟩,
 ⟨some 11,.mov (.tmp 1),none⟩,
 ⟨some 12,.mov (.tmp 2),none⟩,
 ⟨some 13,.call 99 [(.tmp 10),(.tmp 11),(.tmp 12)],none⟩,
 ⟨some 8,.mov (.tmp 13),none⟩])
 (.seq
 (.reg [] [⟨some 14,.mov (.tmp 8),none⟩,
 ⟨some 15,.cmp .neq (.tmp 14) (.cst (.d (.int .i64 0))),none⟩])
 (.cond (.tmp 15)
 (.seq
 (.reg [] [⟨some 16,.mov (.tmp 8),none⟩,
 ⟨some 6,.mov (.cst (.nils 1)),none⟩,
 ⟨some 7,.mov (.tmp 16),none⟩])
 .ret)
 .skip)))
 (.seq
 (.reg [] [⟨some 17,.ld true 2 (.tmp 3),none⟩,
 ⟨some 18,.mov (.tmp 1),none⟩,
 ⟨some 19,.call 100 [(.tmp 17),(.tmp 18)],none⟩,
 ⟨some 9,.mov (.tmp 19),none⟩])
 (.seq
 (.seq
 (.reg [] [⟨some 20,.mov (.tmp 9),none⟩,
 ⟨some 21,.mov (.tmp 2),none⟩,
 ⟨some 22,.call 81 [(.tmp 20),(.tmp 21)],none⟩])
 (.cond (.tmp 22)
 (.seq
 (.reg [] [⟨some 6,.mov (.cst (.nils 1)),none⟩,
 ⟨some 7,.mov (.cst (.d (.int .i64 21))),none⟩])
 .ret)
 .skip))
 (.seq
 (.reg [] [⟨some 23,.mov (.tmp 9),none⟩,
 ⟨some 6,.mov (.tmp 23),none⟩,
 ⟨some 7,.mov (.cst (.d (.int .i64 0))),none⟩])
 .ret)))))⟩
def ir111:AFun:=⟨25,3,[.tmp 4],
 (.seq
 (.reg [0] [⟨some 2,.cbx 0 2 (.tmp 0),none⟩,
 ⟨some 4,.mov (.cst (.nils 1)),none⟩])
 (.seq
 (.reg [] [⟨some 5,.mov (.cst (.nils 1)),none⟩])
 (.seq
 (.seq
 (.reg [] [⟨some 8,.ld true 2 (.tmp 2),none⟩,
 ⟨some 9,.mov (.tmp 1),none⟩,
 ⟨some 10,.call 98 [(.tmp 8),(.tmp 9)],none⟩,
 ⟨some 11,.len (.tmp 10),none⟩,
 ⟨some 12,.mov (.cst (.d (.int .i64 0))),none⟩])
 (.post [5] [0,1,2]
 (.block 0
 (.asrow 2 3 1 5
 (.keep [5,10,11,12] [0]
 (.loop
 (.post [5,10,11,12] [1,2]
 (.seq
 (.reg [] [⟨some 13,.cmp .lss (.tmp 12) (.tmp 11),none⟩])
 (.seq
 (.cond (.tmp 13)
 .skip
 (.exit 0))
 (.seq
 (.block 1
 (.seq
 (.reg [] [⟨some 14,.mov (.tmp 12),none⟩,
 ⟨some 15,.ixa 1 (.tmp 10) (.tmp 12),none⟩,
 ⟨some 16,.ld false 1 (.tmp 15),none⟩,
 ⟨some 6,.mov (.tmp 14),none⟩,
 ⟨some 7,.mov (.tmp 16),none⟩])
 (.seq
 (.reg [] [⟨some 17,.mov (.tmp 7),none⟩,
 ⟨some 18,.cmp .geq (.tmp 17) (.cst (.d (.int .i64 0))),none⟩])
 (.cond (.tmp 18)
 (.reg [1,2] [⟨some 19,.mov (.tmp 5),none⟩,
 ⟨some 20,.mov (.tmp 6),none⟩,
 ⟨some 21,.bsl 1 3 1 1 [(.int .i64 0)] [(0,(.tmp 20))],none⟩,
 ⟨some 22,.app 2 3 1 8 (.tmp 19) (.tmp 21),none⟩,
 ⟨some 5,.mov (.tmp 22),none⟩])
 .skip))))
 (.reg [] [⟨some 23,.arith .add .i64 (.tmp 12) (.cst (.d (.int .i64 1))),none⟩,
 ⟨some 12,.mov (.tmp 23),none⟩])))))))))))
 (.seq
 (.reg [] [⟨some 24,.mov (.tmp 5),none⟩,
 ⟨some 4,.mov (.tmp 24),none⟩])
 .ret))))⟩
def ir112:AFun:=⟨17,2,[.tmp 6],
 (.seq
 (.reg [0] [⟨some 3,.cbx 0 2 (.tmp 0),none⟩,
 ⟨some 6,.mov (.cst (.d (.int .i64 0))),none⟩])
 (.seq
 (.regd [1] [⟨some 7,.ld true 2 (.tmp 3),none⟩,
 ⟨some 8,.call 32 [(.tmp 7)],none⟩,
 ⟨some 9,.ld true 2 (.tmp 3),none⟩,
 ⟨some 10,.mov (.tmp 1),none⟩,
 ⟨some 11,.call 33 [(.tmp 9),(.tmp 10)],none⟩,
 ⟨some 12,.ld true 2 (.tmp 3),none⟩,
 ⟨some 13,.mov (.tmp 2),none⟩,
 ⟨some 14,.call 33 [(.tmp 12),(.tmp 13)],none⟩,
 ⟨some 15,.bsl 1 33 1 3 [(.int .i64 0),(.int .i64 0),(.int .i64 0)] [(0,(.tmp 8)),(1,(.tmp 11)),(2,(.tmp 14))],none⟩,
 ⟨some 16,.call 31 [(.tmp 15)],none⟩,
 ⟨some 6,.mov (.tmp 16),none⟩] [(0,2),(1,2),(0,3),(1,3),(2,3),(0,5),(1,5),(2,5),(3,5),(4,5),(0,6),(1,6),(2,6),(3,6),(4,6),(5,6)])
 .ret))⟩
def ir114:AFun:=⟨7,0,[.tmp 3],
 (.seq
 (.reg [] [⟨some 3,.mov (.cst (.d (.bool false))),none⟩])
 (.seq
 (.reg [] [⟨some 4,.ld false 1 (.tmp 1),none⟩,
 ⟨some 5,.mov (.tmp 0),none⟩,
 ⟨some 6,.call 81 [(.tmp 4),(.tmp 5)],none⟩,
 ⟨some 3,.mov (.tmp 6),none⟩])
 .ret))⟩
def ir116:AFun:=⟨13,1,[.tmp 3],
 (.seq
 (.reg [0] [⟨some 2,.cbx 0 3 (.tmp 0),none⟩,
 ⟨some 3,.mov (.cst (.d (.bool false))),none⟩])
 (.seq
 (.regd [] [⟨some 4,.ld false 1 (.tmp 1),none⟩,
 ⟨some 5,.fad 0 (.tmp 2),none⟩,
 ⟨some 6,.ld false 1 (.tmp 5),none⟩,
 ⟨some 7,.callv (.tmp 4) [(.tmp 6)],none⟩,
 ⟨some 8,.ld false 1 (.tmp 1),none⟩,
 ⟨some 9,.fad 1 (.tmp 2),none⟩,
 ⟨some 10,.ld false 1 (.tmp 9),none⟩,
 ⟨some 11,.callv (.tmp 8) [(.tmp 10)],none⟩,
 ⟨some 12,.beq true (.tmp 7) (.tmp 11),none⟩,
 ⟨some 3,.mov (.tmp 12),none⟩] [(0,1),(0,2),(0,4),(1,4),(2,4),(3,4),(0,5),(1,5),(2,5),(3,5),(4,5),(0,6),(1,6),(2,6),(3,6),(4,6)])
 .ret))⟩
def ir47:AFun:=⟨75,5,[.tmp 8],
 (.seq
 (.reg [0,1] [⟨some 4,.cbx 0 2 (.tmp 0),none⟩,
 ⟨some 7,.cbx 1 1 (.tmp 3),none⟩,
 ⟨some 8,.mov (.cst (.d (.int .i64 0))),none⟩])
 (.seq
 (.seq
 (.regd [2] [⟨some 15,.ld true 2 (.tmp 4),none⟩,
 ⟨some 16,.mov (.tmp 1),none⟩,
 ⟨some 17,.mov (.tmp 2),none⟩,
 ⟨some 18,.call 99 [(.tmp 15),(.tmp 16),(.tmp 17)],none⟩,
 ⟨some 19,.ld false 1 (.tmp 7),none⟩,
 ⟨some 20,.len (.tmp 19),none⟩,
 ⟨some 21,.cmp .gtr (.tmp 20) (.cst (.d (.int .i64 32))),none⟩,
 ⟨some 22,.call 58 [(.tmp 21),(.cst (.d (.int .i64 5)))],none⟩,
 ⟨some 23,.bsl 2 33 1 2 [(.int .i64 0),(.int .i64 0)] [(0,(.tmp 18)),(1,(.tmp 22))],none⟩,
 ⟨some 24,.call 31 [(.tmp 23)],none⟩,
 ⟨some 9,.mov (.tmp 24),none⟩] [(0,1),(0,2),(1,2),(0,4),(1,4),(2,4),(3,4),(0,5),(1,5),(2,5),(3,5),(0,6),(1,6),(2,6),(3,6)])
 (.seq
 (.reg [] [⟨some 25,.mov (.tmp 9),none⟩,
 ⟨some 26,.cmp .neq (.tmp 25) (.cst (.d (.int .i64 0))),none⟩])
 (.cond (.tmp 26)
 (.seq
 (.reg [] [⟨some 27,.mov (.tmp 9),none⟩,
 ⟨some 8,.mov (.tmp 27),none⟩])
 .ret)
 .skip)))
 (.seq
 (.seq
 (.reg [] [⟨some 28,.ld false 1 (.tmp 7),none⟩,
 ⟨some 29,.len (.tmp 28),none⟩,
 ⟨some 30,.mov (.cst (.d (.int .i64 0))),none⟩])
 (.post [1,2,4,7] [0,1,2,3]
 (.block 0
 (.keep [1,2,4,7,28,29,30] [0,1,2]
 (.loop
 (.post [1,2,4,7,28,29,30] [3]
 (.seq
 (.reg [] [⟨some 31,.cmp .lss (.tmp 30) (.tmp 29),none⟩])
 (.seq
 (.cond (.tmp 31)
 .skip
 (.exit 0))
 (.seq
 (.block 1
 (.seq
 (.reg [] [⟨some 32,.mov (.tmp 30),none⟩,
 ⟨some 33,.ixa 1 (.tmp 28) (.tmp 30),none⟩,
 ⟨some 34,.ld false 1 (.tmp 33),none⟩,
 ⟨some 10,.mov (.tmp 32),none⟩,
 ⟨some 11,.mov (.tmp 34),none⟩])
 (.seq
 (.reg [3] [⟨some 35,.ld true 2 (.tmp 4),none⟩,
 ⟨some 36,.mov (.tmp 11),none⟩,
 ⟨some 37,.call 33 [(.tmp 35),(.tmp 36)],none⟩,
 ⟨some 38,.mov (.tmp 10),none⟩,
 ⟨some 39,.cmp .gtr (.tmp 38) (.cst (.d (.int .i64 0))),none⟩,
 ⟨some 40,.mov (.tmp 39),none⟩,
 ⟨some 41,.mov (.tmp 11),some (40,true)⟩,
 ⟨some 42,.ld false 1 (.tmp 7),some (40,true)⟩,
 ⟨some 43,.mov (.tmp 10),some (40,true)⟩,
 ⟨some 44,.arith .sub .i64 (.tmp 43) (.cst (.d (.int .i64 1))),some (40,true)⟩,
 ⟨some 45,.maxi (.cst (.d (.int .i64 0))) (.tmp 44),some (40,true)⟩,
 ⟨some 46,.ixa 1 (.tmp 42) (.tmp 45),some (40,true)⟩,
 ⟨some 47,.ld false 1 (.tmp 46),some (40,true)⟩,
 ⟨some 48,.cmp .leq (.tmp 41) (.tmp 47),some (40,true)⟩,
 ⟨some 49,.pick (.tmp 40) (.tmp 48) (.cst (.d (.bool false))),none⟩,
 ⟨some 50,.call 58 [(.tmp 49),(.cst (.d (.int .i64 11)))],none⟩,
 ⟨some 51,.bsl 3 33 1 2 [(.int .i64 0),(.int .i64 0)] [(0,(.tmp 37)),(1,(.tmp 50))],none⟩,
 ⟨some 52,.call 31 [(.tmp 51)],none⟩,
 ⟨some 12,.mov (.tmp 52),none⟩])
 (.seq
 (.reg [] [⟨some 53,.mov (.tmp 12),none⟩,
 ⟨some 54,.cmp .neq (.tmp 53) (.cst (.d (.int .i64 0))),none⟩])
 (.cond (.tmp 54)
 (.seq
 (.reg [] [⟨some 55,.mov (.tmp 12),none⟩,
 ⟨some 8,.mov (.tmp 55),none⟩])
 .ret)
 .skip)))))
 (.reg [] [⟨some 56,.arith .add .i64 (.tmp 30) (.cst (.d (.int .i64 1))),none⟩,
 ⟨some 30,.mov (.tmp 56),none⟩]))))))))))
 (.seq
 (.reg [4] [⟨some 57,.mkf (.func 101) [] [(.tmp 7)],none⟩,
 ⟨some 13,.alloc 4 [.undef],none⟩,
 ⟨none,.st 1 (.tmp 13) (.tmp 57),none⟩])
 (.seq
 (.reg [] [⟨some 58,.fad 1 (.tmp 4),none⟩,
 ⟨some 59,.ld false 1 (.tmp 58),none⟩,
 ⟨some 60,.mkf (.func 103) [] [(.tmp 13)],none⟩,
 ⟨some 61,.call 102 [(.tmp 59),(.tmp 60)],none⟩,
 ⟨some 14,.mov (.tmp 61),none⟩])
 (.seq
 (.reg [] [⟨some 62,.ld false 1 (.tmp 13),none⟩,
 ⟨some 63,.mov (.tmp 1),none⟩,
 ⟨some 64,.callv (.tmp 62) [(.tmp 63)],none⟩,
 ⟨some 65,.not (.tmp 64),none⟩,
 ⟨some 66,.mov (.tmp 65),none⟩,
 ⟨some 67,.ld false 1 (.tmp 13),some (66,false)⟩,
 ⟨some 68,.mov (.tmp 2),some (66,false)⟩,
 ⟨some 69,.callv (.tmp 67) [(.tmp 68)],some (66,false)⟩,
 ⟨some 70,.pick (.tmp 66) (.cst (.d (.bool true))) (.tmp 69),none⟩,
 ⟨some 71,.mov (.tmp 70),none⟩,
 ⟨some 72,.mov (.tmp 14),some (71,false)⟩,
 ⟨some 73,.pick (.tmp 71) (.cst (.d (.bool true))) (.tmp 72),none⟩,
 ⟨some 74,.call 58 [(.tmp 73),(.cst (.d (.int .i64 19)))],none⟩,
 ⟨some 8,.mov (.tmp 74),none⟩])
 .ret))))))⟩
def ir51:AFun:=⟨74,1,[.tmp 8],
 (.seq
 (.reg [0] [⟨some 4,.cbx 0 2 (.tmp 0),none⟩,
 ⟨some 8,.mov (.cst (.d (.int .i64 0))),none⟩])
 (.seq
 (.seq
 (.reg [] [⟨some 11,.mov (.tmp 3),none⟩,
 ⟨some 12,.len (.tmp 11),none⟩,
 ⟨some 13,.cmp .gtr (.tmp 12) (.cst (.d (.int .i64 32))),none⟩])
 (.cond (.tmp 13)
 (.seq
 (.reg [] [⟨some 8,.mov (.cst (.d (.int .i64 5))),none⟩])
 .ret)
 .skip))
 (.seq
 (.seq
 (.reg [] [⟨some 9,.mov (.cst (.d (.int .i64 0))),none⟩])
 (.post [1,2,3,4] [0]
 (.block 0
 (.keep [1,2,3,4,9] [0]
 (.loop
 (.post [1,2,3,4,9] []
 (.seq
 (.seq
 (.reg [] [⟨some 14,.mov (.tmp 9),none⟩,
 ⟨some 15,.mov (.tmp 3),none⟩,
 ⟨some 16,.len (.tmp 15),none⟩,
 ⟨some 17,.cmp .lss (.tmp 14) (.tmp 16),none⟩])
 (.cond (.tmp 17)
 .skip
 (.exit 0)))
 (.seq
 (.block 1
 (.seq
 (.seq
 (.regd [] [⟨some 20,.ld true 2 (.tmp 4),none⟩,
 ⟨some 21,.mov (.tmp 3),none⟩,
 ⟨some 22,.mov (.tmp 9),none⟩,
 ⟨some 23,.ixa 1 (.tmp 21) (.tmp 22),none⟩,
 ⟨some 24,.ld false 1 (.tmp 23),none⟩,
 ⟨some 25,.call 43 [(.tmp 20),(.tmp 24)],none⟩,
 ⟨some 26,.not (.tmp 25),none⟩] [(0,1),(0,2),(1,2),(0,3),(0,4)])
 (.cond (.tmp 26)
 (.seq
 (.reg [] [⟨some 8,.mov (.cst (.d (.int .i64 10))),none⟩])
 .ret)
 .skip))
 (.seq
 (.regd [] [⟨some 27,.mov (.tmp 9),none⟩,
 ⟨some 28,.cmp .gtr (.tmp 27) (.cst (.d (.int .i64 0))),none⟩,
 ⟨some 29,.mov (.tmp 28),none⟩,
 ⟨some 30,.mov (.tmp 3),some (29,true)⟩,
 ⟨some 31,.mov (.tmp 9),some (29,true)⟩,
 ⟨some 32,.ixa 1 (.tmp 30) (.tmp 31),some (29,true)⟩,
 ⟨some 33,.ld false 1 (.tmp 32),some (29,true)⟩,
 ⟨some 34,.mov (.tmp 3),some (29,true)⟩,
 ⟨some 35,.mov (.tmp 9),some (29,true)⟩,
 ⟨some 36,.arith .sub .i64 (.tmp 35) (.cst (.d (.int .i64 1))),some (29,true)⟩,
 ⟨some 37,.ixa 1 (.tmp 34) (.tmp 36),some (29,true)⟩,
 ⟨some 38,.ld false 1 (.tmp 37),some (29,true)⟩,
 ⟨some 39,.cmp .leq (.tmp 33) (.tmp 38),some (29,true)⟩,
 ⟨some 40,.pick (.tmp 29) (.tmp 39) (.cst (.d (.bool false))),none⟩] [(3,4),(3,7),(4,7),(5,7),(6,7),(3,8),(4,8),(5,8),(6,8),(7,8),(3,9),(4,9),(5,9),(6,9),(7,9),(3,10),(4,10),(5,10),(6,10),(3,11),(4,11),(5,11),(6,11)])
 (.cond (.tmp 40)
 (.seq
 (.reg [] [⟨some 8,.mov (.cst (.d (.int .i64 11))),none⟩])
 .ret)
 .skip))))
 (.reg [] [⟨some 18,.mov (.tmp 9),none⟩,
 ⟨some 19,.arith .add .i64 (.tmp 18) (.cst (.d (.int .i64 1))),none⟩,
 ⟨some 9,.mov (.tmp 19),none⟩])))))))))
 (.seq
 (.seq
 (.reg [] [⟨some 41,.mov (.tmp 3),none⟩,
 ⟨some 42,.mov (.tmp 1),none⟩,
 ⟨some 43,.call 14 [(.tmp 41),(.tmp 42)],none⟩,
 ⟨some 44,.not (.tmp 43),none⟩,
 ⟨some 45,.mov (.tmp 44),none⟩,
 ⟨some 46,.mov (.tmp 3),some (45,false)⟩,
 ⟨some 47,.mov (.tmp 2),some (45,false)⟩,
 ⟨some 48,.call 14 [(.tmp 46),(.tmp 47)],some (45,false)⟩,
 ⟨some 49,.pick (.tmp 45) (.cst (.d (.bool true))) (.tmp 48),none⟩])
 (.cond (.tmp 49)
 (.seq
 (.reg [] [⟨some 8,.mov (.cst (.d (.int .i64 19))),none⟩])
 .ret)
 .skip))
 (.seq
 (.seq
 (.reg [] [⟨some 10,.mov (.cst (.d (.int .i64 0))),none⟩])
 (.post [] [0]
 (.block 2
 (.keep [3,4,10] [0]
 (.loop
 (.post [3,4,10] []
 (.seq
 (.seq
 (.reg [] [⟨some 50,.mov (.tmp 10),none⟩,
 ⟨some 51,.fad 1 (.tmp 4),none⟩,
 ⟨some 52,.ld false 1 (.tmp 51),none⟩,
 ⟨some 53,.len (.tmp 52),none⟩,
 ⟨some 54,.cmp .lss (.tmp 50) (.tmp 53),none⟩])
 (.cond (.tmp 54)
 .skip
 (.exit 2)))
 (.seq
 (.block 3
 (.seq
 (.regd [] [⟨some 57,.mov (.tmp 3),none⟩,
 ⟨some 58,.fad 1 (.tmp 4),none⟩,
 ⟨some 59,.ld false 1 (.tmp 58),none⟩,
 ⟨some 60,.mov (.tmp 10),none⟩,
 ⟨some 61,.ixa 3 (.tmp 59) (.tmp 60),none⟩,
 ⟨some 62,.fad 0 (.tmp 61),none⟩,
 ⟨some 63,.ld false 1 (.tmp 62),none⟩,
 ⟨some 64,.call 14 [(.tmp 57),(.tmp 63)],none⟩,
 ⟨some 65,.mov (.tmp 3),none⟩,
 ⟨some 66,.fad 1 (.tmp 4),none⟩,
 ⟨some 67,.ld false 1 (.tmp 66),none⟩,
 ⟨some 68,.mov (.tmp 10),none⟩,
 ⟨some 69,.ixa 3 (.tmp 67) (.tmp 68),none⟩,
 ⟨some 70,.fad 1 (.tmp 69),none⟩,
 ⟨some 71,.ld false 1 (.tmp 70),none⟩,
 ⟨some 72,.call 14 [(.tmp 65),(.tmp 71)],none⟩,
 ⟨some 73,.beq true (.tmp 64) (.tmp 72),none⟩] [(0,1),(0,2),(0,3),(1,3),(2,3),(0,4),(0,5),(0,6),(0,8),(1,8),(2,8),(3,8),(4,8),(5,8),(6,8),(7,8),(0,9),(1,9),(2,9),(3,9),(4,9),(5,9),(6,9),(7,9),(8,9),(0,10),(1,10),(2,10),(3,10),(4,10),(5,10),(6,10),(7,10),(8,10),(0,11),(1,11),(2,11),(3,11),(4,11),(5,11),(6,11),(7,11),(8,11),(9,11),(10,11),(0,12),(1,12),(2,12),(3,12),(4,12),(5,12),(6,12),(7,12),(8,12),(0,13),(1,13),(2,13),(3,13),(4,13),(5,13),(6,13),(7,13),(8,13),(0,14),(1,14),(2,14),(3,14),(4,14),(5,14),(6,14),(7,14),(8,14)])
 (.cond (.tmp 73)
 (.seq
 (.reg [] [⟨some 8,.mov (.cst (.d (.int .i64 19))),none⟩])
 .ret)
 .skip)))
 (.reg [] [⟨some 55,.mov (.tmp 10),none⟩,
 ⟨some 56,.arith .add .i64 (.tmp 55) (.cst (.d (.int .i64 1))),none⟩,
 ⟨some 10,.mov (.tmp 56),none⟩])))))))))
 (.seq
 (.reg [] [⟨some 8,.mov (.cst (.d (.int .i64 0))),none⟩])
 .ret))))))⟩
def reachN (d:List Int):Nat→List Int
 | 0=>[]
 | k+1=>reachN d k++(bif decide (0≤at0 d k) then [(k:Int)] else [])
theorem reachN_len (d:List Int):∀ k,(reachN d k).length≤k
 | 0=>Nat.le_refl _
 | k+1=>by
  have:=reachN_len d k
  rw [reachN,List.length_append]
  cases decide (0≤at0 d k)
  ·show _+0≤_; omega
  ·show _+1≤_; omega
theorem reachN_yes {d:List Int} {k:Nat} (h:0≤at0 d k):reachN d (k+1)=reachN d k++[(k:Int)]:=by rw [reachN,decide_eq_true h]; rfl
theorem reachN_no {d:List Int} {k:Nat} (h:¬ 0≤at0 d k):reachN d (k+1)=reachN d k:=by rw [reachN,decide_eq_false h]; exact List.append_nil _
def Ms.reach (m:Ms) (f:Int):List Int:=reachN (m.dist f) (m.dist f).length
theorem dist_len (m:Ms) (f:Int):(m.dist f).length=m.ns.length:=by
 unfold Ms.dist; rw [passes_len]; unfold start; rw [List.length_set,List.length_replicate]
theorem reach_len (m:Ms) (f:Int):(m.reach f).length≤m.ns.length:=by
 have:=reachN_len (m.dist f) (m.dist f).length
 rw [dist_len] at this
 unfold Ms.reach; rw [dist_len]; exact this
theorem at0_get {d:List Int} {k:Nat} {x:Int} (h:d[k]?=some x):at0 d k=x:=by unfold at0; rw [h]; rfl
theorem ints_app1 (l:List Int) (x:Int):ints (l++[x])=ints l++[.int .i64 x]:=by unfold ints; rw [List.map_append]; rfl
theorem c111 (m:Ms) (f:Int) (hf:m.fine) (h0:0≤f) (h1:f < (m.ns.length:Int)):CallDet Tryz.prog 100 [.d m.d,.d (.int .i64 f)] [.slice 1 (ints (m.reach f))]:=by
 have hdl:=ints_len (m.dist f)
 have hdn:=dist_len m f
 have h32:=hf.n32
 refine call_of_vc (x:=ir111) (by kernel_rfl) rfl ?_
 refine ca (c92 m f hf h0 h1) ?_
 rotate_left
 refine loop_u (fun a:Nat=>[(5,.sl 2 (ints (reachN (m.dist f) a)).length),(12,.d (.int .i64 a))]) (fun a=>[(2,.row 3 1 (ints (reachN (m.dist f) a)) false)]) (fun a=>a≤(m.dist f).length) (fun a=>(m.dist f).length - a) 0 rfl (Nat.zero_le _) ?_
 intro k hk
 have hk:k≤(m.dist f).length:=hk
 have hrl:=reachN_len (m.dist f) k
 have hil:=ints_len (reachN (m.dist f) k)
 by_cases hkk:k < (m.dist f).length
 ·refine Exists.elim (get_lt (m.dist f) hkk) fun x hx=>?_
  have hxd:=ints_get hx
  have hxa:=at0_get hx
  refine sd ?_
  refine b_lt (fun t1=>?_) (fun t1=>?_)
  refine ix_at hxd ?_ ?_
  (show (0:Int)≤(↑k:Int); omega)
  refine sd ?_
  refine b_le (fun t2=>?_) (fun t2=>?_)
  refine sd ?_
  refine sd ?_
  refine sd ?_
  refine an ?_ ?_
  refine an ?_ ?_
  exact rfl
  refine an ?_ ?_
  exact rfl
  refine an ?_ ?_
  exact rfl
  refine an ?_ ?_
  (show (List.length (ints (reachN (Ms.dist m f) k))+(1:Nat)) * (8:Nat)≤(2:Nat) ^ (47:Nat); omega)
  (show List.length (ints (reachN (Ms.dist m f) k))+(1:Nat)≤(2:Nat) ^ (47:Nat); omega)
  refine ar_add ?_ ?_
  refine an ?_ ?_
  (show (-9223372036854775808:Int)≤(↑k:Int)+(1:Int); omega)
  (show (↑k:Int)+(1:Int)≤(9223372036854775807:Int); omega)
  rotate_left
  refine ar_add ?_ ?_
  refine an ?_ ?_
  (show (-9223372036854775808:Int)≤(↑k:Int)+(1:Int); omega)
  (show (↑k:Int)+(1:Int)≤(9223372036854775807:Int); omega)
  rotate_left
  (exfalso; omega)
  ·refine ⟨k+1,⟨hkk,by show (m.dist f).length - (k+1) < (m.dist f).length - k; omega⟩,?_⟩
   rw [reachN_yes (by rw [hxa]; exact t2),ints_app1]; rfl
  ·refine ⟨k+1,⟨hkk,by show (m.dist f).length - (k+1) < (m.dist f).length - k; omega⟩,?_⟩
   rw [reachN_no (by rw [hxa]; exact t2)]; rfl
 ·have ek:k=(m.dist f).length:=by omega
  subst ek
  refine sd ?_
  refine b_lt (fun t1=>?_) (fun t1=>?_)
  (exfalso; omega)
  refine sd ?_
  exact rfl
def twoE (m:Ms) (f t:Int):Int:=firstOf [m.chk,m.nodeE f,m.nodeE t]
theorem twoE_ok {m:Ms} {f t:Int} (h:twoE m f t=0):nodeD m f=0∧nodeD m t=0:=by
 have h1:=firstOf_zero h
 constructor
 ·unfold nodeD; rw [h1 m.chk (by simp),h1 (m.nodeE f) (by simp)]; rfl
 ·unfold nodeD; rw [h1 m.chk (by simp),h1 (m.nodeE t) (by simp)]; rfl
theorem c112 (m:Ms) (f t:Int) (hn:m.ns.length≤1048576) (hl:m.ls.length≤1048576):CallDet Tryz.prog 99 [.d m.d,.d (.int .i64 f),.d (.int .i64 t)] [.int .i64 (twoE m f t)]:=by
 refine call_of_vc (x:=ir112) (by kernel_rfl) rfl ?_
 refine ca (c27 m (by omega) (by omega)) ?_
 refine ca (c87 m _) ?_
 refine ca (c87 m _) ?_
 refine sd ?_
 refine sd ?_
 refine ca (c86 [Ms.chk m,Ms.nodeE m f,Ms.nodeE m t] (by simp)) ?_
 exact rfl
def barrE (m:Ms) (f t:Int):Int:=bif twoE m f t != 0 then twoE m f t else bif (m.reach f).contains t then 21 else 0
theorem c46 (m:Ms) (f t:Int) (hn:m.ns.length≤1048576) (hl:m.ls.length≤1048576):CallDet Tryz.prog 55 [.d m.d,.d (.int .i64 f),.d (.int .i64 t)] [.slice 1 (ints (bif barrE m f t != 0 then [] else m.reach f)),.int .i64 (barrE m f t)]:=by
 have bad:∀ v,barrE m f t=v→¬ v=0→resV [.slice 1 [],.int .i64 v]=resV [.slice 1 (ints (bif barrE m f t != 0 then [] else m.reach f)),.int .i64 (barrE m f t)]:=fun v e h=>by
  rw [e,show (v != 0)=true by rw [bne_iff_ne]; exact h]; rfl
 have hrl:=reach_len m f
 refine call_of_vc (x:=ir46) (by kernel_rfl) rfl ?_
 refine ca (c112 m f t (by omega) (by omega)) ?_
 refine sd ?_
 refine b_ne (fun t1=>?_) (fun t1=>?_)
 rotate_left
 refine ca (c111 m f (nodeD_ok (twoE_ok ‹_›).1).1 (nodeD_ok (twoE_ok ‹_›).1).2.1 (nodeD_ok (twoE_ok ‹_›).1).2.2) ?_
 refine ca (c113 (m.reach f) t (by omega)) ?_
 refine b_intro (fun t2=>?_) (fun t2=>?_)
 rotate_left
 rotate_left
 ·refine bad _ ?_ t1
  unfold barrE; rw [show (twoE m f t != 0)=true by rw [bne_iff_ne]; exact t1]; rfl
 ·refine bad _ ?_ (by decide)
  unfold barrE; rw [t1,t2]; rfl
 ·have e:barrE m f t=0:=by unfold barrE; rw [t1,t2]; rfl
  rw [e]; rfl
theorem c114 (l:List Int) (x:Int) (hl:l.length≤1048576):CallDet Tryz.prog 101 [.d (.int .i64 x),.cp [.slice 1 (ints l)] 0] [.bool (l.contains x)]:=by
 refine call_of_vc (x:=ir114) (by kernel_rfl) rfl ?_
 refine ca (c113 l x hl) ?_
 exact rfl
def crossB (set:List Int) (l:Lk):Bool:=set.contains l.a != set.contains l.b
theorem c116 (s:List Int) (l:Lk) (hl:s.length≤1048576):CallDet Tryz.prog 103 [.d l.d,.cp [.fn (.func 101) [.agg [.slice 1 (ints s)]]] 0] [.bool (crossB s l)]:=by
 refine call_of_vc (x:=ir116) (by kernel_rfl) rfl ?_
 refine ca (c114 s _ hl) ?_
 refine ca (c114 s _ hl) ?_
 exact rfl
def setE (m:Ms) (pre:List Int) (n:Int):Int:=firstOf [m.nodeE n,bif (match pre.getLast? with | some y=>decide (n≤y) | none=>false) then 11 else 0]
def barE (m:Ms) (f t:Int) (set:List Int):Int:=bif decide ((32:Int) < (set.length:Int)) then 5 else bif scanE (setE m) [] set != 0 then scanE (setE m) [] set else
 bif !(set.contains f)||(set.contains t||m.ls.any (crossB set)) then 19 else 0
theorem barE_1 {m:Ms} {f t:Int} {set:List Int} (h:(32:Int) < (set.length:Int)):barE m f t set=5:=by unfold barE; rw [decide_eq_true h]; rfl
theorem barE_2 {m:Ms} {f t v:Int} {set:List Int} (h:¬ (32:Int) < (set.length:Int)) (e:scanE (setE m) [] set=v) (hv:(v != 0)=true):barE m f t set=v:=by unfold barE; rw [decide_eq_false h,e,hv]; rfl
theorem barE_3 {m:Ms} {f t:Int} {set:List Int} (h:¬ (32:Int) < (set.length:Int)) (e:scanE (setE m) [] set=0):barE m f t set=bif !(set.contains f)||(set.contains t||m.ls.any (crossB set)) then 19 else 0:=by unfold barE; rw [decide_eq_false h,e]; rfl
theorem last_take {l:List Int} {k:Nat} (h:k < l.length) {y:Int} (hy:l[k]?=some y):(l.take (k+1)).getLast?=some y:=by
 rw [take_one hy]; simp
theorem setE_0 {m:Ms} {n:Int} {l:List Int}:setE m (l.take 0) n=firstOf [m.nodeE n,0]:=rfl
theorem setE_s {m:Ms} {n y:Int} {l:List Int} {k:Nat} (hk:0 < k) (hy:l[k - 1]?=some y):setE m (l.take k) n=firstOf [m.nodeE n,bif decide (n≤y) then 11 else 0]:=by
 unfold setE
 obtain ⟨j,rfl⟩:∃ j,k=j+1:=⟨k - 1,by omega⟩
 have hy:l[j]?=some y:=hy
 rw [last_take (List.getElem?_eq_some_iff.1 hy).1 hy]
theorem c47 (m:Ms) (f t:Int) (s:List Int) (hn:m.ns.length≤1048576) (hl:m.ls.length≤1048576) (hs:s.length≤1048576):CallDet Tryz.prog 56 [.d m.d,.d (.int .i64 f),.d (.int .i64 t),.d (.slice 1 (ints s))] [.int .i64 (bif twoE m f t != 0 then twoE m f t else barE m f t s)]:=by
 have hsl:=ints_len s
 have fin:∀ v,(bif twoE m f t != 0 then twoE m f t else barE m f t s)=v→resV [.int .i64 v]=resV [.int .i64 (bif twoE m f t != 0 then twoE m f t else barE m f t s)]:=fun v h=>by rw [h]
 refine call_of_vc (x:=ir47) (by kernel_rfl) rfl ?_
 refine ca (c112 m f t (by omega) (by omega)) ?_
 refine sd ?_
 refine ca (c89 _ _) ?_
 refine sd ?_
 refine sd ?_
 refine ca (c86 [twoE m f t,bif decide ((32:Int) < (↑(List.length (ints s)):Int)) then (5:Int) else (0:Int)] (by simp)) ?_
 refine sd ?_
 refine b_ne (fun t1=>?_) (fun t1=>?_)
 rotate_left
 rotate_left
 ·rw [hsl] at t1 ⊢
  refine fin _ ?_
  by_cases h2:twoE m f t=0
  ·rw [h2] at t1 ⊢
   cases hd:decide ((32:Int) < (s.length:Int))
   ·rw [hd] at t1; exact absurd rfl t1
   ·show barE m f t s=5
    exact barE_1 (of_decide_eq_true hd)
  ·have e:(twoE m f t != 0)=true:=by rw [bne_iff_ne]; exact h2
   rw [firstOf_cons,e]; rfl
 have h2:twoE m f t=0:=firstOf_zero t1 (twoE m f t) (by simp)
 have h3:¬ (32:Int) < (s.length:Int):=fun h=>by
  have:=firstOf_zero t1 (bif decide ((32:Int) < ((ints s).length:Int)) then 5 else 0) (by simp)
  rw [hsl,decide_eq_true h] at this; cases this
 have fin2:∀ v,barE m f t s=v→resV [.int .i64 v]=resV [.int .i64 (bif twoE m f t != 0 then twoE m f t else barE m f t s)]:=fun v h=>fin v (by rw [h2,h]; rfl)
 refine loop_u (fun k:Nat=>[(30,.d (.int .i64 k))]) (fun k=>[]) (fun k=>k≤s.length∧scanE (setE m) [] s=scanE (setE m) (s.take k) (s.drop k)) (fun k=>s.length - k) 0 rfl ⟨Nat.zero_le _,rfl⟩ ?_
 rintro k ⟨hk,hi⟩
 have hk:k≤s.length:=hk
 by_cases hkk:k < s.length
 ·refine Exists.elim (get_lt s hkk) fun x hx=>?_
  have hxd:=ints_get hx
  have bad:∀ v,setE m (s.take k) x=v→¬ v=0→barE m f t s=v:=fun v e h=>barE_2 h3 ((scan_bad hi hx (by rw [e,bne_iff_ne]; exact h)).trans e) (by rw [bne_iff_ne]; exact h)
  have okk:setE m (s.take k) x=0→scanE (setE m) [] s=scanE (setE m) (s.take (k+1)) (s.drop (k+1)):=fun e=>scan_ok hi hx (by rw [e]; rfl)
  by_cases hk0:k=0
  ·subst hk0
   refine sd ?_
   refine b_lt (fun t2=>?_) (fun t2=>?_)
   refine ix_at hxd ?_ ?_
   (show (0:Int)≤(↑(0:Nat):Int); omega)
   refine ca (c87 m _) ?_
   refine sd ?_
   refine sd ?_
   refine ca (c89 _ _) ?_
   refine sd ?_
   refine sd ?_
   refine ca (c86 [Ms.nodeE m x,(0:Int)] (by simp)) ?_
   refine sd ?_
   refine b_ne (fun t3=>?_) (fun t3=>?_)
   rotate_left
   refine ar_add ?_ ?_
   refine an ?_ ?_
   (show (-9223372036854775808:Int)≤(↑(0:Nat):Int)+(1:Int); omega)
   (show (↑(0:Nat):Int)+(1:Int)≤(9223372036854775807:Int); omega)
   rotate_left
   (exfalso; omega)
   ·exact fin2 _ (bad _ setE_0 t3)
   ·exact ⟨1,⟨⟨hkk,okk (setE_0.trans t3)⟩,by show s.length - 1 < s.length - 0; omega⟩,rfl⟩
  ·refine Exists.elim (get_lt s (k:=k - 1) (by omega)) fun y hy=>?_
   have hyd:(ints s)[(max (0:Int) ((k:Int) - 1)).toNat]?=some (.int .i64 y):=by
    rw [show (max (0:Int) ((k:Int) - 1)).toNat=k - 1 by omega]
    have h:=ints_get hy
    rwa [show (((k - 1:Nat):Int)).toNat=k - 1 from rfl] at h
   refine sd ?_
   refine b_lt (fun t2=>?_) (fun t2=>?_)
   refine ix_at hxd ?_ ?_
   (show (0:Int)≤(↑k:Int); omega)
   refine ca (c87 m _) ?_
   refine sd ?_
   refine b_lt (fun t3=>?_) (fun t3=>?_)
   refine ar_sub ?_ ?_
   refine an ?_ ?_
   (show (-9223372036854775808:Int)≤(↑k:Int) - (1:Int); omega)
   (show (↑k:Int) - (1:Int)≤(9223372036854775807:Int); omega)
   refine sd ?_
   refine ix_at hyd ?_ ?_
   (show (0:Int)≤max (0:Int) ((↑k:Int) - (1:Int)); omega)
   refine sd ?_
   refine ca (c89 _ _) ?_
   refine sd ?_
   refine sd ?_
   refine ca (c86 [Ms.nodeE m x,bif decide (x≤y) then (11:Int) else (0:Int)] (by simp)) ?_
   refine sd ?_
   refine b_ne (fun t4=>?_) (fun t4=>?_)
   rotate_left
   refine ar_add ?_ ?_
   refine an ?_ ?_
   (show (-9223372036854775808:Int)≤(↑k:Int)+(1:Int); omega)
   (show (↑k:Int)+(1:Int)≤(9223372036854775807:Int); omega)
   rotate_left
   (exfalso; omega)
   (exfalso; omega)
   ·exact fin2 _ (bad _ (setE_s (by omega) hy) t4)
   ·exact ⟨k+1,⟨⟨hkk,okk ((setE_s (by omega) hy).trans t4)⟩,by show s.length - (k+1) < s.length - k; omega⟩,rfl⟩
 ·have h4:scanE (setE m) [] s=0:=scan_end hi (by omega)
  have e3:=barE_3 (f:=f) (t:=t) h3 h4
  have c115_g:=c115g m.ls hl 103 [.fn (.func 101) [.agg [.slice 1 (ints s)]]] (crossB s) (fun o _=>c116 s o hs)
  refine sd ?_
  refine b_lt (fun t2=>?_) (fun t2=>?_)
  (exfalso; omega)
  refine ca c115_g ?_
  refine ca (c114 s _ hs) ?_
  refine b_intro (fun t3=>?_) (fun t3=>?_)
  refine sd ?_
  refine sd ?_
  refine ca (c89 _ _) ?_
  rotate_left
  refine ca (c114 s _ hs) ?_
  refine b_intro (fun t4=>?_) (fun t4=>?_)
  replace t4:List.contains s t=true:=t4
  refine sd ?_
  refine ca (c89 _ _) ?_
  rotate_left
  replace t4:List.contains s t=false:=t4
  refine ca (c89 _ _) ?_
  rotate_left
  ·exact fin2 _ (by rw [e3,t3]; rfl)
  ·exact fin2 _ (by rw [e3,t3,t4]; rfl)
  ·exact fin2 _ (by rw [e3,t3,t4]; rfl)
theorem nodeD_good2 {m:Ms} {i:Int} (h:m.chk=0) (h2:m.nodeE i=0):nodeD m i=0:=by rw [nodeD_good h]; exact h2
theorem nil_if {α:Type} {v:Int} {l:List α} (h:¬ v=0):(bif v != 0 then [] else l)=[]:=by rw [show (v != 0)=true by rw [bne_iff_ne]; exact h]; rfl
theorem if_0 {v w:Int} (h:v=0):(bif v != 0 then v else w)=w:=by rw [h]; rfl
theorem if_1 {v w:Int} (h:¬ v=0):(bif v != 0 then v else w)=v:=by rw [show (v != 0)=true by rw [bne_iff_ne]; exact h]; rfl
end Vc
set_option maxRecDepth 10000
set_option maxHeartbeats 4000000
namespace Vc
open Go Go.Proofs
def ir118:AFun:=⟨38,5,[.cell 8 4 true],
 (.seq
 (.reg [0,1,2] [⟨some 4,.cbx 0 3 (.tmp 0),none⟩,
 ⟨some 5,.cbx 1 2 (.tmp 1),none⟩,
 ⟨some 8,.alloc 2 [(.d (.int .i64 0)),(.d (.int .i64 0)),(.d (.int .i64 0)),(.d (.bool false))],none⟩])
 (.seq
 (.reg [3] [⟨some 11,.fad 2 (.tmp 4),none⟩,
 ⟨some 12,.ld false 1 (.tmp 11),none⟩,
 ⟨some 13,.mov (.tmp 2),none⟩,
 ⟨some 14,.ixa 3 (.tmp 12) (.tmp 13),none⟩,
 ⟨some 15,.ld true 3 (.tmp 14),none⟩,
 ⟨some 9,.alloc 3 [(.d (.int .i64 0)),(.d (.int .i64 0)),(.d (.int .i64 0))],none⟩,
 ⟨none,.st 3 (.tmp 9) (.tmp 15),none⟩])
 (.seq
 (.seq
 (.reg [] [⟨some 16,.fad 2 (.tmp 9),none⟩,
 ⟨some 17,.ld false 1 (.tmp 16),none⟩,
 ⟨some 18,.cmp .eql (.tmp 17) (.cst (.d (.int .i64 (-1)))),none⟩])
 (.cond (.tmp 18)
 (.seq
 (.reg [] [⟨some 19,.build [(.d (.int .i64 0)),(.d (.int .i64 0)),(.d (.int .i64 0)),(.d (.bool false))] [],none⟩,
 ⟨none,.st 4 (.tmp 8) (.tmp 19),none⟩])
 .ret)
 .skip))
 (.seq
 (.regd [4] [⟨some 20,.fad 0 (.tmp 9),none⟩,
 ⟨some 21,.ld false 1 (.tmp 20),none⟩,
 ⟨some 22,.fad 1 (.tmp 9),none⟩,
 ⟨some 23,.ld false 1 (.tmp 22),none⟩,
 ⟨some 24,.ld true 2 (.tmp 5),none⟩,
 ⟨some 25,.mov (.tmp 2),none⟩,
 ⟨some 26,.mov (.tmp 3),none⟩,
 ⟨some 27,.call 90 [(.tmp 24),(.tmp 25),(.tmp 26)],none⟩,
 ⟨some 28,.arith .add .i64 (.tmp 23) (.tmp 27),none⟩,
 ⟨some 29,.mov (.tmp 2),none⟩,
 ⟨some 30,.build [(.d (.int .i64 0)),(.d (.int .i64 0)),(.d (.int .i64 0))] [(0,1,(.tmp 21)),(1,1,(.tmp 28)),(2,1,(.tmp 29))],none⟩,
 ⟨some 31,.build [(.d (.int .i64 0)),(.d (.int .i64 0)),(.d (.int .i64 0)),(.d (.bool false))] [(0,3,(.tmp 30))],none⟩,
 ⟨some 10,.alloc 4 [(.d (.int .i64 0)),(.d (.int .i64 0)),(.d (.int .i64 0)),(.d (.bool false))],none⟩,
 ⟨none,.st 4 (.tmp 10) (.tmp 31),none⟩] [(0,2),(1,2),(0,3),(1,3),(0,4),(1,4),(2,4),(3,4),(0,5),(1,5),(2,5),(3,5),(4,5),(0,6),(1,6),(2,6),(3,6),(4,6),(5,6),(0,7),(1,7),(2,7),(3,7),(0,8),(1,8),(0,9),(1,9),(2,9),(3,9),(4,9),(5,9),(6,9),(7,9),(8,9),(0,12),(1,12),(2,12),(3,12),(4,12),(5,12),(6,12),(7,12),(8,12),(9,12),(10,12),(11,12)])
 (.seq
 (.reg [] [⟨some 32,.fad 0 (.tmp 10),none⟩,
 ⟨some 33,.fad 1 (.tmp 32),none⟩,
 ⟨some 34,.ld false 1 (.tmp 33),none⟩,
 ⟨some 35,.cmp .leq (.tmp 34) (.cst (.d (.int .i64 3200))),none⟩,
 ⟨some 36,.fad 3 (.tmp 10),none⟩,
 ⟨none,.st 1 (.tmp 36) (.tmp 35),none⟩])
 (.seq
 (.reg [] [⟨some 37,.ld true 4 (.tmp 10),none⟩,
 ⟨none,.st 4 (.tmp 8) (.tmp 37),none⟩])
 .ret))))))⟩
def ir150:AFun:=⟨24,2,[.tmp 4],
 (.seq
 (.reg [0,1] [⟨some 2,.cbx 0 3 (.tmp 0),none⟩,
 ⟨some 3,.cbx 1 3 (.tmp 1),none⟩,
 ⟨some 4,.mov (.cst (.d (.bool false))),none⟩])
 (.seq
 (.reg [] [⟨some 5,.fad 0 (.tmp 2),none⟩,
 ⟨some 6,.ld false 1 (.tmp 5),none⟩,
 ⟨some 7,.fad 0 (.tmp 3),none⟩,
 ⟨some 8,.ld false 1 (.tmp 7),none⟩,
 ⟨some 9,.cmp .gtr (.tmp 6) (.tmp 8),none⟩,
 ⟨some 10,.mov (.tmp 9),none⟩,
 ⟨some 11,.fad 0 (.tmp 2),some (10,false)⟩,
 ⟨some 12,.ld false 1 (.tmp 11),some (10,false)⟩,
 ⟨some 13,.fad 0 (.tmp 3),some (10,false)⟩,
 ⟨some 14,.ld false 1 (.tmp 13),some (10,false)⟩,
 ⟨some 15,.cmp .eql (.tmp 12) (.tmp 14),some (10,false)⟩,
 ⟨some 16,.mov (.tmp 15),some (10,false)⟩,
 ⟨some 17,.fad 1 (.tmp 2),some (16,true)⟩,
 ⟨some 18,.ld false 1 (.tmp 17),some (16,true)⟩,
 ⟨some 19,.fad 1 (.tmp 3),some (16,true)⟩,
 ⟨some 20,.ld false 1 (.tmp 19),some (16,true)⟩,
 ⟨some 21,.cmp .lss (.tmp 18) (.tmp 20),some (16,true)⟩,
 ⟨some 22,.pick (.tmp 16) (.tmp 21) (.cst (.d (.bool false))),some (10,false)⟩,
 ⟨some 23,.pick (.tmp 10) (.cst (.d (.bool true))) (.tmp 22),none⟩,
 ⟨some 4,.mov (.tmp 23),none⟩])
 .ret))⟩
def ir117:AFun:=⟨32,2,[],
 (.seq
 (.reg [0,1] [⟨some 3,.box 0 3 (.tmp 0),none⟩,
 ⟨some 5,.cbx 1 4 (.tmp 2),none⟩])
 (.seq
 (.reg [] [⟨some 6,.mov (.cst (.d (.fn (.func 125) []))),none⟩])
 (.seq
 (.regd [] [⟨some 7,.mov (.tmp 1),none⟩,
 ⟨some 8,.fad 0 (.tmp 3),none⟩,
 ⟨some 9,.ld false 1 (.tmp 8),none⟩,
 ⟨some 10,.cmp .neq (.tmp 7) (.tmp 9),none⟩,
 ⟨some 11,.mov (.tmp 10),none⟩,
 ⟨some 12,.fad 3 (.tmp 5),some (11,true)⟩,
 ⟨some 13,.ld false 1 (.tmp 12),some (11,true)⟩,
 ⟨some 14,.pick (.tmp 11) (.tmp 13) (.cst (.d (.bool false))),none⟩,
 ⟨some 15,.mov (.tmp 14),none⟩,
 ⟨some 16,.mov (.tmp 6),some (15,true)⟩,
 ⟨some 17,.fad 0 (.tmp 5),some (15,true)⟩,
 ⟨some 18,.ld true 3 (.tmp 17),some (15,true)⟩,
 ⟨some 19,.fad 2 (.tmp 3),some (15,true)⟩,
 ⟨some 20,.ld false 1 (.tmp 19),some (15,true)⟩,
 ⟨some 21,.mov (.tmp 1),some (15,true)⟩,
 ⟨some 22,.ixa 3 (.tmp 20) (.tmp 21),some (15,true)⟩,
 ⟨some 23,.ld true 3 (.tmp 22),some (15,true)⟩,
 ⟨some 24,.callv (.tmp 16) [(.tmp 18),(.tmp 23)],some (15,true)⟩,
 ⟨some 25,.pick (.tmp 15) (.tmp 24) (.cst (.d (.bool false))),none⟩] [(0,1),(0,2),(9,10),(9,11),(9,12),(10,12),(11,12),(9,13),(10,13),(11,13),(9,14),(10,14),(11,14),(12,14),(13,14),(9,15),(10,15),(11,15),(9,16),(10,16),(11,16)])
 (.cond (.tmp 25)
 (.reg [] [⟨some 26,.fad 2 (.tmp 3),none⟩,
 ⟨some 27,.ld false 1 (.tmp 26),none⟩,
 ⟨some 28,.mov (.tmp 1),none⟩,
 ⟨some 29,.fad 0 (.tmp 5),none⟩,
 ⟨some 30,.ld true 3 (.tmp 29),none⟩,
 ⟨some 31,.ixa 3 (.tmp 27) (.tmp 28),none⟩,
 ⟨none,.st 3 (.tmp 31) (.tmp 30),none⟩])
 .skip))))⟩
def ir119:AFun:=⟨44,9,[.cell 6 3 true],
 (.seq
 (.reg [0,1,2] [⟨some 3,.cbx 0 3 (.tmp 0),none⟩,
 ⟨some 4,.cbx 1 2 (.tmp 1),none⟩,
 ⟨some 6,.alloc 2 [(.d (.int .i64 0)),(.d (.int .i64 0)),(.nils 3)],none⟩])
 (.seq
 (.reg [3] [⟨some 11,.ld true 3 (.tmp 3),none⟩,
 ⟨some 12,.calli 59 [(.tmp 11)],none⟩,
 ⟨some 7,.alloc 3 [(.d (.int .i64 0)),(.d (.int .i64 0)),(.nils 3)],none⟩,
 ⟨none,.st 3 (.tmp 7) (.tmp 12),none⟩])
 (.seq
 (.seq
 (.reg [] [⟨some 13,.fad 2 (.tmp 7),none⟩,
 ⟨some 14,.ld false 1 (.tmp 13),none⟩,
 ⟨some 15,.len (.tmp 14),none⟩,
 ⟨some 16,.mov (.cst (.d (.int .i64 0))),none⟩])
 (.post [6,7] [0,1,2,3]
 (.block 0
 (.keep [2,3,4,6,7,15,16] [0,1,2,3]
 (.loop
 (.post [2,3,4,6,7,15,16] []
 (.seq
 (.reg [] [⟨some 17,.cmp .lss (.tmp 16) (.tmp 15),none⟩])
 (.seq
 (.cond (.tmp 17)
 .skip
 (.exit 0))
 (.seq
 (.block 1
 (.seq
 (.reg [] [⟨some 18,.mov (.tmp 16),none⟩,
 ⟨some 8,.mov (.tmp 18),none⟩])
 (.seq
 (.reg [] [⟨some 19,.ld true 2 (.tmp 4),none⟩,
 ⟨some 20,.mov (.tmp 8),none⟩,
 ⟨some 21,.call 36 [(.tmp 19),(.tmp 20)],none⟩,
 ⟨some 22,.len (.tmp 21),none⟩,
 ⟨some 23,.mov (.cst (.d (.int .i64 0))),none⟩])
 (.post [2,3,4,6,7,15,16] [0,1,2,3]
 (.block 2
 (.keep [2,3,4,6,7,8,15,16,21,22,23] [0,1,2,3]
 (.loop
 (.post [2,3,4,6,7,8,15,16,21,22,23] [7,8]
 (.seq
 (.reg [] [⟨some 24,.cmp .lss (.tmp 23) (.tmp 22),none⟩])
 (.seq
 (.cond (.tmp 24)
 .skip
 (.exit 2))
 (.seq
 (.block 3
 (.seq
 (.reg [] [⟨some 25,.ixa 1 (.tmp 21) (.tmp 23),none⟩,
 ⟨some 26,.ld false 1 (.tmp 25),none⟩,
 ⟨some 10,.mov (.tmp 26),none⟩])
 (.seq
 (.reg [] [⟨some 27,.mov (.tmp 2),none⟩,
 ⟨some 28,.mov (.tmp 8),none⟩,
 ⟨some 29,.mov (.tmp 10),none⟩,
 ⟨some 30,.build [(.d (.int .i64 0)),(.d (.int .i64 0))] [(0,1,(.tmp 28)),(1,1,(.tmp 29))],none⟩,
 ⟨some 31,.call 37 [(.tmp 27),(.tmp 30)],none⟩,
 ⟨some 32,.not (.tmp 31),none⟩])
 (.cond (.tmp 32)
 (.regd [] [⟨some 33,.ld true 3 (.tmp 7),none⟩,
 ⟨some 34,.mov (.tmp 8),none⟩,
 ⟨some 35,.ld true 3 (.tmp 3),none⟩,
 ⟨some 36,.ld true 2 (.tmp 4),none⟩,
 ⟨some 37,.mov (.tmp 10),none⟩,
 ⟨some 38,.mov (.tmp 8),none⟩,
 ⟨some 39,.call 97 [(.tmp 35),(.tmp 36),(.tmp 37),(.tmp 38)],none⟩,
 ⟨some 40,.calli 96 [(.tmp 33),(.tmp 34),(.tmp 39)],none⟩] [(0,1),(0,2),(1,2),(0,3),(1,3),(2,3),(0,4),(1,4),(2,4),(3,4),(0,5),(1,5),(2,5),(3,5),(4,5),(0,6),(1,6)])
 .skip))))
 (.reg [] [⟨some 41,.arith .add .i64 (.tmp 23) (.cst (.d (.int .i64 1))),none⟩,
 ⟨some 23,.mov (.tmp 41),none⟩]))))))))))))
 (.reg [] [⟨some 42,.arith .add .i64 (.tmp 16) (.cst (.d (.int .i64 1))),none⟩,
 ⟨some 16,.mov (.tmp 42),none⟩]))))))))))
 (.seq
 (.reg [] [⟨some 43,.ld true 3 (.tmp 7),none⟩,
 ⟨none,.st 3 (.tmp 6) (.tmp 43),none⟩])
 .ret))))⟩
theorem betB_1 {x o:En} (h:o.nu < x.nu):x.betB o=true:=by unfold En.betB; rw [decide_eq_true h]; rfl
theorem betB_2 {x o:En} (h:¬ o.nu < x.nu) (h2:x.nu=o.nu):x.betB o=decide (x.di < o.di):=by unfold En.betB; rw [decide_eq_false h,show (x.nu==o.nu)=true by simpa using h2]; rfl
theorem betB_3 {x o:En} (h:¬ o.nu < x.nu) (h2:¬ x.nu=o.nu):x.betB o=false:=by unfold En.betB; rw [decide_eq_false h,show (x.nu==o.nu)=false by simpa using h2]; rfl
theorem c150 (x o:En):CallDet Tryz.prog 125 [.d (.agg [.int .i64 x.nu,.int .i64 x.di,.int .i64 x.ne]),.d (.agg [.int .i64 o.nu,.int .i64 o.di,.int .i64 o.ne])] [.bool (x.betB o)]:=by
 have fin:∀ b,x.betB o=b→resV [.bool b]=resV [.bool (x.betB o)]:=fun b h=>by rw [h]
 refine call_of_vc (x:=ir150) (by kernel_rfl) rfl ?_
 refine sd ?_
 refine b_lt (fun t1=>?_) (fun t1=>?_)
 refine sd ?_
 rotate_left
 refine sd ?_
 refine b_eq (fun t2=>?_) (fun t2=>?_)
 refine sd ?_
 rotate_left
 refine sd ?_
 rotate_left
 ·exact fin _ (betB_1 t1)
 ·exact fin _ (betB_2 t1 t2)
 ·exact fin _ (betB_3 t1 t2)
def ofX (m:Ms) (s:Sts) (fr w:Int):En:=bif (s.at fr).ne==-1 then ⟨0,0,0⟩ else ofE m s fr w
theorem ofX_1 {m:Ms} {s:Sts} {fr w:Int} (h:(s.at fr).ne=-1):ofX m s fr w=⟨0,0,0⟩:=by unfold ofX; rw [h]; rfl
theorem ofX_2 {m:Ms} {s:Sts} {fr w:Int} (h:¬ (s.at fr).ne=-1):ofX m s fr w=ofE m s fr w:=by unfold ofX; rw [show ((s.at fr).ne==-1)=false by simpa using h]; rfl
theorem ofB_1 {m:Ms} {s:Sts} {fr w:Int} (h:(s.at fr).ne=-1):ofB m s fr w=false:=by unfold ofB; rw [h]; rfl
theorem ofB_2 {m:Ms} {s:Sts} {fr w:Int} (h:¬ (s.at fr).ne=-1):ofB m s fr w=decide ((s.at fr).di+betw m.ls fr w≤3200):=by unfold ofB; rw [show ((s.at fr).ne==-1)=false by simpa using h]; rfl
theorem c118 (m:Ms) (s:Sts) (fr w:Int) (hf:m.fine) (h0:0≤fr) (h1:fr.toNat < s.es.length) (hd:0≤(s.at fr).di∧(s.at fr).di≤3200):CallDet Tryz.prog 97 [.d s.d,.d m.d,.d (.int .i64 fr),.d (.int .i64 w)] [.agg [.int .i64 (ofX m s fr w).nu,.int .i64 (ofX m s fr w).di,.int .i64 (ofX m s fr w).ne,.bool (ofB m s fr w)]]:=by
 have hx:=ens_atI (Sts.at_getI h1)
 have hc:=hf.rng fr w
 have h128:=hf.l128
 refine call_of_vc (x:=ir118) (by kernel_rfl) rfl ?_
 refine ix_at hx ?_ ?_
 assumption
 refine sd ?_
 refine b_eq (fun t1=>?_) (fun t1=>?_)
 rotate_left
 refine ca (c91 m _ _ (by omega)) ?_
 refine ar_add ?_ ?_
 refine an ?_ ?_
 (show (-9223372036854775808:Int)≤En.di (Sts.at s fr)+betw (Ms.ls m) fr w; omega)
 (show En.di (Sts.at s fr)+betw (Ms.ls m) fr w≤(9223372036854775807:Int); omega)
 refine sd ?_
 rotate_left
 ·exact (show resV [.agg [.int .i64 0,.int .i64 0,.int .i64 0,.bool false]]=resV [.agg [.int .i64 (ofX m s fr w).nu,.int .i64 (ofX m s fr w).di,.int .i64 (ofX m s fr w).ne,.bool (ofB m s fr w)]] by rw [ofX_1 t1,ofB_1 t1])
 ·exact (show resV [.agg [.int .i64 (s.at fr).nu,.int .i64 ((s.at fr).di+betw m.ls fr w),.int .i64 fr,.bool (decide ((s.at fr).di+betw m.ls fr w≤3200))]]=resV [.agg [.int .i64 (ofX m s fr w).nu,.int .i64 (ofX m s fr w).di,.int .i64 (ofX m s fr w).ne,.bool (ofB m s fr w)]] by rw [ofX_2 t1,ofB_2 t1]; rfl)
def hrs (co n:Int) (x:En) (is:Bool) (E:List En):List En:=match E[n.toNat]? with
 | some e=>bif !(n==co)&&(is&&x.betB e) then E.set n.toNat x else E
 | none=>E
theorem c99i_119 (s : Sts) (m : Ms) (hn : s.es.length ≤ 1048576) : CallIn Tryz.prog 59 [.d s.d] [.cbox [.int .i64 s.co, .int .i64 s.nu, .slice 3 (ens s.es)], .cbox [.slice 1 (strs m.ns), .slice 3 (lks m.ls)], .box [.d (.int .i64 0), .d (.int .i64 0), .nils 3], .none, .none, .none, .none, .none, .none] (.agg [.d (.int .i64 s.co), .d (.int .i64 s.nu), .sl 6 (ens s.es).length])
  (setAll [.cbox [.int .i64 s.co,.int .i64 s.nu,.slice 3 (ens s.es)],.cbox [.slice 1 (strs m.ns),.slice 3 (lks m.ls)],.box [.d (.int .i64 0),.d (.int .i64 0),.nils 3],.none,.none,.none,.none,.none,.none] [(4,.cbox [.int .i64 s.co,.int .i64 s.nu,.slice 3 (ens s.es)]),(5,.box [.d (.int .i64 s.co),.d (.int .i64 s.nu),.sl 6 (ens s.es).length]),(6,.row 52 3 (ens s.es) false)]):=by
 have hl:=ens_len s.es
 have e:List.take (ens s.es).length (ens s.es)++List.drop (ens s.es).length (List.replicate (ens s.es).length (.agg [.int .i64 0,.int .i64 0,.int .i64 0]))=ens s.es:=by
  rw [List.take_length,List.drop_eq_nil_of_le (by rw [List.length_replicate]; exact Nat.le_refl _),List.append_nil]
 refine callIn_of_vc 4 (x:=ir99) (by kernel_rfl) rfl rfl rfl ?_
 refine an ?_ ?_
 refine an ?_ ?_
 (show (0:Int)≤(↑(List.length (ens (Sts.es s))):Int); omega)
 refine an ?_ ?_
 (show (↑(List.length (ens (Sts.es s))):Int) * (↑(24:Nat):Int)≤(2:Int) ^ (47:Nat); omega)
 (show (↑(List.length (ens (Sts.es s))):Int)≤(2:Int) ^ (47:Nat); omega)
 refine ca (And.intro rfl (And.intro rfl (And.intro ?_ rfl))) ?_
 focus (show List.length (List.replicate (List.length (ens (Sts.es s))) (Data.agg [Data.int IntKind.i64 (0:Int),Data.int IntKind.i64 (0:Int),Data.int IntKind.i64 (0:Int)]))=List.length (ens (Sts.es s)); simp only [List.length_replicate,List.length_set,List.length_append,List.length_take,List.length_drop]; done)
 refine an ?_ ?_
 (show List.length (List.take (List.length (ens (Sts.es s))) (ens (Sts.es s))++List.drop (List.length (ens (Sts.es s))) (List.replicate (List.length (ens (Sts.es s))) (Data.agg [Data.int IntKind.i64 (0:Int),Data.int IntKind.i64 (0:Int),Data.int IntKind.i64 (0:Int)])))=List.length (ens (Sts.es s)); simp only [List.length_replicate,List.length_set,List.length_append,List.length_take,List.length_drop]; omega)
 refine sd ?_
 rotate_left
 exact congrArg (fun X=>([.cbox [.int .i64 s.co,.int .i64 s.nu,.slice 3 (ens s.es)],.cbox [.slice 1 (strs m.ns),.slice 3 (lks m.ls)],.box [.d (.int .i64 0),.d (.int .i64 0),.nils 3],.none,.cbox [.int .i64 s.co,.int .i64 s.nu,.slice 3 (ens s.es)],.box [.d (.int .i64 s.co),.d (.int .i64 s.nu),.sl 6 (ens s.es).length],.row 52 3 X false,.none,.none]:List AObj)) e
theorem c117i_119 (m : Ms) (s : Sts) (n : Int) (x e : En) (is : Bool) (E : List En) (L : Nat) (h0 : 0 ≤ n) (he : E[n.toNat]? = some e) (hL : L = (ens E).length) : CallIn Tryz.prog 96 [.agg [.d (.int .i64 s.co), .d (.int .i64 s.nu), .sl 6 L], .d (.int .i64 n), .d (.agg [.int .i64 x.nu, .int .i64 x.di, .int .i64 x.ne, .bool is])]
  [.cbox [.int .i64 s.co,.int .i64 s.nu,.slice 3 (ens s.es)],.cbox [.slice 1 (strs m.ns),.slice 3 (lks m.ls)],.box [.d (.int .i64 0),.d (.int .i64 0),.nils 3],.box [.d (.int .i64 s.co),.d (.int .i64 s.nu),.sl 6 (ens s.es).length],.cbox [.int .i64 s.co,.int .i64 s.nu,.slice 3 (ens s.es)],.box [.d (.int .i64 s.co),.d (.int .i64 s.nu),.sl 6 (ens s.es).length],.row 52 3 (ens E) false,.none,.none] (.tup []) (setAll [.cbox [.int .i64 s.co,.int .i64 s.nu,.slice 3 (ens s.es)],.cbox [.slice 1 (strs m.ns),.slice 3 (lks m.ls)],.box [.d (.int .i64 0),.d (.int .i64 0),.nils 3],.box [.d (.int .i64 s.co),.d (.int .i64 s.nu),.sl 6 (ens s.es).length],.cbox [.int .i64 s.co,.int .i64 s.nu,.slice 3 (ens s.es)],.box [.d (.int .i64 s.co),.d (.int .i64 s.nu),.sl 6 (ens s.es).length],.row 52 3 (ens E) false,.none,.none] [(7,.box [.d (.int .i64 s.co),.d (.int .i64 s.nu),.sl 6 (ens E).length]),(8,.cbox [.int .i64 x.nu,.int .i64 x.di,.int .i64 x.ne,.bool is]),(6,.row 52 3 (ens (hrs s.co n x is E)) false)]):=by
 subst hL
 have hel:=ens_len E
 have hk:n.toNat < E.length:=(List.getElem?_eq_some_iff.1 he).1
 have hed:=ens_atI he
 have hno:(bif !(n==s.co)&&(is&&x.betB e) then E.set n.toNat x else E)=E→hrs s.co n x is E=E:=fun h=>by unfold hrs; rw [he]; exact h
 refine callIn_of_vc 7 (x:=ir117) (by kernel_rfl) rfl rfl rfl ?_
 cases is
 ·have e0:hrs s.co n x false E=E:=hno (by cases (n==s.co) <;> rfl)
  rw [e0]
  refine sd ?_
  refine b_ne (fun t1=>?_) (fun t1=>?_)
  refine sd ?_
  refine sd ?_
  exact rfl
  refine sd ?_
  refine sd ?_
  refine sd ?_
  exact rfl
 ·by_cases hb:x.betB e=true
  ·by_cases hn:n=s.co
   ·have e0:hrs s.co n x true E=E:=hno (by rw [show (n==s.co)=true by rw [beq_iff_eq]; exact hn]; rfl)
    rw [e0]
    refine sd ?_
    refine b_ne (fun t1=>?_) (fun t1=>?_)
    (exfalso; omega)
    refine sd ?_
    refine sd ?_
    refine sd ?_
    exact rfl
   ·have e0:hrs s.co n x true E=E.set n.toNat x:=by unfold hrs; rw [he]; show (bif !(n==s.co)&&(true&&x.betB e) then _ else _)=_; rw [hb,show (n==s.co)=false by rw [beq_eq_false_iff_ne]; exact hn]; rfl
    rw [e0]
    refine sd ?_
    refine b_ne (fun t1=>?_) (fun t1=>?_)
    refine an ?_ ?_
    refine an ?_ ?_
    exact rfl
    refine an ?_ ?_
    exact rfl
    refine an ?_ ?_
    assumption
    (show n < (↑(List.length (ens E)):Int); omega)
    refine sd ?_
    refine ca hed ?_
    refine ca (c150 x e) ?_
    refine b_t hb ?_
    refine an ?_ ?_
    refine an ?_ ?_
    exact rfl
    refine an ?_ ?_
    exact rfl
    refine an ?_ ?_
    assumption
    (show n < (↑(List.length (ens E)):Int); omega)
    refine Exists.intro _ (Exists.intro (Vc.Data.agg [Data.int IntKind.i64 (En.nu x),Data.int IntKind.i64 (En.di x),Data.int IntKind.i64 (En.ne x)]) (And.intro (And.intro ?_ (And.intro hed (And.intro rfl (And.intro ?_ (And.intro rfl rfl))))) ?_))
    exact rfl
    (show (0:Nat)+(3:Nat)≤(1:Nat)+(1:Nat)+(1:Nat); omega)
    refine sd ?_
    rotate_left
    (exfalso; omega)
    rw [show ens (E.set n.toNat x)=(ens E).set n.toNat (.agg [.int .i64 x.nu,.int .i64 x.di,.int .i64 x.ne]) from ens_set E n.toNat x]; rfl
  ·have hb:x.betB e=false:=by cases h:x.betB e; rfl; exact absurd h hb
   have e0:hrs s.co n x true E=E:=hno (by rw [hb]; cases (n==s.co) <;> rfl)
   rw [e0]
   refine sd ?_
   refine b_ne (fun t1=>?_) (fun t1=>?_)
   refine an ?_ ?_
   refine an ?_ ?_
   exact rfl
   refine an ?_ ?_
   exact rfl
   refine an ?_ ?_
   assumption
   (show n < (↑(List.length (ens E)):Int); omega)
   refine sd ?_
   refine ca hed ?_
   refine ca (c150 x e) ?_
   refine b_f hb ?_
   refine sd ?_
   exact rfl
   refine sd ?_
   refine sd ?_
   refine sd ?_
   exact rfl
theorem hrs_hr (m : Ms) (s : Sts) (lost : List (Int × Int)) (n : Nat) (k : Int) (acc : En) (E : List En) (hn : n < E.length) (hlo : lostB lost n k = false) :
  hrs s.co n (ofX m s k n) (ofB m s k n) (E.set n acc)=E.set n (hr m s lost n acc k):=by
 have he:(E.set n acc)[(n:Int).toNat]?=some acc:=List.getElem?_set_self hn
 unfold hrs
 rw [he]
 show (bif !((n:Int)==s.co)&&(ofB m s k n&&(ofX m s k n).betB acc) then (E.set n acc).set n (ofX m s k n) else E.set n acc)=_
 have e1:(!((n:Int)==s.co)&&(ofB m s k n&&(ofX m s k n).betB acc))=hrB m s lost n k acc:=by
  unfold hrB
  rw [hlo]
  by_cases h:(s.at k).ne=-1
  ·rw [ofB_1 h]; rfl
  ·rw [ofX_2 h]; rfl
 rw [e1]
 unfold hr
 cases hb:hrB m s lost n k acc
 ·rfl
 ·have : (s.at k).ne ≠ -1 := fun h => by
   unfold hrB at hb
   rw [ofB_1 h] at hb
   simp at hb
  rw [ofX_2 this]
  show (E.set n acc).set n (ofE m s k n)=E.set n (ofE m s k n)
  rw [List.set_set]
theorem hr_lost (m:Ms) (s:Sts) (lost:List (Int × Int)) (n:Int) (k:Int) (acc:En) (hlo:lostB lost n k=true):hr m s lost n acc k=acc:=by
 unfold hr hrB; rw [hlo]; simp
theorem c119 (m:Ms) (s:Sts) (lost:List (Int × Int)) (g:Good m s) (hll:lost.length≤1048576):CallDet Tryz.prog 53 [.d s.d,.d m.d,.d (.slice 2 (prs lost))] [(s.round m lost).d]:=by
 have hf:=chk_fine g.chk
 have hl:=ens_len s.es
 have hle:=g.len
 have h32:=hf.n32
 have h128:=hf.l128
 refine call_of_vc (x:=ir119) (by kernel_rfl) rfl ?_
 refine Exists.intro _ (Exists.intro _ (And.intro (c99i_119 s m (by omega)) ?_))
 refine sd ?_
 rotate_left
 refine loop_u (fun a:Nat=>[(16,.d (.int .i64 a))]) (fun a=>[(6,.row 52 3 (ens (rndL m s lost a)) false)]) (fun a=>a≤s.es.length) (fun a=>s.es.length - a) 0 (by rw [rndL_zero]; rfl) (Nat.zero_le _) ?_
 intro n hn
 have hn:n≤s.es.length:=hn
 by_cases hnn:n < s.es.length
 ·have hbl:=ints_len (m.nbs n)
  have hbn:(m.nbs n).length≤m.ns.length:=nbs_len m n m.ns.length
  refine sd ?_
  refine b_lt (fun t1=>?_) (fun t1=>?_)
  refine ca (c88 m n (by omega) (by omega)) ?_
  rotate_left
  (exfalso; omega)
  refine loop_u (fun a:Nat=>[(23,.d (.int .i64 a))]) (fun a=>[(6,.row 52 3 (ens ((rndL m s lost n).set n (((m.nbs n).take a).foldl (hr m s lost n) (s.at n)))) false)]) (fun a=>a≤(m.nbs n).length) (fun a=>(m.nbs n).length - a) 0 (by show _=St.upd _ _ [(6,.row 52 3 (ens ((rndL m s lost n).set n (s.at n))) false)]; rw [rndL_start m s lost hnn]; rfl) (Nat.zero_le _) ?_
  intro q hq
  have hq:q≤(m.nbs n).length:=hq
  by_cases hqq:q < (m.nbs n).length
  ·refine Exists.elim (get_lt (m.nbs n) hqq) fun k hk=>?_
   have hkd:=ints_get hk
   have hkr:=nbs_in m n k (List.mem_of_getElem? hk)
   have hfs:=fold_snoc (hr m s lost n) (s.at n) hk
   have hrk:=g.rng k hkr.1 hkr.2
   generalize hacc:((m.nbs n).take q).foldl (hr m s lost n) (s.at n)=acc at hfs ⊢
   have hEl:((rndL m s lost n).set n acc).length=s.es.length:=by rw [List.length_set,rndL_len]
   have hEd:=ens_len ((rndL m s lost n).set n acc)
   have heg:((rndL m s lost n).set n acc)[(n:Int).toNat]?=some acc:=List.getElem?_set_self (by rw [rndL_len]; exact hnn)
   refine sd ?_
   refine b_lt (fun t2=>?_) (fun t2=>?_)
   refine ix_at hkd ?_ ?_
   (show (0:Int)≤(↑q:Int); omega)
   refine ca (c109 lost _ _ hll) ?_
   refine b_intro (fun t3=>?_) (fun t3=>?_)
   refine ca (c118 m s k n hf hkr.1 (by omega) hrk.2.1) ?_
   refine Exists.intro _ (Exists.intro _ (And.intro (c117i_119 m s n (ofX m s k n) acc (ofB m s k n) ((rndL m s lost n).set n acc) _ (by omega) heg (by omega)) ?_))
   refine ar_add ?_ ?_
   refine an ?_ ?_
   (show (-9223372036854775808:Int)≤(↑q:Int)+(1:Int); omega)
   (show (↑q:Int)+(1:Int)≤(9223372036854775807:Int); omega)
   rotate_left
   refine ar_add ?_ ?_
   refine an ?_ ?_
   (show (-9223372036854775808:Int)≤(↑q:Int)+(1:Int); omega)
   (show (↑q:Int)+(1:Int)≤(9223372036854775807:Int); omega)
   rotate_left
   (exfalso; omega)
   ·refine ⟨q+1,⟨hqq,by show (m.nbs n).length - (q+1) < (m.nbs n).length - q; omega⟩,?_⟩
    rw [hfs,hrs_hr m s lost n k acc _ (by rw [rndL_len]; exact hnn) (by simpa using t3)]; rfl
   ·refine ⟨q+1,⟨hqq,by show (m.nbs n).length - (q+1) < (m.nbs n).length - q; omega⟩,?_⟩
    rw [hfs,hr_lost m s lost n k acc (by simpa using t3)]; rfl
  ·have eq:q=(m.nbs n).length:=by omega
   subst eq
   rw [List.take_length]
   refine sd ?_
   refine b_lt (fun t2=>?_) (fun t2=>?_)
   (exfalso; omega)
   refine ar_add ?_ ?_
   refine an ?_ ?_
   (show (-9223372036854775808:Int)≤(↑n:Int)+(1:Int); omega)
   (show (↑n:Int)+(1:Int)≤(9223372036854775807:Int); omega)
   rotate_left
   refine ⟨n+1,⟨hnn,by show s.es.length - (n+1) < s.es.length - n; omega⟩,?_⟩
   rw [show List.foldl (hr m s lost n) (s.at n) (m.nbs n)=roundE m s lost n from rfl,rndL_next m s lost hnn]; rfl
 ·have en:n=s.es.length:=by omega
  subst en
  have hfin:(ens (rndL m s lost s.es.length)).length=(ens s.es).length:=by rw [ens_len,rndL_len,hl]
  refine sd ?_
  refine b_lt (fun t1=>?_) (fun t1=>?_)
  (exfalso; omega)
  refine an ?_ ?_
  assumption
  exact rfl
end Vc
set_option maxRecDepth 10000
set_option maxHeartbeats 4000000
namespace Vc
open Go Go.Proofs
theorem hr_ref (m:Ms) (s:Sts) (lost:List (Int × Int)) (n k:Int) (acc:En):hr m s lost n acc k=acc∨(ofB m s k n=true∧n≠s.co∧lostB lost n k=false∧(ofE m s k n).betB acc=true∧hr m s lost n acc k=ofE m s k n):=by
 unfold hr
 cases hb:hrB m s lost n k acc
 ·exact .inl rfl
 ·right
  unfold hrB at hb
  simp only [Bool.and_eq_true,Bool.not_eq_true',beq_eq_false_iff_ne] at hb
  exact ⟨hb.2.1,hb.1,hb.2.2.1,hb.2.2.2,rfl⟩
def Sts.heard (s:Sts) (m:Ms) (w fr:Int):Sts:=⟨s.co,s.nu,s.es.set w.toNat (hr m s [] w (s.at w) fr)⟩
end Vc
set_option maxRecDepth 10000
namespace Vc
open Go Go.Proofs
theorem hit_iff {l:Lk} {a b:Int}:hit l a b=true↔l.a=min a b∧l.b=max a b:=by
 unfold hit; simp
theorem betw_mem:∀ {ls:List Lk} {a b:Int},0 < betw ls a b→∃ l∈ls,l.c=betw ls a b∧l.a=min a b∧l.b=max a b
 | [],a,b,h=>by unfold betw at h; omega
 | x::r,a,b,h=>by
  unfold betw at h ⊢
  cases hh:hit x a b
  ·rw [hh] at h
   obtain ⟨l,hl,h2⟩:=betw_mem (ls:=r) h
   exact ⟨l,List.mem_cons_of_mem _ hl,h2⟩
  ·exact ⟨x,List.mem_cons_self,rfl,hit_iff.1 hh⟩
theorem betw_of:∀ {ls:List Lk} {l:Lk},(∀ k x,ls[k]?=some x→(ls.take k).any (fun o=>sameL o x)=false)→l∈ls→l.a≤l.b→betw ls l.a l.b=l.c
 | x::r,l,h,hl,hab=>by
  unfold betw
  cases hh:hit x l.a l.b
  ·rcases List.mem_cons.1 hl with rfl | hl
   ·have:hit l l.a l.b=true:=hit_iff.2 ⟨by omega,by omega⟩
    rw [this] at hh; cases hh
   ·refine betw_of (fun k y hy=>?_) hl hab
    have:=h (k+1) y hy
    rw [List.take_succ_cons,List.any_cons,Bool.or_eq_false_iff] at this
    exact this.2
  ·rcases List.mem_cons.1 hl with rfl | hl
   ·rfl
   ·exfalso
    obtain ⟨j,hj,e⟩:=List.mem_iff_getElem.1 hl
    have:=h (j+1) l (by rw [List.getElem?_cons_succ]; exact List.getElem?_eq_some_iff.2 ⟨hj,e⟩)
    rw [List.take_succ_cons,List.any_cons,Bool.or_eq_false_iff] at this
    have h2:=hit_iff.1 hh
    have h3:sameL x l=true:=by
     unfold sameL
     rw [show (x.a==l.a)=true by rw [beq_iff_eq]; omega,show (x.b==l.b)=true by rw [beq_iff_eq]; omega]; rfl
    rw [h3] at this; cases this.1
theorem Ms.fine.betw_dir {m:Ms} (h:m.fine) {u v:Nat} {c:Int}:dir m.ls u v c↔c=betw m.ls u v∧0 < c:=by
 constructor
 ·rintro ⟨l,hl,rfl,he⟩
  have hk:=h.link hl
  have e:=betw_of (l:=l) (fun k x hx=>(linkE_zero (h.links k x hx)).2.1) hl (by omega)
  refine ⟨?_,by omega⟩
  rcases he with ⟨rfl,rfl⟩ | ⟨rfl,rfl⟩
  ·rw [show ((l.a.toNat:Nat):Int)=l.a by omega,show ((l.b.toNat:Nat):Int)=l.b by omega,e]
  ·rw [betw_comm,show ((l.a.toNat:Nat):Int)=l.a by omega,show ((l.b.toNat:Nat):Int)=l.b by omega,e]
 ·rintro ⟨rfl,h0⟩
  obtain ⟨l,hl,hc,ha,hb⟩:=betw_mem h0
  refine ⟨l,hl,hc,?_⟩
  omega
theorem nbs_iff (m:Ms) (i x:Int):x∈m.nbs i↔0≤x∧x < (m.ns.length:Int)∧0 < betw m.ls i x:=nbs_mem m i x m.ns.length
theorem round_at (m:Ms) (s:Sts) (lost:List (Int × Int)) {k:Int} (h0:0≤k) (h1:k < (s.es.length:Int)):(s.round m lost).at k=roundE m s lost k:=by
 have e:=rndL_get m s lost s.es.length (i:=k.toNat) (by omega)
 unfold Sts.at Sts.round
 show ((rndL m s lost s.es.length)[k.toNat]?).getD _=_
 rw [e,if_pos (by omega),show ((k.toNat:Nat):Int)=k by omega]; rfl
theorem round_len (m:Ms) (s:Sts) (lost:List (Int × Int)):(s.round m lost).es.length=s.es.length:=rndL_len m s lost s.es.length
theorem round_step {m:Ms} {s:Sts} (g:Good m s) (lost:List (Int × Int)) {k:Int} (h0:0≤k) (h1:k < (m.ns.length:Int)):(s.round m lost).at k=s.at k∨(k≠s.co∧∃ u:Int,0≤u∧u < (m.ns.length:Int)∧(s.at u).ne≠-1∧0 < betw m.ls u k∧(s.at u).di+betw m.ls u k≤3200∧(s.round m lost).at k=ofE m s u k∧((s.round m lost).at k).bet (s.at k)):=by
 rw [round_at m s lost h0 (by rw [g.len]; exact h1)]
 rcases (hr_fold m s lost k (m.nbs k) (s.at k)).1 with e | ⟨u,hu,hb,e⟩
 ·exact .inl e
 ·right
  have hn:=(nbs_iff m k u).1 hu
  unfold hrB ofB at hb
  simp only [Bool.and_eq_true,Bool.not_eq_true',beq_eq_false_iff_ne,decide_eq_true_eq] at hb
  refine ⟨hb.1,u,hn.1,hn.2.1,hb.2.1.1,by rw [betw_comm]; exact hn.2.2,hb.2.1.2,e,?_⟩
  show (roundE m s lost k).bet _
  unfold roundE
  rw [e]; exact betB_iff.1 hb.2.2.2
theorem round_best {m:Ms} {s:Sts} (g:Good m s) (lost:List (Int × Int)) {k u:Int} (h0:0≤k) (h1:k < (m.ns.length:Int)) (hk:k≠s.co) (hu:0≤u∧u < (m.ns.length:Int)) (hn:(s.at u).ne≠-1) (hb:0 < betw m.ls u k) (hd:(s.at u).di+betw m.ls u k≤3200) (hl:lostB lost k u=false):¬ (ofE m s u k).bet ((s.round m lost).at k):=by
 rw [round_at m s lost h0 (by rw [g.len]; exact h1)]
 have h:=(hr_fold m s lost k (m.nbs k) (s.at k)).2.1 u ((nbs_iff m k u).2 ⟨hu.1,hu.2,by rw [betw_comm]; exact hb⟩)
 intro hbet
 have e:hrB m s lost k u (roundE m s lost k)=true:=by
  unfold hrB ofB
  simp only [Bool.and_eq_true,Bool.not_eq_true',beq_eq_false_iff_ne,decide_eq_true_eq]
  exact ⟨hk,⟨hn,hd⟩,hl,betB_iff.2 hbet⟩
 unfold roundE at e
 rw [h] at e; cases e
theorem Good.round {m:Ms} {s:Sts} (g:Good m s) (lost:List (Int × Int)):Good m (s.round m lost) :=
 g.hears rfl rfl (round_len m s lost) fun _ h0 h1=>round_step g lost h0 h1
def Sts.rounds (m:Ms) (s:Sts):Nat→Sts
 | 0=>s
 | k+1=>(Sts.rounds m s k).round m []
theorem Good.rounds {m:Ms} {s:Sts} (g:Good m s):∀ k,Good m (s.rounds m k)
 | 0=>g
 | k+1=>(Good.rounds g k).round []
theorem rounds_co (m:Ms) (s:Sts):∀ k,(s.rounds m k).co=s.co
 | 0=>rfl
 | k+1=>rounds_co m s k
theorem rounds_nu (m:Ms) (s:Sts):∀ k,(s.rounds m k).nu=s.nu
 | 0=>rfl
 | k+1=>rounds_nu m s k
theorem rounds_len (m:Ms) (s:Sts):∀ k,(s.rounds m k).es.length=s.es.length
 | 0=>rfl
 | k+1=>(round_len m _ _).trans (rounds_len m s k)
theorem sts_ext {s t:Sts} (hc:s.co=t.co) (hn:s.nu=t.nu) (hl:s.es.length=t.es.length) (h:∀ v:Nat,v < s.es.length→s.at v=t.at v):s=t:=by
 have e:s.es=t.es:=by
  apply List.ext_getElem?
  intro i
  by_cases hi:i < s.es.length
  ·rw [Sts.at_get hi,Sts.at_get (by omega),h i hi]
  ·rw [List.getElem?_eq_none (by omega),List.getElem?_eq_none (by omega)]
 cases s; cases t
 simp only at hc hn e
 subst hc; subst hn; subst e; rfl
theorem Good.waves {m:Ms} {s:Sts} (g:Good m s):Waves m.ns.length (fun u v c=>v≠s.co.toNat∧dir m.ls u v c) (fun k v=>(s.rounds m k).at v) where
 step:=fun k v hv=>by
  have gk:=g.rounds k
  rcases round_step gk [] (k:=(v:Int)) (by omega) (by omega) with e | ⟨h1,u,h2,h3,h4,h5,h6,h7,h8⟩
  ·exact .inl e
  ·right
   have hco:=g.co
   rw [rounds_co] at h1
   refine ⟨u.toNat,betw m.ls u v,by omega,⟨by omega,(chk_fine g.chk).betw_dir.2 ⟨by rw [show ((u.toNat:Nat):Int)=u by omega],h5⟩⟩,?_,?_,?_,h8⟩
   ·rw [show ((u.toNat:Nat):Int)=u by omega]; exact h4
   ·rw [show ((u.toNat:Nat):Int)=u by omega]; exact h6
   ·show ((s.rounds m k).round m []).at v=_
    rw [h7,show ((u.toNat:Nat):Int)=u by omega]; rfl
 best:=fun k v u c hv hu ho hn hc=>by
  have gk:=g.rounds k
  have hd:=(chk_fine g.chk).betw_dir.1 ho.2
  have hco:=g.co
  have:=round_best gk [] (k:=(v:Int)) (u:=(u:Int)) (by omega) (by omega) (by rw [rounds_co]; have:=ho.1; omega) ⟨by omega,by omega⟩ hn (by omega) (by rw [← hd.1]; exact hc) rfl
  rw [hd.1]
  exact this
 cost:=fun u v c ho=>by have:=((chk_fine g.chk).betw_dir.1 ho.2).2; omega
theorem Good.rest {m:Ms} {s:Sts} (g:Good m s) {k:Nat} (hk:m.ns.length≤k+1):s.rounds m (k+1)=s.rounds m k:=by
 have gl:=g.len
 refine sts_ext rfl rfl (round_len m _ _) fun v hv=>?_
 rw [rounds_len,gl] at hv
 exact g.waves.rest k v hv hk
instance : DecidableEq En := fun _ _ => decidable_of_iff _ En.same_iff
def restK (m:Ms) (s:Sts):Nat→Nat→Nat
 | 0,k=>k
 | f+1,k=>if (s.rounds m (k+1)).es=(s.rounds m k).es then k else restK m s f (k+1)
def Sts.K (m:Ms) (s:Sts):Nat:=restK m s m.ns.length 0
theorem restK_stop {m:Ms} {s:Sts} {f k:Nat} (h:(s.rounds m (k+1)).es=(s.rounds m k).es):restK m s f k=k:=by
 cases f with
 | zero=>rfl
 | succ f=>unfold restK; rw [if_pos h]
theorem restK_go {m:Ms} {s:Sts} {f k:Nat} (h:¬ (s.rounds m (k+1)).es=(s.rounds m k).es):restK m s (f+1) k=restK m s f (k+1):=by
 conv=>lhs; unfold restK
 rw [if_neg h]
theorem Good.ne_lt {m:Ms} {s:Sts} (g:Good m s) {k:Nat} (h:¬ (s.rounds m (k+1)).es=(s.rounds m k).es):k+1 < m.ns.length:=by
 rcases Nat.lt_or_ge (k+1) m.ns.length with h1 | h1
 ·exact h1
 ·exact absurd (by rw [g.rest h1]) h
end Vc
set_option maxRecDepth 10000
set_option maxHeartbeats 4000000
namespace Vc
open Go Go.Proofs
def ir120:AFun:=⟨26,0,[.tmp 4],
 (.seq
 (.reg [] [⟨some 4,.mov (.cst (.d (.bool false))),none⟩])
 (.seq
 (.seq
 (.reg [] [⟨some 6,.mov (.tmp 0),none⟩,
 ⟨some 7,.len (.tmp 6),none⟩,
 ⟨some 8,.mov (.tmp 1),none⟩,
 ⟨some 9,.len (.tmp 8),none⟩,
 ⟨some 10,.cmp .neq (.tmp 7) (.tmp 9),none⟩])
 (.cond (.tmp 10)
 (.seq
 (.reg [] [⟨some 4,.mov (.cst (.d (.bool false))),none⟩])
 .ret)
 .skip))
 (.seq
 (.seq
 (.reg [] [⟨some 11,.mov (.tmp 0),none⟩,
 ⟨some 12,.len (.tmp 11),none⟩,
 ⟨some 13,.mov (.cst (.d (.int .i64 0))),none⟩])
 (.post [] []
 (.block 0
 (.keep [0,1,12,13] []
 (.loop
 (.post [0,1,12,13] []
 (.seq
 (.reg [] [⟨some 14,.cmp .lss (.tmp 13) (.tmp 12),none⟩])
 (.seq
 (.cond (.tmp 14)
 .skip
 (.exit 0))
 (.seq
 (.block 1
 (.seq
 (.reg [] [⟨some 15,.mov (.tmp 13),none⟩,
 ⟨some 5,.mov (.tmp 15),none⟩])
 (.seq
 (.regd [] [⟨some 16,.mov (.tmp 0),none⟩,
 ⟨some 17,.mov (.tmp 5),none⟩,
 ⟨some 18,.ixa 3 (.tmp 16) (.tmp 17),none⟩,
 ⟨some 19,.ld true 3 (.tmp 18),none⟩,
 ⟨some 20,.mov (.tmp 1),none⟩,
 ⟨some 21,.mov (.tmp 5),none⟩,
 ⟨some 22,.ixa 3 (.tmp 20) (.tmp 21),none⟩,
 ⟨some 23,.ld true 3 (.tmp 22),none⟩,
 ⟨some 24,.aeq true [0,0,0] (.tmp 19) (.tmp 23),none⟩] [(0,1),(0,4),(1,4),(2,4),(3,4),(0,5),(1,5),(2,5),(3,5),(4,5),(0,6),(1,6),(2,6),(3,6),(0,7),(1,7),(2,7),(3,7)])
 (.cond (.tmp 24)
 (.seq
 (.reg [] [⟨some 4,.mov (.cst (.d (.bool false))),none⟩])
 .ret)
 .skip))))
 (.reg [] [⟨some 25,.arith .add .i64 (.tmp 13) (.cst (.d (.int .i64 1))),none⟩,
 ⟨some 13,.mov (.tmp 25),none⟩]))))))))))
 (.seq
 (.reg [] [⟨some 4,.mov (.cst (.d (.bool true))),none⟩])
 .ret))))⟩
def ir53:AFun:=⟨25,4,[.cell 6 3 true,.tmp 7],
 (.seq
 (.reg [0,1,2] [⟨some 3,.cbx 0 2 (.tmp 0),none⟩,
 ⟨some 4,.cbx 1 3 (.tmp 1),none⟩,
 ⟨some 6,.alloc 2 [(.d (.int .i64 0)),(.d (.int .i64 0)),(.nils 3)],none⟩,
 ⟨some 7,.mov (.cst (.d (.int .i64 0))),none⟩])
 (.seq
 (.seq
 (.regd [3] [⟨some 9,.ld true 2 (.tmp 3),none⟩,
 ⟨some 10,.ld true 3 (.tmp 4),none⟩,
 ⟨some 11,.call 52 [(.tmp 9),(.tmp 10)],none⟩,
 ⟨some 12,.ld true 2 (.tmp 3),none⟩,
 ⟨some 13,.mov (.tmp 2),none⟩,
 ⟨some 14,.call 34 [(.tmp 12),(.tmp 13)],none⟩,
 ⟨some 15,.bsl 3 33 1 2 [(.int .i64 0),(.int .i64 0)] [(0,(.tmp 11)),(1,(.tmp 14))],none⟩,
 ⟨some 16,.call 31 [(.tmp 15)],none⟩,
 ⟨some 8,.mov (.tmp 16),none⟩] [(0,1),(0,3),(1,3),(2,3),(0,4),(1,4),(2,4),(3,4)])
 (.seq
 (.reg [] [⟨some 17,.mov (.tmp 8),none⟩,
 ⟨some 18,.cmp .neq (.tmp 17) (.cst (.d (.int .i64 0))),none⟩])
 (.cond (.tmp 18)
 (.seq
 (.reg [] [⟨some 19,.build [(.d (.int .i64 0)),(.d (.int .i64 0)),(.nils 3)] [],none⟩,
 ⟨some 20,.mov (.tmp 8),none⟩,
 ⟨none,.st 3 (.tmp 6) (.tmp 19),none⟩,
 ⟨some 7,.mov (.tmp 20),none⟩])
 .ret)
 .skip)))
 (.seq
 (.reg [] [⟨some 21,.ld true 3 (.tmp 4),none⟩,
 ⟨some 22,.ld true 2 (.tmp 3),none⟩,
 ⟨some 23,.mov (.tmp 2),none⟩,
 ⟨some 24,.call 53 [(.tmp 21),(.tmp 22),(.tmp 23)],none⟩,
 ⟨none,.st 3 (.tmp 6) (.tmp 24),none⟩,
 ⟨some 7,.mov (.cst (.d (.int .i64 0))),none⟩])
 .ret)))⟩
def ir54:AFun:=⟨38,6,[.cell 4 3 true,.tmp 5,.tmp 6],
 (.seq
 (.reg [0,1,2] [⟨some 2,.cbx 0 2 (.tmp 0),none⟩,
 ⟨some 3,.cbx 1 3 (.tmp 1),none⟩,
 ⟨some 4,.alloc 2 [(.d (.int .i64 0)),(.d (.int .i64 0)),(.nils 3)],none⟩,
 ⟨some 5,.mov (.cst (.d (.int .i64 0))),none⟩,
 ⟨some 6,.mov (.cst (.d (.int .i64 0))),none⟩])
 (.seq
 (.seq
 (.reg [] [⟨some 11,.ld true 2 (.tmp 2),none⟩,
 ⟨some 12,.ld true 3 (.tmp 3),none⟩,
 ⟨some 13,.call 52 [(.tmp 11),(.tmp 12)],none⟩,
 ⟨some 7,.mov (.tmp 13),none⟩])
 (.seq
 (.reg [] [⟨some 14,.mov (.tmp 7),none⟩,
 ⟨some 15,.cmp .neq (.tmp 14) (.cst (.d (.int .i64 0))),none⟩])
 (.cond (.tmp 15)
 (.seq
 (.reg [] [⟨some 16,.build [(.d (.int .i64 0)),(.d (.int .i64 0)),(.nils 3)] [],none⟩,
 ⟨some 17,.mov (.tmp 7),none⟩,
 ⟨none,.st 3 (.tmp 4) (.tmp 16),none⟩,
 ⟨some 5,.mov (.cst (.d (.int .i64 0))),none⟩,
 ⟨some 6,.mov (.tmp 17),none⟩])
 .ret)
 .skip)))
 (.seq
 (.reg [3] [⟨some 18,.ld true 3 (.tmp 3),none⟩,
 ⟨some 19,.call 59 [(.tmp 18)],none⟩,
 ⟨some 8,.alloc 3 [(.d (.int .i64 0)),(.d (.int .i64 0)),(.nils 3)],none⟩,
 ⟨none,.st 3 (.tmp 8) (.tmp 19),none⟩,
 ⟨some 9,.mov (.cst (.d (.int .i64 0))),none⟩])
 (.seq
 (.seq
 (.reg [4] [⟨some 20,.ld true 3 (.tmp 8),none⟩,
 ⟨some 21,.ld true 2 (.tmp 2),none⟩,
 ⟨some 22,.call 53 [(.tmp 20),(.tmp 21),(.cst (.nils 2))],none⟩,
 ⟨some 10,.alloc 4 [(.d (.int .i64 0)),(.d (.int .i64 0)),(.nils 3)],none⟩,
 ⟨none,.st 3 (.tmp 10) (.tmp 22),none⟩])
 (.post [4,8,9] [0,1,2,3,4,5]
 (.block 0
 (.keep [2,4,8,9,10] [0,1,2,3,4]
 (.loop
 (.post [2,4,8,9,10] [5]
 (.seq
 (.seq
 (.reg [] [⟨some 23,.fad 2 (.tmp 10),none⟩,
 ⟨some 24,.ld false 1 (.tmp 23),none⟩,
 ⟨some 25,.fad 2 (.tmp 8),none⟩,
 ⟨some 26,.ld false 1 (.tmp 25),none⟩,
 ⟨some 27,.call 64 [(.tmp 24),(.tmp 26)],none⟩,
 ⟨some 28,.not (.tmp 27),none⟩])
 (.cond (.tmp 28)
 .skip
 (.exit 0)))
 (.seq
 (.block 1
 (.seq
 (.reg [] [⟨some 32,.ld true 3 (.tmp 10),none⟩,
 ⟨none,.st 3 (.tmp 8) (.tmp 32),none⟩])
 (.reg [] [⟨some 33,.mov (.tmp 9),none⟩,
 ⟨some 34,.arith .add .i64 (.tmp 33) (.cst (.d (.int .i64 1))),none⟩,
 ⟨some 9,.mov (.tmp 34),none⟩])))
 (.seq
 (.seq
 (.reg [] [⟨some 35,.ld true 3 (.tmp 10),none⟩])
 (.keep [2,4,8,9,35] [4,5] (.reg [] [⟨some 10,.alloc 4 [(.d (.int .i64 0)),(.d (.int .i64 0)),(.nils 3)],none⟩,
 ⟨none,.st 3 (.tmp 10) (.tmp 35),none⟩])))
 (.reg [] [⟨some 29,.ld true 3 (.tmp 8),none⟩,
 ⟨some 30,.ld true 2 (.tmp 2),none⟩,
 ⟨some 31,.call 53 [(.tmp 29),(.tmp 30),(.cst (.nils 2))],none⟩,
 ⟨none,.st 3 (.tmp 10) (.tmp 31),none⟩]))))))))))
 (.seq
 (.reg [] [⟨some 36,.ld true 3 (.tmp 8),none⟩,
 ⟨some 37,.mov (.tmp 9),none⟩,
 ⟨none,.st 3 (.tmp 4) (.tmp 36),none⟩,
 ⟨some 5,.mov (.tmp 37),none⟩,
 ⟨some 6,.mov (.cst (.d (.int .i64 0))),none⟩])
 .ret)))))⟩
theorem same_iff2 {x y:En} (h:(!(En.same x y))=true):x≠y:=fun e=>by rw [En.same_iff.2 e] at h; cases h
theorem same_iff3 {x y:En} (h:(!(En.same x y))=false):x=y:=En.same_iff.1 (by simpa using h)
theorem c120 (a b:List En) (hl:a.length=b.length) (ha:a.length≤1048576):CallDet Tryz.prog 64 [.d (.slice 3 (ens a)),.d (.slice 3 (ens b))] [.bool (decide (a=b))]:=by
 have h1:=ens_len a
 have h2:=ens_len b
 have fin:∀ v:Bool,decide (a=b)=v→resV [.bool v]=resV [.bool (decide (a=b))]:=fun v h=>by rw [h]
 refine call_of_vc (x:=ir120) (by kernel_rfl) rfl ?_
 refine sd ?_
 refine b_ne (fun t1=>?_) (fun t1=>?_)
 (exfalso; omega)
 rotate_left
 refine loop_u (fun k:Nat=>[(13,.d (.int .i64 k))]) (fun k=>[]) (fun k=>k≤a.length∧a.take k=b.take k) (fun k=>a.length - k) 0 rfl ⟨Nat.zero_le _,rfl⟩ ?_
 rintro k ⟨hk,ht⟩
 have hk:k≤a.length:=hk
 by_cases hkk:k < a.length
 ·refine Exists.elim (get_lt a hkk) fun x hx=>?_
  refine Exists.elim (get_lt b (k:=k) (by omega)) fun y hy=>?_
  have hxd:=ens_at hx
  have hyd:=ens_at hy
  refine sd ?_
  refine b_lt (fun t2=>?_) (fun t2=>?_)
  refine ix_at hxd ?_ ?_
  (show (0:Int)≤(↑k:Int); omega)
  refine ix_at hyd ?_ ?_
  (show (0:Int)≤(↑k:Int); omega)
  refine ca (Exists.intro _ (And.intro rfl rfl)) ?_
  refine b_intro (fun t3=>?_) (fun t3=>?_)
  replace t3:(!(En.nu x==En.nu y&&(En.di x==En.di y&&(En.ne x==En.ne y&&true))))=true:=t3
  rotate_left
  replace t3:(!(En.nu x==En.nu y&&(En.di x==En.di y&&(En.ne x==En.ne y&&true))))=false:=t3
  refine ar_add ?_ ?_
  refine an ?_ ?_
  (show (-9223372036854775808:Int)≤(↑k:Int)+(1:Int); omega)
  (show (↑k:Int)+(1:Int)≤(9223372036854775807:Int); omega)
  rotate_left
  (exfalso; omega)
  ·refine fin _ (decide_eq_false fun e=>?_)
   subst e
   rw [hx] at hy
   exact same_iff2 t3 (Option.some.inj hy)
  ·exact ⟨k+1,⟨⟨hkk,by rw [take_one hx,take_one hy,ht,same_iff3 t3]⟩,by show a.length - (k+1) < a.length - k; omega⟩,rfl⟩
 ·have e:a=b:=by rw [List.take_of_length_le (by omega),List.take_of_length_le (by omega)] at ht; exact ht
  refine sd ?_
  refine b_lt (fun t2=>?_) (fun t2=>?_)
  (exfalso; omega)
  rotate_left
  exact fin _ (decide_eq_true e)
def Sts.allP (m:Ms) (s:Sts):Sts:=s.rounds m (s.K m)
theorem c54 (m:Ms) (s:Sts) (hm:m.ns.length≤1048576) (hl2:m.ls.length≤1048576) (hn:s.es.length≤1048576):CallDet Tryz.prog 22 [.d m.d,.d s.d] [(bif m.chkS s != 0 then Sts.zero else s.allP m).d,.int .i64 (bif m.chkS s != 0 then 0 else (s.K m:Int)),.int .i64 (m.chkS s)]:=by
 have hl:=ens_len s.es
 have bad:¬ m.chkS s=0→resV [.agg [.int .i64 0,.int .i64 0,.slice 3 []],.int .i64 0,.int .i64 (m.chkS s)]=resV [(bif m.chkS s != 0 then Sts.zero else s.allP m).d,.int .i64 (bif m.chkS s != 0 then 0 else (s.K m:Int)),.int .i64 (m.chkS s)]:=fun h=>by
  rw [show (m.chkS s != 0)=true by rw [bne_iff_ne]; exact h]; rfl
 have fin:m.chkS s=0→∀ k:Nat,s.K m=k→resV [.agg [.int .i64 (s.rounds m k).co,.int .i64 (s.rounds m k).nu,.slice 3 (ens (s.rounds m k).es)],.int .i64 k,.int .i64 0]=resV [(bif m.chkS s != 0 then Sts.zero else s.allP m).d,.int .i64 (bif m.chkS s != 0 then 0 else (s.K m:Int)),.int .i64 (m.chkS s)]:=fun e k h=>by rw [e]; unfold Sts.allP; rw [h]; rfl
 refine call_of_vc (x:=ir54) (by kernel_rfl) rfl ?_
 by_cases hz:m.chkS s=0
 ·have g:=good_of hz
  have hf:=chk_fine g.chk
  have hle:=g.len
  have h32:=hf.n32
  have h128:=hf.l128
  refine ca (c37 m s hm hl2 hn) ?_
  refine sd ?_
  refine b_ne (fun t1=>?_) (fun t1=>?_)
  (exfalso; omega)
  refine ca (c99 s (by omega)) ?_
  refine ca (c119 m s [] g (by decide)) ?_
  rotate_left
  refine loop_u (fun k:Nat=>[(9,.d (.int .i64 k))]) (fun k=>[(3,.box [.d (.int .i64 (s.rounds m k).co),.d (.int .i64 (s.rounds m k).nu),.d (.slice 3 (ens (s.rounds m k).es))]),(4,.box [.d (.int .i64 (s.rounds m (k+1)).co),.d (.int .i64 (s.rounds m (k+1)).nu),.d (.slice 3 (ens (s.rounds m (k+1)).es))])]) (fun k=>k≤m.ns.length∧s.K m=restK m s (m.ns.length - k) k) (fun k=>m.ns.length - k) 0 rfl ⟨Nat.zero_le _,rfl⟩ ?_
  rintro k ⟨hk,hK⟩
  have hk:k≤m.ns.length:=hk
  have hlk:=rounds_len m s (k+1)
  have c120_k:=c120 (s.rounds m (k+1)).es (s.rounds m k).es (round_len m _ _) (by omega)
  by_cases he:(s.rounds m (k+1)).es=(s.rounds m k).es
  ·rw [decide_eq_true he] at c120_k
   refine ca c120_k ?_
   rotate_left
   exact fin hz k (hK.trans (restK_stop he))
  ·rw [decide_eq_false he] at c120_k
   have hlt:=g.ne_lt he
   refine ca c120_k ?_
   refine ar_add ?_ ?_
   refine an ?_ ?_
   (show (-9223372036854775808:Int)≤(↑k:Int)+(1:Int); omega)
   (show (↑k:Int)+(1:Int)≤(9223372036854775807:Int); omega)
   refine ca (c119 m (s.rounds m (k+1)) [] (g.rounds (k+1)) (by decide)) ?_
   rotate_left
   exact ⟨k+1,⟨⟨by show k+1≤_; omega,by rw [hK,show m.ns.length - k=(m.ns.length - (k+1))+1 by omega,restK_go he]⟩,by show m.ns.length - (k+1) < m.ns.length - k; omega⟩,rfl⟩
 ·refine ca (c37 m s hm hl2 hn) ?_
  refine sd ?_
  refine b_ne (fun t1=>?_) (fun t1=>?_)
  rotate_left
  (exfalso; omega)
  exact bad hz
theorem heard_len (m:Ms) (s:Sts) (a b:Int):(s.heard m a b).es.length=s.es.length:=by unfold Sts.heard; exact List.length_set
end Vc
set_option maxRecDepth 10000
set_option maxHeartbeats 4000000
namespace Vc
open Go Go.Proofs
def ir151:AFun:=⟨22,3,[.tmp 4],
 (.seq
 (.reg [] [⟨some 4,.mov (.cst (.nils 1)),none⟩])
 (.seq
 (.reg [] [⟨some 5,.mov (.cst (.nils 1)),none⟩])
 (.seq
 (.seq
 (.reg [] [⟨some 8,.mov (.tmp 0),none⟩,
 ⟨some 9,.len (.tmp 8),none⟩,
 ⟨some 10,.mov (.cst (.d (.int .i64 0))),none⟩])
 (.post [5] [0,1,2]
 (.block 0
 (.asrow 2 3 1 5
 (.keep [1,5,8,9,10] []
 (.loop
 (.post [1,5,8,9,10] [0,1,2]
 (.seq
 (.reg [] [⟨some 11,.cmp .lss (.tmp 10) (.tmp 9),none⟩])
 (.seq
 (.cond (.tmp 11)
 .skip
 (.exit 0))
 (.seq
 (.block 1
 (.seq
 (.reg [0] [⟨some 12,.ixa 3 (.tmp 8) (.tmp 10),none⟩,
 ⟨some 13,.ld true 3 (.tmp 12),none⟩,
 ⟨some 7,.alloc 0 [(.d (.int .i64 0)),(.d (.int .i64 0)),(.d (.int .i64 0))],none⟩,
 ⟨none,.st 3 (.tmp 7) (.tmp 13),none⟩])
 (.reg [1,2] [⟨some 14,.mov (.tmp 5),none⟩,
 ⟨some 15,.mov (.tmp 1),none⟩,
 ⟨some 16,.ld true 3 (.tmp 7),none⟩,
 ⟨some 17,.callv (.tmp 15) [(.tmp 16)],none⟩,
 ⟨some 18,.bsl 1 3 1 1 [(.int .i64 0)] [(0,(.tmp 17))],none⟩,
 ⟨some 19,.app 2 3 1 8 (.tmp 14) (.tmp 18),none⟩,
 ⟨some 5,.mov (.tmp 19),none⟩])))
 (.reg [] [⟨some 20,.arith .add .i64 (.tmp 10) (.cst (.d (.int .i64 1))),none⟩,
 ⟨some 10,.mov (.tmp 20),none⟩])))))))))))
 (.seq
 (.reg [] [⟨some 21,.mov (.tmp 5),none⟩,
 ⟨some 4,.mov (.tmp 21),none⟩])
 .ret))))⟩
def ir152:AFun:=⟨5,1,[.tmp 2],
 (.seq
 (.reg [0] [⟨some 1,.cbx 0 3 (.tmp 0),none⟩,
 ⟨some 2,.mov (.cst (.d (.int .i64 0))),none⟩])
 (.seq
 (.reg [] [⟨some 3,.fad 2 (.tmp 1),none⟩,
 ⟨some 4,.ld false 1 (.tmp 3),none⟩,
 ⟨some 2,.mov (.tmp 4),none⟩])
 .ret))⟩
def ir153:AFun:=⟨5,4,[.tmp 2],
 (.seq
 (.reg [] [⟨some 2,.mov (.cst (.nils 1)),none⟩])
 (.seq
 (.reg [] [⟨some 3,.mov (.tmp 0),none⟩,
 ⟨some 4,.calli 127 [(.cst (.nils 1)),(.tmp 3)],none⟩,
 ⟨some 2,.mov (.tmp 4),none⟩])
 .ret))⟩
def ir154:AFun:=⟨6,2,[.tmp 4],
 (.seq
 (.reg [0,1] [⟨some 2,.cbx 0 1 (.tmp 0),none⟩,
 ⟨some 3,.cbx 1 1 (.tmp 1),none⟩,
 ⟨some 4,.mov (.cst .undef),none⟩])
 (.seq
 (.reg [] [⟨some 5,.mkf (.func 128) [] [(.tmp 3),(.tmp 2)],none⟩,
 ⟨some 4,.mov (.tmp 5),none⟩])
 .ret))⟩
def ir164:AFun:=⟨13,4,[.tmp 4],
 (.seq
 (.reg [0] [⟨some 2,.box 0 1 (.tmp 0),none⟩,
 ⟨some 4,.mov (.cst (.nils 1)),none⟩])
 (.seq
 (.seq
 (.reg [] [⟨some 6,.mov (.tmp 1),none⟩])
 (.block 0
 (.keep [2,6] [0]
 (.rfor 1 (.tmp 6) [7]
 (.reg [] [⟨some 5,.mov (.tmp 7),none⟩])
 (.post [] [2,3]
 (.block 1
 (.reg [2,3] [⟨some 8,.ld false 1 (.tmp 2),none⟩,
 ⟨some 9,.mov (.tmp 5),none⟩,
 ⟨some 10,.bsl 2 3 1 1 [(.int .i64 0)] [(0,(.tmp 9))],none⟩,
 ⟨some 11,.app 3 3 1 8 (.tmp 8) (.tmp 10),none⟩,
 ⟨none,.st 1 (.tmp 2) (.tmp 11),none⟩])))))))
 (.seq
 (.reg [] [⟨some 12,.ld false 1 (.tmp 2),none⟩,
 ⟨some 4,.mov (.tmp 12),none⟩])
 .ret)))⟩
def ir165:AFun:=⟨32,0,[],
 (.seq
 (.reg [] [⟨some 5,.ld false 1 (.tmp 1),none⟩,
 ⟨some 4,.mov (.tmp 5),none⟩])
 (.seq
 (.reg [] [⟨some 6,.ld false 1 (.tmp 2),none⟩,
 ⟨some 7,.len (.tmp 6),none⟩,
 ⟨some 8,.mov (.cst (.d (.int .i64 0))),none⟩])
 (.post [] []
 (.block 0
 (.keep [0,2,4,7,8] []
 (.loop
 (.post [0,2,4,7,8] []
 (.seq
 (.reg [] [⟨some 9,.cmp .lss (.tmp 8) (.tmp 7),none⟩])
 (.seq
 (.cond (.tmp 9)
 .skip
 (.exit 0))
 (.seq
 (.block 1
 (.seq
 (.seq
 (.reg [] [⟨some 10,.mov (.tmp 0),none⟩,
 ⟨some 11,.mov (.tmp 4),none⟩,
 ⟨some 12,.callv (.tmp 10) [(.tmp 11)],none⟩,
 ⟨some 13,.not (.tmp 12),none⟩])
 (.cond (.tmp 13)
 .ret
 .skip))
 (.seq
 (.seq
 (.reg [] [⟨some 14,.ld false 1 (.tmp 2),none⟩,
 ⟨some 15,.mov (.tmp 4),none⟩,
 ⟨some 16,.ixa 1 (.tmp 14) (.tmp 15),none⟩,
 ⟨some 17,.ld false 1 (.tmp 16),none⟩,
 ⟨some 18,.cmp .lss (.tmp 17) (.cst (.d (.int .i64 0))),none⟩,
 ⟨some 19,.mov (.tmp 18),none⟩,
 ⟨some 20,.ld false 1 (.tmp 2),some (19,false)⟩,
 ⟨some 21,.mov (.tmp 4),some (19,false)⟩,
 ⟨some 22,.ixa 1 (.tmp 20) (.tmp 21),some (19,false)⟩,
 ⟨some 23,.ld false 1 (.tmp 22),some (19,false)⟩,
 ⟨some 24,.mov (.tmp 4),some (19,false)⟩,
 ⟨some 25,.cmp .eql (.tmp 23) (.tmp 24),some (19,false)⟩,
 ⟨some 26,.pick (.tmp 19) (.cst (.d (.bool true))) (.tmp 25),none⟩])
 (.cond (.tmp 26)
 .ret
 .skip))
 (.reg [] [⟨some 27,.ld false 1 (.tmp 2),none⟩,
 ⟨some 28,.mov (.tmp 4),none⟩,
 ⟨some 29,.ixa 1 (.tmp 27) (.tmp 28),none⟩,
 ⟨some 30,.ld false 1 (.tmp 29),none⟩,
 ⟨some 4,.mov (.tmp 30),none⟩]))))
 (.reg [] [⟨some 31,.arith .add .i64 (.tmp 8) (.cst (.d (.int .i64 1))),none⟩,
 ⟨some 8,.mov (.tmp 31),none⟩])))))))))))⟩
def ir66:AFun:=⟨28,4,[.tmp 4,.tmp 5],
 (.seq
 (.reg [0] [⟨some 2,.cbx 0 3 (.tmp 0),none⟩,
 ⟨some 4,.mov (.cst (.nils 1)),none⟩,
 ⟨some 5,.mov (.cst (.d (.int .i64 0))),none⟩])
 (.seq
 (.reg [1] [⟨some 8,.mov (.tmp 1),none⟩,
 ⟨some 9,.bsl 1 3 1 1 [(.int .i64 0)] [(0,(.tmp 8))],none⟩,
 ⟨some 6,.mov (.tmp 9),none⟩])
 (.seq
 (.seq
 (.reg [] [⟨some 10,.mov (.tmp 1),none⟩,
 ⟨some 7,.mov (.tmp 10),none⟩])
 (.post [6] [0,1,2,3]
 (.block 0
 (.asrow 3 3 1 6
 (.keep [2,6,7] [0,1]
 (.loop
 (.post [2,6,7] [2,3]
 (.seq
 (.seq
 (.reg [] [⟨some 11,.mov (.tmp 7),none⟩,
 ⟨some 12,.fad 0 (.tmp 2),none⟩,
 ⟨some 13,.ld false 1 (.tmp 12),none⟩,
 ⟨some 14,.cmp .neq (.tmp 11) (.tmp 13),none⟩])
 (.cond (.tmp 14)
 .skip
 (.exit 0)))
 (.block 1
 (.seq
 (.reg [] [⟨some 15,.fad 2 (.tmp 2),none⟩,
 ⟨some 16,.ld false 1 (.tmp 15),none⟩,
 ⟨some 17,.mov (.tmp 7),none⟩,
 ⟨some 18,.ixa 3 (.tmp 16) (.tmp 17),none⟩,
 ⟨some 19,.fad 2 (.tmp 18),none⟩,
 ⟨some 20,.ld false 1 (.tmp 19),none⟩,
 ⟨some 7,.mov (.tmp 20),none⟩])
 (.seq
 (.seq
 (.reg [] [⟨some 21,.mov (.tmp 7),none⟩,
 ⟨some 22,.cmp .lss (.tmp 21) (.cst (.d (.int .i64 0))),none⟩])
 (.cond (.tmp 22)
 (.seq
 (.reg [] [⟨some 4,.mov (.cst (.nils 1)),none⟩,
 ⟨some 5,.mov (.cst (.d (.int .i64 7))),none⟩])
 .ret)
 .skip))
 (.reg [2,3] [⟨some 23,.mov (.tmp 6),none⟩,
 ⟨some 24,.mov (.tmp 7),none⟩,
 ⟨some 25,.bsl 2 3 1 1 [(.int .i64 0)] [(0,(.tmp 24))],none⟩,
 ⟨some 26,.app 3 3 1 8 (.tmp 23) (.tmp 25),none⟩,
 ⟨some 6,.mov (.tmp 26),none⟩]))))))))))))
 (.seq
 (.reg [] [⟨some 27,.mov (.tmp 6),none⟩,
 ⟨some 4,.mov (.tmp 27),none⟩,
 ⟨some 5,.mov (.cst (.d (.int .i64 0))),none⟩])
 .ret))))⟩
def ir127:AFun:=⟨25,1,[.tmp 4,.tmp 5],
 (.seq
 (.reg [0] [⟨some 2,.cbx 0 3 (.tmp 0),none⟩,
 ⟨some 4,.mov (.cst (.nils 1)),none⟩,
 ⟨some 5,.mov (.cst (.d (.bool false))),none⟩])
 (.seq
 (.reg [] [⟨some 8,.fad 2 (.tmp 2),none⟩,
 ⟨some 9,.ld false 1 (.tmp 8),none⟩,
 ⟨some 10,.call 105 [(.tmp 9),(.cst (.d (.fn (.func 106) [])))],none⟩,
 ⟨some 6,.mov (.tmp 10),none⟩])
 (.seq
 (.reg [] [⟨some 11,.mov (.tmp 6),none⟩,
 ⟨some 12,.mov (.tmp 1),none⟩,
 ⟨some 13,.call 108 [(.tmp 11),(.tmp 12)],none⟩,
 ⟨some 14,.call 107 [(.tmp 13)],none⟩,
 ⟨some 7,.mov (.tmp 14),none⟩])
 (.seq
 (.regd [] [⟨some 15,.mov (.tmp 7),none⟩,
 ⟨some 16,.mov (.tmp 7),none⟩,
 ⟨some 17,.mov (.tmp 7),none⟩,
 ⟨some 18,.len (.tmp 17),none⟩,
 ⟨some 19,.arith .sub .i64 (.tmp 18) (.cst (.d (.int .i64 1))),none⟩,
 ⟨some 20,.ixa 1 (.tmp 16) (.tmp 19),none⟩,
 ⟨some 21,.ld false 1 (.tmp 20),none⟩,
 ⟨some 22,.fad 0 (.tmp 2),none⟩,
 ⟨some 23,.ld false 1 (.tmp 22),none⟩,
 ⟨some 24,.cmp .eql (.tmp 21) (.tmp 23),none⟩,
 ⟨some 4,.mov (.tmp 15),none⟩,
 ⟨some 5,.mov (.tmp 24),none⟩] [(0,1),(0,2),(1,2),(0,3),(1,3),(0,4),(1,4),(0,5),(0,6),(0,7),(1,7),(2,7),(3,7),(4,7),(5,7),(6,7),(0,8),(1,8),(2,8),(3,8),(4,8),(5,8),(6,8),(0,9),(1,10),(2,10),(3,10),(4,10),(5,10),(6,10),(7,10),(8,10),(9,10)])
 .ret))))⟩
def ir63:AFun:=⟨31,3,[.tmp 6,.tmp 7],
 (.seq
 (.reg [0,1] [⟨some 3,.cbx 0 2 (.tmp 0),none⟩,
 ⟨some 4,.cbx 1 3 (.tmp 1),none⟩,
 ⟨some 6,.mov (.cst (.nils 1)),none⟩,
 ⟨some 7,.mov (.cst (.d (.int .i64 0))),none⟩])
 (.seq
 (.seq
 (.regd [2] [⟨some 11,.ld true 2 (.tmp 3),none⟩,
 ⟨some 12,.ld true 3 (.tmp 4),none⟩,
 ⟨some 13,.call 52 [(.tmp 11),(.tmp 12)],none⟩,
 ⟨some 14,.ld true 2 (.tmp 3),none⟩,
 ⟨some 15,.mov (.tmp 2),none⟩,
 ⟨some 16,.call 33 [(.tmp 14),(.tmp 15)],none⟩,
 ⟨some 17,.bsl 2 33 1 2 [(.int .i64 0),(.int .i64 0)] [(0,(.tmp 13)),(1,(.tmp 16))],none⟩,
 ⟨some 18,.call 31 [(.tmp 17)],none⟩,
 ⟨some 8,.mov (.tmp 18),none⟩] [(0,1),(0,3),(1,3),(2,3),(0,4),(1,4),(2,4),(3,4)])
 (.seq
 (.reg [] [⟨some 19,.mov (.tmp 8),none⟩,
 ⟨some 20,.cmp .neq (.tmp 19) (.cst (.d (.int .i64 0))),none⟩])
 (.cond (.tmp 20)
 (.seq
 (.reg [] [⟨some 21,.mov (.tmp 8),none⟩,
 ⟨some 6,.mov (.cst (.nils 1)),none⟩,
 ⟨some 7,.mov (.tmp 21),none⟩])
 .ret)
 .skip)))
 (.seq
 (.reg [] [⟨some 23,.ld true 3 (.tmp 4),none⟩,
 ⟨some 24,.mov (.tmp 2),none⟩,
 ⟨some 25,.call 68 [(.tmp 23),(.tmp 24)],none⟩,
 ⟨some 22,.mov (.tmp 25),none⟩,
 ⟨some 26,.ext 0 (.tmp 22),none⟩,
 ⟨some 27,.ext 1 (.tmp 22),none⟩,
 ⟨some 9,.mov (.tmp 26),none⟩,
 ⟨some 10,.mov (.tmp 27),none⟩])
 (.seq
 (.seq
 (.reg [] [⟨some 28,.mov (.tmp 10),none⟩,
 ⟨some 29,.not (.tmp 28),none⟩])
 (.cond (.tmp 29)
 (.seq
 (.reg [] [⟨some 6,.mov (.cst (.nils 1)),none⟩,
 ⟨some 7,.mov (.cst (.d (.int .i64 7))),none⟩])
 .ret)
 .skip))
 (.seq
 (.reg [] [⟨some 30,.mov (.tmp 9),none⟩,
 ⟨some 6,.mov (.tmp 30),none⟩,
 ⟨some 7,.mov (.cst (.d (.int .i64 0))),none⟩])
 .ret)))))⟩
def ir64:AFun:=⟨36,4,[.tmp 4,.tmp 5],
 (.seq
 (.reg [0,1] [⟨some 2,.cbx 0 2 (.tmp 0),none⟩,
 ⟨some 3,.cbx 1 3 (.tmp 1),none⟩,
 ⟨some 4,.mov (.cst (.nils 1)),none⟩,
 ⟨some 5,.mov (.cst (.d (.int .i64 0))),none⟩])
 (.seq
 (.seq
 (.reg [] [⟨some 11,.ld true 2 (.tmp 2),none⟩,
 ⟨some 12,.ld true 3 (.tmp 3),none⟩,
 ⟨some 13,.call 52 [(.tmp 11),(.tmp 12)],none⟩,
 ⟨some 6,.mov (.tmp 13),none⟩])
 (.seq
 (.reg [] [⟨some 14,.mov (.tmp 6),none⟩,
 ⟨some 15,.cmp .neq (.tmp 14) (.cst (.d (.int .i64 0))),none⟩])
 (.cond (.tmp 15)
 (.seq
 (.reg [] [⟨some 16,.mov (.tmp 6),none⟩,
 ⟨some 4,.mov (.cst (.nils 1)),none⟩,
 ⟨some 5,.mov (.tmp 16),none⟩])
 .ret)
 .skip)))
 (.seq
 (.reg [] [⟨some 7,.mov (.cst (.nils 1)),none⟩])
 (.seq
 (.seq
 (.reg [] [⟨some 17,.fad 2 (.tmp 3),none⟩,
 ⟨some 18,.ld false 1 (.tmp 17),none⟩,
 ⟨some 19,.len (.tmp 18),none⟩,
 ⟨some 20,.mov (.cst (.d (.int .i64 0))),none⟩])
 (.post [7] [0,1,2,3]
 (.block 0
 (.asrow 3 3 1 7
 (.keep [3,7,19,20] [0,1]
 (.loop
 (.post [3,7,19,20] [2,3]
 (.seq
 (.reg [] [⟨some 21,.cmp .lss (.tmp 20) (.tmp 19),none⟩])
 (.seq
 (.cond (.tmp 21)
 .skip
 (.exit 0))
 (.seq
 (.block 1
 (.seq
 (.reg [] [⟨some 22,.mov (.tmp 20),none⟩,
 ⟨some 8,.mov (.tmp 22),none⟩])
 (.seq
 (.reg [] [⟨some 24,.ld true 3 (.tmp 3),none⟩,
 ⟨some 25,.mov (.tmp 8),none⟩,
 ⟨some 26,.call 68 [(.tmp 24),(.tmp 25)],none⟩,
 ⟨some 23,.mov (.tmp 26),none⟩,
 ⟨some 27,.ext 0 (.tmp 23),none⟩,
 ⟨some 28,.ext 1 (.tmp 23),none⟩,
 ⟨some 9,.mov (.tmp 27),none⟩,
 ⟨some 10,.mov (.tmp 28),none⟩])
 (.seq
 (.reg [] [⟨some 29,.mov (.tmp 10),none⟩])
 (.cond (.tmp 29)
 (.reg [2,3] [⟨some 30,.mov (.tmp 7),none⟩,
 ⟨some 31,.mov (.tmp 8),none⟩,
 ⟨some 32,.bsl 2 3 1 1 [(.int .i64 0)] [(0,(.tmp 31))],none⟩,
 ⟨some 33,.app 3 3 1 8 (.tmp 30) (.tmp 32),none⟩,
 ⟨some 7,.mov (.tmp 33),none⟩])
 .skip)))))
 (.reg [] [⟨some 34,.arith .add .i64 (.tmp 20) (.cst (.d (.int .i64 1))),none⟩,
 ⟨some 20,.mov (.tmp 34),none⟩])))))))))))
 (.seq
 (.reg [] [⟨some 35,.mov (.tmp 7),none⟩,
 ⟨some 4,.mov (.tmp 35),none⟩,
 ⟨some 5,.mov (.cst (.d (.int .i64 0))),none⟩])
 .ret)))))⟩
theorem c152 (x:En):CallDet Tryz.prog 106 [.d (.agg [.int .i64 x.nu,.int .i64 x.di,.int .i64 x.ne])] [.int .i64 x.ne]:=by
 refine call_of_vc (x:=ir152) (by kernel_rfl) rfl ?_
 exact rfl
def nes (l:List En):List Int:=l.map En.ne
theorem nes_len (l:List En):(nes l).length=l.length:=List.length_map _
theorem c151 (l:List En) (hl:l.length≤1048576):CallDet Tryz.prog 105 [.d (.slice 3 (ens l)),.d (.fn (.func 106) [])] [.slice 1 (ints (nes l))]:=by
 have hel:=ens_len l
 refine call_of_vc (x:=ir151) (by kernel_rfl) rfl ?_
 rotate_left
 refine loop_u (fun k:Nat=>[(5,.sl 2 (ints (nes (l.take k))).length),(10,.d (.int .i64 k))]) (fun k=>[(2,.row 3 1 (ints (nes (l.take k))) false)]) (fun k=>k≤l.length) (fun k=>l.length - k) 0 rfl (Nat.zero_le _) ?_
 intro k hk
 have hk:k≤l.length:=hk
 have h1:(ints (nes (l.take k))).length=k:=by rw [ints_len,nes_len,List.length_take]; omega
 by_cases hkk:k < l.length
 ·refine Exists.elim (get_lt l hkk) fun x hx=>?_
  have hxd:=ens_at hx
  refine sd ?_
  refine b_lt (fun t1=>?_) (fun t1=>?_)
  refine ix_at hxd ?_ ?_
  (show (0:Int)≤(↑k:Int); omega)
  refine ca (c152 x) ?_
  refine sd ?_
  refine sd ?_
  refine sd ?_
  refine an ?_ ?_
  refine an ?_ ?_
  exact rfl
  refine an ?_ ?_
  exact rfl
  refine an ?_ ?_
  exact rfl
  refine an ?_ ?_
  (show (List.length (ints (nes (List.take k l)))+(1:Nat)) * (8:Nat)≤(2:Nat) ^ (47:Nat); omega)
  (show List.length (ints (nes (List.take k l)))+(1:Nat)≤(2:Nat) ^ (47:Nat); omega)
  refine ar_add ?_ ?_
  refine an ?_ ?_
  (show (-9223372036854775808:Int)≤(↑k:Int)+(1:Int); omega)
  (show (↑k:Int)+(1:Int)≤(9223372036854775807:Int); omega)
  rotate_left
  (exfalso; omega)
  refine ⟨k+1,⟨hkk,by show l.length - (k+1) < l.length - k; omega⟩,?_⟩
  rw [take_one hx,show nes (l.take k++[x])=nes (l.take k)++[x.ne] by unfold nes; rw [List.map_append]; rfl,ints_app1]; rfl
 ·have e:l.take k=l:=List.take_of_length_le (by omega)
  rw [e] at h1 ⊢
  have h2:(ints (nes l)).length=l.length:=by rw [ints_len,nes_len]
  refine sd ?_
  refine b_lt (fun t1=>?_) (fun t1=>?_)
  (exfalso; omega)
  refine sd ?_
  exact rfl
def capA (a0:Int) (ne:List Int):List Data:=[.agg [.int .i64 a0],.agg [.slice 1 (ints ne)]]
theorem c154 (ne:List Int) (a0:Int):CallDet Tryz.prog 108 [.d (.slice 1 (ints ne)),.d (.int .i64 a0)] [.fn (.func 128) (capA a0 ne)]:=by
 refine call_of_vc (x:=ir154) (by kernel_rfl) rfl ?_
 exact rfl
def xa164:ACode:=(.reg [] [⟨some 5,.mov (.tmp 7),none⟩])
def xb164 : ACode := (.post [] [2, 3]
    (.block 1
     (.reg [2,3] [⟨some 8,.ld false 1 (.tmp 2),none⟩,
      ⟨some 9,.mov (.tmp 5),none⟩,
      ⟨some 10,.bsl 2 3 1 1 [(.int .i64 0)] [(0,(.tmp 9))],none⟩,
      ⟨some 11,.app 3 3 1 8 (.tmp 8) (.tmp 10),none⟩,
      ⟨none,.st 1 (.tmp 2) (.tmp 11),none⟩])))
noncomputable def lp164 (a0:Int) (ne:List Int):AObj:=.lp .ready none 13 [(2,.ptr 0 0),(6,.d (.fn (.func 128) (capA a0 ne)))] [7] xa164 xb164 (ckP Tryz.prog 13 xa164 xb164)
def boxv (acc:List Data):AVal:=match acc with | []=>.nils 1 | _::_=>.sl 3 acc.length
def row3 (acc:List Data):AObj:=match acc with | []=>.none | _::_=>.row 3 1 acc false
noncomputable def heap164 (a0:Int) (ne:List Int) (acc:List Data):List AObj:=[.box [boxv acc],lp164 a0 ne,.none,row3 acc]
theorem yield164 (a0 : Int) (ne : List Int) (n : Int) (acc : List Data) (hl : acc.length ≤ 1048576) :
  YieldIn Tryz.prog 1 [.d (.int .i64 n)] (heap164 a0 ne acc) (.d (.bool true)) (heap164 a0 ne (acc++[.int .i64 n])):=by
 cases acc with
 | nil =>
  refine yieldIn_of_vc (m:=13) (ps:=[7]) (xa:=xa164) (xb:=xb164) (sl:=[(2,.ptr 0 0),(6,.d (.fn (.func 128) (capA a0 ne)))]) rfl rfl rfl rfl rfl rfl ?_
  repeat refine sd ?_
  refine And.intro ⟨by show 1 * 8≤2 ^ 47; decide,by show 1≤2 ^ 47; decide⟩ ?_
  repeat refine sd ?_
  exact rfl
 | cons y r =>
  refine yieldIn_of_vc (m:=13) (ps:=[7]) (xa:=xa164) (xb:=xb164) (sl:=[(2,.ptr 0 0),(6,.d (.fn (.func 128) (capA a0 ne)))]) rfl rfl rfl rfl rfl rfl ?_
  repeat refine sd ?_
  refine And.intro ⟨rfl,rfl,rfl,?_,?_⟩ ?_
  ·show ((y::r).length+1) * 8≤2 ^ 47
   omega
  ·show (y::r).length+1≤2 ^ 47
   omega
  repeat refine sd ?_
  exact rfl
def wayN (ne:List Int):Nat→Int→List Int
 | 0,_=>[]
 | f+1,a=>if a < 0 then [] else if at0 ne a.toNat < 0∨at0 ne a.toNat=a then [a] else a::wayN ne f (at0 ne a.toNat)
theorem wayN_stop {ne:List Int} {f:Nat} {a:Int} (h0:0≤a) (h:at0 ne a.toNat < 0∨at0 ne a.toNat=a):wayN ne (f+1) a=[a]:=by
 rw [wayN,if_neg (by omega),if_pos h]
theorem wayN_go {ne:List Int} {f:Nat} {a:Int} (h0:0≤a) (h:¬ at0 ne a.toNat < 0) (h2:¬ at0 ne a.toNat=a):wayN ne (f+1) a=a::wayN ne f (at0 ne a.toNat):=by
 rw [wayN,if_neg (by omega),if_neg (by omega)]
theorem wayN_len (ne:List Int):∀ (f:Nat) (a:Int),(wayN ne f a).length≤f
 | 0,_=>Nat.le_refl _
 | f+1,a=>by
  rw [wayN]
  split
  ·exact Nat.zero_le _
  ·split
   ·show 1≤f+1; omega
   ·have:=wayN_len ne f (at0 ne a.toNat)
    show (wayN ne f (at0 ne a.toNat)).length+1≤f+1; omega
theorem c165 (ne:List Int) (a0:Int) (h0:0≤a0) (h1:a0 < (ne.length:Int)) (hl:ne.length≤32) (hb:∀ i:Nat,i < ne.length→at0 ne i < (ne.length:Int)):CallIn Tryz.prog 128 [.yld 1,.cp [.int .i64 a0] 0,.cp [.slice 1 (ints ne)] 0] (heap164 a0 ne []) (.tup []) (heap164 a0 ne (ints (wayN ne ne.length a0))):=by
 have hil:=ints_len ne
 refine callIn_of_vc (P:=Tryz.prog) (x:=ir165) 4 (by kernel_rfl) rfl rfl rfl ?_
 rotate_left
 refine loop_u (fun a:Nat × Int × List Data=>[(4,.d (.int .i64 a.2.1)),(8,.d (.int .i64 a.1))]) (fun a=>[(0,.box [boxv a.2.2]),(3,row3 a.2.2)]) (fun a=>(a.1≤ne.length∧a.2.2.length=a.1)∧((0≤a.2.1∧a.2.1 < (ne.length:Int))∧a.2.2++ints (wayN ne (ne.length - a.1) a.2.1)=ints (wayN ne ne.length a0))) (fun a=>ne.length - a.1) (0,a0,[]) rfl ⟨⟨Nat.zero_le _,rfl⟩,⟨h0,h1⟩,rfl⟩ ?_
 rintro ⟨k,a,acc⟩ ⟨⟨hk,hal⟩,⟨ha0,ha1⟩,hacc⟩
 have hk:k≤ne.length:=hk
 have hal:acc.length=k:=hal
 have ha0:0≤a:=ha0
 have ha1:a < (ne.length:Int):=ha1
 have hacc:acc++ints (wayN ne (ne.length - k) a)=ints (wayN ne ne.length a0):=hacc
 have hba:=hb a.toNat (by omega)
 have stop:k < ne.length→(at0 ne a.toNat < 0∨at0 ne a.toNat=a)→acc++[.int .i64 a]=ints (wayN ne ne.length a0):=fun h h2=>by
  rw [← hacc,show ne.length - k=(ne.length - (k+1))+1 by omega,wayN_stop ha0 h2]; rfl
 have nxt:k < ne.length→¬ at0 ne a.toNat < 0→¬ at0 ne a.toNat=a→(acc++[.int .i64 a])++ints (wayN ne (ne.length - (k+1)) (at0 ne a.toNat))=ints (wayN ne ne.length a0):=fun h h2 h3=>by
  rw [← hacc,show ne.length - k=(ne.length - (k+1))+1 by omega,wayN_go ha0 h2 h3,List.append_assoc]; rfl
 have ending:k=ne.length→acc=ints (wayN ne ne.length a0):=fun h=>by
  rw [← hacc,h,Nat.sub_self]; exact (List.append_nil _).symm
 cases acc with
 | nil =>
  by_cases hkk:k < (ints ne).length
  ·have hx:(ints ne)[a.toNat]?=some (.int .i64 (at0 ne a.toNat)):=ints_at0 (by omega)
   refine sd ?_
   refine b_lt (fun t1=>?_) (fun t1=>?_)
   replace t1:(↑k:Int) < (↑(List.length (ints ne)):Int):=t1
   rotate_left
   replace t1:¬(↑k:Int) < (↑(List.length (ints ne)):Int):=t1
   (exfalso; omega)
   refine Exists.intro (.d (.bool true)) (Exists.intro [(0,.box [boxv (([]:List Data)++[Data.int .i64 a])]),(3,row3 (([]:List Data)++[Data.int .i64 a]))] (And.intro (yield164 a0 ne a ([]) (by decide)) ?_))
   refine ix_at hx ?_ ?_
   assumption
   refine sd ?_
   refine b_lt (fun u1=>?_) (fun u1=>?_)
   refine sd ?_
   refine sd ?_
   rotate_left
   refine ix_at hx ?_ ?_
   assumption
   refine sd ?_
   refine b_eq (fun u2=>?_) (fun u2=>?_)
   replace u2:at0 ne (Int.toNat a)=Prod.fst (a,[]):=u2
   refine sd ?_
   rotate_left
   replace u2:¬at0 ne (Int.toNat a)=Prod.fst (a,[]):=u2
   refine ix_at hx ?_ ?_
   assumption
   refine ar_add ?_ ?_
   refine an ?_ ?_
   (show (-9223372036854775808:Int)≤(↑k:Int)+(1:Int); omega)
   (show (↑k:Int)+(1:Int)≤(9223372036854775807:Int); omega)
   rotate_left
   ·exact congrArg (heap164 a0 ne) (stop (by omega) (.inl u1))
   ·exact congrArg (heap164 a0 ne) (stop (by omega) (.inr u2))
   ·have u2:¬ at0 ne a.toNat=a:=u2
    exact ⟨(k+1,at0 ne a.toNat,([]:List Data)++[Data.int .i64 a]),⟨⟨⟨by show k+1≤ne.length; omega,by rw [List.length_append,hal]; rfl⟩,⟨by show 0≤at0 ne a.toNat; omega,hba⟩,nxt (by omega) u1 u2⟩,by show ne.length - (k+1) < ne.length - k; omega⟩,rfl⟩
  ·have ek:k=ne.length:=by omega
   refine sd ?_
   refine b_lt (fun t1=>?_) (fun t1=>?_)
   replace t1:(↑k:Int) < (↑(List.length (ints ne)):Int):=t1
   (exfalso; omega)
   replace t1:¬(↑k:Int) < (↑(List.length (ints ne)):Int):=t1
   refine sd ?_
   rotate_left
   exact congrArg (heap164 a0 ne) (ending ek)
 | cons y r =>
  by_cases hkk:k < (ints ne).length
  ·have hx:(ints ne)[a.toNat]?=some (.int .i64 (at0 ne a.toNat)):=ints_at0 (by omega)
   refine sd ?_
   refine b_lt (fun t1=>?_) (fun t1=>?_)
   replace t1:(↑k:Int) < (↑(List.length (ints ne)):Int):=t1
   rotate_left
   replace t1:¬(↑k:Int) < (↑(List.length (ints ne)):Int):=t1
   (exfalso; omega)
   refine Exists.intro (.d (.bool true)) (Exists.intro [(0,.box [boxv ((y::r:List Data)++[Data.int .i64 a])]),(3,row3 ((y::r:List Data)++[Data.int .i64 a]))] (And.intro (yield164 a0 ne a (y::r) (by omega)) ?_))
   refine ix_at hx ?_ ?_
   assumption
   refine sd ?_
   refine b_lt (fun u1=>?_) (fun u1=>?_)
   refine sd ?_
   refine sd ?_
   rotate_left
   refine ix_at hx ?_ ?_
   assumption
   refine sd ?_
   refine b_eq (fun u2=>?_) (fun u2=>?_)
   replace u2:at0 ne (Int.toNat a)=Prod.fst (a,y::r):=u2
   refine sd ?_
   rotate_left
   replace u2:¬at0 ne (Int.toNat a)=Prod.fst (a,y::r):=u2
   refine ix_at hx ?_ ?_
   assumption
   refine ar_add ?_ ?_
   refine an ?_ ?_
   (show (-9223372036854775808:Int)≤(↑k:Int)+(1:Int); omega)
   (show (↑k:Int)+(1:Int)≤(9223372036854775807:Int); omega)
   rotate_left
   ·exact congrArg (heap164 a0 ne) (stop (by omega) (.inl u1))
   ·exact congrArg (heap164 a0 ne) (stop (by omega) (.inr u2))
   ·have u2:¬ at0 ne a.toNat=a:=u2
    exact ⟨(k+1,at0 ne a.toNat,(y::r:List Data)++[Data.int .i64 a]),⟨⟨⟨by show k+1≤ne.length; omega,by rw [List.length_append,hal]; rfl⟩,⟨by show 0≤at0 ne a.toNat; omega,hba⟩,nxt (by omega) u1 u2⟩,by show ne.length - (k+1) < ne.length - k; omega⟩,rfl⟩
  ·have ek:k=ne.length:=by omega
   refine sd ?_
   refine b_lt (fun t1=>?_) (fun t1=>?_)
   replace t1:(↑k:Int) < (↑(List.length (ints ne)):Int):=t1
   (exfalso; omega)
   replace t1:¬(↑k:Int) < (↑(List.length (ints ne)):Int):=t1
   refine sd ?_
   rotate_left
   exact congrArg (heap164 a0 ne) (ending ek)
theorem c153 (ne:List Int) (a0:Int) (h0:0≤a0) (h1:a0 < (ne.length:Int)) (hl:ne.length≤32) (hb:∀ i:Nat,i < ne.length→at0 ne i < (ne.length:Int)):CallDet Tryz.prog 107 [.d (.fn (.func 128) (capA a0 ne))] [.slice 1 (ints (wayN ne ne.length a0))]:=by
 have hc:=c165 ne a0 h0 h1 hl hb
 refine call_of_vc (x:=ir153) (by kernel_rfl) rfl ?_
 refine Or.elim (show ints (wayN ne ne.length a0)=[]∨∃ y r,ints (wayN ne ne.length a0)=y::r by cases ints (wayN ne ne.length a0) with | nil=>exact .inl rfl | cons y r=>exact .inr ⟨y,r,rfl⟩) (fun hN=>?_) (fun hN=>Exists.elim hN fun y hN=>Exists.elim hN fun r hN=>?_)
 ·rw [hN] at hc ⊢
  refine Exists.intro (.nils 1) (Exists.intro [(0,.box [.nils 1])] (And.intro ?_ ?_))
  ·refine callIn_of_vc (P:=Tryz.prog) (x:=ir164) 0 (by kernel_rfl) rfl rfl rfl ?_
   refine Exists.intro (.tup []) (Exists.intro (heap164 a0 ne []) (And.intro hc ?_))
   refine And.intro (by intro h; cases h) ?_
   exact ⟨rfl,rfl⟩
  ·exact rfl
 ·rw [hN] at hc ⊢
  refine Exists.intro (.sl 3 (y::r).length) (Exists.intro [(0,.box [.sl 3 (y::r).length]),(3,.row 3 1 (y::r) false)] (And.intro ?_ ?_))
  ·refine callIn_of_vc (P:=Tryz.prog) (x:=ir164) 0 (by kernel_rfl) rfl rfl rfl ?_
   refine Exists.intro (.tup []) (Exists.intro (heap164 a0 ne (y::r)) (And.intro hc ?_))
   refine And.intro (by intro h; cases h) ?_
   exact ⟨rfl,rfl⟩
  ·repeat refine sd ?_
   exact rfl
theorem wayN_last (ne:List Int):∀ (f:Nat) (a:Int),0≤a→∃ x,(wayN ne (f+1) a).getLast?=some x
 | 0,a,h=>by
  rw [wayN,if_neg (by omega)]
  split
  ·exact ⟨a,rfl⟩
  ·exact ⟨a,rfl⟩
 | f+1,a,h=>by
  rw [wayN,if_neg (by omega)]
  split
  ·exact ⟨a,rfl⟩
  ·rename_i hn
   obtain ⟨x,hx⟩:=wayN_last ne f (at0 ne a.toNat) (by omega)
   refine ⟨x,?_⟩
   rw [List.getLast?_cons,hx]; rfl
def wayB (ne:List Int) (co a:Int):Bool:=match (wayN ne ne.length a).getLast? with
 | some x=>x==co
 | none=>false
theorem c127 (s:Sts) (a:Int) (h0:0≤a) (h1:a < (s.es.length:Int)) (hl:s.es.length≤32) (hb:∀ i:Nat,i < s.es.length→(s.at i).ne < (s.es.length:Int)):CallDet Tryz.prog 68 [.d s.d,.d (.int .i64 a)] [.slice 1 (ints (wayN (nes s.es) (nes s.es).length a)),.bool (wayB (nes s.es) s.co a)]:=by
 have hnl:=nes_len s.es
 have hbn:∀ i:Nat,i < (nes s.es).length→at0 (nes s.es) i < ((nes s.es).length:Int):=fun i hi=>by
  have h:=hb i (by omega)
  have e:at0 (nes s.es) i=(s.at i).ne:=by
   unfold at0 nes
   rw [List.getElem?_map,Sts.at_get (by omega)]; rfl
  omega
 have hwl:=wayN_len (nes s.es) (nes s.es).length a
 refine Exists.elim (wayN_last (nes s.es) ((nes s.es).length - 1) a h0) fun x hx=>?_
 rw [show (nes s.es).length - 1+1=(nes s.es).length by omega] at hx
 have hwb:wayB (nes s.es) s.co a=(x==s.co):=by unfold wayB; rw [hx]
 rw [hwb]
 have hil:=ints_len (wayN (nes s.es) (nes s.es).length a)
 have hpos:0 < (wayN (nes s.es) (nes s.es).length a).length:=by
  cases hw:wayN (nes s.es) (nes s.es).length a with
  | nil=>rw [hw] at hx; cases hx
  | cons y r=>exact Nat.succ_pos _
 have hxd:(ints (wayN (nes s.es) (nes s.es).length a))[(((ints (wayN (nes s.es) (nes s.es).length a)).length:Int) - 1).toNat]?=some (.int .i64 x):=by
  rw [hil,show (((wayN (nes s.es) (nes s.es).length a).length:Int) - 1).toNat=(wayN (nes s.es) (nes s.es).length a).length - 1 by omega]
  rw [List.getLast?_eq_getElem?] at hx
  have h:=ints_get hx
  rwa [show ((((wayN (nes s.es) (nes s.es).length a).length - 1:Nat):Int)).toNat=(wayN (nes s.es) (nes s.es).length a).length - 1 from rfl] at h
 refine call_of_vc (x:=ir127) (by kernel_rfl) rfl ?_
 refine ca (c151 s.es (by omega)) ?_
 refine ca (c154 _ _) ?_
 refine ca (c153 (nes s.es) a h0 (by omega) (by omega) hbn) ?_
 refine ar_sub ?_ ?_
 refine an ?_ ?_
 (show (-9223372036854775808:Int)≤(↑(List.length (ints (wayN (nes (Sts.es s)) (List.length (nes (Sts.es s))) a))):Int) - (1:Int); omega)
 (show (↑(List.length (ints (wayN (nes (Sts.es s)) (List.length (nes (Sts.es s))) a))):Int) - (1:Int)≤(9223372036854775807:Int); omega)
 refine ix_at hxd ?_ ?_
 (show (0:Int)≤(↑(List.length (ints (wayN (nes (Sts.es s)) (List.length (nes (Sts.es s))) a))):Int) - (1:Int); omega)
 refine sd ?_
 exact rfl
end Vc
set_option maxRecDepth 10000
set_option maxHeartbeats 4000000
namespace Vc
open Go Go.Proofs
def rkS (n:Nat) (s:Sts) (a:Int):Nat:=cnt n (fun u=>(s.at u).betB (s.at a))
theorem betB_self (x:En):x.betB x=false:=by
 cases h:x.betB x
 ·rfl
 ·have:=betB_iff.1 h
  unfold En.bet at this; omega
theorem Good.betw_self {m:Ms} {s:Sts} (g:Good m s) (a:Int):betw m.ls a a=0:=by
 rcases Classical.em (0 < betw m.ls a a) with h | h
 ·obtain ⟨l,hl,_,h1,h2⟩:=betw_mem h
  have:=((chk_fine g.chk).link hl).1.2.2
  omega
 ·have:=(chk_fine g.chk).rng a a; omega
theorem Good.nxt {m:Ms} {s:Sts} (g:Good m s) {a:Int} (h0:0≤a) (h1:a < (m.ns.length:Int)) (hc:a≠s.co) (hn:(s.at a).ne≠-1):0≤(s.at a).ne∧(s.at a).ne < (m.ns.length:Int)∧(s.at a).ne≠a∧0 < betw m.ls a (s.at a).ne∧(s.at (s.at a).ne).bet (s.at a):=by
 have r:=g.rng a h0 h1
 have hl:=g.lnk a h0 h1 hc hn
 have hr:=(chk_fine g.chk).rng a (s.at a).ne
 refine ⟨by omega,r.2.2.2,fun e=>?_,by omega,?_⟩
 ·rw [e] at hl; exact hl (g.betw_self a)
 ·have:=g.lead a h0 h1 hc hn
  unfold En.bet; omega
theorem Good.rk_lt {m:Ms} {s:Sts} (g:Good m s) {a:Int} (h0:0≤a) (h1:a < (m.ns.length:Int)) (hc:a≠s.co) (hn:(s.at a).ne≠-1):rkS m.ns.length s (s.at a).ne < rkS m.ns.length s a:=by
 have k:=g.nxt h0 h1 hc hn
 refine cnt_lt (j:=(s.at a).ne.toNat) (fun i _ hi=>?_) (by omega) ?_ ?_
 ·have h:=betB_iff.1 hi
  refine betB_iff.2 ?_
  have h2:=k.2.2.2.2
  unfold En.bet at h h2 ⊢
  omega
 ·show (s.at (((s.at a).ne.toNat:Nat):Int)).betB _=false
  rw [show (((s.at a).ne.toNat:Nat):Int)=(s.at a).ne by omega]; exact betB_self _
 ·show (s.at (((s.at a).ne.toNat:Nat):Int)).betB _=true
  rw [show (((s.at a).ne.toNat:Nat):Int)=(s.at a).ne by omega]; exact betB_iff.2 k.2.2.2.2
theorem rkS_lt {n:Nat} (s:Sts) {a:Int} (h0:0≤a) (h1:a < (n:Int)):rkS n s a < n:=by
 have h:=cnt_lt (n:=n) (p:=fun u=>(s.at u).betB (s.at a)) (q:=fun _=>true) (j:=a.toNat) (fun _ _ _=>rfl) (by omega) (by show (s.at ((a.toNat:Nat):Int)).betB _=false; rw [show ((a.toNat:Nat):Int)=a by omega]; exact betB_self _) rfl
 rw [cnt_all] at h; exact h
theorem nes_at {s:Sts} {a:Int} (h0:0≤a) (h1:a < (s.es.length:Int)):at0 (nes s.es) a.toNat=(s.at a).ne:=by
 unfold at0 nes
 rw [List.getElem?_map,Sts.at_getI (by omega)]; rfl
def Sts.way (s:Sts) (a:Int):List Int:=wayN (nes s.es) (nes s.es).length a
def Sts.isR (s:Sts) (a:Int):Bool:=wayB (nes s.es) s.co a
def rtE (s:Sts) (a:Int):Int:=bif s.isR a then 0 else 7
def routE (m:Ms) (s:Sts) (a:Int):Int:=bif firstOf [m.chkS s,m.nodeE a] != 0 then firstOf [m.chkS s,m.nodeE a] else rtE s a
theorem c63 (m:Ms) (s:Sts) (a:Int) (hm:m.ns.length≤1048576) (hl2:m.ls.length≤1048576) (hn:s.es.length≤1048576):CallDet Tryz.prog 24 [.d m.d,.d s.d,.d (.int .i64 a)] [.slice 1 (ints (bif routE m s a != 0 then [] else s.way a)),.int .i64 (routE m s a)]:=by
 have bad:∀ v,routE m s a=v→¬ v=0→resV [.slice 1 [],.int .i64 v]=resV [.slice 1 (ints (bif routE m s a != 0 then [] else s.way a)),.int .i64 (routE m s a)]:=fun v e h=>by rw [e,nil_if h]; rfl
 have fin:routE m s a=0→resV [.slice 1 (ints (s.way a)),.int .i64 0]=resV [.slice 1 (ints (bif routE m s a != 0 then [] else s.way a)),.int .i64 (routE m s a)]:=fun h=>by rw [h]; rfl
 refine call_of_vc (x:=ir63) (by kernel_rfl) rfl ?_
 by_cases hz:firstOf [m.chkS s,m.nodeE a]=0
 ·have g:=good_of (firstOf_zero hz (m.chkS s) (by simp))
  have hle:=g.len
  have h32:=(chk_fine g.chk).n32
  have ha:=node_in (firstOf_zero hz (m.nodeE a) (by simp))
  have hbb:∀ i:Nat,i < s.es.length→(s.at i).ne < (s.es.length:Int):=fun i hi=>by have:=(g.rng i (by omega) (by omega)).2.2.2; omega
  have c127_k:CallDet Tryz.prog 68 [.d s.d,.d (.int .i64 a)] [.slice 1 (ints (s.way a)),.bool (s.isR a)]:=c127 s a ha.1 (by omega) (by omega) hbb
  refine ca (c37 m s hm hl2 hn) ?_
  refine ca (c87 m _) ?_
  refine sd ?_
  refine sd ?_
  refine ca (c86 [Ms.chkS m s,Ms.nodeE m a] (by simp)) ?_
  refine sd ?_
  refine b_ne (fun t1=>?_) (fun t1=>?_)
  (exfalso; omega)
  refine ca c127_k ?_
  refine b_intro (fun t2=>?_) (fun t2=>?_)
  rotate_left
  rotate_left
  ·refine bad _ ?_ (by decide)
   unfold routE rtE; rw [if_0 hz,show s.isR a=false by simpa using t2]; rfl
  ·refine fin ?_
   unfold routE rtE; rw [if_0 hz,show s.isR a=true by simpa using t2]; rfl
 ·refine ca (c37 m s hm hl2 hn) ?_
  refine ca (c87 m _) ?_
  refine sd ?_
  refine sd ?_
  refine ca (c86 [Ms.chkS m s,Ms.nodeE m a] (by simp)) ?_
  refine sd ?_
  refine b_ne (fun t1=>?_) (fun t1=>?_)
  rotate_left
  (exfalso; omega)
  exact bad _ (by unfold routE; exact if_1 hz) hz
end Vc
