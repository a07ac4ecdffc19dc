import Derived.Test.YtcplcokecclehaaG06
import Derived.Test.YtcplcokecclehaaRows
set_option linter.unusedSectionVars false
set_option linter.unusedVariables false
set_option linter.unusedSimpArgs false
set_option maxRecDepth 100000
namespace Vc
open Go Go.Proofs
def tx4:AFun:=⟨41,47,[.tmp 0],
 (.seq
 (.reg [] [⟨some 0,.mov (.cst (.d (.bool false))),none⟩])
 (.seq
 (.reg [0,1] [⟨some 7,.bsl 0 5 1 3 [(.int .u8 0),(.int .u8 0),(.int .u8 0)] [(0,(.cst (.d (.int .u8 0)))),(1,(.cst (.d (.int .u8 5)))),(2,(.cst (.d (.int .u8 2))))],none⟩,
 ⟨some 8,.build [(.d (.int .u8 0)),(.d (.int .u8 0)),(.d (.bool false))] [(0,1,(.cst (.d (.int .u8 1))))],none⟩,
 ⟨some 9,.bsl 1 53 3 1 [(.agg [(.int .u8 0),(.int .u8 0),(.bool false)])] [(0,(.tmp 8))],none⟩,
 ⟨some 10,.call 17 [(.tmp 7),(.cst (.d (.int .i64 5))),(.cst (.d (.int .i64 2))),(.tmp 9)],none⟩,
 ⟨some 6,.mov (.tmp 10),none⟩,
 ⟨some 11,.ext 0 (.tmp 6),none⟩,
 ⟨some 12,.ext 1 (.tmp 6),none⟩,
 ⟨some 1,.mov (.tmp 11),none⟩,
 ⟨some 2,.mov (.tmp 12),none⟩])
 (.seq
 (.reg [2,3,4] [⟨some 14,.bsl 2 3 1 1 [(.int .i64 0)] [(0,(.cst (.d (.int .i64 1))))],none⟩,
 ⟨some 15,.build [(.d (.int .i64 0)),(.nils 1),(.nils 1)] [(0,1,(.cst (.d (.int .i64 4)))),(1,1,(.tmp 14))],none⟩,
 ⟨some 16,.bsl 3 3 1 1 [(.int .i64 0)] [(0,(.cst (.d (.int .i64 2))))],none⟩,
 ⟨some 17,.call 18 [(.tmp 15),(.cst (.d (.int .i64 5))),(.tmp 16)],none⟩,
 ⟨some 13,.mov (.tmp 17),none⟩,
 ⟨some 18,.ext 0 (.tmp 13),none⟩,
 ⟨some 19,.ext 1 (.tmp 13),none⟩,
 ⟨some 20,.ext 2 (.tmp 13),none⟩,
 ⟨some 3,.alloc 4 [(.d (.int .i64 0)),(.nils 1),(.nils 1)],none⟩,
 ⟨none,.st 3 (.tmp 3) (.tmp 18),none⟩,
 ⟨some 4,.mov (.tmp 19),none⟩,
 ⟨some 5,.mov (.tmp 20),none⟩])
 (.seq
 (.reg [5,6] [⟨some 21,.mov (.tmp 2),none⟩,
 ⟨some 22,.mov (.tmp 21),none⟩,
 ⟨some 23,.mov (.tmp 1),some (22,true)⟩,
 ⟨some 24,.bsl 5 5 1 3 [(.int .u8 0),(.int .u8 0),(.int .u8 0)] [(0,(.cst (.d (.int .u8 0)))),(1,(.cst (.d (.int .u8 5)))),(2,(.cst (.d (.int .u8 2))))],some (22,true)⟩,
 ⟨some 25,.call 19 [(.tmp 23),(.tmp 24)],some (22,true)⟩,
 ⟨some 26,.pick (.tmp 22) (.tmp 25) (.cst (.d (.bool false))),none⟩,
 ⟨some 27,.mov (.tmp 26),none⟩,
 ⟨some 28,.mov (.tmp 5),some (27,true)⟩,
 ⟨some 29,.cmp .eql (.tmp 28) (.cst (.d (.int .i64 0))),some (27,true)⟩,
 ⟨some 30,.pick (.tmp 27) (.tmp 29) (.cst (.d (.bool false))),none⟩,
 ⟨some 31,.mov (.tmp 30),none⟩,
 ⟨some 32,.mov (.tmp 4),some (31,true)⟩,
 ⟨some 33,.cmp .eql (.tmp 32) (.cst (.d (.int .i64 5))),some (31,true)⟩,
 ⟨some 34,.pick (.tmp 31) (.tmp 33) (.cst (.d (.bool false))),none⟩,
 ⟨some 35,.mov (.tmp 34),none⟩,
 ⟨some 36,.fad 2 (.tmp 3),some (35,true)⟩,
 ⟨some 37,.ld false 1 (.tmp 36),some (35,true)⟩,
 ⟨some 38,.bsl 6 3 1 1 [(.int .i64 0)] [(0,(.cst (.d (.int .i64 2))))],some (35,true)⟩,
 ⟨some 39,.call 20 [(.tmp 37),(.tmp 38)],some (35,true)⟩,
 ⟨some 40,.pick (.tmp 35) (.tmp 39) (.cst (.d (.bool false))),none⟩,
 ⟨some 0,.mov (.tmp 40),none⟩])
 .ret))))⟩
def tx17:AFun:=⟨111,46,[.tmp 8,.tmp 9],
 (.seq
 (.reg [] [⟨some 8,.mov (.cst (.nils 1)),none⟩,
 ⟨some 9,.mov (.cst (.d (.bool false))),none⟩])
 (.seq
 (.reg [0,1] [⟨some 20,.mov (.tmp 1),none⟩,
 ⟨some 21,.bsl 0 5 1 0 [] [],none⟩,
 ⟨some 22,.mov (.tmp 0),none⟩,
 ⟨some 23,.app 1 5 1 1 (.tmp 21) (.tmp 22),none⟩,
 ⟨some 24,.mov (.tmp 2),none⟩,
 ⟨some 25,.call 42 [(.tmp 20),(.tmp 23),(.tmp 24)],none⟩,
 ⟨some 19,.mov (.tmp 25),none⟩,
 ⟨some 26,.ext 0 (.tmp 19),none⟩,
 ⟨some 27,.ext 1 (.tmp 19),none⟩,
 ⟨some 10,.mov (.tmp 26),none⟩,
 ⟨some 11,.mov (.tmp 27),none⟩])
 (.seq
 (.seq
 (.reg [] [⟨some 28,.mov (.tmp 11),none⟩,
 ⟨some 29,.cmp .neq (.tmp 28) (.cst (.d (.int .i64 0))),none⟩,
 ⟨some 30,.mov (.tmp 29),none⟩,
 ⟨some 31,.mov (.tmp 10),some (30,false)⟩,
 ⟨some 32,.len (.tmp 31),some (30,false)⟩,
 ⟨some 33,.cmp .lss (.tmp 32) (.cst (.d (.int .i64 1))),some (30,false)⟩,
 ⟨some 34,.pick (.tmp 30) (.cst (.d (.bool true))) (.tmp 33),none⟩,
 ⟨some 35,.mov (.tmp 34),none⟩,
 ⟨some 36,.mov (.tmp 10),some (35,false)⟩,
 ⟨some 37,.len (.tmp 36),some (35,false)⟩,
 ⟨some 38,.mov (.tmp 0),some (35,false)⟩,
 ⟨some 39,.len (.tmp 38),some (35,false)⟩,
 ⟨some 40,.arith .add .i64 (.tmp 39) (.cst (.d (.int .i64 1))),some (35,false)⟩,
 ⟨some 41,.cmp .gtr (.tmp 37) (.tmp 40),some (35,false)⟩,
 ⟨some 42,.pick (.tmp 35) (.cst (.d (.bool true))) (.tmp 41),none⟩])
 (.cond (.tmp 42)
 (.seq
 (.reg [] [⟨some 8,.mov (.cst (.nils 1)),none⟩,
 ⟨some 9,.mov (.cst (.d (.bool false))),none⟩])
 .ret)
 .skip))
 (.seq
 (.reg [2,3] [⟨some 44,.mov (.tmp 10),none⟩,
 ⟨some 45,.build [(.nils 4),(.d (.int .i64 0)),(.d (.int .i64 0))] [(0,1,(.tmp 44)),(2,1,(.cst (.d (.int .i64 4))))],none⟩,
 ⟨some 46,.build [(.d (.int .i64 0)),(.nils 4)] [],none⟩,
 ⟨some 47,.mov (.tmp 3),none⟩,
 ⟨some 48,.call 44 [(.tmp 47)],none⟩,
 ⟨some 49,.call 43 [(.tmp 45),(.tmp 46),(.tmp 48)],none⟩,
 ⟨some 43,.mov (.tmp 49),none⟩,
 ⟨some 50,.ext 0 (.tmp 43),none⟩,
 ⟨some 51,.ext 1 (.tmp 43),none⟩,
 ⟨some 52,.ext 2 (.tmp 43),none⟩,
 ⟨some 12,.alloc 2 [(.nils 4),(.d (.int .i64 0)),(.d (.int .i64 0))],none⟩,
 ⟨some 13,.alloc 3 [(.d (.int .i64 0)),(.nils 4)],none⟩,
 ⟨none,.st 3 (.tmp 12) (.tmp 50),none⟩,
 ⟨none,.st 2 (.tmp 13) (.tmp 51),none⟩,
 ⟨some 14,.mov (.tmp 52),none⟩])
 (.seq
 (.seq
 (.reg [] [⟨some 53,.mov (.tmp 14),none⟩,
 ⟨some 54,.cmp .neq (.tmp 53) (.cst (.d (.int .i64 0))),none⟩,
 ⟨some 55,.mov (.tmp 54),none⟩,
 ⟨some 56,.fad 0 (.tmp 13),some (55,false)⟩,
 ⟨some 57,.ld false 1 (.tmp 56),some (55,false)⟩,
 ⟨some 58,.cmp .lss (.tmp 57) (.cst (.d (.int .i64 0))),some (55,false)⟩,
 ⟨some 59,.pick (.tmp 55) (.cst (.d (.bool true))) (.tmp 58),none⟩,
 ⟨some 60,.mov (.tmp 59),none⟩,
 ⟨some 61,.fad 0 (.tmp 13),some (60,false)⟩,
 ⟨some 62,.ld false 1 (.tmp 61),some (60,false)⟩,
 ⟨some 63,.mov (.tmp 10),some (60,false)⟩,
 ⟨some 64,.len (.tmp 63),some (60,false)⟩,
 ⟨some 65,.cmp .gtr (.tmp 62) (.tmp 64),some (60,false)⟩,
 ⟨some 66,.pick (.tmp 60) (.cst (.d (.bool true))) (.tmp 65),none⟩,
 ⟨some 67,.mov (.tmp 66),none⟩,
 ⟨some 68,.fad 1 (.tmp 13),some (67,false)⟩,
 ⟨some 69,.ld false 1 (.tmp 68),some (67,false)⟩,
 ⟨some 70,.len (.tmp 69),some (67,false)⟩,
 ⟨some 71,.fad 0 (.tmp 13),some (67,false)⟩,
 ⟨some 72,.ld false 1 (.tmp 71),some (67,false)⟩,
 ⟨some 73,.cmp .neq (.tmp 70) (.tmp 72),some (67,false)⟩,
 ⟨some 74,.pick (.tmp 67) (.cst (.d (.bool true))) (.tmp 73),none⟩])
 (.cond (.tmp 74)
 (.seq
 (.reg [] [⟨some 8,.mov (.cst (.nils 1)),none⟩,
 ⟨some 9,.mov (.cst (.d (.bool false))),none⟩])
 .ret)
 .skip))
 (.seq
 (.regd [4,5] [⟨some 76,.ld true 3 (.tmp 12),none⟩,
 ⟨some 77,.ld true 2 (.tmp 13),none⟩,
 ⟨some 78,.mov (.tmp 10),none⟩,
 ⟨some 79,.len (.tmp 78),none⟩,
 ⟨some 80,.msl 4 113 3 56 (.agg [(.slice 1 []),(.slice 1 []),(.bool false)]) (.tmp 79),none⟩,
 ⟨some 81,.call 43 [(.tmp 76),(.tmp 77),(.tmp 80)],none⟩,
 ⟨some 75,.mov (.tmp 81),none⟩,
 ⟨some 82,.ext 0 (.tmp 75),none⟩,
 ⟨some 83,.ext 1 (.tmp 75),none⟩,
 ⟨some 84,.ext 2 (.tmp 75),none⟩,
 ⟨some 15,.alloc 5 [(.nils 4),(.d (.int .i64 0)),(.d (.int .i64 0))],none⟩,
 ⟨none,.st 3 (.tmp 15) (.tmp 82),none⟩,
 ⟨none,.st 2 (.tmp 13) (.tmp 83),none⟩,
 ⟨some 16,.mov (.tmp 84),none⟩] [(0,1),(0,2),(1,2),(0,3),(1,3),(0,4),(1,4),(7,8),(7,9),(8,9),(0,10),(1,10),(2,10),(3,10),(4,10),(5,10),(6,10),(7,10),(8,10),(9,10),(8,11),(9,11),(9,12)])
 (.seq
 (.seq
 (.reg [] [⟨some 85,.mov (.tmp 16),none⟩,
 ⟨some 86,.cmp .neq (.tmp 85) (.cst (.d (.int .i64 0))),none⟩,
 ⟨some 87,.mov (.tmp 86),none⟩,
 ⟨some 88,.fad 0 (.tmp 13),some (87,false)⟩,
 ⟨some 89,.ld false 1 (.tmp 88),some (87,false)⟩,
 ⟨some 90,.mov (.tmp 10),some (87,false)⟩,
 ⟨some 91,.len (.tmp 90),some (87,false)⟩,
 ⟨some 92,.cmp .neq (.tmp 89) (.tmp 91),some (87,false)⟩,
 ⟨some 93,.pick (.tmp 87) (.cst (.d (.bool true))) (.tmp 92),none⟩,
 ⟨some 94,.mov (.tmp 93),none⟩,
 ⟨some 95,.fad 1 (.tmp 13),some (94,false)⟩,
 ⟨some 96,.ld false 1 (.tmp 95),some (94,false)⟩,
 ⟨some 97,.len (.tmp 96),some (94,false)⟩,
 ⟨some 98,.mov (.tmp 10),some (94,false)⟩,
 ⟨some 99,.len (.tmp 98),some (94,false)⟩,
 ⟨some 100,.cmp .neq (.tmp 97) (.tmp 99),some (94,false)⟩,
 ⟨some 101,.pick (.tmp 94) (.cst (.d (.bool true))) (.tmp 100),none⟩])
 (.cond (.tmp 101)
 (.seq
 (.reg [] [⟨some 8,.mov (.cst (.nils 1)),none⟩,
 ⟨some 9,.mov (.cst (.d (.bool false))),none⟩])
 .ret)
 .skip))
 (.seq
 (.reg [] [⟨some 103,.fad 1 (.tmp 13),none⟩,
 ⟨some 104,.ld false 1 (.tmp 103),none⟩,
 ⟨some 105,.calli 45 [(.tmp 104)],none⟩,
 ⟨some 102,.mov (.tmp 105),none⟩,
 ⟨some 106,.ext 0 (.tmp 102),none⟩,
 ⟨some 107,.ext 1 (.tmp 102),none⟩,
 ⟨some 17,.mov (.tmp 106),none⟩,
 ⟨some 18,.mov (.tmp 107),none⟩])
 (.seq
 (.reg [] [⟨some 108,.mov (.tmp 17),none⟩,
 ⟨some 109,.mov (.tmp 18),none⟩,
 ⟨some 110,.cmp .eql (.tmp 109) (.cst (.d (.int .i64 0))),none⟩,
 ⟨some 8,.mov (.tmp 108),none⟩,
 ⟨some 9,.mov (.tmp 110),none⟩])
 .ret)))))))))⟩
def tx18:AFun:=⟨55,44,[.cell 6 3 true,.tmp 7,.tmp 8],
 (.seq
 (.reg [0,1] [⟨some 3,.cbx 0 3 (.tmp 0),none⟩,
 ⟨some 6,.alloc 1 [(.d (.int .i64 0)),(.nils 1),(.nils 1)],none⟩,
 ⟨some 7,.mov (.cst (.d (.int .i64 0))),none⟩,
 ⟨some 8,.mov (.cst (.d (.int .i64 0))),none⟩])
 (.seq
 (.seq
 (.regd [2] [⟨some 11,.ld true 3 (.tmp 3),none⟩,
 ⟨some 12,.call 46 [(.tmp 11)],none⟩,
 ⟨some 13,.mov (.tmp 1),none⟩,
 ⟨some 14,.call 47 [(.tmp 13),(.cst (.d (.int .i64 0))),(.cst (.d (.int .i64 1000000)))],none⟩,
 ⟨some 15,.fad 1 (.tmp 3),none⟩,
 ⟨some 16,.ld false 1 (.tmp 15),none⟩,
 ⟨some 17,.mov (.tmp 2),none⟩,
 ⟨some 18,.call 48 [(.tmp 16),(.tmp 17)],none⟩,
 ⟨some 19,.mov (.tmp 1),none⟩,
 ⟨some 20,.fad 0 (.tmp 3),none⟩,
 ⟨some 21,.ld false 1 (.tmp 20),none⟩,
 ⟨some 22,.arith .add .i64 (.tmp 21) (.cst (.d (.int .i64 1))),none⟩,
 ⟨some 23,.cmp .gtr (.tmp 19) (.tmp 22),none⟩,
 ⟨some 24,.call 29 [(.tmp 23),(.cst (.d (.int .i64 7)))],none⟩,
 ⟨some 25,.bsl 2 30 1 4 [(.int .i64 0),(.int .i64 0),(.int .i64 0),(.int .i64 0)] [(0,(.tmp 12)),(1,(.tmp 14)),(2,(.tmp 18)),(3,(.tmp 24))],none⟩,
 ⟨some 26,.call 28 [(.tmp 25)],none⟩,
 ⟨some 9,.mov (.tmp 26),none⟩] [(0,2),(1,2),(0,4),(1,4),(2,4),(3,4),(0,5),(1,5),(2,5),(3,5),(0,6),(1,6),(2,6),(3,6),(4,6),(5,6),(0,8),(1,8),(2,8),(3,8),(4,8),(5,8),(6,8),(7,8),(0,9),(1,9),(2,9),(3,9),(4,9),(5,9),(6,9),(7,9),(8,9),(0,10),(1,10),(2,10),(3,10),(4,10),(5,10),(6,10),(7,10),(8,10),(0,11),(1,11),(2,11),(3,11),(4,11),(5,11),(6,11),(7,11),(8,11),(0,12),(1,12),(2,12),(3,12),(4,12),(5,12),(6,12),(7,12)])
 (.seq
 (.reg [] [⟨some 27,.mov (.tmp 9),none⟩,
 ⟨some 28,.cmp .neq (.tmp 27) (.cst (.d (.int .i64 0))),none⟩])
 (.cond (.tmp 28)
 (.seq
 (.reg [] [⟨some 29,.build [(.d (.int .i64 0)),(.nils 1),(.nils 1)] [],none⟩,
 ⟨some 30,.mov (.tmp 9),none⟩,
 ⟨none,.st 3 (.tmp 6) (.tmp 29),none⟩,
 ⟨some 7,.mov (.cst (.d (.int .i64 0))),none⟩,
 ⟨some 8,.mov (.tmp 30),none⟩])
 .ret)
 .skip)))
 (.seq
 (.reg [3] [⟨some 31,.ld true 3 (.tmp 3),none⟩,
 ⟨some 32,.call 49 [(.tmp 31)],none⟩,
 ⟨some 10,.alloc 3 [(.d (.int .i64 0)),(.nils 1),(.nils 1)],none⟩,
 ⟨none,.st 3 (.tmp 10) (.tmp 32),none⟩])
 (.seq
 (.seq
 (.reg [] [⟨some 33,.mov (.tmp 1),none⟩,
 ⟨some 34,.fad 0 (.tmp 3),none⟩,
 ⟨some 35,.ld false 1 (.tmp 34),none⟩,
 ⟨some 36,.cmp .leq (.tmp 33) (.tmp 35),none⟩])
 (.cond (.tmp 36)
 (.seq
 (.regd [] [⟨some 37,.ld true 3 (.tmp 10),none⟩,
 ⟨some 38,.fad 0 (.tmp 3),none⟩,
 ⟨some 39,.ld false 1 (.tmp 38),none⟩,
 ⟨none,.st 3 (.tmp 6) (.tmp 37),none⟩,
 ⟨some 7,.mov (.tmp 39),none⟩,
 ⟨some 8,.mov (.cst (.d (.int .i64 0))),none⟩] [(0,1),(0,2),(1,3),(2,3)])
 .ret)
 .skip))
 (.seq
 (.seq
 (.reg [] [⟨some 40,.fad 2 (.tmp 3),none⟩,
 ⟨some 41,.ld false 1 (.tmp 40),none⟩,
 ⟨some 42,.len (.tmp 41),none⟩,
 ⟨some 43,.cmp .eql (.tmp 42) (.cst (.d (.int .i64 0))),none⟩])
 (.cond (.tmp 43)
 (.reg [] [⟨some 44,.mov (.tmp 2),none⟩,
 ⟨some 45,.call 50 [(.tmp 44)],none⟩,
 ⟨some 46,.fad 2 (.tmp 10),none⟩,
 ⟨none,.st 1 (.tmp 46) (.tmp 45),none⟩])
 (.seq
 (.reg [] [⟨some 47,.fad 2 (.tmp 3),none⟩,
 ⟨some 48,.ld false 1 (.tmp 47),none⟩,
 ⟨some 49,.mov (.tmp 2),none⟩,
 ⟨some 50,.call 51 [(.tmp 48),(.tmp 49)],none⟩,
 ⟨some 51,.not (.tmp 50),none⟩])
 (.cond (.tmp 51)
 (.seq
 (.reg [] [⟨some 52,.build [(.d (.int .i64 0)),(.nils 1),(.nils 1)] [],none⟩,
 ⟨none,.st 3 (.tmp 6) (.tmp 52),none⟩,
 ⟨some 7,.mov (.cst (.d (.int .i64 0))),none⟩,
 ⟨some 8,.mov (.cst (.d (.int .i64 24))),none⟩])
 .ret)
 .skip))))
 (.seq
 (.reg [] [⟨some 53,.ld true 3 (.tmp 10),none⟩,
 ⟨some 54,.mov (.tmp 1),none⟩,
 ⟨none,.st 3 (.tmp 6) (.tmp 53),none⟩,
 ⟨some 7,.mov (.tmp 54),none⟩,
 ⟨some 8,.mov (.cst (.d (.int .i64 0))),none⟩])
 .ret))))))⟩
def tx19:AFun:=⟨10,40,[.tmp 4],
 (.seq
 (.reg [] [⟨some 4,.mov (.cst (.d (.bool false))),none⟩])
 (.seq
 (.reg [] [⟨some 5,.mov (.tmp 0),none⟩,
 ⟨some 6,.b2s (.tmp 5),none⟩,
 ⟨some 7,.mov (.tmp 1),none⟩,
 ⟨some 8,.b2s (.tmp 7),none⟩,
 ⟨some 9,.seq false (.tmp 6) (.tmp 8),none⟩,
 ⟨some 4,.mov (.tmp 9),none⟩])
 .ret))⟩
def tx20:AFun:=⟨26,40,[.tmp 4],
 (.seq
 (.reg [] [⟨some 4,.mov (.cst (.d (.bool false))),none⟩])
 (.seq
 (.seq
 (.reg [] [⟨some 6,.mov (.tmp 0),none⟩,
 ⟨some 7,.len (.tmp 6),none⟩,
 ⟨some 8,.mov (.tmp 1),none⟩,
 ⟨some 9,.len (.tmp 8),none⟩,
 ⟨some 10,.cmp .neq (.tmp 7) (.tmp 9),none⟩])
 (.cond (.tmp 10)
 (.seq
 (.reg [] [⟨some 4,.mov (.cst (.d (.bool false))),none⟩])
 .ret)
 .skip))
 (.seq
 (.seq
 (.reg [] [⟨some 5,.mov (.cst (.d (.int .i64 0))),none⟩])
 (.post [] []
 (.block 0
 (.keep [0,1,5] []
 (.loop
 (.post [0,1,5] []
 (.seq
 (.seq
 (.reg [] [⟨some 11,.mov (.tmp 5),none⟩,
 ⟨some 12,.mov (.tmp 0),none⟩,
 ⟨some 13,.len (.tmp 12),none⟩,
 ⟨some 14,.cmp .lss (.tmp 11) (.tmp 13),none⟩])
 (.cond (.tmp 14)
 .skip
 (.exit 0)))
 (.seq
 (.block 1
 (.seq
 (.regd [] [⟨some 17,.mov (.tmp 0),none⟩,
 ⟨some 18,.mov (.tmp 5),none⟩,
 ⟨some 19,.ixa 1 (.tmp 17) (.tmp 18),none⟩,
 ⟨some 20,.ld false 1 (.tmp 19),none⟩,
 ⟨some 21,.mov (.tmp 1),none⟩,
 ⟨some 22,.mov (.tmp 5),none⟩,
 ⟨some 23,.ixa 1 (.tmp 21) (.tmp 22),none⟩,
 ⟨some 24,.ld false 1 (.tmp 23),none⟩,
 ⟨some 25,.cmp .neq (.tmp 20) (.tmp 24),none⟩] [(0,1),(0,4),(1,4),(2,4),(3,4),(0,5),(1,5),(2,5),(3,5),(4,5),(0,6),(1,6),(2,6),(3,6),(0,7),(1,7),(2,7),(3,7)])
 (.cond (.tmp 25)
 (.seq
 (.reg [] [⟨some 4,.mov (.cst (.d (.bool false))),none⟩])
 .ret)
 .skip)))
 (.reg [] [⟨some 15,.mov (.tmp 5),none⟩,
 ⟨some 16,.arith .add .i64 (.tmp 15) (.cst (.d (.int .i64 1))),none⟩,
 ⟨some 5,.mov (.tmp 16),none⟩])))))))))
 (.seq
 (.reg [] [⟨some 4,.mov (.cst (.d (.bool true))),none⟩])
 .ret))))⟩
def tx28:AFun:=⟨15,40,[.tmp 2],
 (.seq
 (.reg [] [⟨some 2,.mov (.cst (.d (.int .i64 0))),none⟩])
 (.seq
 (.seq
 (.reg [] [⟨some 5,.mov (.tmp 0),none⟩,
 ⟨some 6,.len (.tmp 5),none⟩,
 ⟨some 7,.mov (.cst (.d (.int .i64 0))),none⟩])
 (.post [] []
 (.block 0
 (.keep [5,6,7] []
 (.loop
 (.post [5,6,7] []
 (.seq
 (.reg [] [⟨some 8,.cmp .lss (.tmp 7) (.tmp 6),none⟩])
 (.seq
 (.cond (.tmp 8)
 .skip
 (.exit 0))
 (.seq
 (.block 1
 (.seq
 (.reg [] [⟨some 9,.ixa 1 (.tmp 5) (.tmp 7),none⟩,
 ⟨some 10,.ld false 1 (.tmp 9),none⟩,
 ⟨some 4,.mov (.tmp 10),none⟩])
 (.seq
 (.reg [] [⟨some 11,.mov (.tmp 4),none⟩,
 ⟨some 12,.cmp .neq (.tmp 11) (.cst (.d (.int .i64 0))),none⟩])
 (.cond (.tmp 12)
 (.seq
 (.reg [] [⟨some 13,.mov (.tmp 4),none⟩,
 ⟨some 2,.mov (.tmp 13),none⟩])
 .ret)
 .skip))))
 (.reg [] [⟨some 14,.arith .add .i64 (.tmp 7) (.cst (.d (.int .i64 1))),none⟩,
 ⟨some 7,.mov (.tmp 14),none⟩]))))))))))
 (.seq
 (.reg [] [⟨some 2,.mov (.cst (.d (.int .i64 0))),none⟩])
 .ret)))⟩
def tx29:AFun:=⟨7,40,[.tmp 4],
 (.seq
 (.reg [] [⟨some 4,.mov (.cst (.d (.int .i64 0))),none⟩])
 (.seq
 (.seq
 (.reg [] [⟨some 5,.mov (.tmp 0),none⟩])
 (.cond (.tmp 5)
 (.seq
 (.reg [] [⟨some 6,.mov (.tmp 1),none⟩,
 ⟨some 4,.mov (.tmp 6),none⟩])
 .ret)
 .skip))
 (.seq
 (.reg [] [⟨some 4,.mov (.cst (.d (.int .i64 0))),none⟩])
 .ret)))⟩
def tx30:AFun:=⟨11,42,[.tmp 6],
 (.seq
 (.reg [0,1] [⟨some 4,.cbx 0 1 (.tmp 1),none⟩,
 ⟨some 5,.cbx 1 1 (.tmp 2),none⟩,
 ⟨some 6,.mov (.cst (.d (.int .i64 0))),none⟩])
 (.seq
 (.reg [] [⟨some 7,.mov (.tmp 0),none⟩,
 ⟨some 8,.mkf (.func 53) [] [(.tmp 4),(.tmp 5)],none⟩,
 ⟨some 9,.call 52 [(.tmp 7),(.tmp 8)],none⟩,
 ⟨some 10,.call 28 [(.tmp 9)],none⟩,
 ⟨some 6,.mov (.tmp 10),none⟩])
 .ret))⟩
def tx33:AFun:=⟨15,40,[.tmp 2],
 (.seq
 (.reg [] [⟨some 2,.mov (.cst (.d (.int .i64 0))),none⟩])
 (.seq
 (.seq
 (.reg [] [⟨some 5,.mov (.tmp 0),none⟩,
 ⟨some 6,.len (.tmp 5),none⟩,
 ⟨some 7,.mov (.cst (.d (.int .i64 0))),none⟩])
 (.post [] []
 (.block 0
 (.keep [5,6,7] []
 (.loop
 (.post [5,6,7] []
 (.seq
 (.reg [] [⟨some 8,.cmp .lss (.tmp 7) (.tmp 6),none⟩])
 (.seq
 (.cond (.tmp 8)
 .skip
 (.exit 0))
 (.seq
 (.block 1
 (.seq
 (.reg [] [⟨some 9,.ixa 1 (.tmp 5) (.tmp 7),none⟩,
 ⟨some 10,.ld false 1 (.tmp 9),none⟩,
 ⟨some 4,.mov (.tmp 10),none⟩])
 (.seq
 (.reg [] [⟨some 11,.mov (.tmp 4),none⟩,
 ⟨some 12,.cmp .neq (.tmp 11) (.cst (.d (.int .i64 0))),none⟩])
 (.cond (.tmp 12)
 (.seq
 (.reg [] [⟨some 13,.mov (.tmp 4),none⟩,
 ⟨some 2,.mov (.tmp 13),none⟩])
 .ret)
 .skip))))
 (.reg [] [⟨some 14,.arith .add .i64 (.tmp 7) (.cst (.d (.int .i64 1))),none⟩,
 ⟨some 7,.mov (.tmp 14),none⟩]))))))))))
 (.seq
 (.reg [] [⟨some 2,.mov (.cst (.d (.int .i64 0))),none⟩])
 .ret)))⟩
def tx36:AFun:=⟨16,40,[.tmp 6],
 (.seq
 (.reg [] [⟨some 6,.mov (.cst (.d (.int .i64 0))),none⟩])
 (.seq
 (.reg [] [⟨some 7,.mov (.tmp 0),none⟩,
 ⟨some 8,.mov (.tmp 1),none⟩,
 ⟨some 9,.cmp .lss (.tmp 7) (.tmp 8),none⟩,
 ⟨some 10,.mov (.tmp 9),none⟩,
 ⟨some 11,.mov (.tmp 0),some (10,false)⟩,
 ⟨some 12,.mov (.tmp 2),some (10,false)⟩,
 ⟨some 13,.cmp .gtr (.tmp 11) (.tmp 12),some (10,false)⟩,
 ⟨some 14,.pick (.tmp 10) (.cst (.d (.bool true))) (.tmp 13),none⟩,
 ⟨some 15,.call 37 [(.tmp 14),(.cst (.d (.int .i64 3)))],none⟩,
 ⟨some 6,.mov (.tmp 15),none⟩])
 .ret))⟩
def tx37:AFun:=⟨7,40,[.tmp 4],
 (.seq
 (.reg [] [⟨some 4,.mov (.cst (.d (.int .i64 0))),none⟩])
 (.seq
 (.seq
 (.reg [] [⟨some 5,.mov (.tmp 0),none⟩])
 (.cond (.tmp 5)
 (.seq
 (.reg [] [⟨some 6,.mov (.tmp 1),none⟩,
 ⟨some 4,.mov (.tmp 6),none⟩])
 .ret)
 .skip))
 (.seq
 (.reg [] [⟨some 4,.mov (.cst (.d (.int .i64 0))),none⟩])
 .ret)))⟩
def tx42:AFun:=⟨63,44,[.tmp 6,.tmp 7],
 (.seq
 (.reg [] [⟨some 6,.mov (.cst (.nils 4)),none⟩,
 ⟨some 7,.mov (.cst (.d (.int .i64 0))),none⟩])
 (.seq
 (.seq
 (.reg [0] [⟨some 13,.mov (.tmp 0),none⟩,
 ⟨some 14,.call 36 [(.tmp 13),(.cst (.d (.int .i64 0))),(.cst (.d (.int .i64 255)))],none⟩,
 ⟨some 15,.mov (.tmp 1),none⟩,
 ⟨some 16,.len (.tmp 15),none⟩,
 ⟨some 17,.cmp .gtr (.tmp 16) (.cst (.d (.int .i64 256))),none⟩,
 ⟨some 18,.call 37 [(.tmp 17),(.cst (.d (.int .i64 5)))],none⟩,
 ⟨some 19,.mov (.tmp 2),none⟩,
 ⟨some 20,.call 36 [(.tmp 19),(.cst (.d (.int .i64 1))),(.cst (.d (.int .i64 12)))],none⟩,
 ⟨some 21,.bsl 0 30 1 3 [(.int .i64 0),(.int .i64 0),(.int .i64 0)] [(0,(.tmp 14)),(1,(.tmp 18)),(2,(.tmp 20))],none⟩,
 ⟨some 22,.call 33 [(.tmp 21)],none⟩,
 ⟨some 8,.mov (.tmp 22),none⟩])
 (.seq
 (.reg [] [⟨some 23,.mov (.tmp 8),none⟩,
 ⟨some 24,.cmp .neq (.tmp 23) (.cst (.d (.int .i64 0))),none⟩])
 (.cond (.tmp 24)
 (.seq
 (.reg [] [⟨some 25,.mov (.tmp 8),none⟩,
 ⟨some 6,.mov (.cst (.nils 4)),none⟩,
 ⟨some 7,.mov (.tmp 25),none⟩])
 .ret)
 .skip)))
 (.seq
 (.reg [] [⟨some 26,.mov (.tmp 1),none⟩,
 ⟨some 27,.len (.tmp 26),none⟩,
 ⟨some 28,.mov (.tmp 2),none⟩,
 ⟨some 29,.arith .add .i64 (.tmp 27) (.tmp 28),none⟩,
 ⟨some 30,.arith .sub .i64 (.tmp 29) (.cst (.d (.int .i64 1))),none⟩,
 ⟨some 31,.mov (.tmp 2),none⟩,
 ⟨some 32,.arith .quo .i64 (.tmp 30) (.tmp 31),none⟩,
 ⟨some 33,.maxi (.cst (.d (.int .i64 1))) (.tmp 32),none⟩,
 ⟨some 9,.mov (.tmp 33),none⟩])
 (.seq
 (.seq
 (.reg [] [⟨some 34,.mov (.tmp 9),none⟩,
 ⟨some 35,.cmp .gtr (.tmp 34) (.cst (.d (.int .i64 64))),none⟩])
 (.cond (.tmp 35)
 (.seq
 (.reg [] [⟨some 6,.mov (.cst (.nils 4)),none⟩,
 ⟨some 7,.mov (.cst (.d (.int .i64 5))),none⟩])
 .ret)
 .skip))
 (.seq
 (.reg [] [⟨some 10,.mov (.cst (.nils 4)),none⟩])
 (.seq
 (.seq
 (.reg [] [⟨some 36,.mov (.tmp 9),none⟩,
 ⟨some 37,.mov (.cst (.d (.int .i64 0))),none⟩])
 (.post [10] [0,1,2,3]
 (.block 0
 (.asrow 3 105 4 10
 (.keep [0,1,2,9,10,36,37] [0]
 (.loop
 (.post [0,1,2,9,10,36,37] [1,2,3]
 (.seq
 (.reg [] [⟨some 38,.cmp .lss (.tmp 37) (.tmp 36),none⟩])
 (.seq
 (.cond (.tmp 38)
 .skip
 (.exit 0))
 (.seq
 (.block 1
 (.seq
 (.reg [] [⟨some 39,.mov (.tmp 37),none⟩,
 ⟨some 11,.mov (.tmp 39),none⟩])
 (.seq
 (.reg [1] [⟨some 40,.mov (.tmp 0),none⟩,
 ⟨some 41,.mov (.tmp 11),none⟩,
 ⟨some 42,.mov (.tmp 9),none⟩,
 ⟨some 43,.mov (.tmp 1),none⟩,
 ⟨some 44,.mov (.tmp 11),none⟩,
 ⟨some 45,.mov (.tmp 2),none⟩,
 ⟨some 46,.arith .mul .i64 (.tmp 44) (.tmp 45),none⟩,
 ⟨some 47,.mov (.tmp 1),none⟩,
 ⟨some 48,.len (.tmp 47),none⟩,
 ⟨some 49,.mov (.tmp 11),none⟩,
 ⟨some 50,.arith .add .i64 (.tmp 49) (.cst (.d (.int .i64 1))),none⟩,
 ⟨some 51,.mov (.tmp 2),none⟩,
 ⟨some 52,.arith .mul .i64 (.tmp 50) (.tmp 51),none⟩,
 ⟨some 53,.mini (.tmp 48) (.tmp 52),none⟩,
 ⟨some 54,.slc 1 (.tmp 43) (some (.tmp 46)) (some (.tmp 53)),none⟩,
 ⟨some 55,.build [(.d (.int .i64 0)),(.d (.int .i64 0)),(.d (.int .i64 0)),(.nils 1)] [(0,1,(.tmp 40)),(1,1,(.tmp 41)),(2,1,(.tmp 42)),(3,1,(.tmp 54))],none⟩,
 ⟨some 12,.alloc 1 [(.d (.int .i64 0)),(.d (.int .i64 0)),(.d (.int .i64 0)),(.nils 1)],none⟩,
 ⟨none,.st 4 (.tmp 12) (.tmp 55),none⟩])
 (.reg [2,3] [⟨some 56,.mov (.tmp 10),none⟩,
 ⟨some 57,.ld true 4 (.tmp 12),none⟩,
 ⟨some 58,.call 58 [(.tmp 57)],none⟩,
 ⟨some 59,.bsl 2 105 4 1 [(.agg [(.int .i64 0),(.int .i64 0),(.int .i64 0),(.slice 1 [])])] [(0,(.tmp 58))],none⟩,
 ⟨some 60,.app 3 105 4 48 (.tmp 56) (.tmp 59),none⟩,
 ⟨some 10,.mov (.tmp 60),none⟩]))))
 (.reg [] [⟨some 61,.arith .add .i64 (.tmp 37) (.cst (.d (.int .i64 1))),none⟩,
 ⟨some 37,.mov (.tmp 61),none⟩])))))))))))
 (.seq
 (.reg [] [⟨some 62,.mov (.tmp 10),none⟩,
 ⟨some 6,.mov (.tmp 62),none⟩,
 ⟨some 7,.mov (.cst (.d (.int .i64 0))),none⟩])
 .ret)))))))⟩
def tx43:AFun:=⟨93,49,[.cell 6 3 true,.cell 7 2 true,.tmp 8],
 (.seq
 (.reg [0,1,2,3] [⟨some 3,.cbx 0 3 (.tmp 0),none⟩,
 ⟨some 4,.cbx 1 2 (.tmp 1),none⟩,
 ⟨some 6,.alloc 2 [(.nils 4),(.d (.int .i64 0)),(.d (.int .i64 0))],none⟩,
 ⟨some 7,.alloc 3 [(.d (.int .i64 0)),(.nils 4)],none⟩,
 ⟨some 8,.mov (.cst (.d (.int .i64 0))),none⟩])
 (.seq
 (.seq
 (.regd [4] [⟨some 17,.ld true 3 (.tmp 3),none⟩,
 ⟨some 18,.call 59 [(.tmp 17)],none⟩,
 ⟨some 19,.ld true 2 (.tmp 4),none⟩,
 ⟨some 20,.call 60 [(.tmp 19)],none⟩,
 ⟨some 21,.mov (.tmp 2),none⟩,
 ⟨some 22,.call 61 [(.tmp 21)],none⟩,
 ⟨some 23,.bsl 4 30 1 3 [(.int .i64 0),(.int .i64 0),(.int .i64 0)] [(0,(.tmp 18)),(1,(.tmp 20)),(2,(.tmp 22))],none⟩,
 ⟨some 24,.call 33 [(.tmp 23)],none⟩,
 ⟨some 9,.mov (.tmp 24),none⟩] [(0,2),(1,2),(0,4),(1,4),(2,4),(3,4)])
 (.seq
 (.reg [] [⟨some 25,.mov (.tmp 9),none⟩,
 ⟨some 26,.cmp .neq (.tmp 25) (.cst (.d (.int .i64 0))),none⟩])
 (.cond (.tmp 26)
 (.seq
 (.reg [] [⟨some 27,.build [(.nils 4),(.d (.int .i64 0)),(.d (.int .i64 0))] [],none⟩,
 ⟨some 28,.build [(.d (.int .i64 0)),(.nils 4)] [],none⟩,
 ⟨some 29,.mov (.tmp 9),none⟩,
 ⟨none,.st 3 (.tmp 6) (.tmp 27),none⟩,
 ⟨none,.st 2 (.tmp 7) (.tmp 28),none⟩,
 ⟨some 8,.mov (.tmp 29),none⟩])
 .ret)
 .skip)))
 (.seq
 (.seq
 (.reg [] [⟨some 30,.ld true 3 (.tmp 3),none⟩,
 ⟨some 31,.ld true 2 (.tmp 4),none⟩,
 ⟨some 32,.call 62 [(.tmp 30),(.tmp 31)],none⟩,
 ⟨some 33,.not (.tmp 32),none⟩])
 (.cond (.tmp 33)
 (.seq
 (.reg [] [⟨some 34,.build [(.nils 4),(.d (.int .i64 0)),(.d (.int .i64 0))] [],none⟩,
 ⟨some 35,.build [(.d (.int .i64 0)),(.nils 4)] [],none⟩,
 ⟨none,.st 3 (.tmp 6) (.tmp 34),none⟩,
 ⟨none,.st 2 (.tmp 7) (.tmp 35),none⟩,
 ⟨some 8,.mov (.cst (.d (.int .i64 24))),none⟩])
 .ret)
 .skip))
 (.seq
 (.regd [5] [⟨some 36,.fad 0 (.tmp 3),none⟩,
 ⟨some 37,.ld false 1 (.tmp 36),none⟩,
 ⟨some 38,.call 63 [(.tmp 37)],none⟩,
 ⟨some 39,.fad 1 (.tmp 3),none⟩,
 ⟨some 40,.ld false 1 (.tmp 39),none⟩,
 ⟨some 41,.fad 2 (.tmp 3),none⟩,
 ⟨some 42,.ld false 1 (.tmp 41),none⟩,
 ⟨some 43,.build [(.nils 4),(.d (.int .i64 0)),(.d (.int .i64 0))] [(0,1,(.tmp 38)),(1,1,(.tmp 40)),(2,1,(.tmp 42))],none⟩,
 ⟨some 10,.alloc 5 [(.nils 4),(.d (.int .i64 0)),(.d (.int .i64 0))],none⟩,
 ⟨none,.st 3 (.tmp 10) (.tmp 43),none⟩] [(0,3),(1,3),(2,3),(0,4),(1,4),(2,4),(0,5),(1,5),(2,5),(3,5),(4,5),(0,6),(1,6),(2,6),(3,6),(4,6),(0,8),(1,8),(2,8),(3,8),(4,8),(5,8),(6,8),(7,8)])
 (.seq
 (.regd [6] [⟨some 44,.fad 0 (.tmp 4),none⟩,
 ⟨some 45,.ld false 1 (.tmp 44),none⟩,
 ⟨some 46,.fad 1 (.tmp 4),none⟩,
 ⟨some 47,.ld false 1 (.tmp 46),none⟩,
 ⟨some 48,.call 63 [(.tmp 47)],none⟩,
 ⟨some 49,.build [(.d (.int .i64 0)),(.nils 4)] [(0,1,(.tmp 45)),(1,1,(.tmp 48))],none⟩,
 ⟨some 11,.alloc 6 [(.d (.int .i64 0)),(.nils 4)],none⟩,
 ⟨none,.st 2 (.tmp 11) (.tmp 49),none⟩] [(0,2),(1,2),(0,3),(1,3),(0,4),(1,4),(0,6),(1,6),(2,6),(3,6),(4,6),(5,6)])
 (.seq
 (.seq
 (.reg [] [⟨some 50,.mov (.tmp 2),none⟩,
 ⟨some 51,.len (.tmp 50),none⟩,
 ⟨some 52,.mov (.cst (.d (.int .i64 0))),none⟩])
 (.post [6,7,10,11] [0,1,2,3,4,5,6,7,8]
 (.block 0
 (.keep [6,7,10,11,50,51,52] [0,1,2,3,4,5,6]
 (.loop
 (.post [6,7,10,11,50,51,52] [7,8]
 (.seq
 (.reg [] [⟨some 53,.cmp .lss (.tmp 52) (.tmp 51),none⟩])
 (.seq
 (.cond (.tmp 53)
 .skip
 (.exit 0))
 (.seq
 (.block 1
 (.seq
 (.reg [7] [⟨some 54,.ixa 3 (.tmp 50) (.tmp 52),none⟩,
 ⟨some 55,.ld true 3 (.tmp 54),none⟩,
 ⟨some 13,.alloc 7 [(.nils 1),(.nils 1),(.d (.bool false))],none⟩,
 ⟨none,.st 3 (.tmp 13) (.tmp 55),none⟩])
 (.seq
 (.reg [] [⟨some 56,.mkr (.func 64) [] [(.tmp 11)],none⟩,
 ⟨some 14,.mov (.tmp 56),none⟩])
 (.seq
 (.seq
 (.reg [] [⟨some 57,.ld true 3 (.tmp 10),none⟩,
 ⟨some 58,.call 68 [(.tmp 57)],none⟩,
 ⟨some 59,.call 67 [(.tmp 58)],none⟩,
 ⟨some 60,.len (.tmp 59),none⟩,
 ⟨some 61,.mov (.cst (.d (.int .i64 0))),none⟩])
 (.post [6,7,10,11,13,50,51,52] [0,1,2,3,4,5,6,7,8]
 (.block 2
 (.keep [6,7,10,11,13,14,50,51,52,59,60,61] [0,1,2,3,4,5,6,7]
 (.loop
 (.post [6,7,10,11,13,14,50,51,52,59,60,61] [8]
 (.seq
 (.reg [] [⟨some 62,.cmp .lss (.tmp 61) (.tmp 60),none⟩])
 (.seq
 (.cond (.tmp 62)
 .skip
 (.exit 2))
 (.seq
 (.block 3
 (.seq
 (.reg [8] [⟨some 63,.mov (.tmp 61),none⟩,
 ⟨some 64,.ixa 5 (.tmp 59) (.tmp 61),none⟩,
 ⟨some 65,.ld true 5 (.tmp 64),none⟩,
 ⟨some 16,.alloc 8 [(.d (.int .i64 0)),(.d (.int .i64 0)),(.d (.int .i64 0)),(.nils 1),(.d (.int .i64 0))],none⟩,
 ⟨some 15,.mov (.tmp 63),none⟩,
 ⟨none,.st 5 (.tmp 16) (.tmp 65),none⟩])
 (.seq
 (.seq
 (.reg [] [⟨some 66,.fad 0 (.tmp 13),none⟩,
 ⟨some 67,.ld false 1 (.tmp 66),none⟩,
 ⟨some 68,.mov (.tmp 15),none⟩,
 ⟨some 69,.call 54 [(.tmp 67),(.tmp 68)],none⟩])
 (.cond (.tmp 69)
 (.exit 3)
 .skip))
 (.seq
 (.reg [] [⟨some 70,.mov (.tmp 14),none⟩,
 ⟨some 71,.ld true 5 (.tmp 16),none⟩,
 ⟨some 72,.callv (.tmp 70) [(.tmp 71)],none⟩])
 (.seq
 (.reg [] [⟨some 73,.fad 1 (.tmp 13),none⟩,
 ⟨some 74,.ld false 1 (.tmp 73),none⟩,
 ⟨some 75,.mov (.tmp 15),none⟩,
 ⟨some 76,.call 54 [(.tmp 74),(.tmp 75)],none⟩])
 (.cond (.tmp 76)
 (.reg [] [⟨some 77,.mov (.tmp 14),none⟩,
 ⟨some 78,.ld true 5 (.tmp 16),none⟩,
 ⟨some 79,.callv (.tmp 77) [(.tmp 78)],none⟩])
 .skip))))))
 (.reg [] [⟨some 80,.arith .add .i64 (.tmp 61) (.cst (.d (.int .i64 1))),none⟩,
 ⟨some 61,.mov (.tmp 80),none⟩]))))))))))
 (.seq
 (.reg [] [⟨some 81,.fad 2 (.tmp 13),none⟩,
 ⟨some 82,.ld false 1 (.tmp 81),none⟩,
 ⟨some 83,.not (.tmp 82),none⟩])
 (.cond (.tmp 83)
 (.reg [] [⟨some 84,.ld true 3 (.tmp 10),none⟩,
 ⟨some 85,.fad 0 (.tmp 11),none⟩,
 ⟨some 86,.ld false 1 (.tmp 85),none⟩,
 ⟨some 87,.arith .rem .i64 (.tmp 86) (.cst (.d (.int .i64 16))),none⟩,
 ⟨some 88,.call 69 [(.tmp 84),(.tmp 87)],none⟩,
 ⟨some 89,.fad 1 (.tmp 10),none⟩,
 ⟨none,.st 1 (.tmp 89) (.tmp 88),none⟩])
 .skip))))))
 (.reg [] [⟨some 90,.arith .add .i64 (.tmp 52) (.cst (.d (.int .i64 1))),none⟩,
 ⟨some 52,.mov (.tmp 90),none⟩]))))))))))
 (.seq
 (.regd [] [⟨some 91,.ld true 3 (.tmp 10),none⟩,
 ⟨some 92,.ld true 2 (.tmp 11),none⟩,
 ⟨none,.st 3 (.tmp 6) (.tmp 91),none⟩,
 ⟨none,.st 2 (.tmp 7) (.tmp 92),none⟩,
 ⟨some 8,.mov (.cst (.d (.int .i64 0))),none⟩] [(0,1),(1,2)])
 .ret)))))))⟩
def tx44:AFun:=⟨51,48,[.tmp 2],
 (.seq
 (.reg [] [⟨some 2,.mov (.cst (.nils 3)),none⟩])
 (.seq
 (.reg [] [⟨some 3,.mov (.cst (.nils 3)),none⟩])
 (.seq
 (.seq
 (.reg [] [⟨some 8,.mov (.tmp 0),none⟩,
 ⟨some 9,.len (.tmp 8),none⟩,
 ⟨some 10,.mov (.cst (.d (.int .i64 0))),none⟩])
 (.post [3] [0,1,2,3,4,5,6,7]
 (.block 0
 (.asrow 7 113 3 3
 (.keep [3,8,9,10] []
 (.loop
 (.post [3,8,9,10] [0,1,2,3,4,5,6,7]
 (.seq
 (.reg [] [⟨some 11,.cmp .lss (.tmp 10) (.tmp 9),none⟩])
 (.seq
 (.cond (.tmp 11)
 .skip
 (.exit 0))
 (.seq
 (.block 1
 (.seq
 (.reg [0] [⟨some 12,.ixa 3 (.tmp 8) (.tmp 10),none⟩,
 ⟨some 13,.ld true 3 (.tmp 12),none⟩,
 ⟨some 5,.alloc 0 [(.d (.int .u8 0)),(.d (.int .u8 0)),(.d (.bool false))],none⟩,
 ⟨none,.st 3 (.tmp 5) (.tmp 13),none⟩])
 (.seq
 (.reg [1] [⟨some 14,.fad 2 (.tmp 5),none⟩,
 ⟨some 15,.ld false 1 (.tmp 14),none⟩,
 ⟨some 16,.build [(.nils 1),(.nils 1),(.d (.bool false))] [(2,1,(.tmp 15))],none⟩,
 ⟨some 6,.alloc 1 [(.nils 1),(.nils 1),(.d (.bool false))],none⟩,
 ⟨none,.st 3 (.tmp 6) (.tmp 16),none⟩])
 (.seq
 (.seq
 (.reg [] [⟨some 17,.mov (.cst (.d (.int .i64 0))),none⟩])
 (.post [3,6,8,9,10] [0,1,2,3,4,5]
 (.block 2
 (.keep [3,5,6,8,9,10,17] [0,1]
 (.loop
 (.post [3,5,6,8,9,10,17] [2,3,4,5]
 (.seq
 (.reg [] [⟨some 18,.cmp .lss (.tmp 17) (.cst (.d (.int .i64 4))),none⟩])
 (.seq
 (.cond (.tmp 18)
 .skip
 (.exit 2))
 (.seq
 (.block 3
 (.seq
 (.reg [] [⟨some 19,.mov (.tmp 17),none⟩,
 ⟨some 7,.mov (.tmp 19),none⟩])
 (.seq
 (.seq
 (.reg [] [⟨some 20,.fad 0 (.tmp 5),none⟩,
 ⟨some 21,.ld false 1 (.tmp 20),none⟩,
 ⟨some 22,.mov (.tmp 7),none⟩,
 ⟨some 23,.shf .shr .u8 (.tmp 21) (.tmp 22),none⟩,
 ⟨some 24,.bit .and .u8 (.tmp 23) (.cst (.d (.int .u8 1))),none⟩,
 ⟨some 25,.cmp .eql (.tmp 24) (.cst (.d (.int .u8 1))),none⟩])
 (.cond (.tmp 25)
 (.reg [2,3] [⟨some 26,.fad 0 (.tmp 6),none⟩,
 ⟨some 27,.ld false 1 (.tmp 26),none⟩,
 ⟨some 28,.mov (.tmp 7),none⟩,
 ⟨some 29,.bsl 2 3 1 1 [(.int .i64 0)] [(0,(.tmp 28))],none⟩,
 ⟨some 30,.app 3 3 1 8 (.tmp 27) (.tmp 29),none⟩,
 ⟨some 31,.fad 0 (.tmp 6),none⟩,
 ⟨none,.st 1 (.tmp 31) (.tmp 30),none⟩])
 .skip))
 (.seq
 (.reg [] [⟨some 32,.fad 1 (.tmp 5),none⟩,
 ⟨some 33,.ld false 1 (.tmp 32),none⟩,
 ⟨some 34,.mov (.tmp 7),none⟩,
 ⟨some 35,.shf .shr .u8 (.tmp 33) (.tmp 34),none⟩,
 ⟨some 36,.bit .and .u8 (.tmp 35) (.cst (.d (.int .u8 1))),none⟩,
 ⟨some 37,.cmp .eql (.tmp 36) (.cst (.d (.int .u8 1))),none⟩])
 (.cond (.tmp 37)
 (.reg [4,5] [⟨some 38,.fad 1 (.tmp 6),none⟩,
 ⟨some 39,.ld false 1 (.tmp 38),none⟩,
 ⟨some 40,.mov (.tmp 7),none⟩,
 ⟨some 41,.bsl 4 3 1 1 [(.int .i64 0)] [(0,(.tmp 40))],none⟩,
 ⟨some 42,.app 5 3 1 8 (.tmp 39) (.tmp 41),none⟩,
 ⟨some 43,.fad 1 (.tmp 6),none⟩,
 ⟨none,.st 1 (.tmp 43) (.tmp 42),none⟩])
 .skip)))))
 (.reg [] [⟨some 44,.arith .add .i64 (.tmp 17) (.cst (.d (.int .i64 1))),none⟩,
 ⟨some 17,.mov (.tmp 44),none⟩]))))))))))
 (.reg [6,7] [⟨some 45,.mov (.tmp 3),none⟩,
 ⟨some 46,.ld true 3 (.tmp 6),none⟩,
 ⟨some 47,.bsl 6 113 3 1 [(.agg [(.slice 1 []),(.slice 1 []),(.bool false)])] [(0,(.tmp 46))],none⟩,
 ⟨some 48,.app 7 113 3 56 (.tmp 45) (.tmp 47),none⟩,
 ⟨some 3,.mov (.tmp 48),none⟩])))))
 (.reg [] [⟨some 49,.arith .add .i64 (.tmp 10) (.cst (.d (.int .i64 1))),none⟩,
 ⟨some 10,.mov (.tmp 49),none⟩])))))))))))
 (.seq
 (.reg [] [⟨some 50,.mov (.tmp 3),none⟩,
 ⟨some 2,.mov (.tmp 50),none⟩])
 .ret))))⟩
def tx45:AFun:=⟨95,46,[.tmp 2,.tmp 3],
 (.seq
 (.reg [] [⟨some 2,.mov (.cst (.nils 1)),none⟩,
 ⟨some 3,.mov (.cst (.d (.int .i64 0))),none⟩])
 (.scope
 (.seq
 (.seq
 (.reg [0] [⟨some 15,.mov (.tmp 0),none⟩,
 ⟨some 16,.call 70 [(.tmp 15)],none⟩,
 ⟨some 17,.mov (.tmp 0),none⟩,
 ⟨some 18,.len (.tmp 17),none⟩,
 ⟨some 19,.cmp .eql (.tmp 18) (.cst (.d (.int .i64 0))),none⟩,
 ⟨some 20,.call 37 [(.tmp 19),(.cst (.d (.int .i64 12)))],none⟩,
 ⟨some 21,.bsl 0 30 1 2 [(.int .i64 0),(.int .i64 0)] [(0,(.tmp 16)),(1,(.tmp 20))],none⟩,
 ⟨some 22,.call 33 [(.tmp 21)],none⟩,
 ⟨some 4,.mov (.tmp 22),none⟩])
 (.seq
 (.reg [] [⟨some 23,.mov (.tmp 4),none⟩,
 ⟨some 24,.cmp .neq (.tmp 23) (.cst (.d (.int .i64 0))),none⟩])
 (.cond (.tmp 24)
 (.seq
 (.reg [] [⟨some 25,.mov (.tmp 4),none⟩,
 ⟨some 2,.mov (.cst (.nils 1)),none⟩,
 ⟨some 3,.mov (.tmp 25),none⟩])
 .ret)
 .skip)))
 (.seq
 (.reg [1] [⟨some 26,.mkm 1,none⟩,
 ⟨some 5,.mov (.tmp 26),none⟩])
 (.seq
 (.seq
 (.reg [] [⟨some 27,.mov (.tmp 0),none⟩,
 ⟨some 28,.len (.tmp 27),none⟩,
 ⟨some 29,.mov (.cst (.d (.int .i64 0))),none⟩])
 (.post [0,5] [0,1,2,3]
 (.block 0
 (.keep [0,5,27,28,29] [0,1]
 (.loop
 (.post [0,5,27,28,29] [2,3]
 (.seq
 (.reg [] [⟨some 30,.cmp .lss (.tmp 29) (.tmp 28),none⟩])
 (.seq
 (.cond (.tmp 30)
 .skip
 (.exit 0))
 (.seq
 (.block 1
 (.seq
 (.reg [2] [⟨some 31,.ixa 4 (.tmp 27) (.tmp 29),none⟩,
 ⟨some 32,.ld true 4 (.tmp 31),none⟩,
 ⟨some 7,.alloc 2 [(.d (.int .i64 0)),(.d (.int .i64 0)),(.d (.int .i64 0)),(.nils 1)],none⟩,
 ⟨none,.st 4 (.tmp 7) (.tmp 32),none⟩])
 (.seq
 (.reg [3] [⟨some 34,.mov (.tmp 5),none⟩,
 ⟨some 35,.fad 1 (.tmp 7),none⟩,
 ⟨some 36,.ld false 1 (.tmp 35),none⟩,
 ⟨some 37,.lkp (some .i64) (.agg [(.int .i64 0),(.int .i64 0),(.int .i64 0),(.slice 1 [])]) true (.tmp 34) (.tmp 36),none⟩,
 ⟨some 33,.mov (.tmp 37),none⟩,
 ⟨some 38,.ext 0 (.tmp 33),none⟩,
 ⟨some 39,.ext 1 (.tmp 33),none⟩,
 ⟨some 8,.alloc 3 [(.d (.int .i64 0)),(.d (.int .i64 0)),(.d (.int .i64 0)),(.nils 1)],none⟩,
 ⟨none,.st 4 (.tmp 8) (.tmp 38),none⟩,
 ⟨some 9,.mov (.tmp 39),none⟩])
 (.seq
 (.seq
 (.regd [] [⟨some 40,.fad 0 (.tmp 7),none⟩,
 ⟨some 41,.ld false 1 (.tmp 40),none⟩,
 ⟨some 42,.mov (.tmp 0),none⟩,
 ⟨some 43,.ixa 4 (.tmp 42) (.cst (.d (.int .i64 0))),none⟩,
 ⟨some 44,.fad 0 (.tmp 43),none⟩,
 ⟨some 45,.ld false 1 (.tmp 44),none⟩,
 ⟨some 46,.cmp .neq (.tmp 41) (.tmp 45),none⟩,
 ⟨some 47,.mov (.tmp 46),none⟩,
 ⟨some 48,.fad 2 (.tmp 7),some (47,false)⟩,
 ⟨some 49,.ld false 1 (.tmp 48),some (47,false)⟩,
 ⟨some 50,.mov (.tmp 0),some (47,false)⟩,
 ⟨some 51,.ixa 4 (.tmp 50) (.cst (.d (.int .i64 0))),some (47,false)⟩,
 ⟨some 52,.fad 2 (.tmp 51),some (47,false)⟩,
 ⟨some 53,.ld false 1 (.tmp 52),some (47,false)⟩,
 ⟨some 54,.cmp .neq (.tmp 49) (.tmp 53),some (47,false)⟩,
 ⟨some 55,.pick (.tmp 47) (.cst (.d (.bool true))) (.tmp 54),none⟩,
 ⟨some 56,.mov (.tmp 55),none⟩,
 ⟨some 57,.mov (.tmp 9),some (56,false)⟩,
 ⟨some 58,.mov (.tmp 57),some (56,false)⟩,
 ⟨some 59,.fad 3 (.tmp 8),some (58,true)⟩,
 ⟨some 60,.ld false 1 (.tmp 59),some (58,true)⟩,
 ⟨some 61,.fad 3 (.tmp 7),some (58,true)⟩,
 ⟨some 62,.ld false 1 (.tmp 61),some (58,true)⟩,
 ⟨some 63,.call 71 [(.tmp 60),(.tmp 62)],some (58,true)⟩,
 ⟨some 64,.not (.tmp 63),some (58,true)⟩,
 ⟨some 65,.pick (.tmp 58) (.tmp 64) (.cst (.d (.bool false))),some (56,false)⟩,
 ⟨some 66,.pick (.tmp 56) (.cst (.d (.bool true))) (.tmp 65),none⟩] [(0,2),(1,2),(0,3),(1,3),(0,4),(1,4),(0,5),(1,5),(8,10),(9,10),(8,11),(9,11),(8,12),(9,12),(8,13),(9,13),(19,21),(20,21),(19,22),(20,22)])
 (.cond (.tmp 66)
 (.seq
 (.reg [] [⟨some 2,.mov (.cst (.nils 1)),none⟩,
 ⟨some 3,.mov (.cst (.d (.int .i64 24))),none⟩])
 .ret)
 .skip))
 (.reg [] [⟨some 67,.mov (.tmp 5),none⟩,
 ⟨some 68,.fad 1 (.tmp 7),none⟩,
 ⟨some 69,.ld false 1 (.tmp 68),none⟩,
 ⟨some 70,.ld true 4 (.tmp 7),none⟩,
 ⟨none,.mpu (some .i64) (.tmp 67) (.tmp 69) (.tmp 70),none⟩])))))
 (.reg [] [⟨some 71,.arith .add .i64 (.tmp 29) (.cst (.d (.int .i64 1))),none⟩,
 ⟨some 29,.mov (.tmp 71),none⟩]))))))))))
 (.seq
 (.reg [] [⟨some 10,.mov (.cst (.nils 1)),none⟩])
 (.seq
 (.reg [] [⟨some 11,.mov (.cst (.d (.bool true))),none⟩])
 (.seq
 .skip
 (.seq
 (.seq
 (.reg [] [⟨some 72,.mov (.tmp 0),none⟩,
 ⟨some 73,.ixa 4 (.tmp 72) (.cst (.d (.int .i64 0))),none⟩,
 ⟨some 74,.fad 2 (.tmp 73),none⟩,
 ⟨some 75,.ld false 1 (.tmp 74),none⟩,
 ⟨some 76,.mov (.cst (.d (.int .i64 0))),none⟩])
 (.post [10,11] [0,1,2,3,4,5]
 (.block 2
 (.asrow 5 5 1 10
 (.keep [5,10,11,75,76] [0,1,2,3]
 (.loop
 (.post [5,10,11,75,76] [4,5]
 (.seq
 (.reg [] [⟨some 77,.cmp .lss (.tmp 76) (.tmp 75),none⟩])
 (.seq
 (.cond (.tmp 77)
 .skip
 (.exit 2))
 (.seq
 (.block 3
 (.seq
 (.reg [] [⟨some 78,.mov (.tmp 76),none⟩,
 ⟨some 12,.mov (.tmp 78),none⟩])
 (.seq
 (.reg [4] [⟨some 80,.mov (.tmp 5),none⟩,
 ⟨some 81,.mov (.tmp 12),none⟩,
 ⟨some 82,.lkp (some .i64) (.agg [(.int .i64 0),(.int .i64 0),(.int .i64 0),(.slice 1 [])]) true (.tmp 80) (.tmp 81),none⟩,
 ⟨some 79,.mov (.tmp 82),none⟩,
 ⟨some 83,.ext 0 (.tmp 79),none⟩,
 ⟨some 84,.ext 1 (.tmp 79),none⟩,
 ⟨some 13,.alloc 4 [(.d (.int .i64 0)),(.d (.int .i64 0)),(.d (.int .i64 0)),(.nils 1)],none⟩,
 ⟨none,.st 4 (.tmp 13) (.tmp 83),none⟩,
 ⟨some 14,.mov (.tmp 84),none⟩])
 (.seq
 (.seq
 (.reg [] [⟨some 85,.mov (.tmp 14),none⟩,
 ⟨some 86,.not (.tmp 85),none⟩])
 (.cond (.tmp 86)
 (.seq
 (.reg [] [⟨some 11,.mov (.cst (.d (.bool false))),none⟩])
 (.exit 2))
 .skip))
 (.reg [5] [⟨some 87,.mov (.tmp 10),none⟩,
 ⟨some 88,.fad 3 (.tmp 13),none⟩,
 ⟨some 89,.ld false 1 (.tmp 88),none⟩,
 ⟨some 90,.app 5 5 1 1 (.tmp 87) (.tmp 89),none⟩,
 ⟨some 10,.mov (.tmp 90),none⟩])))))
 (.reg [] [⟨some 91,.arith .add .i64 (.tmp 76) (.cst (.d (.int .i64 1))),none⟩,
 ⟨some 76,.mov (.tmp 91),none⟩])))))))))))
 (.seq
 (.seq
 (.reg [] [⟨some 92,.mov (.tmp 11),none⟩,
 ⟨some 93,.not (.tmp 92),none⟩])
 (.cond (.tmp 93)
 (.seq
 (.reg [] [⟨some 2,.mov (.cst (.nils 1)),none⟩,
 ⟨some 3,.mov (.cst (.d (.int .i64 16))),none⟩])
 .ret)
 .skip))
 (.seq
 (.reg [] [⟨some 94,.mov (.tmp 10),none⟩,
 ⟨some 2,.mov (.tmp 94),none⟩,
 ⟨some 3,.mov (.cst (.d (.int .i64 0))),none⟩])
 .ret)))))))))))⟩
def tx46:AFun:=⟨10,41,[.tmp 2],
 (.seq
 (.reg [0] [⟨some 1,.cbx 0 3 (.tmp 0),none⟩,
 ⟨some 2,.mov (.cst (.d (.int .i64 0))),none⟩])
 (.seq
 (.reg [] [⟨some 3,.fad 0 (.tmp 1),none⟩,
 ⟨some 4,.ld false 1 (.tmp 3),none⟩,
 ⟨some 5,.fad 1 (.tmp 1),none⟩,
 ⟨some 6,.ld false 1 (.tmp 5),none⟩,
 ⟨some 7,.fad 2 (.tmp 1),none⟩,
 ⟨some 8,.ld false 1 (.tmp 7),none⟩,
 ⟨some 9,.call 72 [(.tmp 4),(.tmp 6),(.tmp 8)],none⟩,
 ⟨some 2,.mov (.tmp 9),none⟩])
 .ret))⟩
def tx47:AFun:=⟨16,40,[.tmp 6],
 (.seq
 (.reg [] [⟨some 6,.mov (.cst (.d (.int .i64 0))),none⟩])
 (.seq
 (.reg [] [⟨some 7,.mov (.tmp 0),none⟩,
 ⟨some 8,.mov (.tmp 1),none⟩,
 ⟨some 9,.cmp .lss (.tmp 7) (.tmp 8),none⟩,
 ⟨some 10,.mov (.tmp 9),none⟩,
 ⟨some 11,.mov (.tmp 0),some (10,false)⟩,
 ⟨some 12,.mov (.tmp 2),some (10,false)⟩,
 ⟨some 13,.cmp .gtr (.tmp 11) (.tmp 12),some (10,false)⟩,
 ⟨some 14,.pick (.tmp 10) (.cst (.d (.bool true))) (.tmp 13),none⟩,
 ⟨some 15,.call 29 [(.tmp 14),(.cst (.d (.int .i64 3)))],none⟩,
 ⟨some 6,.mov (.tmp 15),none⟩])
 .ret))⟩
def tx48:AFun:=⟨15,41,[.tmp 4],
 (.seq
 (.reg [] [⟨some 4,.mov (.cst (.d (.int .i64 0))),none⟩])
 (.seq
 (.reg [0] [⟨some 5,.mov (.tmp 1),none⟩,
 ⟨some 6,.len (.tmp 5),none⟩,
 ⟨some 7,.mov (.tmp 0),none⟩,
 ⟨some 8,.len (.tmp 7),none⟩,
 ⟨some 9,.cmp .neq (.tmp 6) (.tmp 8),none⟩,
 ⟨some 10,.call 29 [(.tmp 9),(.cst (.d (.int .i64 2)))],none⟩,
 ⟨some 11,.mov (.tmp 1),none⟩,
 ⟨some 12,.call 73 [(.tmp 11)],none⟩,
 ⟨some 13,.bsl 0 30 1 2 [(.int .i64 0),(.int .i64 0)] [(0,(.tmp 10)),(1,(.tmp 12))],none⟩,
 ⟨some 14,.call 28 [(.tmp 13)],none⟩,
 ⟨some 4,.mov (.tmp 14),none⟩])
 .ret))⟩
def tx49:AFun:=⟨12,42,[.cell 2 3 true],
 (.seq
 (.reg [0,1] [⟨some 1,.cbx 0 3 (.tmp 0),none⟩,
 ⟨some 2,.alloc 1 [(.d (.int .i64 0)),(.nils 1),(.nils 1)],none⟩])
 (.seq
 (.regd [] [⟨some 3,.fad 0 (.tmp 1),none⟩,
 ⟨some 4,.ld false 1 (.tmp 3),none⟩,
 ⟨some 5,.fad 1 (.tmp 1),none⟩,
 ⟨some 6,.ld false 1 (.tmp 5),none⟩,
 ⟨some 7,.call 50 [(.tmp 6)],none⟩,
 ⟨some 8,.fad 2 (.tmp 1),none⟩,
 ⟨some 9,.ld false 1 (.tmp 8),none⟩,
 ⟨some 10,.call 50 [(.tmp 9)],none⟩,
 ⟨some 11,.build [(.d (.int .i64 0)),(.nils 1),(.nils 1)] [(0,1,(.tmp 4)),(1,1,(.tmp 7)),(2,1,(.tmp 10))],none⟩,
 ⟨none,.st 3 (.tmp 2) (.tmp 11),none⟩] [(0,2),(1,2),(0,3),(1,3),(0,4),(1,4),(0,5),(1,5),(2,5),(3,5),(4,5),(0,6),(1,6),(2,6),(3,6),(4,6),(0,7),(1,7)])
 .ret))⟩
def tx50:AFun:=⟨11,41,[.tmp 2],
 (.seq
 (.reg [] [⟨some 2,.mov (.cst (.nils 1)),none⟩])
 (.seq
 (.reg [0] [⟨some 4,.mov (.tmp 0),none⟩,
 ⟨some 5,.len (.tmp 4),none⟩,
 ⟨some 6,.msl 0 3 1 8 (.int .i64 0) (.tmp 5),none⟩,
 ⟨some 3,.mov (.tmp 6),none⟩])
 (.seq
 (.reg [] [⟨some 7,.mov (.tmp 3),none⟩,
 ⟨some 8,.mov (.tmp 0),none⟩,
 ⟨some 9,.copy 1 (.tmp 7) (.tmp 8),none⟩])
 (.seq
 (.reg [] [⟨some 10,.mov (.tmp 3),none⟩,
 ⟨some 2,.mov (.tmp 10),none⟩])
 .ret))))⟩
def tx51:AFun:=⟨26,40,[.tmp 4],
 (.seq
 (.reg [] [⟨some 4,.mov (.cst (.d (.bool false))),none⟩])
 (.seq
 (.seq
 (.reg [] [⟨some 6,.mov (.tmp 0),none⟩,
 ⟨some 7,.len (.tmp 6),none⟩,
 ⟨some 8,.mov (.tmp 1),none⟩,
 ⟨some 9,.len (.tmp 8),none⟩,
 ⟨some 10,.cmp .neq (.tmp 7) (.tmp 9),none⟩])
 (.cond (.tmp 10)
 (.seq
 (.reg [] [⟨some 4,.mov (.cst (.d (.bool false))),none⟩])
 .ret)
 .skip))
 (.seq
 (.seq
 (.reg [] [⟨some 11,.mov (.tmp 0),none⟩,
 ⟨some 12,.len (.tmp 11),none⟩,
 ⟨some 13,.mov (.cst (.d (.int .i64 0))),none⟩])
 (.post [] []
 (.block 0
 (.keep [0,1,12,13] []
 (.loop
 (.post [0,1,12,13] []
 (.seq
 (.reg [] [⟨some 14,.cmp .lss (.tmp 13) (.tmp 12),none⟩])
 (.seq
 (.cond (.tmp 14)
 .skip
 (.exit 0))
 (.seq
 (.block 1
 (.seq
 (.reg [] [⟨some 15,.mov (.tmp 13),none⟩,
 ⟨some 5,.mov (.tmp 15),none⟩])
 (.seq
 (.regd [] [⟨some 16,.mov (.tmp 0),none⟩,
 ⟨some 17,.mov (.tmp 5),none⟩,
 ⟨some 18,.ixa 1 (.tmp 16) (.tmp 17),none⟩,
 ⟨some 19,.ld false 1 (.tmp 18),none⟩,
 ⟨some 20,.mov (.tmp 1),none⟩,
 ⟨some 21,.mov (.tmp 5),none⟩,
 ⟨some 22,.ixa 1 (.tmp 20) (.tmp 21),none⟩,
 ⟨some 23,.ld false 1 (.tmp 22),none⟩,
 ⟨some 24,.cmp .neq (.tmp 19) (.tmp 23),none⟩] [(0,1),(0,4),(1,4),(2,4),(3,4),(0,5),(1,5),(2,5),(3,5),(4,5),(0,6),(1,6),(2,6),(3,6),(0,7),(1,7),(2,7),(3,7)])
 (.cond (.tmp 24)
 (.seq
 (.reg [] [⟨some 4,.mov (.cst (.d (.bool false))),none⟩])
 .ret)
 .skip))))
 (.reg [] [⟨some 25,.arith .add .i64 (.tmp 13) (.cst (.d (.int .i64 1))),none⟩,
 ⟨some 13,.mov (.tmp 25),none⟩]))))))))))
 (.seq
 (.reg [] [⟨some 4,.mov (.cst (.d (.bool true))),none⟩])
 .ret))))⟩
def tx52:AFun:=⟨22,42,[.tmp 4],
 (.seq
 (.reg [] [⟨some 4,.mov (.cst (.nils 1)),none⟩])
 (.seq
 (.reg [] [⟨some 5,.mov (.cst (.nils 1)),none⟩])
 (.seq
 (.seq
 (.reg [] [⟨some 8,.mov (.tmp 0),none⟩,
 ⟨some 9,.len (.tmp 8),none⟩,
 ⟨some 10,.mov (.cst (.d (.int .i64 0))),none⟩])
 (.post [5] [0,1]
 (.block 0
 (.asrow 1 30 1 5
 (.keep [1,5,8,9,10] []
 (.loop
 (.post [1,5,8,9,10] [0,1]
 (.seq
 (.reg [] [⟨some 11,.cmp .lss (.tmp 10) (.tmp 9),none⟩])
 (.seq
 (.cond (.tmp 11)
 .skip
 (.exit 0))
 (.seq
 (.block 1
 (.seq
 (.reg [] [⟨some 12,.ixa 1 (.tmp 8) (.tmp 10),none⟩,
 ⟨some 13,.ld false 1 (.tmp 12),none⟩,
 ⟨some 7,.mov (.tmp 13),none⟩])
 (.reg [0,1] [⟨some 14,.mov (.tmp 5),none⟩,
 ⟨some 15,.mov (.tmp 1),none⟩,
 ⟨some 16,.mov (.tmp 7),none⟩,
 ⟨some 17,.callv (.tmp 15) [(.tmp 16)],none⟩,
 ⟨some 18,.bsl 0 30 1 1 [(.int .i64 0)] [(0,(.tmp 17))],none⟩,
 ⟨some 19,.app 1 30 1 8 (.tmp 14) (.tmp 18),none⟩,
 ⟨some 5,.mov (.tmp 19),none⟩])))
 (.reg [] [⟨some 20,.arith .add .i64 (.tmp 10) (.cst (.d (.int .i64 1))),none⟩,
 ⟨some 10,.mov (.tmp 20),none⟩])))))))))))
 (.seq
 (.reg [] [⟨some 21,.mov (.tmp 5),none⟩,
 ⟨some 4,.mov (.tmp 21),none⟩])
 .ret))))⟩
def tx53:AFun:=⟨9,40,[.tmp 4],
 (.seq
 (.reg [] [⟨some 4,.mov (.cst (.d (.int .i64 0))),none⟩])
 (.seq
 (.reg [] [⟨some 5,.mov (.tmp 0),none⟩,
 ⟨some 6,.ld false 1 (.tmp 1),none⟩,
 ⟨some 7,.ld false 1 (.tmp 2),none⟩,
 ⟨some 8,.call 47 [(.tmp 5),(.tmp 6),(.tmp 7)],none⟩,
 ⟨some 4,.mov (.tmp 8),none⟩])
 .ret))⟩
def tx54:AFun:=⟨9,40,[.tmp 4],
 (.seq
 (.reg [] [⟨some 4,.mov (.cst (.d (.bool false))),none⟩])
 (.seq
 (.reg [] [⟨some 5,.mov (.tmp 0),none⟩,
 ⟨some 6,.mov (.tmp 1),none⟩,
 ⟨some 7,.call 74 [(.tmp 5),(.tmp 6)],none⟩,
 ⟨some 8,.cmp .geq (.tmp 7) (.cst (.d (.int .i64 0))),none⟩,
 ⟨some 4,.mov (.tmp 8),none⟩])
 .ret))⟩
def tx58:AFun:=⟨8,42,[.cell 2 4 true],
 (.seq
 (.reg [0,1] [⟨some 1,.box 0 4 (.tmp 0),none⟩,
 ⟨some 2,.alloc 1 [(.d (.int .i64 0)),(.d (.int .i64 0)),(.d (.int .i64 0)),(.nils 1)],none⟩])
 (.seq
 (.reg [] [⟨some 3,.fad 3 (.tmp 1),none⟩,
 ⟨some 4,.ld false 1 (.tmp 3),none⟩,
 ⟨some 5,.call 75 [(.tmp 4)],none⟩,
 ⟨some 6,.fad 3 (.tmp 1),none⟩,
 ⟨none,.st 1 (.tmp 6) (.tmp 5),none⟩])
 (.seq
 (.reg [] [⟨some 7,.ld true 4 (.tmp 1),none⟩,
 ⟨none,.st 4 (.tmp 2) (.tmp 7),none⟩])
 .ret)))⟩
def tx59:AFun:=⟨17,42,[.tmp 2],
 (.seq
 (.reg [0] [⟨some 1,.cbx 0 3 (.tmp 0),none⟩,
 ⟨some 2,.mov (.cst (.d (.int .i64 0))),none⟩])
 (.seq
 (.regd [1] [⟨some 3,.fad 0 (.tmp 1),none⟩,
 ⟨some 4,.ld false 1 (.tmp 3),none⟩,
 ⟨some 5,.call 70 [(.tmp 4)],none⟩,
 ⟨some 6,.fad 1 (.tmp 1),none⟩,
 ⟨some 7,.ld false 1 (.tmp 6),none⟩,
 ⟨some 8,.fad 0 (.tmp 1),none⟩,
 ⟨some 9,.ld false 1 (.tmp 8),none⟩,
 ⟨some 10,.len (.tmp 9),none⟩,
 ⟨some 11,.call 36 [(.tmp 7),(.cst (.d (.int .i64 0))),(.tmp 10)],none⟩,
 ⟨some 12,.fad 2 (.tmp 1),none⟩,
 ⟨some 13,.ld false 1 (.tmp 12),none⟩,
 ⟨some 14,.call 36 [(.tmp 13),(.cst (.d (.int .i64 1))),(.cst (.d (.int .i64 8)))],none⟩,
 ⟨some 15,.bsl 1 30 1 3 [(.int .i64 0),(.int .i64 0),(.int .i64 0)] [(0,(.tmp 5)),(1,(.tmp 11)),(2,(.tmp 14))],none⟩,
 ⟨some 16,.call 33 [(.tmp 15)],none⟩,
 ⟨some 2,.mov (.tmp 16),none⟩] [(0,3),(1,3),(2,3),(0,4),(1,4),(2,4),(0,5),(1,5),(2,5),(3,5),(4,5),(0,6),(1,6),(2,6),(3,6),(4,6),(0,7),(1,7),(2,7),(3,7),(4,7),(0,9),(1,9),(2,9),(3,9),(4,9),(5,9),(6,9),(7,9),(8,9),(0,10),(1,10),(2,10),(3,10),(4,10),(5,10),(6,10),(7,10),(8,10)])
 .ret))⟩
def tx60:AFun:=⟨15,42,[.tmp 2],
 (.seq
 (.reg [0] [⟨some 1,.cbx 0 2 (.tmp 0),none⟩,
 ⟨some 2,.mov (.cst (.d (.int .i64 0))),none⟩])
 (.seq
 (.regd [1] [⟨some 3,.fad 1 (.tmp 1),none⟩,
 ⟨some 4,.ld false 1 (.tmp 3),none⟩,
 ⟨some 5,.call 70 [(.tmp 4)],none⟩,
 ⟨some 6,.fad 0 (.tmp 1),none⟩,
 ⟨some 7,.ld false 1 (.tmp 6),none⟩,
 ⟨some 8,.fad 1 (.tmp 1),none⟩,
 ⟨some 9,.ld false 1 (.tmp 8),none⟩,
 ⟨some 10,.len (.tmp 9),none⟩,
 ⟨some 11,.cmp .neq (.tmp 7) (.tmp 10),none⟩,
 ⟨some 12,.call 37 [(.tmp 11),(.cst (.d (.int .i64 2)))],none⟩,
 ⟨some 13,.bsl 1 30 1 2 [(.int .i64 0),(.int .i64 0)] [(0,(.tmp 5)),(1,(.tmp 12))],none⟩,
 ⟨some 14,.call 33 [(.tmp 13)],none⟩,
 ⟨some 2,.mov (.tmp 14),none⟩] [(0,3),(1,3),(2,3),(0,4),(1,4),(2,4),(0,5),(1,5),(2,5),(3,5),(4,5),(0,6),(1,6),(2,6),(3,6),(4,6),(0,7),(1,7),(2,7),(3,7),(4,7),(0,8),(1,8),(2,8)])
 .ret))⟩
def tx61:AFun:=⟨11,41,[.tmp 2],
 (.seq
 (.reg [] [⟨some 2,.mov (.cst (.d (.int .i64 0))),none⟩])
 (.seq
 (.seq
 (.reg [] [⟨some 4,.mov (.tmp 0),none⟩,
 ⟨some 5,.len (.tmp 4),none⟩,
 ⟨some 6,.cmp .gtr (.tmp 5) (.cst (.d (.int .i64 64))),none⟩])
 (.cond (.tmp 6)
 (.seq
 (.reg [] [⟨some 2,.mov (.cst (.d (.int .i64 5))),none⟩])
 .ret)
 .skip))
 (.seq
 (.reg [0] [⟨some 3,.alloc 0 [.undef],none⟩,
 ⟨none,.st 1 (.tmp 3) (.cst (.d (.fn (.func 76) []))),none⟩])
 (.seq
 (.reg [] [⟨some 7,.mov (.tmp 0),none⟩,
 ⟨some 8,.mkf (.func 78) [] [(.tmp 3)],none⟩,
 ⟨some 9,.call 77 [(.tmp 7),(.tmp 8)],none⟩,
 ⟨some 10,.call 33 [(.tmp 9)],none⟩,
 ⟨some 2,.mov (.tmp 10),none⟩])
 .ret))))⟩
def tx62:AFun:=⟨34,42,[.tmp 4],
 (.seq
 (.reg [0,1] [⟨some 2,.cbx 0 3 (.tmp 0),none⟩,
 ⟨some 3,.cbx 1 2 (.tmp 1),none⟩,
 ⟨some 4,.mov (.cst (.d (.bool false))),none⟩])
 (.seq
 (.regd [] [⟨some 5,.fad 0 (.tmp 3),none⟩,
 ⟨some 6,.ld false 1 (.tmp 5),none⟩,
 ⟨some 7,.fad 1 (.tmp 2),none⟩,
 ⟨some 8,.ld false 1 (.tmp 7),none⟩,
 ⟨some 9,.cmp .geq (.tmp 6) (.tmp 8),none⟩,
 ⟨some 10,.mov (.tmp 9),none⟩,
 ⟨some 11,.fad 0 (.tmp 3),some (10,true)⟩,
 ⟨some 12,.ld false 1 (.tmp 11),some (10,true)⟩,
 ⟨some 13,.fad 0 (.tmp 2),some (10,true)⟩,
 ⟨some 14,.ld false 1 (.tmp 13),some (10,true)⟩,
 ⟨some 15,.len (.tmp 14),some (10,true)⟩,
 ⟨some 16,.fad 1 (.tmp 2),some (10,true)⟩,
 ⟨some 17,.ld false 1 (.tmp 16),some (10,true)⟩,
 ⟨some 18,.fad 2 (.tmp 2),some (10,true)⟩,
 ⟨some 19,.ld false 1 (.tmp 18),some (10,true)⟩,
 ⟨some 20,.arith .add .i64 (.tmp 17) (.tmp 19),some (10,true)⟩,
 ⟨some 21,.mini (.tmp 15) (.tmp 20),some (10,true)⟩,
 ⟨some 22,.cmp .leq (.tmp 12) (.tmp 21),some (10,true)⟩,
 ⟨some 23,.pick (.tmp 10) (.tmp 22) (.cst (.d (.bool false))),none⟩,
 ⟨some 24,.mov (.tmp 23),none⟩,
 ⟨some 25,.fad 1 (.tmp 3),some (24,true)⟩,
 ⟨some 26,.ld false 1 (.tmp 25),some (24,true)⟩,
 ⟨some 27,.fad 0 (.tmp 2),some (24,true)⟩,
 ⟨some 28,.ld false 1 (.tmp 27),some (24,true)⟩,
 ⟨some 29,.fad 0 (.tmp 3),some (24,true)⟩,
 ⟨some 30,.ld false 1 (.tmp 29),some (24,true)⟩,
 ⟨some 31,.slc 4 (.tmp 28) none (some (.tmp 30)),some (24,true)⟩,
 ⟨some 32,.call 80 [(.tmp 26),(.tmp 31),(.cst (.d (.fn (.func 81) [])))],some (24,true)⟩,
 ⟨some 33,.pick (.tmp 24) (.tmp 32) (.cst (.d (.bool false))),none⟩,
 ⟨some 4,.mov (.tmp 33),none⟩] [(0,2),(1,2),(0,3),(1,3),(6,8),(7,8),(6,9),(7,9),(6,10),(7,10),(6,11),(7,11),(8,11),(9,11),(10,11),(6,12),(7,12),(8,12),(9,12),(10,12),(6,13),(7,13),(8,13),(9,13),(10,13),(11,13),(12,13),(6,14),(7,14),(8,14),(9,14),(10,14),(11,14),(12,14),(6,15),(7,15),(8,15),(9,15),(10,15),(6,16),(7,16),(20,22),(21,22),(20,23),(21,23),(20,24),(21,24),(22,24),(23,24),(20,25),(21,25),(22,25),(23,25),(20,26),(21,26)])
 .ret))⟩
def tx63:AFun:=⟨12,41,[.tmp 2],
 (.seq
 (.reg [] [⟨some 2,.mov (.cst (.nils 4)),none⟩])
 (.seq
 (.reg [0] [⟨some 4,.mov (.tmp 0),none⟩,
 ⟨some 5,.len (.tmp 4),none⟩,
 ⟨some 6,.msl 0 105 4 48 (.agg [(.int .i64 0),(.int .i64 0),(.int .i64 0),(.slice 1 [])]) (.tmp 5),none⟩,
 ⟨some 3,.mov (.tmp 6),none⟩])
 (.seq
 (.reg [] [⟨some 7,.mov (.tmp 3),none⟩,
 ⟨some 8,.mov (.tmp 0),none⟩,
 ⟨some 9,.copy 4 (.tmp 7) (.tmp 8),none⟩])
 (.seq
 (.reg [] [⟨some 10,.mov (.tmp 3),none⟩,
 ⟨some 11,.calli 82 [(.tmp 10),(.cst (.d (.fn (.func 58) [])))],none⟩,
 ⟨some 2,.mov (.tmp 11),none⟩])
 .ret))))⟩
def tx64:AFun:=⟨11,41,[],
 (.seq
 (.reg [0] [⟨some 2,.cbx 0 5 (.tmp 0),none⟩])
 (.seq
 (.reg [] [⟨some 3,.ld true 2 (.tmp 1),none⟩,
 ⟨some 4,.fad 4 (.tmp 2),none⟩,
 ⟨some 5,.ld false 1 (.tmp 4),none⟩,
 ⟨some 6,.call 65 [(.tmp 3),(.tmp 5)],none⟩])
 (.cond (.tmp 6)
 (.reg [] [⟨some 7,.ld true 2 (.tmp 1),none⟩,
 ⟨some 8,.fad 0 (.tmp 2),none⟩,
 ⟨some 9,.ld true 4 (.tmp 8),none⟩,
 ⟨some 10,.call 66 [(.tmp 7),(.tmp 9)],none⟩,
 ⟨none,.st 2 (.tmp 1) (.tmp 10),none⟩])
 .skip)))⟩
def tx65:AFun:=⟨10,41,[.tmp 4],
 (.seq
 (.reg [0] [⟨some 2,.cbx 0 2 (.tmp 0),none⟩,
 ⟨some 4,.mov (.cst (.d (.bool false))),none⟩])
 (.seq
 (.reg [] [⟨some 5,.mov (.tmp 1),none⟩,
 ⟨some 6,.fad 0 (.tmp 2),none⟩,
 ⟨some 7,.ld false 1 (.tmp 6),none⟩,
 ⟨some 8,.arith .rem .i64 (.tmp 7) (.cst (.d (.int .i64 16))),none⟩,
 ⟨some 9,.cmp .eql (.tmp 5) (.tmp 8),none⟩,
 ⟨some 4,.mov (.tmp 9),none⟩])
 .ret))⟩
def tx66:AFun:=⟨17,45,[.cell 4 2 true],
 (.seq
 (.reg [0,1,2] [⟨some 2,.cbx 0 2 (.tmp 0),none⟩,
 ⟨some 3,.cbx 1 4 (.tmp 1),none⟩,
 ⟨some 4,.alloc 2 [(.d (.int .i64 0)),(.nils 4)],none⟩])
 (.seq
 (.regd [3,4] [⟨some 6,.fad 1 (.tmp 2),none⟩,
 ⟨some 7,.ld false 1 (.tmp 6),none⟩,
 ⟨some 8,.calli 63 [(.tmp 7)],none⟩,
 ⟨some 9,.ld true 4 (.tmp 3),none⟩,
 ⟨some 10,.call 58 [(.tmp 9)],none⟩,
 ⟨some 11,.bsl 3 105 4 1 [(.agg [(.int .i64 0),(.int .i64 0),(.int .i64 0),(.slice 1 [])])] [(0,(.tmp 10))],none⟩,
 ⟨some 12,.app 4 105 4 48 (.tmp 8) (.tmp 11),none⟩,
 ⟨some 5,.mov (.tmp 12),none⟩] [(0,3),(1,3),(2,3)])
 (.seq
 (.reg [] [⟨some 13,.mov (.tmp 5),none⟩,
 ⟨some 14,.len (.tmp 13),none⟩,
 ⟨some 15,.mov (.tmp 5),none⟩,
 ⟨some 16,.build [(.d (.int .i64 0)),(.nils 4)] [(0,1,(.tmp 14)),(1,1,(.tmp 15))],none⟩,
 ⟨none,.st 2 (.tmp 4) (.tmp 16),none⟩])
 .ret)))⟩
def tx67:AFun:=⟨5,40,[.tmp 2],
 (.seq
 (.reg [] [⟨some 2,.mov (.cst (.nils 5)),none⟩])
 (.seq
 (.reg [] [⟨some 3,.mov (.tmp 0),none⟩,
 ⟨some 4,.calli 83 [(.cst (.nils 5)),(.tmp 3)],none⟩,
 ⟨some 2,.mov (.tmp 4),none⟩])
 .ret))⟩
def tx68:AFun:=⟨4,41,[.tmp 2],
 (.seq
 (.reg [0] [⟨some 1,.cbx 0 3 (.tmp 0),none⟩,
 ⟨some 2,.mov (.cst .undef),none⟩])
 (.seq
 (.reg [] [⟨some 3,.mkf (.func 84) [] [(.tmp 1)],none⟩,
 ⟨some 2,.mov (.tmp 3),none⟩])
 .ret))⟩
def tx69:AFun:=⟨30,41,[.tmp 4],
 (.seq
 (.reg [0] [⟨some 2,.cbx 0 3 (.tmp 0),none⟩,
 ⟨some 4,.mov (.cst (.d (.int .i64 0))),none⟩])
 (.seq
 (.reg [] [⟨some 6,.mov (.tmp 1),none⟩,
 ⟨some 7,.fad 1 (.tmp 2),none⟩,
 ⟨some 8,.ld false 1 (.tmp 7),none⟩,
 ⟨some 9,.arith .rem .i64 (.tmp 8) (.cst (.d (.int .i64 16))),none⟩,
 ⟨some 10,.arith .sub .i64 (.tmp 6) (.tmp 9),none⟩,
 ⟨some 11,.arith .add .i64 (.tmp 10) (.cst (.d (.int .i64 16))),none⟩,
 ⟨some 12,.arith .rem .i64 (.tmp 11) (.cst (.d (.int .i64 16))),none⟩,
 ⟨some 5,.mov (.tmp 12),none⟩])
 (.seq
 (.seq
 (.reg [] [⟨some 13,.mov (.tmp 5),none⟩,
 ⟨some 14,.fad 2 (.tmp 2),none⟩,
 ⟨some 15,.ld false 1 (.tmp 14),none⟩,
 ⟨some 16,.fad 0 (.tmp 2),none⟩,
 ⟨some 17,.ld false 1 (.tmp 16),none⟩,
 ⟨some 18,.len (.tmp 17),none⟩,
 ⟨some 19,.fad 1 (.tmp 2),none⟩,
 ⟨some 20,.ld false 1 (.tmp 19),none⟩,
 ⟨some 21,.arith .sub .i64 (.tmp 18) (.tmp 20),none⟩,
 ⟨some 22,.mini (.tmp 15) (.tmp 21),none⟩,
 ⟨some 23,.cmp .leq (.tmp 13) (.tmp 22),none⟩])
 (.cond (.tmp 23)
 (.seq
 (.reg [] [⟨some 24,.fad 1 (.tmp 2),none⟩,
 ⟨some 25,.ld false 1 (.tmp 24),none⟩,
 ⟨some 26,.mov (.tmp 5),none⟩,
 ⟨some 27,.arith .add .i64 (.tmp 25) (.tmp 26),none⟩,
 ⟨some 4,.mov (.tmp 27),none⟩])
 .ret)
 .skip))
 (.seq
 (.reg [] [⟨some 28,.fad 1 (.tmp 2),none⟩,
 ⟨some 29,.ld false 1 (.tmp 28),none⟩,
 ⟨some 4,.mov (.tmp 29),none⟩])
 .ret))))⟩
def tx70:AFun:=⟨9,40,[.tmp 2],
 (.seq
 (.reg [] [⟨some 2,.mov (.cst (.d (.int .i64 0))),none⟩])
 (.seq
 (.seq
 (.reg [] [⟨some 3,.mov (.tmp 0),none⟩,
 ⟨some 4,.len (.tmp 3),none⟩,
 ⟨some 5,.cmp .gtr (.tmp 4) (.cst (.d (.int .i64 64))),none⟩])
 (.cond (.tmp 5)
 (.seq
 (.reg [] [⟨some 2,.mov (.cst (.d (.int .i64 5))),none⟩])
 .ret)
 .skip))
 (.seq
 (.reg [] [⟨some 6,.mov (.tmp 0),none⟩,
 ⟨some 7,.call 85 [(.tmp 6),(.cst (.d (.fn (.func 86) [])))],none⟩,
 ⟨some 8,.call 33 [(.tmp 7)],none⟩,
 ⟨some 2,.mov (.tmp 8),none⟩])
 .ret)))⟩
def tx71:AFun:=⟨26,40,[.tmp 4],
 (.seq
 (.reg [] [⟨some 4,.mov (.cst (.d (.bool false))),none⟩])
 (.seq
 (.seq
 (.reg [] [⟨some 6,.mov (.tmp 0),none⟩,
 ⟨some 7,.len (.tmp 6),none⟩,
 ⟨some 8,.mov (.tmp 1),none⟩,
 ⟨some 9,.len (.tmp 8),none⟩,
 ⟨some 10,.cmp .neq (.tmp 7) (.tmp 9),none⟩])
 (.cond (.tmp 10)
 (.seq
 (.reg [] [⟨some 4,.mov (.cst (.d (.bool false))),none⟩])
 .ret)
 .skip))
 (.seq
 (.seq
 (.reg [] [⟨some 11,.mov (.tmp 0),none⟩,
 ⟨some 12,.len (.tmp 11),none⟩,
 ⟨some 13,.mov (.cst (.d (.int .i64 0))),none⟩])
 (.post [] []
 (.block 0
 (.keep [0,1,12,13] []
 (.loop
 (.post [0,1,12,13] []
 (.seq
 (.reg [] [⟨some 14,.cmp .lss (.tmp 13) (.tmp 12),none⟩])
 (.seq
 (.cond (.tmp 14)
 .skip
 (.exit 0))
 (.seq
 (.block 1
 (.seq
 (.reg [] [⟨some 15,.mov (.tmp 13),none⟩,
 ⟨some 5,.mov (.tmp 15),none⟩])
 (.seq
 (.regd [] [⟨some 16,.mov (.tmp 0),none⟩,
 ⟨some 17,.mov (.tmp 5),none⟩,
 ⟨some 18,.ixa 1 (.tmp 16) (.tmp 17),none⟩,
 ⟨some 19,.ld false 1 (.tmp 18),none⟩,
 ⟨some 20,.mov (.tmp 1),none⟩,
 ⟨some 21,.mov (.tmp 5),none⟩,
 ⟨some 22,.ixa 1 (.tmp 20) (.tmp 21),none⟩,
 ⟨some 23,.ld false 1 (.tmp 22),none⟩,
 ⟨some 24,.cmp .neq (.tmp 19) (.tmp 23),none⟩] [(0,1),(0,4),(1,4),(2,4),(3,4),(0,5),(1,5),(2,5),(3,5),(4,5),(0,6),(1,6),(2,6),(3,6),(0,7),(1,7),(2,7),(3,7)])
 (.cond (.tmp 24)
 (.seq
 (.reg [] [⟨some 4,.mov (.cst (.d (.bool false))),none⟩])
 .ret)
 .skip))))
 (.reg [] [⟨some 25,.arith .add .i64 (.tmp 13) (.cst (.d (.int .i64 1))),none⟩,
 ⟨some 13,.mov (.tmp 25),none⟩]))))))))))
 (.seq
 (.reg [] [⟨some 4,.mov (.cst (.d (.bool true))),none⟩])
 .ret))))⟩
def tx72:AFun:=⟨25,41,[.tmp 6],
 (.seq
 (.reg [] [⟨some 6,.mov (.cst (.d (.int .i64 0))),none⟩])
 (.seq
 (.seq
 (.reg [0] [⟨some 8,.mov (.tmp 0),none⟩,
 ⟨some 9,.call 47 [(.tmp 8),(.cst (.d (.int .i64 0))),(.cst (.d (.int .i64 1000000)))],none⟩,
 ⟨some 10,.mov (.tmp 1),none⟩,
 ⟨some 11,.call 73 [(.tmp 10)],none⟩,
 ⟨some 12,.bsl 0 30 1 2 [(.int .i64 0),(.int .i64 0)] [(0,(.tmp 9)),(1,(.tmp 11))],none⟩,
 ⟨some 13,.call 28 [(.tmp 12)],none⟩,
 ⟨some 7,.mov (.tmp 13),none⟩])
 (.seq
 (.reg [] [⟨some 14,.mov (.tmp 7),none⟩,
 ⟨some 15,.cmp .neq (.tmp 14) (.cst (.d (.int .i64 0))),none⟩,
 ⟨some 16,.mov (.tmp 15),none⟩,
 ⟨some 17,.mov (.tmp 2),some (16,false)⟩,
 ⟨some 18,.len (.tmp 17),some (16,false)⟩,
 ⟨some 19,.cmp .eql (.tmp 18) (.cst (.d (.int .i64 0))),some (16,false)⟩,
 ⟨some 20,.pick (.tmp 16) (.cst (.d (.bool true))) (.tmp 19),none⟩])
 (.cond (.tmp 20)
 (.seq
 (.reg [] [⟨some 21,.mov (.tmp 7),none⟩,
 ⟨some 6,.mov (.tmp 21),none⟩])
 .ret)
 .skip)))
 (.seq
 (.reg [] [⟨some 22,.mov (.tmp 1),none⟩,
 ⟨some 23,.mov (.tmp 2),none⟩,
 ⟨some 24,.call 48 [(.tmp 22),(.tmp 23)],none⟩,
 ⟨some 6,.mov (.tmp 24),none⟩])
 .ret)))⟩
def tx73:AFun:=⟨15,41,[.tmp 2],
 (.seq
 (.reg [] [⟨some 2,.mov (.cst (.d (.int .i64 0))),none⟩])
 (.seq
 (.reg [0] [⟨some 3,.mov (.tmp 0),none⟩,
 ⟨some 4,.len (.tmp 3),none⟩,
 ⟨some 5,.cmp .eql (.tmp 4) (.cst (.d (.int .i64 0))),none⟩,
 ⟨some 6,.call 29 [(.tmp 5),(.cst (.d (.int .i64 12)))],none⟩,
 ⟨some 7,.mov (.tmp 0),none⟩,
 ⟨some 8,.len (.tmp 7),none⟩,
 ⟨some 9,.cmp .gtr (.tmp 8) (.cst (.d (.int .i64 8))),none⟩,
 ⟨some 10,.call 29 [(.tmp 9),(.cst (.d (.int .i64 5)))],none⟩,
 ⟨some 11,.mov (.tmp 0),none⟩,
 ⟨some 12,.call 30 [(.tmp 11),(.cst (.d (.int .i64 0))),(.cst (.d (.int .i64 6)))],none⟩,
 ⟨some 13,.bsl 0 30 1 3 [(.int .i64 0),(.int .i64 0),(.int .i64 0)] [(0,(.tmp 6)),(1,(.tmp 10)),(2,(.tmp 12))],none⟩,
 ⟨some 14,.call 28 [(.tmp 13)],none⟩,
 ⟨some 2,.mov (.tmp 14),none⟩])
 .ret))⟩
def tx74:AFun:=⟨19,40,[.tmp 4],
 (.seq
 (.reg [] [⟨some 4,.mov (.cst (.d (.int .i64 0))),none⟩])
 (.seq
 (.seq
 (.reg [] [⟨some 6,.mov (.tmp 0),none⟩,
 ⟨some 7,.len (.tmp 6),none⟩,
 ⟨some 8,.mov (.cst (.d (.int .i64 0))),none⟩])
 (.post [] []
 (.block 0
 (.keep [0,1,7,8] []
 (.loop
 (.post [0,1,7,8] []
 (.seq
 (.reg [] [⟨some 9,.cmp .lss (.tmp 8) (.tmp 7),none⟩])
 (.seq
 (.cond (.tmp 9)
 .skip
 (.exit 0))
 (.seq
 (.block 1
 (.seq
 (.reg [] [⟨some 10,.mov (.tmp 8),none⟩,
 ⟨some 5,.mov (.tmp 10),none⟩])
 (.seq
 (.reg [] [⟨some 11,.mov (.tmp 1),none⟩,
 ⟨some 12,.mov (.tmp 0),none⟩,
 ⟨some 13,.mov (.tmp 5),none⟩,
 ⟨some 14,.ixa 1 (.tmp 12) (.tmp 13),none⟩,
 ⟨some 15,.ld false 1 (.tmp 14),none⟩,
 ⟨some 16,.cmp .eql (.tmp 11) (.tmp 15),none⟩])
 (.cond (.tmp 16)
 (.seq
 (.reg [] [⟨some 17,.mov (.tmp 5),none⟩,
 ⟨some 4,.mov (.tmp 17),none⟩])
 .ret)
 .skip))))
 (.reg [] [⟨some 18,.arith .add .i64 (.tmp 8) (.cst (.d (.int .i64 1))),none⟩,
 ⟨some 8,.mov (.tmp 18),none⟩]))))))))))
 (.seq
 (.reg [] [⟨some 4,.mov (.cst (.d (.int .i64 (-1)))),none⟩])
 .ret)))⟩
def tx75:AFun:=⟨8,42,[.tmp 2],
 (.seq
 (.reg [] [⟨some 2,.mov (.cst (.nils 1)),none⟩])
 (.seq
 (.seq
 (.reg [] [⟨some 3,.mov (.tmp 0),none⟩,
 ⟨some 4,.isnil false (.tmp 3),none⟩])
 (.cond (.tmp 4)
 (.seq
 (.reg [] [⟨some 2,.mov (.cst (.nils 1)),none⟩])
 .ret)
 .skip))
 (.seq
 (.reg [0,1] [⟨some 5,.bsl 0 5 1 0 [] [],none⟩,
 ⟨some 6,.mov (.tmp 0),none⟩,
 ⟨some 7,.app 1 5 1 1 (.tmp 5) (.tmp 6),none⟩,
 ⟨some 2,.mov (.tmp 7),none⟩])
 .ret)))⟩
def tx76:AFun:=⟨5,40,[.tmp 2],
 (.seq
 (.reg [] [⟨some 2,.mov (.cst (.d (.int .i64 0))),none⟩])
 (.seq
 (.reg [] [⟨some 3,.mov (.tmp 0),none⟩,
 ⟨some 4,.call 36 [(.tmp 3),(.cst (.d (.int .i64 0))),(.cst (.d (.int .i64 7)))],none⟩,
 ⟨some 2,.mov (.tmp 4),none⟩])
 .ret))⟩
def tx77:AFun:=⟨22,43,[.tmp 4],
 (.seq
 (.reg [] [⟨some 4,.mov (.cst (.nils 1)),none⟩])
 (.seq
 (.reg [] [⟨some 5,.mov (.cst (.nils 1)),none⟩])
 (.seq
 (.seq
 (.reg [] [⟨some 8,.mov (.tmp 0),none⟩,
 ⟨some 9,.len (.tmp 8),none⟩,
 ⟨some 10,.mov (.cst (.d (.int .i64 0))),none⟩])
 (.post [5] [0,1,2]
 (.block 0
 (.asrow 2 30 1 5
 (.keep [1,5,8,9,10] []
 (.loop
 (.post [1,5,8,9,10] [0,1,2]
 (.seq
 (.reg [] [⟨some 11,.cmp .lss (.tmp 10) (.tmp 9),none⟩])
 (.seq
 (.cond (.tmp 11)
 .skip
 (.exit 0))
 (.seq
 (.block 1
 (.seq
 (.reg [0] [⟨some 12,.ixa 3 (.tmp 8) (.tmp 10),none⟩,
 ⟨some 13,.ld true 3 (.tmp 12),none⟩,
 ⟨some 7,.alloc 0 [(.nils 1),(.nils 1),(.d (.bool false))],none⟩,
 ⟨none,.st 3 (.tmp 7) (.tmp 13),none⟩])
 (.reg [1,2] [⟨some 14,.mov (.tmp 5),none⟩,
 ⟨some 15,.mov (.tmp 1),none⟩,
 ⟨some 16,.ld true 3 (.tmp 7),none⟩,
 ⟨some 17,.callv (.tmp 15) [(.tmp 16)],none⟩,
 ⟨some 18,.bsl 1 30 1 1 [(.int .i64 0)] [(0,(.tmp 17))],none⟩,
 ⟨some 19,.app 2 30 1 8 (.tmp 14) (.tmp 18),none⟩,
 ⟨some 5,.mov (.tmp 19),none⟩])))
 (.reg [] [⟨some 20,.arith .add .i64 (.tmp 10) (.cst (.d (.int .i64 1))),none⟩,
 ⟨some 10,.mov (.tmp 20),none⟩])))))))))))
 (.seq
 (.reg [] [⟨some 21,.mov (.tmp 5),none⟩,
 ⟨some 4,.mov (.tmp 21),none⟩])
 .ret))))⟩
def tx78:AFun:=⟨16,42,[.tmp 3],
 (.seq
 (.reg [0] [⟨some 2,.cbx 0 3 (.tmp 0),none⟩,
 ⟨some 3,.mov (.cst (.d (.int .i64 0))),none⟩])
 (.seq
 (.regd [1] [⟨some 4,.fad 0 (.tmp 2),none⟩,
 ⟨some 5,.ld false 1 (.tmp 4),none⟩,
 ⟨some 6,.ld false 1 (.tmp 1),none⟩,
 ⟨some 7,.call 79 [(.tmp 5),(.tmp 6)],none⟩,
 ⟨some 8,.call 33 [(.tmp 7)],none⟩,
 ⟨some 9,.fad 1 (.tmp 2),none⟩,
 ⟨some 10,.ld false 1 (.tmp 9),none⟩,
 ⟨some 11,.ld false 1 (.tmp 1),none⟩,
 ⟨some 12,.call 79 [(.tmp 10),(.tmp 11)],none⟩,
 ⟨some 13,.call 33 [(.tmp 12)],none⟩,
 ⟨some 14,.bsl 1 30 1 2 [(.int .i64 0),(.int .i64 0)] [(0,(.tmp 8)),(1,(.tmp 13))],none⟩,
 ⟨some 15,.call 33 [(.tmp 14)],none⟩,
 ⟨some 3,.mov (.tmp 15),none⟩] [(0,2),(1,2),(0,5),(1,5),(2,5),(3,5),(4,5),(0,6),(1,6),(2,6),(3,6),(4,6),(0,7),(1,7),(2,7),(3,7),(4,7),(5,7),(6,7)])
 .ret))⟩
def tx79:AFun:=⟨22,42,[.tmp 4],
 (.seq
 (.reg [] [⟨some 4,.mov (.cst (.nils 1)),none⟩])
 (.seq
 (.reg [] [⟨some 5,.mov (.cst (.nils 1)),none⟩])
 (.seq
 (.seq
 (.reg [] [⟨some 8,.mov (.tmp 0),none⟩,
 ⟨some 9,.len (.tmp 8),none⟩,
 ⟨some 10,.mov (.cst (.d (.int .i64 0))),none⟩])
 (.post [5] [0,1]
 (.block 0
 (.asrow 1 30 1 5
 (.keep [1,5,8,9,10] []
 (.loop
 (.post [1,5,8,9,10] [0,1]
 (.seq
 (.reg [] [⟨some 11,.cmp .lss (.tmp 10) (.tmp 9),none⟩])
 (.seq
 (.cond (.tmp 11)
 .skip
 (.exit 0))
 (.seq
 (.block 1
 (.seq
 (.reg [] [⟨some 12,.ixa 1 (.tmp 8) (.tmp 10),none⟩,
 ⟨some 13,.ld false 1 (.tmp 12),none⟩,
 ⟨some 7,.mov (.tmp 13),none⟩])
 (.reg [0,1] [⟨some 14,.mov (.tmp 5),none⟩,
 ⟨some 15,.mov (.tmp 1),none⟩,
 ⟨some 16,.mov (.tmp 7),none⟩,
 ⟨some 17,.callv (.tmp 15) [(.tmp 16)],none⟩,
 ⟨some 18,.bsl 0 30 1 1 [(.int .i64 0)] [(0,(.tmp 17))],none⟩,
 ⟨some 19,.app 1 30 1 8 (.tmp 14) (.tmp 18),none⟩,
 ⟨some 5,.mov (.tmp 19),none⟩])))
 (.reg [] [⟨some 20,.arith .add .i64 (.tmp 10) (.cst (.d (.int .i64 1))),none⟩,
 ⟨some 10,.mov (.tmp 20),none⟩])))))))))))
 (.seq
 (.reg [] [⟨some 21,.mov (.tmp 5),none⟩,
 ⟨some 4,.mov (.tmp 21),none⟩])
 .ret))))⟩
def tx80:AFun:=⟨32,42,[.tmp 6],
 (.seq
 (.reg [] [⟨some 6,.mov (.cst (.d (.bool false))),none⟩])
 (.seq
 (.seq
 (.reg [] [⟨some 10,.mov (.tmp 0),none⟩,
 ⟨some 11,.len (.tmp 10),none⟩,
 ⟨some 12,.mov (.tmp 1),none⟩,
 ⟨some 13,.len (.tmp 12),none⟩,
 ⟨some 14,.cmp .neq (.tmp 11) (.tmp 13),none⟩])
 (.cond (.tmp 14)
 (.seq
 (.reg [] [⟨some 6,.mov (.cst (.d (.bool false))),none⟩])
 .ret)
 .skip))
 (.seq
 (.seq
 (.reg [] [⟨some 15,.mov (.tmp 0),none⟩,
 ⟨some 16,.len (.tmp 15),none⟩,
 ⟨some 17,.mov (.cst (.d (.int .i64 0))),none⟩])
 (.post [] [0,1]
 (.block 0
 (.keep [1,2,15,16,17] []
 (.loop
 (.post [1,2,15,16,17] [0,1]
 (.seq
 (.reg [] [⟨some 18,.cmp .lss (.tmp 17) (.tmp 16),none⟩])
 (.seq
 (.cond (.tmp 18)
 .skip
 (.exit 0))
 (.seq
 (.block 1
 (.seq
 (.reg [0] [⟨some 19,.mov (.tmp 17),none⟩,
 ⟨some 20,.ixa 4 (.tmp 15) (.tmp 17),none⟩,
 ⟨some 21,.ld true 4 (.tmp 20),none⟩,
 ⟨some 8,.alloc 0 [(.d (.int .i64 0)),(.d (.int .i64 0)),(.d (.int .i64 0)),(.nils 1)],none⟩,
 ⟨some 7,.mov (.tmp 19),none⟩,
 ⟨none,.st 4 (.tmp 8) (.tmp 21),none⟩])
 (.seq
 (.reg [1] [⟨some 22,.mov (.tmp 1),none⟩,
 ⟨some 23,.mov (.tmp 7),none⟩,
 ⟨some 24,.ixa 4 (.tmp 22) (.tmp 23),none⟩,
 ⟨some 25,.ld true 4 (.tmp 24),none⟩,
 ⟨some 9,.alloc 1 [(.d (.int .i64 0)),(.d (.int .i64 0)),(.d (.int .i64 0)),(.nils 1)],none⟩,
 ⟨none,.st 4 (.tmp 9) (.tmp 25),none⟩])
 (.seq
 (.reg [] [⟨some 26,.mov (.tmp 2),none⟩,
 ⟨some 27,.ld true 4 (.tmp 8),none⟩,
 ⟨some 28,.ld true 4 (.tmp 9),none⟩,
 ⟨some 29,.callv (.tmp 26) [(.tmp 27),(.tmp 28)],none⟩,
 ⟨some 30,.not (.tmp 29),none⟩])
 (.cond (.tmp 30)
 (.seq
 (.reg [] [⟨some 6,.mov (.cst (.d (.bool false))),none⟩])
 .ret)
 .skip)))))
 (.reg [] [⟨some 31,.arith .add .i64 (.tmp 17) (.cst (.d (.int .i64 1))),none⟩,
 ⟨some 17,.mov (.tmp 31),none⟩]))))))))))
 (.seq
 (.reg [] [⟨some 6,.mov (.cst (.d (.bool true))),none⟩])
 .ret))))⟩
def tx81:AFun:=⟨31,42,[.tmp 4],
 (.seq
 (.reg [0,1] [⟨some 2,.cbx 0 4 (.tmp 0),none⟩,
 ⟨some 3,.cbx 1 4 (.tmp 1),none⟩,
 ⟨some 4,.mov (.cst (.d (.bool false))),none⟩])
 (.seq
 (.reg [] [⟨some 5,.fad 0 (.tmp 2),none⟩,
 ⟨some 6,.ld false 1 (.tmp 5),none⟩,
 ⟨some 7,.fad 0 (.tmp 3),none⟩,
 ⟨some 8,.ld false 1 (.tmp 7),none⟩,
 ⟨some 9,.cmp .eql (.tmp 6) (.tmp 8),none⟩,
 ⟨some 10,.mov (.tmp 9),none⟩,
 ⟨some 11,.fad 1 (.tmp 2),some (10,true)⟩,
 ⟨some 12,.ld false 1 (.tmp 11),some (10,true)⟩,
 ⟨some 13,.fad 1 (.tmp 3),some (10,true)⟩,
 ⟨some 14,.ld false 1 (.tmp 13),some (10,true)⟩,
 ⟨some 15,.cmp .eql (.tmp 12) (.tmp 14),some (10,true)⟩,
 ⟨some 16,.pick (.tmp 10) (.tmp 15) (.cst (.d (.bool false))),none⟩,
 ⟨some 17,.mov (.tmp 16),none⟩,
 ⟨some 18,.fad 2 (.tmp 2),some (17,true)⟩,
 ⟨some 19,.ld false 1 (.tmp 18),some (17,true)⟩,
 ⟨some 20,.fad 2 (.tmp 3),some (17,true)⟩,
 ⟨some 21,.ld false 1 (.tmp 20),some (17,true)⟩,
 ⟨some 22,.cmp .eql (.tmp 19) (.tmp 21),some (17,true)⟩,
 ⟨some 23,.pick (.tmp 17) (.tmp 22) (.cst (.d (.bool false))),none⟩,
 ⟨some 24,.mov (.tmp 23),none⟩,
 ⟨some 25,.fad 3 (.tmp 2),some (24,true)⟩,
 ⟨some 26,.ld false 1 (.tmp 25),some (24,true)⟩,
 ⟨some 27,.fad 3 (.tmp 3),some (24,true)⟩,
 ⟨some 28,.ld false 1 (.tmp 27),some (24,true)⟩,
 ⟨some 29,.call 71 [(.tmp 26),(.tmp 28)],some (24,true)⟩,
 ⟨some 30,.pick (.tmp 24) (.tmp 29) (.cst (.d (.bool false))),none⟩,
 ⟨some 4,.mov (.tmp 30),none⟩])
 .ret))⟩
def tx82:AFun:=⟨22,43,[.tmp 4],
 (.seq
 (.reg [] [⟨some 4,.mov (.cst (.nils 4)),none⟩])
 (.seq
 (.reg [] [⟨some 5,.mov (.cst (.nils 4)),none⟩])
 (.seq
 (.seq
 (.reg [] [⟨some 8,.mov (.tmp 0),none⟩,
 ⟨some 9,.len (.tmp 8),none⟩,
 ⟨some 10,.mov (.cst (.d (.int .i64 0))),none⟩])
 (.post [5] [0,1,2]
 (.block 0
 (.asrow 2 105 4 5
 (.keep [1,5,8,9,10] []
 (.loop
 (.post [1,5,8,9,10] [0,1,2]
 (.seq
 (.reg [] [⟨some 11,.cmp .lss (.tmp 10) (.tmp 9),none⟩])
 (.seq
 (.cond (.tmp 11)
 .skip
 (.exit 0))
 (.seq
 (.block 1
 (.seq
 (.reg [0] [⟨some 12,.ixa 4 (.tmp 8) (.tmp 10),none⟩,
 ⟨some 13,.ld true 4 (.tmp 12),none⟩,
 ⟨some 7,.alloc 0 [(.d (.int .i64 0)),(.d (.int .i64 0)),(.d (.int .i64 0)),(.nils 1)],none⟩,
 ⟨none,.st 4 (.tmp 7) (.tmp 13),none⟩])
 (.reg [1,2] [⟨some 14,.mov (.tmp 5),none⟩,
 ⟨some 15,.mov (.tmp 1),none⟩,
 ⟨some 16,.ld true 4 (.tmp 7),none⟩,
 ⟨some 17,.callv (.tmp 15) [(.tmp 16)],none⟩,
 ⟨some 18,.bsl 1 105 4 1 [(.agg [(.int .i64 0),(.int .i64 0),(.int .i64 0),(.slice 1 [])])] [(0,(.tmp 17))],none⟩,
 ⟨some 19,.app 2 105 4 48 (.tmp 14) (.tmp 18),none⟩,
 ⟨some 5,.mov (.tmp 19),none⟩])))
 (.reg [] [⟨some 20,.arith .add .i64 (.tmp 10) (.cst (.d (.int .i64 1))),none⟩,
 ⟨some 10,.mov (.tmp 20),none⟩])))))))))))
 (.seq
 (.reg [] [⟨some 21,.mov (.tmp 5),none⟩,
 ⟨some 4,.mov (.tmp 21),none⟩])
 .ret))))⟩
def tx83:AFun:=⟨13,45,[.tmp 4],
 (.seq
 (.reg [0] [⟨some 2,.box 0 1 (.tmp 0),none⟩,
 ⟨some 4,.mov (.cst (.nils 5)),none⟩])
 (.seq
 (.seq
 (.reg [] [⟨some 6,.mov (.tmp 1),none⟩])
 (.block 0
 (.keep [2,6] [0]
 (.rfor 1 (.tmp 6) [7]
 (.reg [2] [⟨some 5,.alloc 2 [(.d (.int .i64 0)),(.d (.int .i64 0)),(.d (.int .i64 0)),(.nils 1),(.d (.int .i64 0))],none⟩,
 ⟨none,.st 5 (.tmp 5) (.tmp 7),none⟩])
 (.post [] [2,3,4]
 (.block 1
 (.reg [3,4] [⟨some 8,.ld false 1 (.tmp 2),none⟩,
 ⟨some 9,.ld true 5 (.tmp 5),none⟩,
 ⟨some 10,.bsl 3 115 5 1 [(.agg [(.int .i64 0),(.int .i64 0),(.int .i64 0),(.slice 1 []),(.int .i64 0)])] [(0,(.tmp 9))],none⟩,
 ⟨some 11,.app 4 115 5 56 (.tmp 8) (.tmp 10),none⟩,
 ⟨none,.st 1 (.tmp 2) (.tmp 11),none⟩])))))))
 (.seq
 (.reg [] [⟨some 12,.ld false 1 (.tmp 2),none⟩,
 ⟨some 4,.mov (.tmp 12),none⟩])
 .ret)))⟩
def tx84:AFun:=⟨30,40,[],
 (.seq
 (.reg [] [⟨some 4,.fad 1 (.tmp 1),none⟩,
 ⟨some 5,.ld false 1 (.tmp 4),none⟩,
 ⟨some 3,.mov (.tmp 5),none⟩])
 (.post [] []
 (.block 0
 (.keep [0,1,3] []
 (.loop
 (.post [0,1,3] []
 (.seq
 (.seq
 (.reg [] [⟨some 6,.mov (.tmp 3),none⟩,
 ⟨some 7,.fad 0 (.tmp 1),none⟩,
 ⟨some 8,.ld false 1 (.tmp 7),none⟩,
 ⟨some 9,.len (.tmp 8),none⟩,
 ⟨some 10,.fad 1 (.tmp 1),none⟩,
 ⟨some 11,.ld false 1 (.tmp 10),none⟩,
 ⟨some 12,.fad 2 (.tmp 1),none⟩,
 ⟨some 13,.ld false 1 (.tmp 12),none⟩,
 ⟨some 14,.arith .add .i64 (.tmp 11) (.tmp 13),none⟩,
 ⟨some 15,.mini (.tmp 9) (.tmp 14),none⟩,
 ⟨some 16,.cmp .lss (.tmp 6) (.tmp 15),none⟩])
 (.cond (.tmp 16)
 .skip
 (.exit 0)))
 (.seq
 (.block 1
 (.seq
 (.reg [] [⟨some 19,.mov (.tmp 0),none⟩,
 ⟨some 20,.fad 0 (.tmp 1),none⟩,
 ⟨some 21,.ld false 1 (.tmp 20),none⟩,
 ⟨some 22,.mov (.tmp 3),none⟩,
 ⟨some 23,.ixa 4 (.tmp 21) (.tmp 22),none⟩,
 ⟨some 24,.ld true 4 (.tmp 23),none⟩,
 ⟨some 25,.mov (.tmp 3),none⟩,
 ⟨some 26,.arith .rem .i64 (.tmp 25) (.cst (.d (.int .i64 16))),none⟩,
 ⟨some 27,.build [(.d (.int .i64 0)),(.d (.int .i64 0)),(.d (.int .i64 0)),(.nils 1),(.d (.int .i64 0))] [(0,4,(.tmp 24)),(4,1,(.tmp 26))],none⟩,
 ⟨some 28,.callv (.tmp 19) [(.tmp 27)],none⟩,
 ⟨some 29,.not (.tmp 28),none⟩])
 (.cond (.tmp 29)
 .ret
 .skip)))
 (.reg [] [⟨some 17,.mov (.tmp 3),none⟩,
 ⟨some 18,.arith .add .i64 (.tmp 17) (.cst (.d (.int .i64 1))),none⟩,
 ⟨some 3,.mov (.tmp 18),none⟩])))))))))⟩
def tx85:AFun:=⟨22,43,[.tmp 4],
 (.seq
 (.reg [] [⟨some 4,.mov (.cst (.nils 1)),none⟩])
 (.seq
 (.reg [] [⟨some 5,.mov (.cst (.nils 1)),none⟩])
 (.seq
 (.seq
 (.reg [] [⟨some 8,.mov (.tmp 0),none⟩,
 ⟨some 9,.len (.tmp 8),none⟩,
 ⟨some 10,.mov (.cst (.d (.int .i64 0))),none⟩])
 (.post [5] [0,1,2]
 (.block 0
 (.asrow 2 30 1 5
 (.keep [1,5,8,9,10] []
 (.loop
 (.post [1,5,8,9,10] [0,1,2]
 (.seq
 (.reg [] [⟨some 11,.cmp .lss (.tmp 10) (.tmp 9),none⟩])
 (.seq
 (.cond (.tmp 11)
 .skip
 (.exit 0))
 (.seq
 (.block 1
 (.seq
 (.reg [0] [⟨some 12,.ixa 4 (.tmp 8) (.tmp 10),none⟩,
 ⟨some 13,.ld true 4 (.tmp 12),none⟩,
 ⟨some 7,.alloc 0 [(.d (.int .i64 0)),(.d (.int .i64 0)),(.d (.int .i64 0)),(.nils 1)],none⟩,
 ⟨none,.st 4 (.tmp 7) (.tmp 13),none⟩])
 (.reg [1,2] [⟨some 14,.mov (.tmp 5),none⟩,
 ⟨some 15,.mov (.tmp 1),none⟩,
 ⟨some 16,.ld true 4 (.tmp 7),none⟩,
 ⟨some 17,.callv (.tmp 15) [(.tmp 16)],none⟩,
 ⟨some 18,.bsl 1 30 1 1 [(.int .i64 0)] [(0,(.tmp 17))],none⟩,
 ⟨some 19,.app 2 30 1 8 (.tmp 14) (.tmp 18),none⟩,
 ⟨some 5,.mov (.tmp 19),none⟩])))
 (.reg [] [⟨some 20,.arith .add .i64 (.tmp 10) (.cst (.d (.int .i64 1))),none⟩,
 ⟨some 10,.mov (.tmp 20),none⟩])))))))))))
 (.seq
 (.reg [] [⟨some 21,.mov (.tmp 5),none⟩,
 ⟨some 4,.mov (.tmp 21),none⟩])
 .ret))))⟩
def tx86:AFun:=⟨30,42,[.tmp 2],
 (.seq
 (.reg [0] [⟨some 1,.cbx 0 4 (.tmp 0),none⟩,
 ⟨some 2,.mov (.cst (.d (.int .i64 0))),none⟩])
 (.seq
 (.seq
 (.reg [] [⟨some 6,.call 87 [],none⟩,
 ⟨some 7,.mov (.cst (.d (.int .i64 0))),none⟩])
 (.post [1] [0,1]
 (.block 0
 (.keep [1,6,7] [0]
 (.loop
 (.post [1,6,7] [1]
 (.seq
 (.reg [] [⟨some 8,.cmp .lss (.tmp 7) (.cst (.d (.int .i64 3))),none⟩])
 (.seq
 (.cond (.tmp 8)
 .skip
 (.exit 0))
 (.seq
 (.block 1
 (.seq
 (.reg [1] [⟨some 9,.ixv true 3 3 (.tmp 6) (.tmp 7),none⟩,
 ⟨some 4,.alloc 1 [.undef,(.d (.int .i64 0)),.undef],none⟩,
 ⟨none,.st 3 (.tmp 4) (.tmp 9),none⟩])
 (.seq
 (.regd [] [⟨some 10,.fad 0 (.tmp 4),none⟩,
 ⟨some 11,.ld false 1 (.tmp 10),none⟩,
 ⟨some 12,.ld true 4 (.tmp 1),none⟩,
 ⟨some 13,.callv (.tmp 11) [(.tmp 12)],none⟩,
 ⟨some 14,.fad 1 (.tmp 4),none⟩,
 ⟨some 15,.ld false 1 (.tmp 14),none⟩,
 ⟨some 16,.fad 2 (.tmp 4),none⟩,
 ⟨some 17,.ld false 1 (.tmp 16),none⟩,
 ⟨some 18,.ld true 4 (.tmp 1),none⟩,
 ⟨some 19,.callv (.tmp 17) [(.tmp 18)],none⟩,
 ⟨some 20,.call 36 [(.tmp 13),(.tmp 15),(.tmp 19)],none⟩,
 ⟨some 5,.mov (.tmp 20),none⟩] [(0,2),(1,2),(0,4),(1,4),(2,4),(3,4),(0,5),(1,5),(2,5),(3,5),(0,6),(1,6),(2,6),(3,6),(4,6),(5,6),(0,7),(1,7),(2,7),(3,7),(4,7),(5,7),(0,8),(1,8),(2,8),(3,8),(4,8),(5,8),(6,8),(7,8),(4,9),(5,9)])
 (.seq
 (.reg [] [⟨some 21,.mov (.tmp 5),none⟩,
 ⟨some 22,.cmp .neq (.tmp 21) (.cst (.d (.int .i64 0))),none⟩])
 (.cond (.tmp 22)
 (.seq
 (.reg [] [⟨some 23,.mov (.tmp 5),none⟩,
 ⟨some 2,.mov (.tmp 23),none⟩])
 .ret)
 .skip)))))
 (.reg [] [⟨some 24,.arith .add .i64 (.tmp 7) (.cst (.d (.int .i64 1))),none⟩,
 ⟨some 7,.mov (.tmp 24),none⟩]))))))))))
 (.seq
 (.reg [] [⟨some 25,.fad 3 (.tmp 1),none⟩,
 ⟨some 26,.ld false 1 (.tmp 25),none⟩,
 ⟨some 27,.len (.tmp 26),none⟩,
 ⟨some 28,.cmp .gtr (.tmp 27) (.cst (.d (.int .i64 12))),none⟩,
 ⟨some 29,.call 37 [(.tmp 28),(.cst (.d (.int .i64 5)))],none⟩,
 ⟨some 2,.mov (.tmp 29),none⟩])
 .ret)))⟩
def tx87:AFun:=⟨5,41,[.cell 0 9 true],
 (.seq
 (.reg [0] [⟨some 0,.alloc 0 [.undef,(.d (.int .i64 0)),.undef,.undef,(.d (.int .i64 0)),.undef,.undef,(.d (.int .i64 0)),.undef],none⟩])
 (.seq
 (.reg [] [⟨some 1,.build [.undef,(.d (.int .i64 0)),.undef] [(0,1,(.cst (.d (.fn (.func 88) [])))),(1,1,(.cst (.d (.int .i64 0)))),(2,1,(.cst (.d (.fn (.func 89) []))))],none⟩,
 ⟨some 2,.build [.undef,(.d (.int .i64 0)),.undef] [(0,1,(.cst (.d (.fn (.func 90) [])))),(1,1,(.cst (.d (.int .i64 1)))),(2,1,(.cst (.d (.fn (.func 91) []))))],none⟩,
 ⟨some 3,.build [.undef,(.d (.int .i64 0)),.undef] [(0,1,(.cst (.d (.fn (.func 92) [])))),(1,1,(.cst (.d (.int .i64 0)))),(2,1,(.cst (.d (.fn (.func 93) []))))],none⟩,
 ⟨some 4,.build [.undef,(.d (.int .i64 0)),.undef,.undef,(.d (.int .i64 0)),.undef,.undef,(.d (.int .i64 0)),.undef] [(0,3,(.tmp 1)),(3,3,(.tmp 2)),(6,3,(.tmp 3))],none⟩,
 ⟨none,.st 9 (.tmp 0) (.tmp 4),none⟩])
 .ret))⟩
def tx88:AFun:=⟨5,41,[.tmp 2],
 (.seq
 (.reg [0] [⟨some 1,.cbx 0 4 (.tmp 0),none⟩,
 ⟨some 2,.mov (.cst (.d (.int .i64 0))),none⟩])
 (.seq
 (.reg [] [⟨some 3,.fad 0 (.tmp 1),none⟩,
 ⟨some 4,.ld false 1 (.tmp 3),none⟩,
 ⟨some 2,.mov (.tmp 4),none⟩])
 .ret))⟩
def tx89:AFun:=⟨3,41,[.tmp 2],
 (.seq
 (.reg [0] [⟨some 1,.cbx 0 4 (.tmp 0),none⟩,
 ⟨some 2,.mov (.cst (.d (.int .i64 0))),none⟩])
 (.seq
 (.reg [] [⟨some 2,.mov (.cst (.d (.int .i64 255))),none⟩])
 .ret))⟩
def tx90:AFun:=⟨5,41,[.tmp 2],
 (.seq
 (.reg [0] [⟨some 1,.cbx 0 4 (.tmp 0),none⟩,
 ⟨some 2,.mov (.cst (.d (.int .i64 0))),none⟩])
 (.seq
 (.reg [] [⟨some 3,.fad 2 (.tmp 1),none⟩,
 ⟨some 4,.ld false 1 (.tmp 3),none⟩,
 ⟨some 2,.mov (.tmp 4),none⟩])
 .ret))⟩
def tx91:AFun:=⟨3,41,[.tmp 2],
 (.seq
 (.reg [0] [⟨some 1,.cbx 0 4 (.tmp 0),none⟩,
 ⟨some 2,.mov (.cst (.d (.int .i64 0))),none⟩])
 (.seq
 (.reg [] [⟨some 2,.mov (.cst (.d (.int .i64 64))),none⟩])
 .ret))⟩
def tx92:AFun:=⟨5,41,[.tmp 2],
 (.seq
 (.reg [0] [⟨some 1,.cbx 0 4 (.tmp 0),none⟩,
 ⟨some 2,.mov (.cst (.d (.int .i64 0))),none⟩])
 (.seq
 (.reg [] [⟨some 3,.fad 1 (.tmp 1),none⟩,
 ⟨some 4,.ld false 1 (.tmp 3),none⟩,
 ⟨some 2,.mov (.tmp 4),none⟩])
 .ret))⟩
def tx93:AFun:=⟨6,41,[.tmp 2],
 (.seq
 (.reg [0] [⟨some 1,.cbx 0 4 (.tmp 0),none⟩,
 ⟨some 2,.mov (.cst (.d (.int .i64 0))),none⟩])
 (.seq
 (.reg [] [⟨some 3,.fad 2 (.tmp 1),none⟩,
 ⟨some 4,.ld false 1 (.tmp 3),none⟩,
 ⟨some 5,.arith .sub .i64 (.tmp 4) (.cst (.d (.int .i64 1))),none⟩,
 ⟨some 2,.mov (.tmp 5),none⟩])
 .ret))⟩
def tabf:TabL:=[
(4,7,tx4),
(17,6,tx17),
(18,4,tx18),
(19,0,tx19),
(20,0,tx20),
(28,0,tx28),
(29,0,tx29),
(30,2,tx30),
(33,0,tx33),
(36,0,tx36),
(37,0,tx37),
(42,4,tx42),
(43,9,tx43),
(44,8,tx44),
(45,6,tx45),
(46,1,tx46),
(47,0,tx47),
(48,1,tx48),
(49,2,tx49),
(50,1,tx50),
(51,0,tx51),
(52,2,tx52),
(53,0,tx53),
(54,0,tx54),
(58,2,tx58),
(59,2,tx59),
(60,2,tx60),
(61,1,tx61),
(62,2,tx62),
(63,1,tx63),
(64,1,tx64),
(65,1,tx65),
(66,5,tx66),
(67,0,tx67),
(68,1,tx68),
(69,1,tx69),
(70,0,tx70),
(71,0,tx71),
(72,1,tx72),
(73,1,tx73),
(74,0,tx74),
(75,2,tx75),
(76,0,tx76),
(77,3,tx77),
(78,2,tx78),
(79,2,tx79),
(80,2,tx80),
(81,2,tx81),
(82,3,tx82),
(83,5,tx83),
(84,0,tx84),
(85,3,tx85),
(86,2,tx86),
(87,1,tx87),
(88,1,tx88),
(89,1,tx89),
(90,1,tx90),
(91,1,tx91),
(92,1,tx92),
(93,1,tx93)]
theorem tabf_chk:chkT Try.prog tabf=true:=by kernel_rfl
end Vc
