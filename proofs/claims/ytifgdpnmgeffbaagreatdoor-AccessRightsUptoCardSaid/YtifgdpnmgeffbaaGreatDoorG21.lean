import Derived.Test.YtifgdpnmgeffbaaGreatDoorG09
import Derived.Test.YtifgdpnmgeffbaaGreatDoorG11
import Derived.Test.YtifgdpnmgeffbaaGreatDoorG12
import Derived.Test.YtifgdpnmgeffbaaGreatDoorG14
import Derived.Test.YtifgdpnmgeffbaaGreatDoorG16
import Derived.Test.YtifgdpnmgeffbaaGreatDoorG19
import Derived.Test.YtifgdpnmgeffbaaGreatDoorG20
import Derived.Test.YtifgdpnmgeffbaaGreatDoorG10
import Derived.Test.YtifgdpnmgeffbaaGreatDoorG06
import Derived.Test.YtifgdpnmgeffbaaGreatDoorRows
set_option linter.unusedSectionVars false
set_option linter.unusedVariables false
set_option linter.unusedSimpArgs false
set_option maxRecDepth 100000
namespace Vc
open Go Go.Proofs
def tx13:AFun:=⟨414,81,[.tmp 0],
 (.seq
 (.reg [] [⟨some 0,.mov (.cst (.d (.bool false))),none⟩])
 (.seq
 (.reg [] [⟨some 54,.call 96 [],none⟩,
 ⟨some 55,.call 16 [(.tmp 54),(.cst (.d (.str [100,101,115,107]))),(.cst (.d (.str [114,101,97,100]))),(.cst (.d (.str [109,49]))),(.cst (.d (.int .i64 16)))],none⟩,
 ⟨some 53,.mov (.tmp 55),none⟩,
 ⟨some 56,.ext 0 (.tmp 53),none⟩,
 ⟨some 57,.ext 1 (.tmp 53),none⟩,
 ⟨some 1,.mov (.tmp 56),none⟩,
 ⟨some 2,.mov (.tmp 57),none⟩])
 (.seq
 (.reg [] [⟨some 59,.call 96 [],none⟩,
 ⟨some 60,.call 16 [(.tmp 59),(.cst (.d (.str [100,101,115,107]))),(.cst (.d (.str [114,101,97,100]))),(.cst (.d (.str [109,49]))),(.cst (.d (.int .i64 19)))],none⟩,
 ⟨some 58,.mov (.tmp 60),none⟩,
 ⟨some 61,.ext 0 (.tmp 58),none⟩,
 ⟨some 62,.ext 1 (.tmp 58),none⟩,
 ⟨some 3,.mov (.tmp 61),none⟩,
 ⟨some 4,.mov (.tmp 62),none⟩])
 (.seq
 (.reg [] [⟨some 64,.call 96 [],none⟩,
 ⟨some 65,.call 16 [(.tmp 64),(.cst (.d (.str [100,101,115,107]))),(.cst (.d (.str [114,101,97,100]))),(.cst (.d (.str [109,49]))),(.cst (.d (.int .i64 26)))],none⟩,
 ⟨some 63,.mov (.tmp 65),none⟩,
 ⟨some 66,.ext 0 (.tmp 63),none⟩,
 ⟨some 67,.ext 1 (.tmp 63),none⟩,
 ⟨some 5,.mov (.tmp 66),none⟩,
 ⟨some 6,.mov (.tmp 67),none⟩])
 (.seq
 (.reg [] [⟨some 69,.call 96 [],none⟩,
 ⟨some 70,.call 29 [(.tmp 69),(.cst (.d (.str [114,101,97,100]))),(.cst (.d (.str [109,49]))),(.cst (.d (.int .i64 19)))],none⟩,
 ⟨some 68,.mov (.tmp 70),none⟩,
 ⟨some 71,.ext 0 (.tmp 68),none⟩,
 ⟨some 72,.ext 1 (.tmp 68),none⟩,
 ⟨some 7,.mov (.tmp 71),none⟩,
 ⟨some 8,.mov (.tmp 72),none⟩])
 (.seq
 (.reg [] [⟨some 74,.call 96 [],none⟩,
 ⟨some 75,.call 30 [(.tmp 74),(.cst (.d (.str [100,101,115,107]))),(.cst (.d (.str [114,101,97,100]))),(.cst (.d (.str [109,49])))],none⟩,
 ⟨some 73,.mov (.tmp 75),none⟩,
 ⟨some 76,.ext 0 (.tmp 73),none⟩,
 ⟨some 77,.ext 1 (.tmp 73),none⟩,
 ⟨some 9,.mov (.tmp 76),none⟩,
 ⟨some 10,.mov (.tmp 77),none⟩])
 (.seq
 (.reg [0] [⟨some 78,.call 96 [],none⟩,
 ⟨some 79,.bsl 0 3 1 1 [(.int .i64 0)] [(0,(.cst (.d (.int .i64 1))))],none⟩,
 ⟨some 80,.call 17 [(.tmp 78),(.cst (.d (.str [100,101,115,107]))),(.cst (.d (.str [114,101,97,100]))),(.cst (.d (.str [109,49]))),(.cst (.d (.int .i64 16))),(.tmp 79)],none⟩,
 ⟨some 11,.mov (.tmp 80),none⟩])
 (.seq
 (.reg [1] [⟨some 81,.call 96 [],none⟩,
 ⟨some 82,.bsl 1 3 1 2 [(.int .i64 0),(.int .i64 0)] [(0,(.cst (.d (.int .i64 0)))),(1,(.cst (.d (.int .i64 1))))],none⟩,
 ⟨some 83,.call 17 [(.tmp 81),(.cst (.d (.str [100,101,115,107]))),(.cst (.d (.str [114,101,97,100]))),(.cst (.d (.str [109,49]))),(.cst (.d (.int .i64 20))),(.tmp 82)],none⟩,
 ⟨some 12,.mov (.tmp 83),none⟩])
 (.seq
 (.reg [2] [⟨some 84,.call 96 [],none⟩,
 ⟨some 85,.bsl 2 3 1 2 [(.int .i64 0),(.int .i64 0)] [(0,(.cst (.d (.int .i64 0)))),(1,(.cst (.d (.int .i64 1))))],none⟩,
 ⟨some 86,.call 17 [(.tmp 84),(.cst (.d (.str [100,101,115,107]))),(.cst (.d (.str [114,101,97,100]))),(.cst (.d (.str [109,49]))),(.cst (.d (.int .i64 19))),(.tmp 85)],none⟩,
 ⟨some 13,.mov (.tmp 86),none⟩])
 (.seq
 (.reg [] [⟨some 88,.call 96 [],none⟩,
 ⟨some 89,.call 14 [(.tmp 88),(.cst (.d (.str [115,104,111,112]))),(.cst (.d (.str [114,101,97,100]))),(.cst (.d (.str [109,49]))),(.cst (.d (.int .i64 20)))],none⟩,
 ⟨some 87,.mov (.tmp 89),none⟩,
 ⟨some 90,.ext 0 (.tmp 87),none⟩,
 ⟨some 91,.ext 1 (.tmp 87),none⟩,
 ⟨some 14,.mov (.tmp 90),none⟩,
 ⟨some 15,.mov (.tmp 91),none⟩])
 (.seq
 (.seq
 (.reg [3,4,5,6] [⟨some 92,.mov (.tmp 2),none⟩,
 ⟨some 93,.mov (.tmp 4),none⟩,
 ⟨some 94,.arith .add .i64 (.tmp 92) (.tmp 93),none⟩,
 ⟨some 95,.mov (.tmp 8),none⟩,
 ⟨some 96,.arith .add .i64 (.tmp 94) (.tmp 95),none⟩,
 ⟨some 97,.mov (.tmp 10),none⟩,
 ⟨some 98,.arith .add .i64 (.tmp 96) (.tmp 97),none⟩,
 ⟨some 99,.mov (.tmp 13),none⟩,
 ⟨some 100,.arith .add .i64 (.tmp 98) (.tmp 99),none⟩,
 ⟨some 101,.mov (.tmp 15),none⟩,
 ⟨some 102,.arith .add .i64 (.tmp 100) (.tmp 101),none⟩,
 ⟨some 103,.cmp .neq (.tmp 102) (.cst (.d (.int .i64 0))),none⟩,
 ⟨some 104,.mov (.tmp 103),none⟩,
 ⟨some 105,.mov (.tmp 6),some (104,false)⟩,
 ⟨some 106,.cmp .neq (.tmp 105) (.cst (.d (.int .i64 7))),some (104,false)⟩,
 ⟨some 107,.pick (.tmp 104) (.cst (.d (.bool true))) (.tmp 106),none⟩,
 ⟨some 108,.mov (.tmp 107),none⟩,
 ⟨some 109,.mov (.tmp 11),some (108,false)⟩,
 ⟨some 110,.cmp .neq (.tmp 109) (.cst (.d (.int .i64 19))),some (108,false)⟩,
 ⟨some 111,.pick (.tmp 108) (.cst (.d (.bool true))) (.tmp 110),none⟩,
 ⟨some 112,.mov (.tmp 111),none⟩,
 ⟨some 113,.mov (.tmp 12),some (112,false)⟩,
 ⟨some 114,.cmp .neq (.tmp 113) (.cst (.d (.int .i64 19))),some (112,false)⟩,
 ⟨some 115,.pick (.tmp 112) (.cst (.d (.bool true))) (.tmp 114),none⟩,
 ⟨some 116,.mov (.tmp 115),none⟩,
 ⟨some 117,.mov (.tmp 14),some (116,false)⟩,
 ⟨some 118,.pick (.tmp 116) (.cst (.d (.bool true))) (.tmp 117),none⟩,
 ⟨some 119,.mov (.tmp 118),none⟩,
 ⟨some 120,.mov (.tmp 1),some (119,false)⟩,
 ⟨some 121,.bsl 3 3 1 2 [(.int .i64 0),(.int .i64 0)] [(0,(.cst (.d (.int .i64 0)))),(1,(.cst (.d (.int .i64 1))))],some (119,false)⟩,
 ⟨some 122,.call 28 [(.tmp 120),(.tmp 121)],some (119,false)⟩,
 ⟨some 123,.not (.tmp 122),some (119,false)⟩,
 ⟨some 124,.pick (.tmp 119) (.cst (.d (.bool true))) (.tmp 123),none⟩,
 ⟨some 125,.mov (.tmp 124),none⟩,
 ⟨some 126,.mov (.tmp 3),some (125,false)⟩,
 ⟨some 127,.bsl 4 3 1 1 [(.int .i64 0)] [(0,(.cst (.d (.int .i64 2))))],some (125,false)⟩,
 ⟨some 128,.call 28 [(.tmp 126),(.tmp 127)],some (125,false)⟩,
 ⟨some 129,.not (.tmp 128),some (125,false)⟩,
 ⟨some 130,.pick (.tmp 125) (.cst (.d (.bool true))) (.tmp 129),none⟩,
 ⟨some 131,.mov (.tmp 130),none⟩,
 ⟨some 132,.mov (.tmp 7),some (131,false)⟩,
 ⟨some 133,.bsl 5 9 1 3 [(.str []),(.str []),(.str [])] [(0,(.cst (.d (.str [103,114,105,100])))),(1,(.cst (.d (.str [115,104,111,112])))),(2,(.cst (.d (.str [100,101,115,107]))))],some (131,false)⟩,
 ⟨some 134,.call 34 [(.tmp 132),(.tmp 133)],some (131,false)⟩,
 ⟨some 135,.not (.tmp 134),some (131,false)⟩,
 ⟨some 136,.pick (.tmp 131) (.cst (.d (.bool true))) (.tmp 135),none⟩,
 ⟨some 137,.mov (.tmp 136),none⟩,
 ⟨some 138,.mov (.tmp 9),some (137,false)⟩,
 ⟨some 139,.build [(.d (.int .i64 0)),(.d (.int .i64 0))] [(0,1,(.cst (.d (.int .i64 15)))),(1,1,(.cst (.d (.int .i64 25))))],some (137,false)⟩,
 ⟨some 140,.bsl 6 148 2 1 [(.agg [(.int .i64 0),(.int .i64 0)])] [(0,(.tmp 139))],some (137,false)⟩,
 ⟨some 141,.call 35 [(.tmp 138),(.tmp 140)],some (137,false)⟩,
 ⟨some 142,.not (.tmp 141),some (137,false)⟩,
 ⟨some 143,.pick (.tmp 137) (.cst (.d (.bool true))) (.tmp 142),none⟩])
 (.cond (.tmp 143)
 (.seq
 (.reg [] [⟨some 0,.mov (.cst (.d (.bool false))),none⟩])
 .ret)
 .skip))
 (.seq
 (.reg [7,8] [⟨some 144,.bsl 7 3 1 2 [(.int .i64 0),(.int .i64 0)] [(0,(.cst (.d (.int .i64 0)))),(1,(.cst (.d (.int .i64 1))))],none⟩,
 ⟨some 145,.bsl 8 28 1 1 [(.slice 1 [])] [(0,(.tmp 144))],none⟩,
 ⟨some 16,.mov (.tmp 145),none⟩])
 (.seq
 (.reg [9] [⟨some 147,.bsl 9 3 1 2 [(.int .i64 0),(.int .i64 0)] [(0,(.cst (.d (.int .i64 0)))),(1,(.cst (.d (.int .i64 1))))],none⟩,
 ⟨some 148,.call 37 [(.cst (.d (.int .i64 3))),(.cst (.d (.int .i64 2))),(.cst (.nils 1)),(.tmp 147)],none⟩,
 ⟨some 146,.mov (.tmp 148),none⟩,
 ⟨some 149,.ext 0 (.tmp 146),none⟩,
 ⟨some 150,.ext 1 (.tmp 146),none⟩,
 ⟨some 17,.mov (.tmp 149),none⟩,
 ⟨some 18,.mov (.tmp 150),none⟩])
 (.seq
 (.reg [10] [⟨some 152,.mov (.tmp 16),none⟩,
 ⟨some 153,.bsl 10 3 1 3 [(.int .i64 0),(.int .i64 0),(.int .i64 0)] [(0,(.cst (.d (.int .i64 0)))),(1,(.cst (.d (.int .i64 1)))),(2,(.cst (.d (.int .i64 2))))],none⟩,
 ⟨some 154,.call 37 [(.cst (.d (.int .i64 3))),(.cst (.d (.int .i64 2))),(.tmp 152),(.tmp 153)],none⟩,
 ⟨some 151,.mov (.tmp 154),none⟩,
 ⟨some 155,.ext 0 (.tmp 151),none⟩,
 ⟨some 156,.ext 1 (.tmp 151),none⟩,
 ⟨some 19,.mov (.tmp 155),none⟩,
 ⟨some 20,.mov (.tmp 156),none⟩])
 (.seq
 (.reg [11] [⟨some 158,.mov (.tmp 16),none⟩,
 ⟨some 159,.bsl 11 3 1 2 [(.int .i64 0),(.int .i64 0)] [(0,(.cst (.d (.int .i64 1)))),(1,(.cst (.d (.int .i64 2))))],none⟩,
 ⟨some 160,.call 37 [(.cst (.d (.int .i64 3))),(.cst (.d (.int .i64 2))),(.tmp 158),(.tmp 159)],none⟩,
 ⟨some 157,.mov (.tmp 160),none⟩,
 ⟨some 161,.ext 0 (.tmp 157),none⟩,
 ⟨some 162,.ext 1 (.tmp 157),none⟩,
 ⟨some 21,.mov (.tmp 161),none⟩,
 ⟨some 22,.mov (.tmp 162),none⟩])
 (.seq
 (.reg [12,13] [⟨some 164,.bsl 12 3 1 2 [(.int .i64 0),(.int .i64 0)] [(0,(.cst (.d (.int .i64 0)))),(1,(.cst (.d (.int .i64 1))))],none⟩,
 ⟨some 165,.build [(.nils 1),(.d (.int .i64 0))] [(0,1,(.tmp 164)),(1,1,(.cst (.d (.int .i64 12))))],none⟩,
 ⟨some 166,.bsl 13 155 2 1 [(.agg [(.slice 1 []),(.int .i64 0)])] [(0,(.tmp 165))],none⟩,
 ⟨some 167,.call 48 [(.cst (.d (.int .i64 2))),(.cst (.d (.int .i64 7))),(.tmp 166)],none⟩,
 ⟨some 163,.mov (.tmp 167),none⟩,
 ⟨some 168,.ext 0 (.tmp 163),none⟩,
 ⟨some 169,.ext 1 (.tmp 163),none⟩,
 ⟨some 23,.mov (.tmp 168),none⟩,
 ⟨some 24,.mov (.tmp 169),none⟩])
 (.seq
 (.reg [14,15,16] [⟨some 171,.bsl 14 3 1 2 [(.int .i64 0),(.int .i64 0)] [(0,(.cst (.d (.int .i64 0)))),(1,(.cst (.d (.int .i64 1))))],none⟩,
 ⟨some 172,.build [(.nils 1),(.d (.int .i64 0))] [(0,1,(.tmp 171)),(1,1,(.cst (.d (.int .i64 12))))],none⟩,
 ⟨some 173,.bsl 15 3 1 1 [(.int .i64 0)] [(0,(.cst (.d (.int .i64 0))))],none⟩,
 ⟨some 174,.build [(.nils 1),(.d (.int .i64 0))] [(0,1,(.tmp 173)),(1,1,(.cst (.d (.int .i64 6))))],none⟩,
 ⟨some 175,.bsl 16 155 2 2 [(.agg [(.slice 1 []),(.int .i64 0)]),(.agg [(.slice 1 []),(.int .i64 0)])] [(0,(.tmp 172)),(1,(.tmp 174))],none⟩,
 ⟨some 176,.call 48 [(.cst (.d (.int .i64 2))),(.cst (.d (.int .i64 7))),(.tmp 175)],none⟩,
 ⟨some 170,.mov (.tmp 176),none⟩,
 ⟨some 177,.ext 0 (.tmp 170),none⟩,
 ⟨some 178,.ext 1 (.tmp 170),none⟩,
 ⟨some 25,.mov (.tmp 177),none⟩,
 ⟨some 26,.mov (.tmp 178),none⟩])
 (.seq
 (.reg [17,18] [⟨some 180,.call 97 [(.cst (.d (.int .i64 100))),(.cst (.d (.int .i64 110)))],none⟩,
 ⟨some 181,.call 97 [(.cst (.d (.int .i64 40))),(.cst (.d (.int .i64 42)))],none⟩,
 ⟨some 182,.call 97 [(.cst (.d (.int .i64 50))),(.cst (.d (.int .i64 51)))],none⟩,
 ⟨some 183,.bsl 17 84 2 2 [(.agg [(.int .i64 0),(.int .i64 0)]),(.agg [(.int .i64 0),(.int .i64 0)])] [(0,(.tmp 181)),(1,(.tmp 182))],none⟩,
 ⟨some 184,.call 51 [(.tmp 180),(.tmp 183)],none⟩,
 ⟨some 179,.mov (.tmp 184),none⟩,
 ⟨some 185,.ext 0 (.tmp 179),none⟩,
 ⟨some 186,.ext 1 (.tmp 179),none⟩,
 ⟨some 27,.alloc 18 [(.d (.int .i64 0)),(.d (.int .i64 0))],none⟩,
 ⟨none,.st 2 (.tmp 27) (.tmp 185),none⟩,
 ⟨some 28,.mov (.tmp 186),none⟩])
 (.seq
 (.reg [19] [⟨some 188,.call 97 [(.cst (.d (.int .i64 100))),(.cst (.d (.int .i64 110)))],none⟩,
 ⟨some 189,.call 97 [(.cst (.d (.int .i64 40))),(.cst (.d (.int .i64 42)))],none⟩,
 ⟨some 190,.call 97 [(.cst (.d (.int .i64 50))),(.cst (.d (.int .i64 51)))],none⟩,
 ⟨some 191,.bsl 19 84 2 2 [(.agg [(.int .i64 0),(.int .i64 0)]),(.agg [(.int .i64 0),(.int .i64 0)])] [(0,(.tmp 189)),(1,(.tmp 190))],none⟩,
 ⟨some 192,.call 53 [(.tmp 188),(.tmp 191)],none⟩,
 ⟨some 187,.mov (.tmp 192),none⟩,
 ⟨some 193,.ext 0 (.tmp 187),none⟩,
 ⟨some 194,.ext 1 (.tmp 187),none⟩,
 ⟨some 29,.mov (.tmp 193),none⟩,
 ⟨some 30,.mov (.tmp 194),none⟩])
 (.seq
 (.reg [20,21] [⟨some 196,.call 97 [(.cst (.d (.int .i64 100))),(.cst (.d (.int .i64 110)))],none⟩,
 ⟨some 197,.call 97 [(.cst (.d (.int .i64 40))),(.cst (.d (.int .i64 42)))],none⟩,
 ⟨some 198,.call 97 [(.cst (.d (.int .i64 50))),(.cst (.d (.int .i64 51)))],none⟩,
 ⟨some 199,.call 97 [(.cst (.d (.int .i64 5))),(.cst (.d (.int .i64 15)))],none⟩,
 ⟨some 200,.bsl 20 84 2 3 [(.agg [(.int .i64 0),(.int .i64 0)]),(.agg [(.int .i64 0),(.int .i64 0)]),(.agg [(.int .i64 0),(.int .i64 0)])] [(0,(.tmp 197)),(1,(.tmp 198)),(2,(.tmp 199))],none⟩,
 ⟨some 201,.call 51 [(.tmp 196),(.tmp 200)],none⟩,
 ⟨some 195,.mov (.tmp 201),none⟩,
 ⟨some 202,.ext 0 (.tmp 195),none⟩,
 ⟨some 203,.ext 1 (.tmp 195),none⟩,
 ⟨some 31,.alloc 21 [(.d (.int .i64 0)),(.d (.int .i64 0))],none⟩,
 ⟨none,.st 2 (.tmp 31) (.tmp 202),none⟩,
 ⟨some 32,.mov (.tmp 203),none⟩])
 (.seq
 (.reg [22,23] [⟨some 205,.bsl 22 3 1 2 [(.int .i64 0),(.int .i64 0)] [(0,(.cst (.d (.int .i64 0)))),(1,(.cst (.d (.int .i64 1))))],none⟩,
 ⟨some 206,.build [(.nils 1),(.d (.int .i64 0))] [(0,1,(.tmp 205)),(1,1,(.cst (.d (.int .i64 12))))],none⟩,
 ⟨some 207,.bsl 23 155 2 1 [(.agg [(.slice 1 []),(.int .i64 0)])] [(0,(.tmp 206))],none⟩,
 ⟨some 208,.call 50 [(.cst (.d (.int .i64 2))),(.cst (.d (.int .i64 7))),(.tmp 207),(.cst (.d (.int .i64 2)))],none⟩,
 ⟨some 204,.mov (.tmp 208),none⟩,
 ⟨some 209,.ext 0 (.tmp 204),none⟩,
 ⟨some 210,.ext 1 (.tmp 204),none⟩,
 ⟨some 33,.mov (.tmp 209),none⟩,
 ⟨some 34,.mov (.tmp 210),none⟩])
 (.seq
 (.reg [24,25] [⟨some 212,.bsl 24 3 1 3 [(.int .i64 0),(.int .i64 0),(.int .i64 0)] [(0,(.cst (.d (.int .i64 3)))),(1,(.cst (.d (.int .i64 4)))),(2,(.cst (.d (.int .i64 5))))],none⟩,
 ⟨some 213,.bsl 25 3 1 2 [(.int .i64 0),(.int .i64 0)] [(0,(.cst (.d (.int .i64 0)))),(1,(.cst (.d (.int .i64 2))))],none⟩,
 ⟨some 214,.call 39 [(.tmp 212),(.tmp 213)],none⟩,
 ⟨some 211,.mov (.tmp 214),none⟩,
 ⟨some 215,.ext 0 (.tmp 211),none⟩,
 ⟨some 216,.ext 1 (.tmp 211),none⟩,
 ⟨some 35,.mov (.tmp 215),none⟩,
 ⟨some 36,.mov (.tmp 216),none⟩])
 (.seq
 (.seq
 (.regd [26,27] [⟨some 217,.mov (.tmp 18),none⟩,
 ⟨some 218,.mov (.tmp 20),none⟩,
 ⟨some 219,.arith .add .i64 (.tmp 217) (.tmp 218),none⟩,
 ⟨some 220,.mov (.tmp 22),none⟩,
 ⟨some 221,.arith .add .i64 (.tmp 219) (.tmp 220),none⟩,
 ⟨some 222,.mov (.tmp 24),none⟩,
 ⟨some 223,.arith .add .i64 (.tmp 221) (.tmp 222),none⟩,
 ⟨some 224,.mov (.tmp 26),none⟩,
 ⟨some 225,.arith .add .i64 (.tmp 223) (.tmp 224),none⟩,
 ⟨some 226,.mov (.tmp 28),none⟩,
 ⟨some 227,.arith .add .i64 (.tmp 225) (.tmp 226),none⟩,
 ⟨some 228,.mov (.tmp 30),none⟩,
 ⟨some 229,.arith .add .i64 (.tmp 227) (.tmp 228),none⟩,
 ⟨some 230,.mov (.tmp 32),none⟩,
 ⟨some 231,.arith .add .i64 (.tmp 229) (.tmp 230),none⟩,
 ⟨some 232,.mov (.tmp 34),none⟩,
 ⟨some 233,.arith .add .i64 (.tmp 231) (.tmp 232),none⟩,
 ⟨some 234,.mov (.tmp 36),none⟩,
 ⟨some 235,.arith .add .i64 (.tmp 233) (.tmp 234),none⟩,
 ⟨some 236,.cmp .neq (.tmp 235) (.cst (.d (.int .i64 0))),none⟩,
 ⟨some 237,.mov (.tmp 236),none⟩,
 ⟨some 238,.mov (.tmp 17),some (237,false)⟩,
 ⟨some 239,.not (.tmp 238),some (237,false)⟩,
 ⟨some 240,.pick (.tmp 237) (.cst (.d (.bool true))) (.tmp 239),none⟩,
 ⟨some 241,.mov (.tmp 240),none⟩,
 ⟨some 242,.mov (.tmp 19),some (241,false)⟩,
 ⟨some 243,.pick (.tmp 241) (.cst (.d (.bool true))) (.tmp 242),none⟩,
 ⟨some 244,.mov (.tmp 243),none⟩,
 ⟨some 245,.mov (.tmp 21),some (244,false)⟩,
 ⟨some 246,.not (.tmp 245),some (244,false)⟩,
 ⟨some 247,.pick (.tmp 244) (.cst (.d (.bool true))) (.tmp 246),none⟩,
 ⟨some 248,.mov (.tmp 247),none⟩,
 ⟨some 249,.mov (.tmp 23),some (248,false)⟩,
 ⟨some 250,.call 97 [(.cst (.d (.int .i64 5))),(.cst (.d (.int .i64 7)))],some (248,false)⟩,
 ⟨some 251,.call 97 [(.cst (.d (.int .i64 5))),(.cst (.d (.int .i64 7)))],some (248,false)⟩,
 ⟨some 252,.bsl 26 84 2 2 [(.agg [(.int .i64 0),(.int .i64 0)]),(.agg [(.int .i64 0),(.int .i64 0)])] [(0,(.tmp 250)),(1,(.tmp 251))],some (248,false)⟩,
 ⟨some 253,.call 63 [(.tmp 249),(.tmp 252)],some (248,false)⟩,
 ⟨some 254,.not (.tmp 253),some (248,false)⟩,
 ⟨some 255,.pick (.tmp 248) (.cst (.d (.bool true))) (.tmp 254),none⟩,
 ⟨some 256,.mov (.tmp 255),none⟩,
 ⟨some 257,.mov (.tmp 25),some (256,false)⟩,
 ⟨some 258,.call 97 [(.cst (.d (.int .i64 6))),(.cst (.d (.int .i64 6)))],some (256,false)⟩,
 ⟨some 259,.call 97 [(.cst (.d (.int .i64 6))),(.cst (.d (.int .i64 6)))],some (256,false)⟩,
 ⟨some 260,.bsl 27 84 2 2 [(.agg [(.int .i64 0),(.int .i64 0)]),(.agg [(.int .i64 0),(.int .i64 0)])] [(0,(.tmp 258)),(1,(.tmp 259))],some (256,false)⟩,
 ⟨some 261,.call 63 [(.tmp 257),(.tmp 260)],some (256,false)⟩,
 ⟨some 262,.not (.tmp 261),some (256,false)⟩,
 ⟨some 263,.pick (.tmp 256) (.cst (.d (.bool true))) (.tmp 262),none⟩,
 ⟨some 264,.mov (.tmp 263),none⟩,
 ⟨some 265,.ld true 2 (.tmp 27),some (264,false)⟩,
 ⟨some 266,.call 97 [(.cst (.d (.int .i64 7))),(.cst (.d (.int .i64 20)))],some (264,false)⟩,
 ⟨some 267,.aeq true [0,0] (.tmp 265) (.tmp 266),some (264,false)⟩,
 ⟨some 268,.pick (.tmp 264) (.cst (.d (.bool true))) (.tmp 267),none⟩,
 ⟨some 269,.mov (.tmp 268),none⟩,
 ⟨some 270,.mov (.tmp 29),some (269,false)⟩,
 ⟨some 271,.cmp .neq (.tmp 270) (.cst (.d (.int .i64 1))),some (269,false)⟩,
 ⟨some 272,.pick (.tmp 269) (.cst (.d (.bool true))) (.tmp 271),none⟩,
 ⟨some 273,.mov (.tmp 272),none⟩,
 ⟨some 274,.ld true 2 (.tmp 31),some (273,false)⟩,
 ⟨some 275,.call 97 [(.cst (.d (.int .i64 (-8)))),(.cst (.d (.int .i64 15)))],some (273,false)⟩,
 ⟨some 276,.aeq true [0,0] (.tmp 274) (.tmp 275),some (273,false)⟩,
 ⟨some 277,.pick (.tmp 273) (.cst (.d (.bool true))) (.tmp 276),none⟩,
 ⟨some 278,.mov (.tmp 277),none⟩,
 ⟨some 279,.mov (.tmp 33),some (278,false)⟩,
 ⟨some 280,.not (.tmp 279),some (278,false)⟩,
 ⟨some 281,.pick (.tmp 278) (.cst (.d (.bool true))) (.tmp 280),none⟩,
 ⟨some 282,.mov (.tmp 281),none⟩,
 ⟨some 283,.mov (.tmp 35),some (282,false)⟩,
 ⟨some 284,.cmp .neq (.tmp 283) (.cst (.d (.int .i64 8))),some (282,false)⟩,
 ⟨some 285,.pick (.tmp 282) (.cst (.d (.bool true))) (.tmp 284),none⟩] [(0,1),(0,3),(1,3),(2,3),(0,5),(1,5),(2,5),(3,5),(4,5),(0,7),(1,7),(2,7),(3,7),(4,7),(5,7),(6,7),(0,9),(1,9),(2,9),(3,9),(4,9),(5,9),(6,9),(7,9),(8,9),(0,11),(1,11),(2,11),(3,11),(4,11),(5,11),(6,11),(7,11),(8,11),(9,11),(10,11),(0,13),(1,13),(2,13),(3,13),(4,13),(5,13),(6,13),(7,13),(8,13),(9,13),(10,13),(11,13),(12,13),(0,15),(1,15),(2,15),(3,15),(4,15),(5,15),(6,15),(7,15),(8,15),(9,15),(10,15),(11,15),(12,15),(13,15),(14,15),(0,17),(1,17),(2,17),(3,17),(4,17),(5,17),(6,17),(7,17),(8,17),(9,17),(10,17),(11,17),(12,17),(13,17),(14,17),(15,17),(16,17),(32,33),(32,34),(32,35),(40,41),(40,42),(40,43),(48,49),(57,58)])
 (.cond (.tmp 285)
 (.seq
 (.reg [] [⟨some 0,.mov (.cst (.d (.bool false))),none⟩])
 .ret)
 .skip))
 (.seq
 (.reg [28,29,30] [⟨some 287,.bsl 28 5 1 2 [(.int .u8 0),(.int .u8 0)] [(0,(.cst (.d (.int .u8 1)))),(1,(.cst (.d (.int .u8 2))))],none⟩,
 ⟨some 288,.bsl 29 5 1 1 [(.int .u8 0)] [(0,(.cst (.d (.int .u8 3))))],none⟩,
 ⟨some 289,.bsl 30 111 1 2 [(.slice 1 []),(.slice 1 [])] [(0,(.tmp 287)),(1,(.tmp 288))],none⟩,
 ⟨some 290,.build [(.d (.int .i64 0)),(.nils 1)] [(0,1,(.cst (.d (.int .i64 5)))),(1,1,(.tmp 289))],none⟩,
 ⟨some 291,.call 65 [(.tmp 290)],none⟩,
 ⟨some 286,.mov (.tmp 291),none⟩,
 ⟨some 292,.ext 0 (.tmp 286),none⟩,
 ⟨some 293,.ext 1 (.tmp 286),none⟩,
 ⟨some 37,.mov (.tmp 292),none⟩,
 ⟨some 38,.mov (.tmp 293),none⟩])
 (.seq
 (.reg [31] [⟨some 295,.build [(.d (.int .i64 0)),(.d (.int .i64 0)),(.d (.int .i64 0)),(.d (.int .i64 0)),(.nils 1),(.d (.bool false)),(.d (.bool false))] [(0,1,(.cst (.d (.int .i64 4))))],none⟩,
 ⟨some 296,.call 67 [(.tmp 295),(.cst (.d (.int .i64 5))),(.cst (.d (.int .i64 2))),(.cst (.d (.int .i64 14)))],none⟩,
 ⟨some 294,.mov (.tmp 296),none⟩,
 ⟨some 297,.ext 0 (.tmp 294),none⟩,
 ⟨some 298,.ext 1 (.tmp 294),none⟩,
 ⟨some 39,.alloc 31 [(.d (.int .i64 0)),(.d (.int .i64 0)),(.d (.int .i64 0)),(.d (.int .i64 0)),(.nils 1),(.d (.bool false)),(.d (.bool false))],none⟩,
 ⟨none,.st 7 (.tmp 39) (.tmp 297),none⟩,
 ⟨some 40,.mov (.tmp 298),none⟩])
 (.seq
 (.reg [32] [⟨some 300,.ld true 7 (.tmp 39),none⟩,
 ⟨some 301,.bsl 32 5 1 2 [(.int .u8 0),(.int .u8 0)] [(0,(.cst (.d (.int .u8 1)))),(1,(.cst (.d (.int .u8 2))))],none⟩,
 ⟨some 302,.call 69 [(.tmp 300),(.cst (.d (.int .i64 0))),(.tmp 301)],none⟩,
 ⟨some 299,.mov (.tmp 302),none⟩,
 ⟨some 303,.ext 0 (.tmp 299),none⟩,
 ⟨some 304,.ext 1 (.tmp 299),none⟩,
 ⟨none,.st 7 (.tmp 39) (.tmp 303),none⟩,
 ⟨some 41,.mov (.tmp 304),none⟩])
 (.seq
 (.reg [33] [⟨some 306,.ld true 7 (.tmp 39),none⟩,
 ⟨some 307,.bsl 33 5 1 1 [(.int .u8 0)] [(0,(.cst (.d (.int .u8 3))))],none⟩,
 ⟨some 308,.call 69 [(.tmp 306),(.cst (.d (.int .i64 1))),(.tmp 307)],none⟩,
 ⟨some 305,.mov (.tmp 308),none⟩,
 ⟨some 309,.ext 0 (.tmp 305),none⟩,
 ⟨some 310,.ext 1 (.tmp 305),none⟩,
 ⟨none,.st 7 (.tmp 39) (.tmp 309),none⟩,
 ⟨some 42,.mov (.tmp 310),none⟩])
 (.seq
 (.reg [] [⟨some 312,.ld true 7 (.tmp 39),none⟩,
 ⟨some 313,.call 70 [(.tmp 312)],none⟩,
 ⟨some 311,.mov (.tmp 313),none⟩,
 ⟨some 314,.ext 0 (.tmp 311),none⟩,
 ⟨some 315,.ext 1 (.tmp 311),none⟩,
 ⟨none,.st 7 (.tmp 39) (.tmp 314),none⟩,
 ⟨some 43,.mov (.tmp 315),none⟩])
 (.seq
 (.reg [] [⟨some 317,.ld true 7 (.tmp 39),none⟩,
 ⟨some 318,.call 71 [(.tmp 317)],none⟩,
 ⟨some 316,.mov (.tmp 318),none⟩,
 ⟨some 319,.ext 0 (.tmp 316),none⟩,
 ⟨some 320,.ext 1 (.tmp 316),none⟩,
 ⟨none,.st 7 (.tmp 39) (.tmp 319),none⟩,
 ⟨some 44,.mov (.tmp 320),none⟩])
 (.seq
 (.reg [34] [⟨some 322,.ld true 7 (.tmp 39),none⟩,
 ⟨some 323,.call 73 [(.tmp 322)],none⟩,
 ⟨some 321,.mov (.tmp 323),none⟩,
 ⟨some 324,.ext 0 (.tmp 321),none⟩,
 ⟨some 325,.ext 1 (.tmp 321),none⟩,
 ⟨some 45,.alloc 34 [(.d (.int .i64 0)),(.d (.int .i64 0)),(.d (.int .i64 0)),(.d (.int .i64 0)),(.nils 1),(.d (.bool false)),(.d (.bool false))],none⟩,
 ⟨none,.st 7 (.tmp 45) (.tmp 324),none⟩,
 ⟨some 46,.mov (.tmp 325),none⟩])
 (.seq
 (.reg [35] [⟨some 327,.ld true 7 (.tmp 39),none⟩,
 ⟨some 328,.call 72 [(.tmp 327)],none⟩,
 ⟨some 326,.mov (.tmp 328),none⟩,
 ⟨some 329,.ext 0 (.tmp 326),none⟩,
 ⟨some 330,.ext 1 (.tmp 326),none⟩,
 ⟨some 47,.alloc 35 [(.d (.int .i64 0)),(.d (.int .i64 0)),(.d (.int .i64 0)),(.d (.int .i64 0)),(.nils 1),(.d (.bool false)),(.d (.bool false))],none⟩,
 ⟨none,.st 7 (.tmp 47) (.tmp 329),none⟩,
 ⟨some 48,.mov (.tmp 330),none⟩])
 (.seq
 (.reg [36] [⟨some 332,.build [(.d (.str [])),(.d (.int .i64 0))] [(0,1,(.cst (.d (.str [97])))),(1,1,(.cst (.d (.int .i64 6))))],none⟩,
 ⟨some 333,.build [(.d (.str [])),(.d (.int .i64 0))] [(0,1,(.cst (.d (.str [98])))),(1,1,(.cst (.d (.int .i64 5))))],none⟩,
 ⟨some 334,.build [(.d (.str [])),(.d (.int .i64 0))] [(0,1,(.cst (.d (.str [99])))),(1,1,(.cst (.d (.int .i64 4))))],none⟩,
 ⟨some 335,.bsl 36 164 2 3 [(.agg [(.str []),(.int .i64 0)]),(.agg [(.str []),(.int .i64 0)]),(.agg [(.str []),(.int .i64 0)])] [(0,(.tmp 332)),(1,(.tmp 333)),(2,(.tmp 334))],none⟩,
 ⟨some 336,.calli 86 [(.tmp 335),(.cst (.d (.int .i64 10))),(.cst (.d (.int .i64 3)))],none⟩,
 ⟨some 331,.mov (.tmp 336),none⟩,
 ⟨some 337,.ext 0 (.tmp 331),none⟩,
 ⟨some 338,.ext 1 (.tmp 331),none⟩,
 ⟨some 49,.mov (.tmp 337),none⟩,
 ⟨some 50,.mov (.tmp 338),none⟩])
 (.seq
 (.reg [] [⟨some 340,.call 96 [],none⟩,
 ⟨some 341,.call 98 [(.tmp 340)],none⟩,
 ⟨some 339,.mov (.tmp 341),none⟩,
 ⟨some 342,.ext 0 (.tmp 339),none⟩,
 ⟨some 343,.ext 1 (.tmp 339),none⟩,
 ⟨some 51,.mov (.tmp 342),none⟩,
 ⟨some 52,.mov (.tmp 343),none⟩])
 (.seq
 (.reg [37,38,39,40] [⟨some 344,.mov (.tmp 38),none⟩,
 ⟨some 345,.mov (.tmp 40),none⟩,
 ⟨some 346,.arith .add .i64 (.tmp 344) (.tmp 345),none⟩,
 ⟨some 347,.mov (.tmp 41),none⟩,
 ⟨some 348,.arith .add .i64 (.tmp 346) (.tmp 347),none⟩,
 ⟨some 349,.mov (.tmp 42),none⟩,
 ⟨some 350,.arith .add .i64 (.tmp 348) (.tmp 349),none⟩,
 ⟨some 351,.mov (.tmp 43),none⟩,
 ⟨some 352,.arith .add .i64 (.tmp 350) (.tmp 351),none⟩,
 ⟨some 353,.mov (.tmp 44),none⟩,
 ⟨some 354,.arith .add .i64 (.tmp 352) (.tmp 353),none⟩,
 ⟨some 355,.mov (.tmp 46),none⟩,
 ⟨some 356,.arith .add .i64 (.tmp 354) (.tmp 355),none⟩,
 ⟨some 357,.mov (.tmp 48),none⟩,
 ⟨some 358,.arith .add .i64 (.tmp 356) (.tmp 357),none⟩,
 ⟨some 359,.mov (.tmp 50),none⟩,
 ⟨some 360,.arith .add .i64 (.tmp 358) (.tmp 359),none⟩,
 ⟨some 361,.mov (.tmp 52),none⟩,
 ⟨some 362,.arith .add .i64 (.tmp 360) (.tmp 361),none⟩,
 ⟨some 363,.cmp .eql (.tmp 362) (.cst (.d (.int .i64 0))),none⟩,
 ⟨some 364,.mov (.tmp 363),none⟩,
 ⟨some 365,.mov (.tmp 37),some (364,true)⟩,
 ⟨some 366,.cmp .eql (.tmp 365) (.cst (.d (.int .i64 14))),some (364,true)⟩,
 ⟨some 367,.pick (.tmp 364) (.tmp 366) (.cst (.d (.bool false))),none⟩,
 ⟨some 368,.mov (.tmp 367),none⟩,
 ⟨some 369,.fad 0 (.tmp 39),some (368,true)⟩,
 ⟨some 370,.ld false 1 (.tmp 369),some (368,true)⟩,
 ⟨some 371,.cmp .eql (.tmp 370) (.cst (.d (.int .i64 5))),some (368,true)⟩,
 ⟨some 372,.pick (.tmp 368) (.tmp 371) (.cst (.d (.bool false))),none⟩,
 ⟨some 373,.mov (.tmp 372),none⟩,
 ⟨some 374,.fad 1 (.tmp 39),some (373,true)⟩,
 ⟨some 375,.ld false 1 (.tmp 374),some (373,true)⟩,
 ⟨some 376,.cmp .eql (.tmp 375) (.cst (.d (.int .i64 4))),some (373,true)⟩,
 ⟨some 377,.pick (.tmp 373) (.tmp 376) (.cst (.d (.bool false))),none⟩,
 ⟨some 378,.mov (.tmp 377),none⟩,
 ⟨some 379,.fad 6 (.tmp 39),some (378,true)⟩,
 ⟨some 380,.ld false 1 (.tmp 379),some (378,true)⟩,
 ⟨some 381,.pick (.tmp 378) (.tmp 380) (.cst (.d (.bool false))),none⟩,
 ⟨some 382,.mov (.tmp 381),none⟩,
 ⟨some 383,.fad 0 (.tmp 45),some (382,true)⟩,
 ⟨some 384,.ld false 1 (.tmp 383),some (382,true)⟩,
 ⟨some 385,.cmp .eql (.tmp 384) (.cst (.d (.int .i64 4))),some (382,true)⟩,
 ⟨some 386,.pick (.tmp 382) (.tmp 385) (.cst (.d (.bool false))),none⟩,
 ⟨some 387,.mov (.tmp 386),none⟩,
 ⟨some 388,.fad 2 (.tmp 45),some (387,true)⟩,
 ⟨some 389,.ld false 1 (.tmp 388),some (387,true)⟩,
 ⟨some 390,.cmp .eql (.tmp 389) (.cst (.d (.int .i64 0))),some (387,true)⟩,
 ⟨some 391,.pick (.tmp 387) (.tmp 390) (.cst (.d (.bool false))),none⟩,
 ⟨some 392,.mov (.tmp 391),none⟩,
 ⟨some 393,.fad 0 (.tmp 47),some (392,true)⟩,
 ⟨some 394,.ld false 1 (.tmp 393),some (392,true)⟩,
 ⟨some 395,.cmp .eql (.tmp 394) (.cst (.d (.int .i64 5))),some (392,true)⟩,
 ⟨some 396,.pick (.tmp 392) (.tmp 395) (.cst (.d (.bool false))),none⟩,
 ⟨some 397,.mov (.tmp 396),none⟩,
 ⟨some 398,.fad 6 (.tmp 47),some (397,true)⟩,
 ⟨some 399,.ld false 1 (.tmp 398),some (397,true)⟩,
 ⟨some 400,.not (.tmp 399),some (397,true)⟩,
 ⟨some 401,.pick (.tmp 397) (.tmp 400) (.cst (.d (.bool false))),none⟩,
 ⟨some 402,.mov (.tmp 401),none⟩,
 ⟨some 403,.mov (.tmp 49),some (402,true)⟩,
 ⟨some 404,.bsl 37 3 1 2 [(.int .i64 0),(.int .i64 0)] [(0,(.cst (.d (.int .i64 0)))),(1,(.cst (.d (.int .i64 2))))],some (402,true)⟩,
 ⟨some 405,.bsl 38 3 1 2 [(.int .i64 0),(.int .i64 0)] [(0,(.cst (.d (.int .i64 1)))),(1,(.cst (.d (.int .i64 2))))],some (402,true)⟩,
 ⟨some 406,.bsl 39 3 1 2 [(.int .i64 0),(.int .i64 0)] [(0,(.cst (.d (.int .i64 0)))),(1,(.cst (.d (.int .i64 2))))],some (402,true)⟩,
 ⟨some 407,.bsl 40 28 1 3 [(.slice 1 []),(.slice 1 []),(.slice 1 [])] [(0,(.tmp 404)),(1,(.tmp 405)),(2,(.tmp 406))],some (402,true)⟩,
 ⟨some 408,.calli 91 [(.tmp 403),(.tmp 407)],some (402,true)⟩,
 ⟨some 409,.pick (.tmp 402) (.tmp 408) (.cst (.d (.bool false))),none⟩,
 ⟨some 410,.mov (.tmp 409),none⟩,
 ⟨some 411,.mov (.tmp 51),some (410,true)⟩,
 ⟨some 412,.seq false (.tmp 411) (.cst (.d (.str [111,98,106,101,99,116,32,109,49,32,103,114,105,100,10,103,114,97,110,116,32,103,114,105,100,32,115,104,111,112,32,114,101,97,100,32,109,49,32,49,48,32,50,48,10,103,114,97,110,116,32,115,104,111,112,32,100,101,115,107,32,114,101,97,100,32,109,49,32,49,53,32,51,48,10,103,114,97,110,116,32,103,114,105,100,32,100,101,115,107,32,114,101,97,100,32,109,49,32,49,56,32,50,53,10]))),some (410,true)⟩,
 ⟨some 413,.pick (.tmp 410) (.tmp 412) (.cst (.d (.bool false))),none⟩,
 ⟨some 0,.mov (.tmp 413),none⟩])
 .ret))))))))))))))))))))))))))))))))))⟩
def tx14:AFun:={ jr14 with heap:=43 }
def tx16:AFun:={ jr16 with heap:=43 }
def tx17:AFun:={ jr17 with heap:=44 }
def tx27:AFun:={ jr27 with heap:=47 }
def tx28:AFun:={ ir28 with heap:=40 }
def tx29:AFun:=⟨73,47,[.tmp 8,.tmp 9],
 (.seq
 (.reg [0] [⟨some 4,.cbx 0 2 (.tmp 0),none⟩,
 ⟨some 8,.mov (.cst (.nils 1)),none⟩,
 ⟨some 9,.mov (.cst (.d (.int .i64 0))),none⟩])
 (.seq
 (.reg [1] [⟨some 19,.ld true 2 (.tmp 4),none⟩,
 ⟨some 20,.mov (.tmp 1),none⟩,
 ⟨some 21,.mov (.tmp 2),none⟩,
 ⟨some 22,.build [(.nils 2),(.nils 6),(.d (.str [])),(.d (.str []))] [(0,2,(.tmp 19)),(2,1,(.tmp 20)),(3,1,(.tmp 21))],none⟩,
 ⟨some 10,.alloc 1 [(.nils 2),(.nils 6),(.d (.str [])),(.d (.str []))],none⟩,
 ⟨none,.st 4 (.tmp 10) (.tmp 22),none⟩])
 (.seq
 (.seq
 (.regd [2] [⟨some 23,.ld true 2 (.tmp 4),none⟩,
 ⟨some 24,.call 27 [(.tmp 23)],none⟩,
 ⟨some 25,.ld true 4 (.tmp 10),none⟩,
 ⟨some 26,.call 117 [(.tmp 25)],none⟩,
 ⟨some 27,.mov (.tmp 3),none⟩,
 ⟨some 28,.call 101 [(.tmp 27)],none⟩,
 ⟨some 29,.bsl 2 32 1 3 [(.int .i64 0),(.int .i64 0),(.int .i64 0)] [(0,(.tmp 24)),(1,(.tmp 26)),(2,(.tmp 28))],none⟩,
 ⟨some 30,.call 99 [(.tmp 29)],none⟩,
 ⟨some 11,.mov (.tmp 30),none⟩] [(0,2),(1,2),(0,4),(1,4),(2,4),(3,4)])
 (.seq
 (.reg [] [⟨some 31,.mov (.tmp 11),none⟩,
 ⟨some 32,.cmp .neq (.tmp 31) (.cst (.d (.int .i64 0))),none⟩])
 (.cond (.tmp 32)
 (.seq
 (.reg [] [⟨some 33,.mov (.tmp 11),none⟩,
 ⟨some 8,.mov (.cst (.nils 1)),none⟩,
 ⟨some 9,.mov (.tmp 33),none⟩])
 .ret)
 .skip)))
 (.seq
 (.reg [] [⟨some 35,.fad 0 (.tmp 10),none⟩,
 ⟨some 36,.ld true 2 (.tmp 35),none⟩,
 ⟨some 37,.mov (.tmp 2),none⟩,
 ⟨some 38,.call 107 [(.tmp 36),(.tmp 37)],none⟩,
 ⟨some 34,.mov (.tmp 38),none⟩,
 ⟨some 39,.ext 0 (.tmp 34),none⟩,
 ⟨some 40,.ext 1 (.tmp 34),none⟩,
 ⟨some 12,.mov (.tmp 39),none⟩,
 ⟨some 13,.mov (.tmp 40),none⟩])
 (.seq
 (.reg [3] [⟨some 41,.mov (.tmp 12),none⟩,
 ⟨some 42,.bsl 3 9 1 1 [(.str [])] [(0,(.tmp 41))],none⟩,
 ⟨some 14,.mov (.tmp 42),none⟩])
 (.seq
 (.seq
 (.reg [] [⟨some 43,.fad 1 (.tmp 4),none⟩,
 ⟨some 44,.ld false 1 (.tmp 43),none⟩,
 ⟨some 45,.len (.tmp 44),none⟩,
 ⟨some 46,.mov (.cst (.d (.int .i64 0))),none⟩])
 (.post [14] [0,1,2,3,4,5,6]
 (.block 0
 (.asrow 6 9 1 14
 (.keep [3,10,14,44,45,46] [0,1,2,3]
 (.loop
 (.post [3,10,14,44,45,46] [4,5,6]
 (.seq
 (.reg [] [⟨some 47,.cmp .lss (.tmp 46) (.tmp 45),none⟩])
 (.seq
 (.cond (.tmp 47)
 .skip
 (.exit 0))
 (.seq
 (.block 1
 (.seq
 (.reg [4] [⟨some 48,.ixa 6 (.tmp 44) (.tmp 46),none⟩,
 ⟨some 49,.ld true 6 (.tmp 48),none⟩,
 ⟨some 16,.alloc 4 [(.d (.str [])),(.d (.str [])),(.d (.str [])),(.d (.str [])),(.d (.int .i64 0)),(.d (.int .i64 0))],none⟩,
 ⟨none,.st 6 (.tmp 16) (.tmp 49),none⟩])
 (.seq
 (.reg [] [⟨some 51,.ld true 4 (.tmp 10),none⟩,
 ⟨some 52,.fad 1 (.tmp 16),none⟩,
 ⟨some 53,.ld false 1 (.tmp 52),none⟩,
 ⟨some 54,.mov (.tmp 3),none⟩,
 ⟨some 55,.call 102 [(.tmp 51),(.tmp 53),(.tmp 54)],none⟩,
 ⟨some 50,.mov (.tmp 55),none⟩,
 ⟨some 56,.ext 0 (.tmp 50),none⟩,
 ⟨some 57,.ext 1 (.tmp 50),none⟩,
 ⟨some 17,.mov (.tmp 56),none⟩,
 ⟨some 18,.mov (.tmp 57),none⟩])
 (.seq
 (.reg [] [⟨some 58,.mov (.tmp 18),none⟩,
 ⟨some 59,.mov (.tmp 58),none⟩,
 ⟨some 60,.mov (.tmp 14),some (59,true)⟩,
 ⟨some 61,.fad 1 (.tmp 16),some (59,true)⟩,
 ⟨some 62,.ld false 1 (.tmp 61),some (59,true)⟩,
 ⟨some 63,.call 118 [(.tmp 60),(.tmp 62)],some (59,true)⟩,
 ⟨some 64,.not (.tmp 63),some (59,true)⟩,
 ⟨some 65,.pick (.tmp 59) (.tmp 64) (.cst (.d (.bool false))),none⟩])
 (.cond (.tmp 65)
 (.reg [5,6] [⟨some 66,.mov (.tmp 14),none⟩,
 ⟨some 67,.fad 1 (.tmp 16),none⟩,
 ⟨some 68,.ld false 1 (.tmp 67),none⟩,
 ⟨some 69,.bsl 5 9 1 1 [(.str [])] [(0,(.tmp 68))],none⟩,
 ⟨some 70,.app 6 9 1 16 (.tmp 66) (.tmp 69),none⟩,
 ⟨some 14,.mov (.tmp 70),none⟩])
 .skip)))))
 (.reg [] [⟨some 71,.arith .add .i64 (.tmp 46) (.cst (.d (.int .i64 1))),none⟩,
 ⟨some 46,.mov (.tmp 71),none⟩])))))))))))
 (.seq
 (.reg [] [⟨some 72,.mov (.tmp 14),none⟩,
 ⟨some 8,.mov (.tmp 72),none⟩,
 ⟨some 9,.mov (.cst (.d (.int .i64 0))),none⟩])
 .ret)))))))⟩
def tx30:AFun:=⟨110,48,[.tmp 8,.tmp 9],
 (.seq
 (.reg [0] [⟨some 4,.cbx 0 2 (.tmp 0),none⟩,
 ⟨some 8,.mov (.cst (.nils 2)),none⟩,
 ⟨some 9,.mov (.cst (.d (.int .i64 0))),none⟩])
 (.seq
 (.reg [1] [⟨some 21,.ld true 2 (.tmp 4),none⟩,
 ⟨some 22,.mov (.tmp 2),none⟩,
 ⟨some 23,.mov (.tmp 3),none⟩,
 ⟨some 24,.build [(.nils 2),(.nils 6),(.d (.str [])),(.d (.str []))] [(0,2,(.tmp 21)),(2,1,(.tmp 22)),(3,1,(.tmp 23))],none⟩,
 ⟨some 10,.alloc 1 [(.nils 2),(.nils 6),(.d (.str [])),(.d (.str []))],none⟩,
 ⟨none,.st 4 (.tmp 10) (.tmp 24),none⟩])
 (.seq
 (.seq
 (.reg [] [⟨some 25,.ld true 2 (.tmp 4),none⟩,
 ⟨some 26,.mov (.tmp 1),none⟩,
 ⟨some 27,.ld true 4 (.tmp 10),none⟩,
 ⟨some 28,.call 100 [(.tmp 25),(.tmp 26),(.tmp 27)],none⟩,
 ⟨some 11,.mov (.tmp 28),none⟩])
 (.seq
 (.reg [] [⟨some 29,.mov (.tmp 11),none⟩,
 ⟨some 30,.cmp .neq (.tmp 29) (.cst (.d (.int .i64 0))),none⟩])
 (.cond (.tmp 30)
 (.seq
 (.reg [] [⟨some 31,.mov (.tmp 11),none⟩,
 ⟨some 8,.mov (.cst (.nils 2)),none⟩,
 ⟨some 9,.mov (.tmp 31),none⟩])
 .ret)
 .skip)))
 (.seq
 (.reg [2] [⟨some 32,.bsl 2 3 1 2 [(.int .i64 0),(.int .i64 0)] [(0,(.cst (.d (.int .i64 0)))),(1,(.cst (.d (.int .i64 100001))))],none⟩,
 ⟨some 12,.mov (.tmp 32),none⟩])
 (.seq
 (.seq
 (.reg [] [⟨some 33,.fad 1 (.tmp 4),none⟩,
 ⟨some 34,.ld false 1 (.tmp 33),none⟩,
 ⟨some 35,.len (.tmp 34),none⟩,
 ⟨some 36,.mov (.cst (.d (.int .i64 0))),none⟩])
 (.post [1,10,12] [0,1,2,3,4,5]
 (.block 0
 (.asrow 5 3 1 12
 (.keep [1,10,12,34,35,36] [0,1,2]
 (.loop
 (.post [1,10,12,34,35,36] [3,4,5]
 (.seq
 (.reg [] [⟨some 37,.cmp .lss (.tmp 36) (.tmp 35),none⟩])
 (.seq
 (.cond (.tmp 37)
 .skip
 (.exit 0))
 (.seq
 (.block 1
 (.seq
 (.reg [3] [⟨some 38,.ixa 6 (.tmp 34) (.tmp 36),none⟩,
 ⟨some 39,.ld true 6 (.tmp 38),none⟩,
 ⟨some 14,.alloc 3 [(.d (.str [])),(.d (.str [])),(.d (.str [])),(.d (.str [])),(.d (.int .i64 0)),(.d (.int .i64 0))],none⟩,
 ⟨none,.st 6 (.tmp 14) (.tmp 39),none⟩])
 (.reg [4,5] [⟨some 40,.mov (.tmp 12),none⟩,
 ⟨some 41,.fad 4 (.tmp 14),none⟩,
 ⟨some 42,.fad 0 (.tmp 41),none⟩,
 ⟨some 43,.ld false 1 (.tmp 42),none⟩,
 ⟨some 44,.fad 4 (.tmp 14),none⟩,
 ⟨some 45,.fad 1 (.tmp 44),none⟩,
 ⟨some 46,.ld false 1 (.tmp 45),none⟩,
 ⟨some 47,.bsl 4 3 1 2 [(.int .i64 0),(.int .i64 0)] [(0,(.tmp 43)),(1,(.tmp 46))],none⟩,
 ⟨some 48,.app 5 3 1 8 (.tmp 40) (.tmp 47),none⟩,
 ⟨some 12,.mov (.tmp 48),none⟩])))
 (.reg [] [⟨some 49,.arith .add .i64 (.tmp 36) (.cst (.d (.int .i64 1))),none⟩,
 ⟨some 36,.mov (.tmp 49),none⟩])))))))))))
 (.seq
 (.reg [] [⟨some 50,.mov (.tmp 12),none⟩,
 ⟨some 51,.calli 119 [(.tmp 50)],none⟩])
 (.seq
 (.reg [] [⟨some 52,.mov (.tmp 12),none⟩,
 ⟨some 53,.calli 120 [(.tmp 52)],none⟩,
 ⟨some 12,.mov (.tmp 53),none⟩])
 (.seq
 (.reg [] [⟨some 15,.mov (.cst (.nils 2)),none⟩])
 (.seq
 (.seq
 (.reg [] [⟨some 54,.mov (.tmp 12),none⟩,
 ⟨some 55,.mov (.tmp 12),none⟩,
 ⟨some 56,.len (.tmp 55),none⟩,
 ⟨some 57,.arith .sub .i64 (.tmp 56) (.cst (.d (.int .i64 1))),none⟩,
 ⟨some 58,.slc 1 (.tmp 54) none (some (.tmp 57)),none⟩,
 ⟨some 59,.len (.tmp 58),none⟩,
 ⟨some 60,.mov (.cst (.d (.int .i64 0))),none⟩])
 (.post [15] [0,1,2,3,4,5,6,7]
 (.block 2
 (.asrow 7 148 2 15
 (.keep [1,10,12,15,58,59,60] [0,1,2,3,4,5]
 (.loop
 (.post [1,10,12,15,58,59,60] [6,7]
 (.seq
 (.reg [] [⟨some 61,.cmp .lss (.tmp 60) (.tmp 59),none⟩])
 (.seq
 (.cond (.tmp 61)
 .skip
 (.exit 2))
 (.seq
 (.block 3
 (.seq
 (.reg [] [⟨some 62,.mov (.tmp 60),none⟩,
 ⟨some 63,.ixa 1 (.tmp 58) (.tmp 60),none⟩,
 ⟨some 64,.ld false 1 (.tmp 63),none⟩,
 ⟨some 16,.mov (.tmp 62),none⟩,
 ⟨some 17,.mov (.tmp 64),none⟩])
 (.seq
 (.seq
 (.reg [] [⟨some 66,.ld true 4 (.tmp 10),none⟩,
 ⟨some 67,.mov (.tmp 1),none⟩,
 ⟨some 68,.mov (.tmp 17),none⟩,
 ⟨some 69,.call 102 [(.tmp 66),(.tmp 67),(.tmp 68)],none⟩,
 ⟨some 65,.mov (.tmp 69),none⟩,
 ⟨some 70,.ext 0 (.tmp 65),none⟩,
 ⟨some 71,.ext 1 (.tmp 65),none⟩,
 ⟨some 18,.mov (.tmp 70),none⟩,
 ⟨some 19,.mov (.tmp 71),none⟩])
 (.seq
 (.reg [] [⟨some 72,.mov (.tmp 19),none⟩,
 ⟨some 73,.not (.tmp 72),none⟩])
 (.cond (.tmp 73)
 (.exit 3)
 .skip)))
 (.seq
 (.reg [] [⟨some 74,.mov (.tmp 15),none⟩,
 ⟨some 75,.len (.tmp 74),none⟩,
 ⟨some 20,.mov (.tmp 75),none⟩])
 (.seq
 (.reg [] [⟨some 76,.mov (.tmp 20),none⟩,
 ⟨some 77,.cmp .gtr (.tmp 76) (.cst (.d (.int .i64 0))),none⟩,
 ⟨some 78,.mov (.tmp 77),none⟩,
 ⟨some 79,.mov (.tmp 15),some (78,true)⟩,
 ⟨some 80,.mov (.tmp 20),some (78,true)⟩,
 ⟨some 81,.arith .sub .i64 (.tmp 80) (.cst (.d (.int .i64 1))),some (78,true)⟩,
 ⟨some 82,.ixa 2 (.tmp 79) (.tmp 81),some (78,true)⟩,
 ⟨some 83,.fad 1 (.tmp 82),some (78,true)⟩,
 ⟨some 84,.ld false 1 (.tmp 83),some (78,true)⟩,
 ⟨some 85,.mov (.tmp 17),some (78,true)⟩,
 ⟨some 86,.cmp .eql (.tmp 84) (.tmp 85),some (78,true)⟩,
 ⟨some 87,.pick (.tmp 78) (.tmp 86) (.cst (.d (.bool false))),none⟩])
 (.cond (.tmp 87)
 (.reg [] [⟨some 88,.mov (.tmp 15),none⟩,
 ⟨some 89,.mov (.tmp 20),none⟩,
 ⟨some 90,.arith .sub .i64 (.tmp 89) (.cst (.d (.int .i64 1))),none⟩,
 ⟨some 91,.mov (.tmp 12),none⟩,
 ⟨some 92,.mov (.tmp 16),none⟩,
 ⟨some 93,.arith .add .i64 (.tmp 92) (.cst (.d (.int .i64 1))),none⟩,
 ⟨some 94,.ixa 1 (.tmp 91) (.tmp 93),none⟩,
 ⟨some 95,.ld false 1 (.tmp 94),none⟩,
 ⟨some 96,.ixa 2 (.tmp 88) (.tmp 90),none⟩,
 ⟨some 97,.fad 1 (.tmp 96),none⟩,
 ⟨none,.st 1 (.tmp 97) (.tmp 95),none⟩])
 (.reg [6,7] [⟨some 98,.mov (.tmp 15),none⟩,
 ⟨some 99,.mov (.tmp 17),none⟩,
 ⟨some 100,.mov (.tmp 12),none⟩,
 ⟨some 101,.mov (.tmp 16),none⟩,
 ⟨some 102,.arith .add .i64 (.tmp 101) (.cst (.d (.int .i64 1))),none⟩,
 ⟨some 103,.ixa 1 (.tmp 100) (.tmp 102),none⟩,
 ⟨some 104,.ld false 1 (.tmp 103),none⟩,
 ⟨some 105,.build [(.d (.int .i64 0)),(.d (.int .i64 0))] [(0,1,(.tmp 99)),(1,1,(.tmp 104))],none⟩,
 ⟨some 106,.bsl 6 148 2 1 [(.agg [(.int .i64 0),(.int .i64 0)])] [(0,(.tmp 105))],none⟩,
 ⟨some 107,.app 7 148 2 16 (.tmp 98) (.tmp 106),none⟩,
 ⟨some 15,.mov (.tmp 107),none⟩])))))))
 (.reg [] [⟨some 108,.arith .add .i64 (.tmp 60) (.cst (.d (.int .i64 1))),none⟩,
 ⟨some 60,.mov (.tmp 108),none⟩])))))))))))
 (.seq
 (.reg [] [⟨some 109,.mov (.tmp 15),none⟩,
 ⟨some 8,.mov (.tmp 109),none⟩,
 ⟨some 9,.mov (.cst (.d (.int .i64 0))),none⟩])
 .ret))))))))))⟩
def tx34:AFun:=⟨26,40,[.tmp 4],
 (.seq
 (.reg [] [⟨some 4,.mov (.cst (.d (.bool false))),none⟩])
 (.seq
 (.seq
 (.reg [] [⟨some 6,.mov (.tmp 0),none⟩,
 ⟨some 7,.len (.tmp 6),none⟩,
 ⟨some 8,.mov (.tmp 1),none⟩,
 ⟨some 9,.len (.tmp 8),none⟩,
 ⟨some 10,.cmp .neq (.tmp 7) (.tmp 9),none⟩])
 (.cond (.tmp 10)
 (.seq
 (.reg [] [⟨some 4,.mov (.cst (.d (.bool false))),none⟩])
 .ret)
 .skip))
 (.seq
 (.seq
 (.reg [] [⟨some 5,.mov (.cst (.d (.int .i64 0))),none⟩])
 (.post [] []
 (.block 0
 (.keep [0,1,5] []
 (.loop
 (.post [0,1,5] []
 (.seq
 (.seq
 (.reg [] [⟨some 11,.mov (.tmp 5),none⟩,
 ⟨some 12,.mov (.tmp 0),none⟩,
 ⟨some 13,.len (.tmp 12),none⟩,
 ⟨some 14,.cmp .lss (.tmp 11) (.tmp 13),none⟩])
 (.cond (.tmp 14)
 .skip
 (.exit 0)))
 (.seq
 (.block 1
 (.seq
 (.regd [] [⟨some 17,.mov (.tmp 0),none⟩,
 ⟨some 18,.mov (.tmp 5),none⟩,
 ⟨some 19,.ixa 1 (.tmp 17) (.tmp 18),none⟩,
 ⟨some 20,.ld false 1 (.tmp 19),none⟩,
 ⟨some 21,.mov (.tmp 1),none⟩,
 ⟨some 22,.mov (.tmp 5),none⟩,
 ⟨some 23,.ixa 1 (.tmp 21) (.tmp 22),none⟩,
 ⟨some 24,.ld false 1 (.tmp 23),none⟩,
 ⟨some 25,.seq true (.tmp 20) (.tmp 24),none⟩] [(0,1),(0,4),(1,4),(2,4),(3,4),(0,5),(1,5),(2,5),(3,5),(4,5),(0,6),(1,6),(2,6),(3,6),(0,7),(1,7),(2,7),(3,7)])
 (.cond (.tmp 25)
 (.seq
 (.reg [] [⟨some 4,.mov (.cst (.d (.bool false))),none⟩])
 .ret)
 .skip)))
 (.reg [] [⟨some 15,.mov (.tmp 5),none⟩,
 ⟨some 16,.arith .add .i64 (.tmp 15) (.cst (.d (.int .i64 1))),none⟩,
 ⟨some 5,.mov (.tmp 16),none⟩])))))))))
 (.seq
 (.reg [] [⟨some 4,.mov (.cst (.d (.bool true))),none⟩])
 .ret))))⟩
def tx35:AFun:=⟨26,40,[.tmp 4],
 (.seq
 (.reg [] [⟨some 4,.mov (.cst (.d (.bool false))),none⟩])
 (.seq
 (.seq
 (.reg [] [⟨some 6,.mov (.tmp 0),none⟩,
 ⟨some 7,.len (.tmp 6),none⟩,
 ⟨some 8,.mov (.tmp 1),none⟩,
 ⟨some 9,.len (.tmp 8),none⟩,
 ⟨some 10,.cmp .neq (.tmp 7) (.tmp 9),none⟩])
 (.cond (.tmp 10)
 (.seq
 (.reg [] [⟨some 4,.mov (.cst (.d (.bool false))),none⟩])
 .ret)
 .skip))
 (.seq
 (.seq
 (.reg [] [⟨some 5,.mov (.cst (.d (.int .i64 0))),none⟩])
 (.post [] []
 (.block 0
 (.keep [0,1,5] []
 (.loop
 (.post [0,1,5] []
 (.seq
 (.seq
 (.reg [] [⟨some 11,.mov (.tmp 5),none⟩,
 ⟨some 12,.mov (.tmp 0),none⟩,
 ⟨some 13,.len (.tmp 12),none⟩,
 ⟨some 14,.cmp .lss (.tmp 11) (.tmp 13),none⟩])
 (.cond (.tmp 14)
 .skip
 (.exit 0)))
 (.seq
 (.block 1
 (.seq
 (.regd [] [⟨some 17,.mov (.tmp 0),none⟩,
 ⟨some 18,.mov (.tmp 5),none⟩,
 ⟨some 19,.ixa 2 (.tmp 17) (.tmp 18),none⟩,
 ⟨some 20,.ld true 2 (.tmp 19),none⟩,
 ⟨some 21,.mov (.tmp 1),none⟩,
 ⟨some 22,.mov (.tmp 5),none⟩,
 ⟨some 23,.ixa 2 (.tmp 21) (.tmp 22),none⟩,
 ⟨some 24,.ld true 2 (.tmp 23),none⟩,
 ⟨some 25,.aeq true [0,0] (.tmp 20) (.tmp 24),none⟩] [(0,1),(0,4),(1,4),(2,4),(3,4),(0,5),(1,5),(2,5),(3,5),(4,5),(0,6),(1,6),(2,6),(3,6),(0,7),(1,7),(2,7),(3,7)])
 (.cond (.tmp 25)
 (.seq
 (.reg [] [⟨some 4,.mov (.cst (.d (.bool false))),none⟩])
 .ret)
 .skip)))
 (.reg [] [⟨some 15,.mov (.tmp 5),none⟩,
 ⟨some 16,.arith .add .i64 (.tmp 15) (.cst (.d (.int .i64 1))),none⟩,
 ⟨some 5,.mov (.tmp 16),none⟩])))))))))
 (.seq
 (.reg [] [⟨some 4,.mov (.cst (.d (.bool true))),none⟩])
 .ret))))⟩
def tx37:AFun:=⟨51,45,[.tmp 8,.tmp 9],
 (.seq
 (.reg [0,1,2] [⟨some 4,.cbx 0 1 (.tmp 0),none⟩,
 ⟨some 5,.cbx 1 1 (.tmp 1),none⟩,
 ⟨some 7,.cbx 2 1 (.tmp 3),none⟩,
 ⟨some 8,.mov (.cst (.d (.bool false))),none⟩,
 ⟨some 9,.mov (.cst (.d (.int .i64 0))),none⟩])
 (.seq
 (.seq
 (.regd [3] [⟨some 14,.ld false 1 (.tmp 4),none⟩,
 ⟨some 15,.call 121 [(.tmp 14)],none⟩,
 ⟨some 16,.ld false 1 (.tmp 5),none⟩,
 ⟨some 17,.call 122 [(.tmp 16),(.cst (.d (.int .i64 1))),(.cst (.d (.int .i64 5)))],none⟩,
 ⟨some 18,.mov (.tmp 2),none⟩,
 ⟨some 19,.len (.tmp 18),none⟩,
 ⟨some 20,.cmp .gtr (.tmp 19) (.cst (.d (.int .i64 16))),none⟩,
 ⟨some 21,.call 103 [(.tmp 20),(.cst (.d (.int .i64 5)))],none⟩,
 ⟨some 22,.bsl 3 32 1 3 [(.int .i64 0),(.int .i64 0),(.int .i64 0)] [(0,(.tmp 15)),(1,(.tmp 17)),(2,(.tmp 21))],none⟩,
 ⟨some 23,.call 99 [(.tmp 22)],none⟩,
 ⟨some 10,.mov (.tmp 23),none⟩] [(0,2),(1,2),(0,4),(1,4),(2,4),(3,4),(0,5),(1,5),(2,5),(3,5),(0,6),(1,6),(2,6),(3,6)])
 (.seq
 (.reg [] [⟨some 24,.mov (.tmp 10),none⟩,
 ⟨some 25,.cmp .neq (.tmp 24) (.cst (.d (.int .i64 0))),none⟩])
 (.cond (.tmp 25)
 (.seq
 (.reg [] [⟨some 26,.mov (.tmp 10),none⟩,
 ⟨some 8,.mov (.cst (.d (.bool false))),none⟩,
 ⟨some 9,.mov (.tmp 26),none⟩])
 .ret)
 .skip)))
 (.seq
 (.reg [] [⟨some 27,.mkf (.func 123) [] [(.tmp 4)],none⟩,
 ⟨some 11,.mov (.tmp 27),none⟩])
 (.seq
 (.seq
 (.regd [4] [⟨some 28,.mov (.tmp 2),none⟩,
 ⟨some 29,.mov (.tmp 11),none⟩,
 ⟨some 30,.call 125 [(.tmp 28),(.tmp 29)],none⟩,
 ⟨some 31,.call 99 [(.tmp 30)],none⟩,
 ⟨some 32,.mov (.tmp 11),none⟩,
 ⟨some 33,.ld false 1 (.tmp 7),none⟩,
 ⟨some 34,.callv (.tmp 32) [(.tmp 33)],none⟩,
 ⟨some 35,.bsl 4 32 1 2 [(.int .i64 0),(.int .i64 0)] [(0,(.tmp 31)),(1,(.tmp 34))],none⟩,
 ⟨some 36,.call 99 [(.tmp 35)],none⟩,
 ⟨some 12,.mov (.tmp 36),none⟩] [(0,1),(0,4),(1,4),(2,4),(3,4),(0,5),(1,5),(2,5),(3,5),(4,5)])
 (.seq
 (.reg [] [⟨some 37,.mov (.tmp 12),none⟩,
 ⟨some 38,.cmp .neq (.tmp 37) (.cst (.d (.int .i64 0))),none⟩])
 (.cond (.tmp 38)
 (.seq
 (.reg [] [⟨some 39,.mov (.tmp 12),none⟩,
 ⟨some 8,.mov (.cst (.d (.bool false))),none⟩,
 ⟨some 9,.mov (.tmp 39),none⟩])
 .ret)
 .skip)))
 (.seq
 (.reg [] [⟨some 40,.mov (.tmp 2),none⟩,
 ⟨some 41,.mkf (.func 127) [] [(.tmp 7),(.tmp 5)],none⟩,
 ⟨some 42,.call 126 [(.tmp 40),(.tmp 41)],none⟩,
 ⟨some 13,.mov (.tmp 42),none⟩])
 (.seq
 (.reg [] [⟨some 43,.ld false 1 (.tmp 7),none⟩,
 ⟨some 44,.len (.tmp 43),none⟩,
 ⟨some 45,.ld false 1 (.tmp 5),none⟩,
 ⟨some 46,.cmp .geq (.tmp 44) (.tmp 45),none⟩,
 ⟨some 47,.mov (.tmp 46),none⟩,
 ⟨some 48,.mov (.tmp 13),some (47,true)⟩,
 ⟨some 49,.not (.tmp 48),some (47,true)⟩,
 ⟨some 50,.pick (.tmp 47) (.tmp 49) (.cst (.d (.bool false))),none⟩,
 ⟨some 8,.mov (.tmp 50),none⟩,
 ⟨some 9,.mov (.cst (.d (.int .i64 0))),none⟩])
 .ret))))))⟩
def tx39:AFun:=⟨38,42,[.tmp 4,.tmp 5],
 (.seq
 (.reg [] [⟨some 4,.mov (.cst (.d (.int .i64 0))),none⟩,
 ⟨some 5,.mov (.cst (.d (.int .i64 0))),none⟩])
 (.seq
 (.seq
 (.reg [0] [⟨some 9,.mov (.tmp 0),none⟩,
 ⟨some 10,.len (.tmp 9),none⟩,
 ⟨some 11,.cmp .eql (.tmp 10) (.cst (.d (.int .i64 0))),none⟩,
 ⟨some 12,.call 103 [(.tmp 11),(.cst (.d (.int .i64 12)))],none⟩,
 ⟨some 13,.mov (.tmp 0),none⟩,
 ⟨some 14,.len (.tmp 13),none⟩,
 ⟨some 15,.cmp .gtr (.tmp 14) (.cst (.d (.int .i64 5))),none⟩,
 ⟨some 16,.call 103 [(.tmp 15),(.cst (.d (.int .i64 5)))],none⟩,
 ⟨some 17,.bsl 0 32 1 2 [(.int .i64 0),(.int .i64 0)] [(0,(.tmp 12)),(1,(.tmp 16))],none⟩,
 ⟨some 18,.call 99 [(.tmp 17)],none⟩,
 ⟨some 6,.mov (.tmp 18),none⟩])
 (.seq
 (.reg [] [⟨some 19,.mov (.tmp 6),none⟩,
 ⟨some 20,.cmp .neq (.tmp 19) (.cst (.d (.int .i64 0))),none⟩])
 (.cond (.tmp 20)
 (.seq
 (.reg [] [⟨some 21,.mov (.tmp 6),none⟩,
 ⟨some 4,.mov (.cst (.d (.int .i64 0))),none⟩,
 ⟨some 5,.mov (.tmp 21),none⟩])
 .ret)
 .skip)))
 (.seq
 (.reg [] [⟨some 7,.mov (.cst (.d (.fn (.func 129) []))),none⟩])
 (.seq
 (.seq
 (.reg [1] [⟨some 22,.mov (.tmp 0),none⟩,
 ⟨some 23,.mov (.tmp 7),none⟩,
 ⟨some 24,.call 130 [(.tmp 22),(.tmp 23)],none⟩,
 ⟨some 25,.call 99 [(.tmp 24)],none⟩,
 ⟨some 26,.mov (.tmp 0),none⟩,
 ⟨some 27,.len (.tmp 26),none⟩,
 ⟨some 28,.mov (.tmp 1),none⟩,
 ⟨some 29,.call 124 [(.tmp 27),(.tmp 28)],none⟩,
 ⟨some 30,.bsl 1 32 1 2 [(.int .i64 0),(.int .i64 0)] [(0,(.tmp 25)),(1,(.tmp 29))],none⟩,
 ⟨some 31,.call 99 [(.tmp 30)],none⟩,
 ⟨some 8,.mov (.tmp 31),none⟩])
 (.seq
 (.reg [] [⟨some 32,.mov (.tmp 8),none⟩,
 ⟨some 33,.cmp .neq (.tmp 32) (.cst (.d (.int .i64 0))),none⟩])
 (.cond (.tmp 33)
 (.seq
 (.reg [] [⟨some 34,.mov (.tmp 8),none⟩,
 ⟨some 4,.mov (.cst (.d (.int .i64 0))),none⟩,
 ⟨some 5,.mov (.tmp 34),none⟩])
 .ret)
 .skip)))
 (.seq
 (.reg [] [⟨some 35,.mov (.tmp 0),none⟩,
 ⟨some 36,.mov (.tmp 1),none⟩,
 ⟨some 37,.call 131 [(.tmp 35),(.tmp 36)],none⟩,
 ⟨some 4,.mov (.tmp 37),none⟩,
 ⟨some 5,.mov (.cst (.d (.int .i64 0))),none⟩])
 .ret)))))⟩
def tx48:AFun:=⟨28,40,[.tmp 6,.tmp 7],
 (.seq
 (.reg [] [⟨some 6,.mov (.cst (.nils 2)),none⟩,
 ⟨some 7,.mov (.cst (.d (.int .i64 0))),none⟩])
 (.seq
 (.seq
 (.reg [] [⟨some 11,.mov (.tmp 0),none⟩,
 ⟨some 12,.mov (.tmp 1),none⟩,
 ⟨some 13,.mov (.tmp 2),none⟩,
 ⟨some 14,.call 132 [(.tmp 11),(.tmp 12),(.tmp 13)],none⟩,
 ⟨some 8,.mov (.tmp 14),none⟩])
 (.seq
 (.reg [] [⟨some 15,.mov (.tmp 8),none⟩,
 ⟨some 16,.cmp .neq (.tmp 15) (.cst (.d (.int .i64 0))),none⟩])
 (.cond (.tmp 16)
 (.seq
 (.reg [] [⟨some 17,.mov (.tmp 8),none⟩,
 ⟨some 6,.mov (.cst (.nils 2)),none⟩,
 ⟨some 7,.mov (.tmp 17),none⟩])
 .ret)
 .skip)))
 (.seq
 (.reg [] [⟨some 19,.mov (.tmp 0),none⟩,
 ⟨some 20,.mov (.tmp 1),none⟩,
 ⟨some 21,.mov (.tmp 2),none⟩,
 ⟨some 22,.calli 133 [(.tmp 19),(.tmp 20),(.tmp 21)],none⟩,
 ⟨some 18,.mov (.tmp 22),none⟩,
 ⟨some 23,.ext 0 (.tmp 18),none⟩,
 ⟨some 24,.ext 1 (.tmp 18),none⟩,
 ⟨some 9,.mov (.tmp 23),none⟩,
 ⟨some 10,.mov (.tmp 24),none⟩])
 (.seq
 (.seq
 (.reg [] [⟨some 25,.mov (.tmp 10),none⟩,
 ⟨some 26,.not (.tmp 25),none⟩])
 (.cond (.tmp 26)
 (.seq
 (.reg [] [⟨some 6,.mov (.cst (.nils 2)),none⟩,
 ⟨some 7,.mov (.cst (.d (.int .i64 18))),none⟩])
 .ret)
 .skip))
 (.seq
 (.reg [] [⟨some 27,.mov (.tmp 9),none⟩,
 ⟨some 6,.mov (.tmp 27),none⟩,
 ⟨some 7,.mov (.cst (.d (.int .i64 0))),none⟩])
 .ret)))))⟩
def tx50:AFun:=⟨37,42,[.tmp 8,.tmp 9],
 (.seq
 (.reg [0] [⟨some 7,.cbx 0 1 (.tmp 3),none⟩,
 ⟨some 8,.mov (.cst (.d (.bool false))),none⟩,
 ⟨some 9,.mov (.cst (.d (.int .i64 0))),none⟩])
 (.seq
 (.seq
 (.regd [1] [⟨some 13,.mov (.tmp 0),none⟩,
 ⟨some 14,.mov (.tmp 1),none⟩,
 ⟨some 15,.mov (.tmp 2),none⟩,
 ⟨some 16,.call 132 [(.tmp 13),(.tmp 14),(.tmp 15)],none⟩,
 ⟨some 17,.ld false 1 (.tmp 7),none⟩,
 ⟨some 18,.call 122 [(.tmp 17),(.cst (.d (.int .i64 0))),(.cst (.d (.int .i64 7)))],none⟩,
 ⟨some 19,.bsl 1 32 1 2 [(.int .i64 0),(.int .i64 0)] [(0,(.tmp 16)),(1,(.tmp 18))],none⟩,
 ⟨some 20,.call 99 [(.tmp 19)],none⟩,
 ⟨some 10,.mov (.tmp 20),none⟩] [(0,1),(0,2),(1,2),(0,4),(1,4),(2,4),(3,4)])
 (.seq
 (.reg [] [⟨some 21,.mov (.tmp 10),none⟩,
 ⟨some 22,.cmp .neq (.tmp 21) (.cst (.d (.int .i64 0))),none⟩])
 (.cond (.tmp 22)
 (.seq
 (.reg [] [⟨some 23,.mov (.tmp 10),none⟩,
 ⟨some 8,.mov (.cst (.d (.bool false))),none⟩,
 ⟨some 9,.mov (.tmp 23),none⟩])
 .ret)
 .skip)))
 (.seq
 (.reg [] [⟨some 25,.mov (.tmp 0),none⟩,
 ⟨some 26,.mov (.tmp 1),none⟩,
 ⟨some 27,.mov (.tmp 2),none⟩,
 ⟨some 28,.call 133 [(.tmp 25),(.tmp 26),(.tmp 27)],none⟩,
 ⟨some 24,.mov (.tmp 28),none⟩,
 ⟨some 29,.ext 0 (.tmp 24),none⟩,
 ⟨some 30,.ext 1 (.tmp 24),none⟩,
 ⟨some 11,.mov (.tmp 29),none⟩,
 ⟨some 12,.mov (.tmp 30),none⟩])
 (.seq
 (.seq
 (.reg [] [⟨some 31,.mov (.tmp 12),none⟩,
 ⟨some 32,.not (.tmp 31),none⟩])
 (.cond (.tmp 32)
 (.seq
 (.reg [] [⟨some 8,.mov (.cst (.d (.bool false))),none⟩,
 ⟨some 9,.mov (.cst (.d (.int .i64 18))),none⟩])
 .ret)
 .skip))
 (.seq
 (.reg [] [⟨some 33,.mov (.tmp 11),none⟩,
 ⟨some 34,.mkf (.func 135) [] [(.tmp 7)],none⟩,
 ⟨some 35,.call 134 [(.tmp 33),(.tmp 34)],none⟩,
 ⟨some 36,.not (.tmp 35),none⟩,
 ⟨some 8,.mov (.tmp 36),none⟩,
 ⟨some 9,.mov (.cst (.d (.int .i64 0))),none⟩])
 .ret)))))⟩
def tx51:AFun:=⟨51,45,[.cell 4 2 true,.tmp 5],
 (.seq
 (.reg [0,1] [⟨some 2,.cbx 0 2 (.tmp 0),none⟩,
 ⟨some 4,.alloc 1 [(.d (.int .i64 0)),(.d (.int .i64 0))],none⟩,
 ⟨some 5,.mov (.cst (.d (.int .i64 0))),none⟩])
 (.seq
 (.seq
 (.reg [2] [⟨some 11,.ld true 2 (.tmp 2),none⟩,
 ⟨some 12,.call 136 [(.tmp 11)],none⟩,
 ⟨some 13,.mov (.tmp 1),none⟩,
 ⟨some 14,.len (.tmp 13),none⟩,
 ⟨some 15,.cmp .gtr (.tmp 14) (.cst (.d (.int .i64 256))),none⟩,
 ⟨some 16,.call 103 [(.tmp 15),(.cst (.d (.int .i64 5)))],none⟩,
 ⟨some 17,.bsl 2 32 1 2 [(.int .i64 0),(.int .i64 0)] [(0,(.tmp 12)),(1,(.tmp 16))],none⟩,
 ⟨some 18,.call 99 [(.tmp 17)],none⟩,
 ⟨some 6,.mov (.tmp 18),none⟩])
 (.seq
 (.reg [] [⟨some 19,.mov (.tmp 6),none⟩,
 ⟨some 20,.cmp .neq (.tmp 19) (.cst (.d (.int .i64 0))),none⟩])
 (.cond (.tmp 20)
 (.seq
 (.reg [] [⟨some 21,.build [(.d (.int .i64 0)),(.d (.int .i64 0))] [],none⟩,
 ⟨some 22,.mov (.tmp 6),none⟩,
 ⟨none,.st 2 (.tmp 4) (.tmp 21),none⟩,
 ⟨some 5,.mov (.tmp 22),none⟩])
 .ret)
 .skip)))
 (.seq
 (.seq
 (.reg [] [⟨some 23,.mov (.tmp 1),none⟩,
 ⟨some 24,.call 137 [(.tmp 23),(.cst (.d (.fn (.func 136) [])))],none⟩,
 ⟨some 25,.call 99 [(.tmp 24)],none⟩,
 ⟨some 7,.mov (.tmp 25),none⟩])
 (.seq
 (.reg [] [⟨some 26,.mov (.tmp 7),none⟩,
 ⟨some 27,.cmp .neq (.tmp 26) (.cst (.d (.int .i64 0))),none⟩])
 (.cond (.tmp 27)
 (.seq
 (.reg [] [⟨some 28,.build [(.d (.int .i64 0)),(.d (.int .i64 0))] [],none⟩,
 ⟨some 29,.mov (.tmp 7),none⟩,
 ⟨none,.st 2 (.tmp 4) (.tmp 28),none⟩,
 ⟨some 5,.mov (.tmp 29),none⟩])
 .ret)
 .skip)))
 (.seq
 (.reg [3] [⟨some 30,.ld true 2 (.tmp 2),none⟩,
 ⟨some 8,.alloc 3 [(.d (.int .i64 0)),(.d (.int .i64 0))],none⟩,
 ⟨none,.st 2 (.tmp 8) (.tmp 30),none⟩])
 (.seq
 (.seq
 (.reg [] [⟨some 31,.mov (.tmp 1),none⟩,
 ⟨some 32,.len (.tmp 31),none⟩,
 ⟨some 33,.mov (.cst (.d (.int .i64 0))),none⟩])
 (.post [4,8] [0,1,2,3,4]
 (.block 0
 (.keep [4,8,31,32,33] [0,1,2,3]
 (.loop
 (.post [4,8,31,32,33] [4]
 (.seq
 (.reg [] [⟨some 34,.cmp .lss (.tmp 33) (.tmp 32),none⟩])
 (.seq
 (.cond (.tmp 34)
 .skip
 (.exit 0))
 (.seq
 (.block 1
 (.seq
 (.reg [4] [⟨some 35,.ixa 2 (.tmp 31) (.tmp 33),none⟩,
 ⟨some 36,.ld true 2 (.tmp 35),none⟩,
 ⟨some 10,.alloc 4 [(.d (.int .i64 0)),(.d (.int .i64 0))],none⟩,
 ⟨none,.st 2 (.tmp 10) (.tmp 36),none⟩])
 (.seq
 (.reg [] [⟨some 37,.fad 0 (.tmp 8),none⟩,
 ⟨some 38,.ld false 1 (.tmp 37),none⟩,
 ⟨some 39,.fad 1 (.tmp 10),none⟩,
 ⟨some 40,.ld false 1 (.tmp 39),none⟩,
 ⟨some 41,.arith .sub .i64 (.tmp 38) (.tmp 40),none⟩,
 ⟨some 42,.fad 0 (.tmp 8),none⟩,
 ⟨none,.st 1 (.tmp 42) (.tmp 41),none⟩])
 (.reg [] [⟨some 43,.fad 1 (.tmp 8),none⟩,
 ⟨some 44,.ld false 1 (.tmp 43),none⟩,
 ⟨some 45,.fad 0 (.tmp 10),none⟩,
 ⟨some 46,.ld false 1 (.tmp 45),none⟩,
 ⟨some 47,.arith .sub .i64 (.tmp 44) (.tmp 46),none⟩,
 ⟨some 48,.fad 1 (.tmp 8),none⟩,
 ⟨none,.st 1 (.tmp 48) (.tmp 47),none⟩]))))
 (.reg [] [⟨some 49,.arith .add .i64 (.tmp 33) (.cst (.d (.int .i64 1))),none⟩,
 ⟨some 33,.mov (.tmp 49),none⟩]))))))))))
 (.seq
 (.reg [] [⟨some 50,.ld true 2 (.tmp 8),none⟩,
 ⟨none,.st 2 (.tmp 4) (.tmp 50),none⟩,
 ⟨some 5,.mov (.cst (.d (.int .i64 0))),none⟩])
 .ret))))))⟩
def tx53:AFun:=⟨26,42,[.tmp 4,.tmp 5],
 (.seq
 (.reg [0] [⟨some 2,.cbx 0 2 (.tmp 0),none⟩,
 ⟨some 4,.mov (.cst (.d (.int .i64 0))),none⟩,
 ⟨some 5,.mov (.cst (.d (.int .i64 0))),none⟩])
 (.seq
 (.reg [1] [⟨some 9,.ld true 2 (.tmp 2),none⟩,
 ⟨some 10,.mov (.tmp 1),none⟩,
 ⟨some 11,.call 51 [(.tmp 9),(.tmp 10)],none⟩,
 ⟨some 8,.mov (.tmp 11),none⟩,
 ⟨some 12,.ext 0 (.tmp 8),none⟩,
 ⟨some 13,.ext 1 (.tmp 8),none⟩,
 ⟨some 6,.alloc 1 [(.d (.int .i64 0)),(.d (.int .i64 0))],none⟩,
 ⟨none,.st 2 (.tmp 6) (.tmp 12),none⟩,
 ⟨some 7,.mov (.tmp 13),none⟩])
 (.seq
 (.block 0
 (.seq
 (.reg [] [⟨some 15,.mov (.tmp 7),none⟩,
 ⟨some 16,.cmp .neq (.tmp 15) (.cst (.d (.int .i64 0))),none⟩,
 ⟨some 14,.mov (.tmp 16),none⟩])
 (.cond (.tmp 14)
 (.seq
 (.reg [] [⟨some 17,.mov (.tmp 7),none⟩,
 ⟨some 4,.mov (.cst (.d (.int .i64 0))),none⟩,
 ⟨some 5,.mov (.tmp 17),none⟩])
 .ret)
 (.seq
 (.reg [] [⟨some 19,.fad 0 (.tmp 6),none⟩,
 ⟨some 20,.ld false 1 (.tmp 19),none⟩,
 ⟨some 21,.cmp .gtr (.tmp 20) (.cst (.d (.int .i64 0))),none⟩,
 ⟨some 18,.mov (.tmp 21),none⟩])
 (.cond (.tmp 18)
 (.seq
 (.reg [] [⟨some 4,.mov (.cst (.d (.int .i64 1))),none⟩,
 ⟨some 5,.mov (.cst (.d (.int .i64 0))),none⟩])
 .ret)
 (.seq
 (.reg [] [⟨some 23,.fad 1 (.tmp 6),none⟩,
 ⟨some 24,.ld false 1 (.tmp 23),none⟩,
 ⟨some 25,.cmp .lss (.tmp 24) (.cst (.d (.int .i64 0))),none⟩,
 ⟨some 22,.mov (.tmp 25),none⟩])
 (.cond (.tmp 22)
 (.seq
 (.reg [] [⟨some 4,.mov (.cst (.d (.int .i64 (-1)))),none⟩,
 ⟨some 5,.mov (.cst (.d (.int .i64 0))),none⟩])
 .ret)
 .skip)))))))
 (.seq
 (.reg [] [⟨some 4,.mov (.cst (.d (.int .i64 0))),none⟩,
 ⟨some 5,.mov (.cst (.d (.int .i64 0))),none⟩])
 .ret))))⟩
def tx63:AFun:=⟨26,40,[.tmp 4],
 (.seq
 (.reg [] [⟨some 4,.mov (.cst (.d (.bool false))),none⟩])
 (.seq
 (.seq
 (.reg [] [⟨some 6,.mov (.tmp 0),none⟩,
 ⟨some 7,.len (.tmp 6),none⟩,
 ⟨some 8,.mov (.tmp 1),none⟩,
 ⟨some 9,.len (.tmp 8),none⟩,
 ⟨some 10,.cmp .neq (.tmp 7) (.tmp 9),none⟩])
 (.cond (.tmp 10)
 (.seq
 (.reg [] [⟨some 4,.mov (.cst (.d (.bool false))),none⟩])
 .ret)
 .skip))
 (.seq
 (.seq
 (.reg [] [⟨some 5,.mov (.cst (.d (.int .i64 0))),none⟩])
 (.post [] []
 (.block 0
 (.keep [0,1,5] []
 (.loop
 (.post [0,1,5] []
 (.seq
 (.seq
 (.reg [] [⟨some 11,.mov (.tmp 5),none⟩,
 ⟨some 12,.mov (.tmp 0),none⟩,
 ⟨some 13,.len (.tmp 12),none⟩,
 ⟨some 14,.cmp .lss (.tmp 11) (.tmp 13),none⟩])
 (.cond (.tmp 14)
 .skip
 (.exit 0)))
 (.seq
 (.block 1
 (.seq
 (.regd [] [⟨some 17,.mov (.tmp 0),none⟩,
 ⟨some 18,.mov (.tmp 5),none⟩,
 ⟨some 19,.ixa 2 (.tmp 17) (.tmp 18),none⟩,
 ⟨some 20,.ld true 2 (.tmp 19),none⟩,
 ⟨some 21,.mov (.tmp 1),none⟩,
 ⟨some 22,.mov (.tmp 5),none⟩,
 ⟨some 23,.ixa 2 (.tmp 21) (.tmp 22),none⟩,
 ⟨some 24,.ld true 2 (.tmp 23),none⟩,
 ⟨some 25,.aeq true [0,0] (.tmp 20) (.tmp 24),none⟩] [(0,1),(0,4),(1,4),(2,4),(3,4),(0,5),(1,5),(2,5),(3,5),(4,5),(0,6),(1,6),(2,6),(3,6),(0,7),(1,7),(2,7),(3,7)])
 (.cond (.tmp 25)
 (.seq
 (.reg [] [⟨some 4,.mov (.cst (.d (.bool false))),none⟩])
 .ret)
 .skip)))
 (.reg [] [⟨some 15,.mov (.tmp 5),none⟩,
 ⟨some 16,.arith .add .i64 (.tmp 15) (.cst (.d (.int .i64 1))),none⟩,
 ⟨some 5,.mov (.tmp 16),none⟩])))))))))
 (.seq
 (.reg [] [⟨some 4,.mov (.cst (.d (.bool true))),none⟩])
 .ret))))⟩
def tx65:AFun:=⟨34,42,[.tmp 2,.tmp 3],
 (.seq
 (.reg [0] [⟨some 1,.cbx 0 2 (.tmp 0),none⟩,
 ⟨some 2,.mov (.cst (.d (.int .i64 0))),none⟩,
 ⟨some 3,.mov (.cst (.d (.int .i64 0))),none⟩])
 (.seq
 (.seq
 (.regd [1] [⟨some 6,.fad 0 (.tmp 1),none⟩,
 ⟨some 7,.ld false 1 (.tmp 6),none⟩,
 ⟨some 8,.call 122 [(.tmp 7),(.cst (.d (.int .i64 1))),(.cst (.d (.int .i64 10000)))],none⟩,
 ⟨some 9,.fad 1 (.tmp 1),none⟩,
 ⟨some 10,.ld false 1 (.tmp 9),none⟩,
 ⟨some 11,.len (.tmp 10),none⟩,
 ⟨some 12,.cmp .eql (.tmp 11) (.cst (.d (.int .i64 0))),none⟩,
 ⟨some 13,.call 103 [(.tmp 12),(.cst (.d (.int .i64 12)))],none⟩,
 ⟨some 14,.fad 1 (.tmp 1),none⟩,
 ⟨some 15,.ld false 1 (.tmp 14),none⟩,
 ⟨some 16,.len (.tmp 15),none⟩,
 ⟨some 17,.cmp .gtr (.tmp 16) (.cst (.d (.int .i64 16))),none⟩,
 ⟨some 18,.call 103 [(.tmp 17),(.cst (.d (.int .i64 5)))],none⟩,
 ⟨some 19,.bsl 1 32 1 3 [(.int .i64 0),(.int .i64 0),(.int .i64 0)] [(0,(.tmp 8)),(1,(.tmp 13)),(2,(.tmp 18))],none⟩,
 ⟨some 20,.call 99 [(.tmp 19)],none⟩,
 ⟨some 4,.mov (.tmp 20),none⟩] [(0,3),(1,3),(2,3),(0,4),(1,4),(2,4),(0,5),(1,5),(2,5),(0,6),(1,6),(2,6),(0,8),(1,8),(2,8),(3,8),(4,8),(5,8),(6,8),(7,8),(0,9),(1,9),(2,9),(3,9),(4,9),(5,9),(6,9),(7,9),(0,10),(1,10),(2,10),(3,10),(4,10),(5,10),(6,10),(7,10),(0,11),(1,11),(2,11),(3,11),(4,11),(5,11),(6,11),(7,11)])
 (.seq
 (.reg [] [⟨some 21,.mov (.tmp 4),none⟩,
 ⟨some 22,.cmp .neq (.tmp 21) (.cst (.d (.int .i64 0))),none⟩])
 (.cond (.tmp 22)
 (.seq
 (.reg [] [⟨some 23,.mov (.tmp 4),none⟩,
 ⟨some 2,.mov (.cst (.d (.int .i64 0))),none⟩,
 ⟨some 3,.mov (.tmp 23),none⟩])
 .ret)
 .skip)))
 (.seq
 (.seq
 (.reg [] [⟨some 24,.fad 1 (.tmp 1),none⟩,
 ⟨some 25,.ld false 1 (.tmp 24),none⟩,
 ⟨some 26,.call 138 [(.tmp 25),(.cst (.d (.fn (.func 139) [])))],none⟩,
 ⟨some 27,.call 99 [(.tmp 26)],none⟩,
 ⟨some 5,.mov (.tmp 27),none⟩])
 (.seq
 (.reg [] [⟨some 28,.mov (.tmp 5),none⟩,
 ⟨some 29,.cmp .neq (.tmp 28) (.cst (.d (.int .i64 0))),none⟩])
 (.cond (.tmp 29)
 (.seq
 (.reg [] [⟨some 30,.mov (.tmp 5),none⟩,
 ⟨some 2,.mov (.cst (.d (.int .i64 0))),none⟩,
 ⟨some 3,.mov (.tmp 30),none⟩])
 .ret)
 .skip)))
 (.seq
 (.reg [] [⟨some 31,.fad 1 (.tmp 1),none⟩,
 ⟨some 32,.ld false 1 (.tmp 31),none⟩,
 ⟨some 33,.call 140 [(.tmp 32)],none⟩,
 ⟨some 2,.mov (.tmp 33),none⟩,
 ⟨some 3,.mov (.cst (.d (.int .i64 0))),none⟩])
 .ret))))⟩
def tx67:AFun:=⟨42,44,[.cell 8 7 true,.tmp 9],
 (.seq
 (.reg [0,1] [⟨some 4,.cbx 0 7 (.tmp 0),none⟩,
 ⟨some 8,.alloc 1 [(.d (.int .i64 0)),(.d (.int .i64 0)),(.d (.int .i64 0)),(.d (.int .i64 0)),(.nils 1),(.d (.bool false)),(.d (.bool false))],none⟩,
 ⟨some 9,.mov (.cst (.d (.int .i64 0))),none⟩])
 (.seq
 (.seq
 (.regd [2] [⟨some 11,.ld true 7 (.tmp 4),none⟩,
 ⟨some 12,.call 83 [(.tmp 11)],none⟩,
 ⟨some 13,.mov (.tmp 1),none⟩,
 ⟨some 14,.call 122 [(.tmp 13),(.cst (.d (.int .i64 1))),(.cst (.d (.int .i64 10000)))],none⟩,
 ⟨some 15,.mov (.tmp 2),none⟩,
 ⟨some 16,.call 122 [(.tmp 15),(.cst (.d (.int .i64 1))),(.cst (.d (.int .i64 16)))],none⟩,
 ⟨some 17,.mov (.tmp 3),none⟩,
 ⟨some 18,.call 122 [(.tmp 17),(.cst (.d (.int .i64 0))),(.cst (.d (.int .i64 9972)))],none⟩,
 ⟨some 19,.fad 6 (.tmp 4),none⟩,
 ⟨some 20,.ld false 1 (.tmp 19),none⟩,
 ⟨some 21,.call 103 [(.tmp 20),(.cst (.d (.int .i64 22)))],none⟩,
 ⟨some 22,.mov (.tmp 1),none⟩,
 ⟨some 23,.fad 0 (.tmp 4),none⟩,
 ⟨some 24,.ld false 1 (.tmp 23),none⟩,
 ⟨some 25,.cmp .leq (.tmp 22) (.tmp 24),none⟩,
 ⟨some 26,.call 103 [(.tmp 25),(.cst (.d (.int .i64 35)))],none⟩,
 ⟨some 27,.bsl 2 32 1 6 [(.int .i64 0),(.int .i64 0),(.int .i64 0),(.int .i64 0),(.int .i64 0),(.int .i64 0)] [(0,(.tmp 12)),(1,(.tmp 14)),(2,(.tmp 16)),(3,(.tmp 18)),(4,(.tmp 21)),(5,(.tmp 26))],none⟩,
 ⟨some 28,.call 99 [(.tmp 27)],none⟩,
 ⟨some 10,.mov (.tmp 28),none⟩] [(0,2),(1,2),(0,4),(1,4),(2,4),(3,4),(0,6),(1,6),(2,6),(3,6),(4,6),(5,6),(0,8),(1,8),(2,8),(3,8),(4,8),(5,8),(6,8),(7,8),(0,9),(1,9),(2,9),(3,9),(4,9),(5,9),(6,9),(7,9),(0,11),(1,11),(2,11),(3,11),(4,11),(5,11),(6,11),(7,11),(8,11),(9,11),(10,11),(0,12),(1,12),(2,12),(3,12),(4,12),(5,12),(6,12),(7,12),(8,12),(9,12),(10,12),(11,12),(0,13),(1,13),(2,13),(3,13),(4,13),(5,13),(6,13),(7,13),(8,13),(9,13),(10,13),(11,13),(0,14),(1,14),(2,14),(3,14),(4,14),(5,14),(6,14),(7,14),(8,14),(9,14),(10,14)])
 (.seq
 (.reg [] [⟨some 29,.mov (.tmp 10),none⟩,
 ⟨some 30,.cmp .neq (.tmp 29) (.cst (.d (.int .i64 0))),none⟩])
 (.cond (.tmp 30)
 (.seq
 (.reg [] [⟨some 31,.build [(.d (.int .i64 0)),(.d (.int .i64 0)),(.d (.int .i64 0)),(.d (.int .i64 0)),(.nils 1),(.d (.bool false)),(.d (.bool false))] [],none⟩,
 ⟨some 32,.mov (.tmp 10),none⟩,
 ⟨none,.st 7 (.tmp 8) (.tmp 31),none⟩,
 ⟨some 9,.mov (.tmp 32),none⟩])
 .ret)
 .skip)))
 (.seq
 (.regd [3] [⟨some 33,.fad 0 (.tmp 4),none⟩,
 ⟨some 34,.ld false 1 (.tmp 33),none⟩,
 ⟨some 35,.fad 1 (.tmp 4),none⟩,
 ⟨some 36,.ld false 1 (.tmp 35),none⟩,
 ⟨some 37,.mov (.tmp 1),none⟩,
 ⟨some 38,.mov (.tmp 3),none⟩,
 ⟨some 39,.mov (.tmp 2),none⟩,
 ⟨some 40,.msl 3 111 1 24 (.slice 1 []) (.tmp 39),none⟩,
 ⟨some 41,.build [(.d (.int .i64 0)),(.d (.int .i64 0)),(.d (.int .i64 0)),(.d (.int .i64 0)),(.nils 1),(.d (.bool false)),(.d (.bool false))] [(0,1,(.tmp 34)),(1,1,(.tmp 36)),(2,1,(.tmp 37)),(3,1,(.tmp 38)),(4,1,(.tmp 40))],none⟩,
 ⟨none,.st 7 (.tmp 8) (.tmp 41),none⟩,
 ⟨some 9,.mov (.cst (.d (.int .i64 0))),none⟩] [(0,2),(1,2),(0,3),(1,3),(0,4),(1,4),(2,4),(3,4),(0,5),(1,5),(2,5),(3,5),(4,5),(0,6),(1,6),(2,6),(3,6),(4,6),(5,6),(0,7),(1,7),(2,7),(3,7),(4,7),(5,7)])
 .ret)))⟩
def tx69:AFun:=⟨54,45,[.cell 6 7 true,.tmp 7],
 (.seq
 (.reg [0,1] [⟨some 3,.cbx 0 7 (.tmp 0),none⟩,
 ⟨some 6,.alloc 1 [(.d (.int .i64 0)),(.d (.int .i64 0)),(.d (.int .i64 0)),(.d (.int .i64 0)),(.nils 1),(.d (.bool false)),(.d (.bool false))],none⟩,
 ⟨some 7,.mov (.cst (.d (.int .i64 0))),none⟩])
 (.seq
 (.seq
 (.regd [2] [⟨some 11,.ld true 7 (.tmp 3),none⟩,
 ⟨some 12,.call 83 [(.tmp 11)],none⟩,
 ⟨some 13,.ld true 7 (.tmp 3),none⟩,
 ⟨some 14,.call 141 [(.tmp 13)],none⟩,
 ⟨some 15,.mov (.tmp 1),none⟩,
 ⟨some 16,.cmp .lss (.tmp 15) (.cst (.d (.int .i64 0))),none⟩,
 ⟨some 17,.mov (.tmp 16),none⟩,
 ⟨some 18,.mov (.tmp 1),some (17,false)⟩,
 ⟨some 19,.fad 4 (.tmp 3),some (17,false)⟩,
 ⟨some 20,.ld false 1 (.tmp 19),some (17,false)⟩,
 ⟨some 21,.len (.tmp 20),some (17,false)⟩,
 ⟨some 22,.cmp .geq (.tmp 18) (.tmp 21),some (17,false)⟩,
 ⟨some 23,.pick (.tmp 17) (.cst (.d (.bool true))) (.tmp 22),none⟩,
 ⟨some 24,.call 103 [(.tmp 23),(.cst (.d (.int .i64 10)))],none⟩,
 ⟨some 25,.mov (.tmp 2),none⟩,
 ⟨some 26,.call 139 [(.tmp 25)],none⟩,
 ⟨some 27,.bsl 2 32 1 4 [(.int .i64 0),(.int .i64 0),(.int .i64 0),(.int .i64 0)] [(0,(.tmp 12)),(1,(.tmp 14)),(2,(.tmp 24)),(3,(.tmp 26))],none⟩,
 ⟨some 28,.call 99 [(.tmp 27)],none⟩,
 ⟨some 8,.mov (.tmp 28),none⟩] [(0,2),(1,2),(0,4),(1,4),(2,4),(3,4),(0,5),(1,5),(2,5),(3,5),(7,8),(7,9),(7,10),(0,14),(1,14),(2,14),(3,14),(4,14),(5,14),(6,14),(7,14),(8,14),(9,14),(10,14),(11,14),(12,14),(13,14)])
 (.seq
 (.reg [] [⟨some 29,.mov (.tmp 8),none⟩,
 ⟨some 30,.cmp .neq (.tmp 29) (.cst (.d (.int .i64 0))),none⟩])
 (.cond (.tmp 30)
 (.seq
 (.reg [] [⟨some 31,.build [(.d (.int .i64 0)),(.d (.int .i64 0)),(.d (.int .i64 0)),(.d (.int .i64 0)),(.nils 1),(.d (.bool false)),(.d (.bool false))] [],none⟩,
 ⟨some 32,.mov (.tmp 8),none⟩,
 ⟨none,.st 7 (.tmp 6) (.tmp 31),none⟩,
 ⟨some 7,.mov (.tmp 32),none⟩])
 .ret)
 .skip)))
 (.seq
 (.reg [3] [⟨some 33,.ld true 7 (.tmp 3),none⟩,
 ⟨some 34,.calli 142 [(.tmp 33)],none⟩,
 ⟨some 9,.alloc 3 [(.d (.int .i64 0)),(.d (.int .i64 0)),(.d (.int .i64 0)),(.d (.int .i64 0)),(.nils 1),(.d (.bool false)),(.d (.bool false))],none⟩,
 ⟨none,.st 7 (.tmp 9) (.tmp 34),none⟩])
 (.seq
 (.seq
 (.reg [] [⟨some 35,.fad 4 (.tmp 9),none⟩,
 ⟨some 36,.ld false 1 (.tmp 35),none⟩,
 ⟨some 37,.mov (.tmp 1),none⟩,
 ⟨some 38,.ixa 1 (.tmp 36) (.tmp 37),none⟩,
 ⟨some 39,.ld false 1 (.tmp 38),none⟩,
 ⟨some 40,.len (.tmp 39),none⟩,
 ⟨some 41,.cmp .eql (.tmp 40) (.cst (.d (.int .i64 0))),none⟩])
 (.cond (.tmp 41)
 (.seq
 (.reg [4] [⟨some 42,.mov (.tmp 2),none⟩,
 ⟨some 43,.len (.tmp 42),none⟩,
 ⟨some 44,.msl 4 5 1 1 (.int .u8 0) (.tmp 43),none⟩,
 ⟨some 10,.mov (.tmp 44),none⟩])
 (.seq
 (.reg [] [⟨some 45,.mov (.tmp 10),none⟩,
 ⟨some 46,.mov (.tmp 2),none⟩,
 ⟨some 47,.copy 1 (.tmp 45) (.tmp 46),none⟩])
 (.reg [] [⟨some 48,.fad 4 (.tmp 9),none⟩,
 ⟨some 49,.ld false 1 (.tmp 48),none⟩,
 ⟨some 50,.mov (.tmp 1),none⟩,
 ⟨some 51,.mov (.tmp 10),none⟩,
 ⟨some 52,.ixa 1 (.tmp 49) (.tmp 50),none⟩,
 ⟨none,.st 1 (.tmp 52) (.tmp 51),none⟩])))
 .skip))
 (.seq
 (.reg [] [⟨some 53,.ld true 7 (.tmp 9),none⟩,
 ⟨none,.st 7 (.tmp 6) (.tmp 53),none⟩,
 ⟨some 7,.mov (.cst (.d (.int .i64 0))),none⟩])
 .ret)))))⟩
def tx70:AFun:=⟨30,44,[.cell 2 7 true,.tmp 3],
 (.seq
 (.reg [0,1] [⟨some 1,.cbx 0 7 (.tmp 0),none⟩,
 ⟨some 2,.alloc 1 [(.d (.int .i64 0)),(.d (.int .i64 0)),(.d (.int .i64 0)),(.d (.int .i64 0)),(.nils 1),(.d (.bool false)),(.d (.bool false))],none⟩,
 ⟨some 3,.mov (.cst (.d (.int .i64 0))),none⟩])
 (.seq
 (.seq
 (.regd [2] [⟨some 6,.ld true 7 (.tmp 1),none⟩,
 ⟨some 7,.call 83 [(.tmp 6)],none⟩,
 ⟨some 8,.ld true 7 (.tmp 1),none⟩,
 ⟨some 9,.call 141 [(.tmp 8)],none⟩,
 ⟨some 10,.ld true 7 (.tmp 1),none⟩,
 ⟨some 11,.call 143 [(.tmp 10)],none⟩,
 ⟨some 12,.call 103 [(.tmp 11),(.cst (.d (.int .i64 16)))],none⟩,
 ⟨some 13,.fad 4 (.tmp 1),none⟩,
 ⟨some 14,.ld false 1 (.tmp 13),none⟩,
 ⟨some 15,.call 140 [(.tmp 14)],none⟩,
 ⟨some 16,.fad 3 (.tmp 1),none⟩,
 ⟨some 17,.ld false 1 (.tmp 16),none⟩,
 ⟨some 18,.cmp .neq (.tmp 15) (.tmp 17),none⟩,
 ⟨some 19,.call 103 [(.tmp 18),(.cst (.d (.int .i64 27)))],none⟩,
 ⟨some 20,.bsl 2 32 1 4 [(.int .i64 0),(.int .i64 0),(.int .i64 0),(.int .i64 0)] [(0,(.tmp 7)),(1,(.tmp 9)),(2,(.tmp 12)),(3,(.tmp 19))],none⟩,
 ⟨some 21,.call 99 [(.tmp 20)],none⟩,
 ⟨some 4,.mov (.tmp 21),none⟩] [(0,2),(1,2),(0,4),(1,4),(2,4),(3,4),(0,7),(1,7),(2,7),(3,7),(4,7),(5,7),(6,7),(0,8),(1,8),(2,8),(3,8),(4,8),(5,8),(6,8),(0,10),(1,10),(2,10),(3,10),(4,10),(5,10),(6,10),(7,10),(8,10),(9,10),(0,11),(1,11),(2,11),(3,11),(4,11),(5,11),(6,11),(7,11),(8,11),(9,11)])
 (.seq
 (.reg [] [⟨some 22,.mov (.tmp 4),none⟩,
 ⟨some 23,.cmp .neq (.tmp 22) (.cst (.d (.int .i64 0))),none⟩])
 (.cond (.tmp 23)
 (.seq
 (.reg [] [⟨some 24,.build [(.d (.int .i64 0)),(.d (.int .i64 0)),(.d (.int .i64 0)),(.d (.int .i64 0)),(.nils 1),(.d (.bool false)),(.d (.bool false))] [],none⟩,
 ⟨some 25,.mov (.tmp 4),none⟩,
 ⟨none,.st 7 (.tmp 2) (.tmp 24),none⟩,
 ⟨some 3,.mov (.tmp 25),none⟩])
 .ret)
 .skip)))
 (.seq
 (.reg [3] [⟨some 26,.ld true 7 (.tmp 1),none⟩,
 ⟨some 27,.call 142 [(.tmp 26)],none⟩,
 ⟨some 5,.alloc 3 [(.d (.int .i64 0)),(.d (.int .i64 0)),(.d (.int .i64 0)),(.d (.int .i64 0)),(.nils 1),(.d (.bool false)),(.d (.bool false))],none⟩,
 ⟨none,.st 7 (.tmp 5) (.tmp 27),none⟩])
 (.seq
 (.reg [] [⟨some 28,.fad 5 (.tmp 5),none⟩,
 ⟨none,.st 1 (.tmp 28) (.cst (.d (.bool true))),none⟩])
 (.seq
 (.reg [] [⟨some 29,.ld true 7 (.tmp 5),none⟩,
 ⟨none,.st 7 (.tmp 2) (.tmp 29),none⟩,
 ⟨some 3,.mov (.cst (.d (.int .i64 0))),none⟩])
 .ret)))))⟩
def tx71:AFun:=⟨32,44,[.cell 2 7 true,.tmp 3],
 (.seq
 (.reg [0,1] [⟨some 1,.cbx 0 7 (.tmp 0),none⟩,
 ⟨some 2,.alloc 1 [(.d (.int .i64 0)),(.d (.int .i64 0)),(.d (.int .i64 0)),(.d (.int .i64 0)),(.nils 1),(.d (.bool false)),(.d (.bool false))],none⟩,
 ⟨some 3,.mov (.cst (.d (.int .i64 0))),none⟩])
 (.seq
 (.seq
 (.regd [2] [⟨some 6,.ld true 7 (.tmp 1),none⟩,
 ⟨some 7,.call 83 [(.tmp 6)],none⟩,
 ⟨some 8,.fad 5 (.tmp 1),none⟩,
 ⟨some 9,.ld false 1 (.tmp 8),none⟩,
 ⟨some 10,.not (.tmp 9),none⟩,
 ⟨some 11,.mov (.tmp 10),none⟩,
 ⟨some 12,.fad 6 (.tmp 1),some (11,false)⟩,
 ⟨some 13,.ld false 1 (.tmp 12),some (11,false)⟩,
 ⟨some 14,.pick (.tmp 11) (.cst (.d (.bool true))) (.tmp 13),none⟩,
 ⟨some 15,.call 103 [(.tmp 14),(.cst (.d (.int .i64 22)))],none⟩,
 ⟨some 16,.bsl 2 32 1 2 [(.int .i64 0),(.int .i64 0)] [(0,(.tmp 7)),(1,(.tmp 15))],none⟩,
 ⟨some 17,.call 99 [(.tmp 16)],none⟩,
 ⟨some 4,.mov (.tmp 17),none⟩] [(0,2),(1,2),(0,3),(1,3),(0,4),(1,4)])
 (.seq
 (.reg [] [⟨some 18,.mov (.tmp 4),none⟩,
 ⟨some 19,.cmp .neq (.tmp 18) (.cst (.d (.int .i64 0))),none⟩])
 (.cond (.tmp 19)
 (.seq
 (.reg [] [⟨some 20,.build [(.d (.int .i64 0)),(.d (.int .i64 0)),(.d (.int .i64 0)),(.d (.int .i64 0)),(.nils 1),(.d (.bool false)),(.d (.bool false))] [],none⟩,
 ⟨some 21,.mov (.tmp 4),none⟩,
 ⟨none,.st 7 (.tmp 2) (.tmp 20),none⟩,
 ⟨some 3,.mov (.tmp 21),none⟩])
 .ret)
 .skip)))
 (.seq
 (.reg [3] [⟨some 22,.ld true 7 (.tmp 1),none⟩,
 ⟨some 23,.call 142 [(.tmp 22)],none⟩,
 ⟨some 5,.alloc 3 [(.d (.int .i64 0)),(.d (.int .i64 0)),(.d (.int .i64 0)),(.d (.int .i64 0)),(.nils 1),(.d (.bool false)),(.d (.bool false))],none⟩,
 ⟨none,.st 7 (.tmp 5) (.tmp 23),none⟩])
 (.seq
 (.regd [] [⟨some 24,.fad 0 (.tmp 1),none⟩,
 ⟨some 25,.ld false 1 (.tmp 24),none⟩,
 ⟨some 26,.fad 2 (.tmp 1),none⟩,
 ⟨some 27,.ld false 1 (.tmp 26),none⟩,
 ⟨some 28,.fad 1 (.tmp 5),none⟩,
 ⟨none,.st 1 (.tmp 28) (.tmp 25),none⟩,
 ⟨some 29,.fad 0 (.tmp 5),none⟩,
 ⟨none,.st 1 (.tmp 29) (.tmp 27),none⟩,
 ⟨some 30,.fad 6 (.tmp 5),none⟩,
 ⟨none,.st 1 (.tmp 30) (.cst (.d (.bool true))),none⟩] [(0,2),(1,2),(0,3),(1,3),(2,4),(3,4),(2,5),(3,5)])
 (.seq
 (.reg [] [⟨some 31,.ld true 7 (.tmp 5),none⟩,
 ⟨none,.st 7 (.tmp 2) (.tmp 31),none⟩,
 ⟨some 3,.mov (.cst (.d (.int .i64 0))),none⟩])
 .ret)))))⟩
def tx72:AFun:=⟨10,42,[.cell 2 7 true,.tmp 3],
 (.seq
 (.reg [0,1] [⟨some 1,.cbx 0 7 (.tmp 0),none⟩,
 ⟨some 2,.alloc 1 [(.d (.int .i64 0)),(.d (.int .i64 0)),(.d (.int .i64 0)),(.d (.int .i64 0)),(.nils 1),(.d (.bool false)),(.d (.bool false))],none⟩,
 ⟨some 3,.mov (.cst (.d (.int .i64 0))),none⟩])
 (.seq
 (.reg [] [⟨some 4,.ld true 7 (.tmp 1),none⟩,
 ⟨some 5,.fad 0 (.tmp 1),none⟩,
 ⟨some 6,.ld false 1 (.tmp 5),none⟩,
 ⟨some 7,.call 144 [(.tmp 4),(.tmp 6)],none⟩,
 ⟨some 8,.ext 0 (.tmp 7),none⟩,
 ⟨some 9,.ext 1 (.tmp 7),none⟩,
 ⟨none,.st 7 (.tmp 2) (.tmp 8),none⟩,
 ⟨some 3,.mov (.tmp 9),none⟩])
 .ret))⟩
def tx73:AFun:=⟨10,42,[.cell 2 7 true,.tmp 3],
 (.seq
 (.reg [0,1] [⟨some 1,.cbx 0 7 (.tmp 0),none⟩,
 ⟨some 2,.alloc 1 [(.d (.int .i64 0)),(.d (.int .i64 0)),(.d (.int .i64 0)),(.d (.int .i64 0)),(.nils 1),(.d (.bool false)),(.d (.bool false))],none⟩,
 ⟨some 3,.mov (.cst (.d (.int .i64 0))),none⟩])
 (.seq
 (.reg [] [⟨some 4,.ld true 7 (.tmp 1),none⟩,
 ⟨some 5,.fad 1 (.tmp 1),none⟩,
 ⟨some 6,.ld false 1 (.tmp 5),none⟩,
 ⟨some 7,.call 144 [(.tmp 4),(.tmp 6)],none⟩,
 ⟨some 8,.ext 0 (.tmp 7),none⟩,
 ⟨some 9,.ext 1 (.tmp 7),none⟩,
 ⟨none,.st 7 (.tmp 2) (.tmp 8),none⟩,
 ⟨some 3,.mov (.tmp 9),none⟩])
 .ret))⟩
def tx83:AFun:=⟨57,43,[.tmp 2],
 (.seq
 (.reg [0] [⟨some 1,.cbx 0 7 (.tmp 0),none⟩,
 ⟨some 2,.mov (.cst (.d (.int .i64 0))),none⟩])
 (.seq
 (.reg [] [⟨some 3,.mov (.cst (.d (.fn (.func 147) []))),none⟩])
 (.seq
 (.seq
 (.regd [1] [⟨some 7,.mov (.tmp 3),none⟩,
 ⟨some 8,.fad 0 (.tmp 1),none⟩,
 ⟨some 9,.ld false 1 (.tmp 8),none⟩,
 ⟨some 10,.callv (.tmp 7) [(.tmp 9)],none⟩,
 ⟨some 11,.mov (.tmp 3),none⟩,
 ⟨some 12,.fad 1 (.tmp 1),none⟩,
 ⟨some 13,.ld false 1 (.tmp 12),none⟩,
 ⟨some 14,.callv (.tmp 11) [(.tmp 13)],none⟩,
 ⟨some 15,.mov (.tmp 3),none⟩,
 ⟨some 16,.fad 2 (.tmp 1),none⟩,
 ⟨some 17,.ld false 1 (.tmp 16),none⟩,
 ⟨some 18,.callv (.tmp 15) [(.tmp 17)],none⟩,
 ⟨some 19,.fad 4 (.tmp 1),none⟩,
 ⟨some 20,.ld false 1 (.tmp 19),none⟩,
 ⟨some 21,.len (.tmp 20),none⟩,
 ⟨some 22,.cmp .gtr (.tmp 21) (.cst (.d (.int .i64 16))),none⟩,
 ⟨some 23,.call 103 [(.tmp 22),(.cst (.d (.int .i64 5)))],none⟩,
 ⟨some 24,.bsl 1 32 1 4 [(.int .i64 0),(.int .i64 0),(.int .i64 0),(.int .i64 0)] [(0,(.tmp 10)),(1,(.tmp 14)),(2,(.tmp 18)),(3,(.tmp 23))],none⟩,
 ⟨some 25,.call 99 [(.tmp 24)],none⟩,
 ⟨some 4,.mov (.tmp 25),none⟩] [(0,1),(0,2),(0,4),(1,4),(2,4),(3,4),(0,5),(1,5),(2,5),(3,5),(4,5),(0,6),(1,6),(2,6),(3,6),(4,6),(0,8),(1,8),(2,8),(3,8),(4,8),(5,8),(6,8),(7,8),(0,9),(1,9),(2,9),(3,9),(4,9),(5,9),(6,9),(7,9),(8,9),(0,10),(1,10),(2,10),(3,10),(4,10),(5,10),(6,10),(7,10),(8,10),(0,12),(1,12),(2,12),(3,12),(4,12),(5,12),(6,12),(7,12),(8,12),(9,12),(10,12),(11,12),(0,13),(1,13),(2,13),(3,13),(4,13),(5,13),(6,13),(7,13),(8,13),(9,13),(10,13),(11,13),(0,14),(1,14),(2,14),(3,14),(4,14),(5,14),(6,14),(7,14),(8,14),(9,14),(10,14),(11,14),(0,15),(1,15),(2,15),(3,15),(4,15),(5,15),(6,15),(7,15),(8,15),(9,15),(10,15),(11,15)])
 (.seq
 (.reg [] [⟨some 26,.mov (.tmp 4),none⟩,
 ⟨some 27,.cmp .neq (.tmp 26) (.cst (.d (.int .i64 0))),none⟩])
 (.cond (.tmp 27)
 (.seq
 (.reg [] [⟨some 28,.mov (.tmp 4),none⟩,
 ⟨some 2,.mov (.tmp 28),none⟩])
 .ret)
 .skip)))
 (.seq
 (.reg [] [⟨some 29,.fad 4 (.tmp 1),none⟩,
 ⟨some 30,.ld false 1 (.tmp 29),none⟩,
 ⟨some 31,.call 148 [(.tmp 30),(.cst (.d (.fn (.func 149) [])))],none⟩,
 ⟨some 5,.mov (.tmp 31),none⟩])
 (.seq
 (.seq
 (.regd [2] [⟨some 32,.mov (.tmp 5),none⟩,
 ⟨some 33,.call 103 [(.tmp 32),(.cst (.d (.int .i64 4)))],none⟩,
 ⟨some 34,.fad 3 (.tmp 1),none⟩,
 ⟨some 35,.ld false 1 (.tmp 34),none⟩,
 ⟨some 36,.call 122 [(.tmp 35),(.cst (.d (.int .i64 0))),(.cst (.d (.int .i64 9972)))],none⟩,
 ⟨some 37,.ld true 7 (.tmp 1),none⟩,
 ⟨some 38,.call 150 [(.tmp 37)],none⟩,
 ⟨some 39,.not (.tmp 38),none⟩,
 ⟨some 40,.call 103 [(.tmp 39),(.cst (.d (.int .i64 22)))],none⟩,
 ⟨some 41,.bsl 2 32 1 3 [(.int .i64 0),(.int .i64 0),(.int .i64 0)] [(0,(.tmp 33)),(1,(.tmp 36)),(2,(.tmp 40))],none⟩,
 ⟨some 42,.call 99 [(.tmp 41)],none⟩,
 ⟨some 6,.mov (.tmp 42),none⟩] [(0,2),(1,2),(0,3),(1,3),(0,5),(1,5),(2,5),(3,5),(4,5)])
 (.seq
 (.reg [] [⟨some 43,.mov (.tmp 6),none⟩,
 ⟨some 44,.cmp .neq (.tmp 43) (.cst (.d (.int .i64 0))),none⟩])
 (.cond (.tmp 44)
 (.seq
 (.reg [] [⟨some 45,.mov (.tmp 6),none⟩,
 ⟨some 2,.mov (.tmp 45),none⟩])
 .ret)
 .skip)))
 (.seq
 (.regd [] [⟨some 46,.fad 5 (.tmp 1),none⟩,
 ⟨some 47,.ld false 1 (.tmp 46),none⟩,
 ⟨some 48,.mov (.tmp 47),none⟩,
 ⟨some 49,.fad 4 (.tmp 1),some (48,true)⟩,
 ⟨some 50,.ld false 1 (.tmp 49),some (48,true)⟩,
 ⟨some 51,.call 140 [(.tmp 50)],some (48,true)⟩,
 ⟨some 52,.fad 3 (.tmp 1),some (48,true)⟩,
 ⟨some 53,.ld false 1 (.tmp 52),some (48,true)⟩,
 ⟨some 54,.cmp .neq (.tmp 51) (.tmp 53),some (48,true)⟩,
 ⟨some 55,.pick (.tmp 48) (.tmp 54) (.cst (.d (.bool false))),none⟩,
 ⟨some 56,.call 103 [(.tmp 55),(.cst (.d (.int .i64 27)))],none⟩,
 ⟨some 2,.mov (.tmp 56),none⟩] [(3,6),(4,6),(5,6),(3,7),(4,7),(5,7)])
 .ret))))))⟩
def tx86:AFun:=⟨134,50,[.tmp 6,.tmp 7],
 (.seq
 (.reg [] [⟨some 6,.mov (.cst (.nils 1)),none⟩,
 ⟨some 7,.mov (.cst (.d (.int .i64 0))),none⟩])
 (.seq
 (.seq
 (.reg [] [⟨some 20,.mov (.tmp 0),none⟩,
 ⟨some 21,.len (.tmp 20),none⟩,
 ⟨some 22,.cmp .gtr (.tmp 21) (.cst (.d (.int .i64 8))),none⟩])
 (.cond (.tmp 22)
 (.seq
 (.reg [] [⟨some 6,.mov (.cst (.nils 1)),none⟩,
 ⟨some 7,.mov (.cst (.d (.int .i64 5))),none⟩])
 .ret)
 .skip))
 (.seq
 (.reg [0] [⟨some 23,.mkm 0,none⟩,
 ⟨some 8,.mov (.tmp 23),none⟩])
 (.seq
 (.seq
 (.reg [] [⟨some 24,.mov (.tmp 0),none⟩,
 ⟨some 25,.len (.tmp 24),none⟩,
 ⟨some 26,.mov (.cst (.d (.int .i64 0))),none⟩])
 (.post [0,1,2] [0,1,2]
 (.block 0
 (.keep [0,1,2,8,24,25,26] [0]
 (.loop
 (.post [0,1,2,8,24,25,26] [1,2]
 (.seq
 (.reg [] [⟨some 27,.cmp .lss (.tmp 26) (.tmp 25),none⟩])
 (.seq
 (.cond (.tmp 27)
 .skip
 (.exit 0))
 (.seq
 (.block 1
 (.seq
 (.reg [1] [⟨some 28,.ixa 2 (.tmp 24) (.tmp 26),none⟩,
 ⟨some 29,.ld true 2 (.tmp 28),none⟩,
 ⟨some 10,.alloc 1 [(.d (.str [])),(.d (.int .i64 0))],none⟩,
 ⟨none,.st 2 (.tmp 10) (.tmp 29),none⟩])
 (.seq
 (.seq
 (.regd [2] [⟨some 30,.fad 0 (.tmp 10),none⟩,
 ⟨some 31,.ld false 1 (.tmp 30),none⟩,
 ⟨some 32,.call 116 [(.tmp 31)],none⟩,
 ⟨some 33,.mov (.tmp 8),none⟩,
 ⟨some 34,.fad 0 (.tmp 10),none⟩,
 ⟨some 35,.ld false 1 (.tmp 34),none⟩,
 ⟨some 36,.lkp none (.bool false) false (.tmp 33) (.tmp 35),none⟩,
 ⟨some 37,.call 103 [(.tmp 36),(.cst (.d (.int .i64 9)))],none⟩,
 ⟨some 38,.fad 1 (.tmp 10),none⟩,
 ⟨some 39,.ld false 1 (.tmp 38),none⟩,
 ⟨some 40,.call 122 [(.tmp 39),(.cst (.d (.int .i64 0))),(.cst (.d (.int .i64 1000)))],none⟩,
 ⟨some 41,.bsl 2 32 1 3 [(.int .i64 0),(.int .i64 0),(.int .i64 0)] [(0,(.tmp 32)),(1,(.tmp 37)),(2,(.tmp 40))],none⟩,
 ⟨some 42,.call 99 [(.tmp 41)],none⟩,
 ⟨some 11,.mov (.tmp 42),none⟩] [(0,3),(1,3),(2,3),(0,4),(1,4),(2,4),(3,4),(0,5),(1,5),(2,5),(3,5),(0,6),(1,6),(2,6),(0,8),(1,8),(2,8),(3,8),(4,8),(5,8),(6,8),(7,8),(0,9),(1,9),(2,9),(3,9),(4,9),(5,9),(6,9),(7,9)])
 (.seq
 (.reg [] [⟨some 43,.mov (.tmp 11),none⟩,
 ⟨some 44,.cmp .neq (.tmp 43) (.cst (.d (.int .i64 0))),none⟩])
 (.cond (.tmp 44)
 (.seq
 (.reg [] [⟨some 45,.mov (.tmp 11),none⟩,
 ⟨some 6,.mov (.cst (.nils 1)),none⟩,
 ⟨some 7,.mov (.tmp 45),none⟩])
 .ret)
 .skip)))
 (.reg [] [⟨some 46,.mov (.tmp 8),none⟩,
 ⟨some 47,.fad 0 (.tmp 10),none⟩,
 ⟨some 48,.ld false 1 (.tmp 47),none⟩,
 ⟨none,.mpu none (.tmp 46) (.tmp 48) (.cst (.d (.bool true))),none⟩]))))
 (.reg [] [⟨some 49,.arith .add .i64 (.tmp 26) (.cst (.d (.int .i64 1))),none⟩,
 ⟨some 26,.mov (.tmp 49),none⟩]))))))))))
 (.seq
 (.seq
 (.reg [3] [⟨some 50,.mov (.tmp 1),none⟩,
 ⟨some 51,.call 122 [(.tmp 50),(.cst (.d (.int .i64 0))),(.cst (.d (.int .i64 8000)))],none⟩,
 ⟨some 52,.mov (.tmp 2),none⟩,
 ⟨some 53,.call 122 [(.tmp 52),(.cst (.d (.int .i64 0))),(.cst (.d (.int .i64 64)))],none⟩,
 ⟨some 54,.bsl 3 32 1 2 [(.int .i64 0),(.int .i64 0)] [(0,(.tmp 51)),(1,(.tmp 53))],none⟩,
 ⟨some 55,.call 99 [(.tmp 54)],none⟩,
 ⟨some 12,.mov (.tmp 55),none⟩])
 (.seq
 (.reg [] [⟨some 56,.mov (.tmp 12),none⟩,
 ⟨some 57,.cmp .neq (.tmp 56) (.cst (.d (.int .i64 0))),none⟩])
 (.cond (.tmp 57)
 (.seq
 (.reg [] [⟨some 58,.mov (.tmp 12),none⟩,
 ⟨some 6,.mov (.cst (.nils 1)),none⟩,
 ⟨some 7,.mov (.tmp 58),none⟩])
 .ret)
 .skip)))
 (.seq
 (.reg [] [⟨some 13,.mov (.cst (.nils 4)),none⟩])
 (.seq
 (.seq
 (.reg [] [⟨some 59,.mov (.tmp 0),none⟩,
 ⟨some 60,.len (.tmp 59),none⟩,
 ⟨some 61,.mov (.cst (.d (.int .i64 0))),none⟩])
 (.post [1,2,13] [0,1,2,3,4,5,6]
 (.block 2
 (.asrow 6 226 4 13
 (.keep [1,2,13,59,60,61] [0,1,2,3]
 (.loop
 (.post [1,2,13,59,60,61] [4,5,6]
 (.seq
 (.reg [] [⟨some 62,.cmp .lss (.tmp 61) (.tmp 60),none⟩])
 (.seq
 (.cond (.tmp 62)
 .skip
 (.exit 2))
 (.seq
 (.block 3
 (.seq
 (.reg [4] [⟨some 63,.mov (.tmp 61),none⟩,
 ⟨some 64,.ixa 2 (.tmp 59) (.tmp 61),none⟩,
 ⟨some 65,.ld true 2 (.tmp 64),none⟩,
 ⟨some 15,.alloc 4 [(.d (.str [])),(.d (.int .i64 0))],none⟩,
 ⟨some 14,.mov (.tmp 63),none⟩,
 ⟨none,.st 2 (.tmp 15) (.tmp 65),none⟩])
 (.reg [5,6] [⟨some 66,.mov (.tmp 13),none⟩,
 ⟨some 67,.ld true 2 (.tmp 15),none⟩,
 ⟨some 68,.mov (.tmp 14),none⟩,
 ⟨some 69,.build [(.d (.str [])),(.d (.int .i64 0)),(.d (.int .i64 0)),(.d (.int .i64 0))] [(0,2,(.tmp 67)),(2,1,(.tmp 68)),(3,1,(.cst (.d (.int .i64 0))))],none⟩,
 ⟨some 70,.bsl 5 226 4 1 [(.agg [(.str []),(.int .i64 0),(.int .i64 0),(.int .i64 0)])] [(0,(.tmp 69))],none⟩,
 ⟨some 71,.app 6 226 4 40 (.tmp 66) (.tmp 70),none⟩,
 ⟨some 13,.mov (.tmp 71),none⟩])))
 (.reg [] [⟨some 72,.arith .add .i64 (.tmp 61) (.cst (.d (.int .i64 1))),none⟩,
 ⟨some 61,.mov (.tmp 72),none⟩])))))))))))
 (.seq
 (.reg [7] [⟨some 73,.mov (.tmp 2),none⟩,
 ⟨some 74,.mkb 7 28 3 24 (.nils 1) (.tmp 73),none⟩,
 ⟨some 16,.mov (.tmp 74),none⟩])
 (.seq
 (.seq
 (.reg [] [⟨some 75,.mov (.tmp 2),none⟩,
 ⟨some 76,.mov (.cst (.d (.int .i64 0))),none⟩])
 (.post [16] [0,1,2,3,4,5,6,7,8,9]
 (.block 4
 (.keep [1,13,16,75,76] [0,1,2,3,4,5,6,7]
 (.loop
 (.post [1,13,16,75,76] [8,9]
 (.seq
 (.reg [] [⟨some 77,.cmp .lss (.tmp 76) (.tmp 75),none⟩])
 (.seq
 (.cond (.tmp 77)
 .skip
 (.exit 4))
 (.seq
 (.block 5
 (.seq
 (.reg [] [⟨some 78,.mov (.tmp 76),none⟩,
 ⟨some 17,.mov (.tmp 78),none⟩])
 (.seq
 (.reg [] [⟨some 79,.mov (.tmp 13),none⟩,
 ⟨some 80,.calli 153 [(.tmp 79),(.cst (.d (.fn (.func 154) [])))],none⟩])
 (.seq
 (.reg [] [⟨some 18,.mov (.cst (.d (.int .i64 0))),none⟩])
 (.seq
 (.seq
 (.reg [] [⟨some 81,.mov (.tmp 13),none⟩,
 ⟨some 82,.len (.tmp 81),none⟩,
 ⟨some 83,.mov (.cst (.d (.int .i64 0))),none⟩])
 (.post [1,13,16,17,75,76] [0,1,2,3,4,5,6,7,8,9]
 (.block 6
 (.keep [1,13,16,17,18,75,76,82,83] [0,1,2,3,4,5,6,7]
 (.loop
 (.post [1,13,16,17,18,75,76,82,83] [8,9]
 (.seq
 (.reg [] [⟨some 84,.cmp .lss (.tmp 83) (.tmp 82),none⟩])
 (.seq
 (.cond (.tmp 84)
 .skip
 (.exit 6))
 (.seq
 (.block 7
 (.seq
 (.reg [] [⟨some 85,.mov (.tmp 83),none⟩,
 ⟨some 19,.mov (.tmp 85),none⟩])
 (.seq
 (.seq
 (.reg [] [⟨some 86,.mov (.tmp 18),none⟩,
 ⟨some 87,.mov (.tmp 13),none⟩,
 ⟨some 88,.mov (.tmp 19),none⟩,
 ⟨some 89,.ixa 4 (.tmp 87) (.tmp 88),none⟩,
 ⟨some 90,.fad 0 (.tmp 89),none⟩,
 ⟨some 91,.fad 1 (.tmp 90),none⟩,
 ⟨some 92,.ld false 1 (.tmp 91),none⟩,
 ⟨some 93,.arith .add .i64 (.tmp 86) (.tmp 92),none⟩,
 ⟨some 94,.mov (.tmp 1),none⟩,
 ⟨some 95,.cmp .gtr (.tmp 93) (.tmp 94),none⟩])
 (.cond (.tmp 95)
 (.exit 7)
 .skip))
 (.seq
 (.reg [] [⟨some 96,.mov (.tmp 18),none⟩,
 ⟨some 97,.mov (.tmp 13),none⟩,
 ⟨some 98,.mov (.tmp 19),none⟩,
 ⟨some 99,.ixa 4 (.tmp 97) (.tmp 98),none⟩,
 ⟨some 100,.fad 0 (.tmp 99),none⟩,
 ⟨some 101,.fad 1 (.tmp 100),none⟩,
 ⟨some 102,.ld false 1 (.tmp 101),none⟩,
 ⟨some 103,.arith .add .i64 (.tmp 96) (.tmp 102),none⟩,
 ⟨some 18,.mov (.tmp 103),none⟩])
 (.seq
 (.reg [] [⟨some 104,.mov (.tmp 13),none⟩,
 ⟨some 105,.mov (.tmp 19),none⟩,
 ⟨some 106,.ixa 4 (.tmp 104) (.tmp 105),none⟩,
 ⟨some 107,.fad 3 (.tmp 106),none⟩,
 ⟨some 108,.ld false 1 (.tmp 107),none⟩,
 ⟨some 109,.arith .add .i64 (.tmp 108) (.cst (.d (.int .i64 1))),none⟩,
 ⟨some 110,.ixa 4 (.tmp 104) (.tmp 105),none⟩,
 ⟨some 111,.fad 3 (.tmp 110),none⟩,
 ⟨none,.st 1 (.tmp 111) (.tmp 109),none⟩])
 (.regd [8,9] [⟨some 112,.mov (.tmp 16),none⟩,
 ⟨some 113,.mov (.tmp 17),none⟩,
 ⟨some 114,.mov (.tmp 16),none⟩,
 ⟨some 115,.mov (.tmp 17),none⟩,
 ⟨some 116,.ixa 1 (.tmp 114) (.tmp 115),none⟩,
 ⟨some 117,.ld false 1 (.tmp 116),none⟩,
 ⟨some 118,.mov (.tmp 13),none⟩,
 ⟨some 119,.mov (.tmp 19),none⟩,
 ⟨some 120,.ixa 4 (.tmp 118) (.tmp 119),none⟩,
 ⟨some 121,.fad 2 (.tmp 120),none⟩,
 ⟨some 122,.ld false 1 (.tmp 121),none⟩,
 ⟨some 123,.bsl 8 3 1 1 [(.int .i64 0)] [(0,(.tmp 122))],none⟩,
 ⟨some 124,.app 9 3 1 8 (.tmp 117) (.tmp 123),none⟩,
 ⟨some 125,.ixa 1 (.tmp 112) (.tmp 113),none⟩,
 ⟨none,.st 1 (.tmp 125) (.tmp 124),none⟩] [(0,1),(0,2),(1,2),(0,3),(1,3),(2,3),(0,4),(1,4),(0,5),(1,5),(0,6),(1,6),(2,6),(3,6),(4,6),(5,6),(0,7),(1,7),(2,7),(3,7),(4,7),(5,7),(6,7),(0,8),(1,8),(2,8),(3,8),(4,8),(5,8),(0,9),(1,9),(2,9),(3,9),(4,9),(5,9),(0,10),(1,10),(2,10),(3,10),(4,10),(5,10),(0,11),(1,11),(2,11),(3,11),(4,11),(5,11),(0,12),(1,12)]))))))
 (.reg [] [⟨some 126,.arith .add .i64 (.tmp 83) (.cst (.d (.int .i64 1))),none⟩,
 ⟨some 83,.mov (.tmp 126),none⟩]))))))))))
 (.reg [] [⟨some 127,.mov (.tmp 16),none⟩,
 ⟨some 128,.mov (.tmp 17),none⟩,
 ⟨some 129,.ixa 1 (.tmp 127) (.tmp 128),none⟩,
 ⟨some 130,.ld false 1 (.tmp 129),none⟩,
 ⟨some 131,.calli 119 [(.tmp 130)],none⟩]))))))
 (.asdat 129 (.reg [] [⟨some 132,.arith .add .i64 (.tmp 76) (.cst (.d (.int .i64 1))),none⟩,
 ⟨some 76,.mov (.tmp 132),none⟩])))))))))))
 (.seq
 (.reg [] [⟨some 133,.mov (.tmp 16),none⟩,
 ⟨some 6,.mov (.tmp 133),none⟩,
 ⟨some 7,.mov (.cst (.d (.int .i64 0))),none⟩])
 .ret))))))))))⟩
def tx91:AFun:={ jr91 with heap:=40 }
def tx96:AFun:=⟨8,43,[.cell 0 2 true],
 (.seq
 (.reg [0] [⟨some 0,.alloc 0 [(.nils 2),(.nils 6)],none⟩])
 (.seq
 (.reg [1,2] [⟨some 1,.build [(.d (.str [])),(.d (.str []))] [(0,1,(.cst (.d (.str [109,49])))),(1,1,(.cst (.d (.str [103,114,105,100]))))],none⟩,
 ⟨some 2,.bsl 1 174 2 1 [(.agg [(.str []),(.str [])])] [(0,(.tmp 1))],none⟩,
 ⟨some 3,.call 155 [(.cst (.d (.str [103,114,105,100]))),(.cst (.d (.str [115,104,111,112]))),(.cst (.d (.int .i64 10))),(.cst (.d (.int .i64 20)))],none⟩,
 ⟨some 4,.call 155 [(.cst (.d (.str [115,104,111,112]))),(.cst (.d (.str [100,101,115,107]))),(.cst (.d (.int .i64 15))),(.cst (.d (.int .i64 30)))],none⟩,
 ⟨some 5,.call 155 [(.cst (.d (.str [103,114,105,100]))),(.cst (.d (.str [100,101,115,107]))),(.cst (.d (.int .i64 18))),(.cst (.d (.int .i64 25)))],none⟩,
 ⟨some 6,.bsl 2 175 6 3 [(.agg [(.str []),(.str []),(.str []),(.str []),(.int .i64 0),(.int .i64 0)]),(.agg [(.str []),(.str []),(.str []),(.str []),(.int .i64 0),(.int .i64 0)]),(.agg [(.str []),(.str []),(.str []),(.str []),(.int .i64 0),(.int .i64 0)])] [(0,(.tmp 3)),(1,(.tmp 4)),(2,(.tmp 5))],none⟩,
 ⟨some 7,.build [(.nils 2),(.nils 6)] [(0,1,(.tmp 2)),(1,1,(.tmp 6))],none⟩,
 ⟨none,.st 2 (.tmp 0) (.tmp 7),none⟩])
 .ret))⟩
def tx97:AFun:=⟨8,41,[.cell 4 2 true],
 (.seq
 (.reg [0] [⟨some 4,.alloc 0 [(.d (.int .i64 0)),(.d (.int .i64 0))],none⟩])
 (.seq
 (.reg [] [⟨some 5,.mov (.tmp 0),none⟩,
 ⟨some 6,.mov (.tmp 1),none⟩,
 ⟨some 7,.build [(.d (.int .i64 0)),(.d (.int .i64 0))] [(0,1,(.tmp 5)),(1,1,(.tmp 6))],none⟩,
 ⟨none,.st 2 (.tmp 4) (.tmp 7),none⟩])
 .ret))⟩
def tx98:AFun:=⟨73,50,[.tmp 2,.tmp 3],
 (.seq
 (.reg [0] [⟨some 1,.cbx 0 2 (.tmp 0),none⟩,
 ⟨some 2,.mov (.cst (.d (.str []))),none⟩,
 ⟨some 3,.mov (.cst (.d (.int .i64 0))),none⟩])
 (.seq
 (.seq
 (.reg [] [⟨some 13,.ld true 2 (.tmp 1),none⟩,
 ⟨some 14,.call 27 [(.tmp 13)],none⟩,
 ⟨some 4,.mov (.tmp 14),none⟩])
 (.seq
 (.reg [] [⟨some 15,.mov (.tmp 4),none⟩,
 ⟨some 16,.cmp .neq (.tmp 15) (.cst (.d (.int .i64 0))),none⟩])
 (.cond (.tmp 16)
 (.seq
 (.reg [] [⟨some 17,.mov (.tmp 4),none⟩,
 ⟨some 2,.mov (.cst (.d (.str []))),none⟩,
 ⟨some 3,.mov (.tmp 17),none⟩])
 .ret)
 .skip)))
 (.seq
 (.reg [] [⟨some 5,.mov (.cst (.d (.str []))),none⟩])
 (.seq
 (.seq
 (.reg [] [⟨some 18,.fad 0 (.tmp 1),none⟩,
 ⟨some 19,.ld false 1 (.tmp 18),none⟩,
 ⟨some 20,.len (.tmp 19),none⟩,
 ⟨some 21,.mov (.cst (.d (.int .i64 0))),none⟩])
 (.post [1,5] [0,1,2]
 (.block 0
 (.keep [1,5,19,20,21] [0]
 (.loop
 (.post [1,5,19,20,21] [1,2]
 (.seq
 (.reg [] [⟨some 22,.cmp .lss (.tmp 21) (.tmp 20),none⟩])
 (.seq
 (.cond (.tmp 22)
 .skip
 (.exit 0))
 (.seq
 (.block 1
 (.seq
 (.reg [1] [⟨some 23,.ixa 2 (.tmp 19) (.tmp 21),none⟩,
 ⟨some 24,.ld true 2 (.tmp 23),none⟩,
 ⟨some 7,.alloc 1 [(.d (.str [])),(.d (.str []))],none⟩,
 ⟨none,.st 2 (.tmp 7) (.tmp 24),none⟩])
 (.reg [2] [⟨some 25,.mov (.tmp 5),none⟩,
 ⟨some 26,.fad 0 (.tmp 7),none⟩,
 ⟨some 27,.ld false 1 (.tmp 26),none⟩,
 ⟨some 28,.fad 1 (.tmp 7),none⟩,
 ⟨some 29,.ld false 1 (.tmp 28),none⟩,
 ⟨some 30,.bsl 2 9 1 3 [(.str []),(.str []),(.str [])] [(0,(.cst (.d (.str [111,98,106,101,99,116])))),(1,(.tmp 27)),(2,(.tmp 29))],none⟩,
 ⟨some 31,.call 156 [(.tmp 30),(.cst (.d (.str [32])))],none⟩,
 ⟨some 32,.cat (.tmp 31) (.cst (.d (.str [10]))),none⟩,
 ⟨some 33,.cat (.tmp 25) (.tmp 32),none⟩,
 ⟨some 5,.mov (.tmp 33),none⟩])))
 (.reg [] [⟨some 34,.arith .add .i64 (.tmp 21) (.cst (.d (.int .i64 1))),none⟩,
 ⟨some 21,.mov (.tmp 34),none⟩]))))))))))
 (.seq
 (.seq
 (.reg [] [⟨some 35,.fad 1 (.tmp 1),none⟩,
 ⟨some 36,.ld false 1 (.tmp 35),none⟩,
 ⟨some 37,.len (.tmp 36),none⟩,
 ⟨some 38,.mov (.cst (.d (.int .i64 0))),none⟩])
 (.post [5] [0,1,2,3,4,5,6,7,8,9]
 (.block 2
 (.keep [5,36,37,38] [0,1,2]
 (.loop
 (.post [5,36,37,38] [3,4,5,6,7,8,9]
 (.seq
 (.reg [] [⟨some 39,.cmp .lss (.tmp 38) (.tmp 37),none⟩])
 (.seq
 (.cond (.tmp 39)
 .skip
 (.exit 2))
 (.seq
 (.block 3
 (.seq
 (.reg [3] [⟨some 40,.ixa 6 (.tmp 36) (.tmp 38),none⟩,
 ⟨some 41,.ld true 6 (.tmp 40),none⟩,
 ⟨some 9,.alloc 3 [(.d (.str [])),(.d (.str [])),(.d (.str [])),(.d (.str [])),(.d (.int .i64 0)),(.d (.int .i64 0))],none⟩,
 ⟨none,.st 6 (.tmp 9) (.tmp 41),none⟩])
 (.seq
 (.reg [4] [⟨some 42,.bsl 4 9 1 1 [(.str [])] [(0,(.cst (.d (.str [103,114,97,110,116]))))],none⟩,
 ⟨some 10,.mov (.tmp 42),none⟩])
 (.seq
 (.seq
 (.reg [] [⟨some 43,.ld true 4 (.cst (.gp 0 0)),none⟩,
 ⟨some 44,.mov (.cst (.d (.int .i64 0))),none⟩])
 (.post [5,9,10,36,37,38] [0,1,2,3,4,5,6,7]
 (.block 4
 (.asrow 7 9 1 10
 (.keep [5,9,10,36,37,38,43,44] [0,1,2,3,4]
 (.loop
 (.post [5,9,10,36,37,38,43,44] [5,6,7]
 (.seq
 (.reg [] [⟨some 45,.cmp .lss (.tmp 44) (.cst (.d (.int .i64 4))),none⟩])
 (.seq
 (.cond (.tmp 45)
 .skip
 (.exit 4))
 (.seq
 (.block 5
 (.seq
 (.reg [5] [⟨some 46,.ixv true 4 1 (.tmp 43) (.tmp 44),none⟩,
 ⟨some 12,.alloc 5 [.undef],none⟩,
 ⟨none,.st 1 (.tmp 12) (.tmp 46),none⟩])
 (.reg [6,7] [⟨some 47,.mov (.tmp 10),none⟩,
 ⟨some 48,.fad 0 (.tmp 12),none⟩,
 ⟨some 49,.ld false 1 (.tmp 48),none⟩,
 ⟨some 50,.ld true 6 (.tmp 9),none⟩,
 ⟨some 51,.callv (.tmp 49) [(.tmp 50)],none⟩,
 ⟨some 52,.bsl 6 9 1 1 [(.str [])] [(0,(.tmp 51))],none⟩,
 ⟨some 53,.app 7 9 1 16 (.tmp 47) (.tmp 52),none⟩,
 ⟨some 10,.mov (.tmp 53),none⟩])))
 (.reg [] [⟨some 54,.arith .add .i64 (.tmp 44) (.cst (.d (.int .i64 1))),none⟩,
 ⟨some 44,.mov (.tmp 54),none⟩])))))))))))
 (.seq
 (.regd [8,9] [⟨some 55,.mov (.tmp 10),none⟩,
 ⟨some 56,.fad 4 (.tmp 9),none⟩,
 ⟨some 57,.fad 0 (.tmp 56),none⟩,
 ⟨some 58,.ld false 1 (.tmp 57),none⟩,
 ⟨some 59,.call 157 [(.tmp 58)],none⟩,
 ⟨some 60,.fad 4 (.tmp 9),none⟩,
 ⟨some 61,.fad 1 (.tmp 60),none⟩,
 ⟨some 62,.ld false 1 (.tmp 61),none⟩,
 ⟨some 63,.call 157 [(.tmp 62)],none⟩,
 ⟨some 64,.bsl 8 9 1 2 [(.str []),(.str [])] [(0,(.tmp 59)),(1,(.tmp 63))],none⟩,
 ⟨some 65,.app 9 9 1 16 (.tmp 55) (.tmp 64),none⟩,
 ⟨some 10,.mov (.tmp 65),none⟩] [(0,1),(0,2),(0,3),(0,4),(0,5),(1,5),(2,5),(3,5),(4,5),(0,6),(1,6),(2,6),(3,6),(4,6),(0,7),(1,7),(2,7),(3,7),(4,7),(0,8),(0,9)])
 (.reg [] [⟨some 66,.mov (.tmp 5),none⟩,
 ⟨some 67,.mov (.tmp 10),none⟩,
 ⟨some 68,.call 156 [(.tmp 67),(.cst (.d (.str [32])))],none⟩,
 ⟨some 69,.cat (.tmp 68) (.cst (.d (.str [10]))),none⟩,
 ⟨some 70,.cat (.tmp 66) (.tmp 69),none⟩,
 ⟨some 5,.mov (.tmp 70),none⟩]))))))
 (.reg [] [⟨some 71,.arith .add .i64 (.tmp 38) (.cst (.d (.int .i64 1))),none⟩,
 ⟨some 38,.mov (.tmp 71),none⟩]))))))))))
 (.seq
 (.reg [] [⟨some 72,.mov (.tmp 5),none⟩,
 ⟨some 2,.mov (.tmp 72),none⟩,
 ⟨some 3,.mov (.cst (.d (.int .i64 0))),none⟩])
 .ret))))))⟩
def tx99:AFun:={ ir99 with heap:=40 }
def tx100:AFun:={ jr100 with heap:=43 }
def tx101:AFun:={ jr101 with heap:=40 }
def tx102:AFun:=⟨87,54,[.tmp 6,.tmp 7],
 (.seq
 (.reg [0,1] [⟨some 3,.cbx 0 4 (.tmp 0),none⟩,
 ⟨some 4,.cbx 1 1 (.tmp 1),none⟩,
 ⟨some 6,.mov (.cst (.nils 1)),none⟩,
 ⟨some 7,.mov (.cst (.d (.bool false))),none⟩])
 (.scope
 (.seq
 (.reg [] [⟨some 20,.fad 0 (.tmp 3),none⟩,
 ⟨some 21,.ld true 2 (.tmp 20),none⟩,
 ⟨some 22,.fad 3 (.tmp 3),none⟩,
 ⟨some 23,.ld false 1 (.tmp 22),none⟩,
 ⟨some 24,.call 107 [(.tmp 21),(.tmp 23)],none⟩,
 ⟨some 19,.mov (.tmp 24),none⟩,
 ⟨some 25,.ext 0 (.tmp 19),none⟩,
 ⟨some 26,.ext 1 (.tmp 19),none⟩,
 ⟨some 8,.mov (.tmp 25),none⟩,
 ⟨some 9,.mov (.tmp 26),none⟩])
 (.seq
 (.seq
 (.reg [] [⟨some 27,.ld false 1 (.tmp 4),none⟩,
 ⟨some 28,.mov (.tmp 8),none⟩,
 ⟨some 29,.seq false (.tmp 27) (.tmp 28),none⟩])
 (.cond (.tmp 29)
 (.seq
 (.reg [] [⟨some 6,.mov (.cst (.nils 1)),none⟩,
 ⟨some 7,.mov (.cst (.d (.bool true))),none⟩])
 .ret)
 .skip))
 (.seq
 (.reg [2,3] [⟨some 30,.mkm 2,none⟩,
 ⟨some 31,.mov (.tmp 8),none⟩,
 ⟨none,.mpu none (.tmp 30) (.tmp 31) (.cst (.d (.bool true))),none⟩,
 ⟨some 32,.mov (.tmp 30),none⟩,
 ⟨some 10,.alloc 3 [.undef],none⟩,
 ⟨none,.st 1 (.tmp 10) (.tmp 32),none⟩])
 (.seq
 (.reg [4] [⟨some 33,.mov (.tmp 8),none⟩,
 ⟨some 34,.build [(.d (.str [])),(.nils 1)] [(0,1,(.tmp 33)),(1,1,(.cst (.nils 1)))],none⟩,
 ⟨some 35,.bsl 4 234 2 1 [(.agg [(.str []),(.slice 1 [])])] [(0,(.tmp 34))],none⟩,
 ⟨some 11,.mov (.tmp 35),none⟩])
 (.seq
 (.reg [5] [⟨some 12,.alloc 5 [(.nils 1)],none⟩])
 (.seq
 .skip
 (.seq
 (.post [12] [0,1,2,3,4,5,6,7,8,9,10,11,12,13]
 (.block 0
 (.keep [2,3,4,10,11,12] [0,1,2,3,4,5]
 (.loop
 (.post [2,3,4,10,11,12] [6,7,8,9,10,11,12,13]
 (.seq
 (.seq
 (.reg [] [⟨some 36,.mov (.tmp 11),none⟩,
 ⟨some 37,.len (.tmp 36),none⟩,
 ⟨some 38,.cmp .gtr (.tmp 37) (.cst (.d (.int .i64 0))),none⟩])
 (.cond (.tmp 38)
 .skip
 (.exit 0)))
 (.block 1
 (.seq
 (.reg [6] [⟨some 13,.alloc 6 [(.nils 2)],none⟩])
 (.seq
 (.seq
 (.reg [] [⟨some 39,.mov (.tmp 11),none⟩,
 ⟨some 40,.len (.tmp 39),none⟩,
 ⟨some 41,.mov (.cst (.d (.int .i64 0))),none⟩])
 (.post [2,3,4,10,12,13] [0,1,2,3,4,5,6,7,8,9,10,11,12,13]
 (.block 2
 (.keep [2,3,4,10,12,13,39,40,41] [0,1,2,3,4,5,6]
 (.loop
 (.post [2,3,4,10,12,13,39,40,41] [7,8,9,10,11,12,13]
 (.seq
 (.reg [] [⟨some 42,.cmp .lss (.tmp 41) (.tmp 40),none⟩])
 (.seq
 (.cond (.tmp 42)
 .skip
 (.exit 2))
 (.seq
 (.block 3
 (.seq
 (.reg [7] [⟨some 43,.ixa 2 (.tmp 39) (.tmp 41),none⟩,
 ⟨some 44,.ld true 2 (.tmp 43),none⟩,
 ⟨some 15,.alloc 7 [(.d (.str [])),(.nils 1)],none⟩,
 ⟨none,.st 2 (.tmp 15) (.tmp 44),none⟩])
 (.seq
 (.reg [] [⟨some 45,.ld true 4 (.tmp 3),none⟩,
 ⟨some 46,.mov (.tmp 2),none⟩,
 ⟨some 47,.call 158 [(.tmp 45),(.tmp 46)],none⟩])
 (.block 4
 (.keep [2,3,4,10,12,13,15,39,40,41,47] [0,1,2,3,4,5,6,7]
 (.rfor 8 (.tmp 47) [48,49]
 (.seq
 (.reg [] [⟨some 16,.mov (.tmp 48),none⟩])
 (.reg [9] [⟨some 17,.alloc 9 [(.d (.str [])),(.d (.str [])),(.d (.str [])),(.d (.str [])),(.d (.int .i64 0)),(.d (.int .i64 0))],none⟩,
 ⟨none,.st 6 (.tmp 17) (.tmp 49),none⟩]))
 (.post [] [9,10,11,12,13]
 (.block 5
 (.seq
 (.seq
 (.reg [] [⟨some 50,.fad 0 (.tmp 17),none⟩,
 ⟨some 51,.ld false 1 (.tmp 50),none⟩,
 ⟨some 52,.fad 0 (.tmp 15),none⟩,
 ⟨some 53,.ld false 1 (.tmp 52),none⟩,
 ⟨some 54,.seq true (.tmp 51) (.tmp 53),none⟩,
 ⟨some 55,.mov (.tmp 54),none⟩,
 ⟨some 56,.ld false 1 (.tmp 10),some (55,false)⟩,
 ⟨some 57,.fad 1 (.tmp 17),some (55,false)⟩,
 ⟨some 58,.ld false 1 (.tmp 57),some (55,false)⟩,
 ⟨some 59,.lkp none (.bool false) false (.tmp 56) (.tmp 58),some (55,false)⟩,
 ⟨some 60,.pick (.tmp 55) (.cst (.d (.bool true))) (.tmp 59),none⟩])
 (.cond (.tmp 60)
 (.exit 5)
 .skip))
 (.seq
 (.reg [10,11] [⟨some 61,.fad 1 (.tmp 15),none⟩,
 ⟨some 62,.ld false 1 (.tmp 61),none⟩,
 ⟨some 63,.calln 11 3 1 159 [(.tmp 62)],none⟩,
 ⟨some 64,.mov (.tmp 16),none⟩,
 ⟨some 65,.bsl 10 3 1 1 [(.int .i64 0)] [(0,(.tmp 64))],none⟩,
 ⟨some 66,.app 11 3 1 8 (.tmp 63) (.tmp 65),none⟩,
 ⟨some 18,.mov (.tmp 66),none⟩])
 (.seq
 (.seq
 (.reg [] [⟨some 67,.fad 1 (.tmp 17),none⟩,
 ⟨some 68,.ld false 1 (.tmp 67),none⟩,
 ⟨some 69,.ld false 1 (.tmp 4),none⟩,
 ⟨some 70,.seq false (.tmp 68) (.tmp 69),none⟩])
 (.cond (.tmp 70)
 (.seq
 (.reg [] [⟨some 71,.mov (.tmp 18),none⟩,
 ⟨none,.st 1 (.tmp 12) (.tmp 71),none⟩])
 (.exit 0))
 .skip))
 (.seq
 (.reg [] [⟨some 72,.ld false 1 (.tmp 10),none⟩,
 ⟨some 73,.fad 1 (.tmp 17),none⟩,
 ⟨some 74,.ld false 1 (.tmp 73),none⟩,
 ⟨none,.mpu none (.tmp 72) (.tmp 74) (.cst (.d (.bool true))),none⟩])
 (.reg [12,13] [⟨some 75,.ld false 1 (.tmp 13),none⟩,
 ⟨some 76,.fad 1 (.tmp 17),none⟩,
 ⟨some 77,.ld false 1 (.tmp 76),none⟩,
 ⟨some 78,.mov (.tmp 18),none⟩,
 ⟨some 79,.build [(.d (.str [])),(.nils 1)] [(0,1,(.tmp 77)),(1,1,(.tmp 78))],none⟩,
 ⟨some 80,.bsl 12 234 2 1 [(.agg [(.str []),(.slice 1 [])])] [(0,(.tmp 79))],none⟩,
 ⟨some 81,.app 13 234 2 40 (.tmp 75) (.tmp 80),none⟩,
 ⟨none,.st 1 (.tmp 13) (.tmp 81),none⟩])))))))))))))
 (.reg [] [⟨some 82,.arith .add .i64 (.tmp 41) (.cst (.d (.int .i64 1))),none⟩,
 ⟨some 41,.mov (.tmp 82),none⟩]))))))))))
 (.reg [] [⟨some 83,.ld false 1 (.tmp 13),none⟩,
 ⟨some 11,.mov (.tmp 83),none⟩]))))))))))
 (.seq
 (.regd [] [⟨some 84,.ld false 1 (.tmp 12),none⟩,
 ⟨some 85,.ld false 1 (.tmp 12),none⟩,
 ⟨some 86,.isnil true (.tmp 85),none⟩,
 ⟨some 6,.mov (.tmp 84),none⟩,
 ⟨some 7,.mov (.tmp 86),none⟩] [(0,1),(0,2),(1,3),(2,3)])
 .ret))))))))))⟩
def tx103:AFun:={ ir103 with heap:=40 }
def tx104:AFun:={ jr104 with heap:=40 }
def tx105:AFun:={ jr105 with heap:=40 }
def tx106:AFun:={ ir106 with heap:=40 }
def tx107:AFun:={ jr107 with heap:=42 }
def tx108:AFun:={ jr108 with heap:=42 }
def tx116:AFun:={ jr116 with heap:=40 }
def tx117:AFun:={ jr117 with heap:=42 }
def tx118:AFun:=⟨9,40,[.tmp 4],
 (.seq
 (.reg [] [⟨some 4,.mov (.cst (.d (.bool false))),none⟩])
 (.seq
 (.reg [] [⟨some 5,.mov (.tmp 0),none⟩,
 ⟨some 6,.mov (.tmp 1),none⟩,
 ⟨some 7,.call 166 [(.tmp 5),(.tmp 6)],none⟩,
 ⟨some 8,.cmp .geq (.tmp 7) (.cst (.d (.int .i64 0))),none⟩,
 ⟨some 4,.mov (.tmp 8),none⟩])
 .ret))⟩
def tx119:AFun:=⟨11,40,[],
 (.seq
 (.reg [] [⟨some 3,.mov (.tmp 0),none⟩,
 ⟨some 4,.len (.tmp 3),none⟩,
 ⟨some 2,.mov (.tmp 4),none⟩])
 (.reg [] [⟨some 5,.mov (.tmp 0),none⟩,
 ⟨some 6,.mov (.tmp 2),none⟩,
 ⟨some 7,.mov (.tmp 2),none⟩,
 ⟨some 8,.conv .u64 (.tmp 7),none⟩,
 ⟨some 9,.call 168 [(.tmp 8)],none⟩,
 ⟨some 10,.calli 167 [(.tmp 5),(.cst (.d (.int .i64 0))),(.tmp 6),(.tmp 9)],none⟩]))⟩
def tx120:AFun:=⟨61,40,[.tmp 2],
 (.seq
 (.reg [] [⟨some 2,.mov (.cst (.nils 1)),none⟩])
 (.seq
 (.seq
 (.reg [] [⟨some 6,.mov (.tmp 0),none⟩,
 ⟨some 7,.len (.tmp 6),none⟩,
 ⟨some 8,.cmp .lss (.tmp 7) (.cst (.d (.int .i64 2))),none⟩])
 (.cond (.tmp 8)
 (.seq
 (.reg [] [⟨some 9,.mov (.tmp 0),none⟩,
 ⟨some 2,.mov (.tmp 9),none⟩])
 .ret)
 .skip))
 (.seq
 (.seq
 (.reg [] [⟨some 3,.mov (.cst (.d (.int .i64 1))),none⟩])
 (.post [0] []
 (.block 0
 (.keep [0,3] []
 (.loop
 (.post [0,3] []
 (.seq
 (.seq
 (.reg [] [⟨some 10,.mov (.tmp 3),none⟩,
 ⟨some 11,.mov (.tmp 0),none⟩,
 ⟨some 12,.len (.tmp 11),none⟩,
 ⟨some 13,.cmp .lss (.tmp 10) (.tmp 12),none⟩])
 (.cond (.tmp 13)
 .skip
 (.exit 0)))
 (.seq
 (.block 1
 (.seq
 (.regd [] [⟨some 16,.mov (.tmp 0),none⟩,
 ⟨some 17,.mov (.tmp 3),none⟩,
 ⟨some 18,.ixa 1 (.tmp 16) (.tmp 17),none⟩,
 ⟨some 19,.ld false 1 (.tmp 18),none⟩,
 ⟨some 20,.mov (.tmp 0),none⟩,
 ⟨some 21,.mov (.tmp 3),none⟩,
 ⟨some 22,.arith .sub .i64 (.tmp 21) (.cst (.d (.int .i64 1))),none⟩,
 ⟨some 23,.ixa 1 (.tmp 20) (.tmp 22),none⟩,
 ⟨some 24,.ld false 1 (.tmp 23),none⟩,
 ⟨some 25,.cmp .eql (.tmp 19) (.tmp 24),none⟩] [(0,1),(0,4),(1,4),(2,4),(3,4),(0,5),(1,5),(2,5),(3,5),(4,5),(0,6),(1,6),(2,6),(3,6),(4,6),(0,7),(1,7),(2,7),(3,7),(0,8),(1,8),(2,8),(3,8)])
 (.cond (.tmp 25)
 (.seq
 (.reg [] [⟨some 26,.mov (.tmp 0),none⟩,
 ⟨some 27,.mov (.tmp 3),none⟩,
 ⟨some 28,.slc 1 (.tmp 26) (some (.tmp 27)) none,none⟩,
 ⟨some 4,.mov (.tmp 28),none⟩])
 (.seq
 (.seq
 (.reg [] [⟨some 5,.mov (.cst (.d (.int .i64 1))),none⟩])
 (.post [0,3] []
 (.block 2
 (.keep [0,3,4,5] []
 (.loop
 (.post [0,3,4,5] []
 (.seq
 (.seq
 (.reg [] [⟨some 29,.mov (.tmp 5),none⟩,
 ⟨some 30,.mov (.tmp 4),none⟩,
 ⟨some 31,.len (.tmp 30),none⟩,
 ⟨some 32,.cmp .lss (.tmp 29) (.tmp 31),none⟩])
 (.cond (.tmp 32)
 .skip
 (.exit 2)))
 (.seq
 (.block 3
 (.seq
 (.regd [] [⟨some 35,.mov (.tmp 4),none⟩,
 ⟨some 36,.mov (.tmp 5),none⟩,
 ⟨some 37,.ixa 1 (.tmp 35) (.tmp 36),none⟩,
 ⟨some 38,.ld false 1 (.tmp 37),none⟩,
 ⟨some 39,.mov (.tmp 4),none⟩,
 ⟨some 40,.mov (.tmp 5),none⟩,
 ⟨some 41,.arith .sub .i64 (.tmp 40) (.cst (.d (.int .i64 1))),none⟩,
 ⟨some 42,.ixa 1 (.tmp 39) (.tmp 41),none⟩,
 ⟨some 43,.ld false 1 (.tmp 42),none⟩,
 ⟨some 44,.cmp .neq (.tmp 38) (.tmp 43),none⟩] [(0,1),(0,4),(1,4),(2,4),(3,4),(0,5),(1,5),(2,5),(3,5),(4,5),(0,6),(1,6),(2,6),(3,6),(4,6),(0,7),(1,7),(2,7),(3,7),(0,8),(1,8),(2,8),(3,8)])
 (.cond (.tmp 44)
 (.seq
 (.reg [] [⟨some 45,.mov (.tmp 0),none⟩,
 ⟨some 46,.mov (.tmp 3),none⟩,
 ⟨some 47,.mov (.tmp 4),none⟩,
 ⟨some 48,.mov (.tmp 5),none⟩,
 ⟨some 49,.ixa 1 (.tmp 47) (.tmp 48),none⟩,
 ⟨some 50,.ld false 1 (.tmp 49),none⟩,
 ⟨some 51,.ixa 1 (.tmp 45) (.tmp 46),none⟩,
 ⟨none,.st 1 (.tmp 51) (.tmp 50),none⟩])
 (.reg [] [⟨some 52,.mov (.tmp 3),none⟩,
 ⟨some 53,.arith .add .i64 (.tmp 52) (.cst (.d (.int .i64 1))),none⟩,
 ⟨some 3,.mov (.tmp 53),none⟩]))
 .skip)))
 (.reg [] [⟨some 33,.mov (.tmp 5),none⟩,
 ⟨some 34,.arith .add .i64 (.tmp 33) (.cst (.d (.int .i64 1))),none⟩,
 ⟨some 5,.mov (.tmp 34),none⟩])))))))))
 (.seq
 (.reg [] [⟨some 54,.mov (.tmp 0),none⟩,
 ⟨some 55,.mov (.tmp 3),none⟩,
 ⟨some 56,.slc 1 (.tmp 54) (some (.tmp 55)) none,none⟩,
 ⟨none,.clrw 1 (.int .i64 0) (.tmp 56),none⟩])
 (.seq
 (.reg [] [⟨some 57,.mov (.tmp 0),none⟩,
 ⟨some 58,.mov (.tmp 3),none⟩,
 ⟨some 59,.slc 1 (.tmp 57) none (some (.tmp 58)),none⟩,
 ⟨some 2,.mov (.tmp 59),none⟩])
 .ret))))
 .skip)))
 (.reg [] [⟨some 14,.mov (.tmp 3),none⟩,
 ⟨some 15,.arith .add .i64 (.tmp 14) (.cst (.d (.int .i64 1))),none⟩,
 ⟨some 3,.mov (.tmp 15),none⟩])))))))))
 (.seq
 (.reg [] [⟨some 60,.mov (.tmp 0),none⟩,
 ⟨some 2,.mov (.tmp 60),none⟩])
 .ret))))⟩
def tx121:AFun:={ jr121 with heap:=40 }
def tx122:AFun:={ ir122 with heap:=40 }
def tx123:AFun:={ jr123 with heap:=40 }
def tx124:AFun:={ jr124 with heap:=41 }
def tx125:AFun:={ jr125 with heap:=42 }
def tx126:AFun:={ jr126 with heap:=40 }
def tx127:AFun:={ jr127 with heap:=40 }
def tx128:AFun:={ jr128 with heap:=40 }
def tx129:AFun:={ jr129 with heap:=40 }
def tx130:AFun:={ jr130 with heap:=42 }
def tx131:AFun:={ jr131 with heap:=40 }
def tx132:AFun:=⟨25,42,[.tmp 6],
 (.seq
 (.reg [0] [⟨some 3,.cbx 0 1 (.tmp 0),none⟩,
 ⟨some 6,.mov (.cst (.d (.int .i64 0))),none⟩])
 (.seq
 (.seq
 (.reg [1] [⟨some 8,.ld false 1 (.tmp 3),none⟩,
 ⟨some 9,.call 121 [(.tmp 8)],none⟩,
 ⟨some 10,.mov (.tmp 1),none⟩,
 ⟨some 11,.call 122 [(.tmp 10),(.cst (.d (.int .i64 1))),(.cst (.d (.int .i64 7)))],none⟩,
 ⟨some 12,.mov (.tmp 2),none⟩,
 ⟨some 13,.len (.tmp 12),none⟩,
 ⟨some 14,.cmp .gtr (.tmp 13) (.cst (.d (.int .i64 16))),none⟩,
 ⟨some 15,.call 103 [(.tmp 14),(.cst (.d (.int .i64 5)))],none⟩,
 ⟨some 16,.bsl 1 32 1 3 [(.int .i64 0),(.int .i64 0),(.int .i64 0)] [(0,(.tmp 9)),(1,(.tmp 11)),(2,(.tmp 15))],none⟩,
 ⟨some 17,.call 99 [(.tmp 16)],none⟩,
 ⟨some 7,.mov (.tmp 17),none⟩])
 (.seq
 (.reg [] [⟨some 18,.mov (.tmp 7),none⟩,
 ⟨some 19,.cmp .neq (.tmp 18) (.cst (.d (.int .i64 0))),none⟩])
 (.cond (.tmp 19)
 (.seq
 (.reg [] [⟨some 20,.mov (.tmp 7),none⟩,
 ⟨some 6,.mov (.tmp 20),none⟩])
 .ret)
 .skip)))
 (.seq
 (.reg [] [⟨some 21,.mov (.tmp 2),none⟩,
 ⟨some 22,.mkf (.func 171) [] [(.tmp 3)],none⟩,
 ⟨some 23,.call 170 [(.tmp 21),(.tmp 22)],none⟩,
 ⟨some 24,.call 99 [(.tmp 23)],none⟩,
 ⟨some 6,.mov (.tmp 24),none⟩])
 .ret)))⟩
def tx133:AFun:=⟨99,45,[.tmp 6,.tmp 7],
 (.seq
 (.reg [] [⟨some 6,.mov (.cst (.nils 2)),none⟩,
 ⟨some 7,.mov (.cst (.d (.bool false))),none⟩])
 (.seq
 (.reg [0,1] [⟨some 8,.alloc 0 [(.d (.int .i64 0)),(.d (.int .i64 0)),(.d (.int .i64 0)),(.d (.int .i64 0)),(.d (.int .i64 0))],none⟩,
 ⟨some 9,.alloc 1 [(.d (.int .i64 0)),(.d (.int .i64 0)),(.d (.int .i64 0)),(.d (.int .i64 0)),(.d (.int .i64 0))],none⟩])
 (.seq
 (.reg [] [⟨some 10,.mov (.cst (.d (.bool false))),none⟩])
 (.seq
 (.reg [] [⟨some 11,.mov (.cst (.d (.int .i64 1))),none⟩])
 (.seq
 (.seq
 (.reg [] [⟨some 19,.mov (.tmp 0),none⟩,
 ⟨some 20,.mov (.cst (.d (.int .i64 0))),none⟩])
 (.post [0,1,2,8,9,10,11] [0,1]
 (.block 0
 (.keep [0,1,2,8,9,10,11,19,20] [0,1]
 (.loop
 (.post [0,1,2,8,9,10,11,19,20] []
 (.seq
 (.reg [] [⟨some 21,.cmp .lss (.tmp 20) (.tmp 19),none⟩])
 (.seq
 (.cond (.tmp 21)
 .skip
 (.exit 0))
 (.seq
 (.block 1
 (.reg [] [⟨some 22,.mov (.tmp 11),none⟩,
 ⟨some 23,.mov (.tmp 1),none⟩,
 ⟨some 24,.arith .add .i64 (.tmp 23) (.cst (.d (.int .i64 1))),none⟩,
 ⟨some 25,.arith .mul .i64 (.tmp 22) (.tmp 24),none⟩,
 ⟨some 11,.mov (.tmp 25),none⟩]))
 (.reg [] [⟨some 26,.arith .add .i64 (.tmp 20) (.cst (.d (.int .i64 1))),none⟩,
 ⟨some 20,.mov (.tmp 26),none⟩]))))))))))
 (.seq
 (.seq
 (.reg [] [⟨some 27,.mov (.tmp 11),none⟩,
 ⟨some 28,.mov (.cst (.d (.int .i64 0))),none⟩])
 (.post [0,8,9,10] [0,1,2]
 (.block 2
 (.keep [0,1,2,8,9,10,27,28] [0,1]
 (.loop
 (.post [0,1,2,8,9,10,27,28] [2]
 (.seq
 (.reg [] [⟨some 29,.cmp .lss (.tmp 28) (.tmp 27),none⟩])
 (.seq
 (.cond (.tmp 29)
 .skip
 (.exit 2))
 (.seq
 (.block 3
 (.seq
 (.reg [] [⟨some 30,.mov (.tmp 28),none⟩,
 ⟨some 12,.mov (.tmp 30),none⟩])
 (.seq
 (.reg [2] [⟨some 13,.alloc 2 [(.d (.int .i64 0)),(.d (.int .i64 0)),(.d (.int .i64 0)),(.d (.int .i64 0)),(.d (.int .i64 0))],none⟩])
 (.seq
 (.seq
 (.reg [] [⟨some 31,.mov (.tmp 0),none⟩,
 ⟨some 32,.mov (.cst (.d (.int .i64 0))),none⟩])
 (.post [0,1,2,8,9,10,13,27,28] [0,1,2]
 (.block 4
 (.keep [0,1,2,8,9,10,12,13,27,28,31,32] [0,1,2]
 (.loop
 (.post [0,1,2,8,9,10,12,13,27,28,31,32] []
 (.seq
 (.reg [] [⟨some 33,.cmp .lss (.tmp 32) (.tmp 31),none⟩])
 (.seq
 (.cond (.tmp 33)
 .skip
 (.exit 4))
 (.seq
 (.block 5
 (.seq
 (.reg [] [⟨some 34,.mov (.tmp 32),none⟩,
 ⟨some 14,.mov (.tmp 34),none⟩])
 (.seq
 (.reg [] [⟨some 35,.mov (.tmp 14),none⟩,
 ⟨some 36,.mov (.tmp 12),none⟩,
 ⟨some 37,.mov (.tmp 1),none⟩,
 ⟨some 38,.arith .add .i64 (.tmp 37) (.cst (.d (.int .i64 1))),none⟩,
 ⟨some 39,.arith .rem .i64 (.tmp 36) (.tmp 38),none⟩,
 ⟨some 40,.ixp 5 1 (.tmp 13) (.tmp 35),none⟩,
 ⟨none,.st 1 (.tmp 40) (.tmp 39),none⟩])
 (.reg [] [⟨some 41,.mov (.tmp 12),none⟩,
 ⟨some 42,.mov (.tmp 1),none⟩,
 ⟨some 43,.arith .add .i64 (.tmp 42) (.cst (.d (.int .i64 1))),none⟩,
 ⟨some 44,.arith .quo .i64 (.tmp 41) (.tmp 43),none⟩,
 ⟨some 12,.mov (.tmp 44),none⟩]))))
 (.reg [] [⟨some 45,.arith .add .i64 (.tmp 32) (.cst (.d (.int .i64 1))),none⟩,
 ⟨some 32,.mov (.tmp 45),none⟩]))))))))))
 (.seq
 (.seq
 (.reg [] [⟨some 46,.mov (.tmp 2),none⟩,
 ⟨some 47,.mkf (.func 173) [] [(.tmp 13)],none⟩,
 ⟨some 48,.call 172 [(.tmp 46),(.tmp 47)],none⟩])
 (.cond (.tmp 48)
 (.exit 3)
 .skip))
 (.seq
 (.seq
 (.reg [] [⟨some 49,.mov (.tmp 10),none⟩,
 ⟨some 50,.not (.tmp 49),none⟩])
 (.cond (.tmp 50)
 (.regd [] [⟨some 51,.ld true 5 (.tmp 13),none⟩,
 ⟨some 52,.ld true 5 (.tmp 13),none⟩,
 ⟨none,.st 5 (.tmp 8) (.tmp 51),none⟩,
 ⟨none,.st 5 (.tmp 9) (.tmp 52),none⟩,
 ⟨some 10,.mov (.cst (.d (.bool true))),none⟩] [(0,1),(1,2)])
 .skip))
 (.seq
 (.seq
 (.reg [] [⟨some 53,.ld true 5 (.tmp 13),none⟩,
 ⟨some 54,.ld true 5 (.tmp 8),none⟩,
 ⟨some 55,.aeq false [0,0,0,0,0] (.tmp 53) (.tmp 54),none⟩,
 ⟨some 56,.mov (.tmp 55),none⟩,
 ⟨some 57,.ld true 5 (.tmp 13),some (56,true)⟩,
 ⟨some 58,.ld true 5 (.tmp 9),some (56,true)⟩,
 ⟨some 59,.aeq false [0,0,0,0,0] (.tmp 57) (.tmp 58),some (56,true)⟩,
 ⟨some 60,.pick (.tmp 56) (.tmp 59) (.cst (.d (.bool false))),none⟩])
 (.cond (.tmp 60)
 (.exit 3)
 .skip))
 (.seq
 (.reg [] [⟨some 61,.ld true 5 (.tmp 13),none⟩,
 ⟨some 62,.mov (.cst (.d (.int .i64 0))),none⟩])
 (.post [0,1,2,8,9,10,27,28] [0,1,2]
 (.block 6
 (.keep [0,1,2,8,9,10,27,28,61,62] [0,1,2]
 (.loop
 (.post [0,1,2,8,9,10,27,28,61,62] []
 (.seq
 (.reg [] [⟨some 63,.cmp .lss (.tmp 62) (.cst (.d (.int .i64 5))),none⟩])
 (.seq
 (.cond (.tmp 63)
 .skip
 (.exit 6))
 (.seq
 (.block 7
 (.seq
 (.reg [] [⟨some 64,.mov (.tmp 62),none⟩,
 ⟨some 65,.ixv false 5 1 (.tmp 61) (.tmp 62),none⟩,
 ⟨some 15,.mov (.tmp 64),none⟩,
 ⟨some 16,.mov (.tmp 65),none⟩])
 (.regd [] [⟨some 66,.mov (.tmp 15),none⟩,
 ⟨some 67,.mov (.tmp 15),none⟩,
 ⟨some 68,.mov (.tmp 15),none⟩,
 ⟨some 69,.ixp 5 1 (.tmp 8) (.tmp 68),none⟩,
 ⟨some 70,.ld false 1 (.tmp 69),none⟩,
 ⟨some 71,.mov (.tmp 16),none⟩,
 ⟨some 72,.mini (.tmp 70) (.tmp 71),none⟩,
 ⟨some 73,.mov (.tmp 15),none⟩,
 ⟨some 74,.ixp 5 1 (.tmp 9) (.tmp 73),none⟩,
 ⟨some 75,.ld false 1 (.tmp 74),none⟩,
 ⟨some 76,.mov (.tmp 16),none⟩,
 ⟨some 77,.maxi (.tmp 75) (.tmp 76),none⟩,
 ⟨some 78,.ixp 5 1 (.tmp 8) (.tmp 66),none⟩,
 ⟨none,.st 1 (.tmp 78) (.tmp 72),none⟩,
 ⟨some 79,.ixp 5 1 (.tmp 9) (.tmp 67),none⟩,
 ⟨none,.st 1 (.tmp 79) (.tmp 77),none⟩] [(0,1),(0,2),(1,2),(0,3),(1,3),(0,4),(1,4),(0,5),(1,5),(2,5),(3,5),(4,5),(0,6),(1,6),(0,7),(1,7),(2,7),(3,7),(4,7),(5,7),(6,7),(0,8),(1,8),(2,8),(3,8),(4,8),(5,8),(6,8),(0,9),(1,9),(2,9),(3,9),(4,9),(5,9),(6,9),(0,10),(1,10),(2,10),(3,10),(4,10),(5,10),(6,10),(7,10),(8,10),(9,10),(0,11),(1,11),(2,11),(3,11),(4,11),(5,11),(6,11),(1,12),(7,12),(8,12),(9,12),(10,12),(11,12),(1,13),(7,13),(8,13),(9,13),(10,13),(11,13)])))
 (.reg [] [⟨some 80,.arith .add .i64 (.tmp 62) (.cst (.d (.int .i64 1))),none⟩,
 ⟨some 62,.mov (.tmp 80),none⟩])))))))))))))))))
 (.reg [] [⟨some 81,.arith .add .i64 (.tmp 28) (.cst (.d (.int .i64 1))),none⟩,
 ⟨some 28,.mov (.tmp 81),none⟩]))))))))))
 (.seq
 (.reg [] [⟨some 17,.mov (.cst (.nils 2)),none⟩])
 (.seq
 (.seq
 (.reg [] [⟨some 82,.mov (.tmp 0),none⟩,
 ⟨some 83,.mov (.cst (.d (.int .i64 0))),none⟩])
 (.post [10,17] [0,1,2,3,4]
 (.block 8
 (.asrow 4 84 2 17
 (.keep [8,9,10,17,82,83] [0,1,2]
 (.loop
 (.post [8,9,10,17,82,83] [3,4]
 (.seq
 (.reg [] [⟨some 84,.cmp .lss (.tmp 83) (.tmp 82),none⟩])
 (.seq
 (.cond (.tmp 84)
 .skip
 (.exit 8))
 (.seq
 (.block 9
 (.seq
 (.reg [] [⟨some 85,.mov (.tmp 83),none⟩,
 ⟨some 18,.mov (.tmp 85),none⟩])
 (.regd [3,4] [⟨some 86,.mov (.tmp 17),none⟩,
 ⟨some 87,.mov (.tmp 18),none⟩,
 ⟨some 88,.ixp 5 1 (.tmp 8) (.tmp 87),none⟩,
 ⟨some 89,.ld false 1 (.tmp 88),none⟩,
 ⟨some 90,.mov (.tmp 18),none⟩,
 ⟨some 91,.ixp 5 1 (.tmp 9) (.tmp 90),none⟩,
 ⟨some 92,.ld false 1 (.tmp 91),none⟩,
 ⟨some 93,.build [(.d (.int .i64 0)),(.d (.int .i64 0))] [(0,1,(.tmp 89)),(1,1,(.tmp 92))],none⟩,
 ⟨some 94,.bsl 3 84 2 1 [(.agg [(.int .i64 0),(.int .i64 0)])] [(0,(.tmp 93))],none⟩,
 ⟨some 95,.app 4 84 2 16 (.tmp 86) (.tmp 94),none⟩,
 ⟨some 17,.mov (.tmp 95),none⟩] [(0,1),(0,2),(0,3),(0,4),(1,4),(2,4),(3,4),(0,5),(1,5),(2,5),(3,5),(0,6),(1,6),(2,6),(3,6),(0,7),(0,8)])))
 (.reg [] [⟨some 96,.arith .add .i64 (.tmp 83) (.cst (.d (.int .i64 1))),none⟩,
 ⟨some 83,.mov (.tmp 96),none⟩])))))))))))
 (.seq
 (.reg [] [⟨some 97,.mov (.tmp 17),none⟩,
 ⟨some 98,.mov (.tmp 10),none⟩,
 ⟨some 6,.mov (.tmp 97),none⟩,
 ⟨some 7,.mov (.tmp 98),none⟩])
 .ret)))))))))⟩
def tx134:AFun:=⟨9,40,[.tmp 4],
 (.seq
 (.reg [] [⟨some 4,.mov (.cst (.d (.bool false))),none⟩])
 (.seq
 (.reg [] [⟨some 5,.mov (.tmp 0),none⟩,
 ⟨some 6,.mov (.tmp 1),none⟩,
 ⟨some 7,.call 174 [(.tmp 5),(.tmp 6)],none⟩,
 ⟨some 8,.cmp .geq (.tmp 7) (.cst (.d (.int .i64 0))),none⟩,
 ⟨some 4,.mov (.tmp 8),none⟩])
 .ret))⟩
def tx135:AFun:=⟨11,41,[.tmp 3],
 (.seq
 (.reg [0] [⟨some 2,.cbx 0 2 (.tmp 0),none⟩,
 ⟨some 3,.mov (.cst (.d (.bool false))),none⟩])
 (.seq
 (.reg [] [⟨some 4,.fad 1 (.tmp 2),none⟩,
 ⟨some 5,.ld false 1 (.tmp 4),none⟩,
 ⟨some 6,.fad 0 (.tmp 2),none⟩,
 ⟨some 7,.ld false 1 (.tmp 6),none⟩,
 ⟨some 8,.arith .sub .i64 (.tmp 5) (.tmp 7),none⟩,
 ⟨some 9,.ld false 1 (.tmp 1),none⟩,
 ⟨some 10,.cmp .lss (.tmp 8) (.tmp 9),none⟩,
 ⟨some 3,.mov (.tmp 10),none⟩])
 .ret))⟩
def tx136:AFun:=⟨17,42,[.tmp 2],
 (.seq
 (.reg [0] [⟨some 1,.cbx 0 2 (.tmp 0),none⟩,
 ⟨some 2,.mov (.cst (.d (.int .i64 0))),none⟩])
 (.seq
 (.regd [1] [⟨some 3,.fad 0 (.tmp 1),none⟩,
 ⟨some 4,.ld false 1 (.tmp 3),none⟩,
 ⟨some 5,.call 122 [(.tmp 4),(.cst (.d (.int .i64 0))),(.cst (.d (.int .i64 1000000000)))],none⟩,
 ⟨some 6,.fad 1 (.tmp 1),none⟩,
 ⟨some 7,.ld false 1 (.tmp 6),none⟩,
 ⟨some 8,.call 122 [(.tmp 7),(.cst (.d (.int .i64 0))),(.cst (.d (.int .i64 1000000000)))],none⟩,
 ⟨some 9,.fad 0 (.tmp 1),none⟩,
 ⟨some 10,.ld false 1 (.tmp 9),none⟩,
 ⟨some 11,.fad 1 (.tmp 1),none⟩,
 ⟨some 12,.ld false 1 (.tmp 11),none⟩,
 ⟨some 13,.cmp .gtr (.tmp 10) (.tmp 12),none⟩,
 ⟨some 14,.call 103 [(.tmp 13),(.cst (.d (.int .i64 11)))],none⟩,
 ⟨some 15,.bsl 1 32 1 3 [(.int .i64 0),(.int .i64 0),(.int .i64 0)] [(0,(.tmp 5)),(1,(.tmp 8)),(2,(.tmp 14))],none⟩,
 ⟨some 16,.call 99 [(.tmp 15)],none⟩,
 ⟨some 2,.mov (.tmp 16),none⟩] [(0,3),(1,3),(2,3),(0,4),(1,4),(2,4),(0,6),(1,6),(2,6),(3,6),(4,6),(5,6),(0,7),(1,7),(2,7),(3,7),(4,7),(5,7),(0,8),(1,8),(2,8),(3,8),(4,8),(5,8),(6,8),(7,8),(0,9),(1,9),(2,9),(3,9),(4,9),(5,9),(6,9),(7,9),(0,10),(1,10),(2,10),(3,10),(4,10),(5,10)])
 .ret))⟩
def tx137:AFun:=⟨22,43,[.tmp 4],
 (.seq
 (.reg [] [⟨some 4,.mov (.cst (.nils 1)),none⟩])
 (.seq
 (.reg [] [⟨some 5,.mov (.cst (.nils 1)),none⟩])
 (.seq
 (.seq
 (.reg [] [⟨some 8,.mov (.tmp 0),none⟩,
 ⟨some 9,.len (.tmp 8),none⟩,
 ⟨some 10,.mov (.cst (.d (.int .i64 0))),none⟩])
 (.post [5] [0,1,2]
 (.block 0
 (.asrow 2 32 1 5
 (.keep [1,5,8,9,10] []
 (.loop
 (.post [1,5,8,9,10] [0,1,2]
 (.seq
 (.reg [] [⟨some 11,.cmp .lss (.tmp 10) (.tmp 9),none⟩])
 (.seq
 (.cond (.tmp 11)
 .skip
 (.exit 0))
 (.seq
 (.block 1
 (.seq
 (.reg [0] [⟨some 12,.ixa 2 (.tmp 8) (.tmp 10),none⟩,
 ⟨some 13,.ld true 2 (.tmp 12),none⟩,
 ⟨some 7,.alloc 0 [(.d (.int .i64 0)),(.d (.int .i64 0))],none⟩,
 ⟨none,.st 2 (.tmp 7) (.tmp 13),none⟩])
 (.reg [1,2] [⟨some 14,.mov (.tmp 5),none⟩,
 ⟨some 15,.mov (.tmp 1),none⟩,
 ⟨some 16,.ld true 2 (.tmp 7),none⟩,
 ⟨some 17,.callv (.tmp 15) [(.tmp 16)],none⟩,
 ⟨some 18,.bsl 1 32 1 1 [(.int .i64 0)] [(0,(.tmp 17))],none⟩,
 ⟨some 19,.app 2 32 1 8 (.tmp 14) (.tmp 18),none⟩,
 ⟨some 5,.mov (.tmp 19),none⟩])))
 (.reg [] [⟨some 20,.arith .add .i64 (.tmp 10) (.cst (.d (.int .i64 1))),none⟩,
 ⟨some 10,.mov (.tmp 20),none⟩])))))))))))
 (.seq
 (.reg [] [⟨some 21,.mov (.tmp 5),none⟩,
 ⟨some 4,.mov (.tmp 21),none⟩])
 .ret))))⟩
def tx138:AFun:=⟨22,42,[.tmp 4],
 (.seq
 (.reg [] [⟨some 4,.mov (.cst (.nils 1)),none⟩])
 (.seq
 (.reg [] [⟨some 5,.mov (.cst (.nils 1)),none⟩])
 (.seq
 (.seq
 (.reg [] [⟨some 8,.mov (.tmp 0),none⟩,
 ⟨some 9,.len (.tmp 8),none⟩,
 ⟨some 10,.mov (.cst (.d (.int .i64 0))),none⟩])
 (.post [5] [0,1]
 (.block 0
 (.asrow 1 32 1 5
 (.keep [1,5,8,9,10] []
 (.loop
 (.post [1,5,8,9,10] [0,1]
 (.seq
 (.reg [] [⟨some 11,.cmp .lss (.tmp 10) (.tmp 9),none⟩])
 (.seq
 (.cond (.tmp 11)
 .skip
 (.exit 0))
 (.seq
 (.block 1
 (.seq
 (.reg [] [⟨some 12,.ixa 1 (.tmp 8) (.tmp 10),none⟩,
 ⟨some 13,.ld false 1 (.tmp 12),none⟩,
 ⟨some 7,.mov (.tmp 13),none⟩])
 (.reg [0,1] [⟨some 14,.mov (.tmp 5),none⟩,
 ⟨some 15,.mov (.tmp 1),none⟩,
 ⟨some 16,.mov (.tmp 7),none⟩,
 ⟨some 17,.callv (.tmp 15) [(.tmp 16)],none⟩,
 ⟨some 18,.bsl 0 32 1 1 [(.int .i64 0)] [(0,(.tmp 17))],none⟩,
 ⟨some 19,.app 1 32 1 8 (.tmp 14) (.tmp 18),none⟩,
 ⟨some 5,.mov (.tmp 19),none⟩])))
 (.reg [] [⟨some 20,.arith .add .i64 (.tmp 10) (.cst (.d (.int .i64 1))),none⟩,
 ⟨some 10,.mov (.tmp 20),none⟩])))))))))))
 (.seq
 (.reg [] [⟨some 21,.mov (.tmp 5),none⟩,
 ⟨some 4,.mov (.tmp 21),none⟩])
 .ret))))⟩
def tx139:AFun:=⟨13,41,[.tmp 2],
 (.seq
 (.reg [] [⟨some 2,.mov (.cst (.d (.int .i64 0))),none⟩])
 (.seq
 (.reg [0] [⟨some 3,.mov (.tmp 0),none⟩,
 ⟨some 4,.len (.tmp 3),none⟩,
 ⟨some 5,.cmp .eql (.tmp 4) (.cst (.d (.int .i64 0))),none⟩,
 ⟨some 6,.call 103 [(.tmp 5),(.cst (.d (.int .i64 12)))],none⟩,
 ⟨some 7,.mov (.tmp 0),none⟩,
 ⟨some 8,.len (.tmp 7),none⟩,
 ⟨some 9,.cmp .gtr (.tmp 8) (.cst (.d (.int .i64 32))),none⟩,
 ⟨some 10,.call 103 [(.tmp 9),(.cst (.d (.int .i64 4)))],none⟩,
 ⟨some 11,.bsl 0 32 1 2 [(.int .i64 0),(.int .i64 0)] [(0,(.tmp 6)),(1,(.tmp 10))],none⟩,
 ⟨some 12,.call 99 [(.tmp 11)],none⟩,
 ⟨some 2,.mov (.tmp 12),none⟩])
 .ret))⟩
def tx140:AFun:=⟨24,40,[.tmp 2],
 (.seq
 (.reg [] [⟨some 2,.mov (.cst (.d (.int .i64 0))),none⟩])
 (.seq
 (.reg [] [⟨some 3,.mov (.cst (.d (.int .i64 0))),none⟩])
 (.seq
 (.seq
 (.reg [] [⟨some 6,.mov (.tmp 0),none⟩,
 ⟨some 7,.call 175 [(.tmp 6)],none⟩,
 ⟨some 8,.len (.tmp 7),none⟩,
 ⟨some 9,.mov (.cst (.d (.int .i64 0))),none⟩])
 (.post [3] []
 (.block 0
 (.keep [3,7,8,9] []
 (.loop
 (.post [3,7,8,9] []
 (.seq
 (.reg [] [⟨some 10,.cmp .lss (.tmp 9) (.tmp 8),none⟩])
 (.seq
 (.cond (.tmp 10)
 .skip
 (.exit 0))
 (.seq
 (.block 1
 (.seq
 (.reg [] [⟨some 11,.mov (.tmp 9),none⟩,
 ⟨some 12,.ixa 1 (.tmp 7) (.tmp 9),none⟩,
 ⟨some 13,.ld false 1 (.tmp 12),none⟩,
 ⟨some 4,.mov (.tmp 11),none⟩,
 ⟨some 5,.mov (.tmp 13),none⟩])
 (.reg [] [⟨some 14,.mov (.tmp 3),none⟩,
 ⟨some 15,.mov (.tmp 5),none⟩,
 ⟨some 16,.conv .i64 (.tmp 15),none⟩,
 ⟨some 17,.mov (.tmp 4),none⟩,
 ⟨some 18,.arith .add .i64 (.tmp 17) (.cst (.d (.int .i64 1))),none⟩,
 ⟨some 19,.arith .mul .i64 (.tmp 16) (.tmp 18),none⟩,
 ⟨some 20,.arith .add .i64 (.tmp 14) (.tmp 19),none⟩,
 ⟨some 21,.arith .rem .i64 (.tmp 20) (.cst (.d (.int .i64 9973))),none⟩,
 ⟨some 3,.mov (.tmp 21),none⟩])))
 (.reg [] [⟨some 22,.arith .add .i64 (.tmp 9) (.cst (.d (.int .i64 1))),none⟩,
 ⟨some 9,.mov (.tmp 22),none⟩]))))))))))
 (.seq
 (.reg [] [⟨some 23,.mov (.tmp 3),none⟩,
 ⟨some 2,.mov (.tmp 23),none⟩])
 .ret))))⟩
def tx141:AFun:=⟨11,41,[.tmp 2],
 (.seq
 (.reg [0] [⟨some 1,.cbx 0 7 (.tmp 0),none⟩,
 ⟨some 2,.mov (.cst (.d (.int .i64 0))),none⟩])
 (.seq
 (.reg [] [⟨some 3,.fad 2 (.tmp 1),none⟩,
 ⟨some 4,.ld false 1 (.tmp 3),none⟩,
 ⟨some 5,.cmp .eql (.tmp 4) (.cst (.d (.int .i64 0))),none⟩,
 ⟨some 6,.mov (.tmp 5),none⟩,
 ⟨some 7,.fad 6 (.tmp 1),some (6,false)⟩,
 ⟨some 8,.ld false 1 (.tmp 7),some (6,false)⟩,
 ⟨some 9,.pick (.tmp 6) (.cst (.d (.bool true))) (.tmp 8),none⟩,
 ⟨some 10,.call 103 [(.tmp 9),(.cst (.d (.int .i64 22)))],none⟩,
 ⟨some 2,.mov (.tmp 10),none⟩])
 .ret))⟩
def tx142:AFun:=⟨27,43,[.cell 2 7 true],
 (.seq
 (.reg [0,1] [⟨some 1,.box 0 7 (.tmp 0),none⟩,
 ⟨some 2,.alloc 1 [(.d (.int .i64 0)),(.d (.int .i64 0)),(.d (.int .i64 0)),(.d (.int .i64 0)),(.nils 1),(.d (.bool false)),(.d (.bool false))],none⟩])
 (.seq
 (.reg [2] [⟨some 5,.fad 4 (.tmp 1),none⟩,
 ⟨some 6,.ld false 1 (.tmp 5),none⟩,
 ⟨some 7,.len (.tmp 6),none⟩,
 ⟨some 8,.msl 2 111 1 24 (.slice 1 []) (.tmp 7),none⟩,
 ⟨some 3,.mov (.tmp 8),none⟩])
 (.seq
 (.seq
 (.reg [] [⟨some 9,.mov (.tmp 3),none⟩,
 ⟨some 10,.len (.tmp 9),none⟩,
 ⟨some 11,.mov (.cst (.d (.int .i64 0))),none⟩])
 (.post [1,2,3] [0,1,2]
 (.block 0
 (.keep [1,2,3,10,11] [0,1,2]
 (.loop
 (.post [1,2,3,10,11] []
 (.seq
 (.reg [] [⟨some 12,.cmp .lss (.tmp 11) (.tmp 10),none⟩])
 (.seq
 (.cond (.tmp 12)
 .skip
 (.exit 0))
 (.seq
 (.block 1
 (.seq
 (.reg [] [⟨some 13,.mov (.tmp 11),none⟩,
 ⟨some 4,.mov (.tmp 13),none⟩])
 (.reg [] [⟨some 14,.mov (.tmp 3),none⟩,
 ⟨some 15,.mov (.tmp 4),none⟩,
 ⟨some 16,.fad 4 (.tmp 1),none⟩,
 ⟨some 17,.ld false 1 (.tmp 16),none⟩,
 ⟨some 18,.mov (.tmp 4),none⟩,
 ⟨some 19,.ixa 1 (.tmp 17) (.tmp 18),none⟩,
 ⟨some 20,.ld false 1 (.tmp 19),none⟩,
 ⟨some 21,.call 176 [(.tmp 20)],none⟩,
 ⟨some 22,.ixa 1 (.tmp 14) (.tmp 15),none⟩,
 ⟨none,.st 1 (.tmp 22) (.tmp 21),none⟩])))
 (.reg [] [⟨some 23,.arith .add .i64 (.tmp 11) (.cst (.d (.int .i64 1))),none⟩,
 ⟨some 11,.mov (.tmp 23),none⟩]))))))))))
 (.seq
 (.reg [] [⟨some 24,.mov (.tmp 3),none⟩,
 ⟨some 25,.fad 4 (.tmp 1),none⟩,
 ⟨none,.st 1 (.tmp 25) (.tmp 24),none⟩])
 (.seq
 (.reg [] [⟨some 26,.ld true 7 (.tmp 1),none⟩,
 ⟨none,.st 7 (.tmp 2) (.tmp 26),none⟩])
 .ret)))))⟩
def tx143:AFun:=⟨6,41,[.tmp 2],
 (.seq
 (.reg [0] [⟨some 1,.cbx 0 7 (.tmp 0),none⟩,
 ⟨some 2,.mov (.cst (.d (.bool false))),none⟩])
 (.seq
 (.reg [] [⟨some 3,.fad 4 (.tmp 1),none⟩,
 ⟨some 4,.ld false 1 (.tmp 3),none⟩,
 ⟨some 5,.call 148 [(.tmp 4),(.cst (.d (.fn (.func 177) [])))],none⟩,
 ⟨some 2,.mov (.tmp 5),none⟩])
 .ret))⟩
def tx144:AFun:=⟨23,43,[.cell 4 7 true,.tmp 5],
 (.seq
 (.reg [0,1] [⟨some 2,.cbx 0 7 (.tmp 0),none⟩,
 ⟨some 4,.alloc 1 [(.d (.int .i64 0)),(.d (.int .i64 0)),(.d (.int .i64 0)),(.d (.int .i64 0)),(.nils 1),(.d (.bool false)),(.d (.bool false))],none⟩,
 ⟨some 5,.mov (.cst (.d (.int .i64 0))),none⟩])
 (.seq
 (.seq
 (.regd [2] [⟨some 7,.ld true 7 (.tmp 2),none⟩,
 ⟨some 8,.call 83 [(.tmp 7)],none⟩,
 ⟨some 9,.fad 6 (.tmp 2),none⟩,
 ⟨some 10,.ld false 1 (.tmp 9),none⟩,
 ⟨some 11,.not (.tmp 10),none⟩,
 ⟨some 12,.call 103 [(.tmp 11),(.cst (.d (.int .i64 22)))],none⟩,
 ⟨some 13,.bsl 2 32 1 2 [(.int .i64 0),(.int .i64 0)] [(0,(.tmp 8)),(1,(.tmp 12))],none⟩,
 ⟨some 14,.call 99 [(.tmp 13)],none⟩,
 ⟨some 6,.mov (.tmp 14),none⟩] [(0,2),(1,2),(0,3),(1,3),(0,4),(1,4)])
 (.seq
 (.reg [] [⟨some 15,.mov (.tmp 6),none⟩,
 ⟨some 16,.cmp .neq (.tmp 15) (.cst (.d (.int .i64 0))),none⟩])
 (.cond (.tmp 16)
 (.seq
 (.reg [] [⟨some 17,.build [(.d (.int .i64 0)),(.d (.int .i64 0)),(.d (.int .i64 0)),(.d (.int .i64 0)),(.nils 1),(.d (.bool false)),(.d (.bool false))] [],none⟩,
 ⟨some 18,.mov (.tmp 6),none⟩,
 ⟨none,.st 7 (.tmp 4) (.tmp 17),none⟩,
 ⟨some 5,.mov (.tmp 18),none⟩])
 .ret)
 .skip)))
 (.seq
 (.reg [] [⟨some 19,.mov (.tmp 1),none⟩,
 ⟨some 20,.fad 1 (.tmp 2),none⟩,
 ⟨some 21,.ld false 1 (.tmp 20),none⟩,
 ⟨some 22,.build [(.d (.int .i64 0)),(.d (.int .i64 0)),(.d (.int .i64 0)),(.d (.int .i64 0)),(.nils 1),(.d (.bool false)),(.d (.bool false))] [(0,1,(.tmp 19)),(1,1,(.tmp 21))],none⟩,
 ⟨none,.st 7 (.tmp 4) (.tmp 22),none⟩,
 ⟨some 5,.mov (.cst (.d (.int .i64 0))),none⟩])
 .ret)))⟩
def tx147:AFun:=⟨5,40,[.tmp 2],
 (.seq
 (.reg [] [⟨some 2,.mov (.cst (.d (.int .i64 0))),none⟩])
 (.seq
 (.reg [] [⟨some 3,.mov (.tmp 0),none⟩,
 ⟨some 4,.call 122 [(.tmp 3),(.cst (.d (.int .i64 0))),(.cst (.d (.int .i64 10000)))],none⟩,
 ⟨some 2,.mov (.tmp 4),none⟩])
 .ret))⟩
def tx148:AFun:=⟨9,40,[.tmp 4],
 (.seq
 (.reg [] [⟨some 4,.mov (.cst (.d (.bool false))),none⟩])
 (.seq
 (.reg [] [⟨some 5,.mov (.tmp 0),none⟩,
 ⟨some 6,.mov (.tmp 1),none⟩,
 ⟨some 7,.call 178 [(.tmp 5),(.tmp 6)],none⟩,
 ⟨some 8,.cmp .geq (.tmp 7) (.cst (.d (.int .i64 0))),none⟩,
 ⟨some 4,.mov (.tmp 8),none⟩])
 .ret))⟩
def tx149:AFun:=⟨6,40,[.tmp 2],
 (.seq
 (.reg [] [⟨some 2,.mov (.cst (.d (.bool false))),none⟩])
 (.seq
 (.reg [] [⟨some 3,.mov (.tmp 0),none⟩,
 ⟨some 4,.len (.tmp 3),none⟩,
 ⟨some 5,.cmp .gtr (.tmp 4) (.cst (.d (.int .i64 32))),none⟩,
 ⟨some 2,.mov (.tmp 5),none⟩])
 .ret))⟩
def tx150:AFun:=⟨56,41,[.tmp 2],
 (.seq
 (.reg [0] [⟨some 1,.cbx 0 7 (.tmp 0),none⟩,
 ⟨some 2,.mov (.cst (.d (.bool false))),none⟩])
 (.seq
 (.block 0
 (.seq
 (.reg [] [⟨some 4,.fad 2 (.tmp 1),none⟩,
 ⟨some 5,.ld false 1 (.tmp 4),none⟩,
 ⟨some 6,.cmp .eql (.tmp 5) (.cst (.d (.int .i64 0))),none⟩,
 ⟨some 3,.mov (.tmp 6),none⟩])
 (.cond (.tmp 3)
 (.seq
 (.reg [] [⟨some 7,.fad 4 (.tmp 1),none⟩,
 ⟨some 8,.ld false 1 (.tmp 7),none⟩,
 ⟨some 9,.len (.tmp 8),none⟩,
 ⟨some 10,.cmp .eql (.tmp 9) (.cst (.d (.int .i64 0))),none⟩,
 ⟨some 11,.mov (.tmp 10),none⟩,
 ⟨some 12,.fad 3 (.tmp 1),some (11,true)⟩,
 ⟨some 13,.ld false 1 (.tmp 12),some (11,true)⟩,
 ⟨some 14,.cmp .eql (.tmp 13) (.cst (.d (.int .i64 0))),some (11,true)⟩,
 ⟨some 15,.pick (.tmp 11) (.tmp 14) (.cst (.d (.bool false))),none⟩,
 ⟨some 16,.mov (.tmp 15),none⟩,
 ⟨some 17,.fad 5 (.tmp 1),some (16,true)⟩,
 ⟨some 18,.ld false 1 (.tmp 17),some (16,true)⟩,
 ⟨some 19,.not (.tmp 18),some (16,true)⟩,
 ⟨some 20,.pick (.tmp 16) (.tmp 19) (.cst (.d (.bool false))),none⟩,
 ⟨some 21,.mov (.tmp 20),none⟩,
 ⟨some 22,.fad 6 (.tmp 1),some (21,true)⟩,
 ⟨some 23,.ld false 1 (.tmp 22),some (21,true)⟩,
 ⟨some 24,.not (.tmp 23),some (21,true)⟩,
 ⟨some 25,.pick (.tmp 21) (.tmp 24) (.cst (.d (.bool false))),none⟩,
 ⟨some 2,.mov (.tmp 25),none⟩])
 .ret)
 (.seq
 (.reg [] [⟨some 27,.fad 4 (.tmp 1),none⟩,
 ⟨some 28,.ld false 1 (.tmp 27),none⟩,
 ⟨some 29,.len (.tmp 28),none⟩,
 ⟨some 30,.cmp .eql (.tmp 29) (.cst (.d (.int .i64 0))),none⟩,
 ⟨some 31,.mov (.tmp 30),none⟩,
 ⟨some 32,.fad 5 (.tmp 1),some (31,false)⟩,
 ⟨some 33,.ld false 1 (.tmp 32),some (31,false)⟩,
 ⟨some 34,.mov (.tmp 33),some (31,false)⟩,
 ⟨some 35,.ld true 7 (.tmp 1),some (34,true)⟩,
 ⟨some 36,.call 143 [(.tmp 35)],some (34,true)⟩,
 ⟨some 37,.pick (.tmp 34) (.tmp 36) (.cst (.d (.bool false))),some (31,false)⟩,
 ⟨some 38,.pick (.tmp 31) (.cst (.d (.bool true))) (.tmp 37),none⟩,
 ⟨some 26,.mov (.tmp 38),none⟩])
 (.cond (.tmp 26)
 (.seq
 (.reg [] [⟨some 2,.mov (.cst (.d (.bool false))),none⟩])
 .ret)
 (.seq
 (.reg [] [⟨some 40,.fad 6 (.tmp 1),none⟩,
 ⟨some 41,.ld false 1 (.tmp 40),none⟩,
 ⟨some 39,.mov (.tmp 41),none⟩])
 (.cond (.tmp 39)
 (.seq
 (.reg [] [⟨some 42,.fad 2 (.tmp 1),none⟩,
 ⟨some 43,.ld false 1 (.tmp 42),none⟩,
 ⟨some 44,.fad 0 (.tmp 1),none⟩,
 ⟨some 45,.ld false 1 (.tmp 44),none⟩,
 ⟨some 46,.cmp .eql (.tmp 43) (.tmp 45),none⟩,
 ⟨some 47,.mov (.tmp 46),none⟩,
 ⟨some 48,.fad 5 (.tmp 1),some (47,true)⟩,
 ⟨some 49,.ld false 1 (.tmp 48),some (47,true)⟩,
 ⟨some 50,.pick (.tmp 47) (.tmp 49) (.cst (.d (.bool false))),none⟩,
 ⟨some 2,.mov (.tmp 50),none⟩])
 .ret)
 .skip)))))))
 (.seq
 (.reg [] [⟨some 51,.fad 2 (.tmp 1),none⟩,
 ⟨some 52,.ld false 1 (.tmp 51),none⟩,
 ⟨some 53,.fad 0 (.tmp 1),none⟩,
 ⟨some 54,.ld false 1 (.tmp 53),none⟩,
 ⟨some 55,.cmp .gtr (.tmp 52) (.tmp 54),none⟩,
 ⟨some 2,.mov (.tmp 55),none⟩])
 .ret)))⟩
def tx153:AFun:=⟨14,40,[],
 (.seq
 (.reg [] [⟨some 5,.mov (.tmp 0),none⟩,
 ⟨some 6,.len (.tmp 5),none⟩,
 ⟨some 4,.mov (.tmp 6),none⟩])
 (.reg [] [⟨some 7,.mov (.tmp 0),none⟩,
 ⟨some 8,.mov (.tmp 4),none⟩,
 ⟨some 9,.mov (.tmp 4),none⟩,
 ⟨some 10,.conv .u64 (.tmp 9),none⟩,
 ⟨some 11,.call 168 [(.tmp 10)],none⟩,
 ⟨some 12,.mov (.tmp 1),none⟩,
 ⟨some 13,.calli 180 [(.tmp 7),(.cst (.d (.int .i64 0))),(.tmp 8),(.tmp 11),(.tmp 12)],none⟩]))⟩
def tx154:AFun:={ jr154 with heap:=43 }
def tx155:AFun:=⟨15,41,[.cell 8 6 true],
 (.seq
 (.reg [0] [⟨some 8,.alloc 0 [(.d (.str [])),(.d (.str [])),(.d (.str [])),(.d (.str [])),(.d (.int .i64 0)),(.d (.int .i64 0))],none⟩])
 (.seq
 (.reg [] [⟨some 9,.mov (.tmp 0),none⟩,
 ⟨some 10,.mov (.tmp 1),none⟩,
 ⟨some 11,.mov (.tmp 2),none⟩,
 ⟨some 12,.mov (.tmp 3),none⟩,
 ⟨some 13,.build [(.d (.int .i64 0)),(.d (.int .i64 0))] [(0,1,(.tmp 11)),(1,1,(.tmp 12))],none⟩,
 ⟨some 14,.build [(.d (.str [])),(.d (.str [])),(.d (.str [])),(.d (.str [])),(.d (.int .i64 0)),(.d (.int .i64 0))] [(0,1,(.tmp 9)),(1,1,(.tmp 10)),(2,1,(.cst (.d (.str [114,101,97,100])))),(3,1,(.cst (.d (.str [109,49])))),(4,2,(.tmp 13))],none⟩,
 ⟨none,.st 6 (.tmp 8) (.tmp 14),none⟩])
 .ret))⟩
def tx157:AFun:=⟨5,40,[.tmp 2],
 (.seq
 (.reg [] [⟨some 2,.mov (.cst (.d (.str []))),none⟩])
 (.seq
 (.reg [] [⟨some 3,.mov (.tmp 0),none⟩,
 ⟨some 4,.call 186 [(.tmp 3)],none⟩,
 ⟨some 2,.mov (.tmp 4),none⟩])
 .ret))⟩
def tx158:AFun:={ jr158 with heap:=42 }
def tx160:AFun:={ jr160 with heap:=40 }
def tx161:AFun:={ ir161 with heap:=40 }
def tx162:AFun:={ jr162 with heap:=40 }
def tx163:AFun:={ jr163 with heap:=41 }
def tx165:AFun:={ ir165 with heap:=41 }
def tx166:AFun:=⟨19,40,[.tmp 4],
 (.seq
 (.reg [] [⟨some 4,.mov (.cst (.d (.int .i64 0))),none⟩])
 (.seq
 (.seq
 (.reg [] [⟨some 6,.mov (.tmp 0),none⟩,
 ⟨some 7,.len (.tmp 6),none⟩,
 ⟨some 8,.mov (.cst (.d (.int .i64 0))),none⟩])
 (.post [] []
 (.block 0
 (.keep [0,1,7,8] []
 (.loop
 (.post [0,1,7,8] []
 (.seq
 (.reg [] [⟨some 9,.cmp .lss (.tmp 8) (.tmp 7),none⟩])
 (.seq
 (.cond (.tmp 9)
 .skip
 (.exit 0))
 (.seq
 (.block 1
 (.seq
 (.reg [] [⟨some 10,.mov (.tmp 8),none⟩,
 ⟨some 5,.mov (.tmp 10),none⟩])
 (.seq
 (.reg [] [⟨some 11,.mov (.tmp 1),none⟩,
 ⟨some 12,.mov (.tmp 0),none⟩,
 ⟨some 13,.mov (.tmp 5),none⟩,
 ⟨some 14,.ixa 1 (.tmp 12) (.tmp 13),none⟩,
 ⟨some 15,.ld false 1 (.tmp 14),none⟩,
 ⟨some 16,.seq false (.tmp 11) (.tmp 15),none⟩])
 (.cond (.tmp 16)
 (.seq
 (.reg [] [⟨some 17,.mov (.tmp 5),none⟩,
 ⟨some 4,.mov (.tmp 17),none⟩])
 .ret)
 .skip))))
 (.reg [] [⟨some 18,.arith .add .i64 (.tmp 8) (.cst (.d (.int .i64 1))),none⟩,
 ⟨some 8,.mov (.tmp 18),none⟩]))))))))))
 (.seq
 (.reg [] [⟨some 4,.mov (.cst (.d (.int .i64 (-1)))),none⟩])
 .ret)))⟩
def tx167:AFun:=⟨134,40,[],
 (.seq
 (.reg [] [⟨some 8,.mov (.cst (.d (.bool true))),none⟩])
 (.seq
 (.reg [] [⟨some 9,.mov (.cst (.d (.bool true))),none⟩])
 (.post [] []
 (.block 0
 (.keep [0,1,2,3,8,9] []
 (.loop
 (.post [0,1,2,3,8,9] []
 (.block 1
 (.seq
 (.reg [] [⟨some 19,.mov (.tmp 2),none⟩,
 ⟨some 20,.mov (.tmp 1),none⟩,
 ⟨some 21,.arith .sub .i64 (.tmp 19) (.tmp 20),none⟩,
 ⟨some 10,.mov (.tmp 21),none⟩])
 (.seq
 (.seq
 (.reg [] [⟨some 22,.mov (.tmp 10),none⟩,
 ⟨some 23,.cmp .leq (.tmp 22) (.cst (.d (.int .i64 12))),none⟩])
 (.cond (.tmp 23)
 (.seq
 (.reg [] [⟨some 24,.mov (.tmp 0),none⟩,
 ⟨some 25,.mov (.tmp 1),none⟩,
 ⟨some 26,.mov (.tmp 2),none⟩,
 ⟨some 27,.calli 188 [(.tmp 24),(.tmp 25),(.tmp 26)],none⟩])
 .ret)
 .skip))
 (.seq
 (.seq
 (.reg [] [⟨some 28,.mov (.tmp 3),none⟩,
 ⟨some 29,.cmp .eql (.tmp 28) (.cst (.d (.int .i64 0))),none⟩])
 (.cond (.tmp 29)
 (.seq
 (.reg [] [⟨some 30,.mov (.tmp 0),none⟩,
 ⟨some 31,.mov (.tmp 1),none⟩,
 ⟨some 32,.mov (.tmp 2),none⟩,
 ⟨some 33,.calli 189 [(.tmp 30),(.tmp 31),(.tmp 32)],none⟩])
 .ret)
 .skip))
 (.seq
 (.seq
 (.reg [] [⟨some 34,.mov (.tmp 8),none⟩,
 ⟨some 35,.not (.tmp 34),none⟩])
 (.cond (.tmp 35)
 (.seq
 (.reg [] [⟨some 36,.mov (.tmp 0),none⟩,
 ⟨some 37,.mov (.tmp 1),none⟩,
 ⟨some 38,.mov (.tmp 2),none⟩,
 ⟨some 39,.calli 190 [(.tmp 36),(.tmp 37),(.tmp 38)],none⟩])
 (.reg [] [⟨some 40,.mov (.tmp 3),none⟩,
 ⟨some 41,.arith .sub .i64 (.tmp 40) (.cst (.d (.int .i64 1))),none⟩,
 ⟨some 3,.mov (.tmp 41),none⟩]))
 .skip))
 (.seq
 (.reg [] [⟨some 43,.mov (.tmp 0),none⟩,
 ⟨some 44,.mov (.tmp 1),none⟩,
 ⟨some 45,.mov (.tmp 2),none⟩,
 ⟨some 46,.calli 191 [(.tmp 43),(.tmp 44),(.tmp 45)],none⟩,
 ⟨some 42,.mov (.tmp 46),none⟩,
 ⟨some 47,.ext 0 (.tmp 42),none⟩,
 ⟨some 48,.ext 1 (.tmp 42),none⟩,
 ⟨some 11,.mov (.tmp 47),none⟩,
 ⟨some 12,.mov (.tmp 48),none⟩])
 (.seq
 (.seq
 (.reg [] [⟨some 49,.mov (.tmp 12),none⟩,
 ⟨some 50,.cmp .eql (.tmp 49) (.cst (.d (.int .i64 2))),none⟩])
 (.cond (.tmp 50)
 (.seq
 (.reg [] [⟨some 51,.mov (.tmp 0),none⟩,
 ⟨some 52,.mov (.tmp 1),none⟩,
 ⟨some 53,.mov (.tmp 2),none⟩,
 ⟨some 54,.calli 192 [(.tmp 51),(.tmp 52),(.tmp 53)],none⟩])
 (.seq
 (.reg [] [⟨some 55,.mov (.tmp 2),none⟩,
 ⟨some 56,.arith .sub .i64 (.tmp 55) (.cst (.d (.int .i64 1))),none⟩,
 ⟨some 57,.mov (.tmp 11),none⟩,
 ⟨some 58,.mov (.tmp 1),none⟩,
 ⟨some 59,.arith .sub .i64 (.tmp 57) (.tmp 58),none⟩,
 ⟨some 60,.arith .sub .i64 (.tmp 56) (.tmp 59),none⟩,
 ⟨some 11,.mov (.tmp 60),none⟩])
 (.reg [] [⟨some 12,.mov (.cst (.d (.int .i64 1))),none⟩])))
 .skip))
 (.seq
 (.seq
 (.reg [] [⟨some 61,.mov (.tmp 8),none⟩,
 ⟨some 62,.mov (.tmp 61),none⟩,
 ⟨some 63,.mov (.tmp 9),some (62,true)⟩,
 ⟨some 64,.pick (.tmp 62) (.tmp 63) (.cst (.d (.bool false))),none⟩,
 ⟨some 65,.mov (.tmp 64),none⟩,
 ⟨some 66,.mov (.tmp 12),some (65,true)⟩,
 ⟨some 67,.cmp .eql (.tmp 66) (.cst (.d (.int .i64 1))),some (65,true)⟩,
 ⟨some 68,.pick (.tmp 65) (.tmp 67) (.cst (.d (.bool false))),none⟩])
 (.cond (.tmp 68)
 (.seq
 (.reg [] [⟨some 69,.mov (.tmp 0),none⟩,
 ⟨some 70,.mov (.tmp 1),none⟩,
 ⟨some 71,.mov (.tmp 2),none⟩,
 ⟨some 72,.calli 193 [(.tmp 69),(.tmp 70),(.tmp 71)],none⟩])
 (.cond (.tmp 72)
 .ret
 .skip))
 .skip))
 (.seq
 (.seq
 (.regd [] [⟨some 73,.mov (.tmp 1),none⟩,
 ⟨some 74,.cmp .gtr (.tmp 73) (.cst (.d (.int .i64 0))),none⟩,
 ⟨some 75,.mov (.tmp 74),none⟩,
 ⟨some 76,.mov (.tmp 0),some (75,true)⟩,
 ⟨some 77,.mov (.tmp 1),some (75,true)⟩,
 ⟨some 78,.arith .sub .i64 (.tmp 77) (.cst (.d (.int .i64 1))),some (75,true)⟩,
 ⟨some 79,.ixa 1 (.tmp 76) (.tmp 78),some (75,true)⟩,
 ⟨some 80,.ld false 1 (.tmp 79),some (75,true)⟩,
 ⟨some 81,.mov (.tmp 0),some (75,true)⟩,
 ⟨some 82,.mov (.tmp 11),some (75,true)⟩,
 ⟨some 83,.ixa 1 (.tmp 81) (.tmp 82),some (75,true)⟩,
 ⟨some 84,.ld false 1 (.tmp 83),some (75,true)⟩,
 ⟨some 85,.call 194 [(.tmp 80),(.tmp 84)],some (75,true)⟩,
 ⟨some 86,.not (.tmp 85),some (75,true)⟩,
 ⟨some 87,.pick (.tmp 75) (.tmp 86) (.cst (.d (.bool false))),none⟩] [(3,4),(3,5),(3,8),(4,8),(5,8),(6,8),(7,8),(3,9),(4,9),(5,9),(6,9),(7,9),(8,9),(3,10),(4,10),(5,10),(6,10),(7,10),(3,11),(4,11),(5,11),(6,11),(7,11)])
 (.cond (.tmp 87)
 (.seq
 (.reg [] [⟨some 88,.mov (.tmp 0),none⟩,
 ⟨some 89,.mov (.tmp 1),none⟩,
 ⟨some 90,.mov (.tmp 2),none⟩,
 ⟨some 91,.mov (.tmp 11),none⟩,
 ⟨some 92,.calli 195 [(.tmp 88),(.tmp 89),(.tmp 90),(.tmp 91)],none⟩,
 ⟨some 13,.mov (.tmp 92),none⟩])
 (.seq
 (.reg [] [⟨some 93,.mov (.tmp 13),none⟩,
 ⟨some 1,.mov (.tmp 93),none⟩])
 (.exit 1)))
 .skip))
 (.seq
 (.reg [] [⟨some 95,.mov (.tmp 0),none⟩,
 ⟨some 96,.mov (.tmp 1),none⟩,
 ⟨some 97,.mov (.tmp 2),none⟩,
 ⟨some 98,.mov (.tmp 11),none⟩,
 ⟨some 99,.calli 196 [(.tmp 95),(.tmp 96),(.tmp 97),(.tmp 98)],none⟩,
 ⟨some 94,.mov (.tmp 99),none⟩,
 ⟨some 100,.ext 0 (.tmp 94),none⟩,
 ⟨some 101,.ext 1 (.tmp 94),none⟩,
 ⟨some 14,.mov (.tmp 100),none⟩,
 ⟨some 15,.mov (.tmp 101),none⟩])
 (.seq
 (.reg [] [⟨some 102,.mov (.tmp 15),none⟩,
 ⟨some 9,.mov (.tmp 102),none⟩])
 (.seq
 (.reg [] [⟨some 103,.mov (.tmp 14),none⟩,
 ⟨some 104,.mov (.tmp 1),none⟩,
 ⟨some 105,.arith .sub .i64 (.tmp 103) (.tmp 104),none⟩,
 ⟨some 106,.mov (.tmp 2),none⟩,
 ⟨some 107,.mov (.tmp 14),none⟩,
 ⟨some 108,.arith .sub .i64 (.tmp 106) (.tmp 107),none⟩,
 ⟨some 16,.mov (.tmp 105),none⟩,
 ⟨some 17,.mov (.tmp 108),none⟩])
 (.seq
 (.reg [] [⟨some 109,.mov (.tmp 10),none⟩,
 ⟨some 110,.arith .quo .i64 (.tmp 109) (.cst (.d (.int .i64 8))),none⟩,
 ⟨some 18,.mov (.tmp 110),none⟩])
 (.seq
 (.reg [] [⟨some 111,.mov (.tmp 16),none⟩,
 ⟨some 112,.mov (.tmp 17),none⟩,
 ⟨some 113,.cmp .lss (.tmp 111) (.tmp 112),none⟩])
 (.cond (.tmp 113)
 (.seq
 (.reg [] [⟨some 114,.mov (.tmp 16),none⟩,
 ⟨some 115,.mov (.tmp 18),none⟩,
 ⟨some 116,.cmp .geq (.tmp 114) (.tmp 115),none⟩,
 ⟨some 8,.mov (.tmp 116),none⟩])
 (.seq
 (.reg [] [⟨some 117,.mov (.tmp 0),none⟩,
 ⟨some 118,.mov (.tmp 1),none⟩,
 ⟨some 119,.mov (.tmp 14),none⟩,
 ⟨some 120,.mov (.tmp 3),none⟩,
 ⟨some 121,.calli 167 [(.tmp 117),(.tmp 118),(.tmp 119),(.tmp 120)],none⟩])
 (.reg [] [⟨some 122,.mov (.tmp 14),none⟩,
 ⟨some 123,.arith .add .i64 (.tmp 122) (.cst (.d (.int .i64 1))),none⟩,
 ⟨some 1,.mov (.tmp 123),none⟩])))
 (.seq
 (.reg [] [⟨some 124,.mov (.tmp 17),none⟩,
 ⟨some 125,.mov (.tmp 18),none⟩,
 ⟨some 126,.cmp .geq (.tmp 124) (.tmp 125),none⟩,
 ⟨some 8,.mov (.tmp 126),none⟩])
 (.seq
 (.reg [] [⟨some 127,.mov (.tmp 0),none⟩,
 ⟨some 128,.mov (.tmp 14),none⟩,
 ⟨some 129,.arith .add .i64 (.tmp 128) (.cst (.d (.int .i64 1))),none⟩,
 ⟨some 130,.mov (.tmp 2),none⟩,
 ⟨some 131,.mov (.tmp 3),none⟩,
 ⟨some 132,.calli 167 [(.tmp 127),(.tmp 129),(.tmp 130),(.tmp 131)],none⟩])
 (.reg [] [⟨some 133,.mov (.tmp 14),none⟩,
 ⟨some 2,.mov (.tmp 133),none⟩])))))))))))))))))))))))))⟩
def tx168:AFun:=⟨8,40,[.tmp 2],
 (.seq
 (.reg [] [⟨some 2,.mov (.cst (.d (.int .i64 0))),none⟩])
 (.seq
 (.cond (.cst (.d (.bool false)))
 (.seq
 (.reg [] [⟨some 3,.mov (.tmp 0),none⟩,
 ⟨some 4,.conv .u32 (.tmp 3),none⟩,
 ⟨some 5,.call 197 [(.tmp 4)],none⟩,
 ⟨some 2,.mov (.tmp 5),none⟩])
 .ret)
 .skip)
 (.seq
 (.reg [] [⟨some 6,.mov (.tmp 0),none⟩,
 ⟨some 7,.call 198 [(.tmp 6)],none⟩,
 ⟨some 2,.mov (.tmp 7),none⟩])
 .ret)))⟩
def tx169:AFun:={ jr169 with heap:=40 }
def tx170:AFun:=⟨22,43,[.tmp 4],
 (.seq
 (.reg [] [⟨some 4,.mov (.cst (.nils 1)),none⟩])
 (.seq
 (.reg [] [⟨some 5,.mov (.cst (.nils 1)),none⟩])
 (.seq
 (.seq
 (.reg [] [⟨some 8,.mov (.tmp 0),none⟩,
 ⟨some 9,.len (.tmp 8),none⟩,
 ⟨some 10,.mov (.cst (.d (.int .i64 0))),none⟩])
 (.post [5] [0,1,2]
 (.block 0
 (.asrow 2 32 1 5
 (.keep [1,5,8,9,10] []
 (.loop
 (.post [1,5,8,9,10] [0,1,2]
 (.seq
 (.reg [] [⟨some 11,.cmp .lss (.tmp 10) (.tmp 9),none⟩])
 (.seq
 (.cond (.tmp 11)
 .skip
 (.exit 0))
 (.seq
 (.block 1
 (.seq
 (.reg [0] [⟨some 12,.ixa 2 (.tmp 8) (.tmp 10),none⟩,
 ⟨some 13,.ld true 2 (.tmp 12),none⟩,
 ⟨some 7,.alloc 0 [(.nils 1),(.d (.int .i64 0))],none⟩,
 ⟨none,.st 2 (.tmp 7) (.tmp 13),none⟩])
 (.reg [1,2] [⟨some 14,.mov (.tmp 5),none⟩,
 ⟨some 15,.mov (.tmp 1),none⟩,
 ⟨some 16,.ld true 2 (.tmp 7),none⟩,
 ⟨some 17,.callv (.tmp 15) [(.tmp 16)],none⟩,
 ⟨some 18,.bsl 1 32 1 1 [(.int .i64 0)] [(0,(.tmp 17))],none⟩,
 ⟨some 19,.app 2 32 1 8 (.tmp 14) (.tmp 18),none⟩,
 ⟨some 5,.mov (.tmp 19),none⟩])))
 (.reg [] [⟨some 20,.arith .add .i64 (.tmp 10) (.cst (.d (.int .i64 1))),none⟩,
 ⟨some 10,.mov (.tmp 20),none⟩])))))))))))
 (.seq
 (.reg [] [⟨some 21,.mov (.tmp 5),none⟩,
 ⟨some 4,.mov (.tmp 21),none⟩])
 .ret))))⟩
def tx171:AFun:=⟨13,42,[.tmp 3],
 (.seq
 (.reg [0] [⟨some 2,.cbx 0 2 (.tmp 0),none⟩,
 ⟨some 3,.mov (.cst (.d (.int .i64 0))),none⟩])
 (.seq
 (.regd [1] [⟨some 4,.ld false 1 (.tmp 1),none⟩,
 ⟨some 5,.fad 0 (.tmp 2),none⟩,
 ⟨some 6,.ld false 1 (.tmp 5),none⟩,
 ⟨some 7,.call 124 [(.tmp 4),(.tmp 6)],none⟩,
 ⟨some 8,.fad 1 (.tmp 2),none⟩,
 ⟨some 9,.ld false 1 (.tmp 8),none⟩,
 ⟨some 10,.call 122 [(.tmp 9),(.cst (.d (.int .i64 0))),(.cst (.d (.int .i64 35)))],none⟩,
 ⟨some 11,.bsl 1 32 1 2 [(.int .i64 0),(.int .i64 0)] [(0,(.tmp 7)),(1,(.tmp 10))],none⟩,
 ⟨some 12,.call 99 [(.tmp 11)],none⟩,
 ⟨some 3,.mov (.tmp 12),none⟩] [(0,1),(0,2),(0,4),(1,4),(2,4),(3,4),(0,5),(1,5),(2,5),(3,5)])
 .ret))⟩
def tx172:AFun:=⟨9,40,[.tmp 4],
 (.seq
 (.reg [] [⟨some 4,.mov (.cst (.d (.bool false))),none⟩])
 (.seq
 (.reg [] [⟨some 5,.mov (.tmp 0),none⟩,
 ⟨some 6,.mov (.tmp 1),none⟩,
 ⟨some 7,.call 199 [(.tmp 5),(.tmp 6)],none⟩,
 ⟨some 8,.cmp .geq (.tmp 7) (.cst (.d (.int .i64 0))),none⟩,
 ⟨some 4,.mov (.tmp 8),none⟩])
 .ret))⟩
def tx173:AFun:=⟨11,41,[.tmp 3],
 (.seq
 (.reg [0] [⟨some 2,.cbx 0 2 (.tmp 0),none⟩,
 ⟨some 3,.mov (.cst (.d (.bool false))),none⟩])
 (.seq
 (.regd [] [⟨some 4,.sla 5 (.tmp 1) none none,none⟩,
 ⟨some 5,.fad 0 (.tmp 2),none⟩,
 ⟨some 6,.ld false 1 (.tmp 5),none⟩,
 ⟨some 7,.call 131 [(.tmp 4),(.tmp 6)],none⟩,
 ⟨some 8,.fad 1 (.tmp 2),none⟩,
 ⟨some 9,.ld false 1 (.tmp 8),none⟩,
 ⟨some 10,.cmp .neq (.tmp 7) (.tmp 9),none⟩,
 ⟨some 3,.mov (.tmp 10),none⟩] [(0,1),(0,2),(0,4),(1,4),(2,4),(3,4),(0,5),(1,5),(2,5),(3,5)])
 .ret))⟩
def tx174:AFun:=⟨19,40,[.tmp 4],
 (.seq
 (.reg [] [⟨some 4,.mov (.cst (.d (.int .i64 0))),none⟩])
 (.seq
 (.seq
 (.reg [] [⟨some 6,.mov (.tmp 0),none⟩,
 ⟨some 7,.len (.tmp 6),none⟩,
 ⟨some 8,.mov (.cst (.d (.int .i64 0))),none⟩])
 (.post [] []
 (.block 0
 (.keep [0,1,7,8] []
 (.loop
 (.post [0,1,7,8] []
 (.seq
 (.reg [] [⟨some 9,.cmp .lss (.tmp 8) (.tmp 7),none⟩])
 (.seq
 (.cond (.tmp 9)
 .skip
 (.exit 0))
 (.seq
 (.block 1
 (.seq
 (.reg [] [⟨some 10,.mov (.tmp 8),none⟩,
 ⟨some 5,.mov (.tmp 10),none⟩])
 (.seq
 (.reg [] [⟨some 11,.mov (.tmp 1),none⟩,
 ⟨some 12,.mov (.tmp 0),none⟩,
 ⟨some 13,.mov (.tmp 5),none⟩,
 ⟨some 14,.ixa 2 (.tmp 12) (.tmp 13),none⟩,
 ⟨some 15,.ld true 2 (.tmp 14),none⟩,
 ⟨some 16,.callv (.tmp 11) [(.tmp 15)],none⟩])
 (.cond (.tmp 16)
 (.seq
 (.reg [] [⟨some 17,.mov (.tmp 5),none⟩,
 ⟨some 4,.mov (.tmp 17),none⟩])
 .ret)
 .skip))))
 (.reg [] [⟨some 18,.arith .add .i64 (.tmp 8) (.cst (.d (.int .i64 1))),none⟩,
 ⟨some 8,.mov (.tmp 18),none⟩]))))))))))
 (.seq
 (.reg [] [⟨some 4,.mov (.cst (.d (.int .i64 (-1)))),none⟩])
 .ret)))⟩
def tx177:AFun:=⟨6,40,[.tmp 2],
 (.seq
 (.reg [] [⟨some 2,.mov (.cst (.d (.bool false))),none⟩])
 (.seq
 (.reg [] [⟨some 3,.mov (.tmp 0),none⟩,
 ⟨some 4,.len (.tmp 3),none⟩,
 ⟨some 5,.cmp .eql (.tmp 4) (.cst (.d (.int .i64 0))),none⟩,
 ⟨some 2,.mov (.tmp 5),none⟩])
 .ret))⟩
def tx178:AFun:=⟨19,40,[.tmp 4],
 (.seq
 (.reg [] [⟨some 4,.mov (.cst (.d (.int .i64 0))),none⟩])
 (.seq
 (.seq
 (.reg [] [⟨some 6,.mov (.tmp 0),none⟩,
 ⟨some 7,.len (.tmp 6),none⟩,
 ⟨some 8,.mov (.cst (.d (.int .i64 0))),none⟩])
 (.post [] []
 (.block 0
 (.keep [0,1,7,8] []
 (.loop
 (.post [0,1,7,8] []
 (.seq
 (.reg [] [⟨some 9,.cmp .lss (.tmp 8) (.tmp 7),none⟩])
 (.seq
 (.cond (.tmp 9)
 .skip
 (.exit 0))
 (.seq
 (.block 1
 (.seq
 (.reg [] [⟨some 10,.mov (.tmp 8),none⟩,
 ⟨some 5,.mov (.tmp 10),none⟩])
 (.seq
 (.reg [] [⟨some 11,.mov (.tmp 1),none⟩,
 ⟨some 12,.mov (.tmp 0),none⟩,
 ⟨some 13,.mov (.tmp 5),none⟩,
 ⟨some 14,.ixa 1 (.tmp 12) (.tmp 13),none⟩,
 ⟨some 15,.ld false 1 (.tmp 14),none⟩,
 ⟨some 16,.callv (.tmp 11) [(.tmp 15)],none⟩])
 (.cond (.tmp 16)
 (.seq
 (.reg [] [⟨some 17,.mov (.tmp 5),none⟩,
 ⟨some 4,.mov (.tmp 17),none⟩])
 .ret)
 .skip))))
 (.reg [] [⟨some 18,.arith .add .i64 (.tmp 8) (.cst (.d (.int .i64 1))),none⟩,
 ⟨some 8,.mov (.tmp 18),none⟩]))))))))))
 (.seq
 (.reg [] [⟨some 4,.mov (.cst (.d (.int .i64 (-1)))),none⟩])
 .ret)))⟩
def tx180:AFun:=⟨148,40,[],
 (.seq
 (.reg [] [⟨some 10,.mov (.cst (.d (.bool true))),none⟩])
 (.seq
 (.reg [] [⟨some 11,.mov (.cst (.d (.bool true))),none⟩])
 (.post [] []
 (.block 0
 (.keep [0,1,2,3,4,10,11] []
 (.loop
 (.post [0,1,2,3,4,10,11] []
 (.block 1
 (.seq
 (.reg [] [⟨some 21,.mov (.tmp 2),none⟩,
 ⟨some 22,.mov (.tmp 1),none⟩,
 ⟨some 23,.arith .sub .i64 (.tmp 21) (.tmp 22),none⟩,
 ⟨some 12,.mov (.tmp 23),none⟩])
 (.seq
 (.seq
 (.reg [] [⟨some 24,.mov (.tmp 12),none⟩,
 ⟨some 25,.cmp .leq (.tmp 24) (.cst (.d (.int .i64 12))),none⟩])
 (.cond (.tmp 25)
 (.seq
 (.reg [] [⟨some 26,.mov (.tmp 0),none⟩,
 ⟨some 27,.mov (.tmp 1),none⟩,
 ⟨some 28,.mov (.tmp 2),none⟩,
 ⟨some 29,.mov (.tmp 4),none⟩,
 ⟨some 30,.calli 201 [(.tmp 26),(.tmp 27),(.tmp 28),(.tmp 29)],none⟩])
 .ret)
 .skip))
 (.seq
 (.seq
 (.reg [] [⟨some 31,.mov (.tmp 3),none⟩,
 ⟨some 32,.cmp .eql (.tmp 31) (.cst (.d (.int .i64 0))),none⟩])
 (.cond (.tmp 32)
 (.seq
 (.reg [] [⟨some 33,.mov (.tmp 0),none⟩,
 ⟨some 34,.mov (.tmp 1),none⟩,
 ⟨some 35,.mov (.tmp 2),none⟩,
 ⟨some 36,.mov (.tmp 4),none⟩,
 ⟨some 37,.calli 202 [(.tmp 33),(.tmp 34),(.tmp 35),(.tmp 36)],none⟩])
 .ret)
 .skip))
 (.seq
 (.seq
 (.reg [] [⟨some 38,.mov (.tmp 10),none⟩,
 ⟨some 39,.not (.tmp 38),none⟩])
 (.cond (.tmp 39)
 (.seq
 (.reg [] [⟨some 40,.mov (.tmp 0),none⟩,
 ⟨some 41,.mov (.tmp 1),none⟩,
 ⟨some 42,.mov (.tmp 2),none⟩,
 ⟨some 43,.mov (.tmp 4),none⟩,
 ⟨some 44,.calli 203 [(.tmp 40),(.tmp 41),(.tmp 42),(.tmp 43)],none⟩])
 (.reg [] [⟨some 45,.mov (.tmp 3),none⟩,
 ⟨some 46,.arith .sub .i64 (.tmp 45) (.cst (.d (.int .i64 1))),none⟩,
 ⟨some 3,.mov (.tmp 46),none⟩]))
 .skip))
 (.seq
 (.reg [] [⟨some 48,.mov (.tmp 0),none⟩,
 ⟨some 49,.mov (.tmp 1),none⟩,
 ⟨some 50,.mov (.tmp 2),none⟩,
 ⟨some 51,.mov (.tmp 4),none⟩,
 ⟨some 52,.calli 204 [(.tmp 48),(.tmp 49),(.tmp 50),(.tmp 51)],none⟩,
 ⟨some 47,.mov (.tmp 52),none⟩,
 ⟨some 53,.ext 0 (.tmp 47),none⟩,
 ⟨some 54,.ext 1 (.tmp 47),none⟩,
 ⟨some 13,.mov (.tmp 53),none⟩,
 ⟨some 14,.mov (.tmp 54),none⟩])
 (.seq
 (.seq
 (.reg [] [⟨some 55,.mov (.tmp 14),none⟩,
 ⟨some 56,.cmp .eql (.tmp 55) (.cst (.d (.int .i64 2))),none⟩])
 (.cond (.tmp 56)
 (.seq
 (.reg [] [⟨some 57,.mov (.tmp 0),none⟩,
 ⟨some 58,.mov (.tmp 1),none⟩,
 ⟨some 59,.mov (.tmp 2),none⟩,
 ⟨some 60,.mov (.tmp 4),none⟩,
 ⟨some 61,.calli 205 [(.tmp 57),(.tmp 58),(.tmp 59),(.tmp 60)],none⟩])
 (.seq
 (.reg [] [⟨some 62,.mov (.tmp 2),none⟩,
 ⟨some 63,.arith .sub .i64 (.tmp 62) (.cst (.d (.int .i64 1))),none⟩,
 ⟨some 64,.mov (.tmp 13),none⟩,
 ⟨some 65,.mov (.tmp 1),none⟩,
 ⟨some 66,.arith .sub .i64 (.tmp 64) (.tmp 65),none⟩,
 ⟨some 67,.arith .sub .i64 (.tmp 63) (.tmp 66),none⟩,
 ⟨some 13,.mov (.tmp 67),none⟩])
 (.reg [] [⟨some 14,.mov (.cst (.d (.int .i64 1))),none⟩])))
 .skip))
 (.seq
 (.seq
 (.reg [] [⟨some 68,.mov (.tmp 10),none⟩,
 ⟨some 69,.mov (.tmp 68),none⟩,
 ⟨some 70,.mov (.tmp 11),some (69,true)⟩,
 ⟨some 71,.pick (.tmp 69) (.tmp 70) (.cst (.d (.bool false))),none⟩,
 ⟨some 72,.mov (.tmp 71),none⟩,
 ⟨some 73,.mov (.tmp 14),some (72,true)⟩,
 ⟨some 74,.cmp .eql (.tmp 73) (.cst (.d (.int .i64 1))),some (72,true)⟩,
 ⟨some 75,.pick (.tmp 72) (.tmp 74) (.cst (.d (.bool false))),none⟩])
 (.cond (.tmp 75)
 (.seq
 (.reg [] [⟨some 76,.mov (.tmp 0),none⟩,
 ⟨some 77,.mov (.tmp 1),none⟩,
 ⟨some 78,.mov (.tmp 2),none⟩,
 ⟨some 79,.mov (.tmp 4),none⟩,
 ⟨some 80,.calli 206 [(.tmp 76),(.tmp 77),(.tmp 78),(.tmp 79)],none⟩])
 (.cond (.tmp 80)
 .ret
 .skip))
 .skip))
 (.seq
 (.seq
 (.regd [] [⟨some 81,.mov (.tmp 1),none⟩,
 ⟨some 82,.cmp .gtr (.tmp 81) (.cst (.d (.int .i64 0))),none⟩,
 ⟨some 83,.mov (.tmp 82),none⟩,
 ⟨some 84,.mov (.tmp 4),some (83,true)⟩,
 ⟨some 85,.mov (.tmp 0),some (83,true)⟩,
 ⟨some 86,.mov (.tmp 1),some (83,true)⟩,
 ⟨some 87,.arith .sub .i64 (.tmp 86) (.cst (.d (.int .i64 1))),some (83,true)⟩,
 ⟨some 88,.ixa 4 (.tmp 85) (.tmp 87),some (83,true)⟩,
 ⟨some 89,.ld true 4 (.tmp 88),some (83,true)⟩,
 ⟨some 90,.mov (.tmp 0),some (83,true)⟩,
 ⟨some 91,.mov (.tmp 13),some (83,true)⟩,
 ⟨some 92,.ixa 4 (.tmp 90) (.tmp 91),some (83,true)⟩,
 ⟨some 93,.ld true 4 (.tmp 92),some (83,true)⟩,
 ⟨some 94,.callv (.tmp 84) [(.tmp 89),(.tmp 93)],some (83,true)⟩,
 ⟨some 95,.cmp .lss (.tmp 94) (.cst (.d (.int .i64 0))),some (83,true)⟩,
 ⟨some 96,.not (.tmp 95),some (83,true)⟩,
 ⟨some 97,.pick (.tmp 83) (.tmp 96) (.cst (.d (.bool false))),none⟩] [(3,4),(3,5),(4,5),(3,6),(4,6),(3,7),(3,8),(3,9),(4,9),(5,9),(6,9),(7,9),(8,9),(3,10),(4,10),(5,10),(6,10),(7,10),(8,10),(9,10),(3,11),(4,11),(5,11),(6,11),(7,11),(8,11),(3,12),(4,12),(5,12),(6,12),(7,12),(8,12)])
 (.cond (.tmp 97)
 (.seq
 (.reg [] [⟨some 98,.mov (.tmp 0),none⟩,
 ⟨some 99,.mov (.tmp 1),none⟩,
 ⟨some 100,.mov (.tmp 2),none⟩,
 ⟨some 101,.mov (.tmp 13),none⟩,
 ⟨some 102,.mov (.tmp 4),none⟩,
 ⟨some 103,.calli 207 [(.tmp 98),(.tmp 99),(.tmp 100),(.tmp 101),(.tmp 102)],none⟩,
 ⟨some 15,.mov (.tmp 103),none⟩])
 (.seq
 (.reg [] [⟨some 104,.mov (.tmp 15),none⟩,
 ⟨some 1,.mov (.tmp 104),none⟩])
 (.exit 1)))
 .skip))
 (.seq
 (.reg [] [⟨some 106,.mov (.tmp 0),none⟩,
 ⟨some 107,.mov (.tmp 1),none⟩,
 ⟨some 108,.mov (.tmp 2),none⟩,
 ⟨some 109,.mov (.tmp 13),none⟩,
 ⟨some 110,.mov (.tmp 4),none⟩,
 ⟨some 111,.calli 208 [(.tmp 106),(.tmp 107),(.tmp 108),(.tmp 109),(.tmp 110)],none⟩,
 ⟨some 105,.mov (.tmp 111),none⟩,
 ⟨some 112,.ext 0 (.tmp 105),none⟩,
 ⟨some 113,.ext 1 (.tmp 105),none⟩,
 ⟨some 16,.mov (.tmp 112),none⟩,
 ⟨some 17,.mov (.tmp 113),none⟩])
 (.seq
 (.reg [] [⟨some 114,.mov (.tmp 17),none⟩,
 ⟨some 11,.mov (.tmp 114),none⟩])
 (.seq
 (.reg [] [⟨some 115,.mov (.tmp 16),none⟩,
 ⟨some 116,.mov (.tmp 1),none⟩,
 ⟨some 117,.arith .sub .i64 (.tmp 115) (.tmp 116),none⟩,
 ⟨some 118,.mov (.tmp 2),none⟩,
 ⟨some 119,.mov (.tmp 16),none⟩,
 ⟨some 120,.arith .sub .i64 (.tmp 118) (.tmp 119),none⟩,
 ⟨some 18,.mov (.tmp 117),none⟩,
 ⟨some 19,.mov (.tmp 120),none⟩])
 (.seq
 (.reg [] [⟨some 121,.mov (.tmp 12),none⟩,
 ⟨some 122,.arith .quo .i64 (.tmp 121) (.cst (.d (.int .i64 8))),none⟩,
 ⟨some 20,.mov (.tmp 122),none⟩])
 (.seq
 (.reg [] [⟨some 123,.mov (.tmp 18),none⟩,
 ⟨some 124,.mov (.tmp 19),none⟩,
 ⟨some 125,.cmp .lss (.tmp 123) (.tmp 124),none⟩])
 (.cond (.tmp 125)
 (.seq
 (.reg [] [⟨some 126,.mov (.tmp 18),none⟩,
 ⟨some 127,.mov (.tmp 20),none⟩,
 ⟨some 128,.cmp .geq (.tmp 126) (.tmp 127),none⟩,
 ⟨some 10,.mov (.tmp 128),none⟩])
 (.seq
 (.reg [] [⟨some 129,.mov (.tmp 0),none⟩,
 ⟨some 130,.mov (.tmp 1),none⟩,
 ⟨some 131,.mov (.tmp 16),none⟩,
 ⟨some 132,.mov (.tmp 3),none⟩,
 ⟨some 133,.mov (.tmp 4),none⟩,
 ⟨some 134,.calli 180 [(.tmp 129),(.tmp 130),(.tmp 131),(.tmp 132),(.tmp 133)],none⟩])
 (.reg [] [⟨some 135,.mov (.tmp 16),none⟩,
 ⟨some 136,.arith .add .i64 (.tmp 135) (.cst (.d (.int .i64 1))),none⟩,
 ⟨some 1,.mov (.tmp 136),none⟩])))
 (.seq
 (.reg [] [⟨some 137,.mov (.tmp 19),none⟩,
 ⟨some 138,.mov (.tmp 20),none⟩,
 ⟨some 139,.cmp .geq (.tmp 137) (.tmp 138),none⟩,
 ⟨some 10,.mov (.tmp 139),none⟩])
 (.seq
 (.reg [] [⟨some 140,.mov (.tmp 0),none⟩,
 ⟨some 141,.mov (.tmp 16),none⟩,
 ⟨some 142,.arith .add .i64 (.tmp 141) (.cst (.d (.int .i64 1))),none⟩,
 ⟨some 143,.mov (.tmp 2),none⟩,
 ⟨some 144,.mov (.tmp 3),none⟩,
 ⟨some 145,.mov (.tmp 4),none⟩,
 ⟨some 146,.calli 180 [(.tmp 140),(.tmp 142),(.tmp 143),(.tmp 144),(.tmp 145)],none⟩])
 (.reg [] [⟨some 147,.mov (.tmp 16),none⟩,
 ⟨some 2,.mov (.tmp 147),none⟩])))))))))))))))))))))))))⟩
def tx181:AFun:={ jr181 with heap:=40 }
def tx182:AFun:={ jr182 with heap:=40 }
def tx186:AFun:=⟨5,40,[.tmp 2],
 (.seq
 (.reg [] [⟨some 2,.mov (.cst (.d (.str []))),none⟩])
 (.seq
 (.reg [] [⟨some 3,.mov (.tmp 0),none⟩,
 ⟨some 4,.call 212 [(.tmp 3),(.cst (.d (.int .i64 10)))],none⟩,
 ⟨some 2,.mov (.tmp 4),none⟩])
 .ret))⟩
def tx187:AFun:={ jr187 with heap:=41 }
def tx188:AFun:=⟨49,40,[],
 (.seq
 (.reg [] [⟨some 8,.mov (.tmp 1),none⟩,
 ⟨some 9,.arith .add .i64 (.tmp 8) (.cst (.d (.int .i64 1))),none⟩,
 ⟨some 6,.mov (.tmp 9),none⟩])
 (.post [] []
 (.block 0
 (.keep [0,1,2,6] []
 (.loop
 (.post [0,1,2,6] []
 (.seq
 (.seq
 (.reg [] [⟨some 10,.mov (.tmp 6),none⟩,
 ⟨some 11,.mov (.tmp 2),none⟩,
 ⟨some 12,.cmp .lss (.tmp 10) (.tmp 11),none⟩])
 (.cond (.tmp 12)
 .skip
 (.exit 0)))
 (.seq
 (.block 1
 (.seq
 (.reg [] [⟨some 15,.mov (.tmp 6),none⟩,
 ⟨some 7,.mov (.tmp 15),none⟩])
 (.post [0,1,2,6] []
 (.block 2
 (.keep [0,1,2,6,7] []
 (.loop
 (.post [0,1,2,6,7] []
 (.seq
 (.seq
 (.regd [] [⟨some 16,.mov (.tmp 7),none⟩,
 ⟨some 17,.mov (.tmp 1),none⟩,
 ⟨some 18,.cmp .gtr (.tmp 16) (.tmp 17),none⟩,
 ⟨some 19,.mov (.tmp 18),none⟩,
 ⟨some 20,.mov (.tmp 0),some (19,true)⟩,
 ⟨some 21,.mov (.tmp 7),some (19,true)⟩,
 ⟨some 22,.ixa 1 (.tmp 20) (.tmp 21),some (19,true)⟩,
 ⟨some 23,.ld false 1 (.tmp 22),some (19,true)⟩,
 ⟨some 24,.mov (.tmp 0),some (19,true)⟩,
 ⟨some 25,.mov (.tmp 7),some (19,true)⟩,
 ⟨some 26,.arith .sub .i64 (.tmp 25) (.cst (.d (.int .i64 1))),some (19,true)⟩,
 ⟨some 27,.ixa 1 (.tmp 24) (.tmp 26),some (19,true)⟩,
 ⟨some 28,.ld false 1 (.tmp 27),some (19,true)⟩,
 ⟨some 29,.call 194 [(.tmp 23),(.tmp 28)],some (19,true)⟩,
 ⟨some 30,.pick (.tmp 19) (.tmp 29) (.cst (.d (.bool false))),none⟩] [(0,1),(4,5),(4,8),(5,8),(6,8),(7,8),(4,9),(5,9),(6,9),(7,9),(8,9),(4,10),(5,10),(6,10),(7,10),(8,10),(4,11),(5,11),(6,11),(7,11),(4,12),(5,12),(6,12),(7,12)])
 (.cond (.tmp 30)
 .skip
 (.exit 2)))
 (.seq
 (.block 3
 (.regd [] [⟨some 33,.mov (.tmp 0),none⟩,
 ⟨some 34,.mov (.tmp 7),none⟩,
 ⟨some 35,.mov (.tmp 0),none⟩,
 ⟨some 36,.mov (.tmp 7),none⟩,
 ⟨some 37,.arith .sub .i64 (.tmp 36) (.cst (.d (.int .i64 1))),none⟩,
 ⟨some 38,.mov (.tmp 0),none⟩,
 ⟨some 39,.mov (.tmp 7),none⟩,
 ⟨some 40,.arith .sub .i64 (.tmp 39) (.cst (.d (.int .i64 1))),none⟩,
 ⟨some 41,.ixa 1 (.tmp 38) (.tmp 40),none⟩,
 ⟨some 42,.ld false 1 (.tmp 41),none⟩,
 ⟨some 43,.mov (.tmp 0),none⟩,
 ⟨some 44,.mov (.tmp 7),none⟩,
 ⟨some 45,.ixa 1 (.tmp 43) (.tmp 44),none⟩,
 ⟨some 46,.ld false 1 (.tmp 45),none⟩,
 ⟨some 47,.ixa 1 (.tmp 33) (.tmp 34),none⟩,
 ⟨none,.st 1 (.tmp 47) (.tmp 42),none⟩,
 ⟨some 48,.ixa 1 (.tmp 35) (.tmp 37),none⟩,
 ⟨none,.st 1 (.tmp 48) (.tmp 46),none⟩] [(0,1),(0,2),(1,2),(0,3),(1,3),(2,3),(0,4),(1,4),(2,4),(0,5),(1,5),(2,5),(3,5),(4,5),(0,6),(1,6),(2,6),(3,6),(4,6),(5,6),(0,7),(1,7),(2,7),(3,7),(4,7),(5,7),(0,8),(1,8),(2,8),(3,8),(4,8),(0,9),(1,9),(2,9),(3,9),(4,9),(0,10),(1,10),(2,10),(3,10),(4,10),(5,10),(6,10),(7,10),(8,10),(9,10),(0,11),(1,11),(2,11),(3,11),(4,11),(5,11),(6,11),(7,11),(8,11),(9,11),(10,11),(0,12),(1,12),(2,12),(3,12),(4,12),(5,12),(6,12),(7,12),(8,12),(9,12),(0,13),(1,13),(2,13),(3,13),(4,13),(5,13),(6,13),(7,13),(8,13),(9,13),(2,14),(3,14),(4,14),(2,15),(3,15),(4,15)]))
 (.reg [] [⟨some 31,.mov (.tmp 7),none⟩,
 ⟨some 32,.arith .sub .i64 (.tmp 31) (.cst (.d (.int .i64 1))),none⟩,
 ⟨some 7,.mov (.tmp 32),none⟩]))))))))))
 (.reg [] [⟨some 13,.mov (.tmp 6),none⟩,
 ⟨some 14,.arith .add .i64 (.tmp 13) (.cst (.d (.int .i64 1))),none⟩,
 ⟨some 6,.mov (.tmp 14),none⟩])))))))))⟩
end Vc
