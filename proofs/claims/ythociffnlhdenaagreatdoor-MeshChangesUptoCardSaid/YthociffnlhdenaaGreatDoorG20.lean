import Derived.Test.YthociffnlhdenaaGreatDoorG09
import Derived.Test.YthociffnlhdenaaGreatDoorG10
import Derived.Test.YthociffnlhdenaaGreatDoorG19
import Derived.Test.YthociffnlhdenaaGreatDoorG11
import Derived.Test.YthociffnlhdenaaGreatDoorG14
import Derived.Test.YthociffnlhdenaaGreatDoorG06
import Derived.Test.YthociffnlhdenaaGreatDoorRows
set_option linter.unusedSectionVars false
set_option linter.unusedVariables false
set_option linter.unusedSimpArgs false
set_option maxRecDepth 100000
namespace Vc
open Go Go.Proofs
def tx16:AFun:=⟨310,61,[.tmp 0],
 (.seq
 (.reg [] [⟨some 0,.mov (.cst (.d (.bool false))),none⟩])
 (.seq
 (.reg [] [⟨some 44,.call 84 [],none⟩,
 ⟨some 45,.call 17 [(.tmp 44),(.cst (.d (.int .i64 1)))],none⟩,
 ⟨some 43,.mov (.tmp 45),none⟩,
 ⟨some 46,.ext 0 (.tmp 43),none⟩,
 ⟨some 47,.ext 1 (.tmp 43),none⟩,
 ⟨some 1,.mov (.tmp 46),none⟩,
 ⟨some 2,.mov (.tmp 47),none⟩])
 (.seq
 (.reg [0] [⟨some 49,.call 84 [],none⟩,
 ⟨some 50,.bsl 0 3 1 4 [(.int .i64 0),(.int .i64 0),(.int .i64 0),(.int .i64 0)] [(0,(.cst (.d (.int .i64 0)))),(1,(.cst (.d (.int .i64 2)))),(2,(.cst (.d (.int .i64 1)))),(3,(.cst (.d (.int .i64 3))))],none⟩,
 ⟨some 51,.call 19 [(.tmp 49),(.tmp 50)],none⟩,
 ⟨some 48,.mov (.tmp 51),none⟩,
 ⟨some 52,.ext 0 (.tmp 48),none⟩,
 ⟨some 53,.ext 1 (.tmp 48),none⟩,
 ⟨some 3,.mov (.tmp 52),none⟩,
 ⟨some 4,.mov (.tmp 53),none⟩])
 (.seq
 (.reg [] [⟨some 55,.call 84 [],none⟩,
 ⟨some 56,.call 21 [(.tmp 55),(.cst (.d (.int .i64 0)))],none⟩,
 ⟨some 54,.mov (.tmp 56),none⟩,
 ⟨some 57,.ext 0 (.tmp 54),none⟩,
 ⟨some 58,.ext 1 (.tmp 54),none⟩,
 ⟨some 5,.mov (.tmp 57),none⟩,
 ⟨some 6,.mov (.tmp 58),none⟩])
 (.seq
 (.reg [1] [⟨some 60,.call 84 [],none⟩,
 ⟨some 61,.call 31 [(.tmp 60),(.cst (.d (.int .i64 0)))],none⟩,
 ⟨some 59,.mov (.tmp 61),none⟩,
 ⟨some 62,.ext 0 (.tmp 59),none⟩,
 ⟨some 63,.ext 1 (.tmp 59),none⟩,
 ⟨some 7,.alloc 1 [(.d (.int .i64 0)),(.d (.int .i64 0)),(.nils 3)],none⟩,
 ⟨none,.st 3 (.tmp 7) (.tmp 62),none⟩,
 ⟨some 8,.mov (.tmp 63),none⟩])
 (.seq
 (.regd [2] [⟨some 65,.call 84 [],none⟩,
 ⟨some 66,.ld true 3 (.tmp 7),none⟩,
 ⟨some 67,.call 53 [(.tmp 65),(.tmp 66),(.cst (.nils 2))],none⟩,
 ⟨some 64,.mov (.tmp 67),none⟩,
 ⟨some 68,.ext 0 (.tmp 64),none⟩,
 ⟨some 69,.ext 1 (.tmp 64),none⟩,
 ⟨some 9,.alloc 2 [(.d (.int .i64 0)),(.d (.int .i64 0)),(.nils 3)],none⟩,
 ⟨none,.st 3 (.tmp 9) (.tmp 68),none⟩,
 ⟨some 10,.mov (.tmp 69),none⟩] [(0,1),(4,5),(0,6),(1,6),(2,6),(3,6),(4,6),(5,6),(5,7)])
 (.seq
 (.regd [3] [⟨some 71,.call 84 [],none⟩,
 ⟨some 72,.ld true 3 (.tmp 7),none⟩,
 ⟨some 73,.call 54 [(.tmp 71),(.tmp 72)],none⟩,
 ⟨some 70,.mov (.tmp 73),none⟩,
 ⟨some 74,.ext 0 (.tmp 70),none⟩,
 ⟨some 75,.ext 1 (.tmp 70),none⟩,
 ⟨some 76,.ext 2 (.tmp 70),none⟩,
 ⟨some 11,.alloc 3 [(.d (.int .i64 0)),(.d (.int .i64 0)),(.nils 3)],none⟩,
 ⟨none,.st 3 (.tmp 11) (.tmp 74),none⟩,
 ⟨some 12,.mov (.tmp 75),none⟩,
 ⟨some 13,.mov (.tmp 76),none⟩] [(0,1),(4,5),(4,6),(5,6),(0,7),(1,7),(2,7),(3,7),(4,7),(5,7),(6,7),(5,8),(6,8),(6,9)])
 (.seq
 (.regd [] [⟨some 78,.call 84 [],none⟩,
 ⟨some 79,.ld true 3 (.tmp 11),none⟩,
 ⟨some 80,.call 63 [(.tmp 78),(.tmp 79),(.cst (.d (.int .i64 3)))],none⟩,
 ⟨some 77,.mov (.tmp 80),none⟩,
 ⟨some 81,.ext 0 (.tmp 77),none⟩,
 ⟨some 82,.ext 1 (.tmp 77),none⟩,
 ⟨some 14,.mov (.tmp 81),none⟩,
 ⟨some 15,.mov (.tmp 82),none⟩] [(0,1),(4,5),(5,6)])
 (.seq
 (.regd [] [⟨some 84,.call 84 [],none⟩,
 ⟨some 85,.ld true 3 (.tmp 11),none⟩,
 ⟨some 86,.call 63 [(.tmp 84),(.tmp 85),(.cst (.d (.int .i64 4)))],none⟩,
 ⟨some 83,.mov (.tmp 86),none⟩,
 ⟨some 87,.ext 0 (.tmp 83),none⟩,
 ⟨some 88,.ext 1 (.tmp 83),none⟩,
 ⟨some 16,.mov (.tmp 87),none⟩,
 ⟨some 17,.mov (.tmp 88),none⟩] [(0,1),(4,5),(5,6)])
 (.seq
 (.seq
 (.reg [4,5,6] [⟨some 89,.mov (.tmp 2),none⟩,
 ⟨some 90,.mov (.tmp 4),none⟩,
 ⟨some 91,.arith .add .i64 (.tmp 89) (.tmp 90),none⟩,
 ⟨some 92,.mov (.tmp 6),none⟩,
 ⟨some 93,.arith .add .i64 (.tmp 91) (.tmp 92),none⟩,
 ⟨some 94,.mov (.tmp 8),none⟩,
 ⟨some 95,.arith .add .i64 (.tmp 93) (.tmp 94),none⟩,
 ⟨some 96,.mov (.tmp 10),none⟩,
 ⟨some 97,.arith .add .i64 (.tmp 95) (.tmp 96),none⟩,
 ⟨some 98,.mov (.tmp 13),none⟩,
 ⟨some 99,.arith .add .i64 (.tmp 97) (.tmp 98),none⟩,
 ⟨some 100,.mov (.tmp 15),none⟩,
 ⟨some 101,.arith .add .i64 (.tmp 99) (.tmp 100),none⟩,
 ⟨some 102,.cmp .neq (.tmp 101) (.cst (.d (.int .i64 0))),none⟩,
 ⟨some 103,.mov (.tmp 102),none⟩,
 ⟨some 104,.mov (.tmp 17),some (103,false)⟩,
 ⟨some 105,.cmp .neq (.tmp 104) (.cst (.d (.int .i64 7))),some (103,false)⟩,
 ⟨some 106,.pick (.tmp 103) (.cst (.d (.bool true))) (.tmp 105),none⟩,
 ⟨some 107,.mov (.tmp 106),none⟩,
 ⟨some 108,.mov (.tmp 1),some (107,false)⟩,
 ⟨some 109,.bsl 4 3 1 3 [(.int .i64 0),(.int .i64 0),(.int .i64 0)] [(0,(.cst (.d (.int .i64 0)))),(1,(.cst (.d (.int .i64 2)))),(2,(.cst (.d (.int .i64 3))))],some (107,false)⟩,
 ⟨some 110,.call 70 [(.tmp 108),(.tmp 109)],some (107,false)⟩,
 ⟨some 111,.not (.tmp 110),some (107,false)⟩,
 ⟨some 112,.pick (.tmp 107) (.cst (.d (.bool true))) (.tmp 111),none⟩,
 ⟨some 113,.mov (.tmp 112),none⟩,
 ⟨some 114,.mov (.tmp 3),some (113,false)⟩,
 ⟨some 115,.cmp .neq (.tmp 114) (.cst (.d (.int .i64 8))),some (113,false)⟩,
 ⟨some 116,.pick (.tmp 113) (.cst (.d (.bool true))) (.tmp 115),none⟩,
 ⟨some 117,.mov (.tmp 116),none⟩,
 ⟨some 118,.mov (.tmp 5),some (117,false)⟩,
 ⟨some 119,.bsl 5 3 1 5 [(.int .i64 0),(.int .i64 0),(.int .i64 0),(.int .i64 0),(.int .i64 0)] [(0,(.cst (.d (.int .i64 0)))),(1,(.cst (.d (.int .i64 3)))),(2,(.cst (.d (.int .i64 1)))),(3,(.cst (.d (.int .i64 8)))),(4,(.cst (.d (.int .i64 (-1)))))],some (117,false)⟩,
 ⟨some 120,.call 70 [(.tmp 118),(.tmp 119)],some (117,false)⟩,
 ⟨some 121,.not (.tmp 120),some (117,false)⟩,
 ⟨some 122,.pick (.tmp 117) (.cst (.d (.bool true))) (.tmp 121),none⟩,
 ⟨some 123,.mov (.tmp 122),none⟩,
 ⟨some 124,.ld true 3 (.tmp 9),some (123,false)⟩,
 ⟨some 125,.call 85 [(.tmp 124),(.cst (.d (.int .i64 1))),(.cst (.d (.int .i64 1))),(.cst (.d (.int .i64 4))),(.cst (.d (.int .i64 0)))],some (123,false)⟩,
 ⟨some 126,.not (.tmp 125),some (123,false)⟩,
 ⟨some 127,.pick (.tmp 123) (.cst (.d (.bool true))) (.tmp 126),none⟩,
 ⟨some 128,.mov (.tmp 127),none⟩,
 ⟨some 129,.ld true 3 (.tmp 9),some (128,false)⟩,
 ⟨some 130,.call 85 [(.tmp 129),(.cst (.d (.int .i64 2))),(.cst (.d (.int .i64 1))),(.cst (.d (.int .i64 1))),(.cst (.d (.int .i64 0)))],some (128,false)⟩,
 ⟨some 131,.not (.tmp 130),some (128,false)⟩,
 ⟨some 132,.pick (.tmp 128) (.cst (.d (.bool true))) (.tmp 131),none⟩,
 ⟨some 133,.mov (.tmp 132),none⟩,
 ⟨some 134,.ld true 3 (.tmp 9),some (133,false)⟩,
 ⟨some 135,.call 85 [(.tmp 134),(.cst (.d (.int .i64 3))),(.cst (.d (.int .i64 0))),(.cst (.d (.int .i64 0))),(.cst (.d (.int .i64 (-1))))],some (133,false)⟩,
 ⟨some 136,.not (.tmp 135),some (133,false)⟩,
 ⟨some 137,.pick (.tmp 133) (.cst (.d (.bool true))) (.tmp 136),none⟩,
 ⟨some 138,.mov (.tmp 137),none⟩,
 ⟨some 139,.mov (.tmp 12),some (138,false)⟩,
 ⟨some 140,.cmp .neq (.tmp 139) (.cst (.d (.int .i64 3))),some (138,false)⟩,
 ⟨some 141,.pick (.tmp 138) (.cst (.d (.bool true))) (.tmp 140),none⟩,
 ⟨some 142,.mov (.tmp 141),none⟩,
 ⟨some 143,.ld true 3 (.tmp 11),some (142,false)⟩,
 ⟨some 144,.call 85 [(.tmp 143),(.cst (.d (.int .i64 1))),(.cst (.d (.int .i64 1))),(.cst (.d (.int .i64 3))),(.cst (.d (.int .i64 2)))],some (142,false)⟩,
 ⟨some 145,.not (.tmp 144),some (142,false)⟩,
 ⟨some 146,.pick (.tmp 142) (.cst (.d (.bool true))) (.tmp 145),none⟩,
 ⟨some 147,.mov (.tmp 146),none⟩,
 ⟨some 148,.ld true 3 (.tmp 11),some (147,false)⟩,
 ⟨some 149,.call 85 [(.tmp 148),(.cst (.d (.int .i64 3))),(.cst (.d (.int .i64 1))),(.cst (.d (.int .i64 8))),(.cst (.d (.int .i64 1)))],some (147,false)⟩,
 ⟨some 150,.not (.tmp 149),some (147,false)⟩,
 ⟨some 151,.pick (.tmp 147) (.cst (.d (.bool true))) (.tmp 150),none⟩,
 ⟨some 152,.mov (.tmp 151),none⟩,
 ⟨some 153,.mov (.tmp 14),some (152,false)⟩,
 ⟨some 154,.bsl 6 3 1 4 [(.int .i64 0),(.int .i64 0),(.int .i64 0),(.int .i64 0)] [(0,(.cst (.d (.int .i64 3)))),(1,(.cst (.d (.int .i64 1)))),(2,(.cst (.d (.int .i64 2)))),(3,(.cst (.d (.int .i64 0))))],some (152,false)⟩,
 ⟨some 155,.call 70 [(.tmp 153),(.tmp 154)],some (152,false)⟩,
 ⟨some 156,.not (.tmp 155),some (152,false)⟩,
 ⟨some 157,.pick (.tmp 152) (.cst (.d (.bool true))) (.tmp 156),none⟩])
 (.cond (.tmp 157)
 (.seq
 (.reg [] [⟨some 0,.mov (.cst (.d (.bool false))),none⟩])
 .ret)
 .skip))
 (.seq
 (.regd [7,8] [⟨some 159,.call 84 [],none⟩,
 ⟨some 160,.ld true 3 (.tmp 11),none⟩,
 ⟨some 161,.call 60 [(.tmp 159),(.tmp 160),(.cst (.d (.int .i64 2)))],none⟩,
 ⟨some 158,.mov (.tmp 161),none⟩,
 ⟨some 162,.ext 0 (.tmp 158),none⟩,
 ⟨some 163,.ext 1 (.tmp 158),none⟩,
 ⟨some 164,.ext 2 (.tmp 158),none⟩,
 ⟨some 18,.alloc 7 [(.nils 1),(.nils 3)],none⟩,
 ⟨some 19,.alloc 8 [(.d (.int .i64 0)),(.d (.int .i64 0)),(.nils 3)],none⟩,
 ⟨none,.st 2 (.tmp 18) (.tmp 162),none⟩,
 ⟨none,.st 3 (.tmp 19) (.tmp 163),none⟩,
 ⟨some 20,.mov (.tmp 164),none⟩] [(0,1),(4,5),(4,6),(5,6),(0,7),(1,7),(2,7),(3,7),(4,7),(5,7),(6,7),(0,8),(1,8),(2,8),(3,8),(4,8),(5,8),(6,8),(7,8),(5,9),(6,9),(6,10)])
 (.seq
 (.reg [9] [⟨some 166,.ld true 2 (.tmp 18),none⟩,
 ⟨some 167,.ld true 3 (.tmp 19),none⟩,
 ⟨some 168,.call 32 [(.tmp 166),(.tmp 167)],none⟩,
 ⟨some 165,.mov (.tmp 168),none⟩,
 ⟨some 169,.ext 0 (.tmp 165),none⟩,
 ⟨some 170,.ext 1 (.tmp 165),none⟩,
 ⟨some 21,.alloc 9 [(.d (.int .i64 0)),(.d (.int .i64 0)),(.nils 3)],none⟩,
 ⟨none,.st 3 (.tmp 21) (.tmp 169),none⟩,
 ⟨some 22,.mov (.tmp 170),none⟩])
 (.seq
 (.reg [10] [⟨some 172,.ld true 2 (.tmp 18),none⟩,
 ⟨some 173,.ld true 3 (.tmp 21),none⟩,
 ⟨some 174,.call 53 [(.tmp 172),(.tmp 173),(.cst (.nils 2))],none⟩,
 ⟨some 171,.mov (.tmp 174),none⟩,
 ⟨some 175,.ext 0 (.tmp 171),none⟩,
 ⟨some 176,.ext 1 (.tmp 171),none⟩,
 ⟨some 23,.alloc 10 [(.d (.int .i64 0)),(.d (.int .i64 0)),(.nils 3)],none⟩,
 ⟨none,.st 3 (.tmp 23) (.tmp 175),none⟩,
 ⟨some 24,.mov (.tmp 176),none⟩])
 (.seq
 (.reg [11] [⟨some 178,.ld true 2 (.tmp 18),none⟩,
 ⟨some 179,.ld true 3 (.tmp 23),none⟩,
 ⟨some 180,.call 53 [(.tmp 178),(.tmp 179),(.cst (.nils 2))],none⟩,
 ⟨some 177,.mov (.tmp 180),none⟩,
 ⟨some 181,.ext 0 (.tmp 177),none⟩,
 ⟨some 182,.ext 1 (.tmp 177),none⟩,
 ⟨some 25,.alloc 11 [(.d (.int .i64 0)),(.d (.int .i64 0)),(.nils 3)],none⟩,
 ⟨none,.st 3 (.tmp 25) (.tmp 181),none⟩,
 ⟨some 26,.mov (.tmp 182),none⟩])
 (.seq
 (.regd [12] [⟨some 184,.call 84 [],none⟩,
 ⟨some 185,.ld true 3 (.tmp 11),none⟩,
 ⟨some 186,.call 62 [(.tmp 184),(.tmp 185),(.cst (.d (.int .i64 3)))],none⟩,
 ⟨some 183,.mov (.tmp 186),none⟩,
 ⟨some 187,.ext 0 (.tmp 183),none⟩,
 ⟨some 188,.ext 1 (.tmp 183),none⟩,
 ⟨some 27,.alloc 12 [(.d (.int .i64 0)),(.d (.int .i64 0)),(.nils 3)],none⟩,
 ⟨none,.st 3 (.tmp 27) (.tmp 187),none⟩,
 ⟨some 28,.mov (.tmp 188),none⟩] [(0,1),(4,5),(0,6),(1,6),(2,6),(3,6),(4,6),(5,6),(5,7)])
 (.seq
 (.regd [13] [⟨some 190,.call 84 [],none⟩,
 ⟨some 191,.ld true 3 (.tmp 27),none⟩,
 ⟨some 192,.call 53 [(.tmp 190),(.tmp 191),(.cst (.nils 2))],none⟩,
 ⟨some 189,.mov (.tmp 192),none⟩,
 ⟨some 193,.ext 0 (.tmp 189),none⟩,
 ⟨some 194,.ext 1 (.tmp 189),none⟩,
 ⟨some 29,.alloc 13 [(.d (.int .i64 0)),(.d (.int .i64 0)),(.nils 3)],none⟩,
 ⟨none,.st 3 (.tmp 29) (.tmp 193),none⟩,
 ⟨some 30,.mov (.tmp 194),none⟩] [(0,1),(4,5),(0,6),(1,6),(2,6),(3,6),(4,6),(5,6),(5,7)])
 (.seq
 (.reg [] [⟨some 196,.call 84 [],none⟩,
 ⟨some 197,.call 40 [(.tmp 196),(.cst (.d (.int .i64 3))),(.cst (.nils 2))],none⟩,
 ⟨some 195,.mov (.tmp 197),none⟩,
 ⟨some 198,.ext 0 (.tmp 195),none⟩,
 ⟨some 199,.ext 1 (.tmp 195),none⟩,
 ⟨some 200,.ext 2 (.tmp 195),none⟩,
 ⟨some 31,.mov (.tmp 198),none⟩,
 ⟨some 32,.mov (.tmp 199),none⟩,
 ⟨some 33,.mov (.tmp 200),none⟩])
 (.seq
 (.reg [14] [⟨some 202,.call 84 [],none⟩,
 ⟨some 203,.build [(.d (.int .i64 0)),(.d (.int .i64 0))] [(0,1,(.cst (.d (.int .i64 0)))),(1,1,(.cst (.d (.int .i64 1))))],none⟩,
 ⟨some 204,.bsl 14 76 2 1 [(.agg [(.int .i64 0),(.int .i64 0)])] [(0,(.tmp 203))],none⟩,
 ⟨some 205,.call 40 [(.tmp 202),(.cst (.d (.int .i64 3))),(.tmp 204)],none⟩,
 ⟨some 201,.mov (.tmp 205),none⟩,
 ⟨some 206,.ext 0 (.tmp 201),none⟩,
 ⟨some 207,.ext 1 (.tmp 201),none⟩,
 ⟨some 208,.ext 2 (.tmp 201),none⟩,
 ⟨some 34,.mov (.tmp 206),none⟩,
 ⟨some 35,.mov (.tmp 207),none⟩,
 ⟨some 36,.mov (.tmp 208),none⟩])
 (.seq
 (.reg [] [⟨some 210,.call 84 [],none⟩,
 ⟨some 211,.call 46 [(.tmp 210),(.cst (.d (.int .i64 0))),(.cst (.d (.int .i64 4)))],none⟩,
 ⟨some 209,.mov (.tmp 211),none⟩,
 ⟨some 212,.ext 0 (.tmp 209),none⟩,
 ⟨some 213,.ext 1 (.tmp 209),none⟩,
 ⟨some 37,.mov (.tmp 212),none⟩,
 ⟨some 38,.mov (.tmp 213),none⟩])
 (.seq
 (.reg [15] [⟨some 214,.call 84 [],none⟩,
 ⟨some 215,.bsl 15 3 1 1 [(.int .i64 0)] [(0,(.cst (.d (.int .i64 4))))],none⟩,
 ⟨some 216,.call 47 [(.tmp 214),(.cst (.d (.int .i64 4))),(.cst (.d (.int .i64 0))),(.tmp 215)],none⟩,
 ⟨some 39,.mov (.tmp 216),none⟩])
 (.seq
 (.reg [] [⟨some 218,.call 84 [],none⟩,
 ⟨some 219,.call 77 [(.tmp 218)],none⟩,
 ⟨some 217,.mov (.tmp 219),none⟩,
 ⟨some 220,.ext 0 (.tmp 217),none⟩,
 ⟨some 221,.ext 1 (.tmp 217),none⟩,
 ⟨some 40,.mov (.tmp 220),none⟩,
 ⟨some 41,.mov (.tmp 221),none⟩])
 (.seq
 (.reg [16,17] [⟨some 222,.build [(.d (.int .i64 0)),(.d (.int .i64 0)),(.d (.int .i64 0))] [(0,1,(.cst (.d (.int .i64 1))))],none⟩,
 ⟨some 223,.build [(.d (.int .i64 0)),(.d (.int .i64 0)),(.d (.int .i64 0))] [(0,1,(.cst (.d (.int .i64 1)))),(1,1,(.cst (.d (.int .i64 3)))),(2,1,(.cst (.d (.int .i64 2))))],none⟩,
 ⟨some 224,.build [(.d (.int .i64 0)),(.d (.int .i64 0)),(.d (.int .i64 0))] [(0,1,(.cst (.d (.int .i64 1)))),(1,1,(.cst (.d (.int .i64 5)))),(2,1,(.cst (.d (.int .i64 1))))],none⟩,
 ⟨some 225,.build [(.d (.int .i64 0)),(.d (.int .i64 0)),(.d (.int .i64 0))] [(2,1,(.cst (.d (.int .i64 (-1)))))],none⟩,
 ⟨some 226,.build [(.d (.int .i64 0)),(.d (.int .i64 0)),(.d (.int .i64 0))] [(2,1,(.cst (.d (.int .i64 (-1)))))],none⟩,
 ⟨some 227,.bsl 16 105 3 5 [(.agg [(.int .i64 0),(.int .i64 0),(.int .i64 0)]),(.agg [(.int .i64 0),(.int .i64 0),(.int .i64 0)]),(.agg [(.int .i64 0),(.int .i64 0),(.int .i64 0)]),(.agg [(.int .i64 0),(.int .i64 0),(.int .i64 0)]),(.agg [(.int .i64 0),(.int .i64 0),(.int .i64 0)])] [(0,(.tmp 222)),(1,(.tmp 223)),(2,(.tmp 224)),(3,(.tmp 225)),(4,(.tmp 226))],none⟩,
 ⟨some 228,.build [(.d (.int .i64 0)),(.d (.int .i64 0)),(.nils 3)] [(0,1,(.cst (.d (.int .i64 0)))),(1,1,(.cst (.d (.int .i64 1)))),(2,1,(.tmp 227))],none⟩,
 ⟨some 42,.alloc 17 [(.d (.int .i64 0)),(.d (.int .i64 0)),(.nils 3)],none⟩,
 ⟨none,.st 3 (.tmp 42) (.tmp 228),none⟩])
 (.seq
 (.regd [18,19,20] [⟨some 229,.mov (.tmp 20),none⟩,
 ⟨some 230,.mov (.tmp 22),none⟩,
 ⟨some 231,.arith .add .i64 (.tmp 229) (.tmp 230),none⟩,
 ⟨some 232,.mov (.tmp 24),none⟩,
 ⟨some 233,.arith .add .i64 (.tmp 231) (.tmp 232),none⟩,
 ⟨some 234,.mov (.tmp 26),none⟩,
 ⟨some 235,.arith .add .i64 (.tmp 233) (.tmp 234),none⟩,
 ⟨some 236,.mov (.tmp 28),none⟩,
 ⟨some 237,.arith .add .i64 (.tmp 235) (.tmp 236),none⟩,
 ⟨some 238,.mov (.tmp 30),none⟩,
 ⟨some 239,.arith .add .i64 (.tmp 237) (.tmp 238),none⟩,
 ⟨some 240,.mov (.tmp 33),none⟩,
 ⟨some 241,.arith .add .i64 (.tmp 239) (.tmp 240),none⟩,
 ⟨some 242,.mov (.tmp 36),none⟩,
 ⟨some 243,.arith .add .i64 (.tmp 241) (.tmp 242),none⟩,
 ⟨some 244,.mov (.tmp 38),none⟩,
 ⟨some 245,.arith .add .i64 (.tmp 243) (.tmp 244),none⟩,
 ⟨some 246,.mov (.tmp 39),none⟩,
 ⟨some 247,.arith .add .i64 (.tmp 245) (.tmp 246),none⟩,
 ⟨some 248,.mov (.tmp 41),none⟩,
 ⟨some 249,.arith .add .i64 (.tmp 247) (.tmp 248),none⟩,
 ⟨some 250,.cmp .eql (.tmp 249) (.cst (.d (.int .i64 0))),none⟩,
 ⟨some 251,.mov (.tmp 250),none⟩,
 ⟨some 252,.fad 1 (.tmp 18),some (251,true)⟩,
 ⟨some 253,.ld false 1 (.tmp 252),some (251,true)⟩,
 ⟨some 254,.len (.tmp 253),some (251,true)⟩,
 ⟨some 255,.cmp .eql (.tmp 254) (.cst (.d (.int .i64 3))),some (251,true)⟩,
 ⟨some 256,.pick (.tmp 251) (.tmp 255) (.cst (.d (.bool false))),none⟩,
 ⟨some 257,.mov (.tmp 256),none⟩,
 ⟨some 258,.ld true 3 (.tmp 19),some (257,true)⟩,
 ⟨some 259,.call 85 [(.tmp 258),(.cst (.d (.int .i64 1))),(.cst (.d (.int .i64 1))),(.cst (.d (.int .i64 3))),(.cst (.d (.int .i64 (-1))))],some (257,true)⟩,
 ⟨some 260,.pick (.tmp 257) (.tmp 259) (.cst (.d (.bool false))),none⟩,
 ⟨some 261,.mov (.tmp 260),none⟩,
 ⟨some 262,.ld true 3 (.tmp 25),some (261,true)⟩,
 ⟨some 263,.call 85 [(.tmp 262),(.cst (.d (.int .i64 1))),(.cst (.d (.int .i64 2))),(.cst (.d (.int .i64 4))),(.cst (.d (.int .i64 0)))],some (261,true)⟩,
 ⟨some 264,.pick (.tmp 261) (.tmp 263) (.cst (.d (.bool false))),none⟩,
 ⟨some 265,.mov (.tmp 264),none⟩,
 ⟨some 266,.ld true 3 (.tmp 25),some (265,true)⟩,
 ⟨some 267,.call 85 [(.tmp 266),(.cst (.d (.int .i64 3))),(.cst (.d (.int .i64 2))),(.cst (.d (.int .i64 9))),(.cst (.d (.int .i64 1)))],some (265,true)⟩,
 ⟨some 268,.pick (.tmp 265) (.tmp 267) (.cst (.d (.bool false))),none⟩,
 ⟨some 269,.mov (.tmp 268),none⟩,
 ⟨some 270,.ld true 3 (.tmp 27),some (269,true)⟩,
 ⟨some 271,.call 85 [(.tmp 270),(.cst (.d (.int .i64 3))),(.cst (.d (.int .i64 2))),(.cst (.d (.int .i64 0))),(.cst (.d (.int .i64 3)))],some (269,true)⟩,
 ⟨some 272,.pick (.tmp 269) (.tmp 271) (.cst (.d (.bool false))),none⟩,
 ⟨some 273,.mov (.tmp 272),none⟩,
 ⟨some 274,.ld true 3 (.tmp 27),some (273,true)⟩,
 ⟨some 275,.call 85 [(.tmp 274),(.cst (.d (.int .i64 0))),(.cst (.d (.int .i64 1))),(.cst (.d (.int .i64 0))),(.cst (.d (.int .i64 (-1))))],some (273,true)⟩,
 ⟨some 276,.pick (.tmp 273) (.tmp 275) (.cst (.d (.bool false))),none⟩,
 ⟨some 277,.mov (.tmp 276),none⟩,
 ⟨some 278,.ld true 3 (.tmp 29),some (277,true)⟩,
 ⟨some 279,.call 85 [(.tmp 278),(.cst (.d (.int .i64 1))),(.cst (.d (.int .i64 2))),(.cst (.d (.int .i64 5))),(.cst (.d (.int .i64 3)))],some (277,true)⟩,
 ⟨some 280,.pick (.tmp 277) (.tmp 279) (.cst (.d (.bool false))),none⟩,
 ⟨some 281,.mov (.tmp 280),none⟩,
 ⟨some 282,.mov (.tmp 31),some (281,true)⟩,
 ⟨some 283,.bsl 18 3 1 5 [(.int .i64 0),(.int .i64 0),(.int .i64 0),(.int .i64 0),(.int .i64 0)] [(0,(.cst (.d (.int .i64 2)))),(1,(.cst (.d (.int .i64 1)))),(2,(.cst (.d (.int .i64 2)))),(3,(.cst (.d (.int .i64 0)))),(4,(.cst (.d (.int .i64 (-1)))))],some (281,true)⟩,
 ⟨some 284,.call 70 [(.tmp 282),(.tmp 283)],some (281,true)⟩,
 ⟨some 285,.pick (.tmp 281) (.tmp 284) (.cst (.d (.bool false))),none⟩,
 ⟨some 286,.mov (.tmp 285),none⟩,
 ⟨some 287,.mov (.tmp 32),some (286,true)⟩,
 ⟨some 288,.cmp .eql (.tmp 287) (.cst (.d (.int .i64 4))),some (286,true)⟩,
 ⟨some 289,.pick (.tmp 286) (.tmp 288) (.cst (.d (.bool false))),none⟩,
 ⟨some 290,.mov (.tmp 289),none⟩,
 ⟨some 291,.mov (.tmp 34),some (290,true)⟩,
 ⟨some 292,.bsl 19 3 1 5 [(.int .i64 0),(.int .i64 0),(.int .i64 0),(.int .i64 0),(.int .i64 0)] [(0,(.cst (.d (.int .i64 3)))),(1,(.cst (.d (.int .i64 1)))),(2,(.cst (.d (.int .i64 2)))),(3,(.cst (.d (.int .i64 0)))),(4,(.cst (.d (.int .i64 (-1)))))],some (290,true)⟩,
 ⟨some 293,.call 70 [(.tmp 291),(.tmp 292)],some (290,true)⟩,
 ⟨some 294,.pick (.tmp 290) (.tmp 293) (.cst (.d (.bool false))),none⟩,
 ⟨some 295,.mov (.tmp 294),none⟩,
 ⟨some 296,.mov (.tmp 37),some (295,true)⟩,
 ⟨some 297,.bsl 20 3 1 4 [(.int .i64 0),(.int .i64 0),(.int .i64 0),(.int .i64 0)] [(0,(.cst (.d (.int .i64 0)))),(1,(.cst (.d (.int .i64 1)))),(2,(.cst (.d (.int .i64 2)))),(3,(.cst (.d (.int .i64 3))))],some (295,true)⟩,
 ⟨some 298,.call 70 [(.tmp 296),(.tmp 297)],some (295,true)⟩,
 ⟨some 299,.pick (.tmp 295) (.tmp 298) (.cst (.d (.bool false))),none⟩,
 ⟨some 300,.mov (.tmp 299),none⟩,
 ⟨some 301,.mov (.tmp 40),some (300,true)⟩,
 ⟨some 302,.seq false (.tmp 301) (.cst (.d (.str [110,111,100,101,32,99,10,110,111,100,101,32,97,10,110,111,100,101,32,98,10,110,111,100,101,32,100,10,110,111,100,101,32,101,10,108,105,110,107,32,48,32,49,32,52,10,108,105,110,107,32,48,32,50,32,49,10,108,105,110,107,32,49,32,50,32,50,10,108,105,110,107,32,49,32,51,32,53,10]))),some (300,true)⟩,
 ⟨some 303,.pick (.tmp 300) (.tmp 302) (.cst (.d (.bool false))),none⟩,
 ⟨some 304,.mov (.tmp 303),none⟩,
 ⟨some 305,.call 84 [],some (304,true)⟩,
 ⟨some 306,.ld true 3 (.tmp 42),some (304,true)⟩,
 ⟨some 307,.call 37 [(.tmp 305),(.tmp 306)],some (304,true)⟩,
 ⟨some 308,.cmp .eql (.tmp 307) (.cst (.d (.int .i64 33))),some (304,true)⟩,
 ⟨some 309,.pick (.tmp 304) (.tmp 308) (.cst (.d (.bool false))),none⟩,
 ⟨some 0,.mov (.tmp 309),none⟩] [(0,1),(0,3),(1,3),(2,3),(0,5),(1,5),(2,5),(3,5),(4,5),(0,7),(1,7),(2,7),(3,7),(4,7),(5,7),(6,7),(0,9),(1,9),(2,9),(3,9),(4,9),(5,9),(6,9),(7,9),(8,9),(0,11),(1,11),(2,11),(3,11),(4,11),(5,11),(6,11),(7,11),(8,11),(9,11),(10,11),(0,13),(1,13),(2,13),(3,13),(4,13),(5,13),(6,13),(7,13),(8,13),(9,13),(10,13),(11,13),(12,13),(0,15),(1,15),(2,15),(3,15),(4,15),(5,15),(6,15),(7,15),(8,15),(9,15),(10,15),(11,15),(12,15),(13,15),(14,15),(0,17),(1,17),(2,17),(3,17),(4,17),(5,17),(6,17),(7,17),(8,17),(9,17),(10,17),(11,17),(12,17),(13,17),(14,17),(15,17),(16,17),(0,19),(1,19),(2,19),(3,19),(4,19),(5,19),(6,19),(7,19),(8,19),(9,19),(10,19),(11,19),(12,19),(13,19),(14,19),(15,19),(16,19),(17,19),(18,19),(53,54),(62,63),(67,68),(76,77)])
 .ret)))))))))))))))))))))))⟩
def tx17:AFun:=⟨20,42,[.tmp 4,.tmp 5],
 (.seq
 (.reg [0] [⟨some 2,.cbx 0 2 (.tmp 0),none⟩,
 ⟨some 4,.mov (.cst (.nils 1)),none⟩,
 ⟨some 5,.mov (.cst (.d (.int .i64 0))),none⟩])
 (.seq
 (.seq
 (.regd [1] [⟨some 7,.ld true 2 (.tmp 2),none⟩,
 ⟨some 8,.call 27 [(.tmp 7)],none⟩,
 ⟨some 9,.ld true 2 (.tmp 2),none⟩,
 ⟨some 10,.mov (.tmp 1),none⟩,
 ⟨some 11,.call 87 [(.tmp 9),(.tmp 10)],none⟩,
 ⟨some 12,.bsl 1 29 1 2 [(.int .i64 0),(.int .i64 0)] [(0,(.tmp 8)),(1,(.tmp 11))],none⟩,
 ⟨some 13,.call 86 [(.tmp 12)],none⟩,
 ⟨some 6,.mov (.tmp 13),none⟩] [(0,2),(1,2),(0,3),(1,3),(2,3)])
 (.seq
 (.reg [] [⟨some 14,.mov (.tmp 6),none⟩,
 ⟨some 15,.cmp .neq (.tmp 14) (.cst (.d (.int .i64 0))),none⟩])
 (.cond (.tmp 15)
 (.seq
 (.reg [] [⟨some 16,.mov (.tmp 6),none⟩,
 ⟨some 4,.mov (.cst (.nils 1)),none⟩,
 ⟨some 5,.mov (.tmp 16),none⟩])
 .ret)
 .skip)))
 (.seq
 (.reg [] [⟨some 17,.ld true 2 (.tmp 2),none⟩,
 ⟨some 18,.mov (.tmp 1),none⟩,
 ⟨some 19,.calli 88 [(.tmp 17),(.tmp 18)],none⟩,
 ⟨some 4,.mov (.tmp 19),none⟩,
 ⟨some 5,.mov (.cst (.d (.int .i64 0))),none⟩])
 .ret)))⟩
def tx19:AFun:={ ir19 with heap:=42 }
def tx21:AFun:={ ir21 with heap:=42 }
def tx27:AFun:={ ir27 with heap:=44 }
def tx32:AFun:={ ir32 with heap:=45 }
def tx46:AFun:=⟨24,41,[.tmp 6,.tmp 7],
 (.seq
 (.reg [0] [⟨some 3,.cbx 0 2 (.tmp 0),none⟩,
 ⟨some 6,.mov (.cst (.nils 1)),none⟩,
 ⟨some 7,.mov (.cst (.d (.int .i64 0))),none⟩])
 (.seq
 (.seq
 (.reg [] [⟨some 10,.ld true 2 (.tmp 3),none⟩,
 ⟨some 11,.mov (.tmp 1),none⟩,
 ⟨some 12,.mov (.tmp 2),none⟩,
 ⟨some 13,.call 112 [(.tmp 10),(.tmp 11),(.tmp 12)],none⟩,
 ⟨some 8,.mov (.tmp 13),none⟩])
 (.seq
 (.reg [] [⟨some 14,.mov (.tmp 8),none⟩,
 ⟨some 15,.cmp .neq (.tmp 14) (.cst (.d (.int .i64 0))),none⟩])
 (.cond (.tmp 15)
 (.seq
 (.reg [] [⟨some 16,.mov (.tmp 8),none⟩,
 ⟨some 6,.mov (.cst (.nils 1)),none⟩,
 ⟨some 7,.mov (.tmp 16),none⟩])
 .ret)
 .skip)))
 (.seq
 (.reg [] [⟨some 17,.ld true 2 (.tmp 3),none⟩,
 ⟨some 18,.mov (.tmp 1),none⟩,
 ⟨some 19,.calli 111 [(.tmp 17),(.tmp 18)],none⟩,
 ⟨some 9,.mov (.tmp 19),none⟩])
 (.seq
 (.seq
 (.reg [] [⟨some 20,.mov (.tmp 9),none⟩,
 ⟨some 21,.mov (.tmp 2),none⟩,
 ⟨some 22,.call 113 [(.tmp 20),(.tmp 21)],none⟩])
 (.cond (.tmp 22)
 (.seq
 (.reg [] [⟨some 6,.mov (.cst (.nils 1)),none⟩,
 ⟨some 7,.mov (.cst (.d (.int .i64 21))),none⟩])
 .ret)
 .skip))
 (.seq
 (.reg [] [⟨some 23,.mov (.tmp 9),none⟩,
 ⟨some 6,.mov (.tmp 23),none⟩,
 ⟨some 7,.mov (.cst (.d (.int .i64 0))),none⟩])
 .ret)))))⟩
def tx47:AFun:={ ir47 with heap:=45 }
def tx53:AFun:={ ir53 with heap:=44 }
def tx54:AFun:=⟨38,46,[.cell 4 3 true,.tmp 5,.tmp 6],
 (.seq
 (.reg [0,1,2] [⟨some 2,.cbx 0 2 (.tmp 0),none⟩,
 ⟨some 3,.cbx 1 3 (.tmp 1),none⟩,
 ⟨some 4,.alloc 2 [(.d (.int .i64 0)),(.d (.int .i64 0)),(.nils 3)],none⟩,
 ⟨some 5,.mov (.cst (.d (.int .i64 0))),none⟩,
 ⟨some 6,.mov (.cst (.d (.int .i64 0))),none⟩])
 (.seq
 (.seq
 (.reg [] [⟨some 11,.ld true 2 (.tmp 2),none⟩,
 ⟨some 12,.ld true 3 (.tmp 3),none⟩,
 ⟨some 13,.call 37 [(.tmp 11),(.tmp 12)],none⟩,
 ⟨some 7,.mov (.tmp 13),none⟩])
 (.seq
 (.reg [] [⟨some 14,.mov (.tmp 7),none⟩,
 ⟨some 15,.cmp .neq (.tmp 14) (.cst (.d (.int .i64 0))),none⟩])
 (.cond (.tmp 15)
 (.seq
 (.reg [] [⟨some 16,.build [(.d (.int .i64 0)),(.d (.int .i64 0)),(.nils 3)] [],none⟩,
 ⟨some 17,.mov (.tmp 7),none⟩,
 ⟨none,.st 3 (.tmp 4) (.tmp 16),none⟩,
 ⟨some 5,.mov (.cst (.d (.int .i64 0))),none⟩,
 ⟨some 6,.mov (.tmp 17),none⟩])
 .ret)
 .skip)))
 (.seq
 (.reg [3] [⟨some 18,.ld true 3 (.tmp 3),none⟩,
 ⟨some 19,.calli 99 [(.tmp 18)],none⟩,
 ⟨some 8,.alloc 3 [(.d (.int .i64 0)),(.d (.int .i64 0)),(.nils 3)],none⟩,
 ⟨none,.st 3 (.tmp 8) (.tmp 19),none⟩,
 ⟨some 9,.mov (.cst (.d (.int .i64 0))),none⟩])
 (.seq
 (.seq
 (.reg [4] [⟨some 20,.ld true 3 (.tmp 8),none⟩,
 ⟨some 21,.ld true 2 (.tmp 2),none⟩,
 ⟨some 22,.call 119 [(.tmp 20),(.tmp 21),(.cst (.nils 2))],none⟩,
 ⟨some 10,.alloc 4 [(.d (.int .i64 0)),(.d (.int .i64 0)),(.nils 3)],none⟩,
 ⟨none,.st 3 (.tmp 10) (.tmp 22),none⟩])
 (.post [4,8,9] [0,1,2,3,4,5]
 (.block 0
 (.keep [2,4,8,9,10] [0,1,2,3,4]
 (.loop
 (.post [2,4,8,9,10] [5]
 (.seq
 (.seq
 (.reg [] [⟨some 23,.fad 2 (.tmp 10),none⟩,
 ⟨some 24,.ld false 1 (.tmp 23),none⟩,
 ⟨some 25,.fad 2 (.tmp 8),none⟩,
 ⟨some 26,.ld false 1 (.tmp 25),none⟩,
 ⟨some 27,.call 120 [(.tmp 24),(.tmp 26)],none⟩,
 ⟨some 28,.not (.tmp 27),none⟩])
 (.cond (.tmp 28)
 .skip
 (.exit 0)))
 (.seq
 (.block 1
 (.seq
 (.reg [] [⟨some 32,.ld true 3 (.tmp 10),none⟩,
 ⟨none,.st 3 (.tmp 8) (.tmp 32),none⟩])
 (.reg [] [⟨some 33,.mov (.tmp 9),none⟩,
 ⟨some 34,.arith .add .i64 (.tmp 33) (.cst (.d (.int .i64 1))),none⟩,
 ⟨some 9,.mov (.tmp 34),none⟩])))
 (.seq
 (.seq
 (.reg [] [⟨some 35,.ld true 3 (.tmp 10),none⟩])
 (.keep [2,4,8,9,35] [4,5] (.reg [5] [⟨some 10,.alloc 5 [(.d (.int .i64 0)),(.d (.int .i64 0)),(.nils 3)],none⟩,
 ⟨none,.st 3 (.tmp 10) (.tmp 35),none⟩])))
 (.reg [] [⟨some 29,.ld true 3 (.tmp 8),none⟩,
 ⟨some 30,.ld true 2 (.tmp 2),none⟩,
 ⟨some 31,.call 119 [(.tmp 29),(.tmp 30),(.cst (.nils 2))],none⟩,
 ⟨none,.st 3 (.tmp 10) (.tmp 31),none⟩]))))))))))
 (.seq
 (.reg [] [⟨some 36,.ld true 3 (.tmp 8),none⟩,
 ⟨some 37,.mov (.tmp 9),none⟩,
 ⟨none,.st 3 (.tmp 4) (.tmp 36),none⟩,
 ⟨some 5,.mov (.tmp 37),none⟩,
 ⟨some 6,.mov (.cst (.d (.int .i64 0))),none⟩])
 .ret)))))⟩
def tx62:AFun:={ ir62 with heap:=45 }
def tx63:AFun:=⟨31,43,[.tmp 6,.tmp 7],
 (.seq
 (.reg [0,1] [⟨some 3,.cbx 0 2 (.tmp 0),none⟩,
 ⟨some 4,.cbx 1 3 (.tmp 1),none⟩,
 ⟨some 6,.mov (.cst (.nils 1)),none⟩,
 ⟨some 7,.mov (.cst (.d (.int .i64 0))),none⟩])
 (.seq
 (.seq
 (.regd [2] [⟨some 11,.ld true 2 (.tmp 3),none⟩,
 ⟨some 12,.ld true 3 (.tmp 4),none⟩,
 ⟨some 13,.call 37 [(.tmp 11),(.tmp 12)],none⟩,
 ⟨some 14,.ld true 2 (.tmp 3),none⟩,
 ⟨some 15,.mov (.tmp 2),none⟩,
 ⟨some 16,.call 87 [(.tmp 14),(.tmp 15)],none⟩,
 ⟨some 17,.bsl 2 29 1 2 [(.int .i64 0),(.int .i64 0)] [(0,(.tmp 13)),(1,(.tmp 16))],none⟩,
 ⟨some 18,.call 86 [(.tmp 17)],none⟩,
 ⟨some 8,.mov (.tmp 18),none⟩] [(0,1),(0,3),(1,3),(2,3),(0,4),(1,4),(2,4),(3,4)])
 (.seq
 (.reg [] [⟨some 19,.mov (.tmp 8),none⟩,
 ⟨some 20,.cmp .neq (.tmp 19) (.cst (.d (.int .i64 0))),none⟩])
 (.cond (.tmp 20)
 (.seq
 (.reg [] [⟨some 21,.mov (.tmp 8),none⟩,
 ⟨some 6,.mov (.cst (.nils 1)),none⟩,
 ⟨some 7,.mov (.tmp 21),none⟩])
 .ret)
 .skip)))
 (.seq
 (.reg [] [⟨some 23,.ld true 3 (.tmp 4),none⟩,
 ⟨some 24,.mov (.tmp 2),none⟩,
 ⟨some 25,.calli 127 [(.tmp 23),(.tmp 24)],none⟩,
 ⟨some 22,.mov (.tmp 25),none⟩,
 ⟨some 26,.ext 0 (.tmp 22),none⟩,
 ⟨some 27,.ext 1 (.tmp 22),none⟩,
 ⟨some 9,.mov (.tmp 26),none⟩,
 ⟨some 10,.mov (.tmp 27),none⟩])
 (.seq
 (.seq
 (.reg [] [⟨some 28,.mov (.tmp 10),none⟩,
 ⟨some 29,.not (.tmp 28),none⟩])
 (.cond (.tmp 29)
 (.seq
 (.reg [] [⟨some 6,.mov (.cst (.nils 1)),none⟩,
 ⟨some 7,.mov (.cst (.d (.int .i64 7))),none⟩])
 .ret)
 .skip))
 (.seq
 (.reg [] [⟨some 30,.mov (.tmp 9),none⟩,
 ⟨some 6,.mov (.tmp 30),none⟩,
 ⟨some 7,.mov (.cst (.d (.int .i64 0))),none⟩])
 .ret)))))⟩
def tx70:AFun:={ ir70 with heap:=40 }
def tx84:AFun:=⟨8,43,[.cell 0 2 true],
 (.seq
 (.reg [0] [⟨some 0,.alloc 0 [(.nils 1),(.nils 3)],none⟩])
 (.seq
 (.reg [1,2] [⟨some 1,.bsl 1 9 1 5 [(.str []),(.str []),(.str []),(.str []),(.str [])] [(0,(.cst (.d (.str [99])))),(1,(.cst (.d (.str [97])))),(2,(.cst (.d (.str [98])))),(3,(.cst (.d (.str [100])))),(4,(.cst (.d (.str [101]))))],none⟩,
 ⟨some 2,.build [(.d (.int .i64 0)),(.d (.int .i64 0)),(.d (.int .i64 0))] [(0,1,(.cst (.d (.int .i64 0)))),(1,1,(.cst (.d (.int .i64 1)))),(2,1,(.cst (.d (.int .i64 4))))],none⟩,
 ⟨some 3,.build [(.d (.int .i64 0)),(.d (.int .i64 0)),(.d (.int .i64 0))] [(0,1,(.cst (.d (.int .i64 0)))),(1,1,(.cst (.d (.int .i64 2)))),(2,1,(.cst (.d (.int .i64 1))))],none⟩,
 ⟨some 4,.build [(.d (.int .i64 0)),(.d (.int .i64 0)),(.d (.int .i64 0))] [(0,1,(.cst (.d (.int .i64 1)))),(1,1,(.cst (.d (.int .i64 2)))),(2,1,(.cst (.d (.int .i64 2))))],none⟩,
 ⟨some 5,.build [(.d (.int .i64 0)),(.d (.int .i64 0)),(.d (.int .i64 0))] [(0,1,(.cst (.d (.int .i64 1)))),(1,1,(.cst (.d (.int .i64 3)))),(2,1,(.cst (.d (.int .i64 5))))],none⟩,
 ⟨some 6,.bsl 2 117 3 4 [(.agg [(.int .i64 0),(.int .i64 0),(.int .i64 0)]),(.agg [(.int .i64 0),(.int .i64 0),(.int .i64 0)]),(.agg [(.int .i64 0),(.int .i64 0),(.int .i64 0)]),(.agg [(.int .i64 0),(.int .i64 0),(.int .i64 0)])] [(0,(.tmp 2)),(1,(.tmp 3)),(2,(.tmp 4)),(3,(.tmp 5))],none⟩,
 ⟨some 7,.build [(.nils 1),(.nils 3)] [(0,1,(.tmp 1)),(1,1,(.tmp 6))],none⟩,
 ⟨none,.st 2 (.tmp 0) (.tmp 7),none⟩])
 .ret))⟩
def tx85:AFun:=⟨28,41,[.tmp 10],
 (.seq
 (.reg [0] [⟨some 5,.cbx 0 3 (.tmp 0),none⟩,
 ⟨some 10,.mov (.cst (.d (.bool false))),none⟩])
 (.seq
 (.reg [] [⟨some 11,.mov (.tmp 1),none⟩,
 ⟨some 12,.fad 2 (.tmp 5),none⟩,
 ⟨some 13,.ld false 1 (.tmp 12),none⟩,
 ⟨some 14,.len (.tmp 13),none⟩,
 ⟨some 15,.cmp .lss (.tmp 11) (.tmp 14),none⟩,
 ⟨some 16,.mov (.tmp 15),none⟩,
 ⟨some 17,.fad 2 (.tmp 5),some (16,true)⟩,
 ⟨some 18,.ld false 1 (.tmp 17),some (16,true)⟩,
 ⟨some 19,.mov (.tmp 1),some (16,true)⟩,
 ⟨some 20,.ixa 3 (.tmp 18) (.tmp 19),some (16,true)⟩,
 ⟨some 21,.ld true 3 (.tmp 20),some (16,true)⟩,
 ⟨some 22,.mov (.tmp 2),some (16,true)⟩,
 ⟨some 23,.mov (.tmp 3),some (16,true)⟩,
 ⟨some 24,.mov (.tmp 4),some (16,true)⟩,
 ⟨some 25,.build [(.d (.int .i64 0)),(.d (.int .i64 0)),(.d (.int .i64 0))] [(0,1,(.tmp 22)),(1,1,(.tmp 23)),(2,1,(.tmp 24))],some (16,true)⟩,
 ⟨some 26,.aeq false [0,0,0] (.tmp 21) (.tmp 25),some (16,true)⟩,
 ⟨some 27,.pick (.tmp 16) (.tmp 26) (.cst (.d (.bool false))),none⟩,
 ⟨some 10,.mov (.tmp 27),none⟩])
 .ret))⟩
def tx86:AFun:={ ir86 with heap:=40 }
def tx87:AFun:={ ir87 with heap:=41 }
def tx88:AFun:={ ir88 with heap:=43 }
def tx89:AFun:={ ir89 with heap:=40 }
def tx90:AFun:={ ir90 with heap:=42 }
def tx91:AFun:={ ir91 with heap:=42 }
def tx96:AFun:={ ir96 with heap:=41 }
def tx97:AFun:={ ir97 with heap:=43 }
def tx99:AFun:={ ir99 with heap:=43 }
def tx104:AFun:={ ir104 with heap:=40 }
def tx107:AFun:={ ir107 with heap:=41 }
def tx109:AFun:={ ir109 with heap:=41 }
def tx111:AFun:={ ir111 with heap:=43 }
def tx112:AFun:={ ir112 with heap:=42 }
def tx113:AFun:={ ir113 with heap:=40 }
def tx114:AFun:={ ir114 with heap:=40 }
def tx115:AFun:={ ir115 with heap:=40 }
def tx116:AFun:={ ir116 with heap:=41 }
def tx117:AFun:={ ir117 with heap:=42 }
def tx118:AFun:={ ir118 with heap:=45 }
def tx119:AFun:=⟨44,44,[.cell 6 3 true],
 (.seq
 (.reg [0,1,2] [⟨some 3,.cbx 0 3 (.tmp 0),none⟩,
 ⟨some 4,.cbx 1 2 (.tmp 1),none⟩,
 ⟨some 6,.alloc 2 [(.d (.int .i64 0)),(.d (.int .i64 0)),(.nils 3)],none⟩])
 (.seq
 (.reg [3] [⟨some 11,.ld true 3 (.tmp 3),none⟩,
 ⟨some 12,.calli 99 [(.tmp 11)],none⟩,
 ⟨some 7,.alloc 3 [(.d (.int .i64 0)),(.d (.int .i64 0)),(.nils 3)],none⟩,
 ⟨none,.st 3 (.tmp 7) (.tmp 12),none⟩])
 (.seq
 (.seq
 (.reg [] [⟨some 13,.fad 2 (.tmp 7),none⟩,
 ⟨some 14,.ld false 1 (.tmp 13),none⟩,
 ⟨some 15,.len (.tmp 14),none⟩,
 ⟨some 16,.mov (.cst (.d (.int .i64 0))),none⟩])
 (.post [6,7] [0,1,2,3]
 (.block 0
 (.keep [2,3,4,6,7,15,16] [0,1,2,3]
 (.loop
 (.post [2,3,4,6,7,15,16] []
 (.seq
 (.reg [] [⟨some 17,.cmp .lss (.tmp 16) (.tmp 15),none⟩])
 (.seq
 (.cond (.tmp 17)
 .skip
 (.exit 0))
 (.seq
 (.block 1
 (.seq
 (.reg [] [⟨some 18,.mov (.tmp 16),none⟩,
 ⟨some 8,.mov (.tmp 18),none⟩])
 (.seq
 (.reg [] [⟨some 19,.ld true 2 (.tmp 4),none⟩,
 ⟨some 20,.mov (.tmp 8),none⟩,
 ⟨some 21,.call 88 [(.tmp 19),(.tmp 20)],none⟩,
 ⟨some 22,.len (.tmp 21),none⟩,
 ⟨some 23,.mov (.cst (.d (.int .i64 0))),none⟩])
 (.post [2,3,4,6,7,15,16] [0,1,2,3]
 (.block 2
 (.keep [2,3,4,6,7,8,15,16,21,22,23] [0,1,2,3]
 (.loop
 (.post [2,3,4,6,7,8,15,16,21,22,23] []
 (.seq
 (.reg [] [⟨some 24,.cmp .lss (.tmp 23) (.tmp 22),none⟩])
 (.seq
 (.cond (.tmp 24)
 .skip
 (.exit 2))
 (.seq
 (.block 3
 (.seq
 (.reg [] [⟨some 25,.ixa 1 (.tmp 21) (.tmp 23),none⟩,
 ⟨some 26,.ld false 1 (.tmp 25),none⟩,
 ⟨some 10,.mov (.tmp 26),none⟩])
 (.seq
 (.reg [] [⟨some 27,.mov (.tmp 2),none⟩,
 ⟨some 28,.mov (.tmp 8),none⟩,
 ⟨some 29,.mov (.tmp 10),none⟩,
 ⟨some 30,.build [(.d (.int .i64 0)),(.d (.int .i64 0))] [(0,1,(.tmp 28)),(1,1,(.tmp 29))],none⟩,
 ⟨some 31,.call 109 [(.tmp 27),(.tmp 30)],none⟩,
 ⟨some 32,.not (.tmp 31),none⟩])
 (.cond (.tmp 32)
 (.regd [] [⟨some 33,.ld true 3 (.tmp 7),none⟩,
 ⟨some 34,.mov (.tmp 8),none⟩,
 ⟨some 35,.ld true 3 (.tmp 3),none⟩,
 ⟨some 36,.ld true 2 (.tmp 4),none⟩,
 ⟨some 37,.mov (.tmp 10),none⟩,
 ⟨some 38,.mov (.tmp 8),none⟩,
 ⟨some 39,.call 118 [(.tmp 35),(.tmp 36),(.tmp 37),(.tmp 38)],none⟩,
 ⟨some 40,.calli 117 [(.tmp 33),(.tmp 34),(.tmp 39)],none⟩] [(0,1),(0,2),(1,2),(0,3),(1,3),(2,3),(0,4),(1,4),(2,4),(3,4),(0,5),(1,5),(2,5),(3,5),(4,5),(0,6),(1,6)])
 .skip))))
 (.reg [] [⟨some 41,.arith .add .i64 (.tmp 23) (.cst (.d (.int .i64 1))),none⟩,
 ⟨some 23,.mov (.tmp 41),none⟩]))))))))))))
 (.reg [] [⟨some 42,.arith .add .i64 (.tmp 16) (.cst (.d (.int .i64 1))),none⟩,
 ⟨some 16,.mov (.tmp 42),none⟩]))))))))))
 (.seq
 (.reg [] [⟨some 43,.ld true 3 (.tmp 7),none⟩,
 ⟨none,.st 3 (.tmp 6) (.tmp 43),none⟩])
 .ret))))⟩
def tx120:AFun:={ ir120 with heap:=40 }
def tx123:AFun:={ ir123 with heap:=42 }
def tx127:AFun:=⟨25,41,[.tmp 4,.tmp 5],
 (.seq
 (.reg [0] [⟨some 2,.cbx 0 3 (.tmp 0),none⟩,
 ⟨some 4,.mov (.cst (.nils 1)),none⟩,
 ⟨some 5,.mov (.cst (.d (.bool false))),none⟩])
 (.seq
 (.reg [] [⟨some 8,.fad 2 (.tmp 2),none⟩,
 ⟨some 9,.ld false 1 (.tmp 8),none⟩,
 ⟨some 10,.call 151 [(.tmp 9),(.cst (.d (.fn (.func 152) [])))],none⟩,
 ⟨some 6,.mov (.tmp 10),none⟩])
 (.seq
 (.reg [] [⟨some 11,.mov (.tmp 6),none⟩,
 ⟨some 12,.mov (.tmp 1),none⟩,
 ⟨some 13,.call 154 [(.tmp 11),(.tmp 12)],none⟩,
 ⟨some 14,.calli 153 [(.tmp 13)],none⟩,
 ⟨some 7,.mov (.tmp 14),none⟩])
 (.seq
 (.regd [] [⟨some 15,.mov (.tmp 7),none⟩,
 ⟨some 16,.mov (.tmp 7),none⟩,
 ⟨some 17,.mov (.tmp 7),none⟩,
 ⟨some 18,.len (.tmp 17),none⟩,
 ⟨some 19,.arith .sub .i64 (.tmp 18) (.cst (.d (.int .i64 1))),none⟩,
 ⟨some 20,.ixa 1 (.tmp 16) (.tmp 19),none⟩,
 ⟨some 21,.ld false 1 (.tmp 20),none⟩,
 ⟨some 22,.fad 0 (.tmp 2),none⟩,
 ⟨some 23,.ld false 1 (.tmp 22),none⟩,
 ⟨some 24,.cmp .eql (.tmp 21) (.tmp 23),none⟩,
 ⟨some 4,.mov (.tmp 15),none⟩,
 ⟨some 5,.mov (.tmp 24),none⟩] [(0,1),(0,2),(1,2),(0,3),(1,3),(0,4),(1,4),(0,5),(0,6),(0,7),(1,7),(2,7),(3,7),(4,7),(5,7),(6,7),(0,8),(1,8),(2,8),(3,8),(4,8),(5,8),(6,8),(0,9),(1,10),(2,10),(3,10),(4,10),(5,10),(6,10),(7,10),(8,10),(9,10)])
 .ret))))⟩
def tx143:AFun:={ ir143 with heap:=41 }
def tx145:AFun:={ ir145 with heap:=43 }
def tx146:AFun:={ ir146 with heap:=42 }
def tx147:AFun:={ ir147 with heap:=41 }
def tx148:AFun:={ ir148 with heap:=40 }
def tx149:AFun:={ ir149 with heap:=40 }
def tx150:AFun:={ ir150 with heap:=42 }
def tx151:AFun:={ ir151 with heap:=43 }
def tx152:AFun:={ ir152 with heap:=41 }
def tx153:AFun:={ ir153 with heap:=40 }
def tx154:AFun:={ ir154 with heap:=42 }
def tx164:AFun:={ ir164 with heap:=44 }
def tx165:AFun:={ ir165 with heap:=40 }
def tab05:TabL:=[
(16,21,tx16),
(17,2,tx17),
(19,2,tx19),
(21,2,tx21),
(27,4,tx27),
(32,5,tx32),
(46,1,tx46),
(47,5,tx47),
(53,4,tx53),
(54,6,tx54),
(62,5,tx62),
(63,3,tx63),
(70,0,tx70),
(84,3,tx84),
(85,1,tx85),
(86,0,tx86),
(87,1,tx87),
(88,3,tx88),
(89,0,tx89),
(90,2,tx90),
(91,2,tx91),
(96,1,tx96),
(97,3,tx97),
(99,3,tx99),
(104,0,tx104),
(107,1,tx107),
(109,1,tx109),
(111,3,tx111),
(112,2,tx112),
(113,0,tx113),
(114,0,tx114),
(115,0,tx115),
(116,1,tx116),
(117,2,tx117),
(118,5,tx118),
(119,4,tx119),
(120,0,tx120),
(123,2,tx123),
(127,1,tx127),
(143,1,tx143),
(145,3,tx145),
(146,2,tx146),
(147,1,tx147),
(148,0,tx148),
(149,0,tx149),
(150,2,tx150),
(151,3,tx151),
(152,1,tx152),
(153,0,tx153),
(154,2,tx154),
(164,4,tx164),
(165,0,tx165)]
theorem tab05_chk:chkT Tryz.prog tab05=true:=by kernel_rfl
end Vc
