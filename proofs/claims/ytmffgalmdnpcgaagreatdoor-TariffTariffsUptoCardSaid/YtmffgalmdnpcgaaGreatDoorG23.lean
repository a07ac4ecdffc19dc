import Derived.Test.YtmffgalmdnpcgaaGreatDoorG11
import Derived.Test.YtmffgalmdnpcgaaGreatDoorG12
import Derived.Test.YtmffgalmdnpcgaaGreatDoorG13
import Derived.Test.YtmffgalmdnpcgaaGreatDoorG14
import Derived.Test.YtmffgalmdnpcgaaGreatDoorG15
import Derived.Test.YtmffgalmdnpcgaaGreatDoorG22
import Derived.Test.YtmffgalmdnpcgaaGreatDoorG09
import Derived.Test.YtmffgalmdnpcgaaGreatDoorG06
import Derived.Test.YtmffgalmdnpcgaaGreatDoorG08
set_option linter.unusedSectionVars false
set_option linter.unusedVariables false
set_option linter.unusedSimpArgs false
set_option maxRecDepth 100000
namespace Vc
open Go Go.Proofs
abbrev oo (d : Nat) (x : AOp) : AOper := ⟨some d, x, none⟩
abbrev ot (d : Nat) : Opd := .tmp d
def tx18:AFun:=⟨371,69,[.tmp 0],
 (.seq
 (.reg [] [oo 0 (.mov (.cst (.d (.bool false))))])
 (.seq
 (.reg [0] [oo 50 (.call 92 []),
 oo 51 (.call 33 [(ot 50),(.cst (.d (.int .i64 0)))]),
 oo 49 (.mov (ot 51)),
 oo 52 (.ext 0 (ot 49)),
 oo 53 (.ext 1 (ot 49)),
 oo 1 (.alloc 0 [(.d (.int .i64 0)),(.d (.int .i64 0)),(.d (.int .i64 0))]),
 ⟨none,.st 3 (ot 1) (ot 52),none⟩,
 oo 2 (.mov (ot 53))])
 (.seq
 (.reg [1] [oo 55 (.call 92 []),
 oo 56 (.call 33 [(ot 55),(.cst (.d (.int .i64 21600)))]),
 oo 54 (.mov (ot 56)),
 oo 57 (.ext 0 (ot 54)),
 oo 58 (.ext 1 (ot 54)),
 oo 3 (.alloc 1 [(.d (.int .i64 0)),(.d (.int .i64 0)),(.d (.int .i64 0))]),
 ⟨none,.st 3 (ot 3) (ot 57),none⟩,
 oo 4 (.mov (ot 58))])
 (.seq
 (.reg [2] [oo 60 (.call 92 []),
 oo 61 (.call 33 [(ot 60),(.cst (.d (.int .i64 432000)))]),
 oo 59 (.mov (ot 61)),
 oo 62 (.ext 0 (ot 59)),
 oo 63 (.ext 1 (ot 59)),
 oo 5 (.alloc 2 [(.d (.int .i64 0)),(.d (.int .i64 0)),(.d (.int .i64 0))]),
 ⟨none,.st 3 (ot 5) (ot 62),none⟩,
 oo 6 (.mov (ot 63))])
 (.seq
 (.reg [3] [oo 65 (.call 92 []),
 oo 66 (.call 33 [(ot 65),(.cst (.d (.int .i64 1728000)))]),
 oo 64 (.mov (ot 66)),
 oo 67 (.ext 0 (ot 64)),
 oo 68 (.ext 1 (ot 64)),
 oo 7 (.alloc 3 [(.d (.int .i64 0)),(.d (.int .i64 0)),(.d (.int .i64 0))]),
 ⟨none,.st 3 (ot 7) (ot 67),none⟩,
 oo 8 (.mov (ot 68))])
 (.seq
 (.reg [] [oo 70 (.call 92 []),
 oo 71 (.call 34 [(ot 70),(.cst (.d (.int .i64 0))),(.cst (.d (.int .i64 86400)))]),
 oo 69 (.mov (ot 71)),
 oo 72 (.ext 0 (ot 69)),
 oo 73 (.ext 1 (ot 69)),
 oo 9 (.mov (ot 72)),
 oo 10 (.mov (ot 73))])
 (.seq
 (.reg [] [oo 75 (.call 92 []),
 oo 76 (.call 34 [(ot 75),(.cst (.d (.int .i64 1641600))),(.cst (.d (.int .i64 1728001)))]),
 oo 74 (.mov (ot 76)),
 oo 77 (.ext 0 (ot 74)),
 oo 78 (.ext 1 (ot 74)),
 oo 11 (.mov (ot 77)),
 oo 12 (.mov (ot 78))])
 (.seq
 (.reg [4,5] [oo 80 (.call 92 []),
 oo 81 (.bsl 4 3 1 3 [(.int .i64 0),(.int .i64 0),(.int .i64 0)] [(0,(.cst (.d (.int .i64 4)))),(1,(.cst (.d (.int .i64 5)))),(2,(.cst (.d (.int .i64 3))))]),
 oo 82 (.call 93 [(ot 81)]),
 oo 83 (.call 47 [(ot 80),(ot 82),(.cst (.d (.int .i64 0)))]),
 oo 79 (.mov (ot 83)),
 oo 84 (.ext 0 (ot 79)),
 oo 85 (.ext 1 (ot 79)),
 oo 13 (.alloc 5 [(.d (.int .i64 0)),(.d (.int .i64 0)),(.d (.int .i64 0))]),
 ⟨none,.st 3 (ot 13) (ot 84),none⟩,
 oo 14 (.mov (ot 85))])
 (.seq
 (.reg [6,7] [oo 87 (.call 92 []),
 oo 88 (.bsl 6 3 1 3 [(.int .i64 0),(.int .i64 0),(.int .i64 0)] [(0,(.cst (.d (.int .i64 4)))),(1,(.cst (.d (.int .i64 5)))),(2,(.cst (.d (.int .i64 3))))]),
 oo 89 (.call 93 [(ot 88)]),
 oo 90 (.call 47 [(ot 87),(ot 89),(.cst (.d (.int .i64 8)))]),
 oo 86 (.mov (ot 90)),
 oo 91 (.ext 0 (ot 86)),
 oo 92 (.ext 1 (ot 86)),
 oo 15 (.alloc 7 [(.d (.int .i64 0)),(.d (.int .i64 0)),(.d (.int .i64 0))]),
 ⟨none,.st 3 (ot 15) (ot 91),none⟩,
 oo 16 (.mov (ot 92))])
 (.seq
 (.reg [8] [oo 94 (.call 92 []),
 oo 95 (.bsl 8 3 1 3 [(.int .i64 0),(.int .i64 0),(.int .i64 0)] [(0,(.cst (.d (.int .i64 4)))),(1,(.cst (.d (.int .i64 5)))),(2,(.cst (.d (.int .i64 3))))]),
 oo 96 (.call 93 [(ot 95)]),
 oo 97 (.call 49 [(ot 94),(ot 96),(.cst (.d (.int .i64 0)))]),
 oo 93 (.mov (ot 97)),
 oo 98 (.ext 0 (ot 93)),
 oo 99 (.ext 1 (ot 93)),
 oo 17 (.mov (ot 98)),
 oo 18 (.mov (ot 99))])
 (.seq
 (.reg [9,10] [oo 101 (.call 92 []),
 oo 102 (.bsl 9 3 1 3 [(.int .i64 0),(.int .i64 0),(.int .i64 0)] [(0,(.cst (.d (.int .i64 4)))),(1,(.cst (.d (.int .i64 5)))),(2,(.cst (.d (.int .i64 3))))]),
 oo 103 (.call 93 [(ot 102)]),
 oo 104 (.call 50 [(ot 101),(ot 103),(.cst (.d (.int .i64 0)))]),
 oo 100 (.mov (ot 104)),
 oo 105 (.ext 0 (ot 100)),
 oo 106 (.ext 1 (ot 100)),
 oo 19 (.alloc 10 [(.d (.int .i64 0)),(.d (.int .i64 0))]),
 ⟨none,.st 2 (ot 19) (ot 105),none⟩,
 oo 20 (.mov (ot 106))])
 (.seq
 (.seq
 (.reg [11,12,13] [oo 107 (.mov (ot 2)),
 oo 108 (.mov (ot 4)),
 oo 109 (.arith .add .i64 (ot 107) (ot 108)),
 oo 110 (.mov (ot 6)),
 oo 111 (.arith .add .i64 (ot 109) (ot 110)),
 oo 112 (.mov (ot 8)),
 oo 113 (.arith .add .i64 (ot 111) (ot 112)),
 oo 114 (.mov (ot 10)),
 oo 115 (.arith .add .i64 (ot 113) (ot 114)),
 oo 116 (.mov (ot 12)),
 oo 117 (.arith .add .i64 (ot 115) (ot 116)),
 oo 118 (.mov (ot 14)),
 oo 119 (.arith .add .i64 (ot 117) (ot 118)),
 oo 120 (.mov (ot 16)),
 oo 121 (.arith .add .i64 (ot 119) (ot 120)),
 oo 122 (.mov (ot 18)),
 oo 123 (.arith .add .i64 (ot 121) (ot 122)),
 oo 124 (.mov (ot 20)),
 oo 125 (.arith .add .i64 (ot 123) (ot 124)),
 oo 126 (.cmp .neq (ot 125) (.cst (.d (.int .i64 0)))),
 oo 127 (.mov (ot 126)),
 ⟨some 128,.ld true 3 (ot 1),some (127,false)⟩,
 ⟨some 129,.build [(.d (.int .i64 0)),(.d (.int .i64 0)),(.d (.int .i64 0))] [(1,1,(.cst (.d (.int .i64 1)))),(2,1,(.cst (.d (.int .i64 50))))],some (127,false)⟩,
 ⟨some 130,.aeq true [0,0,0] (ot 128) (ot 129),some (127,false)⟩,
 oo 131 (.pick (ot 127) (.cst (.d (.bool true))) (ot 130)),
 oo 132 (.mov (ot 131)),
 ⟨some 133,.ld true 3 (ot 3),some (132,false)⟩,
 ⟨some 134,.build [(.d (.int .i64 0)),(.d (.int .i64 0)),(.d (.int .i64 0))] [(2,1,(.cst (.d (.int .i64 100))))],some (132,false)⟩,
 ⟨some 135,.aeq true [0,0,0] (ot 133) (ot 134),some (132,false)⟩,
 oo 136 (.pick (ot 132) (.cst (.d (.bool true))) (ot 135)),
 oo 137 (.mov (ot 136)),
 ⟨some 138,.ld true 3 (ot 5),some (137,false)⟩,
 ⟨some 139,.build [(.d (.int .i64 0)),(.d (.int .i64 0)),(.d (.int .i64 0))] [(1,1,(.cst (.d (.int .i64 1)))),(2,1,(.cst (.d (.int .i64 50))))],some (137,false)⟩,
 ⟨some 140,.aeq true [0,0,0] (ot 138) (ot 139),some (137,false)⟩,
 oo 141 (.pick (ot 137) (.cst (.d (.bool true))) (ot 140)),
 oo 142 (.mov (ot 141)),
 ⟨some 143,.ld true 3 (ot 7),some (142,false)⟩,
 ⟨some 144,.build [(.d (.int .i64 0)),(.d (.int .i64 0)),(.d (.int .i64 0))] [(0,1,(.cst (.d (.int .i64 1)))),(2,1,(.cst (.d (.int .i64 80))))],some (142,false)⟩,
 ⟨some 145,.aeq true [0,0,0] (ot 143) (ot 144),some (142,false)⟩,
 oo 146 (.pick (ot 142) (.cst (.d (.bool true))) (ot 145)),
 oo 147 (.mov (ot 146)),
 ⟨some 148,.mov (ot 9),some (147,false)⟩,
 ⟨some 149,.bsl 11 3 1 2 [(.int .i64 0),(.int .i64 0)] [(0,(.cst (.d (.int .i64 21600)))),(1,(.cst (.d (.int .i64 79200))))],some (147,false)⟩,
 ⟨some 150,.call 94 [(ot 148),(ot 149)],some (147,false)⟩,
 ⟨some 151,.not (ot 150),some (147,false)⟩,
 oo 152 (.pick (ot 147) (.cst (.d (.bool true))) (ot 151)),
 oo 153 (.mov (ot 152)),
 ⟨some 154,.mov (ot 11),some (153,false)⟩,
 ⟨some 155,.bsl 12 3 1 1 [(.int .i64 0)] [(0,(.cst (.d (.int .i64 1728000))))],some (153,false)⟩,
 ⟨some 156,.call 94 [(ot 154),(ot 155)],some (153,false)⟩,
 ⟨some 157,.not (ot 156),some (153,false)⟩,
 oo 158 (.pick (ot 153) (.cst (.d (.bool true))) (ot 157)),
 oo 159 (.mov (ot 158)),
 ⟨some 160,.ld true 3 (ot 13),some (159,false)⟩,
 ⟨some 161,.build [(.d (.int .i64 0)),(.d (.int .i64 0)),(.d (.int .i64 0))] [(0,1,(.cst (.d (.int .i64 12)))),(1,1,(.cst (.d (.int .i64 1040)))),(2,1,(.cst (.d (.int .i64 12))))],some (159,false)⟩,
 ⟨some 162,.aeq true [0,0,0] (ot 160) (ot 161),some (159,false)⟩,
 oo 163 (.pick (ot 159) (.cst (.d (.bool true))) (ot 162)),
 oo 164 (.mov (ot 163)),
 ⟨some 165,.ld true 3 (ot 15),some (164,false)⟩,
 ⟨some 166,.build [(.d (.int .i64 0)),(.d (.int .i64 0)),(.d (.int .i64 0))] [(0,1,(.cst (.d (.int .i64 12)))),(1,1,(.cst (.d (.int .i64 1200)))),(2,1,(.cst (.d (.int .i64 20))))],some (164,false)⟩,
 ⟨some 167,.aeq true [0,0,0] (ot 165) (ot 166),some (164,false)⟩,
 oo 168 (.pick (ot 164) (.cst (.d (.bool true))) (ot 167)),
 oo 169 (.mov (ot 168)),
 ⟨some 170,.mov (ot 17),some (169,false)⟩,
 ⟨some 171,.call 56 [(ot 170)],some (169,false)⟩,
 ⟨some 172,.build [(.d (.int .i64 0)),(.d (.int .i64 0)),(.d (.int .i64 0)),(.d (.int .i64 0))] [(2,1,(.cst (.d (.int .i64 8)))),(3,1,(.cst (.d (.int .i64 840))))],some (169,false)⟩,
 ⟨some 173,.build [(.d (.int .i64 0)),(.d (.int .i64 0)),(.d (.int .i64 0)),(.d (.int .i64 0))] [(1,1,(.cst (.d (.int .i64 1)))),(2,1,(.cst (.d (.int .i64 4)))),(3,1,(.cst (.d (.int .i64 200))))],some (169,false)⟩,
 ⟨some 174,.bsl 13 178 4 2 [(.agg [(.int .i64 0),(.int .i64 0),(.int .i64 0),(.int .i64 0)]),(.agg [(.int .i64 0),(.int .i64 0),(.int .i64 0),(.int .i64 0)])] [(0,(ot 172)),(1,(ot 173))],some (169,false)⟩,
 ⟨some 175,.call 55 [(ot 171),(ot 174)],some (169,false)⟩,
 ⟨some 176,.not (ot 175),some (169,false)⟩,
 oo 177 (.pick (ot 169) (.cst (.d (.bool true))) (ot 176)),
 oo 178 (.mov (ot 177)),
 ⟨some 179,.ld true 2 (ot 19),some (178,false)⟩,
 ⟨some 180,.build [(.d (.int .i64 0)),(.d (.int .i64 0))] [(0,1,(.cst (.d (.int .i64 260)))),(1,1,(.cst (.d (.int .i64 3))))],some (178,false)⟩,
 ⟨some 181,.aeq true [0,0] (ot 179) (ot 180),some (178,false)⟩,
 oo 182 (.pick (ot 178) (.cst (.d (.bool true))) (ot 181))])
 (.cond (ot 182)
 (.seq
 (.reg [] [oo 0 (.mov (.cst (.d (.bool false))))])
 .ret)
 .skip))
 (.seq
 (.reg [14,15] [oo 184 (.bsl 14 3 1 3 [(.int .i64 0),(.int .i64 0),(.int .i64 0)] [(0,(.cst (.d (.int .i64 (-1))))),(1,(.cst (.d (.int .i64 (-1))))),(2,(.cst (.d (.int .i64 3))))]),
 oo 185 (.call 93 [(ot 184)]),
 oo 186 (.call 83 [(ot 185),(.cst (.d (.int .i64 10)))]),
 oo 183 (.mov (ot 186)),
 oo 187 (.ext 0 (ot 183)),
 oo 188 (.ext 1 (ot 183)),
 oo 21 (.alloc 15 [(.d (.int .i64 0)),(.d (.int .i64 0)),(.nils 1)]),
 ⟨none,.st 3 (ot 21) (ot 187),none⟩,
 oo 22 (.mov (ot 188))])
 (.seq
 (.reg [16,17] [oo 190 (.bsl 16 3 1 3 [(.int .i64 0),(.int .i64 0),(.int .i64 0)] [(0,(.cst (.d (.int .i64 (-1))))),(1,(.cst (.d (.int .i64 (-1))))),(2,(.cst (.d (.int .i64 3))))]),
 oo 191 (.call 93 [(ot 190)]),
 oo 192 (.call 83 [(ot 191),(.cst (.d (.int .i64 2)))]),
 oo 189 (.mov (ot 192)),
 oo 193 (.ext 0 (ot 189)),
 oo 194 (.ext 1 (ot 189)),
 oo 23 (.alloc 17 [(.d (.int .i64 0)),(.d (.int .i64 0)),(.nils 1)]),
 ⟨none,.st 3 (ot 23) (ot 193),none⟩,
 oo 24 (.mov (ot 194))])
 (.seq
 (.reg [18,19] [oo 196 (.call 92 []),
 oo 197 (.bsl 18 3 1 3 [(.int .i64 0),(.int .i64 0),(.int .i64 0)] [(0,(.cst (.d (.int .i64 4)))),(1,(.cst (.d (.int .i64 6)))),(2,(.cst (.d (.int .i64 3))))]),
 oo 198 (.call 93 [(ot 197)]),
 oo 199 (.bsl 19 3 1 3 [(.int .i64 0),(.int .i64 0),(.int .i64 0)] [(0,(.cst (.d (.int .i64 4)))),(1,(.cst (.d (.int .i64 5)))),(2,(.cst (.d (.int .i64 3))))]),
 oo 200 (.call 93 [(ot 199)]),
 oo 201 (.call 57 [(ot 196),(ot 198),(ot 200),(.cst (.d (.int .i64 0)))]),
 oo 195 (.mov (ot 201)),
 oo 202 (.ext 0 (ot 195)),
 oo 203 (.ext 1 (ot 195)),
 oo 25 (.mov (ot 202)),
 oo 26 (.mov (ot 203))])
 (.seq
 (.reg [20,21] [oo 205 (.call 92 []),
 oo 206 (.call 95 []),
 oo 207 (.build [(.d (.int .i64 0)),(.d (.int .i64 0)),(.nils 1),(.nils 1),(.nils 8),(.nils 2)] [(0,1,(.cst (.d (.int .i64 0)))),(1,1,(.cst (.d (.int .i64 (-10))))),(2,4,(ot 206))]),
 oo 208 (.bsl 20 150 6 1 [(.agg [(.int .i64 0),(.int .i64 0),(.slice 1 []),(.slice 1 []),(.slice 8 []),(.slice 2 [])])] [(0,(ot 207))]),
 oo 209 (.build [(.d (.int .i64 0)),(.nils 6)] [(0,1,(.cst (.d (.int .i64 10)))),(1,1,(ot 208))]),
 oo 210 (.bsl 21 3 1 3 [(.int .i64 0),(.int .i64 0),(.int .i64 0)] [(0,(.cst (.d (.int .i64 4)))),(1,(.cst (.d (.int .i64 5)))),(2,(.cst (.d (.int .i64 3))))]),
 oo 211 (.call 93 [(ot 210)]),
 oo 212 (.call 58 [(ot 205),(ot 209),(ot 211),(.cst (.d (.int .i64 0)))]),
 oo 204 (.mov (ot 212)),
 oo 213 (.ext 0 (ot 204)),
 oo 214 (.ext 1 (ot 204)),
 oo 27 (.mov (ot 213)),
 oo 28 (.mov (ot 214))])
 (.seq
 (.reg [] [oo 216 (.call 92 []),
 oo 217 (.build [(.d (.int .i64 0)),(.d (.int .i64 0)),(.d (.int .i64 0)),(.d (.int .i64 0)),(.d (.int .i64 0)),(.d (.int .i64 0))] [(0,1,(.cst (.d (.int .i64 75600)))),(1,1,(.cst (.d (.int .i64 93600)))),(2,1,(.cst (.d (.int .i64 3600)))),(3,1,(.cst (.d (.int .i64 2)))),(4,1,(.cst (.d (.int .i64 1)))),(5,1,(.cst (.d (.int .i64 3))))]),
 oo 218 (.call 62 [(ot 216),(ot 217)]),
 oo 215 (.mov (ot 218)),
 oo 219 (.ext 0 (ot 215)),
 oo 220 (.ext 1 (ot 215)),
 oo 221 (.ext 2 (ot 215)),
 oo 29 (.mov (ot 219)),
 oo 30 (.mov (ot 220)),
 oo 31 (.mov (ot 221))])
 (.seq
 (.reg [] [oo 223 (.call 92 []),
 oo 224 (.build [(.d (.int .i64 0)),(.d (.int .i64 0)),(.d (.int .i64 0)),(.d (.int .i64 0)),(.d (.int .i64 0)),(.d (.int .i64 0))] [(0,1,(.cst (.d (.int .i64 18000)))),(1,1,(.cst (.d (.int .i64 36000)))),(2,1,(.cst (.d (.int .i64 3600)))),(3,1,(.cst (.d (.int .i64 2)))),(4,1,(.cst (.d (.int .i64 1)))),(5,1,(.cst (.d (.int .i64 3))))]),
 oo 225 (.call 62 [(ot 223),(ot 224)]),
 oo 222 (.mov (ot 225)),
 oo 226 (.ext 0 (ot 222)),
 oo 227 (.ext 1 (ot 222)),
 oo 228 (.ext 2 (ot 222)),
 oo 32 (.mov (ot 226)),
 oo 33 (.mov (ot 227)),
 oo 34 (.mov (ot 228))])
 (.seq
 (.reg [] [oo 230 (.call 92 []),
 oo 231 (.build [(.d (.int .i64 0)),(.d (.int .i64 0)),(.d (.int .i64 0)),(.d (.int .i64 0)),(.d (.int .i64 0)),(.d (.int .i64 0))] [(0,1,(.cst (.d (.int .i64 18000)))),(1,1,(.cst (.d (.int .i64 36000)))),(2,1,(.cst (.d (.int .i64 3600)))),(3,1,(.cst (.d (.int .i64 2)))),(4,1,(.cst (.d (.int .i64 1)))),(5,1,(.cst (.d (.int .i64 3))))]),
 oo 232 (.call 76 [(ot 230),(ot 231),(.cst (.d (.int .i64 100)))]),
 oo 229 (.mov (ot 232)),
 oo 233 (.ext 0 (ot 229)),
 oo 234 (.ext 1 (ot 229)),
 oo 35 (.mov (ot 233)),
 oo 36 (.mov (ot 234))])
 (.seq
 (.reg [] [oo 236 (.call 92 []),
 oo 237 (.call 21 [(ot 236),(.cst (.d (.int .i64 19)))]),
 oo 235 (.mov (ot 237)),
 oo 238 (.ext 0 (ot 235)),
 oo 239 (.ext 1 (ot 235)),
 oo 37 (.mov (ot 238)),
 oo 38 (.mov (ot 239))])
 (.seq
 (.reg [22] [oo 241 (.call 92 []),
 oo 242 (.call 41 [(ot 241),(.cst (.d (.int .i64 10)))]),
 oo 240 (.mov (ot 242)),
 oo 243 (.ext 0 (ot 240)),
 oo 244 (.ext 1 (ot 240)),
 oo 39 (.alloc 22 [(.d (.int .i64 0)),(.nils 6)]),
 ⟨none,.st 2 (ot 39) (ot 243),none⟩,
 oo 40 (.mov (ot 244))])
 (.seq
 (.reg [23] [oo 246 (.call 92 []),
 oo 247 (.call 41 [(ot 246),(.cst (.d (.int .i64 11)))]),
 oo 245 (.mov (ot 247)),
 oo 248 (.ext 0 (ot 245)),
 oo 249 (.ext 1 (ot 245)),
 oo 41 (.alloc 23 [(.d (.int .i64 0)),(.nils 6)]),
 ⟨none,.st 2 (ot 41) (ot 248),none⟩,
 oo 42 (.mov (ot 249))])
 (.seq
 (.regd [24] [oo 251 (.ld true 2 (ot 39)),
 oo 252 (.call 95 []),
 oo 253 (.call 40 [(ot 251),(.cst (.d (.int .i64 5))),(.cst (.d (.int .i64 15))),(ot 252)]),
 oo 250 (.mov (ot 253)),
 oo 254 (.ext 0 (ot 250)),
 oo 255 (.ext 1 (ot 250)),
 oo 43 (.alloc 24 [(.d (.int .i64 0)),(.nils 6)]),
 ⟨none,.st 2 (ot 43) (ot 254),none⟩,
 oo 44 (.mov (ot 255))] [(0,1),(4,5),(0,6),(1,6),(2,6),(3,6),(4,6),(5,6),(5,7)])
 (.seq
 (.regd [25] [oo 257 (.ld true 2 (ot 39)),
 oo 258 (.call 95 []),
 oo 259 (.call 40 [(ot 257),(.cst (.d (.int .i64 5))),(.cst (.d (.int .i64 14))),(ot 258)]),
 oo 256 (.mov (ot 259)),
 oo 260 (.ext 0 (ot 256)),
 oo 261 (.ext 1 (ot 256)),
 oo 45 (.alloc 25 [(.d (.int .i64 0)),(.nils 6)]),
 ⟨none,.st 2 (ot 45) (ot 260),none⟩,
 oo 46 (.mov (ot 261))] [(0,1),(4,5),(0,6),(1,6),(2,6),(3,6),(4,6),(5,6),(5,7)])
 (.seq
 (.reg [] [oo 263 (.ld true 2 (ot 39)),
 oo 264 (.call 87 [(ot 263)]),
 oo 262 (.mov (ot 264)),
 oo 265 (.ext 0 (ot 262)),
 oo 266 (.ext 1 (ot 262)),
 oo 47 (.mov (ot 265)),
 oo 48 (.mov (ot 266))])
 (.seq
 (.reg [26,27,28] [oo 267 (.mov (ot 22)),
 oo 268 (.mov (ot 26)),
 oo 269 (.arith .add .i64 (ot 267) (ot 268)),
 oo 270 (.mov (ot 28)),
 oo 271 (.arith .add .i64 (ot 269) (ot 270)),
 oo 272 (.mov (ot 31)),
 oo 273 (.arith .add .i64 (ot 271) (ot 272)),
 oo 274 (.mov (ot 34)),
 oo 275 (.arith .add .i64 (ot 273) (ot 274)),
 oo 276 (.mov (ot 36)),
 oo 277 (.arith .add .i64 (ot 275) (ot 276)),
 oo 278 (.mov (ot 38)),
 oo 279 (.arith .add .i64 (ot 277) (ot 278)),
 oo 280 (.mov (ot 40)),
 oo 281 (.arith .add .i64 (ot 279) (ot 280)),
 oo 282 (.mov (ot 44)),
 oo 283 (.arith .add .i64 (ot 281) (ot 282)),
 oo 284 (.mov (ot 48)),
 oo 285 (.arith .add .i64 (ot 283) (ot 284)),
 oo 286 (.cmp .eql (ot 285) (.cst (.d (.int .i64 0)))),
 oo 287 (.mov (ot 286)),
 ⟨some 288,.mov (ot 24),some (287,true)⟩,
 ⟨some 289,.cmp .eql (ot 288) (.cst (.d (.int .i64 24))),some (287,true)⟩,
 oo 290 (.pick (ot 287) (ot 289) (.cst (.d (.bool false)))),
 oo 291 (.mov (ot 290)),
 ⟨some 292,.mov (ot 42),some (291,true)⟩,
 ⟨some 293,.cmp .eql (ot 292) (.cst (.d (.int .i64 35))),some (291,true)⟩,
 oo 294 (.pick (ot 291) (ot 293) (.cst (.d (.bool false)))),
 oo 295 (.mov (ot 294)),
 ⟨some 296,.mov (ot 46),some (295,true)⟩,
 ⟨some 297,.cmp .eql (ot 296) (.cst (.d (.int .i64 35))),some (295,true)⟩,
 oo 298 (.pick (ot 295) (ot 297) (.cst (.d (.bool false)))),
 oo 299 (.mov (ot 298)),
 ⟨some 300,.fad 2 (ot 21),some (299,true)⟩,
 ⟨some 301,.ld false 1 (ot 300),some (299,true)⟩,
 ⟨some 302,.bsl 26 3 1 3 [(.int .i64 0),(.int .i64 0),(.int .i64 0)] [(0,(.cst (.d (.int .i64 4)))),(1,(.cst (.d (.int .i64 3)))),(2,(.cst (.d (.int .i64 3))))],some (299,true)⟩,
 ⟨some 303,.call 94 [(ot 301),(ot 302)],some (299,true)⟩,
 oo 304 (.pick (ot 299) (ot 303) (.cst (.d (.bool false)))),
 oo 305 (.mov (ot 304)),
 ⟨some 306,.mov (ot 25),some (305,true)⟩,
 ⟨some 307,.cmp .eql (ot 306) (.cst (.d (.int .i64 (-120)))),some (305,true)⟩,
 oo 308 (.pick (ot 305) (ot 307) (.cst (.d (.bool false)))),
 oo 309 (.mov (ot 308)),
 ⟨some 310,.mov (ot 27),some (309,true)⟩,
 ⟨some 311,.cmp .eql (ot 310) (.cst (.d (.int .i64 (-80)))),some (309,true)⟩,
 oo 312 (.pick (ot 309) (ot 311) (.cst (.d (.bool false)))),
 oo 313 (.mov (ot 312)),
 ⟨some 314,.mov (ot 29),some (313,true)⟩,
 ⟨some 315,.bsl 27 3 1 2 [(.int .i64 0),(.int .i64 0)] [(0,(.cst (.d (.int .i64 1)))),(1,(.cst (.d (.int .i64 2))))],some (313,true)⟩,
 ⟨some 316,.call 94 [(ot 314),(ot 315)],some (313,true)⟩,
 oo 317 (.pick (ot 313) (ot 316) (.cst (.d (.bool false)))),
 oo 318 (.mov (ot 317)),
 ⟨some 319,.mov (ot 30),some (318,true)⟩,
 ⟨some 320,.cmp .eql (ot 319) (.cst (.d (.int .i64 300))),some (318,true)⟩,
 oo 321 (.pick (ot 318) (ot 320) (.cst (.d (.bool false)))),
 oo 322 (.mov (ot 321)),
 ⟨some 323,.mov (ot 32),some (322,true)⟩,
 ⟨some 324,.bsl 28 3 1 2 [(.int .i64 0),(.int .i64 0)] [(0,(.cst (.d (.int .i64 0)))),(1,(.cst (.d (.int .i64 1))))],some (322,true)⟩,
 ⟨some 325,.call 94 [(ot 323),(ot 324)],some (322,true)⟩,
 oo 326 (.pick (ot 322) (ot 325) (.cst (.d (.bool false)))),
 oo 327 (.mov (ot 326)),
 ⟨some 328,.mov (ot 33),some (327,true)⟩,
 ⟨some 329,.cmp .eql (ot 328) (.cst (.d (.int .i64 450))),some (327,true)⟩,
 oo 330 (.pick (ot 327) (ot 329) (.cst (.d (.bool false)))),
 oo 331 (.mov (ot 330)),
 ⟨some 332,.mov (ot 35),some (331,true)⟩,
 ⟨some 333,.cmp .eql (ot 332) (.cst (.d (.int .i64 450))),some (331,true)⟩,
 oo 334 (.pick (ot 331) (ot 333) (.cst (.d (.bool false)))),
 oo 335 (.mov (ot 334)),
 ⟨some 336,.mov (ot 37),some (335,true)⟩,
 ⟨some 337,.cmp .eql (ot 336) (.cst (.d (.int .i64 0))),some (335,true)⟩,
 oo 338 (.pick (ot 335) (ot 337) (.cst (.d (.bool false)))),
 oo 339 (.mov (ot 338)),
 ⟨some 340,.fad 1 (ot 39),some (339,true)⟩,
 ⟨some 341,.ld false 1 (ot 340),some (339,true)⟩,
 ⟨some 342,.len (ot 341),some (339,true)⟩,
 ⟨some 343,.cmp .eql (ot 342) (.cst (.d (.int .i64 1))),some (339,true)⟩,
 oo 344 (.pick (ot 339) (ot 343) (.cst (.d (.bool false)))),
 oo 345 (.mov (ot 344)),
 ⟨some 346,.fad 1 (ot 43),some (345,true)⟩,
 ⟨some 347,.ld false 1 (ot 346),some (345,true)⟩,
 ⟨some 348,.len (ot 347),some (345,true)⟩,
 ⟨some 349,.cmp .eql (ot 348) (.cst (.d (.int .i64 2))),some (345,true)⟩,
 oo 350 (.pick (ot 345) (ot 349) (.cst (.d (.bool false)))),
 oo 351 (.mov (ot 350)),
 ⟨some 352,.fad 1 (ot 43),some (351,true)⟩,
 ⟨some 353,.ld false 1 (ot 352),some (351,true)⟩,
 ⟨some 354,.ixa 6 (ot 353) (.cst (.d (.int .i64 1))),some (351,true)⟩,
 ⟨some 355,.fad 0 (ot 354),some (351,true)⟩,
 ⟨some 356,.ld false 1 (ot 355),some (351,true)⟩,
 ⟨some 357,.cmp .eql (ot 356) (.cst (.d (.int .i64 15))),some (351,true)⟩,
 oo 358 (.pick (ot 351) (ot 357) (.cst (.d (.bool false)))),
 oo 359 (.mov (ot 358)),
 ⟨some 360,.fad 1 (ot 43),some (359,true)⟩,
 ⟨some 361,.ld false 1 (ot 360),some (359,true)⟩,
 ⟨some 362,.ixa 6 (ot 361) (.cst (.d (.int .i64 1))),some (359,true)⟩,
 ⟨some 363,.fad 1 (ot 362),some (359,true)⟩,
 ⟨some 364,.ld false 1 (ot 363),some (359,true)⟩,
 ⟨some 365,.cmp .eql (ot 364) (.cst (.d (.int .i64 5))),some (359,true)⟩,
 oo 366 (.pick (ot 359) (ot 365) (.cst (.d (.bool false)))),
 oo 367 (.mov (ot 366)),
 ⟨some 368,.mov (ot 47),some (367,true)⟩,
 ⟨some 369,.seq false (ot 368) (.cst (.d (.str [99,97,108,101,110,100,97,114,32,49,48,10,118,101,114,115,105,111,110,32,48,32,45,49,48,10,112,114,105,99,101,115,32,49,48,48,32,53,48,32,50,48,48,10,116,121,112,101,32,48,32,49,32,50,49,54,48,48,32,48,32,55,57,50,48,48,32,49,10,116,121,112,101,32,48,32,49,10,115,101,97,115,111,110,32,48,32,48,32,48,32,48,32,48,32,48,32,49,32,49,10,98,108,111,99,107,32,49,48,32,50,48,10]))),some (367,true)⟩,
 oo 370 (.pick (ot 367) (ot 369) (.cst (.d (.bool false)))),
 oo 0 (.mov (ot 370))])
 .ret))))))))))))))))))))))))))⟩
def tx21:AFun:={ jr21 with heap:=42 }
def tx28:AFun:={ jr28 with heap:=43 }
def tx31:AFun:={ jr31 with heap:=46 }
def tx33:AFun:={ jr33 with heap:=44 }
def tx40:AFun:=⟨72,47,[.cell 8 2 true,.tmp 9],
 (.seq
 (.reg [0,1,2] [oo 4 (.cbx 0 2 (ot 0)),
 oo 7 (.cbx 1 4 (ot 3)),
 oo 8 (.alloc 2 [(.d (.int .i64 0)),(.nils 6)]),
 oo 9 (.mov (.cst (.d (.int .i64 0))))])
 (.seq
 (.seq
 (.regd [3] [oo 12 (.ld true 2 (ot 4)),
 oo 13 (.call 31 [(ot 12)]),
 oo 14 (.mov (ot 1)),
 oo 15 (.call 110 [(ot 14)]),
 oo 16 (.mov (ot 2)),
 oo 17 (.call 97 [(ot 16)]),
 oo 18 (.ld true 4 (ot 7)),
 oo 19 (.call 28 [(ot 18)]),
 oo 20 (.bsl 3 34 1 4 [(.int .i64 0),(.int .i64 0),(.int .i64 0),(.int .i64 0)] [(0,(ot 13)),(1,(ot 15)),(2,(ot 17)),(3,(ot 19))]),
 oo 21 (.call 96 [(ot 20)]),
 oo 10 (.mov (ot 21))] [(0,2),(1,2),(0,4),(1,4),(2,4),(3,4),(0,6),(1,6),(2,6),(3,6),(4,6),(5,6)])
 (.seq
 (.reg [] [oo 22 (.mov (ot 10)),
 oo 23 (.cmp .neq (ot 22) (.cst (.d (.int .i64 0))))])
 (.cond (ot 23)
 (.seq
 (.reg [] [oo 24 (.build [(.d (.int .i64 0)),(.nils 6)] []),
 oo 25 (.mov (ot 10)),
 ⟨none,.st 2 (ot 8) (ot 24),none⟩,
 oo 9 (.mov (ot 25))])
 .ret)
 .skip)))
 (.seq
 (.seq
 (.regd [4] [oo 26 (.fad 1 (ot 4)),
 oo 27 (.ld false 1 (ot 26)),
 oo 28 (.len (ot 27)),
 oo 29 (.cmp .eql (ot 28) (.cst (.d (.int .i64 8)))),
 oo 30 (.call 111 [(ot 29),(.cst (.d (.int .i64 5)))]),
 oo 31 (.mov (ot 2)),
 oo 32 (.ld true 2 (ot 4)),
 oo 33 (.call 117 [(ot 32)]),
 oo 34 (.fld false 0 1 (ot 33)),
 oo 35 (.cmp .leq (ot 31) (ot 34)),
 oo 36 (.mov (ot 35)),
 ⟨some 37,.mov (ot 1),some (36,false)⟩,
 ⟨some 38,.ld true 2 (ot 4),some (36,false)⟩,
 ⟨some 39,.call 117 [(ot 38)],some (36,false)⟩,
 ⟨some 40,.fld false 1 1 (ot 39),some (36,false)⟩,
 ⟨some 41,.cmp .lss (ot 37) (ot 40),some (36,false)⟩,
 oo 42 (.pick (ot 36) (.cst (.d (.bool true))) (ot 41)),
 oo 43 (.call 111 [(ot 42),(.cst (.d (.int .i64 11)))]),
 oo 44 (.mov (ot 2)),
 oo 45 (.mov (ot 1)),
 oo 46 (.fad 0 (ot 4)),
 oo 47 (.ld false 1 (ot 46)),
 oo 48 (.arith .add .i64 (ot 45) (ot 47)),
 oo 49 (.cmp .lss (ot 44) (ot 48)),
 oo 50 (.call 111 [(ot 49),(.cst (.d (.int .i64 35)))]),
 oo 51 (.bsl 4 34 1 3 [(.int .i64 0),(.int .i64 0),(.int .i64 0)] [(0,(ot 30)),(1,(ot 43)),(2,(ot 50))]),
 oo 52 (.call 96 [(ot 51)]),
 oo 11 (.mov (ot 52))] [(0,5),(1,5),(2,5),(3,5),(4,5),(0,6),(1,6),(2,6),(3,6),(4,6),(5,6),(5,7),(5,8),(11,12),(11,13),(11,14),(0,18),(1,18),(2,18),(3,18),(4,18),(5,18),(6,18),(7,18),(8,18),(9,18),(10,18),(11,18),(12,18),(13,18),(14,18),(15,18),(16,18),(17,18),(0,19),(1,19),(2,19),(3,19),(4,19),(5,19),(6,19),(7,19),(8,19),(9,19),(10,19),(11,19),(12,19),(13,19),(14,19),(15,19),(16,19),(17,19),(18,19),(0,20),(1,20),(2,20),(3,20),(4,20),(5,20),(6,20),(7,20),(8,20),(9,20),(10,20),(11,20),(12,20),(13,20),(14,20),(15,20),(16,20),(17,20),(18,20),(19,20),(0,21),(1,21),(2,21),(3,21),(4,21),(5,21),(6,21),(7,21),(8,21),(9,21),(10,21),(11,21),(12,21),(13,21),(14,21),(15,21),(16,21),(17,21),(18,21),(19,21),(0,22),(1,22),(2,22),(3,22),(4,22),(5,22),(6,22),(7,22),(8,22),(9,22),(10,22),(11,22),(12,22),(13,22),(14,22),(15,22),(16,22),(17,22),(18,22),(0,23),(1,23),(2,23),(3,23),(4,23),(5,23),(6,23),(7,23),(8,23),(9,23),(10,23),(11,23),(12,23),(13,23),(14,23),(15,23),(16,23),(17,23)])
 (.seq
 (.reg [] [oo 53 (.mov (ot 11)),
 oo 54 (.cmp .neq (ot 53) (.cst (.d (.int .i64 0))))])
 (.cond (ot 54)
 (.seq
 (.reg [] [oo 55 (.build [(.d (.int .i64 0)),(.nils 6)] []),
 oo 56 (.mov (ot 11)),
 ⟨none,.st 2 (ot 8) (ot 55),none⟩,
 oo 9 (.mov (ot 56))])
 .ret)
 .skip)))
 (.seq
 (.regd [5,6] [oo 57 (.fad 0 (ot 4)),
 oo 58 (.ld false 1 (ot 57)),
 oo 59 (.ld true 2 (ot 4)),
 oo 60 (.fad 1 (ot 4)),
 oo 61 (.ld false 1 (ot 60)),
 oo 62 (.len (ot 61)),
 oo 63 (.calli 118 [(ot 59),(ot 62)]),
 oo 64 (.mov (ot 2)),
 oo 65 (.mov (ot 1)),
 oo 66 (.ld true 4 (ot 7)),
 oo 67 (.call 119 [(ot 66)]),
 oo 68 (.build [(.d (.int .i64 0)),(.d (.int .i64 0)),(.nils 1),(.nils 1),(.nils 8),(.nils 2)] [(0,1,(ot 64)),(1,1,(ot 65)),(2,4,(ot 67))]),
 oo 69 (.bsl 5 150 6 1 [(.agg [(.int .i64 0),(.int .i64 0),(.slice 1 []),(.slice 1 []),(.slice 8 []),(.slice 2 [])])] [(0,(ot 68))]),
 oo 70 (.app 6 150 6 112 (ot 63) (ot 69)),
 oo 71 (.build [(.d (.int .i64 0)),(.nils 6)] [(0,1,(ot 58)),(1,1,(ot 70))]),
 ⟨none,.st 2 (ot 8) (ot 71),none⟩,
 oo 9 (.mov (.cst (.d (.int .i64 0))))] [(0,2),(1,2),(0,3),(1,3),(2,3),(0,4),(1,4),(2,4),(0,5),(1,5),(2,5),(0,6),(1,6),(0,7),(1,7),(2,7),(3,7),(4,7),(5,7),(6,7),(0,8),(1,8),(2,8),(3,8),(4,8),(5,8),(6,8),(7,8),(0,9),(1,9),(2,9),(3,9),(4,9),(5,9),(6,9),(7,9),(8,9),(0,10),(1,10),(7,10),(8,10),(0,11),(1,11),(0,12),(1,12),(0,13),(1,13)])
 .ret))))⟩
def tx41:AFun:=⟨53,44,[.cell 4 2 true,.tmp 5],
 (.seq
 (.reg [0,1] [oo 2 (.cbx 0 2 (ot 0)),
 oo 4 (.alloc 1 [(.d (.int .i64 0)),(.nils 6)]),
 oo 5 (.mov (.cst (.d (.int .i64 0))))])
 (.seq
 (.seq
 (.regd [2] [oo 8 (.ld true 2 (ot 2)),
 oo 9 (.call 31 [(ot 8)]),
 oo 10 (.mov (ot 1)),
 oo 11 (.call 110 [(ot 10)]),
 oo 12 (.fad 1 (ot 2)),
 oo 13 (.ld false 1 (ot 12)),
 oo 14 (.len (ot 13)),
 oo 15 (.cmp .eql (ot 14) (.cst (.d (.int .i64 1)))),
 oo 16 (.call 111 [(ot 15),(.cst (.d (.int .i64 12)))]),
 oo 17 (.bsl 2 34 1 3 [(.int .i64 0),(.int .i64 0),(.int .i64 0)] [(0,(ot 9)),(1,(ot 11)),(2,(ot 16))]),
 oo 18 (.call 96 [(ot 17)]),
 oo 6 (.mov (ot 18))] [(0,2),(1,2),(0,4),(1,4),(2,4),(3,4),(0,5),(1,5),(2,5),(3,5),(0,6),(1,6),(2,6),(3,6),(0,7),(1,7),(2,7),(3,7)])
 (.seq
 (.reg [] [oo 19 (.mov (ot 6)),
 oo 20 (.cmp .neq (ot 19) (.cst (.d (.int .i64 0))))])
 (.cond (ot 20)
 (.seq
 (.reg [] [oo 21 (.build [(.d (.int .i64 0)),(.nils 6)] []),
 oo 22 (.mov (ot 6)),
 ⟨none,.st 2 (ot 4) (ot 21),none⟩,
 oo 5 (.mov (ot 22))])
 .ret)
 .skip)))
 (.seq
 (.seq
 (.regd [3] [oo 23 (.ld true 2 (ot 2)),
 oo 24 (.call 117 [(ot 23)]),
 oo 25 (.fld false 0 1 (ot 24)),
 oo 26 (.mov (ot 1)),
 oo 27 (.cmp .leq (ot 25) (ot 26)),
 oo 28 (.call 111 [(ot 27),(.cst (.d (.int .i64 23)))]),
 oo 29 (.ld true 2 (ot 2)),
 oo 30 (.call 117 [(ot 29)]),
 oo 31 (.fld false 0 1 (ot 30)),
 oo 32 (.mov (ot 1)),
 oo 33 (.fad 0 (ot 2)),
 oo 34 (.ld false 1 (ot 33)),
 oo 35 (.arith .add .i64 (ot 32) (ot 34)),
 oo 36 (.cmp .lss (ot 31) (ot 35)),
 oo 37 (.call 111 [(ot 36),(.cst (.d (.int .i64 35)))]),
 oo 38 (.bsl 3 34 1 2 [(.int .i64 0),(.int .i64 0)] [(0,(ot 28)),(1,(ot 37))]),
 oo 39 (.call 96 [(ot 38)]),
 oo 7 (.mov (ot 39))] [(0,3),(1,3),(2,3),(0,6),(1,6),(2,6),(3,6),(4,6),(5,6),(0,9),(1,9),(2,9),(3,9),(4,9),(5,9),(6,9),(7,9),(8,9),(0,10),(1,10),(2,10),(3,10),(4,10),(5,10),(6,10),(7,10),(8,10),(9,10),(0,11),(1,11),(2,11),(3,11),(4,11),(5,11),(6,11),(7,11),(8,11),(9,11),(0,12),(1,12),(2,12),(3,12),(4,12),(5,12),(6,12),(7,12),(8,12)])
 (.seq
 (.reg [] [oo 40 (.mov (ot 7)),
 oo 41 (.cmp .neq (ot 40) (.cst (.d (.int .i64 0))))])
 (.cond (ot 41)
 (.seq
 (.reg [] [oo 42 (.build [(.d (.int .i64 0)),(.nils 6)] []),
 oo 43 (.mov (ot 7)),
 ⟨none,.st 2 (ot 4) (ot 42),none⟩,
 oo 5 (.mov (ot 43))])
 .ret)
 .skip)))
 (.seq
 (.regd [] [oo 44 (.fad 0 (ot 2)),
 oo 45 (.ld false 1 (ot 44)),
 oo 46 (.ld true 2 (ot 2)),
 oo 47 (.fad 1 (ot 2)),
 oo 48 (.ld false 1 (ot 47)),
 oo 49 (.len (ot 48)),
 oo 50 (.arith .sub .i64 (ot 49) (.cst (.d (.int .i64 1)))),
 oo 51 (.call 118 [(ot 46),(ot 50)]),
 oo 52 (.build [(.d (.int .i64 0)),(.nils 6)] [(0,1,(ot 45)),(1,1,(ot 51))]),
 ⟨none,.st 2 (ot 4) (ot 52),none⟩,
 oo 5 (.mov (.cst (.d (.int .i64 0))))] [(0,2),(1,2),(0,3),(1,3),(2,3),(0,4),(1,4),(2,4),(0,5),(1,5),(2,5),(0,6),(1,6),(2,6),(0,7),(1,7)])
 .ret))))⟩
def tx47:AFun:=⟨30,44,[.cell 6 3 true,.tmp 7],
 (.seq
 (.reg [0,1,2] [oo 3 (.cbx 0 2 (ot 0)),
 oo 4 (.cbx 1 3 (ot 1)),
 oo 6 (.alloc 2 [(.d (.int .i64 0)),(.d (.int .i64 0)),(.d (.int .i64 0))]),
 oo 7 (.mov (.cst (.d (.int .i64 0))))])
 (.seq
 (.seq
 (.reg [] [oo 12 (.ld true 2 (ot 3)),
 oo 13 (.ld true 3 (ot 4)),
 oo 14 (.mov (ot 2)),
 oo 15 (.call 120 [(ot 12),(ot 13),(ot 14)]),
 oo 8 (.mov (ot 15))])
 (.seq
 (.reg [] [oo 16 (.mov (ot 8)),
 oo 17 (.cmp .neq (ot 16) (.cst (.d (.int .i64 0))))])
 (.cond (ot 17)
 (.seq
 (.reg [] [oo 18 (.build [(.d (.int .i64 0)),(.d (.int .i64 0)),(.d (.int .i64 0))] []),
 oo 19 (.mov (ot 8)),
 ⟨none,.st 3 (ot 6) (ot 18),none⟩,
 oo 7 (.mov (ot 19))])
 .ret)
 .skip)))
 (.seq
 (.reg [3] [oo 21 (.ld true 2 (ot 3)),
 oo 22 (.ld true 3 (ot 4)),
 oo 23 (.mov (ot 2)),
 oo 24 (.call 121 [(ot 21),(ot 22),(ot 23)]),
 oo 20 (.mov (ot 24)),
 oo 25 (.ext 0 (ot 20)),
 oo 26 (.ext 1 (ot 20)),
 oo 27 (.ext 2 (ot 20)),
 oo 10 (.alloc 3 [(.d (.int .i64 0)),(.d (.int .i64 0)),(.d (.int .i64 0))]),
 oo 9 (.mov (ot 25)),
 ⟨none,.st 3 (ot 10) (ot 26),none⟩,
 oo 11 (.mov (ot 27))])
 (.seq
 (.reg [] [oo 28 (.ld true 3 (ot 10)),
 oo 29 (.mov (ot 11)),
 ⟨none,.st 3 (ot 6) (ot 28),none⟩,
 oo 7 (.mov (ot 29))])
 .ret))))⟩
def tx50:AFun:=⟨53,45,[.cell 6 2 true,.tmp 7],
 (.seq
 (.reg [0,1,2] [oo 3 (.cbx 0 2 (ot 0)),
 oo 4 (.cbx 1 3 (ot 1)),
 oo 6 (.alloc 2 [(.d (.int .i64 0)),(.d (.int .i64 0))]),
 oo 7 (.mov (.cst (.d (.int .i64 0))))])
 (.seq
 (.reg [3] [oo 13 (.ld true 2 (ot 3)),
 oo 14 (.ld true 3 (ot 4)),
 oo 15 (.mov (ot 2)),
 oo 16 (.call 47 [(ot 13),(ot 14),(ot 15)]),
 oo 12 (.mov (ot 16)),
 oo 17 (.ext 0 (ot 12)),
 oo 18 (.ext 1 (ot 12)),
 oo 8 (.alloc 3 [(.d (.int .i64 0)),(.d (.int .i64 0)),(.d (.int .i64 0))]),
 ⟨none,.st 3 (ot 8) (ot 17),none⟩,
 oo 9 (.mov (ot 18))])
 (.seq
 (.seq
 (.reg [4] [oo 19 (.mov (ot 9)),
 oo 20 (.fad 0 (ot 8)),
 oo 21 (.ld false 1 (ot 20)),
 oo 22 (.cmp .eql (ot 21) (.cst (.d (.int .i64 0)))),
 oo 23 (.call 111 [(ot 22),(.cst (.d (.int .i64 6)))]),
 oo 24 (.bsl 4 34 1 2 [(.int .i64 0),(.int .i64 0)] [(0,(ot 19)),(1,(ot 23))]),
 oo 25 (.call 96 [(ot 24)]),
 oo 9 (.mov (ot 25))])
 (.seq
 (.reg [] [oo 26 (.mov (ot 9)),
 oo 27 (.cmp .neq (ot 26) (.cst (.d (.int .i64 0))))])
 (.cond (ot 27)
 (.seq
 (.reg [] [oo 28 (.build [(.d (.int .i64 0)),(.d (.int .i64 0))] []),
 oo 29 (.mov (ot 9)),
 ⟨none,.st 2 (ot 6) (ot 28),none⟩,
 oo 7 (.mov (ot 29))])
 .ret)
 .skip)))
 (.seq
 (.regd [] [oo 30 (.fad 1 (ot 8)),
 oo 31 (.ld false 1 (ot 30)),
 oo 32 (.fad 1 (ot 8)),
 oo 33 (.ld false 1 (ot 32)),
 oo 34 (.neg .i64 (ot 33)),
 oo 35 (.maxi (ot 31) (ot 34)),
 oo 36 (.fad 0 (ot 8)),
 oo 37 (.ld false 1 (ot 36)),
 oo 10 (.mov (ot 35)),
 oo 11 (.mov (ot 37))] [(0,2),(1,2),(0,3),(1,3),(0,4),(1,4),(0,6),(1,6),(2,6),(3,6),(4,6),(5,6),(0,7),(1,7),(2,7),(3,7),(4,7),(5,7),(6,8),(7,8)])
 (.seq
 (.post [6,8,10] [0,1,2,3,4]
 (.block 0
 (.keep [6,8,10,11] [0,1,2,3,4]
 (.loop
 (.post [6,8,10,11] []
 (.seq
 (.seq
 (.reg [] [oo 38 (.mov (ot 11)),
 oo 39 (.cmp .neq (ot 38) (.cst (.d (.int .i64 0))))])
 (.cond (ot 39)
 .skip
 (.exit 0)))
 (.block 1
 (.regd [] [oo 40 (.mov (ot 11)),
 oo 41 (.mov (ot 10)),
 oo 42 (.mov (ot 11)),
 oo 43 (.arith .rem .i64 (ot 41) (ot 42)),
 oo 10 (.mov (ot 40)),
 oo 11 (.mov (ot 43))] [(0,1),(0,2),(1,2),(0,3),(2,4),(3,4)]))))))))
 (.seq
 (.regd [] [oo 44 (.fad 1 (ot 8)),
 oo 45 (.ld false 1 (ot 44)),
 oo 46 (.mov (ot 10)),
 oo 47 (.arith .quo .i64 (ot 45) (ot 46)),
 oo 48 (.fad 0 (ot 8)),
 oo 49 (.ld false 1 (ot 48)),
 oo 50 (.mov (ot 10)),
 oo 51 (.arith .quo .i64 (ot 49) (ot 50)),
 oo 52 (.build [(.d (.int .i64 0)),(.d (.int .i64 0))] [(0,1,(ot 47)),(1,1,(ot 51))]),
 ⟨none,.st 2 (ot 6) (ot 52),none⟩,
 oo 7 (.mov (.cst (.d (.int .i64 0))))] [(0,2),(1,2),(0,4),(1,4),(2,4),(3,4),(0,5),(1,5),(2,5),(3,5),(0,6),(1,6),(2,6),(3,6),(4,6),(5,6),(0,7),(1,7),(2,7),(3,7)])
 .ret))))))⟩
def tx55:AFun:=⟨26,40,[.tmp 4],
 (.seq
 (.reg [] [oo 4 (.mov (.cst (.d (.bool false))))])
 (.seq
 (.seq
 (.reg [] [oo 6 (.mov (ot 0)),
 oo 7 (.len (ot 6)),
 oo 8 (.mov (ot 1)),
 oo 9 (.len (ot 8)),
 oo 10 (.cmp .neq (ot 7) (ot 9))])
 (.cond (ot 10)
 (.seq
 (.reg [] [oo 4 (.mov (.cst (.d (.bool false))))])
 .ret)
 .skip))
 (.seq
 (.seq
 (.reg [] [oo 5 (.mov (.cst (.d (.int .i64 0))))])
 (.post [] []
 (.block 0
 (.keep [0,1,5] []
 (.loop
 (.post [0,1,5] []
 (.seq
 (.seq
 (.reg [] [oo 11 (.mov (ot 5)),
 oo 12 (.mov (ot 0)),
 oo 13 (.len (ot 12)),
 oo 14 (.cmp .lss (ot 11) (ot 13))])
 (.cond (ot 14)
 .skip
 (.exit 0)))
 (.seq
 (.block 1
 (.seq
 (.regd [] [oo 17 (.mov (ot 0)),
 oo 18 (.mov (ot 5)),
 oo 19 (.ixa 4 (ot 17) (ot 18)),
 oo 20 (.ld true 4 (ot 19)),
 oo 21 (.mov (ot 1)),
 oo 22 (.mov (ot 5)),
 oo 23 (.ixa 4 (ot 21) (ot 22)),
 oo 24 (.ld true 4 (ot 23)),
 oo 25 (.aeq true [0,0,0,0] (ot 20) (ot 24))] [(0,1),(0,4),(1,4),(2,4),(3,4),(0,5),(1,5),(2,5),(3,5),(4,5),(0,6),(1,6),(2,6),(3,6),(0,7),(1,7),(2,7),(3,7)])
 (.cond (ot 25)
 (.seq
 (.reg [] [oo 4 (.mov (.cst (.d (.bool false))))])
 .ret)
 .skip)))
 (.reg [] [oo 15 (.mov (ot 5)),
 oo 16 (.arith .add .i64 (ot 15) (.cst (.d (.int .i64 1)))),
 oo 5 (.mov (ot 16))])))))))))
 (.seq
 (.reg [] [oo 4 (.mov (.cst (.d (.bool true))))])
 .ret))))⟩
def tx56:AFun:=⟨18,43,[.tmp 2],
 (.seq
 (.reg [] [oo 2 (.mov (.cst (.nils 4)))])
 (.seq
 (.reg [] [oo 3 (.mov (.cst (.nils 4)))])
 (.seq
 (.seq
 (.reg [] [oo 6 (.mov (ot 0)),
 oo 7 (.len (ot 6)),
 oo 8 (.mov (.cst (.d (.int .i64 0))))])
 (.post [3] [0,1,2]
 (.block 0
 (.asrow 2 178 4 3
 (.keep [3,6,7,8] []
 (.loop
 (.post [3,6,7,8] [0,1,2]
 (.seq
 (.reg [] [oo 9 (.cmp .lss (ot 8) (ot 7))])
 (.seq
 (.cond (ot 9)
 .skip
 (.exit 0))
 (.seq
 (.block 1
 (.seq
 (.reg [0] [oo 10 (.ixa 4 (ot 6) (ot 8)),
 oo 11 (.ld true 4 (ot 10)),
 oo 5 (.alloc 0 [(.d (.int .i64 0)),(.d (.int .i64 0)),(.d (.int .i64 0)),(.d (.int .i64 0))]),
 ⟨none,.st 4 (ot 5) (ot 11),none⟩])
 (.reg [1,2] [oo 12 (.mov (ot 3)),
 oo 13 (.ld true 4 (ot 5)),
 oo 14 (.bsl 1 178 4 1 [(.agg [(.int .i64 0),(.int .i64 0),(.int .i64 0),(.int .i64 0)])] [(0,(ot 13))]),
 oo 15 (.app 2 178 4 32 (ot 12) (ot 14)),
 oo 3 (.mov (ot 15))])))
 (.reg [] [oo 16 (.arith .add .i64 (ot 8) (.cst (.d (.int .i64 1)))),
 oo 8 (.mov (ot 16))])))))))))))
 (.seq
 (.reg [] [oo 17 (.mov (ot 3)),
 oo 2 (.mov (ot 17))])
 .ret))))⟩
def tx57:AFun:=⟨67,47,[.tmp 8,.tmp 9],
 (.seq
 (.reg [0,1,2] [oo 4 (.cbx 0 2 (ot 0)),
 oo 5 (.cbx 1 3 (ot 1)),
 oo 6 (.cbx 2 3 (ot 2)),
 oo 8 (.mov (.cst (.d (.int .i64 0)))),
 oo 9 (.mov (.cst (.d (.int .i64 0))))])
 (.seq
 (.seq
 (.regd [3] [oo 19 (.ld true 2 (ot 4)),
 oo 20 (.call 31 [(ot 19)]),
 oo 21 (.ld true 3 (ot 5)),
 oo 22 (.call 73 [(ot 21)]),
 oo 23 (.ld true 3 (ot 6)),
 oo 24 (.call 73 [(ot 23)]),
 oo 25 (.mov (ot 3)),
 oo 26 (.call 131 [(ot 25)]),
 oo 27 (.bsl 3 34 1 4 [(.int .i64 0),(.int .i64 0),(.int .i64 0),(.int .i64 0)] [(0,(ot 20)),(1,(ot 22)),(2,(ot 24)),(3,(ot 26))]),
 oo 28 (.call 96 [(ot 27)]),
 oo 10 (.mov (ot 28))] [(0,2),(1,2),(0,4),(1,4),(2,4),(3,4),(0,6),(1,6),(2,6),(3,6),(4,6),(5,6)])
 (.seq
 (.reg [] [oo 29 (.mov (ot 10)),
 oo 30 (.cmp .neq (ot 29) (.cst (.d (.int .i64 0))))])
 (.cond (ot 30)
 (.seq
 (.reg [] [oo 31 (.mov (ot 10)),
 oo 8 (.mov (.cst (.d (.int .i64 0)))),
 oo 9 (.mov (ot 31))])
 .ret)
 .skip)))
 (.seq
 (.reg [] [oo 11 (.mov (.cst (.d (.fn (.func 132) []))))])
 (.seq
 (.seq
 (.regd [] [oo 32 (.mov (ot 11)),
 oo 33 (.ld true 3 (ot 5)),
 oo 34 (.callv (ot 32) [(ot 33)]),
 oo 35 (.mov (ot 11)),
 oo 36 (.ld true 3 (ot 6)),
 oo 37 (.callv (ot 35) [(ot 36)]),
 oo 38 (.aeq true [0,0,0] (ot 34) (ot 37))] [(0,1),(0,3),(1,3),(2,3),(0,4),(1,4),(2,4),(3,4)])
 (.cond (ot 38)
 (.seq
 (.reg [] [oo 8 (.mov (.cst (.d (.int .i64 0)))),
 oo 9 (.mov (.cst (.d (.int .i64 2))))])
 .ret)
 .skip))
 (.seq
 (.reg [4] [oo 40 (.ld true 2 (ot 4)),
 oo 41 (.ld true 3 (ot 5)),
 oo 42 (.mov (ot 3)),
 oo 43 (.call 121 [(ot 40),(ot 41),(ot 42)]),
 oo 39 (.mov (ot 43)),
 oo 44 (.ext 0 (ot 39)),
 oo 45 (.ext 1 (ot 39)),
 oo 46 (.ext 2 (ot 39)),
 oo 13 (.alloc 4 [(.d (.int .i64 0)),(.d (.int .i64 0)),(.d (.int .i64 0))]),
 oo 12 (.mov (ot 44)),
 ⟨none,.st 3 (ot 13) (ot 45),none⟩,
 oo 14 (.mov (ot 46))])
 (.seq
 (.reg [5] [oo 48 (.ld true 2 (ot 4)),
 oo 49 (.ld true 3 (ot 6)),
 oo 50 (.mov (ot 3)),
 oo 51 (.call 121 [(ot 48),(ot 49),(ot 50)]),
 oo 47 (.mov (ot 51)),
 oo 52 (.ext 0 (ot 47)),
 oo 53 (.ext 1 (ot 47)),
 oo 54 (.ext 2 (ot 47)),
 oo 16 (.alloc 5 [(.d (.int .i64 0)),(.d (.int .i64 0)),(.d (.int .i64 0))]),
 oo 15 (.mov (ot 52)),
 ⟨none,.st 3 (ot 16) (ot 53),none⟩,
 oo 17 (.mov (ot 54))])
 (.seq
 (.seq
 (.reg [6] [oo 55 (.mov (ot 14)),
 oo 56 (.mov (ot 17)),
 oo 57 (.bsl 6 34 1 2 [(.int .i64 0),(.int .i64 0)] [(0,(ot 55)),(1,(ot 56))]),
 oo 58 (.call 96 [(ot 57)]),
 oo 18 (.mov (ot 58))])
 (.seq
 (.reg [] [oo 59 (.mov (ot 18)),
 oo 60 (.cmp .neq (ot 59) (.cst (.d (.int .i64 0))))])
 (.cond (ot 60)
 (.seq
 (.reg [] [oo 61 (.mov (ot 18)),
 oo 8 (.mov (.cst (.d (.int .i64 0)))),
 oo 9 (.mov (ot 61))])
 .ret)
 .skip)))
 (.seq
 (.reg [] [oo 62 (.fad 1 (ot 16)),
 oo 63 (.ld false 1 (ot 62)),
 oo 64 (.fad 1 (ot 13)),
 oo 65 (.ld false 1 (ot 64)),
 oo 66 (.arith .sub .i64 (ot 63) (ot 65)),
 oo 8 (.mov (ot 66)),
 oo 9 (.mov (.cst (.d (.int .i64 0))))])
 .ret))))))))⟩
def tx58:AFun:=⟨67,47,[.tmp 8,.tmp 9],
 (.seq
 (.reg [0,1,2] [oo 4 (.cbx 0 2 (ot 0)),
 oo 5 (.cbx 1 2 (ot 1)),
 oo 6 (.cbx 2 3 (ot 2)),
 oo 8 (.mov (.cst (.d (.int .i64 0)))),
 oo 9 (.mov (.cst (.d (.int .i64 0))))])
 (.seq
 (.seq
 (.regd [3] [oo 18 (.ld true 2 (ot 4)),
 oo 19 (.call 31 [(ot 18)]),
 oo 20 (.ld true 2 (ot 5)),
 oo 21 (.call 31 [(ot 20)]),
 oo 22 (.ld true 3 (ot 6)),
 oo 23 (.call 73 [(ot 22)]),
 oo 24 (.mov (ot 3)),
 oo 25 (.call 131 [(ot 24)]),
 oo 26 (.ld true 3 (ot 6)),
 oo 27 (.call 133 [(ot 26)]),
 oo 28 (.bsl 3 34 1 5 [(.int .i64 0),(.int .i64 0),(.int .i64 0),(.int .i64 0),(.int .i64 0)] [(0,(ot 19)),(1,(ot 21)),(2,(ot 23)),(3,(ot 25)),(4,(ot 27))]),
 oo 29 (.call 96 [(ot 28)]),
 oo 10 (.mov (ot 29))] [(0,2),(1,2),(0,4),(1,4),(2,4),(3,4),(0,6),(1,6),(2,6),(3,6),(4,6),(5,6),(0,8),(1,8),(2,8),(3,8),(4,8),(5,8),(6,8),(7,8)])
 (.seq
 (.reg [] [oo 30 (.mov (ot 10)),
 oo 31 (.cmp .neq (ot 30) (.cst (.d (.int .i64 0))))])
 (.cond (ot 31)
 (.seq
 (.reg [] [oo 32 (.mov (ot 10)),
 oo 8 (.mov (.cst (.d (.int .i64 0)))),
 oo 9 (.mov (ot 32))])
 .ret)
 .skip)))
 (.seq
 (.reg [4] [oo 34 (.ld true 2 (ot 4)),
 oo 35 (.ld true 3 (ot 6)),
 oo 36 (.mov (ot 3)),
 oo 37 (.call 121 [(ot 34),(ot 35),(ot 36)]),
 oo 33 (.mov (ot 37)),
 oo 38 (.ext 0 (ot 33)),
 oo 39 (.ext 1 (ot 33)),
 oo 40 (.ext 2 (ot 33)),
 oo 12 (.alloc 4 [(.d (.int .i64 0)),(.d (.int .i64 0)),(.d (.int .i64 0))]),
 oo 11 (.mov (ot 38)),
 ⟨none,.st 3 (ot 12) (ot 39),none⟩,
 oo 13 (.mov (ot 40))])
 (.seq
 (.reg [5] [oo 42 (.ld true 2 (ot 5)),
 oo 43 (.ld true 3 (ot 6)),
 oo 44 (.mov (ot 3)),
 oo 45 (.call 121 [(ot 42),(ot 43),(ot 44)]),
 oo 41 (.mov (ot 45)),
 oo 46 (.ext 0 (ot 41)),
 oo 47 (.ext 1 (ot 41)),
 oo 48 (.ext 2 (ot 41)),
 oo 15 (.alloc 5 [(.d (.int .i64 0)),(.d (.int .i64 0)),(.d (.int .i64 0))]),
 oo 14 (.mov (ot 46)),
 ⟨none,.st 3 (ot 15) (ot 47),none⟩,
 oo 16 (.mov (ot 48))])
 (.seq
 (.seq
 (.reg [] [oo 49 (.mov (ot 13)),
 oo 50 (.cmp .eql (ot 49) (.cst (.d (.int .i64 7)))),
 oo 51 (.mov (ot 50)),
 ⟨some 52,.mov (ot 16),some (51,false)⟩,
 ⟨some 53,.cmp .eql (ot 52) (.cst (.d (.int .i64 7))),some (51,false)⟩,
 oo 54 (.pick (ot 51) (.cst (.d (.bool true))) (ot 53))])
 (.cond (ot 54)
 (.seq
 (.reg [] [oo 8 (.mov (.cst (.d (.int .i64 0)))),
 oo 9 (.mov (.cst (.d (.int .i64 7))))])
 .ret)
 .skip))
 (.seq
 (.seq
 (.reg [6] [oo 55 (.mov (ot 13)),
 oo 56 (.mov (ot 16)),
 oo 57 (.bsl 6 34 1 2 [(.int .i64 0),(.int .i64 0)] [(0,(ot 55)),(1,(ot 56))]),
 oo 58 (.call 96 [(ot 57)]),
 oo 17 (.mov (ot 58))])
 (.seq
 (.reg [] [oo 59 (.mov (ot 17)),
 oo 60 (.cmp .neq (ot 59) (.cst (.d (.int .i64 0))))])
 (.cond (ot 60)
 (.seq
 (.reg [] [oo 61 (.mov (ot 17)),
 oo 8 (.mov (.cst (.d (.int .i64 0)))),
 oo 9 (.mov (ot 61))])
 .ret)
 .skip)))
 (.seq
 (.reg [] [oo 62 (.fad 1 (ot 15)),
 oo 63 (.ld false 1 (ot 62)),
 oo 64 (.fad 1 (ot 12)),
 oo 65 (.ld false 1 (ot 64)),
 oo 66 (.arith .sub .i64 (ot 63) (ot 65)),
 oo 8 (.mov (ot 66)),
 oo 9 (.mov (.cst (.d (.int .i64 0))))])
 .ret)))))))⟩
def tx62:AFun:=⟨86,99,[.tmp 4,.tmp 5,.tmp 6],
 (.seq
 (.reg [0,1] [oo 2 (.cbx 0 2 (ot 0)),
 oo 3 (.cbx 1 6 (ot 1)),
 oo 4 (.mov (.cst (.nils 1))),
 oo 5 (.mov (.cst (.d (.int .i64 0)))),
 oo 6 (.mov (.cst (.d (.int .i64 0))))])
 (.seq
 (.seq
 (.regd [2] [oo 18 (.ld true 2 (ot 2)),
 oo 19 (.call 31 [(ot 18)]),
 oo 20 (.ld true 6 (ot 3)),
 oo 21 (.call 81 [(ot 20)]),
 oo 22 (.bsl 2 34 1 2 [(.int .i64 0),(.int .i64 0)] [(0,(ot 19)),(1,(ot 21))]),
 oo 23 (.call 96 [(ot 22)]),
 oo 7 (.mov (ot 23))] [(0,2),(1,2)])
 (.seq
 (.reg [] [oo 24 (.mov (ot 7)),
 oo 25 (.cmp .neq (ot 24) (.cst (.d (.int .i64 0))))])
 (.cond (ot 25)
 (.seq
 (.reg [] [oo 26 (.mov (ot 7)),
 oo 4 (.mov (.cst (.nils 1))),
 oo 5 (.mov (.cst (.d (.int .i64 0)))),
 oo 6 (.mov (ot 26))])
 .ret)
 .skip)))
 (.seq
 (.reg [] [oo 28 (.ld true 2 (ot 2)),
 oo 29 (.ld true 6 (ot 3)),
 oo 30 (.call 134 [(ot 28),(ot 29)]),
 oo 27 (.mov (ot 30)),
 oo 31 (.ext 0 (ot 27)),
 oo 32 (.ext 1 (ot 27)),
 oo 8 (.mov (ot 31)),
 oo 9 (.mov (ot 32))])
 (.seq
 (.seq
 (.reg [] [oo 33 (.mov (ot 9)),
 oo 34 (.cmp .neq (ot 33) (.cst (.d (.int .i64 0))))])
 (.cond (ot 34)
 (.seq
 (.reg [] [oo 35 (.mov (ot 9)),
 oo 4 (.mov (.cst (.nils 1))),
 oo 5 (.mov (.cst (.d (.int .i64 0)))),
 oo 6 (.mov (ot 35))])
 .ret)
 .skip))
 (.seq
 (.reg [3,4] [oo 36 (.mov (ot 8)),
 oo 37 (.mkm 3),
 oo 38 (.build [(.nils 1),.undef] [(0,1,(ot 36)),(1,1,(ot 37))]),
 oo 10 (.alloc 4 [(.nils 1),.undef]),
 ⟨none,.st 2 (ot 10) (ot 38),none⟩])
 (.seq
 (.reg [5] [oo 39 (.fad 3 (ot 3)),
 oo 40 (.ld false 1 (ot 39)),
 oo 41 (.fad 4 (ot 3)),
 oo 42 (.ld false 1 (ot 41)),
 oo 43 (.build [(.d (.int .i64 0)),(.d (.int .i64 0)),(.d (.int .i64 0)),(.d (.bool false))] [(0,1,(.cst (.d (.int .i64 0)))),(1,1,(ot 40)),(2,1,(ot 42)),(3,1,(.cst (.d (.bool false))))]),
 oo 11 (.alloc 5 [(.d (.int .i64 0)),(.d (.int .i64 0)),(.d (.int .i64 0)),(.d (.bool false))]),
 ⟨none,.st 4 (ot 11) (ot 43),none⟩])
 (.seq
 (.regd [] [oo 44 (.fad 5 (ot 3)),
 oo 45 (.ld false 1 (ot 44)),
 oo 46 (.ld true 2 (ot 10)),
 oo 47 (.ld true 4 (ot 11)),
 oo 48 (.calli 135 [(ot 46),(ot 47)]),
 oo 49 (.arith .mul .i64 (ot 45) (ot 48)),
 oo 12 (.mov (ot 49))] [(0,2),(1,2),(0,3),(1,3),(2,3),(0,4),(1,4)])
 (.seq
 (.reg [] [oo 13 (.mov (.cst (.nils 1)))])
 (.seq
 (.seq
 (.reg [] [oo 50 (.mov (ot 8)),
 oo 51 (.len (ot 50)),
 oo 52 (.mov (.cst (.d (.int .i64 0))))])
 (.post [12,13] [0,1,2,3,4,5,6,7,8]
 (.block 0
 (.asrow 8 3 1 13
 (.keep [8,10,11,12,13,51,52] [0,1,2,3,4,5]
 (.loop
 (.post [8,10,11,12,13,51,52] [6,7,8]
 (.seq
 (.reg [] [oo 53 (.cmp .lss (ot 52) (ot 51))])
 (.seq
 (.cond (ot 53)
 .skip
 (.exit 0))
 (.seq
 (.block 1
 (.seq
 (.reg [] [oo 54 (.mov (ot 52)),
 oo 14 (.mov (ot 54))])
 (.seq
 (.reg [] [oo 55 (.ld true 2 (ot 10)),
 oo 56 (.ld true 4 (ot 11)),
 oo 57 (.calli 135 [(ot 55),(ot 56)]),
 oo 15 (.mov (ot 57))])
 (.seq
 (.seq
 (.reg [6] [oo 59 (.ld true 4 (ot 11)),
 oo 60 (.call 136 [(ot 59)]),
 oo 58 (.mov (ot 60)),
 oo 61 (.ext 0 (ot 58)),
 oo 62 (.ext 1 (ot 58)),
 oo 16 (.alloc 6 [(.d (.int .i64 0)),(.d (.int .i64 0)),(.d (.int .i64 0)),(.d (.bool false))]),
 ⟨none,.st 4 (ot 16) (ot 61),none⟩,
 oo 17 (.mov (ot 62))])
 (.seq
 (.regd [] [oo 63 (.mov (ot 17)),
 oo 64 (.mov (ot 63)),
 ⟨some 65,.mov (ot 8),some (64,true)⟩,
 ⟨some 66,.mov (ot 14),some (64,true)⟩,
 ⟨some 67,.ixa 1 (ot 65) (ot 66),some (64,true)⟩,
 ⟨some 68,.ld false 1 (ot 67),some (64,true)⟩,
 ⟨some 69,.ld true 2 (ot 10),some (64,true)⟩,
 ⟨some 70,.ld true 4 (ot 16),some (64,true)⟩,
 ⟨some 71,.calli 135 [(ot 69),(ot 70)],some (64,true)⟩,
 ⟨some 72,.arith .add .i64 (ot 68) (ot 71),some (64,true)⟩,
 ⟨some 73,.mov (ot 15),some (64,true)⟩,
 ⟨some 74,.cmp .eql (ot 72) (ot 73),some (64,true)⟩,
 oo 75 (.pick (ot 64) (ot 74) (.cst (.d (.bool false))))] [(2,3),(2,6),(3,6),(4,6),(5,6),(2,7),(3,7),(4,7),(5,7),(6,7),(2,8),(3,8),(4,8),(5,8),(2,10),(3,10),(4,10),(5,10),(6,10),(7,10),(8,10),(9,10)])
 (.cond (ot 75)
 (.seq
 (.reg [7,8] [oo 76 (.mov (ot 13)),
 oo 77 (.mov (ot 14)),
 oo 78 (.bsl 7 3 1 1 [(.int .i64 0)] [(0,(ot 77))]),
 oo 79 (.app 8 3 1 8 (ot 76) (ot 78)),
 oo 13 (.mov (ot 79))])
 (.seq
 (.reg [] [oo 80 (.ld true 4 (ot 16)),
 ⟨none,.st 4 (ot 11) (ot 80),none⟩])
 (.exit 1)))
 .skip)))
 (.reg [] [oo 81 (.ld true 4 (ot 11)),
 oo 82 (.call 137 [(ot 81)]),
 ⟨none,.st 4 (ot 11) (ot 82),none⟩])))))
 (.reg [] [oo 83 (.arith .add .i64 (ot 52) (.cst (.d (.int .i64 1)))),
 oo 52 (.mov (ot 83))])))))))))))
 (.seq
 (.reg [] [oo 84 (.mov (ot 13)),
 oo 85 (.mov (ot 12)),
 oo 4 (.mov (ot 84)),
 oo 5 (.mov (ot 85)),
 oo 6 (.mov (.cst (.d (.int .i64 0))))])
 .ret))))))))))⟩
def tx73:AFun:=⟨41,43,[.tmp 2],
 (.seq
 (.reg [0] [oo 1 (.cbx 0 3 (ot 0)),
 oo 2 (.mov (.cst (.d (.int .i64 0))))])
 (.seq
 (.seq
 (.reg [] [oo 5 (.fad 1 (ot 1)),
 oo 6 (.ld false 1 (ot 5)),
 oo 7 (.call 142 [(ot 6)]),
 oo 3 (.mov (ot 7))])
 (.seq
 (.reg [] [oo 8 (.mov (ot 3)),
 oo 9 (.cmp .neq (ot 8) (.cst (.d (.int .i64 0))))])
 (.cond (ot 9)
 (.seq
 (.reg [] [oo 10 (.mov (ot 3)),
 oo 2 (.mov (ot 10))])
 .ret)
 .skip)))
 (.seq
 (.seq
 (.regd [1] [oo 11 (.fad 0 (ot 1)),
 oo 12 (.ld false 1 (ot 11)),
 oo 13 (.call 112 [(ot 12)]),
 oo 14 (.fad 0 (ot 1)),
 oo 15 (.ld false 1 (ot 14)),
 oo 16 (.fad 1 (ot 1)),
 oo 17 (.ld false 1 (ot 16)),
 oo 18 (.arith .rem .i64 (ot 15) (ot 17)),
 oo 19 (.cmp .neq (ot 18) (.cst (.d (.int .i64 0)))),
 oo 20 (.call 111 [(ot 19),(.cst (.d (.int .i64 3)))]),
 oo 21 (.fad 2 (ot 1)),
 oo 22 (.ld false 1 (ot 21)),
 oo 23 (.len (ot 22)),
 oo 24 (.cmp .gtr (ot 23) (.cst (.d (.int .i64 96)))),
 oo 25 (.call 111 [(ot 24),(.cst (.d (.int .i64 5)))]),
 oo 26 (.bsl 1 34 1 3 [(.int .i64 0),(.int .i64 0),(.int .i64 0)] [(0,(ot 13)),(1,(ot 20)),(2,(ot 25))]),
 oo 27 (.call 96 [(ot 26)]),
 oo 4 (.mov (ot 27))] [(0,3),(1,3),(2,3),(0,4),(1,4),(2,4),(0,5),(1,5),(2,5),(3,5),(4,5),(0,6),(1,6),(2,6),(3,6),(4,6),(0,7),(1,7),(2,7),(0,8),(1,8),(2,8),(0,10),(1,10),(2,10),(3,10),(4,10),(5,10),(6,10),(7,10),(8,10),(9,10),(0,11),(1,11),(2,11),(3,11),(4,11),(5,11),(6,11),(7,11),(8,11),(9,11),(0,12),(1,12),(2,12),(3,12),(4,12),(5,12),(6,12),(7,12),(8,12),(9,12),(0,13),(1,13),(2,13),(3,13),(4,13),(5,13),(6,13),(7,13),(8,13),(9,13)])
 (.seq
 (.reg [] [oo 28 (.mov (ot 4)),
 oo 29 (.cmp .neq (ot 28) (.cst (.d (.int .i64 0))))])
 (.cond (ot 29)
 (.seq
 (.reg [] [oo 30 (.mov (ot 4)),
 oo 2 (.mov (ot 30))])
 .ret)
 .skip)))
 (.seq
 (.regd [2] [oo 31 (.fad 2 (ot 1)),
 oo 32 (.ld false 1 (ot 31)),
 oo 33 (.call 100 [(ot 32),(.cst (.d (.fn (.func 143) [])))]),
 oo 34 (.call 96 [(ot 33)]),
 oo 35 (.ld true 3 (ot 1)),
 oo 36 (.call 144 [(ot 35)]),
 oo 37 (.cmp .gtr (ot 36) (.cst (.d (.int .i64 100000000)))),
 oo 38 (.call 111 [(ot 37),(.cst (.d (.int .i64 4)))]),
 oo 39 (.bsl 2 34 1 2 [(.int .i64 0),(.int .i64 0)] [(0,(ot 34)),(1,(ot 38))]),
 oo 40 (.call 96 [(ot 39)]),
 oo 2 (.mov (ot 40))] [(0,4),(1,4),(2,4),(3,4)])
 .ret))))⟩
def tx76:AFun:=⟨55,43,[.tmp 6,.tmp 7],
 (.seq
 (.reg [0,1] [oo 3 (.cbx 0 2 (ot 0)),
 oo 4 (.cbx 1 6 (ot 1)),
 oo 6 (.mov (.cst (.d (.int .i64 0)))),
 oo 7 (.mov (.cst (.d (.int .i64 0))))])
 (.seq
 (.seq
 (.regd [2] [oo 14 (.ld true 2 (ot 3)),
 oo 15 (.call 31 [(ot 14)]),
 oo 16 (.ld true 6 (ot 4)),
 oo 17 (.call 81 [(ot 16)]),
 oo 18 (.mov (ot 2)),
 oo 19 (.call 101 [(ot 18)]),
 oo 20 (.bsl 2 34 1 3 [(.int .i64 0),(.int .i64 0),(.int .i64 0)] [(0,(ot 15)),(1,(ot 17)),(2,(ot 19))]),
 oo 21 (.call 96 [(ot 20)]),
 oo 8 (.mov (ot 21))] [(0,2),(1,2),(0,4),(1,4),(2,4),(3,4)])
 (.seq
 (.reg [] [oo 22 (.mov (ot 8)),
 oo 23 (.cmp .neq (ot 22) (.cst (.d (.int .i64 0))))])
 (.cond (ot 23)
 (.seq
 (.reg [] [oo 24 (.mov (ot 8)),
 oo 6 (.mov (.cst (.d (.int .i64 0)))),
 oo 7 (.mov (ot 24))])
 .ret)
 .skip)))
 (.seq
 (.reg [] [oo 26 (.ld true 2 (ot 3)),
 oo 27 (.ld true 6 (ot 4)),
 oo 28 (.call 134 [(ot 26),(ot 27)]),
 oo 25 (.mov (ot 28)),
 oo 29 (.ext 0 (ot 25)),
 oo 30 (.ext 1 (ot 25)),
 oo 9 (.mov (ot 29)),
 oo 10 (.mov (ot 30))])
 (.seq
 (.seq
 (.reg [] [oo 31 (.mov (ot 10)),
 oo 32 (.cmp .neq (ot 31) (.cst (.d (.int .i64 0))))])
 (.cond (ot 32)
 (.seq
 (.reg [] [oo 33 (.mov (ot 10)),
 oo 6 (.mov (.cst (.d (.int .i64 0)))),
 oo 7 (.mov (ot 33))])
 .ret)
 .skip))
 (.seq
 (.reg [] [oo 34 (.mov (ot 2)),
 oo 35 (.fad 3 (ot 4)),
 oo 36 (.ld false 1 (ot 35)),
 oo 37 (.arith .mul .i64 (ot 34) (ot 36)),
 oo 11 (.mov (ot 37))])
 (.seq
 (.seq
 (.reg [] [oo 38 (.mov (ot 9)),
 oo 39 (.len (ot 38)),
 oo 40 (.mov (.cst (.d (.int .i64 0))))])
 (.post [4,11] [0,1,2]
 (.block 0
 (.keep [2,4,11,38,39,40] [0,1,2]
 (.loop
 (.post [2,4,11,38,39,40] []
 (.seq
 (.reg [] [oo 41 (.cmp .lss (ot 40) (ot 39))])
 (.seq
 (.cond (ot 41)
 .skip
 (.exit 0))
 (.seq
 (.block 1
 (.seq
 (.reg [] [oo 42 (.ixa 1 (ot 38) (ot 40)),
 oo 43 (.ld false 1 (ot 42)),
 oo 13 (.mov (ot 43))])
 (.reg [] [oo 44 (.mov (ot 11)),
 oo 45 (.mov (ot 2)),
 oo 46 (.mov (ot 13)),
 oo 47 (.arith .sub .i64 (ot 45) (ot 46)),
 oo 48 (.maxi (.cst (.d (.int .i64 0))) (ot 47)),
 oo 49 (.arith .sub .i64 (ot 44) (ot 48)),
 oo 11 (.mov (ot 49))])))
 (.reg [] [oo 50 (.arith .add .i64 (ot 40) (.cst (.d (.int .i64 1)))),
 oo 40 (.mov (ot 50))]))))))))))
 (.seq
 (.reg [] [oo 51 (.fad 5 (ot 4)),
 oo 52 (.ld false 1 (ot 51)),
 oo 53 (.mov (ot 11)),
 oo 54 (.arith .mul .i64 (ot 52) (ot 53)),
 oo 6 (.mov (ot 54)),
 oo 7 (.mov (.cst (.d (.int .i64 0))))])
 .ret)))))))⟩
def tx81:AFun:=⟨53,43,[.tmp 2],
 (.seq
 (.reg [0] [oo 1 (.cbx 0 6 (ot 0)),
 oo 2 (.mov (.cst (.d (.int .i64 0))))])
 (.seq
 (.seq
 (.reg [] [oo 6 (.fad 2 (ot 1)),
 oo 7 (.ld false 1 (ot 6)),
 oo 8 (.call 142 [(ot 7)]),
 oo 3 (.mov (ot 8))])
 (.seq
 (.reg [] [oo 9 (.mov (ot 3)),
 oo 10 (.cmp .neq (ot 9) (.cst (.d (.int .i64 0))))])
 (.cond (ot 10)
 (.seq
 (.reg [] [oo 11 (.mov (ot 3)),
 oo 2 (.mov (ot 11))])
 .ret)
 .skip)))
 (.seq
 (.reg [] [oo 12 (.mkf (.func 146) [] [(ot 1)]),
 oo 4 (.mov (ot 12))])
 (.seq
 (.seq
 (.regd [1] [oo 13 (.mov (ot 4)),
 oo 14 (.fad 0 (ot 1)),
 oo 15 (.ld false 1 (ot 14)),
 oo 16 (.callv (ot 13) [(ot 15)]),
 oo 17 (.mov (ot 4)),
 oo 18 (.fad 1 (ot 1)),
 oo 19 (.ld false 1 (ot 18)),
 oo 20 (.callv (ot 17) [(ot 19)]),
 oo 21 (.fad 0 (ot 1)),
 oo 22 (.ld false 1 (ot 21)),
 oo 23 (.fad 1 (ot 1)),
 oo 24 (.ld false 1 (ot 23)),
 oo 25 (.cmp .geq (ot 22) (ot 24)),
 oo 26 (.call 111 [(ot 25),(.cst (.d (.int .i64 14)))]),
 oo 27 (.bsl 1 34 1 3 [(.int .i64 0),(.int .i64 0),(.int .i64 0)] [(0,(ot 16)),(1,(ot 20)),(2,(ot 26))]),
 oo 28 (.call 96 [(ot 27)]),
 oo 5 (.mov (ot 28))] [(0,1),(0,2),(0,4),(1,4),(2,4),(3,4),(0,5),(1,5),(2,5),(3,5),(4,5),(0,6),(1,6),(2,6),(3,6),(4,6),(0,8),(1,8),(2,8),(3,8),(4,8),(5,8),(6,8),(7,8),(0,9),(1,9),(2,9),(3,9),(4,9),(5,9),(6,9),(7,9),(0,10),(1,10),(2,10),(3,10),(4,10),(5,10),(6,10),(7,10),(8,10),(9,10),(0,11),(1,11),(2,11),(3,11),(4,11),(5,11),(6,11),(7,11),(8,11),(9,11),(0,12),(1,12),(2,12),(3,12),(4,12),(5,12),(6,12),(7,12)])
 (.seq
 (.reg [] [oo 29 (.mov (ot 5)),
 oo 30 (.cmp .neq (ot 29) (.cst (.d (.int .i64 0))))])
 (.cond (ot 30)
 (.seq
 (.reg [] [oo 31 (.mov (ot 5)),
 oo 2 (.mov (ot 31))])
 .ret)
 .skip)))
 (.seq
 (.regd [2] [oo 32 (.ld true 6 (ot 1)),
 oo 33 (.call 145 [(ot 32)]),
 oo 34 (.cmp .gtr (ot 33) (.cst (.d (.int .i64 24)))),
 oo 35 (.call 111 [(ot 34),(.cst (.d (.int .i64 5)))]),
 oo 36 (.fad 3 (ot 1)),
 oo 37 (.ld false 1 (ot 36)),
 oo 38 (.call 109 [(ot 37),(.cst (.d (.int .i64 1))),(.cst (.d (.int .i64 24)))]),
 oo 39 (.fad 4 (ot 1)),
 oo 40 (.ld false 1 (ot 39)),
 oo 41 (.call 109 [(ot 40),(.cst (.d (.int .i64 1))),(.cst (.d (.int .i64 24)))]),
 oo 42 (.fad 5 (ot 1)),
 oo 43 (.ld false 1 (ot 42)),
 oo 44 (.call 109 [(ot 43),(.cst (.d (.int .i64 1))),(.cst (.d (.int .i64 100000)))]),
 oo 45 (.ld true 6 (ot 1)),
 oo 46 (.call 145 [(ot 45)]),
 oo 47 (.fad 3 (ot 1)),
 oo 48 (.ld false 1 (ot 47)),
 oo 49 (.cmp .lss (ot 46) (ot 48)),
 oo 50 (.call 111 [(ot 49),(.cst (.d (.int .i64 16)))]),
 oo 51 (.bsl 2 34 1 5 [(.int .i64 0),(.int .i64 0),(.int .i64 0),(.int .i64 0),(.int .i64 0)] [(0,(ot 35)),(1,(ot 38)),(2,(ot 41)),(3,(ot 44)),(4,(ot 50))]),
 oo 52 (.call 96 [(ot 51)]),
 oo 2 (.mov (ot 52))] [(0,4),(1,4),(2,4),(3,4),(0,5),(1,5),(2,5),(3,5),(0,7),(1,7),(2,7),(3,7),(4,7),(5,7),(6,7),(0,8),(1,8),(2,8),(3,8),(4,8),(5,8),(6,8),(0,10),(1,10),(2,10),(3,10),(4,10),(5,10),(6,10),(7,10),(8,10),(9,10),(0,11),(1,11),(2,11),(3,11),(4,11),(5,11),(6,11),(7,11),(8,11),(9,11),(0,13),(1,13),(2,13),(3,13),(4,13),(5,13),(6,13),(7,13),(8,13),(9,13),(10,13),(11,13),(12,13),(0,15),(1,15),(2,15),(3,15),(4,15),(5,15),(6,15),(7,15),(8,15),(9,15),(10,15),(11,15),(12,15),(13,15),(14,15),(0,16),(1,16),(2,16),(3,16),(4,16),(5,16),(6,16),(7,16),(8,16),(9,16),(10,16),(11,16),(12,16),(13,16),(14,16)])
 .ret)))))⟩
def tx83:AFun:=⟨100,44,[.cell 4 3 true,.tmp 5],
 (.seq
 (.reg [0,1] [oo 2 (.cbx 0 3 (ot 0)),
 oo 4 (.alloc 1 [(.d (.int .i64 0)),(.d (.int .i64 0)),(.nils 1)]),
 oo 5 (.mov (.cst (.d (.int .i64 0))))])
 (.seq
 (.seq
 (.reg [2] [oo 15 (.ld true 3 (ot 2)),
 oo 16 (.call 73 [(ot 15)]),
 oo 17 (.mov (ot 1)),
 oo 18 (.call 109 [(ot 17),(.cst (.d (.int .i64 0))),(.cst (.d (.int .i64 9600000)))]),
 oo 19 (.bsl 2 34 1 2 [(.int .i64 0),(.int .i64 0)] [(0,(ot 16)),(1,(ot 18))]),
 oo 20 (.call 96 [(ot 19)]),
 oo 6 (.mov (ot 20))])
 (.seq
 (.reg [] [oo 21 (.mov (ot 6)),
 oo 22 (.cmp .neq (ot 21) (.cst (.d (.int .i64 0))))])
 (.cond (ot 22)
 (.seq
 (.reg [] [oo 23 (.build [(.d (.int .i64 0)),(.d (.int .i64 0)),(.nils 1)] []),
 oo 24 (.mov (ot 6)),
 ⟨none,.st 3 (ot 4) (ot 23),none⟩,
 oo 5 (.mov (ot 24))])
 .ret)
 .skip)))
 (.seq
 (.reg [] [oo 26 (.ld true 3 (ot 2)),
 oo 27 (.call 140 [(ot 26)]),
 oo 25 (.mov (ot 27)),
 oo 28 (.ext 0 (ot 25)),
 oo 29 (.ext 1 (ot 25)),
 oo 7 (.mov (ot 28)),
 oo 8 (.mov (ot 29))])
 (.seq
 (.reg [] [oo 30 (.mov (ot 1)),
 oo 31 (.mov (ot 7)),
 oo 32 (.arith .sub .i64 (ot 30) (ot 31)),
 oo 9 (.mov (ot 32))])
 (.seq
 (.seq
 (.reg [] [oo 33 (.mov (ot 9)),
 oo 34 (.cmp .lss (ot 33) (.cst (.d (.int .i64 0)))),
 oo 35 (.mov (ot 34)),
 ⟨some 36,.mov (ot 8),some (35,false)⟩,
 ⟨some 37,.cmp .eql (ot 36) (.cst (.d (.int .i64 0))),some (35,false)⟩,
 ⟨some 38,.mov (ot 37),some (35,false)⟩,
 ⟨some 39,.mov (ot 9),some (38,true)⟩,
 ⟨some 40,.cmp .neq (ot 39) (.cst (.d (.int .i64 0))),some (38,true)⟩,
 ⟨some 41,.pick (ot 38) (ot 40) (.cst (.d (.bool false))),some (35,false)⟩,
 oo 42 (.pick (ot 35) (.cst (.d (.bool true))) (ot 41))])
 (.cond (ot 42)
 (.seq
 (.reg [] [oo 43 (.build [(.d (.int .i64 0)),(.d (.int .i64 0)),(.nils 1)] []),
 ⟨none,.st 3 (ot 4) (ot 43),none⟩,
 oo 5 (.mov (.cst (.d (.int .i64 24))))])
 .ret)
 .skip))
 (.seq
 (.regd [3] [oo 44 (.fad 0 (ot 2)),
 oo 45 (.ld false 1 (ot 44)),
 oo 46 (.fad 1 (ot 2)),
 oo 47 (.ld false 1 (ot 46)),
 oo 48 (.fad 2 (ot 2)),
 oo 49 (.ld false 1 (ot 48)),
 oo 50 (.calln 30 3 1 141 [(ot 49)]),
 oo 51 (.build [(.d (.int .i64 0)),(.d (.int .i64 0)),(.nils 1)] [(0,1,(ot 45)),(1,1,(ot 47)),(2,1,(ot 50))]),
 oo 10 (.alloc 3 [(.d (.int .i64 0)),(.d (.int .i64 0)),(.nils 1)]),
 ⟨none,.st 3 (ot 10) (ot 51),none⟩] [(0,2),(1,2),(0,3),(1,3),(0,4),(1,4),(2,4),(3,4),(0,5),(1,5),(2,5),(3,5),(0,6),(1,6),(2,6),(3,6),(0,8),(1,8),(2,8),(3,8),(4,8),(5,8),(6,8),(7,8)])
 (.seq
 (.seq
 (.reg [] [oo 52 (.mov (ot 8)),
 oo 53 (.cmp .eql (ot 52) (.cst (.d (.int .i64 0))))])
 (.cond (ot 53)
 (.seq
 (.reg [] [oo 54 (.ld true 3 (ot 10)),
 ⟨none,.st 3 (ot 4) (ot 54),none⟩,
 oo 5 (.mov (.cst (.d (.int .i64 0))))])
 .ret)
 .skip))
 (.seq
 (.regd [] [oo 55 (.mov (ot 9)),
 oo 56 (.mov (ot 8)),
 oo 57 (.arith .quo .i64 (ot 55) (ot 56)),
 oo 58 (.mov (ot 9)),
 oo 59 (.mov (ot 8)),
 oo 60 (.arith .rem .i64 (ot 58) (ot 59)),
 oo 11 (.mov (ot 57)),
 oo 12 (.mov (ot 60))] [(0,1),(0,3),(1,3),(2,3),(0,4),(1,4),(2,4),(3,4),(0,5),(1,5),(2,5),(3,6),(4,6),(5,6)])
 (.seq
 (.seq
 (.reg [] [oo 61 (.mov (ot 11)),
 oo 62 (.cmp .gtr (ot 61) (.cst (.d (.int .i64 100000)))),
 oo 63 (.mov (ot 62)),
 ⟨some 64,.mov (ot 11),some (63,false)⟩,
 ⟨some 65,.cmp .eql (ot 64) (.cst (.d (.int .i64 100000))),some (63,false)⟩,
 ⟨some 66,.mov (ot 65),some (63,false)⟩,
 ⟨some 67,.mov (ot 12),some (66,true)⟩,
 ⟨some 68,.cmp .gtr (ot 67) (.cst (.d (.int .i64 0))),some (66,true)⟩,
 ⟨some 69,.pick (ot 66) (ot 68) (.cst (.d (.bool false))),some (63,false)⟩,
 oo 70 (.pick (ot 63) (.cst (.d (.bool true))) (ot 69))])
 (.cond (ot 70)
 (.seq
 (.reg [] [oo 71 (.build [(.d (.int .i64 0)),(.d (.int .i64 0)),(.nils 1)] []),
 ⟨none,.st 3 (ot 4) (ot 71),none⟩,
 oo 5 (.mov (.cst (.d (.int .i64 4))))])
 .ret)
 .skip))
 (.seq
 (.seq
 (.reg [] [oo 72 (.fad 2 (ot 10)),
 oo 73 (.ld false 1 (ot 72)),
 oo 74 (.len (ot 73)),
 oo 75 (.mov (.cst (.d (.int .i64 0))))])
 (.post [4,10] [0,1,2,3]
 (.block 0
 (.keep [4,10,11,12,73,74,75] [0,1,2,3]
 (.loop
 (.post [4,10,11,12,73,74,75] []
 (.seq
 (.reg [] [oo 76 (.cmp .lss (ot 75) (ot 74))])
 (.seq
 (.cond (ot 76)
 .skip
 (.exit 0))
 (.seq
 (.block 1
 (.seq
 (.reg [] [oo 77 (.mov (ot 75)),
 oo 78 (.ixa 1 (ot 73) (ot 75)),
 oo 79 (.ld false 1 (ot 78)),
 oo 13 (.mov (ot 77)),
 oo 14 (.mov (ot 79))])
 (.seq
 (.seq
 (.reg [] [oo 80 (.mov (ot 14)),
 oo 81 (.cmp .neq (ot 80) (.cst (.d (.int .i64 (-1)))))])
 (.cond (ot 81)
 (.exit 1)
 .skip))
 (.seq
 (.reg [] [oo 82 (.fad 2 (ot 10)),
 oo 83 (.ld false 1 (ot 82)),
 oo 84 (.mov (ot 13)),
 oo 85 (.mov (ot 11)),
 oo 86 (.ixa 1 (ot 83) (ot 84)),
 ⟨none,.st 1 (ot 86) (ot 85),none⟩])
 (.seq
 (.reg [] [oo 87 (.mov (ot 12)),
 oo 88 (.cmp .gtr (ot 87) (.cst (.d (.int .i64 0))))])
 (.cond (ot 88)
 (.seq
 (.reg [] [oo 89 (.fad 2 (ot 10)),
 oo 90 (.ld false 1 (ot 89)),
 oo 91 (.mov (ot 13)),
 oo 92 (.ixa 1 (ot 90) (ot 91)),
 oo 93 (.ld false 1 (ot 92)),
 oo 94 (.arith .add .i64 (ot 93) (.cst (.d (.int .i64 1)))),
 oo 95 (.ixa 1 (ot 90) (ot 91)),
 ⟨none,.st 1 (ot 95) (ot 94),none⟩])
 (.reg [] [oo 96 (.mov (ot 12)),
 oo 97 (.arith .sub .i64 (ot 96) (.cst (.d (.int .i64 1)))),
 oo 12 (.mov (ot 97))]))
 .skip))))))
 (.reg [] [oo 98 (.arith .add .i64 (ot 75) (.cst (.d (.int .i64 1)))),
 oo 75 (.mov (ot 98))]))))))))))
 (.seq
 (.reg [] [oo 99 (.ld true 3 (ot 10)),
 ⟨none,.st 3 (ot 4) (ot 99),none⟩,
 oo 5 (.mov (.cst (.d (.int .i64 0))))])
 .ret)))))))))))⟩
def tx87:AFun:=⟨110,52,[.tmp 2,.tmp 3],
 (.seq
 (.reg [0] [oo 1 (.cbx 0 2 (ot 0)),
 oo 2 (.mov (.cst (.d (.str [])))),
 oo 3 (.mov (.cst (.d (.int .i64 0))))])
 (.seq
 (.seq
 (.reg [] [oo 17 (.ld true 2 (ot 1)),
 oo 18 (.call 31 [(ot 17)]),
 oo 4 (.mov (ot 18))])
 (.seq
 (.reg [] [oo 19 (.mov (ot 4)),
 oo 20 (.cmp .neq (ot 19) (.cst (.d (.int .i64 0))))])
 (.cond (ot 20)
 (.seq
 (.reg [] [oo 21 (.mov (ot 4)),
 oo 2 (.mov (.cst (.d (.str [])))),
 oo 3 (.mov (ot 21))])
 .ret)
 .skip)))
 (.seq
 (.reg [1] [oo 22 (.fad 0 (ot 1)),
 oo 23 (.ld false 1 (ot 22)),
 oo 24 (.bsl 1 3 1 1 [(.int .i64 0)] [(0,(ot 23))]),
 oo 25 (.call 148 [(.cst (.d (.str [99,97,108,101,110,100,97,114]))),(ot 24)]),
 oo 5 (.mov (ot 25))])
 (.seq
 (.seq
 (.reg [] [oo 26 (.fad 1 (ot 1)),
 oo 27 (.ld false 1 (ot 26)),
 oo 28 (.len (ot 27)),
 oo 29 (.mov (.cst (.d (.int .i64 0))))])
 (.post [5] [0,1,2,3,4,5,6,7,8,9,10,11]
 (.block 0
 (.keep [5,27,28,29] [0,1]
 (.loop
 (.post [5,27,28,29] [2,3,4,5,6,7,8,9,10,11]
 (.seq
 (.reg [] [oo 30 (.cmp .lss (ot 29) (ot 28))])
 (.seq
 (.cond (ot 30)
 .skip
 (.exit 0))
 (.seq
 (.block 1
 (.seq
 (.reg [2] [oo 31 (.ixa 6 (ot 27) (ot 29)),
 oo 32 (.ld true 6 (ot 31)),
 oo 7 (.alloc 2 [(.d (.int .i64 0)),(.d (.int .i64 0)),(.nils 1),(.nils 1),(.nils 8),(.nils 2)]),
 ⟨none,.st 6 (ot 7) (ot 32),none⟩])
 (.seq
 (.regd [3] [oo 33 (.mov (ot 5)),
 oo 34 (.fad 0 (ot 7)),
 oo 35 (.ld false 1 (ot 34)),
 oo 36 (.fad 1 (ot 7)),
 oo 37 (.ld false 1 (ot 36)),
 oo 38 (.bsl 3 3 1 2 [(.int .i64 0),(.int .i64 0)] [(0,(ot 35)),(1,(ot 37))]),
 oo 39 (.call 148 [(.cst (.d (.str [118,101,114,115,105,111,110]))),(ot 38)]),
 oo 40 (.fad 2 (ot 7)),
 oo 41 (.fad 0 (ot 40)),
 oo 42 (.ld false 1 (ot 41)),
 oo 43 (.call 148 [(.cst (.d (.str [112,114,105,99,101,115]))),(ot 42)]),
 oo 44 (.cat (ot 39) (ot 43)),
 oo 45 (.cat (ot 33) (ot 44)),
 oo 5 (.mov (ot 45))] [(0,1),(0,2),(0,3),(1,3),(2,3),(0,4),(1,4),(2,4),(0,5),(0,6),(0,7),(1,7),(2,7),(3,7),(4,7),(5,7),(6,7),(0,8),(1,8),(2,8),(3,8),(4,8),(5,8),(6,8),(0,9),(1,9),(2,9),(3,9),(4,9),(5,9),(6,9),(0,10),(0,11)])
 (.seq
 (.seq
 (.reg [] [oo 46 (.fad 2 (ot 7)),
 oo 47 (.fad 1 (ot 46)),
 oo 48 (.ld false 1 (ot 47)),
 oo 49 (.len (ot 48)),
 oo 50 (.mov (.cst (.d (.int .i64 0))))])
 (.post [5,7,27,28,29] [0,1,2,3,4,5,6]
 (.block 2
 (.keep [5,7,27,28,29,48,49,50] [0,1,2,3]
 (.loop
 (.post [5,7,27,28,29,48,49,50] [4,5,6]
 (.seq
 (.reg [] [oo 51 (.cmp .lss (ot 50) (ot 49))])
 (.seq
 (.cond (ot 51)
 .skip
 (.exit 2))
 (.seq
 (.block 3
 (.seq
 (.reg [] [oo 52 (.ixa 1 (ot 48) (ot 50)),
 oo 53 (.ld false 1 (ot 52)),
 oo 9 (.mov (ot 53))])
 (.seq
 (.reg [] [oo 10 (.mov (.cst (.nils 1)))])
 (.seq
 (.seq
 (.reg [] [oo 54 (.mov (ot 9)),
 oo 55 (.len (ot 54)),
 oo 56 (.mov (.cst (.d (.int .i64 0))))])
 (.post [5,7,10,27,28,29,48,49,50] [0,1,2,3,4,5,6]
 (.block 4
 (.asrow 6 3 1 10
 (.keep [5,7,10,27,28,29,48,49,50,54,55,56] [0,1,2,3]
 (.loop
 (.post [5,7,10,27,28,29,48,49,50,54,55,56] [4,5,6]
 (.seq
 (.reg [] [oo 57 (.cmp .lss (ot 56) (ot 55))])
 (.seq
 (.cond (ot 57)
 .skip
 (.exit 4))
 (.seq
 (.block 5
 (.seq
 (.reg [4] [oo 58 (.ixa 2 (ot 54) (ot 56)),
 oo 59 (.ld true 2 (ot 58)),
 oo 12 (.alloc 4 [(.d (.int .i64 0)),(.d (.int .i64 0))]),
 ⟨none,.st 2 (ot 12) (ot 59),none⟩])
 (.reg [5,6] [oo 60 (.mov (ot 10)),
 oo 61 (.fad 0 (ot 12)),
 oo 62 (.ld false 1 (ot 61)),
 oo 63 (.fad 1 (ot 12)),
 oo 64 (.ld false 1 (ot 63)),
 oo 65 (.bsl 5 3 1 2 [(.int .i64 0),(.int .i64 0)] [(0,(ot 62)),(1,(ot 64))]),
 oo 66 (.app 6 3 1 8 (ot 60) (ot 65)),
 oo 10 (.mov (ot 66))])))
 (.reg [] [oo 67 (.arith .add .i64 (ot 56) (.cst (.d (.int .i64 1)))),
 oo 56 (.mov (ot 67))])))))))))))
 (.reg [] [oo 68 (.mov (ot 5)),
 oo 69 (.mov (ot 10)),
 oo 70 (.call 148 [(.cst (.d (.str [116,121,112,101]))),(ot 69)]),
 oo 71 (.cat (ot 68) (ot 70)),
 oo 5 (.mov (ot 71))])))))
 (.reg [] [oo 72 (.arith .add .i64 (ot 50) (.cst (.d (.int .i64 1)))),
 oo 50 (.mov (ot 72))]))))))))))
 (.seq
 (.seq
 (.reg [] [oo 73 (.fad 2 (ot 7)),
 oo 74 (.fad 2 (ot 73)),
 oo 75 (.ld false 1 (ot 74)),
 oo 76 (.len (ot 75)),
 oo 77 (.mov (.cst (.d (.int .i64 0))))])
 (.post [5,7,27,28,29] [0,1,2,3,4,5,6,7,8,9]
 (.block 6
 (.keep [5,7,27,28,29,75,76,77] [0,1,2,3,4,5,6]
 (.loop
 (.post [5,7,27,28,29,75,76,77] [7,8,9]
 (.seq
 (.reg [] [oo 78 (.cmp .lss (ot 77) (ot 76))])
 (.seq
 (.cond (ot 78)
 .skip
 (.exit 6))
 (.seq
 (.block 7
 (.seq
 (.reg [7] [oo 79 (.ixa 8 (ot 75) (ot 77)),
 oo 80 (.ld true 8 (ot 79)),
 oo 14 (.alloc 7 [(.d (.int .i64 0)),(.d (.int .i64 0)),(.d (.int .i64 0)),(.d (.int .i64 0)),(.d (.int .i64 0)),(.d (.int .i64 0)),(.d (.int .i64 0)),(.d (.int .i64 0))]),
 ⟨none,.st 8 (ot 14) (ot 80),none⟩])
 (.asdat 14 (.regd [8,9] [oo 81 (.mov (ot 5)),
 oo 82 (.fad 0 (ot 14)),
 oo 83 (.ld false 1 (ot 82)),
 oo 84 (.bsl 8 3 1 1 [(.int .i64 0)] [(0,(ot 83))]),
 oo 85 (.fad 1 (ot 14)),
 oo 86 (.sla 7 (ot 85) none none),
 oo 87 (.app 9 3 1 8 (ot 84) (ot 86)),
 oo 88 (.call 148 [(.cst (.d (.str [115,101,97,115,111,110]))),(ot 87)]),
 oo 89 (.cat (ot 81) (ot 88)),
 oo 5 (.mov (ot 89))] [(0,1),(0,2),(0,3),(0,4),(1,4),(2,4),(3,4),(0,5),(1,5),(2,5),(3,5),(0,6),(0,7)]))))
 (.reg [] [oo 90 (.arith .add .i64 (ot 77) (.cst (.d (.int .i64 1)))),
 oo 77 (.mov (ot 90))]))))))))))
 (.seq
 (.reg [] [oo 91 (.fad 2 (ot 7)),
 oo 92 (.fad 3 (ot 91)),
 oo 93 (.ld false 1 (ot 92)),
 oo 94 (.len (ot 93)),
 oo 95 (.mov (.cst (.d (.int .i64 0))))])
 (.post [5,27,28,29] [0,1,2,3,4,5,6,7,8,9,10,11]
 (.block 8
 (.keep [5,27,28,29,93,94,95] [0,1,2,3,4,5,6,7,8,9]
 (.loop
 (.post [5,27,28,29,93,94,95] [10,11]
 (.seq
 (.reg [] [oo 96 (.cmp .lss (ot 95) (ot 94))])
 (.seq
 (.cond (ot 96)
 .skip
 (.exit 8))
 (.seq
 (.block 9
 (.seq
 (.reg [10] [oo 97 (.ixa 2 (ot 93) (ot 95)),
 oo 98 (.ld true 2 (ot 97)),
 oo 16 (.alloc 10 [(.d (.int .i64 0)),(.d (.int .i64 0))]),
 ⟨none,.st 2 (ot 16) (ot 98),none⟩])
 (.reg [11] [oo 99 (.mov (ot 5)),
 oo 100 (.fad 0 (ot 16)),
 oo 101 (.ld false 1 (ot 100)),
 oo 102 (.fad 1 (ot 16)),
 oo 103 (.ld false 1 (ot 102)),
 oo 104 (.bsl 11 3 1 2 [(.int .i64 0),(.int .i64 0)] [(0,(ot 101)),(1,(ot 103))]),
 oo 105 (.call 148 [(.cst (.d (.str [98,108,111,99,107]))),(ot 104)]),
 oo 106 (.cat (ot 99) (ot 105)),
 oo 5 (.mov (ot 106))])))
 (.reg [] [oo 107 (.arith .add .i64 (ot 95) (.cst (.d (.int .i64 1)))),
 oo 95 (.mov (ot 107))])))))))))))))))
 (.reg [] [oo 108 (.arith .add .i64 (ot 29) (.cst (.d (.int .i64 1)))),
 oo 29 (.mov (ot 108))]))))))))))
 (.seq
 (.reg [] [oo 109 (.mov (ot 5)),
 oo 2 (.mov (ot 109)),
 oo 3 (.mov (.cst (.d (.int .i64 0))))])
 .ret)))))⟩
def tx92:AFun:=⟨7,42,[.cell 0 2 true],
 (.seq
 (.reg [0] [oo 0 (.alloc 0 [(.d (.int .i64 0)),(.nils 6)])])
 (.seq
 (.reg [1] [oo 1 (.call 162 []),
 oo 2 (.build [(.d (.int .i64 0)),(.d (.int .i64 0)),(.nils 1),(.nils 1),(.nils 8),(.nils 2)] [(0,1,(.cst (.d (.int .i64 0)))),(1,1,(.cst (.d (.int .i64 (-10))))),(2,4,(ot 1))]),
 oo 3 (.call 95 []),
 oo 4 (.build [(.d (.int .i64 0)),(.d (.int .i64 0)),(.nils 1),(.nils 1),(.nils 8),(.nils 2)] [(0,1,(.cst (.d (.int .i64 20)))),(1,1,(.cst (.d (.int .i64 5)))),(2,4,(ot 3))]),
 oo 5 (.bsl 1 150 6 2 [(.agg [(.int .i64 0),(.int .i64 0),(.slice 1 []),(.slice 1 []),(.slice 8 []),(.slice 2 [])]),(.agg [(.int .i64 0),(.int .i64 0),(.slice 1 []),(.slice 1 []),(.slice 8 []),(.slice 2 [])])] [(0,(ot 2)),(1,(ot 4))]),
 oo 6 (.build [(.d (.int .i64 0)),(.nils 6)] [(0,1,(.cst (.d (.int .i64 10)))),(1,1,(ot 5))]),
 ⟨none,.st 2 (ot 0) (ot 6),none⟩])
 .ret))⟩
def tx93:AFun:=⟨5,41,[.cell 2 3 true],
 (.seq
 (.reg [0] [oo 2 (.alloc 0 [(.d (.int .i64 0)),(.d (.int .i64 0)),(.nils 1)])])
 (.seq
 (.reg [] [oo 3 (.mov (ot 0)),
 oo 4 (.build [(.d (.int .i64 0)),(.d (.int .i64 0)),(.nils 1)] [(0,1,(.cst (.d (.int .i64 18000)))),(1,1,(.cst (.d (.int .i64 3600)))),(2,1,(ot 3))]),
 ⟨none,.st 3 (ot 2) (ot 4),none⟩])
 .ret))⟩
def tx94:AFun:={ ir94 with heap:=40 }
def tx95:AFun:=⟨8,45,[.cell 0 4 true],
 (.seq
 (.reg [0] [oo 0 (.alloc 0 [(.nils 1),(.nils 1),(.nils 8),(.nils 2)])])
 (.seq
 (.reg [1,2,3,4] [oo 1 (.bsl 1 3 1 1 [(.int .i64 0)] [(0,(.cst (.d (.int .i64 80))))]),
 oo 2 (.build [(.d (.int .i64 0)),(.d (.int .i64 0))] []),
 oo 3 (.bsl 2 194 2 1 [(.agg [(.int .i64 0),(.int .i64 0)])] [(0,(ot 2))]),
 oo 4 (.bsl 3 187 1 1 [(.slice 2 [])] [(0,(ot 3))]),
 oo 5 (.build [(.d (.int .i64 0)),(.d (.int .i64 0)),(.d (.int .i64 0)),(.d (.int .i64 0)),(.d (.int .i64 0)),(.d (.int .i64 0)),(.d (.int .i64 0)),(.d (.int .i64 0))] []),
 oo 6 (.bsl 4 198 8 1 [(.agg [(.int .i64 0),(.int .i64 0),(.int .i64 0),(.int .i64 0),(.int .i64 0),(.int .i64 0),(.int .i64 0),(.int .i64 0)])] [(0,(ot 5))]),
 oo 7 (.build [(.nils 1),(.nils 1),(.nils 8),(.nils 2)] [(0,1,(ot 1)),(1,1,(ot 4)),(2,1,(ot 6))]),
 ⟨none,.st 4 (ot 0) (ot 7),none⟩])
 .ret))⟩
def tx96:AFun:={ ir96 with heap:=40 }
def tx97:AFun:={ jr97 with heap:=40 }
def tx98:AFun:={ jr98 with heap:=42 }
def tx99:AFun:={ jr99 with heap:=41 }
def tx100:AFun:={ jr100 with heap:=42 }
def tx101:AFun:={ jr101 with heap:=40 }
def tx102:AFun:={ jr102 with heap:=42 }
def tx103:AFun:={ jr103 with heap:=40 }
def tx104:AFun:={ jr104 with heap:=42 }
def tx105:AFun:=⟨49,43,[.tmp 4],
 (.seq
 (.reg [0] [oo 3 (.cbx 0 1 (ot 1)),
 oo 4 (.mov (.cst (.d (.int .i64 0))))])
 (.seq
 (.seq
 (.reg [] [oo 10 (.mov (ot 0)),
 oo 11 (.len (ot 10)),
 oo 12 (.call 99 [(ot 11),(.cst (.d (.int .i64 8)))]),
 oo 5 (.mov (ot 12))])
 (.seq
 (.reg [] [oo 13 (.mov (ot 5)),
 oo 14 (.cmp .neq (ot 13) (.cst (.d (.int .i64 0))))])
 (.cond (ot 14)
 (.seq
 (.reg [] [oo 15 (.mov (ot 5)),
 oo 4 (.mov (ot 15))])
 .ret)
 .skip)))
 (.seq
 (.seq
 (.reg [] [oo 16 (.mov (ot 0)),
 oo 17 (.len (ot 16)),
 oo 18 (.mov (.cst (.d (.int .i64 0))))])
 (.post [] [0,1,2]
 (.block 0
 (.keep [0,3,16,17,18] [0]
 (.loop
 (.post [0,3,16,17,18] [1,2]
 (.seq
 (.reg [] [oo 19 (.cmp .lss (ot 18) (ot 17))])
 (.seq
 (.cond (ot 19)
 .skip
 (.exit 0))
 (.seq
 (.block 1
 (.seq
 (.reg [1] [oo 20 (.mov (ot 18)),
 oo 21 (.ixa 8 (ot 16) (ot 18)),
 oo 22 (.ld true 8 (ot 21)),
 oo 7 (.alloc 1 [(.d (.int .i64 0)),(.d (.int .i64 0)),(.d (.int .i64 0)),(.d (.int .i64 0)),(.d (.int .i64 0)),(.d (.int .i64 0)),(.d (.int .i64 0)),(.d (.int .i64 0))]),
 oo 6 (.mov (ot 20)),
 ⟨none,.st 8 (ot 7) (ot 22),none⟩])
 (.seq
 (.asdat 7 (.reg [] [oo 23 (.fad 1 (ot 7)),
 oo 24 (.sla 7 (ot 23) none none),
 oo 25 (.mkf (.func 165) [] [(ot 3)]),
 oo 26 (.call 164 [(ot 24),(ot 25)]),
 oo 8 (.mov (ot 26))]))
 (.seq
 (.regd [2] [oo 27 (.fad 0 (ot 7)),
 oo 28 (.ld false 1 (ot 27)),
 oo 29 (.call 109 [(ot 28),(.cst (.d (.int .i64 0))),(.cst (.d (.int .i64 363)))]),
 oo 30 (.mov (ot 8)),
 oo 31 (.call 111 [(ot 30),(.cst (.d (.int .i64 10)))]),
 oo 32 (.mov (ot 6)),
 oo 33 (.fad 0 (ot 7)),
 oo 34 (.ld false 1 (ot 33)),
 oo 35 (.mov (ot 0)),
 oo 36 (.mov (ot 6)),
 oo 37 (.arith .sub .i64 (ot 36) (.cst (.d (.int .i64 1)))),
 oo 38 (.maxi (.cst (.d (.int .i64 0))) (ot 37)),
 oo 39 (.ixa 8 (ot 35) (ot 38)),
 oo 40 (.fad 0 (ot 39)),
 oo 41 (.ld false 1 (ot 40)),
 oo 42 (.call 163 [(ot 32),(ot 34),(ot 41)]),
 oo 43 (.bsl 2 34 1 3 [(.int .i64 0),(.int .i64 0),(.int .i64 0)] [(0,(ot 29)),(1,(ot 31)),(2,(ot 42))]),
 oo 44 (.call 96 [(ot 43)]),
 oo 9 (.mov (ot 44))] [(0,3),(1,3),(2,3),(0,5),(1,5),(2,5),(3,5),(4,5),(0,6),(1,6),(2,6),(3,6),(4,6),(5,6),(0,7),(1,7),(2,7),(3,7),(4,7),(5,7),(0,8),(1,8),(2,8),(3,8),(4,8),(5,8),(6,8),(7,8),(0,9),(1,9),(2,9),(3,9),(4,9),(5,9),(6,9),(7,9),(8,9),(0,10),(1,10),(2,10),(3,10),(4,10),(5,10),(6,10),(7,10),(8,10),(0,11),(1,11),(2,11),(3,11),(4,11),(5,11),(6,11),(7,11),(8,11),(0,12),(1,12),(2,12),(3,12),(4,12),(5,12),(6,12),(7,12),(0,13),(1,13),(2,13),(3,13),(4,13),(5,13),(6,13),(7,13),(0,14),(1,14),(2,14),(3,14),(4,14),(5,14),(6,14),(7,14)])
 (.seq
 (.reg [] [oo 45 (.mov (ot 9)),
 oo 46 (.cmp .neq (ot 45) (.cst (.d (.int .i64 0))))])
 (.cond (ot 46)
 (.seq
 (.reg [] [oo 47 (.mov (ot 9)),
 oo 4 (.mov (ot 47))])
 .ret)
 .skip))))))
 (.reg [] [oo 48 (.arith .add .i64 (ot 18) (.cst (.d (.int .i64 1)))),
 oo 18 (.mov (ot 48))]))))))))))
 (.seq
 (.reg [] [oo 4 (.mov (.cst (.d (.int .i64 0))))])
 .ret))))⟩
def tx106:AFun:={ jr106 with heap:=42 }
def tx109:AFun:={ ir109 with heap:=40 }
def tx110:AFun:={ jr110 with heap:=40 }
def tx111:AFun:={ ir111 with heap:=40 }
def tx112:AFun:={ jr112 with heap:=40 }
def tx113:AFun:={ jr113 with heap:=43 }
def tx117:AFun:=⟨11,42,[.cell 2 6 true],
 (.seq
 (.reg [0,1] [oo 1 (.cbx 0 2 (ot 0)),
 oo 2 (.alloc 1 [(.d (.int .i64 0)),(.d (.int .i64 0)),(.nils 1),(.nils 1),(.nils 8),(.nils 2)])])
 (.seq
 (.reg [] [oo 3 (.fad 1 (ot 1)),
 oo 4 (.ld false 1 (ot 3)),
 oo 5 (.fad 1 (ot 1)),
 oo 6 (.ld false 1 (ot 5)),
 oo 7 (.len (ot 6)),
 oo 8 (.arith .sub .i64 (ot 7) (.cst (.d (.int .i64 1)))),
 oo 9 (.ixa 6 (ot 4) (ot 8)),
 oo 10 (.ld true 6 (ot 9)),
 ⟨none,.st 6 (ot 2) (ot 10),none⟩])
 .ret))⟩
def tx118:AFun:=⟨29,42,[.tmp 4],
 (.seq
 (.reg [0] [oo 2 (.cbx 0 2 (ot 0)),
 oo 4 (.mov (.cst (.nils 6)))])
 (.seq
 (.reg [1] [oo 7 (.mov (ot 1)),
 oo 8 (.msl 1 150 6 112 (.agg [(.int .i64 0),(.int .i64 0),(.slice 1 []),(.slice 1 []),(.slice 8 []),(.slice 2 [])]) (ot 7)),
 oo 5 (.mov (ot 8))])
 (.seq
 (.reg [] [oo 9 (.mov (ot 5)),
 oo 10 (.fad 1 (ot 2)),
 oo 11 (.ld false 1 (ot 10)),
 oo 12 (.copy 6 (ot 9) (ot 11))])
 (.seq
 (.seq
 (.reg [] [oo 13 (.mov (ot 1)),
 oo 14 (.mov (.cst (.d (.int .i64 0))))])
 (.post [5] [0,1]
 (.block 0
 (.keep [5,13,14] [0,1]
 (.loop
 (.post [5,13,14] []
 (.seq
 (.reg [] [oo 15 (.cmp .lss (ot 14) (ot 13))])
 (.seq
 (.cond (ot 15)
 .skip
 (.exit 0))
 (.seq
 (.block 1
 (.seq
 (.reg [] [oo 16 (.mov (ot 14)),
 oo 6 (.mov (ot 16))])
 (.reg [] [oo 17 (.mov (ot 5)),
 oo 18 (.mov (ot 6)),
 oo 19 (.mov (ot 5)),
 oo 20 (.mov (ot 6)),
 oo 21 (.ixa 6 (ot 19) (ot 20)),
 oo 22 (.fad 2 (ot 21)),
 oo 23 (.ld true 4 (ot 22)),
 oo 24 (.call 119 [(ot 23)]),
 oo 25 (.ixa 6 (ot 17) (ot 18)),
 oo 26 (.fad 2 (ot 25)),
 ⟨none,.st 4 (ot 26) (ot 24),none⟩])))
 (.reg [] [oo 27 (.arith .add .i64 (ot 14) (.cst (.d (.int .i64 1)))),
 oo 14 (.mov (ot 27))]))))))))))
 (.seq
 (.reg [] [oo 28 (.mov (ot 5)),
 oo 4 (.mov (ot 28))])
 .ret)))))⟩
def tx119:AFun:=⟨16,42,[.cell 2 4 true],
 (.seq
 (.reg [0,1] [oo 1 (.cbx 0 4 (ot 0)),
 oo 2 (.alloc 1 [(.nils 1),(.nils 1),(.nils 8),(.nils 2)])])
 (.seq
 (.regd [] [oo 3 (.fad 0 (ot 1)),
 oo 4 (.ld false 1 (ot 3)),
 oo 5 (.call 141 [(ot 4)]),
 oo 6 (.fad 1 (ot 1)),
 oo 7 (.ld false 1 (ot 6)),
 oo 8 (.call 173 [(ot 7),(.cst (.d (.fn (.func 174) [])))]),
 oo 9 (.fad 2 (ot 1)),
 oo 10 (.ld false 1 (ot 9)),
 oo 11 (.call 176 [(ot 10)]),
 oo 12 (.fad 3 (ot 1)),
 oo 13 (.ld false 1 (ot 12)),
 oo 14 (.call 177 [(ot 13)]),
 oo 15 (.build [(.nils 1),(.nils 1),(.nils 8),(.nils 2)] [(0,1,(ot 5)),(1,1,(ot 8)),(2,1,(ot 11)),(3,1,(ot 14))]),
 ⟨none,.st 4 (ot 2) (ot 15),none⟩] [(0,3),(1,3),(2,3),(0,4),(1,4),(2,4),(0,6),(1,6),(2,6),(3,6),(4,6),(5,6),(0,7),(1,7),(2,7),(3,7),(4,7),(5,7),(0,9),(1,9),(2,9),(3,9),(4,9),(5,9),(6,9),(7,9),(8,9),(0,10),(1,10),(2,10),(3,10),(4,10),(5,10),(6,10),(7,10),(8,10)])
 .ret))⟩
def tx120:AFun:=⟨15,43,[.tmp 6],
 (.seq
 (.reg [0,1] [oo 3 (.cbx 0 2 (ot 0)),
 oo 4 (.cbx 1 3 (ot 1)),
 oo 6 (.mov (.cst (.d (.int .i64 0))))])
 (.seq
 (.regd [2] [oo 7 (.ld true 2 (ot 3)),
 oo 8 (.call 31 [(ot 7)]),
 oo 9 (.ld true 3 (ot 4)),
 oo 10 (.call 73 [(ot 9)]),
 oo 11 (.mov (ot 2)),
 oo 12 (.call 131 [(ot 11)]),
 oo 13 (.bsl 2 34 1 3 [(.int .i64 0),(.int .i64 0),(.int .i64 0)] [(0,(ot 8)),(1,(ot 10)),(2,(ot 12))]),
 oo 14 (.call 96 [(ot 13)]),
 oo 6 (.mov (ot 14))] [(0,2),(1,2),(0,4),(1,4),(2,4),(3,4)])
 .ret))⟩
def tx121:AFun:=⟨77,46,[.tmp 6,.cell 7 3 true,.tmp 8],
 (.seq
 (.reg [0,1,2] [oo 3 (.cbx 0 2 (ot 0)),
 oo 4 (.cbx 1 3 (ot 1)),
 oo 6 (.mov (.cst (.nils 5))),
 oo 7 (.alloc 2 [(.d (.int .i64 0)),(.d (.int .i64 0)),(.d (.int .i64 0))]),
 oo 8 (.mov (.cst (.d (.int .i64 0))))])
 (.seq
 (.reg [] [oo 16 (.ld true 2 (ot 3)),
 oo 17 (.fad 0 (ot 4)),
 oo 18 (.ld false 1 (ot 17)),
 oo 19 (.fad 1 (ot 4)),
 oo 20 (.ld false 1 (ot 19)),
 oo 21 (.fad 2 (ot 4)),
 oo 22 (.ld false 1 (ot 21)),
 oo 23 (.len (ot 22)),
 oo 24 (.call 178 [(ot 16),(ot 18),(ot 20),(ot 23)]),
 oo 15 (.mov (ot 24)),
 oo 25 (.ext 0 (ot 15)),
 oo 26 (.ext 1 (ot 15)),
 oo 9 (.mov (ot 25)),
 oo 10 (.mov (ot 26))])
 (.seq
 (.seq
 (.reg [3] [oo 27 (.ld true 3 (ot 4)),
 oo 28 (.call 133 [(ot 27)]),
 oo 29 (.mov (ot 10)),
 oo 30 (.bsl 3 34 1 2 [(.int .i64 0),(.int .i64 0)] [(0,(ot 28)),(1,(ot 29))]),
 oo 31 (.call 96 [(ot 30)]),
 oo 10 (.mov (ot 31))])
 (.seq
 (.reg [] [oo 32 (.mov (ot 10)),
 oo 33 (.cmp .neq (ot 32) (.cst (.d (.int .i64 0))))])
 (.cond (ot 33)
 (.seq
 (.reg [] [oo 34 (.build [(.d (.int .i64 0)),(.d (.int .i64 0)),(.d (.int .i64 0))] []),
 oo 35 (.mov (ot 10)),
 oo 6 (.mov (.cst (.nils 5))),
 ⟨none,.st 3 (ot 7) (ot 34),none⟩,
 oo 8 (.mov (ot 35))])
 .ret)
 .skip)))
 (.seq
 (.reg [4] [oo 36 (.mov (ot 2)),
 oo 37 (.build [(.d (.int .i64 0)),(.d (.int .i64 0)),(.d (.int .i64 0))] [(2,1,(ot 36))]),
 oo 11 (.alloc 4 [(.d (.int .i64 0)),(.d (.int .i64 0)),(.d (.int .i64 0))]),
 ⟨none,.st 3 (ot 11) (ot 37),none⟩])
 (.seq
 (.reg [] [oo 38 (.ld true 2 (ot 3)),
 oo 39 (.ld true 3 (ot 4)),
 oo 40 (.mov (ot 9)),
 oo 41 (.mov (ot 2)),
 oo 42 (.calli 180 [(ot 38),(ot 39),(ot 40),(ot 41)]),
 oo 43 (.calli 179 [(ot 42)]),
 oo 12 (.mov (ot 43))])
 (.seq
 (.seq
 (.reg [] [oo 44 (.mov (ot 12)),
 oo 45 (.len (ot 44)),
 oo 46 (.mov (.cst (.d (.int .i64 0))))])
 (.post [7,11,12] [0,1,2,3,4,5]
 (.block 0
 (.keep [7,11,12,44,45,46] [0,1,2,3,4]
 (.loop
 (.post [7,11,12,44,45,46] [5]
 (.seq
 (.reg [] [oo 47 (.cmp .lss (ot 46) (ot 45))])
 (.seq
 (.cond (ot 47)
 .skip
 (.exit 0))
 (.seq
 (.block 1
 (.seq
 (.reg [5] [oo 48 (.ixa 5 (ot 44) (ot 46)),
 oo 49 (.ld true 5 (ot 48)),
 oo 14 (.alloc 5 [(.d (.int .i64 0)),(.d (.int .i64 0)),(.d (.int .i64 0)),(.d (.int .i64 0)),(.d (.int .i64 0))]),
 ⟨none,.st 5 (ot 14) (ot 49),none⟩])
 (.reg [] [oo 50 (.fad 0 (ot 11)),
 oo 51 (.ld false 1 (ot 50)),
 oo 52 (.fad 3 (ot 14)),
 oo 53 (.ld false 1 (ot 52)),
 oo 54 (.arith .add .i64 (ot 51) (ot 53)),
 oo 55 (.fad 1 (ot 11)),
 oo 56 (.ld false 1 (ot 55)),
 oo 57 (.fad 4 (ot 14)),
 oo 58 (.ld false 1 (ot 57)),
 oo 59 (.arith .add .i64 (ot 56) (ot 58)),
 oo 60 (.fad 2 (ot 11)),
 oo 61 (.ld false 1 (ot 60)),
 oo 62 (.fad 3 (ot 14)),
 oo 63 (.ld false 1 (ot 62)),
 oo 64 (.arith .add .i64 (ot 61) (ot 63)),
 oo 65 (.build [(.d (.int .i64 0)),(.d (.int .i64 0)),(.d (.int .i64 0))] [(0,1,(ot 54)),(1,1,(ot 59)),(2,1,(ot 64))]),
 ⟨none,.st 3 (ot 11) (ot 65),none⟩])))
 (.reg [] [oo 66 (.arith .add .i64 (ot 46) (.cst (.d (.int .i64 1)))),
 oo 46 (.mov (ot 66))]))))))))))
 (.seq
 (.seq
 (.reg [] [oo 67 (.fad 1 (ot 11)),
 oo 68 (.ld false 1 (ot 67)),
 oo 69 (.fad 1 (ot 11)),
 oo 70 (.ld false 1 (ot 69)),
 oo 71 (.neg .i64 (ot 70)),
 oo 72 (.maxi (ot 68) (ot 71)),
 oo 73 (.cmp .gtr (ot 72) (.cst (.d (.int .i64 1000000000000))))])
 (.cond (ot 73)
 (.seq
 (.reg [] [oo 74 (.build [(.d (.int .i64 0)),(.d (.int .i64 0)),(.d (.int .i64 0))] []),
 oo 6 (.mov (.cst (.nils 5))),
 ⟨none,.st 3 (ot 7) (ot 74),none⟩,
 oo 8 (.mov (.cst (.d (.int .i64 4))))])
 .ret)
 .skip))
 (.seq
 (.regd [] [oo 75 (.mov (ot 12)),
 oo 76 (.ld true 3 (ot 11)),
 oo 6 (.mov (ot 75)),
 ⟨none,.st 3 (ot 7) (ot 76),none⟩,
 oo 8 (.mov (.cst (.d (.int .i64 0))))] [(0,1),(1,2)])
 .ret))))))))⟩
def tx131:AFun:=⟨5,40,[.tmp 2],
 (.seq
 (.reg [] [oo 2 (.mov (.cst (.d (.int .i64 0))))])
 (.seq
 (.reg [] [oo 3 (.mov (ot 0)),
 oo 4 (.call 109 [(ot 3),(.cst (.d (.int .i64 0))),(.cst (.d (.int .i64 100000000)))]),
 oo 2 (.mov (ot 4))])
 .ret))⟩
def tx132:AFun:=⟨11,42,[.cell 2 3 true],
 (.seq
 (.reg [0,1] [oo 1 (.cbx 0 3 (ot 0)),
 oo 2 (.alloc 1 [(.d (.int .i64 0)),(.d (.int .i64 0)),(.d (.int .i64 0))])])
 (.seq
 (.reg [] [oo 3 (.fad 0 (ot 1)),
 oo 4 (.ld false 1 (ot 3)),
 oo 5 (.fad 1 (ot 1)),
 oo 6 (.ld false 1 (ot 5)),
 oo 7 (.fad 2 (ot 1)),
 oo 8 (.ld false 1 (ot 7)),
 oo 9 (.len (ot 8)),
 oo 10 (.build [(.d (.int .i64 0)),(.d (.int .i64 0)),(.d (.int .i64 0))] [(0,1,(ot 4)),(1,1,(ot 6)),(2,1,(ot 9))]),
 ⟨none,.st 3 (ot 2) (ot 10),none⟩])
 .ret))⟩
def tx133:AFun:=⟨7,41,[.tmp 2],
 (.seq
 (.reg [0] [oo 1 (.cbx 0 3 (ot 0)),
 oo 2 (.mov (.cst (.d (.int .i64 0))))])
 (.seq
 (.reg [] [oo 3 (.fad 2 (ot 1)),
 oo 4 (.ld false 1 (ot 3)),
 oo 5 (.call 186 [(ot 4),(.cst (.d (.int .i64 (-1))))]),
 oo 6 (.call 111 [(ot 5),(.cst (.d (.int .i64 32)))]),
 oo 2 (.mov (ot 6))])
 .ret))⟩
def tx134:AFun:=⟨24,42,[.tmp 4,.tmp 5],
 (.seq
 (.reg [0,1] [oo 2 (.cbx 0 2 (ot 0)),
 oo 3 (.cbx 1 6 (ot 1)),
 oo 4 (.mov (.cst (.nils 1))),
 oo 5 (.mov (.cst (.d (.int .i64 0))))])
 (.seq
 (.regd [] [oo 9 (.ld true 2 (ot 2)),
 oo 10 (.fad 0 (ot 3)),
 oo 11 (.ld false 1 (ot 10)),
 oo 12 (.fad 2 (ot 3)),
 oo 13 (.ld false 1 (ot 12)),
 oo 14 (.ld true 6 (ot 3)),
 oo 15 (.call 145 [(ot 14)]),
 oo 16 (.call 178 [(ot 9),(ot 11),(ot 13),(ot 15)]),
 oo 8 (.mov (ot 16)),
 oo 17 (.ext 0 (ot 8)),
 oo 18 (.ext 1 (ot 8)),
 oo 6 (.mov (ot 17)),
 oo 7 (.mov (ot 18))] [(0,1),(0,2),(0,3),(1,3),(2,3),(0,4),(1,4),(2,4),(0,5),(1,5),(2,5),(3,5),(4,5),(0,6),(1,6),(2,6),(3,6),(4,6),(9,10),(10,11)])
 (.seq
 (.seq
 (.reg [] [oo 19 (.mov (ot 7)),
 oo 20 (.cmp .neq (ot 19) (.cst (.d (.int .i64 0))))])
 (.cond (ot 20)
 (.seq
 (.reg [] [oo 21 (.mov (ot 7)),
 oo 4 (.mov (.cst (.nils 1))),
 oo 5 (.mov (ot 21))])
 .ret)
 .skip))
 (.seq
 (.reg [] [oo 22 (.mov (ot 6)),
 oo 23 (.calli 187 [(ot 22),(.cst (.d (.fn (.func 188) [])))]),
 oo 4 (.mov (ot 23)),
 oo 5 (.mov (.cst (.d (.int .i64 0))))])
 .ret))))⟩
def tx135:AFun:=⟨55,43,[.tmp 4],
 (.seq
 (.reg [0,1] [oo 2 (.box 0 2 (ot 0)),
 oo 3 (.cbx 1 4 (ot 1)),
 oo 4 (.mov (.cst (.d (.int .i64 0))))])
 (.seq
 (.seq
 (.reg [] [oo 10 (.fad 0 (ot 3)),
 oo 11 (.ld false 1 (ot 10)),
 oo 12 (.fad 0 (ot 2)),
 oo 13 (.ld false 1 (ot 12)),
 oo 14 (.len (ot 13)),
 oo 15 (.cmp .eql (ot 11) (ot 14))])
 (.cond (ot 15)
 (.seq
 (.seq
 (.reg [] [oo 16 (.fad 1 (ot 3)),
 oo 17 (.ld false 1 (ot 16)),
 oo 18 (.cmp .eql (ot 17) (.cst (.d (.int .i64 0))))])
 (.cond (ot 18)
 (.seq
 (.reg [] [oo 4 (.mov (.cst (.d (.int .i64 0))))])
 .ret)
 .skip))
 (.seq
 (.reg [] [oo 4 (.mov (.cst (.d (.int .i64 2400001))))])
 .ret))
 .skip))
 (.seq
 (.seq
 (.reg [] [oo 20 (.fad 1 (ot 2)),
 oo 21 (.ld false 1 (ot 20)),
 oo 22 (.ld true 4 (ot 3)),
 oo 23 (.lkps [0,0,0,1] (.int .i64 0) true (ot 21) (ot 22)),
 oo 19 (.mov (ot 23)),
 oo 24 (.ext 0 (ot 19)),
 oo 25 (.ext 1 (ot 19)),
 oo 5 (.mov (ot 24)),
 oo 6 (.mov (ot 25))])
 (.seq
 (.reg [] [oo 26 (.mov (ot 6))])
 (.cond (ot 26)
 (.seq
 (.reg [] [oo 27 (.mov (ot 5)),
 oo 4 (.mov (ot 27))])
 .ret)
 .skip)))
 (.seq
 (.regd [] [oo 28 (.ld true 2 (ot 2)),
 oo 29 (.ld true 4 (ot 3)),
 oo 30 (.call 137 [(ot 29)]),
 oo 31 (.calli 135 [(ot 28),(ot 30)]),
 oo 7 (.mov (ot 31))] [(0,1),(0,2)])
 (.seq
 (.seq
 (.reg [2] [oo 33 (.ld true 4 (ot 3)),
 oo 34 (.call 136 [(ot 33)]),
 oo 32 (.mov (ot 34)),
 oo 35 (.ext 0 (ot 32)),
 oo 36 (.ext 1 (ot 32)),
 oo 8 (.alloc 2 [(.d (.int .i64 0)),(.d (.int .i64 0)),(.d (.int .i64 0)),(.d (.bool false))]),
 ⟨none,.st 4 (ot 8) (ot 35),none⟩,
 oo 9 (.mov (ot 36))])
 (.seq
 (.reg [] [oo 37 (.mov (ot 9))])
 (.cond (ot 37)
 (.regd [] [oo 38 (.mov (ot 7)),
 oo 39 (.fad 0 (ot 2)),
 oo 40 (.ld false 1 (ot 39)),
 oo 41 (.fad 0 (ot 3)),
 oo 42 (.ld false 1 (ot 41)),
 oo 43 (.ixa 1 (ot 40) (ot 42)),
 oo 44 (.ld false 1 (ot 43)),
 oo 45 (.ld true 2 (ot 2)),
 oo 46 (.ld true 4 (ot 8)),
 oo 47 (.calli 135 [(ot 45),(ot 46)]),
 oo 48 (.arith .add .i64 (ot 44) (ot 47)),
 oo 49 (.mini (ot 38) (ot 48)),
 oo 7 (.mov (ot 49))] [(0,1),(0,2),(0,3),(1,3),(2,3),(0,4),(1,4),(2,4),(0,5),(0,6),(0,7),(1,7),(2,7),(3,7),(4,7),(5,7),(6,7),(0,8),(1,8),(2,8),(3,8),(4,8),(5,8),(6,8),(7,8),(0,9),(1,9),(2,9),(3,9),(4,9),(5,9),(6,9),(0,10)])
 .skip)))
 (.seq
 (.reg [] [oo 50 (.fad 1 (ot 2)),
 oo 51 (.ld false 1 (ot 50)),
 oo 52 (.ld true 4 (ot 3)),
 oo 53 (.mov (ot 7)),
 ⟨none,.mpus [0,0,0,1] (ot 51) (ot 52) (ot 53),none⟩])
 (.seq
 (.reg [] [oo 54 (.mov (ot 7)),
 oo 4 (.mov (ot 54))])
 .ret)))))))⟩
def tx136:AFun:=⟨30,43,[.cell 2 4 true,.tmp 3],
 (.seq
 (.reg [0,1] [oo 1 (.cbx 0 4 (ot 0)),
 oo 2 (.alloc 1 [(.d (.int .i64 0)),(.d (.int .i64 0)),(.d (.int .i64 0)),(.d (.bool false))]),
 oo 3 (.mov (.cst (.d (.bool false))))])
 (.seq
 (.reg [2] [oo 5 (.fad 0 (ot 1)),
 oo 6 (.ld false 1 (ot 5)),
 oo 7 (.arith .add .i64 (ot 6) (.cst (.d (.int .i64 1)))),
 oo 8 (.fad 1 (ot 1)),
 oo 9 (.ld false 1 (ot 8)),
 oo 10 (.arith .sub .i64 (ot 9) (.cst (.d (.int .i64 1)))),
 oo 11 (.fad 2 (ot 1)),
 oo 12 (.ld false 1 (ot 11)),
 oo 13 (.build [(.d (.int .i64 0)),(.d (.int .i64 0)),(.d (.int .i64 0)),(.d (.bool false))] [(0,1,(ot 7)),(1,1,(ot 10)),(2,1,(ot 12)),(3,1,(.cst (.d (.bool true))))]),
 oo 4 (.alloc 2 [(.d (.int .i64 0)),(.d (.int .i64 0)),(.d (.int .i64 0)),(.d (.bool false))]),
 ⟨none,.st 4 (ot 4) (ot 13),none⟩])
 (.seq
 (.seq
 (.reg [] [oo 14 (.fad 3 (ot 1)),
 oo 15 (.ld false 1 (ot 14)),
 oo 16 (.not (ot 15))])
 (.cond (ot 16)
 (.reg [] [oo 17 (.fad 2 (ot 4)),
 oo 18 (.ld false 1 (ot 17)),
 oo 19 (.arith .sub .i64 (ot 18) (.cst (.d (.int .i64 1)))),
 oo 20 (.fad 2 (ot 4)),
 ⟨none,.st 1 (ot 20) (ot 19),none⟩])
 .skip))
 (.seq
 (.regd [] [oo 21 (.ld true 4 (ot 4)),
 oo 22 (.fad 1 (ot 4)),
 oo 23 (.ld false 1 (ot 22)),
 oo 24 (.cmp .geq (ot 23) (.cst (.d (.int .i64 0)))),
 oo 25 (.mov (ot 24)),
 ⟨some 26,.fad 2 (ot 4),some (25,true)⟩,
 ⟨some 27,.ld false 1 (ot 26),some (25,true)⟩,
 ⟨some 28,.cmp .geq (ot 27) (.cst (.d (.int .i64 0))),some (25,true)⟩,
 oo 29 (.pick (ot 25) (ot 28) (.cst (.d (.bool false)))),
 ⟨none,.st 4 (ot 2) (ot 21),none⟩,
 oo 3 (.mov (ot 29))] [(0,1),(0,2),(0,3),(0,4),(0,5),(0,6),(0,7),(0,8),(5,9),(6,9),(7,9),(8,9)])
 .ret))))⟩
def tx137:AFun:=⟨11,42,[.cell 2 4 true],
 (.seq
 (.reg [0,1] [oo 1 (.cbx 0 4 (ot 0)),
 oo 2 (.alloc 1 [(.d (.int .i64 0)),(.d (.int .i64 0)),(.d (.int .i64 0)),(.d (.bool false))])])
 (.seq
 (.reg [] [oo 3 (.fad 0 (ot 1)),
 oo 4 (.ld false 1 (ot 3)),
 oo 5 (.arith .add .i64 (ot 4) (.cst (.d (.int .i64 1)))),
 oo 6 (.fad 1 (ot 1)),
 oo 7 (.ld false 1 (ot 6)),
 oo 8 (.fad 2 (ot 1)),
 oo 9 (.ld false 1 (ot 8)),
 oo 10 (.build [(.d (.int .i64 0)),(.d (.int .i64 0)),(.d (.int .i64 0)),(.d (.bool false))] [(0,1,(ot 5)),(1,1,(ot 7)),(2,1,(ot 9)),(3,1,(.cst (.d (.bool false))))]),
 ⟨none,.st 4 (ot 2) (ot 10),none⟩])
 .ret))⟩
def tx140:AFun:=⟨25,41,[.tmp 2,.tmp 3],
 (.seq
 (.reg [0] [oo 1 (.cbx 0 3 (ot 0)),
 oo 2 (.mov (.cst (.d (.int .i64 0)))),
 oo 3 (.mov (.cst (.d (.int .i64 0))))])
 (.seq
 (.reg [] [oo 4 (.mov (.cst (.d (.int .i64 0)))),
 oo 5 (.mov (.cst (.d (.int .i64 0))))])
 (.seq
 (.seq
 (.reg [] [oo 8 (.fad 2 (ot 1)),
 oo 9 (.ld false 1 (ot 8)),
 oo 10 (.len (ot 9)),
 oo 11 (.mov (.cst (.d (.int .i64 0))))])
 (.post [4,5] [0]
 (.block 0
 (.keep [4,5,9,10,11] [0]
 (.loop
 (.post [4,5,9,10,11] []
 (.seq
 (.reg [] [oo 12 (.cmp .lss (ot 11) (ot 10))])
 (.seq
 (.cond (ot 12)
 .skip
 (.exit 0))
 (.seq
 (.block 1
 (.seq
 (.reg [] [oo 13 (.ixa 1 (ot 9) (ot 11)),
 oo 14 (.ld false 1 (ot 13)),
 oo 7 (.mov (ot 14))])
 (.seq
 (.seq
 (.reg [] [oo 15 (.mov (ot 7)),
 oo 16 (.cmp .eql (ot 15) (.cst (.d (.int .i64 (-1)))))])
 (.cond (ot 16)
 (.seq
 (.reg [] [oo 17 (.mov (ot 5)),
 oo 18 (.arith .add .i64 (ot 17) (.cst (.d (.int .i64 1)))),
 oo 5 (.mov (ot 18))])
 (.exit 1))
 .skip))
 (.reg [] [oo 19 (.mov (ot 4)),
 oo 20 (.mov (ot 7)),
 oo 21 (.arith .add .i64 (ot 19) (ot 20)),
 oo 4 (.mov (ot 21))]))))
 (.reg [] [oo 22 (.arith .add .i64 (ot 11) (.cst (.d (.int .i64 1)))),
 oo 11 (.mov (ot 22))]))))))))))
 (.seq
 (.reg [] [oo 23 (.mov (ot 4)),
 oo 24 (.mov (ot 5)),
 oo 2 (.mov (ot 23)),
 oo 3 (.mov (ot 24))])
 .ret))))⟩
def tx142:AFun:=⟨8,40,[.tmp 2],
 (.seq
 (.reg [] [oo 2 (.mov (.cst (.d (.int .i64 0))))])
 (.seq
 (.reg [] [oo 3 (.sla 3 (.cst (.gp 0 0)) none none),
 oo 4 (.mov (ot 0)),
 oo 5 (.call 186 [(ot 3),(ot 4)]),
 oo 6 (.not (ot 5)),
 oo 7 (.call 111 [(ot 6),(.cst (.d (.int .i64 3)))]),
 oo 2 (.mov (ot 7))])
 .ret))⟩
def tx143:AFun:=⟨5,40,[.tmp 2],
 (.seq
 (.reg [] [oo 2 (.mov (.cst (.d (.int .i64 0))))])
 (.seq
 (.reg [] [oo 3 (.mov (ot 0)),
 oo 4 (.call 109 [(ot 3),(.cst (.d (.int .i64 (-1)))),(.cst (.d (.int .i64 100000)))]),
 oo 2 (.mov (ot 4))])
 .ret))⟩
def tx144:AFun:=⟨12,41,[.tmp 2],
 (.seq
 (.reg [0] [oo 1 (.cbx 0 3 (ot 0)),
 oo 2 (.mov (.cst (.d (.int .i64 0))))])
 (.seq
 (.reg [] [oo 3 (.fad 0 (ot 1)),
 oo 4 (.ld false 1 (ot 3)),
 oo 5 (.fad 1 (ot 1)),
 oo 6 (.ld false 1 (ot 5)),
 oo 7 (.fad 2 (ot 1)),
 oo 8 (.ld false 1 (ot 7)),
 oo 9 (.len (ot 8)),
 oo 10 (.arith .mul .i64 (ot 6) (ot 9)),
 oo 11 (.arith .add .i64 (ot 4) (ot 10)),
 oo 2 (.mov (ot 11))])
 .ret))⟩
def tx145:AFun:=⟨11,41,[.tmp 2],
 (.seq
 (.reg [0] [oo 1 (.cbx 0 6 (ot 0)),
 oo 2 (.mov (.cst (.d (.int .i64 0))))])
 (.seq
 (.reg [] [oo 3 (.fad 1 (ot 1)),
 oo 4 (.ld false 1 (ot 3)),
 oo 5 (.fad 0 (ot 1)),
 oo 6 (.ld false 1 (ot 5)),
 oo 7 (.arith .sub .i64 (ot 4) (ot 6)),
 oo 8 (.fad 2 (ot 1)),
 oo 9 (.ld false 1 (ot 8)),
 oo 10 (.arith .quo .i64 (ot 7) (ot 9)),
 oo 2 (.mov (ot 10))])
 .ret))⟩
def tx146:AFun:=⟨14,41,[.tmp 3],
 (.seq
 (.reg [] [oo 3 (.mov (.cst (.d (.int .i64 0))))])
 (.seq
 (.regd [0] [oo 4 (.mov (ot 0)),
 oo 5 (.call 112 [(ot 4)]),
 oo 6 (.mov (ot 0)),
 oo 7 (.fad 2 (ot 1)),
 oo 8 (.ld false 1 (ot 7)),
 oo 9 (.arith .rem .i64 (ot 6) (ot 8)),
 oo 10 (.cmp .neq (ot 9) (.cst (.d (.int .i64 0)))),
 oo 11 (.call 111 [(ot 10),(.cst (.d (.int .i64 3)))]),
 oo 12 (.bsl 0 34 1 2 [(.int .i64 0),(.int .i64 0)] [(0,(ot 5)),(1,(ot 11))]),
 oo 13 (.call 96 [(ot 12)]),
 oo 3 (.mov (ot 13))] [(0,2),(1,2),(0,3),(1,3),(2,3),(0,4),(1,4),(2,4),(0,5),(1,5),(0,6),(1,6)])
 .ret))⟩
def tx148:AFun:=⟨12,42,[.tmp 4],
 (.seq
 (.reg [] [oo 4 (.mov (.cst (.d (.str []))))])
 (.seq
 (.reg [0,1] [oo 5 (.mov (ot 0)),
 oo 6 (.bsl 0 9 1 1 [(.str [])] [(0,(ot 5))]),
 oo 7 (.mov (ot 1)),
 oo 8 (.call 191 [(ot 7),(.cst (.d (.fn (.func 192) [])))]),
 oo 9 (.app 1 9 1 16 (ot 6) (ot 8)),
 oo 10 (.call 190 [(ot 9),(.cst (.d (.str [32])))]),
 oo 11 (.cat (ot 10) (.cst (.d (.str [10])))),
 oo 4 (.mov (ot 11))])
 .ret))⟩
def tx162:AFun:=⟨15,47,[.cell 0 4 true],
 (.seq
 (.reg [0] [oo 0 (.alloc 0 [(.nils 1),(.nils 1),(.nils 8),(.nils 2)])])
 (.seq
 (.reg [1,2,3,4,5,6] [oo 1 (.bsl 1 3 1 3 [(.int .i64 0),(.int .i64 0),(.int .i64 0)] [(0,(.cst (.d (.int .i64 100)))),(1,(.cst (.d (.int .i64 50)))),(2,(.cst (.d (.int .i64 200))))]),
 oo 2 (.build [(.d (.int .i64 0)),(.d (.int .i64 0))] [(0,1,(.cst (.d (.int .i64 0)))),(1,1,(.cst (.d (.int .i64 1))))]),
 oo 3 (.build [(.d (.int .i64 0)),(.d (.int .i64 0))] [(0,1,(.cst (.d (.int .i64 21600)))),(1,1,(.cst (.d (.int .i64 0))))]),
 oo 4 (.build [(.d (.int .i64 0)),(.d (.int .i64 0))] [(0,1,(.cst (.d (.int .i64 79200)))),(1,1,(.cst (.d (.int .i64 1))))]),
 oo 5 (.bsl 2 194 2 3 [(.agg [(.int .i64 0),(.int .i64 0)]),(.agg [(.int .i64 0),(.int .i64 0)]),(.agg [(.int .i64 0),(.int .i64 0)])] [(0,(ot 2)),(1,(ot 3)),(2,(ot 4))]),
 oo 6 (.build [(.d (.int .i64 0)),(.d (.int .i64 0))] [(0,1,(.cst (.d (.int .i64 0)))),(1,1,(.cst (.d (.int .i64 1))))]),
 oo 7 (.bsl 3 194 2 1 [(.agg [(.int .i64 0),(.int .i64 0)])] [(0,(ot 6))]),
 oo 8 (.bsl 4 187 1 2 [(.slice 2 []),(.slice 2 [])] [(0,(ot 5)),(1,(ot 7))]),
 oo 9 (.build [(.d (.int .i64 0)),(.d (.int .i64 0)),(.d (.int .i64 0)),(.d (.int .i64 0)),(.d (.int .i64 0)),(.d (.int .i64 0)),(.d (.int .i64 0))] [(0,1,(.cst (.d (.int .i64 0)))),(1,1,(.cst (.d (.int .i64 0)))),(2,1,(.cst (.d (.int .i64 0)))),(3,1,(.cst (.d (.int .i64 0)))),(4,1,(.cst (.d (.int .i64 0)))),(5,1,(.cst (.d (.int .i64 1)))),(6,1,(.cst (.d (.int .i64 1))))]),
 oo 10 (.build [(.d (.int .i64 0)),(.d (.int .i64 0)),(.d (.int .i64 0)),(.d (.int .i64 0)),(.d (.int .i64 0)),(.d (.int .i64 0)),(.d (.int .i64 0)),(.d (.int .i64 0))] [(1,7,(ot 9))]),
 oo 11 (.bsl 5 198 8 1 [(.agg [(.int .i64 0),(.int .i64 0),(.int .i64 0),(.int .i64 0),(.int .i64 0),(.int .i64 0),(.int .i64 0),(.int .i64 0)])] [(0,(ot 10))]),
 oo 12 (.build [(.d (.int .i64 0)),(.d (.int .i64 0))] [(0,1,(.cst (.d (.int .i64 10)))),(1,1,(.cst (.d (.int .i64 20))))]),
 oo 13 (.bsl 6 199 2 1 [(.agg [(.int .i64 0),(.int .i64 0)])] [(0,(ot 12))]),
 oo 14 (.build [(.nils 1),(.nils 1),(.nils 8),(.nils 2)] [(0,1,(ot 1)),(1,1,(ot 8)),(2,1,(ot 11)),(3,1,(ot 13))]),
 ⟨none,.st 4 (ot 0) (ot 14),none⟩])
 .ret))⟩
def tx163:AFun:={ jr163 with heap:=40 }
def tx164:AFun:={ jr164 with heap:=40 }
def tx165:AFun:={ jr165 with heap:=40 }
def tx166:AFun:=⟨49,44,[.tmp 6],
 (.seq
 (.reg [0] [oo 3 (.cbx 0 4 (ot 0)),
 oo 6 (.mov (.cst (.d (.int .i64 0))))])
 (.scope
 (.seq
 (.reg [1] [oo 7 (.alloc 1 [(.d (.int .i64 0)),(.d (.int .i64 0)),(.d (.int .i64 0)),(.d (.int .i64 0)),(.d (.int .i64 0)),(.d (.int .i64 0)),(.d (.int .i64 0)),(.d (.int .i64 0))])])
 (.seq
 (.seq
 (.reg [] [oo 13 (.fad 2 (ot 3)),
 oo 14 (.ld false 1 (ot 13)),
 oo 15 (.len (ot 14)),
 oo 16 (.mov (.cst (.d (.int .i64 0))))])
 (.post [1,2,3,7] [0,1,2]
 (.block 0
 (.keep [1,2,3,7,14,15,16] [0,1]
 (.loop
 (.post [1,2,3,7,14,15,16] [2]
 (.seq
 (.reg [] [oo 17 (.cmp .lss (ot 16) (ot 15))])
 (.seq
 (.cond (ot 17)
 .skip
 (.exit 0))
 (.seq
 (.block 1
 (.seq
 (.reg [2] [oo 18 (.ixa 8 (ot 14) (ot 16)),
 oo 19 (.ld true 8 (ot 18)),
 oo 9 (.alloc 2 [(.d (.int .i64 0)),(.d (.int .i64 0)),(.d (.int .i64 0)),(.d (.int .i64 0)),(.d (.int .i64 0)),(.d (.int .i64 0)),(.d (.int .i64 0)),(.d (.int .i64 0))]),
 ⟨none,.st 8 (ot 9) (ot 19),none⟩])
 (.seq
 (.reg [] [oo 20 (.fad 0 (ot 9)),
 oo 21 (.ld false 1 (ot 20)),
 oo 22 (.mov (ot 1)),
 oo 23 (.arith .rem .i64 (ot 22) (.cst (.d (.int .i64 364)))),
 oo 24 (.cmp .leq (ot 21) (ot 23))])
 (.cond (ot 24)
 (.reg [] [oo 25 (.ld true 8 (ot 9)),
 ⟨none,.st 8 (ot 7) (ot 25),none⟩])
 .skip))))
 (.reg [] [oo 26 (.arith .add .i64 (ot 16) (.cst (.d (.int .i64 1)))),
 oo 16 (.mov (ot 26))]))))))))))
 (.seq
 (.reg [] [oo 10 (.mov (.cst (.d (.int .i64 0))))])
 (.seq
 .skip
 (.seq
 (.seq
 (.regd [] [oo 27 (.fad 1 (ot 3)),
 oo 28 (.ld false 1 (ot 27)),
 oo 29 (.mov (ot 1)),
 oo 30 (.arith .rem .i64 (ot 29) (.cst (.d (.int .i64 7)))),
 oo 31 (.fad 1 (ot 7)),
 oo 32 (.ixp 7 1 (ot 31) (ot 30)),
 oo 33 (.ld false 1 (ot 32)),
 oo 34 (.ixa 1 (ot 28) (ot 33)),
 oo 35 (.ld false 1 (ot 34)),
 oo 36 (.len (ot 35)),
 oo 37 (.mov (.cst (.d (.int .i64 0))))] [(0,2),(1,2),(0,3),(1,3),(0,4),(1,4),(2,4),(3,4),(0,5),(1,5),(0,6),(1,6),(0,10),(1,10),(2,10),(3,10),(4,10),(5,10),(6,10),(7,10),(8,10),(9,10)])
 (.post [10] [0,1,2,3]
 (.block 2
 (.keep [2,10,35,36,37] [0,1,2]
 (.loop
 (.post [2,10,35,36,37] [3]
 (.seq
 (.reg [] [oo 38 (.cmp .lss (ot 37) (ot 36))])
 (.seq
 (.cond (ot 38)
 .skip
 (.exit 2))
 (.seq
 (.block 3
 (.seq
 (.reg [3] [oo 39 (.ixa 2 (ot 35) (ot 37)),
 oo 40 (.ld true 2 (ot 39)),
 oo 12 (.alloc 3 [(.d (.int .i64 0)),(.d (.int .i64 0))]),
 ⟨none,.st 2 (ot 12) (ot 40),none⟩])
 (.seq
 (.seq
 (.reg [] [oo 41 (.fad 0 (ot 12)),
 oo 42 (.ld false 1 (ot 41)),
 oo 43 (.mov (ot 2)),
 oo 44 (.cmp .gtr (ot 42) (ot 43))])
 (.cond (ot 44)
 (.exit 2)
 .skip))
 (.reg [] [oo 45 (.fad 1 (ot 12)),
 oo 46 (.ld false 1 (ot 45)),
 oo 10 (.mov (ot 46))]))))
 (.reg [] [oo 47 (.arith .add .i64 (ot 37) (.cst (.d (.int .i64 1)))),
 oo 37 (.mov (ot 47))]))))))))))
 (.seq
 (.reg [] [oo 48 (.mov (ot 10)),
 oo 6 (.mov (ot 48))])
 .ret))))))))⟩
def tx173:AFun:=⟨22,42,[.tmp 4],
 (.seq
 (.reg [] [oo 4 (.mov (.cst (.nils 1)))])
 (.seq
 (.reg [] [oo 5 (.mov (.cst (.nils 1)))])
 (.seq
 (.seq
 (.reg [] [oo 8 (.mov (ot 0)),
 oo 9 (.len (ot 8)),
 oo 10 (.mov (.cst (.d (.int .i64 0))))])
 (.post [5] [0,1]
 (.block 0
 (.asrow 1 187 1 5
 (.keep [1,5,8,9,10] []
 (.loop
 (.post [1,5,8,9,10] [0,1]
 (.seq
 (.reg [] [oo 11 (.cmp .lss (ot 10) (ot 9))])
 (.seq
 (.cond (ot 11)
 .skip
 (.exit 0))
 (.seq
 (.block 1
 (.seq
 (.reg [] [oo 12 (.ixa 1 (ot 8) (ot 10)),
 oo 13 (.ld false 1 (ot 12)),
 oo 7 (.mov (ot 13))])
 (.reg [0,1] [oo 14 (.mov (ot 5)),
 oo 15 (.mov (ot 1)),
 oo 16 (.mov (ot 7)),
 oo 17 (.callv (ot 15) [(ot 16)]),
 oo 18 (.bsl 0 187 1 1 [(.slice 2 [])] [(0,(ot 17))]),
 oo 19 (.app 1 187 1 24 (ot 14) (ot 18)),
 oo 5 (.mov (ot 19))])))
 (.reg [] [oo 20 (.arith .add .i64 (ot 10) (.cst (.d (.int .i64 1)))),
 oo 10 (.mov (ot 20))])))))))))))
 (.seq
 (.reg [] [oo 21 (.mov (ot 5)),
 oo 4 (.mov (ot 21))])
 .ret))))⟩
def tx174:AFun:=⟨5,40,[.tmp 2],
 (.seq
 (.reg [] [oo 2 (.mov (.cst (.nils 2)))])
 (.seq
 (.reg [] [oo 3 (.mov (ot 0)),
 oo 4 (.call 175 [(ot 3)]),
 oo 2 (.mov (ot 4))])
 .ret))⟩
def tx178:AFun:=⟨36,44,[.tmp 8,.tmp 9],
 (.seq
 (.reg [0] [oo 4 (.cbx 0 2 (ot 0)),
 oo 8 (.mov (.cst (.nils 3))),
 oo 9 (.mov (.cst (.d (.int .i64 0))))])
 (.seq
 (.reg [] [oo 10 (.mov (.cst (.nils 3)))])
 (.seq
 (.seq
 (.reg [] [oo 14 (.mov (ot 3)),
 oo 15 (.mov (.cst (.d (.int .i64 0))))])
 (.post [10] [0,1,2,3]
 (.block 0
 (.asrow 3 59 3 10
 (.keep [1,2,4,10,14,15] [0]
 (.loop
 (.post [1,2,4,10,14,15] [1,2,3]
 (.seq
 (.reg [] [oo 16 (.cmp .lss (ot 15) (ot 14))])
 (.seq
 (.cond (ot 16)
 .skip
 (.exit 0))
 (.seq
 (.block 1
 (.seq
 (.reg [] [oo 17 (.mov (ot 15)),
 oo 11 (.mov (ot 17))])
 (.seq
 (.reg [1] [oo 19 (.ld true 2 (ot 4)),
 oo 20 (.mov (ot 1)),
 oo 21 (.mov (ot 11)),
 oo 22 (.mov (ot 2)),
 oo 23 (.arith .mul .i64 (ot 21) (ot 22)),
 oo 24 (.arith .add .i64 (ot 20) (ot 23)),
 oo 25 (.call 113 [(ot 19),(ot 24)]),
 oo 18 (.mov (ot 25)),
 oo 26 (.ext 0 (ot 18)),
 oo 27 (.ext 1 (ot 18)),
 oo 12 (.alloc 1 [(.d (.int .i64 0)),(.d (.int .i64 0)),(.d (.int .i64 0))]),
 ⟨none,.st 3 (ot 12) (ot 26),none⟩,
 oo 13 (.mov (ot 27))])
 (.seq
 (.seq
 (.reg [] [oo 28 (.mov (ot 13)),
 oo 29 (.not (ot 28))])
 (.cond (ot 29)
 (.seq
 (.reg [] [oo 8 (.mov (.cst (.nils 3))),
 oo 9 (.mov (.cst (.d (.int .i64 7))))])
 .ret)
 .skip))
 (.reg [2,3] [oo 30 (.mov (ot 10)),
 oo 31 (.ld true 3 (ot 12)),
 oo 32 (.bsl 2 59 3 1 [(.agg [(.int .i64 0),(.int .i64 0),(.int .i64 0)])] [(0,(ot 31))]),
 oo 33 (.app 3 59 3 24 (ot 30) (ot 32)),
 oo 10 (.mov (ot 33))])))))
 (.reg [] [oo 34 (.arith .add .i64 (ot 15) (.cst (.d (.int .i64 1)))),
 oo 15 (.mov (ot 34))])))))))))))
 (.seq
 (.reg [] [oo 35 (.mov (ot 10)),
 oo 8 (.mov (ot 35)),
 oo 9 (.mov (.cst (.d (.int .i64 0))))])
 .ret))))⟩
def tx179:AFun:=⟨5,40,[.tmp 2],
 (.seq
 (.reg [] [oo 2 (.mov (.cst (.nils 5)))])
 (.seq
 (.reg [] [oo 3 (.mov (ot 0)),
 oo 4 (.calli 214 [(.cst (.nils 5)),(ot 3)]),
 oo 2 (.mov (ot 4))])
 .ret))⟩
def tx180:AFun:=⟨10,44,[.tmp 8],
 (.seq
 (.reg [0,1,2,3] [oo 4 (.cbx 0 2 (ot 0)),
 oo 5 (.cbx 1 3 (ot 1)),
 oo 6 (.cbx 2 1 (ot 2)),
 oo 7 (.box 3 1 (ot 3)),
 oo 8 (.mov (.cst .undef))])
 (.seq
 (.reg [] [oo 9 (.mkr (.func 215) [] [(ot 6),(ot 5),(ot 4),(ot 7)]),
 oo 8 (.mov (ot 9))])
 .ret))⟩
def tx186:AFun:={ ir186 with heap:=40 }
def tx187:AFun:=⟨22,43,[.tmp 4],
 (.seq
 (.reg [] [oo 4 (.mov (.cst (.nils 1)))])
 (.seq
 (.reg [] [oo 5 (.mov (.cst (.nils 1)))])
 (.seq
 (.seq
 (.reg [] [oo 8 (.mov (ot 0)),
 oo 9 (.len (ot 8)),
 oo 10 (.mov (.cst (.d (.int .i64 0))))])
 (.post [5] [0,1,2]
 (.block 0
 (.asrow 2 3 1 5
 (.keep [1,5,8,9,10] []
 (.loop
 (.post [1,5,8,9,10] [0,1,2]
 (.seq
 (.reg [] [oo 11 (.cmp .lss (ot 10) (ot 9))])
 (.seq
 (.cond (ot 11)
 .skip
 (.exit 0))
 (.seq
 (.block 1
 (.seq
 (.reg [0] [oo 12 (.ixa 3 (ot 8) (ot 10)),
 oo 13 (.ld true 3 (ot 12)),
 oo 7 (.alloc 0 [(.d (.int .i64 0)),(.d (.int .i64 0)),(.d (.int .i64 0))]),
 ⟨none,.st 3 (ot 7) (ot 13),none⟩])
 (.reg [1,2] [oo 14 (.mov (ot 5)),
 oo 15 (.mov (ot 1)),
 oo 16 (.ld true 3 (ot 7)),
 oo 17 (.callv (ot 15) [(ot 16)]),
 oo 18 (.bsl 1 3 1 1 [(.int .i64 0)] [(0,(ot 17))]),
 oo 19 (.app 2 3 1 8 (ot 14) (ot 18)),
 oo 5 (.mov (ot 19))])))
 (.reg [] [oo 20 (.arith .add .i64 (ot 10) (.cst (.d (.int .i64 1)))),
 oo 10 (.mov (ot 20))])))))))))))
 (.seq
 (.reg [] [oo 21 (.mov (ot 5)),
 oo 4 (.mov (ot 21))])
 .ret))))⟩
def tx188:AFun:=⟨5,41,[.tmp 2],
 (.seq
 (.reg [0] [oo 1 (.cbx 0 3 (ot 0)),
 oo 2 (.mov (.cst (.d (.int .i64 0))))])
 (.seq
 (.reg [] [oo 3 (.fad 2 (ot 1)),
 oo 4 (.ld false 1 (ot 3)),
 oo 2 (.mov (ot 4))])
 .ret))⟩
def tx191:AFun:=⟨22,42,[.tmp 4],
 (.seq
 (.reg [] [oo 4 (.mov (.cst (.nils 1)))])
 (.seq
 (.reg [] [oo 5 (.mov (.cst (.nils 1)))])
 (.seq
 (.seq
 (.reg [] [oo 8 (.mov (ot 0)),
 oo 9 (.len (ot 8)),
 oo 10 (.mov (.cst (.d (.int .i64 0))))])
 (.post [5] [0,1]
 (.block 0
 (.asrow 1 9 1 5
 (.keep [1,5,8,9,10] []
 (.loop
 (.post [1,5,8,9,10] [0,1]
 (.seq
 (.reg [] [oo 11 (.cmp .lss (ot 10) (ot 9))])
 (.seq
 (.cond (ot 11)
 .skip
 (.exit 0))
 (.seq
 (.block 1
 (.seq
 (.reg [] [oo 12 (.ixa 1 (ot 8) (ot 10)),
 oo 13 (.ld false 1 (ot 12)),
 oo 7 (.mov (ot 13))])
 (.reg [0,1] [oo 14 (.mov (ot 5)),
 oo 15 (.mov (ot 1)),
 oo 16 (.mov (ot 7)),
 oo 17 (.callv (ot 15) [(ot 16)]),
 oo 18 (.bsl 0 9 1 1 [(.str [])] [(0,(ot 17))]),
 oo 19 (.app 1 9 1 16 (ot 14) (ot 18)),
 oo 5 (.mov (ot 19))])))
 (.reg [] [oo 20 (.arith .add .i64 (ot 10) (.cst (.d (.int .i64 1)))),
 oo 10 (.mov (ot 20))])))))))))))
 (.seq
 (.reg [] [oo 21 (.mov (ot 5)),
 oo 4 (.mov (ot 21))])
 .ret))))⟩
def tx192:AFun:=⟨5,40,[.tmp 2],
 (.seq
 (.reg [] [oo 2 (.mov (.cst (.d (.str []))))])
 (.seq
 (.reg [] [oo 3 (.mov (ot 0)),
 oo 4 (.call 232 [(ot 3)]),
 oo 2 (.mov (ot 4))])
 .ret))⟩
def tx212:AFun:={ jr212 with heap:=40 }
def tx214:AFun:=⟨13,45,[.tmp 4],
 (.seq
 (.reg [0] [oo 2 (.box 0 1 (ot 0)),
 oo 4 (.mov (.cst (.nils 5)))])
 (.seq
 (.seq
 (.reg [] [oo 6 (.mov (ot 1))])
 (.block 0
 (.keep [2,6] [0]
 (.rfor 1 (ot 6) [7]
 (.reg [2] [oo 5 (.alloc 2 [(.d (.int .i64 0)),(.d (.int .i64 0)),(.d (.int .i64 0)),(.d (.int .i64 0)),(.d (.int .i64 0))]),
 ⟨none,.st 5 (ot 5) (ot 7),none⟩])
 (.post [] [2,3,4]
 (.block 1
 (.reg [3,4] [oo 8 (.ld false 1 (ot 2)),
 oo 9 (.ld true 5 (ot 5)),
 oo 10 (.bsl 3 219 5 1 [(.agg [(.int .i64 0),(.int .i64 0),(.int .i64 0),(.int .i64 0),(.int .i64 0)])] [(0,(ot 9))]),
 oo 11 (.app 4 219 5 40 (ot 8) (ot 10)),
 ⟨none,.st 1 (ot 2) (ot 11),none⟩])))))))
 (.seq
 (.reg [] [oo 12 (.ld false 1 (ot 2)),
 oo 4 (.mov (ot 12))])
 .ret)))⟩
def tx215:AFun:=⟨47,41,[],
 (.seq
 (.reg [] [oo 9 (.ld false 1 (ot 1)),
 oo 10 (.len (ot 9)),
 oo 11 (.mov (.cst (.d (.int .i64 0))))])
 (.post [] [0]
 (.block 0
 (.keep [0,2,3,4,9,10,11] []
 (.loop
 (.post [0,2,3,4,9,10,11] [0]
 (.seq
 (.reg [] [oo 12 (.cmp .lss (ot 11) (ot 10))])
 (.seq
 (.cond (ot 12)
 .skip
 (.exit 0))
 (.seq
 (.block 1
 (.seq
 (.reg [0] [oo 13 (.mov (ot 11)),
 oo 14 (.ixa 3 (ot 9) (ot 11)),
 oo 15 (.ld true 3 (ot 14)),
 oo 7 (.alloc 0 [(.d (.int .i64 0)),(.d (.int .i64 0)),(.d (.int .i64 0))]),
 oo 6 (.mov (ot 13)),
 ⟨none,.st 3 (ot 7) (ot 15),none⟩])
 (.seq
 (.reg [] [oo 16 (.fad 2 (ot 2)),
 oo 17 (.ld false 1 (ot 16)),
 oo 18 (.mov (ot 6)),
 oo 19 (.ixa 1 (ot 17) (ot 18)),
 oo 20 (.ld false 1 (ot 19)),
 oo 8 (.mov (ot 20))])
 (.seq
 (.seq
 (.regd [] [oo 21 (.mov (ot 0)),
 oo 22 (.ld true 3 (ot 7)),
 oo 23 (.mov (ot 8)),
 oo 24 (.mov (ot 8)),
 oo 25 (.fad 2 (ot 7)),
 oo 26 (.ld false 1 (ot 25)),
 oo 27 (.arith .mul .i64 (ot 24) (ot 26)),
 oo 28 (.fad 1 (ot 3)),
 oo 29 (.ld false 1 (ot 28)),
 oo 30 (.fad 0 (ot 7)),
 oo 31 (.ld false 1 (ot 30)),
 oo 32 (.ixa 6 (ot 29) (ot 31)),
 oo 33 (.fad 2 (ot 32)),
 oo 34 (.fad 3 (ot 33)),
 oo 35 (.ld false 1 (ot 34)),
 oo 36 (.ld false 1 (ot 4)),
 oo 37 (.mov (ot 8)),
 oo 38 (.call 216 [(ot 35),(ot 36),(ot 37)]),
 oo 39 (.arith .add .i64 (ot 27) (ot 38)),
 oo 40 (.build [(.d (.int .i64 0)),(.d (.int .i64 0)),(.d (.int .i64 0)),(.d (.int .i64 0)),(.d (.int .i64 0))] [(0,3,(ot 22)),(3,1,(ot 23)),(4,1,(ot 39))]),
 oo 41 (.callv (ot 21) [(ot 40)]),
 oo 42 (.not (ot 41))] [(0,1),(0,2),(1,2),(0,3),(1,3),(2,3),(0,4),(1,4),(2,4),(3,4),(0,5),(1,5),(2,5),(3,5),(0,6),(1,6),(2,6),(0,7),(1,7),(2,7),(3,7),(4,7),(5,7),(6,7),(0,8),(1,8),(2,8),(3,8),(4,8),(5,8),(6,8),(0,9),(1,9),(2,9),(3,9),(4,9),(5,9),(6,9),(7,9),(8,9),(0,10),(1,10),(2,10),(3,10),(4,10),(5,10),(6,10),(7,10),(8,10),(0,11),(1,11),(2,11),(3,11),(4,11),(5,11),(6,11),(0,12),(1,12),(2,12),(3,12),(4,12),(5,12),(6,12),(0,13),(1,13),(2,13),(3,13),(4,13),(5,13),(6,13),(0,14),(1,14),(2,14),(3,14),(4,14),(5,14),(6,14),(0,15),(1,15),(2,15),(3,15),(4,15),(5,15),(6,15),(7,15),(8,15),(9,15),(10,15),(11,15),(12,15),(13,15),(14,15),(0,16),(1,16),(2,16),(3,16),(4,16),(5,16),(6,16),(7,16),(8,16),(9,16),(10,16),(11,16),(12,16),(13,16),(14,16),(15,16),(0,17),(1,17),(2,17),(3,17),(4,17),(5,17),(6,17),(0,18),(1,18),(2,18),(0,19)])
 (.cond (ot 42)
 .ret
 .skip))
 (.reg [] [oo 43 (.ld false 1 (ot 4)),
 oo 44 (.mov (ot 8)),
 oo 45 (.arith .add .i64 (ot 43) (ot 44)),
 ⟨none,.st 1 (ot 4) (ot 45),none⟩])))))
 (.reg [] [oo 46 (.arith .add .i64 (ot 11) (.cst (.d (.int .i64 1)))),
 oo 11 (.mov (ot 46))]))))))))))⟩
def tx216:AFun:=⟨48,41,[.tmp 6],
 (.seq
 (.reg [] [oo 6 (.mov (.cst (.d (.int .i64 0))))])
 (.seq
 (.reg [] [oo 7 (.mov (.cst (.d (.int .i64 0))))])
 (.seq
 (.seq
 (.reg [] [oo 11 (.mov (ot 0)),
 oo 12 (.len (ot 11)),
 oo 13 (.mov (.cst (.d (.int .i64 0))))])
 (.post [7] [0]
 (.block 0
 (.keep [0,1,2,7,11,12,13] []
 (.loop
 (.post [0,1,2,7,11,12,13] [0]
 (.seq
 (.reg [] [oo 14 (.cmp .lss (ot 13) (ot 12))])
 (.seq
 (.cond (ot 14)
 .skip
 (.exit 0))
 (.seq
 (.block 1
 (.seq
 (.reg [0] [oo 15 (.mov (ot 13)),
 oo 16 (.ixa 2 (ot 11) (ot 13)),
 oo 17 (.ld true 2 (ot 16)),
 oo 9 (.alloc 0 [(.d (.int .i64 0)),(.d (.int .i64 0))]),
 oo 8 (.mov (ot 15)),
 ⟨none,.st 2 (ot 9) (ot 17),none⟩])
 (.seq
 (.reg [] [oo 18 (.mov (ot 1)),
 oo 19 (.mov (ot 2)),
 oo 20 (.arith .add .i64 (ot 18) (ot 19)),
 oo 10 (.mov (ot 20))])
 (.seq
 (.seq
 (.reg [] [oo 21 (.mov (ot 8)),
 oo 22 (.arith .add .i64 (ot 21) (.cst (.d (.int .i64 1)))),
 oo 23 (.mov (ot 0)),
 oo 24 (.len (ot 23)),
 oo 25 (.cmp .lss (ot 22) (ot 24))])
 (.cond (ot 25)
 (.reg [] [oo 26 (.mov (ot 10)),
 oo 27 (.mov (ot 0)),
 oo 28 (.mov (ot 8)),
 oo 29 (.arith .add .i64 (ot 28) (.cst (.d (.int .i64 1)))),
 oo 30 (.ixa 2 (ot 27) (ot 29)),
 oo 31 (.fad 0 (ot 30)),
 oo 32 (.ld false 1 (ot 31)),
 oo 33 (.mini (ot 26) (ot 32)),
 oo 10 (.mov (ot 33))])
 .skip))
 (.reg [] [oo 34 (.mov (ot 7)),
 oo 35 (.fad 1 (ot 9)),
 oo 36 (.ld false 1 (ot 35)),
 oo 37 (.mov (ot 10)),
 oo 38 (.mov (ot 1)),
 oo 39 (.fad 0 (ot 9)),
 oo 40 (.ld false 1 (ot 39)),
 oo 41 (.maxi (ot 38) (ot 40)),
 oo 42 (.arith .sub .i64 (ot 37) (ot 41)),
 oo 43 (.maxi (.cst (.d (.int .i64 0))) (ot 42)),
 oo 44 (.arith .mul .i64 (ot 36) (ot 43)),
 oo 45 (.arith .add .i64 (ot 34) (ot 44)),
 oo 7 (.mov (ot 45))])))))
 (.reg [] [oo 46 (.arith .add .i64 (ot 13) (.cst (.d (.int .i64 1)))),
 oo 13 (.mov (ot 46))]))))))))))
 (.seq
 (.reg [] [oo 47 (.mov (ot 7)),
 oo 6 (.mov (ot 47))])
 .ret))))⟩
def tx226:AFun:=⟨25,40,[.tmp 2],
 (.seq
 (.reg [] [oo 2 (.mov (.cst (.d (.int .i64 0))))])
 (.seq
 (.seq
 (.reg [] [oo 3 (.mov (ot 0)),
 oo 4 (.cmp .geq (ot 3) (.cst (.d (.int .u64 4294967296))))])
 (.cond (ot 4)
 (.seq
 (.reg [] [oo 5 (.mov (ot 0)),
 oo 6 (.shf .shr .u64 (ot 5) (.cst (.d (.int .u64 32)))),
 oo 0 (.mov (ot 6))])
 (.reg [] [oo 2 (.mov (.cst (.d (.int .i64 32))))]))
 .skip))
 (.seq
 (.seq
 (.reg [] [oo 7 (.mov (ot 0)),
 oo 8 (.cmp .geq (ot 7) (.cst (.d (.int .u64 65536))))])
 (.cond (ot 8)
 (.seq
 (.reg [] [oo 9 (.mov (ot 0)),
 oo 10 (.shf .shr .u64 (ot 9) (.cst (.d (.int .u64 16)))),
 oo 0 (.mov (ot 10))])
 (.reg [] [oo 11 (.mov (ot 2)),
 oo 12 (.arith .add .i64 (ot 11) (.cst (.d (.int .i64 16)))),
 oo 2 (.mov (ot 12))]))
 .skip))
 (.seq
 (.seq
 (.reg [] [oo 13 (.mov (ot 0)),
 oo 14 (.cmp .geq (ot 13) (.cst (.d (.int .u64 256))))])
 (.cond (ot 14)
 (.seq
 (.reg [] [oo 15 (.mov (ot 0)),
 oo 16 (.shf .shr .u64 (ot 15) (.cst (.d (.int .u64 8)))),
 oo 0 (.mov (ot 16))])
 (.reg [] [oo 17 (.mov (ot 2)),
 oo 18 (.arith .add .i64 (ot 17) (.cst (.d (.int .i64 8)))),
 oo 2 (.mov (ot 18))]))
 .skip))
 (.seq
 (.reg [] [oo 19 (.mov (ot 2)),
 oo 20 (.mov (ot 0)),
 oo 21 (.conv .u8 (ot 20)),
 oo 22 (.ixs (.cst (.d (.str [0,1,2,2,3,3,3,3,4,4,4,4,4,4,4,4,5,5,5,5,5,5,5,5,5,5,5,5,5,5,5,5,6,6,6,6,6,6,6,6,6,6,6,6,6,6,6,6,6,6,6,6,6,6,6,6,6,6,6,6,6,6,6,6,7,7,7,7,7,7,7,7,7,7,7,7,7,7,7,7,7,7,7,7,7,7,7,7,7,7,7,7,7,7,7,7,7,7,7,7,7,7,7,7,7,7,7,7,7,7,7,7,7,7,7,7,7,7,7,7,7,7,7,7,7,7,7,7,8,8,8,8,8,8,8,8,8,8,8,8,8,8,8,8,8,8,8,8,8,8,8,8,8,8,8,8,8,8,8,8,8,8,8,8,8,8,8,8,8,8,8,8,8,8,8,8,8,8,8,8,8,8,8,8,8,8,8,8,8,8,8,8,8,8,8,8,8,8,8,8,8,8,8,8,8,8,8,8,8,8,8,8,8,8,8,8,8,8,8,8,8,8,8,8,8,8,8,8,8,8,8,8,8,8,8,8,8,8,8,8,8,8,8,8,8,8,8,8,8,8,8,8,8,8,8,8]))) (ot 21)),
 oo 23 (.conv .i64 (ot 22)),
 oo 24 (.arith .add .i64 (ot 19) (ot 23)),
 oo 2 (.mov (ot 24))])
 .ret)))))⟩
def tx228:AFun:={ ir228 with heap:=40 }
def tx232:AFun:=⟨5,40,[.tmp 2],
 (.seq
 (.reg [] [oo 2 (.mov (.cst (.d (.str []))))])
 (.seq
 (.reg [] [oo 3 (.mov (ot 0)),
 oo 4 (.call 257 [(ot 3),(.cst (.d (.int .i64 10)))]),
 oo 2 (.mov (ot 4))])
 .ret))⟩
def tx257:AFun:=⟨54,41,[.tmp 4],
 (.seq
 (.reg [] [oo 4 (.mov (.cst (.d (.str []))))])
 (.seq
 (.seq
 (.reg [] [oo 10 (.mov (ot 1)),
 oo 11 (.cmp .eql (ot 10) (.cst (.d (.int .i64 10))))])
 (.cond (ot 11)
 (.seq
 (.seq
 (.reg [] [oo 12 (.mov (ot 0)),
 oo 13 (.cmp .leq (.cst (.d (.int .i64 0))) (ot 12)),
 oo 14 (.mov (ot 13)),
 ⟨some 15,.mov (ot 0),some (14,true)⟩,
 ⟨some 16,.cmp .lss (ot 15) (.cst (.d (.int .i64 100))),some (14,true)⟩,
 oo 17 (.pick (ot 14) (ot 16) (.cst (.d (.bool false))))])
 (.cond (ot 17)
 (.seq
 (.reg [] [oo 18 (.mov (ot 0)),
 oo 19 (.call 270 [(ot 18)]),
 oo 4 (.mov (ot 19))])
 .ret)
 .skip))
 (.seq
 (.reg [0] [oo 5 (.alloc 0 [(.d (.int .u8 0)),(.d (.int .u8 0)),(.d (.int .u8 0)),(.d (.int .u8 0)),(.d (.int .u8 0)),(.d (.int .u8 0)),(.d (.int .u8 0)),(.d (.int .u8 0)),(.d (.int .u8 0)),(.d (.int .u8 0)),(.d (.int .u8 0)),(.d (.int .u8 0)),(.d (.int .u8 0)),(.d (.int .u8 0)),(.d (.int .u8 0)),(.d (.int .u8 0)),(.d (.int .u8 0)),(.d (.int .u8 0)),(.d (.int .u8 0)),(.d (.int .u8 0)),(.d (.int .u8 0)),(.d (.int .u8 0)),(.d (.int .u8 0)),(.d (.int .u8 0))])])
 (.seq
 (.reg [] [oo 20 (.mov (ot 0)),
 oo 21 (.conv .u64 (ot 20)),
 oo 6 (.mov (ot 21))])
 (.seq
 (.seq
 (.reg [] [oo 22 (.mov (ot 0)),
 oo 23 (.cmp .lss (ot 22) (.cst (.d (.int .i64 0))))])
 (.cond (ot 23)
 (.reg [] [oo 24 (.mov (ot 6)),
 oo 25 (.neg .u64 (ot 24)),
 oo 6 (.mov (ot 25))])
 .skip))
 (.seq
 (.reg [] [oo 26 (.mov (ot 6)),
 oo 27 (.call 271 [(ot 26)]),
 oo 7 (.mov (ot 27))])
 (.seq
 (.reg [] [oo 28 (.mov (ot 7)),
 oo 29 (.arith .add .i64 (.cst (.d (.int .i64 1))) (ot 28)),
 oo 30 (.slv 24 (ot 5) (some (.cst (.d (.int .i64 1)))) (some (ot 29))),
 oo 31 (.mov (ot 6)),
 oo 32 (.calli 272 [(ot 30),(ot 31)])])
 (.seq
 (.seq
 (.reg [] [oo 33 (.mov (ot 0)),
 oo 34 (.cmp .lss (ot 33) (.cst (.d (.int .i64 0))))])
 (.cond (ot 34)
 (.seq
 (.reg [] [oo 35 (.ixp 24 1 (ot 5) (.cst (.d (.int .i64 0)))),
 ⟨none,.st 1 (ot 35) (.cst (.d (.int .u8 45))),none⟩])
 (.seq
 (.asdat 5 (.reg [] [oo 36 (.mov (ot 7)),
 oo 37 (.arith .add .i64 (.cst (.d (.int .i64 1))) (ot 36)),
 oo 38 (.sla 24 (ot 5) none (some (ot 37))),
 oo 39 (.b2s (ot 38)),
 oo 4 (.mov (ot 39))]))
 .ret))
 .skip))
 (.seq
 (.asdat 5 (.reg [] [oo 40 (.mov (ot 7)),
 oo 41 (.arith .add .i64 (.cst (.d (.int .i64 1))) (ot 40)),
 oo 42 (.sla 24 (ot 5) (some (.cst (.d (.int .i64 1)))) (some (ot 41))),
 oo 43 (.b2s (ot 42)),
 oo 4 (.mov (ot 43))]))
 .ret))))))))
 .skip))
 (.seq
 (.reg [] [oo 45 (.mov (ot 0)),
 oo 46 (.conv .u64 (ot 45)),
 oo 47 (.mov (ot 1)),
 oo 48 (.mov (ot 0)),
 oo 49 (.cmp .lss (ot 48) (.cst (.d (.int .i64 0)))),
 oo 50 (.call 273 [(.cst (.nils 1)),(ot 46),(ot 47),(ot 49),(.cst (.d (.bool false)))]),
 oo 44 (.mov (ot 50)),
 oo 51 (.ext 0 (ot 44)),
 oo 52 (.ext 1 (ot 44)),
 oo 8 (.mov (ot 51)),
 oo 9 (.mov (ot 52))])
 (.seq
 (.reg [] [oo 53 (.mov (ot 9)),
 oo 4 (.mov (ot 53))])
 .ret))))⟩
def tx270:AFun:=⟨15,40,[.tmp 2],
 (.seq
 (.reg [] [oo 2 (.mov (.cst (.d (.str []))))])
 (.seq
 (.seq
 (.reg [] [oo 3 (.mov (ot 0)),
 oo 4 (.cmp .lss (ot 3) (.cst (.d (.int .i64 10))))])
 (.cond (ot 4)
 (.seq
 (.reg [] [oo 5 (.mov (ot 0)),
 oo 6 (.mov (ot 0)),
 oo 7 (.arith .add .i64 (ot 6) (.cst (.d (.int .i64 1)))),
 oo 8 (.slcs (.cst (.d (.str [48,49,50,51,52,53,54,55,56,57,97,98,99,100,101,102,103,104,105,106,107,108,109,110,111,112,113,114,115,116,117,118,119,120,121,122]))) (some (ot 5)) (some (ot 7))),
 oo 2 (.mov (ot 8))])
 .ret)
 .skip))
 (.seq
 (.reg [] [oo 9 (.mov (ot 0)),
 oo 10 (.arith .mul .i64 (ot 9) (.cst (.d (.int .i64 2)))),
 oo 11 (.mov (ot 0)),
 oo 12 (.arith .mul .i64 (ot 11) (.cst (.d (.int .i64 2)))),
 oo 13 (.arith .add .i64 (ot 12) (.cst (.d (.int .i64 2)))),
 oo 14 (.slcs (.cst (.d (.str [48,48,48,49,48,50,48,51,48,52,48,53,48,54,48,55,48,56,48,57,49,48,49,49,49,50,49,51,49,52,49,53,49,54,49,55,49,56,49,57,50,48,50,49,50,50,50,51,50,52,50,53,50,54,50,55,50,56,50,57,51,48,51,49,51,50,51,51,51,52,51,53,51,54,51,55,51,56,51,57,52,48,52,49,52,50,52,51,52,52,52,53,52,54,52,55,52,56,52,57,53,48,53,49,53,50,53,51,53,52,53,53,53,54,53,55,53,56,53,57,54,48,54,49,54,50,54,51,54,52,54,53,54,54,54,55,54,56,54,57,55,48,55,49,55,50,55,51,55,52,55,53,55,54,55,55,55,56,55,57,56,48,56,49,56,50,56,51,56,52,56,53,56,54,56,55,56,56,56,57,57,48,57,49,57,50,57,51,57,52,57,53,57,54,57,55,57,56,57,57]))) (some (ot 10)) (some (ot 13))),
 oo 2 (.mov (ot 14))])
 .ret)))⟩
def tx271:AFun:=⟨15,40,[.tmp 2],
 (.seq
 (.reg [] [oo 2 (.mov (.cst (.d (.int .i64 0))))])
 (.seq
 (.reg [] [oo 4 (.mov (ot 0)),
 oo 5 (.call 226 [(ot 4)]),
 oo 6 (.call 280 [(ot 5)]),
 oo 3 (.mov (ot 6))])
 (.seq
 (.reg [] [oo 7 (.mov (ot 3)),
 oo 8 (.mov (ot 0)),
 oo 9 (.mov (ot 3)),
 oo 10 (.ixp 20 1 (.cst (.gp 2 0)) (ot 9)),
 oo 11 (.ld false 1 (ot 10)),
 oo 12 (.cmp .geq (ot 8) (ot 11)),
 oo 13 (.call 281 [(ot 12)]),
 oo 14 (.arith .add .i64 (ot 7) (ot 13)),
 oo 2 (.mov (ot 14))])
 .ret)))⟩
def tx272:AFun:=⟨167,40,[],
 (.seq
 (.reg [] [oo 17 (.mov (ot 0)),
 oo 18 (.len (ot 17)),
 oo 4 (.mov (ot 18))])
 (.seq
 (.post [0,1,4] []
 (.block 0
 (.keep [0,1,4] []
 (.loop
 (.post [0,1,4] []
 (.seq
 (.seq
 (.reg [] [oo 19 (.mov (ot 4)),
 oo 20 (.cmp .geq (ot 19) (.cst (.d (.int .i64 8))))])
 (.cond (ot 20)
 .skip
 (.exit 0)))
 (.block 1
 (.seq
 (.reg [] [oo 21 (.mov (ot 1)),
 oo 22 (.arith .rem .u64 (ot 21) (.cst (.d (.int .u64 100000000)))),
 oo 23 (.conv .u32 (ot 22)),
 oo 5 (.mov (ot 23))])
 (.seq
 (.reg [] [oo 24 (.mov (ot 1)),
 oo 25 (.arith .quo .u64 (ot 24) (.cst (.d (.int .u64 100000000)))),
 oo 1 (.mov (ot 25))])
 (.seq
 (.reg [] [oo 26 (.mov (ot 5)),
 oo 27 (.arith .quo .u32 (ot 26) (.cst (.d (.int .u32 10000)))),
 oo 28 (.mov (ot 5)),
 oo 29 (.arith .rem .u32 (ot 28) (.cst (.d (.int .u32 10000)))),
 oo 6 (.mov (ot 27)),
 oo 7 (.mov (ot 29))])
 (.seq
 (.reg [] [oo 30 (.mov (ot 7)),
 oo 31 (.arith .quo .u32 (ot 30) (.cst (.d (.int .u32 100)))),
 oo 32 (.arith .mul .u32 (ot 31) (.cst (.d (.int .u32 2)))),
 oo 33 (.mov (ot 7)),
 oo 34 (.arith .rem .u32 (ot 33) (.cst (.d (.int .u32 100)))),
 oo 35 (.arith .mul .u32 (ot 34) (.cst (.d (.int .u32 2)))),
 oo 8 (.mov (ot 32)),
 oo 9 (.mov (ot 35))])
 (.seq
 (.reg [] [oo 36 (.mov (ot 6)),
 oo 37 (.arith .quo .u32 (ot 36) (.cst (.d (.int .u32 100)))),
 oo 38 (.arith .mul .u32 (ot 37) (.cst (.d (.int .u32 2)))),
 oo 39 (.mov (ot 6)),
 oo 40 (.arith .rem .u32 (ot 39) (.cst (.d (.int .u32 100)))),
 oo 41 (.arith .mul .u32 (ot 40) (.cst (.d (.int .u32 2)))),
 oo 10 (.mov (ot 38)),
 oo 11 (.mov (ot 41))])
 (.seq
 (.regd [] [oo 42 (.mov (ot 0)),
 oo 43 (.mov (ot 4)),
 oo 44 (.arith .sub .i64 (ot 43) (.cst (.d (.int .i64 1)))),
 oo 45 (.mov (ot 0)),
 oo 46 (.mov (ot 4)),
 oo 47 (.arith .sub .i64 (ot 46) (.cst (.d (.int .i64 2)))),
 oo 48 (.mov (ot 9)),
 oo 49 (.arith .add .u32 (ot 48) (.cst (.d (.int .u32 1)))),
 oo 50 (.ixs (.cst (.d (.str [48,48,48,49,48,50,48,51,48,52,48,53,48,54,48,55,48,56,48,57,49,48,49,49,49,50,49,51,49,52,49,53,49,54,49,55,49,56,49,57,50,48,50,49,50,50,50,51,50,52,50,53,50,54,50,55,50,56,50,57,51,48,51,49,51,50,51,51,51,52,51,53,51,54,51,55,51,56,51,57,52,48,52,49,52,50,52,51,52,52,52,53,52,54,52,55,52,56,52,57,53,48,53,49,53,50,53,51,53,52,53,53,53,54,53,55,53,56,53,57,54,48,54,49,54,50,54,51,54,52,54,53,54,54,54,55,54,56,54,57,55,48,55,49,55,50,55,51,55,52,55,53,55,54,55,55,55,56,55,57,56,48,56,49,56,50,56,51,56,52,56,53,56,54,56,55,56,56,56,57,57,48,57,49,57,50,57,51,57,52,57,53,57,54,57,55,57,56,57,57]))) (ot 49)),
 oo 51 (.mov (ot 9)),
 oo 52 (.ixs (.cst (.d (.str [48,48,48,49,48,50,48,51,48,52,48,53,48,54,48,55,48,56,48,57,49,48,49,49,49,50,49,51,49,52,49,53,49,54,49,55,49,56,49,57,50,48,50,49,50,50,50,51,50,52,50,53,50,54,50,55,50,56,50,57,51,48,51,49,51,50,51,51,51,52,51,53,51,54,51,55,51,56,51,57,52,48,52,49,52,50,52,51,52,52,52,53,52,54,52,55,52,56,52,57,53,48,53,49,53,50,53,51,53,52,53,53,53,54,53,55,53,56,53,57,54,48,54,49,54,50,54,51,54,52,54,53,54,54,54,55,54,56,54,57,55,48,55,49,55,50,55,51,55,52,55,53,55,54,55,55,55,56,55,57,56,48,56,49,56,50,56,51,56,52,56,53,56,54,56,55,56,56,56,57,57,48,57,49,57,50,57,51,57,52,57,53,57,54,57,55,57,56,57,57]))) (ot 51)),
 oo 53 (.ixa 1 (ot 42) (ot 44)),
 ⟨none,.st 1 (ot 53) (ot 50),none⟩,
 oo 54 (.ixa 1 (ot 45) (ot 47)),
 ⟨none,.st 1 (ot 54) (ot 52),none⟩] [(0,1),(0,2),(0,3),(1,3),(2,3),(0,4),(1,4),(2,4),(3,4),(0,5),(1,5),(2,5),(3,5),(0,6),(1,6),(2,6),(3,6),(4,6),(5,6),(0,7),(1,7),(2,7),(3,7),(4,7),(5,7),(0,8),(1,8),(2,8),(3,8),(4,8),(5,8),(0,9),(1,9),(2,9),(3,9),(4,9),(5,9),(6,9),(7,9),(8,9),(0,10),(1,10),(2,10),(3,10),(4,10),(5,10),(6,10),(7,10),(8,10),(3,11),(4,11),(5,11),(9,11),(10,11),(3,12),(4,12),(5,12),(9,12),(10,12)])
 (.seq
 (.regd [] [oo 55 (.mov (ot 0)),
 oo 56 (.mov (ot 4)),
 oo 57 (.arith .sub .i64 (ot 56) (.cst (.d (.int .i64 3)))),
 oo 58 (.mov (ot 0)),
 oo 59 (.mov (ot 4)),
 oo 60 (.arith .sub .i64 (ot 59) (.cst (.d (.int .i64 4)))),
 oo 61 (.mov (ot 8)),
 oo 62 (.arith .add .u32 (ot 61) (.cst (.d (.int .u32 1)))),
 oo 63 (.ixs (.cst (.d (.str [48,48,48,49,48,50,48,51,48,52,48,53,48,54,48,55,48,56,48,57,49,48,49,49,49,50,49,51,49,52,49,53,49,54,49,55,49,56,49,57,50,48,50,49,50,50,50,51,50,52,50,53,50,54,50,55,50,56,50,57,51,48,51,49,51,50,51,51,51,52,51,53,51,54,51,55,51,56,51,57,52,48,52,49,52,50,52,51,52,52,52,53,52,54,52,55,52,56,52,57,53,48,53,49,53,50,53,51,53,52,53,53,53,54,53,55,53,56,53,57,54,48,54,49,54,50,54,51,54,52,54,53,54,54,54,55,54,56,54,57,55,48,55,49,55,50,55,51,55,52,55,53,55,54,55,55,55,56,55,57,56,48,56,49,56,50,56,51,56,52,56,53,56,54,56,55,56,56,56,57,57,48,57,49,57,50,57,51,57,52,57,53,57,54,57,55,57,56,57,57]))) (ot 62)),
 oo 64 (.mov (ot 8)),
 oo 65 (.ixs (.cst (.d (.str [48,48,48,49,48,50,48,51,48,52,48,53,48,54,48,55,48,56,48,57,49,48,49,49,49,50,49,51,49,52,49,53,49,54,49,55,49,56,49,57,50,48,50,49,50,50,50,51,50,52,50,53,50,54,50,55,50,56,50,57,51,48,51,49,51,50,51,51,51,52,51,53,51,54,51,55,51,56,51,57,52,48,52,49,52,50,52,51,52,52,52,53,52,54,52,55,52,56,52,57,53,48,53,49,53,50,53,51,53,52,53,53,53,54,53,55,53,56,53,57,54,48,54,49,54,50,54,51,54,52,54,53,54,54,54,55,54,56,54,57,55,48,55,49,55,50,55,51,55,52,55,53,55,54,55,55,55,56,55,57,56,48,56,49,56,50,56,51,56,52,56,53,56,54,56,55,56,56,56,57,57,48,57,49,57,50,57,51,57,52,57,53,57,54,57,55,57,56,57,57]))) (ot 64)),
 oo 66 (.ixa 1 (ot 55) (ot 57)),
 ⟨none,.st 1 (ot 66) (ot 63),none⟩,
 oo 67 (.ixa 1 (ot 58) (ot 60)),
 ⟨none,.st 1 (ot 67) (ot 65),none⟩] [(0,1),(0,2),(0,3),(1,3),(2,3),(0,4),(1,4),(2,4),(3,4),(0,5),(1,5),(2,5),(3,5),(0,6),(1,6),(2,6),(3,6),(4,6),(5,6),(0,7),(1,7),(2,7),(3,7),(4,7),(5,7),(0,8),(1,8),(2,8),(3,8),(4,8),(5,8),(0,9),(1,9),(2,9),(3,9),(4,9),(5,9),(6,9),(7,9),(8,9),(0,10),(1,10),(2,10),(3,10),(4,10),(5,10),(6,10),(7,10),(8,10),(3,11),(4,11),(5,11),(9,11),(10,11),(3,12),(4,12),(5,12),(9,12),(10,12)])
 (.seq
 (.regd [] [oo 68 (.mov (ot 0)),
 oo 69 (.mov (ot 4)),
 oo 70 (.arith .sub .i64 (ot 69) (.cst (.d (.int .i64 5)))),
 oo 71 (.mov (ot 0)),
 oo 72 (.mov (ot 4)),
 oo 73 (.arith .sub .i64 (ot 72) (.cst (.d (.int .i64 6)))),
 oo 74 (.mov (ot 11)),
 oo 75 (.arith .add .u32 (ot 74) (.cst (.d (.int .u32 1)))),
 oo 76 (.ixs (.cst (.d (.str [48,48,48,49,48,50,48,51,48,52,48,53,48,54,48,55,48,56,48,57,49,48,49,49,49,50,49,51,49,52,49,53,49,54,49,55,49,56,49,57,50,48,50,49,50,50,50,51,50,52,50,53,50,54,50,55,50,56,50,57,51,48,51,49,51,50,51,51,51,52,51,53,51,54,51,55,51,56,51,57,52,48,52,49,52,50,52,51,52,52,52,53,52,54,52,55,52,56,52,57,53,48,53,49,53,50,53,51,53,52,53,53,53,54,53,55,53,56,53,57,54,48,54,49,54,50,54,51,54,52,54,53,54,54,54,55,54,56,54,57,55,48,55,49,55,50,55,51,55,52,55,53,55,54,55,55,55,56,55,57,56,48,56,49,56,50,56,51,56,52,56,53,56,54,56,55,56,56,56,57,57,48,57,49,57,50,57,51,57,52,57,53,57,54,57,55,57,56,57,57]))) (ot 75)),
 oo 77 (.mov (ot 11)),
 oo 78 (.ixs (.cst (.d (.str [48,48,48,49,48,50,48,51,48,52,48,53,48,54,48,55,48,56,48,57,49,48,49,49,49,50,49,51,49,52,49,53,49,54,49,55,49,56,49,57,50,48,50,49,50,50,50,51,50,52,50,53,50,54,50,55,50,56,50,57,51,48,51,49,51,50,51,51,51,52,51,53,51,54,51,55,51,56,51,57,52,48,52,49,52,50,52,51,52,52,52,53,52,54,52,55,52,56,52,57,53,48,53,49,53,50,53,51,53,52,53,53,53,54,53,55,53,56,53,57,54,48,54,49,54,50,54,51,54,52,54,53,54,54,54,55,54,56,54,57,55,48,55,49,55,50,55,51,55,52,55,53,55,54,55,55,55,56,55,57,56,48,56,49,56,50,56,51,56,52,56,53,56,54,56,55,56,56,56,57,57,48,57,49,57,50,57,51,57,52,57,53,57,54,57,55,57,56,57,57]))) (ot 77)),
 oo 79 (.ixa 1 (ot 68) (ot 70)),
 ⟨none,.st 1 (ot 79) (ot 76),none⟩,
 oo 80 (.ixa 1 (ot 71) (ot 73)),
 ⟨none,.st 1 (ot 80) (ot 78),none⟩] [(0,1),(0,2),(0,3),(1,3),(2,3),(0,4),(1,4),(2,4),(3,4),(0,5),(1,5),(2,5),(3,5),(0,6),(1,6),(2,6),(3,6),(4,6),(5,6),(0,7),(1,7),(2,7),(3,7),(4,7),(5,7),(0,8),(1,8),(2,8),(3,8),(4,8),(5,8),(0,9),(1,9),(2,9),(3,9),(4,9),(5,9),(6,9),(7,9),(8,9),(0,10),(1,10),(2,10),(3,10),(4,10),(5,10),(6,10),(7,10),(8,10),(3,11),(4,11),(5,11),(9,11),(10,11),(3,12),(4,12),(5,12),(9,12),(10,12)])
 (.seq
 (.regd [] [oo 81 (.mov (ot 0)),
 oo 82 (.mov (ot 4)),
 oo 83 (.arith .sub .i64 (ot 82) (.cst (.d (.int .i64 7)))),
 oo 84 (.mov (ot 0)),
 oo 85 (.mov (ot 4)),
 oo 86 (.arith .sub .i64 (ot 85) (.cst (.d (.int .i64 8)))),
 oo 87 (.mov (ot 10)),
 oo 88 (.arith .add .u32 (ot 87) (.cst (.d (.int .u32 1)))),
 oo 89 (.ixs (.cst (.d (.str [48,48,48,49,48,50,48,51,48,52,48,53,48,54,48,55,48,56,48,57,49,48,49,49,49,50,49,51,49,52,49,53,49,54,49,55,49,56,49,57,50,48,50,49,50,50,50,51,50,52,50,53,50,54,50,55,50,56,50,57,51,48,51,49,51,50,51,51,51,52,51,53,51,54,51,55,51,56,51,57,52,48,52,49,52,50,52,51,52,52,52,53,52,54,52,55,52,56,52,57,53,48,53,49,53,50,53,51,53,52,53,53,53,54,53,55,53,56,53,57,54,48,54,49,54,50,54,51,54,52,54,53,54,54,54,55,54,56,54,57,55,48,55,49,55,50,55,51,55,52,55,53,55,54,55,55,55,56,55,57,56,48,56,49,56,50,56,51,56,52,56,53,56,54,56,55,56,56,56,57,57,48,57,49,57,50,57,51,57,52,57,53,57,54,57,55,57,56,57,57]))) (ot 88)),
 oo 90 (.mov (ot 10)),
 oo 91 (.ixs (.cst (.d (.str [48,48,48,49,48,50,48,51,48,52,48,53,48,54,48,55,48,56,48,57,49,48,49,49,49,50,49,51,49,52,49,53,49,54,49,55,49,56,49,57,50,48,50,49,50,50,50,51,50,52,50,53,50,54,50,55,50,56,50,57,51,48,51,49,51,50,51,51,51,52,51,53,51,54,51,55,51,56,51,57,52,48,52,49,52,50,52,51,52,52,52,53,52,54,52,55,52,56,52,57,53,48,53,49,53,50,53,51,53,52,53,53,53,54,53,55,53,56,53,57,54,48,54,49,54,50,54,51,54,52,54,53,54,54,54,55,54,56,54,57,55,48,55,49,55,50,55,51,55,52,55,53,55,54,55,55,55,56,55,57,56,48,56,49,56,50,56,51,56,52,56,53,56,54,56,55,56,56,56,57,57,48,57,49,57,50,57,51,57,52,57,53,57,54,57,55,57,56,57,57]))) (ot 90)),
 oo 92 (.ixa 1 (ot 81) (ot 83)),
 ⟨none,.st 1 (ot 92) (ot 89),none⟩,
 oo 93 (.ixa 1 (ot 84) (ot 86)),
 ⟨none,.st 1 (ot 93) (ot 91),none⟩] [(0,1),(0,2),(0,3),(1,3),(2,3),(0,4),(1,4),(2,4),(3,4),(0,5),(1,5),(2,5),(3,5),(0,6),(1,6),(2,6),(3,6),(4,6),(5,6),(0,7),(1,7),(2,7),(3,7),(4,7),(5,7),(0,8),(1,8),(2,8),(3,8),(4,8),(5,8),(0,9),(1,9),(2,9),(3,9),(4,9),(5,9),(6,9),(7,9),(8,9),(0,10),(1,10),(2,10),(3,10),(4,10),(5,10),(6,10),(7,10),(8,10),(3,11),(4,11),(5,11),(9,11),(10,11),(3,12),(4,12),(5,12),(9,12),(10,12)])
 (.reg [] [oo 94 (.mov (ot 4)),
 oo 95 (.arith .sub .i64 (ot 94) (.cst (.d (.int .i64 8)))),
 oo 4 (.mov (ot 95))])))))))))))))))))
 (.seq
 (.reg [] [oo 96 (.mov (ot 1)),
 oo 97 (.conv .u32 (ot 96)),
 oo 12 (.mov (ot 97))])
 (.seq
 (.seq
 (.reg [] [oo 98 (.mov (ot 4)),
 oo 99 (.cmp .geq (ot 98) (.cst (.d (.int .i64 4))))])
 (.cond (ot 99)
 (.seq
 (.reg [] [oo 100 (.mov (ot 12)),
 oo 101 (.arith .rem .u32 (ot 100) (.cst (.d (.int .u32 10000)))),
 oo 13 (.mov (ot 101))])
 (.seq
 (.reg [] [oo 102 (.mov (ot 12)),
 oo 103 (.arith .quo .u32 (ot 102) (.cst (.d (.int .u32 10000)))),
 oo 12 (.mov (ot 103))])
 (.seq
 (.reg [] [oo 104 (.mov (ot 13)),
 oo 105 (.arith .quo .u32 (ot 104) (.cst (.d (.int .u32 100)))),
 oo 106 (.arith .mul .u32 (ot 105) (.cst (.d (.int .u32 2)))),
 oo 107 (.mov (ot 13)),
 oo 108 (.arith .rem .u32 (ot 107) (.cst (.d (.int .u32 100)))),
 oo 109 (.arith .mul .u32 (ot 108) (.cst (.d (.int .u32 2)))),
 oo 14 (.mov (ot 106)),
 oo 15 (.mov (ot 109))])
 (.seq
 (.regd [] [oo 110 (.mov (ot 0)),
 oo 111 (.mov (ot 4)),
 oo 112 (.arith .sub .i64 (ot 111) (.cst (.d (.int .i64 1)))),
 oo 113 (.mov (ot 0)),
 oo 114 (.mov (ot 4)),
 oo 115 (.arith .sub .i64 (ot 114) (.cst (.d (.int .i64 2)))),
 oo 116 (.mov (ot 15)),
 oo 117 (.arith .add .u32 (ot 116) (.cst (.d (.int .u32 1)))),
 oo 118 (.ixs (.cst (.d (.str [48,48,48,49,48,50,48,51,48,52,48,53,48,54,48,55,48,56,48,57,49,48,49,49,49,50,49,51,49,52,49,53,49,54,49,55,49,56,49,57,50,48,50,49,50,50,50,51,50,52,50,53,50,54,50,55,50,56,50,57,51,48,51,49,51,50,51,51,51,52,51,53,51,54,51,55,51,56,51,57,52,48,52,49,52,50,52,51,52,52,52,53,52,54,52,55,52,56,52,57,53,48,53,49,53,50,53,51,53,52,53,53,53,54,53,55,53,56,53,57,54,48,54,49,54,50,54,51,54,52,54,53,54,54,54,55,54,56,54,57,55,48,55,49,55,50,55,51,55,52,55,53,55,54,55,55,55,56,55,57,56,48,56,49,56,50,56,51,56,52,56,53,56,54,56,55,56,56,56,57,57,48,57,49,57,50,57,51,57,52,57,53,57,54,57,55,57,56,57,57]))) (ot 117)),
 oo 119 (.mov (ot 15)),
 oo 120 (.ixs (.cst (.d (.str [48,48,48,49,48,50,48,51,48,52,48,53,48,54,48,55,48,56,48,57,49,48,49,49,49,50,49,51,49,52,49,53,49,54,49,55,49,56,49,57,50,48,50,49,50,50,50,51,50,52,50,53,50,54,50,55,50,56,50,57,51,48,51,49,51,50,51,51,51,52,51,53,51,54,51,55,51,56,51,57,52,48,52,49,52,50,52,51,52,52,52,53,52,54,52,55,52,56,52,57,53,48,53,49,53,50,53,51,53,52,53,53,53,54,53,55,53,56,53,57,54,48,54,49,54,50,54,51,54,52,54,53,54,54,54,55,54,56,54,57,55,48,55,49,55,50,55,51,55,52,55,53,55,54,55,55,55,56,55,57,56,48,56,49,56,50,56,51,56,52,56,53,56,54,56,55,56,56,56,57,57,48,57,49,57,50,57,51,57,52,57,53,57,54,57,55,57,56,57,57]))) (ot 119)),
 oo 121 (.ixa 1 (ot 110) (ot 112)),
 ⟨none,.st 1 (ot 121) (ot 118),none⟩,
 oo 122 (.ixa 1 (ot 113) (ot 115)),
 ⟨none,.st 1 (ot 122) (ot 120),none⟩] [(0,1),(0,2),(0,3),(1,3),(2,3),(0,4),(1,4),(2,4),(3,4),(0,5),(1,5),(2,5),(3,5),(0,6),(1,6),(2,6),(3,6),(4,6),(5,6),(0,7),(1,7),(2,7),(3,7),(4,7),(5,7),(0,8),(1,8),(2,8),(3,8),(4,8),(5,8),(0,9),(1,9),(2,9),(3,9),(4,9),(5,9),(6,9),(7,9),(8,9),(0,10),(1,10),(2,10),(3,10),(4,10),(5,10),(6,10),(7,10),(8,10),(3,11),(4,11),(5,11),(9,11),(10,11),(3,12),(4,12),(5,12),(9,12),(10,12)])
 (.seq
 (.regd [] [oo 123 (.mov (ot 0)),
 oo 124 (.mov (ot 4)),
 oo 125 (.arith .sub .i64 (ot 124) (.cst (.d (.int .i64 3)))),
 oo 126 (.mov (ot 0)),
 oo 127 (.mov (ot 4)),
 oo 128 (.arith .sub .i64 (ot 127) (.cst (.d (.int .i64 4)))),
 oo 129 (.mov (ot 14)),
 oo 130 (.arith .add .u32 (ot 129) (.cst (.d (.int .u32 1)))),
 oo 131 (.ixs (.cst (.d (.str [48,48,48,49,48,50,48,51,48,52,48,53,48,54,48,55,48,56,48,57,49,48,49,49,49,50,49,51,49,52,49,53,49,54,49,55,49,56,49,57,50,48,50,49,50,50,50,51,50,52,50,53,50,54,50,55,50,56,50,57,51,48,51,49,51,50,51,51,51,52,51,53,51,54,51,55,51,56,51,57,52,48,52,49,52,50,52,51,52,52,52,53,52,54,52,55,52,56,52,57,53,48,53,49,53,50,53,51,53,52,53,53,53,54,53,55,53,56,53,57,54,48,54,49,54,50,54,51,54,52,54,53,54,54,54,55,54,56,54,57,55,48,55,49,55,50,55,51,55,52,55,53,55,54,55,55,55,56,55,57,56,48,56,49,56,50,56,51,56,52,56,53,56,54,56,55,56,56,56,57,57,48,57,49,57,50,57,51,57,52,57,53,57,54,57,55,57,56,57,57]))) (ot 130)),
 oo 132 (.mov (ot 14)),
 oo 133 (.ixs (.cst (.d (.str [48,48,48,49,48,50,48,51,48,52,48,53,48,54,48,55,48,56,48,57,49,48,49,49,49,50,49,51,49,52,49,53,49,54,49,55,49,56,49,57,50,48,50,49,50,50,50,51,50,52,50,53,50,54,50,55,50,56,50,57,51,48,51,49,51,50,51,51,51,52,51,53,51,54,51,55,51,56,51,57,52,48,52,49,52,50,52,51,52,52,52,53,52,54,52,55,52,56,52,57,53,48,53,49,53,50,53,51,53,52,53,53,53,54,53,55,53,56,53,57,54,48,54,49,54,50,54,51,54,52,54,53,54,54,54,55,54,56,54,57,55,48,55,49,55,50,55,51,55,52,55,53,55,54,55,55,55,56,55,57,56,48,56,49,56,50,56,51,56,52,56,53,56,54,56,55,56,56,56,57,57,48,57,49,57,50,57,51,57,52,57,53,57,54,57,55,57,56,57,57]))) (ot 132)),
 oo 134 (.ixa 1 (ot 123) (ot 125)),
 ⟨none,.st 1 (ot 134) (ot 131),none⟩,
 oo 135 (.ixa 1 (ot 126) (ot 128)),
 ⟨none,.st 1 (ot 135) (ot 133),none⟩] [(0,1),(0,2),(0,3),(1,3),(2,3),(0,4),(1,4),(2,4),(3,4),(0,5),(1,5),(2,5),(3,5),(0,6),(1,6),(2,6),(3,6),(4,6),(5,6),(0,7),(1,7),(2,7),(3,7),(4,7),(5,7),(0,8),(1,8),(2,8),(3,8),(4,8),(5,8),(0,9),(1,9),(2,9),(3,9),(4,9),(5,9),(6,9),(7,9),(8,9),(0,10),(1,10),(2,10),(3,10),(4,10),(5,10),(6,10),(7,10),(8,10),(3,11),(4,11),(5,11),(9,11),(10,11),(3,12),(4,12),(5,12),(9,12),(10,12)])
 (.reg [] [oo 136 (.mov (ot 4)),
 oo 137 (.arith .sub .i64 (ot 136) (.cst (.d (.int .i64 4)))),
 oo 4 (.mov (ot 137))]))))))
 .skip))
 (.seq
 (.seq
 (.reg [] [oo 138 (.mov (ot 4)),
 oo 139 (.cmp .geq (ot 138) (.cst (.d (.int .i64 2))))])
 (.cond (ot 139)
 (.seq
 (.reg [] [oo 140 (.mov (ot 12)),
 oo 141 (.arith .rem .u32 (ot 140) (.cst (.d (.int .u32 100)))),
 oo 142 (.arith .mul .u32 (ot 141) (.cst (.d (.int .u32 2)))),
 oo 16 (.mov (ot 142))])
 (.seq
 (.reg [] [oo 143 (.mov (ot 12)),
 oo 144 (.arith .quo .u32 (ot 143) (.cst (.d (.int .u32 100)))),
 oo 12 (.mov (ot 144))])
 (.seq
 (.regd [] [oo 145 (.mov (ot 0)),
 oo 146 (.mov (ot 4)),
 oo 147 (.arith .sub .i64 (ot 146) (.cst (.d (.int .i64 1)))),
 oo 148 (.mov (ot 0)),
 oo 149 (.mov (ot 4)),
 oo 150 (.arith .sub .i64 (ot 149) (.cst (.d (.int .i64 2)))),
 oo 151 (.mov (ot 16)),
 oo 152 (.arith .add .u32 (ot 151) (.cst (.d (.int .u32 1)))),
 oo 153 (.ixs (.cst (.d (.str [48,48,48,49,48,50,48,51,48,52,48,53,48,54,48,55,48,56,48,57,49,48,49,49,49,50,49,51,49,52,49,53,49,54,49,55,49,56,49,57,50,48,50,49,50,50,50,51,50,52,50,53,50,54,50,55,50,56,50,57,51,48,51,49,51,50,51,51,51,52,51,53,51,54,51,55,51,56,51,57,52,48,52,49,52,50,52,51,52,52,52,53,52,54,52,55,52,56,52,57,53,48,53,49,53,50,53,51,53,52,53,53,53,54,53,55,53,56,53,57,54,48,54,49,54,50,54,51,54,52,54,53,54,54,54,55,54,56,54,57,55,48,55,49,55,50,55,51,55,52,55,53,55,54,55,55,55,56,55,57,56,48,56,49,56,50,56,51,56,52,56,53,56,54,56,55,56,56,56,57,57,48,57,49,57,50,57,51,57,52,57,53,57,54,57,55,57,56,57,57]))) (ot 152)),
 oo 154 (.mov (ot 16)),
 oo 155 (.ixs (.cst (.d (.str [48,48,48,49,48,50,48,51,48,52,48,53,48,54,48,55,48,56,48,57,49,48,49,49,49,50,49,51,49,52,49,53,49,54,49,55,49,56,49,57,50,48,50,49,50,50,50,51,50,52,50,53,50,54,50,55,50,56,50,57,51,48,51,49,51,50,51,51,51,52,51,53,51,54,51,55,51,56,51,57,52,48,52,49,52,50,52,51,52,52,52,53,52,54,52,55,52,56,52,57,53,48,53,49,53,50,53,51,53,52,53,53,53,54,53,55,53,56,53,57,54,48,54,49,54,50,54,51,54,52,54,53,54,54,54,55,54,56,54,57,55,48,55,49,55,50,55,51,55,52,55,53,55,54,55,55,55,56,55,57,56,48,56,49,56,50,56,51,56,52,56,53,56,54,56,55,56,56,56,57,57,48,57,49,57,50,57,51,57,52,57,53,57,54,57,55,57,56,57,57]))) (ot 154)),
 oo 156 (.ixa 1 (ot 145) (ot 147)),
 ⟨none,.st 1 (ot 156) (ot 153),none⟩,
 oo 157 (.ixa 1 (ot 148) (ot 150)),
 ⟨none,.st 1 (ot 157) (ot 155),none⟩] [(0,1),(0,2),(0,3),(1,3),(2,3),(0,4),(1,4),(2,4),(3,4),(0,5),(1,5),(2,5),(3,5),(0,6),(1,6),(2,6),(3,6),(4,6),(5,6),(0,7),(1,7),(2,7),(3,7),(4,7),(5,7),(0,8),(1,8),(2,8),(3,8),(4,8),(5,8),(0,9),(1,9),(2,9),(3,9),(4,9),(5,9),(6,9),(7,9),(8,9),(0,10),(1,10),(2,10),(3,10),(4,10),(5,10),(6,10),(7,10),(8,10),(3,11),(4,11),(5,11),(9,11),(10,11),(3,12),(4,12),(5,12),(9,12),(10,12)])
 (.reg [] [oo 158 (.mov (ot 4)),
 oo 159 (.arith .sub .i64 (ot 158) (.cst (.d (.int .i64 2)))),
 oo 4 (.mov (ot 159))]))))
 .skip))
 (.seq
 (.reg [] [oo 160 (.mov (ot 4)),
 oo 161 (.cmp .gtr (ot 160) (.cst (.d (.int .i64 0))))])
 (.cond (ot 161)
 (.reg [] [oo 162 (.mov (ot 0)),
 oo 163 (.mov (ot 12)),
 oo 164 (.arith .add .u32 (.cst (.d (.int .u32 48))) (ot 163)),
 oo 165 (.conv .u8 (ot 164)),
 oo 166 (.ixa 1 (ot 162) (.cst (.d (.int .i64 0)))),
 ⟨none,.st 1 (ot 166) (ot 165),none⟩])
 .skip)))))))⟩
def tx280:AFun:=⟨6,40,[.tmp 2],
 (.seq
 (.reg [] [oo 2 (.mov (.cst (.d (.int .i64 0))))])
 (.seq
 (.reg [] [oo 3 (.mov (ot 0)),
 oo 4 (.arith .mul .i64 (ot 3) (.cst (.d (.int .i64 78913)))),
 oo 5 (.shf .shr .i64 (ot 4) (.cst (.d (.int .u64 18)))),
 oo 2 (.mov (ot 5))])
 .ret))⟩
def tx281:AFun:=⟨4,40,[.tmp 2],
 (.seq
 (.reg [] [oo 2 (.mov (.cst (.d (.int .i64 0))))])
 (.seq
 (.seq
 (.reg [] [oo 3 (.mov (ot 0))])
 (.cond (ot 3)
 (.seq
 (.reg [] [oo 2 (.mov (.cst (.d (.int .i64 1))))])
 .ret)
 .skip))
 (.seq
 (.reg [] [oo 2 (.mov (.cst (.d (.int .i64 0))))])
 .ret)))⟩
def tab07:TabL:=[
(18,29,tx18),
(21,2,tx21),
(28,3,tx28),
(31,6,tx31),
(33,4,tx33),
(40,7,tx40),
(41,4,tx41),
(47,4,tx47),
(50,5,tx50),
(55,0,tx55),
(56,3,tx56),
(57,7,tx57),
(58,7,tx58),
(62,9,tx62),
(73,3,tx73),
(76,3,tx76),
(81,3,tx81),
(83,4,tx83),
(87,12,tx87),
(92,2,tx92),
(93,1,tx93),
(94,0,tx94),
(95,5,tx95),
(96,0,tx96),
(97,0,tx97),
(98,2,tx98),
(99,1,tx99),
(100,2,tx100),
(101,0,tx101),
(102,2,tx102),
(103,0,tx103),
(104,2,tx104),
(105,3,tx105),
(106,2,tx106),
(109,0,tx109),
(110,0,tx110),
(111,0,tx111),
(112,0,tx112),
(113,3,tx113),
(117,2,tx117),
(118,2,tx118),
(119,2,tx119),
(120,3,tx120),
(121,6,tx121),
(131,0,tx131),
(132,2,tx132),
(133,1,tx133),
(134,2,tx134),
(135,3,tx135),
(136,3,tx136),
(137,2,tx137),
(140,1,tx140),
(142,0,tx142),
(143,0,tx143),
(144,1,tx144),
(145,1,tx145),
(146,1,tx146),
(148,2,tx148),
(162,7,tx162),
(163,0,tx163),
(164,0,tx164),
(165,0,tx165),
(166,4,tx166),
(173,2,tx173),
(174,0,tx174),
(178,4,tx178),
(179,0,tx179),
(180,4,tx180),
(186,0,tx186),
(187,3,tx187),
(188,1,tx188),
(191,2,tx191),
(192,0,tx192),
(212,0,tx212),
(214,5,tx214),
(215,1,tx215),
(216,1,tx216),
(226,0,tx226),
(228,0,tx228),
(232,0,tx232),
(257,1,tx257),
(270,0,tx270),
(271,0,tx271),
(272,0,tx272),
(280,0,tx280),
(281,0,tx281)]
theorem tab07_chk:chkT Tryz.prog tab07=true:=by kernel_rfl
end Vc
