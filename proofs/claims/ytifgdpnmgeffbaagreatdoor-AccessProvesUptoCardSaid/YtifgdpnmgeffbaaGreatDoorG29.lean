import Derived.Test.YtifgdpnmgeffbaaGreatDoorG09
import Derived.Test.YtifgdpnmgeffbaaGreatDoorG11
import Derived.Test.YtifgdpnmgeffbaaGreatDoorG12
import Derived.Test.YtifgdpnmgeffbaaGreatDoorG14
import Derived.Test.YtifgdpnmgeffbaaGreatDoorG16
import Derived.Test.YtifgdpnmgeffbaaGreatDoorG19
import Derived.Test.YtifgdpnmgeffbaaGreatDoorG20
import Derived.Test.YtifgdpnmgeffbaaGreatDoorG25
import Derived.Test.YtifgdpnmgeffbaaGreatDoorG28
import Derived.Test.YtifgdpnmgeffbaaGreatDoorG10
import Derived.Test.YtifgdpnmgeffbaaGreatDoorG06
import Derived.Test.YtifgdpnmgeffbaaGreatDoorRows
set_option linter.unusedSectionVars false
set_option linter.unusedVariables false
set_option linter.unusedSimpArgs false
set_option maxRecDepth 100000
namespace Vc
open Go Go.Proofs
abbrev oo (d : Nat) (x : AOp) : AOper := ⟨some d, x, none⟩
abbrev ot (d : Nat) : Opd := .tmp d
def tx13:AFun:=⟨414,81,[.tmp 0],
 (.seq
 (.reg [] [oo 0 (.mov (.cst (.d (.bool false))))])
 (.seq
 (.reg [] [oo 54 (.call 96 []),
 oo 55 (.call 16 [(ot 54),(.cst (.d (.str [100,101,115,107]))),(.cst (.d (.str [114,101,97,100]))),(.cst (.d (.str [109,49]))),(.cst (.d (.int .i64 16)))]),
 oo 53 (.mov (ot 55)),
 oo 56 (.ext 0 (ot 53)),
 oo 57 (.ext 1 (ot 53)),
 oo 1 (.mov (ot 56)),
 oo 2 (.mov (ot 57))])
 (.seq
 (.reg [] [oo 59 (.call 96 []),
 oo 60 (.call 16 [(ot 59),(.cst (.d (.str [100,101,115,107]))),(.cst (.d (.str [114,101,97,100]))),(.cst (.d (.str [109,49]))),(.cst (.d (.int .i64 19)))]),
 oo 58 (.mov (ot 60)),
 oo 61 (.ext 0 (ot 58)),
 oo 62 (.ext 1 (ot 58)),
 oo 3 (.mov (ot 61)),
 oo 4 (.mov (ot 62))])
 (.seq
 (.reg [] [oo 64 (.call 96 []),
 oo 65 (.call 16 [(ot 64),(.cst (.d (.str [100,101,115,107]))),(.cst (.d (.str [114,101,97,100]))),(.cst (.d (.str [109,49]))),(.cst (.d (.int .i64 26)))]),
 oo 63 (.mov (ot 65)),
 oo 66 (.ext 0 (ot 63)),
 oo 67 (.ext 1 (ot 63)),
 oo 5 (.mov (ot 66)),
 oo 6 (.mov (ot 67))])
 (.seq
 (.reg [] [oo 69 (.call 96 []),
 oo 70 (.call 29 [(ot 69),(.cst (.d (.str [114,101,97,100]))),(.cst (.d (.str [109,49]))),(.cst (.d (.int .i64 19)))]),
 oo 68 (.mov (ot 70)),
 oo 71 (.ext 0 (ot 68)),
 oo 72 (.ext 1 (ot 68)),
 oo 7 (.mov (ot 71)),
 oo 8 (.mov (ot 72))])
 (.seq
 (.reg [] [oo 74 (.call 96 []),
 oo 75 (.call 30 [(ot 74),(.cst (.d (.str [100,101,115,107]))),(.cst (.d (.str [114,101,97,100]))),(.cst (.d (.str [109,49])))]),
 oo 73 (.mov (ot 75)),
 oo 76 (.ext 0 (ot 73)),
 oo 77 (.ext 1 (ot 73)),
 oo 9 (.mov (ot 76)),
 oo 10 (.mov (ot 77))])
 (.seq
 (.reg [0] [oo 78 (.call 96 []),
 oo 79 (.bsl 0 3 1 1 [(.int .i64 0)] [(0,(.cst (.d (.int .i64 1))))]),
 oo 80 (.call 17 [(ot 78),(.cst (.d (.str [100,101,115,107]))),(.cst (.d (.str [114,101,97,100]))),(.cst (.d (.str [109,49]))),(.cst (.d (.int .i64 16))),(ot 79)]),
 oo 11 (.mov (ot 80))])
 (.seq
 (.reg [1] [oo 81 (.call 96 []),
 oo 82 (.bsl 1 3 1 2 [(.int .i64 0),(.int .i64 0)] [(0,(.cst (.d (.int .i64 0)))),(1,(.cst (.d (.int .i64 1))))]),
 oo 83 (.call 17 [(ot 81),(.cst (.d (.str [100,101,115,107]))),(.cst (.d (.str [114,101,97,100]))),(.cst (.d (.str [109,49]))),(.cst (.d (.int .i64 20))),(ot 82)]),
 oo 12 (.mov (ot 83))])
 (.seq
 (.reg [2] [oo 84 (.call 96 []),
 oo 85 (.bsl 2 3 1 2 [(.int .i64 0),(.int .i64 0)] [(0,(.cst (.d (.int .i64 0)))),(1,(.cst (.d (.int .i64 1))))]),
 oo 86 (.call 17 [(ot 84),(.cst (.d (.str [100,101,115,107]))),(.cst (.d (.str [114,101,97,100]))),(.cst (.d (.str [109,49]))),(.cst (.d (.int .i64 19))),(ot 85)]),
 oo 13 (.mov (ot 86))])
 (.seq
 (.reg [] [oo 88 (.call 96 []),
 oo 89 (.call 14 [(ot 88),(.cst (.d (.str [115,104,111,112]))),(.cst (.d (.str [114,101,97,100]))),(.cst (.d (.str [109,49]))),(.cst (.d (.int .i64 20)))]),
 oo 87 (.mov (ot 89)),
 oo 90 (.ext 0 (ot 87)),
 oo 91 (.ext 1 (ot 87)),
 oo 14 (.mov (ot 90)),
 oo 15 (.mov (ot 91))])
 (.seq
 (.seq
 (.reg [3,4,5,6] [oo 92 (.mov (ot 2)),
 oo 93 (.mov (ot 4)),
 oo 94 (.arith .add .i64 (ot 92) (ot 93)),
 oo 95 (.mov (ot 8)),
 oo 96 (.arith .add .i64 (ot 94) (ot 95)),
 oo 97 (.mov (ot 10)),
 oo 98 (.arith .add .i64 (ot 96) (ot 97)),
 oo 99 (.mov (ot 13)),
 oo 100 (.arith .add .i64 (ot 98) (ot 99)),
 oo 101 (.mov (ot 15)),
 oo 102 (.arith .add .i64 (ot 100) (ot 101)),
 oo 103 (.cmp .neq (ot 102) (.cst (.d (.int .i64 0)))),
 oo 104 (.mov (ot 103)),
 ⟨some 105,.mov (ot 6),some (104,false)⟩,
 ⟨some 106,.cmp .neq (ot 105) (.cst (.d (.int .i64 7))),some (104,false)⟩,
 oo 107 (.pick (ot 104) (.cst (.d (.bool true))) (ot 106)),
 oo 108 (.mov (ot 107)),
 ⟨some 109,.mov (ot 11),some (108,false)⟩,
 ⟨some 110,.cmp .neq (ot 109) (.cst (.d (.int .i64 19))),some (108,false)⟩,
 oo 111 (.pick (ot 108) (.cst (.d (.bool true))) (ot 110)),
 oo 112 (.mov (ot 111)),
 ⟨some 113,.mov (ot 12),some (112,false)⟩,
 ⟨some 114,.cmp .neq (ot 113) (.cst (.d (.int .i64 19))),some (112,false)⟩,
 oo 115 (.pick (ot 112) (.cst (.d (.bool true))) (ot 114)),
 oo 116 (.mov (ot 115)),
 ⟨some 117,.mov (ot 14),some (116,false)⟩,
 oo 118 (.pick (ot 116) (.cst (.d (.bool true))) (ot 117)),
 oo 119 (.mov (ot 118)),
 ⟨some 120,.mov (ot 1),some (119,false)⟩,
 ⟨some 121,.bsl 3 3 1 2 [(.int .i64 0),(.int .i64 0)] [(0,(.cst (.d (.int .i64 0)))),(1,(.cst (.d (.int .i64 1))))],some (119,false)⟩,
 ⟨some 122,.call 28 [(ot 120),(ot 121)],some (119,false)⟩,
 ⟨some 123,.not (ot 122),some (119,false)⟩,
 oo 124 (.pick (ot 119) (.cst (.d (.bool true))) (ot 123)),
 oo 125 (.mov (ot 124)),
 ⟨some 126,.mov (ot 3),some (125,false)⟩,
 ⟨some 127,.bsl 4 3 1 1 [(.int .i64 0)] [(0,(.cst (.d (.int .i64 2))))],some (125,false)⟩,
 ⟨some 128,.call 28 [(ot 126),(ot 127)],some (125,false)⟩,
 ⟨some 129,.not (ot 128),some (125,false)⟩,
 oo 130 (.pick (ot 125) (.cst (.d (.bool true))) (ot 129)),
 oo 131 (.mov (ot 130)),
 ⟨some 132,.mov (ot 7),some (131,false)⟩,
 ⟨some 133,.bsl 5 9 1 3 [(.str []),(.str []),(.str [])] [(0,(.cst (.d (.str [103,114,105,100])))),(1,(.cst (.d (.str [115,104,111,112])))),(2,(.cst (.d (.str [100,101,115,107]))))],some (131,false)⟩,
 ⟨some 134,.call 34 [(ot 132),(ot 133)],some (131,false)⟩,
 ⟨some 135,.not (ot 134),some (131,false)⟩,
 oo 136 (.pick (ot 131) (.cst (.d (.bool true))) (ot 135)),
 oo 137 (.mov (ot 136)),
 ⟨some 138,.mov (ot 9),some (137,false)⟩,
 ⟨some 139,.build [(.d (.int .i64 0)),(.d (.int .i64 0))] [(0,1,(.cst (.d (.int .i64 15)))),(1,1,(.cst (.d (.int .i64 25))))],some (137,false)⟩,
 ⟨some 140,.bsl 6 148 2 1 [(.agg [(.int .i64 0),(.int .i64 0)])] [(0,(ot 139))],some (137,false)⟩,
 ⟨some 141,.call 35 [(ot 138),(ot 140)],some (137,false)⟩,
 ⟨some 142,.not (ot 141),some (137,false)⟩,
 oo 143 (.pick (ot 137) (.cst (.d (.bool true))) (ot 142))])
 (.cond (ot 143)
 (.seq
 (.reg [] [oo 0 (.mov (.cst (.d (.bool false))))])
 .ret)
 .skip))
 (.seq
 (.reg [7,8] [oo 144 (.bsl 7 3 1 2 [(.int .i64 0),(.int .i64 0)] [(0,(.cst (.d (.int .i64 0)))),(1,(.cst (.d (.int .i64 1))))]),
 oo 145 (.bsl 8 28 1 1 [(.slice 1 [])] [(0,(ot 144))]),
 oo 16 (.mov (ot 145))])
 (.seq
 (.reg [9] [oo 147 (.bsl 9 3 1 2 [(.int .i64 0),(.int .i64 0)] [(0,(.cst (.d (.int .i64 0)))),(1,(.cst (.d (.int .i64 1))))]),
 oo 148 (.call 37 [(.cst (.d (.int .i64 3))),(.cst (.d (.int .i64 2))),(.cst (.nils 1)),(ot 147)]),
 oo 146 (.mov (ot 148)),
 oo 149 (.ext 0 (ot 146)),
 oo 150 (.ext 1 (ot 146)),
 oo 17 (.mov (ot 149)),
 oo 18 (.mov (ot 150))])
 (.seq
 (.reg [10] [oo 152 (.mov (ot 16)),
 oo 153 (.bsl 10 3 1 3 [(.int .i64 0),(.int .i64 0),(.int .i64 0)] [(0,(.cst (.d (.int .i64 0)))),(1,(.cst (.d (.int .i64 1)))),(2,(.cst (.d (.int .i64 2))))]),
 oo 154 (.call 37 [(.cst (.d (.int .i64 3))),(.cst (.d (.int .i64 2))),(ot 152),(ot 153)]),
 oo 151 (.mov (ot 154)),
 oo 155 (.ext 0 (ot 151)),
 oo 156 (.ext 1 (ot 151)),
 oo 19 (.mov (ot 155)),
 oo 20 (.mov (ot 156))])
 (.seq
 (.reg [11] [oo 158 (.mov (ot 16)),
 oo 159 (.bsl 11 3 1 2 [(.int .i64 0),(.int .i64 0)] [(0,(.cst (.d (.int .i64 1)))),(1,(.cst (.d (.int .i64 2))))]),
 oo 160 (.call 37 [(.cst (.d (.int .i64 3))),(.cst (.d (.int .i64 2))),(ot 158),(ot 159)]),
 oo 157 (.mov (ot 160)),
 oo 161 (.ext 0 (ot 157)),
 oo 162 (.ext 1 (ot 157)),
 oo 21 (.mov (ot 161)),
 oo 22 (.mov (ot 162))])
 (.seq
 (.reg [12,13] [oo 164 (.bsl 12 3 1 2 [(.int .i64 0),(.int .i64 0)] [(0,(.cst (.d (.int .i64 0)))),(1,(.cst (.d (.int .i64 1))))]),
 oo 165 (.build [(.nils 1),(.d (.int .i64 0))] [(0,1,(ot 164)),(1,1,(.cst (.d (.int .i64 12))))]),
 oo 166 (.bsl 13 155 2 1 [(.agg [(.slice 1 []),(.int .i64 0)])] [(0,(ot 165))]),
 oo 167 (.call 48 [(.cst (.d (.int .i64 2))),(.cst (.d (.int .i64 7))),(ot 166)]),
 oo 163 (.mov (ot 167)),
 oo 168 (.ext 0 (ot 163)),
 oo 169 (.ext 1 (ot 163)),
 oo 23 (.mov (ot 168)),
 oo 24 (.mov (ot 169))])
 (.seq
 (.reg [14,15,16] [oo 171 (.bsl 14 3 1 2 [(.int .i64 0),(.int .i64 0)] [(0,(.cst (.d (.int .i64 0)))),(1,(.cst (.d (.int .i64 1))))]),
 oo 172 (.build [(.nils 1),(.d (.int .i64 0))] [(0,1,(ot 171)),(1,1,(.cst (.d (.int .i64 12))))]),
 oo 173 (.bsl 15 3 1 1 [(.int .i64 0)] [(0,(.cst (.d (.int .i64 0))))]),
 oo 174 (.build [(.nils 1),(.d (.int .i64 0))] [(0,1,(ot 173)),(1,1,(.cst (.d (.int .i64 6))))]),
 oo 175 (.bsl 16 155 2 2 [(.agg [(.slice 1 []),(.int .i64 0)]),(.agg [(.slice 1 []),(.int .i64 0)])] [(0,(ot 172)),(1,(ot 174))]),
 oo 176 (.call 48 [(.cst (.d (.int .i64 2))),(.cst (.d (.int .i64 7))),(ot 175)]),
 oo 170 (.mov (ot 176)),
 oo 177 (.ext 0 (ot 170)),
 oo 178 (.ext 1 (ot 170)),
 oo 25 (.mov (ot 177)),
 oo 26 (.mov (ot 178))])
 (.seq
 (.reg [17,18] [oo 180 (.call 97 [(.cst (.d (.int .i64 100))),(.cst (.d (.int .i64 110)))]),
 oo 181 (.call 97 [(.cst (.d (.int .i64 40))),(.cst (.d (.int .i64 42)))]),
 oo 182 (.call 97 [(.cst (.d (.int .i64 50))),(.cst (.d (.int .i64 51)))]),
 oo 183 (.bsl 17 84 2 2 [(.agg [(.int .i64 0),(.int .i64 0)]),(.agg [(.int .i64 0),(.int .i64 0)])] [(0,(ot 181)),(1,(ot 182))]),
 oo 184 (.call 51 [(ot 180),(ot 183)]),
 oo 179 (.mov (ot 184)),
 oo 185 (.ext 0 (ot 179)),
 oo 186 (.ext 1 (ot 179)),
 oo 27 (.alloc 18 [(.d (.int .i64 0)),(.d (.int .i64 0))]),
 ⟨none,.st 2 (ot 27) (ot 185),none⟩,
 oo 28 (.mov (ot 186))])
 (.seq
 (.reg [19] [oo 188 (.call 97 [(.cst (.d (.int .i64 100))),(.cst (.d (.int .i64 110)))]),
 oo 189 (.call 97 [(.cst (.d (.int .i64 40))),(.cst (.d (.int .i64 42)))]),
 oo 190 (.call 97 [(.cst (.d (.int .i64 50))),(.cst (.d (.int .i64 51)))]),
 oo 191 (.bsl 19 84 2 2 [(.agg [(.int .i64 0),(.int .i64 0)]),(.agg [(.int .i64 0),(.int .i64 0)])] [(0,(ot 189)),(1,(ot 190))]),
 oo 192 (.call 53 [(ot 188),(ot 191)]),
 oo 187 (.mov (ot 192)),
 oo 193 (.ext 0 (ot 187)),
 oo 194 (.ext 1 (ot 187)),
 oo 29 (.mov (ot 193)),
 oo 30 (.mov (ot 194))])
 (.seq
 (.reg [20,21] [oo 196 (.call 97 [(.cst (.d (.int .i64 100))),(.cst (.d (.int .i64 110)))]),
 oo 197 (.call 97 [(.cst (.d (.int .i64 40))),(.cst (.d (.int .i64 42)))]),
 oo 198 (.call 97 [(.cst (.d (.int .i64 50))),(.cst (.d (.int .i64 51)))]),
 oo 199 (.call 97 [(.cst (.d (.int .i64 5))),(.cst (.d (.int .i64 15)))]),
 oo 200 (.bsl 20 84 2 3 [(.agg [(.int .i64 0),(.int .i64 0)]),(.agg [(.int .i64 0),(.int .i64 0)]),(.agg [(.int .i64 0),(.int .i64 0)])] [(0,(ot 197)),(1,(ot 198)),(2,(ot 199))]),
 oo 201 (.call 51 [(ot 196),(ot 200)]),
 oo 195 (.mov (ot 201)),
 oo 202 (.ext 0 (ot 195)),
 oo 203 (.ext 1 (ot 195)),
 oo 31 (.alloc 21 [(.d (.int .i64 0)),(.d (.int .i64 0))]),
 ⟨none,.st 2 (ot 31) (ot 202),none⟩,
 oo 32 (.mov (ot 203))])
 (.seq
 (.reg [22,23] [oo 205 (.bsl 22 3 1 2 [(.int .i64 0),(.int .i64 0)] [(0,(.cst (.d (.int .i64 0)))),(1,(.cst (.d (.int .i64 1))))]),
 oo 206 (.build [(.nils 1),(.d (.int .i64 0))] [(0,1,(ot 205)),(1,1,(.cst (.d (.int .i64 12))))]),
 oo 207 (.bsl 23 155 2 1 [(.agg [(.slice 1 []),(.int .i64 0)])] [(0,(ot 206))]),
 oo 208 (.call 50 [(.cst (.d (.int .i64 2))),(.cst (.d (.int .i64 7))),(ot 207),(.cst (.d (.int .i64 2)))]),
 oo 204 (.mov (ot 208)),
 oo 209 (.ext 0 (ot 204)),
 oo 210 (.ext 1 (ot 204)),
 oo 33 (.mov (ot 209)),
 oo 34 (.mov (ot 210))])
 (.seq
 (.reg [24,25] [oo 212 (.bsl 24 3 1 3 [(.int .i64 0),(.int .i64 0),(.int .i64 0)] [(0,(.cst (.d (.int .i64 3)))),(1,(.cst (.d (.int .i64 4)))),(2,(.cst (.d (.int .i64 5))))]),
 oo 213 (.bsl 25 3 1 2 [(.int .i64 0),(.int .i64 0)] [(0,(.cst (.d (.int .i64 0)))),(1,(.cst (.d (.int .i64 2))))]),
 oo 214 (.call 39 [(ot 212),(ot 213)]),
 oo 211 (.mov (ot 214)),
 oo 215 (.ext 0 (ot 211)),
 oo 216 (.ext 1 (ot 211)),
 oo 35 (.mov (ot 215)),
 oo 36 (.mov (ot 216))])
 (.seq
 (.seq
 (.regd [26,27] [oo 217 (.mov (ot 18)),
 oo 218 (.mov (ot 20)),
 oo 219 (.arith .add .i64 (ot 217) (ot 218)),
 oo 220 (.mov (ot 22)),
 oo 221 (.arith .add .i64 (ot 219) (ot 220)),
 oo 222 (.mov (ot 24)),
 oo 223 (.arith .add .i64 (ot 221) (ot 222)),
 oo 224 (.mov (ot 26)),
 oo 225 (.arith .add .i64 (ot 223) (ot 224)),
 oo 226 (.mov (ot 28)),
 oo 227 (.arith .add .i64 (ot 225) (ot 226)),
 oo 228 (.mov (ot 30)),
 oo 229 (.arith .add .i64 (ot 227) (ot 228)),
 oo 230 (.mov (ot 32)),
 oo 231 (.arith .add .i64 (ot 229) (ot 230)),
 oo 232 (.mov (ot 34)),
 oo 233 (.arith .add .i64 (ot 231) (ot 232)),
 oo 234 (.mov (ot 36)),
 oo 235 (.arith .add .i64 (ot 233) (ot 234)),
 oo 236 (.cmp .neq (ot 235) (.cst (.d (.int .i64 0)))),
 oo 237 (.mov (ot 236)),
 ⟨some 238,.mov (ot 17),some (237,false)⟩,
 ⟨some 239,.not (ot 238),some (237,false)⟩,
 oo 240 (.pick (ot 237) (.cst (.d (.bool true))) (ot 239)),
 oo 241 (.mov (ot 240)),
 ⟨some 242,.mov (ot 19),some (241,false)⟩,
 oo 243 (.pick (ot 241) (.cst (.d (.bool true))) (ot 242)),
 oo 244 (.mov (ot 243)),
 ⟨some 245,.mov (ot 21),some (244,false)⟩,
 ⟨some 246,.not (ot 245),some (244,false)⟩,
 oo 247 (.pick (ot 244) (.cst (.d (.bool true))) (ot 246)),
 oo 248 (.mov (ot 247)),
 ⟨some 249,.mov (ot 23),some (248,false)⟩,
 ⟨some 250,.call 97 [(.cst (.d (.int .i64 5))),(.cst (.d (.int .i64 7)))],some (248,false)⟩,
 ⟨some 251,.call 97 [(.cst (.d (.int .i64 5))),(.cst (.d (.int .i64 7)))],some (248,false)⟩,
 ⟨some 252,.bsl 26 84 2 2 [(.agg [(.int .i64 0),(.int .i64 0)]),(.agg [(.int .i64 0),(.int .i64 0)])] [(0,(ot 250)),(1,(ot 251))],some (248,false)⟩,
 ⟨some 253,.call 63 [(ot 249),(ot 252)],some (248,false)⟩,
 ⟨some 254,.not (ot 253),some (248,false)⟩,
 oo 255 (.pick (ot 248) (.cst (.d (.bool true))) (ot 254)),
 oo 256 (.mov (ot 255)),
 ⟨some 257,.mov (ot 25),some (256,false)⟩,
 ⟨some 258,.call 97 [(.cst (.d (.int .i64 6))),(.cst (.d (.int .i64 6)))],some (256,false)⟩,
 ⟨some 259,.call 97 [(.cst (.d (.int .i64 6))),(.cst (.d (.int .i64 6)))],some (256,false)⟩,
 ⟨some 260,.bsl 27 84 2 2 [(.agg [(.int .i64 0),(.int .i64 0)]),(.agg [(.int .i64 0),(.int .i64 0)])] [(0,(ot 258)),(1,(ot 259))],some (256,false)⟩,
 ⟨some 261,.call 63 [(ot 257),(ot 260)],some (256,false)⟩,
 ⟨some 262,.not (ot 261),some (256,false)⟩,
 oo 263 (.pick (ot 256) (.cst (.d (.bool true))) (ot 262)),
 oo 264 (.mov (ot 263)),
 ⟨some 265,.ld true 2 (ot 27),some (264,false)⟩,
 ⟨some 266,.call 97 [(.cst (.d (.int .i64 7))),(.cst (.d (.int .i64 20)))],some (264,false)⟩,
 ⟨some 267,.aeq true [0,0] (ot 265) (ot 266),some (264,false)⟩,
 oo 268 (.pick (ot 264) (.cst (.d (.bool true))) (ot 267)),
 oo 269 (.mov (ot 268)),
 ⟨some 270,.mov (ot 29),some (269,false)⟩,
 ⟨some 271,.cmp .neq (ot 270) (.cst (.d (.int .i64 1))),some (269,false)⟩,
 oo 272 (.pick (ot 269) (.cst (.d (.bool true))) (ot 271)),
 oo 273 (.mov (ot 272)),
 ⟨some 274,.ld true 2 (ot 31),some (273,false)⟩,
 ⟨some 275,.call 97 [(.cst (.d (.int .i64 (-8)))),(.cst (.d (.int .i64 15)))],some (273,false)⟩,
 ⟨some 276,.aeq true [0,0] (ot 274) (ot 275),some (273,false)⟩,
 oo 277 (.pick (ot 273) (.cst (.d (.bool true))) (ot 276)),
 oo 278 (.mov (ot 277)),
 ⟨some 279,.mov (ot 33),some (278,false)⟩,
 ⟨some 280,.not (ot 279),some (278,false)⟩,
 oo 281 (.pick (ot 278) (.cst (.d (.bool true))) (ot 280)),
 oo 282 (.mov (ot 281)),
 ⟨some 283,.mov (ot 35),some (282,false)⟩,
 ⟨some 284,.cmp .neq (ot 283) (.cst (.d (.int .i64 8))),some (282,false)⟩,
 oo 285 (.pick (ot 282) (.cst (.d (.bool true))) (ot 284))] [(0,1),(0,3),(1,3),(2,3),(0,5),(1,5),(2,5),(3,5),(4,5),(0,7),(1,7),(2,7),(3,7),(4,7),(5,7),(6,7),(0,9),(1,9),(2,9),(3,9),(4,9),(5,9),(6,9),(7,9),(8,9),(0,11),(1,11),(2,11),(3,11),(4,11),(5,11),(6,11),(7,11),(8,11),(9,11),(10,11),(0,13),(1,13),(2,13),(3,13),(4,13),(5,13),(6,13),(7,13),(8,13),(9,13),(10,13),(11,13),(12,13),(0,15),(1,15),(2,15),(3,15),(4,15),(5,15),(6,15),(7,15),(8,15),(9,15),(10,15),(11,15),(12,15),(13,15),(14,15),(0,17),(1,17),(2,17),(3,17),(4,17),(5,17),(6,17),(7,17),(8,17),(9,17),(10,17),(11,17),(12,17),(13,17),(14,17),(15,17),(16,17),(32,33),(32,34),(32,35),(40,41),(40,42),(40,43),(48,49),(57,58)])
 (.cond (ot 285)
 (.seq
 (.reg [] [oo 0 (.mov (.cst (.d (.bool false))))])
 .ret)
 .skip))
 (.seq
 (.reg [28,29,30] [oo 287 (.bsl 28 5 1 2 [(.int .u8 0),(.int .u8 0)] [(0,(.cst (.d (.int .u8 1)))),(1,(.cst (.d (.int .u8 2))))]),
 oo 288 (.bsl 29 5 1 1 [(.int .u8 0)] [(0,(.cst (.d (.int .u8 3))))]),
 oo 289 (.bsl 30 111 1 2 [(.slice 1 []),(.slice 1 [])] [(0,(ot 287)),(1,(ot 288))]),
 oo 290 (.build [(.d (.int .i64 0)),(.nils 1)] [(0,1,(.cst (.d (.int .i64 5)))),(1,1,(ot 289))]),
 oo 291 (.call 65 [(ot 290)]),
 oo 286 (.mov (ot 291)),
 oo 292 (.ext 0 (ot 286)),
 oo 293 (.ext 1 (ot 286)),
 oo 37 (.mov (ot 292)),
 oo 38 (.mov (ot 293))])
 (.seq
 (.reg [31] [oo 295 (.build [(.d (.int .i64 0)),(.d (.int .i64 0)),(.d (.int .i64 0)),(.d (.int .i64 0)),(.nils 1),(.d (.bool false)),(.d (.bool false))] [(0,1,(.cst (.d (.int .i64 4))))]),
 oo 296 (.call 67 [(ot 295),(.cst (.d (.int .i64 5))),(.cst (.d (.int .i64 2))),(.cst (.d (.int .i64 14)))]),
 oo 294 (.mov (ot 296)),
 oo 297 (.ext 0 (ot 294)),
 oo 298 (.ext 1 (ot 294)),
 oo 39 (.alloc 31 [(.d (.int .i64 0)),(.d (.int .i64 0)),(.d (.int .i64 0)),(.d (.int .i64 0)),(.nils 1),(.d (.bool false)),(.d (.bool false))]),
 ⟨none,.st 7 (ot 39) (ot 297),none⟩,
 oo 40 (.mov (ot 298))])
 (.seq
 (.reg [32] [oo 300 (.ld true 7 (ot 39)),
 oo 301 (.bsl 32 5 1 2 [(.int .u8 0),(.int .u8 0)] [(0,(.cst (.d (.int .u8 1)))),(1,(.cst (.d (.int .u8 2))))]),
 oo 302 (.call 69 [(ot 300),(.cst (.d (.int .i64 0))),(ot 301)]),
 oo 299 (.mov (ot 302)),
 oo 303 (.ext 0 (ot 299)),
 oo 304 (.ext 1 (ot 299)),
 ⟨none,.st 7 (ot 39) (ot 303),none⟩,
 oo 41 (.mov (ot 304))])
 (.seq
 (.reg [33] [oo 306 (.ld true 7 (ot 39)),
 oo 307 (.bsl 33 5 1 1 [(.int .u8 0)] [(0,(.cst (.d (.int .u8 3))))]),
 oo 308 (.call 69 [(ot 306),(.cst (.d (.int .i64 1))),(ot 307)]),
 oo 305 (.mov (ot 308)),
 oo 309 (.ext 0 (ot 305)),
 oo 310 (.ext 1 (ot 305)),
 ⟨none,.st 7 (ot 39) (ot 309),none⟩,
 oo 42 (.mov (ot 310))])
 (.seq
 (.reg [] [oo 312 (.ld true 7 (ot 39)),
 oo 313 (.call 70 [(ot 312)]),
 oo 311 (.mov (ot 313)),
 oo 314 (.ext 0 (ot 311)),
 oo 315 (.ext 1 (ot 311)),
 ⟨none,.st 7 (ot 39) (ot 314),none⟩,
 oo 43 (.mov (ot 315))])
 (.seq
 (.reg [] [oo 317 (.ld true 7 (ot 39)),
 oo 318 (.call 71 [(ot 317)]),
 oo 316 (.mov (ot 318)),
 oo 319 (.ext 0 (ot 316)),
 oo 320 (.ext 1 (ot 316)),
 ⟨none,.st 7 (ot 39) (ot 319),none⟩,
 oo 44 (.mov (ot 320))])
 (.seq
 (.reg [34] [oo 322 (.ld true 7 (ot 39)),
 oo 323 (.call 73 [(ot 322)]),
 oo 321 (.mov (ot 323)),
 oo 324 (.ext 0 (ot 321)),
 oo 325 (.ext 1 (ot 321)),
 oo 45 (.alloc 34 [(.d (.int .i64 0)),(.d (.int .i64 0)),(.d (.int .i64 0)),(.d (.int .i64 0)),(.nils 1),(.d (.bool false)),(.d (.bool false))]),
 ⟨none,.st 7 (ot 45) (ot 324),none⟩,
 oo 46 (.mov (ot 325))])
 (.seq
 (.reg [35] [oo 327 (.ld true 7 (ot 39)),
 oo 328 (.call 72 [(ot 327)]),
 oo 326 (.mov (ot 328)),
 oo 329 (.ext 0 (ot 326)),
 oo 330 (.ext 1 (ot 326)),
 oo 47 (.alloc 35 [(.d (.int .i64 0)),(.d (.int .i64 0)),(.d (.int .i64 0)),(.d (.int .i64 0)),(.nils 1),(.d (.bool false)),(.d (.bool false))]),
 ⟨none,.st 7 (ot 47) (ot 329),none⟩,
 oo 48 (.mov (ot 330))])
 (.seq
 (.reg [36] [oo 332 (.build [(.d (.str [])),(.d (.int .i64 0))] [(0,1,(.cst (.d (.str [97])))),(1,1,(.cst (.d (.int .i64 6))))]),
 oo 333 (.build [(.d (.str [])),(.d (.int .i64 0))] [(0,1,(.cst (.d (.str [98])))),(1,1,(.cst (.d (.int .i64 5))))]),
 oo 334 (.build [(.d (.str [])),(.d (.int .i64 0))] [(0,1,(.cst (.d (.str [99])))),(1,1,(.cst (.d (.int .i64 4))))]),
 oo 335 (.bsl 36 164 2 3 [(.agg [(.str []),(.int .i64 0)]),(.agg [(.str []),(.int .i64 0)]),(.agg [(.str []),(.int .i64 0)])] [(0,(ot 332)),(1,(ot 333)),(2,(ot 334))]),
 oo 336 (.calli 86 [(ot 335),(.cst (.d (.int .i64 10))),(.cst (.d (.int .i64 3)))]),
 oo 331 (.mov (ot 336)),
 oo 337 (.ext 0 (ot 331)),
 oo 338 (.ext 1 (ot 331)),
 oo 49 (.mov (ot 337)),
 oo 50 (.mov (ot 338))])
 (.seq
 (.reg [] [oo 340 (.call 96 []),
 oo 341 (.call 98 [(ot 340)]),
 oo 339 (.mov (ot 341)),
 oo 342 (.ext 0 (ot 339)),
 oo 343 (.ext 1 (ot 339)),
 oo 51 (.mov (ot 342)),
 oo 52 (.mov (ot 343))])
 (.seq
 (.reg [37,38,39,40] [oo 344 (.mov (ot 38)),
 oo 345 (.mov (ot 40)),
 oo 346 (.arith .add .i64 (ot 344) (ot 345)),
 oo 347 (.mov (ot 41)),
 oo 348 (.arith .add .i64 (ot 346) (ot 347)),
 oo 349 (.mov (ot 42)),
 oo 350 (.arith .add .i64 (ot 348) (ot 349)),
 oo 351 (.mov (ot 43)),
 oo 352 (.arith .add .i64 (ot 350) (ot 351)),
 oo 353 (.mov (ot 44)),
 oo 354 (.arith .add .i64 (ot 352) (ot 353)),
 oo 355 (.mov (ot 46)),
 oo 356 (.arith .add .i64 (ot 354) (ot 355)),
 oo 357 (.mov (ot 48)),
 oo 358 (.arith .add .i64 (ot 356) (ot 357)),
 oo 359 (.mov (ot 50)),
 oo 360 (.arith .add .i64 (ot 358) (ot 359)),
 oo 361 (.mov (ot 52)),
 oo 362 (.arith .add .i64 (ot 360) (ot 361)),
 oo 363 (.cmp .eql (ot 362) (.cst (.d (.int .i64 0)))),
 oo 364 (.mov (ot 363)),
 ⟨some 365,.mov (ot 37),some (364,true)⟩,
 ⟨some 366,.cmp .eql (ot 365) (.cst (.d (.int .i64 14))),some (364,true)⟩,
 oo 367 (.pick (ot 364) (ot 366) (.cst (.d (.bool false)))),
 oo 368 (.mov (ot 367)),
 ⟨some 369,.fad 0 (ot 39),some (368,true)⟩,
 ⟨some 370,.ld false 1 (ot 369),some (368,true)⟩,
 ⟨some 371,.cmp .eql (ot 370) (.cst (.d (.int .i64 5))),some (368,true)⟩,
 oo 372 (.pick (ot 368) (ot 371) (.cst (.d (.bool false)))),
 oo 373 (.mov (ot 372)),
 ⟨some 374,.fad 1 (ot 39),some (373,true)⟩,
 ⟨some 375,.ld false 1 (ot 374),some (373,true)⟩,
 ⟨some 376,.cmp .eql (ot 375) (.cst (.d (.int .i64 4))),some (373,true)⟩,
 oo 377 (.pick (ot 373) (ot 376) (.cst (.d (.bool false)))),
 oo 378 (.mov (ot 377)),
 ⟨some 379,.fad 6 (ot 39),some (378,true)⟩,
 ⟨some 380,.ld false 1 (ot 379),some (378,true)⟩,
 oo 381 (.pick (ot 378) (ot 380) (.cst (.d (.bool false)))),
 oo 382 (.mov (ot 381)),
 ⟨some 383,.fad 0 (ot 45),some (382,true)⟩,
 ⟨some 384,.ld false 1 (ot 383),some (382,true)⟩,
 ⟨some 385,.cmp .eql (ot 384) (.cst (.d (.int .i64 4))),some (382,true)⟩,
 oo 386 (.pick (ot 382) (ot 385) (.cst (.d (.bool false)))),
 oo 387 (.mov (ot 386)),
 ⟨some 388,.fad 2 (ot 45),some (387,true)⟩,
 ⟨some 389,.ld false 1 (ot 388),some (387,true)⟩,
 ⟨some 390,.cmp .eql (ot 389) (.cst (.d (.int .i64 0))),some (387,true)⟩,
 oo 391 (.pick (ot 387) (ot 390) (.cst (.d (.bool false)))),
 oo 392 (.mov (ot 391)),
 ⟨some 393,.fad 0 (ot 47),some (392,true)⟩,
 ⟨some 394,.ld false 1 (ot 393),some (392,true)⟩,
 ⟨some 395,.cmp .eql (ot 394) (.cst (.d (.int .i64 5))),some (392,true)⟩,
 oo 396 (.pick (ot 392) (ot 395) (.cst (.d (.bool false)))),
 oo 397 (.mov (ot 396)),
 ⟨some 398,.fad 6 (ot 47),some (397,true)⟩,
 ⟨some 399,.ld false 1 (ot 398),some (397,true)⟩,
 ⟨some 400,.not (ot 399),some (397,true)⟩,
 oo 401 (.pick (ot 397) (ot 400) (.cst (.d (.bool false)))),
 oo 402 (.mov (ot 401)),
 ⟨some 403,.mov (ot 49),some (402,true)⟩,
 ⟨some 404,.bsl 37 3 1 2 [(.int .i64 0),(.int .i64 0)] [(0,(.cst (.d (.int .i64 0)))),(1,(.cst (.d (.int .i64 2))))],some (402,true)⟩,
 ⟨some 405,.bsl 38 3 1 2 [(.int .i64 0),(.int .i64 0)] [(0,(.cst (.d (.int .i64 1)))),(1,(.cst (.d (.int .i64 2))))],some (402,true)⟩,
 ⟨some 406,.bsl 39 3 1 2 [(.int .i64 0),(.int .i64 0)] [(0,(.cst (.d (.int .i64 0)))),(1,(.cst (.d (.int .i64 2))))],some (402,true)⟩,
 ⟨some 407,.bsl 40 28 1 3 [(.slice 1 []),(.slice 1 []),(.slice 1 [])] [(0,(ot 404)),(1,(ot 405)),(2,(ot 406))],some (402,true)⟩,
 ⟨some 408,.calli 91 [(ot 403),(ot 407)],some (402,true)⟩,
 oo 409 (.pick (ot 402) (ot 408) (.cst (.d (.bool false)))),
 oo 410 (.mov (ot 409)),
 ⟨some 411,.mov (ot 51),some (410,true)⟩,
 ⟨some 412,.seq false (ot 411) (.cst (.d (.str [111,98,106,101,99,116,32,109,49,32,103,114,105,100,10,103,114,97,110,116,32,103,114,105,100,32,115,104,111,112,32,114,101,97,100,32,109,49,32,49,48,32,50,48,10,103,114,97,110,116,32,115,104,111,112,32,100,101,115,107,32,114,101,97,100,32,109,49,32,49,53,32,51,48,10,103,114,97,110,116,32,103,114,105,100,32,100,101,115,107,32,114,101,97,100,32,109,49,32,49,56,32,50,53,10]))),some (410,true)⟩,
 oo 413 (.pick (ot 410) (ot 412) (.cst (.d (.bool false)))),
 oo 0 (.mov (ot 413))])
 .ret))))))))))))))))))))))))))))))))))⟩
def tx14:AFun:={ jr14 with heap:=43 }
def tx16:AFun:={ jr16 with heap:=43 }
def tx17:AFun:={ jr17 with heap:=44 }
def tx27:AFun:={ jr27 with heap:=47 }
def tx28:AFun:={ ir28 with heap:=40 }
def tx29:AFun:={ jr29 with heap:=47 }
def tx30:AFun:={ jr30 with heap:=48 }
def tx34:AFun:=⟨26,40,[.tmp 4],
 (.seq
 (.reg [] [oo 4 (.mov (.cst (.d (.bool false))))])
 (.seq
 (.seq
 (.reg [] [oo 6 (.mov (ot 0)),
 oo 7 (.len (ot 6)),
 oo 8 (.mov (ot 1)),
 oo 9 (.len (ot 8)),
 oo 10 (.cmp .neq (ot 7) (ot 9))])
 (.cond (ot 10)
 (.seq
 (.reg [] [oo 4 (.mov (.cst (.d (.bool false))))])
 .ret)
 .skip))
 (.seq
 (.seq
 (.reg [] [oo 5 (.mov (.cst (.d (.int .i64 0))))])
 (.post [] []
 (.block 0
 (.keep [0,1,5] []
 (.loop
 (.post [0,1,5] []
 (.seq
 (.seq
 (.reg [] [oo 11 (.mov (ot 5)),
 oo 12 (.mov (ot 0)),
 oo 13 (.len (ot 12)),
 oo 14 (.cmp .lss (ot 11) (ot 13))])
 (.cond (ot 14)
 .skip
 (.exit 0)))
 (.seq
 (.block 1
 (.seq
 (.regd [] [oo 17 (.mov (ot 0)),
 oo 18 (.mov (ot 5)),
 oo 19 (.ixa 1 (ot 17) (ot 18)),
 oo 20 (.ld false 1 (ot 19)),
 oo 21 (.mov (ot 1)),
 oo 22 (.mov (ot 5)),
 oo 23 (.ixa 1 (ot 21) (ot 22)),
 oo 24 (.ld false 1 (ot 23)),
 oo 25 (.seq true (ot 20) (ot 24))] [(0,1),(0,4),(1,4),(2,4),(3,4),(0,5),(1,5),(2,5),(3,5),(4,5),(0,6),(1,6),(2,6),(3,6),(0,7),(1,7),(2,7),(3,7)])
 (.cond (ot 25)
 (.seq
 (.reg [] [oo 4 (.mov (.cst (.d (.bool false))))])
 .ret)
 .skip)))
 (.reg [] [oo 15 (.mov (ot 5)),
 oo 16 (.arith .add .i64 (ot 15) (.cst (.d (.int .i64 1)))),
 oo 5 (.mov (ot 16))])))))))))
 (.seq
 (.reg [] [oo 4 (.mov (.cst (.d (.bool true))))])
 .ret))))⟩
def tx35:AFun:=⟨26,40,[.tmp 4],
 (.seq
 (.reg [] [oo 4 (.mov (.cst (.d (.bool false))))])
 (.seq
 (.seq
 (.reg [] [oo 6 (.mov (ot 0)),
 oo 7 (.len (ot 6)),
 oo 8 (.mov (ot 1)),
 oo 9 (.len (ot 8)),
 oo 10 (.cmp .neq (ot 7) (ot 9))])
 (.cond (ot 10)
 (.seq
 (.reg [] [oo 4 (.mov (.cst (.d (.bool false))))])
 .ret)
 .skip))
 (.seq
 (.seq
 (.reg [] [oo 5 (.mov (.cst (.d (.int .i64 0))))])
 (.post [] []
 (.block 0
 (.keep [0,1,5] []
 (.loop
 (.post [0,1,5] []
 (.seq
 (.seq
 (.reg [] [oo 11 (.mov (ot 5)),
 oo 12 (.mov (ot 0)),
 oo 13 (.len (ot 12)),
 oo 14 (.cmp .lss (ot 11) (ot 13))])
 (.cond (ot 14)
 .skip
 (.exit 0)))
 (.seq
 (.block 1
 (.seq
 (.regd [] [oo 17 (.mov (ot 0)),
 oo 18 (.mov (ot 5)),
 oo 19 (.ixa 2 (ot 17) (ot 18)),
 oo 20 (.ld true 2 (ot 19)),
 oo 21 (.mov (ot 1)),
 oo 22 (.mov (ot 5)),
 oo 23 (.ixa 2 (ot 21) (ot 22)),
 oo 24 (.ld true 2 (ot 23)),
 oo 25 (.aeq true [0,0] (ot 20) (ot 24))] [(0,1),(0,4),(1,4),(2,4),(3,4),(0,5),(1,5),(2,5),(3,5),(4,5),(0,6),(1,6),(2,6),(3,6),(0,7),(1,7),(2,7),(3,7)])
 (.cond (ot 25)
 (.seq
 (.reg [] [oo 4 (.mov (.cst (.d (.bool false))))])
 .ret)
 .skip)))
 (.reg [] [oo 15 (.mov (ot 5)),
 oo 16 (.arith .add .i64 (ot 15) (.cst (.d (.int .i64 1)))),
 oo 5 (.mov (ot 16))])))))))))
 (.seq
 (.reg [] [oo 4 (.mov (.cst (.d (.bool true))))])
 .ret))))⟩
def tx37:AFun:=⟨51,45,[.tmp 8,.tmp 9],
 (.seq
 (.reg [0,1,2] [oo 4 (.cbx 0 1 (ot 0)),
 oo 5 (.cbx 1 1 (ot 1)),
 oo 7 (.cbx 2 1 (ot 3)),
 oo 8 (.mov (.cst (.d (.bool false)))),
 oo 9 (.mov (.cst (.d (.int .i64 0))))])
 (.seq
 (.seq
 (.regd [3] [oo 14 (.ld false 1 (ot 4)),
 oo 15 (.call 121 [(ot 14)]),
 oo 16 (.ld false 1 (ot 5)),
 oo 17 (.call 122 [(ot 16),(.cst (.d (.int .i64 1))),(.cst (.d (.int .i64 5)))]),
 oo 18 (.mov (ot 2)),
 oo 19 (.len (ot 18)),
 oo 20 (.cmp .gtr (ot 19) (.cst (.d (.int .i64 16)))),
 oo 21 (.call 103 [(ot 20),(.cst (.d (.int .i64 5)))]),
 oo 22 (.bsl 3 32 1 3 [(.int .i64 0),(.int .i64 0),(.int .i64 0)] [(0,(ot 15)),(1,(ot 17)),(2,(ot 21))]),
 oo 23 (.call 99 [(ot 22)]),
 oo 10 (.mov (ot 23))] [(0,2),(1,2),(0,4),(1,4),(2,4),(3,4),(0,5),(1,5),(2,5),(3,5),(0,6),(1,6),(2,6),(3,6)])
 (.seq
 (.reg [] [oo 24 (.mov (ot 10)),
 oo 25 (.cmp .neq (ot 24) (.cst (.d (.int .i64 0))))])
 (.cond (ot 25)
 (.seq
 (.reg [] [oo 26 (.mov (ot 10)),
 oo 8 (.mov (.cst (.d (.bool false)))),
 oo 9 (.mov (ot 26))])
 .ret)
 .skip)))
 (.seq
 (.reg [] [oo 27 (.mkf (.func 123) [] [(ot 4)]),
 oo 11 (.mov (ot 27))])
 (.seq
 (.seq
 (.regd [4] [oo 28 (.mov (ot 2)),
 oo 29 (.mov (ot 11)),
 oo 30 (.call 125 [(ot 28),(ot 29)]),
 oo 31 (.call 99 [(ot 30)]),
 oo 32 (.mov (ot 11)),
 oo 33 (.ld false 1 (ot 7)),
 oo 34 (.callv (ot 32) [(ot 33)]),
 oo 35 (.bsl 4 32 1 2 [(.int .i64 0),(.int .i64 0)] [(0,(ot 31)),(1,(ot 34))]),
 oo 36 (.call 99 [(ot 35)]),
 oo 12 (.mov (ot 36))] [(0,1),(0,4),(1,4),(2,4),(3,4),(0,5),(1,5),(2,5),(3,5),(4,5)])
 (.seq
 (.reg [] [oo 37 (.mov (ot 12)),
 oo 38 (.cmp .neq (ot 37) (.cst (.d (.int .i64 0))))])
 (.cond (ot 38)
 (.seq
 (.reg [] [oo 39 (.mov (ot 12)),
 oo 8 (.mov (.cst (.d (.bool false)))),
 oo 9 (.mov (ot 39))])
 .ret)
 .skip)))
 (.seq
 (.reg [] [oo 40 (.mov (ot 2)),
 oo 41 (.mkf (.func 127) [] [(ot 7),(ot 5)]),
 oo 42 (.call 126 [(ot 40),(ot 41)]),
 oo 13 (.mov (ot 42))])
 (.seq
 (.reg [] [oo 43 (.ld false 1 (ot 7)),
 oo 44 (.len (ot 43)),
 oo 45 (.ld false 1 (ot 5)),
 oo 46 (.cmp .geq (ot 44) (ot 45)),
 oo 47 (.mov (ot 46)),
 ⟨some 48,.mov (ot 13),some (47,true)⟩,
 ⟨some 49,.not (ot 48),some (47,true)⟩,
 oo 50 (.pick (ot 47) (ot 49) (.cst (.d (.bool false)))),
 oo 8 (.mov (ot 50)),
 oo 9 (.mov (.cst (.d (.int .i64 0))))])
 .ret))))))⟩
def tx39:AFun:=⟨38,42,[.tmp 4,.tmp 5],
 (.seq
 (.reg [] [oo 4 (.mov (.cst (.d (.int .i64 0)))),
 oo 5 (.mov (.cst (.d (.int .i64 0))))])
 (.seq
 (.seq
 (.reg [0] [oo 9 (.mov (ot 0)),
 oo 10 (.len (ot 9)),
 oo 11 (.cmp .eql (ot 10) (.cst (.d (.int .i64 0)))),
 oo 12 (.call 103 [(ot 11),(.cst (.d (.int .i64 12)))]),
 oo 13 (.mov (ot 0)),
 oo 14 (.len (ot 13)),
 oo 15 (.cmp .gtr (ot 14) (.cst (.d (.int .i64 5)))),
 oo 16 (.call 103 [(ot 15),(.cst (.d (.int .i64 5)))]),
 oo 17 (.bsl 0 32 1 2 [(.int .i64 0),(.int .i64 0)] [(0,(ot 12)),(1,(ot 16))]),
 oo 18 (.call 99 [(ot 17)]),
 oo 6 (.mov (ot 18))])
 (.seq
 (.reg [] [oo 19 (.mov (ot 6)),
 oo 20 (.cmp .neq (ot 19) (.cst (.d (.int .i64 0))))])
 (.cond (ot 20)
 (.seq
 (.reg [] [oo 21 (.mov (ot 6)),
 oo 4 (.mov (.cst (.d (.int .i64 0)))),
 oo 5 (.mov (ot 21))])
 .ret)
 .skip)))
 (.seq
 (.reg [] [oo 7 (.mov (.cst (.d (.fn (.func 129) []))))])
 (.seq
 (.seq
 (.reg [1] [oo 22 (.mov (ot 0)),
 oo 23 (.mov (ot 7)),
 oo 24 (.call 130 [(ot 22),(ot 23)]),
 oo 25 (.call 99 [(ot 24)]),
 oo 26 (.mov (ot 0)),
 oo 27 (.len (ot 26)),
 oo 28 (.mov (ot 1)),
 oo 29 (.call 124 [(ot 27),(ot 28)]),
 oo 30 (.bsl 1 32 1 2 [(.int .i64 0),(.int .i64 0)] [(0,(ot 25)),(1,(ot 29))]),
 oo 31 (.call 99 [(ot 30)]),
 oo 8 (.mov (ot 31))])
 (.seq
 (.reg [] [oo 32 (.mov (ot 8)),
 oo 33 (.cmp .neq (ot 32) (.cst (.d (.int .i64 0))))])
 (.cond (ot 33)
 (.seq
 (.reg [] [oo 34 (.mov (ot 8)),
 oo 4 (.mov (.cst (.d (.int .i64 0)))),
 oo 5 (.mov (ot 34))])
 .ret)
 .skip)))
 (.seq
 (.reg [] [oo 35 (.mov (ot 0)),
 oo 36 (.mov (ot 1)),
 oo 37 (.call 131 [(ot 35),(ot 36)]),
 oo 4 (.mov (ot 37)),
 oo 5 (.mov (.cst (.d (.int .i64 0))))])
 .ret)))))⟩
def tx48:AFun:=⟨28,40,[.tmp 6,.tmp 7],
 (.seq
 (.reg [] [oo 6 (.mov (.cst (.nils 2))),
 oo 7 (.mov (.cst (.d (.int .i64 0))))])
 (.seq
 (.seq
 (.reg [] [oo 11 (.mov (ot 0)),
 oo 12 (.mov (ot 1)),
 oo 13 (.mov (ot 2)),
 oo 14 (.call 132 [(ot 11),(ot 12),(ot 13)]),
 oo 8 (.mov (ot 14))])
 (.seq
 (.reg [] [oo 15 (.mov (ot 8)),
 oo 16 (.cmp .neq (ot 15) (.cst (.d (.int .i64 0))))])
 (.cond (ot 16)
 (.seq
 (.reg [] [oo 17 (.mov (ot 8)),
 oo 6 (.mov (.cst (.nils 2))),
 oo 7 (.mov (ot 17))])
 .ret)
 .skip)))
 (.seq
 (.reg [] [oo 19 (.mov (ot 0)),
 oo 20 (.mov (ot 1)),
 oo 21 (.mov (ot 2)),
 oo 22 (.calli 133 [(ot 19),(ot 20),(ot 21)]),
 oo 18 (.mov (ot 22)),
 oo 23 (.ext 0 (ot 18)),
 oo 24 (.ext 1 (ot 18)),
 oo 9 (.mov (ot 23)),
 oo 10 (.mov (ot 24))])
 (.seq
 (.seq
 (.reg [] [oo 25 (.mov (ot 10)),
 oo 26 (.not (ot 25))])
 (.cond (ot 26)
 (.seq
 (.reg [] [oo 6 (.mov (.cst (.nils 2))),
 oo 7 (.mov (.cst (.d (.int .i64 18))))])
 .ret)
 .skip))
 (.seq
 (.reg [] [oo 27 (.mov (ot 9)),
 oo 6 (.mov (ot 27)),
 oo 7 (.mov (.cst (.d (.int .i64 0))))])
 .ret)))))⟩
def tx50:AFun:=⟨37,42,[.tmp 8,.tmp 9],
 (.seq
 (.reg [0] [oo 7 (.cbx 0 1 (ot 3)),
 oo 8 (.mov (.cst (.d (.bool false)))),
 oo 9 (.mov (.cst (.d (.int .i64 0))))])
 (.seq
 (.seq
 (.regd [1] [oo 13 (.mov (ot 0)),
 oo 14 (.mov (ot 1)),
 oo 15 (.mov (ot 2)),
 oo 16 (.call 132 [(ot 13),(ot 14),(ot 15)]),
 oo 17 (.ld false 1 (ot 7)),
 oo 18 (.call 122 [(ot 17),(.cst (.d (.int .i64 0))),(.cst (.d (.int .i64 7)))]),
 oo 19 (.bsl 1 32 1 2 [(.int .i64 0),(.int .i64 0)] [(0,(ot 16)),(1,(ot 18))]),
 oo 20 (.call 99 [(ot 19)]),
 oo 10 (.mov (ot 20))] [(0,1),(0,2),(1,2),(0,4),(1,4),(2,4),(3,4)])
 (.seq
 (.reg [] [oo 21 (.mov (ot 10)),
 oo 22 (.cmp .neq (ot 21) (.cst (.d (.int .i64 0))))])
 (.cond (ot 22)
 (.seq
 (.reg [] [oo 23 (.mov (ot 10)),
 oo 8 (.mov (.cst (.d (.bool false)))),
 oo 9 (.mov (ot 23))])
 .ret)
 .skip)))
 (.seq
 (.reg [] [oo 25 (.mov (ot 0)),
 oo 26 (.mov (ot 1)),
 oo 27 (.mov (ot 2)),
 oo 28 (.call 133 [(ot 25),(ot 26),(ot 27)]),
 oo 24 (.mov (ot 28)),
 oo 29 (.ext 0 (ot 24)),
 oo 30 (.ext 1 (ot 24)),
 oo 11 (.mov (ot 29)),
 oo 12 (.mov (ot 30))])
 (.seq
 (.seq
 (.reg [] [oo 31 (.mov (ot 12)),
 oo 32 (.not (ot 31))])
 (.cond (ot 32)
 (.seq
 (.reg [] [oo 8 (.mov (.cst (.d (.bool false)))),
 oo 9 (.mov (.cst (.d (.int .i64 18))))])
 .ret)
 .skip))
 (.seq
 (.reg [] [oo 33 (.mov (ot 11)),
 oo 34 (.mkf (.func 135) [] [(ot 7)]),
 oo 35 (.call 134 [(ot 33),(ot 34)]),
 oo 36 (.not (ot 35)),
 oo 8 (.mov (ot 36)),
 oo 9 (.mov (.cst (.d (.int .i64 0))))])
 .ret)))))⟩
def tx51:AFun:=⟨51,45,[.cell 4 2 true,.tmp 5],
 (.seq
 (.reg [0,1] [oo 2 (.cbx 0 2 (ot 0)),
 oo 4 (.alloc 1 [(.d (.int .i64 0)),(.d (.int .i64 0))]),
 oo 5 (.mov (.cst (.d (.int .i64 0))))])
 (.seq
 (.seq
 (.reg [2] [oo 11 (.ld true 2 (ot 2)),
 oo 12 (.call 136 [(ot 11)]),
 oo 13 (.mov (ot 1)),
 oo 14 (.len (ot 13)),
 oo 15 (.cmp .gtr (ot 14) (.cst (.d (.int .i64 256)))),
 oo 16 (.call 103 [(ot 15),(.cst (.d (.int .i64 5)))]),
 oo 17 (.bsl 2 32 1 2 [(.int .i64 0),(.int .i64 0)] [(0,(ot 12)),(1,(ot 16))]),
 oo 18 (.call 99 [(ot 17)]),
 oo 6 (.mov (ot 18))])
 (.seq
 (.reg [] [oo 19 (.mov (ot 6)),
 oo 20 (.cmp .neq (ot 19) (.cst (.d (.int .i64 0))))])
 (.cond (ot 20)
 (.seq
 (.reg [] [oo 21 (.build [(.d (.int .i64 0)),(.d (.int .i64 0))] []),
 oo 22 (.mov (ot 6)),
 ⟨none,.st 2 (ot 4) (ot 21),none⟩,
 oo 5 (.mov (ot 22))])
 .ret)
 .skip)))
 (.seq
 (.seq
 (.reg [] [oo 23 (.mov (ot 1)),
 oo 24 (.call 137 [(ot 23),(.cst (.d (.fn (.func 136) [])))]),
 oo 25 (.call 99 [(ot 24)]),
 oo 7 (.mov (ot 25))])
 (.seq
 (.reg [] [oo 26 (.mov (ot 7)),
 oo 27 (.cmp .neq (ot 26) (.cst (.d (.int .i64 0))))])
 (.cond (ot 27)
 (.seq
 (.reg [] [oo 28 (.build [(.d (.int .i64 0)),(.d (.int .i64 0))] []),
 oo 29 (.mov (ot 7)),
 ⟨none,.st 2 (ot 4) (ot 28),none⟩,
 oo 5 (.mov (ot 29))])
 .ret)
 .skip)))
 (.seq
 (.reg [3] [oo 30 (.ld true 2 (ot 2)),
 oo 8 (.alloc 3 [(.d (.int .i64 0)),(.d (.int .i64 0))]),
 ⟨none,.st 2 (ot 8) (ot 30),none⟩])
 (.seq
 (.seq
 (.reg [] [oo 31 (.mov (ot 1)),
 oo 32 (.len (ot 31)),
 oo 33 (.mov (.cst (.d (.int .i64 0))))])
 (.post [4,8] [0,1,2,3,4]
 (.block 0
 (.keep [4,8,31,32,33] [0,1,2,3]
 (.loop
 (.post [4,8,31,32,33] [4]
 (.seq
 (.reg [] [oo 34 (.cmp .lss (ot 33) (ot 32))])
 (.seq
 (.cond (ot 34)
 .skip
 (.exit 0))
 (.seq
 (.block 1
 (.seq
 (.reg [4] [oo 35 (.ixa 2 (ot 31) (ot 33)),
 oo 36 (.ld true 2 (ot 35)),
 oo 10 (.alloc 4 [(.d (.int .i64 0)),(.d (.int .i64 0))]),
 ⟨none,.st 2 (ot 10) (ot 36),none⟩])
 (.seq
 (.reg [] [oo 37 (.fad 0 (ot 8)),
 oo 38 (.ld false 1 (ot 37)),
 oo 39 (.fad 1 (ot 10)),
 oo 40 (.ld false 1 (ot 39)),
 oo 41 (.arith .sub .i64 (ot 38) (ot 40)),
 oo 42 (.fad 0 (ot 8)),
 ⟨none,.st 1 (ot 42) (ot 41),none⟩])
 (.reg [] [oo 43 (.fad 1 (ot 8)),
 oo 44 (.ld false 1 (ot 43)),
 oo 45 (.fad 0 (ot 10)),
 oo 46 (.ld false 1 (ot 45)),
 oo 47 (.arith .sub .i64 (ot 44) (ot 46)),
 oo 48 (.fad 1 (ot 8)),
 ⟨none,.st 1 (ot 48) (ot 47),none⟩]))))
 (.reg [] [oo 49 (.arith .add .i64 (ot 33) (.cst (.d (.int .i64 1)))),
 oo 33 (.mov (ot 49))]))))))))))
 (.seq
 (.reg [] [oo 50 (.ld true 2 (ot 8)),
 ⟨none,.st 2 (ot 4) (ot 50),none⟩,
 oo 5 (.mov (.cst (.d (.int .i64 0))))])
 .ret))))))⟩
def tx53:AFun:=⟨26,42,[.tmp 4,.tmp 5],
 (.seq
 (.reg [0] [oo 2 (.cbx 0 2 (ot 0)),
 oo 4 (.mov (.cst (.d (.int .i64 0)))),
 oo 5 (.mov (.cst (.d (.int .i64 0))))])
 (.seq
 (.reg [1] [oo 9 (.ld true 2 (ot 2)),
 oo 10 (.mov (ot 1)),
 oo 11 (.call 51 [(ot 9),(ot 10)]),
 oo 8 (.mov (ot 11)),
 oo 12 (.ext 0 (ot 8)),
 oo 13 (.ext 1 (ot 8)),
 oo 6 (.alloc 1 [(.d (.int .i64 0)),(.d (.int .i64 0))]),
 ⟨none,.st 2 (ot 6) (ot 12),none⟩,
 oo 7 (.mov (ot 13))])
 (.seq
 (.block 0
 (.seq
 (.reg [] [oo 15 (.mov (ot 7)),
 oo 16 (.cmp .neq (ot 15) (.cst (.d (.int .i64 0)))),
 oo 14 (.mov (ot 16))])
 (.cond (ot 14)
 (.seq
 (.reg [] [oo 17 (.mov (ot 7)),
 oo 4 (.mov (.cst (.d (.int .i64 0)))),
 oo 5 (.mov (ot 17))])
 .ret)
 (.seq
 (.reg [] [oo 19 (.fad 0 (ot 6)),
 oo 20 (.ld false 1 (ot 19)),
 oo 21 (.cmp .gtr (ot 20) (.cst (.d (.int .i64 0)))),
 oo 18 (.mov (ot 21))])
 (.cond (ot 18)
 (.seq
 (.reg [] [oo 4 (.mov (.cst (.d (.int .i64 1)))),
 oo 5 (.mov (.cst (.d (.int .i64 0))))])
 .ret)
 (.seq
 (.reg [] [oo 23 (.fad 1 (ot 6)),
 oo 24 (.ld false 1 (ot 23)),
 oo 25 (.cmp .lss (ot 24) (.cst (.d (.int .i64 0)))),
 oo 22 (.mov (ot 25))])
 (.cond (ot 22)
 (.seq
 (.reg [] [oo 4 (.mov (.cst (.d (.int .i64 (-1))))),
 oo 5 (.mov (.cst (.d (.int .i64 0))))])
 .ret)
 .skip)))))))
 (.seq
 (.reg [] [oo 4 (.mov (.cst (.d (.int .i64 0)))),
 oo 5 (.mov (.cst (.d (.int .i64 0))))])
 .ret))))⟩
def tx63:AFun:=⟨26,40,[.tmp 4],
 (.seq
 (.reg [] [oo 4 (.mov (.cst (.d (.bool false))))])
 (.seq
 (.seq
 (.reg [] [oo 6 (.mov (ot 0)),
 oo 7 (.len (ot 6)),
 oo 8 (.mov (ot 1)),
 oo 9 (.len (ot 8)),
 oo 10 (.cmp .neq (ot 7) (ot 9))])
 (.cond (ot 10)
 (.seq
 (.reg [] [oo 4 (.mov (.cst (.d (.bool false))))])
 .ret)
 .skip))
 (.seq
 (.seq
 (.reg [] [oo 5 (.mov (.cst (.d (.int .i64 0))))])
 (.post [] []
 (.block 0
 (.keep [0,1,5] []
 (.loop
 (.post [0,1,5] []
 (.seq
 (.seq
 (.reg [] [oo 11 (.mov (ot 5)),
 oo 12 (.mov (ot 0)),
 oo 13 (.len (ot 12)),
 oo 14 (.cmp .lss (ot 11) (ot 13))])
 (.cond (ot 14)
 .skip
 (.exit 0)))
 (.seq
 (.block 1
 (.seq
 (.regd [] [oo 17 (.mov (ot 0)),
 oo 18 (.mov (ot 5)),
 oo 19 (.ixa 2 (ot 17) (ot 18)),
 oo 20 (.ld true 2 (ot 19)),
 oo 21 (.mov (ot 1)),
 oo 22 (.mov (ot 5)),
 oo 23 (.ixa 2 (ot 21) (ot 22)),
 oo 24 (.ld true 2 (ot 23)),
 oo 25 (.aeq true [0,0] (ot 20) (ot 24))] [(0,1),(0,4),(1,4),(2,4),(3,4),(0,5),(1,5),(2,5),(3,5),(4,5),(0,6),(1,6),(2,6),(3,6),(0,7),(1,7),(2,7),(3,7)])
 (.cond (ot 25)
 (.seq
 (.reg [] [oo 4 (.mov (.cst (.d (.bool false))))])
 .ret)
 .skip)))
 (.reg [] [oo 15 (.mov (ot 5)),
 oo 16 (.arith .add .i64 (ot 15) (.cst (.d (.int .i64 1)))),
 oo 5 (.mov (ot 16))])))))))))
 (.seq
 (.reg [] [oo 4 (.mov (.cst (.d (.bool true))))])
 .ret))))⟩
def tx65:AFun:=⟨34,42,[.tmp 2,.tmp 3],
 (.seq
 (.reg [0] [oo 1 (.cbx 0 2 (ot 0)),
 oo 2 (.mov (.cst (.d (.int .i64 0)))),
 oo 3 (.mov (.cst (.d (.int .i64 0))))])
 (.seq
 (.seq
 (.regd [1] [oo 6 (.fad 0 (ot 1)),
 oo 7 (.ld false 1 (ot 6)),
 oo 8 (.call 122 [(ot 7),(.cst (.d (.int .i64 1))),(.cst (.d (.int .i64 10000)))]),
 oo 9 (.fad 1 (ot 1)),
 oo 10 (.ld false 1 (ot 9)),
 oo 11 (.len (ot 10)),
 oo 12 (.cmp .eql (ot 11) (.cst (.d (.int .i64 0)))),
 oo 13 (.call 103 [(ot 12),(.cst (.d (.int .i64 12)))]),
 oo 14 (.fad 1 (ot 1)),
 oo 15 (.ld false 1 (ot 14)),
 oo 16 (.len (ot 15)),
 oo 17 (.cmp .gtr (ot 16) (.cst (.d (.int .i64 16)))),
 oo 18 (.call 103 [(ot 17),(.cst (.d (.int .i64 5)))]),
 oo 19 (.bsl 1 32 1 3 [(.int .i64 0),(.int .i64 0),(.int .i64 0)] [(0,(ot 8)),(1,(ot 13)),(2,(ot 18))]),
 oo 20 (.call 99 [(ot 19)]),
 oo 4 (.mov (ot 20))] [(0,3),(1,3),(2,3),(0,4),(1,4),(2,4),(0,5),(1,5),(2,5),(0,6),(1,6),(2,6),(0,8),(1,8),(2,8),(3,8),(4,8),(5,8),(6,8),(7,8),(0,9),(1,9),(2,9),(3,9),(4,9),(5,9),(6,9),(7,9),(0,10),(1,10),(2,10),(3,10),(4,10),(5,10),(6,10),(7,10),(0,11),(1,11),(2,11),(3,11),(4,11),(5,11),(6,11),(7,11)])
 (.seq
 (.reg [] [oo 21 (.mov (ot 4)),
 oo 22 (.cmp .neq (ot 21) (.cst (.d (.int .i64 0))))])
 (.cond (ot 22)
 (.seq
 (.reg [] [oo 23 (.mov (ot 4)),
 oo 2 (.mov (.cst (.d (.int .i64 0)))),
 oo 3 (.mov (ot 23))])
 .ret)
 .skip)))
 (.seq
 (.seq
 (.reg [] [oo 24 (.fad 1 (ot 1)),
 oo 25 (.ld false 1 (ot 24)),
 oo 26 (.call 138 [(ot 25),(.cst (.d (.fn (.func 139) [])))]),
 oo 27 (.call 99 [(ot 26)]),
 oo 5 (.mov (ot 27))])
 (.seq
 (.reg [] [oo 28 (.mov (ot 5)),
 oo 29 (.cmp .neq (ot 28) (.cst (.d (.int .i64 0))))])
 (.cond (ot 29)
 (.seq
 (.reg [] [oo 30 (.mov (ot 5)),
 oo 2 (.mov (.cst (.d (.int .i64 0)))),
 oo 3 (.mov (ot 30))])
 .ret)
 .skip)))
 (.seq
 (.reg [] [oo 31 (.fad 1 (ot 1)),
 oo 32 (.ld false 1 (ot 31)),
 oo 33 (.call 140 [(ot 32)]),
 oo 2 (.mov (ot 33)),
 oo 3 (.mov (.cst (.d (.int .i64 0))))])
 .ret))))⟩
def tx67:AFun:=⟨42,44,[.cell 8 7 true,.tmp 9],
 (.seq
 (.reg [0,1] [oo 4 (.cbx 0 7 (ot 0)),
 oo 8 (.alloc 1 [(.d (.int .i64 0)),(.d (.int .i64 0)),(.d (.int .i64 0)),(.d (.int .i64 0)),(.nils 1),(.d (.bool false)),(.d (.bool false))]),
 oo 9 (.mov (.cst (.d (.int .i64 0))))])
 (.seq
 (.seq
 (.regd [2] [oo 11 (.ld true 7 (ot 4)),
 oo 12 (.call 83 [(ot 11)]),
 oo 13 (.mov (ot 1)),
 oo 14 (.call 122 [(ot 13),(.cst (.d (.int .i64 1))),(.cst (.d (.int .i64 10000)))]),
 oo 15 (.mov (ot 2)),
 oo 16 (.call 122 [(ot 15),(.cst (.d (.int .i64 1))),(.cst (.d (.int .i64 16)))]),
 oo 17 (.mov (ot 3)),
 oo 18 (.call 122 [(ot 17),(.cst (.d (.int .i64 0))),(.cst (.d (.int .i64 9972)))]),
 oo 19 (.fad 6 (ot 4)),
 oo 20 (.ld false 1 (ot 19)),
 oo 21 (.call 103 [(ot 20),(.cst (.d (.int .i64 22)))]),
 oo 22 (.mov (ot 1)),
 oo 23 (.fad 0 (ot 4)),
 oo 24 (.ld false 1 (ot 23)),
 oo 25 (.cmp .leq (ot 22) (ot 24)),
 oo 26 (.call 103 [(ot 25),(.cst (.d (.int .i64 35)))]),
 oo 27 (.bsl 2 32 1 6 [(.int .i64 0),(.int .i64 0),(.int .i64 0),(.int .i64 0),(.int .i64 0),(.int .i64 0)] [(0,(ot 12)),(1,(ot 14)),(2,(ot 16)),(3,(ot 18)),(4,(ot 21)),(5,(ot 26))]),
 oo 28 (.call 99 [(ot 27)]),
 oo 10 (.mov (ot 28))] [(0,2),(1,2),(0,4),(1,4),(2,4),(3,4),(0,6),(1,6),(2,6),(3,6),(4,6),(5,6),(0,8),(1,8),(2,8),(3,8),(4,8),(5,8),(6,8),(7,8),(0,9),(1,9),(2,9),(3,9),(4,9),(5,9),(6,9),(7,9),(0,11),(1,11),(2,11),(3,11),(4,11),(5,11),(6,11),(7,11),(8,11),(9,11),(10,11),(0,12),(1,12),(2,12),(3,12),(4,12),(5,12),(6,12),(7,12),(8,12),(9,12),(10,12),(11,12),(0,13),(1,13),(2,13),(3,13),(4,13),(5,13),(6,13),(7,13),(8,13),(9,13),(10,13),(11,13),(0,14),(1,14),(2,14),(3,14),(4,14),(5,14),(6,14),(7,14),(8,14),(9,14),(10,14)])
 (.seq
 (.reg [] [oo 29 (.mov (ot 10)),
 oo 30 (.cmp .neq (ot 29) (.cst (.d (.int .i64 0))))])
 (.cond (ot 30)
 (.seq
 (.reg [] [oo 31 (.build [(.d (.int .i64 0)),(.d (.int .i64 0)),(.d (.int .i64 0)),(.d (.int .i64 0)),(.nils 1),(.d (.bool false)),(.d (.bool false))] []),
 oo 32 (.mov (ot 10)),
 ⟨none,.st 7 (ot 8) (ot 31),none⟩,
 oo 9 (.mov (ot 32))])
 .ret)
 .skip)))
 (.seq
 (.regd [3] [oo 33 (.fad 0 (ot 4)),
 oo 34 (.ld false 1 (ot 33)),
 oo 35 (.fad 1 (ot 4)),
 oo 36 (.ld false 1 (ot 35)),
 oo 37 (.mov (ot 1)),
 oo 38 (.mov (ot 3)),
 oo 39 (.mov (ot 2)),
 oo 40 (.msl 3 111 1 24 (.slice 1 []) (ot 39)),
 oo 41 (.build [(.d (.int .i64 0)),(.d (.int .i64 0)),(.d (.int .i64 0)),(.d (.int .i64 0)),(.nils 1),(.d (.bool false)),(.d (.bool false))] [(0,1,(ot 34)),(1,1,(ot 36)),(2,1,(ot 37)),(3,1,(ot 38)),(4,1,(ot 40))]),
 ⟨none,.st 7 (ot 8) (ot 41),none⟩,
 oo 9 (.mov (.cst (.d (.int .i64 0))))] [(0,2),(1,2),(0,3),(1,3),(0,4),(1,4),(2,4),(3,4),(0,5),(1,5),(2,5),(3,5),(4,5),(0,6),(1,6),(2,6),(3,6),(4,6),(5,6),(0,7),(1,7),(2,7),(3,7),(4,7),(5,7)])
 .ret)))⟩
def tx69:AFun:=⟨54,45,[.cell 6 7 true,.tmp 7],
 (.seq
 (.reg [0,1] [oo 3 (.cbx 0 7 (ot 0)),
 oo 6 (.alloc 1 [(.d (.int .i64 0)),(.d (.int .i64 0)),(.d (.int .i64 0)),(.d (.int .i64 0)),(.nils 1),(.d (.bool false)),(.d (.bool false))]),
 oo 7 (.mov (.cst (.d (.int .i64 0))))])
 (.seq
 (.seq
 (.regd [2] [oo 11 (.ld true 7 (ot 3)),
 oo 12 (.call 83 [(ot 11)]),
 oo 13 (.ld true 7 (ot 3)),
 oo 14 (.call 141 [(ot 13)]),
 oo 15 (.mov (ot 1)),
 oo 16 (.cmp .lss (ot 15) (.cst (.d (.int .i64 0)))),
 oo 17 (.mov (ot 16)),
 ⟨some 18,.mov (ot 1),some (17,false)⟩,
 ⟨some 19,.fad 4 (ot 3),some (17,false)⟩,
 ⟨some 20,.ld false 1 (ot 19),some (17,false)⟩,
 ⟨some 21,.len (ot 20),some (17,false)⟩,
 ⟨some 22,.cmp .geq (ot 18) (ot 21),some (17,false)⟩,
 oo 23 (.pick (ot 17) (.cst (.d (.bool true))) (ot 22)),
 oo 24 (.call 103 [(ot 23),(.cst (.d (.int .i64 10)))]),
 oo 25 (.mov (ot 2)),
 oo 26 (.call 139 [(ot 25)]),
 oo 27 (.bsl 2 32 1 4 [(.int .i64 0),(.int .i64 0),(.int .i64 0),(.int .i64 0)] [(0,(ot 12)),(1,(ot 14)),(2,(ot 24)),(3,(ot 26))]),
 oo 28 (.call 99 [(ot 27)]),
 oo 8 (.mov (ot 28))] [(0,2),(1,2),(0,4),(1,4),(2,4),(3,4),(0,5),(1,5),(2,5),(3,5),(7,8),(7,9),(7,10),(0,14),(1,14),(2,14),(3,14),(4,14),(5,14),(6,14),(7,14),(8,14),(9,14),(10,14),(11,14),(12,14),(13,14)])
 (.seq
 (.reg [] [oo 29 (.mov (ot 8)),
 oo 30 (.cmp .neq (ot 29) (.cst (.d (.int .i64 0))))])
 (.cond (ot 30)
 (.seq
 (.reg [] [oo 31 (.build [(.d (.int .i64 0)),(.d (.int .i64 0)),(.d (.int .i64 0)),(.d (.int .i64 0)),(.nils 1),(.d (.bool false)),(.d (.bool false))] []),
 oo 32 (.mov (ot 8)),
 ⟨none,.st 7 (ot 6) (ot 31),none⟩,
 oo 7 (.mov (ot 32))])
 .ret)
 .skip)))
 (.seq
 (.reg [3] [oo 33 (.ld true 7 (ot 3)),
 oo 34 (.calli 142 [(ot 33)]),
 oo 9 (.alloc 3 [(.d (.int .i64 0)),(.d (.int .i64 0)),(.d (.int .i64 0)),(.d (.int .i64 0)),(.nils 1),(.d (.bool false)),(.d (.bool false))]),
 ⟨none,.st 7 (ot 9) (ot 34),none⟩])
 (.seq
 (.seq
 (.reg [] [oo 35 (.fad 4 (ot 9)),
 oo 36 (.ld false 1 (ot 35)),
 oo 37 (.mov (ot 1)),
 oo 38 (.ixa 1 (ot 36) (ot 37)),
 oo 39 (.ld false 1 (ot 38)),
 oo 40 (.len (ot 39)),
 oo 41 (.cmp .eql (ot 40) (.cst (.d (.int .i64 0))))])
 (.cond (ot 41)
 (.seq
 (.reg [4] [oo 42 (.mov (ot 2)),
 oo 43 (.len (ot 42)),
 oo 44 (.msl 4 5 1 1 (.int .u8 0) (ot 43)),
 oo 10 (.mov (ot 44))])
 (.seq
 (.reg [] [oo 45 (.mov (ot 10)),
 oo 46 (.mov (ot 2)),
 oo 47 (.copy 1 (ot 45) (ot 46))])
 (.reg [] [oo 48 (.fad 4 (ot 9)),
 oo 49 (.ld false 1 (ot 48)),
 oo 50 (.mov (ot 1)),
 oo 51 (.mov (ot 10)),
 oo 52 (.ixa 1 (ot 49) (ot 50)),
 ⟨none,.st 1 (ot 52) (ot 51),none⟩])))
 .skip))
 (.seq
 (.reg [] [oo 53 (.ld true 7 (ot 9)),
 ⟨none,.st 7 (ot 6) (ot 53),none⟩,
 oo 7 (.mov (.cst (.d (.int .i64 0))))])
 .ret)))))⟩
def tx70:AFun:=⟨30,44,[.cell 2 7 true,.tmp 3],
 (.seq
 (.reg [0,1] [oo 1 (.cbx 0 7 (ot 0)),
 oo 2 (.alloc 1 [(.d (.int .i64 0)),(.d (.int .i64 0)),(.d (.int .i64 0)),(.d (.int .i64 0)),(.nils 1),(.d (.bool false)),(.d (.bool false))]),
 oo 3 (.mov (.cst (.d (.int .i64 0))))])
 (.seq
 (.seq
 (.regd [2] [oo 6 (.ld true 7 (ot 1)),
 oo 7 (.call 83 [(ot 6)]),
 oo 8 (.ld true 7 (ot 1)),
 oo 9 (.call 141 [(ot 8)]),
 oo 10 (.ld true 7 (ot 1)),
 oo 11 (.call 143 [(ot 10)]),
 oo 12 (.call 103 [(ot 11),(.cst (.d (.int .i64 16)))]),
 oo 13 (.fad 4 (ot 1)),
 oo 14 (.ld false 1 (ot 13)),
 oo 15 (.call 140 [(ot 14)]),
 oo 16 (.fad 3 (ot 1)),
 oo 17 (.ld false 1 (ot 16)),
 oo 18 (.cmp .neq (ot 15) (ot 17)),
 oo 19 (.call 103 [(ot 18),(.cst (.d (.int .i64 27)))]),
 oo 20 (.bsl 2 32 1 4 [(.int .i64 0),(.int .i64 0),(.int .i64 0),(.int .i64 0)] [(0,(ot 7)),(1,(ot 9)),(2,(ot 12)),(3,(ot 19))]),
 oo 21 (.call 99 [(ot 20)]),
 oo 4 (.mov (ot 21))] [(0,2),(1,2),(0,4),(1,4),(2,4),(3,4),(0,7),(1,7),(2,7),(3,7),(4,7),(5,7),(6,7),(0,8),(1,8),(2,8),(3,8),(4,8),(5,8),(6,8),(0,10),(1,10),(2,10),(3,10),(4,10),(5,10),(6,10),(7,10),(8,10),(9,10),(0,11),(1,11),(2,11),(3,11),(4,11),(5,11),(6,11),(7,11),(8,11),(9,11)])
 (.seq
 (.reg [] [oo 22 (.mov (ot 4)),
 oo 23 (.cmp .neq (ot 22) (.cst (.d (.int .i64 0))))])
 (.cond (ot 23)
 (.seq
 (.reg [] [oo 24 (.build [(.d (.int .i64 0)),(.d (.int .i64 0)),(.d (.int .i64 0)),(.d (.int .i64 0)),(.nils 1),(.d (.bool false)),(.d (.bool false))] []),
 oo 25 (.mov (ot 4)),
 ⟨none,.st 7 (ot 2) (ot 24),none⟩,
 oo 3 (.mov (ot 25))])
 .ret)
 .skip)))
 (.seq
 (.reg [3] [oo 26 (.ld true 7 (ot 1)),
 oo 27 (.call 142 [(ot 26)]),
 oo 5 (.alloc 3 [(.d (.int .i64 0)),(.d (.int .i64 0)),(.d (.int .i64 0)),(.d (.int .i64 0)),(.nils 1),(.d (.bool false)),(.d (.bool false))]),
 ⟨none,.st 7 (ot 5) (ot 27),none⟩])
 (.seq
 (.reg [] [oo 28 (.fad 5 (ot 5)),
 ⟨none,.st 1 (ot 28) (.cst (.d (.bool true))),none⟩])
 (.seq
 (.reg [] [oo 29 (.ld true 7 (ot 5)),
 ⟨none,.st 7 (ot 2) (ot 29),none⟩,
 oo 3 (.mov (.cst (.d (.int .i64 0))))])
 .ret)))))⟩
def tx71:AFun:=⟨32,44,[.cell 2 7 true,.tmp 3],
 (.seq
 (.reg [0,1] [oo 1 (.cbx 0 7 (ot 0)),
 oo 2 (.alloc 1 [(.d (.int .i64 0)),(.d (.int .i64 0)),(.d (.int .i64 0)),(.d (.int .i64 0)),(.nils 1),(.d (.bool false)),(.d (.bool false))]),
 oo 3 (.mov (.cst (.d (.int .i64 0))))])
 (.seq
 (.seq
 (.regd [2] [oo 6 (.ld true 7 (ot 1)),
 oo 7 (.call 83 [(ot 6)]),
 oo 8 (.fad 5 (ot 1)),
 oo 9 (.ld false 1 (ot 8)),
 oo 10 (.not (ot 9)),
 oo 11 (.mov (ot 10)),
 ⟨some 12,.fad 6 (ot 1),some (11,false)⟩,
 ⟨some 13,.ld false 1 (ot 12),some (11,false)⟩,
 oo 14 (.pick (ot 11) (.cst (.d (.bool true))) (ot 13)),
 oo 15 (.call 103 [(ot 14),(.cst (.d (.int .i64 22)))]),
 oo 16 (.bsl 2 32 1 2 [(.int .i64 0),(.int .i64 0)] [(0,(ot 7)),(1,(ot 15))]),
 oo 17 (.call 99 [(ot 16)]),
 oo 4 (.mov (ot 17))] [(0,2),(1,2),(0,3),(1,3),(0,4),(1,4)])
 (.seq
 (.reg [] [oo 18 (.mov (ot 4)),
 oo 19 (.cmp .neq (ot 18) (.cst (.d (.int .i64 0))))])
 (.cond (ot 19)
 (.seq
 (.reg [] [oo 20 (.build [(.d (.int .i64 0)),(.d (.int .i64 0)),(.d (.int .i64 0)),(.d (.int .i64 0)),(.nils 1),(.d (.bool false)),(.d (.bool false))] []),
 oo 21 (.mov (ot 4)),
 ⟨none,.st 7 (ot 2) (ot 20),none⟩,
 oo 3 (.mov (ot 21))])
 .ret)
 .skip)))
 (.seq
 (.reg [3] [oo 22 (.ld true 7 (ot 1)),
 oo 23 (.call 142 [(ot 22)]),
 oo 5 (.alloc 3 [(.d (.int .i64 0)),(.d (.int .i64 0)),(.d (.int .i64 0)),(.d (.int .i64 0)),(.nils 1),(.d (.bool false)),(.d (.bool false))]),
 ⟨none,.st 7 (ot 5) (ot 23),none⟩])
 (.seq
 (.regd [] [oo 24 (.fad 0 (ot 1)),
 oo 25 (.ld false 1 (ot 24)),
 oo 26 (.fad 2 (ot 1)),
 oo 27 (.ld false 1 (ot 26)),
 oo 28 (.fad 1 (ot 5)),
 ⟨none,.st 1 (ot 28) (ot 25),none⟩,
 oo 29 (.fad 0 (ot 5)),
 ⟨none,.st 1 (ot 29) (ot 27),none⟩,
 oo 30 (.fad 6 (ot 5)),
 ⟨none,.st 1 (ot 30) (.cst (.d (.bool true))),none⟩] [(0,2),(1,2),(0,3),(1,3),(2,4),(3,4),(2,5),(3,5)])
 (.seq
 (.reg [] [oo 31 (.ld true 7 (ot 5)),
 ⟨none,.st 7 (ot 2) (ot 31),none⟩,
 oo 3 (.mov (.cst (.d (.int .i64 0))))])
 .ret)))))⟩
def tx72:AFun:=⟨10,42,[.cell 2 7 true,.tmp 3],
 (.seq
 (.reg [0,1] [oo 1 (.cbx 0 7 (ot 0)),
 oo 2 (.alloc 1 [(.d (.int .i64 0)),(.d (.int .i64 0)),(.d (.int .i64 0)),(.d (.int .i64 0)),(.nils 1),(.d (.bool false)),(.d (.bool false))]),
 oo 3 (.mov (.cst (.d (.int .i64 0))))])
 (.seq
 (.reg [] [oo 4 (.ld true 7 (ot 1)),
 oo 5 (.fad 0 (ot 1)),
 oo 6 (.ld false 1 (ot 5)),
 oo 7 (.call 144 [(ot 4),(ot 6)]),
 oo 8 (.ext 0 (ot 7)),
 oo 9 (.ext 1 (ot 7)),
 ⟨none,.st 7 (ot 2) (ot 8),none⟩,
 oo 3 (.mov (ot 9))])
 .ret))⟩
def tx73:AFun:=⟨10,42,[.cell 2 7 true,.tmp 3],
 (.seq
 (.reg [0,1] [oo 1 (.cbx 0 7 (ot 0)),
 oo 2 (.alloc 1 [(.d (.int .i64 0)),(.d (.int .i64 0)),(.d (.int .i64 0)),(.d (.int .i64 0)),(.nils 1),(.d (.bool false)),(.d (.bool false))]),
 oo 3 (.mov (.cst (.d (.int .i64 0))))])
 (.seq
 (.reg [] [oo 4 (.ld true 7 (ot 1)),
 oo 5 (.fad 1 (ot 1)),
 oo 6 (.ld false 1 (ot 5)),
 oo 7 (.call 144 [(ot 4),(ot 6)]),
 oo 8 (.ext 0 (ot 7)),
 oo 9 (.ext 1 (ot 7)),
 ⟨none,.st 7 (ot 2) (ot 8),none⟩,
 oo 3 (.mov (ot 9))])
 .ret))⟩
def tx83:AFun:=⟨57,43,[.tmp 2],
 (.seq
 (.reg [0] [oo 1 (.cbx 0 7 (ot 0)),
 oo 2 (.mov (.cst (.d (.int .i64 0))))])
 (.seq
 (.reg [] [oo 3 (.mov (.cst (.d (.fn (.func 147) []))))])
 (.seq
 (.seq
 (.regd [1] [oo 7 (.mov (ot 3)),
 oo 8 (.fad 0 (ot 1)),
 oo 9 (.ld false 1 (ot 8)),
 oo 10 (.callv (ot 7) [(ot 9)]),
 oo 11 (.mov (ot 3)),
 oo 12 (.fad 1 (ot 1)),
 oo 13 (.ld false 1 (ot 12)),
 oo 14 (.callv (ot 11) [(ot 13)]),
 oo 15 (.mov (ot 3)),
 oo 16 (.fad 2 (ot 1)),
 oo 17 (.ld false 1 (ot 16)),
 oo 18 (.callv (ot 15) [(ot 17)]),
 oo 19 (.fad 4 (ot 1)),
 oo 20 (.ld false 1 (ot 19)),
 oo 21 (.len (ot 20)),
 oo 22 (.cmp .gtr (ot 21) (.cst (.d (.int .i64 16)))),
 oo 23 (.call 103 [(ot 22),(.cst (.d (.int .i64 5)))]),
 oo 24 (.bsl 1 32 1 4 [(.int .i64 0),(.int .i64 0),(.int .i64 0),(.int .i64 0)] [(0,(ot 10)),(1,(ot 14)),(2,(ot 18)),(3,(ot 23))]),
 oo 25 (.call 99 [(ot 24)]),
 oo 4 (.mov (ot 25))] [(0,1),(0,2),(0,4),(1,4),(2,4),(3,4),(0,5),(1,5),(2,5),(3,5),(4,5),(0,6),(1,6),(2,6),(3,6),(4,6),(0,8),(1,8),(2,8),(3,8),(4,8),(5,8),(6,8),(7,8),(0,9),(1,9),(2,9),(3,9),(4,9),(5,9),(6,9),(7,9),(8,9),(0,10),(1,10),(2,10),(3,10),(4,10),(5,10),(6,10),(7,10),(8,10),(0,12),(1,12),(2,12),(3,12),(4,12),(5,12),(6,12),(7,12),(8,12),(9,12),(10,12),(11,12),(0,13),(1,13),(2,13),(3,13),(4,13),(5,13),(6,13),(7,13),(8,13),(9,13),(10,13),(11,13),(0,14),(1,14),(2,14),(3,14),(4,14),(5,14),(6,14),(7,14),(8,14),(9,14),(10,14),(11,14),(0,15),(1,15),(2,15),(3,15),(4,15),(5,15),(6,15),(7,15),(8,15),(9,15),(10,15),(11,15)])
 (.seq
 (.reg [] [oo 26 (.mov (ot 4)),
 oo 27 (.cmp .neq (ot 26) (.cst (.d (.int .i64 0))))])
 (.cond (ot 27)
 (.seq
 (.reg [] [oo 28 (.mov (ot 4)),
 oo 2 (.mov (ot 28))])
 .ret)
 .skip)))
 (.seq
 (.reg [] [oo 29 (.fad 4 (ot 1)),
 oo 30 (.ld false 1 (ot 29)),
 oo 31 (.call 148 [(ot 30),(.cst (.d (.fn (.func 149) [])))]),
 oo 5 (.mov (ot 31))])
 (.seq
 (.seq
 (.regd [2] [oo 32 (.mov (ot 5)),
 oo 33 (.call 103 [(ot 32),(.cst (.d (.int .i64 4)))]),
 oo 34 (.fad 3 (ot 1)),
 oo 35 (.ld false 1 (ot 34)),
 oo 36 (.call 122 [(ot 35),(.cst (.d (.int .i64 0))),(.cst (.d (.int .i64 9972)))]),
 oo 37 (.ld true 7 (ot 1)),
 oo 38 (.call 150 [(ot 37)]),
 oo 39 (.not (ot 38)),
 oo 40 (.call 103 [(ot 39),(.cst (.d (.int .i64 22)))]),
 oo 41 (.bsl 2 32 1 3 [(.int .i64 0),(.int .i64 0),(.int .i64 0)] [(0,(ot 33)),(1,(ot 36)),(2,(ot 40))]),
 oo 42 (.call 99 [(ot 41)]),
 oo 6 (.mov (ot 42))] [(0,2),(1,2),(0,3),(1,3),(0,5),(1,5),(2,5),(3,5),(4,5)])
 (.seq
 (.reg [] [oo 43 (.mov (ot 6)),
 oo 44 (.cmp .neq (ot 43) (.cst (.d (.int .i64 0))))])
 (.cond (ot 44)
 (.seq
 (.reg [] [oo 45 (.mov (ot 6)),
 oo 2 (.mov (ot 45))])
 .ret)
 .skip)))
 (.seq
 (.regd [] [oo 46 (.fad 5 (ot 1)),
 oo 47 (.ld false 1 (ot 46)),
 oo 48 (.mov (ot 47)),
 ⟨some 49,.fad 4 (ot 1),some (48,true)⟩,
 ⟨some 50,.ld false 1 (ot 49),some (48,true)⟩,
 ⟨some 51,.call 140 [(ot 50)],some (48,true)⟩,
 ⟨some 52,.fad 3 (ot 1),some (48,true)⟩,
 ⟨some 53,.ld false 1 (ot 52),some (48,true)⟩,
 ⟨some 54,.cmp .neq (ot 51) (ot 53),some (48,true)⟩,
 oo 55 (.pick (ot 48) (ot 54) (.cst (.d (.bool false)))),
 oo 56 (.call 103 [(ot 55),(.cst (.d (.int .i64 27)))]),
 oo 2 (.mov (ot 56))] [(3,6),(4,6),(5,6),(3,7),(4,7),(5,7)])
 .ret))))))⟩
def tx86:AFun:=⟨134,50,[.tmp 6,.tmp 7],
 (.seq
 (.reg [] [oo 6 (.mov (.cst (.nils 1))),
 oo 7 (.mov (.cst (.d (.int .i64 0))))])
 (.seq
 (.seq
 (.reg [] [oo 20 (.mov (ot 0)),
 oo 21 (.len (ot 20)),
 oo 22 (.cmp .gtr (ot 21) (.cst (.d (.int .i64 8))))])
 (.cond (ot 22)
 (.seq
 (.reg [] [oo 6 (.mov (.cst (.nils 1))),
 oo 7 (.mov (.cst (.d (.int .i64 5))))])
 .ret)
 .skip))
 (.seq
 (.reg [0] [oo 23 (.mkm 0),
 oo 8 (.mov (ot 23))])
 (.seq
 (.seq
 (.reg [] [oo 24 (.mov (ot 0)),
 oo 25 (.len (ot 24)),
 oo 26 (.mov (.cst (.d (.int .i64 0))))])
 (.post [0,1,2] [0,1,2]
 (.block 0
 (.keep [0,1,2,8,24,25,26] [0]
 (.loop
 (.post [0,1,2,8,24,25,26] [1,2]
 (.seq
 (.reg [] [oo 27 (.cmp .lss (ot 26) (ot 25))])
 (.seq
 (.cond (ot 27)
 .skip
 (.exit 0))
 (.seq
 (.block 1
 (.seq
 (.reg [1] [oo 28 (.ixa 2 (ot 24) (ot 26)),
 oo 29 (.ld true 2 (ot 28)),
 oo 10 (.alloc 1 [(.d (.str [])),(.d (.int .i64 0))]),
 ⟨none,.st 2 (ot 10) (ot 29),none⟩])
 (.seq
 (.seq
 (.regd [2] [oo 30 (.fad 0 (ot 10)),
 oo 31 (.ld false 1 (ot 30)),
 oo 32 (.call 116 [(ot 31)]),
 oo 33 (.mov (ot 8)),
 oo 34 (.fad 0 (ot 10)),
 oo 35 (.ld false 1 (ot 34)),
 oo 36 (.lkp none (.bool false) false (ot 33) (ot 35)),
 oo 37 (.call 103 [(ot 36),(.cst (.d (.int .i64 9)))]),
 oo 38 (.fad 1 (ot 10)),
 oo 39 (.ld false 1 (ot 38)),
 oo 40 (.call 122 [(ot 39),(.cst (.d (.int .i64 0))),(.cst (.d (.int .i64 1000)))]),
 oo 41 (.bsl 2 32 1 3 [(.int .i64 0),(.int .i64 0),(.int .i64 0)] [(0,(ot 32)),(1,(ot 37)),(2,(ot 40))]),
 oo 42 (.call 99 [(ot 41)]),
 oo 11 (.mov (ot 42))] [(0,3),(1,3),(2,3),(0,4),(1,4),(2,4),(3,4),(0,5),(1,5),(2,5),(3,5),(0,6),(1,6),(2,6),(0,8),(1,8),(2,8),(3,8),(4,8),(5,8),(6,8),(7,8),(0,9),(1,9),(2,9),(3,9),(4,9),(5,9),(6,9),(7,9)])
 (.seq
 (.reg [] [oo 43 (.mov (ot 11)),
 oo 44 (.cmp .neq (ot 43) (.cst (.d (.int .i64 0))))])
 (.cond (ot 44)
 (.seq
 (.reg [] [oo 45 (.mov (ot 11)),
 oo 6 (.mov (.cst (.nils 1))),
 oo 7 (.mov (ot 45))])
 .ret)
 .skip)))
 (.reg [] [oo 46 (.mov (ot 8)),
 oo 47 (.fad 0 (ot 10)),
 oo 48 (.ld false 1 (ot 47)),
 ⟨none,.mpu none (ot 46) (ot 48) (.cst (.d (.bool true))),none⟩]))))
 (.reg [] [oo 49 (.arith .add .i64 (ot 26) (.cst (.d (.int .i64 1)))),
 oo 26 (.mov (ot 49))]))))))))))
 (.seq
 (.seq
 (.reg [3] [oo 50 (.mov (ot 1)),
 oo 51 (.call 122 [(ot 50),(.cst (.d (.int .i64 0))),(.cst (.d (.int .i64 8000)))]),
 oo 52 (.mov (ot 2)),
 oo 53 (.call 122 [(ot 52),(.cst (.d (.int .i64 0))),(.cst (.d (.int .i64 64)))]),
 oo 54 (.bsl 3 32 1 2 [(.int .i64 0),(.int .i64 0)] [(0,(ot 51)),(1,(ot 53))]),
 oo 55 (.call 99 [(ot 54)]),
 oo 12 (.mov (ot 55))])
 (.seq
 (.reg [] [oo 56 (.mov (ot 12)),
 oo 57 (.cmp .neq (ot 56) (.cst (.d (.int .i64 0))))])
 (.cond (ot 57)
 (.seq
 (.reg [] [oo 58 (.mov (ot 12)),
 oo 6 (.mov (.cst (.nils 1))),
 oo 7 (.mov (ot 58))])
 .ret)
 .skip)))
 (.seq
 (.reg [] [oo 13 (.mov (.cst (.nils 4)))])
 (.seq
 (.seq
 (.reg [] [oo 59 (.mov (ot 0)),
 oo 60 (.len (ot 59)),
 oo 61 (.mov (.cst (.d (.int .i64 0))))])
 (.post [1,2,13] [0,1,2,3,4,5,6]
 (.block 2
 (.asrow 6 226 4 13
 (.keep [1,2,13,59,60,61] [0,1,2,3]
 (.loop
 (.post [1,2,13,59,60,61] [4,5,6]
 (.seq
 (.reg [] [oo 62 (.cmp .lss (ot 61) (ot 60))])
 (.seq
 (.cond (ot 62)
 .skip
 (.exit 2))
 (.seq
 (.block 3
 (.seq
 (.reg [4] [oo 63 (.mov (ot 61)),
 oo 64 (.ixa 2 (ot 59) (ot 61)),
 oo 65 (.ld true 2 (ot 64)),
 oo 15 (.alloc 4 [(.d (.str [])),(.d (.int .i64 0))]),
 oo 14 (.mov (ot 63)),
 ⟨none,.st 2 (ot 15) (ot 65),none⟩])
 (.reg [5,6] [oo 66 (.mov (ot 13)),
 oo 67 (.ld true 2 (ot 15)),
 oo 68 (.mov (ot 14)),
 oo 69 (.build [(.d (.str [])),(.d (.int .i64 0)),(.d (.int .i64 0)),(.d (.int .i64 0))] [(0,2,(ot 67)),(2,1,(ot 68)),(3,1,(.cst (.d (.int .i64 0))))]),
 oo 70 (.bsl 5 226 4 1 [(.agg [(.str []),(.int .i64 0),(.int .i64 0),(.int .i64 0)])] [(0,(ot 69))]),
 oo 71 (.app 6 226 4 40 (ot 66) (ot 70)),
 oo 13 (.mov (ot 71))])))
 (.reg [] [oo 72 (.arith .add .i64 (ot 61) (.cst (.d (.int .i64 1)))),
 oo 61 (.mov (ot 72))])))))))))))
 (.seq
 (.reg [7] [oo 73 (.mov (ot 2)),
 oo 74 (.mkb 7 28 3 24 (.nils 1) (ot 73)),
 oo 16 (.mov (ot 74))])
 (.seq
 (.seq
 (.reg [] [oo 75 (.mov (ot 2)),
 oo 76 (.mov (.cst (.d (.int .i64 0))))])
 (.post [16] [0,1,2,3,4,5,6,7,8,9]
 (.block 4
 (.keep [1,13,16,75,76] [0,1,2,3,4,5,6,7]
 (.loop
 (.post [1,13,16,75,76] [8,9]
 (.seq
 (.reg [] [oo 77 (.cmp .lss (ot 76) (ot 75))])
 (.seq
 (.cond (ot 77)
 .skip
 (.exit 4))
 (.seq
 (.block 5
 (.seq
 (.reg [] [oo 78 (.mov (ot 76)),
 oo 17 (.mov (ot 78))])
 (.seq
 (.reg [] [oo 79 (.mov (ot 13)),
 oo 80 (.calli 153 [(ot 79),(.cst (.d (.fn (.func 154) [])))])])
 (.seq
 (.reg [] [oo 18 (.mov (.cst (.d (.int .i64 0))))])
 (.seq
 (.seq
 (.reg [] [oo 81 (.mov (ot 13)),
 oo 82 (.len (ot 81)),
 oo 83 (.mov (.cst (.d (.int .i64 0))))])
 (.post [1,13,16,17,75,76] [0,1,2,3,4,5,6,7,8,9]
 (.block 6
 (.keep [1,13,16,17,18,75,76,82,83] [0,1,2,3,4,5,6,7]
 (.loop
 (.post [1,13,16,17,18,75,76,82,83] [8,9]
 (.seq
 (.reg [] [oo 84 (.cmp .lss (ot 83) (ot 82))])
 (.seq
 (.cond (ot 84)
 .skip
 (.exit 6))
 (.seq
 (.block 7
 (.seq
 (.reg [] [oo 85 (.mov (ot 83)),
 oo 19 (.mov (ot 85))])
 (.seq
 (.seq
 (.reg [] [oo 86 (.mov (ot 18)),
 oo 87 (.mov (ot 13)),
 oo 88 (.mov (ot 19)),
 oo 89 (.ixa 4 (ot 87) (ot 88)),
 oo 90 (.fad 0 (ot 89)),
 oo 91 (.fad 1 (ot 90)),
 oo 92 (.ld false 1 (ot 91)),
 oo 93 (.arith .add .i64 (ot 86) (ot 92)),
 oo 94 (.mov (ot 1)),
 oo 95 (.cmp .gtr (ot 93) (ot 94))])
 (.cond (ot 95)
 (.exit 7)
 .skip))
 (.seq
 (.reg [] [oo 96 (.mov (ot 18)),
 oo 97 (.mov (ot 13)),
 oo 98 (.mov (ot 19)),
 oo 99 (.ixa 4 (ot 97) (ot 98)),
 oo 100 (.fad 0 (ot 99)),
 oo 101 (.fad 1 (ot 100)),
 oo 102 (.ld false 1 (ot 101)),
 oo 103 (.arith .add .i64 (ot 96) (ot 102)),
 oo 18 (.mov (ot 103))])
 (.seq
 (.reg [] [oo 104 (.mov (ot 13)),
 oo 105 (.mov (ot 19)),
 oo 106 (.ixa 4 (ot 104) (ot 105)),
 oo 107 (.fad 3 (ot 106)),
 oo 108 (.ld false 1 (ot 107)),
 oo 109 (.arith .add .i64 (ot 108) (.cst (.d (.int .i64 1)))),
 oo 110 (.ixa 4 (ot 104) (ot 105)),
 oo 111 (.fad 3 (ot 110)),
 ⟨none,.st 1 (ot 111) (ot 109),none⟩])
 (.regd [8,9] [oo 112 (.mov (ot 16)),
 oo 113 (.mov (ot 17)),
 oo 114 (.mov (ot 16)),
 oo 115 (.mov (ot 17)),
 oo 116 (.ixa 1 (ot 114) (ot 115)),
 oo 117 (.ld false 1 (ot 116)),
 oo 118 (.mov (ot 13)),
 oo 119 (.mov (ot 19)),
 oo 120 (.ixa 4 (ot 118) (ot 119)),
 oo 121 (.fad 2 (ot 120)),
 oo 122 (.ld false 1 (ot 121)),
 oo 123 (.bsl 8 3 1 1 [(.int .i64 0)] [(0,(ot 122))]),
 oo 124 (.app 9 3 1 8 (ot 117) (ot 123)),
 oo 125 (.ixa 1 (ot 112) (ot 113)),
 ⟨none,.st 1 (ot 125) (ot 124),none⟩] [(0,1),(0,2),(1,2),(0,3),(1,3),(2,3),(0,4),(1,4),(0,5),(1,5),(0,6),(1,6),(2,6),(3,6),(4,6),(5,6),(0,7),(1,7),(2,7),(3,7),(4,7),(5,7),(6,7),(0,8),(1,8),(2,8),(3,8),(4,8),(5,8),(0,9),(1,9),(2,9),(3,9),(4,9),(5,9),(0,10),(1,10),(2,10),(3,10),(4,10),(5,10),(0,11),(1,11),(2,11),(3,11),(4,11),(5,11),(0,12),(1,12)]))))))
 (.reg [] [oo 126 (.arith .add .i64 (ot 83) (.cst (.d (.int .i64 1)))),
 oo 83 (.mov (ot 126))]))))))))))
 (.reg [] [oo 127 (.mov (ot 16)),
 oo 128 (.mov (ot 17)),
 oo 129 (.ixa 1 (ot 127) (ot 128)),
 oo 130 (.ld false 1 (ot 129)),
 oo 131 (.calli 119 [(ot 130)])]))))))
 (.asdat 129 (.reg [] [oo 132 (.arith .add .i64 (ot 76) (.cst (.d (.int .i64 1)))),
 oo 76 (.mov (ot 132))])))))))))))
 (.seq
 (.reg [] [oo 133 (.mov (ot 16)),
 oo 6 (.mov (ot 133)),
 oo 7 (.mov (.cst (.d (.int .i64 0))))])
 .ret))))))))))⟩
def tx91:AFun:={ jr91 with heap:=40 }
def tx96:AFun:=⟨8,43,[.cell 0 2 true],
 (.seq
 (.reg [0] [oo 0 (.alloc 0 [(.nils 2),(.nils 6)])])
 (.seq
 (.reg [1,2] [oo 1 (.build [(.d (.str [])),(.d (.str []))] [(0,1,(.cst (.d (.str [109,49])))),(1,1,(.cst (.d (.str [103,114,105,100]))))]),
 oo 2 (.bsl 1 174 2 1 [(.agg [(.str []),(.str [])])] [(0,(ot 1))]),
 oo 3 (.call 155 [(.cst (.d (.str [103,114,105,100]))),(.cst (.d (.str [115,104,111,112]))),(.cst (.d (.int .i64 10))),(.cst (.d (.int .i64 20)))]),
 oo 4 (.call 155 [(.cst (.d (.str [115,104,111,112]))),(.cst (.d (.str [100,101,115,107]))),(.cst (.d (.int .i64 15))),(.cst (.d (.int .i64 30)))]),
 oo 5 (.call 155 [(.cst (.d (.str [103,114,105,100]))),(.cst (.d (.str [100,101,115,107]))),(.cst (.d (.int .i64 18))),(.cst (.d (.int .i64 25)))]),
 oo 6 (.bsl 2 175 6 3 [(.agg [(.str []),(.str []),(.str []),(.str []),(.int .i64 0),(.int .i64 0)]),(.agg [(.str []),(.str []),(.str []),(.str []),(.int .i64 0),(.int .i64 0)]),(.agg [(.str []),(.str []),(.str []),(.str []),(.int .i64 0),(.int .i64 0)])] [(0,(ot 3)),(1,(ot 4)),(2,(ot 5))]),
 oo 7 (.build [(.nils 2),(.nils 6)] [(0,1,(ot 2)),(1,1,(ot 6))]),
 ⟨none,.st 2 (ot 0) (ot 7),none⟩])
 .ret))⟩
def tx97:AFun:=⟨8,41,[.cell 4 2 true],
 (.seq
 (.reg [0] [oo 4 (.alloc 0 [(.d (.int .i64 0)),(.d (.int .i64 0))])])
 (.seq
 (.reg [] [oo 5 (.mov (ot 0)),
 oo 6 (.mov (ot 1)),
 oo 7 (.build [(.d (.int .i64 0)),(.d (.int .i64 0))] [(0,1,(ot 5)),(1,1,(ot 6))]),
 ⟨none,.st 2 (ot 4) (ot 7),none⟩])
 .ret))⟩
def tx98:AFun:=⟨73,50,[.tmp 2,.tmp 3],
 (.seq
 (.reg [0] [oo 1 (.cbx 0 2 (ot 0)),
 oo 2 (.mov (.cst (.d (.str [])))),
 oo 3 (.mov (.cst (.d (.int .i64 0))))])
 (.seq
 (.seq
 (.reg [] [oo 13 (.ld true 2 (ot 1)),
 oo 14 (.call 27 [(ot 13)]),
 oo 4 (.mov (ot 14))])
 (.seq
 (.reg [] [oo 15 (.mov (ot 4)),
 oo 16 (.cmp .neq (ot 15) (.cst (.d (.int .i64 0))))])
 (.cond (ot 16)
 (.seq
 (.reg [] [oo 17 (.mov (ot 4)),
 oo 2 (.mov (.cst (.d (.str [])))),
 oo 3 (.mov (ot 17))])
 .ret)
 .skip)))
 (.seq
 (.reg [] [oo 5 (.mov (.cst (.d (.str []))))])
 (.seq
 (.seq
 (.reg [] [oo 18 (.fad 0 (ot 1)),
 oo 19 (.ld false 1 (ot 18)),
 oo 20 (.len (ot 19)),
 oo 21 (.mov (.cst (.d (.int .i64 0))))])
 (.post [1,5] [0,1,2]
 (.block 0
 (.keep [1,5,19,20,21] [0]
 (.loop
 (.post [1,5,19,20,21] [1,2]
 (.seq
 (.reg [] [oo 22 (.cmp .lss (ot 21) (ot 20))])
 (.seq
 (.cond (ot 22)
 .skip
 (.exit 0))
 (.seq
 (.block 1
 (.seq
 (.reg [1] [oo 23 (.ixa 2 (ot 19) (ot 21)),
 oo 24 (.ld true 2 (ot 23)),
 oo 7 (.alloc 1 [(.d (.str [])),(.d (.str []))]),
 ⟨none,.st 2 (ot 7) (ot 24),none⟩])
 (.reg [2] [oo 25 (.mov (ot 5)),
 oo 26 (.fad 0 (ot 7)),
 oo 27 (.ld false 1 (ot 26)),
 oo 28 (.fad 1 (ot 7)),
 oo 29 (.ld false 1 (ot 28)),
 oo 30 (.bsl 2 9 1 3 [(.str []),(.str []),(.str [])] [(0,(.cst (.d (.str [111,98,106,101,99,116])))),(1,(ot 27)),(2,(ot 29))]),
 oo 31 (.call 156 [(ot 30),(.cst (.d (.str [32])))]),
 oo 32 (.cat (ot 31) (.cst (.d (.str [10])))),
 oo 33 (.cat (ot 25) (ot 32)),
 oo 5 (.mov (ot 33))])))
 (.reg [] [oo 34 (.arith .add .i64 (ot 21) (.cst (.d (.int .i64 1)))),
 oo 21 (.mov (ot 34))]))))))))))
 (.seq
 (.seq
 (.reg [] [oo 35 (.fad 1 (ot 1)),
 oo 36 (.ld false 1 (ot 35)),
 oo 37 (.len (ot 36)),
 oo 38 (.mov (.cst (.d (.int .i64 0))))])
 (.post [5] [0,1,2,3,4,5,6,7,8,9]
 (.block 2
 (.keep [5,36,37,38] [0,1,2]
 (.loop
 (.post [5,36,37,38] [3,4,5,6,7,8,9]
 (.seq
 (.reg [] [oo 39 (.cmp .lss (ot 38) (ot 37))])
 (.seq
 (.cond (ot 39)
 .skip
 (.exit 2))
 (.seq
 (.block 3
 (.seq
 (.reg [3] [oo 40 (.ixa 6 (ot 36) (ot 38)),
 oo 41 (.ld true 6 (ot 40)),
 oo 9 (.alloc 3 [(.d (.str [])),(.d (.str [])),(.d (.str [])),(.d (.str [])),(.d (.int .i64 0)),(.d (.int .i64 0))]),
 ⟨none,.st 6 (ot 9) (ot 41),none⟩])
 (.seq
 (.reg [4] [oo 42 (.bsl 4 9 1 1 [(.str [])] [(0,(.cst (.d (.str [103,114,97,110,116]))))]),
 oo 10 (.mov (ot 42))])
 (.seq
 (.seq
 (.reg [] [oo 43 (.ld true 4 (.cst (.gp 0 0))),
 oo 44 (.mov (.cst (.d (.int .i64 0))))])
 (.post [5,9,10,36,37,38] [0,1,2,3,4,5,6,7]
 (.block 4
 (.asrow 7 9 1 10
 (.keep [5,9,10,36,37,38,43,44] [0,1,2,3,4]
 (.loop
 (.post [5,9,10,36,37,38,43,44] [5,6,7]
 (.seq
 (.reg [] [oo 45 (.cmp .lss (ot 44) (.cst (.d (.int .i64 4))))])
 (.seq
 (.cond (ot 45)
 .skip
 (.exit 4))
 (.seq
 (.block 5
 (.seq
 (.reg [5] [oo 46 (.ixv true 4 1 (ot 43) (ot 44)),
 oo 12 (.alloc 5 [.undef]),
 ⟨none,.st 1 (ot 12) (ot 46),none⟩])
 (.reg [6,7] [oo 47 (.mov (ot 10)),
 oo 48 (.fad 0 (ot 12)),
 oo 49 (.ld false 1 (ot 48)),
 oo 50 (.ld true 6 (ot 9)),
 oo 51 (.callv (ot 49) [(ot 50)]),
 oo 52 (.bsl 6 9 1 1 [(.str [])] [(0,(ot 51))]),
 oo 53 (.app 7 9 1 16 (ot 47) (ot 52)),
 oo 10 (.mov (ot 53))])))
 (.reg [] [oo 54 (.arith .add .i64 (ot 44) (.cst (.d (.int .i64 1)))),
 oo 44 (.mov (ot 54))])))))))))))
 (.seq
 (.regd [8,9] [oo 55 (.mov (ot 10)),
 oo 56 (.fad 4 (ot 9)),
 oo 57 (.fad 0 (ot 56)),
 oo 58 (.ld false 1 (ot 57)),
 oo 59 (.call 157 [(ot 58)]),
 oo 60 (.fad 4 (ot 9)),
 oo 61 (.fad 1 (ot 60)),
 oo 62 (.ld false 1 (ot 61)),
 oo 63 (.call 157 [(ot 62)]),
 oo 64 (.bsl 8 9 1 2 [(.str []),(.str [])] [(0,(ot 59)),(1,(ot 63))]),
 oo 65 (.app 9 9 1 16 (ot 55) (ot 64)),
 oo 10 (.mov (ot 65))] [(0,1),(0,2),(0,3),(0,4),(0,5),(1,5),(2,5),(3,5),(4,5),(0,6),(1,6),(2,6),(3,6),(4,6),(0,7),(1,7),(2,7),(3,7),(4,7),(0,8),(0,9)])
 (.reg [] [oo 66 (.mov (ot 5)),
 oo 67 (.mov (ot 10)),
 oo 68 (.call 156 [(ot 67),(.cst (.d (.str [32])))]),
 oo 69 (.cat (ot 68) (.cst (.d (.str [10])))),
 oo 70 (.cat (ot 66) (ot 69)),
 oo 5 (.mov (ot 70))]))))))
 (.reg [] [oo 71 (.arith .add .i64 (ot 38) (.cst (.d (.int .i64 1)))),
 oo 38 (.mov (ot 71))]))))))))))
 (.seq
 (.reg [] [oo 72 (.mov (ot 5)),
 oo 2 (.mov (ot 72)),
 oo 3 (.mov (.cst (.d (.int .i64 0))))])
 .ret))))))⟩
def tx99:AFun:={ ir99 with heap:=40 }
def tx100:AFun:={ jr100 with heap:=43 }
def tx101:AFun:={ jr101 with heap:=40 }
def tx102:AFun:=⟨87,54,[.tmp 6,.tmp 7],
 (.seq
 (.reg [0,1] [oo 3 (.cbx 0 4 (ot 0)),
 oo 4 (.cbx 1 1 (ot 1)),
 oo 6 (.mov (.cst (.nils 1))),
 oo 7 (.mov (.cst (.d (.bool false))))])
 (.scope
 (.seq
 (.reg [] [oo 20 (.fad 0 (ot 3)),
 oo 21 (.ld true 2 (ot 20)),
 oo 22 (.fad 3 (ot 3)),
 oo 23 (.ld false 1 (ot 22)),
 oo 24 (.call 107 [(ot 21),(ot 23)]),
 oo 19 (.mov (ot 24)),
 oo 25 (.ext 0 (ot 19)),
 oo 26 (.ext 1 (ot 19)),
 oo 8 (.mov (ot 25)),
 oo 9 (.mov (ot 26))])
 (.seq
 (.seq
 (.reg [] [oo 27 (.ld false 1 (ot 4)),
 oo 28 (.mov (ot 8)),
 oo 29 (.seq false (ot 27) (ot 28))])
 (.cond (ot 29)
 (.seq
 (.reg [] [oo 6 (.mov (.cst (.nils 1))),
 oo 7 (.mov (.cst (.d (.bool true))))])
 .ret)
 .skip))
 (.seq
 (.reg [2,3] [oo 30 (.mkm 2),
 oo 31 (.mov (ot 8)),
 ⟨none,.mpu none (ot 30) (ot 31) (.cst (.d (.bool true))),none⟩,
 oo 32 (.mov (ot 30)),
 oo 10 (.alloc 3 [.undef]),
 ⟨none,.st 1 (ot 10) (ot 32),none⟩])
 (.seq
 (.reg [4] [oo 33 (.mov (ot 8)),
 oo 34 (.build [(.d (.str [])),(.nils 1)] [(0,1,(ot 33)),(1,1,(.cst (.nils 1)))]),
 oo 35 (.bsl 4 234 2 1 [(.agg [(.str []),(.slice 1 [])])] [(0,(ot 34))]),
 oo 11 (.mov (ot 35))])
 (.seq
 (.reg [5] [oo 12 (.alloc 5 [(.nils 1)])])
 (.seq
 .skip
 (.seq
 (.post [12] [0,1,2,3,4,5,6,7,8,9,10,11,12,13]
 (.block 0
 (.keep [2,3,4,10,11,12] [0,1,2,3,4,5]
 (.loop
 (.post [2,3,4,10,11,12] [6,7,8,9,10,11,12,13]
 (.seq
 (.seq
 (.reg [] [oo 36 (.mov (ot 11)),
 oo 37 (.len (ot 36)),
 oo 38 (.cmp .gtr (ot 37) (.cst (.d (.int .i64 0))))])
 (.cond (ot 38)
 .skip
 (.exit 0)))
 (.block 1
 (.seq
 (.reg [6] [oo 13 (.alloc 6 [(.nils 2)])])
 (.seq
 (.seq
 (.reg [] [oo 39 (.mov (ot 11)),
 oo 40 (.len (ot 39)),
 oo 41 (.mov (.cst (.d (.int .i64 0))))])
 (.post [2,3,4,10,12,13] [0,1,2,3,4,5,6,7,8,9,10,11,12,13]
 (.block 2
 (.keep [2,3,4,10,12,13,39,40,41] [0,1,2,3,4,5,6]
 (.loop
 (.post [2,3,4,10,12,13,39,40,41] [7,8,9,10,11,12,13]
 (.seq
 (.reg [] [oo 42 (.cmp .lss (ot 41) (ot 40))])
 (.seq
 (.cond (ot 42)
 .skip
 (.exit 2))
 (.seq
 (.block 3
 (.seq
 (.reg [7] [oo 43 (.ixa 2 (ot 39) (ot 41)),
 oo 44 (.ld true 2 (ot 43)),
 oo 15 (.alloc 7 [(.d (.str [])),(.nils 1)]),
 ⟨none,.st 2 (ot 15) (ot 44),none⟩])
 (.seq
 (.reg [] [oo 45 (.ld true 4 (ot 3)),
 oo 46 (.mov (ot 2)),
 oo 47 (.call 158 [(ot 45),(ot 46)])])
 (.block 4
 (.keep [2,3,4,10,12,13,15,39,40,41,47] [0,1,2,3,4,5,6,7]
 (.rfor 8 (ot 47) [48,49]
 (.seq
 (.reg [] [oo 16 (.mov (ot 48))])
 (.reg [9] [oo 17 (.alloc 9 [(.d (.str [])),(.d (.str [])),(.d (.str [])),(.d (.str [])),(.d (.int .i64 0)),(.d (.int .i64 0))]),
 ⟨none,.st 6 (ot 17) (ot 49),none⟩]))
 (.post [] [9,10,11,12,13]
 (.block 5
 (.seq
 (.seq
 (.reg [] [oo 50 (.fad 0 (ot 17)),
 oo 51 (.ld false 1 (ot 50)),
 oo 52 (.fad 0 (ot 15)),
 oo 53 (.ld false 1 (ot 52)),
 oo 54 (.seq true (ot 51) (ot 53)),
 oo 55 (.mov (ot 54)),
 ⟨some 56,.ld false 1 (ot 10),some (55,false)⟩,
 ⟨some 57,.fad 1 (ot 17),some (55,false)⟩,
 ⟨some 58,.ld false 1 (ot 57),some (55,false)⟩,
 ⟨some 59,.lkp none (.bool false) false (ot 56) (ot 58),some (55,false)⟩,
 oo 60 (.pick (ot 55) (.cst (.d (.bool true))) (ot 59))])
 (.cond (ot 60)
 (.exit 5)
 .skip))
 (.seq
 (.reg [10,11] [oo 61 (.fad 1 (ot 15)),
 oo 62 (.ld false 1 (ot 61)),
 oo 63 (.calln 11 3 1 159 [(ot 62)]),
 oo 64 (.mov (ot 16)),
 oo 65 (.bsl 10 3 1 1 [(.int .i64 0)] [(0,(ot 64))]),
 oo 66 (.app 11 3 1 8 (ot 63) (ot 65)),
 oo 18 (.mov (ot 66))])
 (.seq
 (.seq
 (.reg [] [oo 67 (.fad 1 (ot 17)),
 oo 68 (.ld false 1 (ot 67)),
 oo 69 (.ld false 1 (ot 4)),
 oo 70 (.seq false (ot 68) (ot 69))])
 (.cond (ot 70)
 (.seq
 (.reg [] [oo 71 (.mov (ot 18)),
 ⟨none,.st 1 (ot 12) (ot 71),none⟩])
 (.exit 0))
 .skip))
 (.seq
 (.reg [] [oo 72 (.ld false 1 (ot 10)),
 oo 73 (.fad 1 (ot 17)),
 oo 74 (.ld false 1 (ot 73)),
 ⟨none,.mpu none (ot 72) (ot 74) (.cst (.d (.bool true))),none⟩])
 (.reg [12,13] [oo 75 (.ld false 1 (ot 13)),
 oo 76 (.fad 1 (ot 17)),
 oo 77 (.ld false 1 (ot 76)),
 oo 78 (.mov (ot 18)),
 oo 79 (.build [(.d (.str [])),(.nils 1)] [(0,1,(ot 77)),(1,1,(ot 78))]),
 oo 80 (.bsl 12 234 2 1 [(.agg [(.str []),(.slice 1 [])])] [(0,(ot 79))]),
 oo 81 (.app 13 234 2 40 (ot 75) (ot 80)),
 ⟨none,.st 1 (ot 13) (ot 81),none⟩])))))))))))))
 (.reg [] [oo 82 (.arith .add .i64 (ot 41) (.cst (.d (.int .i64 1)))),
 oo 41 (.mov (ot 82))]))))))))))
 (.reg [] [oo 83 (.ld false 1 (ot 13)),
 oo 11 (.mov (ot 83))]))))))))))
 (.seq
 (.regd [] [oo 84 (.ld false 1 (ot 12)),
 oo 85 (.ld false 1 (ot 12)),
 oo 86 (.isnil true (ot 85)),
 oo 6 (.mov (ot 84)),
 oo 7 (.mov (ot 86))] [(0,1),(0,2),(1,3),(2,3)])
 .ret))))))))))⟩
def tx103:AFun:={ ir103 with heap:=40 }
def tx104:AFun:={ jr104 with heap:=40 }
def tx105:AFun:={ jr105 with heap:=40 }
def tx106:AFun:={ ir106 with heap:=40 }
def tx107:AFun:={ jr107 with heap:=42 }
def tx108:AFun:={ jr108 with heap:=42 }
def tx116:AFun:={ jr116 with heap:=40 }
def tx117:AFun:={ jr117 with heap:=42 }
def tx118:AFun:={ jr118 with heap:=40 }
def tx119:AFun:=⟨11,40,[],
 (.seq
 (.reg [] [oo 3 (.mov (ot 0)),
 oo 4 (.len (ot 3)),
 oo 2 (.mov (ot 4))])
 (.reg [] [oo 5 (.mov (ot 0)),
 oo 6 (.mov (ot 2)),
 oo 7 (.mov (ot 2)),
 oo 8 (.conv .u64 (ot 7)),
 oo 9 (.call 168 [(ot 8)]),
 oo 10 (.calli 167 [(ot 5),(.cst (.d (.int .i64 0))),(ot 6),(ot 9)])]))⟩
def tx120:AFun:=⟨61,40,[.tmp 2],
 (.seq
 (.reg [] [oo 2 (.mov (.cst (.nils 1)))])
 (.seq
 (.seq
 (.reg [] [oo 6 (.mov (ot 0)),
 oo 7 (.len (ot 6)),
 oo 8 (.cmp .lss (ot 7) (.cst (.d (.int .i64 2))))])
 (.cond (ot 8)
 (.seq
 (.reg [] [oo 9 (.mov (ot 0)),
 oo 2 (.mov (ot 9))])
 .ret)
 .skip))
 (.seq
 (.seq
 (.reg [] [oo 3 (.mov (.cst (.d (.int .i64 1))))])
 (.post [0] []
 (.block 0
 (.keep [0,3] []
 (.loop
 (.post [0,3] []
 (.seq
 (.seq
 (.reg [] [oo 10 (.mov (ot 3)),
 oo 11 (.mov (ot 0)),
 oo 12 (.len (ot 11)),
 oo 13 (.cmp .lss (ot 10) (ot 12))])
 (.cond (ot 13)
 .skip
 (.exit 0)))
 (.seq
 (.block 1
 (.seq
 (.regd [] [oo 16 (.mov (ot 0)),
 oo 17 (.mov (ot 3)),
 oo 18 (.ixa 1 (ot 16) (ot 17)),
 oo 19 (.ld false 1 (ot 18)),
 oo 20 (.mov (ot 0)),
 oo 21 (.mov (ot 3)),
 oo 22 (.arith .sub .i64 (ot 21) (.cst (.d (.int .i64 1)))),
 oo 23 (.ixa 1 (ot 20) (ot 22)),
 oo 24 (.ld false 1 (ot 23)),
 oo 25 (.cmp .eql (ot 19) (ot 24))] [(0,1),(0,4),(1,4),(2,4),(3,4),(0,5),(1,5),(2,5),(3,5),(4,5),(0,6),(1,6),(2,6),(3,6),(4,6),(0,7),(1,7),(2,7),(3,7),(0,8),(1,8),(2,8),(3,8)])
 (.cond (ot 25)
 (.seq
 (.reg [] [oo 26 (.mov (ot 0)),
 oo 27 (.mov (ot 3)),
 oo 28 (.slc 1 (ot 26) (some (ot 27)) none),
 oo 4 (.mov (ot 28))])
 (.seq
 (.seq
 (.reg [] [oo 5 (.mov (.cst (.d (.int .i64 1))))])
 (.post [0,3] []
 (.block 2
 (.keep [0,3,4,5] []
 (.loop
 (.post [0,3,4,5] []
 (.seq
 (.seq
 (.reg [] [oo 29 (.mov (ot 5)),
 oo 30 (.mov (ot 4)),
 oo 31 (.len (ot 30)),
 oo 32 (.cmp .lss (ot 29) (ot 31))])
 (.cond (ot 32)
 .skip
 (.exit 2)))
 (.seq
 (.block 3
 (.seq
 (.regd [] [oo 35 (.mov (ot 4)),
 oo 36 (.mov (ot 5)),
 oo 37 (.ixa 1 (ot 35) (ot 36)),
 oo 38 (.ld false 1 (ot 37)),
 oo 39 (.mov (ot 4)),
 oo 40 (.mov (ot 5)),
 oo 41 (.arith .sub .i64 (ot 40) (.cst (.d (.int .i64 1)))),
 oo 42 (.ixa 1 (ot 39) (ot 41)),
 oo 43 (.ld false 1 (ot 42)),
 oo 44 (.cmp .neq (ot 38) (ot 43))] [(0,1),(0,4),(1,4),(2,4),(3,4),(0,5),(1,5),(2,5),(3,5),(4,5),(0,6),(1,6),(2,6),(3,6),(4,6),(0,7),(1,7),(2,7),(3,7),(0,8),(1,8),(2,8),(3,8)])
 (.cond (ot 44)
 (.seq
 (.reg [] [oo 45 (.mov (ot 0)),
 oo 46 (.mov (ot 3)),
 oo 47 (.mov (ot 4)),
 oo 48 (.mov (ot 5)),
 oo 49 (.ixa 1 (ot 47) (ot 48)),
 oo 50 (.ld false 1 (ot 49)),
 oo 51 (.ixa 1 (ot 45) (ot 46)),
 ⟨none,.st 1 (ot 51) (ot 50),none⟩])
 (.reg [] [oo 52 (.mov (ot 3)),
 oo 53 (.arith .add .i64 (ot 52) (.cst (.d (.int .i64 1)))),
 oo 3 (.mov (ot 53))]))
 .skip)))
 (.reg [] [oo 33 (.mov (ot 5)),
 oo 34 (.arith .add .i64 (ot 33) (.cst (.d (.int .i64 1)))),
 oo 5 (.mov (ot 34))])))))))))
 (.seq
 (.reg [] [oo 54 (.mov (ot 0)),
 oo 55 (.mov (ot 3)),
 oo 56 (.slc 1 (ot 54) (some (ot 55)) none),
 ⟨none,.clrw 1 (.int .i64 0) (ot 56),none⟩])
 (.seq
 (.reg [] [oo 57 (.mov (ot 0)),
 oo 58 (.mov (ot 3)),
 oo 59 (.slc 1 (ot 57) none (some (ot 58))),
 oo 2 (.mov (ot 59))])
 .ret))))
 .skip)))
 (.reg [] [oo 14 (.mov (ot 3)),
 oo 15 (.arith .add .i64 (ot 14) (.cst (.d (.int .i64 1)))),
 oo 3 (.mov (ot 15))])))))))))
 (.seq
 (.reg [] [oo 60 (.mov (ot 0)),
 oo 2 (.mov (ot 60))])
 .ret))))⟩
def tx121:AFun:={ jr121 with heap:=40 }
def tx122:AFun:={ ir122 with heap:=40 }
def tx123:AFun:={ jr123 with heap:=40 }
def tx124:AFun:={ jr124 with heap:=41 }
def tx125:AFun:={ jr125 with heap:=42 }
def tx126:AFun:={ jr126 with heap:=40 }
def tx127:AFun:={ jr127 with heap:=40 }
def tx128:AFun:={ jr128 with heap:=40 }
def tx129:AFun:={ jr129 with heap:=40 }
def tx130:AFun:={ jr130 with heap:=42 }
def tx131:AFun:={ jr131 with heap:=40 }
def tx132:AFun:=⟨25,42,[.tmp 6],
 (.seq
 (.reg [0] [oo 3 (.cbx 0 1 (ot 0)),
 oo 6 (.mov (.cst (.d (.int .i64 0))))])
 (.seq
 (.seq
 (.reg [1] [oo 8 (.ld false 1 (ot 3)),
 oo 9 (.call 121 [(ot 8)]),
 oo 10 (.mov (ot 1)),
 oo 11 (.call 122 [(ot 10),(.cst (.d (.int .i64 1))),(.cst (.d (.int .i64 7)))]),
 oo 12 (.mov (ot 2)),
 oo 13 (.len (ot 12)),
 oo 14 (.cmp .gtr (ot 13) (.cst (.d (.int .i64 16)))),
 oo 15 (.call 103 [(ot 14),(.cst (.d (.int .i64 5)))]),
 oo 16 (.bsl 1 32 1 3 [(.int .i64 0),(.int .i64 0),(.int .i64 0)] [(0,(ot 9)),(1,(ot 11)),(2,(ot 15))]),
 oo 17 (.call 99 [(ot 16)]),
 oo 7 (.mov (ot 17))])
 (.seq
 (.reg [] [oo 18 (.mov (ot 7)),
 oo 19 (.cmp .neq (ot 18) (.cst (.d (.int .i64 0))))])
 (.cond (ot 19)
 (.seq
 (.reg [] [oo 20 (.mov (ot 7)),
 oo 6 (.mov (ot 20))])
 .ret)
 .skip)))
 (.seq
 (.reg [] [oo 21 (.mov (ot 2)),
 oo 22 (.mkf (.func 171) [] [(ot 3)]),
 oo 23 (.call 170 [(ot 21),(ot 22)]),
 oo 24 (.call 99 [(ot 23)]),
 oo 6 (.mov (ot 24))])
 .ret)))⟩
def tx133:AFun:=⟨99,45,[.tmp 6,.tmp 7],
 (.seq
 (.reg [] [oo 6 (.mov (.cst (.nils 2))),
 oo 7 (.mov (.cst (.d (.bool false))))])
 (.seq
 (.reg [0,1] [oo 8 (.alloc 0 [(.d (.int .i64 0)),(.d (.int .i64 0)),(.d (.int .i64 0)),(.d (.int .i64 0)),(.d (.int .i64 0))]),
 oo 9 (.alloc 1 [(.d (.int .i64 0)),(.d (.int .i64 0)),(.d (.int .i64 0)),(.d (.int .i64 0)),(.d (.int .i64 0))])])
 (.seq
 (.reg [] [oo 10 (.mov (.cst (.d (.bool false))))])
 (.seq
 (.reg [] [oo 11 (.mov (.cst (.d (.int .i64 1))))])
 (.seq
 (.seq
 (.reg [] [oo 19 (.mov (ot 0)),
 oo 20 (.mov (.cst (.d (.int .i64 0))))])
 (.post [0,1,2,8,9,10,11] [0,1]
 (.block 0
 (.keep [0,1,2,8,9,10,11,19,20] [0,1]
 (.loop
 (.post [0,1,2,8,9,10,11,19,20] []
 (.seq
 (.reg [] [oo 21 (.cmp .lss (ot 20) (ot 19))])
 (.seq
 (.cond (ot 21)
 .skip
 (.exit 0))
 (.seq
 (.block 1
 (.reg [] [oo 22 (.mov (ot 11)),
 oo 23 (.mov (ot 1)),
 oo 24 (.arith .add .i64 (ot 23) (.cst (.d (.int .i64 1)))),
 oo 25 (.arith .mul .i64 (ot 22) (ot 24)),
 oo 11 (.mov (ot 25))]))
 (.reg [] [oo 26 (.arith .add .i64 (ot 20) (.cst (.d (.int .i64 1)))),
 oo 20 (.mov (ot 26))]))))))))))
 (.seq
 (.seq
 (.reg [] [oo 27 (.mov (ot 11)),
 oo 28 (.mov (.cst (.d (.int .i64 0))))])
 (.post [0,8,9,10] [0,1,2]
 (.block 2
 (.keep [0,1,2,8,9,10,27,28] [0,1]
 (.loop
 (.post [0,1,2,8,9,10,27,28] [2]
 (.seq
 (.reg [] [oo 29 (.cmp .lss (ot 28) (ot 27))])
 (.seq
 (.cond (ot 29)
 .skip
 (.exit 2))
 (.seq
 (.block 3
 (.seq
 (.reg [] [oo 30 (.mov (ot 28)),
 oo 12 (.mov (ot 30))])
 (.seq
 (.reg [2] [oo 13 (.alloc 2 [(.d (.int .i64 0)),(.d (.int .i64 0)),(.d (.int .i64 0)),(.d (.int .i64 0)),(.d (.int .i64 0))])])
 (.seq
 (.seq
 (.reg [] [oo 31 (.mov (ot 0)),
 oo 32 (.mov (.cst (.d (.int .i64 0))))])
 (.post [0,1,2,8,9,10,13,27,28] [0,1,2]
 (.block 4
 (.keep [0,1,2,8,9,10,12,13,27,28,31,32] [0,1,2]
 (.loop
 (.post [0,1,2,8,9,10,12,13,27,28,31,32] []
 (.seq
 (.reg [] [oo 33 (.cmp .lss (ot 32) (ot 31))])
 (.seq
 (.cond (ot 33)
 .skip
 (.exit 4))
 (.seq
 (.block 5
 (.seq
 (.reg [] [oo 34 (.mov (ot 32)),
 oo 14 (.mov (ot 34))])
 (.seq
 (.reg [] [oo 35 (.mov (ot 14)),
 oo 36 (.mov (ot 12)),
 oo 37 (.mov (ot 1)),
 oo 38 (.arith .add .i64 (ot 37) (.cst (.d (.int .i64 1)))),
 oo 39 (.arith .rem .i64 (ot 36) (ot 38)),
 oo 40 (.ixp 5 1 (ot 13) (ot 35)),
 ⟨none,.st 1 (ot 40) (ot 39),none⟩])
 (.reg [] [oo 41 (.mov (ot 12)),
 oo 42 (.mov (ot 1)),
 oo 43 (.arith .add .i64 (ot 42) (.cst (.d (.int .i64 1)))),
 oo 44 (.arith .quo .i64 (ot 41) (ot 43)),
 oo 12 (.mov (ot 44))]))))
 (.reg [] [oo 45 (.arith .add .i64 (ot 32) (.cst (.d (.int .i64 1)))),
 oo 32 (.mov (ot 45))]))))))))))
 (.seq
 (.seq
 (.reg [] [oo 46 (.mov (ot 2)),
 oo 47 (.mkf (.func 173) [] [(ot 13)]),
 oo 48 (.call 172 [(ot 46),(ot 47)])])
 (.cond (ot 48)
 (.exit 3)
 .skip))
 (.seq
 (.seq
 (.reg [] [oo 49 (.mov (ot 10)),
 oo 50 (.not (ot 49))])
 (.cond (ot 50)
 (.regd [] [oo 51 (.ld true 5 (ot 13)),
 oo 52 (.ld true 5 (ot 13)),
 ⟨none,.st 5 (ot 8) (ot 51),none⟩,
 ⟨none,.st 5 (ot 9) (ot 52),none⟩,
 oo 10 (.mov (.cst (.d (.bool true))))] [(0,1),(1,2)])
 .skip))
 (.seq
 (.seq
 (.reg [] [oo 53 (.ld true 5 (ot 13)),
 oo 54 (.ld true 5 (ot 8)),
 oo 55 (.aeq false [0,0,0,0,0] (ot 53) (ot 54)),
 oo 56 (.mov (ot 55)),
 ⟨some 57,.ld true 5 (ot 13),some (56,true)⟩,
 ⟨some 58,.ld true 5 (ot 9),some (56,true)⟩,
 ⟨some 59,.aeq false [0,0,0,0,0] (ot 57) (ot 58),some (56,true)⟩,
 oo 60 (.pick (ot 56) (ot 59) (.cst (.d (.bool false))))])
 (.cond (ot 60)
 (.exit 3)
 .skip))
 (.seq
 (.reg [] [oo 61 (.ld true 5 (ot 13)),
 oo 62 (.mov (.cst (.d (.int .i64 0))))])
 (.post [0,1,2,8,9,10,27,28] [0,1,2]
 (.block 6
 (.keep [0,1,2,8,9,10,27,28,61,62] [0,1,2]
 (.loop
 (.post [0,1,2,8,9,10,27,28,61,62] []
 (.seq
 (.reg [] [oo 63 (.cmp .lss (ot 62) (.cst (.d (.int .i64 5))))])
 (.seq
 (.cond (ot 63)
 .skip
 (.exit 6))
 (.seq
 (.block 7
 (.seq
 (.reg [] [oo 64 (.mov (ot 62)),
 oo 65 (.ixv false 5 1 (ot 61) (ot 62)),
 oo 15 (.mov (ot 64)),
 oo 16 (.mov (ot 65))])
 (.regd [] [oo 66 (.mov (ot 15)),
 oo 67 (.mov (ot 15)),
 oo 68 (.mov (ot 15)),
 oo 69 (.ixp 5 1 (ot 8) (ot 68)),
 oo 70 (.ld false 1 (ot 69)),
 oo 71 (.mov (ot 16)),
 oo 72 (.mini (ot 70) (ot 71)),
 oo 73 (.mov (ot 15)),
 oo 74 (.ixp 5 1 (ot 9) (ot 73)),
 oo 75 (.ld false 1 (ot 74)),
 oo 76 (.mov (ot 16)),
 oo 77 (.maxi (ot 75) (ot 76)),
 oo 78 (.ixp 5 1 (ot 8) (ot 66)),
 ⟨none,.st 1 (ot 78) (ot 72),none⟩,
 oo 79 (.ixp 5 1 (ot 9) (ot 67)),
 ⟨none,.st 1 (ot 79) (ot 77),none⟩] [(0,1),(0,2),(1,2),(0,3),(1,3),(0,4),(1,4),(0,5),(1,5),(2,5),(3,5),(4,5),(0,6),(1,6),(0,7),(1,7),(2,7),(3,7),(4,7),(5,7),(6,7),(0,8),(1,8),(2,8),(3,8),(4,8),(5,8),(6,8),(0,9),(1,9),(2,9),(3,9),(4,9),(5,9),(6,9),(0,10),(1,10),(2,10),(3,10),(4,10),(5,10),(6,10),(7,10),(8,10),(9,10),(0,11),(1,11),(2,11),(3,11),(4,11),(5,11),(6,11),(1,12),(7,12),(8,12),(9,12),(10,12),(11,12),(1,13),(7,13),(8,13),(9,13),(10,13),(11,13)])))
 (.reg [] [oo 80 (.arith .add .i64 (ot 62) (.cst (.d (.int .i64 1)))),
 oo 62 (.mov (ot 80))])))))))))))))))))
 (.reg [] [oo 81 (.arith .add .i64 (ot 28) (.cst (.d (.int .i64 1)))),
 oo 28 (.mov (ot 81))]))))))))))
 (.seq
 (.reg [] [oo 17 (.mov (.cst (.nils 2)))])
 (.seq
 (.seq
 (.reg [] [oo 82 (.mov (ot 0)),
 oo 83 (.mov (.cst (.d (.int .i64 0))))])
 (.post [10,17] [0,1,2,3,4]
 (.block 8
 (.asrow 4 84 2 17
 (.keep [8,9,10,17,82,83] [0,1,2]
 (.loop
 (.post [8,9,10,17,82,83] [3,4]
 (.seq
 (.reg [] [oo 84 (.cmp .lss (ot 83) (ot 82))])
 (.seq
 (.cond (ot 84)
 .skip
 (.exit 8))
 (.seq
 (.block 9
 (.seq
 (.reg [] [oo 85 (.mov (ot 83)),
 oo 18 (.mov (ot 85))])
 (.regd [3,4] [oo 86 (.mov (ot 17)),
 oo 87 (.mov (ot 18)),
 oo 88 (.ixp 5 1 (ot 8) (ot 87)),
 oo 89 (.ld false 1 (ot 88)),
 oo 90 (.mov (ot 18)),
 oo 91 (.ixp 5 1 (ot 9) (ot 90)),
 oo 92 (.ld false 1 (ot 91)),
 oo 93 (.build [(.d (.int .i64 0)),(.d (.int .i64 0))] [(0,1,(ot 89)),(1,1,(ot 92))]),
 oo 94 (.bsl 3 84 2 1 [(.agg [(.int .i64 0),(.int .i64 0)])] [(0,(ot 93))]),
 oo 95 (.app 4 84 2 16 (ot 86) (ot 94)),
 oo 17 (.mov (ot 95))] [(0,1),(0,2),(0,3),(0,4),(1,4),(2,4),(3,4),(0,5),(1,5),(2,5),(3,5),(0,6),(1,6),(2,6),(3,6),(0,7),(0,8)])))
 (.reg [] [oo 96 (.arith .add .i64 (ot 83) (.cst (.d (.int .i64 1)))),
 oo 83 (.mov (ot 96))])))))))))))
 (.seq
 (.reg [] [oo 97 (.mov (ot 17)),
 oo 98 (.mov (ot 10)),
 oo 6 (.mov (ot 97)),
 oo 7 (.mov (ot 98))])
 .ret)))))))))⟩
def tx134:AFun:=⟨9,40,[.tmp 4],
 (.seq
 (.reg [] [oo 4 (.mov (.cst (.d (.bool false))))])
 (.seq
 (.reg [] [oo 5 (.mov (ot 0)),
 oo 6 (.mov (ot 1)),
 oo 7 (.call 174 [(ot 5),(ot 6)]),
 oo 8 (.cmp .geq (ot 7) (.cst (.d (.int .i64 0)))),
 oo 4 (.mov (ot 8))])
 .ret))⟩
def tx135:AFun:=⟨11,41,[.tmp 3],
 (.seq
 (.reg [0] [oo 2 (.cbx 0 2 (ot 0)),
 oo 3 (.mov (.cst (.d (.bool false))))])
 (.seq
 (.reg [] [oo 4 (.fad 1 (ot 2)),
 oo 5 (.ld false 1 (ot 4)),
 oo 6 (.fad 0 (ot 2)),
 oo 7 (.ld false 1 (ot 6)),
 oo 8 (.arith .sub .i64 (ot 5) (ot 7)),
 oo 9 (.ld false 1 (ot 1)),
 oo 10 (.cmp .lss (ot 8) (ot 9)),
 oo 3 (.mov (ot 10))])
 .ret))⟩
def tx136:AFun:=⟨17,42,[.tmp 2],
 (.seq
 (.reg [0] [oo 1 (.cbx 0 2 (ot 0)),
 oo 2 (.mov (.cst (.d (.int .i64 0))))])
 (.seq
 (.regd [1] [oo 3 (.fad 0 (ot 1)),
 oo 4 (.ld false 1 (ot 3)),
 oo 5 (.call 122 [(ot 4),(.cst (.d (.int .i64 0))),(.cst (.d (.int .i64 1000000000)))]),
 oo 6 (.fad 1 (ot 1)),
 oo 7 (.ld false 1 (ot 6)),
 oo 8 (.call 122 [(ot 7),(.cst (.d (.int .i64 0))),(.cst (.d (.int .i64 1000000000)))]),
 oo 9 (.fad 0 (ot 1)),
 oo 10 (.ld false 1 (ot 9)),
 oo 11 (.fad 1 (ot 1)),
 oo 12 (.ld false 1 (ot 11)),
 oo 13 (.cmp .gtr (ot 10) (ot 12)),
 oo 14 (.call 103 [(ot 13),(.cst (.d (.int .i64 11)))]),
 oo 15 (.bsl 1 32 1 3 [(.int .i64 0),(.int .i64 0),(.int .i64 0)] [(0,(ot 5)),(1,(ot 8)),(2,(ot 14))]),
 oo 16 (.call 99 [(ot 15)]),
 oo 2 (.mov (ot 16))] [(0,3),(1,3),(2,3),(0,4),(1,4),(2,4),(0,6),(1,6),(2,6),(3,6),(4,6),(5,6),(0,7),(1,7),(2,7),(3,7),(4,7),(5,7),(0,8),(1,8),(2,8),(3,8),(4,8),(5,8),(6,8),(7,8),(0,9),(1,9),(2,9),(3,9),(4,9),(5,9),(6,9),(7,9),(0,10),(1,10),(2,10),(3,10),(4,10),(5,10)])
 .ret))⟩
def tx137:AFun:=⟨22,43,[.tmp 4],
 (.seq
 (.reg [] [oo 4 (.mov (.cst (.nils 1)))])
 (.seq
 (.reg [] [oo 5 (.mov (.cst (.nils 1)))])
 (.seq
 (.seq
 (.reg [] [oo 8 (.mov (ot 0)),
 oo 9 (.len (ot 8)),
 oo 10 (.mov (.cst (.d (.int .i64 0))))])
 (.post [5] [0,1,2]
 (.block 0
 (.asrow 2 32 1 5
 (.keep [1,5,8,9,10] []
 (.loop
 (.post [1,5,8,9,10] [0,1,2]
 (.seq
 (.reg [] [oo 11 (.cmp .lss (ot 10) (ot 9))])
 (.seq
 (.cond (ot 11)
 .skip
 (.exit 0))
 (.seq
 (.block 1
 (.seq
 (.reg [0] [oo 12 (.ixa 2 (ot 8) (ot 10)),
 oo 13 (.ld true 2 (ot 12)),
 oo 7 (.alloc 0 [(.d (.int .i64 0)),(.d (.int .i64 0))]),
 ⟨none,.st 2 (ot 7) (ot 13),none⟩])
 (.reg [1,2] [oo 14 (.mov (ot 5)),
 oo 15 (.mov (ot 1)),
 oo 16 (.ld true 2 (ot 7)),
 oo 17 (.callv (ot 15) [(ot 16)]),
 oo 18 (.bsl 1 32 1 1 [(.int .i64 0)] [(0,(ot 17))]),
 oo 19 (.app 2 32 1 8 (ot 14) (ot 18)),
 oo 5 (.mov (ot 19))])))
 (.reg [] [oo 20 (.arith .add .i64 (ot 10) (.cst (.d (.int .i64 1)))),
 oo 10 (.mov (ot 20))])))))))))))
 (.seq
 (.reg [] [oo 21 (.mov (ot 5)),
 oo 4 (.mov (ot 21))])
 .ret))))⟩
def tx138:AFun:=⟨22,42,[.tmp 4],
 (.seq
 (.reg [] [oo 4 (.mov (.cst (.nils 1)))])
 (.seq
 (.reg [] [oo 5 (.mov (.cst (.nils 1)))])
 (.seq
 (.seq
 (.reg [] [oo 8 (.mov (ot 0)),
 oo 9 (.len (ot 8)),
 oo 10 (.mov (.cst (.d (.int .i64 0))))])
 (.post [5] [0,1]
 (.block 0
 (.asrow 1 32 1 5
 (.keep [1,5,8,9,10] []
 (.loop
 (.post [1,5,8,9,10] [0,1]
 (.seq
 (.reg [] [oo 11 (.cmp .lss (ot 10) (ot 9))])
 (.seq
 (.cond (ot 11)
 .skip
 (.exit 0))
 (.seq
 (.block 1
 (.seq
 (.reg [] [oo 12 (.ixa 1 (ot 8) (ot 10)),
 oo 13 (.ld false 1 (ot 12)),
 oo 7 (.mov (ot 13))])
 (.reg [0,1] [oo 14 (.mov (ot 5)),
 oo 15 (.mov (ot 1)),
 oo 16 (.mov (ot 7)),
 oo 17 (.callv (ot 15) [(ot 16)]),
 oo 18 (.bsl 0 32 1 1 [(.int .i64 0)] [(0,(ot 17))]),
 oo 19 (.app 1 32 1 8 (ot 14) (ot 18)),
 oo 5 (.mov (ot 19))])))
 (.reg [] [oo 20 (.arith .add .i64 (ot 10) (.cst (.d (.int .i64 1)))),
 oo 10 (.mov (ot 20))])))))))))))
 (.seq
 (.reg [] [oo 21 (.mov (ot 5)),
 oo 4 (.mov (ot 21))])
 .ret))))⟩
def tx139:AFun:=⟨13,41,[.tmp 2],
 (.seq
 (.reg [] [oo 2 (.mov (.cst (.d (.int .i64 0))))])
 (.seq
 (.reg [0] [oo 3 (.mov (ot 0)),
 oo 4 (.len (ot 3)),
 oo 5 (.cmp .eql (ot 4) (.cst (.d (.int .i64 0)))),
 oo 6 (.call 103 [(ot 5),(.cst (.d (.int .i64 12)))]),
 oo 7 (.mov (ot 0)),
 oo 8 (.len (ot 7)),
 oo 9 (.cmp .gtr (ot 8) (.cst (.d (.int .i64 32)))),
 oo 10 (.call 103 [(ot 9),(.cst (.d (.int .i64 4)))]),
 oo 11 (.bsl 0 32 1 2 [(.int .i64 0),(.int .i64 0)] [(0,(ot 6)),(1,(ot 10))]),
 oo 12 (.call 99 [(ot 11)]),
 oo 2 (.mov (ot 12))])
 .ret))⟩
def tx140:AFun:=⟨24,40,[.tmp 2],
 (.seq
 (.reg [] [oo 2 (.mov (.cst (.d (.int .i64 0))))])
 (.seq
 (.reg [] [oo 3 (.mov (.cst (.d (.int .i64 0))))])
 (.seq
 (.seq
 (.reg [] [oo 6 (.mov (ot 0)),
 oo 7 (.call 175 [(ot 6)]),
 oo 8 (.len (ot 7)),
 oo 9 (.mov (.cst (.d (.int .i64 0))))])
 (.post [3] []
 (.block 0
 (.keep [3,7,8,9] []
 (.loop
 (.post [3,7,8,9] []
 (.seq
 (.reg [] [oo 10 (.cmp .lss (ot 9) (ot 8))])
 (.seq
 (.cond (ot 10)
 .skip
 (.exit 0))
 (.seq
 (.block 1
 (.seq
 (.reg [] [oo 11 (.mov (ot 9)),
 oo 12 (.ixa 1 (ot 7) (ot 9)),
 oo 13 (.ld false 1 (ot 12)),
 oo 4 (.mov (ot 11)),
 oo 5 (.mov (ot 13))])
 (.reg [] [oo 14 (.mov (ot 3)),
 oo 15 (.mov (ot 5)),
 oo 16 (.conv .i64 (ot 15)),
 oo 17 (.mov (ot 4)),
 oo 18 (.arith .add .i64 (ot 17) (.cst (.d (.int .i64 1)))),
 oo 19 (.arith .mul .i64 (ot 16) (ot 18)),
 oo 20 (.arith .add .i64 (ot 14) (ot 19)),
 oo 21 (.arith .rem .i64 (ot 20) (.cst (.d (.int .i64 9973)))),
 oo 3 (.mov (ot 21))])))
 (.reg [] [oo 22 (.arith .add .i64 (ot 9) (.cst (.d (.int .i64 1)))),
 oo 9 (.mov (ot 22))]))))))))))
 (.seq
 (.reg [] [oo 23 (.mov (ot 3)),
 oo 2 (.mov (ot 23))])
 .ret))))⟩
def tx141:AFun:=⟨11,41,[.tmp 2],
 (.seq
 (.reg [0] [oo 1 (.cbx 0 7 (ot 0)),
 oo 2 (.mov (.cst (.d (.int .i64 0))))])
 (.seq
 (.reg [] [oo 3 (.fad 2 (ot 1)),
 oo 4 (.ld false 1 (ot 3)),
 oo 5 (.cmp .eql (ot 4) (.cst (.d (.int .i64 0)))),
 oo 6 (.mov (ot 5)),
 ⟨some 7,.fad 6 (ot 1),some (6,false)⟩,
 ⟨some 8,.ld false 1 (ot 7),some (6,false)⟩,
 oo 9 (.pick (ot 6) (.cst (.d (.bool true))) (ot 8)),
 oo 10 (.call 103 [(ot 9),(.cst (.d (.int .i64 22)))]),
 oo 2 (.mov (ot 10))])
 .ret))⟩
def tx142:AFun:=⟨27,43,[.cell 2 7 true],
 (.seq
 (.reg [0,1] [oo 1 (.box 0 7 (ot 0)),
 oo 2 (.alloc 1 [(.d (.int .i64 0)),(.d (.int .i64 0)),(.d (.int .i64 0)),(.d (.int .i64 0)),(.nils 1),(.d (.bool false)),(.d (.bool false))])])
 (.seq
 (.reg [2] [oo 5 (.fad 4 (ot 1)),
 oo 6 (.ld false 1 (ot 5)),
 oo 7 (.len (ot 6)),
 oo 8 (.msl 2 111 1 24 (.slice 1 []) (ot 7)),
 oo 3 (.mov (ot 8))])
 (.seq
 (.seq
 (.reg [] [oo 9 (.mov (ot 3)),
 oo 10 (.len (ot 9)),
 oo 11 (.mov (.cst (.d (.int .i64 0))))])
 (.post [1,2,3] [0,1,2]
 (.block 0
 (.keep [1,2,3,10,11] [0,1,2]
 (.loop
 (.post [1,2,3,10,11] []
 (.seq
 (.reg [] [oo 12 (.cmp .lss (ot 11) (ot 10))])
 (.seq
 (.cond (ot 12)
 .skip
 (.exit 0))
 (.seq
 (.block 1
 (.seq
 (.reg [] [oo 13 (.mov (ot 11)),
 oo 4 (.mov (ot 13))])
 (.reg [] [oo 14 (.mov (ot 3)),
 oo 15 (.mov (ot 4)),
 oo 16 (.fad 4 (ot 1)),
 oo 17 (.ld false 1 (ot 16)),
 oo 18 (.mov (ot 4)),
 oo 19 (.ixa 1 (ot 17) (ot 18)),
 oo 20 (.ld false 1 (ot 19)),
 oo 21 (.call 176 [(ot 20)]),
 oo 22 (.ixa 1 (ot 14) (ot 15)),
 ⟨none,.st 1 (ot 22) (ot 21),none⟩])))
 (.reg [] [oo 23 (.arith .add .i64 (ot 11) (.cst (.d (.int .i64 1)))),
 oo 11 (.mov (ot 23))]))))))))))
 (.seq
 (.reg [] [oo 24 (.mov (ot 3)),
 oo 25 (.fad 4 (ot 1)),
 ⟨none,.st 1 (ot 25) (ot 24),none⟩])
 (.seq
 (.reg [] [oo 26 (.ld true 7 (ot 1)),
 ⟨none,.st 7 (ot 2) (ot 26),none⟩])
 .ret)))))⟩
def tx143:AFun:=⟨6,41,[.tmp 2],
 (.seq
 (.reg [0] [oo 1 (.cbx 0 7 (ot 0)),
 oo 2 (.mov (.cst (.d (.bool false))))])
 (.seq
 (.reg [] [oo 3 (.fad 4 (ot 1)),
 oo 4 (.ld false 1 (ot 3)),
 oo 5 (.call 148 [(ot 4),(.cst (.d (.fn (.func 177) [])))]),
 oo 2 (.mov (ot 5))])
 .ret))⟩
def tx144:AFun:=⟨23,43,[.cell 4 7 true,.tmp 5],
 (.seq
 (.reg [0,1] [oo 2 (.cbx 0 7 (ot 0)),
 oo 4 (.alloc 1 [(.d (.int .i64 0)),(.d (.int .i64 0)),(.d (.int .i64 0)),(.d (.int .i64 0)),(.nils 1),(.d (.bool false)),(.d (.bool false))]),
 oo 5 (.mov (.cst (.d (.int .i64 0))))])
 (.seq
 (.seq
 (.regd [2] [oo 7 (.ld true 7 (ot 2)),
 oo 8 (.call 83 [(ot 7)]),
 oo 9 (.fad 6 (ot 2)),
 oo 10 (.ld false 1 (ot 9)),
 oo 11 (.not (ot 10)),
 oo 12 (.call 103 [(ot 11),(.cst (.d (.int .i64 22)))]),
 oo 13 (.bsl 2 32 1 2 [(.int .i64 0),(.int .i64 0)] [(0,(ot 8)),(1,(ot 12))]),
 oo 14 (.call 99 [(ot 13)]),
 oo 6 (.mov (ot 14))] [(0,2),(1,2),(0,3),(1,3),(0,4),(1,4)])
 (.seq
 (.reg [] [oo 15 (.mov (ot 6)),
 oo 16 (.cmp .neq (ot 15) (.cst (.d (.int .i64 0))))])
 (.cond (ot 16)
 (.seq
 (.reg [] [oo 17 (.build [(.d (.int .i64 0)),(.d (.int .i64 0)),(.d (.int .i64 0)),(.d (.int .i64 0)),(.nils 1),(.d (.bool false)),(.d (.bool false))] []),
 oo 18 (.mov (ot 6)),
 ⟨none,.st 7 (ot 4) (ot 17),none⟩,
 oo 5 (.mov (ot 18))])
 .ret)
 .skip)))
 (.seq
 (.reg [] [oo 19 (.mov (ot 1)),
 oo 20 (.fad 1 (ot 2)),
 oo 21 (.ld false 1 (ot 20)),
 oo 22 (.build [(.d (.int .i64 0)),(.d (.int .i64 0)),(.d (.int .i64 0)),(.d (.int .i64 0)),(.nils 1),(.d (.bool false)),(.d (.bool false))] [(0,1,(ot 19)),(1,1,(ot 21))]),
 ⟨none,.st 7 (ot 4) (ot 22),none⟩,
 oo 5 (.mov (.cst (.d (.int .i64 0))))])
 .ret)))⟩
def tx147:AFun:=⟨5,40,[.tmp 2],
 (.seq
 (.reg [] [oo 2 (.mov (.cst (.d (.int .i64 0))))])
 (.seq
 (.reg [] [oo 3 (.mov (ot 0)),
 oo 4 (.call 122 [(ot 3),(.cst (.d (.int .i64 0))),(.cst (.d (.int .i64 10000)))]),
 oo 2 (.mov (ot 4))])
 .ret))⟩
def tx148:AFun:=⟨9,40,[.tmp 4],
 (.seq
 (.reg [] [oo 4 (.mov (.cst (.d (.bool false))))])
 (.seq
 (.reg [] [oo 5 (.mov (ot 0)),
 oo 6 (.mov (ot 1)),
 oo 7 (.call 178 [(ot 5),(ot 6)]),
 oo 8 (.cmp .geq (ot 7) (.cst (.d (.int .i64 0)))),
 oo 4 (.mov (ot 8))])
 .ret))⟩
def tx149:AFun:=⟨6,40,[.tmp 2],
 (.seq
 (.reg [] [oo 2 (.mov (.cst (.d (.bool false))))])
 (.seq
 (.reg [] [oo 3 (.mov (ot 0)),
 oo 4 (.len (ot 3)),
 oo 5 (.cmp .gtr (ot 4) (.cst (.d (.int .i64 32)))),
 oo 2 (.mov (ot 5))])
 .ret))⟩
def tx150:AFun:=⟨56,41,[.tmp 2],
 (.seq
 (.reg [0] [oo 1 (.cbx 0 7 (ot 0)),
 oo 2 (.mov (.cst (.d (.bool false))))])
 (.seq
 (.block 0
 (.seq
 (.reg [] [oo 4 (.fad 2 (ot 1)),
 oo 5 (.ld false 1 (ot 4)),
 oo 6 (.cmp .eql (ot 5) (.cst (.d (.int .i64 0)))),
 oo 3 (.mov (ot 6))])
 (.cond (ot 3)
 (.seq
 (.reg [] [oo 7 (.fad 4 (ot 1)),
 oo 8 (.ld false 1 (ot 7)),
 oo 9 (.len (ot 8)),
 oo 10 (.cmp .eql (ot 9) (.cst (.d (.int .i64 0)))),
 oo 11 (.mov (ot 10)),
 ⟨some 12,.fad 3 (ot 1),some (11,true)⟩,
 ⟨some 13,.ld false 1 (ot 12),some (11,true)⟩,
 ⟨some 14,.cmp .eql (ot 13) (.cst (.d (.int .i64 0))),some (11,true)⟩,
 oo 15 (.pick (ot 11) (ot 14) (.cst (.d (.bool false)))),
 oo 16 (.mov (ot 15)),
 ⟨some 17,.fad 5 (ot 1),some (16,true)⟩,
 ⟨some 18,.ld false 1 (ot 17),some (16,true)⟩,
 ⟨some 19,.not (ot 18),some (16,true)⟩,
 oo 20 (.pick (ot 16) (ot 19) (.cst (.d (.bool false)))),
 oo 21 (.mov (ot 20)),
 ⟨some 22,.fad 6 (ot 1),some (21,true)⟩,
 ⟨some 23,.ld false 1 (ot 22),some (21,true)⟩,
 ⟨some 24,.not (ot 23),some (21,true)⟩,
 oo 25 (.pick (ot 21) (ot 24) (.cst (.d (.bool false)))),
 oo 2 (.mov (ot 25))])
 .ret)
 (.seq
 (.reg [] [oo 27 (.fad 4 (ot 1)),
 oo 28 (.ld false 1 (ot 27)),
 oo 29 (.len (ot 28)),
 oo 30 (.cmp .eql (ot 29) (.cst (.d (.int .i64 0)))),
 oo 31 (.mov (ot 30)),
 ⟨some 32,.fad 5 (ot 1),some (31,false)⟩,
 ⟨some 33,.ld false 1 (ot 32),some (31,false)⟩,
 ⟨some 34,.mov (ot 33),some (31,false)⟩,
 ⟨some 35,.ld true 7 (ot 1),some (34,true)⟩,
 ⟨some 36,.call 143 [(ot 35)],some (34,true)⟩,
 ⟨some 37,.pick (ot 34) (ot 36) (.cst (.d (.bool false))),some (31,false)⟩,
 oo 38 (.pick (ot 31) (.cst (.d (.bool true))) (ot 37)),
 oo 26 (.mov (ot 38))])
 (.cond (ot 26)
 (.seq
 (.reg [] [oo 2 (.mov (.cst (.d (.bool false))))])
 .ret)
 (.seq
 (.reg [] [oo 40 (.fad 6 (ot 1)),
 oo 41 (.ld false 1 (ot 40)),
 oo 39 (.mov (ot 41))])
 (.cond (ot 39)
 (.seq
 (.reg [] [oo 42 (.fad 2 (ot 1)),
 oo 43 (.ld false 1 (ot 42)),
 oo 44 (.fad 0 (ot 1)),
 oo 45 (.ld false 1 (ot 44)),
 oo 46 (.cmp .eql (ot 43) (ot 45)),
 oo 47 (.mov (ot 46)),
 ⟨some 48,.fad 5 (ot 1),some (47,true)⟩,
 ⟨some 49,.ld false 1 (ot 48),some (47,true)⟩,
 oo 50 (.pick (ot 47) (ot 49) (.cst (.d (.bool false)))),
 oo 2 (.mov (ot 50))])
 .ret)
 .skip)))))))
 (.seq
 (.reg [] [oo 51 (.fad 2 (ot 1)),
 oo 52 (.ld false 1 (ot 51)),
 oo 53 (.fad 0 (ot 1)),
 oo 54 (.ld false 1 (ot 53)),
 oo 55 (.cmp .gtr (ot 52) (ot 54)),
 oo 2 (.mov (ot 55))])
 .ret)))⟩
def tx153:AFun:=⟨14,40,[],
 (.seq
 (.reg [] [oo 5 (.mov (ot 0)),
 oo 6 (.len (ot 5)),
 oo 4 (.mov (ot 6))])
 (.reg [] [oo 7 (.mov (ot 0)),
 oo 8 (.mov (ot 4)),
 oo 9 (.mov (ot 4)),
 oo 10 (.conv .u64 (ot 9)),
 oo 11 (.call 168 [(ot 10)]),
 oo 12 (.mov (ot 1)),
 oo 13 (.calli 180 [(ot 7),(.cst (.d (.int .i64 0))),(ot 8),(ot 11),(ot 12)])]))⟩
def tx154:AFun:={ jr154 with heap:=43 }
def tx155:AFun:=⟨15,41,[.cell 8 6 true],
 (.seq
 (.reg [0] [oo 8 (.alloc 0 [(.d (.str [])),(.d (.str [])),(.d (.str [])),(.d (.str [])),(.d (.int .i64 0)),(.d (.int .i64 0))])])
 (.seq
 (.reg [] [oo 9 (.mov (ot 0)),
 oo 10 (.mov (ot 1)),
 oo 11 (.mov (ot 2)),
 oo 12 (.mov (ot 3)),
 oo 13 (.build [(.d (.int .i64 0)),(.d (.int .i64 0))] [(0,1,(ot 11)),(1,1,(ot 12))]),
 oo 14 (.build [(.d (.str [])),(.d (.str [])),(.d (.str [])),(.d (.str [])),(.d (.int .i64 0)),(.d (.int .i64 0))] [(0,1,(ot 9)),(1,1,(ot 10)),(2,1,(.cst (.d (.str [114,101,97,100])))),(3,1,(.cst (.d (.str [109,49])))),(4,2,(ot 13))]),
 ⟨none,.st 6 (ot 8) (ot 14),none⟩])
 .ret))⟩
def tx157:AFun:=⟨5,40,[.tmp 2],
 (.seq
 (.reg [] [oo 2 (.mov (.cst (.d (.str []))))])
 (.seq
 (.reg [] [oo 3 (.mov (ot 0)),
 oo 4 (.call 186 [(ot 3)]),
 oo 2 (.mov (ot 4))])
 .ret))⟩
def tx158:AFun:={ jr158 with heap:=42 }
def tx160:AFun:={ jr160 with heap:=40 }
def tx161:AFun:={ ir161 with heap:=40 }
def tx162:AFun:={ jr162 with heap:=40 }
def tx163:AFun:={ jr163 with heap:=41 }
def tx165:AFun:={ ir165 with heap:=41 }
def tx166:AFun:={ jr166 with heap:=40 }
def tx167:AFun:=⟨134,40,[],
 (.seq
 (.reg [] [oo 8 (.mov (.cst (.d (.bool true))))])
 (.seq
 (.reg [] [oo 9 (.mov (.cst (.d (.bool true))))])
 (.post [] []
 (.block 0
 (.keep [0,1,2,3,8,9] []
 (.loop
 (.post [0,1,2,3,8,9] []
 (.block 1
 (.seq
 (.reg [] [oo 19 (.mov (ot 2)),
 oo 20 (.mov (ot 1)),
 oo 21 (.arith .sub .i64 (ot 19) (ot 20)),
 oo 10 (.mov (ot 21))])
 (.seq
 (.seq
 (.reg [] [oo 22 (.mov (ot 10)),
 oo 23 (.cmp .leq (ot 22) (.cst (.d (.int .i64 12))))])
 (.cond (ot 23)
 (.seq
 (.reg [] [oo 24 (.mov (ot 0)),
 oo 25 (.mov (ot 1)),
 oo 26 (.mov (ot 2)),
 oo 27 (.calli 188 [(ot 24),(ot 25),(ot 26)])])
 .ret)
 .skip))
 (.seq
 (.seq
 (.reg [] [oo 28 (.mov (ot 3)),
 oo 29 (.cmp .eql (ot 28) (.cst (.d (.int .i64 0))))])
 (.cond (ot 29)
 (.seq
 (.reg [] [oo 30 (.mov (ot 0)),
 oo 31 (.mov (ot 1)),
 oo 32 (.mov (ot 2)),
 oo 33 (.calli 189 [(ot 30),(ot 31),(ot 32)])])
 .ret)
 .skip))
 (.seq
 (.seq
 (.reg [] [oo 34 (.mov (ot 8)),
 oo 35 (.not (ot 34))])
 (.cond (ot 35)
 (.seq
 (.reg [] [oo 36 (.mov (ot 0)),
 oo 37 (.mov (ot 1)),
 oo 38 (.mov (ot 2)),
 oo 39 (.calli 190 [(ot 36),(ot 37),(ot 38)])])
 (.reg [] [oo 40 (.mov (ot 3)),
 oo 41 (.arith .sub .i64 (ot 40) (.cst (.d (.int .i64 1)))),
 oo 3 (.mov (ot 41))]))
 .skip))
 (.seq
 (.reg [] [oo 43 (.mov (ot 0)),
 oo 44 (.mov (ot 1)),
 oo 45 (.mov (ot 2)),
 oo 46 (.calli 191 [(ot 43),(ot 44),(ot 45)]),
 oo 42 (.mov (ot 46)),
 oo 47 (.ext 0 (ot 42)),
 oo 48 (.ext 1 (ot 42)),
 oo 11 (.mov (ot 47)),
 oo 12 (.mov (ot 48))])
 (.seq
 (.seq
 (.reg [] [oo 49 (.mov (ot 12)),
 oo 50 (.cmp .eql (ot 49) (.cst (.d (.int .i64 2))))])
 (.cond (ot 50)
 (.seq
 (.reg [] [oo 51 (.mov (ot 0)),
 oo 52 (.mov (ot 1)),
 oo 53 (.mov (ot 2)),
 oo 54 (.calli 192 [(ot 51),(ot 52),(ot 53)])])
 (.seq
 (.reg [] [oo 55 (.mov (ot 2)),
 oo 56 (.arith .sub .i64 (ot 55) (.cst (.d (.int .i64 1)))),
 oo 57 (.mov (ot 11)),
 oo 58 (.mov (ot 1)),
 oo 59 (.arith .sub .i64 (ot 57) (ot 58)),
 oo 60 (.arith .sub .i64 (ot 56) (ot 59)),
 oo 11 (.mov (ot 60))])
 (.reg [] [oo 12 (.mov (.cst (.d (.int .i64 1))))])))
 .skip))
 (.seq
 (.seq
 (.reg [] [oo 61 (.mov (ot 8)),
 oo 62 (.mov (ot 61)),
 ⟨some 63,.mov (ot 9),some (62,true)⟩,
 oo 64 (.pick (ot 62) (ot 63) (.cst (.d (.bool false)))),
 oo 65 (.mov (ot 64)),
 ⟨some 66,.mov (ot 12),some (65,true)⟩,
 ⟨some 67,.cmp .eql (ot 66) (.cst (.d (.int .i64 1))),some (65,true)⟩,
 oo 68 (.pick (ot 65) (ot 67) (.cst (.d (.bool false))))])
 (.cond (ot 68)
 (.seq
 (.reg [] [oo 69 (.mov (ot 0)),
 oo 70 (.mov (ot 1)),
 oo 71 (.mov (ot 2)),
 oo 72 (.calli 193 [(ot 69),(ot 70),(ot 71)])])
 (.cond (ot 72)
 .ret
 .skip))
 .skip))
 (.seq
 (.seq
 (.regd [] [oo 73 (.mov (ot 1)),
 oo 74 (.cmp .gtr (ot 73) (.cst (.d (.int .i64 0)))),
 oo 75 (.mov (ot 74)),
 ⟨some 76,.mov (ot 0),some (75,true)⟩,
 ⟨some 77,.mov (ot 1),some (75,true)⟩,
 ⟨some 78,.arith .sub .i64 (ot 77) (.cst (.d (.int .i64 1))),some (75,true)⟩,
 ⟨some 79,.ixa 1 (ot 76) (ot 78),some (75,true)⟩,
 ⟨some 80,.ld false 1 (ot 79),some (75,true)⟩,
 ⟨some 81,.mov (ot 0),some (75,true)⟩,
 ⟨some 82,.mov (ot 11),some (75,true)⟩,
 ⟨some 83,.ixa 1 (ot 81) (ot 82),some (75,true)⟩,
 ⟨some 84,.ld false 1 (ot 83),some (75,true)⟩,
 ⟨some 85,.call 194 [(ot 80),(ot 84)],some (75,true)⟩,
 ⟨some 86,.not (ot 85),some (75,true)⟩,
 oo 87 (.pick (ot 75) (ot 86) (.cst (.d (.bool false))))] [(3,4),(3,5),(3,8),(4,8),(5,8),(6,8),(7,8),(3,9),(4,9),(5,9),(6,9),(7,9),(8,9),(3,10),(4,10),(5,10),(6,10),(7,10),(3,11),(4,11),(5,11),(6,11),(7,11)])
 (.cond (ot 87)
 (.seq
 (.reg [] [oo 88 (.mov (ot 0)),
 oo 89 (.mov (ot 1)),
 oo 90 (.mov (ot 2)),
 oo 91 (.mov (ot 11)),
 oo 92 (.calli 195 [(ot 88),(ot 89),(ot 90),(ot 91)]),
 oo 13 (.mov (ot 92))])
 (.seq
 (.reg [] [oo 93 (.mov (ot 13)),
 oo 1 (.mov (ot 93))])
 (.exit 1)))
 .skip))
 (.seq
 (.reg [] [oo 95 (.mov (ot 0)),
 oo 96 (.mov (ot 1)),
 oo 97 (.mov (ot 2)),
 oo 98 (.mov (ot 11)),
 oo 99 (.calli 196 [(ot 95),(ot 96),(ot 97),(ot 98)]),
 oo 94 (.mov (ot 99)),
 oo 100 (.ext 0 (ot 94)),
 oo 101 (.ext 1 (ot 94)),
 oo 14 (.mov (ot 100)),
 oo 15 (.mov (ot 101))])
 (.seq
 (.reg [] [oo 102 (.mov (ot 15)),
 oo 9 (.mov (ot 102))])
 (.seq
 (.reg [] [oo 103 (.mov (ot 14)),
 oo 104 (.mov (ot 1)),
 oo 105 (.arith .sub .i64 (ot 103) (ot 104)),
 oo 106 (.mov (ot 2)),
 oo 107 (.mov (ot 14)),
 oo 108 (.arith .sub .i64 (ot 106) (ot 107)),
 oo 16 (.mov (ot 105)),
 oo 17 (.mov (ot 108))])
 (.seq
 (.reg [] [oo 109 (.mov (ot 10)),
 oo 110 (.arith .quo .i64 (ot 109) (.cst (.d (.int .i64 8)))),
 oo 18 (.mov (ot 110))])
 (.seq
 (.reg [] [oo 111 (.mov (ot 16)),
 oo 112 (.mov (ot 17)),
 oo 113 (.cmp .lss (ot 111) (ot 112))])
 (.cond (ot 113)
 (.seq
 (.reg [] [oo 114 (.mov (ot 16)),
 oo 115 (.mov (ot 18)),
 oo 116 (.cmp .geq (ot 114) (ot 115)),
 oo 8 (.mov (ot 116))])
 (.seq
 (.reg [] [oo 117 (.mov (ot 0)),
 oo 118 (.mov (ot 1)),
 oo 119 (.mov (ot 14)),
 oo 120 (.mov (ot 3)),
 oo 121 (.calli 167 [(ot 117),(ot 118),(ot 119),(ot 120)])])
 (.reg [] [oo 122 (.mov (ot 14)),
 oo 123 (.arith .add .i64 (ot 122) (.cst (.d (.int .i64 1)))),
 oo 1 (.mov (ot 123))])))
 (.seq
 (.reg [] [oo 124 (.mov (ot 17)),
 oo 125 (.mov (ot 18)),
 oo 126 (.cmp .geq (ot 124) (ot 125)),
 oo 8 (.mov (ot 126))])
 (.seq
 (.reg [] [oo 127 (.mov (ot 0)),
 oo 128 (.mov (ot 14)),
 oo 129 (.arith .add .i64 (ot 128) (.cst (.d (.int .i64 1)))),
 oo 130 (.mov (ot 2)),
 oo 131 (.mov (ot 3)),
 oo 132 (.calli 167 [(ot 127),(ot 129),(ot 130),(ot 131)])])
 (.reg [] [oo 133 (.mov (ot 14)),
 oo 2 (.mov (ot 133))])))))))))))))))))))))))))⟩
def tx168:AFun:=⟨8,40,[.tmp 2],
 (.seq
 (.reg [] [oo 2 (.mov (.cst (.d (.int .i64 0))))])
 (.seq
 (.cond (.cst (.d (.bool false)))
 (.seq
 (.reg [] [oo 3 (.mov (ot 0)),
 oo 4 (.conv .u32 (ot 3)),
 oo 5 (.call 197 [(ot 4)]),
 oo 2 (.mov (ot 5))])
 .ret)
 .skip)
 (.seq
 (.reg [] [oo 6 (.mov (ot 0)),
 oo 7 (.call 198 [(ot 6)]),
 oo 2 (.mov (ot 7))])
 .ret)))⟩
def tx169:AFun:={ jr169 with heap:=40 }
def tx170:AFun:=⟨22,43,[.tmp 4],
 (.seq
 (.reg [] [oo 4 (.mov (.cst (.nils 1)))])
 (.seq
 (.reg [] [oo 5 (.mov (.cst (.nils 1)))])
 (.seq
 (.seq
 (.reg [] [oo 8 (.mov (ot 0)),
 oo 9 (.len (ot 8)),
 oo 10 (.mov (.cst (.d (.int .i64 0))))])
 (.post [5] [0,1,2]
 (.block 0
 (.asrow 2 32 1 5
 (.keep [1,5,8,9,10] []
 (.loop
 (.post [1,5,8,9,10] [0,1,2]
 (.seq
 (.reg [] [oo 11 (.cmp .lss (ot 10) (ot 9))])
 (.seq
 (.cond (ot 11)
 .skip
 (.exit 0))
 (.seq
 (.block 1
 (.seq
 (.reg [0] [oo 12 (.ixa 2 (ot 8) (ot 10)),
 oo 13 (.ld true 2 (ot 12)),
 oo 7 (.alloc 0 [(.nils 1),(.d (.int .i64 0))]),
 ⟨none,.st 2 (ot 7) (ot 13),none⟩])
 (.reg [1,2] [oo 14 (.mov (ot 5)),
 oo 15 (.mov (ot 1)),
 oo 16 (.ld true 2 (ot 7)),
 oo 17 (.callv (ot 15) [(ot 16)]),
 oo 18 (.bsl 1 32 1 1 [(.int .i64 0)] [(0,(ot 17))]),
 oo 19 (.app 2 32 1 8 (ot 14) (ot 18)),
 oo 5 (.mov (ot 19))])))
 (.reg [] [oo 20 (.arith .add .i64 (ot 10) (.cst (.d (.int .i64 1)))),
 oo 10 (.mov (ot 20))])))))))))))
 (.seq
 (.reg [] [oo 21 (.mov (ot 5)),
 oo 4 (.mov (ot 21))])
 .ret))))⟩
def tx171:AFun:=⟨13,42,[.tmp 3],
 (.seq
 (.reg [0] [oo 2 (.cbx 0 2 (ot 0)),
 oo 3 (.mov (.cst (.d (.int .i64 0))))])
 (.seq
 (.regd [1] [oo 4 (.ld false 1 (ot 1)),
 oo 5 (.fad 0 (ot 2)),
 oo 6 (.ld false 1 (ot 5)),
 oo 7 (.call 124 [(ot 4),(ot 6)]),
 oo 8 (.fad 1 (ot 2)),
 oo 9 (.ld false 1 (ot 8)),
 oo 10 (.call 122 [(ot 9),(.cst (.d (.int .i64 0))),(.cst (.d (.int .i64 35)))]),
 oo 11 (.bsl 1 32 1 2 [(.int .i64 0),(.int .i64 0)] [(0,(ot 7)),(1,(ot 10))]),
 oo 12 (.call 99 [(ot 11)]),
 oo 3 (.mov (ot 12))] [(0,1),(0,2),(0,4),(1,4),(2,4),(3,4),(0,5),(1,5),(2,5),(3,5)])
 .ret))⟩
def tx172:AFun:=⟨9,40,[.tmp 4],
 (.seq
 (.reg [] [oo 4 (.mov (.cst (.d (.bool false))))])
 (.seq
 (.reg [] [oo 5 (.mov (ot 0)),
 oo 6 (.mov (ot 1)),
 oo 7 (.call 199 [(ot 5),(ot 6)]),
 oo 8 (.cmp .geq (ot 7) (.cst (.d (.int .i64 0)))),
 oo 4 (.mov (ot 8))])
 .ret))⟩
def tx173:AFun:=⟨11,41,[.tmp 3],
 (.seq
 (.reg [0] [oo 2 (.cbx 0 2 (ot 0)),
 oo 3 (.mov (.cst (.d (.bool false))))])
 (.seq
 (.regd [] [oo 4 (.sla 5 (ot 1) none none),
 oo 5 (.fad 0 (ot 2)),
 oo 6 (.ld false 1 (ot 5)),
 oo 7 (.call 131 [(ot 4),(ot 6)]),
 oo 8 (.fad 1 (ot 2)),
 oo 9 (.ld false 1 (ot 8)),
 oo 10 (.cmp .neq (ot 7) (ot 9)),
 oo 3 (.mov (ot 10))] [(0,1),(0,2),(0,4),(1,4),(2,4),(3,4),(0,5),(1,5),(2,5),(3,5)])
 .ret))⟩
def tx174:AFun:=⟨19,40,[.tmp 4],
 (.seq
 (.reg [] [oo 4 (.mov (.cst (.d (.int .i64 0))))])
 (.seq
 (.seq
 (.reg [] [oo 6 (.mov (ot 0)),
 oo 7 (.len (ot 6)),
 oo 8 (.mov (.cst (.d (.int .i64 0))))])
 (.post [] []
 (.block 0
 (.keep [0,1,7,8] []
 (.loop
 (.post [0,1,7,8] []
 (.seq
 (.reg [] [oo 9 (.cmp .lss (ot 8) (ot 7))])
 (.seq
 (.cond (ot 9)
 .skip
 (.exit 0))
 (.seq
 (.block 1
 (.seq
 (.reg [] [oo 10 (.mov (ot 8)),
 oo 5 (.mov (ot 10))])
 (.seq
 (.reg [] [oo 11 (.mov (ot 1)),
 oo 12 (.mov (ot 0)),
 oo 13 (.mov (ot 5)),
 oo 14 (.ixa 2 (ot 12) (ot 13)),
 oo 15 (.ld true 2 (ot 14)),
 oo 16 (.callv (ot 11) [(ot 15)])])
 (.cond (ot 16)
 (.seq
 (.reg [] [oo 17 (.mov (ot 5)),
 oo 4 (.mov (ot 17))])
 .ret)
 .skip))))
 (.reg [] [oo 18 (.arith .add .i64 (ot 8) (.cst (.d (.int .i64 1)))),
 oo 8 (.mov (ot 18))]))))))))))
 (.seq
 (.reg [] [oo 4 (.mov (.cst (.d (.int .i64 (-1)))))])
 .ret)))⟩
def tx177:AFun:=⟨6,40,[.tmp 2],
 (.seq
 (.reg [] [oo 2 (.mov (.cst (.d (.bool false))))])
 (.seq
 (.reg [] [oo 3 (.mov (ot 0)),
 oo 4 (.len (ot 3)),
 oo 5 (.cmp .eql (ot 4) (.cst (.d (.int .i64 0)))),
 oo 2 (.mov (ot 5))])
 .ret))⟩
def tx178:AFun:=⟨19,40,[.tmp 4],
 (.seq
 (.reg [] [oo 4 (.mov (.cst (.d (.int .i64 0))))])
 (.seq
 (.seq
 (.reg [] [oo 6 (.mov (ot 0)),
 oo 7 (.len (ot 6)),
 oo 8 (.mov (.cst (.d (.int .i64 0))))])
 (.post [] []
 (.block 0
 (.keep [0,1,7,8] []
 (.loop
 (.post [0,1,7,8] []
 (.seq
 (.reg [] [oo 9 (.cmp .lss (ot 8) (ot 7))])
 (.seq
 (.cond (ot 9)
 .skip
 (.exit 0))
 (.seq
 (.block 1
 (.seq
 (.reg [] [oo 10 (.mov (ot 8)),
 oo 5 (.mov (ot 10))])
 (.seq
 (.reg [] [oo 11 (.mov (ot 1)),
 oo 12 (.mov (ot 0)),
 oo 13 (.mov (ot 5)),
 oo 14 (.ixa 1 (ot 12) (ot 13)),
 oo 15 (.ld false 1 (ot 14)),
 oo 16 (.callv (ot 11) [(ot 15)])])
 (.cond (ot 16)
 (.seq
 (.reg [] [oo 17 (.mov (ot 5)),
 oo 4 (.mov (ot 17))])
 .ret)
 .skip))))
 (.reg [] [oo 18 (.arith .add .i64 (ot 8) (.cst (.d (.int .i64 1)))),
 oo 8 (.mov (ot 18))]))))))))))
 (.seq
 (.reg [] [oo 4 (.mov (.cst (.d (.int .i64 (-1)))))])
 .ret)))⟩
def tx180:AFun:=⟨148,40,[],
 (.seq
 (.reg [] [oo 10 (.mov (.cst (.d (.bool true))))])
 (.seq
 (.reg [] [oo 11 (.mov (.cst (.d (.bool true))))])
 (.post [] []
 (.block 0
 (.keep [0,1,2,3,4,10,11] []
 (.loop
 (.post [0,1,2,3,4,10,11] []
 (.block 1
 (.seq
 (.reg [] [oo 21 (.mov (ot 2)),
 oo 22 (.mov (ot 1)),
 oo 23 (.arith .sub .i64 (ot 21) (ot 22)),
 oo 12 (.mov (ot 23))])
 (.seq
 (.seq
 (.reg [] [oo 24 (.mov (ot 12)),
 oo 25 (.cmp .leq (ot 24) (.cst (.d (.int .i64 12))))])
 (.cond (ot 25)
 (.seq
 (.reg [] [oo 26 (.mov (ot 0)),
 oo 27 (.mov (ot 1)),
 oo 28 (.mov (ot 2)),
 oo 29 (.mov (ot 4)),
 oo 30 (.calli 201 [(ot 26),(ot 27),(ot 28),(ot 29)])])
 .ret)
 .skip))
 (.seq
 (.seq
 (.reg [] [oo 31 (.mov (ot 3)),
 oo 32 (.cmp .eql (ot 31) (.cst (.d (.int .i64 0))))])
 (.cond (ot 32)
 (.seq
 (.reg [] [oo 33 (.mov (ot 0)),
 oo 34 (.mov (ot 1)),
 oo 35 (.mov (ot 2)),
 oo 36 (.mov (ot 4)),
 oo 37 (.calli 202 [(ot 33),(ot 34),(ot 35),(ot 36)])])
 .ret)
 .skip))
 (.seq
 (.seq
 (.reg [] [oo 38 (.mov (ot 10)),
 oo 39 (.not (ot 38))])
 (.cond (ot 39)
 (.seq
 (.reg [] [oo 40 (.mov (ot 0)),
 oo 41 (.mov (ot 1)),
 oo 42 (.mov (ot 2)),
 oo 43 (.mov (ot 4)),
 oo 44 (.calli 203 [(ot 40),(ot 41),(ot 42),(ot 43)])])
 (.reg [] [oo 45 (.mov (ot 3)),
 oo 46 (.arith .sub .i64 (ot 45) (.cst (.d (.int .i64 1)))),
 oo 3 (.mov (ot 46))]))
 .skip))
 (.seq
 (.reg [] [oo 48 (.mov (ot 0)),
 oo 49 (.mov (ot 1)),
 oo 50 (.mov (ot 2)),
 oo 51 (.mov (ot 4)),
 oo 52 (.calli 204 [(ot 48),(ot 49),(ot 50),(ot 51)]),
 oo 47 (.mov (ot 52)),
 oo 53 (.ext 0 (ot 47)),
 oo 54 (.ext 1 (ot 47)),
 oo 13 (.mov (ot 53)),
 oo 14 (.mov (ot 54))])
 (.seq
 (.seq
 (.reg [] [oo 55 (.mov (ot 14)),
 oo 56 (.cmp .eql (ot 55) (.cst (.d (.int .i64 2))))])
 (.cond (ot 56)
 (.seq
 (.reg [] [oo 57 (.mov (ot 0)),
 oo 58 (.mov (ot 1)),
 oo 59 (.mov (ot 2)),
 oo 60 (.mov (ot 4)),
 oo 61 (.calli 205 [(ot 57),(ot 58),(ot 59),(ot 60)])])
 (.seq
 (.reg [] [oo 62 (.mov (ot 2)),
 oo 63 (.arith .sub .i64 (ot 62) (.cst (.d (.int .i64 1)))),
 oo 64 (.mov (ot 13)),
 oo 65 (.mov (ot 1)),
 oo 66 (.arith .sub .i64 (ot 64) (ot 65)),
 oo 67 (.arith .sub .i64 (ot 63) (ot 66)),
 oo 13 (.mov (ot 67))])
 (.reg [] [oo 14 (.mov (.cst (.d (.int .i64 1))))])))
 .skip))
 (.seq
 (.seq
 (.reg [] [oo 68 (.mov (ot 10)),
 oo 69 (.mov (ot 68)),
 ⟨some 70,.mov (ot 11),some (69,true)⟩,
 oo 71 (.pick (ot 69) (ot 70) (.cst (.d (.bool false)))),
 oo 72 (.mov (ot 71)),
 ⟨some 73,.mov (ot 14),some (72,true)⟩,
 ⟨some 74,.cmp .eql (ot 73) (.cst (.d (.int .i64 1))),some (72,true)⟩,
 oo 75 (.pick (ot 72) (ot 74) (.cst (.d (.bool false))))])
 (.cond (ot 75)
 (.seq
 (.reg [] [oo 76 (.mov (ot 0)),
 oo 77 (.mov (ot 1)),
 oo 78 (.mov (ot 2)),
 oo 79 (.mov (ot 4)),
 oo 80 (.calli 206 [(ot 76),(ot 77),(ot 78),(ot 79)])])
 (.cond (ot 80)
 .ret
 .skip))
 .skip))
 (.seq
 (.seq
 (.regd [] [oo 81 (.mov (ot 1)),
 oo 82 (.cmp .gtr (ot 81) (.cst (.d (.int .i64 0)))),
 oo 83 (.mov (ot 82)),
 ⟨some 84,.mov (ot 4),some (83,true)⟩,
 ⟨some 85,.mov (ot 0),some (83,true)⟩,
 ⟨some 86,.mov (ot 1),some (83,true)⟩,
 ⟨some 87,.arith .sub .i64 (ot 86) (.cst (.d (.int .i64 1))),some (83,true)⟩,
 ⟨some 88,.ixa 4 (ot 85) (ot 87),some (83,true)⟩,
 ⟨some 89,.ld true 4 (ot 88),some (83,true)⟩,
 ⟨some 90,.mov (ot 0),some (83,true)⟩,
 ⟨some 91,.mov (ot 13),some (83,true)⟩,
 ⟨some 92,.ixa 4 (ot 90) (ot 91),some (83,true)⟩,
 ⟨some 93,.ld true 4 (ot 92),some (83,true)⟩,
 ⟨some 94,.callv (ot 84) [(ot 89),(ot 93)],some (83,true)⟩,
 ⟨some 95,.cmp .lss (ot 94) (.cst (.d (.int .i64 0))),some (83,true)⟩,
 ⟨some 96,.not (ot 95),some (83,true)⟩,
 oo 97 (.pick (ot 83) (ot 96) (.cst (.d (.bool false))))] [(3,4),(3,5),(4,5),(3,6),(4,6),(3,7),(3,8),(3,9),(4,9),(5,9),(6,9),(7,9),(8,9),(3,10),(4,10),(5,10),(6,10),(7,10),(8,10),(9,10),(3,11),(4,11),(5,11),(6,11),(7,11),(8,11),(3,12),(4,12),(5,12),(6,12),(7,12),(8,12)])
 (.cond (ot 97)
 (.seq
 (.reg [] [oo 98 (.mov (ot 0)),
 oo 99 (.mov (ot 1)),
 oo 100 (.mov (ot 2)),
 oo 101 (.mov (ot 13)),
 oo 102 (.mov (ot 4)),
 oo 103 (.calli 207 [(ot 98),(ot 99),(ot 100),(ot 101),(ot 102)]),
 oo 15 (.mov (ot 103))])
 (.seq
 (.reg [] [oo 104 (.mov (ot 15)),
 oo 1 (.mov (ot 104))])
 (.exit 1)))
 .skip))
 (.seq
 (.reg [] [oo 106 (.mov (ot 0)),
 oo 107 (.mov (ot 1)),
 oo 108 (.mov (ot 2)),
 oo 109 (.mov (ot 13)),
 oo 110 (.mov (ot 4)),
 oo 111 (.calli 208 [(ot 106),(ot 107),(ot 108),(ot 109),(ot 110)]),
 oo 105 (.mov (ot 111)),
 oo 112 (.ext 0 (ot 105)),
 oo 113 (.ext 1 (ot 105)),
 oo 16 (.mov (ot 112)),
 oo 17 (.mov (ot 113))])
 (.seq
 (.reg [] [oo 114 (.mov (ot 17)),
 oo 11 (.mov (ot 114))])
 (.seq
 (.reg [] [oo 115 (.mov (ot 16)),
 oo 116 (.mov (ot 1)),
 oo 117 (.arith .sub .i64 (ot 115) (ot 116)),
 oo 118 (.mov (ot 2)),
 oo 119 (.mov (ot 16)),
 oo 120 (.arith .sub .i64 (ot 118) (ot 119)),
 oo 18 (.mov (ot 117)),
 oo 19 (.mov (ot 120))])
 (.seq
 (.reg [] [oo 121 (.mov (ot 12)),
 oo 122 (.arith .quo .i64 (ot 121) (.cst (.d (.int .i64 8)))),
 oo 20 (.mov (ot 122))])
 (.seq
 (.reg [] [oo 123 (.mov (ot 18)),
 oo 124 (.mov (ot 19)),
 oo 125 (.cmp .lss (ot 123) (ot 124))])
 (.cond (ot 125)
 (.seq
 (.reg [] [oo 126 (.mov (ot 18)),
 oo 127 (.mov (ot 20)),
 oo 128 (.cmp .geq (ot 126) (ot 127)),
 oo 10 (.mov (ot 128))])
 (.seq
 (.reg [] [oo 129 (.mov (ot 0)),
 oo 130 (.mov (ot 1)),
 oo 131 (.mov (ot 16)),
 oo 132 (.mov (ot 3)),
 oo 133 (.mov (ot 4)),
 oo 134 (.calli 180 [(ot 129),(ot 130),(ot 131),(ot 132),(ot 133)])])
 (.reg [] [oo 135 (.mov (ot 16)),
 oo 136 (.arith .add .i64 (ot 135) (.cst (.d (.int .i64 1)))),
 oo 1 (.mov (ot 136))])))
 (.seq
 (.reg [] [oo 137 (.mov (ot 19)),
 oo 138 (.mov (ot 20)),
 oo 139 (.cmp .geq (ot 137) (ot 138)),
 oo 10 (.mov (ot 139))])
 (.seq
 (.reg [] [oo 140 (.mov (ot 0)),
 oo 141 (.mov (ot 16)),
 oo 142 (.arith .add .i64 (ot 141) (.cst (.d (.int .i64 1)))),
 oo 143 (.mov (ot 2)),
 oo 144 (.mov (ot 3)),
 oo 145 (.mov (ot 4)),
 oo 146 (.calli 180 [(ot 140),(ot 142),(ot 143),(ot 144),(ot 145)])])
 (.reg [] [oo 147 (.mov (ot 16)),
 oo 2 (.mov (ot 147))])))))))))))))))))))))))))⟩
def tx181:AFun:={ jr181 with heap:=40 }
def tx182:AFun:={ jr182 with heap:=40 }
def tx186:AFun:=⟨5,40,[.tmp 2],
 (.seq
 (.reg [] [oo 2 (.mov (.cst (.d (.str []))))])
 (.seq
 (.reg [] [oo 3 (.mov (ot 0)),
 oo 4 (.call 212 [(ot 3),(.cst (.d (.int .i64 10)))]),
 oo 2 (.mov (ot 4))])
 .ret))⟩
def tx187:AFun:={ jr187 with heap:=41 }
def tx188:AFun:=⟨49,40,[],
 (.seq
 (.reg [] [oo 8 (.mov (ot 1)),
 oo 9 (.arith .add .i64 (ot 8) (.cst (.d (.int .i64 1)))),
 oo 6 (.mov (ot 9))])
 (.post [] []
 (.block 0
 (.keep [0,1,2,6] []
 (.loop
 (.post [0,1,2,6] []
 (.seq
 (.seq
 (.reg [] [oo 10 (.mov (ot 6)),
 oo 11 (.mov (ot 2)),
 oo 12 (.cmp .lss (ot 10) (ot 11))])
 (.cond (ot 12)
 .skip
 (.exit 0)))
 (.seq
 (.block 1
 (.seq
 (.reg [] [oo 15 (.mov (ot 6)),
 oo 7 (.mov (ot 15))])
 (.post [0,1,2,6] []
 (.block 2
 (.keep [0,1,2,6,7] []
 (.loop
 (.post [0,1,2,6,7] []
 (.seq
 (.seq
 (.regd [] [oo 16 (.mov (ot 7)),
 oo 17 (.mov (ot 1)),
 oo 18 (.cmp .gtr (ot 16) (ot 17)),
 oo 19 (.mov (ot 18)),
 ⟨some 20,.mov (ot 0),some (19,true)⟩,
 ⟨some 21,.mov (ot 7),some (19,true)⟩,
 ⟨some 22,.ixa 1 (ot 20) (ot 21),some (19,true)⟩,
 ⟨some 23,.ld false 1 (ot 22),some (19,true)⟩,
 ⟨some 24,.mov (ot 0),some (19,true)⟩,
 ⟨some 25,.mov (ot 7),some (19,true)⟩,
 ⟨some 26,.arith .sub .i64 (ot 25) (.cst (.d (.int .i64 1))),some (19,true)⟩,
 ⟨some 27,.ixa 1 (ot 24) (ot 26),some (19,true)⟩,
 ⟨some 28,.ld false 1 (ot 27),some (19,true)⟩,
 ⟨some 29,.call 194 [(ot 23),(ot 28)],some (19,true)⟩,
 oo 30 (.pick (ot 19) (ot 29) (.cst (.d (.bool false))))] [(0,1),(4,5),(4,8),(5,8),(6,8),(7,8),(4,9),(5,9),(6,9),(7,9),(8,9),(4,10),(5,10),(6,10),(7,10),(8,10),(4,11),(5,11),(6,11),(7,11),(4,12),(5,12),(6,12),(7,12)])
 (.cond (ot 30)
 .skip
 (.exit 2)))
 (.seq
 (.block 3
 (.regd [] [oo 33 (.mov (ot 0)),
 oo 34 (.mov (ot 7)),
 oo 35 (.mov (ot 0)),
 oo 36 (.mov (ot 7)),
 oo 37 (.arith .sub .i64 (ot 36) (.cst (.d (.int .i64 1)))),
 oo 38 (.mov (ot 0)),
 oo 39 (.mov (ot 7)),
 oo 40 (.arith .sub .i64 (ot 39) (.cst (.d (.int .i64 1)))),
 oo 41 (.ixa 1 (ot 38) (ot 40)),
 oo 42 (.ld false 1 (ot 41)),
 oo 43 (.mov (ot 0)),
 oo 44 (.mov (ot 7)),
 oo 45 (.ixa 1 (ot 43) (ot 44)),
 oo 46 (.ld false 1 (ot 45)),
 oo 47 (.ixa 1 (ot 33) (ot 34)),
 ⟨none,.st 1 (ot 47) (ot 42),none⟩,
 oo 48 (.ixa 1 (ot 35) (ot 37)),
 ⟨none,.st 1 (ot 48) (ot 46),none⟩] [(0,1),(0,2),(1,2),(0,3),(1,3),(2,3),(0,4),(1,4),(2,4),(0,5),(1,5),(2,5),(3,5),(4,5),(0,6),(1,6),(2,6),(3,6),(4,6),(5,6),(0,7),(1,7),(2,7),(3,7),(4,7),(5,7),(0,8),(1,8),(2,8),(3,8),(4,8),(0,9),(1,9),(2,9),(3,9),(4,9),(0,10),(1,10),(2,10),(3,10),(4,10),(5,10),(6,10),(7,10),(8,10),(9,10),(0,11),(1,11),(2,11),(3,11),(4,11),(5,11),(6,11),(7,11),(8,11),(9,11),(10,11),(0,12),(1,12),(2,12),(3,12),(4,12),(5,12),(6,12),(7,12),(8,12),(9,12),(0,13),(1,13),(2,13),(3,13),(4,13),(5,13),(6,13),(7,13),(8,13),(9,13),(2,14),(3,14),(4,14),(2,15),(3,15),(4,15)]))
 (.reg [] [oo 31 (.mov (ot 7)),
 oo 32 (.arith .sub .i64 (ot 31) (.cst (.d (.int .i64 1)))),
 oo 7 (.mov (ot 32))]))))))))))
 (.reg [] [oo 13 (.mov (ot 6)),
 oo 14 (.arith .add .i64 (ot 13) (.cst (.d (.int .i64 1)))),
 oo 6 (.mov (ot 14))])))))))))⟩
def tx189:AFun:=⟨56,40,[],
 (.seq
 (.reg [] [oo 11 (.mov (ot 1)),
 oo 6 (.mov (ot 11))])
 (.seq
 (.reg [] [oo 7 (.mov (.cst (.d (.int .i64 0))))])
 (.seq
 (.reg [] [oo 12 (.mov (ot 2)),
 oo 13 (.mov (ot 1)),
 oo 14 (.arith .sub .i64 (ot 12) (ot 13)),
 oo 8 (.mov (ot 14))])
 (.seq
 (.seq
 (.reg [] [oo 15 (.mov (ot 8)),
 oo 16 (.arith .sub .i64 (ot 15) (.cst (.d (.int .i64 1)))),
 oo 17 (.arith .quo .i64 (ot 16) (.cst (.d (.int .i64 2)))),
 oo 9 (.mov (ot 17))])
 (.post [0,6,7,8] []
 (.block 0
 (.keep [0,6,7,8,9] []
 (.loop
 (.post [0,6,7,8,9] []
 (.seq
 (.seq
 (.reg [] [oo 18 (.mov (ot 9)),
 oo 19 (.cmp .geq (ot 18) (.cst (.d (.int .i64 0))))])
 (.cond (ot 19)
 .skip
 (.exit 0)))
 (.seq
 (.block 1
 (.reg [] [oo 22 (.mov (ot 0)),
 oo 23 (.mov (ot 9)),
 oo 24 (.mov (ot 8)),
 oo 25 (.mov (ot 6)),
 oo 26 (.calli 213 [(ot 22),(ot 23),(ot 24),(ot 25)])]))
 (.reg [] [oo 20 (.mov (ot 9)),
 oo 21 (.arith .sub .i64 (ot 20) (.cst (.d (.int .i64 1)))),
 oo 9 (.mov (ot 21))])))))))))
 (.seq
 (.reg [] [oo 27 (.mov (ot 8)),
 oo 28 (.arith .sub .i64 (ot 27) (.cst (.d (.int .i64 1)))),
 oo 10 (.mov (ot 28))])
 (.post [] []
 (.block 2
 (.keep [0,6,7,10] []
 (.loop
 (.post [0,6,7,10] []
 (.seq
 (.seq
 (.reg [] [oo 29 (.mov (ot 10)),
 oo 30 (.cmp .geq (ot 29) (.cst (.d (.int .i64 0))))])
 (.cond (ot 30)
 .skip
 (.exit 2)))
 (.seq
 (.block 3
 (.seq
 (.regd [] [oo 33 (.mov (ot 0)),
 oo 34 (.mov (ot 6)),
 oo 35 (.mov (ot 0)),
 oo 36 (.mov (ot 6)),
 oo 37 (.mov (ot 10)),
 oo 38 (.arith .add .i64 (ot 36) (ot 37)),
 oo 39 (.mov (ot 0)),
 oo 40 (.mov (ot 6)),
 oo 41 (.mov (ot 10)),
 oo 42 (.arith .add .i64 (ot 40) (ot 41)),
 oo 43 (.ixa 1 (ot 39) (ot 42)),
 oo 44 (.ld false 1 (ot 43)),
 oo 45 (.mov (ot 0)),
 oo 46 (.mov (ot 6)),
 oo 47 (.ixa 1 (ot 45) (ot 46)),
 oo 48 (.ld false 1 (ot 47)),
 oo 49 (.ixa 1 (ot 33) (ot 34)),
 ⟨none,.st 1 (ot 49) (ot 44),none⟩,
 oo 50 (.ixa 1 (ot 35) (ot 38)),
 ⟨none,.st 1 (ot 50) (ot 48),none⟩] [(0,1),(0,2),(1,2),(0,3),(1,3),(2,3),(0,4),(1,4),(2,4),(3,4),(0,5),(1,5),(2,5),(0,6),(1,6),(2,6),(3,6),(4,6),(5,6),(0,7),(1,7),(2,7),(3,7),(4,7),(5,7),(6,7),(0,8),(1,8),(2,8),(3,8),(4,8),(5,8),(6,8),(7,8),(0,9),(1,9),(2,9),(3,9),(4,9),(5,9),(6,9),(0,10),(1,10),(2,10),(3,10),(4,10),(5,10),(0,11),(1,11),(2,11),(3,11),(4,11),(5,11),(0,12),(1,12),(2,12),(3,12),(4,12),(5,12),(6,12),(7,12),(8,12),(9,12),(10,12),(11,12),(0,13),(1,13),(2,13),(3,13),(4,13),(5,13),(6,13),(7,13),(8,13),(9,13),(10,13),(11,13),(12,13),(0,14),(1,14),(2,14),(3,14),(4,14),(5,14),(6,14),(7,14),(8,14),(9,14),(10,14),(11,14),(0,15),(1,15),(2,15),(3,15),(4,15),(5,15),(6,15),(7,15),(8,15),(9,15),(10,15),(11,15),(2,16),(3,16),(4,16),(5,16),(2,17),(3,17),(4,17),(5,17)])
 (.reg [] [oo 51 (.mov (ot 0)),
 oo 52 (.mov (ot 7)),
 oo 53 (.mov (ot 10)),
 oo 54 (.mov (ot 6)),
 oo 55 (.calli 213 [(ot 51),(ot 52),(ot 53),(ot 54)])])))
 (.reg [] [oo 31 (.mov (ot 10)),
 oo 32 (.arith .sub .i64 (ot 31) (.cst (.d (.int .i64 1)))),
 oo 10 (.mov (ot 32))])))))))))))))⟩
def tx190:AFun:=⟨65,41,[],
 (.seq
 (.reg [] [oo 11 (.mov (ot 2)),
 oo 12 (.mov (ot 1)),
 oo 13 (.arith .sub .i64 (ot 11) (ot 12)),
 oo 6 (.mov (ot 13))])
 (.seq
 (.reg [] [oo 14 (.mov (ot 6)),
 oo 15 (.cmp .geq (ot 14) (.cst (.d (.int .i64 8))))])
 (.cond (ot 15)
 (.seq
 (.reg [0] [oo 16 (.mov (ot 6)),
 oo 17 (.conv .u64 (ot 16)),
 oo 7 (.alloc 0 [(.d (.int .u64 0))]),
 ⟨none,.st 1 (ot 7) (ot 17),none⟩])
 (.seq
 (.reg [] [oo 18 (.mov (ot 6)),
 oo 19 (.call 214 [(ot 18)]),
 oo 8 (.mov (ot 19))])
 (.seq
 (.reg [] [oo 20 (.mov (ot 1)),
 oo 21 (.mov (ot 6)),
 oo 22 (.arith .quo .i64 (ot 21) (.cst (.d (.int .i64 4)))),
 oo 23 (.arith .mul .i64 (ot 22) (.cst (.d (.int .i64 2)))),
 oo 24 (.arith .add .i64 (ot 20) (ot 23)),
 oo 25 (.arith .sub .i64 (ot 24) (.cst (.d (.int .i64 1)))),
 oo 9 (.mov (ot 25))])
 (.post [] [0]
 (.block 0
 (.keep [0,1,6,7,8,9] [0]
 (.loop
 (.post [0,1,6,7,8,9] []
 (.seq
 (.seq
 (.reg [] [oo 26 (.mov (ot 9)),
 oo 27 (.mov (ot 1)),
 oo 28 (.mov (ot 6)),
 oo 29 (.arith .quo .i64 (ot 28) (.cst (.d (.int .i64 4)))),
 oo 30 (.arith .mul .i64 (ot 29) (.cst (.d (.int .i64 2)))),
 oo 31 (.arith .add .i64 (ot 27) (ot 30)),
 oo 32 (.arith .add .i64 (ot 31) (.cst (.d (.int .i64 1)))),
 oo 33 (.cmp .leq (ot 26) (ot 32))])
 (.cond (ot 33)
 .skip
 (.exit 0)))
 (.seq
 (.block 1
 (.seq
 (.reg [] [oo 36 (.call 215 [(ot 7)]),
 oo 37 (.mov (ot 8)),
 oo 38 (.arith .sub .u64 (ot 37) (.cst (.d (.int .u64 1)))),
 oo 39 (.bit .and .u64 (ot 36) (ot 38)),
 oo 40 (.conv .i64 (ot 39)),
 oo 10 (.mov (ot 40))])
 (.seq
 (.seq
 (.reg [] [oo 41 (.mov (ot 10)),
 oo 42 (.mov (ot 6)),
 oo 43 (.cmp .geq (ot 41) (ot 42))])
 (.cond (ot 43)
 (.reg [] [oo 44 (.mov (ot 10)),
 oo 45 (.mov (ot 6)),
 oo 46 (.arith .sub .i64 (ot 44) (ot 45)),
 oo 10 (.mov (ot 46))])
 .skip))
 (.regd [] [oo 47 (.mov (ot 0)),
 oo 48 (.mov (ot 9)),
 oo 49 (.mov (ot 0)),
 oo 50 (.mov (ot 1)),
 oo 51 (.mov (ot 10)),
 oo 52 (.arith .add .i64 (ot 50) (ot 51)),
 oo 53 (.mov (ot 0)),
 oo 54 (.mov (ot 1)),
 oo 55 (.mov (ot 10)),
 oo 56 (.arith .add .i64 (ot 54) (ot 55)),
 oo 57 (.ixa 1 (ot 53) (ot 56)),
 oo 58 (.ld false 1 (ot 57)),
 oo 59 (.mov (ot 0)),
 oo 60 (.mov (ot 9)),
 oo 61 (.ixa 1 (ot 59) (ot 60)),
 oo 62 (.ld false 1 (ot 61)),
 oo 63 (.ixa 1 (ot 47) (ot 48)),
 ⟨none,.st 1 (ot 63) (ot 58),none⟩,
 oo 64 (.ixa 1 (ot 49) (ot 52)),
 ⟨none,.st 1 (ot 64) (ot 62),none⟩] [(0,1),(0,2),(1,2),(0,3),(1,3),(2,3),(0,4),(1,4),(2,4),(3,4),(0,5),(1,5),(2,5),(0,6),(1,6),(2,6),(3,6),(4,6),(5,6),(0,7),(1,7),(2,7),(3,7),(4,7),(5,7),(6,7),(0,8),(1,8),(2,8),(3,8),(4,8),(5,8),(6,8),(7,8),(0,9),(1,9),(2,9),(3,9),(4,9),(5,9),(6,9),(0,10),(1,10),(2,10),(3,10),(4,10),(5,10),(0,11),(1,11),(2,11),(3,11),(4,11),(5,11),(0,12),(1,12),(2,12),(3,12),(4,12),(5,12),(6,12),(7,12),(8,12),(9,12),(10,12),(11,12),(0,13),(1,13),(2,13),(3,13),(4,13),(5,13),(6,13),(7,13),(8,13),(9,13),(10,13),(11,13),(12,13),(0,14),(1,14),(2,14),(3,14),(4,14),(5,14),(6,14),(7,14),(8,14),(9,14),(10,14),(11,14),(0,15),(1,15),(2,15),(3,15),(4,15),(5,15),(6,15),(7,15),(8,15),(9,15),(10,15),(11,15),(2,16),(3,16),(4,16),(5,16),(2,17),(3,17),(4,17),(5,17)]))))
 (.reg [] [oo 34 (.mov (ot 9)),
 oo 35 (.arith .add .i64 (ot 34) (.cst (.d (.int .i64 1)))),
 oo 9 (.mov (ot 35))])))))))))))
 .skip)))⟩
def tx191:AFun:=⟨57,41,[.tmp 6,.tmp 7],
 (.seq
 (.reg [] [oo 6 (.mov (.cst (.d (.int .i64 0)))),
 oo 7 (.mov (.cst (.d (.int .i64 0))))])
 (.seq
 (.reg [] [oo 13 (.mov (ot 2)),
 oo 14 (.mov (ot 1)),
 oo 15 (.arith .sub .i64 (ot 13) (ot 14)),
 oo 8 (.mov (ot 15))])
 (.seq
 (.reg [0] [oo 9 (.alloc 0 [(.d (.int .i64 0))])])
 (.seq
 (.reg [] [oo 16 (.mov (ot 1)),
 oo 17 (.mov (ot 8)),
 oo 18 (.arith .quo .i64 (ot 17) (.cst (.d (.int .i64 4)))),
 oo 19 (.arith .mul .i64 (ot 18) (.cst (.d (.int .i64 1)))),
 oo 20 (.arith .add .i64 (ot 16) (ot 19)),
 oo 10 (.mov (ot 20))])
 (.seq
 (.reg [] [oo 21 (.mov (ot 1)),
 oo 22 (.mov (ot 8)),
 oo 23 (.arith .quo .i64 (ot 22) (.cst (.d (.int .i64 4)))),
 oo 24 (.arith .mul .i64 (ot 23) (.cst (.d (.int .i64 2)))),
 oo 25 (.arith .add .i64 (ot 21) (ot 24)),
 oo 11 (.mov (ot 25))])
 (.seq
 (.reg [] [oo 26 (.mov (ot 1)),
 oo 27 (.mov (ot 8)),
 oo 28 (.arith .quo .i64 (ot 27) (.cst (.d (.int .i64 4)))),
 oo 29 (.arith .mul .i64 (ot 28) (.cst (.d (.int .i64 3)))),
 oo 30 (.arith .add .i64 (ot 26) (ot 29)),
 oo 12 (.mov (ot 30))])
 (.seq
 (.seq
 (.reg [] [oo 31 (.mov (ot 8)),
 oo 32 (.cmp .geq (ot 31) (.cst (.d (.int .i64 8))))])
 (.cond (ot 32)
 (.seq
 (.seq
 (.reg [] [oo 33 (.mov (ot 8)),
 oo 34 (.cmp .geq (ot 33) (.cst (.d (.int .i64 50))))])
 (.cond (ot 34)
 (.seq
 (.reg [] [oo 35 (.mov (ot 0)),
 oo 36 (.mov (ot 10)),
 oo 37 (.calli 216 [(ot 35),(ot 36),(ot 9)]),
 oo 10 (.mov (ot 37))])
 (.seq
 (.reg [] [oo 38 (.mov (ot 0)),
 oo 39 (.mov (ot 11)),
 oo 40 (.calli 216 [(ot 38),(ot 39),(ot 9)]),
 oo 11 (.mov (ot 40))])
 (.reg [] [oo 41 (.mov (ot 0)),
 oo 42 (.mov (ot 12)),
 oo 43 (.calli 216 [(ot 41),(ot 42),(ot 9)]),
 oo 12 (.mov (ot 43))])))
 .skip))
 (.reg [] [oo 44 (.mov (ot 0)),
 oo 45 (.mov (ot 10)),
 oo 46 (.mov (ot 11)),
 oo 47 (.mov (ot 12)),
 oo 48 (.calli 217 [(ot 44),(ot 45),(ot 46),(ot 47),(ot 9)]),
 oo 11 (.mov (ot 48))]))
 .skip))
 (.seq
 (.reg [] [oo 49 (.ld false 1 (ot 9))])
 (.block 0
 (.seq
 (.reg [] [oo 52 (.cmp .eql (ot 49) (.cst (.d (.int .i64 0)))),
 oo 51 (.mov (ot 52))])
 (.cond (ot 51)
 (.seq
 (.reg [] [oo 53 (.mov (ot 11)),
 oo 6 (.mov (ot 53)),
 oo 7 (.mov (.cst (.d (.int .i64 1))))])
 .ret)
 (.seq
 (.reg [] [oo 55 (.cmp .eql (ot 49) (.cst (.d (.int .i64 12)))),
 oo 54 (.mov (ot 55))])
 (.cond (ot 54)
 (.seq
 (.reg [] [oo 56 (.mov (ot 11)),
 oo 6 (.mov (ot 56)),
 oo 7 (.mov (.cst (.d (.int .i64 2))))])
 .ret)
 (.seq
 (.reg [] [oo 50 (.mov (ot 11)),
 oo 6 (.mov (ot 50)),
 oo 7 (.mov (.cst (.d (.int .i64 0))))])
 .ret))))))))))))))⟩
def tx192:AFun:=⟨32,40,[],
 (.seq
 (.reg [] [oo 8 (.mov (ot 1)),
 oo 6 (.mov (ot 8))])
 (.seq
 (.reg [] [oo 9 (.mov (ot 2)),
 oo 10 (.arith .sub .i64 (ot 9) (.cst (.d (.int .i64 1)))),
 oo 7 (.mov (ot 10))])
 (.post [] []
 (.block 0
 (.keep [0,6,7] []
 (.loop
 (.post [0,6,7] []
 (.seq
 (.seq
 (.reg [] [oo 11 (.mov (ot 6)),
 oo 12 (.mov (ot 7)),
 oo 13 (.cmp .lss (ot 11) (ot 12))])
 (.cond (ot 13)
 .skip
 (.exit 0)))
 (.block 1
 (.seq
 (.regd [] [oo 14 (.mov (ot 0)),
 oo 15 (.mov (ot 6)),
 oo 16 (.mov (ot 0)),
 oo 17 (.mov (ot 7)),
 oo 18 (.mov (ot 0)),
 oo 19 (.mov (ot 7)),
 oo 20 (.ixa 1 (ot 18) (ot 19)),
 oo 21 (.ld false 1 (ot 20)),
 oo 22 (.mov (ot 0)),
 oo 23 (.mov (ot 6)),
 oo 24 (.ixa 1 (ot 22) (ot 23)),
 oo 25 (.ld false 1 (ot 24)),
 oo 26 (.ixa 1 (ot 14) (ot 15)),
 ⟨none,.st 1 (ot 26) (ot 21),none⟩,
 oo 27 (.ixa 1 (ot 16) (ot 17)),
 ⟨none,.st 1 (ot 27) (ot 25),none⟩] [(0,1),(0,2),(1,2),(0,3),(1,3),(2,3),(0,4),(1,4),(2,4),(3,4),(0,5),(1,5),(2,5),(3,5),(4,5),(0,6),(1,6),(2,6),(3,6),(0,7),(1,7),(2,7),(3,7),(0,8),(1,8),(2,8),(3,8),(4,8),(5,8),(6,8),(7,8),(0,9),(1,9),(2,9),(3,9),(4,9),(5,9),(6,9),(7,9),(8,9),(0,10),(1,10),(2,10),(3,10),(4,10),(5,10),(6,10),(7,10),(0,11),(1,11),(2,11),(3,11),(4,11),(5,11),(6,11),(7,11),(2,12),(3,12),(2,13),(3,13)])
 (.seq
 (.reg [] [oo 28 (.mov (ot 6)),
 oo 29 (.arith .add .i64 (ot 28) (.cst (.d (.int .i64 1)))),
 oo 6 (.mov (ot 29))])
 (.reg [] [oo 30 (.mov (ot 7)),
 oo 31 (.arith .sub .i64 (ot 30) (.cst (.d (.int .i64 1)))),
 oo 7 (.mov (ot 31))]))))))))))))⟩
def tx193:AFun:=⟨133,40,[.tmp 6],
 (.seq
 (.reg [] [oo 6 (.mov (.cst (.d (.bool false))))])
 (.seq
 (.reg [] [oo 11 (.mov (ot 1)),
 oo 12 (.arith .add .i64 (ot 11) (.cst (.d (.int .i64 1)))),
 oo 7 (.mov (ot 12))])
 (.seq
 (.seq
 (.reg [] [oo 8 (.mov (.cst (.d (.int .i64 0))))])
 (.post [] []
 (.block 0
 (.keep [0,1,2,7,8] []
 (.loop
 (.post [0,1,2,7,8] []
 (.seq
 (.seq
 (.reg [] [oo 13 (.mov (ot 8)),
 oo 14 (.cmp .lss (ot 13) (.cst (.d (.int .i64 5))))])
 (.cond (ot 14)
 .skip
 (.exit 0)))
 (.seq
 (.block 1
 (.seq
 (.post [0,1,2,7,8] []
 (.block 2
 (.keep [0,1,2,7,8] []
 (.loop
 (.post [0,1,2,7,8] []
 (.seq
 (.seq
 (.regd [] [oo 17 (.mov (ot 7)),
 oo 18 (.mov (ot 2)),
 oo 19 (.cmp .lss (ot 17) (ot 18)),
 oo 20 (.mov (ot 19)),
 ⟨some 21,.mov (ot 0),some (20,true)⟩,
 ⟨some 22,.mov (ot 7),some (20,true)⟩,
 ⟨some 23,.ixa 1 (ot 21) (ot 22),some (20,true)⟩,
 ⟨some 24,.ld false 1 (ot 23),some (20,true)⟩,
 ⟨some 25,.mov (ot 0),some (20,true)⟩,
 ⟨some 26,.mov (ot 7),some (20,true)⟩,
 ⟨some 27,.arith .sub .i64 (ot 26) (.cst (.d (.int .i64 1))),some (20,true)⟩,
 ⟨some 28,.ixa 1 (ot 25) (ot 27),some (20,true)⟩,
 ⟨some 29,.ld false 1 (ot 28),some (20,true)⟩,
 ⟨some 30,.call 194 [(ot 24),(ot 29)],some (20,true)⟩,
 ⟨some 31,.not (ot 30),some (20,true)⟩,
 oo 32 (.pick (ot 20) (ot 31) (.cst (.d (.bool false))))] [(0,1),(4,5),(4,8),(5,8),(6,8),(7,8),(4,9),(5,9),(6,9),(7,9),(8,9),(4,10),(5,10),(6,10),(7,10),(8,10),(4,11),(5,11),(6,11),(7,11),(4,12),(5,12),(6,12),(7,12)])
 (.cond (ot 32)
 .skip
 (.exit 2)))
 (.block 3
 (.reg [] [oo 33 (.mov (ot 7)),
 oo 34 (.arith .add .i64 (ot 33) (.cst (.d (.int .i64 1)))),
 oo 7 (.mov (ot 34))]))))))))
 (.seq
 (.seq
 (.reg [] [oo 35 (.mov (ot 7)),
 oo 36 (.mov (ot 2)),
 oo 37 (.cmp .eql (ot 35) (ot 36))])
 (.cond (ot 37)
 (.seq
 (.reg [] [oo 6 (.mov (.cst (.d (.bool true))))])
 .ret)
 .skip))
 (.seq
 (.seq
 (.reg [] [oo 38 (.mov (ot 2)),
 oo 39 (.mov (ot 1)),
 oo 40 (.arith .sub .i64 (ot 38) (ot 39)),
 oo 41 (.cmp .lss (ot 40) (.cst (.d (.int .i64 50))))])
 (.cond (ot 41)
 (.seq
 (.reg [] [oo 6 (.mov (.cst (.d (.bool false))))])
 .ret)
 .skip))
 (.seq
 (.regd [] [oo 42 (.mov (ot 0)),
 oo 43 (.mov (ot 7)),
 oo 44 (.mov (ot 0)),
 oo 45 (.mov (ot 7)),
 oo 46 (.arith .sub .i64 (ot 45) (.cst (.d (.int .i64 1)))),
 oo 47 (.mov (ot 0)),
 oo 48 (.mov (ot 7)),
 oo 49 (.arith .sub .i64 (ot 48) (.cst (.d (.int .i64 1)))),
 oo 50 (.ixa 1 (ot 47) (ot 49)),
 oo 51 (.ld false 1 (ot 50)),
 oo 52 (.mov (ot 0)),
 oo 53 (.mov (ot 7)),
 oo 54 (.ixa 1 (ot 52) (ot 53)),
 oo 55 (.ld false 1 (ot 54)),
 oo 56 (.ixa 1 (ot 42) (ot 43)),
 ⟨none,.st 1 (ot 56) (ot 51),none⟩,
 oo 57 (.ixa 1 (ot 44) (ot 46)),
 ⟨none,.st 1 (ot 57) (ot 55),none⟩] [(0,1),(0,2),(1,2),(0,3),(1,3),(2,3),(0,4),(1,4),(2,4),(0,5),(1,5),(2,5),(3,5),(4,5),(0,6),(1,6),(2,6),(3,6),(4,6),(5,6),(0,7),(1,7),(2,7),(3,7),(4,7),(5,7),(0,8),(1,8),(2,8),(3,8),(4,8),(0,9),(1,9),(2,9),(3,9),(4,9),(0,10),(1,10),(2,10),(3,10),(4,10),(5,10),(6,10),(7,10),(8,10),(9,10),(0,11),(1,11),(2,11),(3,11),(4,11),(5,11),(6,11),(7,11),(8,11),(9,11),(10,11),(0,12),(1,12),(2,12),(3,12),(4,12),(5,12),(6,12),(7,12),(8,12),(9,12),(0,13),(1,13),(2,13),(3,13),(4,13),(5,13),(6,13),(7,13),(8,13),(9,13),(2,14),(3,14),(4,14),(2,15),(3,15),(4,15)])
 (.seq
 (.seq
 (.reg [] [oo 58 (.mov (ot 7)),
 oo 59 (.mov (ot 1)),
 oo 60 (.arith .sub .i64 (ot 58) (ot 59)),
 oo 61 (.cmp .geq (ot 60) (.cst (.d (.int .i64 2))))])
 (.cond (ot 61)
 (.seq
 (.reg [] [oo 62 (.mov (ot 7)),
 oo 63 (.arith .sub .i64 (ot 62) (.cst (.d (.int .i64 1)))),
 oo 9 (.mov (ot 63))])
 (.post [0,1,2,7,8] []
 (.block 4
 (.keep [0,1,2,7,8,9] []
 (.loop
 (.post [0,1,2,7,8,9] []
 (.seq
 (.seq
 (.reg [] [oo 64 (.mov (ot 9)),
 oo 65 (.cmp .geq (ot 64) (.cst (.d (.int .i64 1))))])
 (.cond (ot 65)
 .skip
 (.exit 4)))
 (.seq
 (.block 5
 (.seq
 (.seq
 (.regd [] [oo 68 (.mov (ot 0)),
 oo 69 (.mov (ot 9)),
 oo 70 (.ixa 1 (ot 68) (ot 69)),
 oo 71 (.ld false 1 (ot 70)),
 oo 72 (.mov (ot 0)),
 oo 73 (.mov (ot 9)),
 oo 74 (.arith .sub .i64 (ot 73) (.cst (.d (.int .i64 1)))),
 oo 75 (.ixa 1 (ot 72) (ot 74)),
 oo 76 (.ld false 1 (ot 75)),
 oo 77 (.call 194 [(ot 71),(ot 76)]),
 oo 78 (.not (ot 77))] [(0,1),(0,4),(1,4),(2,4),(3,4),(0,5),(1,5),(2,5),(3,5),(4,5),(0,6),(1,6),(2,6),(3,6),(4,6),(0,7),(1,7),(2,7),(3,7),(0,8),(1,8),(2,8),(3,8)])
 (.cond (ot 78)
 (.exit 4)
 .skip))
 (.regd [] [oo 79 (.mov (ot 0)),
 oo 80 (.mov (ot 9)),
 oo 81 (.mov (ot 0)),
 oo 82 (.mov (ot 9)),
 oo 83 (.arith .sub .i64 (ot 82) (.cst (.d (.int .i64 1)))),
 oo 84 (.mov (ot 0)),
 oo 85 (.mov (ot 9)),
 oo 86 (.arith .sub .i64 (ot 85) (.cst (.d (.int .i64 1)))),
 oo 87 (.ixa 1 (ot 84) (ot 86)),
 oo 88 (.ld false 1 (ot 87)),
 oo 89 (.mov (ot 0)),
 oo 90 (.mov (ot 9)),
 oo 91 (.ixa 1 (ot 89) (ot 90)),
 oo 92 (.ld false 1 (ot 91)),
 oo 93 (.ixa 1 (ot 79) (ot 80)),
 ⟨none,.st 1 (ot 93) (ot 88),none⟩,
 oo 94 (.ixa 1 (ot 81) (ot 83)),
 ⟨none,.st 1 (ot 94) (ot 92),none⟩] [(0,1),(0,2),(1,2),(0,3),(1,3),(2,3),(0,4),(1,4),(2,4),(0,5),(1,5),(2,5),(3,5),(4,5),(0,6),(1,6),(2,6),(3,6),(4,6),(5,6),(0,7),(1,7),(2,7),(3,7),(4,7),(5,7),(0,8),(1,8),(2,8),(3,8),(4,8),(0,9),(1,9),(2,9),(3,9),(4,9),(0,10),(1,10),(2,10),(3,10),(4,10),(5,10),(6,10),(7,10),(8,10),(9,10),(0,11),(1,11),(2,11),(3,11),(4,11),(5,11),(6,11),(7,11),(8,11),(9,11),(10,11),(0,12),(1,12),(2,12),(3,12),(4,12),(5,12),(6,12),(7,12),(8,12),(9,12),(0,13),(1,13),(2,13),(3,13),(4,13),(5,13),(6,13),(7,13),(8,13),(9,13),(2,14),(3,14),(4,14),(2,15),(3,15),(4,15)])))
 (.reg [] [oo 66 (.mov (ot 9)),
 oo 67 (.arith .sub .i64 (ot 66) (.cst (.d (.int .i64 1)))),
 oo 9 (.mov (ot 67))])))))))))
 .skip))
 (.seq
 (.reg [] [oo 95 (.mov (ot 2)),
 oo 96 (.mov (ot 7)),
 oo 97 (.arith .sub .i64 (ot 95) (ot 96)),
 oo 98 (.cmp .geq (ot 97) (.cst (.d (.int .i64 2))))])
 (.cond (ot 98)
 (.seq
 (.reg [] [oo 99 (.mov (ot 7)),
 oo 100 (.arith .add .i64 (ot 99) (.cst (.d (.int .i64 1)))),
 oo 10 (.mov (ot 100))])
 (.post [0,1,2,7,8] []
 (.block 6
 (.keep [0,1,2,7,8,10] []
 (.loop
 (.post [0,1,2,7,8,10] []
 (.seq
 (.seq
 (.reg [] [oo 101 (.mov (ot 10)),
 oo 102 (.mov (ot 2)),
 oo 103 (.cmp .lss (ot 101) (ot 102))])
 (.cond (ot 103)
 .skip
 (.exit 6)))
 (.seq
 (.block 7
 (.seq
 (.seq
 (.regd [] [oo 106 (.mov (ot 0)),
 oo 107 (.mov (ot 10)),
 oo 108 (.ixa 1 (ot 106) (ot 107)),
 oo 109 (.ld false 1 (ot 108)),
 oo 110 (.mov (ot 0)),
 oo 111 (.mov (ot 10)),
 oo 112 (.arith .sub .i64 (ot 111) (.cst (.d (.int .i64 1)))),
 oo 113 (.ixa 1 (ot 110) (ot 112)),
 oo 114 (.ld false 1 (ot 113)),
 oo 115 (.call 194 [(ot 109),(ot 114)]),
 oo 116 (.not (ot 115))] [(0,1),(0,4),(1,4),(2,4),(3,4),(0,5),(1,5),(2,5),(3,5),(4,5),(0,6),(1,6),(2,6),(3,6),(4,6),(0,7),(1,7),(2,7),(3,7),(0,8),(1,8),(2,8),(3,8)])
 (.cond (ot 116)
 (.exit 6)
 .skip))
 (.regd [] [oo 117 (.mov (ot 0)),
 oo 118 (.mov (ot 10)),
 oo 119 (.mov (ot 0)),
 oo 120 (.mov (ot 10)),
 oo 121 (.arith .sub .i64 (ot 120) (.cst (.d (.int .i64 1)))),
 oo 122 (.mov (ot 0)),
 oo 123 (.mov (ot 10)),
 oo 124 (.arith .sub .i64 (ot 123) (.cst (.d (.int .i64 1)))),
 oo 125 (.ixa 1 (ot 122) (ot 124)),
 oo 126 (.ld false 1 (ot 125)),
 oo 127 (.mov (ot 0)),
 oo 128 (.mov (ot 10)),
 oo 129 (.ixa 1 (ot 127) (ot 128)),
 oo 130 (.ld false 1 (ot 129)),
 oo 131 (.ixa 1 (ot 117) (ot 118)),
 ⟨none,.st 1 (ot 131) (ot 126),none⟩,
 oo 132 (.ixa 1 (ot 119) (ot 121)),
 ⟨none,.st 1 (ot 132) (ot 130),none⟩] [(0,1),(0,2),(1,2),(0,3),(1,3),(2,3),(0,4),(1,4),(2,4),(0,5),(1,5),(2,5),(3,5),(4,5),(0,6),(1,6),(2,6),(3,6),(4,6),(5,6),(0,7),(1,7),(2,7),(3,7),(4,7),(5,7),(0,8),(1,8),(2,8),(3,8),(4,8),(0,9),(1,9),(2,9),(3,9),(4,9),(0,10),(1,10),(2,10),(3,10),(4,10),(5,10),(6,10),(7,10),(8,10),(9,10),(0,11),(1,11),(2,11),(3,11),(4,11),(5,11),(6,11),(7,11),(8,11),(9,11),(10,11),(0,12),(1,12),(2,12),(3,12),(4,12),(5,12),(6,12),(7,12),(8,12),(9,12),(0,13),(1,13),(2,13),(3,13),(4,13),(5,13),(6,13),(7,13),(8,13),(9,13),(2,14),(3,14),(4,14),(2,15),(3,15),(4,15)])))
 (.reg [] [oo 104 (.mov (ot 10)),
 oo 105 (.arith .add .i64 (ot 104) (.cst (.d (.int .i64 1)))),
 oo 10 (.mov (ot 105))])))))))))
 .skip))))))))
 (.reg [] [oo 15 (.mov (ot 8)),
 oo 16 (.arith .add .i64 (ot 15) (.cst (.d (.int .i64 1)))),
 oo 8 (.mov (ot 16))])))))))))
 (.seq
 (.reg [] [oo 6 (.mov (.cst (.d (.bool false))))])
 .ret))))⟩
def tx194:AFun:=⟨17,40,[.tmp 4],
 (.seq
 (.reg [] [oo 4 (.mov (.cst (.d (.bool false))))])
 (.seq
 (.reg [] [oo 5 (.mov (ot 0)),
 oo 6 (.call 209 [(ot 5)]),
 oo 7 (.mov (ot 6)),
 ⟨some 8,.mov (ot 1),some (7,true)⟩,
 ⟨some 9,.call 209 [(ot 8)],some (7,true)⟩,
 ⟨some 10,.not (ot 9),some (7,true)⟩,
 oo 11 (.pick (ot 7) (ot 10) (.cst (.d (.bool false)))),
 oo 12 (.mov (ot 11)),
 ⟨some 13,.mov (ot 0),some (12,false)⟩,
 ⟨some 14,.mov (ot 1),some (12,false)⟩,
 ⟨some 15,.cmp .lss (ot 13) (ot 14),some (12,false)⟩,
 oo 16 (.pick (ot 12) (.cst (.d (.bool true))) (ot 15)),
 oo 4 (.mov (ot 16))])
 .ret))⟩
def tx195:AFun:=⟨84,40,[.tmp 8],
 (.seq
 (.reg [] [oo 8 (.mov (.cst (.d (.int .i64 0))))])
 (.seq
 (.regd [] [oo 11 (.mov (ot 0)),
 oo 12 (.mov (ot 1)),
 oo 13 (.mov (ot 0)),
 oo 14 (.mov (ot 3)),
 oo 15 (.mov (ot 0)),
 oo 16 (.mov (ot 3)),
 oo 17 (.ixa 1 (ot 15) (ot 16)),
 oo 18 (.ld false 1 (ot 17)),
 oo 19 (.mov (ot 0)),
 oo 20 (.mov (ot 1)),
 oo 21 (.ixa 1 (ot 19) (ot 20)),
 oo 22 (.ld false 1 (ot 21)),
 oo 23 (.ixa 1 (ot 11) (ot 12)),
 ⟨none,.st 1 (ot 23) (ot 18),none⟩,
 oo 24 (.ixa 1 (ot 13) (ot 14)),
 ⟨none,.st 1 (ot 24) (ot 22),none⟩] [(0,1),(0,2),(1,2),(0,3),(1,3),(2,3),(0,4),(1,4),(2,4),(3,4),(0,5),(1,5),(2,5),(3,5),(4,5),(0,6),(1,6),(2,6),(3,6),(0,7),(1,7),(2,7),(3,7),(0,8),(1,8),(2,8),(3,8),(4,8),(5,8),(6,8),(7,8),(0,9),(1,9),(2,9),(3,9),(4,9),(5,9),(6,9),(7,9),(8,9),(0,10),(1,10),(2,10),(3,10),(4,10),(5,10),(6,10),(7,10),(0,11),(1,11),(2,11),(3,11),(4,11),(5,11),(6,11),(7,11),(2,12),(3,12),(2,13),(3,13)])
 (.seq
 (.reg [] [oo 25 (.mov (ot 1)),
 oo 26 (.arith .add .i64 (ot 25) (.cst (.d (.int .i64 1)))),
 oo 27 (.mov (ot 2)),
 oo 28 (.arith .sub .i64 (ot 27) (.cst (.d (.int .i64 1)))),
 oo 9 (.mov (ot 26)),
 oo 10 (.mov (ot 28))])
 (.seq
 (.post [9] []
 (.block 0
 (.keep [0,1,9,10] []
 (.loop
 (.post [0,1,9,10] []
 (.block 1
 (.seq
 (.post [0,1,9,10] []
 (.block 2
 (.keep [0,1,9,10] []
 (.loop
 (.post [0,1,9,10] []
 (.seq
 (.seq
 (.regd [] [oo 29 (.mov (ot 9)),
 oo 30 (.mov (ot 10)),
 oo 31 (.cmp .leq (ot 29) (ot 30)),
 oo 32 (.mov (ot 31)),
 ⟨some 33,.mov (ot 0),some (32,true)⟩,
 ⟨some 34,.mov (ot 1),some (32,true)⟩,
 ⟨some 35,.ixa 1 (ot 33) (ot 34),some (32,true)⟩,
 ⟨some 36,.ld false 1 (ot 35),some (32,true)⟩,
 ⟨some 37,.mov (ot 0),some (32,true)⟩,
 ⟨some 38,.mov (ot 9),some (32,true)⟩,
 ⟨some 39,.ixa 1 (ot 37) (ot 38),some (32,true)⟩,
 ⟨some 40,.ld false 1 (ot 39),some (32,true)⟩,
 ⟨some 41,.call 194 [(ot 36),(ot 40)],some (32,true)⟩,
 ⟨some 42,.not (ot 41),some (32,true)⟩,
 oo 43 (.pick (ot 32) (ot 42) (.cst (.d (.bool false))))] [(0,1),(4,5),(4,8),(5,8),(6,8),(7,8),(4,9),(5,9),(6,9),(7,9),(8,9),(4,10),(5,10),(6,10),(7,10),(4,11),(5,11),(6,11),(7,11)])
 (.cond (ot 43)
 .skip
 (.exit 2)))
 (.block 3
 (.reg [] [oo 44 (.mov (ot 9)),
 oo 45 (.arith .add .i64 (ot 44) (.cst (.d (.int .i64 1)))),
 oo 9 (.mov (ot 45))]))))))))
 (.seq
 (.post [0,1,9,10] []
 (.block 4
 (.keep [0,1,9,10] []
 (.loop
 (.post [0,1,9,10] []
 (.seq
 (.seq
 (.regd [] [oo 46 (.mov (ot 9)),
 oo 47 (.mov (ot 10)),
 oo 48 (.cmp .leq (ot 46) (ot 47)),
 oo 49 (.mov (ot 48)),
 ⟨some 50,.mov (ot 0),some (49,true)⟩,
 ⟨some 51,.mov (ot 1),some (49,true)⟩,
 ⟨some 52,.ixa 1 (ot 50) (ot 51),some (49,true)⟩,
 ⟨some 53,.ld false 1 (ot 52),some (49,true)⟩,
 ⟨some 54,.mov (ot 0),some (49,true)⟩,
 ⟨some 55,.mov (ot 10),some (49,true)⟩,
 ⟨some 56,.ixa 1 (ot 54) (ot 55),some (49,true)⟩,
 ⟨some 57,.ld false 1 (ot 56),some (49,true)⟩,
 ⟨some 58,.call 194 [(ot 53),(ot 57)],some (49,true)⟩,
 oo 59 (.pick (ot 49) (ot 58) (.cst (.d (.bool false))))] [(0,1),(4,5),(4,8),(5,8),(6,8),(7,8),(4,9),(5,9),(6,9),(7,9),(8,9),(4,10),(5,10),(6,10),(7,10),(4,11),(5,11),(6,11),(7,11)])
 (.cond (ot 59)
 .skip
 (.exit 4)))
 (.block 5
 (.reg [] [oo 60 (.mov (ot 10)),
 oo 61 (.arith .sub .i64 (ot 60) (.cst (.d (.int .i64 1)))),
 oo 10 (.mov (ot 61))]))))))))
 (.seq
 (.seq
 (.reg [] [oo 62 (.mov (ot 9)),
 oo 63 (.mov (ot 10)),
 oo 64 (.cmp .gtr (ot 62) (ot 63))])
 (.cond (ot 64)
 (.exit 0)
 .skip))
 (.seq
 (.regd [] [oo 65 (.mov (ot 0)),
 oo 66 (.mov (ot 9)),
 oo 67 (.mov (ot 0)),
 oo 68 (.mov (ot 10)),
 oo 69 (.mov (ot 0)),
 oo 70 (.mov (ot 10)),
 oo 71 (.ixa 1 (ot 69) (ot 70)),
 oo 72 (.ld false 1 (ot 71)),
 oo 73 (.mov (ot 0)),
 oo 74 (.mov (ot 9)),
 oo 75 (.ixa 1 (ot 73) (ot 74)),
 oo 76 (.ld false 1 (ot 75)),
 oo 77 (.ixa 1 (ot 65) (ot 66)),
 ⟨none,.st 1 (ot 77) (ot 72),none⟩,
 oo 78 (.ixa 1 (ot 67) (ot 68)),
 ⟨none,.st 1 (ot 78) (ot 76),none⟩] [(0,1),(0,2),(1,2),(0,3),(1,3),(2,3),(0,4),(1,4),(2,4),(3,4),(0,5),(1,5),(2,5),(3,5),(4,5),(0,6),(1,6),(2,6),(3,6),(0,7),(1,7),(2,7),(3,7),(0,8),(1,8),(2,8),(3,8),(4,8),(5,8),(6,8),(7,8),(0,9),(1,9),(2,9),(3,9),(4,9),(5,9),(6,9),(7,9),(8,9),(0,10),(1,10),(2,10),(3,10),(4,10),(5,10),(6,10),(7,10),(0,11),(1,11),(2,11),(3,11),(4,11),(5,11),(6,11),(7,11),(2,12),(3,12),(2,13),(3,13)])
 (.seq
 (.reg [] [oo 79 (.mov (ot 9)),
 oo 80 (.arith .add .i64 (ot 79) (.cst (.d (.int .i64 1)))),
 oo 9 (.mov (ot 80))])
 (.reg [] [oo 81 (.mov (ot 10)),
 oo 82 (.arith .sub .i64 (ot 81) (.cst (.d (.int .i64 1)))),
 oo 10 (.mov (ot 82))]))))))))))))
 (.seq
 (.reg [] [oo 83 (.mov (ot 9)),
 oo 8 (.mov (ot 83))])
 .ret)))))⟩
def tx196:AFun:=⟨168,40,[.tmp 8,.tmp 9],
 (.seq
 (.reg [] [oo 8 (.mov (.cst (.d (.int .i64 0)))),
 oo 9 (.mov (.cst (.d (.bool false))))])
 (.seq
 (.regd [] [oo 12 (.mov (ot 0)),
 oo 13 (.mov (ot 1)),
 oo 14 (.mov (ot 0)),
 oo 15 (.mov (ot 3)),
 oo 16 (.mov (ot 0)),
 oo 17 (.mov (ot 3)),
 oo 18 (.ixa 1 (ot 16) (ot 17)),
 oo 19 (.ld false 1 (ot 18)),
 oo 20 (.mov (ot 0)),
 oo 21 (.mov (ot 1)),
 oo 22 (.ixa 1 (ot 20) (ot 21)),
 oo 23 (.ld false 1 (ot 22)),
 oo 24 (.ixa 1 (ot 12) (ot 13)),
 ⟨none,.st 1 (ot 24) (ot 19),none⟩,
 oo 25 (.ixa 1 (ot 14) (ot 15)),
 ⟨none,.st 1 (ot 25) (ot 23),none⟩] [(0,1),(0,2),(1,2),(0,3),(1,3),(2,3),(0,4),(1,4),(2,4),(3,4),(0,5),(1,5),(2,5),(3,5),(4,5),(0,6),(1,6),(2,6),(3,6),(0,7),(1,7),(2,7),(3,7),(0,8),(1,8),(2,8),(3,8),(4,8),(5,8),(6,8),(7,8),(0,9),(1,9),(2,9),(3,9),(4,9),(5,9),(6,9),(7,9),(8,9),(0,10),(1,10),(2,10),(3,10),(4,10),(5,10),(6,10),(7,10),(0,11),(1,11),(2,11),(3,11),(4,11),(5,11),(6,11),(7,11),(2,12),(3,12),(2,13),(3,13)])
 (.seq
 (.reg [] [oo 26 (.mov (ot 1)),
 oo 27 (.arith .add .i64 (ot 26) (.cst (.d (.int .i64 1)))),
 oo 28 (.mov (ot 2)),
 oo 29 (.arith .sub .i64 (ot 28) (.cst (.d (.int .i64 1)))),
 oo 10 (.mov (ot 27)),
 oo 11 (.mov (ot 29))])
 (.seq
 (.post [0,1,10,11] []
 (.block 0
 (.keep [0,1,10,11] []
 (.loop
 (.post [0,1,10,11] []
 (.seq
 (.seq
 (.regd [] [oo 30 (.mov (ot 10)),
 oo 31 (.mov (ot 11)),
 oo 32 (.cmp .leq (ot 30) (ot 31)),
 oo 33 (.mov (ot 32)),
 ⟨some 34,.mov (ot 0),some (33,true)⟩,
 ⟨some 35,.mov (ot 10),some (33,true)⟩,
 ⟨some 36,.ixa 1 (ot 34) (ot 35),some (33,true)⟩,
 ⟨some 37,.ld false 1 (ot 36),some (33,true)⟩,
 ⟨some 38,.mov (ot 0),some (33,true)⟩,
 ⟨some 39,.mov (ot 1),some (33,true)⟩,
 ⟨some 40,.ixa 1 (ot 38) (ot 39),some (33,true)⟩,
 ⟨some 41,.ld false 1 (ot 40),some (33,true)⟩,
 ⟨some 42,.call 194 [(ot 37),(ot 41)],some (33,true)⟩,
 oo 43 (.pick (ot 33) (ot 42) (.cst (.d (.bool false))))] [(0,1),(4,5),(4,8),(5,8),(6,8),(7,8),(4,9),(5,9),(6,9),(7,9),(8,9),(4,10),(5,10),(6,10),(7,10),(4,11),(5,11),(6,11),(7,11)])
 (.cond (ot 43)
 .skip
 (.exit 0)))
 (.block 1
 (.reg [] [oo 44 (.mov (ot 10)),
 oo 45 (.arith .add .i64 (ot 44) (.cst (.d (.int .i64 1)))),
 oo 10 (.mov (ot 45))]))))))))
 (.seq
 (.post [0,1,10,11] []
 (.block 2
 (.keep [0,1,10,11] []
 (.loop
 (.post [0,1,10,11] []
 (.seq
 (.seq
 (.regd [] [oo 46 (.mov (ot 10)),
 oo 47 (.mov (ot 11)),
 oo 48 (.cmp .leq (ot 46) (ot 47)),
 oo 49 (.mov (ot 48)),
 ⟨some 50,.mov (ot 0),some (49,true)⟩,
 ⟨some 51,.mov (ot 11),some (49,true)⟩,
 ⟨some 52,.ixa 1 (ot 50) (ot 51),some (49,true)⟩,
 ⟨some 53,.ld false 1 (ot 52),some (49,true)⟩,
 ⟨some 54,.mov (ot 0),some (49,true)⟩,
 ⟨some 55,.mov (ot 1),some (49,true)⟩,
 ⟨some 56,.ixa 1 (ot 54) (ot 55),some (49,true)⟩,
 ⟨some 57,.ld false 1 (ot 56),some (49,true)⟩,
 ⟨some 58,.call 194 [(ot 53),(ot 57)],some (49,true)⟩,
 ⟨some 59,.not (ot 58),some (49,true)⟩,
 oo 60 (.pick (ot 49) (ot 59) (.cst (.d (.bool false))))] [(0,1),(4,5),(4,8),(5,8),(6,8),(7,8),(4,9),(5,9),(6,9),(7,9),(8,9),(4,10),(5,10),(6,10),(7,10),(4,11),(5,11),(6,11),(7,11)])
 (.cond (ot 60)
 .skip
 (.exit 2)))
 (.block 3
 (.reg [] [oo 61 (.mov (ot 11)),
 oo 62 (.arith .sub .i64 (ot 61) (.cst (.d (.int .i64 1)))),
 oo 11 (.mov (ot 62))]))))))))
 (.seq
 (.seq
 (.reg [] [oo 63 (.mov (ot 10)),
 oo 64 (.mov (ot 11)),
 oo 65 (.cmp .gtr (ot 63) (ot 64))])
 (.cond (ot 65)
 (.seq
 (.regd [] [oo 66 (.mov (ot 0)),
 oo 67 (.mov (ot 11)),
 oo 68 (.mov (ot 0)),
 oo 69 (.mov (ot 1)),
 oo 70 (.mov (ot 0)),
 oo 71 (.mov (ot 1)),
 oo 72 (.ixa 1 (ot 70) (ot 71)),
 oo 73 (.ld false 1 (ot 72)),
 oo 74 (.mov (ot 0)),
 oo 75 (.mov (ot 11)),
 oo 76 (.ixa 1 (ot 74) (ot 75)),
 oo 77 (.ld false 1 (ot 76)),
 oo 78 (.ixa 1 (ot 66) (ot 67)),
 ⟨none,.st 1 (ot 78) (ot 73),none⟩,
 oo 79 (.ixa 1 (ot 68) (ot 69)),
 ⟨none,.st 1 (ot 79) (ot 77),none⟩] [(0,1),(0,2),(1,2),(0,3),(1,3),(2,3),(0,4),(1,4),(2,4),(3,4),(0,5),(1,5),(2,5),(3,5),(4,5),(0,6),(1,6),(2,6),(3,6),(0,7),(1,7),(2,7),(3,7),(0,8),(1,8),(2,8),(3,8),(4,8),(5,8),(6,8),(7,8),(0,9),(1,9),(2,9),(3,9),(4,9),(5,9),(6,9),(7,9),(8,9),(0,10),(1,10),(2,10),(3,10),(4,10),(5,10),(6,10),(7,10),(0,11),(1,11),(2,11),(3,11),(4,11),(5,11),(6,11),(7,11),(2,12),(3,12),(2,13),(3,13)])
 (.seq
 (.reg [] [oo 80 (.mov (ot 11)),
 oo 8 (.mov (ot 80)),
 oo 9 (.mov (.cst (.d (.bool true))))])
 .ret))
 .skip))
 (.seq
 (.regd [] [oo 81 (.mov (ot 0)),
 oo 82 (.mov (ot 10)),
 oo 83 (.mov (ot 0)),
 oo 84 (.mov (ot 11)),
 oo 85 (.mov (ot 0)),
 oo 86 (.mov (ot 11)),
 oo 87 (.ixa 1 (ot 85) (ot 86)),
 oo 88 (.ld false 1 (ot 87)),
 oo 89 (.mov (ot 0)),
 oo 90 (.mov (ot 10)),
 oo 91 (.ixa 1 (ot 89) (ot 90)),
 oo 92 (.ld false 1 (ot 91)),
 oo 93 (.ixa 1 (ot 81) (ot 82)),
 ⟨none,.st 1 (ot 93) (ot 88),none⟩,
 oo 94 (.ixa 1 (ot 83) (ot 84)),
 ⟨none,.st 1 (ot 94) (ot 92),none⟩] [(0,1),(0,2),(1,2),(0,3),(1,3),(2,3),(0,4),(1,4),(2,4),(3,4),(0,5),(1,5),(2,5),(3,5),(4,5),(0,6),(1,6),(2,6),(3,6),(0,7),(1,7),(2,7),(3,7),(0,8),(1,8),(2,8),(3,8),(4,8),(5,8),(6,8),(7,8),(0,9),(1,9),(2,9),(3,9),(4,9),(5,9),(6,9),(7,9),(8,9),(0,10),(1,10),(2,10),(3,10),(4,10),(5,10),(6,10),(7,10),(0,11),(1,11),(2,11),(3,11),(4,11),(5,11),(6,11),(7,11),(2,12),(3,12),(2,13),(3,13)])
 (.seq
 (.reg [] [oo 95 (.mov (ot 10)),
 oo 96 (.arith .add .i64 (ot 95) (.cst (.d (.int .i64 1)))),
 oo 10 (.mov (ot 96))])
 (.seq
 (.reg [] [oo 97 (.mov (ot 11)),
 oo 98 (.arith .sub .i64 (ot 97) (.cst (.d (.int .i64 1)))),
 oo 11 (.mov (ot 98))])
 (.seq
 (.post [0,1,11] []
 (.block 4
 (.keep [0,1,10,11] []
 (.loop
 (.post [0,1,10,11] []
 (.block 5
 (.seq
 (.post [0,1,10,11] []
 (.block 6
 (.keep [0,1,10,11] []
 (.loop
 (.post [0,1,10,11] []
 (.seq
 (.seq
 (.regd [] [oo 99 (.mov (ot 10)),
 oo 100 (.mov (ot 11)),
 oo 101 (.cmp .leq (ot 99) (ot 100)),
 oo 102 (.mov (ot 101)),
 ⟨some 103,.mov (ot 0),some (102,true)⟩,
 ⟨some 104,.mov (ot 10),some (102,true)⟩,
 ⟨some 105,.ixa 1 (ot 103) (ot 104),some (102,true)⟩,
 ⟨some 106,.ld false 1 (ot 105),some (102,true)⟩,
 ⟨some 107,.mov (ot 0),some (102,true)⟩,
 ⟨some 108,.mov (ot 1),some (102,true)⟩,
 ⟨some 109,.ixa 1 (ot 107) (ot 108),some (102,true)⟩,
 ⟨some 110,.ld false 1 (ot 109),some (102,true)⟩,
 ⟨some 111,.call 194 [(ot 106),(ot 110)],some (102,true)⟩,
 oo 112 (.pick (ot 102) (ot 111) (.cst (.d (.bool false))))] [(0,1),(4,5),(4,8),(5,8),(6,8),(7,8),(4,9),(5,9),(6,9),(7,9),(8,9),(4,10),(5,10),(6,10),(7,10),(4,11),(5,11),(6,11),(7,11)])
 (.cond (ot 112)
 .skip
 (.exit 6)))
 (.block 7
 (.reg [] [oo 113 (.mov (ot 10)),
 oo 114 (.arith .add .i64 (ot 113) (.cst (.d (.int .i64 1)))),
 oo 10 (.mov (ot 114))]))))))))
 (.seq
 (.post [0,1,10,11] []
 (.block 8
 (.keep [0,1,10,11] []
 (.loop
 (.post [0,1,10,11] []
 (.seq
 (.seq
 (.regd [] [oo 115 (.mov (ot 10)),
 oo 116 (.mov (ot 11)),
 oo 117 (.cmp .leq (ot 115) (ot 116)),
 oo 118 (.mov (ot 117)),
 ⟨some 119,.mov (ot 0),some (118,true)⟩,
 ⟨some 120,.mov (ot 11),some (118,true)⟩,
 ⟨some 121,.ixa 1 (ot 119) (ot 120),some (118,true)⟩,
 ⟨some 122,.ld false 1 (ot 121),some (118,true)⟩,
 ⟨some 123,.mov (ot 0),some (118,true)⟩,
 ⟨some 124,.mov (ot 1),some (118,true)⟩,
 ⟨some 125,.ixa 1 (ot 123) (ot 124),some (118,true)⟩,
 ⟨some 126,.ld false 1 (ot 125),some (118,true)⟩,
 ⟨some 127,.call 194 [(ot 122),(ot 126)],some (118,true)⟩,
 ⟨some 128,.not (ot 127),some (118,true)⟩,
 oo 129 (.pick (ot 118) (ot 128) (.cst (.d (.bool false))))] [(0,1),(4,5),(4,8),(5,8),(6,8),(7,8),(4,9),(5,9),(6,9),(7,9),(8,9),(4,10),(5,10),(6,10),(7,10),(4,11),(5,11),(6,11),(7,11)])
 (.cond (ot 129)
 .skip
 (.exit 8)))
 (.block 9
 (.reg [] [oo 130 (.mov (ot 11)),
 oo 131 (.arith .sub .i64 (ot 130) (.cst (.d (.int .i64 1)))),
 oo 11 (.mov (ot 131))]))))))))
 (.seq
 (.seq
 (.reg [] [oo 132 (.mov (ot 10)),
 oo 133 (.mov (ot 11)),
 oo 134 (.cmp .gtr (ot 132) (ot 133))])
 (.cond (ot 134)
 (.exit 4)
 .skip))
 (.seq
 (.regd [] [oo 135 (.mov (ot 0)),
 oo 136 (.mov (ot 10)),
 oo 137 (.mov (ot 0)),
 oo 138 (.mov (ot 11)),
 oo 139 (.mov (ot 0)),
 oo 140 (.mov (ot 11)),
 oo 141 (.ixa 1 (ot 139) (ot 140)),
 oo 142 (.ld false 1 (ot 141)),
 oo 143 (.mov (ot 0)),
 oo 144 (.mov (ot 10)),
 oo 145 (.ixa 1 (ot 143) (ot 144)),
 oo 146 (.ld false 1 (ot 145)),
 oo 147 (.ixa 1 (ot 135) (ot 136)),
 ⟨none,.st 1 (ot 147) (ot 142),none⟩,
 oo 148 (.ixa 1 (ot 137) (ot 138)),
 ⟨none,.st 1 (ot 148) (ot 146),none⟩] [(0,1),(0,2),(1,2),(0,3),(1,3),(2,3),(0,4),(1,4),(2,4),(3,4),(0,5),(1,5),(2,5),(3,5),(4,5),(0,6),(1,6),(2,6),(3,6),(0,7),(1,7),(2,7),(3,7),(0,8),(1,8),(2,8),(3,8),(4,8),(5,8),(6,8),(7,8),(0,9),(1,9),(2,9),(3,9),(4,9),(5,9),(6,9),(7,9),(8,9),(0,10),(1,10),(2,10),(3,10),(4,10),(5,10),(6,10),(7,10),(0,11),(1,11),(2,11),(3,11),(4,11),(5,11),(6,11),(7,11),(2,12),(3,12),(2,13),(3,13)])
 (.seq
 (.reg [] [oo 149 (.mov (ot 10)),
 oo 150 (.arith .add .i64 (ot 149) (.cst (.d (.int .i64 1)))),
 oo 10 (.mov (ot 150))])
 (.reg [] [oo 151 (.mov (ot 11)),
 oo 152 (.arith .sub .i64 (ot 151) (.cst (.d (.int .i64 1)))),
 oo 11 (.mov (ot 152))]))))))))))))
 (.seq
 (.regd [] [oo 153 (.mov (ot 0)),
 oo 154 (.mov (ot 11)),
 oo 155 (.mov (ot 0)),
 oo 156 (.mov (ot 1)),
 oo 157 (.mov (ot 0)),
 oo 158 (.mov (ot 1)),
 oo 159 (.ixa 1 (ot 157) (ot 158)),
 oo 160 (.ld false 1 (ot 159)),
 oo 161 (.mov (ot 0)),
 oo 162 (.mov (ot 11)),
 oo 163 (.ixa 1 (ot 161) (ot 162)),
 oo 164 (.ld false 1 (ot 163)),
 oo 165 (.ixa 1 (ot 153) (ot 154)),
 ⟨none,.st 1 (ot 165) (ot 160),none⟩,
 oo 166 (.ixa 1 (ot 155) (ot 156)),
 ⟨none,.st 1 (ot 166) (ot 164),none⟩] [(0,1),(0,2),(1,2),(0,3),(1,3),(2,3),(0,4),(1,4),(2,4),(3,4),(0,5),(1,5),(2,5),(3,5),(4,5),(0,6),(1,6),(2,6),(3,6),(0,7),(1,7),(2,7),(3,7),(0,8),(1,8),(2,8),(3,8),(4,8),(5,8),(6,8),(7,8),(0,9),(1,9),(2,9),(3,9),(4,9),(5,9),(6,9),(7,9),(8,9),(0,10),(1,10),(2,10),(3,10),(4,10),(5,10),(6,10),(7,10),(0,11),(1,11),(2,11),(3,11),(4,11),(5,11),(6,11),(7,11),(2,12),(3,12),(2,13),(3,13)])
 (.seq
 (.reg [] [oo 167 (.mov (ot 11)),
 oo 8 (.mov (ot 167)),
 oo 9 (.mov (.cst (.d (.bool false))))])
 .ret))))))))))))⟩
def tx197:AFun:=⟨19,40,[.tmp 2],
 (.seq
 (.reg [] [oo 2 (.mov (.cst (.d (.int .i64 0))))])
 (.seq
 (.seq
 (.reg [] [oo 3 (.mov (ot 0)),
 oo 4 (.cmp .geq (ot 3) (.cst (.d (.int .u32 65536))))])
 (.cond (ot 4)
 (.seq
 (.reg [] [oo 5 (.mov (ot 0)),
 oo 6 (.shf .shr .u32 (ot 5) (.cst (.d (.int .u64 16)))),
 oo 0 (.mov (ot 6))])
 (.reg [] [oo 2 (.mov (.cst (.d (.int .i64 16))))]))
 .skip))
 (.seq
 (.seq
 (.reg [] [oo 7 (.mov (ot 0)),
 oo 8 (.cmp .geq (ot 7) (.cst (.d (.int .u32 256))))])
 (.cond (ot 8)
 (.seq
 (.reg [] [oo 9 (.mov (ot 0)),
 oo 10 (.shf .shr .u32 (ot 9) (.cst (.d (.int .u64 8)))),
 oo 0 (.mov (ot 10))])
 (.reg [] [oo 11 (.mov (ot 2)),
 oo 12 (.arith .add .i64 (ot 11) (.cst (.d (.int .i64 8)))),
 oo 2 (.mov (ot 12))]))
 .skip))
 (.seq
 (.reg [] [oo 13 (.mov (ot 2)),
 oo 14 (.mov (ot 0)),
 oo 15 (.conv .u8 (ot 14)),
 oo 16 (.ixs (.cst (.d (.str [0,1,2,2,3,3,3,3,4,4,4,4,4,4,4,4,5,5,5,5,5,5,5,5,5,5,5,5,5,5,5,5,6,6,6,6,6,6,6,6,6,6,6,6,6,6,6,6,6,6,6,6,6,6,6,6,6,6,6,6,6,6,6,6,7,7,7,7,7,7,7,7,7,7,7,7,7,7,7,7,7,7,7,7,7,7,7,7,7,7,7,7,7,7,7,7,7,7,7,7,7,7,7,7,7,7,7,7,7,7,7,7,7,7,7,7,7,7,7,7,7,7,7,7,7,7,7,7,8,8,8,8,8,8,8,8,8,8,8,8,8,8,8,8,8,8,8,8,8,8,8,8,8,8,8,8,8,8,8,8,8,8,8,8,8,8,8,8,8,8,8,8,8,8,8,8,8,8,8,8,8,8,8,8,8,8,8,8,8,8,8,8,8,8,8,8,8,8,8,8,8,8,8,8,8,8,8,8,8,8,8,8,8,8,8,8,8,8,8,8,8,8,8,8,8,8,8,8,8,8,8,8,8,8,8,8,8,8,8,8,8,8,8,8,8,8,8,8,8,8,8,8,8,8,8,8]))) (ot 15)),
 oo 17 (.conv .i64 (ot 16)),
 oo 18 (.arith .add .i64 (ot 13) (ot 17)),
 oo 2 (.mov (ot 18))])
 .ret))))⟩
def tx198:AFun:=⟨25,40,[.tmp 2],
 (.seq
 (.reg [] [oo 2 (.mov (.cst (.d (.int .i64 0))))])
 (.seq
 (.seq
 (.reg [] [oo 3 (.mov (ot 0)),
 oo 4 (.cmp .geq (ot 3) (.cst (.d (.int .u64 4294967296))))])
 (.cond (ot 4)
 (.seq
 (.reg [] [oo 5 (.mov (ot 0)),
 oo 6 (.shf .shr .u64 (ot 5) (.cst (.d (.int .u64 32)))),
 oo 0 (.mov (ot 6))])
 (.reg [] [oo 2 (.mov (.cst (.d (.int .i64 32))))]))
 .skip))
 (.seq
 (.seq
 (.reg [] [oo 7 (.mov (ot 0)),
 oo 8 (.cmp .geq (ot 7) (.cst (.d (.int .u64 65536))))])
 (.cond (ot 8)
 (.seq
 (.reg [] [oo 9 (.mov (ot 0)),
 oo 10 (.shf .shr .u64 (ot 9) (.cst (.d (.int .u64 16)))),
 oo 0 (.mov (ot 10))])
 (.reg [] [oo 11 (.mov (ot 2)),
 oo 12 (.arith .add .i64 (ot 11) (.cst (.d (.int .i64 16)))),
 oo 2 (.mov (ot 12))]))
 .skip))
 (.seq
 (.seq
 (.reg [] [oo 13 (.mov (ot 0)),
 oo 14 (.cmp .geq (ot 13) (.cst (.d (.int .u64 256))))])
 (.cond (ot 14)
 (.seq
 (.reg [] [oo 15 (.mov (ot 0)),
 oo 16 (.shf .shr .u64 (ot 15) (.cst (.d (.int .u64 8)))),
 oo 0 (.mov (ot 16))])
 (.reg [] [oo 17 (.mov (ot 2)),
 oo 18 (.arith .add .i64 (ot 17) (.cst (.d (.int .i64 8)))),
 oo 2 (.mov (ot 18))]))
 .skip))
 (.seq
 (.reg [] [oo 19 (.mov (ot 2)),
 oo 20 (.mov (ot 0)),
 oo 21 (.conv .u8 (ot 20)),
 oo 22 (.ixs (.cst (.d (.str [0,1,2,2,3,3,3,3,4,4,4,4,4,4,4,4,5,5,5,5,5,5,5,5,5,5,5,5,5,5,5,5,6,6,6,6,6,6,6,6,6,6,6,6,6,6,6,6,6,6,6,6,6,6,6,6,6,6,6,6,6,6,6,6,7,7,7,7,7,7,7,7,7,7,7,7,7,7,7,7,7,7,7,7,7,7,7,7,7,7,7,7,7,7,7,7,7,7,7,7,7,7,7,7,7,7,7,7,7,7,7,7,7,7,7,7,7,7,7,7,7,7,7,7,7,7,7,7,8,8,8,8,8,8,8,8,8,8,8,8,8,8,8,8,8,8,8,8,8,8,8,8,8,8,8,8,8,8,8,8,8,8,8,8,8,8,8,8,8,8,8,8,8,8,8,8,8,8,8,8,8,8,8,8,8,8,8,8,8,8,8,8,8,8,8,8,8,8,8,8,8,8,8,8,8,8,8,8,8,8,8,8,8,8,8,8,8,8,8,8,8,8,8,8,8,8,8,8,8,8,8,8,8,8,8,8,8,8,8,8,8,8,8,8,8,8,8,8,8,8,8,8,8,8,8,8]))) (ot 21)),
 oo 23 (.conv .i64 (ot 22)),
 oo 24 (.arith .add .i64 (ot 19) (ot 23)),
 oo 2 (.mov (ot 24))])
 .ret)))))⟩
def tx199:AFun:=⟨19,40,[.tmp 4],
 (.seq
 (.reg [] [oo 4 (.mov (.cst (.d (.int .i64 0))))])
 (.seq
 (.seq
 (.reg [] [oo 6 (.mov (ot 0)),
 oo 7 (.len (ot 6)),
 oo 8 (.mov (.cst (.d (.int .i64 0))))])
 (.post [] []
 (.block 0
 (.keep [0,1,7,8] []
 (.loop
 (.post [0,1,7,8] []
 (.seq
 (.reg [] [oo 9 (.cmp .lss (ot 8) (ot 7))])
 (.seq
 (.cond (ot 9)
 .skip
 (.exit 0))
 (.seq
 (.block 1
 (.seq
 (.reg [] [oo 10 (.mov (ot 8)),
 oo 5 (.mov (ot 10))])
 (.seq
 (.reg [] [oo 11 (.mov (ot 1)),
 oo 12 (.mov (ot 0)),
 oo 13 (.mov (ot 5)),
 oo 14 (.ixa 2 (ot 12) (ot 13)),
 oo 15 (.ld true 2 (ot 14)),
 oo 16 (.callv (ot 11) [(ot 15)])])
 (.cond (ot 16)
 (.seq
 (.reg [] [oo 17 (.mov (ot 5)),
 oo 4 (.mov (ot 17))])
 .ret)
 .skip))))
 (.reg [] [oo 18 (.arith .add .i64 (ot 8) (.cst (.d (.int .i64 1)))),
 oo 8 (.mov (ot 18))]))))))))))
 (.seq
 (.reg [] [oo 4 (.mov (.cst (.d (.int .i64 (-1)))))])
 .ret)))⟩
def tx201:AFun:=⟨53,40,[],
 (.seq
 (.reg [] [oo 10 (.mov (ot 1)),
 oo 11 (.arith .add .i64 (ot 10) (.cst (.d (.int .i64 1)))),
 oo 8 (.mov (ot 11))])
 (.post [] []
 (.block 0
 (.keep [0,1,2,3,8] []
 (.loop
 (.post [0,1,2,3,8] []
 (.seq
 (.seq
 (.reg [] [oo 12 (.mov (ot 8)),
 oo 13 (.mov (ot 2)),
 oo 14 (.cmp .lss (ot 12) (ot 13))])
 (.cond (ot 14)
 .skip
 (.exit 0)))
 (.seq
 (.block 1
 (.seq
 (.reg [] [oo 17 (.mov (ot 8)),
 oo 9 (.mov (ot 17))])
 (.post [0,1,2,3,8] []
 (.block 2
 (.keep [0,1,2,3,8,9] []
 (.loop
 (.post [0,1,2,3,8,9] []
 (.seq
 (.seq
 (.regd [] [oo 18 (.mov (ot 9)),
 oo 19 (.mov (ot 1)),
 oo 20 (.cmp .gtr (ot 18) (ot 19)),
 oo 21 (.mov (ot 20)),
 ⟨some 22,.mov (ot 3),some (21,true)⟩,
 ⟨some 23,.mov (ot 0),some (21,true)⟩,
 ⟨some 24,.mov (ot 9),some (21,true)⟩,
 ⟨some 25,.ixa 4 (ot 23) (ot 24),some (21,true)⟩,
 ⟨some 26,.ld true 4 (ot 25),some (21,true)⟩,
 ⟨some 27,.mov (ot 0),some (21,true)⟩,
 ⟨some 28,.mov (ot 9),some (21,true)⟩,
 ⟨some 29,.arith .sub .i64 (ot 28) (.cst (.d (.int .i64 1))),some (21,true)⟩,
 ⟨some 30,.ixa 4 (ot 27) (ot 29),some (21,true)⟩,
 ⟨some 31,.ld true 4 (ot 30),some (21,true)⟩,
 ⟨some 32,.callv (ot 22) [(ot 26),(ot 31)],some (21,true)⟩,
 ⟨some 33,.cmp .lss (ot 32) (.cst (.d (.int .i64 0))),some (21,true)⟩,
 oo 34 (.pick (ot 21) (ot 33) (.cst (.d (.bool false))))] [(0,1),(4,5),(4,6),(5,6),(4,7),(4,8),(4,9),(5,9),(6,9),(7,9),(8,9),(4,10),(5,10),(6,10),(7,10),(8,10),(9,10),(4,11),(5,11),(6,11),(7,11),(8,11),(9,11),(4,12),(5,12),(6,12),(7,12),(8,12),(4,13),(5,13),(6,13),(7,13),(8,13)])
 (.cond (ot 34)
 .skip
 (.exit 2)))
 (.seq
 (.block 3
 (.regd [] [oo 37 (.mov (ot 0)),
 oo 38 (.mov (ot 9)),
 oo 39 (.mov (ot 0)),
 oo 40 (.mov (ot 9)),
 oo 41 (.arith .sub .i64 (ot 40) (.cst (.d (.int .i64 1)))),
 oo 42 (.mov (ot 0)),
 oo 43 (.mov (ot 9)),
 oo 44 (.arith .sub .i64 (ot 43) (.cst (.d (.int .i64 1)))),
 oo 45 (.ixa 4 (ot 42) (ot 44)),
 oo 46 (.ld true 4 (ot 45)),
 oo 47 (.mov (ot 0)),
 oo 48 (.mov (ot 9)),
 oo 49 (.ixa 4 (ot 47) (ot 48)),
 oo 50 (.ld true 4 (ot 49)),
 oo 51 (.ixa 4 (ot 37) (ot 38)),
 ⟨none,.st 4 (ot 51) (ot 46),none⟩,
 oo 52 (.ixa 4 (ot 39) (ot 41)),
 ⟨none,.st 4 (ot 52) (ot 50),none⟩] [(0,1),(0,2),(1,2),(0,3),(1,3),(2,3),(0,4),(1,4),(2,4),(0,5),(1,5),(2,5),(3,5),(4,5),(0,6),(1,6),(2,6),(3,6),(4,6),(5,6),(0,7),(1,7),(2,7),(3,7),(4,7),(5,7),(0,8),(1,8),(2,8),(3,8),(4,8),(0,9),(1,9),(2,9),(3,9),(4,9),(0,10),(1,10),(2,10),(3,10),(4,10),(5,10),(6,10),(7,10),(8,10),(9,10),(0,11),(1,11),(2,11),(3,11),(4,11),(5,11),(6,11),(7,11),(8,11),(9,11),(10,11),(0,12),(1,12),(2,12),(3,12),(4,12),(5,12),(6,12),(7,12),(8,12),(9,12),(0,13),(1,13),(2,13),(3,13),(4,13),(5,13),(6,13),(7,13),(8,13),(9,13),(2,14),(3,14),(4,14),(2,15),(3,15),(4,15)]))
 (.reg [] [oo 35 (.mov (ot 9)),
 oo 36 (.arith .sub .i64 (ot 35) (.cst (.d (.int .i64 1)))),
 oo 9 (.mov (ot 36))]))))))))))
 (.reg [] [oo 15 (.mov (ot 8)),
 oo 16 (.arith .add .i64 (ot 15) (.cst (.d (.int .i64 1)))),
 oo 8 (.mov (ot 16))])))))))))⟩
def tx202:AFun:=⟨60,40,[],
 (.seq
 (.reg [] [oo 13 (.mov (ot 1)),
 oo 8 (.mov (ot 13))])
 (.seq
 (.reg [] [oo 9 (.mov (.cst (.d (.int .i64 0))))])
 (.seq
 (.reg [] [oo 14 (.mov (ot 2)),
 oo 15 (.mov (ot 1)),
 oo 16 (.arith .sub .i64 (ot 14) (ot 15)),
 oo 10 (.mov (ot 16))])
 (.seq
 (.seq
 (.reg [] [oo 17 (.mov (ot 10)),
 oo 18 (.arith .sub .i64 (ot 17) (.cst (.d (.int .i64 1)))),
 oo 19 (.arith .quo .i64 (ot 18) (.cst (.d (.int .i64 2)))),
 oo 11 (.mov (ot 19))])
 (.post [0,3,8,9,10] []
 (.block 0
 (.keep [0,3,8,9,10,11] []
 (.loop
 (.post [0,3,8,9,10,11] []
 (.seq
 (.seq
 (.reg [] [oo 20 (.mov (ot 11)),
 oo 21 (.cmp .geq (ot 20) (.cst (.d (.int .i64 0))))])
 (.cond (ot 21)
 .skip
 (.exit 0)))
 (.seq
 (.block 1
 (.reg [] [oo 24 (.mov (ot 0)),
 oo 25 (.mov (ot 11)),
 oo 26 (.mov (ot 10)),
 oo 27 (.mov (ot 8)),
 oo 28 (.mov (ot 3)),
 oo 29 (.calli 218 [(ot 24),(ot 25),(ot 26),(ot 27),(ot 28)])]))
 (.reg [] [oo 22 (.mov (ot 11)),
 oo 23 (.arith .sub .i64 (ot 22) (.cst (.d (.int .i64 1)))),
 oo 11 (.mov (ot 23))])))))))))
 (.seq
 (.reg [] [oo 30 (.mov (ot 10)),
 oo 31 (.arith .sub .i64 (ot 30) (.cst (.d (.int .i64 1)))),
 oo 12 (.mov (ot 31))])
 (.post [] []
 (.block 2
 (.keep [0,3,8,9,12] []
 (.loop
 (.post [0,3,8,9,12] []
 (.seq
 (.seq
 (.reg [] [oo 32 (.mov (ot 12)),
 oo 33 (.cmp .geq (ot 32) (.cst (.d (.int .i64 0))))])
 (.cond (ot 33)
 .skip
 (.exit 2)))
 (.seq
 (.block 3
 (.seq
 (.regd [] [oo 36 (.mov (ot 0)),
 oo 37 (.mov (ot 8)),
 oo 38 (.mov (ot 0)),
 oo 39 (.mov (ot 8)),
 oo 40 (.mov (ot 12)),
 oo 41 (.arith .add .i64 (ot 39) (ot 40)),
 oo 42 (.mov (ot 0)),
 oo 43 (.mov (ot 8)),
 oo 44 (.mov (ot 12)),
 oo 45 (.arith .add .i64 (ot 43) (ot 44)),
 oo 46 (.ixa 4 (ot 42) (ot 45)),
 oo 47 (.ld true 4 (ot 46)),
 oo 48 (.mov (ot 0)),
 oo 49 (.mov (ot 8)),
 oo 50 (.ixa 4 (ot 48) (ot 49)),
 oo 51 (.ld true 4 (ot 50)),
 oo 52 (.ixa 4 (ot 36) (ot 37)),
 ⟨none,.st 4 (ot 52) (ot 47),none⟩,
 oo 53 (.ixa 4 (ot 38) (ot 41)),
 ⟨none,.st 4 (ot 53) (ot 51),none⟩] [(0,1),(0,2),(1,2),(0,3),(1,3),(2,3),(0,4),(1,4),(2,4),(3,4),(0,5),(1,5),(2,5),(0,6),(1,6),(2,6),(3,6),(4,6),(5,6),(0,7),(1,7),(2,7),(3,7),(4,7),(5,7),(6,7),(0,8),(1,8),(2,8),(3,8),(4,8),(5,8),(6,8),(7,8),(0,9),(1,9),(2,9),(3,9),(4,9),(5,9),(6,9),(0,10),(1,10),(2,10),(3,10),(4,10),(5,10),(0,11),(1,11),(2,11),(3,11),(4,11),(5,11),(0,12),(1,12),(2,12),(3,12),(4,12),(5,12),(6,12),(7,12),(8,12),(9,12),(10,12),(11,12),(0,13),(1,13),(2,13),(3,13),(4,13),(5,13),(6,13),(7,13),(8,13),(9,13),(10,13),(11,13),(12,13),(0,14),(1,14),(2,14),(3,14),(4,14),(5,14),(6,14),(7,14),(8,14),(9,14),(10,14),(11,14),(0,15),(1,15),(2,15),(3,15),(4,15),(5,15),(6,15),(7,15),(8,15),(9,15),(10,15),(11,15),(2,16),(3,16),(4,16),(5,16),(2,17),(3,17),(4,17),(5,17)])
 (.reg [] [oo 54 (.mov (ot 0)),
 oo 55 (.mov (ot 9)),
 oo 56 (.mov (ot 12)),
 oo 57 (.mov (ot 8)),
 oo 58 (.mov (ot 3)),
 oo 59 (.calli 218 [(ot 54),(ot 55),(ot 56),(ot 57),(ot 58)])])))
 (.reg [] [oo 34 (.mov (ot 12)),
 oo 35 (.arith .sub .i64 (ot 34) (.cst (.d (.int .i64 1)))),
 oo 12 (.mov (ot 35))])))))))))))))⟩
def tx203:AFun:=⟨67,41,[],
 (.seq
 (.reg [] [oo 13 (.mov (ot 2)),
 oo 14 (.mov (ot 1)),
 oo 15 (.arith .sub .i64 (ot 13) (ot 14)),
 oo 8 (.mov (ot 15))])
 (.seq
 (.reg [] [oo 16 (.mov (ot 8)),
 oo 17 (.cmp .geq (ot 16) (.cst (.d (.int .i64 8))))])
 (.cond (ot 17)
 (.seq
 (.reg [0] [oo 18 (.mov (ot 8)),
 oo 19 (.conv .u64 (ot 18)),
 oo 9 (.alloc 0 [(.d (.int .u64 0))]),
 ⟨none,.st 1 (ot 9) (ot 19),none⟩])
 (.seq
 (.reg [] [oo 20 (.mov (ot 8)),
 oo 21 (.call 214 [(ot 20)]),
 oo 10 (.mov (ot 21))])
 (.seq
 (.reg [] [oo 22 (.mov (ot 1)),
 oo 23 (.mov (ot 8)),
 oo 24 (.arith .quo .i64 (ot 23) (.cst (.d (.int .i64 4)))),
 oo 25 (.arith .mul .i64 (ot 24) (.cst (.d (.int .i64 2)))),
 oo 26 (.arith .add .i64 (ot 22) (ot 25)),
 oo 27 (.arith .sub .i64 (ot 26) (.cst (.d (.int .i64 1)))),
 oo 11 (.mov (ot 27))])
 (.post [] [0]
 (.block 0
 (.keep [0,1,8,9,10,11] [0]
 (.loop
 (.post [0,1,8,9,10,11] []
 (.seq
 (.seq
 (.reg [] [oo 28 (.mov (ot 11)),
 oo 29 (.mov (ot 1)),
 oo 30 (.mov (ot 8)),
 oo 31 (.arith .quo .i64 (ot 30) (.cst (.d (.int .i64 4)))),
 oo 32 (.arith .mul .i64 (ot 31) (.cst (.d (.int .i64 2)))),
 oo 33 (.arith .add .i64 (ot 29) (ot 32)),
 oo 34 (.arith .add .i64 (ot 33) (.cst (.d (.int .i64 1)))),
 oo 35 (.cmp .leq (ot 28) (ot 34))])
 (.cond (ot 35)
 .skip
 (.exit 0)))
 (.seq
 (.block 1
 (.seq
 (.reg [] [oo 38 (.call 215 [(ot 9)]),
 oo 39 (.mov (ot 10)),
 oo 40 (.arith .sub .u64 (ot 39) (.cst (.d (.int .u64 1)))),
 oo 41 (.bit .and .u64 (ot 38) (ot 40)),
 oo 42 (.conv .i64 (ot 41)),
 oo 12 (.mov (ot 42))])
 (.seq
 (.seq
 (.reg [] [oo 43 (.mov (ot 12)),
 oo 44 (.mov (ot 8)),
 oo 45 (.cmp .geq (ot 43) (ot 44))])
 (.cond (ot 45)
 (.reg [] [oo 46 (.mov (ot 12)),
 oo 47 (.mov (ot 8)),
 oo 48 (.arith .sub .i64 (ot 46) (ot 47)),
 oo 12 (.mov (ot 48))])
 .skip))
 (.regd [] [oo 49 (.mov (ot 0)),
 oo 50 (.mov (ot 11)),
 oo 51 (.mov (ot 0)),
 oo 52 (.mov (ot 1)),
 oo 53 (.mov (ot 12)),
 oo 54 (.arith .add .i64 (ot 52) (ot 53)),
 oo 55 (.mov (ot 0)),
 oo 56 (.mov (ot 1)),
 oo 57 (.mov (ot 12)),
 oo 58 (.arith .add .i64 (ot 56) (ot 57)),
 oo 59 (.ixa 4 (ot 55) (ot 58)),
 oo 60 (.ld true 4 (ot 59)),
 oo 61 (.mov (ot 0)),
 oo 62 (.mov (ot 11)),
 oo 63 (.ixa 4 (ot 61) (ot 62)),
 oo 64 (.ld true 4 (ot 63)),
 oo 65 (.ixa 4 (ot 49) (ot 50)),
 ⟨none,.st 4 (ot 65) (ot 60),none⟩,
 oo 66 (.ixa 4 (ot 51) (ot 54)),
 ⟨none,.st 4 (ot 66) (ot 64),none⟩] [(0,1),(0,2),(1,2),(0,3),(1,3),(2,3),(0,4),(1,4),(2,4),(3,4),(0,5),(1,5),(2,5),(0,6),(1,6),(2,6),(3,6),(4,6),(5,6),(0,7),(1,7),(2,7),(3,7),(4,7),(5,7),(6,7),(0,8),(1,8),(2,8),(3,8),(4,8),(5,8),(6,8),(7,8),(0,9),(1,9),(2,9),(3,9),(4,9),(5,9),(6,9),(0,10),(1,10),(2,10),(3,10),(4,10),(5,10),(0,11),(1,11),(2,11),(3,11),(4,11),(5,11),(0,12),(1,12),(2,12),(3,12),(4,12),(5,12),(6,12),(7,12),(8,12),(9,12),(10,12),(11,12),(0,13),(1,13),(2,13),(3,13),(4,13),(5,13),(6,13),(7,13),(8,13),(9,13),(10,13),(11,13),(12,13),(0,14),(1,14),(2,14),(3,14),(4,14),(5,14),(6,14),(7,14),(8,14),(9,14),(10,14),(11,14),(0,15),(1,15),(2,15),(3,15),(4,15),(5,15),(6,15),(7,15),(8,15),(9,15),(10,15),(11,15),(2,16),(3,16),(4,16),(5,16),(2,17),(3,17),(4,17),(5,17)]))))
 (.reg [] [oo 36 (.mov (ot 11)),
 oo 37 (.arith .add .i64 (ot 36) (.cst (.d (.int .i64 1)))),
 oo 11 (.mov (ot 37))])))))))))))
 .skip)))⟩
def tx204:AFun:=⟨63,41,[.tmp 8,.tmp 9],
 (.seq
 (.reg [] [oo 8 (.mov (.cst (.d (.int .i64 0)))),
 oo 9 (.mov (.cst (.d (.int .i64 0))))])
 (.seq
 (.reg [] [oo 15 (.mov (ot 2)),
 oo 16 (.mov (ot 1)),
 oo 17 (.arith .sub .i64 (ot 15) (ot 16)),
 oo 10 (.mov (ot 17))])
 (.seq
 (.reg [0] [oo 11 (.alloc 0 [(.d (.int .i64 0))])])
 (.seq
 (.reg [] [oo 18 (.mov (ot 1)),
 oo 19 (.mov (ot 10)),
 oo 20 (.arith .quo .i64 (ot 19) (.cst (.d (.int .i64 4)))),
 oo 21 (.arith .mul .i64 (ot 20) (.cst (.d (.int .i64 1)))),
 oo 22 (.arith .add .i64 (ot 18) (ot 21)),
 oo 12 (.mov (ot 22))])
 (.seq
 (.reg [] [oo 23 (.mov (ot 1)),
 oo 24 (.mov (ot 10)),
 oo 25 (.arith .quo .i64 (ot 24) (.cst (.d (.int .i64 4)))),
 oo 26 (.arith .mul .i64 (ot 25) (.cst (.d (.int .i64 2)))),
 oo 27 (.arith .add .i64 (ot 23) (ot 26)),
 oo 13 (.mov (ot 27))])
 (.seq
 (.reg [] [oo 28 (.mov (ot 1)),
 oo 29 (.mov (ot 10)),
 oo 30 (.arith .quo .i64 (ot 29) (.cst (.d (.int .i64 4)))),
 oo 31 (.arith .mul .i64 (ot 30) (.cst (.d (.int .i64 3)))),
 oo 32 (.arith .add .i64 (ot 28) (ot 31)),
 oo 14 (.mov (ot 32))])
 (.seq
 (.seq
 (.reg [] [oo 33 (.mov (ot 10)),
 oo 34 (.cmp .geq (ot 33) (.cst (.d (.int .i64 8))))])
 (.cond (ot 34)
 (.seq
 (.seq
 (.reg [] [oo 35 (.mov (ot 10)),
 oo 36 (.cmp .geq (ot 35) (.cst (.d (.int .i64 50))))])
 (.cond (ot 36)
 (.seq
 (.reg [] [oo 37 (.mov (ot 0)),
 oo 38 (.mov (ot 12)),
 oo 39 (.mov (ot 3)),
 oo 40 (.calli 219 [(ot 37),(ot 38),(ot 11),(ot 39)]),
 oo 12 (.mov (ot 40))])
 (.seq
 (.reg [] [oo 41 (.mov (ot 0)),
 oo 42 (.mov (ot 13)),
 oo 43 (.mov (ot 3)),
 oo 44 (.calli 219 [(ot 41),(ot 42),(ot 11),(ot 43)]),
 oo 13 (.mov (ot 44))])
 (.reg [] [oo 45 (.mov (ot 0)),
 oo 46 (.mov (ot 14)),
 oo 47 (.mov (ot 3)),
 oo 48 (.calli 219 [(ot 45),(ot 46),(ot 11),(ot 47)]),
 oo 14 (.mov (ot 48))])))
 .skip))
 (.reg [] [oo 49 (.mov (ot 0)),
 oo 50 (.mov (ot 12)),
 oo 51 (.mov (ot 13)),
 oo 52 (.mov (ot 14)),
 oo 53 (.mov (ot 3)),
 oo 54 (.calli 220 [(ot 49),(ot 50),(ot 51),(ot 52),(ot 11),(ot 53)]),
 oo 13 (.mov (ot 54))]))
 .skip))
 (.seq
 (.reg [] [oo 55 (.ld false 1 (ot 11))])
 (.block 0
 (.seq
 (.reg [] [oo 58 (.cmp .eql (ot 55) (.cst (.d (.int .i64 0)))),
 oo 57 (.mov (ot 58))])
 (.cond (ot 57)
 (.seq
 (.reg [] [oo 59 (.mov (ot 13)),
 oo 8 (.mov (ot 59)),
 oo 9 (.mov (.cst (.d (.int .i64 1))))])
 .ret)
 (.seq
 (.reg [] [oo 61 (.cmp .eql (ot 55) (.cst (.d (.int .i64 12)))),
 oo 60 (.mov (ot 61))])
 (.cond (ot 60)
 (.seq
 (.reg [] [oo 62 (.mov (ot 13)),
 oo 8 (.mov (ot 62)),
 oo 9 (.mov (.cst (.d (.int .i64 2))))])
 .ret)
 (.seq
 (.reg [] [oo 56 (.mov (ot 13)),
 oo 8 (.mov (ot 56)),
 oo 9 (.mov (.cst (.d (.int .i64 0))))])
 .ret))))))))))))))⟩
def tx205:AFun:=⟨34,40,[],
 (.seq
 (.reg [] [oo 10 (.mov (ot 1)),
 oo 8 (.mov (ot 10))])
 (.seq
 (.reg [] [oo 11 (.mov (ot 2)),
 oo 12 (.arith .sub .i64 (ot 11) (.cst (.d (.int .i64 1)))),
 oo 9 (.mov (ot 12))])
 (.post [] []
 (.block 0
 (.keep [0,8,9] []
 (.loop
 (.post [0,8,9] []
 (.seq
 (.seq
 (.reg [] [oo 13 (.mov (ot 8)),
 oo 14 (.mov (ot 9)),
 oo 15 (.cmp .lss (ot 13) (ot 14))])
 (.cond (ot 15)
 .skip
 (.exit 0)))
 (.block 1
 (.seq
 (.regd [] [oo 16 (.mov (ot 0)),
 oo 17 (.mov (ot 8)),
 oo 18 (.mov (ot 0)),
 oo 19 (.mov (ot 9)),
 oo 20 (.mov (ot 0)),
 oo 21 (.mov (ot 9)),
 oo 22 (.ixa 4 (ot 20) (ot 21)),
 oo 23 (.ld true 4 (ot 22)),
 oo 24 (.mov (ot 0)),
 oo 25 (.mov (ot 8)),
 oo 26 (.ixa 4 (ot 24) (ot 25)),
 oo 27 (.ld true 4 (ot 26)),
 oo 28 (.ixa 4 (ot 16) (ot 17)),
 ⟨none,.st 4 (ot 28) (ot 23),none⟩,
 oo 29 (.ixa 4 (ot 18) (ot 19)),
 ⟨none,.st 4 (ot 29) (ot 27),none⟩] [(0,1),(0,2),(1,2),(0,3),(1,3),(2,3),(0,4),(1,4),(2,4),(3,4),(0,5),(1,5),(2,5),(3,5),(4,5),(0,6),(1,6),(2,6),(3,6),(0,7),(1,7),(2,7),(3,7),(0,8),(1,8),(2,8),(3,8),(4,8),(5,8),(6,8),(7,8),(0,9),(1,9),(2,9),(3,9),(4,9),(5,9),(6,9),(7,9),(8,9),(0,10),(1,10),(2,10),(3,10),(4,10),(5,10),(6,10),(7,10),(0,11),(1,11),(2,11),(3,11),(4,11),(5,11),(6,11),(7,11),(2,12),(3,12),(2,13),(3,13)])
 (.seq
 (.reg [] [oo 30 (.mov (ot 8)),
 oo 31 (.arith .add .i64 (ot 30) (.cst (.d (.int .i64 1)))),
 oo 8 (.mov (ot 31))])
 (.reg [] [oo 32 (.mov (ot 9)),
 oo 33 (.arith .sub .i64 (ot 32) (.cst (.d (.int .i64 1)))),
 oo 9 (.mov (ot 33))]))))))))))))⟩
def tx206:AFun:=⟨141,40,[.tmp 8],
 (.seq
 (.reg [] [oo 8 (.mov (.cst (.d (.bool false))))])
 (.seq
 (.reg [] [oo 13 (.mov (ot 1)),
 oo 14 (.arith .add .i64 (ot 13) (.cst (.d (.int .i64 1)))),
 oo 9 (.mov (ot 14))])
 (.seq
 (.seq
 (.reg [] [oo 10 (.mov (.cst (.d (.int .i64 0))))])
 (.post [] []
 (.block 0
 (.keep [0,1,2,3,9,10] []
 (.loop
 (.post [0,1,2,3,9,10] []
 (.seq
 (.seq
 (.reg [] [oo 15 (.mov (ot 10)),
 oo 16 (.cmp .lss (ot 15) (.cst (.d (.int .i64 5))))])
 (.cond (ot 16)
 .skip
 (.exit 0)))
 (.seq
 (.block 1
 (.seq
 (.post [0,1,2,3,9,10] []
 (.block 2
 (.keep [0,1,2,3,9,10] []
 (.loop
 (.post [0,1,2,3,9,10] []
 (.seq
 (.seq
 (.regd [] [oo 19 (.mov (ot 9)),
 oo 20 (.mov (ot 2)),
 oo 21 (.cmp .lss (ot 19) (ot 20)),
 oo 22 (.mov (ot 21)),
 ⟨some 23,.mov (ot 3),some (22,true)⟩,
 ⟨some 24,.mov (ot 0),some (22,true)⟩,
 ⟨some 25,.mov (ot 9),some (22,true)⟩,
 ⟨some 26,.ixa 4 (ot 24) (ot 25),some (22,true)⟩,
 ⟨some 27,.ld true 4 (ot 26),some (22,true)⟩,
 ⟨some 28,.mov (ot 0),some (22,true)⟩,
 ⟨some 29,.mov (ot 9),some (22,true)⟩,
 ⟨some 30,.arith .sub .i64 (ot 29) (.cst (.d (.int .i64 1))),some (22,true)⟩,
 ⟨some 31,.ixa 4 (ot 28) (ot 30),some (22,true)⟩,
 ⟨some 32,.ld true 4 (ot 31),some (22,true)⟩,
 ⟨some 33,.callv (ot 23) [(ot 27),(ot 32)],some (22,true)⟩,
 ⟨some 34,.cmp .lss (ot 33) (.cst (.d (.int .i64 0))),some (22,true)⟩,
 ⟨some 35,.not (ot 34),some (22,true)⟩,
 oo 36 (.pick (ot 22) (ot 35) (.cst (.d (.bool false))))] [(0,1),(4,5),(4,6),(5,6),(4,7),(4,8),(4,9),(5,9),(6,9),(7,9),(8,9),(4,10),(5,10),(6,10),(7,10),(8,10),(9,10),(4,11),(5,11),(6,11),(7,11),(8,11),(9,11),(4,12),(5,12),(6,12),(7,12),(8,12),(4,13),(5,13),(6,13),(7,13),(8,13)])
 (.cond (ot 36)
 .skip
 (.exit 2)))
 (.block 3
 (.reg [] [oo 37 (.mov (ot 9)),
 oo 38 (.arith .add .i64 (ot 37) (.cst (.d (.int .i64 1)))),
 oo 9 (.mov (ot 38))]))))))))
 (.seq
 (.seq
 (.reg [] [oo 39 (.mov (ot 9)),
 oo 40 (.mov (ot 2)),
 oo 41 (.cmp .eql (ot 39) (ot 40))])
 (.cond (ot 41)
 (.seq
 (.reg [] [oo 8 (.mov (.cst (.d (.bool true))))])
 .ret)
 .skip))
 (.seq
 (.seq
 (.reg [] [oo 42 (.mov (ot 2)),
 oo 43 (.mov (ot 1)),
 oo 44 (.arith .sub .i64 (ot 42) (ot 43)),
 oo 45 (.cmp .lss (ot 44) (.cst (.d (.int .i64 50))))])
 (.cond (ot 45)
 (.seq
 (.reg [] [oo 8 (.mov (.cst (.d (.bool false))))])
 .ret)
 .skip))
 (.seq
 (.regd [] [oo 46 (.mov (ot 0)),
 oo 47 (.mov (ot 9)),
 oo 48 (.mov (ot 0)),
 oo 49 (.mov (ot 9)),
 oo 50 (.arith .sub .i64 (ot 49) (.cst (.d (.int .i64 1)))),
 oo 51 (.mov (ot 0)),
 oo 52 (.mov (ot 9)),
 oo 53 (.arith .sub .i64 (ot 52) (.cst (.d (.int .i64 1)))),
 oo 54 (.ixa 4 (ot 51) (ot 53)),
 oo 55 (.ld true 4 (ot 54)),
 oo 56 (.mov (ot 0)),
 oo 57 (.mov (ot 9)),
 oo 58 (.ixa 4 (ot 56) (ot 57)),
 oo 59 (.ld true 4 (ot 58)),
 oo 60 (.ixa 4 (ot 46) (ot 47)),
 ⟨none,.st 4 (ot 60) (ot 55),none⟩,
 oo 61 (.ixa 4 (ot 48) (ot 50)),
 ⟨none,.st 4 (ot 61) (ot 59),none⟩] [(0,1),(0,2),(1,2),(0,3),(1,3),(2,3),(0,4),(1,4),(2,4),(0,5),(1,5),(2,5),(3,5),(4,5),(0,6),(1,6),(2,6),(3,6),(4,6),(5,6),(0,7),(1,7),(2,7),(3,7),(4,7),(5,7),(0,8),(1,8),(2,8),(3,8),(4,8),(0,9),(1,9),(2,9),(3,9),(4,9),(0,10),(1,10),(2,10),(3,10),(4,10),(5,10),(6,10),(7,10),(8,10),(9,10),(0,11),(1,11),(2,11),(3,11),(4,11),(5,11),(6,11),(7,11),(8,11),(9,11),(10,11),(0,12),(1,12),(2,12),(3,12),(4,12),(5,12),(6,12),(7,12),(8,12),(9,12),(0,13),(1,13),(2,13),(3,13),(4,13),(5,13),(6,13),(7,13),(8,13),(9,13),(2,14),(3,14),(4,14),(2,15),(3,15),(4,15)])
 (.seq
 (.seq
 (.reg [] [oo 62 (.mov (ot 9)),
 oo 63 (.mov (ot 1)),
 oo 64 (.arith .sub .i64 (ot 62) (ot 63)),
 oo 65 (.cmp .geq (ot 64) (.cst (.d (.int .i64 2))))])
 (.cond (ot 65)
 (.seq
 (.reg [] [oo 66 (.mov (ot 9)),
 oo 67 (.arith .sub .i64 (ot 66) (.cst (.d (.int .i64 1)))),
 oo 11 (.mov (ot 67))])
 (.post [0,1,2,3,9,10] []
 (.block 4
 (.keep [0,1,2,3,9,10,11] []
 (.loop
 (.post [0,1,2,3,9,10,11] []
 (.seq
 (.seq
 (.reg [] [oo 68 (.mov (ot 11)),
 oo 69 (.cmp .geq (ot 68) (.cst (.d (.int .i64 1))))])
 (.cond (ot 69)
 .skip
 (.exit 4)))
 (.seq
 (.block 5
 (.seq
 (.seq
 (.regd [] [oo 72 (.mov (ot 3)),
 oo 73 (.mov (ot 0)),
 oo 74 (.mov (ot 11)),
 oo 75 (.ixa 4 (ot 73) (ot 74)),
 oo 76 (.ld true 4 (ot 75)),
 oo 77 (.mov (ot 0)),
 oo 78 (.mov (ot 11)),
 oo 79 (.arith .sub .i64 (ot 78) (.cst (.d (.int .i64 1)))),
 oo 80 (.ixa 4 (ot 77) (ot 79)),
 oo 81 (.ld true 4 (ot 80)),
 oo 82 (.callv (ot 72) [(ot 76),(ot 81)]),
 oo 83 (.cmp .lss (ot 82) (.cst (.d (.int .i64 0)))),
 oo 84 (.not (ot 83))] [(0,1),(0,2),(1,2),(0,3),(0,4),(0,5),(1,5),(2,5),(3,5),(4,5),(0,6),(1,6),(2,6),(3,6),(4,6),(5,6),(0,7),(1,7),(2,7),(3,7),(4,7),(5,7),(0,8),(1,8),(2,8),(3,8),(4,8),(0,9),(1,9),(2,9),(3,9),(4,9)])
 (.cond (ot 84)
 (.exit 4)
 .skip))
 (.regd [] [oo 85 (.mov (ot 0)),
 oo 86 (.mov (ot 11)),
 oo 87 (.mov (ot 0)),
 oo 88 (.mov (ot 11)),
 oo 89 (.arith .sub .i64 (ot 88) (.cst (.d (.int .i64 1)))),
 oo 90 (.mov (ot 0)),
 oo 91 (.mov (ot 11)),
 oo 92 (.arith .sub .i64 (ot 91) (.cst (.d (.int .i64 1)))),
 oo 93 (.ixa 4 (ot 90) (ot 92)),
 oo 94 (.ld true 4 (ot 93)),
 oo 95 (.mov (ot 0)),
 oo 96 (.mov (ot 11)),
 oo 97 (.ixa 4 (ot 95) (ot 96)),
 oo 98 (.ld true 4 (ot 97)),
 oo 99 (.ixa 4 (ot 85) (ot 86)),
 ⟨none,.st 4 (ot 99) (ot 94),none⟩,
 oo 100 (.ixa 4 (ot 87) (ot 89)),
 ⟨none,.st 4 (ot 100) (ot 98),none⟩] [(0,1),(0,2),(1,2),(0,3),(1,3),(2,3),(0,4),(1,4),(2,4),(0,5),(1,5),(2,5),(3,5),(4,5),(0,6),(1,6),(2,6),(3,6),(4,6),(5,6),(0,7),(1,7),(2,7),(3,7),(4,7),(5,7),(0,8),(1,8),(2,8),(3,8),(4,8),(0,9),(1,9),(2,9),(3,9),(4,9),(0,10),(1,10),(2,10),(3,10),(4,10),(5,10),(6,10),(7,10),(8,10),(9,10),(0,11),(1,11),(2,11),(3,11),(4,11),(5,11),(6,11),(7,11),(8,11),(9,11),(10,11),(0,12),(1,12),(2,12),(3,12),(4,12),(5,12),(6,12),(7,12),(8,12),(9,12),(0,13),(1,13),(2,13),(3,13),(4,13),(5,13),(6,13),(7,13),(8,13),(9,13),(2,14),(3,14),(4,14),(2,15),(3,15),(4,15)])))
 (.reg [] [oo 70 (.mov (ot 11)),
 oo 71 (.arith .sub .i64 (ot 70) (.cst (.d (.int .i64 1)))),
 oo 11 (.mov (ot 71))])))))))))
 .skip))
 (.seq
 (.reg [] [oo 101 (.mov (ot 2)),
 oo 102 (.mov (ot 9)),
 oo 103 (.arith .sub .i64 (ot 101) (ot 102)),
 oo 104 (.cmp .geq (ot 103) (.cst (.d (.int .i64 2))))])
 (.cond (ot 104)
 (.seq
 (.reg [] [oo 105 (.mov (ot 9)),
 oo 106 (.arith .add .i64 (ot 105) (.cst (.d (.int .i64 1)))),
 oo 12 (.mov (ot 106))])
 (.post [0,1,2,3,9,10] []
 (.block 6
 (.keep [0,1,2,3,9,10,12] []
 (.loop
 (.post [0,1,2,3,9,10,12] []
 (.seq
 (.seq
 (.reg [] [oo 107 (.mov (ot 12)),
 oo 108 (.mov (ot 2)),
 oo 109 (.cmp .lss (ot 107) (ot 108))])
 (.cond (ot 109)
 .skip
 (.exit 6)))
 (.seq
 (.block 7
 (.seq
 (.seq
 (.regd [] [oo 112 (.mov (ot 3)),
 oo 113 (.mov (ot 0)),
 oo 114 (.mov (ot 12)),
 oo 115 (.ixa 4 (ot 113) (ot 114)),
 oo 116 (.ld true 4 (ot 115)),
 oo 117 (.mov (ot 0)),
 oo 118 (.mov (ot 12)),
 oo 119 (.arith .sub .i64 (ot 118) (.cst (.d (.int .i64 1)))),
 oo 120 (.ixa 4 (ot 117) (ot 119)),
 oo 121 (.ld true 4 (ot 120)),
 oo 122 (.callv (ot 112) [(ot 116),(ot 121)]),
 oo 123 (.cmp .lss (ot 122) (.cst (.d (.int .i64 0)))),
 oo 124 (.not (ot 123))] [(0,1),(0,2),(1,2),(0,3),(0,4),(0,5),(1,5),(2,5),(3,5),(4,5),(0,6),(1,6),(2,6),(3,6),(4,6),(5,6),(0,7),(1,7),(2,7),(3,7),(4,7),(5,7),(0,8),(1,8),(2,8),(3,8),(4,8),(0,9),(1,9),(2,9),(3,9),(4,9)])
 (.cond (ot 124)
 (.exit 6)
 .skip))
 (.regd [] [oo 125 (.mov (ot 0)),
 oo 126 (.mov (ot 12)),
 oo 127 (.mov (ot 0)),
 oo 128 (.mov (ot 12)),
 oo 129 (.arith .sub .i64 (ot 128) (.cst (.d (.int .i64 1)))),
 oo 130 (.mov (ot 0)),
 oo 131 (.mov (ot 12)),
 oo 132 (.arith .sub .i64 (ot 131) (.cst (.d (.int .i64 1)))),
 oo 133 (.ixa 4 (ot 130) (ot 132)),
 oo 134 (.ld true 4 (ot 133)),
 oo 135 (.mov (ot 0)),
 oo 136 (.mov (ot 12)),
 oo 137 (.ixa 4 (ot 135) (ot 136)),
 oo 138 (.ld true 4 (ot 137)),
 oo 139 (.ixa 4 (ot 125) (ot 126)),
 ⟨none,.st 4 (ot 139) (ot 134),none⟩,
 oo 140 (.ixa 4 (ot 127) (ot 129)),
 ⟨none,.st 4 (ot 140) (ot 138),none⟩] [(0,1),(0,2),(1,2),(0,3),(1,3),(2,3),(0,4),(1,4),(2,4),(0,5),(1,5),(2,5),(3,5),(4,5),(0,6),(1,6),(2,6),(3,6),(4,6),(5,6),(0,7),(1,7),(2,7),(3,7),(4,7),(5,7),(0,8),(1,8),(2,8),(3,8),(4,8),(0,9),(1,9),(2,9),(3,9),(4,9),(0,10),(1,10),(2,10),(3,10),(4,10),(5,10),(6,10),(7,10),(8,10),(9,10),(0,11),(1,11),(2,11),(3,11),(4,11),(5,11),(6,11),(7,11),(8,11),(9,11),(10,11),(0,12),(1,12),(2,12),(3,12),(4,12),(5,12),(6,12),(7,12),(8,12),(9,12),(0,13),(1,13),(2,13),(3,13),(4,13),(5,13),(6,13),(7,13),(8,13),(9,13),(2,14),(3,14),(4,14),(2,15),(3,15),(4,15)])))
 (.reg [] [oo 110 (.mov (ot 12)),
 oo 111 (.arith .add .i64 (ot 110) (.cst (.d (.int .i64 1)))),
 oo 12 (.mov (ot 111))])))))))))
 .skip))))))))
 (.reg [] [oo 17 (.mov (ot 10)),
 oo 18 (.arith .add .i64 (ot 17) (.cst (.d (.int .i64 1)))),
 oo 10 (.mov (ot 18))])))))))))
 (.seq
 (.reg [] [oo 8 (.mov (.cst (.d (.bool false))))])
 .ret))))⟩
def tx207:AFun:=⟨90,40,[.tmp 10],
 (.seq
 (.reg [] [oo 10 (.mov (.cst (.d (.int .i64 0))))])
 (.seq
 (.regd [] [oo 13 (.mov (ot 0)),
 oo 14 (.mov (ot 1)),
 oo 15 (.mov (ot 0)),
 oo 16 (.mov (ot 3)),
 oo 17 (.mov (ot 0)),
 oo 18 (.mov (ot 3)),
 oo 19 (.ixa 4 (ot 17) (ot 18)),
 oo 20 (.ld true 4 (ot 19)),
 oo 21 (.mov (ot 0)),
 oo 22 (.mov (ot 1)),
 oo 23 (.ixa 4 (ot 21) (ot 22)),
 oo 24 (.ld true 4 (ot 23)),
 oo 25 (.ixa 4 (ot 13) (ot 14)),
 ⟨none,.st 4 (ot 25) (ot 20),none⟩,
 oo 26 (.ixa 4 (ot 15) (ot 16)),
 ⟨none,.st 4 (ot 26) (ot 24),none⟩] [(0,1),(0,2),(1,2),(0,3),(1,3),(2,3),(0,4),(1,4),(2,4),(3,4),(0,5),(1,5),(2,5),(3,5),(4,5),(0,6),(1,6),(2,6),(3,6),(0,7),(1,7),(2,7),(3,7),(0,8),(1,8),(2,8),(3,8),(4,8),(5,8),(6,8),(7,8),(0,9),(1,9),(2,9),(3,9),(4,9),(5,9),(6,9),(7,9),(8,9),(0,10),(1,10),(2,10),(3,10),(4,10),(5,10),(6,10),(7,10),(0,11),(1,11),(2,11),(3,11),(4,11),(5,11),(6,11),(7,11),(2,12),(3,12),(2,13),(3,13)])
 (.seq
 (.reg [] [oo 27 (.mov (ot 1)),
 oo 28 (.arith .add .i64 (ot 27) (.cst (.d (.int .i64 1)))),
 oo 29 (.mov (ot 2)),
 oo 30 (.arith .sub .i64 (ot 29) (.cst (.d (.int .i64 1)))),
 oo 11 (.mov (ot 28)),
 oo 12 (.mov (ot 30))])
 (.seq
 (.post [11] []
 (.block 0
 (.keep [0,1,4,11,12] []
 (.loop
 (.post [0,1,4,11,12] []
 (.block 1
 (.seq
 (.post [0,1,4,11,12] []
 (.block 2
 (.keep [0,1,4,11,12] []
 (.loop
 (.post [0,1,4,11,12] []
 (.seq
 (.seq
 (.regd [] [oo 31 (.mov (ot 11)),
 oo 32 (.mov (ot 12)),
 oo 33 (.cmp .leq (ot 31) (ot 32)),
 oo 34 (.mov (ot 33)),
 ⟨some 35,.mov (ot 4),some (34,true)⟩,
 ⟨some 36,.mov (ot 0),some (34,true)⟩,
 ⟨some 37,.mov (ot 1),some (34,true)⟩,
 ⟨some 38,.ixa 4 (ot 36) (ot 37),some (34,true)⟩,
 ⟨some 39,.ld true 4 (ot 38),some (34,true)⟩,
 ⟨some 40,.mov (ot 0),some (34,true)⟩,
 ⟨some 41,.mov (ot 11),some (34,true)⟩,
 ⟨some 42,.ixa 4 (ot 40) (ot 41),some (34,true)⟩,
 ⟨some 43,.ld true 4 (ot 42),some (34,true)⟩,
 ⟨some 44,.callv (ot 35) [(ot 39),(ot 43)],some (34,true)⟩,
 ⟨some 45,.cmp .lss (ot 44) (.cst (.d (.int .i64 0))),some (34,true)⟩,
 ⟨some 46,.not (ot 45),some (34,true)⟩,
 oo 47 (.pick (ot 34) (ot 46) (.cst (.d (.bool false))))] [(0,1),(4,5),(4,6),(5,6),(4,7),(4,8),(4,9),(5,9),(6,9),(7,9),(8,9),(4,10),(5,10),(6,10),(7,10),(8,10),(9,10),(4,11),(5,11),(6,11),(7,11),(8,11),(4,12),(5,12),(6,12),(7,12),(8,12)])
 (.cond (ot 47)
 .skip
 (.exit 2)))
 (.block 3
 (.reg [] [oo 48 (.mov (ot 11)),
 oo 49 (.arith .add .i64 (ot 48) (.cst (.d (.int .i64 1)))),
 oo 11 (.mov (ot 49))]))))))))
 (.seq
 (.post [0,1,4,11,12] []
 (.block 4
 (.keep [0,1,4,11,12] []
 (.loop
 (.post [0,1,4,11,12] []
 (.seq
 (.seq
 (.regd [] [oo 50 (.mov (ot 11)),
 oo 51 (.mov (ot 12)),
 oo 52 (.cmp .leq (ot 50) (ot 51)),
 oo 53 (.mov (ot 52)),
 ⟨some 54,.mov (ot 4),some (53,true)⟩,
 ⟨some 55,.mov (ot 0),some (53,true)⟩,
 ⟨some 56,.mov (ot 1),some (53,true)⟩,
 ⟨some 57,.ixa 4 (ot 55) (ot 56),some (53,true)⟩,
 ⟨some 58,.ld true 4 (ot 57),some (53,true)⟩,
 ⟨some 59,.mov (ot 0),some (53,true)⟩,
 ⟨some 60,.mov (ot 12),some (53,true)⟩,
 ⟨some 61,.ixa 4 (ot 59) (ot 60),some (53,true)⟩,
 ⟨some 62,.ld true 4 (ot 61),some (53,true)⟩,
 ⟨some 63,.callv (ot 54) [(ot 58),(ot 62)],some (53,true)⟩,
 ⟨some 64,.cmp .lss (ot 63) (.cst (.d (.int .i64 0))),some (53,true)⟩,
 oo 65 (.pick (ot 53) (ot 64) (.cst (.d (.bool false))))] [(0,1),(4,5),(4,6),(5,6),(4,7),(4,8),(4,9),(5,9),(6,9),(7,9),(8,9),(4,10),(5,10),(6,10),(7,10),(8,10),(9,10),(4,11),(5,11),(6,11),(7,11),(8,11),(4,12),(5,12),(6,12),(7,12),(8,12)])
 (.cond (ot 65)
 .skip
 (.exit 4)))
 (.block 5
 (.reg [] [oo 66 (.mov (ot 12)),
 oo 67 (.arith .sub .i64 (ot 66) (.cst (.d (.int .i64 1)))),
 oo 12 (.mov (ot 67))]))))))))
 (.seq
 (.seq
 (.reg [] [oo 68 (.mov (ot 11)),
 oo 69 (.mov (ot 12)),
 oo 70 (.cmp .gtr (ot 68) (ot 69))])
 (.cond (ot 70)
 (.exit 0)
 .skip))
 (.seq
 (.regd [] [oo 71 (.mov (ot 0)),
 oo 72 (.mov (ot 11)),
 oo 73 (.mov (ot 0)),
 oo 74 (.mov (ot 12)),
 oo 75 (.mov (ot 0)),
 oo 76 (.mov (ot 12)),
 oo 77 (.ixa 4 (ot 75) (ot 76)),
 oo 78 (.ld true 4 (ot 77)),
 oo 79 (.mov (ot 0)),
 oo 80 (.mov (ot 11)),
 oo 81 (.ixa 4 (ot 79) (ot 80)),
 oo 82 (.ld true 4 (ot 81)),
 oo 83 (.ixa 4 (ot 71) (ot 72)),
 ⟨none,.st 4 (ot 83) (ot 78),none⟩,
 oo 84 (.ixa 4 (ot 73) (ot 74)),
 ⟨none,.st 4 (ot 84) (ot 82),none⟩] [(0,1),(0,2),(1,2),(0,3),(1,3),(2,3),(0,4),(1,4),(2,4),(3,4),(0,5),(1,5),(2,5),(3,5),(4,5),(0,6),(1,6),(2,6),(3,6),(0,7),(1,7),(2,7),(3,7),(0,8),(1,8),(2,8),(3,8),(4,8),(5,8),(6,8),(7,8),(0,9),(1,9),(2,9),(3,9),(4,9),(5,9),(6,9),(7,9),(8,9),(0,10),(1,10),(2,10),(3,10),(4,10),(5,10),(6,10),(7,10),(0,11),(1,11),(2,11),(3,11),(4,11),(5,11),(6,11),(7,11),(2,12),(3,12),(2,13),(3,13)])
 (.seq
 (.reg [] [oo 85 (.mov (ot 11)),
 oo 86 (.arith .add .i64 (ot 85) (.cst (.d (.int .i64 1)))),
 oo 11 (.mov (ot 86))])
 (.reg [] [oo 87 (.mov (ot 12)),
 oo 88 (.arith .sub .i64 (ot 87) (.cst (.d (.int .i64 1)))),
 oo 12 (.mov (ot 88))]))))))))))))
 (.seq
 (.reg [] [oo 89 (.mov (ot 11)),
 oo 10 (.mov (ot 89))])
 .ret)))))⟩
def tx208:AFun:=⟨178,40,[.tmp 10,.tmp 11],
 (.seq
 (.reg [] [oo 10 (.mov (.cst (.d (.int .i64 0)))),
 oo 11 (.mov (.cst (.d (.bool false))))])
 (.seq
 (.regd [] [oo 14 (.mov (ot 0)),
 oo 15 (.mov (ot 1)),
 oo 16 (.mov (ot 0)),
 oo 17 (.mov (ot 3)),
 oo 18 (.mov (ot 0)),
 oo 19 (.mov (ot 3)),
 oo 20 (.ixa 4 (ot 18) (ot 19)),
 oo 21 (.ld true 4 (ot 20)),
 oo 22 (.mov (ot 0)),
 oo 23 (.mov (ot 1)),
 oo 24 (.ixa 4 (ot 22) (ot 23)),
 oo 25 (.ld true 4 (ot 24)),
 oo 26 (.ixa 4 (ot 14) (ot 15)),
 ⟨none,.st 4 (ot 26) (ot 21),none⟩,
 oo 27 (.ixa 4 (ot 16) (ot 17)),
 ⟨none,.st 4 (ot 27) (ot 25),none⟩] [(0,1),(0,2),(1,2),(0,3),(1,3),(2,3),(0,4),(1,4),(2,4),(3,4),(0,5),(1,5),(2,5),(3,5),(4,5),(0,6),(1,6),(2,6),(3,6),(0,7),(1,7),(2,7),(3,7),(0,8),(1,8),(2,8),(3,8),(4,8),(5,8),(6,8),(7,8),(0,9),(1,9),(2,9),(3,9),(4,9),(5,9),(6,9),(7,9),(8,9),(0,10),(1,10),(2,10),(3,10),(4,10),(5,10),(6,10),(7,10),(0,11),(1,11),(2,11),(3,11),(4,11),(5,11),(6,11),(7,11),(2,12),(3,12),(2,13),(3,13)])
 (.seq
 (.reg [] [oo 28 (.mov (ot 1)),
 oo 29 (.arith .add .i64 (ot 28) (.cst (.d (.int .i64 1)))),
 oo 30 (.mov (ot 2)),
 oo 31 (.arith .sub .i64 (ot 30) (.cst (.d (.int .i64 1)))),
 oo 12 (.mov (ot 29)),
 oo 13 (.mov (ot 31))])
 (.seq
 (.post [0,1,4,12,13] []
 (.block 0
 (.keep [0,1,4,12,13] []
 (.loop
 (.post [0,1,4,12,13] []
 (.seq
 (.seq
 (.regd [] [oo 32 (.mov (ot 12)),
 oo 33 (.mov (ot 13)),
 oo 34 (.cmp .leq (ot 32) (ot 33)),
 oo 35 (.mov (ot 34)),
 ⟨some 36,.mov (ot 4),some (35,true)⟩,
 ⟨some 37,.mov (ot 0),some (35,true)⟩,
 ⟨some 38,.mov (ot 12),some (35,true)⟩,
 ⟨some 39,.ixa 4 (ot 37) (ot 38),some (35,true)⟩,
 ⟨some 40,.ld true 4 (ot 39),some (35,true)⟩,
 ⟨some 41,.mov (ot 0),some (35,true)⟩,
 ⟨some 42,.mov (ot 1),some (35,true)⟩,
 ⟨some 43,.ixa 4 (ot 41) (ot 42),some (35,true)⟩,
 ⟨some 44,.ld true 4 (ot 43),some (35,true)⟩,
 ⟨some 45,.callv (ot 36) [(ot 40),(ot 44)],some (35,true)⟩,
 ⟨some 46,.cmp .lss (ot 45) (.cst (.d (.int .i64 0))),some (35,true)⟩,
 oo 47 (.pick (ot 35) (ot 46) (.cst (.d (.bool false))))] [(0,1),(4,5),(4,6),(5,6),(4,7),(4,8),(4,9),(5,9),(6,9),(7,9),(8,9),(4,10),(5,10),(6,10),(7,10),(8,10),(9,10),(4,11),(5,11),(6,11),(7,11),(8,11),(4,12),(5,12),(6,12),(7,12),(8,12)])
 (.cond (ot 47)
 .skip
 (.exit 0)))
 (.block 1
 (.reg [] [oo 48 (.mov (ot 12)),
 oo 49 (.arith .add .i64 (ot 48) (.cst (.d (.int .i64 1)))),
 oo 12 (.mov (ot 49))]))))))))
 (.seq
 (.post [0,1,4,12,13] []
 (.block 2
 (.keep [0,1,4,12,13] []
 (.loop
 (.post [0,1,4,12,13] []
 (.seq
 (.seq
 (.regd [] [oo 50 (.mov (ot 12)),
 oo 51 (.mov (ot 13)),
 oo 52 (.cmp .leq (ot 50) (ot 51)),
 oo 53 (.mov (ot 52)),
 ⟨some 54,.mov (ot 4),some (53,true)⟩,
 ⟨some 55,.mov (ot 0),some (53,true)⟩,
 ⟨some 56,.mov (ot 13),some (53,true)⟩,
 ⟨some 57,.ixa 4 (ot 55) (ot 56),some (53,true)⟩,
 ⟨some 58,.ld true 4 (ot 57),some (53,true)⟩,
 ⟨some 59,.mov (ot 0),some (53,true)⟩,
 ⟨some 60,.mov (ot 1),some (53,true)⟩,
 ⟨some 61,.ixa 4 (ot 59) (ot 60),some (53,true)⟩,
 ⟨some 62,.ld true 4 (ot 61),some (53,true)⟩,
 ⟨some 63,.callv (ot 54) [(ot 58),(ot 62)],some (53,true)⟩,
 ⟨some 64,.cmp .lss (ot 63) (.cst (.d (.int .i64 0))),some (53,true)⟩,
 ⟨some 65,.not (ot 64),some (53,true)⟩,
 oo 66 (.pick (ot 53) (ot 65) (.cst (.d (.bool false))))] [(0,1),(4,5),(4,6),(5,6),(4,7),(4,8),(4,9),(5,9),(6,9),(7,9),(8,9),(4,10),(5,10),(6,10),(7,10),(8,10),(9,10),(4,11),(5,11),(6,11),(7,11),(8,11),(4,12),(5,12),(6,12),(7,12),(8,12)])
 (.cond (ot 66)
 .skip
 (.exit 2)))
 (.block 3
 (.reg [] [oo 67 (.mov (ot 13)),
 oo 68 (.arith .sub .i64 (ot 67) (.cst (.d (.int .i64 1)))),
 oo 13 (.mov (ot 68))]))))))))
 (.seq
 (.seq
 (.reg [] [oo 69 (.mov (ot 12)),
 oo 70 (.mov (ot 13)),
 oo 71 (.cmp .gtr (ot 69) (ot 70))])
 (.cond (ot 71)
 (.seq
 (.regd [] [oo 72 (.mov (ot 0)),
 oo 73 (.mov (ot 13)),
 oo 74 (.mov (ot 0)),
 oo 75 (.mov (ot 1)),
 oo 76 (.mov (ot 0)),
 oo 77 (.mov (ot 1)),
 oo 78 (.ixa 4 (ot 76) (ot 77)),
 oo 79 (.ld true 4 (ot 78)),
 oo 80 (.mov (ot 0)),
 oo 81 (.mov (ot 13)),
 oo 82 (.ixa 4 (ot 80) (ot 81)),
 oo 83 (.ld true 4 (ot 82)),
 oo 84 (.ixa 4 (ot 72) (ot 73)),
 ⟨none,.st 4 (ot 84) (ot 79),none⟩,
 oo 85 (.ixa 4 (ot 74) (ot 75)),
 ⟨none,.st 4 (ot 85) (ot 83),none⟩] [(0,1),(0,2),(1,2),(0,3),(1,3),(2,3),(0,4),(1,4),(2,4),(3,4),(0,5),(1,5),(2,5),(3,5),(4,5),(0,6),(1,6),(2,6),(3,6),(0,7),(1,7),(2,7),(3,7),(0,8),(1,8),(2,8),(3,8),(4,8),(5,8),(6,8),(7,8),(0,9),(1,9),(2,9),(3,9),(4,9),(5,9),(6,9),(7,9),(8,9),(0,10),(1,10),(2,10),(3,10),(4,10),(5,10),(6,10),(7,10),(0,11),(1,11),(2,11),(3,11),(4,11),(5,11),(6,11),(7,11),(2,12),(3,12),(2,13),(3,13)])
 (.seq
 (.reg [] [oo 86 (.mov (ot 13)),
 oo 10 (.mov (ot 86)),
 oo 11 (.mov (.cst (.d (.bool true))))])
 .ret))
 .skip))
 (.seq
 (.regd [] [oo 87 (.mov (ot 0)),
 oo 88 (.mov (ot 12)),
 oo 89 (.mov (ot 0)),
 oo 90 (.mov (ot 13)),
 oo 91 (.mov (ot 0)),
 oo 92 (.mov (ot 13)),
 oo 93 (.ixa 4 (ot 91) (ot 92)),
 oo 94 (.ld true 4 (ot 93)),
 oo 95 (.mov (ot 0)),
 oo 96 (.mov (ot 12)),
 oo 97 (.ixa 4 (ot 95) (ot 96)),
 oo 98 (.ld true 4 (ot 97)),
 oo 99 (.ixa 4 (ot 87) (ot 88)),
 ⟨none,.st 4 (ot 99) (ot 94),none⟩,
 oo 100 (.ixa 4 (ot 89) (ot 90)),
 ⟨none,.st 4 (ot 100) (ot 98),none⟩] [(0,1),(0,2),(1,2),(0,3),(1,3),(2,3),(0,4),(1,4),(2,4),(3,4),(0,5),(1,5),(2,5),(3,5),(4,5),(0,6),(1,6),(2,6),(3,6),(0,7),(1,7),(2,7),(3,7),(0,8),(1,8),(2,8),(3,8),(4,8),(5,8),(6,8),(7,8),(0,9),(1,9),(2,9),(3,9),(4,9),(5,9),(6,9),(7,9),(8,9),(0,10),(1,10),(2,10),(3,10),(4,10),(5,10),(6,10),(7,10),(0,11),(1,11),(2,11),(3,11),(4,11),(5,11),(6,11),(7,11),(2,12),(3,12),(2,13),(3,13)])
 (.seq
 (.reg [] [oo 101 (.mov (ot 12)),
 oo 102 (.arith .add .i64 (ot 101) (.cst (.d (.int .i64 1)))),
 oo 12 (.mov (ot 102))])
 (.seq
 (.reg [] [oo 103 (.mov (ot 13)),
 oo 104 (.arith .sub .i64 (ot 103) (.cst (.d (.int .i64 1)))),
 oo 13 (.mov (ot 104))])
 (.seq
 (.post [0,1,13] []
 (.block 4
 (.keep [0,1,4,12,13] []
 (.loop
 (.post [0,1,4,12,13] []
 (.block 5
 (.seq
 (.post [0,1,4,12,13] []
 (.block 6
 (.keep [0,1,4,12,13] []
 (.loop
 (.post [0,1,4,12,13] []
 (.seq
 (.seq
 (.regd [] [oo 105 (.mov (ot 12)),
 oo 106 (.mov (ot 13)),
 oo 107 (.cmp .leq (ot 105) (ot 106)),
 oo 108 (.mov (ot 107)),
 ⟨some 109,.mov (ot 4),some (108,true)⟩,
 ⟨some 110,.mov (ot 0),some (108,true)⟩,
 ⟨some 111,.mov (ot 12),some (108,true)⟩,
 ⟨some 112,.ixa 4 (ot 110) (ot 111),some (108,true)⟩,
 ⟨some 113,.ld true 4 (ot 112),some (108,true)⟩,
 ⟨some 114,.mov (ot 0),some (108,true)⟩,
 ⟨some 115,.mov (ot 1),some (108,true)⟩,
 ⟨some 116,.ixa 4 (ot 114) (ot 115),some (108,true)⟩,
 ⟨some 117,.ld true 4 (ot 116),some (108,true)⟩,
 ⟨some 118,.callv (ot 109) [(ot 113),(ot 117)],some (108,true)⟩,
 ⟨some 119,.cmp .lss (ot 118) (.cst (.d (.int .i64 0))),some (108,true)⟩,
 oo 120 (.pick (ot 108) (ot 119) (.cst (.d (.bool false))))] [(0,1),(4,5),(4,6),(5,6),(4,7),(4,8),(4,9),(5,9),(6,9),(7,9),(8,9),(4,10),(5,10),(6,10),(7,10),(8,10),(9,10),(4,11),(5,11),(6,11),(7,11),(8,11),(4,12),(5,12),(6,12),(7,12),(8,12)])
 (.cond (ot 120)
 .skip
 (.exit 6)))
 (.block 7
 (.reg [] [oo 121 (.mov (ot 12)),
 oo 122 (.arith .add .i64 (ot 121) (.cst (.d (.int .i64 1)))),
 oo 12 (.mov (ot 122))]))))))))
 (.seq
 (.post [0,1,4,12,13] []
 (.block 8
 (.keep [0,1,4,12,13] []
 (.loop
 (.post [0,1,4,12,13] []
 (.seq
 (.seq
 (.regd [] [oo 123 (.mov (ot 12)),
 oo 124 (.mov (ot 13)),
 oo 125 (.cmp .leq (ot 123) (ot 124)),
 oo 126 (.mov (ot 125)),
 ⟨some 127,.mov (ot 4),some (126,true)⟩,
 ⟨some 128,.mov (ot 0),some (126,true)⟩,
 ⟨some 129,.mov (ot 13),some (126,true)⟩,
 ⟨some 130,.ixa 4 (ot 128) (ot 129),some (126,true)⟩,
 ⟨some 131,.ld true 4 (ot 130),some (126,true)⟩,
 ⟨some 132,.mov (ot 0),some (126,true)⟩,
 ⟨some 133,.mov (ot 1),some (126,true)⟩,
 ⟨some 134,.ixa 4 (ot 132) (ot 133),some (126,true)⟩,
 ⟨some 135,.ld true 4 (ot 134),some (126,true)⟩,
 ⟨some 136,.callv (ot 127) [(ot 131),(ot 135)],some (126,true)⟩,
 ⟨some 137,.cmp .lss (ot 136) (.cst (.d (.int .i64 0))),some (126,true)⟩,
 ⟨some 138,.not (ot 137),some (126,true)⟩,
 oo 139 (.pick (ot 126) (ot 138) (.cst (.d (.bool false))))] [(0,1),(4,5),(4,6),(5,6),(4,7),(4,8),(4,9),(5,9),(6,9),(7,9),(8,9),(4,10),(5,10),(6,10),(7,10),(8,10),(9,10),(4,11),(5,11),(6,11),(7,11),(8,11),(4,12),(5,12),(6,12),(7,12),(8,12)])
 (.cond (ot 139)
 .skip
 (.exit 8)))
 (.block 9
 (.reg [] [oo 140 (.mov (ot 13)),
 oo 141 (.arith .sub .i64 (ot 140) (.cst (.d (.int .i64 1)))),
 oo 13 (.mov (ot 141))]))))))))
 (.seq
 (.seq
 (.reg [] [oo 142 (.mov (ot 12)),
 oo 143 (.mov (ot 13)),
 oo 144 (.cmp .gtr (ot 142) (ot 143))])
 (.cond (ot 144)
 (.exit 4)
 .skip))
 (.seq
 (.regd [] [oo 145 (.mov (ot 0)),
 oo 146 (.mov (ot 12)),
 oo 147 (.mov (ot 0)),
 oo 148 (.mov (ot 13)),
 oo 149 (.mov (ot 0)),
 oo 150 (.mov (ot 13)),
 oo 151 (.ixa 4 (ot 149) (ot 150)),
 oo 152 (.ld true 4 (ot 151)),
 oo 153 (.mov (ot 0)),
 oo 154 (.mov (ot 12)),
 oo 155 (.ixa 4 (ot 153) (ot 154)),
 oo 156 (.ld true 4 (ot 155)),
 oo 157 (.ixa 4 (ot 145) (ot 146)),
 ⟨none,.st 4 (ot 157) (ot 152),none⟩,
 oo 158 (.ixa 4 (ot 147) (ot 148)),
 ⟨none,.st 4 (ot 158) (ot 156),none⟩] [(0,1),(0,2),(1,2),(0,3),(1,3),(2,3),(0,4),(1,4),(2,4),(3,4),(0,5),(1,5),(2,5),(3,5),(4,5),(0,6),(1,6),(2,6),(3,6),(0,7),(1,7),(2,7),(3,7),(0,8),(1,8),(2,8),(3,8),(4,8),(5,8),(6,8),(7,8),(0,9),(1,9),(2,9),(3,9),(4,9),(5,9),(6,9),(7,9),(8,9),(0,10),(1,10),(2,10),(3,10),(4,10),(5,10),(6,10),(7,10),(0,11),(1,11),(2,11),(3,11),(4,11),(5,11),(6,11),(7,11),(2,12),(3,12),(2,13),(3,13)])
 (.seq
 (.reg [] [oo 159 (.mov (ot 12)),
 oo 160 (.arith .add .i64 (ot 159) (.cst (.d (.int .i64 1)))),
 oo 12 (.mov (ot 160))])
 (.reg [] [oo 161 (.mov (ot 13)),
 oo 162 (.arith .sub .i64 (ot 161) (.cst (.d (.int .i64 1)))),
 oo 13 (.mov (ot 162))]))))))))))))
 (.seq
 (.regd [] [oo 163 (.mov (ot 0)),
 oo 164 (.mov (ot 13)),
 oo 165 (.mov (ot 0)),
 oo 166 (.mov (ot 1)),
 oo 167 (.mov (ot 0)),
 oo 168 (.mov (ot 1)),
 oo 169 (.ixa 4 (ot 167) (ot 168)),
 oo 170 (.ld true 4 (ot 169)),
 oo 171 (.mov (ot 0)),
 oo 172 (.mov (ot 13)),
 oo 173 (.ixa 4 (ot 171) (ot 172)),
 oo 174 (.ld true 4 (ot 173)),
 oo 175 (.ixa 4 (ot 163) (ot 164)),
 ⟨none,.st 4 (ot 175) (ot 170),none⟩,
 oo 176 (.ixa 4 (ot 165) (ot 166)),
 ⟨none,.st 4 (ot 176) (ot 174),none⟩] [(0,1),(0,2),(1,2),(0,3),(1,3),(2,3),(0,4),(1,4),(2,4),(3,4),(0,5),(1,5),(2,5),(3,5),(4,5),(0,6),(1,6),(2,6),(3,6),(0,7),(1,7),(2,7),(3,7),(0,8),(1,8),(2,8),(3,8),(4,8),(5,8),(6,8),(7,8),(0,9),(1,9),(2,9),(3,9),(4,9),(5,9),(6,9),(7,9),(8,9),(0,10),(1,10),(2,10),(3,10),(4,10),(5,10),(6,10),(7,10),(0,11),(1,11),(2,11),(3,11),(4,11),(5,11),(6,11),(7,11),(2,12),(3,12),(2,13),(3,13)])
 (.seq
 (.reg [] [oo 177 (.mov (ot 13)),
 oo 10 (.mov (ot 177)),
 oo 11 (.mov (.cst (.d (.bool false))))])
 .ret))))))))))))⟩
def tx209:AFun:={ jr209 with heap:=40 }
def tx212:AFun:=⟨54,41,[.tmp 4],
 (.seq
 (.reg [] [oo 4 (.mov (.cst (.d (.str []))))])
 (.seq
 (.seq
 (.reg [] [oo 10 (.mov (ot 1)),
 oo 11 (.cmp .eql (ot 10) (.cst (.d (.int .i64 10))))])
 (.cond (ot 11)
 (.seq
 (.seq
 (.reg [] [oo 12 (.mov (ot 0)),
 oo 13 (.cmp .leq (.cst (.d (.int .i64 0))) (ot 12)),
 oo 14 (.mov (ot 13)),
 ⟨some 15,.mov (ot 0),some (14,true)⟩,
 ⟨some 16,.cmp .lss (ot 15) (.cst (.d (.int .i64 100))),some (14,true)⟩,
 oo 17 (.pick (ot 14) (ot 16) (.cst (.d (.bool false))))])
 (.cond (ot 17)
 (.seq
 (.reg [] [oo 18 (.mov (ot 0)),
 oo 19 (.call 223 [(ot 18)]),
 oo 4 (.mov (ot 19))])
 .ret)
 .skip))
 (.seq
 (.reg [0] [oo 5 (.alloc 0 [(.d (.int .u8 0)),(.d (.int .u8 0)),(.d (.int .u8 0)),(.d (.int .u8 0)),(.d (.int .u8 0)),(.d (.int .u8 0)),(.d (.int .u8 0)),(.d (.int .u8 0)),(.d (.int .u8 0)),(.d (.int .u8 0)),(.d (.int .u8 0)),(.d (.int .u8 0)),(.d (.int .u8 0)),(.d (.int .u8 0)),(.d (.int .u8 0)),(.d (.int .u8 0)),(.d (.int .u8 0)),(.d (.int .u8 0)),(.d (.int .u8 0)),(.d (.int .u8 0)),(.d (.int .u8 0)),(.d (.int .u8 0)),(.d (.int .u8 0)),(.d (.int .u8 0))])])
 (.seq
 (.reg [] [oo 20 (.mov (ot 0)),
 oo 21 (.conv .u64 (ot 20)),
 oo 6 (.mov (ot 21))])
 (.seq
 (.seq
 (.reg [] [oo 22 (.mov (ot 0)),
 oo 23 (.cmp .lss (ot 22) (.cst (.d (.int .i64 0))))])
 (.cond (ot 23)
 (.reg [] [oo 24 (.mov (ot 6)),
 oo 25 (.neg .u64 (ot 24)),
 oo 6 (.mov (ot 25))])
 .skip))
 (.seq
 (.reg [] [oo 26 (.mov (ot 6)),
 oo 27 (.call 224 [(ot 26)]),
 oo 7 (.mov (ot 27))])
 (.seq
 (.reg [] [oo 28 (.mov (ot 7)),
 oo 29 (.arith .add .i64 (.cst (.d (.int .i64 1))) (ot 28)),
 oo 30 (.sla 24 (ot 5) (some (.cst (.d (.int .i64 1)))) (some (ot 29))),
 oo 31 (.mov (ot 6)),
 oo 32 (.call 225 [(ot 30),(ot 31)])])
 (.seq
 (.seq
 (.reg [] [oo 33 (.mov (ot 0)),
 oo 34 (.cmp .lss (ot 33) (.cst (.d (.int .i64 0))))])
 (.cond (ot 34)
 (.seq
 (.reg [] [oo 35 (.ixp 24 1 (ot 5) (.cst (.d (.int .i64 0)))),
 ⟨none,.st 1 (ot 35) (.cst (.d (.int .u8 45))),none⟩])
 (.seq
 (.reg [] [oo 36 (.mov (ot 7)),
 oo 37 (.arith .add .i64 (.cst (.d (.int .i64 1))) (ot 36)),
 oo 38 (.sla 24 (ot 5) none (some (ot 37))),
 oo 39 (.b2s (ot 38)),
 oo 4 (.mov (ot 39))])
 .ret))
 .skip))
 (.seq
 (.reg [] [oo 40 (.mov (ot 7)),
 oo 41 (.arith .add .i64 (.cst (.d (.int .i64 1))) (ot 40)),
 oo 42 (.sla 24 (ot 5) (some (.cst (.d (.int .i64 1)))) (some (ot 41))),
 oo 43 (.b2s (ot 42)),
 oo 4 (.mov (ot 43))])
 .ret))))))))
 .skip))
 (.seq
 (.reg [] [oo 45 (.mov (ot 0)),
 oo 46 (.conv .u64 (ot 45)),
 oo 47 (.mov (ot 1)),
 oo 48 (.mov (ot 0)),
 oo 49 (.cmp .lss (ot 48) (.cst (.d (.int .i64 0)))),
 oo 50 (.call 226 [(.cst (.nils 1)),(ot 46),(ot 47),(ot 49),(.cst (.d (.bool false)))]),
 oo 44 (.mov (ot 50)),
 oo 51 (.ext 0 (ot 44)),
 oo 52 (.ext 1 (ot 44)),
 oo 8 (.mov (ot 51)),
 oo 9 (.mov (ot 52))])
 (.seq
 (.reg [] [oo 53 (.mov (ot 9)),
 oo 4 (.mov (ot 53))])
 .ret))))⟩
def tx213:AFun:=⟨76,40,[],
 (.seq
 (.reg [] [oo 10 (.mov (ot 1)),
 oo 8 (.mov (ot 10))])
 (.post [] []
 (.block 0
 (.keep [0,2,3,8] []
 (.loop
 (.post [0,2,3,8] []
 (.block 1
 (.seq
 (.reg [] [oo 11 (.mov (ot 8)),
 oo 12 (.arith .mul .i64 (.cst (.d (.int .i64 2))) (ot 11)),
 oo 13 (.arith .add .i64 (ot 12) (.cst (.d (.int .i64 1)))),
 oo 9 (.mov (ot 13))])
 (.seq
 (.seq
 (.reg [] [oo 14 (.mov (ot 9)),
 oo 15 (.mov (ot 2)),
 oo 16 (.cmp .geq (ot 14) (ot 15))])
 (.cond (ot 16)
 (.exit 0)
 .skip))
 (.seq
 (.seq
 (.regd [] [oo 17 (.mov (ot 9)),
 oo 18 (.arith .add .i64 (ot 17) (.cst (.d (.int .i64 1)))),
 oo 19 (.mov (ot 2)),
 oo 20 (.cmp .lss (ot 18) (ot 19)),
 oo 21 (.mov (ot 20)),
 ⟨some 22,.mov (ot 0),some (21,true)⟩,
 ⟨some 23,.mov (ot 3),some (21,true)⟩,
 ⟨some 24,.mov (ot 9),some (21,true)⟩,
 ⟨some 25,.arith .add .i64 (ot 23) (ot 24),some (21,true)⟩,
 ⟨some 26,.ixa 1 (ot 22) (ot 25),some (21,true)⟩,
 ⟨some 27,.ld false 1 (ot 26),some (21,true)⟩,
 ⟨some 28,.mov (ot 0),some (21,true)⟩,
 ⟨some 29,.mov (ot 3),some (21,true)⟩,
 ⟨some 30,.mov (ot 9),some (21,true)⟩,
 ⟨some 31,.arith .add .i64 (ot 29) (ot 30),some (21,true)⟩,
 ⟨some 32,.arith .add .i64 (ot 31) (.cst (.d (.int .i64 1))),some (21,true)⟩,
 ⟨some 33,.ixa 1 (ot 28) (ot 32),some (21,true)⟩,
 ⟨some 34,.ld false 1 (ot 33),some (21,true)⟩,
 ⟨some 35,.call 194 [(ot 27),(ot 34)],some (21,true)⟩,
 oo 36 (.pick (ot 21) (ot 35) (.cst (.d (.bool false))))] [(0,2),(1,2),(5,6),(5,7),(6,7),(5,8),(5,11),(6,11),(7,11),(8,11),(9,11),(10,11),(5,12),(6,12),(7,12),(8,12),(9,12),(10,12),(11,12),(5,13),(6,13),(7,13),(8,13),(9,13),(10,13),(11,13),(12,13),(5,14),(6,14),(7,14),(8,14),(9,14),(10,14),(11,14),(5,15),(6,15),(7,15),(8,15),(9,15),(10,15),(11,15),(5,16),(6,16),(7,16),(8,16),(9,16),(10,16),(5,17),(6,17),(7,17),(8,17),(9,17),(10,17)])
 (.cond (ot 36)
 (.reg [] [oo 37 (.mov (ot 9)),
 oo 38 (.arith .add .i64 (ot 37) (.cst (.d (.int .i64 1)))),
 oo 9 (.mov (ot 38))])
 .skip))
 (.seq
 (.seq
 (.regd [] [oo 39 (.mov (ot 0)),
 oo 40 (.mov (ot 3)),
 oo 41 (.mov (ot 8)),
 oo 42 (.arith .add .i64 (ot 40) (ot 41)),
 oo 43 (.ixa 1 (ot 39) (ot 42)),
 oo 44 (.ld false 1 (ot 43)),
 oo 45 (.mov (ot 0)),
 oo 46 (.mov (ot 3)),
 oo 47 (.mov (ot 9)),
 oo 48 (.arith .add .i64 (ot 46) (ot 47)),
 oo 49 (.ixa 1 (ot 45) (ot 48)),
 oo 50 (.ld false 1 (ot 49)),
 oo 51 (.call 194 [(ot 44),(ot 50)]),
 oo 52 (.not (ot 51))] [(0,1),(0,2),(1,2),(0,3),(0,6),(1,6),(2,6),(3,6),(4,6),(5,6),(0,7),(1,7),(2,7),(3,7),(4,7),(5,7),(6,7),(0,8),(1,8),(2,8),(3,8),(4,8),(5,8),(6,8),(7,8),(0,9),(1,9),(2,9),(3,9),(4,9),(5,9),(6,9),(0,10),(1,10),(2,10),(3,10),(4,10),(5,10),(0,11),(1,11),(2,11),(3,11),(4,11),(5,11)])
 (.cond (ot 52)
 .ret
 .skip))
 (.seq
 (.regd [] [oo 53 (.mov (ot 0)),
 oo 54 (.mov (ot 3)),
 oo 55 (.mov (ot 8)),
 oo 56 (.arith .add .i64 (ot 54) (ot 55)),
 oo 57 (.mov (ot 0)),
 oo 58 (.mov (ot 3)),
 oo 59 (.mov (ot 9)),
 oo 60 (.arith .add .i64 (ot 58) (ot 59)),
 oo 61 (.mov (ot 0)),
 oo 62 (.mov (ot 3)),
 oo 63 (.mov (ot 9)),
 oo 64 (.arith .add .i64 (ot 62) (ot 63)),
 oo 65 (.ixa 1 (ot 61) (ot 64)),
 oo 66 (.ld false 1 (ot 65)),
 oo 67 (.mov (ot 0)),
 oo 68 (.mov (ot 3)),
 oo 69 (.mov (ot 8)),
 oo 70 (.arith .add .i64 (ot 68) (ot 69)),
 oo 71 (.ixa 1 (ot 67) (ot 70)),
 oo 72 (.ld false 1 (ot 71)),
 oo 73 (.ixa 1 (ot 53) (ot 56)),
 ⟨none,.st 1 (ot 73) (ot 66),none⟩,
 oo 74 (.ixa 1 (ot 57) (ot 60)),
 ⟨none,.st 1 (ot 74) (ot 72),none⟩] [(0,1),(0,2),(1,2),(0,3),(0,4),(1,4),(2,4),(3,4),(0,5),(1,5),(2,5),(3,5),(4,5),(0,6),(1,6),(2,6),(3,6),(4,6),(5,6),(0,7),(1,7),(2,7),(3,7),(4,7),(0,8),(1,8),(2,8),(3,8),(4,8),(5,8),(6,8),(7,8),(0,9),(1,9),(2,9),(3,9),(4,9),(5,9),(6,9),(7,9),(8,9),(0,10),(1,10),(2,10),(3,10),(4,10),(5,10),(6,10),(7,10),(8,10),(9,10),(0,11),(1,11),(2,11),(3,11),(4,11),(5,11),(6,11),(7,11),(8,11),(0,12),(1,12),(2,12),(3,12),(4,12),(5,12),(6,12),(7,12),(0,13),(1,13),(2,13),(3,13),(4,13),(5,13),(6,13),(7,13),(0,14),(1,14),(2,14),(3,14),(4,14),(5,14),(6,14),(7,14),(8,14),(9,14),(10,14),(11,14),(12,14),(13,14),(0,15),(1,15),(2,15),(3,15),(4,15),(5,15),(6,15),(7,15),(8,15),(9,15),(10,15),(11,15),(12,15),(13,15),(14,15),(0,16),(1,16),(2,16),(3,16),(4,16),(5,16),(6,16),(7,16),(8,16),(9,16),(10,16),(11,16),(12,16),(13,16),(14,16),(15,16),(0,17),(1,17),(2,17),(3,17),(4,17),(5,17),(6,17),(7,17),(8,17),(9,17),(10,17),(11,17),(12,17),(13,17),(14,17),(0,18),(1,18),(2,18),(3,18),(4,18),(5,18),(6,18),(7,18),(8,18),(9,18),(10,18),(11,18),(12,18),(13,18),(0,19),(1,19),(2,19),(3,19),(4,19),(5,19),(6,19),(7,19),(8,19),(9,19),(10,19),(11,19),(12,19),(13,19),(4,20),(5,20),(6,20),(7,20),(4,21),(5,21),(6,21),(7,21)])
 (.reg [] [oo 75 (.mov (ot 9)),
 oo 8 (.mov (ot 75))])))))))))))))⟩
def tx214:AFun:=⟨7,40,[.tmp 2],
 (.seq
 (.reg [] [oo 2 (.mov (.cst (.d (.int .u64 0))))])
 (.seq
 (.reg [] [oo 3 (.mov (ot 0)),
 oo 4 (.conv .u64 (ot 3)),
 oo 5 (.call 168 [(ot 4)]),
 oo 6 (.shf .shl .u64 (.cst (.d (.int .u64 1))) (ot 5)),
 oo 2 (.mov (ot 6))])
 .ret))⟩
def tx215:AFun:=⟨33,40,[.tmp 2],
 (.seq
 (.reg [] [oo 2 (.mov (.cst (.d (.int .u64 0))))])
 (.seq
 (.regd [] [oo 3 (.mov (ot 0)),
 oo 4 (.nck (ot 3)),
 oo 5 (.ld false 1 (ot 4)),
 oo 6 (.mov (ot 0)),
 oo 7 (.nck (ot 6)),
 oo 8 (.ld false 1 (ot 7)),
 oo 9 (.shf .shl .u64 (ot 8) (.cst (.d (.int .u64 13)))),
 oo 10 (.bit .xor .u64 (ot 5) (ot 9)),
 oo 11 (.nck (ot 3)),
 ⟨none,.st 1 (ot 11) (ot 10),none⟩] [(0,3),(1,3),(2,3),(0,4),(1,4),(2,4),(0,5),(1,5),(2,5),(0,6),(1,6),(2,6)])
 (.seq
 (.regd [] [oo 12 (.mov (ot 0)),
 oo 13 (.nck (ot 12)),
 oo 14 (.ld false 1 (ot 13)),
 oo 15 (.mov (ot 0)),
 oo 16 (.nck (ot 15)),
 oo 17 (.ld false 1 (ot 16)),
 oo 18 (.shf .shr .u64 (ot 17) (.cst (.d (.int .u64 7)))),
 oo 19 (.bit .xor .u64 (ot 14) (ot 18)),
 oo 20 (.nck (ot 12)),
 ⟨none,.st 1 (ot 20) (ot 19),none⟩] [(0,3),(1,3),(2,3),(0,4),(1,4),(2,4),(0,5),(1,5),(2,5),(0,6),(1,6),(2,6)])
 (.seq
 (.regd [] [oo 21 (.mov (ot 0)),
 oo 22 (.nck (ot 21)),
 oo 23 (.ld false 1 (ot 22)),
 oo 24 (.mov (ot 0)),
 oo 25 (.nck (ot 24)),
 oo 26 (.ld false 1 (ot 25)),
 oo 27 (.shf .shl .u64 (ot 26) (.cst (.d (.int .u64 17)))),
 oo 28 (.bit .xor .u64 (ot 23) (ot 27)),
 oo 29 (.nck (ot 21)),
 ⟨none,.st 1 (ot 29) (ot 28),none⟩] [(0,3),(1,3),(2,3),(0,4),(1,4),(2,4),(0,5),(1,5),(2,5),(0,6),(1,6),(2,6)])
 (.seq
 (.reg [] [oo 30 (.mov (ot 0)),
 oo 31 (.nck (ot 30)),
 oo 32 (.ld false 1 (ot 31)),
 oo 2 (.mov (ot 32))])
 .ret)))))⟩
def tx216:AFun:=⟨15,40,[.tmp 6],
 (.seq
 (.reg [] [oo 6 (.mov (.cst (.d (.int .i64 0))))])
 (.seq
 (.reg [] [oo 7 (.mov (ot 0)),
 oo 8 (.mov (ot 1)),
 oo 9 (.arith .sub .i64 (ot 8) (.cst (.d (.int .i64 1)))),
 oo 10 (.mov (ot 1)),
 oo 11 (.mov (ot 1)),
 oo 12 (.arith .add .i64 (ot 11) (.cst (.d (.int .i64 1)))),
 oo 13 (.mov (ot 2)),
 oo 14 (.calli 217 [(ot 7),(ot 9),(ot 10),(ot 12),(ot 13)]),
 oo 6 (.mov (ot 14))])
 .ret))⟩
def tx217:AFun:=⟨36,40,[.tmp 10],
 (.seq
 (.reg [] [oo 10 (.mov (.cst (.d (.int .i64 0))))])
 (.seq
 (.reg [] [oo 12 (.mov (ot 0)),
 oo 13 (.mov (ot 1)),
 oo 14 (.mov (ot 2)),
 oo 15 (.mov (ot 4)),
 oo 16 (.calli 227 [(ot 12),(ot 13),(ot 14),(ot 15)]),
 oo 11 (.mov (ot 16)),
 oo 17 (.ext 0 (ot 11)),
 oo 18 (.ext 1 (ot 11)),
 oo 1 (.mov (ot 17)),
 oo 2 (.mov (ot 18))])
 (.seq
 (.reg [] [oo 20 (.mov (ot 0)),
 oo 21 (.mov (ot 2)),
 oo 22 (.mov (ot 3)),
 oo 23 (.mov (ot 4)),
 oo 24 (.calli 227 [(ot 20),(ot 21),(ot 22),(ot 23)]),
 oo 19 (.mov (ot 24)),
 oo 25 (.ext 0 (ot 19)),
 oo 26 (.ext 1 (ot 19)),
 oo 2 (.mov (ot 25)),
 oo 3 (.mov (ot 26))])
 (.seq
 (.reg [] [oo 28 (.mov (ot 0)),
 oo 29 (.mov (ot 1)),
 oo 30 (.mov (ot 2)),
 oo 31 (.mov (ot 4)),
 oo 32 (.calli 227 [(ot 28),(ot 29),(ot 30),(ot 31)]),
 oo 27 (.mov (ot 32)),
 oo 33 (.ext 0 (ot 27)),
 oo 34 (.ext 1 (ot 27)),
 oo 1 (.mov (ot 33)),
 oo 2 (.mov (ot 34))])
 (.seq
 (.reg [] [oo 35 (.mov (ot 2)),
 oo 10 (.mov (ot 35))])
 .ret)))))⟩
def tx218:AFun:=⟨82,40,[],
 (.seq
 (.reg [] [oo 12 (.mov (ot 1)),
 oo 10 (.mov (ot 12))])
 (.post [] []
 (.block 0
 (.keep [0,2,3,4,10] []
 (.loop
 (.post [0,2,3,4,10] []
 (.block 1
 (.seq
 (.reg [] [oo 13 (.mov (ot 10)),
 oo 14 (.arith .mul .i64 (.cst (.d (.int .i64 2))) (ot 13)),
 oo 15 (.arith .add .i64 (ot 14) (.cst (.d (.int .i64 1)))),
 oo 11 (.mov (ot 15))])
 (.seq
 (.seq
 (.reg [] [oo 16 (.mov (ot 11)),
 oo 17 (.mov (ot 2)),
 oo 18 (.cmp .geq (ot 16) (ot 17))])
 (.cond (ot 18)
 (.exit 0)
 .skip))
 (.seq
 (.seq
 (.regd [] [oo 19 (.mov (ot 11)),
 oo 20 (.arith .add .i64 (ot 19) (.cst (.d (.int .i64 1)))),
 oo 21 (.mov (ot 2)),
 oo 22 (.cmp .lss (ot 20) (ot 21)),
 oo 23 (.mov (ot 22)),
 ⟨some 24,.mov (ot 4),some (23,true)⟩,
 ⟨some 25,.mov (ot 0),some (23,true)⟩,
 ⟨some 26,.mov (ot 3),some (23,true)⟩,
 ⟨some 27,.mov (ot 11),some (23,true)⟩,
 ⟨some 28,.arith .add .i64 (ot 26) (ot 27),some (23,true)⟩,
 ⟨some 29,.ixa 4 (ot 25) (ot 28),some (23,true)⟩,
 ⟨some 30,.ld true 4 (ot 29),some (23,true)⟩,
 ⟨some 31,.mov (ot 0),some (23,true)⟩,
 ⟨some 32,.mov (ot 3),some (23,true)⟩,
 ⟨some 33,.mov (ot 11),some (23,true)⟩,
 ⟨some 34,.arith .add .i64 (ot 32) (ot 33),some (23,true)⟩,
 ⟨some 35,.arith .add .i64 (ot 34) (.cst (.d (.int .i64 1))),some (23,true)⟩,
 ⟨some 36,.ixa 4 (ot 31) (ot 35),some (23,true)⟩,
 ⟨some 37,.ld true 4 (ot 36),some (23,true)⟩,
 ⟨some 38,.callv (ot 24) [(ot 30),(ot 37)],some (23,true)⟩,
 ⟨some 39,.cmp .lss (ot 38) (.cst (.d (.int .i64 0))),some (23,true)⟩,
 oo 40 (.pick (ot 23) (ot 39) (.cst (.d (.bool false))))] [(0,2),(1,2),(5,6),(5,7),(6,7),(5,8),(6,8),(7,8),(5,9),(6,9),(5,10),(5,11),(5,12),(6,12),(7,12),(8,12),(9,12),(10,12),(11,12),(5,13),(6,13),(7,13),(8,13),(9,13),(10,13),(11,13),(12,13),(5,14),(6,14),(7,14),(8,14),(9,14),(10,14),(11,14),(12,14),(13,14),(5,15),(6,15),(7,15),(8,15),(9,15),(10,15),(11,15),(12,15),(5,16),(6,16),(7,16),(8,16),(9,16),(10,16),(11,16),(12,16),(5,17),(6,17),(7,17),(8,17),(9,17),(10,17),(11,17),(5,18),(6,18),(7,18),(8,18),(9,18),(10,18),(11,18)])
 (.cond (ot 40)
 (.reg [] [oo 41 (.mov (ot 11)),
 oo 42 (.arith .add .i64 (ot 41) (.cst (.d (.int .i64 1)))),
 oo 11 (.mov (ot 42))])
 .skip))
 (.seq
 (.seq
 (.regd [] [oo 43 (.mov (ot 4)),
 oo 44 (.mov (ot 0)),
 oo 45 (.mov (ot 3)),
 oo 46 (.mov (ot 10)),
 oo 47 (.arith .add .i64 (ot 45) (ot 46)),
 oo 48 (.ixa 4 (ot 44) (ot 47)),
 oo 49 (.ld true 4 (ot 48)),
 oo 50 (.mov (ot 0)),
 oo 51 (.mov (ot 3)),
 oo 52 (.mov (ot 11)),
 oo 53 (.arith .add .i64 (ot 51) (ot 52)),
 oo 54 (.ixa 4 (ot 50) (ot 53)),
 oo 55 (.ld true 4 (ot 54)),
 oo 56 (.callv (ot 43) [(ot 49),(ot 55)]),
 oo 57 (.cmp .lss (ot 56) (.cst (.d (.int .i64 0)))),
 oo 58 (.not (ot 57))] [(0,1),(0,2),(1,2),(0,3),(1,3),(2,3),(0,4),(1,4),(0,5),(0,6),(0,7),(1,7),(2,7),(3,7),(4,7),(5,7),(6,7),(0,8),(1,8),(2,8),(3,8),(4,8),(5,8),(6,8),(7,8),(0,9),(1,9),(2,9),(3,9),(4,9),(5,9),(6,9),(7,9),(8,9),(0,10),(1,10),(2,10),(3,10),(4,10),(5,10),(6,10),(7,10),(0,11),(1,11),(2,11),(3,11),(4,11),(5,11),(6,11),(0,12),(1,12),(2,12),(3,12),(4,12),(5,12),(6,12)])
 (.cond (ot 58)
 .ret
 .skip))
 (.seq
 (.regd [] [oo 59 (.mov (ot 0)),
 oo 60 (.mov (ot 3)),
 oo 61 (.mov (ot 10)),
 oo 62 (.arith .add .i64 (ot 60) (ot 61)),
 oo 63 (.mov (ot 0)),
 oo 64 (.mov (ot 3)),
 oo 65 (.mov (ot 11)),
 oo 66 (.arith .add .i64 (ot 64) (ot 65)),
 oo 67 (.mov (ot 0)),
 oo 68 (.mov (ot 3)),
 oo 69 (.mov (ot 11)),
 oo 70 (.arith .add .i64 (ot 68) (ot 69)),
 oo 71 (.ixa 4 (ot 67) (ot 70)),
 oo 72 (.ld true 4 (ot 71)),
 oo 73 (.mov (ot 0)),
 oo 74 (.mov (ot 3)),
 oo 75 (.mov (ot 10)),
 oo 76 (.arith .add .i64 (ot 74) (ot 75)),
 oo 77 (.ixa 4 (ot 73) (ot 76)),
 oo 78 (.ld true 4 (ot 77)),
 oo 79 (.ixa 4 (ot 59) (ot 62)),
 ⟨none,.st 4 (ot 79) (ot 72),none⟩,
 oo 80 (.ixa 4 (ot 63) (ot 66)),
 ⟨none,.st 4 (ot 80) (ot 78),none⟩] [(0,1),(0,2),(1,2),(0,3),(0,4),(1,4),(2,4),(3,4),(0,5),(1,5),(2,5),(3,5),(4,5),(0,6),(1,6),(2,6),(3,6),(4,6),(5,6),(0,7),(1,7),(2,7),(3,7),(4,7),(0,8),(1,8),(2,8),(3,8),(4,8),(5,8),(6,8),(7,8),(0,9),(1,9),(2,9),(3,9),(4,9),(5,9),(6,9),(7,9),(8,9),(0,10),(1,10),(2,10),(3,10),(4,10),(5,10),(6,10),(7,10),(8,10),(9,10),(0,11),(1,11),(2,11),(3,11),(4,11),(5,11),(6,11),(7,11),(8,11),(0,12),(1,12),(2,12),(3,12),(4,12),(5,12),(6,12),(7,12),(0,13),(1,13),(2,13),(3,13),(4,13),(5,13),(6,13),(7,13),(0,14),(1,14),(2,14),(3,14),(4,14),(5,14),(6,14),(7,14),(8,14),(9,14),(10,14),(11,14),(12,14),(13,14),(0,15),(1,15),(2,15),(3,15),(4,15),(5,15),(6,15),(7,15),(8,15),(9,15),(10,15),(11,15),(12,15),(13,15),(14,15),(0,16),(1,16),(2,16),(3,16),(4,16),(5,16),(6,16),(7,16),(8,16),(9,16),(10,16),(11,16),(12,16),(13,16),(14,16),(15,16),(0,17),(1,17),(2,17),(3,17),(4,17),(5,17),(6,17),(7,17),(8,17),(9,17),(10,17),(11,17),(12,17),(13,17),(14,17),(0,18),(1,18),(2,18),(3,18),(4,18),(5,18),(6,18),(7,18),(8,18),(9,18),(10,18),(11,18),(12,18),(13,18),(0,19),(1,19),(2,19),(3,19),(4,19),(5,19),(6,19),(7,19),(8,19),(9,19),(10,19),(11,19),(12,19),(13,19),(4,20),(5,20),(6,20),(7,20),(4,21),(5,21),(6,21),(7,21)])
 (.reg [] [oo 81 (.mov (ot 11)),
 oo 10 (.mov (ot 81))])))))))))))))⟩
def tx219:AFun:=⟨18,40,[.tmp 8],
 (.seq
 (.reg [] [oo 8 (.mov (.cst (.d (.int .i64 0))))])
 (.seq
 (.reg [] [oo 9 (.mov (ot 0)),
 oo 10 (.mov (ot 1)),
 oo 11 (.arith .sub .i64 (ot 10) (.cst (.d (.int .i64 1)))),
 oo 12 (.mov (ot 1)),
 oo 13 (.mov (ot 1)),
 oo 14 (.arith .add .i64 (ot 13) (.cst (.d (.int .i64 1)))),
 oo 15 (.mov (ot 2)),
 oo 16 (.mov (ot 3)),
 oo 17 (.calli 220 [(ot 9),(ot 11),(ot 12),(ot 14),(ot 15),(ot 16)]),
 oo 8 (.mov (ot 17))])
 .ret))⟩
def tx220:AFun:=⟨41,40,[.tmp 12],
 (.seq
 (.reg [] [oo 12 (.mov (.cst (.d (.int .i64 0))))])
 (.seq
 (.reg [] [oo 14 (.mov (ot 0)),
 oo 15 (.mov (ot 1)),
 oo 16 (.mov (ot 2)),
 oo 17 (.mov (ot 4)),
 oo 18 (.mov (ot 5)),
 oo 19 (.calli 228 [(ot 14),(ot 15),(ot 16),(ot 17),(ot 18)]),
 oo 13 (.mov (ot 19)),
 oo 20 (.ext 0 (ot 13)),
 oo 21 (.ext 1 (ot 13)),
 oo 1 (.mov (ot 20)),
 oo 2 (.mov (ot 21))])
 (.seq
 (.reg [] [oo 23 (.mov (ot 0)),
 oo 24 (.mov (ot 2)),
 oo 25 (.mov (ot 3)),
 oo 26 (.mov (ot 4)),
 oo 27 (.mov (ot 5)),
 oo 28 (.calli 228 [(ot 23),(ot 24),(ot 25),(ot 26),(ot 27)]),
 oo 22 (.mov (ot 28)),
 oo 29 (.ext 0 (ot 22)),
 oo 30 (.ext 1 (ot 22)),
 oo 2 (.mov (ot 29)),
 oo 3 (.mov (ot 30))])
 (.seq
 (.reg [] [oo 32 (.mov (ot 0)),
 oo 33 (.mov (ot 1)),
 oo 34 (.mov (ot 2)),
 oo 35 (.mov (ot 4)),
 oo 36 (.mov (ot 5)),
 oo 37 (.calli 228 [(ot 32),(ot 33),(ot 34),(ot 35),(ot 36)]),
 oo 31 (.mov (ot 37)),
 oo 38 (.ext 0 (ot 31)),
 oo 39 (.ext 1 (ot 31)),
 oo 1 (.mov (ot 38)),
 oo 2 (.mov (ot 39))])
 (.seq
 (.reg [] [oo 40 (.mov (ot 2)),
 oo 12 (.mov (ot 40))])
 .ret)))))⟩
def tx223:AFun:=⟨15,40,[.tmp 2],
 (.seq
 (.reg [] [oo 2 (.mov (.cst (.d (.str []))))])
 (.seq
 (.seq
 (.reg [] [oo 3 (.mov (ot 0)),
 oo 4 (.cmp .lss (ot 3) (.cst (.d (.int .i64 10))))])
 (.cond (ot 4)
 (.seq
 (.reg [] [oo 5 (.mov (ot 0)),
 oo 6 (.mov (ot 0)),
 oo 7 (.arith .add .i64 (ot 6) (.cst (.d (.int .i64 1)))),
 oo 8 (.slcs (.cst (.d (.str [48,49,50,51,52,53,54,55,56,57,97,98,99,100,101,102,103,104,105,106,107,108,109,110,111,112,113,114,115,116,117,118,119,120,121,122]))) (some (ot 5)) (some (ot 7))),
 oo 2 (.mov (ot 8))])
 .ret)
 .skip))
 (.seq
 (.reg [] [oo 9 (.mov (ot 0)),
 oo 10 (.arith .mul .i64 (ot 9) (.cst (.d (.int .i64 2)))),
 oo 11 (.mov (ot 0)),
 oo 12 (.arith .mul .i64 (ot 11) (.cst (.d (.int .i64 2)))),
 oo 13 (.arith .add .i64 (ot 12) (.cst (.d (.int .i64 2)))),
 oo 14 (.slcs (.cst (.d (.str [48,48,48,49,48,50,48,51,48,52,48,53,48,54,48,55,48,56,48,57,49,48,49,49,49,50,49,51,49,52,49,53,49,54,49,55,49,56,49,57,50,48,50,49,50,50,50,51,50,52,50,53,50,54,50,55,50,56,50,57,51,48,51,49,51,50,51,51,51,52,51,53,51,54,51,55,51,56,51,57,52,48,52,49,52,50,52,51,52,52,52,53,52,54,52,55,52,56,52,57,53,48,53,49,53,50,53,51,53,52,53,53,53,54,53,55,53,56,53,57,54,48,54,49,54,50,54,51,54,52,54,53,54,54,54,55,54,56,54,57,55,48,55,49,55,50,55,51,55,52,55,53,55,54,55,55,55,56,55,57,56,48,56,49,56,50,56,51,56,52,56,53,56,54,56,55,56,56,56,57,57,48,57,49,57,50,57,51,57,52,57,53,57,54,57,55,57,56,57,57]))) (some (ot 10)) (some (ot 13))),
 oo 2 (.mov (ot 14))])
 .ret)))⟩
def tx224:AFun:=⟨15,40,[.tmp 2],
 (.seq
 (.reg [] [oo 2 (.mov (.cst (.d (.int .i64 0))))])
 (.seq
 (.reg [] [oo 4 (.mov (ot 0)),
 oo 5 (.call 198 [(ot 4)]),
 oo 6 (.call 229 [(ot 5)]),
 oo 3 (.mov (ot 6))])
 (.seq
 (.reg [] [oo 7 (.mov (ot 3)),
 oo 8 (.mov (ot 0)),
 oo 9 (.mov (ot 3)),
 oo 10 (.ixp 20 1 (.cst (.gp 2 0)) (ot 9)),
 oo 11 (.ld false 1 (ot 10)),
 oo 12 (.cmp .geq (ot 8) (ot 11)),
 oo 13 (.call 230 [(ot 12)]),
 oo 14 (.arith .add .i64 (ot 7) (ot 13)),
 oo 2 (.mov (ot 14))])
 .ret)))⟩
def tx225:AFun:=⟨167,40,[],
 (.seq
 (.reg [] [oo 17 (.mov (ot 0)),
 oo 18 (.len (ot 17)),
 oo 4 (.mov (ot 18))])
 (.seq
 (.post [0,1,4] []
 (.block 0
 (.keep [0,1,4] []
 (.loop
 (.post [0,1,4] []
 (.seq
 (.seq
 (.reg [] [oo 19 (.mov (ot 4)),
 oo 20 (.cmp .geq (ot 19) (.cst (.d (.int .i64 8))))])
 (.cond (ot 20)
 .skip
 (.exit 0)))
 (.block 1
 (.seq
 (.reg [] [oo 21 (.mov (ot 1)),
 oo 22 (.arith .rem .u64 (ot 21) (.cst (.d (.int .u64 100000000)))),
 oo 23 (.conv .u32 (ot 22)),
 oo 5 (.mov (ot 23))])
 (.seq
 (.reg [] [oo 24 (.mov (ot 1)),
 oo 25 (.arith .quo .u64 (ot 24) (.cst (.d (.int .u64 100000000)))),
 oo 1 (.mov (ot 25))])
 (.seq
 (.reg [] [oo 26 (.mov (ot 5)),
 oo 27 (.arith .quo .u32 (ot 26) (.cst (.d (.int .u32 10000)))),
 oo 28 (.mov (ot 5)),
 oo 29 (.arith .rem .u32 (ot 28) (.cst (.d (.int .u32 10000)))),
 oo 6 (.mov (ot 27)),
 oo 7 (.mov (ot 29))])
 (.seq
 (.reg [] [oo 30 (.mov (ot 7)),
 oo 31 (.arith .quo .u32 (ot 30) (.cst (.d (.int .u32 100)))),
 oo 32 (.arith .mul .u32 (ot 31) (.cst (.d (.int .u32 2)))),
 oo 33 (.mov (ot 7)),
 oo 34 (.arith .rem .u32 (ot 33) (.cst (.d (.int .u32 100)))),
 oo 35 (.arith .mul .u32 (ot 34) (.cst (.d (.int .u32 2)))),
 oo 8 (.mov (ot 32)),
 oo 9 (.mov (ot 35))])
 (.seq
 (.reg [] [oo 36 (.mov (ot 6)),
 oo 37 (.arith .quo .u32 (ot 36) (.cst (.d (.int .u32 100)))),
 oo 38 (.arith .mul .u32 (ot 37) (.cst (.d (.int .u32 2)))),
 oo 39 (.mov (ot 6)),
 oo 40 (.arith .rem .u32 (ot 39) (.cst (.d (.int .u32 100)))),
 oo 41 (.arith .mul .u32 (ot 40) (.cst (.d (.int .u32 2)))),
 oo 10 (.mov (ot 38)),
 oo 11 (.mov (ot 41))])
 (.seq
 (.regd [] [oo 42 (.mov (ot 0)),
 oo 43 (.mov (ot 4)),
 oo 44 (.arith .sub .i64 (ot 43) (.cst (.d (.int .i64 1)))),
 oo 45 (.mov (ot 0)),
 oo 46 (.mov (ot 4)),
 oo 47 (.arith .sub .i64 (ot 46) (.cst (.d (.int .i64 2)))),
 oo 48 (.mov (ot 9)),
 oo 49 (.arith .add .u32 (ot 48) (.cst (.d (.int .u32 1)))),
 oo 50 (.ixs (.cst (.d (.str [48,48,48,49,48,50,48,51,48,52,48,53,48,54,48,55,48,56,48,57,49,48,49,49,49,50,49,51,49,52,49,53,49,54,49,55,49,56,49,57,50,48,50,49,50,50,50,51,50,52,50,53,50,54,50,55,50,56,50,57,51,48,51,49,51,50,51,51,51,52,51,53,51,54,51,55,51,56,51,57,52,48,52,49,52,50,52,51,52,52,52,53,52,54,52,55,52,56,52,57,53,48,53,49,53,50,53,51,53,52,53,53,53,54,53,55,53,56,53,57,54,48,54,49,54,50,54,51,54,52,54,53,54,54,54,55,54,56,54,57,55,48,55,49,55,50,55,51,55,52,55,53,55,54,55,55,55,56,55,57,56,48,56,49,56,50,56,51,56,52,56,53,56,54,56,55,56,56,56,57,57,48,57,49,57,50,57,51,57,52,57,53,57,54,57,55,57,56,57,57]))) (ot 49)),
 oo 51 (.mov (ot 9)),
 oo 52 (.ixs (.cst (.d (.str [48,48,48,49,48,50,48,51,48,52,48,53,48,54,48,55,48,56,48,57,49,48,49,49,49,50,49,51,49,52,49,53,49,54,49,55,49,56,49,57,50,48,50,49,50,50,50,51,50,52,50,53,50,54,50,55,50,56,50,57,51,48,51,49,51,50,51,51,51,52,51,53,51,54,51,55,51,56,51,57,52,48,52,49,52,50,52,51,52,52,52,53,52,54,52,55,52,56,52,57,53,48,53,49,53,50,53,51,53,52,53,53,53,54,53,55,53,56,53,57,54,48,54,49,54,50,54,51,54,52,54,53,54,54,54,55,54,56,54,57,55,48,55,49,55,50,55,51,55,52,55,53,55,54,55,55,55,56,55,57,56,48,56,49,56,50,56,51,56,52,56,53,56,54,56,55,56,56,56,57,57,48,57,49,57,50,57,51,57,52,57,53,57,54,57,55,57,56,57,57]))) (ot 51)),
 oo 53 (.ixa 1 (ot 42) (ot 44)),
 ⟨none,.st 1 (ot 53) (ot 50),none⟩,
 oo 54 (.ixa 1 (ot 45) (ot 47)),
 ⟨none,.st 1 (ot 54) (ot 52),none⟩] [(0,1),(0,2),(0,3),(1,3),(2,3),(0,4),(1,4),(2,4),(3,4),(0,5),(1,5),(2,5),(3,5),(0,6),(1,6),(2,6),(3,6),(4,6),(5,6),(0,7),(1,7),(2,7),(3,7),(4,7),(5,7),(0,8),(1,8),(2,8),(3,8),(4,8),(5,8),(0,9),(1,9),(2,9),(3,9),(4,9),(5,9),(6,9),(7,9),(8,9),(0,10),(1,10),(2,10),(3,10),(4,10),(5,10),(6,10),(7,10),(8,10),(3,11),(4,11),(5,11),(9,11),(10,11),(3,12),(4,12),(5,12),(9,12),(10,12)])
 (.seq
 (.regd [] [oo 55 (.mov (ot 0)),
 oo 56 (.mov (ot 4)),
 oo 57 (.arith .sub .i64 (ot 56) (.cst (.d (.int .i64 3)))),
 oo 58 (.mov (ot 0)),
 oo 59 (.mov (ot 4)),
 oo 60 (.arith .sub .i64 (ot 59) (.cst (.d (.int .i64 4)))),
 oo 61 (.mov (ot 8)),
 oo 62 (.arith .add .u32 (ot 61) (.cst (.d (.int .u32 1)))),
 oo 63 (.ixs (.cst (.d (.str [48,48,48,49,48,50,48,51,48,52,48,53,48,54,48,55,48,56,48,57,49,48,49,49,49,50,49,51,49,52,49,53,49,54,49,55,49,56,49,57,50,48,50,49,50,50,50,51,50,52,50,53,50,54,50,55,50,56,50,57,51,48,51,49,51,50,51,51,51,52,51,53,51,54,51,55,51,56,51,57,52,48,52,49,52,50,52,51,52,52,52,53,52,54,52,55,52,56,52,57,53,48,53,49,53,50,53,51,53,52,53,53,53,54,53,55,53,56,53,57,54,48,54,49,54,50,54,51,54,52,54,53,54,54,54,55,54,56,54,57,55,48,55,49,55,50,55,51,55,52,55,53,55,54,55,55,55,56,55,57,56,48,56,49,56,50,56,51,56,52,56,53,56,54,56,55,56,56,56,57,57,48,57,49,57,50,57,51,57,52,57,53,57,54,57,55,57,56,57,57]))) (ot 62)),
 oo 64 (.mov (ot 8)),
 oo 65 (.ixs (.cst (.d (.str [48,48,48,49,48,50,48,51,48,52,48,53,48,54,48,55,48,56,48,57,49,48,49,49,49,50,49,51,49,52,49,53,49,54,49,55,49,56,49,57,50,48,50,49,50,50,50,51,50,52,50,53,50,54,50,55,50,56,50,57,51,48,51,49,51,50,51,51,51,52,51,53,51,54,51,55,51,56,51,57,52,48,52,49,52,50,52,51,52,52,52,53,52,54,52,55,52,56,52,57,53,48,53,49,53,50,53,51,53,52,53,53,53,54,53,55,53,56,53,57,54,48,54,49,54,50,54,51,54,52,54,53,54,54,54,55,54,56,54,57,55,48,55,49,55,50,55,51,55,52,55,53,55,54,55,55,55,56,55,57,56,48,56,49,56,50,56,51,56,52,56,53,56,54,56,55,56,56,56,57,57,48,57,49,57,50,57,51,57,52,57,53,57,54,57,55,57,56,57,57]))) (ot 64)),
 oo 66 (.ixa 1 (ot 55) (ot 57)),
 ⟨none,.st 1 (ot 66) (ot 63),none⟩,
 oo 67 (.ixa 1 (ot 58) (ot 60)),
 ⟨none,.st 1 (ot 67) (ot 65),none⟩] [(0,1),(0,2),(0,3),(1,3),(2,3),(0,4),(1,4),(2,4),(3,4),(0,5),(1,5),(2,5),(3,5),(0,6),(1,6),(2,6),(3,6),(4,6),(5,6),(0,7),(1,7),(2,7),(3,7),(4,7),(5,7),(0,8),(1,8),(2,8),(3,8),(4,8),(5,8),(0,9),(1,9),(2,9),(3,9),(4,9),(5,9),(6,9),(7,9),(8,9),(0,10),(1,10),(2,10),(3,10),(4,10),(5,10),(6,10),(7,10),(8,10),(3,11),(4,11),(5,11),(9,11),(10,11),(3,12),(4,12),(5,12),(9,12),(10,12)])
 (.seq
 (.regd [] [oo 68 (.mov (ot 0)),
 oo 69 (.mov (ot 4)),
 oo 70 (.arith .sub .i64 (ot 69) (.cst (.d (.int .i64 5)))),
 oo 71 (.mov (ot 0)),
 oo 72 (.mov (ot 4)),
 oo 73 (.arith .sub .i64 (ot 72) (.cst (.d (.int .i64 6)))),
 oo 74 (.mov (ot 11)),
 oo 75 (.arith .add .u32 (ot 74) (.cst (.d (.int .u32 1)))),
 oo 76 (.ixs (.cst (.d (.str [48,48,48,49,48,50,48,51,48,52,48,53,48,54,48,55,48,56,48,57,49,48,49,49,49,50,49,51,49,52,49,53,49,54,49,55,49,56,49,57,50,48,50,49,50,50,50,51,50,52,50,53,50,54,50,55,50,56,50,57,51,48,51,49,51,50,51,51,51,52,51,53,51,54,51,55,51,56,51,57,52,48,52,49,52,50,52,51,52,52,52,53,52,54,52,55,52,56,52,57,53,48,53,49,53,50,53,51,53,52,53,53,53,54,53,55,53,56,53,57,54,48,54,49,54,50,54,51,54,52,54,53,54,54,54,55,54,56,54,57,55,48,55,49,55,50,55,51,55,52,55,53,55,54,55,55,55,56,55,57,56,48,56,49,56,50,56,51,56,52,56,53,56,54,56,55,56,56,56,57,57,48,57,49,57,50,57,51,57,52,57,53,57,54,57,55,57,56,57,57]))) (ot 75)),
 oo 77 (.mov (ot 11)),
 oo 78 (.ixs (.cst (.d (.str [48,48,48,49,48,50,48,51,48,52,48,53,48,54,48,55,48,56,48,57,49,48,49,49,49,50,49,51,49,52,49,53,49,54,49,55,49,56,49,57,50,48,50,49,50,50,50,51,50,52,50,53,50,54,50,55,50,56,50,57,51,48,51,49,51,50,51,51,51,52,51,53,51,54,51,55,51,56,51,57,52,48,52,49,52,50,52,51,52,52,52,53,52,54,52,55,52,56,52,57,53,48,53,49,53,50,53,51,53,52,53,53,53,54,53,55,53,56,53,57,54,48,54,49,54,50,54,51,54,52,54,53,54,54,54,55,54,56,54,57,55,48,55,49,55,50,55,51,55,52,55,53,55,54,55,55,55,56,55,57,56,48,56,49,56,50,56,51,56,52,56,53,56,54,56,55,56,56,56,57,57,48,57,49,57,50,57,51,57,52,57,53,57,54,57,55,57,56,57,57]))) (ot 77)),
 oo 79 (.ixa 1 (ot 68) (ot 70)),
 ⟨none,.st 1 (ot 79) (ot 76),none⟩,
 oo 80 (.ixa 1 (ot 71) (ot 73)),
 ⟨none,.st 1 (ot 80) (ot 78),none⟩] [(0,1),(0,2),(0,3),(1,3),(2,3),(0,4),(1,4),(2,4),(3,4),(0,5),(1,5),(2,5),(3,5),(0,6),(1,6),(2,6),(3,6),(4,6),(5,6),(0,7),(1,7),(2,7),(3,7),(4,7),(5,7),(0,8),(1,8),(2,8),(3,8),(4,8),(5,8),(0,9),(1,9),(2,9),(3,9),(4,9),(5,9),(6,9),(7,9),(8,9),(0,10),(1,10),(2,10),(3,10),(4,10),(5,10),(6,10),(7,10),(8,10),(3,11),(4,11),(5,11),(9,11),(10,11),(3,12),(4,12),(5,12),(9,12),(10,12)])
 (.seq
 (.regd [] [oo 81 (.mov (ot 0)),
 oo 82 (.mov (ot 4)),
 oo 83 (.arith .sub .i64 (ot 82) (.cst (.d (.int .i64 7)))),
 oo 84 (.mov (ot 0)),
 oo 85 (.mov (ot 4)),
 oo 86 (.arith .sub .i64 (ot 85) (.cst (.d (.int .i64 8)))),
 oo 87 (.mov (ot 10)),
 oo 88 (.arith .add .u32 (ot 87) (.cst (.d (.int .u32 1)))),
 oo 89 (.ixs (.cst (.d (.str [48,48,48,49,48,50,48,51,48,52,48,53,48,54,48,55,48,56,48,57,49,48,49,49,49,50,49,51,49,52,49,53,49,54,49,55,49,56,49,57,50,48,50,49,50,50,50,51,50,52,50,53,50,54,50,55,50,56,50,57,51,48,51,49,51,50,51,51,51,52,51,53,51,54,51,55,51,56,51,57,52,48,52,49,52,50,52,51,52,52,52,53,52,54,52,55,52,56,52,57,53,48,53,49,53,50,53,51,53,52,53,53,53,54,53,55,53,56,53,57,54,48,54,49,54,50,54,51,54,52,54,53,54,54,54,55,54,56,54,57,55,48,55,49,55,50,55,51,55,52,55,53,55,54,55,55,55,56,55,57,56,48,56,49,56,50,56,51,56,52,56,53,56,54,56,55,56,56,56,57,57,48,57,49,57,50,57,51,57,52,57,53,57,54,57,55,57,56,57,57]))) (ot 88)),
 oo 90 (.mov (ot 10)),
 oo 91 (.ixs (.cst (.d (.str [48,48,48,49,48,50,48,51,48,52,48,53,48,54,48,55,48,56,48,57,49,48,49,49,49,50,49,51,49,52,49,53,49,54,49,55,49,56,49,57,50,48,50,49,50,50,50,51,50,52,50,53,50,54,50,55,50,56,50,57,51,48,51,49,51,50,51,51,51,52,51,53,51,54,51,55,51,56,51,57,52,48,52,49,52,50,52,51,52,52,52,53,52,54,52,55,52,56,52,57,53,48,53,49,53,50,53,51,53,52,53,53,53,54,53,55,53,56,53,57,54,48,54,49,54,50,54,51,54,52,54,53,54,54,54,55,54,56,54,57,55,48,55,49,55,50,55,51,55,52,55,53,55,54,55,55,55,56,55,57,56,48,56,49,56,50,56,51,56,52,56,53,56,54,56,55,56,56,56,57,57,48,57,49,57,50,57,51,57,52,57,53,57,54,57,55,57,56,57,57]))) (ot 90)),
 oo 92 (.ixa 1 (ot 81) (ot 83)),
 ⟨none,.st 1 (ot 92) (ot 89),none⟩,
 oo 93 (.ixa 1 (ot 84) (ot 86)),
 ⟨none,.st 1 (ot 93) (ot 91),none⟩] [(0,1),(0,2),(0,3),(1,3),(2,3),(0,4),(1,4),(2,4),(3,4),(0,5),(1,5),(2,5),(3,5),(0,6),(1,6),(2,6),(3,6),(4,6),(5,6),(0,7),(1,7),(2,7),(3,7),(4,7),(5,7),(0,8),(1,8),(2,8),(3,8),(4,8),(5,8),(0,9),(1,9),(2,9),(3,9),(4,9),(5,9),(6,9),(7,9),(8,9),(0,10),(1,10),(2,10),(3,10),(4,10),(5,10),(6,10),(7,10),(8,10),(3,11),(4,11),(5,11),(9,11),(10,11),(3,12),(4,12),(5,12),(9,12),(10,12)])
 (.reg [] [oo 94 (.mov (ot 4)),
 oo 95 (.arith .sub .i64 (ot 94) (.cst (.d (.int .i64 8)))),
 oo 4 (.mov (ot 95))])))))))))))))))))
 (.seq
 (.reg [] [oo 96 (.mov (ot 1)),
 oo 97 (.conv .u32 (ot 96)),
 oo 12 (.mov (ot 97))])
 (.seq
 (.seq
 (.reg [] [oo 98 (.mov (ot 4)),
 oo 99 (.cmp .geq (ot 98) (.cst (.d (.int .i64 4))))])
 (.cond (ot 99)
 (.seq
 (.reg [] [oo 100 (.mov (ot 12)),
 oo 101 (.arith .rem .u32 (ot 100) (.cst (.d (.int .u32 10000)))),
 oo 13 (.mov (ot 101))])
 (.seq
 (.reg [] [oo 102 (.mov (ot 12)),
 oo 103 (.arith .quo .u32 (ot 102) (.cst (.d (.int .u32 10000)))),
 oo 12 (.mov (ot 103))])
 (.seq
 (.reg [] [oo 104 (.mov (ot 13)),
 oo 105 (.arith .quo .u32 (ot 104) (.cst (.d (.int .u32 100)))),
 oo 106 (.arith .mul .u32 (ot 105) (.cst (.d (.int .u32 2)))),
 oo 107 (.mov (ot 13)),
 oo 108 (.arith .rem .u32 (ot 107) (.cst (.d (.int .u32 100)))),
 oo 109 (.arith .mul .u32 (ot 108) (.cst (.d (.int .u32 2)))),
 oo 14 (.mov (ot 106)),
 oo 15 (.mov (ot 109))])
 (.seq
 (.regd [] [oo 110 (.mov (ot 0)),
 oo 111 (.mov (ot 4)),
 oo 112 (.arith .sub .i64 (ot 111) (.cst (.d (.int .i64 1)))),
 oo 113 (.mov (ot 0)),
 oo 114 (.mov (ot 4)),
 oo 115 (.arith .sub .i64 (ot 114) (.cst (.d (.int .i64 2)))),
 oo 116 (.mov (ot 15)),
 oo 117 (.arith .add .u32 (ot 116) (.cst (.d (.int .u32 1)))),
 oo 118 (.ixs (.cst (.d (.str [48,48,48,49,48,50,48,51,48,52,48,53,48,54,48,55,48,56,48,57,49,48,49,49,49,50,49,51,49,52,49,53,49,54,49,55,49,56,49,57,50,48,50,49,50,50,50,51,50,52,50,53,50,54,50,55,50,56,50,57,51,48,51,49,51,50,51,51,51,52,51,53,51,54,51,55,51,56,51,57,52,48,52,49,52,50,52,51,52,52,52,53,52,54,52,55,52,56,52,57,53,48,53,49,53,50,53,51,53,52,53,53,53,54,53,55,53,56,53,57,54,48,54,49,54,50,54,51,54,52,54,53,54,54,54,55,54,56,54,57,55,48,55,49,55,50,55,51,55,52,55,53,55,54,55,55,55,56,55,57,56,48,56,49,56,50,56,51,56,52,56,53,56,54,56,55,56,56,56,57,57,48,57,49,57,50,57,51,57,52,57,53,57,54,57,55,57,56,57,57]))) (ot 117)),
 oo 119 (.mov (ot 15)),
 oo 120 (.ixs (.cst (.d (.str [48,48,48,49,48,50,48,51,48,52,48,53,48,54,48,55,48,56,48,57,49,48,49,49,49,50,49,51,49,52,49,53,49,54,49,55,49,56,49,57,50,48,50,49,50,50,50,51,50,52,50,53,50,54,50,55,50,56,50,57,51,48,51,49,51,50,51,51,51,52,51,53,51,54,51,55,51,56,51,57,52,48,52,49,52,50,52,51,52,52,52,53,52,54,52,55,52,56,52,57,53,48,53,49,53,50,53,51,53,52,53,53,53,54,53,55,53,56,53,57,54,48,54,49,54,50,54,51,54,52,54,53,54,54,54,55,54,56,54,57,55,48,55,49,55,50,55,51,55,52,55,53,55,54,55,55,55,56,55,57,56,48,56,49,56,50,56,51,56,52,56,53,56,54,56,55,56,56,56,57,57,48,57,49,57,50,57,51,57,52,57,53,57,54,57,55,57,56,57,57]))) (ot 119)),
 oo 121 (.ixa 1 (ot 110) (ot 112)),
 ⟨none,.st 1 (ot 121) (ot 118),none⟩,
 oo 122 (.ixa 1 (ot 113) (ot 115)),
 ⟨none,.st 1 (ot 122) (ot 120),none⟩] [(0,1),(0,2),(0,3),(1,3),(2,3),(0,4),(1,4),(2,4),(3,4),(0,5),(1,5),(2,5),(3,5),(0,6),(1,6),(2,6),(3,6),(4,6),(5,6),(0,7),(1,7),(2,7),(3,7),(4,7),(5,7),(0,8),(1,8),(2,8),(3,8),(4,8),(5,8),(0,9),(1,9),(2,9),(3,9),(4,9),(5,9),(6,9),(7,9),(8,9),(0,10),(1,10),(2,10),(3,10),(4,10),(5,10),(6,10),(7,10),(8,10),(3,11),(4,11),(5,11),(9,11),(10,11),(3,12),(4,12),(5,12),(9,12),(10,12)])
 (.seq
 (.regd [] [oo 123 (.mov (ot 0)),
 oo 124 (.mov (ot 4)),
 oo 125 (.arith .sub .i64 (ot 124) (.cst (.d (.int .i64 3)))),
 oo 126 (.mov (ot 0)),
 oo 127 (.mov (ot 4)),
 oo 128 (.arith .sub .i64 (ot 127) (.cst (.d (.int .i64 4)))),
 oo 129 (.mov (ot 14)),
 oo 130 (.arith .add .u32 (ot 129) (.cst (.d (.int .u32 1)))),
 oo 131 (.ixs (.cst (.d (.str [48,48,48,49,48,50,48,51,48,52,48,53,48,54,48,55,48,56,48,57,49,48,49,49,49,50,49,51,49,52,49,53,49,54,49,55,49,56,49,57,50,48,50,49,50,50,50,51,50,52,50,53,50,54,50,55,50,56,50,57,51,48,51,49,51,50,51,51,51,52,51,53,51,54,51,55,51,56,51,57,52,48,52,49,52,50,52,51,52,52,52,53,52,54,52,55,52,56,52,57,53,48,53,49,53,50,53,51,53,52,53,53,53,54,53,55,53,56,53,57,54,48,54,49,54,50,54,51,54,52,54,53,54,54,54,55,54,56,54,57,55,48,55,49,55,50,55,51,55,52,55,53,55,54,55,55,55,56,55,57,56,48,56,49,56,50,56,51,56,52,56,53,56,54,56,55,56,56,56,57,57,48,57,49,57,50,57,51,57,52,57,53,57,54,57,55,57,56,57,57]))) (ot 130)),
 oo 132 (.mov (ot 14)),
 oo 133 (.ixs (.cst (.d (.str [48,48,48,49,48,50,48,51,48,52,48,53,48,54,48,55,48,56,48,57,49,48,49,49,49,50,49,51,49,52,49,53,49,54,49,55,49,56,49,57,50,48,50,49,50,50,50,51,50,52,50,53,50,54,50,55,50,56,50,57,51,48,51,49,51,50,51,51,51,52,51,53,51,54,51,55,51,56,51,57,52,48,52,49,52,50,52,51,52,52,52,53,52,54,52,55,52,56,52,57,53,48,53,49,53,50,53,51,53,52,53,53,53,54,53,55,53,56,53,57,54,48,54,49,54,50,54,51,54,52,54,53,54,54,54,55,54,56,54,57,55,48,55,49,55,50,55,51,55,52,55,53,55,54,55,55,55,56,55,57,56,48,56,49,56,50,56,51,56,52,56,53,56,54,56,55,56,56,56,57,57,48,57,49,57,50,57,51,57,52,57,53,57,54,57,55,57,56,57,57]))) (ot 132)),
 oo 134 (.ixa 1 (ot 123) (ot 125)),
 ⟨none,.st 1 (ot 134) (ot 131),none⟩,
 oo 135 (.ixa 1 (ot 126) (ot 128)),
 ⟨none,.st 1 (ot 135) (ot 133),none⟩] [(0,1),(0,2),(0,3),(1,3),(2,3),(0,4),(1,4),(2,4),(3,4),(0,5),(1,5),(2,5),(3,5),(0,6),(1,6),(2,6),(3,6),(4,6),(5,6),(0,7),(1,7),(2,7),(3,7),(4,7),(5,7),(0,8),(1,8),(2,8),(3,8),(4,8),(5,8),(0,9),(1,9),(2,9),(3,9),(4,9),(5,9),(6,9),(7,9),(8,9),(0,10),(1,10),(2,10),(3,10),(4,10),(5,10),(6,10),(7,10),(8,10),(3,11),(4,11),(5,11),(9,11),(10,11),(3,12),(4,12),(5,12),(9,12),(10,12)])
 (.reg [] [oo 136 (.mov (ot 4)),
 oo 137 (.arith .sub .i64 (ot 136) (.cst (.d (.int .i64 4)))),
 oo 4 (.mov (ot 137))]))))))
 .skip))
 (.seq
 (.seq
 (.reg [] [oo 138 (.mov (ot 4)),
 oo 139 (.cmp .geq (ot 138) (.cst (.d (.int .i64 2))))])
 (.cond (ot 139)
 (.seq
 (.reg [] [oo 140 (.mov (ot 12)),
 oo 141 (.arith .rem .u32 (ot 140) (.cst (.d (.int .u32 100)))),
 oo 142 (.arith .mul .u32 (ot 141) (.cst (.d (.int .u32 2)))),
 oo 16 (.mov (ot 142))])
 (.seq
 (.reg [] [oo 143 (.mov (ot 12)),
 oo 144 (.arith .quo .u32 (ot 143) (.cst (.d (.int .u32 100)))),
 oo 12 (.mov (ot 144))])
 (.seq
 (.regd [] [oo 145 (.mov (ot 0)),
 oo 146 (.mov (ot 4)),
 oo 147 (.arith .sub .i64 (ot 146) (.cst (.d (.int .i64 1)))),
 oo 148 (.mov (ot 0)),
 oo 149 (.mov (ot 4)),
 oo 150 (.arith .sub .i64 (ot 149) (.cst (.d (.int .i64 2)))),
 oo 151 (.mov (ot 16)),
 oo 152 (.arith .add .u32 (ot 151) (.cst (.d (.int .u32 1)))),
 oo 153 (.ixs (.cst (.d (.str [48,48,48,49,48,50,48,51,48,52,48,53,48,54,48,55,48,56,48,57,49,48,49,49,49,50,49,51,49,52,49,53,49,54,49,55,49,56,49,57,50,48,50,49,50,50,50,51,50,52,50,53,50,54,50,55,50,56,50,57,51,48,51,49,51,50,51,51,51,52,51,53,51,54,51,55,51,56,51,57,52,48,52,49,52,50,52,51,52,52,52,53,52,54,52,55,52,56,52,57,53,48,53,49,53,50,53,51,53,52,53,53,53,54,53,55,53,56,53,57,54,48,54,49,54,50,54,51,54,52,54,53,54,54,54,55,54,56,54,57,55,48,55,49,55,50,55,51,55,52,55,53,55,54,55,55,55,56,55,57,56,48,56,49,56,50,56,51,56,52,56,53,56,54,56,55,56,56,56,57,57,48,57,49,57,50,57,51,57,52,57,53,57,54,57,55,57,56,57,57]))) (ot 152)),
 oo 154 (.mov (ot 16)),
 oo 155 (.ixs (.cst (.d (.str [48,48,48,49,48,50,48,51,48,52,48,53,48,54,48,55,48,56,48,57,49,48,49,49,49,50,49,51,49,52,49,53,49,54,49,55,49,56,49,57,50,48,50,49,50,50,50,51,50,52,50,53,50,54,50,55,50,56,50,57,51,48,51,49,51,50,51,51,51,52,51,53,51,54,51,55,51,56,51,57,52,48,52,49,52,50,52,51,52,52,52,53,52,54,52,55,52,56,52,57,53,48,53,49,53,50,53,51,53,52,53,53,53,54,53,55,53,56,53,57,54,48,54,49,54,50,54,51,54,52,54,53,54,54,54,55,54,56,54,57,55,48,55,49,55,50,55,51,55,52,55,53,55,54,55,55,55,56,55,57,56,48,56,49,56,50,56,51,56,52,56,53,56,54,56,55,56,56,56,57,57,48,57,49,57,50,57,51,57,52,57,53,57,54,57,55,57,56,57,57]))) (ot 154)),
 oo 156 (.ixa 1 (ot 145) (ot 147)),
 ⟨none,.st 1 (ot 156) (ot 153),none⟩,
 oo 157 (.ixa 1 (ot 148) (ot 150)),
 ⟨none,.st 1 (ot 157) (ot 155),none⟩] [(0,1),(0,2),(0,3),(1,3),(2,3),(0,4),(1,4),(2,4),(3,4),(0,5),(1,5),(2,5),(3,5),(0,6),(1,6),(2,6),(3,6),(4,6),(5,6),(0,7),(1,7),(2,7),(3,7),(4,7),(5,7),(0,8),(1,8),(2,8),(3,8),(4,8),(5,8),(0,9),(1,9),(2,9),(3,9),(4,9),(5,9),(6,9),(7,9),(8,9),(0,10),(1,10),(2,10),(3,10),(4,10),(5,10),(6,10),(7,10),(8,10),(3,11),(4,11),(5,11),(9,11),(10,11),(3,12),(4,12),(5,12),(9,12),(10,12)])
 (.reg [] [oo 158 (.mov (ot 4)),
 oo 159 (.arith .sub .i64 (ot 158) (.cst (.d (.int .i64 2)))),
 oo 4 (.mov (ot 159))]))))
 .skip))
 (.seq
 (.reg [] [oo 160 (.mov (ot 4)),
 oo 161 (.cmp .gtr (ot 160) (.cst (.d (.int .i64 0))))])
 (.cond (ot 161)
 (.reg [] [oo 162 (.mov (ot 0)),
 oo 163 (.mov (ot 12)),
 oo 164 (.arith .add .u32 (.cst (.d (.int .u32 48))) (ot 163)),
 oo 165 (.conv .u8 (ot 164)),
 oo 166 (.ixa 1 (ot 162) (.cst (.d (.int .i64 0)))),
 ⟨none,.st 1 (ot 166) (ot 165),none⟩])
 .skip)))))))⟩
def tx226:AFun:=⟨102,42,[.tmp 10,.tmp 11],
 (.seq
 (.reg [] [oo 10 (.mov (.cst (.nils 1))),
 oo 11 (.mov (.cst (.d (.str []))))])
 (.seq
 (.seq
 (.reg [] [oo 19 (.mov (ot 2)),
 oo 20 (.cmp .lss (ot 19) (.cst (.d (.int .i64 2)))),
 oo 21 (.mov (ot 20)),
 ⟨some 22,.mov (ot 2),some (21,false)⟩,
 ⟨some 23,.cmp .eql (ot 22) (.cst (.d (.int .i64 10))),some (21,false)⟩,
 oo 24 (.pick (ot 21) (.cst (.d (.bool true))) (ot 23)),
 oo 25 (.mov (ot 24)),
 ⟨some 26,.mov (ot 2),some (25,false)⟩,
 ⟨some 27,.cmp .gtr (ot 26) (.cst (.d (.int .i64 36))),some (25,false)⟩,
 oo 28 (.pick (ot 25) (.cst (.d (.bool true))) (ot 27))])
 (.cond (ot 28)
 .dead
 .skip))
 (.seq
 (.reg [0] [oo 12 (.alloc 0 [(.d (.int .u8 0)),(.d (.int .u8 0)),(.d (.int .u8 0)),(.d (.int .u8 0)),(.d (.int .u8 0)),(.d (.int .u8 0)),(.d (.int .u8 0)),(.d (.int .u8 0)),(.d (.int .u8 0)),(.d (.int .u8 0)),(.d (.int .u8 0)),(.d (.int .u8 0)),(.d (.int .u8 0)),(.d (.int .u8 0)),(.d (.int .u8 0)),(.d (.int .u8 0)),(.d (.int .u8 0)),(.d (.int .u8 0)),(.d (.int .u8 0)),(.d (.int .u8 0)),(.d (.int .u8 0)),(.d (.int .u8 0)),(.d (.int .u8 0)),(.d (.int .u8 0)),(.d (.int .u8 0)),(.d (.int .u8 0)),(.d (.int .u8 0)),(.d (.int .u8 0)),(.d (.int .u8 0)),(.d (.int .u8 0)),(.d (.int .u8 0)),(.d (.int .u8 0)),(.d (.int .u8 0)),(.d (.int .u8 0)),(.d (.int .u8 0)),(.d (.int .u8 0)),(.d (.int .u8 0)),(.d (.int .u8 0)),(.d (.int .u8 0)),(.d (.int .u8 0)),(.d (.int .u8 0)),(.d (.int .u8 0)),(.d (.int .u8 0)),(.d (.int .u8 0)),(.d (.int .u8 0)),(.d (.int .u8 0)),(.d (.int .u8 0)),(.d (.int .u8 0)),(.d (.int .u8 0)),(.d (.int .u8 0)),(.d (.int .u8 0)),(.d (.int .u8 0)),(.d (.int .u8 0)),(.d (.int .u8 0)),(.d (.int .u8 0)),(.d (.int .u8 0)),(.d (.int .u8 0)),(.d (.int .u8 0)),(.d (.int .u8 0)),(.d (.int .u8 0)),(.d (.int .u8 0)),(.d (.int .u8 0)),(.d (.int .u8 0)),(.d (.int .u8 0)),(.d (.int .u8 0))])])
 (.seq
 (.reg [] [oo 13 (.mov (.cst (.d (.int .i64 65))))])
 (.seq
 (.seq
 (.reg [] [oo 30 (.mov (ot 3))])
 (.cond (ot 30)
 (.reg [] [oo 31 (.mov (ot 1)),
 oo 32 (.neg .u64 (ot 31)),
 oo 1 (.mov (ot 32))])
 .skip))
 (.seq
 (.seq
 (.reg [] [oo 33 (.mov (ot 2)),
 oo 34 (.call 231 [(ot 33)])])
 (.cond (ot 34)
 (.seq
 (.reg [] [oo 35 (.mov (ot 2)),
 oo 36 (.conv .u64 (ot 35)),
 oo 37 (.call 232 [(ot 36)]),
 oo 38 (.conv .u64 (ot 37)),
 oo 14 (.mov (ot 38))])
 (.seq
 (.reg [] [oo 39 (.mov (ot 2)),
 oo 40 (.conv .u64 (ot 39)),
 oo 15 (.mov (ot 40))])
 (.seq
 (.reg [] [oo 41 (.mov (ot 2)),
 oo 42 (.conv .u64 (ot 41)),
 oo 43 (.arith .sub .u64 (ot 42) (.cst (.d (.int .u64 1)))),
 oo 16 (.mov (ot 43))])
 (.seq
 (.post [0,1,3,4,10,11,12,13] [0]
 (.block 0
 (.keep [0,1,3,4,10,11,12,13,14,15,16] [0]
 (.loop
 (.post [0,1,3,4,10,11,12,13,14,15,16] []
 (.seq
 (.seq
 (.reg [] [oo 44 (.mov (ot 1)),
 oo 45 (.mov (ot 15)),
 oo 46 (.cmp .geq (ot 44) (ot 45))])
 (.cond (ot 46)
 .skip
 (.exit 0)))
 (.block 1
 (.seq
 (.reg [] [oo 47 (.mov (ot 13)),
 oo 48 (.arith .sub .i64 (ot 47) (.cst (.d (.int .i64 1)))),
 oo 13 (.mov (ot 48))])
 (.seq
 (.reg [] [oo 49 (.mov (ot 13)),
 oo 50 (.mov (ot 1)),
 oo 51 (.mov (ot 16)),
 oo 52 (.bit .and .u64 (ot 50) (ot 51)),
 oo 53 (.ixs (.cst (.d (.str [48,49,50,51,52,53,54,55,56,57,97,98,99,100,101,102,103,104,105,106,107,108,109,110,111,112,113,114,115,116,117,118,119,120,121,122]))) (ot 52)),
 oo 54 (.ixp 65 1 (ot 12) (ot 49)),
 ⟨none,.st 1 (ot 54) (ot 53),none⟩])
 (.reg [] [oo 55 (.mov (ot 1)),
 oo 56 (.mov (ot 14)),
 oo 57 (.shf .shr .u64 (ot 55) (ot 56)),
 oo 1 (.mov (ot 57))]))))))))))
 (.seq
 (.reg [] [oo 58 (.mov (ot 13)),
 oo 59 (.arith .sub .i64 (ot 58) (.cst (.d (.int .i64 1)))),
 oo 13 (.mov (ot 59))])
 (.reg [] [oo 60 (.mov (ot 13)),
 oo 61 (.mov (ot 1)),
 oo 62 (.ixs (.cst (.d (.str [48,49,50,51,52,53,54,55,56,57,97,98,99,100,101,102,103,104,105,106,107,108,109,110,111,112,113,114,115,116,117,118,119,120,121,122]))) (ot 61)),
 oo 63 (.ixp 65 1 (ot 12) (ot 60)),
 ⟨none,.st 1 (ot 63) (ot 62),none⟩]))))))
 (.seq
 (.reg [] [oo 64 (.mov (ot 2)),
 oo 65 (.conv .u64 (ot 64)),
 oo 17 (.mov (ot 65))])
 (.seq
 (.post [0,1,3,4,10,11,12,13] [0]
 (.block 2
 (.keep [0,1,3,4,10,11,12,13,17] [0]
 (.loop
 (.post [0,1,3,4,10,11,12,13,17] []
 (.seq
 (.seq
 (.reg [] [oo 66 (.mov (ot 1)),
 oo 67 (.mov (ot 17)),
 oo 68 (.cmp .geq (ot 66) (ot 67))])
 (.cond (ot 68)
 .skip
 (.exit 2)))
 (.block 3
 (.seq
 (.reg [] [oo 69 (.mov (ot 13)),
 oo 70 (.arith .sub .i64 (ot 69) (.cst (.d (.int .i64 1)))),
 oo 13 (.mov (ot 70))])
 (.seq
 (.reg [] [oo 71 (.mov (ot 1)),
 oo 72 (.mov (ot 17)),
 oo 73 (.arith .quo .u64 (ot 71) (ot 72)),
 oo 18 (.mov (ot 73))])
 (.seq
 (.reg [] [oo 74 (.mov (ot 13)),
 oo 75 (.mov (ot 1)),
 oo 76 (.mov (ot 18)),
 oo 77 (.mov (ot 17)),
 oo 78 (.arith .mul .u64 (ot 76) (ot 77)),
 oo 79 (.arith .sub .u64 (ot 75) (ot 78)),
 oo 80 (.ixs (.cst (.d (.str [48,49,50,51,52,53,54,55,56,57,97,98,99,100,101,102,103,104,105,106,107,108,109,110,111,112,113,114,115,116,117,118,119,120,121,122]))) (ot 79)),
 oo 81 (.ixp 65 1 (ot 12) (ot 74)),
 ⟨none,.st 1 (ot 81) (ot 80),none⟩])
 (.reg [] [oo 82 (.mov (ot 18)),
 oo 1 (.mov (ot 82))])))))))))))
 (.seq
 (.reg [] [oo 83 (.mov (ot 13)),
 oo 84 (.arith .sub .i64 (ot 83) (.cst (.d (.int .i64 1)))),
 oo 13 (.mov (ot 84))])
 (.reg [] [oo 85 (.mov (ot 13)),
 oo 86 (.mov (ot 1)),
 oo 87 (.ixs (.cst (.d (.str [48,49,50,51,52,53,54,55,56,57,97,98,99,100,101,102,103,104,105,106,107,108,109,110,111,112,113,114,115,116,117,118,119,120,121,122]))) (ot 86)),
 oo 88 (.ixp 65 1 (ot 12) (ot 85)),
 ⟨none,.st 1 (ot 88) (ot 87),none⟩]))))))
 (.seq
 (.seq
 (.reg [] [oo 89 (.mov (ot 3))])
 (.cond (ot 89)
 (.seq
 (.reg [] [oo 90 (.mov (ot 13)),
 oo 91 (.arith .sub .i64 (ot 90) (.cst (.d (.int .i64 1)))),
 oo 13 (.mov (ot 91))])
 (.reg [] [oo 92 (.mov (ot 13)),
 oo 93 (.ixp 65 1 (ot 12) (ot 92)),
 ⟨none,.st 1 (ot 93) (.cst (.d (.int .u8 45))),none⟩]))
 .skip))
 (.seq
 (.seq
 (.reg [] [oo 94 (.mov (ot 4))])
 (.cond (ot 94)
 (.seq
 (.reg [1] [oo 95 (.mov (ot 0)),
 oo 96 (.mov (ot 13)),
 oo 97 (.sla 65 (ot 12) (some (ot 96)) none),
 oo 98 (.app 1 5 1 1 (ot 95) (ot 97)),
 oo 10 (.mov (ot 98))])
 .ret)
 .skip))
 (.seq
 (.reg [] [oo 99 (.mov (ot 13)),
 oo 100 (.sla 65 (ot 12) (some (ot 99)) none),
 oo 101 (.b2s (ot 100)),
 oo 11 (.mov (ot 101))])
 .ret)))))))))⟩
def tx227:AFun:=⟨28,40,[.tmp 8,.tmp 9],
 (.seq
 (.reg [] [oo 8 (.mov (.cst (.d (.int .i64 0)))),
 oo 9 (.mov (.cst (.d (.int .i64 0))))])
 (.seq
 (.seq
 (.regd [] [oo 10 (.mov (ot 0)),
 oo 11 (.mov (ot 2)),
 oo 12 (.ixa 1 (ot 10) (ot 11)),
 oo 13 (.ld false 1 (ot 12)),
 oo 14 (.mov (ot 0)),
 oo 15 (.mov (ot 1)),
 oo 16 (.ixa 1 (ot 14) (ot 15)),
 oo 17 (.ld false 1 (ot 16)),
 oo 18 (.call 194 [(ot 13),(ot 17)])] [(0,1),(0,4),(1,4),(2,4),(3,4),(0,5),(1,5),(2,5),(3,5),(4,5),(0,6),(1,6),(2,6),(3,6),(0,7),(1,7),(2,7),(3,7)])
 (.cond (ot 18)
 (.seq
 (.reg [] [oo 19 (.mov (ot 3)),
 oo 20 (.nck (ot 19)),
 oo 21 (.ld false 1 (ot 20)),
 oo 22 (.arith .add .i64 (ot 21) (.cst (.d (.int .i64 1)))),
 oo 23 (.nck (ot 19)),
 ⟨none,.st 1 (ot 23) (ot 22),none⟩])
 (.seq
 (.reg [] [oo 24 (.mov (ot 2)),
 oo 25 (.mov (ot 1)),
 oo 8 (.mov (ot 24)),
 oo 9 (.mov (ot 25))])
 .ret))
 .skip))
 (.seq
 (.reg [] [oo 26 (.mov (ot 1)),
 oo 27 (.mov (ot 2)),
 oo 8 (.mov (ot 26)),
 oo 9 (.mov (ot 27))])
 .ret)))⟩
def tx228:AFun:=⟨32,40,[.tmp 10,.tmp 11],
 (.seq
 (.reg [] [oo 10 (.mov (.cst (.d (.int .i64 0)))),
 oo 11 (.mov (.cst (.d (.int .i64 0))))])
 (.seq
 (.seq
 (.regd [] [oo 12 (.mov (ot 4)),
 oo 13 (.mov (ot 0)),
 oo 14 (.mov (ot 2)),
 oo 15 (.ixa 4 (ot 13) (ot 14)),
 oo 16 (.ld true 4 (ot 15)),
 oo 17 (.mov (ot 0)),
 oo 18 (.mov (ot 1)),
 oo 19 (.ixa 4 (ot 17) (ot 18)),
 oo 20 (.ld true 4 (ot 19)),
 oo 21 (.callv (ot 12) [(ot 16),(ot 20)]),
 oo 22 (.cmp .lss (ot 21) (.cst (.d (.int .i64 0))))] [(0,1),(0,2),(1,2),(0,3),(0,4),(0,5),(1,5),(2,5),(3,5),(4,5),(0,6),(1,6),(2,6),(3,6),(4,6),(5,6),(0,7),(1,7),(2,7),(3,7),(4,7),(0,8),(1,8),(2,8),(3,8),(4,8)])
 (.cond (ot 22)
 (.seq
 (.reg [] [oo 23 (.mov (ot 3)),
 oo 24 (.nck (ot 23)),
 oo 25 (.ld false 1 (ot 24)),
 oo 26 (.arith .add .i64 (ot 25) (.cst (.d (.int .i64 1)))),
 oo 27 (.nck (ot 23)),
 ⟨none,.st 1 (ot 27) (ot 26),none⟩])
 (.seq
 (.reg [] [oo 28 (.mov (ot 2)),
 oo 29 (.mov (ot 1)),
 oo 10 (.mov (ot 28)),
 oo 11 (.mov (ot 29))])
 .ret))
 .skip))
 (.seq
 (.reg [] [oo 30 (.mov (ot 1)),
 oo 31 (.mov (ot 2)),
 oo 10 (.mov (ot 30)),
 oo 11 (.mov (ot 31))])
 .ret)))⟩
def tx229:AFun:=⟨6,40,[.tmp 2],
 (.seq
 (.reg [] [oo 2 (.mov (.cst (.d (.int .i64 0))))])
 (.seq
 (.reg [] [oo 3 (.mov (ot 0)),
 oo 4 (.arith .mul .i64 (ot 3) (.cst (.d (.int .i64 78913)))),
 oo 5 (.shf .shr .i64 (ot 4) (.cst (.d (.int .u64 18)))),
 oo 2 (.mov (ot 5))])
 .ret))⟩
def tx230:AFun:=⟨4,40,[.tmp 2],
 (.seq
 (.reg [] [oo 2 (.mov (.cst (.d (.int .i64 0))))])
 (.seq
 (.seq
 (.reg [] [oo 3 (.mov (ot 0))])
 (.cond (ot 3)
 (.seq
 (.reg [] [oo 2 (.mov (.cst (.d (.int .i64 1))))])
 .ret)
 .skip))
 (.seq
 (.reg [] [oo 2 (.mov (.cst (.d (.int .i64 0))))])
 .ret)))⟩
def tx231:AFun:=⟨8,40,[.tmp 2],
 (.seq
 (.reg [] [oo 2 (.mov (.cst (.d (.bool false))))])
 (.seq
 (.reg [] [oo 3 (.mov (ot 0)),
 oo 4 (.mov (ot 0)),
 oo 5 (.arith .sub .i64 (ot 4) (.cst (.d (.int .i64 1)))),
 oo 6 (.bit .and .i64 (ot 3) (ot 5)),
 oo 7 (.cmp .eql (ot 6) (.cst (.d (.int .i64 0)))),
 oo 2 (.mov (ot 7))])
 .ret))⟩
def tx232:AFun:=⟨8,40,[.tmp 2],
 (.seq
 (.reg [] [oo 2 (.mov (.cst (.d (.int .i64 0))))])
 (.seq
 (.cond (.cst (.d (.bool false)))
 (.seq
 (.reg [] [oo 3 (.mov (ot 0)),
 oo 4 (.conv .u32 (ot 3)),
 oo 5 (.call 233 [(ot 4)]),
 oo 2 (.mov (ot 5))])
 .ret)
 .skip)
 (.seq
 (.reg [] [oo 6 (.mov (ot 0)),
 oo 7 (.call 234 [(ot 6)]),
 oo 2 (.mov (ot 7))])
 .ret)))⟩
def tx233:AFun:=⟨14,40,[.tmp 2],
 (.seq
 (.reg [] [oo 2 (.mov (.cst (.d (.int .i64 0))))])
 (.seq
 (.seq
 (.reg [] [oo 3 (.mov (ot 0)),
 oo 4 (.cmp .eql (ot 3) (.cst (.d (.int .u32 0))))])
 (.cond (ot 4)
 (.seq
 (.reg [] [oo 2 (.mov (.cst (.d (.int .i64 32))))])
 .ret)
 .skip))
 (.seq
 (.reg [] [oo 5 (.mov (ot 0)),
 oo 6 (.mov (ot 0)),
 oo 7 (.neg .u32 (ot 6)),
 oo 8 (.bit .and .u32 (ot 5) (ot 7)),
 oo 9 (.arith .mul .u32 (ot 8) (.cst (.d (.int .u32 125613361)))),
 oo 10 (.shf .shr .u32 (ot 9) (.cst (.d (.int .u64 27)))),
 oo 11 (.ixp 32 1 (.cst (.gp 3 0)) (ot 10)),
 oo 12 (.ld false 1 (ot 11)),
 oo 13 (.conv .i64 (ot 12)),
 oo 2 (.mov (ot 13))])
 .ret)))⟩
def tx234:AFun:=⟨14,40,[.tmp 2],
 (.seq
 (.reg [] [oo 2 (.mov (.cst (.d (.int .i64 0))))])
 (.seq
 (.seq
 (.reg [] [oo 3 (.mov (ot 0)),
 oo 4 (.cmp .eql (ot 3) (.cst (.d (.int .u64 0))))])
 (.cond (ot 4)
 (.seq
 (.reg [] [oo 2 (.mov (.cst (.d (.int .i64 64))))])
 .ret)
 .skip))
 (.seq
 (.reg [] [oo 5 (.mov (ot 0)),
 oo 6 (.mov (ot 0)),
 oo 7 (.neg .u64 (ot 6)),
 oo 8 (.bit .and .u64 (ot 5) (ot 7)),
 oo 9 (.arith .mul .u64 (ot 8) (.cst (.d (.int .u64 285870213051353865)))),
 oo 10 (.shf .shr .u64 (ot 9) (.cst (.d (.int .u64 58)))),
 oo 11 (.ixp 64 1 (.cst (.gp 4 0)) (ot 10)),
 oo 12 (.ld false 1 (ot 11)),
 oo 13 (.conv .i64 (ot 12)),
 oo 2 (.mov (ot 13))])
 .ret)))⟩
def tx252:AFun:={ jr252 with heap:=41 }
def tx253:AFun:={ jr253 with heap:=41 }
def tx254:AFun:={ jr254 with heap:=41 }
def tx255:AFun:={ jr255 with heap:=41 }
def tab09:TabL:=[
(13,41,tx13),
(14,3,tx14),
(16,3,tx16),
(17,4,tx17),
(27,7,tx27),
(28,0,tx28),
(29,7,tx29),
(30,8,tx30),
(34,0,tx34),
(35,0,tx35),
(37,5,tx37),
(39,2,tx39),
(48,0,tx48),
(50,2,tx50),
(51,5,tx51),
(53,2,tx53),
(63,0,tx63),
(65,2,tx65),
(67,4,tx67),
(69,5,tx69),
(70,4,tx70),
(71,4,tx71),
(72,2,tx72),
(73,2,tx73),
(83,3,tx83),
(86,10,tx86),
(91,0,tx91),
(96,3,tx96),
(97,1,tx97),
(98,10,tx98),
(99,0,tx99),
(100,3,tx100),
(101,0,tx101),
(102,14,tx102),
(103,0,tx103),
(104,0,tx104),
(105,0,tx105),
(106,0,tx106),
(107,2,tx107),
(108,2,tx108),
(116,0,tx116),
(117,2,tx117),
(118,0,tx118),
(119,0,tx119),
(120,0,tx120),
(121,0,tx121),
(122,0,tx122),
(123,0,tx123),
(124,1,tx124),
(125,2,tx125),
(126,0,tx126),
(127,0,tx127),
(128,0,tx128),
(129,0,tx129),
(130,2,tx130),
(131,0,tx131),
(132,2,tx132),
(133,5,tx133),
(134,0,tx134),
(135,1,tx135),
(136,2,tx136),
(137,3,tx137),
(138,2,tx138),
(139,1,tx139),
(140,0,tx140),
(141,1,tx141),
(142,3,tx142),
(143,1,tx143),
(144,3,tx144),
(147,0,tx147),
(148,0,tx148),
(149,0,tx149),
(150,1,tx150),
(153,0,tx153),
(154,3,tx154),
(155,1,tx155),
(157,0,tx157),
(158,2,tx158),
(160,0,tx160),
(161,0,tx161),
(162,0,tx162),
(163,1,tx163),
(165,1,tx165),
(166,0,tx166),
(167,0,tx167),
(168,0,tx168),
(169,0,tx169),
(170,3,tx170),
(171,2,tx171),
(172,0,tx172),
(173,1,tx173),
(174,0,tx174),
(177,0,tx177),
(178,0,tx178),
(180,0,tx180),
(181,0,tx181),
(182,0,tx182),
(186,0,tx186),
(187,1,tx187),
(188,0,tx188),
(189,0,tx189),
(190,1,tx190),
(191,1,tx191),
(192,0,tx192),
(193,0,tx193),
(194,0,tx194),
(195,0,tx195),
(196,0,tx196),
(197,0,tx197),
(198,0,tx198),
(199,0,tx199),
(201,0,tx201),
(202,0,tx202),
(203,1,tx203),
(204,1,tx204),
(205,0,tx205),
(206,0,tx206),
(207,0,tx207),
(208,0,tx208),
(209,0,tx209),
(212,1,tx212),
(213,0,tx213),
(214,0,tx214),
(215,0,tx215),
(216,0,tx216),
(217,0,tx217),
(218,0,tx218),
(219,0,tx219),
(220,0,tx220),
(223,0,tx223),
(224,0,tx224),
(225,0,tx225),
(226,2,tx226),
(227,0,tx227),
(228,0,tx228),
(229,0,tx229),
(230,0,tx230),
(231,0,tx231),
(232,0,tx232),
(233,0,tx233),
(234,0,tx234),
(252,1,tx252),
(253,1,tx253),
(254,1,tx254),
(255,1,tx255)]
theorem tab09_chk:chkT Tryz.prog tab09=true:=by kernel_rfl
end Vc
