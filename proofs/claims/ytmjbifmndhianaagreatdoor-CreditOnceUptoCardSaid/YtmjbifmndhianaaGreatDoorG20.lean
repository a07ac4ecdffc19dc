import Derived.Test.YtmjbifmndhianaaGreatDoorG12
import Derived.Test.YtmjbifmndhianaaGreatDoorG14
import Derived.Test.YtmjbifmndhianaaGreatDoorG16
import Derived.Test.YtmjbifmndhianaaGreatDoorG17
import Derived.Test.YtmjbifmndhianaaGreatDoorG19
import Derived.Test.YtmjbifmndhianaaGreatDoorG09
import Derived.Test.YtmjbifmndhianaaGreatDoorG06
import Derived.Test.YtmjbifmndhianaaGreatDoorG08
set_option linter.unusedSectionVars false
set_option linter.unusedVariables false
set_option linter.unusedSimpArgs false
set_option maxRecDepth 100000
namespace Vc
open Go Go.Proofs
abbrev oo (d : Nat) (x : AOp) : AOper := ⟨some d, x, none⟩
abbrev ot (d : Nat) : Opd := .tmp d
def tx15:AFun:=⟨467,65,[.tmp 0],
 (.seq
 (.reg [] [oo 0 (.mov (.cst (.d (.bool false))))])
 (.seq
 (.reg [0] [oo 64 (.call 86 []),
 oo 65 (.call 38 [(ot 64),(.cst (.d (.int .i64 7))),(.cst (.d (.int .i64 1000)))]),
 oo 63 (.mov (ot 65)),
 oo 66 (.ext 0 (ot 63)),
 oo 67 (.ext 1 (ot 63)),
 oo 1 (.alloc 0 [(.d (.int .i64 0)),(.d (.int .i64 0)),(.d (.int .u8 0)),(.d (.int .u8 0)),(.d (.int .u8 0)),(.d (.int .u8 0)),(.d (.int .u8 0)),(.d (.int .u8 0)),(.d (.int .u8 0)),(.d (.int .u8 0))]),
 ⟨none,.st 10 (ot 1) (ot 66),none⟩,
 oo 2 (.mov (ot 67))])
 (.seq
 (.reg [1] [oo 69 (.ld true 10 (ot 1)),
 oo 70 (.call 39 [(ot 69)]),
 oo 68 (.mov (ot 70)),
 oo 71 (.ext 0 (ot 68)),
 oo 72 (.ext 1 (ot 68)),
 oo 3 (.alloc 1 [(.d (.int .u8 0)),(.d (.int .u8 0)),(.d (.int .u8 0)),(.d (.int .u8 0)),(.d (.int .u8 0)),(.d (.int .u8 0)),(.d (.int .u8 0)),(.d (.int .u8 0)),(.d (.int .u8 0)),(.d (.int .u8 0)),(.d (.int .u8 0)),(.d (.int .u8 0)),(.d (.int .u8 0)),(.d (.int .u8 0)),(.d (.int .u8 0)),(.d (.int .u8 0))]),
 ⟨none,.st 16 (ot 3) (ot 71),none⟩,
 oo 4 (.mov (ot 72))])
 (.seq
 (.reg [2] [oo 74 (.ld true 16 (ot 3)),
 oo 75 (.call 40 [(ot 74)]),
 oo 73 (.mov (ot 75)),
 oo 76 (.ext 0 (ot 73)),
 oo 77 (.ext 1 (ot 73)),
 oo 5 (.alloc 2 [(.d (.int .i64 0)),(.d (.int .i64 0)),(.d (.int .u8 0)),(.d (.int .u8 0)),(.d (.int .u8 0)),(.d (.int .u8 0)),(.d (.int .u8 0)),(.d (.int .u8 0)),(.d (.int .u8 0)),(.d (.int .u8 0))]),
 ⟨none,.st 10 (ot 5) (ot 76),none⟩,
 oo 6 (.mov (ot 77))])
 (.seq
 (.regd [3] [oo 79 (.call 87 []),
 oo 80 (.ld true 10 (ot 1)),
 oo 81 (.call 28 [(ot 79),(ot 80)]),
 oo 78 (.mov (ot 81)),
 oo 82 (.ext 0 (ot 78)),
 oo 83 (.ext 1 (ot 78)),
 oo 7 (.alloc 3 [(.d (.int .i64 0)),(.d (.int .i64 0)),(.d (.int .i64 0)),(.d (.int .i64 0)),(.d (.int .u8 0)),(.d (.int .u8 0)),(.d (.int .u8 0)),(.d (.int .u8 0)),(.d (.int .u8 0)),(.d (.int .u8 0)),(.d (.int .u8 0)),(.d (.int .u8 0)),(.d (.int .u8 0)),(.d (.int .u8 0)),(.d (.int .u8 0)),(.d (.int .u8 0)),(.d (.int .u8 0)),(.d (.int .u8 0)),(.d (.int .u8 0)),(.d (.int .u8 0)),(.d (.bool false)),(.nils 1)]),
 ⟨none,.st 22 (ot 7) (ot 82),none⟩,
 oo 8 (.mov (ot 83))] [(0,1),(4,5),(0,6),(1,6),(2,6),(3,6),(4,6),(5,6),(5,7)])
 (.seq
 (.reg [4] [oo 85 (.ld true 22 (ot 7)),
 oo 86 (.ld true 10 (ot 1)),
 oo 87 (.call 28 [(ot 85),(ot 86)]),
 oo 84 (.mov (ot 87)),
 oo 88 (.ext 0 (ot 84)),
 oo 89 (.ext 1 (ot 84)),
 oo 9 (.alloc 4 [(.d (.int .i64 0)),(.d (.int .i64 0)),(.d (.int .i64 0)),(.d (.int .i64 0)),(.d (.int .u8 0)),(.d (.int .u8 0)),(.d (.int .u8 0)),(.d (.int .u8 0)),(.d (.int .u8 0)),(.d (.int .u8 0)),(.d (.int .u8 0)),(.d (.int .u8 0)),(.d (.int .u8 0)),(.d (.int .u8 0)),(.d (.int .u8 0)),(.d (.int .u8 0)),(.d (.int .u8 0)),(.d (.int .u8 0)),(.d (.int .u8 0)),(.d (.int .u8 0)),(.d (.bool false)),(.nils 1)]),
 ⟨none,.st 22 (ot 9) (ot 88),none⟩,
 oo 10 (.mov (ot 89))])
 (.seq
 (.reg [5] [oo 91 (.call 86 []),
 oo 92 (.call 38 [(ot 91),(.cst (.d (.int .i64 9))),(.cst (.d (.int .i64 1000)))]),
 oo 90 (.mov (ot 92)),
 oo 93 (.ext 0 (ot 90)),
 oo 94 (.ext 1 (ot 90)),
 oo 11 (.alloc 5 [(.d (.int .i64 0)),(.d (.int .i64 0)),(.d (.int .u8 0)),(.d (.int .u8 0)),(.d (.int .u8 0)),(.d (.int .u8 0)),(.d (.int .u8 0)),(.d (.int .u8 0)),(.d (.int .u8 0)),(.d (.int .u8 0))]),
 ⟨none,.st 10 (ot 11) (ot 93),none⟩,
 oo 12 (.mov (ot 94))])
 (.seq
 (.regd [6,7] [oo 96 (.call 87 []),
 oo 97 (.ld true 10 (ot 1)),
 oo 98 (.ld true 10 (ot 1)),
 oo 99 (.ld true 10 (ot 11)),
 oo 100 (.bsl 6 51 10 3 [(.agg [(.int .i64 0),(.int .i64 0),(.int .u8 0),(.int .u8 0),(.int .u8 0),(.int .u8 0),(.int .u8 0),(.int .u8 0),(.int .u8 0),(.int .u8 0)]),(.agg [(.int .i64 0),(.int .i64 0),(.int .u8 0),(.int .u8 0),(.int .u8 0),(.int .u8 0),(.int .u8 0),(.int .u8 0),(.int .u8 0),(.int .u8 0)]),(.agg [(.int .i64 0),(.int .i64 0),(.int .u8 0),(.int .u8 0),(.int .u8 0),(.int .u8 0),(.int .u8 0),(.int .u8 0),(.int .u8 0),(.int .u8 0)])] [(0,(ot 97)),(1,(ot 98)),(2,(ot 99))]),
 oo 101 (.call 29 [(ot 96),(ot 100)]),
 oo 95 (.mov (ot 101)),
 oo 102 (.ext 0 (ot 95)),
 oo 103 (.ext 1 (ot 95)),
 oo 104 (.ext 2 (ot 95)),
 oo 13 (.alloc 7 [(.d (.int .i64 0)),(.d (.int .i64 0)),(.d (.int .i64 0)),(.d (.int .i64 0)),(.d (.int .u8 0)),(.d (.int .u8 0)),(.d (.int .u8 0)),(.d (.int .u8 0)),(.d (.int .u8 0)),(.d (.int .u8 0)),(.d (.int .u8 0)),(.d (.int .u8 0)),(.d (.int .u8 0)),(.d (.int .u8 0)),(.d (.int .u8 0)),(.d (.int .u8 0)),(.d (.int .u8 0)),(.d (.int .u8 0)),(.d (.int .u8 0)),(.d (.int .u8 0)),(.d (.bool false)),(.nils 1)]),
 ⟨none,.st 22 (ot 13) (ot 102),none⟩,
 oo 14 (.mov (ot 103)),
 oo 15 (.mov (ot 104))] [(0,1),(0,2),(1,2),(0,3),(1,3),(2,3),(0,4),(7,8),(7,9),(8,9),(0,10),(1,10),(2,10),(3,10),(4,10),(5,10),(6,10),(7,10),(8,10),(9,10),(8,11),(9,11),(9,12)])
 (.seq
 (.reg [8] [oo 106 (.call 87 []),
 oo 107 (.call 16 [(ot 106),(.cst (.d (.int .i64 2900)))]),
 oo 105 (.mov (ot 107)),
 oo 108 (.ext 0 (ot 105)),
 oo 109 (.ext 1 (ot 105)),
 oo 16 (.alloc 8 [(.d (.int .i64 0)),(.d (.int .i64 0)),(.d (.int .i64 0)),(.d (.int .i64 0)),(.d (.int .u8 0)),(.d (.int .u8 0)),(.d (.int .u8 0)),(.d (.int .u8 0)),(.d (.int .u8 0)),(.d (.int .u8 0)),(.d (.int .u8 0)),(.d (.int .u8 0)),(.d (.int .u8 0)),(.d (.int .u8 0)),(.d (.int .u8 0)),(.d (.int .u8 0)),(.d (.int .u8 0)),(.d (.int .u8 0)),(.d (.int .u8 0)),(.d (.int .u8 0)),(.d (.bool false)),(.nils 1)]),
 ⟨none,.st 22 (ot 16) (ot 108),none⟩,
 oo 17 (.mov (ot 109))])
 (.seq
 (.reg [] [oo 111 (.ld true 22 (ot 16)),
 oo 112 (.call 18 [(ot 111)]),
 oo 110 (.mov (ot 112)),
 oo 113 (.ext 0 (ot 110)),
 oo 114 (.ext 1 (ot 110)),
 oo 18 (.mov (ot 113)),
 oo 19 (.mov (ot 114))])
 (.seq
 (.reg [9] [oo 116 (.call 87 []),
 oo 117 (.call 16 [(ot 116),(.cst (.d (.int .i64 3001)))]),
 oo 115 (.mov (ot 117)),
 oo 118 (.ext 0 (ot 115)),
 oo 119 (.ext 1 (ot 115)),
 oo 20 (.alloc 9 [(.d (.int .i64 0)),(.d (.int .i64 0)),(.d (.int .i64 0)),(.d (.int .i64 0)),(.d (.int .u8 0)),(.d (.int .u8 0)),(.d (.int .u8 0)),(.d (.int .u8 0)),(.d (.int .u8 0)),(.d (.int .u8 0)),(.d (.int .u8 0)),(.d (.int .u8 0)),(.d (.int .u8 0)),(.d (.int .u8 0)),(.d (.int .u8 0)),(.d (.int .u8 0)),(.d (.int .u8 0)),(.d (.int .u8 0)),(.d (.int .u8 0)),(.d (.int .u8 0)),(.d (.bool false)),(.nils 1)]),
 ⟨none,.st 22 (ot 20) (ot 118),none⟩,
 oo 21 (.mov (ot 119))])
 (.seq
 (.reg [] [oo 121 (.ld true 22 (ot 20)),
 oo 122 (.call 19 [(ot 121)]),
 oo 120 (.mov (ot 122)),
 oo 123 (.ext 0 (ot 120)),
 oo 124 (.ext 1 (ot 120)),
 oo 22 (.mov (ot 123)),
 oo 23 (.mov (ot 124))])
 (.seq
 (.seq
 (.reg [10,11,12] [oo 125 (.mov (ot 2)),
 oo 126 (.mov (ot 4)),
 oo 127 (.arith .add .i64 (ot 125) (ot 126)),
 oo 128 (.mov (ot 6)),
 oo 129 (.arith .add .i64 (ot 127) (ot 128)),
 oo 130 (.mov (ot 8)),
 oo 131 (.arith .add .i64 (ot 129) (ot 130)),
 oo 132 (.mov (ot 12)),
 oo 133 (.arith .add .i64 (ot 131) (ot 132)),
 oo 134 (.mov (ot 15)),
 oo 135 (.arith .add .i64 (ot 133) (ot 134)),
 oo 136 (.mov (ot 17)),
 oo 137 (.arith .add .i64 (ot 135) (ot 136)),
 oo 138 (.mov (ot 19)),
 oo 139 (.arith .add .i64 (ot 137) (ot 138)),
 oo 140 (.mov (ot 21)),
 oo 141 (.arith .add .i64 (ot 139) (ot 140)),
 oo 142 (.mov (ot 23)),
 oo 143 (.arith .add .i64 (ot 141) (ot 142)),
 oo 144 (.cmp .neq (ot 143) (.cst (.d (.int .i64 0)))),
 oo 145 (.mov (ot 144)),
 ⟨some 146,.mov (ot 10),some (145,false)⟩,
 ⟨some 147,.cmp .neq (ot 146) (.cst (.d (.int .i64 9))),some (145,false)⟩,
 oo 148 (.pick (ot 145) (.cst (.d (.bool true))) (ot 147)),
 oo 149 (.mov (ot 148)),
 ⟨some 150,.slv 16 (ot 3) none (some (.cst (.d (.int .i64 8)))),some (149,false)⟩,
 ⟨some 151,.s2a 8 (ot 150),some (149,false)⟩,
 ⟨some 152,.ld true 8 (ot 151),some (149,false)⟩,
 ⟨some 153,.build [(.d (.int .u8 0)),(.d (.int .u8 0)),(.d (.int .u8 0)),(.d (.int .u8 0)),(.d (.int .u8 0)),(.d (.int .u8 0)),(.d (.int .u8 0)),(.d (.int .u8 0))] [(0,1,(.cst (.d (.int .u8 0)))),(1,1,(.cst (.d (.int .u8 0)))),(2,1,(.cst (.d (.int .u8 0)))),(3,1,(.cst (.d (.int .u8 7)))),(4,1,(.cst (.d (.int .u8 0)))),(5,1,(.cst (.d (.int .u8 0)))),(6,1,(.cst (.d (.int .u8 3)))),(7,1,(.cst (.d (.int .u8 232))))],some (149,false)⟩,
 ⟨some 154,.aeq true [0,0,0,0,0,0,0,0] (ot 152) (ot 153),some (149,false)⟩,
 oo 155 (.pick (ot 149) (.cst (.d (.bool true))) (ot 154)),
 oo 156 (.mov (ot 155)),
 ⟨some 157,.ld true 10 (ot 5),some (156,false)⟩,
 ⟨some 158,.ld true 10 (ot 1),some (156,false)⟩,
 ⟨some 159,.aeq true [0,0,0,0,0,0,0,0,0,0] (ot 157) (ot 158),some (156,false)⟩,
 oo 160 (.pick (ot 156) (.cst (.d (.bool true))) (ot 159)),
 oo 161 (.mov (ot 160)),
 ⟨some 162,.fad 0 (ot 7),some (161,false)⟩,
 ⟨some 163,.ld false 1 (ot 162),some (161,false)⟩,
 ⟨some 164,.cmp .neq (ot 163) (.cst (.d (.int .i64 1600))),some (161,false)⟩,
 oo 165 (.pick (ot 161) (.cst (.d (.bool true))) (ot 164)),
 oo 166 (.mov (ot 165)),
 ⟨some 167,.fad 1 (ot 7),some (166,false)⟩,
 ⟨some 168,.ld false 1 (ot 167),some (166,false)⟩,
 ⟨some 169,.cmp .neq (ot 168) (.cst (.d (.int .i64 100))),some (166,false)⟩,
 oo 170 (.pick (ot 166) (.cst (.d (.bool true))) (ot 169)),
 oo 171 (.mov (ot 170)),
 ⟨some 172,.fad 21 (ot 7),some (171,false)⟩,
 ⟨some 173,.ld false 1 (ot 172),some (171,false)⟩,
 ⟨some 174,.bsl 10 3 1 1 [(.int .i64 0)] [(0,(.cst (.d (.int .i64 7))))],some (171,false)⟩,
 ⟨some 175,.call 35 [(ot 173),(ot 174)],some (171,false)⟩,
 ⟨some 176,.not (ot 175),some (171,false)⟩,
 oo 177 (.pick (ot 171) (.cst (.d (.bool true))) (ot 176)),
 oo 178 (.mov (ot 177)),
 ⟨some 179,.fad 0 (ot 13),some (178,false)⟩,
 ⟨some 180,.ld false 1 (ot 179),some (178,false)⟩,
 ⟨some 181,.cmp .neq (ot 180) (.cst (.d (.int .i64 2500))),some (178,false)⟩,
 oo 182 (.pick (ot 178) (.cst (.d (.bool true))) (ot 181)),
 oo 183 (.mov (ot 182)),
 ⟨some 184,.fad 1 (ot 13),some (183,false)⟩,
 ⟨some 185,.ld false 1 (ot 184),some (183,false)⟩,
 ⟨some 186,.cmp .neq (ot 185) (.cst (.d (.int .i64 0))),some (183,false)⟩,
 oo 187 (.pick (ot 183) (.cst (.d (.bool true))) (ot 186)),
 oo 188 (.mov (ot 187)),
 ⟨some 189,.fad 21 (ot 13),some (188,false)⟩,
 ⟨some 190,.ld false 1 (ot 189),some (188,false)⟩,
 ⟨some 191,.bsl 11 3 1 2 [(.int .i64 0),(.int .i64 0)] [(0,(.cst (.d (.int .i64 7)))),(1,(.cst (.d (.int .i64 9))))],some (188,false)⟩,
 ⟨some 192,.call 35 [(ot 190),(ot 191)],some (188,false)⟩,
 ⟨some 193,.not (ot 192),some (188,false)⟩,
 oo 194 (.pick (ot 188) (.cst (.d (.bool true))) (ot 193)),
 oo 195 (.mov (ot 194)),
 ⟨some 196,.mov (ot 14),some (195,false)⟩,
 ⟨some 197,.bsl 12 3 1 2 [(.int .i64 0),(.int .i64 0)] [(0,(.cst (.d (.int .i64 0)))),(1,(.cst (.d (.int .i64 2))))],some (195,false)⟩,
 ⟨some 198,.call 35 [(ot 196),(ot 197)],some (195,false)⟩,
 ⟨some 199,.not (ot 198),some (195,false)⟩,
 oo 200 (.pick (ot 195) (.cst (.d (.bool true))) (ot 199)),
 oo 201 (.mov (ot 200)),
 ⟨some 202,.fad 0 (ot 16),some (201,false)⟩,
 ⟨some 203,.ld false 1 (ot 202),some (201,false)⟩,
 ⟨some 204,.cmp .neq (ot 203) (.cst (.d (.int .i64 (-1900)))),some (201,false)⟩,
 oo 205 (.pick (ot 201) (.cst (.d (.bool true))) (ot 204)),
 oo 206 (.mov (ot 205)),
 ⟨some 207,.mov (ot 18),some (206,false)⟩,
 ⟨some 208,.cmp .neq (ot 207) (.cst (.d (.int .i64 100))),some (206,false)⟩,
 oo 209 (.pick (ot 206) (.cst (.d (.bool true))) (ot 208)),
 oo 210 (.mov (ot 209)),
 ⟨some 211,.mov (ot 22),some (210,false)⟩,
 ⟨some 212,.not (ot 211),some (210,false)⟩,
 oo 213 (.pick (ot 210) (.cst (.d (.bool true))) (ot 212))])
 (.cond (ot 213)
 (.seq
 (.reg [] [oo 0 (.mov (.cst (.d (.bool false))))])
 .ret)
 .skip))
 (.seq
 (.reg [13] [oo 215 (.call 87 []),
 oo 216 (.build [(.d (.int .u8 0)),(.d (.int .u8 0)),(.d (.int .u8 0)),(.d (.int .u8 0)),(.d (.int .u8 0)),(.d (.int .u8 0)),(.d (.int .u8 0)),(.d (.int .u8 0))] [(0,1,(.cst (.d (.int .u8 9))))]),
 oo 217 (.call 36 [(ot 215),(ot 216)]),
 oo 214 (.mov (ot 217)),
 oo 218 (.ext 0 (ot 214)),
 oo 219 (.ext 1 (ot 214)),
 oo 24 (.alloc 13 [(.d (.int .i64 0)),(.d (.int .i64 0)),(.d (.int .i64 0)),(.d (.int .i64 0)),(.d (.int .u8 0)),(.d (.int .u8 0)),(.d (.int .u8 0)),(.d (.int .u8 0)),(.d (.int .u8 0)),(.d (.int .u8 0)),(.d (.int .u8 0)),(.d (.int .u8 0)),(.d (.int .u8 0)),(.d (.int .u8 0)),(.d (.int .u8 0)),(.d (.int .u8 0)),(.d (.int .u8 0)),(.d (.int .u8 0)),(.d (.int .u8 0)),(.d (.int .u8 0)),(.d (.bool false)),(.nils 1)]),
 ⟨none,.st 22 (ot 24) (ot 218),none⟩,
 oo 25 (.mov (ot 219))])
 (.seq
 (.reg [14] [oo 221 (.build [(.d (.int .u8 0)),(.d (.int .u8 0)),(.d (.int .u8 0)),(.d (.int .u8 0)),(.d (.int .u8 0)),(.d (.int .u8 0)),(.d (.int .u8 0)),(.d (.int .u8 0))] [(0,1,(.cst (.d (.int .u8 9))))]),
 oo 222 (.call 38 [(ot 221),(.cst (.d (.int .i64 9))),(.cst (.d (.int .i64 1000)))]),
 oo 220 (.mov (ot 222)),
 oo 223 (.ext 0 (ot 220)),
 oo 224 (.ext 1 (ot 220)),
 oo 26 (.alloc 14 [(.d (.int .i64 0)),(.d (.int .i64 0)),(.d (.int .u8 0)),(.d (.int .u8 0)),(.d (.int .u8 0)),(.d (.int .u8 0)),(.d (.int .u8 0)),(.d (.int .u8 0)),(.d (.int .u8 0)),(.d (.int .u8 0))]),
 ⟨none,.st 10 (ot 26) (ot 223),none⟩,
 oo 27 (.mov (ot 224))])
 (.seq
 (.reg [15] [oo 226 (.ld true 22 (ot 24)),
 oo 227 (.ld true 10 (ot 26)),
 oo 228 (.call 28 [(ot 226),(ot 227)]),
 oo 225 (.mov (ot 228)),
 oo 229 (.ext 0 (ot 225)),
 oo 230 (.ext 1 (ot 225)),
 oo 28 (.alloc 15 [(.d (.int .i64 0)),(.d (.int .i64 0)),(.d (.int .i64 0)),(.d (.int .i64 0)),(.d (.int .u8 0)),(.d (.int .u8 0)),(.d (.int .u8 0)),(.d (.int .u8 0)),(.d (.int .u8 0)),(.d (.int .u8 0)),(.d (.int .u8 0)),(.d (.int .u8 0)),(.d (.int .u8 0)),(.d (.int .u8 0)),(.d (.int .u8 0)),(.d (.int .u8 0)),(.d (.int .u8 0)),(.d (.int .u8 0)),(.d (.int .u8 0)),(.d (.int .u8 0)),(.d (.bool false)),(.nils 1)]),
 ⟨none,.st 22 (ot 28) (ot 229),none⟩,
 oo 29 (.mov (ot 230))])
 (.seq
 (.reg [16] [oo 232 (.ld true 22 (ot 28)),
 oo 233 (.call 37 [(ot 232)]),
 oo 231 (.mov (ot 233)),
 oo 234 (.ext 0 (ot 231)),
 oo 235 (.ext 1 (ot 231)),
 oo 30 (.alloc 16 [(.d (.int .i64 0)),(.d (.int .i64 0)),(.d (.int .i64 0)),(.d (.int .i64 0)),(.d (.int .u8 0)),(.d (.int .u8 0)),(.d (.int .u8 0)),(.d (.int .u8 0)),(.d (.int .u8 0)),(.d (.int .u8 0)),(.d (.int .u8 0)),(.d (.int .u8 0)),(.d (.int .u8 0)),(.d (.int .u8 0)),(.d (.int .u8 0)),(.d (.int .u8 0)),(.d (.int .u8 0)),(.d (.int .u8 0)),(.d (.int .u8 0)),(.d (.int .u8 0)),(.d (.bool false)),(.nils 1)]),
 ⟨none,.st 22 (ot 30) (ot 234),none⟩,
 oo 31 (.mov (ot 235))])
 (.seq
 (.reg [17] [oo 237 (.ld true 22 (ot 30)),
 oo 238 (.ld true 10 (ot 1)),
 oo 239 (.call 28 [(ot 237),(ot 238)]),
 oo 236 (.mov (ot 239)),
 oo 240 (.ext 0 (ot 236)),
 oo 241 (.ext 1 (ot 236)),
 oo 32 (.alloc 17 [(.d (.int .i64 0)),(.d (.int .i64 0)),(.d (.int .i64 0)),(.d (.int .i64 0)),(.d (.int .u8 0)),(.d (.int .u8 0)),(.d (.int .u8 0)),(.d (.int .u8 0)),(.d (.int .u8 0)),(.d (.int .u8 0)),(.d (.int .u8 0)),(.d (.int .u8 0)),(.d (.int .u8 0)),(.d (.int .u8 0)),(.d (.int .u8 0)),(.d (.int .u8 0)),(.d (.int .u8 0)),(.d (.int .u8 0)),(.d (.int .u8 0)),(.d (.int .u8 0)),(.d (.bool false)),(.nils 1)]),
 ⟨none,.st 22 (ot 32) (ot 240),none⟩,
 oo 33 (.mov (ot 241))])
 (.seq
 (.reg [] [oo 243 (.call 88 []),
 oo 244 (.call 46 [(ot 243),(.cst (.d (.int .i64 20000)))]),
 oo 242 (.mov (ot 244)),
 oo 245 (.ext 0 (ot 242)),
 oo 246 (.ext 1 (ot 242)),
 oo 34 (.mov (ot 245)),
 oo 35 (.mov (ot 246))])
 (.seq
 (.reg [] [oo 248 (.call 88 []),
 oo 249 (.call 46 [(ot 248),(.cst (.d (.int .i64 30000)))]),
 oo 247 (.mov (ot 249)),
 oo 250 (.ext 0 (ot 247)),
 oo 251 (.ext 1 (ot 247)),
 oo 36 (.mov (ot 250)),
 oo 37 (.mov (ot 251))])
 (.seq
 (.reg [] [oo 253 (.call 88 []),
 oo 254 (.call 48 [(ot 253),(.cst (.d (.int .i64 70000)))]),
 oo 252 (.mov (ot 254)),
 oo 255 (.ext 0 (ot 252)),
 oo 256 (.ext 1 (ot 252)),
 oo 38 (.mov (ot 255)),
 oo 39 (.mov (ot 256))])
 (.seq
 (.reg [] [oo 258 (.call 88 []),
 oo 259 (.call 48 [(ot 258),(.cst (.d (.int .i64 410400)))]),
 oo 257 (.mov (ot 259)),
 oo 260 (.ext 0 (ot 257)),
 oo 261 (.ext 1 (ot 257)),
 oo 40 (.mov (ot 260)),
 oo 41 (.mov (ot 261))])
 (.seq
 (.reg [18] [oo 262 (.build [(.d (.int .i64 0)),(.d (.int .i64 0)),(.d (.int .i64 0)),(.d (.int .i64 0)),(.d (.int .u8 0)),(.d (.int .u8 0)),(.d (.int .u8 0)),(.d (.int .u8 0)),(.d (.int .u8 0)),(.d (.int .u8 0)),(.d (.int .u8 0)),(.d (.int .u8 0)),(.d (.int .u8 0)),(.d (.int .u8 0)),(.d (.int .u8 0)),(.d (.int .u8 0)),(.d (.int .u8 0)),(.d (.int .u8 0)),(.d (.int .u8 0)),(.d (.int .u8 0)),(.d (.bool false)),(.nils 1)] [(0,1,(.cst (.d (.int .i64 1000)))),(3,1,(.cst (.d (.int .i64 2000))))]),
 oo 42 (.alloc 18 [(.d (.int .i64 0)),(.d (.int .i64 0)),(.d (.int .i64 0)),(.d (.int .i64 0)),(.d (.int .u8 0)),(.d (.int .u8 0)),(.d (.int .u8 0)),(.d (.int .u8 0)),(.d (.int .u8 0)),(.d (.int .u8 0)),(.d (.int .u8 0)),(.d (.int .u8 0)),(.d (.int .u8 0)),(.d (.int .u8 0)),(.d (.int .u8 0)),(.d (.int .u8 0)),(.d (.int .u8 0)),(.d (.int .u8 0)),(.d (.int .u8 0)),(.d (.int .u8 0)),(.d (.bool false)),(.nils 1)]),
 ⟨none,.st 22 (ot 42) (ot 262),none⟩])
 (.seq
 (.regd [] [oo 264 (.ld true 22 (ot 42)),
 oo 265 (.call 88 []),
 oo 266 (.call 49 [(ot 264),(ot 265),(.cst (.d (.int .i64 30000))),(.cst (.d (.int .i64 1)))]),
 oo 263 (.mov (ot 266)),
 oo 267 (.ext 0 (ot 263)),
 oo 268 (.ext 1 (ot 263)),
 oo 43 (.mov (ot 267)),
 oo 44 (.mov (ot 268))] [(0,1),(4,5),(5,6)])
 (.seq
 (.regd [] [oo 270 (.ld true 22 (ot 42)),
 oo 271 (.call 88 []),
 oo 272 (.call 49 [(ot 270),(ot 271),(.cst (.d (.int .i64 64000))),(.cst (.d (.int .i64 1)))]),
 oo 269 (.mov (ot 272)),
 oo 273 (.ext 0 (ot 269)),
 oo 274 (.ext 1 (ot 269)),
 oo 45 (.mov (ot 273)),
 oo 46 (.mov (ot 274))] [(0,1),(4,5),(5,6)])
 (.seq
 (.seq
 (.reg [] [oo 275 (.mov (ot 25)),
 oo 276 (.mov (ot 27)),
 oo 277 (.arith .add .i64 (ot 275) (ot 276)),
 oo 278 (.mov (ot 29)),
 oo 279 (.arith .add .i64 (ot 277) (ot 278)),
 oo 280 (.mov (ot 31)),
 oo 281 (.arith .add .i64 (ot 279) (ot 280)),
 oo 282 (.mov (ot 35)),
 oo 283 (.arith .add .i64 (ot 281) (ot 282)),
 oo 284 (.mov (ot 37)),
 oo 285 (.arith .add .i64 (ot 283) (ot 284)),
 oo 286 (.mov (ot 39)),
 oo 287 (.arith .add .i64 (ot 285) (ot 286)),
 oo 288 (.mov (ot 41)),
 oo 289 (.arith .add .i64 (ot 287) (ot 288)),
 oo 290 (.mov (ot 44)),
 oo 291 (.arith .add .i64 (ot 289) (ot 290)),
 oo 292 (.mov (ot 46)),
 oo 293 (.arith .add .i64 (ot 291) (ot 292)),
 oo 294 (.cmp .neq (ot 293) (.cst (.d (.int .i64 0)))),
 oo 295 (.mov (ot 294)),
 ⟨some 296,.mov (ot 33),some (295,false)⟩,
 ⟨some 297,.cmp .neq (ot 296) (.cst (.d (.int .i64 27))),some (295,false)⟩,
 oo 298 (.pick (ot 295) (.cst (.d (.bool true))) (ot 297)),
 oo 299 (.mov (ot 298)),
 ⟨some 300,.fad 20 (ot 24),some (299,false)⟩,
 ⟨some 301,.ld false 1 (ot 300),some (299,false)⟩,
 ⟨some 302,.not (ot 301),some (299,false)⟩,
 oo 303 (.pick (ot 299) (.cst (.d (.bool true))) (ot 302)),
 oo 304 (.mov (ot 303)),
 ⟨some 305,.fad 20 (ot 30),some (304,false)⟩,
 ⟨some 306,.ld false 1 (ot 305),some (304,false)⟩,
 oo 307 (.pick (ot 304) (.cst (.d (.bool true))) (ot 306)),
 oo 308 (.mov (ot 307)),
 ⟨some 309,.fad 4 (ot 30),some (308,false)⟩,
 ⟨some 310,.ld true 8 (ot 309),some (308,false)⟩,
 ⟨some 311,.build [(.d (.int .u8 0)),(.d (.int .u8 0)),(.d (.int .u8 0)),(.d (.int .u8 0)),(.d (.int .u8 0)),(.d (.int .u8 0)),(.d (.int .u8 0)),(.d (.int .u8 0))] [(0,1,(.cst (.d (.int .u8 9))))],some (308,false)⟩,
 ⟨some 312,.aeq true [0,0,0,0,0,0,0,0] (ot 310) (ot 311),some (308,false)⟩,
 oo 313 (.pick (ot 308) (.cst (.d (.bool true))) (ot 312)),
 oo 314 (.mov (ot 313)),
 ⟨some 315,.mov (ot 34),some (314,false)⟩,
 ⟨some 316,.not (ot 315),some (314,false)⟩,
 oo 317 (.pick (ot 314) (.cst (.d (.bool true))) (ot 316)),
 oo 318 (.mov (ot 317)),
 ⟨some 319,.mov (ot 36),some (318,false)⟩,
 oo 320 (.pick (ot 318) (.cst (.d (.bool true))) (ot 319)),
 oo 321 (.mov (ot 320)),
 ⟨some 322,.mov (ot 38),some (321,false)⟩,
 ⟨some 323,.cmp .neq (ot 322) (.cst (.d (.int .i64 108000))),some (321,false)⟩,
 oo 324 (.pick (ot 321) (.cst (.d (.bool true))) (ot 323)),
 oo 325 (.mov (ot 324)),
 ⟨some 326,.mov (ot 40),some (325,false)⟩,
 ⟨some 327,.cmp .neq (ot 326) (.cst (.d (.int .i64 626400))),some (325,false)⟩,
 oo 328 (.pick (ot 325) (.cst (.d (.bool true))) (ot 327)),
 oo 329 (.mov (ot 328)),
 ⟨some 330,.mov (ot 43),some (329,false)⟩,
 ⟨some 331,.cmp .neq (ot 330) (.cst (.d (.int .i64 33001))),some (329,false)⟩,
 oo 332 (.pick (ot 329) (.cst (.d (.bool true))) (ot 331)),
 oo 333 (.mov (ot 332)),
 ⟨some 334,.mov (ot 45),some (333,false)⟩,
 ⟨some 335,.cmp .neq (ot 334) (.cst (.d (.int .i64 108000))),some (333,false)⟩,
 oo 336 (.pick (ot 333) (.cst (.d (.bool true))) (ot 335))])
 (.cond (ot 336)
 (.seq
 (.reg [] [oo 0 (.mov (.cst (.d (.bool false))))])
 .ret)
 .skip))
 (.seq
 (.reg [] [oo 338 (.call 89 []),
 oo 339 (.call 88 []),
 oo 340 (.call 57 [(ot 338),(ot 339),(.cst (.d (.int .i64 40000))),(.cst (.d (.int .i64 10000)))]),
 oo 337 (.mov (ot 340)),
 oo 341 (.ext 0 (ot 337)),
 oo 342 (.ext 1 (ot 337)),
 oo 47 (.mov (ot 341)),
 oo 48 (.mov (ot 342))])
 (.seq
 (.reg [] [oo 344 (.call 89 []),
 oo 345 (.call 88 []),
 oo 346 (.call 57 [(ot 344),(ot 345),(.cst (.d (.int .i64 40000))),(.cst (.d (.int .i64 9999)))]),
 oo 343 (.mov (ot 346)),
 oo 347 (.ext 0 (ot 343)),
 oo 348 (.ext 1 (ot 343)),
 oo 49 (.mov (ot 347)),
 oo 50 (.mov (ot 348))])
 (.seq
 (.reg [] [oo 350 (.call 89 []),
 oo 351 (.call 88 []),
 oo 352 (.call 57 [(ot 350),(ot 351),(.cst (.d (.int .i64 70000))),(.cst (.d (.int .i64 50000)))]),
 oo 349 (.mov (ot 352)),
 oo 353 (.ext 0 (ot 349)),
 oo 354 (.ext 1 (ot 349)),
 oo 51 (.mov (ot 353)),
 oo 52 (.mov (ot 354))])
 (.seq
 (.reg [19] [oo 356 (.call 89 []),
 oo 357 (.call 88 []),
 oo 358 (.call 59 [(ot 356),(ot 357),(.cst (.d (.int .i64 40000))),(.cst (.d (.int .i64 10000)))]),
 oo 355 (.mov (ot 358)),
 oo 359 (.ext 0 (ot 355)),
 oo 360 (.ext 1 (ot 355)),
 oo 53 (.alloc 19 [(.d (.bool false)),(.d (.bool false)),(.nils 2)]),
 ⟨none,.st 3 (ot 53) (ot 359),none⟩,
 oo 54 (.mov (ot 360))])
 (.seq
 (.reg [20] [oo 362 (.ld true 3 (ot 53)),
 oo 363 (.call 73 [(ot 362)]),
 oo 361 (.mov (ot 363)),
 oo 364 (.ext 0 (ot 361)),
 oo 365 (.ext 1 (ot 361)),
 oo 55 (.alloc 20 [(.d (.bool false)),(.d (.bool false)),(.nils 2)]),
 ⟨none,.st 3 (ot 55) (ot 364),none⟩,
 oo 56 (.mov (ot 365))])
 (.seq
 (.reg [21] [oo 367 (.ld true 3 (ot 55)),
 oo 368 (.call 72 [(ot 367)]),
 oo 366 (.mov (ot 368)),
 oo 369 (.ext 0 (ot 366)),
 oo 370 (.ext 1 (ot 366)),
 oo 57 (.alloc 21 [(.d (.bool false)),(.d (.bool false)),(.nils 2)]),
 ⟨none,.st 3 (ot 57) (ot 369),none⟩,
 oo 58 (.mov (ot 370))])
 (.seq
 (.reg [22] [oo 372 (.call 89 []),
 oo 373 (.call 70 [(ot 372),(.cst (.d (.str [103,114,105,100]))),(.cst (.d (.int .i64 32000)))]),
 oo 371 (.mov (ot 373)),
 oo 374 (.ext 0 (ot 371)),
 oo 375 (.ext 1 (ot 371)),
 oo 59 (.alloc 22 [(.d (.bool false)),(.d (.bool false)),(.nils 2)]),
 ⟨none,.st 3 (ot 59) (ot 374),none⟩,
 oo 60 (.mov (ot 375))])
 (.seq
 (.reg [] [oo 377 (.call 87 []),
 oo 378 (.call 81 [(ot 377)]),
 oo 376 (.mov (ot 378)),
 oo 379 (.ext 0 (ot 376)),
 oo 380 (.ext 1 (ot 376)),
 oo 61 (.mov (ot 379)),
 oo 62 (.mov (ot 380))])
 (.seq
 (.reg [23,24] [oo 381 (.mov (ot 48)),
 oo 382 (.mov (ot 50)),
 oo 383 (.arith .add .i64 (ot 381) (ot 382)),
 oo 384 (.mov (ot 52)),
 oo 385 (.arith .add .i64 (ot 383) (ot 384)),
 oo 386 (.mov (ot 54)),
 oo 387 (.arith .add .i64 (ot 385) (ot 386)),
 oo 388 (.mov (ot 56)),
 oo 389 (.arith .add .i64 (ot 387) (ot 388)),
 oo 390 (.mov (ot 58)),
 oo 391 (.arith .add .i64 (ot 389) (ot 390)),
 oo 392 (.mov (ot 60)),
 oo 393 (.arith .add .i64 (ot 391) (ot 392)),
 oo 394 (.mov (ot 62)),
 oo 395 (.arith .add .i64 (ot 393) (ot 394)),
 oo 396 (.cmp .eql (ot 395) (.cst (.d (.int .i64 0)))),
 oo 397 (.mov (ot 396)),
 ⟨some 398,.mov (ot 47),some (397,true)⟩,
 ⟨some 399,.len (ot 398),some (397,true)⟩,
 ⟨some 400,.cmp .eql (ot 399) (.cst (.d (.int .i64 0))),some (397,true)⟩,
 oo 401 (.pick (ot 397) (ot 400) (.cst (.d (.bool false)))),
 oo 402 (.mov (ot 401)),
 ⟨some 403,.mov (ot 49),some (402,true)⟩,
 ⟨some 404,.bsl 23 9 1 1 [(.str [])] [(0,(.cst (.d (.str [111,102,102,105,99,101,115]))))],some (402,true)⟩,
 ⟨some 405,.call 64 [(ot 403),(ot 404)],some (402,true)⟩,
 oo 406 (.pick (ot 402) (ot 405) (.cst (.d (.bool false)))),
 oo 407 (.mov (ot 406)),
 ⟨some 408,.mov (ot 51),some (407,true)⟩,
 ⟨some 409,.bsl 24 9 1 1 [(.str [])] [(0,(.cst (.d (.str [112,114,111,116,101,99,116,101,100]))))],some (407,true)⟩,
 ⟨some 410,.call 64 [(ot 408),(ot 409)],some (407,true)⟩,
 oo 411 (.pick (ot 407) (ot 410) (.cst (.d (.bool false)))),
 oo 412 (.mov (ot 411)),
 ⟨some 413,.fad 0 (ot 53),some (412,true)⟩,
 ⟨some 414,.ld false 1 (ot 413),some (412,true)⟩,
 ⟨some 415,.not (ot 414),some (412,true)⟩,
 oo 416 (.pick (ot 412) (ot 415) (.cst (.d (.bool false)))),
 oo 417 (.mov (ot 416)),
 ⟨some 418,.fad 1 (ot 53),some (417,true)⟩,
 ⟨some 419,.ld false 1 (ot 418),some (417,true)⟩,
 ⟨some 420,.not (ot 419),some (417,true)⟩,
 oo 421 (.pick (ot 417) (ot 420) (.cst (.d (.bool false)))),
 oo 422 (.mov (ot 421)),
 ⟨some 423,.fad 2 (ot 53),some (422,true)⟩,
 ⟨some 424,.ld false 1 (ot 423),some (422,true)⟩,
 ⟨some 425,.len (ot 424),some (422,true)⟩,
 ⟨some 426,.cmp .eql (ot 425) (.cst (.d (.int .i64 0))),some (422,true)⟩,
 oo 427 (.pick (ot 422) (ot 426) (.cst (.d (.bool false)))),
 oo 428 (.mov (ot 427)),
 ⟨some 429,.fad 1 (ot 55),some (428,true)⟩,
 ⟨some 430,.ld false 1 (ot 429),some (428,true)⟩,
 oo 431 (.pick (ot 428) (ot 430) (.cst (.d (.bool false)))),
 oo 432 (.mov (ot 431)),
 ⟨some 433,.fad 0 (ot 57),some (432,true)⟩,
 ⟨some 434,.ld false 1 (ot 433),some (432,true)⟩,
 oo 435 (.pick (ot 432) (ot 434) (.cst (.d (.bool false)))),
 oo 436 (.mov (ot 435)),
 ⟨some 437,.fad 1 (ot 57),some (436,true)⟩,
 ⟨some 438,.ld false 1 (ot 437),some (436,true)⟩,
 ⟨some 439,.not (ot 438),some (436,true)⟩,
 oo 440 (.pick (ot 436) (ot 439) (.cst (.d (.bool false)))),
 oo 441 (.mov (ot 440)),
 ⟨some 442,.fad 2 (ot 59),some (441,true)⟩,
 ⟨some 443,.ld false 1 (ot 442),some (441,true)⟩,
 ⟨some 444,.len (ot 443),some (441,true)⟩,
 ⟨some 445,.cmp .eql (ot 444) (.cst (.d (.int .i64 2))),some (441,true)⟩,
 oo 446 (.pick (ot 441) (ot 445) (.cst (.d (.bool false)))),
 oo 447 (.mov (ot 446)),
 ⟨some 448,.fad 2 (ot 59),some (447,true)⟩,
 ⟨some 449,.ld false 1 (ot 448),some (447,true)⟩,
 ⟨some 450,.ixa 2 (ot 449) (.cst (.d (.int .i64 0))),some (447,true)⟩,
 ⟨some 451,.ld true 2 (ot 450),some (447,true)⟩,
 ⟨some 452,.build [(.d (.str [])),(.d (.int .i64 0))] [(0,1,(.cst (.d (.str [115,97,108,101,115])))),(1,1,(.cst (.d (.int .i64 31000))))],some (447,true)⟩,
 ⟨some 453,.aeq false [2,0] (ot 451) (ot 452),some (447,true)⟩,
 oo 454 (.pick (ot 447) (ot 453) (.cst (.d (.bool false)))),
 oo 455 (.mov (ot 454)),
 ⟨some 456,.fad 2 (ot 59),some (455,true)⟩,
 ⟨some 457,.ld false 1 (ot 456),some (455,true)⟩,
 ⟨some 458,.ixa 2 (ot 457) (.cst (.d (.int .i64 1))),some (455,true)⟩,
 ⟨some 459,.ld true 2 (ot 458),some (455,true)⟩,
 ⟨some 460,.build [(.d (.str [])),(.d (.int .i64 0))] [(0,1,(.cst (.d (.str [103,114,105,100])))),(1,1,(.cst (.d (.int .i64 32000))))],some (455,true)⟩,
 ⟨some 461,.aeq false [2,0] (ot 459) (ot 460),some (455,true)⟩,
 oo 462 (.pick (ot 455) (ot 461) (.cst (.d (.bool false)))),
 oo 463 (.mov (ot 462)),
 ⟨some 464,.mov (ot 61),some (463,true)⟩,
 ⟨some 465,.seq false (ot 464) (.cst (.d (.str [97,99,99,111,117,110,116,32,49,48,48,48,32,53,48,48,32,52,48,32,50,48,48,48,10,107,101,121,32,49,32,50,32,51,32,52,32,53,32,54,32,55,32,56,10]))),some (463,true)⟩,
 oo 466 (.pick (ot 463) (ot 465) (.cst (.d (.bool false)))),
 oo 0 (.mov (ot 466))])
 .ret)))))))))))))))))))))))))))))))))))⟩
def tx16:AFun:={ jr16 with heap:=44 }
def tx18:AFun:={ jr18 with heap:=41 }
def tx19:AFun:={ jr19 with heap:=41 }
def tx25:AFun:={ jr25 with heap:=43 }
def tx28:AFun:={ jr28 with heap:=45 }
def tx29:AFun:=⟨62,48,[.cell 4 22 true,.tmp 5,.tmp 6],
 (.seq
 (.reg [0,1] [oo 2 (.cbx 0 22 (ot 0)),
 oo 4 (.alloc 1 [(.d (.int .i64 0)),(.d (.int .i64 0)),(.d (.int .i64 0)),(.d (.int .i64 0)),(.d (.int .u8 0)),(.d (.int .u8 0)),(.d (.int .u8 0)),(.d (.int .u8 0)),(.d (.int .u8 0)),(.d (.int .u8 0)),(.d (.int .u8 0)),(.d (.int .u8 0)),(.d (.int .u8 0)),(.d (.int .u8 0)),(.d (.int .u8 0)),(.d (.int .u8 0)),(.d (.int .u8 0)),(.d (.int .u8 0)),(.d (.int .u8 0)),(.d (.int .u8 0)),(.d (.bool false)),(.nils 1)]),
 oo 5 (.mov (.cst (.nils 1))),
 oo 6 (.mov (.cst (.d (.int .i64 0))))])
 (.seq
 (.seq
 (.reg [2] [oo 15 (.ld true 22 (ot 2)),
 oo 16 (.call 25 [(ot 15)]),
 oo 17 (.mov (ot 1)),
 oo 18 (.len (ot 17)),
 oo 19 (.cmp .gtr (ot 18) (.cst (.d (.int .i64 256)))),
 oo 20 (.call 92 [(ot 19),(.cst (.d (.int .i64 5)))]),
 oo 21 (.bsl 2 30 1 2 [(.int .i64 0),(.int .i64 0)] [(0,(ot 16)),(1,(ot 20))]),
 oo 22 (.call 90 [(ot 21)]),
 oo 7 (.mov (ot 22))])
 (.seq
 (.reg [] [oo 23 (.mov (ot 7)),
 oo 24 (.cmp .neq (ot 23) (.cst (.d (.int .i64 0))))])
 (.cond (ot 24)
 (.seq
 (.reg [] [oo 25 (.build [(.d (.int .i64 0)),(.d (.int .i64 0)),(.d (.int .i64 0)),(.d (.int .i64 0)),(.d (.int .u8 0)),(.d (.int .u8 0)),(.d (.int .u8 0)),(.d (.int .u8 0)),(.d (.int .u8 0)),(.d (.int .u8 0)),(.d (.int .u8 0)),(.d (.int .u8 0)),(.d (.int .u8 0)),(.d (.int .u8 0)),(.d (.int .u8 0)),(.d (.int .u8 0)),(.d (.int .u8 0)),(.d (.int .u8 0)),(.d (.int .u8 0)),(.d (.int .u8 0)),(.d (.bool false)),(.nils 1)] []),
 oo 26 (.mov (ot 7)),
 ⟨none,.st 22 (ot 4) (ot 25),none⟩,
 oo 5 (.mov (.cst (.nils 1))),
 oo 6 (.mov (ot 26))])
 .ret)
 .skip)))
 (.seq
 (.seq
 (.reg [] [oo 27 (.mov (ot 1)),
 oo 28 (.call 101 [(ot 27),(.cst (.d (.fn (.func 99) [])))]),
 oo 29 (.call 90 [(ot 28)]),
 oo 8 (.mov (ot 29))])
 (.seq
 (.reg [] [oo 30 (.mov (ot 8)),
 oo 31 (.cmp .neq (ot 30) (.cst (.d (.int .i64 0))))])
 (.cond (ot 31)
 (.seq
 (.reg [] [oo 32 (.build [(.d (.int .i64 0)),(.d (.int .i64 0)),(.d (.int .i64 0)),(.d (.int .i64 0)),(.d (.int .u8 0)),(.d (.int .u8 0)),(.d (.int .u8 0)),(.d (.int .u8 0)),(.d (.int .u8 0)),(.d (.int .u8 0)),(.d (.int .u8 0)),(.d (.int .u8 0)),(.d (.int .u8 0)),(.d (.int .u8 0)),(.d (.int .u8 0)),(.d (.int .u8 0)),(.d (.int .u8 0)),(.d (.int .u8 0)),(.d (.int .u8 0)),(.d (.int .u8 0)),(.d (.bool false)),(.nils 1)] []),
 oo 33 (.mov (ot 8)),
 ⟨none,.st 22 (ot 4) (ot 32),none⟩,
 oo 5 (.mov (.cst (.nils 1))),
 oo 6 (.mov (ot 33))])
 .ret)
 .skip)))
 (.seq
 (.reg [3] [oo 34 (.ld true 22 (ot 2)),
 oo 35 (.call 93 [(ot 34)]),
 oo 9 (.alloc 3 [(.d (.int .i64 0)),(.d (.int .i64 0)),(.d (.int .i64 0)),(.d (.int .i64 0)),(.d (.int .u8 0)),(.d (.int .u8 0)),(.d (.int .u8 0)),(.d (.int .u8 0)),(.d (.int .u8 0)),(.d (.int .u8 0)),(.d (.int .u8 0)),(.d (.int .u8 0)),(.d (.int .u8 0)),(.d (.int .u8 0)),(.d (.int .u8 0)),(.d (.int .u8 0)),(.d (.int .u8 0)),(.d (.int .u8 0)),(.d (.int .u8 0)),(.d (.int .u8 0)),(.d (.bool false)),(.nils 1)]),
 ⟨none,.st 22 (ot 9) (ot 35),none⟩])
 (.seq
 (.reg [] [oo 10 (.mov (.cst (.nils 11)))])
 (.seq
 (.seq
 (.reg [] [oo 36 (.mov (ot 1)),
 oo 37 (.len (ot 36)),
 oo 38 (.mov (.cst (.d (.int .i64 0))))])
 (.post [4,9,10] [0,1,2,3,4,5,6,7]
 (.block 0
 (.asrow 7 171 11 10
 (.keep [4,9,10,36,37,38] [0,1,2,3]
 (.loop
 (.post [4,9,10,36,37,38] [4,5,6,7]
 (.seq
 (.reg [] [oo 39 (.cmp .lss (ot 38) (ot 37))])
 (.seq
 (.cond (ot 39)
 .skip
 (.exit 0))
 (.seq
 (.block 1
 (.seq
 (.reg [4] [oo 40 (.mov (ot 38)),
 oo 41 (.ixa 10 (ot 36) (ot 38)),
 oo 42 (.ld true 10 (ot 41)),
 oo 12 (.alloc 4 [(.d (.int .i64 0)),(.d (.int .i64 0)),(.d (.int .u8 0)),(.d (.int .u8 0)),(.d (.int .u8 0)),(.d (.int .u8 0)),(.d (.int .u8 0)),(.d (.int .u8 0)),(.d (.int .u8 0)),(.d (.int .u8 0))]),
 oo 11 (.mov (ot 40)),
 ⟨none,.st 10 (ot 12) (ot 42),none⟩])
 (.seq
 (.reg [5] [oo 44 (.ld true 22 (ot 9)),
 oo 45 (.ld true 10 (ot 12)),
 oo 46 (.call 100 [(ot 44),(ot 45)]),
 oo 43 (.mov (ot 46)),
 oo 47 (.ext 0 (ot 43)),
 oo 48 (.ext 1 (ot 43)),
 oo 13 (.alloc 5 [(.d (.int .i64 0)),(.d (.int .i64 0)),(.d (.int .i64 0)),(.d (.int .i64 0)),(.d (.int .u8 0)),(.d (.int .u8 0)),(.d (.int .u8 0)),(.d (.int .u8 0)),(.d (.int .u8 0)),(.d (.int .u8 0)),(.d (.int .u8 0)),(.d (.int .u8 0)),(.d (.int .u8 0)),(.d (.int .u8 0)),(.d (.int .u8 0)),(.d (.int .u8 0)),(.d (.int .u8 0)),(.d (.int .u8 0)),(.d (.int .u8 0)),(.d (.int .u8 0)),(.d (.bool false)),(.nils 1)]),
 ⟨none,.st 22 (ot 13) (ot 47),none⟩,
 oo 14 (.mov (ot 48))])
 (.seq
 (.reg [] [oo 49 (.mov (ot 14)),
 oo 50 (.cmp .eql (ot 49) (.cst (.d (.int .i64 0))))])
 (.cond (ot 50)
 (.regd [6,7] [oo 51 (.ld true 22 (ot 13)),
 oo 52 (.mov (ot 10)),
 oo 53 (.ld true 10 (ot 12)),
 oo 54 (.mov (ot 11)),
 oo 55 (.build [(.d (.int .i64 0)),(.d (.int .i64 0)),(.d (.int .u8 0)),(.d (.int .u8 0)),(.d (.int .u8 0)),(.d (.int .u8 0)),(.d (.int .u8 0)),(.d (.int .u8 0)),(.d (.int .u8 0)),(.d (.int .u8 0)),(.d (.int .i64 0))] [(0,10,(ot 53)),(10,1,(ot 54))]),
 oo 56 (.bsl 6 171 11 1 [(.agg [(.int .i64 0),(.int .i64 0),(.int .u8 0),(.int .u8 0),(.int .u8 0),(.int .u8 0),(.int .u8 0),(.int .u8 0),(.int .u8 0),(.int .u8 0),(.int .i64 0)])] [(0,(ot 55))]),
 oo 57 (.app 7 171 11 32 (ot 52) (ot 56)),
 ⟨none,.st 22 (ot 9) (ot 51),none⟩,
 oo 10 (.mov (ot 57))] [(0,1),(0,2),(1,2),(0,3),(1,3),(2,3),(0,4),(1,4),(0,5),(1,5),(0,6)])
 .skip)))))
 (.reg [] [oo 58 (.arith .add .i64 (ot 38) (.cst (.d (.int .i64 1)))),
 oo 38 (.mov (ot 58))])))))))))))
 (.seq
 (.regd [] [oo 59 (.ld true 22 (ot 9)),
 oo 60 (.mov (ot 10)),
 oo 61 (.calli 102 [(ot 60),(.cst (.d (.fn (.func 103) [])))]),
 ⟨none,.st 22 (ot 4) (ot 59),none⟩,
 oo 5 (.mov (ot 61)),
 oo 6 (.mov (.cst (.d (.int .i64 0))))] [(0,1),(0,2)])
 .ret)))))))⟩
def tx35:AFun:={ ir35 with heap:=40 }
def tx36:AFun:={ jr36 with heap:=45 }
def tx37:AFun:={ jr37 with heap:=44 }
def tx38:AFun:={ jr38 with heap:=43 }
def tx39:AFun:=⟨18,43,[.cell 2 16 true,.tmp 3],
 (.seq
 (.reg [0,1] [oo 1 (.cbx 0 10 (ot 0)),
 oo 2 (.alloc 1 [(.d (.int .u8 0)),(.d (.int .u8 0)),(.d (.int .u8 0)),(.d (.int .u8 0)),(.d (.int .u8 0)),(.d (.int .u8 0)),(.d (.int .u8 0)),(.d (.int .u8 0)),(.d (.int .u8 0)),(.d (.int .u8 0)),(.d (.int .u8 0)),(.d (.int .u8 0)),(.d (.int .u8 0)),(.d (.int .u8 0)),(.d (.int .u8 0)),(.d (.int .u8 0))]),
 oo 3 (.mov (.cst (.d (.int .i64 0))))])
 (.seq
 (.seq
 (.reg [] [oo 5 (.ld true 10 (ot 1)),
 oo 6 (.call 99 [(ot 5)]),
 oo 4 (.mov (ot 6))])
 (.seq
 (.reg [] [oo 7 (.mov (ot 4)),
 oo 8 (.cmp .neq (ot 7) (.cst (.d (.int .i64 0))))])
 (.cond (ot 8)
 (.seq
 (.reg [] [oo 9 (.build [(.d (.int .u8 0)),(.d (.int .u8 0)),(.d (.int .u8 0)),(.d (.int .u8 0)),(.d (.int .u8 0)),(.d (.int .u8 0)),(.d (.int .u8 0)),(.d (.int .u8 0)),(.d (.int .u8 0)),(.d (.int .u8 0)),(.d (.int .u8 0)),(.d (.int .u8 0)),(.d (.int .u8 0)),(.d (.int .u8 0)),(.d (.int .u8 0)),(.d (.int .u8 0))] []),
 oo 10 (.mov (ot 4)),
 ⟨none,.st 16 (ot 2) (ot 9),none⟩,
 oo 3 (.mov (ot 10))])
 .ret)
 .skip)))
 (.seq
 (.regd [2] [oo 11 (.ld true 10 (ot 1)),
 oo 12 (.calli 107 [(ot 11)]),
 oo 13 (.fad 2 (ot 1)),
 oo 14 (.sla 8 (ot 13) none none),
 oo 15 (.app 2 5 1 1 (ot 12) (ot 14)),
 oo 16 (.s2a 16 (ot 15)),
 oo 17 (.ld true 16 (ot 16)),
 ⟨none,.st 16 (ot 2) (ot 17),none⟩,
 oo 3 (.mov (.cst (.d (.int .i64 0))))] [(0,2),(1,2),(0,3),(1,3)])
 .ret)))⟩
def tx40:AFun:={ jr40 with heap:=43 }
def tx46:AFun:=⟨25,41,[.tmp 4,.tmp 5],
 (.seq
 (.reg [] [oo 4 (.mov (.cst (.d (.bool false)))),
 oo 5 (.mov (.cst (.d (.int .i64 0))))])
 (.seq
 (.seq
 (.reg [0] [oo 9 (.mov (ot 0)),
 oo 10 (.call 55 [(ot 9)]),
 oo 11 (.mov (ot 1)),
 oo 12 (.call 112 [(ot 11)]),
 oo 13 (.bsl 0 30 1 2 [(.int .i64 0),(.int .i64 0)] [(0,(ot 10)),(1,(ot 12))]),
 oo 14 (.call 90 [(ot 13)]),
 oo 6 (.mov (ot 14))])
 (.seq
 (.reg [] [oo 15 (.mov (ot 6)),
 oo 16 (.cmp .neq (ot 15) (.cst (.d (.int .i64 0))))])
 (.cond (ot 16)
 (.seq
 (.reg [] [oo 17 (.mov (ot 6)),
 oo 4 (.mov (.cst (.d (.bool false)))),
 oo 5 (.mov (ot 17))])
 .ret)
 .skip)))
 (.seq
 (.reg [] [oo 19 (.mov (ot 0)),
 oo 20 (.mov (ot 1)),
 oo 21 (.call 113 [(ot 19),(ot 20)]),
 oo 18 (.mov (ot 21)),
 oo 22 (.ext 0 (ot 18)),
 oo 23 (.ext 1 (ot 18)),
 oo 7 (.mov (ot 22)),
 oo 8 (.mov (ot 23))])
 (.seq
 (.reg [] [oo 24 (.mov (ot 8)),
 oo 4 (.mov (ot 24)),
 oo 5 (.mov (.cst (.d (.int .i64 0))))])
 .ret))))⟩
def tx48:AFun:=⟨21,41,[.tmp 4,.tmp 5],
 (.seq
 (.reg [] [oo 4 (.mov (.cst (.d (.int .i64 0)))),
 oo 5 (.mov (.cst (.d (.int .i64 0))))])
 (.seq
 (.seq
 (.reg [0] [oo 7 (.mov (ot 0)),
 oo 8 (.call 55 [(ot 7)]),
 oo 9 (.mov (ot 1)),
 oo 10 (.call 112 [(ot 9)]),
 oo 11 (.bsl 0 30 1 2 [(.int .i64 0),(.int .i64 0)] [(0,(ot 8)),(1,(ot 10))]),
 oo 12 (.call 90 [(ot 11)]),
 oo 6 (.mov (ot 12))])
 (.seq
 (.reg [] [oo 13 (.mov (ot 6)),
 oo 14 (.cmp .neq (ot 13) (.cst (.d (.int .i64 0))))])
 (.cond (ot 14)
 (.seq
 (.reg [] [oo 15 (.mov (ot 6)),
 oo 4 (.mov (.cst (.d (.int .i64 0)))),
 oo 5 (.mov (ot 15))])
 .ret)
 .skip)))
 (.seq
 (.reg [] [oo 16 (.mov (ot 0)),
 oo 17 (.mov (ot 1)),
 oo 18 (.call 114 [(ot 16),(ot 17)]),
 oo 19 (.ext 0 (ot 18)),
 oo 20 (.ext 1 (ot 18)),
 oo 4 (.mov (ot 19)),
 oo 5 (.mov (ot 20))])
 .ret)))⟩
def tx49:AFun:=⟨44,42,[.tmp 8,.tmp 9],
 (.seq
 (.reg [0] [oo 4 (.cbx 0 22 (ot 0)),
 oo 8 (.mov (.cst (.d (.int .i64 0)))),
 oo 9 (.mov (.cst (.d (.int .i64 0))))])
 (.seq
 (.seq
 (.reg [1] [oo 13 (.ld true 22 (ot 4)),
 oo 14 (.call 25 [(ot 13)]),
 oo 15 (.mov (ot 1)),
 oo 16 (.call 55 [(ot 15)]),
 oo 17 (.mov (ot 2)),
 oo 18 (.call 112 [(ot 17)]),
 oo 19 (.mov (ot 3)),
 oo 20 (.call 91 [(ot 19),(.cst (.d (.int .i64 1))),(.cst (.d (.int .i64 100000)))]),
 oo 21 (.bsl 1 30 1 4 [(.int .i64 0),(.int .i64 0),(.int .i64 0),(.int .i64 0)] [(0,(ot 14)),(1,(ot 16)),(2,(ot 18)),(3,(ot 20))]),
 oo 22 (.call 90 [(ot 21)]),
 oo 10 (.mov (ot 22))])
 (.seq
 (.reg [] [oo 23 (.mov (ot 10)),
 oo 24 (.cmp .neq (ot 23) (.cst (.d (.int .i64 0))))])
 (.cond (ot 24)
 (.seq
 (.reg [] [oo 25 (.mov (ot 10)),
 oo 8 (.mov (.cst (.d (.int .i64 0)))),
 oo 9 (.mov (ot 25))])
 .ret)
 .skip)))
 (.seq
 (.reg [] [oo 26 (.mov (ot 2)),
 oo 11 (.mov (ot 26))])
 (.seq
 (.seq
 (.reg [] [oo 27 (.ld true 22 (ot 4)),
 oo 28 (.call 95 [(ot 27)]),
 oo 12 (.mov (ot 28))])
 (.seq
 (.reg [] [oo 29 (.mov (ot 12)),
 oo 30 (.cmp .geq (ot 29) (.cst (.d (.int .i64 0))))])
 (.cond (ot 30)
 (.reg [] [oo 31 (.mov (ot 2)),
 oo 32 (.mov (ot 12)),
 oo 33 (.mov (ot 3)),
 oo 34 (.arith .quo .i64 (ot 32) (ot 33)),
 oo 35 (.arith .add .i64 (ot 31) (ot 34)),
 oo 36 (.arith .add .i64 (ot 35) (.cst (.d (.int .i64 1)))),
 oo 11 (.mov (ot 36))])
 .skip)))
 (.seq
 (.seq
 (.reg [] [oo 37 (.mov (ot 11)),
 oo 38 (.cmp .gtr (ot 37) (.cst (.d (.int .i64 100000000))))])
 (.cond (ot 38)
 (.seq
 (.reg [] [oo 8 (.mov (.cst (.d (.int .i64 0)))),
 oo 9 (.mov (.cst (.d (.int .i64 7))))])
 .ret)
 .skip))
 (.seq
 (.reg [] [oo 39 (.mov (ot 1)),
 oo 40 (.mov (ot 11)),
 oo 41 (.call 114 [(ot 39),(ot 40)]),
 oo 42 (.ext 0 (ot 41)),
 oo 43 (.ext 1 (ot 41)),
 oo 8 (.mov (ot 42)),
 oo 9 (.mov (ot 43))])
 .ret))))))⟩
def tx55:AFun:=⟨9,40,[.tmp 2],
 (.seq
 (.reg [] [oo 2 (.mov (.cst (.d (.int .i64 0))))])
 (.seq
 (.seq
 (.reg [] [oo 3 (.mov (ot 0)),
 oo 4 (.len (ot 3)),
 oo 5 (.cmp .gtr (ot 4) (.cst (.d (.int .i64 16))))])
 (.cond (ot 5)
 (.seq
 (.reg [] [oo 2 (.mov (.cst (.d (.int .i64 5))))])
 .ret)
 .skip))
 (.seq
 (.reg [] [oo 6 (.mov (ot 0)),
 oo 7 (.call 116 [(ot 6),(.cst (.d (.fn (.func 117) [])))]),
 oo 8 (.call 90 [(ot 7)]),
 oo 2 (.mov (ot 8))])
 .ret)))⟩
def tx57:AFun:=⟨26,41,[.tmp 8,.tmp 9],
 (.seq
 (.reg [0] [oo 4 (.cbx 0 3 (ot 0)),
 oo 8 (.mov (.cst (.nils 1))),
 oo 9 (.mov (.cst (.d (.int .i64 0))))])
 (.seq
 (.reg [] [oo 13 (.ld true 3 (ot 4)),
 oo 14 (.mov (ot 1)),
 oo 15 (.mov (ot 2)),
 oo 16 (.mov (ot 3)),
 oo 17 (.build [(.d (.bool false)),(.d (.bool false)),(.nils 2),(.nils 9),(.d (.int .i64 0)),(.d (.int .i64 0))] [(0,3,(ot 13)),(3,1,(ot 14)),(4,1,(ot 15)),(5,1,(ot 16))]),
 oo 18 (.call 118 [(ot 17)]),
 oo 12 (.mov (ot 18)),
 oo 19 (.ext 0 (ot 12)),
 oo 20 (.ext 1 (ot 12)),
 oo 10 (.mov (ot 19)),
 oo 11 (.mov (ot 20))])
 (.seq
 (.seq
 (.reg [] [oo 21 (.mov (ot 11)),
 oo 22 (.cmp .neq (ot 21) (.cst (.d (.int .i64 0))))])
 (.cond (ot 22)
 (.seq
 (.reg [] [oo 23 (.mov (ot 11)),
 oo 8 (.mov (.cst (.nils 1))),
 oo 9 (.mov (ot 23))])
 .ret)
 .skip))
 (.seq
 (.reg [] [oo 24 (.mov (ot 10)),
 oo 25 (.calli 119 [(ot 24),(.cst (.d (.fn (.func 120) [])))]),
 oo 8 (.mov (ot 25)),
 oo 9 (.mov (.cst (.d (.int .i64 0))))])
 .ret))))⟩
def tx59:AFun:=⟨32,44,[.cell 8 3 true,.tmp 9],
 (.seq
 (.reg [0,1] [oo 4 (.cbx 0 3 (ot 0)),
 oo 8 (.alloc 1 [(.d (.bool false)),(.d (.bool false)),(.nils 2)]),
 oo 9 (.mov (.cst (.d (.int .i64 0))))])
 (.seq
 (.reg [] [oo 13 (.ld true 3 (ot 4)),
 oo 14 (.mov (ot 1)),
 oo 15 (.mov (ot 2)),
 oo 16 (.mov (ot 3)),
 oo 17 (.build [(.d (.bool false)),(.d (.bool false)),(.nils 2),(.nils 9),(.d (.int .i64 0)),(.d (.int .i64 0))] [(0,3,(ot 13)),(3,1,(ot 14)),(4,1,(ot 15)),(5,1,(ot 16))]),
 oo 18 (.call 118 [(ot 17)]),
 oo 12 (.mov (ot 18)),
 oo 19 (.ext 0 (ot 12)),
 oo 20 (.ext 1 (ot 12)),
 oo 10 (.mov (ot 19)),
 oo 11 (.mov (ot 20))])
 (.seq
 (.seq
 (.reg [2,3] [oo 21 (.mov (ot 11)),
 oo 22 (.bsl 2 30 1 1 [(.int .i64 0)] [(0,(ot 21))]),
 oo 23 (.mov (ot 10)),
 oo 24 (.call 121 [(ot 23),(.cst (.d (.fn (.func 122) [])))]),
 oo 25 (.app 3 30 1 8 (ot 22) (ot 24)),
 oo 26 (.call 90 [(ot 25)]),
 oo 11 (.mov (ot 26))])
 (.seq
 (.reg [] [oo 27 (.mov (ot 11)),
 oo 28 (.cmp .neq (ot 27) (.cst (.d (.int .i64 0))))])
 (.cond (ot 28)
 (.seq
 (.reg [] [oo 29 (.build [(.d (.bool false)),(.d (.bool false)),(.nils 2)] []),
 oo 30 (.mov (ot 11)),
 ⟨none,.st 3 (ot 8) (ot 29),none⟩,
 oo 9 (.mov (ot 30))])
 .ret)
 .skip)))
 (.seq
 (.reg [] [oo 31 (.build [(.d (.bool false)),(.d (.bool false)),(.nils 2)] []),
 ⟨none,.st 3 (ot 8) (ot 31),none⟩,
 oo 9 (.mov (.cst (.d (.int .i64 0))))])
 .ret))))⟩
def tx64:AFun:=⟨26,40,[.tmp 4],
 (.seq
 (.reg [] [oo 4 (.mov (.cst (.d (.bool false))))])
 (.seq
 (.seq
 (.reg [] [oo 6 (.mov (ot 0)),
 oo 7 (.len (ot 6)),
 oo 8 (.mov (ot 1)),
 oo 9 (.len (ot 8)),
 oo 10 (.cmp .neq (ot 7) (ot 9))])
 (.cond (ot 10)
 (.seq
 (.reg [] [oo 4 (.mov (.cst (.d (.bool false))))])
 .ret)
 .skip))
 (.seq
 (.seq
 (.reg [] [oo 5 (.mov (.cst (.d (.int .i64 0))))])
 (.post [] []
 (.block 0
 (.keep [0,1,5] []
 (.loop
 (.post [0,1,5] []
 (.seq
 (.seq
 (.reg [] [oo 11 (.mov (ot 5)),
 oo 12 (.mov (ot 0)),
 oo 13 (.len (ot 12)),
 oo 14 (.cmp .lss (ot 11) (ot 13))])
 (.cond (ot 14)
 .skip
 (.exit 0)))
 (.seq
 (.block 1
 (.seq
 (.regd [] [oo 17 (.mov (ot 0)),
 oo 18 (.mov (ot 5)),
 oo 19 (.ixa 1 (ot 17) (ot 18)),
 oo 20 (.ld false 1 (ot 19)),
 oo 21 (.mov (ot 1)),
 oo 22 (.mov (ot 5)),
 oo 23 (.ixa 1 (ot 21) (ot 22)),
 oo 24 (.ld false 1 (ot 23)),
 oo 25 (.seq true (ot 20) (ot 24))] [(0,1),(0,4),(1,4),(2,4),(3,4),(0,5),(1,5),(2,5),(3,5),(4,5),(0,6),(1,6),(2,6),(3,6),(0,7),(1,7),(2,7),(3,7)])
 (.cond (ot 25)
 (.seq
 (.reg [] [oo 4 (.mov (.cst (.d (.bool false))))])
 .ret)
 .skip)))
 (.reg [] [oo 15 (.mov (ot 5)),
 oo 16 (.arith .add .i64 (ot 15) (.cst (.d (.int .i64 1)))),
 oo 5 (.mov (ot 16))])))))))))
 (.seq
 (.reg [] [oo 4 (.mov (.cst (.d (.bool true))))])
 .ret))))⟩
def tx70:AFun:=⟨45,45,[.cell 6 3 true,.tmp 7],
 (.seq
 (.reg [0,1] [oo 3 (.cbx 0 3 (ot 0)),
 oo 6 (.alloc 1 [(.d (.bool false)),(.d (.bool false)),(.nils 2)]),
 oo 7 (.mov (.cst (.d (.int .i64 0))))])
 (.seq
 (.seq
 (.regd [2] [oo 10 (.ld true 3 (ot 3)),
 oo 11 (.call 80 [(ot 10)]),
 oo 12 (.mov (ot 1)),
 oo 13 (.call 126 [(ot 12)]),
 oo 14 (.mov (ot 2)),
 oo 15 (.call 112 [(ot 14)]),
 oo 16 (.fad 0 (ot 3)),
 oo 17 (.ld false 1 (ot 16)),
 oo 18 (.not (ot 17)),
 oo 19 (.call 92 [(ot 18),(.cst (.d (.int .i64 22)))]),
 oo 20 (.mov (ot 2)),
 oo 21 (.ld true 3 (ot 3)),
 oo 22 (.call 127 [(ot 21)]),
 oo 23 (.cmp .lss (ot 20) (ot 22)),
 oo 24 (.call 92 [(ot 23),(.cst (.d (.int .i64 11)))]),
 oo 25 (.bsl 2 30 1 5 [(.int .i64 0),(.int .i64 0),(.int .i64 0),(.int .i64 0),(.int .i64 0)] [(0,(ot 11)),(1,(ot 13)),(2,(ot 15)),(3,(ot 19)),(4,(ot 24))]),
 oo 26 (.call 90 [(ot 25)]),
 oo 8 (.mov (ot 26))] [(0,2),(1,2),(0,4),(1,4),(2,4),(3,4),(0,6),(1,6),(2,6),(3,6),(4,6),(5,6),(0,7),(1,7),(2,7),(3,7),(4,7),(5,7),(0,8),(1,8),(2,8),(3,8),(4,8),(5,8),(0,10),(1,10),(2,10),(3,10),(4,10),(5,10),(6,10),(7,10),(8,10),(9,10),(0,11),(1,11),(2,11),(3,11),(4,11),(5,11),(6,11),(7,11),(8,11),(9,11),(10,11),(10,12)])
 (.seq
 (.reg [] [oo 27 (.mov (ot 8)),
 oo 28 (.cmp .neq (ot 27) (.cst (.d (.int .i64 0))))])
 (.cond (ot 28)
 (.seq
 (.reg [] [oo 29 (.build [(.d (.bool false)),(.d (.bool false)),(.nils 2)] []),
 oo 30 (.mov (ot 8)),
 ⟨none,.st 3 (ot 6) (ot 29),none⟩,
 oo 7 (.mov (ot 30))])
 .ret)
 .skip)))
 (.seq
 (.reg [3,4] [oo 31 (.ld true 3 (ot 3)),
 oo 32 (.mov (ot 1)),
 oo 33 (.calln 4 156 2 128 [(ot 31),(ot 32)]),
 oo 34 (.mov (ot 1)),
 oo 35 (.mov (ot 2)),
 oo 36 (.build [(.d (.str [])),(.d (.int .i64 0))] [(0,1,(ot 34)),(1,1,(ot 35))]),
 oo 37 (.bsl 3 156 2 1 [(.agg [(.str []),(.int .i64 0)])] [(0,(ot 36))]),
 oo 38 (.app 4 156 2 24 (ot 33) (ot 37)),
 oo 9 (.mov (ot 38))])
 (.seq
 (.seq
 (.reg [] [oo 39 (.mov (ot 9)),
 oo 40 (.len (ot 39)),
 oo 41 (.cmp .gtr (ot 40) (.cst (.d (.int .i64 8))))])
 (.cond (ot 41)
 (.seq
 (.reg [] [oo 42 (.build [(.d (.bool false)),(.d (.bool false)),(.nils 2)] []),
 ⟨none,.st 3 (ot 6) (ot 42),none⟩,
 oo 7 (.mov (.cst (.d (.int .i64 5))))])
 .ret)
 .skip))
 (.seq
 (.reg [] [oo 43 (.mov (ot 9)),
 oo 44 (.build [(.d (.bool false)),(.d (.bool false)),(.nils 2)] [(0,1,(.cst (.d (.bool true)))),(2,1,(ot 43))]),
 ⟨none,.st 3 (ot 6) (ot 44),none⟩,
 oo 7 (.mov (.cst (.d (.int .i64 0))))])
 .ret)))))⟩
def tx72:AFun:=⟨21,43,[.cell 2 3 true,.tmp 3],
 (.seq
 (.reg [0,1] [oo 1 (.cbx 0 3 (ot 0)),
 oo 2 (.alloc 1 [(.d (.bool false)),(.d (.bool false)),(.nils 2)]),
 oo 3 (.mov (.cst (.d (.int .i64 0))))])
 (.seq
 (.seq
 (.regd [2] [oo 5 (.ld true 3 (ot 1)),
 oo 6 (.call 80 [(ot 5)]),
 oo 7 (.fad 0 (ot 1)),
 oo 8 (.ld false 1 (ot 7)),
 oo 9 (.call 92 [(ot 8),(.cst (.d (.int .i64 22)))]),
 oo 10 (.fad 1 (ot 1)),
 oo 11 (.ld false 1 (ot 10)),
 oo 12 (.not (ot 11)),
 oo 13 (.call 92 [(ot 12),(.cst (.d (.int .i64 29)))]),
 oo 14 (.bsl 2 30 1 3 [(.int .i64 0),(.int .i64 0),(.int .i64 0)] [(0,(ot 6)),(1,(ot 9)),(2,(ot 13))]),
 oo 15 (.call 90 [(ot 14)]),
 oo 4 (.mov (ot 15))] [(0,2),(1,2),(0,3),(1,3),(0,5),(1,5),(2,5),(3,5),(4,5),(0,6),(1,6),(2,6),(3,6),(4,6),(0,7),(1,7),(2,7),(3,7),(4,7)])
 (.seq
 (.reg [] [oo 16 (.mov (ot 4)),
 oo 17 (.cmp .neq (ot 16) (.cst (.d (.int .i64 0))))])
 (.cond (ot 17)
 (.seq
 (.reg [] [oo 18 (.build [(.d (.bool false)),(.d (.bool false)),(.nils 2)] []),
 oo 19 (.mov (ot 4)),
 ⟨none,.st 3 (ot 2) (ot 18),none⟩,
 oo 3 (.mov (ot 19))])
 .ret)
 .skip)))
 (.seq
 (.reg [] [oo 20 (.build [(.d (.bool false)),(.d (.bool false)),(.nils 2)] [(0,1,(.cst (.d (.bool true))))]),
 ⟨none,.st 3 (ot 2) (ot 20),none⟩,
 oo 3 (.mov (.cst (.d (.int .i64 0))))])
 .ret)))⟩
def tx73:AFun:=⟨20,43,[.cell 2 3 true,.tmp 3],
 (.seq
 (.reg [0,1] [oo 1 (.cbx 0 3 (ot 0)),
 oo 2 (.alloc 1 [(.d (.bool false)),(.d (.bool false)),(.nils 2)]),
 oo 3 (.mov (.cst (.d (.int .i64 0))))])
 (.seq
 (.seq
 (.regd [2] [oo 5 (.ld true 3 (ot 1)),
 oo 6 (.call 80 [(ot 5)]),
 oo 7 (.fad 0 (ot 1)),
 oo 8 (.ld false 1 (ot 7)),
 oo 9 (.call 92 [(ot 8),(.cst (.d (.int .i64 22)))]),
 oo 10 (.fad 1 (ot 1)),
 oo 11 (.ld false 1 (ot 10)),
 oo 12 (.call 92 [(ot 11),(.cst (.d (.int .i64 9)))]),
 oo 13 (.bsl 2 30 1 3 [(.int .i64 0),(.int .i64 0),(.int .i64 0)] [(0,(ot 6)),(1,(ot 9)),(2,(ot 12))]),
 oo 14 (.call 90 [(ot 13)]),
 oo 4 (.mov (ot 14))] [(0,2),(1,2),(0,3),(1,3),(0,5),(1,5),(2,5),(3,5),(4,5),(0,6),(1,6),(2,6),(3,6),(4,6)])
 (.seq
 (.reg [] [oo 15 (.mov (ot 4)),
 oo 16 (.cmp .neq (ot 15) (.cst (.d (.int .i64 0))))])
 (.cond (ot 16)
 (.seq
 (.reg [] [oo 17 (.build [(.d (.bool false)),(.d (.bool false)),(.nils 2)] []),
 oo 18 (.mov (ot 4)),
 ⟨none,.st 3 (ot 2) (ot 17),none⟩,
 oo 3 (.mov (ot 18))])
 .ret)
 .skip)))
 (.seq
 (.reg [] [oo 19 (.build [(.d (.bool false)),(.d (.bool false)),(.nils 2)] [(1,1,(.cst (.d (.bool true))))]),
 ⟨none,.st 3 (ot 2) (ot 19),none⟩,
 oo 3 (.mov (.cst (.d (.int .i64 0))))])
 .ret)))⟩
def tx80:AFun:=⟨72,45,[.tmp 2],
 (.seq
 (.reg [0] [oo 1 (.cbx 0 3 (ot 0)),
 oo 2 (.mov (.cst (.d (.int .i64 0))))])
 (.seq
 (.seq
 (.regd [1] [oo 9 (.fad 0 (ot 1)),
 oo 10 (.ld false 1 (ot 9)),
 oo 11 (.mov (ot 10)),
 ⟨some 12,.fad 1 (ot 1),some (11,true)⟩,
 ⟨some 13,.ld false 1 (ot 12),some (11,true)⟩,
 oo 14 (.pick (ot 11) (ot 13) (.cst (.d (.bool false)))),
 oo 15 (.mov (ot 14)),
 ⟨some 16,.fad 0 (ot 1),some (15,false)⟩,
 ⟨some 17,.ld false 1 (ot 16),some (15,false)⟩,
 ⟨some 18,.not (ot 17),some (15,false)⟩,
 ⟨some 19,.mov (ot 18),some (15,false)⟩,
 ⟨some 20,.fad 2 (ot 1),some (19,true)⟩,
 ⟨some 21,.ld false 1 (ot 20),some (19,true)⟩,
 ⟨some 22,.len (ot 21),some (19,true)⟩,
 ⟨some 23,.cmp .gtr (ot 22) (.cst (.d (.int .i64 0))),some (19,true)⟩,
 ⟨some 24,.pick (ot 19) (ot 23) (.cst (.d (.bool false))),some (15,false)⟩,
 oo 25 (.pick (ot 15) (.cst (.d (.bool true))) (ot 24)),
 oo 26 (.call 92 [(ot 25),(.cst (.d (.int .i64 22)))]),
 oo 27 (.fad 2 (ot 1)),
 oo 28 (.ld false 1 (ot 27)),
 oo 29 (.len (ot 28)),
 oo 30 (.cmp .gtr (ot 29) (.cst (.d (.int .i64 8)))),
 oo 31 (.call 92 [(ot 30),(.cst (.d (.int .i64 5)))]),
 oo 32 (.bsl 1 30 1 2 [(.int .i64 0),(.int .i64 0)] [(0,(ot 26)),(1,(ot 31))]),
 oo 33 (.call 90 [(ot 32)]),
 oo 3 (.mov (ot 33))] [(0,18),(1,18),(2,18),(3,18),(4,18),(5,18),(6,18),(7,18),(8,18),(9,18),(10,18),(11,18),(12,18),(13,18),(14,18),(15,18),(16,18),(17,18),(0,19),(1,19),(2,19),(3,19),(4,19),(5,19),(6,19),(7,19),(8,19),(9,19),(10,19),(11,19),(12,19),(13,19),(14,19),(15,19),(16,19),(17,19),(0,20),(1,20),(2,20),(3,20),(4,20),(5,20),(6,20),(7,20),(8,20),(9,20),(10,20),(11,20),(12,20),(13,20),(14,20),(15,20),(16,20),(17,20),(0,21),(1,21),(2,21),(3,21),(4,21),(5,21),(6,21),(7,21),(8,21),(9,21),(10,21),(11,21),(12,21),(13,21),(14,21),(15,21),(16,21),(17,21)])
 (.seq
 (.reg [] [oo 34 (.mov (ot 3)),
 oo 35 (.cmp .neq (ot 34) (.cst (.d (.int .i64 0))))])
 (.cond (ot 35)
 (.seq
 (.reg [] [oo 36 (.mov (ot 3)),
 oo 2 (.mov (ot 36))])
 .ret)
 .skip)))
 (.seq
 (.reg [2] [oo 37 (.mkm 2),
 oo 4 (.mov (ot 37))])
 (.seq
 (.reg [] [oo 5 (.mov (.cst (.d (.int .i64 0))))])
 (.seq
 (.seq
 (.reg [] [oo 38 (.fad 2 (ot 1)),
 oo 39 (.ld false 1 (ot 38)),
 oo 40 (.len (ot 39)),
 oo 41 (.mov (.cst (.d (.int .i64 0))))])
 (.post [] [0,1,2,3,4]
 (.block 0
 (.keep [4,5,39,40,41] [0,1,2]
 (.loop
 (.post [4,5,39,40,41] [3,4]
 (.seq
 (.reg [] [oo 42 (.cmp .lss (ot 41) (ot 40))])
 (.seq
 (.cond (ot 42)
 .skip
 (.exit 0))
 (.seq
 (.block 1
 (.seq
 (.reg [3] [oo 43 (.ixa 2 (ot 39) (ot 41)),
 oo 44 (.ld true 2 (ot 43)),
 oo 7 (.alloc 3 [(.d (.str [])),(.d (.int .i64 0))]),
 ⟨none,.st 2 (ot 7) (ot 44),none⟩])
 (.seq
 (.seq
 (.regd [4] [oo 45 (.fad 0 (ot 7)),
 oo 46 (.ld false 1 (ot 45)),
 oo 47 (.call 126 [(ot 46)]),
 oo 48 (.mov (ot 4)),
 oo 49 (.fad 0 (ot 7)),
 oo 50 (.ld false 1 (ot 49)),
 oo 51 (.lkp none (.bool false) false (ot 48) (ot 50)),
 oo 52 (.call 92 [(ot 51),(.cst (.d (.int .i64 9)))]),
 oo 53 (.fad 1 (ot 7)),
 oo 54 (.ld false 1 (ot 53)),
 oo 55 (.call 112 [(ot 54)]),
 oo 56 (.fad 1 (ot 7)),
 oo 57 (.ld false 1 (ot 56)),
 oo 58 (.mov (ot 5)),
 oo 59 (.cmp .lss (ot 57) (ot 58)),
 oo 60 (.call 92 [(ot 59),(.cst (.d (.int .i64 11)))]),
 oo 61 (.bsl 4 30 1 4 [(.int .i64 0),(.int .i64 0),(.int .i64 0),(.int .i64 0)] [(0,(ot 47)),(1,(ot 52)),(2,(ot 55)),(3,(ot 60))]),
 oo 62 (.call 90 [(ot 61)]),
 oo 8 (.mov (ot 62))] [(0,3),(1,3),(2,3),(0,4),(1,4),(2,4),(3,4),(0,5),(1,5),(2,5),(3,5),(0,6),(1,6),(2,6),(0,8),(1,8),(2,8),(3,8),(4,8),(5,8),(6,8),(7,8),(0,9),(1,9),(2,9),(3,9),(4,9),(5,9),(6,9),(7,9),(0,11),(1,11),(2,11),(3,11),(4,11),(5,11),(6,11),(7,11),(8,11),(9,11),(10,11),(0,12),(1,12),(2,12),(3,12),(4,12),(5,12),(6,12),(7,12),(8,12),(9,12),(10,12),(0,13),(1,13),(2,13),(3,13),(4,13),(5,13),(6,13),(7,13),(8,13),(9,13),(10,13),(11,13),(12,13),(0,14),(1,14),(2,14),(3,14),(4,14),(5,14),(6,14),(7,14),(8,14),(9,14),(10,14)])
 (.seq
 (.reg [] [oo 63 (.mov (ot 8)),
 oo 64 (.cmp .neq (ot 63) (.cst (.d (.int .i64 0))))])
 (.cond (ot 64)
 (.seq
 (.reg [] [oo 65 (.mov (ot 8)),
 oo 2 (.mov (ot 65))])
 .ret)
 .skip)))
 (.regd [] [oo 66 (.mov (ot 4)),
 oo 67 (.fad 0 (ot 7)),
 oo 68 (.ld false 1 (ot 67)),
 oo 69 (.fad 1 (ot 7)),
 oo 70 (.ld false 1 (ot 69)),
 ⟨none,.mpu none (ot 66) (ot 68) (.cst (.d (.bool true))),none⟩,
 oo 5 (.mov (ot 70))] [(0,1),(0,2),(0,3),(1,3),(2,3),(0,4),(1,4),(2,4),(3,5),(4,5)]))))
 (.reg [] [oo 71 (.arith .add .i64 (ot 41) (.cst (.d (.int .i64 1)))),
 oo 41 (.mov (ot 71))]))))))))))
 (.seq
 (.reg [] [oo 2 (.mov (.cst (.d (.int .i64 0))))])
 .ret))))))⟩
def tx86:AFun:=⟨2,41,[.cell 0 8 true],
 (.seq
 (.reg [0] [oo 0 (.alloc 0 [(.d (.int .u8 0)),(.d (.int .u8 0)),(.d (.int .u8 0)),(.d (.int .u8 0)),(.d (.int .u8 0)),(.d (.int .u8 0)),(.d (.int .u8 0)),(.d (.int .u8 0))])])
 (.seq
 (.reg [] [oo 1 (.build [(.d (.int .u8 0)),(.d (.int .u8 0)),(.d (.int .u8 0)),(.d (.int .u8 0)),(.d (.int .u8 0)),(.d (.int .u8 0)),(.d (.int .u8 0)),(.d (.int .u8 0))] [(0,1,(.cst (.d (.int .u8 1)))),(1,1,(.cst (.d (.int .u8 2)))),(2,1,(.cst (.d (.int .u8 3)))),(3,1,(.cst (.d (.int .u8 4)))),(4,1,(.cst (.d (.int .u8 5)))),(5,1,(.cst (.d (.int .u8 6)))),(6,1,(.cst (.d (.int .u8 7)))),(7,1,(.cst (.d (.int .u8 8))))]),
 ⟨none,.st 8 (ot 0) (ot 1),none⟩])
 .ret))⟩
def tx87:AFun:=⟨3,41,[.cell 0 22 true],
 (.seq
 (.reg [0] [oo 0 (.alloc 0 [(.d (.int .i64 0)),(.d (.int .i64 0)),(.d (.int .i64 0)),(.d (.int .i64 0)),(.d (.int .u8 0)),(.d (.int .u8 0)),(.d (.int .u8 0)),(.d (.int .u8 0)),(.d (.int .u8 0)),(.d (.int .u8 0)),(.d (.int .u8 0)),(.d (.int .u8 0)),(.d (.int .u8 0)),(.d (.int .u8 0)),(.d (.int .u8 0)),(.d (.int .u8 0)),(.d (.int .u8 0)),(.d (.int .u8 0)),(.d (.int .u8 0)),(.d (.int .u8 0)),(.d (.bool false)),(.nils 1)])])
 (.seq
 (.reg [] [oo 1 (.call 86 []),
 oo 2 (.build [(.d (.int .i64 0)),(.d (.int .i64 0)),(.d (.int .i64 0)),(.d (.int .i64 0)),(.d (.int .u8 0)),(.d (.int .u8 0)),(.d (.int .u8 0)),(.d (.int .u8 0)),(.d (.int .u8 0)),(.d (.int .u8 0)),(.d (.int .u8 0)),(.d (.int .u8 0)),(.d (.int .u8 0)),(.d (.int .u8 0)),(.d (.int .u8 0)),(.d (.int .u8 0)),(.d (.int .u8 0)),(.d (.int .u8 0)),(.d (.int .u8 0)),(.d (.int .u8 0)),(.d (.bool false)),(.nils 1)] [(0,1,(.cst (.d (.int .i64 1000)))),(1,1,(.cst (.d (.int .i64 500)))),(2,1,(.cst (.d (.int .i64 40)))),(3,1,(.cst (.d (.int .i64 2000)))),(4,8,(ot 1))]),
 ⟨none,.st 22 (ot 0) (ot 2),none⟩])
 .ret))⟩
def tx88:AFun:=⟨13,42,[.tmp 0],
 (.seq
 (.reg [] [oo 0 (.mov (.cst (.nils 9)))])
 (.seq
 (.reg [0] [oo 2 (.build [(.d (.bool false)),(.d (.bool false)),(.d (.bool false)),(.d (.bool false)),(.d (.bool false)),(.d (.bool false)),(.d (.bool false))] [(0,1,(.cst (.d (.bool true)))),(1,1,(.cst (.d (.bool true)))),(2,1,(.cst (.d (.bool true)))),(3,1,(.cst (.d (.bool true)))),(4,1,(.cst (.d (.bool true)))),(5,1,(.cst (.d (.bool true)))),(6,1,(.cst (.d (.bool true))))]),
 oo 1 (.alloc 0 [(.d (.bool false)),(.d (.bool false)),(.d (.bool false)),(.d (.bool false)),(.d (.bool false)),(.d (.bool false)),(.d (.bool false))]),
 ⟨none,.st 7 (ot 1) (ot 2),none⟩])
 (.seq
 (.reg [1] [oo 3 (.build [(.d (.bool false)),(.d (.bool false)),(.d (.bool false)),(.d (.bool false)),(.d (.bool false)),(.d (.bool false)),(.d (.bool false))] [(5,1,(.cst (.d (.bool true)))),(6,1,(.cst (.d (.bool true))))]),
 oo 4 (.build [(.d (.int .i64 0)),(.d (.int .i64 0))] [(1,1,(.cst (.d (.int .i64 86400))))]),
 oo 5 (.build [(.d (.bool false)),(.d (.bool false)),(.d (.bool false)),(.d (.bool false)),(.d (.bool false)),(.d (.bool false)),(.d (.bool false)),(.d (.int .i64 0)),(.d (.int .i64 0))] [(0,7,(ot 3)),(7,2,(ot 4))]),
 oo 6 (.ld true 7 (ot 1)),
 oo 7 (.build [(.d (.int .i64 0)),(.d (.int .i64 0))] [(1,1,(.cst (.d (.int .i64 21600))))]),
 oo 8 (.build [(.d (.bool false)),(.d (.bool false)),(.d (.bool false)),(.d (.bool false)),(.d (.bool false)),(.d (.bool false)),(.d (.bool false)),(.d (.int .i64 0)),(.d (.int .i64 0))] [(0,7,(ot 6)),(7,2,(ot 7))]),
 oo 9 (.ld true 7 (ot 1)),
 oo 10 (.build [(.d (.int .i64 0)),(.d (.int .i64 0))] [(0,1,(.cst (.d (.int .i64 64800)))),(1,1,(.cst (.d (.int .i64 86400))))]),
 oo 11 (.build [(.d (.bool false)),(.d (.bool false)),(.d (.bool false)),(.d (.bool false)),(.d (.bool false)),(.d (.bool false)),(.d (.bool false)),(.d (.int .i64 0)),(.d (.int .i64 0))] [(0,7,(ot 9)),(7,2,(ot 10))]),
 oo 12 (.bsl 1 190 9 3 [(.agg [(.bool false),(.bool false),(.bool false),(.bool false),(.bool false),(.bool false),(.bool false),(.int .i64 0),(.int .i64 0)]),(.agg [(.bool false),(.bool false),(.bool false),(.bool false),(.bool false),(.bool false),(.bool false),(.int .i64 0),(.int .i64 0)]),(.agg [(.bool false),(.bool false),(.bool false),(.bool false),(.bool false),(.bool false),(.bool false),(.int .i64 0),(.int .i64 0)])] [(0,(ot 5)),(1,(ot 8)),(2,(ot 11))]),
 oo 0 (.mov (ot 12))])
 .ret)))⟩
def tx89:AFun:=⟨5,42,[.cell 0 3 true],
 (.seq
 (.reg [0] [oo 0 (.alloc 0 [(.d (.bool false)),(.d (.bool false)),(.nils 2)])])
 (.seq
 (.reg [1] [oo 1 (.build [(.d (.str [])),(.d (.int .i64 0))] [(0,1,(.cst (.d (.str [103,114,105,100])))),(1,1,(.cst (.d (.int .i64 30000))))]),
 oo 2 (.build [(.d (.str [])),(.d (.int .i64 0))] [(0,1,(.cst (.d (.str [115,97,108,101,115])))),(1,1,(.cst (.d (.int .i64 31000))))]),
 oo 3 (.bsl 1 156 2 2 [(.agg [(.str []),(.int .i64 0)]),(.agg [(.str []),(.int .i64 0)])] [(0,(ot 1)),(1,(ot 2))]),
 oo 4 (.build [(.d (.bool false)),(.d (.bool false)),(.nils 2)] [(0,1,(.cst (.d (.bool true)))),(2,1,(ot 3))]),
 ⟨none,.st 3 (ot 0) (ot 4),none⟩])
 .ret))⟩
def tx90:AFun:={ ir90 with heap:=40 }
def tx91:AFun:={ ir91 with heap:=40 }
def tx92:AFun:={ ir92 with heap:=40 }
def tx93:AFun:={ jr93 with heap:=43 }
def tx95:AFun:={ jr95 with heap:=41 }
def tx99:AFun:={ jr99 with heap:=42 }
def tx100:AFun:=⟨87,48,[.cell 4 22 true,.tmp 5],
 (.seq
 (.reg [0,1,2] [oo 2 (.cbx 0 22 (ot 0)),
 oo 3 (.cbx 1 10 (ot 1)),
 oo 4 (.alloc 2 [(.d (.int .i64 0)),(.d (.int .i64 0)),(.d (.int .i64 0)),(.d (.int .i64 0)),(.d (.int .u8 0)),(.d (.int .u8 0)),(.d (.int .u8 0)),(.d (.int .u8 0)),(.d (.int .u8 0)),(.d (.int .u8 0)),(.d (.int .u8 0)),(.d (.int .u8 0)),(.d (.int .u8 0)),(.d (.int .u8 0)),(.d (.int .u8 0)),(.d (.int .u8 0)),(.d (.int .u8 0)),(.d (.int .u8 0)),(.d (.int .u8 0)),(.d (.int .u8 0)),(.d (.bool false)),(.nils 1)]),
 oo 5 (.mov (.cst (.d (.int .i64 0))))])
 (.seq
 (.seq
 (.reg [] [oo 13 (.ld true 22 (ot 2)),
 oo 14 (.ld true 10 (ot 3)),
 oo 15 (.call 140 [(ot 13),(ot 14)]),
 oo 16 (.not (ot 15))])
 (.cond (ot 16)
 (.seq
 (.reg [] [oo 17 (.ld true 22 (ot 2)),
 ⟨none,.st 22 (ot 4) (ot 17),none⟩,
 oo 5 (.mov (.cst (.d (.int .i64 27))))])
 .ret)
 .skip))
 (.seq
 (.reg [3] [oo 18 (.mkm 3),
 oo 6 (.mov (ot 18))])
 (.seq
 (.seq
 (.reg [] [oo 19 (.fad 21 (ot 2)),
 oo 20 (.ld false 1 (ot 19)),
 oo 21 (.len (ot 20)),
 oo 22 (.mov (.cst (.d (.int .i64 0))))])
 (.post [2,3,4,6] [0,1,2,3]
 (.block 0
 (.keep [2,3,4,6,20,21,22] [0,1,2,3]
 (.loop
 (.post [2,3,4,6,20,21,22] []
 (.seq
 (.reg [] [oo 23 (.cmp .lss (ot 22) (ot 21))])
 (.seq
 (.cond (ot 23)
 .skip
 (.exit 0))
 (.seq
 (.block 1
 (.seq
 (.reg [] [oo 24 (.ixa 1 (ot 20) (ot 22)),
 oo 25 (.ld false 1 (ot 24)),
 oo 8 (.mov (ot 25))])
 (.reg [] [oo 26 (.mov (ot 6)),
 oo 27 (.mov (ot 8)),
 ⟨none,.mpu (some .i64) (ot 26) (ot 27) (.cst (.d (.bool true))),none⟩])))
 (.reg [] [oo 28 (.arith .add .i64 (ot 22) (.cst (.d (.int .i64 1)))),
 oo 22 (.mov (ot 28))]))))))))))
 (.seq
 (.reg [] [oo 29 (.fad 1 (ot 2)),
 oo 30 (.ld false 1 (ot 29)),
 oo 31 (.fad 1 (ot 3)),
 oo 32 (.ld false 1 (ot 31)),
 oo 33 (.fad 2 (ot 2)),
 oo 34 (.ld false 1 (ot 33)),
 oo 35 (.arith .mul .i64 (ot 32) (ot 34)),
 oo 36 (.arith .quo .i64 (ot 35) (.cst (.d (.int .i64 100)))),
 oo 37 (.mini (ot 30) (ot 36)),
 oo 9 (.mov (ot 37))])
 (.seq
 (.reg [] [oo 38 (.fad 1 (ot 3)),
 oo 39 (.ld false 1 (ot 38)),
 oo 40 (.mov (ot 9)),
 oo 41 (.arith .sub .i64 (ot 39) (ot 40)),
 oo 10 (.mov (ot 41))])
 (.seq
 (.seq
 (.regd [4] [oo 42 (.mov (ot 6)),
 oo 43 (.fad 0 (ot 3)),
 oo 44 (.ld false 1 (ot 43)),
 oo 45 (.lkp (some .i64) (.bool false) false (ot 42) (ot 44)),
 oo 46 (.call 92 [(ot 45),(.cst (.d (.int .i64 9)))]),
 oo 47 (.fad 21 (ot 2)),
 oo 48 (.ld false 1 (ot 47)),
 oo 49 (.len (ot 48)),
 oo 50 (.cmp .eql (ot 49) (.cst (.d (.int .i64 256)))),
 oo 51 (.call 92 [(ot 50),(.cst (.d (.int .i64 5)))]),
 oo 52 (.fad 0 (ot 2)),
 oo 53 (.ld false 1 (ot 52)),
 oo 54 (.mov (ot 10)),
 oo 55 (.arith .sub .i64 (.cst (.d (.int .i64 1000000000000))) (ot 54)),
 oo 56 (.cmp .gtr (ot 53) (ot 55)),
 oo 57 (.call 92 [(ot 56),(.cst (.d (.int .i64 4)))]),
 oo 58 (.bsl 4 30 1 3 [(.int .i64 0),(.int .i64 0),(.int .i64 0)] [(0,(ot 46)),(1,(ot 51)),(2,(ot 57))]),
 oo 59 (.call 90 [(ot 58)]),
 oo 11 (.mov (ot 59))] [(0,1),(0,2),(0,5),(1,5),(2,5),(3,5),(4,5),(0,6),(1,6),(2,6),(3,6),(4,6),(0,7),(1,7),(2,7),(3,7),(4,7),(0,8),(1,8),(2,8),(3,8),(4,8),(0,10),(1,10),(2,10),(3,10),(4,10),(5,10),(6,10),(7,10),(8,10),(9,10),(0,11),(1,11),(2,11),(3,11),(4,11),(5,11),(6,11),(7,11),(8,11),(9,11),(0,12),(1,12),(2,12),(3,12),(4,12),(5,12),(6,12),(7,12),(8,12),(9,12),(10,12),(11,12),(0,13),(1,13),(2,13),(3,13),(4,13),(5,13),(6,13),(7,13),(8,13),(9,13),(10,13),(11,13),(0,14),(1,14),(2,14),(3,14),(4,14),(5,14),(6,14),(7,14),(8,14),(9,14)])
 (.seq
 (.reg [] [oo 60 (.mov (ot 11)),
 oo 61 (.cmp .neq (ot 60) (.cst (.d (.int .i64 0))))])
 (.cond (ot 61)
 (.seq
 (.reg [] [oo 62 (.ld true 22 (ot 2)),
 oo 63 (.mov (ot 11)),
 ⟨none,.st 22 (ot 4) (ot 62),none⟩,
 oo 5 (.mov (ot 63))])
 .ret)
 .skip)))
 (.seq
 (.reg [5] [oo 64 (.ld true 22 (ot 2)),
 oo 65 (.calli 93 [(ot 64)]),
 oo 12 (.alloc 5 [(.d (.int .i64 0)),(.d (.int .i64 0)),(.d (.int .i64 0)),(.d (.int .i64 0)),(.d (.int .u8 0)),(.d (.int .u8 0)),(.d (.int .u8 0)),(.d (.int .u8 0)),(.d (.int .u8 0)),(.d (.int .u8 0)),(.d (.int .u8 0)),(.d (.int .u8 0)),(.d (.int .u8 0)),(.d (.int .u8 0)),(.d (.int .u8 0)),(.d (.int .u8 0)),(.d (.int .u8 0)),(.d (.int .u8 0)),(.d (.int .u8 0)),(.d (.int .u8 0)),(.d (.bool false)),(.nils 1)]),
 ⟨none,.st 22 (ot 12) (ot 65),none⟩])
 (.seq
 (.reg [] [oo 66 (.fad 1 (ot 12)),
 oo 67 (.ld false 1 (ot 66)),
 oo 68 (.mov (ot 9)),
 oo 69 (.arith .sub .i64 (ot 67) (ot 68)),
 oo 70 (.fad 1 (ot 12)),
 ⟨none,.st 1 (ot 70) (ot 69),none⟩])
 (.seq
 (.reg [] [oo 71 (.fad 0 (ot 12)),
 oo 72 (.ld false 1 (ot 71)),
 oo 73 (.mov (ot 10)),
 oo 74 (.arith .add .i64 (ot 72) (ot 73)),
 oo 75 (.fad 0 (ot 12)),
 ⟨none,.st 1 (ot 75) (ot 74),none⟩])
 (.seq
 (.reg [6,7] [oo 76 (.fad 21 (ot 12)),
 oo 77 (.ld false 1 (ot 76)),
 oo 78 (.fad 0 (ot 3)),
 oo 79 (.ld false 1 (ot 78)),
 oo 80 (.bsl 6 3 1 1 [(.int .i64 0)] [(0,(ot 79))]),
 oo 81 (.app 7 3 1 8 (ot 77) (ot 80)),
 oo 82 (.fad 21 (ot 12)),
 ⟨none,.st 1 (ot 82) (ot 81),none⟩])
 (.seq
 (.reg [] [oo 83 (.fad 21 (ot 12)),
 oo 84 (.ld false 1 (ot 83)),
 oo 85 (.calli 141 [(ot 84)])])
 (.seq
 (.reg [] [oo 86 (.ld true 22 (ot 12)),
 ⟨none,.st 22 (ot 4) (ot 86),none⟩,
 oo 5 (.mov (.cst (.d (.int .i64 0))))])
 .ret)))))))))))))⟩
def tx101:AFun:={ jr101 with heap:=43 }
def tx102:AFun:={ jr102 with heap:=43 }
def tx103:AFun:={ jr103 with heap:=41 }
def tx106:AFun:={ jr106 with heap:=43 }
def tx107:AFun:={ jr107 with heap:=44 }
def tx108:AFun:={ jr108 with heap:=41 }
def tx112:AFun:=⟨5,40,[.tmp 2],
 (.seq
 (.reg [] [oo 2 (.mov (.cst (.d (.int .i64 0))))])
 (.seq
 (.reg [] [oo 3 (.mov (ot 0)),
 oo 4 (.call 91 [(ot 3),(.cst (.d (.int .i64 0))),(.cst (.d (.int .i64 100000000)))]),
 oo 2 (.mov (ot 4))])
 .ret))⟩
def tx113:AFun:=⟨53,41,[.tmp 4,.tmp 5],
 (.seq
 (.reg [] [oo 4 (.mov (.cst (.d (.int .i64 0)))),
 oo 5 (.mov (.cst (.d (.bool false))))])
 (.seq
 (.reg [] [oo 12 (.mov (ot 1)),
 oo 13 (.arith .quo .i64 (ot 12) (.cst (.d (.int .i64 86400)))),
 oo 14 (.mov (ot 1)),
 oo 15 (.arith .rem .i64 (ot 14) (.cst (.d (.int .i64 86400)))),
 oo 6 (.mov (ot 13)),
 oo 7 (.mov (ot 15))])
 (.seq
 (.reg [] [oo 16 (.mov (ot 1)),
 oo 8 (.mov (ot 16)),
 oo 9 (.mov (.cst (.d (.bool false))))])
 (.seq
 (.seq
 (.reg [] [oo 17 (.mov (ot 0)),
 oo 18 (.len (ot 17)),
 oo 19 (.mov (.cst (.d (.int .i64 0))))])
 (.post [8,9] [0]
 (.block 0
 (.keep [6,7,8,9,17,18,19] []
 (.loop
 (.post [6,7,8,9,17,18,19] [0]
 (.seq
 (.reg [] [oo 20 (.cmp .lss (ot 19) (ot 18))])
 (.seq
 (.cond (ot 20)
 .skip
 (.exit 0))
 (.seq
 (.block 1
 (.seq
 (.reg [0] [oo 21 (.ixa 9 (ot 17) (ot 19)),
 oo 22 (.ld true 9 (ot 21)),
 oo 11 (.alloc 0 [(.d (.bool false)),(.d (.bool false)),(.d (.bool false)),(.d (.bool false)),(.d (.bool false)),(.d (.bool false)),(.d (.bool false)),(.d (.int .i64 0)),(.d (.int .i64 0))]),
 ⟨none,.st 9 (ot 11) (ot 22),none⟩])
 (.seq
 (.reg [] [oo 23 (.mov (ot 6)),
 oo 24 (.arith .rem .i64 (ot 23) (.cst (.d (.int .i64 7)))),
 oo 25 (.fad 0 (ot 11)),
 oo 26 (.ixp 7 1 (ot 25) (ot 24)),
 oo 27 (.ld false 1 (ot 26)),
 oo 28 (.mov (ot 27)),
 ⟨some 29,.mov (ot 7),some (28,true)⟩,
 ⟨some 30,.fad 7 (ot 11),some (28,true)⟩,
 ⟨some 31,.fad 0 (ot 30),some (28,true)⟩,
 ⟨some 32,.ld false 1 (ot 31),some (28,true)⟩,
 ⟨some 33,.cmp .geq (ot 29) (ot 32),some (28,true)⟩,
 oo 34 (.pick (ot 28) (ot 33) (.cst (.d (.bool false)))),
 oo 35 (.mov (ot 34)),
 ⟨some 36,.mov (ot 7),some (35,true)⟩,
 ⟨some 37,.fad 7 (ot 11),some (35,true)⟩,
 ⟨some 38,.fad 1 (ot 37),some (35,true)⟩,
 ⟨some 39,.ld false 1 (ot 38),some (35,true)⟩,
 ⟨some 40,.cmp .lss (ot 36) (ot 39),some (35,true)⟩,
 oo 41 (.pick (ot 35) (ot 40) (.cst (.d (.bool false))))])
 (.cond (ot 41)
 (.reg [] [oo 42 (.mov (ot 8)),
 oo 43 (.mov (ot 6)),
 oo 44 (.arith .mul .i64 (ot 43) (.cst (.d (.int .i64 86400)))),
 oo 45 (.fad 7 (ot 11)),
 oo 46 (.fad 1 (ot 45)),
 oo 47 (.ld false 1 (ot 46)),
 oo 48 (.arith .add .i64 (ot 44) (ot 47)),
 oo 49 (.maxi (ot 42) (ot 48)),
 oo 8 (.mov (ot 49)),
 oo 9 (.mov (.cst (.d (.bool true))))])
 .skip))))
 (.reg [] [oo 50 (.arith .add .i64 (ot 19) (.cst (.d (.int .i64 1)))),
 oo 19 (.mov (ot 50))]))))))))))
 (.seq
 (.reg [] [oo 51 (.mov (ot 8)),
 oo 52 (.mov (ot 9)),
 oo 4 (.mov (ot 51)),
 oo 5 (.mov (ot 52))])
 .ret)))))⟩
def tx114:AFun:=⟨26,43,[.tmp 4,.tmp 5],
 (.seq
 (.reg [0] [oo 2 (.cbx 0 1 (ot 0)),
 oo 4 (.mov (.cst (.d (.int .i64 0)))),
 oo 5 (.mov (.cst (.d (.int .i64 0))))])
 (.scope
 (.seq
 (.reg [1] [oo 6 (.alloc 1 [(.d (.int .i64 0))]),
 ⟨none,.st 1 (ot 6) (.cst (.d (.int .i64 (-1)))),none⟩])
 (.seq
 .skip
 (.seq
 (.seq
 (.reg [] [oo 10 (.ld false 1 (ot 2)),
 oo 11 (.mov (ot 1)),
 oo 12 (.call 145 [(ot 10),(ot 11)])])
 (.block 0
 (.keep [2,6,12] [0,1]
 (.rfor 2 (ot 12) [13]
 (.reg [] [oo 7 (.mov (ot 13))])
 (.post [] []
 (.block 1
 (.seq
 (.reg [] [oo 15 (.ld false 1 (ot 2)),
 oo 16 (.mov (ot 7)),
 oo 17 (.call 113 [(ot 15),(ot 16)]),
 oo 14 (.mov (ot 17)),
 oo 18 (.ext 0 (ot 14)),
 oo 19 (.ext 1 (ot 14)),
 oo 8 (.mov (ot 18)),
 oo 9 (.mov (ot 19))])
 (.seq
 (.reg [] [oo 20 (.mov (ot 9)),
 oo 21 (.not (ot 20))])
 (.cond (ot 21)
 (.seq
 (.reg [] [oo 22 (.mov (ot 7)),
 ⟨none,.st 1 (ot 6) (ot 22),none⟩])
 (.exit 0))
 .skip)))))))))
 (.seq
 (.seq
 (.reg [] [oo 23 (.ld false 1 (ot 6)),
 oo 24 (.cmp .lss (ot 23) (.cst (.d (.int .i64 0))))])
 (.cond (ot 24)
 (.seq
 (.reg [] [oo 4 (.mov (.cst (.d (.int .i64 0)))),
 oo 5 (.mov (.cst (.d (.int .i64 7))))])
 .ret)
 .skip))
 (.seq
 (.reg [] [oo 25 (.ld false 1 (ot 6)),
 oo 4 (.mov (ot 25)),
 oo 5 (.mov (.cst (.d (.int .i64 0))))])
 .ret)))))))⟩
def tx116:AFun:=⟨22,43,[.tmp 4],
 (.seq
 (.reg [] [oo 4 (.mov (.cst (.nils 1)))])
 (.seq
 (.reg [] [oo 5 (.mov (.cst (.nils 1)))])
 (.seq
 (.seq
 (.reg [] [oo 8 (.mov (ot 0)),
 oo 9 (.len (ot 8)),
 oo 10 (.mov (.cst (.d (.int .i64 0))))])
 (.post [5] [0,1,2]
 (.block 0
 (.asrow 2 30 1 5
 (.keep [1,5,8,9,10] []
 (.loop
 (.post [1,5,8,9,10] [0,1,2]
 (.seq
 (.reg [] [oo 11 (.cmp .lss (ot 10) (ot 9))])
 (.seq
 (.cond (ot 11)
 .skip
 (.exit 0))
 (.seq
 (.block 1
 (.seq
 (.reg [0] [oo 12 (.ixa 9 (ot 8) (ot 10)),
 oo 13 (.ld true 9 (ot 12)),
 oo 7 (.alloc 0 [(.d (.bool false)),(.d (.bool false)),(.d (.bool false)),(.d (.bool false)),(.d (.bool false)),(.d (.bool false)),(.d (.bool false)),(.d (.int .i64 0)),(.d (.int .i64 0))]),
 ⟨none,.st 9 (ot 7) (ot 13),none⟩])
 (.reg [1,2] [oo 14 (.mov (ot 5)),
 oo 15 (.mov (ot 1)),
 oo 16 (.ld true 9 (ot 7)),
 oo 17 (.callv (ot 15) [(ot 16)]),
 oo 18 (.bsl 1 30 1 1 [(.int .i64 0)] [(0,(ot 17))]),
 oo 19 (.app 2 30 1 8 (ot 14) (ot 18)),
 oo 5 (.mov (ot 19))])))
 (.reg [] [oo 20 (.arith .add .i64 (ot 10) (.cst (.d (.int .i64 1)))),
 oo 10 (.mov (ot 20))])))))))))))
 (.seq
 (.reg [] [oo 21 (.mov (ot 5)),
 oo 4 (.mov (ot 21))])
 .ret))))⟩
def tx117:AFun:=⟨23,41,[.tmp 2],
 (.seq
 (.reg [0] [oo 1 (.cbx 0 9 (ot 0)),
 oo 2 (.mov (.cst (.d (.int .i64 0))))])
 (.seq
 (.reg [] [oo 3 (.fad 7 (ot 1)),
 oo 4 (.fad 0 (ot 3)),
 oo 5 (.ld false 1 (ot 4)),
 oo 6 (.cmp .lss (ot 5) (.cst (.d (.int .i64 0)))),
 oo 7 (.mov (ot 6)),
 ⟨some 8,.fad 7 (ot 1),some (7,false)⟩,
 ⟨some 9,.fad 0 (ot 8),some (7,false)⟩,
 ⟨some 10,.ld false 1 (ot 9),some (7,false)⟩,
 ⟨some 11,.fad 7 (ot 1),some (7,false)⟩,
 ⟨some 12,.fad 1 (ot 11),some (7,false)⟩,
 ⟨some 13,.ld false 1 (ot 12),some (7,false)⟩,
 ⟨some 14,.cmp .geq (ot 10) (ot 13),some (7,false)⟩,
 oo 15 (.pick (ot 7) (.cst (.d (.bool true))) (ot 14)),
 oo 16 (.mov (ot 15)),
 ⟨some 17,.fad 7 (ot 1),some (16,false)⟩,
 ⟨some 18,.fad 1 (ot 17),some (16,false)⟩,
 ⟨some 19,.ld false 1 (ot 18),some (16,false)⟩,
 ⟨some 20,.cmp .gtr (ot 19) (.cst (.d (.int .i64 86400))),some (16,false)⟩,
 oo 21 (.pick (ot 16) (.cst (.d (.bool true))) (ot 20)),
 oo 22 (.call 92 [(ot 21),(.cst (.d (.int .i64 14)))]),
 oo 2 (.mov (ot 22))])
 .ret))⟩
def tx118:AFun:=⟨46,45,[.tmp 2,.tmp 3],
 (.seq
 (.reg [0] [oo 1 (.cbx 0 6 (ot 0)),
 oo 2 (.mov (.cst (.nils 3))),
 oo 3 (.mov (.cst (.d (.int .i64 0))))])
 (.seq
 (.seq
 (.regd [1] [oo 8 (.fad 0 (ot 1)),
 oo 9 (.ld true 3 (ot 8)),
 oo 10 (.call 80 [(ot 9)]),
 oo 11 (.fad 3 (ot 1)),
 oo 12 (.ld false 1 (ot 11)),
 oo 13 (.call 55 [(ot 12)]),
 oo 14 (.fad 4 (ot 1)),
 oo 15 (.ld false 1 (ot 14)),
 oo 16 (.call 112 [(ot 15)]),
 oo 17 (.fad 5 (ot 1)),
 oo 18 (.ld false 1 (ot 17)),
 oo 19 (.call 91 [(ot 18),(.cst (.d (.int .i64 0))),(.cst (.d (.int .i64 1000000)))]),
 oo 20 (.fad 4 (ot 1)),
 oo 21 (.ld false 1 (ot 20)),
 oo 22 (.fad 0 (ot 1)),
 oo 23 (.ld true 3 (ot 22)),
 oo 24 (.call 127 [(ot 23)]),
 oo 25 (.cmp .lss (ot 21) (ot 24)),
 oo 26 (.call 92 [(ot 25),(.cst (.d (.int .i64 11)))]),
 oo 27 (.bsl 1 30 1 5 [(.int .i64 0),(.int .i64 0),(.int .i64 0),(.int .i64 0),(.int .i64 0)] [(0,(ot 10)),(1,(ot 13)),(2,(ot 16)),(3,(ot 19)),(4,(ot 26))]),
 oo 28 (.call 90 [(ot 27)]),
 oo 4 (.mov (ot 28))] [(0,3),(1,3),(2,3),(0,4),(1,4),(2,4),(0,6),(1,6),(2,6),(3,6),(4,6),(5,6),(0,7),(1,7),(2,7),(3,7),(4,7),(5,7),(0,9),(1,9),(2,9),(3,9),(4,9),(5,9),(6,9),(7,9),(8,9),(0,10),(1,10),(2,10),(3,10),(4,10),(5,10),(6,10),(7,10),(8,10),(0,12),(1,12),(2,12),(3,12),(4,12),(5,12),(6,12),(7,12),(8,12),(9,12),(10,12),(11,12),(0,13),(1,13),(2,13),(3,13),(4,13),(5,13),(6,13),(7,13),(8,13),(9,13),(10,13),(11,13),(0,14),(1,14),(2,14),(3,14),(4,14),(5,14),(6,14),(7,14),(8,14),(9,14),(10,14),(11,14),(12,14),(13,14),(0,15),(1,15),(2,15),(3,15),(4,15),(5,15),(6,15),(7,15),(8,15),(9,15),(10,15),(11,15),(12,15),(13,15),(12,16),(13,16)])
 (.seq
 (.reg [] [oo 29 (.mov (ot 4)),
 oo 30 (.cmp .neq (ot 29) (.cst (.d (.int .i64 0))))])
 (.cond (ot 30)
 (.seq
 (.reg [] [oo 31 (.mov (ot 4)),
 oo 2 (.mov (.cst (.nils 3))),
 oo 3 (.mov (ot 31))])
 .ret)
 .skip)))
 (.seq
 (.reg [] [oo 5 (.mov (.cst (.nils 3)))])
 (.seq
 (.seq
 (.reg [] [oo 32 (.call 146 []),
 oo 33 (.mov (.cst (.d (.int .i64 0))))])
 (.post [5] [0,1,2,3,4]
 (.block 0
 (.asrow 4 203 3 5
 (.keep [1,5,32,33] [0,1]
 (.loop
 (.post [1,5,32,33] [2,3,4]
 (.seq
 (.reg [] [oo 34 (.cmp .lss (ot 33) (.cst (.d (.int .i64 3))))])
 (.seq
 (.cond (ot 34)
 .skip
 (.exit 0))
 (.seq
 (.block 1
 (.seq
 (.reg [2] [oo 35 (.ixv true 3 3 (ot 32) (ot 33)),
 oo 7 (.alloc 2 [(.d (.str [])),(.d (.int .i64 0)),.undef]),
 ⟨none,.st 3 (ot 7) (ot 35),none⟩])
 (.seq
 (.reg [] [oo 36 (.fad 2 (ot 7)),
 oo 37 (.ld false 1 (ot 36)),
 oo 38 (.ld true 6 (ot 1)),
 oo 39 (.callv (ot 37) [(ot 38)])])
 (.cond (ot 39)
 (.reg [3,4] [oo 40 (.mov (ot 5)),
 oo 41 (.ld true 3 (ot 7)),
 oo 42 (.bsl 3 203 3 1 [(.int .i64 0)] [(0,(ot 41))]),
 oo 43 (.app 4 203 3 32 (ot 40) (ot 42)),
 oo 5 (.mov (ot 43))])
 .skip))))
 (.reg [] [oo 44 (.arith .add .i64 (ot 33) (.cst (.d (.int .i64 1)))),
 oo 33 (.mov (ot 44))])))))))))))
 (.seq
 (.reg [] [oo 45 (.mov (ot 5)),
 oo 2 (.mov (ot 45)),
 oo 3 (.mov (.cst (.d (.int .i64 0))))])
 .ret)))))⟩
def tx119:AFun:=⟨22,43,[.tmp 4],
 (.seq
 (.reg [] [oo 4 (.mov (.cst (.nils 1)))])
 (.seq
 (.reg [] [oo 5 (.mov (.cst (.nils 1)))])
 (.seq
 (.seq
 (.reg [] [oo 8 (.mov (ot 0)),
 oo 9 (.len (ot 8)),
 oo 10 (.mov (.cst (.d (.int .i64 0))))])
 (.post [5] [0,1,2]
 (.block 0
 (.asrow 2 9 1 5
 (.keep [1,5,8,9,10] []
 (.loop
 (.post [1,5,8,9,10] [0,1,2]
 (.seq
 (.reg [] [oo 11 (.cmp .lss (ot 10) (ot 9))])
 (.seq
 (.cond (ot 11)
 .skip
 (.exit 0))
 (.seq
 (.block 1
 (.seq
 (.reg [0] [oo 12 (.ixa 3 (ot 8) (ot 10)),
 oo 13 (.ld true 3 (ot 12)),
 oo 7 (.alloc 0 [(.d (.str [])),(.d (.int .i64 0)),.undef]),
 ⟨none,.st 3 (ot 7) (ot 13),none⟩])
 (.reg [1,2] [oo 14 (.mov (ot 5)),
 oo 15 (.mov (ot 1)),
 oo 16 (.ld true 3 (ot 7)),
 oo 17 (.callv (ot 15) [(ot 16)]),
 oo 18 (.bsl 1 9 1 1 [(.str [])] [(0,(ot 17))]),
 oo 19 (.app 2 9 1 16 (ot 14) (ot 18)),
 oo 5 (.mov (ot 19))])))
 (.reg [] [oo 20 (.arith .add .i64 (ot 10) (.cst (.d (.int .i64 1)))),
 oo 10 (.mov (ot 20))])))))))))))
 (.seq
 (.reg [] [oo 21 (.mov (ot 5)),
 oo 4 (.mov (ot 21))])
 .ret))))⟩
def tx120:AFun:=⟨5,41,[.tmp 2],
 (.seq
 (.reg [0] [oo 1 (.cbx 0 3 (ot 0)),
 oo 2 (.mov (.cst (.d (.str []))))])
 (.seq
 (.reg [] [oo 3 (.fad 0 (ot 1)),
 oo 4 (.ld false 1 (ot 3)),
 oo 2 (.mov (ot 4))])
 .ret))⟩
def tx121:AFun:=⟨22,43,[.tmp 4],
 (.seq
 (.reg [] [oo 4 (.mov (.cst (.nils 1)))])
 (.seq
 (.reg [] [oo 5 (.mov (.cst (.nils 1)))])
 (.seq
 (.seq
 (.reg [] [oo 8 (.mov (ot 0)),
 oo 9 (.len (ot 8)),
 oo 10 (.mov (.cst (.d (.int .i64 0))))])
 (.post [5] [0,1,2]
 (.block 0
 (.asrow 2 30 1 5
 (.keep [1,5,8,9,10] []
 (.loop
 (.post [1,5,8,9,10] [0,1,2]
 (.seq
 (.reg [] [oo 11 (.cmp .lss (ot 10) (ot 9))])
 (.seq
 (.cond (ot 11)
 .skip
 (.exit 0))
 (.seq
 (.block 1
 (.seq
 (.reg [0] [oo 12 (.ixa 3 (ot 8) (ot 10)),
 oo 13 (.ld true 3 (ot 12)),
 oo 7 (.alloc 0 [(.d (.str [])),(.d (.int .i64 0)),.undef]),
 ⟨none,.st 3 (ot 7) (ot 13),none⟩])
 (.reg [1,2] [oo 14 (.mov (ot 5)),
 oo 15 (.mov (ot 1)),
 oo 16 (.ld true 3 (ot 7)),
 oo 17 (.callv (ot 15) [(ot 16)]),
 oo 18 (.bsl 1 30 1 1 [(.int .i64 0)] [(0,(ot 17))]),
 oo 19 (.app 2 30 1 8 (ot 14) (ot 18)),
 oo 5 (.mov (ot 19))])))
 (.reg [] [oo 20 (.arith .add .i64 (ot 10) (.cst (.d (.int .i64 1)))),
 oo 10 (.mov (ot 20))])))))))))))
 (.seq
 (.reg [] [oo 21 (.mov (ot 5)),
 oo 4 (.mov (ot 21))])
 .ret))))⟩
def tx122:AFun:=⟨5,41,[.tmp 2],
 (.seq
 (.reg [0] [oo 1 (.cbx 0 3 (ot 0)),
 oo 2 (.mov (.cst (.d (.int .i64 0))))])
 (.seq
 (.reg [] [oo 3 (.fad 1 (ot 1)),
 oo 4 (.ld false 1 (ot 3)),
 oo 2 (.mov (ot 4))])
 .ret))⟩
def tx126:AFun:=⟨7,40,[.tmp 2],
 (.seq
 (.reg [] [oo 2 (.mov (.cst (.d (.int .i64 0))))])
 (.seq
 (.reg [] [oo 3 (.mov (ot 0)),
 oo 4 (.call 147 [(ot 3)]),
 oo 5 (.not (ot 4)),
 oo 6 (.call 92 [(ot 5),(.cst (.d (.int .i64 8)))]),
 oo 2 (.mov (ot 6))])
 .ret))⟩
def tx127:AFun:=⟨16,41,[.tmp 2],
 (.seq
 (.reg [0] [oo 1 (.cbx 0 3 (ot 0)),
 oo 2 (.mov (.cst (.d (.int .i64 0))))])
 (.seq
 (.seq
 (.reg [] [oo 3 (.fad 2 (ot 1)),
 oo 4 (.ld false 1 (ot 3)),
 oo 5 (.len (ot 4)),
 oo 6 (.cmp .eql (ot 5) (.cst (.d (.int .i64 0))))])
 (.cond (ot 6)
 (.seq
 (.reg [] [oo 2 (.mov (.cst (.d (.int .i64 0))))])
 .ret)
 .skip))
 (.seq
 (.reg [] [oo 7 (.fad 2 (ot 1)),
 oo 8 (.ld false 1 (ot 7)),
 oo 9 (.fad 2 (ot 1)),
 oo 10 (.ld false 1 (ot 9)),
 oo 11 (.len (ot 10)),
 oo 12 (.arith .sub .i64 (ot 11) (.cst (.d (.int .i64 1)))),
 oo 13 (.ixa 2 (ot 8) (ot 12)),
 oo 14 (.fad 1 (ot 13)),
 oo 15 (.ld false 1 (ot 14)),
 oo 2 (.mov (ot 15))])
 .ret)))⟩
def tx131:AFun:=⟨12,42,[.tmp 4],
 (.seq
 (.reg [] [oo 4 (.mov (.cst (.d (.str []))))])
 (.seq
 (.reg [0,1] [oo 5 (.mov (ot 0)),
 oo 6 (.bsl 0 9 1 1 [(.str [])] [(0,(ot 5))]),
 oo 7 (.mov (ot 1)),
 oo 8 (.call 152 [(ot 7),(.cst (.d (.fn (.func 153) [])))]),
 oo 9 (.app 1 9 1 16 (ot 6) (ot 8)),
 oo 10 (.call 151 [(ot 9),(.cst (.d (.str [32])))]),
 oo 11 (.cat (ot 10) (.cst (.d (.str [10])))),
 oo 4 (.mov (ot 11))])
 .ret))⟩
def tx132:AFun:=⟨5,41,[.tmp 2],
 (.seq
 (.reg [0] [oo 1 (.cbx 0 8 (ot 0)),
 oo 2 (.mov (.cst (.nils 1)))])
 (.seq
 (.reg [] [oo 3 (.sla 8 (ot 1) none none),
 oo 4 (.calli 154 [(ot 3),(.cst (.d (.fn (.func 155) [])))]),
 oo 2 (.mov (ot 4))])
 .ret))⟩
def tx140:AFun:={ jr140 with heap:=42 }
def tx141:AFun:=⟨11,40,[],
 (.seq
 (.reg [] [oo 3 (.mov (ot 0)),
 oo 4 (.len (ot 3)),
 oo 2 (.mov (ot 4))])
 (.reg [] [oo 5 (.mov (ot 0)),
 oo 6 (.mov (ot 2)),
 oo 7 (.mov (ot 2)),
 oo 8 (.conv .u64 (ot 7)),
 oo 9 (.call 162 [(ot 8)]),
 oo 10 (.calli 161 [(ot 5),(.cst (.d (.int .i64 0))),(ot 6),(ot 9)])]))⟩
def tx142:AFun:=⟨13,42,[.cell 4 8 true,.tmp 5],
 (.seq
 (.reg [0,1] [oo 2 (.cbx 0 8 (ot 0)),
 oo 4 (.alloc 1 [(.d (.int .u8 0)),(.d (.int .u8 0)),(.d (.int .u8 0)),(.d (.int .u8 0)),(.d (.int .u8 0)),(.d (.int .u8 0)),(.d (.int .u8 0)),(.d (.int .u8 0))]),
 oo 5 (.mov (.cst (.d (.int .i64 0))))])
 (.seq
 (.seq
 (.reg [] [oo 6 (.mov (ot 1)),
 oo 7 (.len (ot 6)),
 oo 8 (.cmp .gtr (ot 7) (.cst (.d (.int .i64 400000))))])
 (.cond (ot 8)
 (.seq
 (.reg [] [oo 9 (.build [(.d (.int .u8 0)),(.d (.int .u8 0)),(.d (.int .u8 0)),(.d (.int .u8 0)),(.d (.int .u8 0)),(.d (.int .u8 0)),(.d (.int .u8 0)),(.d (.int .u8 0))] []),
 ⟨none,.st 8 (ot 4) (ot 9),none⟩,
 oo 5 (.mov (.cst (.d (.int .i64 26))))])
 .ret)
 .skip))
 (.seq
 (.reg [] [oo 10 (.ld true 8 (ot 2)),
 oo 11 (.mov (ot 1)),
 oo 12 (.call 163 [(ot 10),(ot 11)]),
 ⟨none,.st 8 (ot 4) (ot 12),none⟩,
 oo 5 (.mov (.cst (.d (.int .i64 0))))])
 .ret)))⟩
def tx143:AFun:={ jr143 with heap:=41 }
def tx145:AFun:=⟨6,42,[.tmp 4],
 (.seq
 (.reg [0,1] [oo 2 (.cbx 0 1 (ot 0)),
 oo 3 (.cbx 1 1 (ot 1)),
 oo 4 (.mov (.cst .undef))])
 (.seq
 (.reg [] [oo 5 (.mkf (.func 164) [] [(ot 3),(ot 2)]),
 oo 4 (.mov (ot 5))])
 .ret))⟩
def tx146:AFun:=⟨5,41,[.cell 0 9 true],
 (.seq
 (.reg [0] [oo 0 (.alloc 0 [(.d (.str [])),(.d (.int .i64 0)),.undef,(.d (.str [])),(.d (.int .i64 0)),.undef,(.d (.str [])),(.d (.int .i64 0)),.undef])])
 (.seq
 (.reg [] [oo 1 (.build [(.d (.str [])),(.d (.int .i64 0)),.undef] [(0,1,(.cst (.d (.str [111,102,102])))),(1,1,(.cst (.d (.int .i64 22)))),(2,1,(.cst (.d (.fn (.func 165) []))))]),
 oo 2 (.build [(.d (.str [])),(.d (.int .i64 0)),.undef] [(0,1,(.cst (.d (.str [112,114,111,116,101,99,116,101,100])))),(1,1,(.cst (.d (.int .i64 31)))),(2,1,(.cst (.d (.fn (.func 166) []))))]),
 oo 3 (.build [(.d (.str [])),(.d (.int .i64 0)),.undef] [(0,1,(.cst (.d (.str [111,102,102,105,99,101,115])))),(1,1,(.cst (.d (.int .i64 30)))),(2,1,(.cst (.d (.fn (.func 167) []))))]),
 oo 4 (.build [(.d (.str [])),(.d (.int .i64 0)),.undef,(.d (.str [])),(.d (.int .i64 0)),.undef,(.d (.str [])),(.d (.int .i64 0)),.undef] [(0,3,(ot 1)),(3,3,(ot 2)),(6,3,(ot 3))]),
 ⟨none,.st 9 (ot 0) (ot 4),none⟩])
 .ret))⟩
def tx147:AFun:={ ir147 with heap:=41 }
def tx152:AFun:=⟨22,42,[.tmp 4],
 (.seq
 (.reg [] [oo 4 (.mov (.cst (.nils 1)))])
 (.seq
 (.reg [] [oo 5 (.mov (.cst (.nils 1)))])
 (.seq
 (.seq
 (.reg [] [oo 8 (.mov (ot 0)),
 oo 9 (.len (ot 8)),
 oo 10 (.mov (.cst (.d (.int .i64 0))))])
 (.post [5] [0,1]
 (.block 0
 (.asrow 1 9 1 5
 (.keep [1,5,8,9,10] []
 (.loop
 (.post [1,5,8,9,10] [0,1]
 (.seq
 (.reg [] [oo 11 (.cmp .lss (ot 10) (ot 9))])
 (.seq
 (.cond (ot 11)
 .skip
 (.exit 0))
 (.seq
 (.block 1
 (.seq
 (.reg [] [oo 12 (.ixa 1 (ot 8) (ot 10)),
 oo 13 (.ld false 1 (ot 12)),
 oo 7 (.mov (ot 13))])
 (.reg [0,1] [oo 14 (.mov (ot 5)),
 oo 15 (.mov (ot 1)),
 oo 16 (.mov (ot 7)),
 oo 17 (.callv (ot 15) [(ot 16)]),
 oo 18 (.bsl 0 9 1 1 [(.str [])] [(0,(ot 17))]),
 oo 19 (.app 1 9 1 16 (ot 14) (ot 18)),
 oo 5 (.mov (ot 19))])))
 (.reg [] [oo 20 (.arith .add .i64 (ot 10) (.cst (.d (.int .i64 1)))),
 oo 10 (.mov (ot 20))])))))))))))
 (.seq
 (.reg [] [oo 21 (.mov (ot 5)),
 oo 4 (.mov (ot 21))])
 .ret))))⟩
def tx153:AFun:=⟨5,40,[.tmp 2],
 (.seq
 (.reg [] [oo 2 (.mov (.cst (.d (.str []))))])
 (.seq
 (.reg [] [oo 3 (.mov (ot 0)),
 oo 4 (.call 171 [(ot 3)]),
 oo 2 (.mov (ot 4))])
 .ret))⟩
def tx154:AFun:=⟨22,42,[.tmp 4],
 (.seq
 (.reg [] [oo 4 (.mov (.cst (.nils 1)))])
 (.seq
 (.reg [] [oo 5 (.mov (.cst (.nils 1)))])
 (.seq
 (.seq
 (.reg [] [oo 8 (.mov (ot 0)),
 oo 9 (.len (ot 8)),
 oo 10 (.mov (.cst (.d (.int .i64 0))))])
 (.post [5] [0,1]
 (.block 0
 (.asrow 1 3 1 5
 (.keep [1,5,8,9,10] []
 (.loop
 (.post [1,5,8,9,10] [0,1]
 (.seq
 (.reg [] [oo 11 (.cmp .lss (ot 10) (ot 9))])
 (.seq
 (.cond (ot 11)
 .skip
 (.exit 0))
 (.seq
 (.block 1
 (.seq
 (.reg [] [oo 12 (.ixa 1 (ot 8) (ot 10)),
 oo 13 (.ld false 1 (ot 12)),
 oo 7 (.mov (ot 13))])
 (.reg [0,1] [oo 14 (.mov (ot 5)),
 oo 15 (.mov (ot 1)),
 oo 16 (.mov (ot 7)),
 oo 17 (.callv (ot 15) [(ot 16)]),
 oo 18 (.bsl 0 3 1 1 [(.int .i64 0)] [(0,(ot 17))]),
 oo 19 (.app 1 3 1 8 (ot 14) (ot 18)),
 oo 5 (.mov (ot 19))])))
 (.reg [] [oo 20 (.arith .add .i64 (ot 10) (.cst (.d (.int .i64 1)))),
 oo 10 (.mov (ot 20))])))))))))))
 (.seq
 (.reg [] [oo 21 (.mov (ot 5)),
 oo 4 (.mov (ot 21))])
 .ret))))⟩
def tx155:AFun:=⟨5,40,[.tmp 2],
 (.seq
 (.reg [] [oo 2 (.mov (.cst (.d (.int .i64 0))))])
 (.seq
 (.reg [] [oo 3 (.mov (ot 0)),
 oo 4 (.conv .i64 (ot 3)),
 oo 2 (.mov (ot 4))])
 .ret))⟩
def tx161:AFun:=⟨134,40,[],
 (.seq
 (.reg [] [oo 8 (.mov (.cst (.d (.bool true))))])
 (.seq
 (.reg [] [oo 9 (.mov (.cst (.d (.bool true))))])
 (.post [] []
 (.block 0
 (.keep [0,1,2,3,8,9] []
 (.loop
 (.post [0,1,2,3,8,9] []
 (.block 1
 (.seq
 (.reg [] [oo 19 (.mov (ot 2)),
 oo 20 (.mov (ot 1)),
 oo 21 (.arith .sub .i64 (ot 19) (ot 20)),
 oo 10 (.mov (ot 21))])
 (.seq
 (.seq
 (.reg [] [oo 22 (.mov (ot 10)),
 oo 23 (.cmp .leq (ot 22) (.cst (.d (.int .i64 12))))])
 (.cond (ot 23)
 (.seq
 (.reg [] [oo 24 (.mov (ot 0)),
 oo 25 (.mov (ot 1)),
 oo 26 (.mov (ot 2)),
 oo 27 (.calli 177 [(ot 24),(ot 25),(ot 26)])])
 .ret)
 .skip))
 (.seq
 (.seq
 (.reg [] [oo 28 (.mov (ot 3)),
 oo 29 (.cmp .eql (ot 28) (.cst (.d (.int .i64 0))))])
 (.cond (ot 29)
 (.seq
 (.reg [] [oo 30 (.mov (ot 0)),
 oo 31 (.mov (ot 1)),
 oo 32 (.mov (ot 2)),
 oo 33 (.calli 178 [(ot 30),(ot 31),(ot 32)])])
 .ret)
 .skip))
 (.seq
 (.seq
 (.reg [] [oo 34 (.mov (ot 8)),
 oo 35 (.not (ot 34))])
 (.cond (ot 35)
 (.seq
 (.reg [] [oo 36 (.mov (ot 0)),
 oo 37 (.mov (ot 1)),
 oo 38 (.mov (ot 2)),
 oo 39 (.calli 179 [(ot 36),(ot 37),(ot 38)])])
 (.reg [] [oo 40 (.mov (ot 3)),
 oo 41 (.arith .sub .i64 (ot 40) (.cst (.d (.int .i64 1)))),
 oo 3 (.mov (ot 41))]))
 .skip))
 (.seq
 (.reg [] [oo 43 (.mov (ot 0)),
 oo 44 (.mov (ot 1)),
 oo 45 (.mov (ot 2)),
 oo 46 (.calli 180 [(ot 43),(ot 44),(ot 45)]),
 oo 42 (.mov (ot 46)),
 oo 47 (.ext 0 (ot 42)),
 oo 48 (.ext 1 (ot 42)),
 oo 11 (.mov (ot 47)),
 oo 12 (.mov (ot 48))])
 (.seq
 (.seq
 (.reg [] [oo 49 (.mov (ot 12)),
 oo 50 (.cmp .eql (ot 49) (.cst (.d (.int .i64 2))))])
 (.cond (ot 50)
 (.seq
 (.reg [] [oo 51 (.mov (ot 0)),
 oo 52 (.mov (ot 1)),
 oo 53 (.mov (ot 2)),
 oo 54 (.calli 181 [(ot 51),(ot 52),(ot 53)])])
 (.seq
 (.reg [] [oo 55 (.mov (ot 2)),
 oo 56 (.arith .sub .i64 (ot 55) (.cst (.d (.int .i64 1)))),
 oo 57 (.mov (ot 11)),
 oo 58 (.mov (ot 1)),
 oo 59 (.arith .sub .i64 (ot 57) (ot 58)),
 oo 60 (.arith .sub .i64 (ot 56) (ot 59)),
 oo 11 (.mov (ot 60))])
 (.reg [] [oo 12 (.mov (.cst (.d (.int .i64 1))))])))
 .skip))
 (.seq
 (.seq
 (.reg [] [oo 61 (.mov (ot 8)),
 oo 62 (.mov (ot 61)),
 ⟨some 63,.mov (ot 9),some (62,true)⟩,
 oo 64 (.pick (ot 62) (ot 63) (.cst (.d (.bool false)))),
 oo 65 (.mov (ot 64)),
 ⟨some 66,.mov (ot 12),some (65,true)⟩,
 ⟨some 67,.cmp .eql (ot 66) (.cst (.d (.int .i64 1))),some (65,true)⟩,
 oo 68 (.pick (ot 65) (ot 67) (.cst (.d (.bool false))))])
 (.cond (ot 68)
 (.seq
 (.reg [] [oo 69 (.mov (ot 0)),
 oo 70 (.mov (ot 1)),
 oo 71 (.mov (ot 2)),
 oo 72 (.calli 182 [(ot 69),(ot 70),(ot 71)])])
 (.cond (ot 72)
 .ret
 .skip))
 .skip))
 (.seq
 (.seq
 (.regd [] [oo 73 (.mov (ot 1)),
 oo 74 (.cmp .gtr (ot 73) (.cst (.d (.int .i64 0)))),
 oo 75 (.mov (ot 74)),
 ⟨some 76,.mov (ot 0),some (75,true)⟩,
 ⟨some 77,.mov (ot 1),some (75,true)⟩,
 ⟨some 78,.arith .sub .i64 (ot 77) (.cst (.d (.int .i64 1))),some (75,true)⟩,
 ⟨some 79,.ixa 1 (ot 76) (ot 78),some (75,true)⟩,
 ⟨some 80,.ld false 1 (ot 79),some (75,true)⟩,
 ⟨some 81,.mov (ot 0),some (75,true)⟩,
 ⟨some 82,.mov (ot 11),some (75,true)⟩,
 ⟨some 83,.ixa 1 (ot 81) (ot 82),some (75,true)⟩,
 ⟨some 84,.ld false 1 (ot 83),some (75,true)⟩,
 ⟨some 85,.call 183 [(ot 80),(ot 84)],some (75,true)⟩,
 ⟨some 86,.not (ot 85),some (75,true)⟩,
 oo 87 (.pick (ot 75) (ot 86) (.cst (.d (.bool false))))] [(3,4),(3,5),(3,8),(4,8),(5,8),(6,8),(7,8),(3,9),(4,9),(5,9),(6,9),(7,9),(8,9),(3,10),(4,10),(5,10),(6,10),(7,10),(3,11),(4,11),(5,11),(6,11),(7,11)])
 (.cond (ot 87)
 (.seq
 (.reg [] [oo 88 (.mov (ot 0)),
 oo 89 (.mov (ot 1)),
 oo 90 (.mov (ot 2)),
 oo 91 (.mov (ot 11)),
 oo 92 (.calli 184 [(ot 88),(ot 89),(ot 90),(ot 91)]),
 oo 13 (.mov (ot 92))])
 (.seq
 (.reg [] [oo 93 (.mov (ot 13)),
 oo 1 (.mov (ot 93))])
 (.exit 1)))
 .skip))
 (.seq
 (.reg [] [oo 95 (.mov (ot 0)),
 oo 96 (.mov (ot 1)),
 oo 97 (.mov (ot 2)),
 oo 98 (.mov (ot 11)),
 oo 99 (.calli 185 [(ot 95),(ot 96),(ot 97),(ot 98)]),
 oo 94 (.mov (ot 99)),
 oo 100 (.ext 0 (ot 94)),
 oo 101 (.ext 1 (ot 94)),
 oo 14 (.mov (ot 100)),
 oo 15 (.mov (ot 101))])
 (.seq
 (.reg [] [oo 102 (.mov (ot 15)),
 oo 9 (.mov (ot 102))])
 (.seq
 (.reg [] [oo 103 (.mov (ot 14)),
 oo 104 (.mov (ot 1)),
 oo 105 (.arith .sub .i64 (ot 103) (ot 104)),
 oo 106 (.mov (ot 2)),
 oo 107 (.mov (ot 14)),
 oo 108 (.arith .sub .i64 (ot 106) (ot 107)),
 oo 16 (.mov (ot 105)),
 oo 17 (.mov (ot 108))])
 (.seq
 (.reg [] [oo 109 (.mov (ot 10)),
 oo 110 (.arith .quo .i64 (ot 109) (.cst (.d (.int .i64 8)))),
 oo 18 (.mov (ot 110))])
 (.seq
 (.reg [] [oo 111 (.mov (ot 16)),
 oo 112 (.mov (ot 17)),
 oo 113 (.cmp .lss (ot 111) (ot 112))])
 (.cond (ot 113)
 (.seq
 (.reg [] [oo 114 (.mov (ot 16)),
 oo 115 (.mov (ot 18)),
 oo 116 (.cmp .geq (ot 114) (ot 115)),
 oo 8 (.mov (ot 116))])
 (.seq
 (.reg [] [oo 117 (.mov (ot 0)),
 oo 118 (.mov (ot 1)),
 oo 119 (.mov (ot 14)),
 oo 120 (.mov (ot 3)),
 oo 121 (.calli 161 [(ot 117),(ot 118),(ot 119),(ot 120)])])
 (.reg [] [oo 122 (.mov (ot 14)),
 oo 123 (.arith .add .i64 (ot 122) (.cst (.d (.int .i64 1)))),
 oo 1 (.mov (ot 123))])))
 (.seq
 (.reg [] [oo 124 (.mov (ot 17)),
 oo 125 (.mov (ot 18)),
 oo 126 (.cmp .geq (ot 124) (ot 125)),
 oo 8 (.mov (ot 126))])
 (.seq
 (.reg [] [oo 127 (.mov (ot 0)),
 oo 128 (.mov (ot 14)),
 oo 129 (.arith .add .i64 (ot 128) (.cst (.d (.int .i64 1)))),
 oo 130 (.mov (ot 2)),
 oo 131 (.mov (ot 3)),
 oo 132 (.calli 161 [(ot 127),(ot 129),(ot 130),(ot 131)])])
 (.reg [] [oo 133 (.mov (ot 14)),
 oo 2 (.mov (ot 133))])))))))))))))))))))))))))⟩
def tx162:AFun:=⟨8,40,[.tmp 2],
 (.seq
 (.reg [] [oo 2 (.mov (.cst (.d (.int .i64 0))))])
 (.seq
 (.cond (.cst (.d (.bool false)))
 (.seq
 (.reg [] [oo 3 (.mov (ot 0)),
 oo 4 (.conv .u32 (ot 3)),
 oo 5 (.call 186 [(ot 4)]),
 oo 2 (.mov (ot 5))])
 .ret)
 .skip)
 (.seq
 (.reg [] [oo 6 (.mov (ot 0)),
 oo 7 (.call 187 [(ot 6)]),
 oo 2 (.mov (ot 7))])
 .ret)))⟩
def tx163:AFun:=⟨40,42,[.cell 4 8 true],
 (.seq
 (.reg [0,1] [oo 2 (.box 0 8 (ot 0)),
 oo 4 (.alloc 1 [(.d (.int .u8 0)),(.d (.int .u8 0)),(.d (.int .u8 0)),(.d (.int .u8 0)),(.d (.int .u8 0)),(.d (.int .u8 0)),(.d (.int .u8 0)),(.d (.int .u8 0))])])
 (.seq
 (.seq
 (.reg [] [oo 9 (.mov (.cst (.d (.int .i64 0))))])
 (.post [2,4] [0,1]
 (.block 0
 (.keep [1,2,4,9] [0,1]
 (.loop
 (.post [1,2,4,9] []
 (.seq
 (.reg [] [oo 10 (.cmp .lss (ot 9) (.cst (.d (.int .i64 8))))])
 (.seq
 (.cond (ot 10)
 .skip
 (.exit 0))
 (.seq
 (.block 1
 (.seq
 (.reg [] [oo 11 (.mov (ot 9)),
 oo 5 (.mov (ot 11))])
 (.seq
 (.reg [] [oo 12 (.mov (ot 5)),
 oo 13 (.ixp 8 1 (ot 2) (ot 12)),
 oo 14 (.ld false 1 (ot 13)),
 oo 15 (.conv .i64 (ot 14)),
 oo 6 (.mov (ot 15))])
 (.seq
 (.seq
 (.reg [] [oo 16 (.mov (ot 1)),
 oo 17 (.len (ot 16)),
 oo 18 (.mov (.cst (.d (.int .i64 0))))])
 (.post [1,2,4,5,6,9] [0,1]
 (.block 2
 (.keep [1,2,4,5,6,9,16,17,18] [0,1]
 (.loop
 (.post [1,2,4,5,6,9,16,17,18] []
 (.seq
 (.reg [] [oo 19 (.cmp .lss (ot 18) (ot 17))])
 (.seq
 (.cond (ot 19)
 .skip
 (.exit 2))
 (.seq
 (.block 3
 (.seq
 (.reg [] [oo 20 (.ixa 1 (ot 16) (ot 18)),
 oo 21 (.ld false 1 (ot 20)),
 oo 8 (.mov (ot 21))])
 (.reg [] [oo 22 (.mov (ot 5)),
 oo 23 (.arith .mul .i64 (.cst (.d (.int .i64 2))) (ot 22)),
 oo 24 (.arith .add .i64 (ot 23) (.cst (.d (.int .i64 3)))),
 oo 25 (.mov (ot 6)),
 oo 26 (.arith .mul .i64 (ot 24) (ot 25)),
 oo 27 (.mov (ot 8)),
 oo 28 (.conv .i64 (ot 27)),
 oo 29 (.arith .add .i64 (ot 26) (ot 28)),
 oo 30 (.mov (ot 5)),
 oo 31 (.arith .add .i64 (ot 29) (ot 30)),
 oo 32 (.arith .rem .i64 (ot 31) (.cst (.d (.int .i64 256)))),
 oo 6 (.mov (ot 32))])))
 (.reg [] [oo 33 (.arith .add .i64 (ot 18) (.cst (.d (.int .i64 1)))),
 oo 18 (.mov (ot 33))]))))))))))
 (.reg [] [oo 34 (.mov (ot 5)),
 oo 35 (.mov (ot 6)),
 oo 36 (.conv .u8 (ot 35)),
 oo 37 (.ixp 8 1 (ot 2) (ot 34)),
 ⟨none,.st 1 (ot 37) (ot 36),none⟩])))))
 (.reg [] [oo 38 (.arith .add .i64 (ot 9) (.cst (.d (.int .i64 1)))),
 oo 9 (.mov (ot 38))]))))))))))
 (.seq
 (.reg [] [oo 39 (.ld true 8 (ot 2)),
 ⟨none,.st 8 (ot 4) (ot 39),none⟩])
 .ret)))⟩
def tx164:AFun:=⟨25,40,[],
 (.seq
 (.reg [] [oo 6 (.ld false 1 (ot 1)),
 oo 4 (.mov (ot 6)),
 oo 5 (.mov (.cst (.d (.bool true))))])
 (.post [] []
 (.block 0
 (.keep [0,1,2,4,5] []
 (.loop
 (.post [0,1,2,4,5] []
 (.seq
 (.seq
 (.reg [] [oo 7 (.mov (ot 5)),
 oo 8 (.mov (ot 7)),
 ⟨some 9,.mov (ot 4),some (8,true)⟩,
 ⟨some 10,.ld false 1 (ot 1),some (8,true)⟩,
 ⟨some 11,.arith .add .i64 (ot 10) (.cst (.d (.int .i64 691200))),some (8,true)⟩,
 ⟨some 12,.mini (.cst (.d (.int .i64 100000000))) (ot 11),some (8,true)⟩,
 ⟨some 13,.cmp .leq (ot 9) (ot 12),some (8,true)⟩,
 oo 14 (.pick (ot 8) (ot 13) (.cst (.d (.bool false))))])
 (.cond (ot 14)
 .skip
 (.exit 0)))
 (.block 1
 (.seq
 (.seq
 (.reg [] [oo 15 (.mov (ot 0)),
 oo 16 (.mov (ot 4)),
 oo 17 (.callv (ot 15) [(ot 16)]),
 oo 18 (.not (ot 17))])
 (.cond (ot 18)
 .ret
 .skip))
 (.reg [] [oo 20 (.ld false 1 (ot 2)),
 oo 21 (.mov (ot 4)),
 oo 22 (.call 113 [(ot 20),(ot 21)]),
 oo 19 (.mov (ot 22)),
 oo 23 (.ext 0 (ot 19)),
 oo 24 (.ext 1 (ot 19)),
 oo 4 (.mov (ot 23)),
 oo 5 (.mov (ot 24))]))))))))))⟩
def tx165:AFun:=⟨7,41,[.tmp 2],
 (.seq
 (.reg [0] [oo 1 (.cbx 0 6 (ot 0)),
 oo 2 (.mov (.cst (.d (.bool false))))])
 (.seq
 (.reg [] [oo 3 (.fad 0 (ot 1)),
 oo 4 (.fad 0 (ot 3)),
 oo 5 (.ld false 1 (ot 4)),
 oo 6 (.not (ot 5)),
 oo 2 (.mov (ot 6))])
 .ret))⟩
def tx166:AFun:=⟨14,41,[.tmp 2],
 (.seq
 (.reg [0] [oo 1 (.cbx 0 6 (ot 0)),
 oo 2 (.mov (.cst (.d (.bool false))))])
 (.seq
 (.reg [] [oo 6 (.fad 3 (ot 1)),
 oo 7 (.ld false 1 (ot 6)),
 oo 8 (.fad 4 (ot 1)),
 oo 9 (.ld false 1 (ot 8)),
 oo 10 (.call 113 [(ot 7),(ot 9)]),
 oo 5 (.mov (ot 10)),
 oo 11 (.ext 0 (ot 5)),
 oo 12 (.ext 1 (ot 5)),
 oo 3 (.mov (ot 11)),
 oo 4 (.mov (ot 12))])
 (.seq
 (.reg [] [oo 13 (.mov (ot 4)),
 oo 2 (.mov (ot 13))])
 .ret)))⟩
def tx167:AFun:=⟨24,42,[.tmp 2],
 (.seq
 (.reg [0] [oo 1 (.cbx 0 6 (ot 0)),
 oo 2 (.mov (.cst (.d (.bool false))))])
 (.seq
 (.reg [] [oo 3 (.mov (.cst (.d (.fn (.func 188) []))))])
 (.seq
 (.reg [] [oo 4 (.mov (.cst (.d (.int .i64 0))))])
 (.seq
 (.seq
 (.reg [] [oo 7 (.fad 0 (ot 1)),
 oo 8 (.fad 2 (ot 7)),
 oo 9 (.ld false 1 (ot 8)),
 oo 10 (.len (ot 9)),
 oo 11 (.mov (.cst (.d (.int .i64 0))))])
 (.post [4] [0,1]
 (.block 0
 (.keep [1,3,4,9,10,11] [0]
 (.loop
 (.post [1,3,4,9,10,11] [1]
 (.seq
 (.reg [] [oo 12 (.cmp .lss (ot 11) (ot 10))])
 (.seq
 (.cond (ot 12)
 .skip
 (.exit 0))
 (.seq
 (.block 1
 (.seq
 (.reg [1] [oo 13 (.ixa 2 (ot 9) (ot 11)),
 oo 14 (.ld true 2 (ot 13)),
 oo 6 (.alloc 1 [(.d (.str [])),(.d (.int .i64 0))]),
 ⟨none,.st 2 (ot 6) (ot 14),none⟩])
 (.seq
 (.reg [] [oo 15 (.mov (ot 3)),
 oo 16 (.ld true 2 (ot 6)),
 oo 17 (.ld true 6 (ot 1)),
 oo 18 (.callv (ot 15) [(ot 16),(ot 17)])])
 (.cond (ot 18)
 (.reg [] [oo 19 (.mov (ot 4)),
 oo 20 (.arith .add .i64 (ot 19) (.cst (.d (.int .i64 1)))),
 oo 4 (.mov (ot 20))])
 .skip))))
 (.reg [] [oo 21 (.arith .add .i64 (ot 11) (.cst (.d (.int .i64 1)))),
 oo 11 (.mov (ot 21))]))))))))))
 (.seq
 (.reg [] [oo 22 (.mov (ot 4)),
 oo 23 (.cmp .lss (ot 22) (.cst (.d (.int .i64 2)))),
 oo 2 (.mov (ot 23))])
 .ret)))))⟩
def tx171:AFun:=⟨5,40,[.tmp 2],
 (.seq
 (.reg [] [oo 2 (.mov (.cst (.d (.str []))))])
 (.seq
 (.reg [] [oo 3 (.mov (ot 0)),
 oo 4 (.call 190 [(ot 3),(.cst (.d (.int .i64 10)))]),
 oo 2 (.mov (ot 4))])
 .ret))⟩
def tx177:AFun:=⟨49,40,[],
 (.seq
 (.reg [] [oo 8 (.mov (ot 1)),
 oo 9 (.arith .add .i64 (ot 8) (.cst (.d (.int .i64 1)))),
 oo 6 (.mov (ot 9))])
 (.post [] []
 (.block 0
 (.keep [0,1,2,6] []
 (.loop
 (.post [0,1,2,6] []
 (.seq
 (.seq
 (.reg [] [oo 10 (.mov (ot 6)),
 oo 11 (.mov (ot 2)),
 oo 12 (.cmp .lss (ot 10) (ot 11))])
 (.cond (ot 12)
 .skip
 (.exit 0)))
 (.seq
 (.block 1
 (.seq
 (.reg [] [oo 15 (.mov (ot 6)),
 oo 7 (.mov (ot 15))])
 (.post [0,1,2,6] []
 (.block 2
 (.keep [0,1,2,6,7] []
 (.loop
 (.post [0,1,2,6,7] []
 (.seq
 (.seq
 (.regd [] [oo 16 (.mov (ot 7)),
 oo 17 (.mov (ot 1)),
 oo 18 (.cmp .gtr (ot 16) (ot 17)),
 oo 19 (.mov (ot 18)),
 ⟨some 20,.mov (ot 0),some (19,true)⟩,
 ⟨some 21,.mov (ot 7),some (19,true)⟩,
 ⟨some 22,.ixa 1 (ot 20) (ot 21),some (19,true)⟩,
 ⟨some 23,.ld false 1 (ot 22),some (19,true)⟩,
 ⟨some 24,.mov (ot 0),some (19,true)⟩,
 ⟨some 25,.mov (ot 7),some (19,true)⟩,
 ⟨some 26,.arith .sub .i64 (ot 25) (.cst (.d (.int .i64 1))),some (19,true)⟩,
 ⟨some 27,.ixa 1 (ot 24) (ot 26),some (19,true)⟩,
 ⟨some 28,.ld false 1 (ot 27),some (19,true)⟩,
 ⟨some 29,.call 183 [(ot 23),(ot 28)],some (19,true)⟩,
 oo 30 (.pick (ot 19) (ot 29) (.cst (.d (.bool false))))] [(0,1),(4,5),(4,8),(5,8),(6,8),(7,8),(4,9),(5,9),(6,9),(7,9),(8,9),(4,10),(5,10),(6,10),(7,10),(8,10),(4,11),(5,11),(6,11),(7,11),(4,12),(5,12),(6,12),(7,12)])
 (.cond (ot 30)
 .skip
 (.exit 2)))
 (.seq
 (.block 3
 (.regd [] [oo 33 (.mov (ot 0)),
 oo 34 (.mov (ot 7)),
 oo 35 (.mov (ot 0)),
 oo 36 (.mov (ot 7)),
 oo 37 (.arith .sub .i64 (ot 36) (.cst (.d (.int .i64 1)))),
 oo 38 (.mov (ot 0)),
 oo 39 (.mov (ot 7)),
 oo 40 (.arith .sub .i64 (ot 39) (.cst (.d (.int .i64 1)))),
 oo 41 (.ixa 1 (ot 38) (ot 40)),
 oo 42 (.ld false 1 (ot 41)),
 oo 43 (.mov (ot 0)),
 oo 44 (.mov (ot 7)),
 oo 45 (.ixa 1 (ot 43) (ot 44)),
 oo 46 (.ld false 1 (ot 45)),
 oo 47 (.ixa 1 (ot 33) (ot 34)),
 ⟨none,.st 1 (ot 47) (ot 42),none⟩,
 oo 48 (.ixa 1 (ot 35) (ot 37)),
 ⟨none,.st 1 (ot 48) (ot 46),none⟩] [(0,1),(0,2),(1,2),(0,3),(1,3),(2,3),(0,4),(1,4),(2,4),(0,5),(1,5),(2,5),(3,5),(4,5),(0,6),(1,6),(2,6),(3,6),(4,6),(5,6),(0,7),(1,7),(2,7),(3,7),(4,7),(5,7),(0,8),(1,8),(2,8),(3,8),(4,8),(0,9),(1,9),(2,9),(3,9),(4,9),(0,10),(1,10),(2,10),(3,10),(4,10),(5,10),(6,10),(7,10),(8,10),(9,10),(0,11),(1,11),(2,11),(3,11),(4,11),(5,11),(6,11),(7,11),(8,11),(9,11),(10,11),(0,12),(1,12),(2,12),(3,12),(4,12),(5,12),(6,12),(7,12),(8,12),(9,12),(0,13),(1,13),(2,13),(3,13),(4,13),(5,13),(6,13),(7,13),(8,13),(9,13),(2,14),(3,14),(4,14),(2,15),(3,15),(4,15)]))
 (.reg [] [oo 31 (.mov (ot 7)),
 oo 32 (.arith .sub .i64 (ot 31) (.cst (.d (.int .i64 1)))),
 oo 7 (.mov (ot 32))]))))))))))
 (.reg [] [oo 13 (.mov (ot 6)),
 oo 14 (.arith .add .i64 (ot 13) (.cst (.d (.int .i64 1)))),
 oo 6 (.mov (ot 14))])))))))))⟩
def tx183:AFun:=⟨17,40,[.tmp 4],
 (.seq
 (.reg [] [oo 4 (.mov (.cst (.d (.bool false))))])
 (.seq
 (.reg [] [oo 5 (.mov (ot 0)),
 oo 6 (.call 202 [(ot 5)]),
 oo 7 (.mov (ot 6)),
 ⟨some 8,.mov (ot 1),some (7,true)⟩,
 ⟨some 9,.call 202 [(ot 8)],some (7,true)⟩,
 ⟨some 10,.not (ot 9),some (7,true)⟩,
 oo 11 (.pick (ot 7) (ot 10) (.cst (.d (.bool false)))),
 oo 12 (.mov (ot 11)),
 ⟨some 13,.mov (ot 0),some (12,false)⟩,
 ⟨some 14,.mov (ot 1),some (12,false)⟩,
 ⟨some 15,.cmp .lss (ot 13) (ot 14),some (12,false)⟩,
 oo 16 (.pick (ot 12) (.cst (.d (.bool true))) (ot 15)),
 oo 4 (.mov (ot 16))])
 .ret))⟩
def tx186:AFun:=⟨19,40,[.tmp 2],
 (.seq
 (.reg [] [oo 2 (.mov (.cst (.d (.int .i64 0))))])
 (.seq
 (.seq
 (.reg [] [oo 3 (.mov (ot 0)),
 oo 4 (.cmp .geq (ot 3) (.cst (.d (.int .u32 65536))))])
 (.cond (ot 4)
 (.seq
 (.reg [] [oo 5 (.mov (ot 0)),
 oo 6 (.shf .shr .u32 (ot 5) (.cst (.d (.int .u64 16)))),
 oo 0 (.mov (ot 6))])
 (.reg [] [oo 2 (.mov (.cst (.d (.int .i64 16))))]))
 .skip))
 (.seq
 (.seq
 (.reg [] [oo 7 (.mov (ot 0)),
 oo 8 (.cmp .geq (ot 7) (.cst (.d (.int .u32 256))))])
 (.cond (ot 8)
 (.seq
 (.reg [] [oo 9 (.mov (ot 0)),
 oo 10 (.shf .shr .u32 (ot 9) (.cst (.d (.int .u64 8)))),
 oo 0 (.mov (ot 10))])
 (.reg [] [oo 11 (.mov (ot 2)),
 oo 12 (.arith .add .i64 (ot 11) (.cst (.d (.int .i64 8)))),
 oo 2 (.mov (ot 12))]))
 .skip))
 (.seq
 (.reg [] [oo 13 (.mov (ot 2)),
 oo 14 (.mov (ot 0)),
 oo 15 (.conv .u8 (ot 14)),
 oo 16 (.ixs (.cst (.d (.str [0,1,2,2,3,3,3,3,4,4,4,4,4,4,4,4,5,5,5,5,5,5,5,5,5,5,5,5,5,5,5,5,6,6,6,6,6,6,6,6,6,6,6,6,6,6,6,6,6,6,6,6,6,6,6,6,6,6,6,6,6,6,6,6,7,7,7,7,7,7,7,7,7,7,7,7,7,7,7,7,7,7,7,7,7,7,7,7,7,7,7,7,7,7,7,7,7,7,7,7,7,7,7,7,7,7,7,7,7,7,7,7,7,7,7,7,7,7,7,7,7,7,7,7,7,7,7,7,8,8,8,8,8,8,8,8,8,8,8,8,8,8,8,8,8,8,8,8,8,8,8,8,8,8,8,8,8,8,8,8,8,8,8,8,8,8,8,8,8,8,8,8,8,8,8,8,8,8,8,8,8,8,8,8,8,8,8,8,8,8,8,8,8,8,8,8,8,8,8,8,8,8,8,8,8,8,8,8,8,8,8,8,8,8,8,8,8,8,8,8,8,8,8,8,8,8,8,8,8,8,8,8,8,8,8,8,8,8,8,8,8,8,8,8,8,8,8,8,8,8,8,8,8,8,8,8]))) (ot 15)),
 oo 17 (.conv .i64 (ot 16)),
 oo 18 (.arith .add .i64 (ot 13) (ot 17)),
 oo 2 (.mov (ot 18))])
 .ret))))⟩
def tx187:AFun:=⟨25,40,[.tmp 2],
 (.seq
 (.reg [] [oo 2 (.mov (.cst (.d (.int .i64 0))))])
 (.seq
 (.seq
 (.reg [] [oo 3 (.mov (ot 0)),
 oo 4 (.cmp .geq (ot 3) (.cst (.d (.int .u64 4294967296))))])
 (.cond (ot 4)
 (.seq
 (.reg [] [oo 5 (.mov (ot 0)),
 oo 6 (.shf .shr .u64 (ot 5) (.cst (.d (.int .u64 32)))),
 oo 0 (.mov (ot 6))])
 (.reg [] [oo 2 (.mov (.cst (.d (.int .i64 32))))]))
 .skip))
 (.seq
 (.seq
 (.reg [] [oo 7 (.mov (ot 0)),
 oo 8 (.cmp .geq (ot 7) (.cst (.d (.int .u64 65536))))])
 (.cond (ot 8)
 (.seq
 (.reg [] [oo 9 (.mov (ot 0)),
 oo 10 (.shf .shr .u64 (ot 9) (.cst (.d (.int .u64 16)))),
 oo 0 (.mov (ot 10))])
 (.reg [] [oo 11 (.mov (ot 2)),
 oo 12 (.arith .add .i64 (ot 11) (.cst (.d (.int .i64 16)))),
 oo 2 (.mov (ot 12))]))
 .skip))
 (.seq
 (.seq
 (.reg [] [oo 13 (.mov (ot 0)),
 oo 14 (.cmp .geq (ot 13) (.cst (.d (.int .u64 256))))])
 (.cond (ot 14)
 (.seq
 (.reg [] [oo 15 (.mov (ot 0)),
 oo 16 (.shf .shr .u64 (ot 15) (.cst (.d (.int .u64 8)))),
 oo 0 (.mov (ot 16))])
 (.reg [] [oo 17 (.mov (ot 2)),
 oo 18 (.arith .add .i64 (ot 17) (.cst (.d (.int .i64 8)))),
 oo 2 (.mov (ot 18))]))
 .skip))
 (.seq
 (.reg [] [oo 19 (.mov (ot 2)),
 oo 20 (.mov (ot 0)),
 oo 21 (.conv .u8 (ot 20)),
 oo 22 (.ixs (.cst (.d (.str [0,1,2,2,3,3,3,3,4,4,4,4,4,4,4,4,5,5,5,5,5,5,5,5,5,5,5,5,5,5,5,5,6,6,6,6,6,6,6,6,6,6,6,6,6,6,6,6,6,6,6,6,6,6,6,6,6,6,6,6,6,6,6,6,7,7,7,7,7,7,7,7,7,7,7,7,7,7,7,7,7,7,7,7,7,7,7,7,7,7,7,7,7,7,7,7,7,7,7,7,7,7,7,7,7,7,7,7,7,7,7,7,7,7,7,7,7,7,7,7,7,7,7,7,7,7,7,7,8,8,8,8,8,8,8,8,8,8,8,8,8,8,8,8,8,8,8,8,8,8,8,8,8,8,8,8,8,8,8,8,8,8,8,8,8,8,8,8,8,8,8,8,8,8,8,8,8,8,8,8,8,8,8,8,8,8,8,8,8,8,8,8,8,8,8,8,8,8,8,8,8,8,8,8,8,8,8,8,8,8,8,8,8,8,8,8,8,8,8,8,8,8,8,8,8,8,8,8,8,8,8,8,8,8,8,8,8,8,8,8,8,8,8,8,8,8,8,8,8,8,8,8,8,8,8,8]))) (ot 21)),
 oo 23 (.conv .i64 (ot 22)),
 oo 24 (.arith .add .i64 (ot 19) (ot 23)),
 oo 2 (.mov (ot 24))])
 .ret)))))⟩
def tx188:AFun:=⟨13,42,[.tmp 4],
 (.seq
 (.reg [0,1] [oo 2 (.cbx 0 2 (ot 0)),
 oo 3 (.cbx 1 6 (ot 1)),
 oo 4 (.mov (.cst (.d (.bool false))))])
 (.seq
 (.reg [] [oo 5 (.fad 4 (ot 3)),
 oo 6 (.ld false 1 (ot 5)),
 oo 7 (.fad 1 (ot 2)),
 oo 8 (.ld false 1 (ot 7)),
 oo 9 (.arith .sub .i64 (ot 6) (ot 8)),
 oo 10 (.fad 5 (ot 3)),
 oo 11 (.ld false 1 (ot 10)),
 oo 12 (.cmp .leq (ot 9) (ot 11)),
 oo 4 (.mov (ot 12))])
 .ret))⟩
def tx190:AFun:=⟨54,41,[.tmp 4],
 (.seq
 (.reg [] [oo 4 (.mov (.cst (.d (.str []))))])
 (.seq
 (.seq
 (.reg [] [oo 10 (.mov (ot 1)),
 oo 11 (.cmp .eql (ot 10) (.cst (.d (.int .i64 10))))])
 (.cond (ot 11)
 (.seq
 (.seq
 (.reg [] [oo 12 (.mov (ot 0)),
 oo 13 (.cmp .leq (.cst (.d (.int .i64 0))) (ot 12)),
 oo 14 (.mov (ot 13)),
 ⟨some 15,.mov (ot 0),some (14,true)⟩,
 ⟨some 16,.cmp .lss (ot 15) (.cst (.d (.int .i64 100))),some (14,true)⟩,
 oo 17 (.pick (ot 14) (ot 16) (.cst (.d (.bool false))))])
 (.cond (ot 17)
 (.seq
 (.reg [] [oo 18 (.mov (ot 0)),
 oo 19 (.call 204 [(ot 18)]),
 oo 4 (.mov (ot 19))])
 .ret)
 .skip))
 (.seq
 (.reg [0] [oo 5 (.alloc 0 [(.d (.int .u8 0)),(.d (.int .u8 0)),(.d (.int .u8 0)),(.d (.int .u8 0)),(.d (.int .u8 0)),(.d (.int .u8 0)),(.d (.int .u8 0)),(.d (.int .u8 0)),(.d (.int .u8 0)),(.d (.int .u8 0)),(.d (.int .u8 0)),(.d (.int .u8 0)),(.d (.int .u8 0)),(.d (.int .u8 0)),(.d (.int .u8 0)),(.d (.int .u8 0)),(.d (.int .u8 0)),(.d (.int .u8 0)),(.d (.int .u8 0)),(.d (.int .u8 0)),(.d (.int .u8 0)),(.d (.int .u8 0)),(.d (.int .u8 0)),(.d (.int .u8 0))])])
 (.seq
 (.reg [] [oo 20 (.mov (ot 0)),
 oo 21 (.conv .u64 (ot 20)),
 oo 6 (.mov (ot 21))])
 (.seq
 (.seq
 (.reg [] [oo 22 (.mov (ot 0)),
 oo 23 (.cmp .lss (ot 22) (.cst (.d (.int .i64 0))))])
 (.cond (ot 23)
 (.reg [] [oo 24 (.mov (ot 6)),
 oo 25 (.neg .u64 (ot 24)),
 oo 6 (.mov (ot 25))])
 .skip))
 (.seq
 (.reg [] [oo 26 (.mov (ot 6)),
 oo 27 (.call 205 [(ot 26)]),
 oo 7 (.mov (ot 27))])
 (.seq
 (.reg [] [oo 28 (.mov (ot 7)),
 oo 29 (.arith .add .i64 (.cst (.d (.int .i64 1))) (ot 28)),
 oo 30 (.slv 24 (ot 5) (some (.cst (.d (.int .i64 1)))) (some (ot 29))),
 oo 31 (.mov (ot 6)),
 oo 32 (.calli 206 [(ot 30),(ot 31)])])
 (.seq
 (.seq
 (.reg [] [oo 33 (.mov (ot 0)),
 oo 34 (.cmp .lss (ot 33) (.cst (.d (.int .i64 0))))])
 (.cond (ot 34)
 (.seq
 (.reg [] [oo 35 (.ixp 24 1 (ot 5) (.cst (.d (.int .i64 0)))),
 ⟨none,.st 1 (ot 35) (.cst (.d (.int .u8 45))),none⟩])
 (.seq
 (.asdat 5 (.reg [] [oo 36 (.mov (ot 7)),
 oo 37 (.arith .add .i64 (.cst (.d (.int .i64 1))) (ot 36)),
 oo 38 (.sla 24 (ot 5) none (some (ot 37))),
 oo 39 (.b2s (ot 38)),
 oo 4 (.mov (ot 39))]))
 .ret))
 .skip))
 (.seq
 (.asdat 5 (.reg [] [oo 40 (.mov (ot 7)),
 oo 41 (.arith .add .i64 (.cst (.d (.int .i64 1))) (ot 40)),
 oo 42 (.sla 24 (ot 5) (some (.cst (.d (.int .i64 1)))) (some (ot 41))),
 oo 43 (.b2s (ot 42)),
 oo 4 (.mov (ot 43))]))
 .ret))))))))
 .skip))
 (.seq
 (.reg [] [oo 45 (.mov (ot 0)),
 oo 46 (.conv .u64 (ot 45)),
 oo 47 (.mov (ot 1)),
 oo 48 (.mov (ot 0)),
 oo 49 (.cmp .lss (ot 48) (.cst (.d (.int .i64 0)))),
 oo 50 (.call 207 [(.cst (.nils 1)),(ot 46),(ot 47),(ot 49),(.cst (.d (.bool false)))]),
 oo 44 (.mov (ot 50)),
 oo 51 (.ext 0 (ot 44)),
 oo 52 (.ext 1 (ot 44)),
 oo 8 (.mov (ot 51)),
 oo 9 (.mov (ot 52))])
 (.seq
 (.reg [] [oo 53 (.mov (ot 9)),
 oo 4 (.mov (ot 53))])
 .ret))))⟩
def tx202:AFun:=⟨6,40,[.tmp 2],
 (.seq
 (.reg [] [oo 2 (.mov (.cst (.d (.bool false))))])
 (.seq
 (.reg [] [oo 3 (.mov (ot 0)),
 oo 4 (.mov (ot 0)),
 oo 5 (.cmp .neq (ot 3) (ot 4)),
 oo 2 (.mov (ot 5))])
 .ret))⟩
def tx204:AFun:=⟨15,40,[.tmp 2],
 (.seq
 (.reg [] [oo 2 (.mov (.cst (.d (.str []))))])
 (.seq
 (.seq
 (.reg [] [oo 3 (.mov (ot 0)),
 oo 4 (.cmp .lss (ot 3) (.cst (.d (.int .i64 10))))])
 (.cond (ot 4)
 (.seq
 (.reg [] [oo 5 (.mov (ot 0)),
 oo 6 (.mov (ot 0)),
 oo 7 (.arith .add .i64 (ot 6) (.cst (.d (.int .i64 1)))),
 oo 8 (.slcs (.cst (.d (.str [48,49,50,51,52,53,54,55,56,57,97,98,99,100,101,102,103,104,105,106,107,108,109,110,111,112,113,114,115,116,117,118,119,120,121,122]))) (some (ot 5)) (some (ot 7))),
 oo 2 (.mov (ot 8))])
 .ret)
 .skip))
 (.seq
 (.reg [] [oo 9 (.mov (ot 0)),
 oo 10 (.arith .mul .i64 (ot 9) (.cst (.d (.int .i64 2)))),
 oo 11 (.mov (ot 0)),
 oo 12 (.arith .mul .i64 (ot 11) (.cst (.d (.int .i64 2)))),
 oo 13 (.arith .add .i64 (ot 12) (.cst (.d (.int .i64 2)))),
 oo 14 (.slcs (.cst (.d (.str [48,48,48,49,48,50,48,51,48,52,48,53,48,54,48,55,48,56,48,57,49,48,49,49,49,50,49,51,49,52,49,53,49,54,49,55,49,56,49,57,50,48,50,49,50,50,50,51,50,52,50,53,50,54,50,55,50,56,50,57,51,48,51,49,51,50,51,51,51,52,51,53,51,54,51,55,51,56,51,57,52,48,52,49,52,50,52,51,52,52,52,53,52,54,52,55,52,56,52,57,53,48,53,49,53,50,53,51,53,52,53,53,53,54,53,55,53,56,53,57,54,48,54,49,54,50,54,51,54,52,54,53,54,54,54,55,54,56,54,57,55,48,55,49,55,50,55,51,55,52,55,53,55,54,55,55,55,56,55,57,56,48,56,49,56,50,56,51,56,52,56,53,56,54,56,55,56,56,56,57,57,48,57,49,57,50,57,51,57,52,57,53,57,54,57,55,57,56,57,57]))) (some (ot 10)) (some (ot 13))),
 oo 2 (.mov (ot 14))])
 .ret)))⟩
def tx205:AFun:=⟨15,40,[.tmp 2],
 (.seq
 (.reg [] [oo 2 (.mov (.cst (.d (.int .i64 0))))])
 (.seq
 (.reg [] [oo 4 (.mov (ot 0)),
 oo 5 (.call 187 [(ot 4)]),
 oo 6 (.call 215 [(ot 5)]),
 oo 3 (.mov (ot 6))])
 (.seq
 (.reg [] [oo 7 (.mov (ot 3)),
 oo 8 (.mov (ot 0)),
 oo 9 (.mov (ot 3)),
 oo 10 (.ixp 20 1 (.cst (.gp 1 0)) (ot 9)),
 oo 11 (.ld false 1 (ot 10)),
 oo 12 (.cmp .geq (ot 8) (ot 11)),
 oo 13 (.call 216 [(ot 12)]),
 oo 14 (.arith .add .i64 (ot 7) (ot 13)),
 oo 2 (.mov (ot 14))])
 .ret)))⟩
def tx206:AFun:=⟨167,40,[],
 (.seq
 (.reg [] [oo 17 (.mov (ot 0)),
 oo 18 (.len (ot 17)),
 oo 4 (.mov (ot 18))])
 (.seq
 (.post [0,1,4] []
 (.block 0
 (.keep [0,1,4] []
 (.loop
 (.post [0,1,4] []
 (.seq
 (.seq
 (.reg [] [oo 19 (.mov (ot 4)),
 oo 20 (.cmp .geq (ot 19) (.cst (.d (.int .i64 8))))])
 (.cond (ot 20)
 .skip
 (.exit 0)))
 (.block 1
 (.seq
 (.reg [] [oo 21 (.mov (ot 1)),
 oo 22 (.arith .rem .u64 (ot 21) (.cst (.d (.int .u64 100000000)))),
 oo 23 (.conv .u32 (ot 22)),
 oo 5 (.mov (ot 23))])
 (.seq
 (.reg [] [oo 24 (.mov (ot 1)),
 oo 25 (.arith .quo .u64 (ot 24) (.cst (.d (.int .u64 100000000)))),
 oo 1 (.mov (ot 25))])
 (.seq
 (.reg [] [oo 26 (.mov (ot 5)),
 oo 27 (.arith .quo .u32 (ot 26) (.cst (.d (.int .u32 10000)))),
 oo 28 (.mov (ot 5)),
 oo 29 (.arith .rem .u32 (ot 28) (.cst (.d (.int .u32 10000)))),
 oo 6 (.mov (ot 27)),
 oo 7 (.mov (ot 29))])
 (.seq
 (.reg [] [oo 30 (.mov (ot 7)),
 oo 31 (.arith .quo .u32 (ot 30) (.cst (.d (.int .u32 100)))),
 oo 32 (.arith .mul .u32 (ot 31) (.cst (.d (.int .u32 2)))),
 oo 33 (.mov (ot 7)),
 oo 34 (.arith .rem .u32 (ot 33) (.cst (.d (.int .u32 100)))),
 oo 35 (.arith .mul .u32 (ot 34) (.cst (.d (.int .u32 2)))),
 oo 8 (.mov (ot 32)),
 oo 9 (.mov (ot 35))])
 (.seq
 (.reg [] [oo 36 (.mov (ot 6)),
 oo 37 (.arith .quo .u32 (ot 36) (.cst (.d (.int .u32 100)))),
 oo 38 (.arith .mul .u32 (ot 37) (.cst (.d (.int .u32 2)))),
 oo 39 (.mov (ot 6)),
 oo 40 (.arith .rem .u32 (ot 39) (.cst (.d (.int .u32 100)))),
 oo 41 (.arith .mul .u32 (ot 40) (.cst (.d (.int .u32 2)))),
 oo 10 (.mov (ot 38)),
 oo 11 (.mov (ot 41))])
 (.seq
 (.regd [] [oo 42 (.mov (ot 0)),
 oo 43 (.mov (ot 4)),
 oo 44 (.arith .sub .i64 (ot 43) (.cst (.d (.int .i64 1)))),
 oo 45 (.mov (ot 0)),
 oo 46 (.mov (ot 4)),
 oo 47 (.arith .sub .i64 (ot 46) (.cst (.d (.int .i64 2)))),
 oo 48 (.mov (ot 9)),
 oo 49 (.arith .add .u32 (ot 48) (.cst (.d (.int .u32 1)))),
 oo 50 (.ixs (.cst (.d (.str [48,48,48,49,48,50,48,51,48,52,48,53,48,54,48,55,48,56,48,57,49,48,49,49,49,50,49,51,49,52,49,53,49,54,49,55,49,56,49,57,50,48,50,49,50,50,50,51,50,52,50,53,50,54,50,55,50,56,50,57,51,48,51,49,51,50,51,51,51,52,51,53,51,54,51,55,51,56,51,57,52,48,52,49,52,50,52,51,52,52,52,53,52,54,52,55,52,56,52,57,53,48,53,49,53,50,53,51,53,52,53,53,53,54,53,55,53,56,53,57,54,48,54,49,54,50,54,51,54,52,54,53,54,54,54,55,54,56,54,57,55,48,55,49,55,50,55,51,55,52,55,53,55,54,55,55,55,56,55,57,56,48,56,49,56,50,56,51,56,52,56,53,56,54,56,55,56,56,56,57,57,48,57,49,57,50,57,51,57,52,57,53,57,54,57,55,57,56,57,57]))) (ot 49)),
 oo 51 (.mov (ot 9)),
 oo 52 (.ixs (.cst (.d (.str [48,48,48,49,48,50,48,51,48,52,48,53,48,54,48,55,48,56,48,57,49,48,49,49,49,50,49,51,49,52,49,53,49,54,49,55,49,56,49,57,50,48,50,49,50,50,50,51,50,52,50,53,50,54,50,55,50,56,50,57,51,48,51,49,51,50,51,51,51,52,51,53,51,54,51,55,51,56,51,57,52,48,52,49,52,50,52,51,52,52,52,53,52,54,52,55,52,56,52,57,53,48,53,49,53,50,53,51,53,52,53,53,53,54,53,55,53,56,53,57,54,48,54,49,54,50,54,51,54,52,54,53,54,54,54,55,54,56,54,57,55,48,55,49,55,50,55,51,55,52,55,53,55,54,55,55,55,56,55,57,56,48,56,49,56,50,56,51,56,52,56,53,56,54,56,55,56,56,56,57,57,48,57,49,57,50,57,51,57,52,57,53,57,54,57,55,57,56,57,57]))) (ot 51)),
 oo 53 (.ixa 1 (ot 42) (ot 44)),
 ⟨none,.st 1 (ot 53) (ot 50),none⟩,
 oo 54 (.ixa 1 (ot 45) (ot 47)),
 ⟨none,.st 1 (ot 54) (ot 52),none⟩] [(0,1),(0,2),(0,3),(1,3),(2,3),(0,4),(1,4),(2,4),(3,4),(0,5),(1,5),(2,5),(3,5),(0,6),(1,6),(2,6),(3,6),(4,6),(5,6),(0,7),(1,7),(2,7),(3,7),(4,7),(5,7),(0,8),(1,8),(2,8),(3,8),(4,8),(5,8),(0,9),(1,9),(2,9),(3,9),(4,9),(5,9),(6,9),(7,9),(8,9),(0,10),(1,10),(2,10),(3,10),(4,10),(5,10),(6,10),(7,10),(8,10),(3,11),(4,11),(5,11),(9,11),(10,11),(3,12),(4,12),(5,12),(9,12),(10,12)])
 (.seq
 (.regd [] [oo 55 (.mov (ot 0)),
 oo 56 (.mov (ot 4)),
 oo 57 (.arith .sub .i64 (ot 56) (.cst (.d (.int .i64 3)))),
 oo 58 (.mov (ot 0)),
 oo 59 (.mov (ot 4)),
 oo 60 (.arith .sub .i64 (ot 59) (.cst (.d (.int .i64 4)))),
 oo 61 (.mov (ot 8)),
 oo 62 (.arith .add .u32 (ot 61) (.cst (.d (.int .u32 1)))),
 oo 63 (.ixs (.cst (.d (.str [48,48,48,49,48,50,48,51,48,52,48,53,48,54,48,55,48,56,48,57,49,48,49,49,49,50,49,51,49,52,49,53,49,54,49,55,49,56,49,57,50,48,50,49,50,50,50,51,50,52,50,53,50,54,50,55,50,56,50,57,51,48,51,49,51,50,51,51,51,52,51,53,51,54,51,55,51,56,51,57,52,48,52,49,52,50,52,51,52,52,52,53,52,54,52,55,52,56,52,57,53,48,53,49,53,50,53,51,53,52,53,53,53,54,53,55,53,56,53,57,54,48,54,49,54,50,54,51,54,52,54,53,54,54,54,55,54,56,54,57,55,48,55,49,55,50,55,51,55,52,55,53,55,54,55,55,55,56,55,57,56,48,56,49,56,50,56,51,56,52,56,53,56,54,56,55,56,56,56,57,57,48,57,49,57,50,57,51,57,52,57,53,57,54,57,55,57,56,57,57]))) (ot 62)),
 oo 64 (.mov (ot 8)),
 oo 65 (.ixs (.cst (.d (.str [48,48,48,49,48,50,48,51,48,52,48,53,48,54,48,55,48,56,48,57,49,48,49,49,49,50,49,51,49,52,49,53,49,54,49,55,49,56,49,57,50,48,50,49,50,50,50,51,50,52,50,53,50,54,50,55,50,56,50,57,51,48,51,49,51,50,51,51,51,52,51,53,51,54,51,55,51,56,51,57,52,48,52,49,52,50,52,51,52,52,52,53,52,54,52,55,52,56,52,57,53,48,53,49,53,50,53,51,53,52,53,53,53,54,53,55,53,56,53,57,54,48,54,49,54,50,54,51,54,52,54,53,54,54,54,55,54,56,54,57,55,48,55,49,55,50,55,51,55,52,55,53,55,54,55,55,55,56,55,57,56,48,56,49,56,50,56,51,56,52,56,53,56,54,56,55,56,56,56,57,57,48,57,49,57,50,57,51,57,52,57,53,57,54,57,55,57,56,57,57]))) (ot 64)),
 oo 66 (.ixa 1 (ot 55) (ot 57)),
 ⟨none,.st 1 (ot 66) (ot 63),none⟩,
 oo 67 (.ixa 1 (ot 58) (ot 60)),
 ⟨none,.st 1 (ot 67) (ot 65),none⟩] [(0,1),(0,2),(0,3),(1,3),(2,3),(0,4),(1,4),(2,4),(3,4),(0,5),(1,5),(2,5),(3,5),(0,6),(1,6),(2,6),(3,6),(4,6),(5,6),(0,7),(1,7),(2,7),(3,7),(4,7),(5,7),(0,8),(1,8),(2,8),(3,8),(4,8),(5,8),(0,9),(1,9),(2,9),(3,9),(4,9),(5,9),(6,9),(7,9),(8,9),(0,10),(1,10),(2,10),(3,10),(4,10),(5,10),(6,10),(7,10),(8,10),(3,11),(4,11),(5,11),(9,11),(10,11),(3,12),(4,12),(5,12),(9,12),(10,12)])
 (.seq
 (.regd [] [oo 68 (.mov (ot 0)),
 oo 69 (.mov (ot 4)),
 oo 70 (.arith .sub .i64 (ot 69) (.cst (.d (.int .i64 5)))),
 oo 71 (.mov (ot 0)),
 oo 72 (.mov (ot 4)),
 oo 73 (.arith .sub .i64 (ot 72) (.cst (.d (.int .i64 6)))),
 oo 74 (.mov (ot 11)),
 oo 75 (.arith .add .u32 (ot 74) (.cst (.d (.int .u32 1)))),
 oo 76 (.ixs (.cst (.d (.str [48,48,48,49,48,50,48,51,48,52,48,53,48,54,48,55,48,56,48,57,49,48,49,49,49,50,49,51,49,52,49,53,49,54,49,55,49,56,49,57,50,48,50,49,50,50,50,51,50,52,50,53,50,54,50,55,50,56,50,57,51,48,51,49,51,50,51,51,51,52,51,53,51,54,51,55,51,56,51,57,52,48,52,49,52,50,52,51,52,52,52,53,52,54,52,55,52,56,52,57,53,48,53,49,53,50,53,51,53,52,53,53,53,54,53,55,53,56,53,57,54,48,54,49,54,50,54,51,54,52,54,53,54,54,54,55,54,56,54,57,55,48,55,49,55,50,55,51,55,52,55,53,55,54,55,55,55,56,55,57,56,48,56,49,56,50,56,51,56,52,56,53,56,54,56,55,56,56,56,57,57,48,57,49,57,50,57,51,57,52,57,53,57,54,57,55,57,56,57,57]))) (ot 75)),
 oo 77 (.mov (ot 11)),
 oo 78 (.ixs (.cst (.d (.str [48,48,48,49,48,50,48,51,48,52,48,53,48,54,48,55,48,56,48,57,49,48,49,49,49,50,49,51,49,52,49,53,49,54,49,55,49,56,49,57,50,48,50,49,50,50,50,51,50,52,50,53,50,54,50,55,50,56,50,57,51,48,51,49,51,50,51,51,51,52,51,53,51,54,51,55,51,56,51,57,52,48,52,49,52,50,52,51,52,52,52,53,52,54,52,55,52,56,52,57,53,48,53,49,53,50,53,51,53,52,53,53,53,54,53,55,53,56,53,57,54,48,54,49,54,50,54,51,54,52,54,53,54,54,54,55,54,56,54,57,55,48,55,49,55,50,55,51,55,52,55,53,55,54,55,55,55,56,55,57,56,48,56,49,56,50,56,51,56,52,56,53,56,54,56,55,56,56,56,57,57,48,57,49,57,50,57,51,57,52,57,53,57,54,57,55,57,56,57,57]))) (ot 77)),
 oo 79 (.ixa 1 (ot 68) (ot 70)),
 ⟨none,.st 1 (ot 79) (ot 76),none⟩,
 oo 80 (.ixa 1 (ot 71) (ot 73)),
 ⟨none,.st 1 (ot 80) (ot 78),none⟩] [(0,1),(0,2),(0,3),(1,3),(2,3),(0,4),(1,4),(2,4),(3,4),(0,5),(1,5),(2,5),(3,5),(0,6),(1,6),(2,6),(3,6),(4,6),(5,6),(0,7),(1,7),(2,7),(3,7),(4,7),(5,7),(0,8),(1,8),(2,8),(3,8),(4,8),(5,8),(0,9),(1,9),(2,9),(3,9),(4,9),(5,9),(6,9),(7,9),(8,9),(0,10),(1,10),(2,10),(3,10),(4,10),(5,10),(6,10),(7,10),(8,10),(3,11),(4,11),(5,11),(9,11),(10,11),(3,12),(4,12),(5,12),(9,12),(10,12)])
 (.seq
 (.regd [] [oo 81 (.mov (ot 0)),
 oo 82 (.mov (ot 4)),
 oo 83 (.arith .sub .i64 (ot 82) (.cst (.d (.int .i64 7)))),
 oo 84 (.mov (ot 0)),
 oo 85 (.mov (ot 4)),
 oo 86 (.arith .sub .i64 (ot 85) (.cst (.d (.int .i64 8)))),
 oo 87 (.mov (ot 10)),
 oo 88 (.arith .add .u32 (ot 87) (.cst (.d (.int .u32 1)))),
 oo 89 (.ixs (.cst (.d (.str [48,48,48,49,48,50,48,51,48,52,48,53,48,54,48,55,48,56,48,57,49,48,49,49,49,50,49,51,49,52,49,53,49,54,49,55,49,56,49,57,50,48,50,49,50,50,50,51,50,52,50,53,50,54,50,55,50,56,50,57,51,48,51,49,51,50,51,51,51,52,51,53,51,54,51,55,51,56,51,57,52,48,52,49,52,50,52,51,52,52,52,53,52,54,52,55,52,56,52,57,53,48,53,49,53,50,53,51,53,52,53,53,53,54,53,55,53,56,53,57,54,48,54,49,54,50,54,51,54,52,54,53,54,54,54,55,54,56,54,57,55,48,55,49,55,50,55,51,55,52,55,53,55,54,55,55,55,56,55,57,56,48,56,49,56,50,56,51,56,52,56,53,56,54,56,55,56,56,56,57,57,48,57,49,57,50,57,51,57,52,57,53,57,54,57,55,57,56,57,57]))) (ot 88)),
 oo 90 (.mov (ot 10)),
 oo 91 (.ixs (.cst (.d (.str [48,48,48,49,48,50,48,51,48,52,48,53,48,54,48,55,48,56,48,57,49,48,49,49,49,50,49,51,49,52,49,53,49,54,49,55,49,56,49,57,50,48,50,49,50,50,50,51,50,52,50,53,50,54,50,55,50,56,50,57,51,48,51,49,51,50,51,51,51,52,51,53,51,54,51,55,51,56,51,57,52,48,52,49,52,50,52,51,52,52,52,53,52,54,52,55,52,56,52,57,53,48,53,49,53,50,53,51,53,52,53,53,53,54,53,55,53,56,53,57,54,48,54,49,54,50,54,51,54,52,54,53,54,54,54,55,54,56,54,57,55,48,55,49,55,50,55,51,55,52,55,53,55,54,55,55,55,56,55,57,56,48,56,49,56,50,56,51,56,52,56,53,56,54,56,55,56,56,56,57,57,48,57,49,57,50,57,51,57,52,57,53,57,54,57,55,57,56,57,57]))) (ot 90)),
 oo 92 (.ixa 1 (ot 81) (ot 83)),
 ⟨none,.st 1 (ot 92) (ot 89),none⟩,
 oo 93 (.ixa 1 (ot 84) (ot 86)),
 ⟨none,.st 1 (ot 93) (ot 91),none⟩] [(0,1),(0,2),(0,3),(1,3),(2,3),(0,4),(1,4),(2,4),(3,4),(0,5),(1,5),(2,5),(3,5),(0,6),(1,6),(2,6),(3,6),(4,6),(5,6),(0,7),(1,7),(2,7),(3,7),(4,7),(5,7),(0,8),(1,8),(2,8),(3,8),(4,8),(5,8),(0,9),(1,9),(2,9),(3,9),(4,9),(5,9),(6,9),(7,9),(8,9),(0,10),(1,10),(2,10),(3,10),(4,10),(5,10),(6,10),(7,10),(8,10),(3,11),(4,11),(5,11),(9,11),(10,11),(3,12),(4,12),(5,12),(9,12),(10,12)])
 (.reg [] [oo 94 (.mov (ot 4)),
 oo 95 (.arith .sub .i64 (ot 94) (.cst (.d (.int .i64 8)))),
 oo 4 (.mov (ot 95))])))))))))))))))))
 (.seq
 (.reg [] [oo 96 (.mov (ot 1)),
 oo 97 (.conv .u32 (ot 96)),
 oo 12 (.mov (ot 97))])
 (.seq
 (.seq
 (.reg [] [oo 98 (.mov (ot 4)),
 oo 99 (.cmp .geq (ot 98) (.cst (.d (.int .i64 4))))])
 (.cond (ot 99)
 (.seq
 (.reg [] [oo 100 (.mov (ot 12)),
 oo 101 (.arith .rem .u32 (ot 100) (.cst (.d (.int .u32 10000)))),
 oo 13 (.mov (ot 101))])
 (.seq
 (.reg [] [oo 102 (.mov (ot 12)),
 oo 103 (.arith .quo .u32 (ot 102) (.cst (.d (.int .u32 10000)))),
 oo 12 (.mov (ot 103))])
 (.seq
 (.reg [] [oo 104 (.mov (ot 13)),
 oo 105 (.arith .quo .u32 (ot 104) (.cst (.d (.int .u32 100)))),
 oo 106 (.arith .mul .u32 (ot 105) (.cst (.d (.int .u32 2)))),
 oo 107 (.mov (ot 13)),
 oo 108 (.arith .rem .u32 (ot 107) (.cst (.d (.int .u32 100)))),
 oo 109 (.arith .mul .u32 (ot 108) (.cst (.d (.int .u32 2)))),
 oo 14 (.mov (ot 106)),
 oo 15 (.mov (ot 109))])
 (.seq
 (.regd [] [oo 110 (.mov (ot 0)),
 oo 111 (.mov (ot 4)),
 oo 112 (.arith .sub .i64 (ot 111) (.cst (.d (.int .i64 1)))),
 oo 113 (.mov (ot 0)),
 oo 114 (.mov (ot 4)),
 oo 115 (.arith .sub .i64 (ot 114) (.cst (.d (.int .i64 2)))),
 oo 116 (.mov (ot 15)),
 oo 117 (.arith .add .u32 (ot 116) (.cst (.d (.int .u32 1)))),
 oo 118 (.ixs (.cst (.d (.str [48,48,48,49,48,50,48,51,48,52,48,53,48,54,48,55,48,56,48,57,49,48,49,49,49,50,49,51,49,52,49,53,49,54,49,55,49,56,49,57,50,48,50,49,50,50,50,51,50,52,50,53,50,54,50,55,50,56,50,57,51,48,51,49,51,50,51,51,51,52,51,53,51,54,51,55,51,56,51,57,52,48,52,49,52,50,52,51,52,52,52,53,52,54,52,55,52,56,52,57,53,48,53,49,53,50,53,51,53,52,53,53,53,54,53,55,53,56,53,57,54,48,54,49,54,50,54,51,54,52,54,53,54,54,54,55,54,56,54,57,55,48,55,49,55,50,55,51,55,52,55,53,55,54,55,55,55,56,55,57,56,48,56,49,56,50,56,51,56,52,56,53,56,54,56,55,56,56,56,57,57,48,57,49,57,50,57,51,57,52,57,53,57,54,57,55,57,56,57,57]))) (ot 117)),
 oo 119 (.mov (ot 15)),
 oo 120 (.ixs (.cst (.d (.str [48,48,48,49,48,50,48,51,48,52,48,53,48,54,48,55,48,56,48,57,49,48,49,49,49,50,49,51,49,52,49,53,49,54,49,55,49,56,49,57,50,48,50,49,50,50,50,51,50,52,50,53,50,54,50,55,50,56,50,57,51,48,51,49,51,50,51,51,51,52,51,53,51,54,51,55,51,56,51,57,52,48,52,49,52,50,52,51,52,52,52,53,52,54,52,55,52,56,52,57,53,48,53,49,53,50,53,51,53,52,53,53,53,54,53,55,53,56,53,57,54,48,54,49,54,50,54,51,54,52,54,53,54,54,54,55,54,56,54,57,55,48,55,49,55,50,55,51,55,52,55,53,55,54,55,55,55,56,55,57,56,48,56,49,56,50,56,51,56,52,56,53,56,54,56,55,56,56,56,57,57,48,57,49,57,50,57,51,57,52,57,53,57,54,57,55,57,56,57,57]))) (ot 119)),
 oo 121 (.ixa 1 (ot 110) (ot 112)),
 ⟨none,.st 1 (ot 121) (ot 118),none⟩,
 oo 122 (.ixa 1 (ot 113) (ot 115)),
 ⟨none,.st 1 (ot 122) (ot 120),none⟩] [(0,1),(0,2),(0,3),(1,3),(2,3),(0,4),(1,4),(2,4),(3,4),(0,5),(1,5),(2,5),(3,5),(0,6),(1,6),(2,6),(3,6),(4,6),(5,6),(0,7),(1,7),(2,7),(3,7),(4,7),(5,7),(0,8),(1,8),(2,8),(3,8),(4,8),(5,8),(0,9),(1,9),(2,9),(3,9),(4,9),(5,9),(6,9),(7,9),(8,9),(0,10),(1,10),(2,10),(3,10),(4,10),(5,10),(6,10),(7,10),(8,10),(3,11),(4,11),(5,11),(9,11),(10,11),(3,12),(4,12),(5,12),(9,12),(10,12)])
 (.seq
 (.regd [] [oo 123 (.mov (ot 0)),
 oo 124 (.mov (ot 4)),
 oo 125 (.arith .sub .i64 (ot 124) (.cst (.d (.int .i64 3)))),
 oo 126 (.mov (ot 0)),
 oo 127 (.mov (ot 4)),
 oo 128 (.arith .sub .i64 (ot 127) (.cst (.d (.int .i64 4)))),
 oo 129 (.mov (ot 14)),
 oo 130 (.arith .add .u32 (ot 129) (.cst (.d (.int .u32 1)))),
 oo 131 (.ixs (.cst (.d (.str [48,48,48,49,48,50,48,51,48,52,48,53,48,54,48,55,48,56,48,57,49,48,49,49,49,50,49,51,49,52,49,53,49,54,49,55,49,56,49,57,50,48,50,49,50,50,50,51,50,52,50,53,50,54,50,55,50,56,50,57,51,48,51,49,51,50,51,51,51,52,51,53,51,54,51,55,51,56,51,57,52,48,52,49,52,50,52,51,52,52,52,53,52,54,52,55,52,56,52,57,53,48,53,49,53,50,53,51,53,52,53,53,53,54,53,55,53,56,53,57,54,48,54,49,54,50,54,51,54,52,54,53,54,54,54,55,54,56,54,57,55,48,55,49,55,50,55,51,55,52,55,53,55,54,55,55,55,56,55,57,56,48,56,49,56,50,56,51,56,52,56,53,56,54,56,55,56,56,56,57,57,48,57,49,57,50,57,51,57,52,57,53,57,54,57,55,57,56,57,57]))) (ot 130)),
 oo 132 (.mov (ot 14)),
 oo 133 (.ixs (.cst (.d (.str [48,48,48,49,48,50,48,51,48,52,48,53,48,54,48,55,48,56,48,57,49,48,49,49,49,50,49,51,49,52,49,53,49,54,49,55,49,56,49,57,50,48,50,49,50,50,50,51,50,52,50,53,50,54,50,55,50,56,50,57,51,48,51,49,51,50,51,51,51,52,51,53,51,54,51,55,51,56,51,57,52,48,52,49,52,50,52,51,52,52,52,53,52,54,52,55,52,56,52,57,53,48,53,49,53,50,53,51,53,52,53,53,53,54,53,55,53,56,53,57,54,48,54,49,54,50,54,51,54,52,54,53,54,54,54,55,54,56,54,57,55,48,55,49,55,50,55,51,55,52,55,53,55,54,55,55,55,56,55,57,56,48,56,49,56,50,56,51,56,52,56,53,56,54,56,55,56,56,56,57,57,48,57,49,57,50,57,51,57,52,57,53,57,54,57,55,57,56,57,57]))) (ot 132)),
 oo 134 (.ixa 1 (ot 123) (ot 125)),
 ⟨none,.st 1 (ot 134) (ot 131),none⟩,
 oo 135 (.ixa 1 (ot 126) (ot 128)),
 ⟨none,.st 1 (ot 135) (ot 133),none⟩] [(0,1),(0,2),(0,3),(1,3),(2,3),(0,4),(1,4),(2,4),(3,4),(0,5),(1,5),(2,5),(3,5),(0,6),(1,6),(2,6),(3,6),(4,6),(5,6),(0,7),(1,7),(2,7),(3,7),(4,7),(5,7),(0,8),(1,8),(2,8),(3,8),(4,8),(5,8),(0,9),(1,9),(2,9),(3,9),(4,9),(5,9),(6,9),(7,9),(8,9),(0,10),(1,10),(2,10),(3,10),(4,10),(5,10),(6,10),(7,10),(8,10),(3,11),(4,11),(5,11),(9,11),(10,11),(3,12),(4,12),(5,12),(9,12),(10,12)])
 (.reg [] [oo 136 (.mov (ot 4)),
 oo 137 (.arith .sub .i64 (ot 136) (.cst (.d (.int .i64 4)))),
 oo 4 (.mov (ot 137))]))))))
 .skip))
 (.seq
 (.seq
 (.reg [] [oo 138 (.mov (ot 4)),
 oo 139 (.cmp .geq (ot 138) (.cst (.d (.int .i64 2))))])
 (.cond (ot 139)
 (.seq
 (.reg [] [oo 140 (.mov (ot 12)),
 oo 141 (.arith .rem .u32 (ot 140) (.cst (.d (.int .u32 100)))),
 oo 142 (.arith .mul .u32 (ot 141) (.cst (.d (.int .u32 2)))),
 oo 16 (.mov (ot 142))])
 (.seq
 (.reg [] [oo 143 (.mov (ot 12)),
 oo 144 (.arith .quo .u32 (ot 143) (.cst (.d (.int .u32 100)))),
 oo 12 (.mov (ot 144))])
 (.seq
 (.regd [] [oo 145 (.mov (ot 0)),
 oo 146 (.mov (ot 4)),
 oo 147 (.arith .sub .i64 (ot 146) (.cst (.d (.int .i64 1)))),
 oo 148 (.mov (ot 0)),
 oo 149 (.mov (ot 4)),
 oo 150 (.arith .sub .i64 (ot 149) (.cst (.d (.int .i64 2)))),
 oo 151 (.mov (ot 16)),
 oo 152 (.arith .add .u32 (ot 151) (.cst (.d (.int .u32 1)))),
 oo 153 (.ixs (.cst (.d (.str [48,48,48,49,48,50,48,51,48,52,48,53,48,54,48,55,48,56,48,57,49,48,49,49,49,50,49,51,49,52,49,53,49,54,49,55,49,56,49,57,50,48,50,49,50,50,50,51,50,52,50,53,50,54,50,55,50,56,50,57,51,48,51,49,51,50,51,51,51,52,51,53,51,54,51,55,51,56,51,57,52,48,52,49,52,50,52,51,52,52,52,53,52,54,52,55,52,56,52,57,53,48,53,49,53,50,53,51,53,52,53,53,53,54,53,55,53,56,53,57,54,48,54,49,54,50,54,51,54,52,54,53,54,54,54,55,54,56,54,57,55,48,55,49,55,50,55,51,55,52,55,53,55,54,55,55,55,56,55,57,56,48,56,49,56,50,56,51,56,52,56,53,56,54,56,55,56,56,56,57,57,48,57,49,57,50,57,51,57,52,57,53,57,54,57,55,57,56,57,57]))) (ot 152)),
 oo 154 (.mov (ot 16)),
 oo 155 (.ixs (.cst (.d (.str [48,48,48,49,48,50,48,51,48,52,48,53,48,54,48,55,48,56,48,57,49,48,49,49,49,50,49,51,49,52,49,53,49,54,49,55,49,56,49,57,50,48,50,49,50,50,50,51,50,52,50,53,50,54,50,55,50,56,50,57,51,48,51,49,51,50,51,51,51,52,51,53,51,54,51,55,51,56,51,57,52,48,52,49,52,50,52,51,52,52,52,53,52,54,52,55,52,56,52,57,53,48,53,49,53,50,53,51,53,52,53,53,53,54,53,55,53,56,53,57,54,48,54,49,54,50,54,51,54,52,54,53,54,54,54,55,54,56,54,57,55,48,55,49,55,50,55,51,55,52,55,53,55,54,55,55,55,56,55,57,56,48,56,49,56,50,56,51,56,52,56,53,56,54,56,55,56,56,56,57,57,48,57,49,57,50,57,51,57,52,57,53,57,54,57,55,57,56,57,57]))) (ot 154)),
 oo 156 (.ixa 1 (ot 145) (ot 147)),
 ⟨none,.st 1 (ot 156) (ot 153),none⟩,
 oo 157 (.ixa 1 (ot 148) (ot 150)),
 ⟨none,.st 1 (ot 157) (ot 155),none⟩] [(0,1),(0,2),(0,3),(1,3),(2,3),(0,4),(1,4),(2,4),(3,4),(0,5),(1,5),(2,5),(3,5),(0,6),(1,6),(2,6),(3,6),(4,6),(5,6),(0,7),(1,7),(2,7),(3,7),(4,7),(5,7),(0,8),(1,8),(2,8),(3,8),(4,8),(5,8),(0,9),(1,9),(2,9),(3,9),(4,9),(5,9),(6,9),(7,9),(8,9),(0,10),(1,10),(2,10),(3,10),(4,10),(5,10),(6,10),(7,10),(8,10),(3,11),(4,11),(5,11),(9,11),(10,11),(3,12),(4,12),(5,12),(9,12),(10,12)])
 (.reg [] [oo 158 (.mov (ot 4)),
 oo 159 (.arith .sub .i64 (ot 158) (.cst (.d (.int .i64 2)))),
 oo 4 (.mov (ot 159))]))))
 .skip))
 (.seq
 (.reg [] [oo 160 (.mov (ot 4)),
 oo 161 (.cmp .gtr (ot 160) (.cst (.d (.int .i64 0))))])
 (.cond (ot 161)
 (.reg [] [oo 162 (.mov (ot 0)),
 oo 163 (.mov (ot 12)),
 oo 164 (.arith .add .u32 (.cst (.d (.int .u32 48))) (ot 163)),
 oo 165 (.conv .u8 (ot 164)),
 oo 166 (.ixa 1 (ot 162) (.cst (.d (.int .i64 0)))),
 ⟨none,.st 1 (ot 166) (ot 165),none⟩])
 .skip)))))))⟩
def tx215:AFun:=⟨6,40,[.tmp 2],
 (.seq
 (.reg [] [oo 2 (.mov (.cst (.d (.int .i64 0))))])
 (.seq
 (.reg [] [oo 3 (.mov (ot 0)),
 oo 4 (.arith .mul .i64 (ot 3) (.cst (.d (.int .i64 78913)))),
 oo 5 (.shf .shr .i64 (ot 4) (.cst (.d (.int .u64 18)))),
 oo 2 (.mov (ot 5))])
 .ret))⟩
def tx216:AFun:=⟨4,40,[.tmp 2],
 (.seq
 (.reg [] [oo 2 (.mov (.cst (.d (.int .i64 0))))])
 (.seq
 (.seq
 (.reg [] [oo 3 (.mov (ot 0))])
 (.cond (ot 3)
 (.seq
 (.reg [] [oo 2 (.mov (.cst (.d (.int .i64 1))))])
 .ret)
 .skip))
 (.seq
 (.reg [] [oo 2 (.mov (.cst (.d (.int .i64 0))))])
 .ret)))⟩
def tab08:TabL:=[
(15,25,tx15),
(16,4,tx16),
(18,1,tx18),
(19,1,tx19),
(25,3,tx25),
(28,5,tx28),
(29,8,tx29),
(35,0,tx35),
(36,5,tx36),
(37,4,tx37),
(38,3,tx38),
(39,3,tx39),
(40,3,tx40),
(46,1,tx46),
(48,1,tx48),
(49,2,tx49),
(55,0,tx55),
(57,1,tx57),
(59,4,tx59),
(64,0,tx64),
(70,5,tx70),
(72,3,tx72),
(73,3,tx73),
(80,5,tx80),
(86,1,tx86),
(87,1,tx87),
(88,2,tx88),
(89,2,tx89),
(90,0,tx90),
(91,0,tx91),
(92,0,tx92),
(93,3,tx93),
(95,1,tx95),
(99,2,tx99),
(100,8,tx100),
(101,3,tx101),
(102,3,tx102),
(103,1,tx103),
(106,3,tx106),
(107,4,tx107),
(108,1,tx108),
(112,0,tx112),
(113,1,tx113),
(114,3,tx114),
(116,3,tx116),
(117,1,tx117),
(118,5,tx118),
(119,3,tx119),
(120,1,tx120),
(121,3,tx121),
(122,1,tx122),
(126,0,tx126),
(127,1,tx127),
(131,2,tx131),
(132,1,tx132),
(140,2,tx140),
(141,0,tx141),
(142,2,tx142),
(143,1,tx143),
(145,2,tx145),
(146,1,tx146),
(147,1,tx147),
(152,2,tx152),
(153,0,tx153),
(154,2,tx154),
(155,0,tx155),
(161,0,tx161),
(162,0,tx162),
(163,2,tx163),
(164,0,tx164),
(165,1,tx165),
(166,1,tx166),
(167,2,tx167),
(171,0,tx171),
(177,0,tx177),
(183,0,tx183),
(186,0,tx186),
(187,0,tx187),
(188,2,tx188),
(190,1,tx190),
(202,0,tx202),
(204,0,tx204),
(205,0,tx205),
(206,0,tx206),
(215,0,tx215),
(216,0,tx216)]
theorem tab08_chk:chkT Tryz.prog tab08=true:=by kernel_rfl
end Vc
