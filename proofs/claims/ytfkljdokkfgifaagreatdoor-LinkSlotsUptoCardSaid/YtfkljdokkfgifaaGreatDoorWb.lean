import Derived.Test.YtfkljdokkfgifaaGreatDoorVh
import Derived.Test.YtfkljdokkfgifaaGreatDoorRows
set_option linter.unusedSectionVars false
set_option linter.unusedVariables false
set_option linter.unusedSimpArgs false
set_option maxRecDepth 100000
namespace Vc
open Go Go.Proofs
/-- kilovar/kilovarlaw04.awake -/
def tx12 : AFun := ⟨347, 72, [.tmp 0],
 (.seq
 (.reg [] [⟨some 0, .mov (.cst (.d (.bool false))), none⟩])
 (.seq
 (.reg [0] [⟨some 45, .bsl 0 5 1 3 [(.int .u8 0), (.int .u8 0), (.int .u8 0)] [(0, (.cst (.d (.int .u8 5)))), (1, (.cst (.d (.int .u8 6)))), (2, (.cst (.d (.int .u8 7))))], none⟩,
 ⟨some 46, .call 13 [(.cst (.d (.int .i64 9))), (.tmp 45), (.cst (.d (.int .i64 2)))], none⟩,
 ⟨some 44, .mov (.tmp 46), none⟩,
 ⟨some 47, .ext 0 (.tmp 44), none⟩,
 ⟨some 48, .ext 1 (.tmp 44), none⟩,
 ⟨some 1, .mov (.tmp 47), none⟩,
 ⟨some 2, .mov (.tmp 48), none⟩])
 (.seq
 (.seq
 (.reg [1, 2, 3] [⟨some 49, .mov (.tmp 2), none⟩,
 ⟨some 50, .cmp .neq (.tmp 49) (.cst (.d (.int .i64 0))), none⟩,
 ⟨some 51, .mov (.tmp 50), none⟩,
 ⟨some 52, .mov (.tmp 1), some (51, false)⟩,
 ⟨some 53, .call 23 [(.tmp 52)], some (51, false)⟩,
 ⟨some 54, .bsl 1 5 1 2 [(.int .u8 0), (.int .u8 0)] [(0, (.cst (.d (.int .u8 5)))), (1, (.cst (.d (.int .u8 6))))], some (51, false)⟩,
 ⟨some 55, .build [(.d (.int .i64 0)), (.d (.int .i64 0)), (.d (.int .i64 0)), (.nils 1)] [(0, 1, (.cst (.d (.int .i64 9)))), (1, 1, (.cst (.d (.int .i64 0)))), (2, 1, (.cst (.d (.int .i64 2)))), (3, 1, (.tmp 54))], some (51, false)⟩,
 ⟨some 56, .bsl 2 5 1 1 [(.int .u8 0)] [(0, (.cst (.d (.int .u8 7))))], some (51, false)⟩,
 ⟨some 57, .build [(.d (.int .i64 0)), (.d (.int .i64 0)), (.d (.int .i64 0)), (.nils 1)] [(0, 1, (.cst (.d (.int .i64 9)))), (1, 1, (.cst (.d (.int .i64 1)))), (2, 1, (.cst (.d (.int .i64 2)))), (3, 1, (.tmp 56))], some (51, false)⟩,
 ⟨some 58, .bsl 3 46 4 2 [(.agg [(.int .i64 0), (.int .i64 0), (.int .i64 0), (.slice 1 [])]), (.agg [(.int .i64 0), (.int .i64 0), (.int .i64 0), (.slice 1 [])])] [(0, (.tmp 55)), (1, (.tmp 57))], some (51, false)⟩,
 ⟨some 59, .call 22 [(.tmp 53), (.tmp 58)], some (51, false)⟩,
 ⟨some 60, .not (.tmp 59), some (51, false)⟩,
 ⟨some 61, .pick (.tmp 51) (.cst (.d (.bool true))) (.tmp 60), none⟩])
 (.cond (.tmp 61)
 (.seq
 (.reg [] [⟨some 0, .mov (.cst (.d (.bool false))), none⟩])
 .ret)
 .skip))
 (.seq
 (.regd [4] [⟨some 63, .mov (.tmp 1), none⟩,
 ⟨some 64, .ixa 4 (.tmp 63) (.cst (.d (.int .i64 1))), none⟩,
 ⟨some 65, .ld true 4 (.tmp 64), none⟩,
 ⟨some 66, .mov (.tmp 1), none⟩,
 ⟨some 67, .ixa 4 (.tmp 66) (.cst (.d (.int .i64 0))), none⟩,
 ⟨some 68, .ld true 4 (.tmp 67), none⟩,
 ⟨some 69, .mov (.tmp 1), none⟩,
 ⟨some 70, .ixa 4 (.tmp 69) (.cst (.d (.int .i64 0))), none⟩,
 ⟨some 71, .ld true 4 (.tmp 70), none⟩,
 ⟨some 72, .bsl 4 38 4 3 [(.agg [(.int .i64 0), (.int .i64 0), (.int .i64 0), (.slice 1 [])]), (.agg [(.int .i64 0), (.int .i64 0), (.int .i64 0), (.slice 1 [])]), (.agg [(.int .i64 0), (.int .i64 0), (.int .i64 0), (.slice 1 [])])] [(0, (.tmp 65)), (1, (.tmp 68)), (2, (.tmp 71))], none⟩,
 ⟨some 73, .call 14 [(.tmp 72)], none⟩,
 ⟨some 62, .mov (.tmp 73), none⟩,
 ⟨some 74, .ext 0 (.tmp 62), none⟩,
 ⟨some 75, .ext 1 (.tmp 62), none⟩,
 ⟨some 3, .mov (.tmp 74), none⟩,
 ⟨some 4, .mov (.tmp 75), none⟩] [(0, 3), (1, 3), (2, 3), (0, 4), (1, 4), (2, 4), (0, 5), (1, 5), (2, 5), (0, 6), (1, 6), (2, 6), (3, 6), (4, 6), (5, 6), (0, 7), (1, 7), (2, 7), (3, 7), (4, 7), (5, 7), (0, 8), (1, 8), (2, 8), (3, 8), (4, 8), (5, 8), (12, 13), (13, 14)])
 (.seq
 (.reg [] [⟨some 77, .mov (.tmp 1), none⟩,
 ⟨some 78, .slc 4 (.tmp 77) (some (.cst (.d (.int .i64 1)))) none, none⟩,
 ⟨some 79, .call 14 [(.tmp 78)], none⟩,
 ⟨some 76, .mov (.tmp 79), none⟩,
 ⟨some 80, .ext 0 (.tmp 76), none⟩,
 ⟨some 81, .ext 1 (.tmp 76), none⟩,
 ⟨some 5, .mov (.tmp 80), none⟩,
 ⟨some 6, .mov (.tmp 81), none⟩])
 (.seq
 (.reg [5] [⟨some 83, .mov (.tmp 1), none⟩,
 ⟨some 84, .ixa 4 (.tmp 83) (.cst (.d (.int .i64 1))), none⟩,
 ⟨some 85, .ld true 4 (.tmp 84), none⟩,
 ⟨some 86, .call 26 [(.tmp 85)], none⟩,
 ⟨some 82, .mov (.tmp 86), none⟩,
 ⟨some 87, .ext 0 (.tmp 82), none⟩,
 ⟨some 88, .ext 1 (.tmp 82), none⟩,
 ⟨some 7, .alloc 5 [(.d (.int .u8 0)), (.d (.int .u8 0)), (.d (.int .u8 0)), (.d (.int .u8 0)), (.d (.int .u8 0)), (.d (.int .u8 0)), (.d (.int .u8 0)), (.d (.int .u8 0)), (.d (.int .u8 0)), (.d (.int .u8 0)), (.d (.int .u8 0)), (.d (.int .u8 0)), (.d (.int .u8 0)), (.d (.int .u8 0)), (.d (.int .u8 0)), (.d (.int .u8 0))], none⟩,
 ⟨none, .st 16 (.tmp 7) (.tmp 87), none⟩,
 ⟨some 8, .mov (.tmp 88), none⟩])
 (.seq
 (.reg [6] [⟨some 90, .build [(.d (.int .u8 0)), (.d (.int .u8 0)), (.d (.int .u8 0)), (.d (.int .u8 0)), (.d (.int .u8 0)), (.d (.int .u8 0)), (.d (.int .u8 0)), (.d (.int .u8 0)), (.d (.int .u8 0)), (.d (.int .u8 0)), (.d (.int .u8 0)), (.d (.int .u8 0)), (.d (.int .u8 0)), (.d (.int .u8 0)), (.d (.int .u8 0)), (.d (.int .u8 0))] [(0, 1, (.cst (.d (.int .u8 9)))), (1, 1, (.cst (.d (.int .u8 1)))), (2, 1, (.cst (.d (.int .u8 2)))), (3, 1, (.cst (.d (.int .u8 1)))), (4, 1, (.cst (.d (.int .u8 7))))], none⟩,
 ⟨some 91, .call 16 [(.tmp 90)], none⟩,
 ⟨some 89, .mov (.tmp 91), none⟩,
 ⟨some 92, .ext 0 (.tmp 89), none⟩,
 ⟨some 93, .ext 1 (.tmp 89), none⟩,
 ⟨some 9, .alloc 6 [(.d (.int .i64 0)), (.d (.int .i64 0)), (.d (.int .i64 0)), (.nils 1)], none⟩,
 ⟨none, .st 4 (.tmp 9) (.tmp 92), none⟩,
 ⟨some 10, .mov (.tmp 93), none⟩])
 (.seq
 (.seq
 (.reg [7, 8] [⟨some 94, .mov (.tmp 4), none⟩,
 ⟨some 95, .cmp .neq (.tmp 94) (.cst (.d (.int .i64 0))), none⟩,
 ⟨some 96, .mov (.tmp 95), none⟩,
 ⟨some 97, .mov (.tmp 6), some (96, false)⟩,
 ⟨some 98, .cmp .neq (.tmp 97) (.cst (.d (.int .i64 16))), some (96, false)⟩,
 ⟨some 99, .pick (.tmp 96) (.cst (.d (.bool true))) (.tmp 98), none⟩,
 ⟨some 100, .mov (.tmp 99), none⟩,
 ⟨some 101, .mov (.tmp 8), some (100, false)⟩,
 ⟨some 102, .cmp .neq (.tmp 101) (.cst (.d (.int .i64 0))), some (100, false)⟩,
 ⟨some 103, .pick (.tmp 100) (.cst (.d (.bool true))) (.tmp 102), none⟩,
 ⟨some 104, .mov (.tmp 103), none⟩,
 ⟨some 105, .mov (.tmp 10), some (104, false)⟩,
 ⟨some 106, .cmp .neq (.tmp 105) (.cst (.d (.int .i64 0))), some (104, false)⟩,
 ⟨some 107, .pick (.tmp 104) (.cst (.d (.bool true))) (.tmp 106), none⟩,
 ⟨some 108, .mov (.tmp 107), none⟩,
 ⟨some 109, .mov (.tmp 3), some (108, false)⟩,
 ⟨some 110, .bsl 7 5 1 3 [(.int .u8 0), (.int .u8 0), (.int .u8 0)] [(0, (.cst (.d (.int .u8 5)))), (1, (.cst (.d (.int .u8 6)))), (2, (.cst (.d (.int .u8 7))))], some (108, false)⟩,
 ⟨some 111, .call 24 [(.tmp 109), (.tmp 110)], some (108, false)⟩,
 ⟨some 112, .not (.tmp 111), some (108, false)⟩,
 ⟨some 113, .pick (.tmp 108) (.cst (.d (.bool true))) (.tmp 112), none⟩,
 ⟨some 114, .mov (.tmp 113), none⟩,
 ⟨some 115, .ld true 16 (.tmp 7), some (114, false)⟩,
 ⟨some 116, .build [(.d (.int .u8 0)), (.d (.int .u8 0)), (.d (.int .u8 0)), (.d (.int .u8 0)), (.d (.int .u8 0)), (.d (.int .u8 0)), (.d (.int .u8 0)), (.d (.int .u8 0)), (.d (.int .u8 0)), (.d (.int .u8 0)), (.d (.int .u8 0)), (.d (.int .u8 0)), (.d (.int .u8 0)), (.d (.int .u8 0)), (.d (.int .u8 0)), (.d (.int .u8 0))] [(0, 1, (.cst (.d (.int .u8 9)))), (1, 1, (.cst (.d (.int .u8 1)))), (2, 1, (.cst (.d (.int .u8 2)))), (3, 1, (.cst (.d (.int .u8 1)))), (4, 1, (.cst (.d (.int .u8 7))))], some (114, false)⟩,
 ⟨some 117, .aeq true [0, 0, 0, 0, 0, 0, 0, 0, 0, 0, 0, 0, 0, 0, 0, 0] (.tmp 115) (.tmp 116), some (114, false)⟩,
 ⟨some 118, .pick (.tmp 114) (.cst (.d (.bool true))) (.tmp 117), none⟩,
 ⟨some 119, .mov (.tmp 118), none⟩,
 ⟨some 120, .ld true 4 (.tmp 9), some (119, false)⟩,
 ⟨some 121, .bsl 8 5 1 1 [(.int .u8 0)] [(0, (.cst (.d (.int .u8 7))))], some (119, false)⟩,
 ⟨some 122, .build [(.d (.int .i64 0)), (.d (.int .i64 0)), (.d (.int .i64 0)), (.nils 1)] [(0, 1, (.cst (.d (.int .i64 9)))), (1, 1, (.cst (.d (.int .i64 1)))), (2, 1, (.cst (.d (.int .i64 2)))), (3, 1, (.tmp 121))], some (119, false)⟩,
 ⟨some 123, .call 25 [(.tmp 120), (.tmp 122)], some (119, false)⟩,
 ⟨some 124, .not (.tmp 123), some (119, false)⟩,
 ⟨some 125, .pick (.tmp 119) (.cst (.d (.bool true))) (.tmp 124), none⟩])
 (.cond (.tmp 125)
 (.seq
 (.reg [] [⟨some 0, .mov (.cst (.d (.bool false))), none⟩])
 .ret)
 .skip))
 (.seq
 (.reg [9, 10, 11, 12, 13] [⟨some 127, .call 78 [], none⟩,
 ⟨some 128, .build [(.nils 4), (.d (.int .i64 0)), (.d (.int .i64 0))] [(0, 1, (.tmp 127)), (2, 1, (.cst (.d (.int .i64 2))))], none⟩,
 ⟨some 129, .build [(.d (.int .i64 0)), (.nils 4)] [], none⟩,
 ⟨some 130, .bsl 9 3 1 1 [(.int .i64 0)] [(0, (.cst (.d (.int .i64 0))))], none⟩,
 ⟨some 131, .build [(.nils 1), (.nils 1), (.d (.bool false))] [(0, 1, (.tmp 130))], none⟩,
 ⟨some 132, .bsl 10 3 1 2 [(.int .i64 0), (.int .i64 0)] [(0, (.cst (.d (.int .i64 0)))), (1, (.cst (.d (.int .i64 1))))], none⟩,
 ⟨some 133, .build [(.nils 1), (.nils 1), (.d (.bool false))] [(1, 1, (.tmp 132)), (2, 1, (.cst (.d (.bool true))))], none⟩,
 ⟨some 134, .bsl 11 151 3 2 [(.agg [(.slice 1 []), (.slice 1 []), (.bool false)]), (.agg [(.slice 1 []), (.slice 1 []), (.bool false)])] [(0, (.tmp 131)), (1, (.tmp 133))], none⟩,
 ⟨some 135, .call 49 [(.tmp 128), (.tmp 129), (.tmp 134)], none⟩,
 ⟨some 126, .mov (.tmp 135), none⟩,
 ⟨some 136, .ext 0 (.tmp 126), none⟩,
 ⟨some 137, .ext 1 (.tmp 126), none⟩,
 ⟨some 138, .ext 2 (.tmp 126), none⟩,
 ⟨some 11, .alloc 12 [(.nils 4), (.d (.int .i64 0)), (.d (.int .i64 0))], none⟩,
 ⟨some 12, .alloc 13 [(.d (.int .i64 0)), (.nils 4)], none⟩,
 ⟨none, .st 3 (.tmp 11) (.tmp 136), none⟩,
 ⟨none, .st 2 (.tmp 12) (.tmp 137), none⟩,
 ⟨some 13, .mov (.tmp 138), none⟩])
 (.seq
 (.reg [14, 15, 16] [⟨some 140, .ld true 3 (.tmp 11), none⟩,
 ⟨some 141, .ld true 2 (.tmp 12), none⟩,
 ⟨some 142, .build [(.nils 1), (.nils 1), (.d (.bool false))] [], none⟩,
 ⟨some 143, .bsl 14 151 3 1 [(.agg [(.slice 1 []), (.slice 1 []), (.bool false)])] [(0, (.tmp 142))], none⟩,
 ⟨some 144, .call 49 [(.tmp 140), (.tmp 141), (.tmp 143)], none⟩,
 ⟨some 139, .mov (.tmp 144), none⟩,
 ⟨some 145, .ext 0 (.tmp 139), none⟩,
 ⟨some 146, .ext 1 (.tmp 139), none⟩,
 ⟨some 147, .ext 2 (.tmp 139), none⟩,
 ⟨some 14, .alloc 15 [(.nils 4), (.d (.int .i64 0)), (.d (.int .i64 0))], none⟩,
 ⟨some 15, .alloc 16 [(.d (.int .i64 0)), (.nils 4)], none⟩,
 ⟨none, .st 3 (.tmp 14) (.tmp 145), none⟩,
 ⟨none, .st 2 (.tmp 15) (.tmp 146), none⟩,
 ⟨some 16, .mov (.tmp 147), none⟩])
 (.seq
 (.reg [17, 18, 19] [⟨some 149, .ld true 3 (.tmp 14), none⟩,
 ⟨some 150, .ld true 2 (.tmp 15), none⟩,
 ⟨some 151, .build [(.nils 1), (.nils 1), (.d (.bool false))] [], none⟩,
 ⟨some 152, .bsl 17 151 3 1 [(.agg [(.slice 1 []), (.slice 1 []), (.bool false)])] [(0, (.tmp 151))], none⟩,
 ⟨some 153, .call 49 [(.tmp 149), (.tmp 150), (.tmp 152)], none⟩,
 ⟨some 148, .mov (.tmp 153), none⟩,
 ⟨some 154, .ext 0 (.tmp 148), none⟩,
 ⟨some 155, .ext 1 (.tmp 148), none⟩,
 ⟨some 156, .ext 2 (.tmp 148), none⟩,
 ⟨some 17, .alloc 18 [(.nils 4), (.d (.int .i64 0)), (.d (.int .i64 0))], none⟩,
 ⟨some 18, .alloc 19 [(.d (.int .i64 0)), (.nils 4)], none⟩,
 ⟨none, .st 3 (.tmp 17) (.tmp 154), none⟩,
 ⟨none, .st 2 (.tmp 18) (.tmp 155), none⟩,
 ⟨some 19, .mov (.tmp 156), none⟩])
 (.seq
 (.seq
 (.reg [] [⟨some 157, .mov (.tmp 13), none⟩,
 ⟨some 158, .cmp .neq (.tmp 157) (.cst (.d (.int .i64 0))), none⟩,
 ⟨some 159, .mov (.tmp 158), none⟩,
 ⟨some 160, .mov (.tmp 16), some (159, false)⟩,
 ⟨some 161, .cmp .neq (.tmp 160) (.cst (.d (.int .i64 0))), some (159, false)⟩,
 ⟨some 162, .pick (.tmp 159) (.cst (.d (.bool true))) (.tmp 161), none⟩,
 ⟨some 163, .mov (.tmp 162), none⟩,
 ⟨some 164, .mov (.tmp 19), some (163, false)⟩,
 ⟨some 165, .cmp .neq (.tmp 164) (.cst (.d (.int .i64 0))), some (163, false)⟩,
 ⟨some 166, .pick (.tmp 163) (.cst (.d (.bool true))) (.tmp 165), none⟩,
 ⟨some 167, .mov (.tmp 166), none⟩,
 ⟨some 168, .fad 1 (.tmp 11), some (167, false)⟩,
 ⟨some 169, .ld false 1 (.tmp 168), some (167, false)⟩,
 ⟨some 170, .cmp .neq (.tmp 169) (.cst (.d (.int .i64 0))), some (167, false)⟩,
 ⟨some 171, .pick (.tmp 167) (.cst (.d (.bool true))) (.tmp 170), none⟩,
 ⟨some 172, .mov (.tmp 171), none⟩,
 ⟨some 173, .fad 0 (.tmp 12), some (172, false)⟩,
 ⟨some 174, .ld false 1 (.tmp 173), some (172, false)⟩,
 ⟨some 175, .cmp .neq (.tmp 174) (.cst (.d (.int .i64 2))), some (172, false)⟩,
 ⟨some 176, .pick (.tmp 172) (.cst (.d (.bool true))) (.tmp 175), none⟩,
 ⟨some 177, .mov (.tmp 176), none⟩,
 ⟨some 178, .fad 1 (.tmp 14), some (177, false)⟩,
 ⟨some 179, .ld false 1 (.tmp 178), some (177, false)⟩,
 ⟨some 180, .cmp .neq (.tmp 179) (.cst (.d (.int .i64 2))), some (177, false)⟩,
 ⟨some 181, .pick (.tmp 177) (.cst (.d (.bool true))) (.tmp 180), none⟩,
 ⟨some 182, .mov (.tmp 181), none⟩,
 ⟨some 183, .fad 0 (.tmp 15), some (182, false)⟩,
 ⟨some 184, .ld false 1 (.tmp 183), some (182, false)⟩,
 ⟨some 185, .cmp .neq (.tmp 184) (.cst (.d (.int .i64 2))), some (182, false)⟩,
 ⟨some 186, .pick (.tmp 182) (.cst (.d (.bool true))) (.tmp 185), none⟩,
 ⟨some 187, .mov (.tmp 186), none⟩,
 ⟨some 188, .fad 1 (.tmp 17), some (187, false)⟩,
 ⟨some 189, .ld false 1 (.tmp 188), some (187, false)⟩,
 ⟨some 190, .cmp .neq (.tmp 189) (.cst (.d (.int .i64 3))), some (187, false)⟩,
 ⟨some 191, .pick (.tmp 187) (.cst (.d (.bool true))) (.tmp 190), none⟩,
 ⟨some 192, .mov (.tmp 191), none⟩,
 ⟨some 193, .fad 0 (.tmp 18), some (192, false)⟩,
 ⟨some 194, .ld false 1 (.tmp 193), some (192, false)⟩,
 ⟨some 195, .cmp .neq (.tmp 194) (.cst (.d (.int .i64 3))), some (192, false)⟩,
 ⟨some 196, .pick (.tmp 192) (.cst (.d (.bool true))) (.tmp 195), none⟩,
 ⟨some 197, .mov (.tmp 196), none⟩,
 ⟨some 198, .fad 1 (.tmp 18), some (197, false)⟩,
 ⟨some 199, .ld false 1 (.tmp 198), some (197, false)⟩,
 ⟨some 200, .call 23 [(.tmp 199)], some (197, false)⟩,
 ⟨some 201, .call 78 [], some (197, false)⟩,
 ⟨some 202, .call 23 [(.tmp 201)], some (197, false)⟩,
 ⟨some 203, .call 22 [(.tmp 200), (.tmp 202)], some (197, false)⟩,
 ⟨some 204, .not (.tmp 203), some (197, false)⟩,
 ⟨some 205, .pick (.tmp 197) (.cst (.d (.bool true))) (.tmp 204), none⟩])
 (.cond (.tmp 205)
 (.seq
 (.reg [] [⟨some 0, .mov (.cst (.d (.bool false))), none⟩])
 .ret)
 .skip))
 (.seq
 (.reg [20] [⟨some 206, .call 79 [(.cst (.d (.int .i64 17)))], none⟩,
 ⟨some 207, .build [(.nils 4), (.d (.int .i64 0)), (.d (.int .i64 0))] [(0, 1, (.tmp 206)), (1, 1, (.cst (.d (.int .i64 15)))), (2, 1, (.cst (.d (.int .i64 4))))], none⟩,
 ⟨some 20, .alloc 20 [(.nils 4), (.d (.int .i64 0)), (.d (.int .i64 0))], none⟩,
 ⟨none, .st 3 (.tmp 20) (.tmp 207), none⟩])
 (.seq
 (.reg [] [⟨some 209, .ld true 3 (.tmp 20), none⟩,
 ⟨some 210, .call 31 [(.tmp 209)], none⟩,
 ⟨some 208, .mov (.tmp 210), none⟩,
 ⟨some 211, .ext 0 (.tmp 208), none⟩,
 ⟨some 212, .ext 1 (.tmp 208), none⟩,
 ⟨some 213, .ext 2 (.tmp 208), none⟩,
 ⟨some 21, .mov (.tmp 211), none⟩,
 ⟨some 22, .mov (.tmp 212), none⟩,
 ⟨some 23, .mov (.tmp 213), none⟩])
 (.seq
 (.reg [21] [⟨some 215, .ld true 3 (.tmp 20), none⟩,
 ⟨some 216, .call 35 [(.tmp 215), (.cst (.d (.int .i64 1)))], none⟩,
 ⟨some 214, .mov (.tmp 216), none⟩,
 ⟨some 217, .ext 0 (.tmp 214), none⟩,
 ⟨some 218, .ext 1 (.tmp 214), none⟩,
 ⟨some 24, .alloc 21 [(.nils 4), (.d (.int .i64 0)), (.d (.int .i64 0))], none⟩,
 ⟨none, .st 3 (.tmp 24) (.tmp 217), none⟩,
 ⟨some 25, .mov (.tmp 218), none⟩])
 (.seq
 (.reg [22] [⟨some 220, .ld true 3 (.tmp 20), none⟩,
 ⟨some 221, .call 35 [(.tmp 220), (.cst (.d (.int .i64 3)))], none⟩,
 ⟨some 219, .mov (.tmp 221), none⟩,
 ⟨some 222, .ext 0 (.tmp 219), none⟩,
 ⟨some 223, .ext 1 (.tmp 219), none⟩,
 ⟨some 26, .alloc 22 [(.nils 4), (.d (.int .i64 0)), (.d (.int .i64 0))], none⟩,
 ⟨none, .st 3 (.tmp 26) (.tmp 222), none⟩,
 ⟨some 27, .mov (.tmp 223), none⟩])
 (.seq
 (.reg [23] [⟨some 225, .build [(.d (.int .i64 0)), (.nils 4)] [], none⟩,
 ⟨some 226, .call 78 [], none⟩,
 ⟨some 227, .ixa 4 (.tmp 226) (.cst (.d (.int .i64 0))), none⟩,
 ⟨some 228, .ld true 4 (.tmp 227), none⟩,
 ⟨some 229, .call 33 [(.tmp 225), (.tmp 228), (.cst (.d (.int .i64 0)))], none⟩,
 ⟨some 224, .mov (.tmp 229), none⟩,
 ⟨some 230, .ext 0 (.tmp 224), none⟩,
 ⟨some 231, .ext 1 (.tmp 224), none⟩,
 ⟨some 232, .ext 2 (.tmp 224), none⟩,
 ⟨some 28, .alloc 23 [(.d (.int .i64 0)), (.nils 4)], none⟩,
 ⟨none, .st 2 (.tmp 28) (.tmp 230), none⟩,
 ⟨some 29, .mov (.tmp 231), none⟩,
 ⟨some 30, .mov (.tmp 232), none⟩])
 (.seq
 (.reg [] [⟨some 234, .call 80 [], none⟩,
 ⟨some 235, .call 54 [(.tmp 234)], none⟩,
 ⟨some 233, .mov (.tmp 235), none⟩,
 ⟨some 236, .ext 0 (.tmp 233), none⟩,
 ⟨some 237, .ext 1 (.tmp 233), none⟩,
 ⟨some 31, .mov (.tmp 236), none⟩,
 ⟨some 32, .mov (.tmp 237), none⟩])
 (.seq
 (.reg [] [⟨some 239, .call 80 [], none⟩,
 ⟨some 240, .call 56 [(.tmp 239), (.cst (.d (.int .i64 9)))], none⟩,
 ⟨some 238, .mov (.tmp 240), none⟩,
 ⟨some 241, .ext 0 (.tmp 238), none⟩,
 ⟨some 242, .ext 1 (.tmp 238), none⟩,
 ⟨some 243, .ext 2 (.tmp 238), none⟩,
 ⟨some 33, .mov (.tmp 241), none⟩,
 ⟨some 34, .mov (.tmp 242), none⟩,
 ⟨some 35, .mov (.tmp 243), none⟩])
 (.seq
 (.reg [] [⟨some 245, .call 57 [(.cst (.d (.int .i64 3)))], none⟩,
 ⟨some 244, .mov (.tmp 245), none⟩,
 ⟨some 246, .ext 0 (.tmp 244), none⟩,
 ⟨some 247, .ext 1 (.tmp 244), none⟩,
 ⟨some 36, .mov (.tmp 246), none⟩,
 ⟨some 37, .mov (.tmp 247), none⟩])
 (.seq
 (.reg [24] [⟨some 249, .bsl 24 4 1 3 [(.bool false), (.bool false), (.bool false)] [(0, (.cst (.d (.bool true)))), (1, (.cst (.d (.bool false)))), (2, (.cst (.d (.bool true))))], none⟩,
 ⟨some 250, .call 58 [(.tmp 249), (.cst (.d (.int .i64 1))), (.cst (.d (.int .i64 4)))], none⟩,
 ⟨some 248, .mov (.tmp 250), none⟩,
 ⟨some 251, .ext 0 (.tmp 248), none⟩,
 ⟨some 252, .ext 1 (.tmp 248), none⟩,
 ⟨some 38, .mov (.tmp 251), none⟩,
 ⟨some 39, .mov (.tmp 252), none⟩])
 (.seq
 (.reg [25] [⟨some 254, .call 80 [], none⟩,
 ⟨some 255, .bsl 25 4 1 2 [(.bool false), (.bool false)] [(0, (.cst (.d (.bool true)))), (1, (.cst (.d (.bool false))))], none⟩,
 ⟨some 256, .call 59 [(.tmp 254), (.tmp 255), (.cst (.d (.int .i64 4)))], none⟩,
 ⟨some 253, .mov (.tmp 256), none⟩,
 ⟨some 257, .ext 0 (.tmp 253), none⟩,
 ⟨some 258, .ext 1 (.tmp 253), none⟩,
 ⟨some 40, .mov (.tmp 257), none⟩,
 ⟨some 41, .mov (.tmp 258), none⟩])
 (.seq
 (.reg [26, 27] [⟨some 260, .bsl 26 5 1 1 [(.int .u8 0)] [(0, (.cst (.d (.int .u8 7))))], none⟩,
 ⟨some 261, .build [(.d (.int .i64 0)), (.d (.int .i64 0)), (.d (.int .i64 0)), (.nils 1)] [(0, 1, (.cst (.d (.int .i64 9)))), (1, 1, (.cst (.d (.int .i64 1)))), (2, 1, (.cst (.d (.int .i64 2)))), (3, 1, (.tmp 260))], none⟩,
 ⟨some 262, .bsl 27 38 4 1 [(.agg [(.int .i64 0), (.int .i64 0), (.int .i64 0), (.slice 1 [])])] [(0, (.tmp 261))], none⟩,
 ⟨some 263, .call 72 [(.tmp 262)], none⟩,
 ⟨some 259, .mov (.tmp 263), none⟩,
 ⟨some 264, .ext 0 (.tmp 259), none⟩,
 ⟨some 265, .ext 1 (.tmp 259), none⟩,
 ⟨some 42, .mov (.tmp 264), none⟩,
 ⟨some 43, .mov (.tmp 265), none⟩])
 (.seq
 (.reg [28, 29, 30, 31] [⟨some 266, .mov (.tmp 23), none⟩,
 ⟨some 267, .mov (.tmp 25), none⟩,
 ⟨some 268, .arith .add .i64 (.tmp 266) (.tmp 267), none⟩,
 ⟨some 269, .mov (.tmp 27), none⟩,
 ⟨some 270, .arith .add .i64 (.tmp 268) (.tmp 269), none⟩,
 ⟨some 271, .mov (.tmp 30), none⟩,
 ⟨some 272, .arith .add .i64 (.tmp 270) (.tmp 271), none⟩,
 ⟨some 273, .mov (.tmp 32), none⟩,
 ⟨some 274, .arith .add .i64 (.tmp 272) (.tmp 273), none⟩,
 ⟨some 275, .mov (.tmp 35), none⟩,
 ⟨some 276, .arith .add .i64 (.tmp 274) (.tmp 275), none⟩,
 ⟨some 277, .mov (.tmp 37), none⟩,
 ⟨some 278, .arith .add .i64 (.tmp 276) (.tmp 277), none⟩,
 ⟨some 279, .mov (.tmp 39), none⟩,
 ⟨some 280, .arith .add .i64 (.tmp 278) (.tmp 279), none⟩,
 ⟨some 281, .mov (.tmp 41), none⟩,
 ⟨some 282, .arith .add .i64 (.tmp 280) (.tmp 281), none⟩,
 ⟨some 283, .mov (.tmp 43), none⟩,
 ⟨some 284, .arith .add .i64 (.tmp 282) (.tmp 283), none⟩,
 ⟨some 285, .cmp .eql (.tmp 284) (.cst (.d (.int .i64 0))), none⟩,
 ⟨some 286, .mov (.tmp 285), none⟩,
 ⟨some 287, .mov (.tmp 21), some (286, true)⟩,
 ⟨some 288, .len (.tmp 287), some (286, true)⟩,
 ⟨some 289, .cmp .eql (.tmp 288) (.cst (.d (.int .i64 2))), some (286, true)⟩,
 ⟨some 290, .pick (.tmp 286) (.tmp 289) (.cst (.d (.bool false))), none⟩,
 ⟨some 291, .mov (.tmp 290), none⟩,
 ⟨some 292, .mov (.tmp 22), some (291, true)⟩,
 ⟨some 293, .bsl 28 3 1 2 [(.int .i64 0), (.int .i64 0)] [(0, (.cst (.d (.int .i64 15)))), (1, (.cst (.d (.int .i64 0))))], some (291, true)⟩,
 ⟨some 294, .call 45 [(.tmp 292), (.tmp 293)], some (291, true)⟩,
 ⟨some 295, .pick (.tmp 291) (.tmp 294) (.cst (.d (.bool false))), none⟩,
 ⟨some 296, .mov (.tmp 295), none⟩,
 ⟨some 297, .fad 1 (.tmp 24), some (296, true)⟩,
 ⟨some 298, .ld false 1 (.tmp 297), some (296, true)⟩,
 ⟨some 299, .cmp .eql (.tmp 298) (.cst (.d (.int .i64 17))), some (296, true)⟩,
 ⟨some 300, .pick (.tmp 296) (.tmp 299) (.cst (.d (.bool false))), none⟩,
 ⟨some 301, .mov (.tmp 300), none⟩,
 ⟨some 302, .fad 1 (.tmp 26), some (301, true)⟩,
 ⟨some 303, .ld false 1 (.tmp 302), some (301, true)⟩,
 ⟨some 304, .cmp .eql (.tmp 303) (.cst (.d (.int .i64 15))), some (301, true)⟩,
 ⟨some 305, .pick (.tmp 301) (.tmp 304) (.cst (.d (.bool false))), none⟩,
 ⟨some 306, .mov (.tmp 305), none⟩,
 ⟨some 307, .fad 0 (.tmp 28), some (306, true)⟩,
 ⟨some 308, .ld false 1 (.tmp 307), some (306, true)⟩,
 ⟨some 309, .cmp .eql (.tmp 308) (.cst (.d (.int .i64 1))), some (306, true)⟩,
 ⟨some 310, .pick (.tmp 306) (.tmp 309) (.cst (.d (.bool false))), none⟩,
 ⟨some 311, .mov (.tmp 310), none⟩,
 ⟨some 312, .mov (.tmp 29), some (311, true)⟩,
 ⟨some 313, .cmp .eql (.tmp 312) (.cst (.d (.int .i64 1))), some (311, true)⟩,
 ⟨some 314, .pick (.tmp 311) (.tmp 313) (.cst (.d (.bool false))), none⟩,
 ⟨some 315, .mov (.tmp 314), none⟩,
 ⟨some 316, .mov (.tmp 31), some (315, true)⟩,
 ⟨some 317, .cmp .eql (.tmp 316) (.cst (.d (.int .i64 0))), some (315, true)⟩,
 ⟨some 318, .pick (.tmp 315) (.tmp 317) (.cst (.d (.bool false))), none⟩,
 ⟨some 319, .mov (.tmp 318), none⟩,
 ⟨some 320, .mov (.tmp 33), some (319, true)⟩,
 ⟨some 321, .bsl 29 3 1 4 [(.int .i64 0), (.int .i64 0), (.int .i64 0), (.int .i64 0)] [(0, (.cst (.d (.int .i64 0)))), (1, (.cst (.d (.int .i64 0)))), (2, (.cst (.d (.int .i64 2)))), (3, (.cst (.d (.int .i64 1))))], some (319, true)⟩,
 ⟨some 322, .call 45 [(.tmp 320), (.tmp 321)], some (319, true)⟩,
 ⟨some 323, .pick (.tmp 319) (.tmp 322) (.cst (.d (.bool false))), none⟩,
 ⟨some 324, .mov (.tmp 323), none⟩,
 ⟨some 325, .mov (.tmp 34), some (324, true)⟩,
 ⟨some 326, .len (.tmp 325), some (324, true)⟩,
 ⟨some 327, .cmp .eql (.tmp 326) (.cst (.d (.int .i64 3))), some (324, true)⟩,
 ⟨some 328, .pick (.tmp 324) (.tmp 327) (.cst (.d (.bool false))), none⟩,
 ⟨some 329, .mov (.tmp 328), none⟩,
 ⟨some 330, .mov (.tmp 36), some (329, true)⟩,
 ⟨some 331, .cmp .eql (.tmp 330) (.cst (.d (.int .i64 6))), some (329, true)⟩,
 ⟨some 332, .pick (.tmp 329) (.tmp 331) (.cst (.d (.bool false))), none⟩,
 ⟨some 333, .mov (.tmp 332), none⟩,
 ⟨some 334, .mov (.tmp 38), some (333, true)⟩,
 ⟨some 335, .bsl 30 3 1 4 [(.int .i64 0), (.int .i64 0), (.int .i64 0), (.int .i64 0)] [(0, (.cst (.d (.int .i64 2)))), (1, (.cst (.d (.int .i64 3)))), (2, (.cst (.d (.int .i64 5)))), (3, (.cst (.d (.int .i64 6))))], some (333, true)⟩,
 ⟨some 336, .call 45 [(.tmp 334), (.tmp 335)], some (333, true)⟩,
 ⟨some 337, .pick (.tmp 333) (.tmp 336) (.cst (.d (.bool false))), none⟩,
 ⟨some 338, .mov (.tmp 337), none⟩,
 ⟨some 339, .mov (.tmp 40), some (338, true)⟩,
 ⟨some 340, .bsl 31 3 1 4 [(.int .i64 0), (.int .i64 0), (.int .i64 0), (.int .i64 0)] [(0, (.cst (.d (.int .i64 0)))), (1, (.cst (.d (.int .i64 (-1))))), (2, (.cst (.d (.int .i64 0)))), (3, (.cst (.d (.int .i64 (-1)))))], some (338, true)⟩,
 ⟨some 341, .call 45 [(.tmp 339), (.tmp 340)], some (338, true)⟩,
 ⟨some 342, .pick (.tmp 338) (.tmp 341) (.cst (.d (.bool false))), none⟩,
 ⟨some 343, .mov (.tmp 342), none⟩,
 ⟨some 344, .mov (.tmp 42), some (343, true)⟩,
 ⟨some 345, .seq false (.tmp 344) (.cst (.d (.str [102, 114, 97, 109, 101, 32, 57, 32, 49, 32, 50, 32, 55, 10]))), some (343, true)⟩,
 ⟨some 346, .pick (.tmp 343) (.tmp 345) (.cst (.d (.bool false))), none⟩,
 ⟨some 0, .mov (.tmp 346), none⟩])
 .ret))))))))))))))))))))))))⟩
/-- kilovar/link.Cut -/
def tx13 : AFun := ⟨63, 44, [.tmp 6, .tmp 7],
 (.seq
 (.reg [] [⟨some 6, .mov (.cst (.nils 4)), none⟩,
 ⟨some 7, .mov (.cst (.d (.int .i64 0))), none⟩])
 (.seq
 (.seq
 (.reg [0] [⟨some 13, .mov (.tmp 0), none⟩,
 ⟨some 14, .call 82 [(.tmp 13), (.cst (.d (.int .i64 0))), (.cst (.d (.int .i64 255)))], none⟩,
 ⟨some 15, .mov (.tmp 1), none⟩,
 ⟨some 16, .len (.tmp 15), none⟩,
 ⟨some 17, .cmp .gtr (.tmp 16) (.cst (.d (.int .i64 256))), none⟩,
 ⟨some 18, .call 83 [(.tmp 17), (.cst (.d (.int .i64 5)))], none⟩,
 ⟨some 19, .mov (.tmp 2), none⟩,
 ⟨some 20, .call 82 [(.tmp 19), (.cst (.d (.int .i64 1))), (.cst (.d (.int .i64 12)))], none⟩,
 ⟨some 21, .bsl 0 31 1 3 [(.int .i64 0), (.int .i64 0), (.int .i64 0)] [(0, (.tmp 14)), (1, (.tmp 18)), (2, (.tmp 20))], none⟩,
 ⟨some 22, .call 81 [(.tmp 21)], none⟩,
 ⟨some 8, .mov (.tmp 22), none⟩])
 (.seq
 (.reg [] [⟨some 23, .mov (.tmp 8), none⟩,
 ⟨some 24, .cmp .neq (.tmp 23) (.cst (.d (.int .i64 0))), none⟩])
 (.cond (.tmp 24)
 (.seq
 (.reg [] [⟨some 25, .mov (.tmp 8), none⟩,
 ⟨some 6, .mov (.cst (.nils 4)), none⟩,
 ⟨some 7, .mov (.tmp 25), none⟩])
 .ret)
 .skip)))
 (.seq
 (.reg [] [⟨some 26, .mov (.tmp 1), none⟩,
 ⟨some 27, .len (.tmp 26), none⟩,
 ⟨some 28, .mov (.tmp 2), none⟩,
 ⟨some 29, .arith .add .i64 (.tmp 27) (.tmp 28), none⟩,
 ⟨some 30, .arith .sub .i64 (.tmp 29) (.cst (.d (.int .i64 1))), none⟩,
 ⟨some 31, .mov (.tmp 2), none⟩,
 ⟨some 32, .arith .quo .i64 (.tmp 30) (.tmp 31), none⟩,
 ⟨some 33, .maxi (.cst (.d (.int .i64 1))) (.tmp 32), none⟩,
 ⟨some 9, .mov (.tmp 33), none⟩])
 (.seq
 (.seq
 (.reg [] [⟨some 34, .mov (.tmp 9), none⟩,
 ⟨some 35, .cmp .gtr (.tmp 34) (.cst (.d (.int .i64 64))), none⟩])
 (.cond (.tmp 35)
 (.seq
 (.reg [] [⟨some 6, .mov (.cst (.nils 4)), none⟩,
 ⟨some 7, .mov (.cst (.d (.int .i64 5))), none⟩])
 .ret)
 .skip))
 (.seq
 (.reg [] [⟨some 10, .mov (.cst (.nils 4)), none⟩])
 (.seq
 (.seq
 (.reg [] [⟨some 36, .mov (.tmp 9), none⟩,
 ⟨some 37, .mov (.cst (.d (.int .i64 0))), none⟩])
 (.post [10] [0, 1, 2, 3]
 (.block 0
 (.asrow 3 38 4 10
 (.keep [0, 1, 2, 9, 10, 36, 37] [0]
 (.loop
 (.post [0, 1, 2, 9, 10, 36, 37] [1, 2, 3]
 (.seq
 (.reg [] [⟨some 38, .cmp .lss (.tmp 37) (.tmp 36), none⟩])
 (.seq
 (.cond (.tmp 38)
 .skip
 (.exit 0))
 (.seq
 (.block 1
 (.seq
 (.reg [] [⟨some 39, .mov (.tmp 37), none⟩,
 ⟨some 11, .mov (.tmp 39), none⟩])
 (.seq
 (.reg [1] [⟨some 40, .mov (.tmp 0), none⟩,
 ⟨some 41, .mov (.tmp 11), none⟩,
 ⟨some 42, .mov (.tmp 9), none⟩,
 ⟨some 43, .mov (.tmp 1), none⟩,
 ⟨some 44, .mov (.tmp 11), none⟩,
 ⟨some 45, .mov (.tmp 2), none⟩,
 ⟨some 46, .arith .mul .i64 (.tmp 44) (.tmp 45), none⟩,
 ⟨some 47, .mov (.tmp 1), none⟩,
 ⟨some 48, .len (.tmp 47), none⟩,
 ⟨some 49, .mov (.tmp 11), none⟩,
 ⟨some 50, .arith .add .i64 (.tmp 49) (.cst (.d (.int .i64 1))), none⟩,
 ⟨some 51, .mov (.tmp 2), none⟩,
 ⟨some 52, .arith .mul .i64 (.tmp 50) (.tmp 51), none⟩,
 ⟨some 53, .mini (.tmp 48) (.tmp 52), none⟩,
 ⟨some 54, .slc 1 (.tmp 43) (some (.tmp 46)) (some (.tmp 53)), none⟩,
 ⟨some 55, .build [(.d (.int .i64 0)), (.d (.int .i64 0)), (.d (.int .i64 0)), (.nils 1)] [(0, 1, (.tmp 40)), (1, 1, (.tmp 41)), (2, 1, (.tmp 42)), (3, 1, (.tmp 54))], none⟩,
 ⟨some 12, .alloc 1 [(.d (.int .i64 0)), (.d (.int .i64 0)), (.d (.int .i64 0)), (.nils 1)], none⟩,
 ⟨none, .st 4 (.tmp 12) (.tmp 55), none⟩])
 (.reg [2, 3] [⟨some 56, .mov (.tmp 10), none⟩,
 ⟨some 57, .ld true 4 (.tmp 12), none⟩,
 ⟨some 58, .call 84 [(.tmp 57)], none⟩,
 ⟨some 59, .bsl 2 38 4 1 [(.agg [(.int .i64 0), (.int .i64 0), (.int .i64 0), (.slice 1 [])])] [(0, (.tmp 58))], none⟩,
 ⟨some 60, .app 3 38 4 48 (.tmp 56) (.tmp 59), none⟩,
 ⟨some 10, .mov (.tmp 60), none⟩]))))
 (.reg [] [⟨some 61, .arith .add .i64 (.tmp 37) (.cst (.d (.int .i64 1))), none⟩,
 ⟨some 37, .mov (.tmp 61), none⟩])))))))))))
 (.seq
 (.reg [] [⟨some 62, .mov (.tmp 10), none⟩,
 ⟨some 6, .mov (.tmp 62), none⟩,
 ⟨some 7, .mov (.cst (.d (.int .i64 0))), none⟩])
 .ret)))))))⟩
/-- kilovar/link.Joined -/
def tx14 : AFun := ⟨95, 46, [.tmp 2, .tmp 3],
 (.seq
 (.reg [] [⟨some 2, .mov (.cst (.nils 1)), none⟩,
 ⟨some 3, .mov (.cst (.d (.int .i64 0))), none⟩])
 (.scope
 (.seq
 (.seq
 (.reg [0] [⟨some 15, .mov (.tmp 0), none⟩,
 ⟨some 16, .call 85 [(.tmp 15)], none⟩,
 ⟨some 17, .mov (.tmp 0), none⟩,
 ⟨some 18, .len (.tmp 17), none⟩,
 ⟨some 19, .cmp .eql (.tmp 18) (.cst (.d (.int .i64 0))), none⟩,
 ⟨some 20, .call 83 [(.tmp 19), (.cst (.d (.int .i64 12)))], none⟩,
 ⟨some 21, .bsl 0 31 1 2 [(.int .i64 0), (.int .i64 0)] [(0, (.tmp 16)), (1, (.tmp 20))], none⟩,
 ⟨some 22, .call 81 [(.tmp 21)], none⟩,
 ⟨some 4, .mov (.tmp 22), none⟩])
 (.seq
 (.reg [] [⟨some 23, .mov (.tmp 4), none⟩,
 ⟨some 24, .cmp .neq (.tmp 23) (.cst (.d (.int .i64 0))), none⟩])
 (.cond (.tmp 24)
 (.seq
 (.reg [] [⟨some 25, .mov (.tmp 4), none⟩,
 ⟨some 2, .mov (.cst (.nils 1)), none⟩,
 ⟨some 3, .mov (.tmp 25), none⟩])
 .ret)
 .skip)))
 (.seq
 (.reg [1] [⟨some 26, .mkm 1, none⟩,
 ⟨some 5, .mov (.tmp 26), none⟩])
 (.seq
 (.seq
 (.reg [] [⟨some 27, .mov (.tmp 0), none⟩,
 ⟨some 28, .len (.tmp 27), none⟩,
 ⟨some 29, .mov (.cst (.d (.int .i64 0))), none⟩])
 (.post [0, 5] [0, 1, 2, 3]
 (.block 0
 (.keep [0, 5, 27, 28, 29] [0, 1]
 (.loop
 (.post [0, 5, 27, 28, 29] [2, 3]
 (.seq
 (.reg [] [⟨some 30, .cmp .lss (.tmp 29) (.tmp 28), none⟩])
 (.seq
 (.cond (.tmp 30)
 .skip
 (.exit 0))
 (.seq
 (.block 1
 (.seq
 (.reg [2] [⟨some 31, .ixa 4 (.tmp 27) (.tmp 29), none⟩,
 ⟨some 32, .ld true 4 (.tmp 31), none⟩,
 ⟨some 7, .alloc 2 [(.d (.int .i64 0)), (.d (.int .i64 0)), (.d (.int .i64 0)), (.nils 1)], none⟩,
 ⟨none, .st 4 (.tmp 7) (.tmp 32), none⟩])
 (.seq
 (.reg [3] [⟨some 34, .mov (.tmp 5), none⟩,
 ⟨some 35, .fad 1 (.tmp 7), none⟩,
 ⟨some 36, .ld false 1 (.tmp 35), none⟩,
 ⟨some 37, .lkp (some .i64) (.agg [(.int .i64 0), (.int .i64 0), (.int .i64 0), (.slice 1 [])]) true (.tmp 34) (.tmp 36), none⟩,
 ⟨some 33, .mov (.tmp 37), none⟩,
 ⟨some 38, .ext 0 (.tmp 33), none⟩,
 ⟨some 39, .ext 1 (.tmp 33), none⟩,
 ⟨some 8, .alloc 3 [(.d (.int .i64 0)), (.d (.int .i64 0)), (.d (.int .i64 0)), (.nils 1)], none⟩,
 ⟨none, .st 4 (.tmp 8) (.tmp 38), none⟩,
 ⟨some 9, .mov (.tmp 39), none⟩])
 (.seq
 (.seq
 (.regd [] [⟨some 40, .fad 0 (.tmp 7), none⟩,
 ⟨some 41, .ld false 1 (.tmp 40), none⟩,
 ⟨some 42, .mov (.tmp 0), none⟩,
 ⟨some 43, .ixa 4 (.tmp 42) (.cst (.d (.int .i64 0))), none⟩,
 ⟨some 44, .fad 0 (.tmp 43), none⟩,
 ⟨some 45, .ld false 1 (.tmp 44), none⟩,
 ⟨some 46, .cmp .neq (.tmp 41) (.tmp 45), none⟩,
 ⟨some 47, .mov (.tmp 46), none⟩,
 ⟨some 48, .fad 2 (.tmp 7), some (47, false)⟩,
 ⟨some 49, .ld false 1 (.tmp 48), some (47, false)⟩,
 ⟨some 50, .mov (.tmp 0), some (47, false)⟩,
 ⟨some 51, .ixa 4 (.tmp 50) (.cst (.d (.int .i64 0))), some (47, false)⟩,
 ⟨some 52, .fad 2 (.tmp 51), some (47, false)⟩,
 ⟨some 53, .ld false 1 (.tmp 52), some (47, false)⟩,
 ⟨some 54, .cmp .neq (.tmp 49) (.tmp 53), some (47, false)⟩,
 ⟨some 55, .pick (.tmp 47) (.cst (.d (.bool true))) (.tmp 54), none⟩,
 ⟨some 56, .mov (.tmp 55), none⟩,
 ⟨some 57, .mov (.tmp 9), some (56, false)⟩,
 ⟨some 58, .mov (.tmp 57), some (56, false)⟩,
 ⟨some 59, .fad 3 (.tmp 8), some (58, true)⟩,
 ⟨some 60, .ld false 1 (.tmp 59), some (58, true)⟩,
 ⟨some 61, .fad 3 (.tmp 7), some (58, true)⟩,
 ⟨some 62, .ld false 1 (.tmp 61), some (58, true)⟩,
 ⟨some 63, .call 86 [(.tmp 60), (.tmp 62)], some (58, true)⟩,
 ⟨some 64, .not (.tmp 63), some (58, true)⟩,
 ⟨some 65, .pick (.tmp 58) (.tmp 64) (.cst (.d (.bool false))), some (56, false)⟩,
 ⟨some 66, .pick (.tmp 56) (.cst (.d (.bool true))) (.tmp 65), none⟩] [(0, 2), (1, 2), (0, 3), (1, 3), (0, 4), (1, 4), (0, 5), (1, 5), (8, 10), (9, 10), (8, 11), (9, 11), (8, 12), (9, 12), (8, 13), (9, 13), (19, 21), (20, 21), (19, 22), (20, 22)])
 (.cond (.tmp 66)
 (.seq
 (.reg [] [⟨some 2, .mov (.cst (.nils 1)), none⟩,
 ⟨some 3, .mov (.cst (.d (.int .i64 24))), none⟩])
 .ret)
 .skip))
 (.reg [] [⟨some 67, .mov (.tmp 5), none⟩,
 ⟨some 68, .fad 1 (.tmp 7), none⟩,
 ⟨some 69, .ld false 1 (.tmp 68), none⟩,
 ⟨some 70, .ld true 4 (.tmp 7), none⟩,
 ⟨none, .mpu (some .i64) (.tmp 67) (.tmp 69) (.tmp 70), none⟩])))))
 (.reg [] [⟨some 71, .arith .add .i64 (.tmp 29) (.cst (.d (.int .i64 1))), none⟩,
 ⟨some 29, .mov (.tmp 71), none⟩]))))))))))
 (.seq
 (.reg [] [⟨some 10, .mov (.cst (.nils 1)), none⟩])
 (.seq
 (.reg [] [⟨some 11, .mov (.cst (.d (.bool true))), none⟩])
 (.seq
 .skip
 (.seq
 (.seq
 (.reg [] [⟨some 72, .mov (.tmp 0), none⟩,
 ⟨some 73, .ixa 4 (.tmp 72) (.cst (.d (.int .i64 0))), none⟩,
 ⟨some 74, .fad 2 (.tmp 73), none⟩,
 ⟨some 75, .ld false 1 (.tmp 74), none⟩,
 ⟨some 76, .mov (.cst (.d (.int .i64 0))), none⟩])
 (.post [10, 11] [0, 1, 2, 3, 4, 5]
 (.block 2
 (.asrow 5 5 1 10
 (.keep [5, 10, 11, 75, 76] [0, 1, 2, 3]
 (.loop
 (.post [5, 10, 11, 75, 76] [4, 5]
 (.seq
 (.reg [] [⟨some 77, .cmp .lss (.tmp 76) (.tmp 75), none⟩])
 (.seq
 (.cond (.tmp 77)
 .skip
 (.exit 2))
 (.seq
 (.block 3
 (.seq
 (.reg [] [⟨some 78, .mov (.tmp 76), none⟩,
 ⟨some 12, .mov (.tmp 78), none⟩])
 (.seq
 (.reg [4] [⟨some 80, .mov (.tmp 5), none⟩,
 ⟨some 81, .mov (.tmp 12), none⟩,
 ⟨some 82, .lkp (some .i64) (.agg [(.int .i64 0), (.int .i64 0), (.int .i64 0), (.slice 1 [])]) true (.tmp 80) (.tmp 81), none⟩,
 ⟨some 79, .mov (.tmp 82), none⟩,
 ⟨some 83, .ext 0 (.tmp 79), none⟩,
 ⟨some 84, .ext 1 (.tmp 79), none⟩,
 ⟨some 13, .alloc 4 [(.d (.int .i64 0)), (.d (.int .i64 0)), (.d (.int .i64 0)), (.nils 1)], none⟩,
 ⟨none, .st 4 (.tmp 13) (.tmp 83), none⟩,
 ⟨some 14, .mov (.tmp 84), none⟩])
 (.seq
 (.seq
 (.reg [] [⟨some 85, .mov (.tmp 14), none⟩,
 ⟨some 86, .not (.tmp 85), none⟩])
 (.cond (.tmp 86)
 (.seq
 (.reg [] [⟨some 11, .mov (.cst (.d (.bool false))), none⟩])
 (.exit 2))
 .skip))
 (.reg [5] [⟨some 87, .mov (.tmp 10), none⟩,
 ⟨some 88, .fad 3 (.tmp 13), none⟩,
 ⟨some 89, .ld false 1 (.tmp 88), none⟩,
 ⟨some 90, .app 5 5 1 1 (.tmp 87) (.tmp 89), none⟩,
 ⟨some 10, .mov (.tmp 90), none⟩])))))
 (.reg [] [⟨some 91, .arith .add .i64 (.tmp 76) (.cst (.d (.int .i64 1))), none⟩,
 ⟨some 76, .mov (.tmp 91), none⟩])))))))))))
 (.seq
 (.seq
 (.reg [] [⟨some 92, .mov (.tmp 11), none⟩,
 ⟨some 93, .not (.tmp 92), none⟩])
 (.cond (.tmp 93)
 (.seq
 (.reg [] [⟨some 2, .mov (.cst (.nils 1)), none⟩,
 ⟨some 3, .mov (.cst (.d (.int .i64 16))), none⟩])
 .ret)
 .skip))
 (.seq
 (.reg [] [⟨some 94, .mov (.tmp 10), none⟩,
 ⟨some 2, .mov (.tmp 94), none⟩,
 ⟨some 3, .mov (.cst (.d (.int .i64 0))), none⟩])
 .ret)))))))))))⟩
/-- kilovar/link.Unpacked -/
def tx16 : AFun := ⟨37, 43, [.cell 2 4 true, .tmp 3],
 (.seq
 (.reg [0, 1] [⟨some 1, .cbx 0 16 (.tmp 0), none⟩,
 ⟨some 2, .alloc 1 [(.d (.int .i64 0)), (.d (.int .i64 0)), (.d (.int .i64 0)), (.nils 1)], none⟩,
 ⟨some 3, .mov (.cst (.d (.int .i64 0))), none⟩])
 (.seq
 (.reg [2] [⟨some 5, .ixp 16 1 (.tmp 1) (.cst (.d (.int .i64 0))), none⟩,
 ⟨some 6, .ld false 1 (.tmp 5), none⟩,
 ⟨some 7, .conv .i64 (.tmp 6), none⟩,
 ⟨some 8, .ixp 16 1 (.tmp 1) (.cst (.d (.int .i64 1))), none⟩,
 ⟨some 9, .ld false 1 (.tmp 8), none⟩,
 ⟨some 10, .conv .i64 (.tmp 9), none⟩,
 ⟨some 11, .ixp 16 1 (.tmp 1) (.cst (.d (.int .i64 2))), none⟩,
 ⟨some 12, .ld false 1 (.tmp 11), none⟩,
 ⟨some 13, .conv .i64 (.tmp 12), none⟩,
 ⟨some 14, .build [(.d (.int .i64 0)), (.d (.int .i64 0)), (.d (.int .i64 0)), (.nils 1)] [(0, 1, (.tmp 7)), (1, 1, (.tmp 10)), (2, 1, (.tmp 13))], none⟩,
 ⟨some 4, .alloc 2 [(.d (.int .i64 0)), (.d (.int .i64 0)), (.d (.int .i64 0)), (.nils 1)], none⟩,
 ⟨none, .st 4 (.tmp 4) (.tmp 14), none⟩])
 (.seq
 (.seq
 (.reg [] [⟨some 15, .ixp 16 1 (.tmp 1) (.cst (.d (.int .i64 3))), none⟩,
 ⟨some 16, .ld false 1 (.tmp 15), none⟩,
 ⟨some 17, .cmp .gtr (.tmp 16) (.cst (.d (.int .u8 12))), none⟩])
 (.cond (.tmp 17)
 (.seq
 (.reg [] [⟨some 18, .build [(.d (.int .i64 0)), (.d (.int .i64 0)), (.d (.int .i64 0)), (.nils 1)] [], none⟩,
 ⟨none, .st 4 (.tmp 2) (.tmp 18), none⟩,
 ⟨some 3, .mov (.cst (.d (.int .i64 1))), none⟩])
 .ret)
 .skip))
 (.seq
 (.reg [] [⟨some 19, .ixp 16 1 (.tmp 1) (.cst (.d (.int .i64 3))), none⟩,
 ⟨some 20, .ld false 1 (.tmp 19), none⟩,
 ⟨some 21, .conv .i64 (.tmp 20), none⟩,
 ⟨some 22, .arith .add .i64 (.cst (.d (.int .i64 4))) (.tmp 21), none⟩,
 ⟨some 23, .sla 16 (.tmp 1) (some (.cst (.d (.int .i64 4)))) (some (.tmp 22)), none⟩,
 ⟨some 24, .call 87 [(.tmp 23)], none⟩,
 ⟨some 25, .fad 3 (.tmp 4), none⟩,
 ⟨none, .st 1 (.tmp 25) (.tmp 24), none⟩])
 (.seq
 (.seq
 (.regd [] [⟨some 26, .ld true 4 (.tmp 4), none⟩,
 ⟨some 27, .call 30 [(.tmp 26)], none⟩,
 ⟨some 28, .cmp .neq (.tmp 27) (.cst (.d (.int .i64 0))), none⟩,
 ⟨some 29, .mov (.tmp 28), none⟩,
 ⟨some 30, .ld true 4 (.tmp 4), some (29, false)⟩,
 ⟨some 31, .call 88 [(.tmp 30)], some (29, false)⟩,
 ⟨some 32, .ld true 16 (.tmp 1), some (29, false)⟩,
 ⟨some 33, .aeq true [0, 0, 0, 0, 0, 0, 0, 0, 0, 0, 0, 0, 0, 0, 0, 0] (.tmp 31) (.tmp 32), some (29, false)⟩,
 ⟨some 34, .pick (.tmp 29) (.cst (.d (.bool true))) (.tmp 33), none⟩] [(4, 6), (5, 6)])
 (.cond (.tmp 34)
 (.seq
 (.reg [] [⟨some 35, .build [(.d (.int .i64 0)), (.d (.int .i64 0)), (.d (.int .i64 0)), (.nils 1)] [], none⟩,
 ⟨none, .st 4 (.tmp 2) (.tmp 35), none⟩,
 ⟨some 3, .mov (.cst (.d (.int .i64 1))), none⟩])
 .ret)
 .skip))
 (.seq
 (.reg [] [⟨some 36, .ld true 4 (.tmp 4), none⟩,
 ⟨none, .st 4 (.tmp 2) (.tmp 36), none⟩,
 ⟨some 3, .mov (.cst (.d (.int .i64 0))), none⟩])
 .ret))))))⟩
/-- kilovar/kilovarref04.SameFrames -/
def tx22 : AFun := ⟨27, 40, [.tmp 4],
 (.seq
 (.reg [] [⟨some 4, .mov (.cst (.d (.bool false))), none⟩])
 (.seq
 (.seq
 (.reg [] [⟨some 6, .mov (.tmp 0), none⟩,
 ⟨some 7, .len (.tmp 6), none⟩,
 ⟨some 8, .mov (.tmp 1), none⟩,
 ⟨some 9, .len (.tmp 8), none⟩,
 ⟨some 10, .cmp .neq (.tmp 7) (.tmp 9), none⟩])
 (.cond (.tmp 10)
 (.seq
 (.reg [] [⟨some 4, .mov (.cst (.d (.bool false))), none⟩])
 .ret)
 .skip))
 (.seq
 (.seq
 (.reg [] [⟨some 5, .mov (.cst (.d (.int .i64 0))), none⟩])
 (.post [] []
 (.block 0
 (.keep [0, 1, 5] []
 (.loop
 (.post [0, 1, 5] []
 (.seq
 (.seq
 (.reg [] [⟨some 11, .mov (.tmp 5), none⟩,
 ⟨some 12, .mov (.tmp 0), none⟩,
 ⟨some 13, .len (.tmp 12), none⟩,
 ⟨some 14, .cmp .lss (.tmp 11) (.tmp 13), none⟩])
 (.cond (.tmp 14)
 .skip
 (.exit 0)))
 (.seq
 (.block 1
 (.seq
 (.regd [] [⟨some 17, .mov (.tmp 0), none⟩,
 ⟨some 18, .mov (.tmp 5), none⟩,
 ⟨some 19, .ixa 4 (.tmp 17) (.tmp 18), none⟩,
 ⟨some 20, .ld true 4 (.tmp 19), none⟩,
 ⟨some 21, .mov (.tmp 1), none⟩,
 ⟨some 22, .mov (.tmp 5), none⟩,
 ⟨some 23, .ixa 4 (.tmp 21) (.tmp 22), none⟩,
 ⟨some 24, .ld true 4 (.tmp 23), none⟩,
 ⟨some 25, .call 25 [(.tmp 20), (.tmp 24)], none⟩,
 ⟨some 26, .not (.tmp 25), none⟩] [(0, 1), (0, 4), (1, 4), (2, 4), (3, 4), (0, 5), (1, 5), (2, 5), (3, 5), (4, 5), (0, 6), (1, 6), (2, 6), (3, 6), (0, 7), (1, 7), (2, 7), (3, 7)])
 (.cond (.tmp 26)
 (.seq
 (.reg [] [⟨some 4, .mov (.cst (.d (.bool false))), none⟩])
 .ret)
 .skip)))
 (.reg [] [⟨some 15, .mov (.tmp 5), none⟩,
 ⟨some 16, .arith .add .i64 (.tmp 15) (.cst (.d (.int .i64 1))), none⟩,
 ⟨some 5, .mov (.tmp 16), none⟩])))))))))
 (.seq
 (.reg [] [⟨some 4, .mov (.cst (.d (.bool true))), none⟩])
 .ret))))⟩
/-- kilovar/kilovarlaw04.told -/
def tx23 : AFun := ⟨18, 43, [.tmp 2],
 (.seq
 (.reg [] [⟨some 2, .mov (.cst (.nils 4)), none⟩])
 (.seq
 (.reg [] [⟨some 3, .mov (.cst (.nils 4)), none⟩])
 (.seq
 (.seq
 (.reg [] [⟨some 6, .mov (.tmp 0), none⟩,
 ⟨some 7, .len (.tmp 6), none⟩,
 ⟨some 8, .mov (.cst (.d (.int .i64 0))), none⟩])
 (.post [3] [0, 1, 2]
 (.block 0
 (.asrow 2 46 4 3
 (.keep [3, 6, 7, 8] []
 (.loop
 (.post [3, 6, 7, 8] [0, 1, 2]
 (.seq
 (.reg [] [⟨some 9, .cmp .lss (.tmp 8) (.tmp 7), none⟩])
 (.seq
 (.cond (.tmp 9)
 .skip
 (.exit 0))
 (.seq
 (.block 1
 (.seq
 (.reg [0] [⟨some 10, .ixa 4 (.tmp 6) (.tmp 8), none⟩,
 ⟨some 11, .ld true 4 (.tmp 10), none⟩,
 ⟨some 5, .alloc 0 [(.d (.int .i64 0)), (.d (.int .i64 0)), (.d (.int .i64 0)), (.nils 1)], none⟩,
 ⟨none, .st 4 (.tmp 5) (.tmp 11), none⟩])
 (.reg [1, 2] [⟨some 12, .mov (.tmp 3), none⟩,
 ⟨some 13, .ld true 4 (.tmp 5), none⟩,
 ⟨some 14, .bsl 1 46 4 1 [(.agg [(.int .i64 0), (.int .i64 0), (.int .i64 0), (.slice 1 [])])] [(0, (.tmp 13))], none⟩,
 ⟨some 15, .app 2 46 4 48 (.tmp 12) (.tmp 14), none⟩,
 ⟨some 3, .mov (.tmp 15), none⟩])))
 (.reg [] [⟨some 16, .arith .add .i64 (.tmp 8) (.cst (.d (.int .i64 1))), none⟩,
 ⟨some 8, .mov (.tmp 16), none⟩])))))))))))
 (.seq
 (.reg [] [⟨some 17, .mov (.tmp 3), none⟩,
 ⟨some 2, .mov (.tmp 17), none⟩])
 .ret))))⟩
/-- kilovar/kilovarref01.SameBytes -/
def tx24 : AFun := ⟨10, 40, [.tmp 4],
 (.seq
 (.reg [] [⟨some 4, .mov (.cst (.d (.bool false))), none⟩])
 (.seq
 (.reg [] [⟨some 5, .mov (.tmp 0), none⟩,
 ⟨some 6, .b2s (.tmp 5), none⟩,
 ⟨some 7, .mov (.tmp 1), none⟩,
 ⟨some 8, .b2s (.tmp 7), none⟩,
 ⟨some 9, .seq false (.tmp 6) (.tmp 8), none⟩,
 ⟨some 4, .mov (.tmp 9), none⟩])
 .ret))⟩
/-- kilovar/kilovarref04.SameFrame -/
def tx25 : AFun := ⟨31, 42, [.tmp 4],
 (.seq
 (.reg [0, 1] [⟨some 2, .cbx 0 4 (.tmp 0), none⟩,
 ⟨some 3, .cbx 1 4 (.tmp 1), none⟩,
 ⟨some 4, .mov (.cst (.d (.bool false))), none⟩])
 (.seq
 (.reg [] [⟨some 5, .fad 0 (.tmp 2), none⟩,
 ⟨some 6, .ld false 1 (.tmp 5), none⟩,
 ⟨some 7, .fad 0 (.tmp 3), none⟩,
 ⟨some 8, .ld false 1 (.tmp 7), none⟩,
 ⟨some 9, .cmp .eql (.tmp 6) (.tmp 8), none⟩,
 ⟨some 10, .mov (.tmp 9), none⟩,
 ⟨some 11, .fad 1 (.tmp 2), some (10, true)⟩,
 ⟨some 12, .ld false 1 (.tmp 11), some (10, true)⟩,
 ⟨some 13, .fad 1 (.tmp 3), some (10, true)⟩,
 ⟨some 14, .ld false 1 (.tmp 13), some (10, true)⟩,
 ⟨some 15, .cmp .eql (.tmp 12) (.tmp 14), some (10, true)⟩,
 ⟨some 16, .pick (.tmp 10) (.tmp 15) (.cst (.d (.bool false))), none⟩,
 ⟨some 17, .mov (.tmp 16), none⟩,
 ⟨some 18, .fad 2 (.tmp 2), some (17, true)⟩,
 ⟨some 19, .ld false 1 (.tmp 18), some (17, true)⟩,
 ⟨some 20, .fad 2 (.tmp 3), some (17, true)⟩,
 ⟨some 21, .ld false 1 (.tmp 20), some (17, true)⟩,
 ⟨some 22, .cmp .eql (.tmp 19) (.tmp 21), some (17, true)⟩,
 ⟨some 23, .pick (.tmp 17) (.tmp 22) (.cst (.d (.bool false))), none⟩,
 ⟨some 24, .mov (.tmp 23), none⟩,
 ⟨some 25, .fad 3 (.tmp 2), some (24, true)⟩,
 ⟨some 26, .ld false 1 (.tmp 25), some (24, true)⟩,
 ⟨some 27, .fad 3 (.tmp 3), some (24, true)⟩,
 ⟨some 28, .ld false 1 (.tmp 27), some (24, true)⟩,
 ⟨some 29, .call 24 [(.tmp 26), (.tmp 28)], some (24, true)⟩,
 ⟨some 30, .pick (.tmp 24) (.tmp 29) (.cst (.d (.bool false))), none⟩,
 ⟨some 4, .mov (.tmp 30), none⟩])
 .ret))⟩
/-- kilovar/link.Packed -/
def tx26 : AFun := ⟨13, 42, [.cell 2 16 true, .tmp 3],
 (.seq
 (.reg [0, 1] [⟨some 1, .cbx 0 4 (.tmp 0), none⟩,
 ⟨some 2, .alloc 1 [(.d (.int .u8 0)), (.d (.int .u8 0)), (.d (.int .u8 0)), (.d (.int .u8 0)), (.d (.int .u8 0)), (.d (.int .u8 0)), (.d (.int .u8 0)), (.d (.int .u8 0)), (.d (.int .u8 0)), (.d (.int .u8 0)), (.d (.int .u8 0)), (.d (.int .u8 0)), (.d (.int .u8 0)), (.d (.int .u8 0)), (.d (.int .u8 0)), (.d (.int .u8 0))], none⟩,
 ⟨some 3, .mov (.cst (.d (.int .i64 0))), none⟩])
 (.seq
 (.seq
 (.reg [] [⟨some 5, .ld true 4 (.tmp 1), none⟩,
 ⟨some 6, .call 30 [(.tmp 5)], none⟩,
 ⟨some 4, .mov (.tmp 6), none⟩])
 (.seq
 (.reg [] [⟨some 7, .mov (.tmp 4), none⟩,
 ⟨some 8, .cmp .neq (.tmp 7) (.cst (.d (.int .i64 0))), none⟩])
 (.cond (.tmp 8)
 (.seq
 (.reg [] [⟨some 9, .build [(.d (.int .u8 0)), (.d (.int .u8 0)), (.d (.int .u8 0)), (.d (.int .u8 0)), (.d (.int .u8 0)), (.d (.int .u8 0)), (.d (.int .u8 0)), (.d (.int .u8 0)), (.d (.int .u8 0)), (.d (.int .u8 0)), (.d (.int .u8 0)), (.d (.int .u8 0)), (.d (.int .u8 0)), (.d (.int .u8 0)), (.d (.int .u8 0)), (.d (.int .u8 0))] [], none⟩,
 ⟨some 10, .mov (.tmp 4), none⟩,
 ⟨none, .st 16 (.tmp 2) (.tmp 9), none⟩,
 ⟨some 3, .mov (.tmp 10), none⟩])
 .ret)
 .skip)))
 (.seq
 (.reg [] [⟨some 11, .ld true 4 (.tmp 1), none⟩,
 ⟨some 12, .call 88 [(.tmp 11)], none⟩,
 ⟨none, .st 16 (.tmp 2) (.tmp 12), none⟩,
 ⟨some 3, .mov (.cst (.d (.int .i64 0))), none⟩])
 .ret)))⟩
/-- kilovar/link.CheckFrame -/
def tx30 : AFun := ⟨30, 42, [.tmp 2],
 (.seq
 (.reg [0] [⟨some 1, .cbx 0 4 (.tmp 0), none⟩,
 ⟨some 2, .mov (.cst (.d (.int .i64 0))), none⟩])
 (.seq
 (.seq
 (.reg [] [⟨some 6, .call 90 [], none⟩,
 ⟨some 7, .mov (.cst (.d (.int .i64 0))), none⟩])
 (.post [1] [0, 1]
 (.block 0
 (.keep [1, 6, 7] [0]
 (.loop
 (.post [1, 6, 7] [1]
 (.seq
 (.reg [] [⟨some 8, .cmp .lss (.tmp 7) (.cst (.d (.int .i64 3))), none⟩])
 (.seq
 (.cond (.tmp 8)
 .skip
 (.exit 0))
 (.seq
 (.block 1
 (.seq
 (.reg [1] [⟨some 9, .ixv true 3 3 (.tmp 6) (.tmp 7), none⟩,
 ⟨some 4, .alloc 1 [.undef, (.d (.int .i64 0)), .undef], none⟩,
 ⟨none, .st 3 (.tmp 4) (.tmp 9), none⟩])
 (.seq
 (.regd [] [⟨some 10, .fad 0 (.tmp 4), none⟩,
 ⟨some 11, .ld false 1 (.tmp 10), none⟩,
 ⟨some 12, .ld true 4 (.tmp 1), none⟩,
 ⟨some 13, .callv (.tmp 11) [(.tmp 12)], none⟩,
 ⟨some 14, .fad 1 (.tmp 4), none⟩,
 ⟨some 15, .ld false 1 (.tmp 14), none⟩,
 ⟨some 16, .fad 2 (.tmp 4), none⟩,
 ⟨some 17, .ld false 1 (.tmp 16), none⟩,
 ⟨some 18, .ld true 4 (.tmp 1), none⟩,
 ⟨some 19, .callv (.tmp 17) [(.tmp 18)], none⟩,
 ⟨some 20, .call 82 [(.tmp 13), (.tmp 15), (.tmp 19)], none⟩,
 ⟨some 5, .mov (.tmp 20), none⟩] [(0, 2), (1, 2), (0, 4), (1, 4), (2, 4), (3, 4), (0, 5), (1, 5), (2, 5), (3, 5), (0, 6), (1, 6), (2, 6), (3, 6), (4, 6), (5, 6), (0, 7), (1, 7), (2, 7), (3, 7), (4, 7), (5, 7), (0, 8), (1, 8), (2, 8), (3, 8), (4, 8), (5, 8), (6, 8), (7, 8), (4, 9), (5, 9)])
 (.seq
 (.reg [] [⟨some 21, .mov (.tmp 5), none⟩,
 ⟨some 22, .cmp .neq (.tmp 21) (.cst (.d (.int .i64 0))), none⟩])
 (.cond (.tmp 22)
 (.seq
 (.reg [] [⟨some 23, .mov (.tmp 5), none⟩,
 ⟨some 2, .mov (.tmp 23), none⟩])
 .ret)
 .skip)))))
 (.reg [] [⟨some 24, .arith .add .i64 (.tmp 7) (.cst (.d (.int .i64 1))), none⟩,
 ⟨some 7, .mov (.tmp 24), none⟩]))))))))))
 (.seq
 (.reg [] [⟨some 25, .fad 3 (.tmp 1), none⟩,
 ⟨some 26, .ld false 1 (.tmp 25), none⟩,
 ⟨some 27, .len (.tmp 26), none⟩,
 ⟨some 28, .cmp .gtr (.tmp 27) (.cst (.d (.int .i64 12))), none⟩,
 ⟨some 29, .call 83 [(.tmp 28), (.cst (.d (.int .i64 5)))], none⟩,
 ⟨some 2, .mov (.tmp 29), none⟩])
 .ret)))⟩
/-- kilovar/link.Sent -/
def tx31 : AFun := ⟨19, 41, [.tmp 2, .tmp 3, .tmp 4],
 (.seq
 (.reg [0] [⟨some 1, .cbx 0 3 (.tmp 0), none⟩,
 ⟨some 2, .mov (.cst (.nils 4)), none⟩,
 ⟨some 3, .mov (.cst (.nils 1)), none⟩,
 ⟨some 4, .mov (.cst (.d (.int .i64 0))), none⟩])
 (.seq
 (.seq
 (.reg [] [⟨some 7, .ld true 3 (.tmp 1), none⟩,
 ⟨some 8, .call 43 [(.tmp 7)], none⟩,
 ⟨some 5, .mov (.tmp 8), none⟩])
 (.seq
 (.reg [] [⟨some 9, .mov (.tmp 5), none⟩,
 ⟨some 10, .cmp .neq (.tmp 9) (.cst (.d (.int .i64 0))), none⟩])
 (.cond (.tmp 10)
 (.seq
 (.reg [] [⟨some 11, .mov (.tmp 5), none⟩,
 ⟨some 2, .mov (.cst (.nils 4)), none⟩,
 ⟨some 3, .mov (.cst (.nils 1)), none⟩,
 ⟨some 4, .mov (.tmp 11), none⟩])
 .ret)
 .skip)))
 (.seq
 (.reg [] [⟨some 12, .ld true 3 (.tmp 1), none⟩,
 ⟨some 13, .call 92 [(.tmp 12)], none⟩,
 ⟨some 14, .call 91 [(.tmp 13)], none⟩,
 ⟨some 6, .mov (.tmp 14), none⟩])
 (.seq
 (.reg [] [⟨some 15, .mov (.tmp 6), none⟩,
 ⟨some 16, .calli 93 [(.tmp 15), (.cst (.d (.fn (.func 94) [])))], none⟩,
 ⟨some 17, .mov (.tmp 6), none⟩,
 ⟨some 18, .calli 95 [(.tmp 17), (.cst (.d (.fn (.func 96) [])))], none⟩,
 ⟨some 2, .mov (.tmp 16), none⟩,
 ⟨some 3, .mov (.tmp 18), none⟩,
 ⟨some 4, .mov (.cst (.d (.int .i64 0))), none⟩])
 .ret))))⟩
/-- kilovar/link.Heard -/
def tx33 : AFun := ⟨48, 45, [.cell 6 2 true, .tmp 7, .tmp 8],
 (.seq
 (.reg [0, 1, 2] [⟨some 3, .cbx 0 2 (.tmp 0), none⟩,
 ⟨some 4, .cbx 1 4 (.tmp 1), none⟩,
 ⟨some 6, .alloc 2 [(.d (.int .i64 0)), (.nils 4)], none⟩,
 ⟨some 7, .mov (.cst (.d (.int .i64 0))), none⟩,
 ⟨some 8, .mov (.cst (.d (.int .i64 0))), none⟩])
 (.seq
 (.seq
 (.regd [3] [⟨some 11, .ld true 2 (.tmp 3), none⟩,
 ⟨some 12, .call 44 [(.tmp 11)], none⟩,
 ⟨some 13, .ld true 4 (.tmp 4), none⟩,
 ⟨some 14, .call 30 [(.tmp 13)], none⟩,
 ⟨some 15, .mov (.tmp 2), none⟩,
 ⟨some 16, .call 82 [(.tmp 15), (.cst (.d (.int .i64 0))), (.cst (.d (.int .i64 15)))], none⟩,
 ⟨some 17, .ld true 2 (.tmp 3), none⟩,
 ⟨some 18, .mov (.tmp 2), none⟩,
 ⟨some 19, .call 97 [(.tmp 17), (.tmp 18)], none⟩,
 ⟨some 20, .mov (.tmp 19), none⟩,
 ⟨some 21, .fad 0 (.tmp 3), some (20, true)⟩,
 ⟨some 22, .ld false 1 (.tmp 21), some (20, true)⟩,
 ⟨some 23, .cmp .eql (.tmp 22) (.cst (.d (.int .i64 64))), some (20, true)⟩,
 ⟨some 24, .pick (.tmp 20) (.tmp 23) (.cst (.d (.bool false))), none⟩,
 ⟨some 25, .call 83 [(.tmp 24), (.cst (.d (.int .i64 5)))], none⟩,
 ⟨some 26, .bsl 3 31 1 4 [(.int .i64 0), (.int .i64 0), (.int .i64 0), (.int .i64 0)] [(0, (.tmp 12)), (1, (.tmp 14)), (2, (.tmp 16)), (3, (.tmp 25))], none⟩,
 ⟨some 27, .call 81 [(.tmp 26)], none⟩,
 ⟨some 9, .mov (.tmp 27), none⟩] [(0, 2), (1, 2), (0, 4), (1, 4), (2, 4), (3, 4), (0, 6), (1, 6), (2, 6), (3, 6), (4, 6), (5, 6), (0, 7), (1, 7), (2, 7), (3, 7), (4, 7), (5, 7), (6, 7)])
 (.seq
 (.reg [] [⟨some 28, .mov (.tmp 9), none⟩,
 ⟨some 29, .cmp .neq (.tmp 28) (.cst (.d (.int .i64 0))), none⟩])
 (.cond (.tmp 29)
 (.seq
 (.reg [] [⟨some 30, .build [(.d (.int .i64 0)), (.nils 4)] [], none⟩,
 ⟨some 31, .mov (.tmp 9), none⟩,
 ⟨none, .st 2 (.tmp 6) (.tmp 30), none⟩,
 ⟨some 7, .mov (.cst (.d (.int .i64 0))), none⟩,
 ⟨some 8, .mov (.tmp 31), none⟩])
 .ret)
 .skip)))
 (.seq
 (.regd [4] [⟨some 32, .fad 0 (.tmp 3), none⟩,
 ⟨some 33, .ld false 1 (.tmp 32), none⟩,
 ⟨some 34, .fad 1 (.tmp 3), none⟩,
 ⟨some 35, .ld false 1 (.tmp 34), none⟩,
 ⟨some 36, .call 98 [(.tmp 35)], none⟩,
 ⟨some 37, .build [(.d (.int .i64 0)), (.nils 4)] [(0, 1, (.tmp 33)), (1, 1, (.tmp 36))], none⟩,
 ⟨some 10, .alloc 4 [(.d (.int .i64 0)), (.nils 4)], none⟩,
 ⟨none, .st 2 (.tmp 10) (.tmp 37), none⟩] [(0, 2), (1, 2), (0, 3), (1, 3), (0, 4), (1, 4), (0, 6), (1, 6), (2, 6), (3, 6), (4, 6), (5, 6)])
 (.seq
 (.seq
 (.reg [] [⟨some 38, .ld true 2 (.tmp 3), none⟩,
 ⟨some 39, .mov (.tmp 2), none⟩,
 ⟨some 40, .call 97 [(.tmp 38), (.tmp 39)], none⟩])
 (.cond (.tmp 40)
 (.reg [] [⟨some 41, .ld true 2 (.tmp 3), none⟩,
 ⟨some 42, .ld true 4 (.tmp 4), none⟩,
 ⟨some 43, .call 99 [(.tmp 41), (.tmp 42)], none⟩,
 ⟨none, .st 2 (.tmp 10) (.tmp 43), none⟩])
 .skip))
 (.seq
 (.regd [] [⟨some 44, .ld true 2 (.tmp 10), none⟩,
 ⟨some 45, .fad 0 (.tmp 10), none⟩,
 ⟨some 46, .ld false 1 (.tmp 45), none⟩,
 ⟨some 47, .arith .rem .i64 (.tmp 46) (.cst (.d (.int .i64 16))), none⟩,
 ⟨none, .st 2 (.tmp 6) (.tmp 44), none⟩,
 ⟨some 7, .mov (.tmp 47), none⟩,
 ⟨some 8, .mov (.cst (.d (.int .i64 0))), none⟩] [(0, 1), (0, 2), (0, 3), (1, 4), (2, 4), (3, 4)])
 .ret)))))⟩
/-- kilovar/link.Acknowledged -/
def tx35 : AFun := ⟨26, 43, [.cell 4 3 true, .tmp 5],
 (.seq
 (.reg [0, 1] [⟨some 2, .cbx 0 3 (.tmp 0), none⟩,
 ⟨some 4, .alloc 1 [(.nils 4), (.d (.int .i64 0)), (.d (.int .i64 0))], none⟩,
 ⟨some 5, .mov (.cst (.d (.int .i64 0))), none⟩])
 (.seq
 (.seq
 (.reg [2] [⟨some 7, .ld true 3 (.tmp 2), none⟩,
 ⟨some 8, .call 43 [(.tmp 7)], none⟩,
 ⟨some 9, .mov (.tmp 1), none⟩,
 ⟨some 10, .call 82 [(.tmp 9), (.cst (.d (.int .i64 0))), (.cst (.d (.int .i64 15)))], none⟩,
 ⟨some 11, .bsl 2 31 1 2 [(.int .i64 0), (.int .i64 0)] [(0, (.tmp 8)), (1, (.tmp 10))], none⟩,
 ⟨some 12, .call 81 [(.tmp 11)], none⟩,
 ⟨some 6, .mov (.tmp 12), none⟩])
 (.seq
 (.reg [] [⟨some 13, .mov (.tmp 6), none⟩,
 ⟨some 14, .cmp .neq (.tmp 13) (.cst (.d (.int .i64 0))), none⟩])
 (.cond (.tmp 14)
 (.seq
 (.reg [] [⟨some 15, .build [(.nils 4), (.d (.int .i64 0)), (.d (.int .i64 0))] [], none⟩,
 ⟨some 16, .mov (.tmp 6), none⟩,
 ⟨none, .st 3 (.tmp 4) (.tmp 15), none⟩,
 ⟨some 5, .mov (.tmp 16), none⟩])
 .ret)
 .skip)))
 (.seq
 (.regd [] [⟨some 17, .fad 0 (.tmp 2), none⟩,
 ⟨some 18, .ld false 1 (.tmp 17), none⟩,
 ⟨some 19, .call 98 [(.tmp 18)], none⟩,
 ⟨some 20, .ld true 3 (.tmp 2), none⟩,
 ⟨some 21, .mov (.tmp 1), none⟩,
 ⟨some 22, .call 100 [(.tmp 20), (.tmp 21)], none⟩,
 ⟨some 23, .fad 2 (.tmp 2), none⟩,
 ⟨some 24, .ld false 1 (.tmp 23), none⟩,
 ⟨some 25, .build [(.nils 4), (.d (.int .i64 0)), (.d (.int .i64 0))] [(0, 1, (.tmp 19)), (1, 1, (.tmp 22)), (2, 1, (.tmp 24))], none⟩,
 ⟨none, .st 3 (.tmp 4) (.tmp 25), none⟩,
 ⟨some 5, .mov (.cst (.d (.int .i64 0))), none⟩] [(0, 3), (1, 3), (2, 3), (0, 4), (1, 4), (2, 4), (3, 4), (0, 6), (1, 6), (2, 6), (3, 6), (4, 6), (5, 6), (0, 7), (1, 7), (2, 7), (3, 7), (4, 7), (5, 7)])
 .ret)))⟩
/-- kilovar/link.CheckSender -/
def tx43 : AFun := ⟨17, 42, [.tmp 2],
 (.seq
 (.reg [0] [⟨some 1, .cbx 0 3 (.tmp 0), none⟩,
 ⟨some 2, .mov (.cst (.d (.int .i64 0))), none⟩])
 (.seq
 (.regd [1] [⟨some 3, .fad 0 (.tmp 1), none⟩,
 ⟨some 4, .ld false 1 (.tmp 3), none⟩,
 ⟨some 5, .call 85 [(.tmp 4)], none⟩,
 ⟨some 6, .fad 1 (.tmp 1), none⟩,
 ⟨some 7, .ld false 1 (.tmp 6), none⟩,
 ⟨some 8, .fad 0 (.tmp 1), none⟩,
 ⟨some 9, .ld false 1 (.tmp 8), none⟩,
 ⟨some 10, .len (.tmp 9), none⟩,
 ⟨some 11, .call 82 [(.tmp 7), (.cst (.d (.int .i64 0))), (.tmp 10)], none⟩,
 ⟨some 12, .fad 2 (.tmp 1), none⟩,
 ⟨some 13, .ld false 1 (.tmp 12), none⟩,
 ⟨some 14, .call 82 [(.tmp 13), (.cst (.d (.int .i64 1))), (.cst (.d (.int .i64 8)))], none⟩,
 ⟨some 15, .bsl 1 31 1 3 [(.int .i64 0), (.int .i64 0), (.int .i64 0)] [(0, (.tmp 5)), (1, (.tmp 11)), (2, (.tmp 14))], none⟩,
 ⟨some 16, .call 81 [(.tmp 15)], none⟩,
 ⟨some 2, .mov (.tmp 16), none⟩] [(0, 3), (1, 3), (2, 3), (0, 4), (1, 4), (2, 4), (0, 5), (1, 5), (2, 5), (3, 5), (4, 5), (0, 6), (1, 6), (2, 6), (3, 6), (4, 6), (0, 7), (1, 7), (2, 7), (3, 7), (4, 7), (0, 9), (1, 9), (2, 9), (3, 9), (4, 9), (5, 9), (6, 9), (7, 9), (8, 9), (0, 10), (1, 10), (2, 10), (3, 10), (4, 10), (5, 10), (6, 10), (7, 10), (8, 10)])
 .ret))⟩
/-- kilovar/link.CheckReceiver -/
def tx44 : AFun := ⟨15, 42, [.tmp 2],
 (.seq
 (.reg [0] [⟨some 1, .cbx 0 2 (.tmp 0), none⟩,
 ⟨some 2, .mov (.cst (.d (.int .i64 0))), none⟩])
 (.seq
 (.regd [1] [⟨some 3, .fad 1 (.tmp 1), none⟩,
 ⟨some 4, .ld false 1 (.tmp 3), none⟩,
 ⟨some 5, .call 85 [(.tmp 4)], none⟩,
 ⟨some 6, .fad 0 (.tmp 1), none⟩,
 ⟨some 7, .ld false 1 (.tmp 6), none⟩,
 ⟨some 8, .fad 1 (.tmp 1), none⟩,
 ⟨some 9, .ld false 1 (.tmp 8), none⟩,
 ⟨some 10, .len (.tmp 9), none⟩,
 ⟨some 11, .cmp .neq (.tmp 7) (.tmp 10), none⟩,
 ⟨some 12, .call 83 [(.tmp 11), (.cst (.d (.int .i64 2)))], none⟩,
 ⟨some 13, .bsl 1 31 1 2 [(.int .i64 0), (.int .i64 0)] [(0, (.tmp 5)), (1, (.tmp 12))], none⟩,
 ⟨some 14, .call 81 [(.tmp 13)], none⟩,
 ⟨some 2, .mov (.tmp 14), none⟩] [(0, 3), (1, 3), (2, 3), (0, 4), (1, 4), (2, 4), (0, 5), (1, 5), (2, 5), (3, 5), (4, 5), (0, 6), (1, 6), (2, 6), (3, 6), (4, 6), (0, 7), (1, 7), (2, 7), (3, 7), (4, 7), (0, 8), (1, 8), (2, 8)])
 .ret))⟩
/-- kilovar/kilovarref01.SameInts -/
def tx45 : AFun := ⟨26, 40, [.tmp 4],
 (.seq
 (.reg [] [⟨some 4, .mov (.cst (.d (.bool false))), none⟩])
 (.seq
 (.seq
 (.reg [] [⟨some 6, .mov (.tmp 0), none⟩,
 ⟨some 7, .len (.tmp 6), none⟩,
 ⟨some 8, .mov (.tmp 1), none⟩,
 ⟨some 9, .len (.tmp 8), none⟩,
 ⟨some 10, .cmp .neq (.tmp 7) (.tmp 9), none⟩])
 (.cond (.tmp 10)
 (.seq
 (.reg [] [⟨some 4, .mov (.cst (.d (.bool false))), none⟩])
 .ret)
 .skip))
 (.seq
 (.seq
 (.reg [] [⟨some 5, .mov (.cst (.d (.int .i64 0))), none⟩])
 (.post [] []
 (.block 0
 (.keep [0, 1, 5] []
 (.loop
 (.post [0, 1, 5] []
 (.seq
 (.seq
 (.reg [] [⟨some 11, .mov (.tmp 5), none⟩,
 ⟨some 12, .mov (.tmp 0), none⟩,
 ⟨some 13, .len (.tmp 12), none⟩,
 ⟨some 14, .cmp .lss (.tmp 11) (.tmp 13), none⟩])
 (.cond (.tmp 14)
 .skip
 (.exit 0)))
 (.seq
 (.block 1
 (.seq
 (.regd [] [⟨some 17, .mov (.tmp 0), none⟩,
 ⟨some 18, .mov (.tmp 5), none⟩,
 ⟨some 19, .ixa 1 (.tmp 17) (.tmp 18), none⟩,
 ⟨some 20, .ld false 1 (.tmp 19), none⟩,
 ⟨some 21, .mov (.tmp 1), none⟩,
 ⟨some 22, .mov (.tmp 5), none⟩,
 ⟨some 23, .ixa 1 (.tmp 21) (.tmp 22), none⟩,
 ⟨some 24, .ld false 1 (.tmp 23), none⟩,
 ⟨some 25, .cmp .neq (.tmp 20) (.tmp 24), none⟩] [(0, 1), (0, 4), (1, 4), (2, 4), (3, 4), (0, 5), (1, 5), (2, 5), (3, 5), (4, 5), (0, 6), (1, 6), (2, 6), (3, 6), (0, 7), (1, 7), (2, 7), (3, 7)])
 (.cond (.tmp 25)
 (.seq
 (.reg [] [⟨some 4, .mov (.cst (.d (.bool false))), none⟩])
 .ret)
 .skip)))
 (.reg [] [⟨some 15, .mov (.tmp 5), none⟩,
 ⟨some 16, .arith .add .i64 (.tmp 15) (.cst (.d (.int .i64 1))), none⟩,
 ⟨some 5, .mov (.tmp 16), none⟩])))))))))
 (.seq
 (.reg [] [⟨some 4, .mov (.cst (.d (.bool true))), none⟩])
 .ret))))⟩
/-- kilovar/link.Exchanged -/
def tx49 : AFun := ⟨93, 49, [.cell 6 3 true, .cell 7 2 true, .tmp 8],
 (.seq
 (.reg [0, 1, 2, 3] [⟨some 3, .cbx 0 3 (.tmp 0), none⟩,
 ⟨some 4, .cbx 1 2 (.tmp 1), none⟩,
 ⟨some 6, .alloc 2 [(.nils 4), (.d (.int .i64 0)), (.d (.int .i64 0))], none⟩,
 ⟨some 7, .alloc 3 [(.d (.int .i64 0)), (.nils 4)], none⟩,
 ⟨some 8, .mov (.cst (.d (.int .i64 0))), none⟩])
 (.seq
 (.seq
 (.regd [4] [⟨some 17, .ld true 3 (.tmp 3), none⟩,
 ⟨some 18, .call 43 [(.tmp 17)], none⟩,
 ⟨some 19, .ld true 2 (.tmp 4), none⟩,
 ⟨some 20, .call 44 [(.tmp 19)], none⟩,
 ⟨some 21, .mov (.tmp 2), none⟩,
 ⟨some 22, .call 101 [(.tmp 21)], none⟩,
 ⟨some 23, .bsl 4 31 1 3 [(.int .i64 0), (.int .i64 0), (.int .i64 0)] [(0, (.tmp 18)), (1, (.tmp 20)), (2, (.tmp 22))], none⟩,
 ⟨some 24, .call 81 [(.tmp 23)], none⟩,
 ⟨some 9, .mov (.tmp 24), none⟩] [(0, 2), (1, 2), (0, 4), (1, 4), (2, 4), (3, 4)])
 (.seq
 (.reg [] [⟨some 25, .mov (.tmp 9), none⟩,
 ⟨some 26, .cmp .neq (.tmp 25) (.cst (.d (.int .i64 0))), none⟩])
 (.cond (.tmp 26)
 (.seq
 (.reg [] [⟨some 27, .build [(.nils 4), (.d (.int .i64 0)), (.d (.int .i64 0))] [], none⟩,
 ⟨some 28, .build [(.d (.int .i64 0)), (.nils 4)] [], none⟩,
 ⟨some 29, .mov (.tmp 9), none⟩,
 ⟨none, .st 3 (.tmp 6) (.tmp 27), none⟩,
 ⟨none, .st 2 (.tmp 7) (.tmp 28), none⟩,
 ⟨some 8, .mov (.tmp 29), none⟩])
 .ret)
 .skip)))
 (.seq
 (.seq
 (.reg [] [⟨some 30, .ld true 3 (.tmp 3), none⟩,
 ⟨some 31, .ld true 2 (.tmp 4), none⟩,
 ⟨some 32, .call 102 [(.tmp 30), (.tmp 31)], none⟩,
 ⟨some 33, .not (.tmp 32), none⟩])
 (.cond (.tmp 33)
 (.seq
 (.reg [] [⟨some 34, .build [(.nils 4), (.d (.int .i64 0)), (.d (.int .i64 0))] [], none⟩,
 ⟨some 35, .build [(.d (.int .i64 0)), (.nils 4)] [], none⟩,
 ⟨none, .st 3 (.tmp 6) (.tmp 34), none⟩,
 ⟨none, .st 2 (.tmp 7) (.tmp 35), none⟩,
 ⟨some 8, .mov (.cst (.d (.int .i64 24))), none⟩])
 .ret)
 .skip))
 (.seq
 (.regd [5] [⟨some 36, .fad 0 (.tmp 3), none⟩,
 ⟨some 37, .ld false 1 (.tmp 36), none⟩,
 ⟨some 38, .call 98 [(.tmp 37)], none⟩,
 ⟨some 39, .fad 1 (.tmp 3), none⟩,
 ⟨some 40, .ld false 1 (.tmp 39), none⟩,
 ⟨some 41, .fad 2 (.tmp 3), none⟩,
 ⟨some 42, .ld false 1 (.tmp 41), none⟩,
 ⟨some 43, .build [(.nils 4), (.d (.int .i64 0)), (.d (.int .i64 0))] [(0, 1, (.tmp 38)), (1, 1, (.tmp 40)), (2, 1, (.tmp 42))], none⟩,
 ⟨some 10, .alloc 5 [(.nils 4), (.d (.int .i64 0)), (.d (.int .i64 0))], none⟩,
 ⟨none, .st 3 (.tmp 10) (.tmp 43), none⟩] [(0, 3), (1, 3), (2, 3), (0, 4), (1, 4), (2, 4), (0, 5), (1, 5), (2, 5), (3, 5), (4, 5), (0, 6), (1, 6), (2, 6), (3, 6), (4, 6), (0, 8), (1, 8), (2, 8), (3, 8), (4, 8), (5, 8), (6, 8), (7, 8)])
 (.seq
 (.regd [6] [⟨some 44, .fad 0 (.tmp 4), none⟩,
 ⟨some 45, .ld false 1 (.tmp 44), none⟩,
 ⟨some 46, .fad 1 (.tmp 4), none⟩,
 ⟨some 47, .ld false 1 (.tmp 46), none⟩,
 ⟨some 48, .call 98 [(.tmp 47)], none⟩,
 ⟨some 49, .build [(.d (.int .i64 0)), (.nils 4)] [(0, 1, (.tmp 45)), (1, 1, (.tmp 48))], none⟩,
 ⟨some 11, .alloc 6 [(.d (.int .i64 0)), (.nils 4)], none⟩,
 ⟨none, .st 2 (.tmp 11) (.tmp 49), none⟩] [(0, 2), (1, 2), (0, 3), (1, 3), (0, 4), (1, 4), (0, 6), (1, 6), (2, 6), (3, 6), (4, 6), (5, 6)])
 (.seq
 (.seq
 (.reg [] [⟨some 50, .mov (.tmp 2), none⟩,
 ⟨some 51, .len (.tmp 50), none⟩,
 ⟨some 52, .mov (.cst (.d (.int .i64 0))), none⟩])
 (.post [6, 7, 10, 11] [0, 1, 2, 3, 4, 5, 6, 7, 8]
 (.block 0
 (.keep [6, 7, 10, 11, 50, 51, 52] [0, 1, 2, 3, 4, 5, 6]
 (.loop
 (.post [6, 7, 10, 11, 50, 51, 52] [7, 8]
 (.seq
 (.reg [] [⟨some 53, .cmp .lss (.tmp 52) (.tmp 51), none⟩])
 (.seq
 (.cond (.tmp 53)
 .skip
 (.exit 0))
 (.seq
 (.block 1
 (.seq
 (.reg [7] [⟨some 54, .ixa 3 (.tmp 50) (.tmp 52), none⟩,
 ⟨some 55, .ld true 3 (.tmp 54), none⟩,
 ⟨some 13, .alloc 7 [(.nils 1), (.nils 1), (.d (.bool false))], none⟩,
 ⟨none, .st 3 (.tmp 13) (.tmp 55), none⟩])
 (.seq
 (.reg [] [⟨some 56, .mkr (.func 103) [] [(.tmp 11)], none⟩,
 ⟨some 14, .mov (.tmp 56), none⟩])
 (.seq
 (.seq
 (.reg [] [⟨some 57, .ld true 3 (.tmp 10), none⟩,
 ⟨some 58, .call 92 [(.tmp 57)], none⟩,
 ⟨some 59, .call 91 [(.tmp 58)], none⟩,
 ⟨some 60, .len (.tmp 59), none⟩,
 ⟨some 61, .mov (.cst (.d (.int .i64 0))), none⟩])
 (.post [6, 7, 10, 11, 13, 50, 51, 52] [0, 1, 2, 3, 4, 5, 6, 7, 8]
 (.block 2
 (.keep [6, 7, 10, 11, 13, 14, 50, 51, 52, 59, 60, 61] [0, 1, 2, 3, 4, 5, 6, 7]
 (.loop
 (.post [6, 7, 10, 11, 13, 14, 50, 51, 52, 59, 60, 61] [8]
 (.seq
 (.reg [] [⟨some 62, .cmp .lss (.tmp 61) (.tmp 60), none⟩])
 (.seq
 (.cond (.tmp 62)
 .skip
 (.exit 2))
 (.seq
 (.block 3
 (.seq
 (.reg [8] [⟨some 63, .mov (.tmp 61), none⟩,
 ⟨some 64, .ixa 5 (.tmp 59) (.tmp 61), none⟩,
 ⟨some 65, .ld true 5 (.tmp 64), none⟩,
 ⟨some 16, .alloc 8 [(.d (.int .i64 0)), (.d (.int .i64 0)), (.d (.int .i64 0)), (.nils 1), (.d (.int .i64 0))], none⟩,
 ⟨some 15, .mov (.tmp 63), none⟩,
 ⟨none, .st 5 (.tmp 16) (.tmp 65), none⟩])
 (.seq
 (.seq
 (.reg [] [⟨some 66, .fad 0 (.tmp 13), none⟩,
 ⟨some 67, .ld false 1 (.tmp 66), none⟩,
 ⟨some 68, .mov (.tmp 15), none⟩,
 ⟨some 69, .call 104 [(.tmp 67), (.tmp 68)], none⟩])
 (.cond (.tmp 69)
 (.exit 3)
 .skip))
 (.seq
 (.reg [] [⟨some 70, .mov (.tmp 14), none⟩,
 ⟨some 71, .ld true 5 (.tmp 16), none⟩,
 ⟨some 72, .callv (.tmp 70) [(.tmp 71)], none⟩])
 (.seq
 (.reg [] [⟨some 73, .fad 1 (.tmp 13), none⟩,
 ⟨some 74, .ld false 1 (.tmp 73), none⟩,
 ⟨some 75, .mov (.tmp 15), none⟩,
 ⟨some 76, .call 104 [(.tmp 74), (.tmp 75)], none⟩])
 (.cond (.tmp 76)
 (.reg [] [⟨some 77, .mov (.tmp 14), none⟩,
 ⟨some 78, .ld true 5 (.tmp 16), none⟩,
 ⟨some 79, .callv (.tmp 77) [(.tmp 78)], none⟩])
 .skip))))))
 (.reg [] [⟨some 80, .arith .add .i64 (.tmp 61) (.cst (.d (.int .i64 1))), none⟩,
 ⟨some 61, .mov (.tmp 80), none⟩]))))))))))
 (.seq
 (.reg [] [⟨some 81, .fad 2 (.tmp 13), none⟩,
 ⟨some 82, .ld false 1 (.tmp 81), none⟩,
 ⟨some 83, .not (.tmp 82), none⟩])
 (.cond (.tmp 83)
 (.reg [] [⟨some 84, .ld true 3 (.tmp 10), none⟩,
 ⟨some 85, .fad 0 (.tmp 11), none⟩,
 ⟨some 86, .ld false 1 (.tmp 85), none⟩,
 ⟨some 87, .arith .rem .i64 (.tmp 86) (.cst (.d (.int .i64 16))), none⟩,
 ⟨some 88, .call 100 [(.tmp 84), (.tmp 87)], none⟩,
 ⟨some 89, .fad 1 (.tmp 10), none⟩,
 ⟨none, .st 1 (.tmp 89) (.tmp 88), none⟩])
 .skip))))))
 (.reg [] [⟨some 90, .arith .add .i64 (.tmp 52) (.cst (.d (.int .i64 1))), none⟩,
 ⟨some 52, .mov (.tmp 90), none⟩]))))))))))
 (.seq
 (.regd [] [⟨some 91, .ld true 3 (.tmp 10), none⟩,
 ⟨some 92, .ld true 2 (.tmp 11), none⟩,
 ⟨none, .st 3 (.tmp 6) (.tmp 91), none⟩,
 ⟨none, .st 2 (.tmp 7) (.tmp 92), none⟩,
 ⟨some 8, .mov (.cst (.d (.int .i64 0))), none⟩] [(0, 1), (1, 2)])
 .ret)))))))⟩
/-- kilovar/link.Winner -/
def tx54 : AFun := ⟨16, 40, [.tmp 2, .tmp 3],
 (.seq
 (.reg [] [⟨some 2, .mov (.cst (.d (.int .i64 0))), none⟩,
 ⟨some 3, .mov (.cst (.d (.int .i64 0))), none⟩])
 (.seq
 (.seq
 (.reg [] [⟨some 6, .mov (.tmp 0), none⟩,
 ⟨some 7, .call 70 [(.tmp 6)], none⟩,
 ⟨some 4, .mov (.tmp 7), none⟩])
 (.seq
 (.reg [] [⟨some 8, .mov (.tmp 4), none⟩,
 ⟨some 9, .cmp .neq (.tmp 8) (.cst (.d (.int .i64 0))), none⟩])
 (.cond (.tmp 9)
 (.seq
 (.reg [] [⟨some 10, .mov (.tmp 4), none⟩,
 ⟨some 2, .mov (.cst (.d (.int .i64 0))), none⟩,
 ⟨some 3, .mov (.tmp 10), none⟩])
 .ret)
 .skip)))
 (.seq
 (.reg [] [⟨some 11, .mov (.tmp 0), none⟩,
 ⟨some 12, .call 107 [(.tmp 11)], none⟩,
 ⟨some 5, .mov (.tmp 12), none⟩])
 (.seq
 (.seq
 (.reg [] [⟨some 13, .mov (.tmp 5), none⟩,
 ⟨some 14, .cmp .lss (.tmp 13) (.cst (.d (.int .i64 0))), none⟩])
 (.cond (.tmp 14)
 (.seq
 (.reg [] [⟨some 2, .mov (.cst (.d (.int .i64 0))), none⟩,
 ⟨some 3, .mov (.cst (.d (.int .i64 7))), none⟩])
 .ret)
 .skip))
 (.seq
 (.reg [] [⟨some 15, .mov (.tmp 5), none⟩,
 ⟨some 2, .mov (.tmp 15), none⟩,
 ⟨some 3, .mov (.cst (.d (.int .i64 0))), none⟩])
 .ret)))))⟩
/-- kilovar/link.Served -/
def tx56 : AFun := ⟨39, 43, [.tmp 4, .tmp 5, .tmp 6],
 (.seq
 (.reg [] [⟨some 4, .mov (.cst (.nils 1)), none⟩,
 ⟨some 5, .mov (.cst (.nils 4)), none⟩,
 ⟨some 6, .mov (.cst (.d (.int .i64 0))), none⟩])
 (.seq
 (.seq
 (.reg [0] [⟨some 11, .mov (.tmp 0), none⟩,
 ⟨some 12, .call 70 [(.tmp 11)], none⟩,
 ⟨some 13, .mov (.tmp 1), none⟩,
 ⟨some 14, .call 82 [(.tmp 13), (.cst (.d (.int .i64 0))), (.cst (.d (.int .i64 256)))], none⟩,
 ⟨some 15, .bsl 0 31 1 2 [(.int .i64 0), (.int .i64 0)] [(0, (.tmp 12)), (1, (.tmp 14))], none⟩,
 ⟨some 16, .call 81 [(.tmp 15)], none⟩,
 ⟨some 7, .mov (.tmp 16), none⟩])
 (.seq
 (.reg [] [⟨some 17, .mov (.tmp 7), none⟩,
 ⟨some 18, .cmp .neq (.tmp 17) (.cst (.d (.int .i64 0))), none⟩])
 (.cond (.tmp 18)
 (.seq
 (.reg [] [⟨some 19, .mov (.tmp 7), none⟩,
 ⟨some 4, .mov (.cst (.nils 1)), none⟩,
 ⟨some 5, .mov (.cst (.nils 4)), none⟩,
 ⟨some 6, .mov (.tmp 19), none⟩])
 .ret)
 .skip)))
 (.seq
 (.reg [] [⟨some 8, .mov (.cst (.nils 1)), none⟩])
 (.seq
 (.reg [] [⟨some 20, .mov (.tmp 0), none⟩,
 ⟨some 21, .calli 108 [(.tmp 20)], none⟩,
 ⟨some 9, .mov (.tmp 21), none⟩])
 (.seq
 (.seq
 (.reg [] [⟨some 22, .mov (.tmp 1), none⟩,
 ⟨some 23, .mov (.cst (.d (.int .i64 0))), none⟩])
 (.post [8, 9] [0, 1, 2]
 (.block 0
 (.asrow 2 3 1 8
 (.keep [8, 9, 22, 23] [0]
 (.loop
 (.post [8, 9, 22, 23] [1, 2]
 (.seq
 (.reg [] [⟨some 24, .cmp .lss (.tmp 23) (.tmp 22), none⟩])
 (.seq
 (.cond (.tmp 24)
 .skip
 (.exit 0))
 (.seq
 (.block 1
 (.seq
 (.reg [] [⟨some 25, .mov (.tmp 9), none⟩,
 ⟨some 26, .call 107 [(.tmp 25)], none⟩,
 ⟨some 10, .mov (.tmp 26), none⟩])
 (.seq
 (.seq
 (.reg [] [⟨some 27, .mov (.tmp 10), none⟩,
 ⟨some 28, .cmp .lss (.tmp 27) (.cst (.d (.int .i64 0))), none⟩])
 (.cond (.tmp 28)
 (.exit 0)
 .skip))
 (.seq
 (.reg [1, 2] [⟨some 29, .mov (.tmp 8), none⟩,
 ⟨some 30, .mov (.tmp 10), none⟩,
 ⟨some 31, .bsl 1 3 1 1 [(.int .i64 0)] [(0, (.tmp 30))], none⟩,
 ⟨some 32, .app 2 3 1 8 (.tmp 29) (.tmp 31), none⟩,
 ⟨some 8, .mov (.tmp 32), none⟩])
 (.reg [] [⟨some 33, .mov (.tmp 9), none⟩,
 ⟨some 34, .mov (.tmp 10), none⟩,
 ⟨some 35, .calli 109 [(.tmp 33), (.tmp 34)], none⟩,
 ⟨some 9, .mov (.tmp 35), none⟩])))))
 (.reg [] [⟨some 36, .arith .add .i64 (.tmp 23) (.cst (.d (.int .i64 1))), none⟩,
 ⟨some 23, .mov (.tmp 36), none⟩])))))))))))
 (.seq
 (.reg [] [⟨some 37, .mov (.tmp 8), none⟩,
 ⟨some 38, .mov (.tmp 9), none⟩,
 ⟨some 4, .mov (.tmp 37), none⟩,
 ⟨some 5, .mov (.tmp 38), none⟩,
 ⟨some 6, .mov (.cst (.d (.int .i64 0))), none⟩])
 .ret))))))⟩
/-- kilovar/link.Bound -/
def tx57 : AFun := ⟨12, 40, [.tmp 2, .tmp 3],
 (.seq
 (.reg [] [⟨some 2, .mov (.cst (.d (.int .i64 0))), none⟩,
 ⟨some 3, .mov (.cst (.d (.int .i64 0))), none⟩])
 (.seq
 (.seq
 (.reg [] [⟨some 5, .mov (.tmp 0), none⟩,
 ⟨some 6, .call 82 [(.tmp 5), (.cst (.d (.int .i64 1))), (.cst (.d (.int .i64 8)))], none⟩,
 ⟨some 4, .mov (.tmp 6), none⟩])
 (.seq
 (.reg [] [⟨some 7, .mov (.tmp 4), none⟩,
 ⟨some 8, .cmp .neq (.tmp 7) (.cst (.d (.int .i64 0))), none⟩])
 (.cond (.tmp 8)
 (.seq
 (.reg [] [⟨some 9, .mov (.tmp 4), none⟩,
 ⟨some 2, .mov (.cst (.d (.int .i64 0))), none⟩,
 ⟨some 3, .mov (.tmp 9), none⟩])
 .ret)
 .skip)))
 (.seq
 (.reg [] [⟨some 10, .mov (.tmp 0), none⟩,
 ⟨some 11, .arith .add .i64 (.tmp 10) (.cst (.d (.int .i64 3))), none⟩,
 ⟨some 2, .mov (.tmp 11), none⟩,
 ⟨some 3, .mov (.cst (.d (.int .i64 0))), none⟩])
 .ret)))⟩
/-- kilovar/link.Open -/
def tx58 : AFun := ⟨45, 43, [.tmp 6, .tmp 7],
 (.seq
 (.reg [] [⟨some 6, .mov (.cst (.nils 1)), none⟩,
 ⟨some 7, .mov (.cst (.d (.int .i64 0))), none⟩])
 (.seq
 (.seq
 (.reg [0] [⟨some 11, .mov (.tmp 0), none⟩,
 ⟨some 12, .call 110 [(.tmp 11)], none⟩,
 ⟨some 13, .mov (.tmp 1), none⟩,
 ⟨some 14, .call 82 [(.tmp 13), (.cst (.d (.int .i64 0))), (.cst (.d (.int .i64 999999999)))], none⟩,
 ⟨some 15, .mov (.tmp 2), none⟩,
 ⟨some 16, .call 82 [(.tmp 15), (.cst (.d (.int .i64 0))), (.cst (.d (.int .i64 256)))], none⟩,
 ⟨some 17, .mov (.tmp 0), none⟩,
 ⟨some 18, .call 111 [(.tmp 17), (.cst (.d (.bool true)))], none⟩,
 ⟨some 19, .not (.tmp 18), none⟩,
 ⟨some 20, .call 83 [(.tmp 19), (.cst (.d (.int .i64 7)))], none⟩,
 ⟨some 21, .bsl 0 31 1 4 [(.int .i64 0), (.int .i64 0), (.int .i64 0), (.int .i64 0)] [(0, (.tmp 12)), (1, (.tmp 14)), (2, (.tmp 16)), (3, (.tmp 20))], none⟩,
 ⟨some 22, .call 81 [(.tmp 21)], none⟩,
 ⟨some 8, .mov (.tmp 22), none⟩])
 (.seq
 (.reg [] [⟨some 23, .mov (.tmp 8), none⟩,
 ⟨some 24, .cmp .neq (.tmp 23) (.cst (.d (.int .i64 0))), none⟩])
 (.cond (.tmp 24)
 (.seq
 (.reg [] [⟨some 25, .mov (.tmp 8), none⟩,
 ⟨some 6, .mov (.cst (.nils 1)), none⟩,
 ⟨some 7, .mov (.tmp 25), none⟩])
 .ret)
 .skip)))
 (.seq
 (.reg [] [⟨some 9, .mov (.cst (.nils 1)), none⟩])
 (.seq
 (.seq
 (.reg [] [⟨some 26, .mov (.tmp 1), none⟩,
 ⟨some 10, .mov (.tmp 26), none⟩])
 (.post [9] [0, 1, 2]
 (.block 0
 (.asrow 2 3 1 9
 (.keep [0, 2, 9, 10] [0]
 (.loop
 (.post [0, 2, 9, 10] [1, 2]
 (.seq
 (.seq
 (.reg [] [⟨some 27, .mov (.tmp 9), none⟩,
 ⟨some 28, .len (.tmp 27), none⟩,
 ⟨some 29, .mov (.tmp 2), none⟩,
 ⟨some 30, .cmp .lss (.tmp 28) (.tmp 29), none⟩])
 (.cond (.tmp 30)
 .skip
 (.exit 0)))
 (.seq
 (.block 1
 (.seq
 (.reg [] [⟨some 33, .mov (.tmp 0), none⟩,
 ⟨some 34, .mov (.tmp 10), none⟩,
 ⟨some 35, .mov (.tmp 0), none⟩,
 ⟨some 36, .len (.tmp 35), none⟩,
 ⟨some 37, .arith .rem .i64 (.tmp 34) (.tmp 36), none⟩,
 ⟨some 38, .ixa 1 (.tmp 33) (.tmp 37), none⟩,
 ⟨some 39, .ld false 1 (.tmp 38), none⟩])
 (.cond (.tmp 39)
 (.reg [1, 2] [⟨some 40, .mov (.tmp 9), none⟩,
 ⟨some 41, .mov (.tmp 10), none⟩,
 ⟨some 42, .bsl 1 3 1 1 [(.int .i64 0)] [(0, (.tmp 41))], none⟩,
 ⟨some 43, .app 2 3 1 8 (.tmp 40) (.tmp 42), none⟩,
 ⟨some 9, .mov (.tmp 43), none⟩])
 .skip)))
 (.reg [] [⟨some 31, .mov (.tmp 10), none⟩,
 ⟨some 32, .arith .add .i64 (.tmp 31) (.cst (.d (.int .i64 1))), none⟩,
 ⟨some 10, .mov (.tmp 32), none⟩]))))))))))
 (.seq
 (.reg [] [⟨some 44, .mov (.tmp 9), none⟩,
 ⟨some 6, .mov (.tmp 44), none⟩,
 ⟨some 7, .mov (.cst (.d (.int .i64 0))), none⟩])
 .ret)))))⟩
/-- kilovar/link.Access -/
def tx59 : AFun := ⟨54, 43, [.tmp 6, .tmp 7],
 (.seq
 (.reg [] [⟨some 6, .mov (.cst (.nils 1)), none⟩,
 ⟨some 7, .mov (.cst (.d (.int .i64 0))), none⟩])
 (.seq
 (.seq
 (.reg [0] [⟨some 13, .mov (.tmp 0), none⟩,
 ⟨some 14, .call 70 [(.tmp 13)], none⟩,
 ⟨some 15, .mov (.tmp 1), none⟩,
 ⟨some 16, .call 110 [(.tmp 15)], none⟩,
 ⟨some 17, .mov (.tmp 2), none⟩,
 ⟨some 18, .call 82 [(.tmp 17), (.cst (.d (.int .i64 0))), (.cst (.d (.int .i64 256)))], none⟩,
 ⟨some 19, .mov (.tmp 1), none⟩,
 ⟨some 20, .call 111 [(.tmp 19), (.cst (.d (.bool true)))], none⟩,
 ⟨some 21, .not (.tmp 20), none⟩,
 ⟨some 22, .call 83 [(.tmp 21), (.cst (.d (.int .i64 7)))], none⟩,
 ⟨some 23, .bsl 0 31 1 4 [(.int .i64 0), (.int .i64 0), (.int .i64 0), (.int .i64 0)] [(0, (.tmp 14)), (1, (.tmp 16)), (2, (.tmp 18)), (3, (.tmp 22))], none⟩,
 ⟨some 24, .call 81 [(.tmp 23)], none⟩,
 ⟨some 8, .mov (.tmp 24), none⟩])
 (.seq
 (.reg [] [⟨some 25, .mov (.tmp 8), none⟩,
 ⟨some 26, .cmp .neq (.tmp 25) (.cst (.d (.int .i64 0))), none⟩])
 (.cond (.tmp 26)
 (.seq
 (.reg [] [⟨some 27, .mov (.tmp 8), none⟩,
 ⟨some 6, .mov (.cst (.nils 1)), none⟩,
 ⟨some 7, .mov (.tmp 27), none⟩])
 .ret)
 .skip)))
 (.seq
 (.reg [] [⟨some 9, .mov (.cst (.nils 1)), none⟩])
 (.seq
 (.reg [] [⟨some 28, .mov (.tmp 0), none⟩,
 ⟨some 29, .call 108 [(.tmp 28)], none⟩,
 ⟨some 10, .mov (.tmp 29), none⟩])
 (.seq
 (.seq
 (.reg [] [⟨some 30, .mov (.tmp 2), none⟩,
 ⟨some 31, .mov (.cst (.d (.int .i64 0))), none⟩])
 (.post [9] [0, 1, 2]
 (.block 0
 (.asrow 2 3 1 9
 (.keep [1, 9, 10, 30, 31] [0]
 (.loop
 (.post [1, 9, 10, 30, 31] [1, 2]
 (.seq
 (.reg [] [⟨some 32, .cmp .lss (.tmp 31) (.tmp 30), none⟩])
 (.seq
 (.cond (.tmp 32)
 .skip
 (.exit 0))
 (.seq
 (.block 1
 (.seq
 (.reg [] [⟨some 33, .mov (.tmp 31), none⟩,
 ⟨some 11, .mov (.tmp 33), none⟩])
 (.seq
 (.reg [] [⟨some 12, .mov (.cst (.d (.int .i64 (-1)))), none⟩])
 (.seq
 (.seq
 (.reg [] [⟨some 34, .mov (.tmp 1), none⟩,
 ⟨some 35, .mov (.tmp 11), none⟩,
 ⟨some 36, .mov (.tmp 1), none⟩,
 ⟨some 37, .len (.tmp 36), none⟩,
 ⟨some 38, .arith .rem .i64 (.tmp 35) (.tmp 37), none⟩,
 ⟨some 39, .ixa 1 (.tmp 34) (.tmp 38), none⟩,
 ⟨some 40, .ld false 1 (.tmp 39), none⟩])
 (.cond (.tmp 40)
 (.reg [] [⟨some 41, .mov (.tmp 10), none⟩,
 ⟨some 42, .call 107 [(.tmp 41)], none⟩,
 ⟨some 12, .mov (.tmp 42), none⟩])
 .skip))
 (.seq
 (.seq
 (.reg [] [⟨some 43, .mov (.tmp 12), none⟩,
 ⟨some 44, .cmp .geq (.tmp 43) (.cst (.d (.int .i64 0))), none⟩])
 (.cond (.tmp 44)
 (.reg [] [⟨some 45, .mov (.tmp 10), none⟩,
 ⟨some 46, .mov (.tmp 12), none⟩,
 ⟨some 47, .call 109 [(.tmp 45), (.tmp 46)], none⟩,
 ⟨some 10, .mov (.tmp 47), none⟩])
 .skip))
 (.reg [1, 2] [⟨some 48, .mov (.tmp 9), none⟩,
 ⟨some 49, .mov (.tmp 12), none⟩,
 ⟨some 50, .bsl 1 3 1 1 [(.int .i64 0)] [(0, (.tmp 49))], none⟩,
 ⟨some 51, .app 2 3 1 8 (.tmp 48) (.tmp 50), none⟩,
 ⟨some 9, .mov (.tmp 51), none⟩]))))))
 (.reg [] [⟨some 52, .arith .add .i64 (.tmp 31) (.cst (.d (.int .i64 1))), none⟩,
 ⟨some 31, .mov (.tmp 52), none⟩])))))))))))
 (.seq
 (.reg [] [⟨some 53, .mov (.tmp 9), none⟩,
 ⟨some 6, .mov (.tmp 53), none⟩,
 ⟨some 7, .mov (.cst (.d (.int .i64 0))), none⟩])
 .ret))))))⟩
/-- kilovar/link.CheckStations -/
def tx70 : AFun := ⟨45, 43, [.tmp 2],
 (.seq
 (.reg [] [⟨some 2, .mov (.cst (.d (.int .i64 0))), none⟩])
 (.seq
 (.seq
 (.reg [] [⟨some 7, .mov (.tmp 0), none⟩,
 ⟨some 8, .len (.tmp 7), none⟩,
 ⟨some 9, .cmp .gtr (.tmp 8) (.cst (.d (.int .i64 8))), none⟩])
 (.cond (.tmp 9)
 (.seq
 (.reg [] [⟨some 2, .mov (.cst (.d (.int .i64 5))), none⟩])
 .ret)
 .skip))
 (.seq
 (.reg [0] [⟨some 10, .mkm 0, none⟩,
 ⟨some 3, .mov (.tmp 10), none⟩])
 (.seq
 (.seq
 (.reg [] [⟨some 11, .mov (.tmp 0), none⟩,
 ⟨some 12, .len (.tmp 11), none⟩,
 ⟨some 13, .mov (.cst (.d (.int .i64 0))), none⟩])
 (.post [] [0, 1, 2]
 (.block 0
 (.keep [3, 11, 12, 13] [0]
 (.loop
 (.post [3, 11, 12, 13] [1, 2]
 (.seq
 (.reg [] [⟨some 14, .cmp .lss (.tmp 13) (.tmp 12), none⟩])
 (.seq
 (.cond (.tmp 14)
 .skip
 (.exit 0))
 (.seq
 (.block 1
 (.seq
 (.reg [1] [⟨some 15, .ixa 4 (.tmp 11) (.tmp 13), none⟩,
 ⟨some 16, .ld true 4 (.tmp 15), none⟩,
 ⟨some 5, .alloc 1 [(.d (.str [])), (.d (.int .i64 0)), (.d (.int .i64 0)), (.d (.int .i64 0))], none⟩,
 ⟨none, .st 4 (.tmp 5) (.tmp 16), none⟩])
 (.seq
 (.seq
 (.regd [2] [⟨some 17, .fad 0 (.tmp 5), none⟩,
 ⟨some 18, .ld false 1 (.tmp 17), none⟩,
 ⟨some 19, .call 114 [(.tmp 18)], none⟩,
 ⟨some 20, .not (.tmp 19), none⟩,
 ⟨some 21, .call 83 [(.tmp 20), (.cst (.d (.int .i64 8)))], none⟩,
 ⟨some 22, .mov (.tmp 3), none⟩,
 ⟨some 23, .fad 0 (.tmp 5), none⟩,
 ⟨some 24, .ld false 1 (.tmp 23), none⟩,
 ⟨some 25, .lkp none (.bool false) false (.tmp 22) (.tmp 24), none⟩,
 ⟨some 26, .call 83 [(.tmp 25), (.cst (.d (.int .i64 9)))], none⟩,
 ⟨some 27, .fad 1 (.tmp 5), none⟩,
 ⟨some 28, .ld false 1 (.tmp 27), none⟩,
 ⟨some 29, .call 82 [(.tmp 28), (.cst (.d (.int .i64 0))), (.cst (.d (.int .i64 3)))], none⟩,
 ⟨some 30, .fad 2 (.tmp 5), none⟩,
 ⟨some 31, .ld false 1 (.tmp 30), none⟩,
 ⟨some 32, .call 82 [(.tmp 31), (.cst (.d (.int .i64 0))), (.cst (.d (.int .i64 64)))], none⟩,
 ⟨some 33, .fad 3 (.tmp 5), none⟩,
 ⟨some 34, .ld false 1 (.tmp 33), none⟩,
 ⟨some 35, .call 82 [(.tmp 34), (.cst (.d (.int .i64 0))), (.cst (.d (.int .i64 1000)))], none⟩,
 ⟨some 36, .bsl 2 31 1 5 [(.int .i64 0), (.int .i64 0), (.int .i64 0), (.int .i64 0), (.int .i64 0)] [(0, (.tmp 21)), (1, (.tmp 26)), (2, (.tmp 29)), (3, (.tmp 32)), (4, (.tmp 35))], none⟩,
 ⟨some 37, .call 81 [(.tmp 36)], none⟩,
 ⟨some 6, .mov (.tmp 37), none⟩] [(0, 5), (1, 5), (2, 5), (3, 5), (4, 5), (0, 6), (1, 6), (2, 6), (3, 6), (4, 6), (5, 6), (0, 7), (1, 7), (2, 7), (3, 7), (4, 7), (5, 7), (0, 8), (1, 8), (2, 8), (3, 8), (4, 8), (0, 10), (1, 10), (2, 10), (3, 10), (4, 10), (5, 10), (6, 10), (7, 10), (8, 10), (9, 10), (0, 11), (1, 11), (2, 11), (3, 11), (4, 11), (5, 11), (6, 11), (7, 11), (8, 11), (9, 11), (0, 13), (1, 13), (2, 13), (3, 13), (4, 13), (5, 13), (6, 13), (7, 13), (8, 13), (9, 13), (10, 13), (11, 13), (12, 13), (0, 14), (1, 14), (2, 14), (3, 14), (4, 14), (5, 14), (6, 14), (7, 14), (8, 14), (9, 14), (10, 14), (11, 14), (12, 14), (0, 16), (1, 16), (2, 16), (3, 16), (4, 16), (5, 16), (6, 16), (7, 16), (8, 16), (9, 16), (10, 16), (11, 16), (12, 16), (13, 16), (14, 16), (15, 16), (0, 17), (1, 17), (2, 17), (3, 17), (4, 17), (5, 17), (6, 17), (7, 17), (8, 17), (9, 17), (10, 17), (11, 17), (12, 17), (13, 17), (14, 17), (15, 17)])
 (.seq
 (.reg [] [⟨some 38, .mov (.tmp 6), none⟩,
 ⟨some 39, .cmp .neq (.tmp 38) (.cst (.d (.int .i64 0))), none⟩])
 (.cond (.tmp 39)
 (.seq
 (.reg [] [⟨some 40, .mov (.tmp 6), none⟩,
 ⟨some 2, .mov (.tmp 40), none⟩])
 .ret)
 .skip)))
 (.reg [] [⟨some 41, .mov (.tmp 3), none⟩,
 ⟨some 42, .fad 0 (.tmp 5), none⟩,
 ⟨some 43, .ld false 1 (.tmp 42), none⟩,
 ⟨none, .mpu none (.tmp 41) (.tmp 43) (.cst (.d (.bool true))), none⟩]))))
 (.reg [] [⟨some 44, .arith .add .i64 (.tmp 13) (.cst (.d (.int .i64 1))), none⟩,
 ⟨some 13, .mov (.tmp 44), none⟩]))))))))))
 (.seq
 (.reg [] [⟨some 2, .mov (.cst (.d (.int .i64 0))), none⟩])
 .ret)))))⟩
/-- kilovar/link.Print -/
def tx72 : AFun := ⟨18, 40, [.tmp 2, .tmp 3],
 (.seq
 (.reg [] [⟨some 2, .mov (.cst (.d (.str []))), none⟩,
 ⟨some 3, .mov (.cst (.d (.int .i64 0))), none⟩])
 (.seq
 (.seq
 (.reg [] [⟨some 6, .mov (.tmp 0), none⟩,
 ⟨some 7, .call 85 [(.tmp 6)], none⟩,
 ⟨some 4, .mov (.tmp 7), none⟩])
 (.seq
 (.reg [] [⟨some 8, .mov (.tmp 4), none⟩,
 ⟨some 9, .cmp .neq (.tmp 8) (.cst (.d (.int .i64 0))), none⟩])
 (.cond (.tmp 9)
 (.seq
 (.reg [] [⟨some 10, .mov (.tmp 4), none⟩,
 ⟨some 2, .mov (.cst (.d (.str []))), none⟩,
 ⟨some 3, .mov (.tmp 10), none⟩])
 .ret)
 .skip)))
 (.seq
 (.reg [] [⟨some 11, .mov (.tmp 0), none⟩,
 ⟨some 12, .call 117 [(.tmp 11), (.cst (.d (.fn (.func 118) [])))], none⟩,
 ⟨some 13, .call 116 [(.tmp 12), (.cst (.d (.str [])))], none⟩,
 ⟨some 5, .mov (.tmp 13), none⟩])
 (.seq
 (.seq
 (.reg [] [⟨some 14, .mov (.tmp 5), none⟩,
 ⟨some 15, .lens (.tmp 14), none⟩,
 ⟨some 16, .cmp .gtr (.tmp 15) (.cst (.d (.int .i64 4096))), none⟩])
 (.cond (.tmp 16)
 (.seq
 (.reg [] [⟨some 2, .mov (.cst (.d (.str []))), none⟩,
 ⟨some 3, .mov (.cst (.d (.int .i64 26))), none⟩])
 .ret)
 .skip))
 (.seq
 (.reg [] [⟨some 17, .mov (.tmp 5), none⟩,
 ⟨some 2, .mov (.tmp 17), none⟩,
 ⟨some 3, .mov (.cst (.d (.int .i64 0))), none⟩])
 .ret)))))⟩
/-- kilovar/kilovarlaw04.three -/
def tx78 : AFun := ⟨2, 40, [.tmp 0],
 (.seq
 (.reg [] [⟨some 0, .mov (.cst (.nils 4)), none⟩])
 (.seq
 (.reg [] [⟨some 1, .calli 79 [(.cst (.d (.int .i64 3)))], none⟩,
 ⟨some 0, .mov (.tmp 1), none⟩])
 .ret))⟩
/-- kilovar/kilovarlaw04.many -/
def tx79 : AFun := ⟨20, 43, [.tmp 2],
 (.seq
 (.reg [] [⟨some 2, .mov (.cst (.nils 4)), none⟩])
 (.seq
 (.reg [] [⟨some 3, .mov (.cst (.nils 4)), none⟩])
 (.seq
 (.seq
 (.reg [] [⟨some 5, .mov (.tmp 0), none⟩,
 ⟨some 6, .mov (.cst (.d (.int .i64 0))), none⟩])
 (.post [3] [0, 1, 2]
 (.block 0
 (.asrow 2 38 4 3
 (.keep [0, 3, 5, 6] []
 (.loop
 (.post [0, 3, 5, 6] [0, 1, 2]
 (.seq
 (.reg [] [⟨some 7, .cmp .lss (.tmp 6) (.tmp 5), none⟩])
 (.seq
 (.cond (.tmp 7)
 .skip
 (.exit 0))
 (.seq
 (.block 1
 (.seq
 (.reg [] [⟨some 8, .mov (.tmp 6), none⟩,
 ⟨some 4, .mov (.tmp 8), none⟩])
 (.reg [0, 1, 2] [⟨some 9, .mov (.tmp 3), none⟩,
 ⟨some 10, .mov (.tmp 4), none⟩,
 ⟨some 11, .mov (.tmp 0), none⟩,
 ⟨some 12, .mov (.tmp 4), none⟩,
 ⟨some 13, .conv .u8 (.tmp 12), none⟩,
 ⟨some 14, .bsl 0 5 1 1 [(.int .u8 0)] [(0, (.tmp 13))], none⟩,
 ⟨some 15, .build [(.d (.int .i64 0)), (.d (.int .i64 0)), (.d (.int .i64 0)), (.nils 1)] [(0, 1, (.cst (.d (.int .i64 7)))), (1, 1, (.tmp 10)), (2, 1, (.tmp 11)), (3, 1, (.tmp 14))], none⟩,
 ⟨some 16, .bsl 1 38 4 1 [(.agg [(.int .i64 0), (.int .i64 0), (.int .i64 0), (.slice 1 [])])] [(0, (.tmp 15))], none⟩,
 ⟨some 17, .app 2 38 4 48 (.tmp 9) (.tmp 16), none⟩,
 ⟨some 3, .mov (.tmp 17), none⟩])))
 (.reg [] [⟨some 18, .arith .add .i64 (.tmp 6) (.cst (.d (.int .i64 1))), none⟩,
 ⟨some 6, .mov (.tmp 18), none⟩])))))))))))
 (.seq
 (.reg [] [⟨some 19, .mov (.tmp 3), none⟩,
 ⟨some 2, .mov (.tmp 19), none⟩])
 .ret))))⟩
/-- kilovar/kilovarlaw04.stations -/
def tx80 : AFun := ⟨5, 41, [.tmp 0],
 (.seq
 (.reg [] [⟨some 0, .mov (.cst (.nils 4)), none⟩])
 (.seq
 (.reg [0] [⟨some 1, .build [(.d (.str [])), (.d (.int .i64 0)), (.d (.int .i64 0)), (.d (.int .i64 0))] [(0, 1, (.cst (.d (.str [120])))), (1, 1, (.cst (.d (.int .i64 3)))), (2, 1, (.cst (.d (.int .i64 2))))], none⟩,
 ⟨some 2, .build [(.d (.str [])), (.d (.int .i64 0)), (.d (.int .i64 0)), (.d (.int .i64 0))] [(0, 1, (.cst (.d (.str [121])))), (2, 1, (.cst (.d (.int .i64 1))))], none⟩,
 ⟨some 3, .build [(.d (.str [])), (.d (.int .i64 0)), (.d (.int .i64 0)), (.d (.int .i64 0))] [(0, 1, (.cst (.d (.str [122])))), (1, 1, (.cst (.d (.int .i64 1)))), (2, 1, (.cst (.d (.int .i64 1))))], none⟩,
 ⟨some 4, .bsl 0 146 4 3 [(.agg [(.str []), (.int .i64 0), (.int .i64 0), (.int .i64 0)]), (.agg [(.str []), (.int .i64 0), (.int .i64 0), (.int .i64 0)]), (.agg [(.str []), (.int .i64 0), (.int .i64 0), (.int .i64 0)])] [(0, (.tmp 1)), (1, (.tmp 2)), (2, (.tmp 3))], none⟩,
 ⟨some 0, .mov (.tmp 4), none⟩])
 .ret))⟩
/-- kilovar/link.first -/
def tx81 : AFun := ⟨15, 40, [.tmp 2],
 (.seq
 (.reg [] [⟨some 2, .mov (.cst (.d (.int .i64 0))), none⟩])
 (.seq
 (.seq
 (.reg [] [⟨some 5, .mov (.tmp 0), none⟩,
 ⟨some 6, .len (.tmp 5), none⟩,
 ⟨some 7, .mov (.cst (.d (.int .i64 0))), none⟩])
 (.post [] []
 (.block 0
 (.keep [5, 6, 7] []
 (.loop
 (.post [5, 6, 7] []
 (.seq
 (.reg [] [⟨some 8, .cmp .lss (.tmp 7) (.tmp 6), none⟩])
 (.seq
 (.cond (.tmp 8)
 .skip
 (.exit 0))
 (.seq
 (.block 1
 (.seq
 (.reg [] [⟨some 9, .ixa 1 (.tmp 5) (.tmp 7), none⟩,
 ⟨some 10, .ld false 1 (.tmp 9), none⟩,
 ⟨some 4, .mov (.tmp 10), none⟩])
 (.seq
 (.reg [] [⟨some 11, .mov (.tmp 4), none⟩,
 ⟨some 12, .cmp .neq (.tmp 11) (.cst (.d (.int .i64 0))), none⟩])
 (.cond (.tmp 12)
 (.seq
 (.reg [] [⟨some 13, .mov (.tmp 4), none⟩,
 ⟨some 2, .mov (.tmp 13), none⟩])
 .ret)
 .skip))))
 (.reg [] [⟨some 14, .arith .add .i64 (.tmp 7) (.cst (.d (.int .i64 1))), none⟩,
 ⟨some 7, .mov (.tmp 14), none⟩]))))))))))
 (.seq
 (.reg [] [⟨some 2, .mov (.cst (.d (.int .i64 0))), none⟩])
 .ret)))⟩
/-- kilovar/link.within -/
def tx82 : AFun := ⟨16, 40, [.tmp 6],
 (.seq
 (.reg [] [⟨some 6, .mov (.cst (.d (.int .i64 0))), none⟩])
 (.seq
 (.reg [] [⟨some 7, .mov (.tmp 0), none⟩,
 ⟨some 8, .mov (.tmp 1), none⟩,
 ⟨some 9, .cmp .lss (.tmp 7) (.tmp 8), none⟩,
 ⟨some 10, .mov (.tmp 9), none⟩,
 ⟨some 11, .mov (.tmp 0), some (10, false)⟩,
 ⟨some 12, .mov (.tmp 2), some (10, false)⟩,
 ⟨some 13, .cmp .gtr (.tmp 11) (.tmp 12), some (10, false)⟩,
 ⟨some 14, .pick (.tmp 10) (.cst (.d (.bool true))) (.tmp 13), none⟩,
 ⟨some 15, .call 83 [(.tmp 14), (.cst (.d (.int .i64 3)))], none⟩,
 ⟨some 6, .mov (.tmp 15), none⟩])
 .ret))⟩
/-- kilovar/link.when -/
def tx83 : AFun := ⟨7, 40, [.tmp 4],
 (.seq
 (.reg [] [⟨some 4, .mov (.cst (.d (.int .i64 0))), none⟩])
 (.seq
 (.seq
 (.reg [] [⟨some 5, .mov (.tmp 0), none⟩])
 (.cond (.tmp 5)
 (.seq
 (.reg [] [⟨some 6, .mov (.tmp 1), none⟩,
 ⟨some 4, .mov (.tmp 6), none⟩])
 .ret)
 .skip))
 (.seq
 (.reg [] [⟨some 4, .mov (.cst (.d (.int .i64 0))), none⟩])
 .ret)))⟩
/-- (kilovar/link.Frame).own -/
def tx84 : AFun := ⟨8, 42, [.cell 2 4 true],
 (.seq
 (.reg [0, 1] [⟨some 1, .box 0 4 (.tmp 0), none⟩,
 ⟨some 2, .alloc 1 [(.d (.int .i64 0)), (.d (.int .i64 0)), (.d (.int .i64 0)), (.nils 1)], none⟩])
 (.seq
 (.reg [] [⟨some 3, .fad 3 (.tmp 1), none⟩,
 ⟨some 4, .ld false 1 (.tmp 3), none⟩,
 ⟨some 5, .call 87 [(.tmp 4)], none⟩,
 ⟨some 6, .fad 3 (.tmp 1), none⟩,
 ⟨none, .st 1 (.tmp 6) (.tmp 5), none⟩])
 (.seq
 (.reg [] [⟨some 7, .ld true 4 (.tmp 1), none⟩,
 ⟨none, .st 4 (.tmp 2) (.tmp 7), none⟩])
 .ret)))⟩
/-- kilovar/link.checkFrames -/
def tx85 : AFun := ⟨9, 40, [.tmp 2],
 (.seq
 (.reg [] [⟨some 2, .mov (.cst (.d (.int .i64 0))), none⟩])
 (.seq
 (.seq
 (.reg [] [⟨some 3, .mov (.tmp 0), none⟩,
 ⟨some 4, .len (.tmp 3), none⟩,
 ⟨some 5, .cmp .gtr (.tmp 4) (.cst (.d (.int .i64 64))), none⟩])
 (.cond (.tmp 5)
 (.seq
 (.reg [] [⟨some 2, .mov (.cst (.d (.int .i64 5))), none⟩])
 .ret)
 .skip))
 (.seq
 (.reg [] [⟨some 6, .mov (.tmp 0), none⟩,
 ⟨some 7, .call 124 [(.tmp 6), (.cst (.d (.fn (.func 30) [])))], none⟩,
 ⟨some 8, .call 81 [(.tmp 7)], none⟩,
 ⟨some 2, .mov (.tmp 8), none⟩])
 .ret)))⟩
/-- slices.Equal[[]byte,byte] -/
def tx86 : AFun := ⟨26, 40, [.tmp 4],
 (.seq
 (.reg [] [⟨some 4, .mov (.cst (.d (.bool false))), none⟩])
 (.seq
 (.seq
 (.reg [] [⟨some 6, .mov (.tmp 0), none⟩,
 ⟨some 7, .len (.tmp 6), none⟩,
 ⟨some 8, .mov (.tmp 1), none⟩,
 ⟨some 9, .len (.tmp 8), none⟩,
 ⟨some 10, .cmp .neq (.tmp 7) (.tmp 9), none⟩])
 (.cond (.tmp 10)
 (.seq
 (.reg [] [⟨some 4, .mov (.cst (.d (.bool false))), none⟩])
 .ret)
 .skip))
 (.seq
 (.seq
 (.reg [] [⟨some 11, .mov (.tmp 0), none⟩,
 ⟨some 12, .len (.tmp 11), none⟩,
 ⟨some 13, .mov (.cst (.d (.int .i64 0))), none⟩])
 (.post [] []
 (.block 0
 (.keep [0, 1, 12, 13] []
 (.loop
 (.post [0, 1, 12, 13] []
 (.seq
 (.reg [] [⟨some 14, .cmp .lss (.tmp 13) (.tmp 12), none⟩])
 (.seq
 (.cond (.tmp 14)
 .skip
 (.exit 0))
 (.seq
 (.block 1
 (.seq
 (.reg [] [⟨some 15, .mov (.tmp 13), none⟩,
 ⟨some 5, .mov (.tmp 15), none⟩])
 (.seq
 (.regd [] [⟨some 16, .mov (.tmp 0), none⟩,
 ⟨some 17, .mov (.tmp 5), none⟩,
 ⟨some 18, .ixa 1 (.tmp 16) (.tmp 17), none⟩,
 ⟨some 19, .ld false 1 (.tmp 18), none⟩,
 ⟨some 20, .mov (.tmp 1), none⟩,
 ⟨some 21, .mov (.tmp 5), none⟩,
 ⟨some 22, .ixa 1 (.tmp 20) (.tmp 21), none⟩,
 ⟨some 23, .ld false 1 (.tmp 22), none⟩,
 ⟨some 24, .cmp .neq (.tmp 19) (.tmp 23), none⟩] [(0, 1), (0, 4), (1, 4), (2, 4), (3, 4), (0, 5), (1, 5), (2, 5), (3, 5), (4, 5), (0, 6), (1, 6), (2, 6), (3, 6), (0, 7), (1, 7), (2, 7), (3, 7)])
 (.cond (.tmp 24)
 (.seq
 (.reg [] [⟨some 4, .mov (.cst (.d (.bool false))), none⟩])
 .ret)
 .skip))))
 (.reg [] [⟨some 25, .arith .add .i64 (.tmp 13) (.cst (.d (.int .i64 1))), none⟩,
 ⟨some 13, .mov (.tmp 25), none⟩]))))))))))
 (.seq
 (.reg [] [⟨some 4, .mov (.cst (.d (.bool true))), none⟩])
 .ret))))⟩
/-- slices.Clone[[]byte,byte] -/
def tx87 : AFun := ⟨8, 42, [.tmp 2],
 (.seq
 (.reg [] [⟨some 2, .mov (.cst (.nils 1)), none⟩])
 (.seq
 (.seq
 (.reg [] [⟨some 3, .mov (.tmp 0), none⟩,
 ⟨some 4, .isnil false (.tmp 3), none⟩])
 (.cond (.tmp 4)
 (.seq
 (.reg [] [⟨some 2, .mov (.cst (.nils 1)), none⟩])
 .ret)
 .skip))
 (.seq
 (.reg [0, 1] [⟨some 5, .bsl 0 5 1 0 [] [], none⟩,
 ⟨some 6, .mov (.tmp 0), none⟩,
 ⟨some 7, .app 1 5 1 1 (.tmp 5) (.tmp 6), none⟩,
 ⟨some 2, .mov (.tmp 7), none⟩])
 .ret)))⟩
/-- (kilovar/link.Frame).packed -/
def tx88 : AFun := ⟨23, 43, [.cell 2 16 true],
 (.seq
 (.reg [0, 1] [⟨some 1, .cbx 0 4 (.tmp 0), none⟩,
 ⟨some 2, .alloc 1 [(.d (.int .u8 0)), (.d (.int .u8 0)), (.d (.int .u8 0)), (.d (.int .u8 0)), (.d (.int .u8 0)), (.d (.int .u8 0)), (.d (.int .u8 0)), (.d (.int .u8 0)), (.d (.int .u8 0)), (.d (.int .u8 0)), (.d (.int .u8 0)), (.d (.int .u8 0)), (.d (.int .u8 0)), (.d (.int .u8 0)), (.d (.int .u8 0)), (.d (.int .u8 0))], none⟩])
 (.seq
 (.reg [2] [⟨some 4, .fad 0 (.tmp 1), none⟩,
 ⟨some 5, .ld false 1 (.tmp 4), none⟩,
 ⟨some 6, .conv .u8 (.tmp 5), none⟩,
 ⟨some 7, .fad 1 (.tmp 1), none⟩,
 ⟨some 8, .ld false 1 (.tmp 7), none⟩,
 ⟨some 9, .conv .u8 (.tmp 8), none⟩,
 ⟨some 10, .fad 2 (.tmp 1), none⟩,
 ⟨some 11, .ld false 1 (.tmp 10), none⟩,
 ⟨some 12, .conv .u8 (.tmp 11), none⟩,
 ⟨some 13, .fad 3 (.tmp 1), none⟩,
 ⟨some 14, .ld false 1 (.tmp 13), none⟩,
 ⟨some 15, .len (.tmp 14), none⟩,
 ⟨some 16, .conv .u8 (.tmp 15), none⟩,
 ⟨some 17, .build [(.d (.int .u8 0)), (.d (.int .u8 0)), (.d (.int .u8 0)), (.d (.int .u8 0)), (.d (.int .u8 0)), (.d (.int .u8 0)), (.d (.int .u8 0)), (.d (.int .u8 0)), (.d (.int .u8 0)), (.d (.int .u8 0)), (.d (.int .u8 0)), (.d (.int .u8 0)), (.d (.int .u8 0)), (.d (.int .u8 0)), (.d (.int .u8 0)), (.d (.int .u8 0))] [(0, 1, (.tmp 6)), (1, 1, (.tmp 9)), (2, 1, (.tmp 12)), (3, 1, (.tmp 16))], none⟩,
 ⟨some 3, .alloc 2 [(.d (.int .u8 0)), (.d (.int .u8 0)), (.d (.int .u8 0)), (.d (.int .u8 0)), (.d (.int .u8 0)), (.d (.int .u8 0)), (.d (.int .u8 0)), (.d (.int .u8 0)), (.d (.int .u8 0)), (.d (.int .u8 0)), (.d (.int .u8 0)), (.d (.int .u8 0)), (.d (.int .u8 0)), (.d (.int .u8 0)), (.d (.int .u8 0)), (.d (.int .u8 0))], none⟩,
 ⟨none, .st 16 (.tmp 3) (.tmp 17), none⟩])
 (.seq
 (.regd [] [⟨some 18, .slv 16 (.tmp 3) (some (.cst (.d (.int .i64 4)))) none, none⟩,
 ⟨some 19, .fad 3 (.tmp 1), none⟩,
 ⟨some 20, .ld false 1 (.tmp 19), none⟩,
 ⟨some 21, .copy 1 (.tmp 18) (.tmp 20), none⟩] [(0, 1), (0, 2)])
 (.seq
 (.reg [] [⟨some 22, .ld true 16 (.tmp 3), none⟩,
 ⟨none, .st 16 (.tmp 2) (.tmp 22), none⟩])
 .ret))))⟩
/-- kilovar/link.limits -/
def tx90 : AFun := ⟨5, 41, [.cell 0 9 true],
 (.seq
 (.reg [0] [⟨some 0, .alloc 0 [.undef, (.d (.int .i64 0)), .undef, .undef, (.d (.int .i64 0)), .undef, .undef, (.d (.int .i64 0)), .undef], none⟩])
 (.seq
 (.reg [] [⟨some 1, .build [.undef, (.d (.int .i64 0)), .undef] [(0, 1, (.cst (.d (.fn (.func 125) [])))), (1, 1, (.cst (.d (.int .i64 0)))), (2, 1, (.cst (.d (.fn (.func 126) []))))], none⟩,
 ⟨some 2, .build [.undef, (.d (.int .i64 0)), .undef] [(0, 1, (.cst (.d (.fn (.func 127) [])))), (1, 1, (.cst (.d (.int .i64 1)))), (2, 1, (.cst (.d (.fn (.func 128) []))))], none⟩,
 ⟨some 3, .build [.undef, (.d (.int .i64 0)), .undef] [(0, 1, (.cst (.d (.fn (.func 129) [])))), (1, 1, (.cst (.d (.int .i64 0)))), (2, 1, (.cst (.d (.fn (.func 130) []))))], none⟩,
 ⟨some 4, .build [.undef, (.d (.int .i64 0)), .undef, .undef, (.d (.int .i64 0)), .undef, .undef, (.d (.int .i64 0)), .undef] [(0, 3, (.tmp 1)), (3, 3, (.tmp 2)), (6, 3, (.tmp 3))], none⟩,
 ⟨none, .st 9 (.tmp 0) (.tmp 4), none⟩])
 .ret))⟩
/-- slices.Collect[kilovar/link.numbered] -/
def tx91 : AFun := ⟨5, 40, [.tmp 2],
 (.seq
 (.reg [] [⟨some 2, .mov (.cst (.nils 5)), none⟩])
 (.seq
 (.reg [] [⟨some 3, .mov (.tmp 0), none⟩,
 ⟨some 4, .calli 131 [(.cst (.nils 5)), (.tmp 3)], none⟩,
 ⟨some 2, .mov (.tmp 4), none⟩])
 .ret))⟩
/-- (kilovar/link.Sender).sent -/
def tx92 : AFun := ⟨4, 41, [.tmp 2],
 (.seq
 (.reg [0] [⟨some 1, .cbx 0 3 (.tmp 0), none⟩,
 ⟨some 2, .mov (.cst .undef), none⟩])
 (.seq
 (.reg [] [⟨some 3, .mkf (.func 132) [] [(.tmp 1)], none⟩,
 ⟨some 2, .mov (.tmp 3), none⟩])
 .ret))⟩
/-- kilovar/link.mapped[kilovar/link.numbered,kilovar/link.Frame] -/
def tx93 : AFun := ⟨22, 43, [.tmp 4],
 (.seq
 (.reg [] [⟨some 4, .mov (.cst (.nils 4)), none⟩])
 (.seq
 (.reg [] [⟨some 5, .mov (.cst (.nils 4)), none⟩])
 (.seq
 (.seq
 (.reg [] [⟨some 8, .mov (.tmp 0), none⟩,
 ⟨some 9, .len (.tmp 8), none⟩,
 ⟨some 10, .mov (.cst (.d (.int .i64 0))), none⟩])
 (.post [5] [0, 1, 2]
 (.block 0
 (.asrow 2 38 4 5
 (.keep [1, 5, 8, 9, 10] []
 (.loop
 (.post [1, 5, 8, 9, 10] [0, 1, 2]
 (.seq
 (.reg [] [⟨some 11, .cmp .lss (.tmp 10) (.tmp 9), none⟩])
 (.seq
 (.cond (.tmp 11)
 .skip
 (.exit 0))
 (.seq
 (.block 1
 (.seq
 (.reg [0] [⟨some 12, .ixa 5 (.tmp 8) (.tmp 10), none⟩,
 ⟨some 13, .ld true 5 (.tmp 12), none⟩,
 ⟨some 7, .alloc 0 [(.d (.int .i64 0)), (.d (.int .i64 0)), (.d (.int .i64 0)), (.nils 1), (.d (.int .i64 0))], none⟩,
 ⟨none, .st 5 (.tmp 7) (.tmp 13), none⟩])
 (.reg [1, 2] [⟨some 14, .mov (.tmp 5), none⟩,
 ⟨some 15, .mov (.tmp 1), none⟩,
 ⟨some 16, .ld true 5 (.tmp 7), none⟩,
 ⟨some 17, .callv (.tmp 15) [(.tmp 16)], none⟩,
 ⟨some 18, .bsl 1 38 4 1 [(.agg [(.int .i64 0), (.int .i64 0), (.int .i64 0), (.slice 1 [])])] [(0, (.tmp 17))], none⟩,
 ⟨some 19, .app 2 38 4 48 (.tmp 14) (.tmp 18), none⟩,
 ⟨some 5, .mov (.tmp 19), none⟩])))
 (.reg [] [⟨some 20, .arith .add .i64 (.tmp 10) (.cst (.d (.int .i64 1))), none⟩,
 ⟨some 10, .mov (.tmp 20), none⟩])))))))))))
 (.seq
 (.reg [] [⟨some 21, .mov (.tmp 5), none⟩,
 ⟨some 4, .mov (.tmp 21), none⟩])
 .ret))))⟩
/-- kilovar/link.Sent$1 -/
def tx94 : AFun := ⟨6, 42, [.cell 2 4 true],
 (.seq
 (.reg [0, 1] [⟨some 1, .cbx 0 5 (.tmp 0), none⟩,
 ⟨some 2, .alloc 1 [(.d (.int .i64 0)), (.d (.int .i64 0)), (.d (.int .i64 0)), (.nils 1)], none⟩])
 (.seq
 (.reg [] [⟨some 3, .fad 0 (.tmp 1), none⟩,
 ⟨some 4, .ld true 4 (.tmp 3), none⟩,
 ⟨some 5, .call 84 [(.tmp 4)], none⟩,
 ⟨none, .st 4 (.tmp 2) (.tmp 5), none⟩])
 .ret))⟩
/-- kilovar/link.mapped[kilovar/link.numbered,int] -/
def tx95 : AFun := ⟨22, 43, [.tmp 4],
 (.seq
 (.reg [] [⟨some 4, .mov (.cst (.nils 1)), none⟩])
 (.seq
 (.reg [] [⟨some 5, .mov (.cst (.nils 1)), none⟩])
 (.seq
 (.seq
 (.reg [] [⟨some 8, .mov (.tmp 0), none⟩,
 ⟨some 9, .len (.tmp 8), none⟩,
 ⟨some 10, .mov (.cst (.d (.int .i64 0))), none⟩])
 (.post [5] [0, 1, 2]
 (.block 0
 (.asrow 2 3 1 5
 (.keep [1, 5, 8, 9, 10] []
 (.loop
 (.post [1, 5, 8, 9, 10] [0, 1, 2]
 (.seq
 (.reg [] [⟨some 11, .cmp .lss (.tmp 10) (.tmp 9), none⟩])
 (.seq
 (.cond (.tmp 11)
 .skip
 (.exit 0))
 (.seq
 (.block 1
 (.seq
 (.reg [0] [⟨some 12, .ixa 5 (.tmp 8) (.tmp 10), none⟩,
 ⟨some 13, .ld true 5 (.tmp 12), none⟩,
 ⟨some 7, .alloc 0 [(.d (.int .i64 0)), (.d (.int .i64 0)), (.d (.int .i64 0)), (.nils 1), (.d (.int .i64 0))], none⟩,
 ⟨none, .st 5 (.tmp 7) (.tmp 13), none⟩])
 (.reg [1, 2] [⟨some 14, .mov (.tmp 5), none⟩,
 ⟨some 15, .mov (.tmp 1), none⟩,
 ⟨some 16, .ld true 5 (.tmp 7), none⟩,
 ⟨some 17, .callv (.tmp 15) [(.tmp 16)], none⟩,
 ⟨some 18, .bsl 1 3 1 1 [(.int .i64 0)] [(0, (.tmp 17))], none⟩,
 ⟨some 19, .app 2 3 1 8 (.tmp 14) (.tmp 18), none⟩,
 ⟨some 5, .mov (.tmp 19), none⟩])))
 (.reg [] [⟨some 20, .arith .add .i64 (.tmp 10) (.cst (.d (.int .i64 1))), none⟩,
 ⟨some 10, .mov (.tmp 20), none⟩])))))))))))
 (.seq
 (.reg [] [⟨some 21, .mov (.tmp 5), none⟩,
 ⟨some 4, .mov (.tmp 21), none⟩])
 .ret))))⟩
/-- kilovar/link.Sent$2 -/
def tx96 : AFun := ⟨5, 41, [.tmp 2],
 (.seq
 (.reg [0] [⟨some 1, .cbx 0 5 (.tmp 0), none⟩,
 ⟨some 2, .mov (.cst (.d (.int .i64 0))), none⟩])
 (.seq
 (.reg [] [⟨some 3, .fad 4 (.tmp 1), none⟩,
 ⟨some 4, .ld false 1 (.tmp 3), none⟩,
 ⟨some 2, .mov (.tmp 4), none⟩])
 .ret))⟩
/-- (kilovar/link.Receiver).takes -/
def tx97 : AFun := ⟨10, 41, [.tmp 4],
 (.seq
 (.reg [0] [⟨some 2, .cbx 0 2 (.tmp 0), none⟩,
 ⟨some 4, .mov (.cst (.d (.bool false))), none⟩])
 (.seq
 (.reg [] [⟨some 5, .mov (.tmp 1), none⟩,
 ⟨some 6, .fad 0 (.tmp 2), none⟩,
 ⟨some 7, .ld false 1 (.tmp 6), none⟩,
 ⟨some 8, .arith .rem .i64 (.tmp 7) (.cst (.d (.int .i64 16))), none⟩,
 ⟨some 9, .cmp .eql (.tmp 5) (.tmp 8), none⟩,
 ⟨some 4, .mov (.tmp 9), none⟩])
 .ret))⟩
/-- kilovar/link.owned -/
def tx98 : AFun := ⟨12, 41, [.tmp 2],
 (.seq
 (.reg [] [⟨some 2, .mov (.cst (.nils 4)), none⟩])
 (.seq
 (.reg [0] [⟨some 4, .mov (.tmp 0), none⟩,
 ⟨some 5, .len (.tmp 4), none⟩,
 ⟨some 6, .msl 0 38 4 48 (.agg [(.int .i64 0), (.int .i64 0), (.int .i64 0), (.slice 1 [])]) (.tmp 5), none⟩,
 ⟨some 3, .mov (.tmp 6), none⟩])
 (.seq
 (.reg [] [⟨some 7, .mov (.tmp 3), none⟩,
 ⟨some 8, .mov (.tmp 0), none⟩,
 ⟨some 9, .copy 4 (.tmp 7) (.tmp 8), none⟩])
 (.seq
 (.reg [] [⟨some 10, .mov (.tmp 3), none⟩,
 ⟨some 11, .calli 133 [(.tmp 10), (.cst (.d (.fn (.func 84) [])))], none⟩,
 ⟨some 2, .mov (.tmp 11), none⟩])
 .ret))))⟩
/-- (kilovar/link.Receiver).with -/
def tx99 : AFun := ⟨17, 45, [.cell 4 2 true],
 (.seq
 (.reg [0, 1, 2] [⟨some 2, .cbx 0 2 (.tmp 0), none⟩,
 ⟨some 3, .cbx 1 4 (.tmp 1), none⟩,
 ⟨some 4, .alloc 2 [(.d (.int .i64 0)), (.nils 4)], none⟩])
 (.seq
 (.regd [3, 4] [⟨some 6, .fad 1 (.tmp 2), none⟩,
 ⟨some 7, .ld false 1 (.tmp 6), none⟩,
 ⟨some 8, .calli 98 [(.tmp 7)], none⟩,
 ⟨some 9, .ld true 4 (.tmp 3), none⟩,
 ⟨some 10, .call 84 [(.tmp 9)], none⟩,
 ⟨some 11, .bsl 3 38 4 1 [(.agg [(.int .i64 0), (.int .i64 0), (.int .i64 0), (.slice 1 [])])] [(0, (.tmp 10))], none⟩,
 ⟨some 12, .app 4 38 4 48 (.tmp 8) (.tmp 11), none⟩,
 ⟨some 5, .mov (.tmp 12), none⟩] [(0, 3), (1, 3), (2, 3)])
 (.seq
 (.reg [] [⟨some 13, .mov (.tmp 5), none⟩,
 ⟨some 14, .len (.tmp 13), none⟩,
 ⟨some 15, .mov (.tmp 5), none⟩,
 ⟨some 16, .build [(.d (.int .i64 0)), (.nils 4)] [(0, 1, (.tmp 14)), (1, 1, (.tmp 15))], none⟩,
 ⟨none, .st 2 (.tmp 4) (.tmp 16), none⟩])
 .ret)))⟩
/-- (kilovar/link.Sender).acknowledged -/
def tx100 : AFun := ⟨30, 41, [.tmp 4],
 (.seq
 (.reg [0] [⟨some 2, .cbx 0 3 (.tmp 0), none⟩,
 ⟨some 4, .mov (.cst (.d (.int .i64 0))), none⟩])
 (.seq
 (.reg [] [⟨some 6, .mov (.tmp 1), none⟩,
 ⟨some 7, .fad 1 (.tmp 2), none⟩,
 ⟨some 8, .ld false 1 (.tmp 7), none⟩,
 ⟨some 9, .arith .rem .i64 (.tmp 8) (.cst (.d (.int .i64 16))), none⟩,
 ⟨some 10, .arith .sub .i64 (.tmp 6) (.tmp 9), none⟩,
 ⟨some 11, .arith .add .i64 (.tmp 10) (.cst (.d (.int .i64 16))), none⟩,
 ⟨some 12, .arith .rem .i64 (.tmp 11) (.cst (.d (.int .i64 16))), none⟩,
 ⟨some 5, .mov (.tmp 12), none⟩])
 (.seq
 (.seq
 (.reg [] [⟨some 13, .mov (.tmp 5), none⟩,
 ⟨some 14, .fad 2 (.tmp 2), none⟩,
 ⟨some 15, .ld false 1 (.tmp 14), none⟩,
 ⟨some 16, .fad 0 (.tmp 2), none⟩,
 ⟨some 17, .ld false 1 (.tmp 16), none⟩,
 ⟨some 18, .len (.tmp 17), none⟩,
 ⟨some 19, .fad 1 (.tmp 2), none⟩,
 ⟨some 20, .ld false 1 (.tmp 19), none⟩,
 ⟨some 21, .arith .sub .i64 (.tmp 18) (.tmp 20), none⟩,
 ⟨some 22, .mini (.tmp 15) (.tmp 21), none⟩,
 ⟨some 23, .cmp .leq (.tmp 13) (.tmp 22), none⟩])
 (.cond (.tmp 23)
 (.seq
 (.reg [] [⟨some 24, .fad 1 (.tmp 2), none⟩,
 ⟨some 25, .ld false 1 (.tmp 24), none⟩,
 ⟨some 26, .mov (.tmp 5), none⟩,
 ⟨some 27, .arith .add .i64 (.tmp 25) (.tmp 26), none⟩,
 ⟨some 4, .mov (.tmp 27), none⟩])
 .ret)
 .skip))
 (.seq
 (.reg [] [⟨some 28, .fad 1 (.tmp 2), none⟩,
 ⟨some 29, .ld false 1 (.tmp 28), none⟩,
 ⟨some 4, .mov (.tmp 29), none⟩])
 .ret))))⟩
/-- kilovar/link.checkRounds -/
def tx101 : AFun := ⟨11, 41, [.tmp 2],
 (.seq
 (.reg [] [⟨some 2, .mov (.cst (.d (.int .i64 0))), none⟩])
 (.seq
 (.seq
 (.reg [] [⟨some 4, .mov (.tmp 0), none⟩,
 ⟨some 5, .len (.tmp 4), none⟩,
 ⟨some 6, .cmp .gtr (.tmp 5) (.cst (.d (.int .i64 64))), none⟩])
 (.cond (.tmp 6)
 (.seq
 (.reg [] [⟨some 2, .mov (.cst (.d (.int .i64 5))), none⟩])
 .ret)
 .skip))
 (.seq
 (.reg [0] [⟨some 3, .alloc 0 [.undef], none⟩,
 ⟨none, .st 1 (.tmp 3) (.cst (.d (.fn (.func 134) []))), none⟩])
 (.seq
 (.reg [] [⟨some 7, .mov (.tmp 0), none⟩,
 ⟨some 8, .mkf (.func 136) [] [(.tmp 3)], none⟩,
 ⟨some 9, .call 135 [(.tmp 7), (.tmp 8)], none⟩,
 ⟨some 10, .call 81 [(.tmp 9)], none⟩,
 ⟨some 2, .mov (.tmp 10), none⟩])
 .ret))))⟩
/-- (kilovar/link.Sender).fits -/
def tx102 : AFun := ⟨34, 42, [.tmp 4],
 (.seq
 (.reg [0, 1] [⟨some 2, .cbx 0 3 (.tmp 0), none⟩,
 ⟨some 3, .cbx 1 2 (.tmp 1), none⟩,
 ⟨some 4, .mov (.cst (.d (.bool false))), none⟩])
 (.seq
 (.regd [] [⟨some 5, .fad 0 (.tmp 3), none⟩,
 ⟨some 6, .ld false 1 (.tmp 5), none⟩,
 ⟨some 7, .fad 1 (.tmp 2), none⟩,
 ⟨some 8, .ld false 1 (.tmp 7), none⟩,
 ⟨some 9, .cmp .geq (.tmp 6) (.tmp 8), none⟩,
 ⟨some 10, .mov (.tmp 9), none⟩,
 ⟨some 11, .fad 0 (.tmp 3), some (10, true)⟩,
 ⟨some 12, .ld false 1 (.tmp 11), some (10, true)⟩,
 ⟨some 13, .fad 0 (.tmp 2), some (10, true)⟩,
 ⟨some 14, .ld false 1 (.tmp 13), some (10, true)⟩,
 ⟨some 15, .len (.tmp 14), some (10, true)⟩,
 ⟨some 16, .fad 1 (.tmp 2), some (10, true)⟩,
 ⟨some 17, .ld false 1 (.tmp 16), some (10, true)⟩,
 ⟨some 18, .fad 2 (.tmp 2), some (10, true)⟩,
 ⟨some 19, .ld false 1 (.tmp 18), some (10, true)⟩,
 ⟨some 20, .arith .add .i64 (.tmp 17) (.tmp 19), some (10, true)⟩,
 ⟨some 21, .mini (.tmp 15) (.tmp 20), some (10, true)⟩,
 ⟨some 22, .cmp .leq (.tmp 12) (.tmp 21), some (10, true)⟩,
 ⟨some 23, .pick (.tmp 10) (.tmp 22) (.cst (.d (.bool false))), none⟩,
 ⟨some 24, .mov (.tmp 23), none⟩,
 ⟨some 25, .fad 1 (.tmp 3), some (24, true)⟩,
 ⟨some 26, .ld false 1 (.tmp 25), some (24, true)⟩,
 ⟨some 27, .fad 0 (.tmp 2), some (24, true)⟩,
 ⟨some 28, .ld false 1 (.tmp 27), some (24, true)⟩,
 ⟨some 29, .fad 0 (.tmp 3), some (24, true)⟩,
 ⟨some 30, .ld false 1 (.tmp 29), some (24, true)⟩,
 ⟨some 31, .slc 4 (.tmp 28) none (some (.tmp 30)), some (24, true)⟩,
 ⟨some 32, .call 138 [(.tmp 26), (.tmp 31), (.cst (.d (.fn (.func 139) [])))], some (24, true)⟩,
 ⟨some 33, .pick (.tmp 24) (.tmp 32) (.cst (.d (.bool false))), none⟩,
 ⟨some 4, .mov (.tmp 33), none⟩] [(0, 2), (1, 2), (0, 3), (1, 3), (6, 8), (7, 8), (6, 9), (7, 9), (6, 10), (7, 10), (6, 11), (7, 11), (8, 11), (9, 11), (10, 11), (6, 12), (7, 12), (8, 12), (9, 12), (10, 12), (6, 13), (7, 13), (8, 13), (9, 13), (10, 13), (11, 13), (12, 13), (6, 14), (7, 14), (8, 14), (9, 14), (10, 14), (11, 14), (12, 14), (6, 15), (7, 15), (8, 15), (9, 15), (10, 15), (6, 16), (7, 16), (20, 22), (21, 22), (20, 23), (21, 23), (20, 24), (21, 24), (22, 24), (23, 24), (20, 25), (21, 25), (22, 25), (23, 25), (20, 26), (21, 26)])
 .ret))⟩
/-- kilovar/link.Exchanged$1 -/
def tx103 : AFun := ⟨11, 41, [],
 (.seq
 (.reg [0] [⟨some 2, .cbx 0 5 (.tmp 0), none⟩])
 (.seq
 (.reg [] [⟨some 3, .ld true 2 (.tmp 1), none⟩,
 ⟨some 4, .fad 4 (.tmp 2), none⟩,
 ⟨some 5, .ld false 1 (.tmp 4), none⟩,
 ⟨some 6, .call 97 [(.tmp 3), (.tmp 5)], none⟩])
 (.cond (.tmp 6)
 (.reg [] [⟨some 7, .ld true 2 (.tmp 1), none⟩,
 ⟨some 8, .fad 0 (.tmp 2), none⟩,
 ⟨some 9, .ld true 4 (.tmp 8), none⟩,
 ⟨some 10, .call 99 [(.tmp 7), (.tmp 9)], none⟩,
 ⟨none, .st 2 (.tmp 1) (.tmp 10), none⟩])
 .skip)))⟩
/-- slices.Contains[[]int,int] -/
def tx104 : AFun := ⟨9, 40, [.tmp 4],
 (.seq
 (.reg [] [⟨some 4, .mov (.cst (.d (.bool false))), none⟩])
 (.seq
 (.reg [] [⟨some 5, .mov (.tmp 0), none⟩,
 ⟨some 6, .mov (.tmp 1), none⟩,
 ⟨some 7, .call 140 [(.tmp 5), (.tmp 6)], none⟩,
 ⟨some 8, .cmp .geq (.tmp 7) (.cst (.d (.int .i64 0))), none⟩,
 ⟨some 4, .mov (.tmp 8), none⟩])
 .ret))⟩
/-- kilovar/link.winner -/
def tx107 : AFun := ⟨34, 41, [.tmp 2],
 (.seq
 (.reg [] [⟨some 2, .mov (.cst (.d (.int .i64 0))), none⟩])
 (.seq
 (.reg [] [⟨some 3, .mov (.cst (.d (.fn (.func 141) []))), none⟩])
 (.seq
 (.reg [] [⟨some 4, .mov (.cst (.d (.int .i64 (-1)))), none⟩])
 (.seq
 (.seq
 (.reg [] [⟨some 7, .mov (.tmp 0), none⟩,
 ⟨some 8, .len (.tmp 7), none⟩,
 ⟨some 9, .mov (.cst (.d (.int .i64 0))), none⟩])
 (.post [4] [0]
 (.block 0
 (.keep [0, 3, 4, 7, 8, 9] []
 (.loop
 (.post [0, 3, 4, 7, 8, 9] [0]
 (.seq
 (.reg [] [⟨some 10, .cmp .lss (.tmp 9) (.tmp 8), none⟩])
 (.seq
 (.cond (.tmp 10)
 .skip
 (.exit 0))
 (.seq
 (.block 1
 (.seq
 (.reg [0] [⟨some 11, .mov (.tmp 9), none⟩,
 ⟨some 12, .ixa 4 (.tmp 7) (.tmp 9), none⟩,
 ⟨some 13, .ld true 4 (.tmp 12), none⟩,
 ⟨some 6, .alloc 0 [(.d (.str [])), (.d (.int .i64 0)), (.d (.int .i64 0)), (.d (.int .i64 0))], none⟩,
 ⟨some 5, .mov (.tmp 11), none⟩,
 ⟨none, .st 4 (.tmp 6) (.tmp 13), none⟩])
 (.seq
 (.regd [] [⟨some 14, .fad 2 (.tmp 6), none⟩,
 ⟨some 15, .ld false 1 (.tmp 14), none⟩,
 ⟨some 16, .cmp .gtr (.tmp 15) (.cst (.d (.int .i64 0))), none⟩,
 ⟨some 17, .mov (.tmp 16), none⟩,
 ⟨some 18, .mov (.tmp 4), some (17, true)⟩,
 ⟨some 19, .cmp .lss (.tmp 18) (.cst (.d (.int .i64 0))), some (17, true)⟩,
 ⟨some 20, .mov (.tmp 19), some (17, true)⟩,
 ⟨some 21, .mov (.tmp 3), some (20, false)⟩,
 ⟨some 22, .mov (.tmp 0), some (20, false)⟩,
 ⟨some 23, .mov (.tmp 4), some (20, false)⟩,
 ⟨some 24, .ixa 4 (.tmp 22) (.tmp 23), some (20, false)⟩,
 ⟨some 25, .ld true 4 (.tmp 24), some (20, false)⟩,
 ⟨some 26, .ld true 4 (.tmp 6), some (20, false)⟩,
 ⟨some 27, .callv (.tmp 21) [(.tmp 25), (.tmp 26)], some (20, false)⟩,
 ⟨some 28, .not (.tmp 27), some (20, false)⟩,
 ⟨some 29, .pick (.tmp 20) (.cst (.d (.bool true))) (.tmp 28), some (17, true)⟩,
 ⟨some 30, .pick (.tmp 17) (.tmp 29) (.cst (.d (.bool false))), none⟩] [(7, 8), (7, 9), (8, 9), (7, 10), (7, 11), (7, 12), (8, 12), (9, 12), (10, 12), (11, 12)])
 (.cond (.tmp 30)
 (.reg [] [⟨some 31, .mov (.tmp 5), none⟩,
 ⟨some 4, .mov (.tmp 31), none⟩])
 .skip))))
 (.reg [] [⟨some 32, .arith .add .i64 (.tmp 9) (.cst (.d (.int .i64 1))), none⟩,
 ⟨some 9, .mov (.tmp 32), none⟩]))))))))))
 (.seq
 (.reg [] [⟨some 33, .mov (.tmp 4), none⟩,
 ⟨some 2, .mov (.tmp 33), none⟩])
 .ret)))))⟩
/-- slices.Clone[[]kilovar/link.Station,kilovar/link.Station] -/
def tx108 : AFun := ⟨8, 42, [.tmp 2],
 (.seq
 (.reg [] [⟨some 2, .mov (.cst (.nils 4)), none⟩])
 (.seq
 (.seq
 (.reg [] [⟨some 3, .mov (.tmp 0), none⟩,
 ⟨some 4, .isnil false (.tmp 3), none⟩])
 (.cond (.tmp 4)
 (.seq
 (.reg [] [⟨some 2, .mov (.cst (.nils 4)), none⟩])
 .ret)
 .skip))
 (.seq
 (.reg [0, 1] [⟨some 5, .bsl 0 146 4 0 [] [], none⟩,
 ⟨some 6, .mov (.tmp 0), none⟩,
 ⟨some 7, .app 1 146 4 40 (.tmp 5) (.tmp 6), none⟩,
 ⟨some 2, .mov (.tmp 7), none⟩])
 .ret)))⟩
/-- kilovar/link.served -/
def tx109 : AFun := ⟨48, 41, [.tmp 4],
 (.seq
 (.reg [] [⟨some 4, .mov (.cst (.nils 4)), none⟩])
 (.seq
 (.reg [] [⟨some 8, .mov (.tmp 0), none⟩,
 ⟨some 9, .calli 108 [(.tmp 8)], none⟩,
 ⟨some 5, .mov (.tmp 9), none⟩])
 (.seq
 (.seq
 (.reg [] [⟨some 10, .mov (.tmp 0), none⟩,
 ⟨some 11, .len (.tmp 10), none⟩,
 ⟨some 12, .mov (.cst (.d (.int .i64 0))), none⟩])
 (.post [5] [0]
 (.block 0
 (.keep [1, 5, 10, 11, 12] []
 (.loop
 (.post [1, 5, 10, 11, 12] [0]
 (.seq
 (.reg [] [⟨some 13, .cmp .lss (.tmp 12) (.tmp 11), none⟩])
 (.seq
 (.cond (.tmp 13)
 .skip
 (.exit 0))
 (.seq
 (.block 1
 (.seq
 (.reg [0] [⟨some 14, .mov (.tmp 12), none⟩,
 ⟨some 15, .ixa 4 (.tmp 10) (.tmp 12), none⟩,
 ⟨some 16, .ld true 4 (.tmp 15), none⟩,
 ⟨some 7, .alloc 0 [(.d (.str [])), (.d (.int .i64 0)), (.d (.int .i64 0)), (.d (.int .i64 0))], none⟩,
 ⟨some 6, .mov (.tmp 14), none⟩,
 ⟨none, .st 4 (.tmp 7) (.tmp 16), none⟩])
 (.seq
 (.block 2
 (.seq
 (.reg [] [⟨some 23, .mov (.tmp 6), none⟩,
 ⟨some 24, .mov (.tmp 1), none⟩,
 ⟨some 25, .cmp .eql (.tmp 23) (.tmp 24), none⟩,
 ⟨some 22, .mov (.tmp 25), none⟩])
 (.cond (.tmp 22)
 (.reg [] [⟨some 26, .fad 2 (.tmp 7), none⟩,
 ⟨some 27, .ld false 1 (.tmp 26), none⟩,
 ⟨some 28, .arith .sub .i64 (.tmp 27) (.cst (.d (.int .i64 1))), none⟩,
 ⟨some 29, .fad 2 (.tmp 7), none⟩,
 ⟨none, .st 1 (.tmp 29) (.tmp 28), none⟩,
 ⟨some 30, .fad 3 (.tmp 7), none⟩,
 ⟨none, .st 1 (.tmp 30) (.cst (.d (.int .i64 0))), none⟩])
 (.seq
 (.reg [] [⟨some 32, .ld true 4 (.tmp 7), none⟩,
 ⟨some 33, .fad 0 (.tmp 7), none⟩,
 ⟨some 34, .ld false 1 (.tmp 33), none⟩,
 ⟨some 35, .fad 1 (.tmp 7), none⟩,
 ⟨some 36, .ld false 1 (.tmp 35), none⟩,
 ⟨some 37, .fad 3 (.tmp 7), none⟩,
 ⟨some 38, .ld false 1 (.tmp 37), none⟩,
 ⟨some 39, .build [(.d (.str [])), (.d (.int .i64 0)), (.d (.int .i64 0)), (.d (.int .i64 0))] [(0, 1, (.tmp 34)), (1, 1, (.tmp 36)), (2, 1, (.cst (.d (.int .i64 0)))), (3, 1, (.tmp 38))], none⟩,
 ⟨some 40, .aeq false [2, 0, 0, 0] (.tmp 32) (.tmp 39), none⟩,
 ⟨some 31, .mov (.tmp 40), none⟩])
 (.cond (.tmp 31)
 (.reg [] [⟨some 41, .fad 3 (.tmp 7), none⟩,
 ⟨none, .st 1 (.tmp 41) (.cst (.d (.int .i64 0))), none⟩])
 (.reg [] [⟨some 17, .fad 3 (.tmp 7), none⟩,
 ⟨some 18, .ld false 1 (.tmp 17), none⟩,
 ⟨some 19, .arith .add .i64 (.tmp 18) (.cst (.d (.int .i64 1))), none⟩,
 ⟨some 20, .mini (.cst (.d (.int .i64 1000))) (.tmp 19), none⟩,
 ⟨some 21, .fad 3 (.tmp 7), none⟩,
 ⟨none, .st 1 (.tmp 21) (.tmp 20), none⟩]))))))
 (.reg [] [⟨some 42, .mov (.tmp 5), none⟩,
 ⟨some 43, .mov (.tmp 6), none⟩,
 ⟨some 44, .ld true 4 (.tmp 7), none⟩,
 ⟨some 45, .ixa 4 (.tmp 42) (.tmp 43), none⟩,
 ⟨none, .st 4 (.tmp 45) (.tmp 44), none⟩]))))
 (.reg [] [⟨some 46, .arith .add .i64 (.tmp 12) (.cst (.d (.int .i64 1))), none⟩,
 ⟨some 12, .mov (.tmp 46), none⟩]))))))))))
 (.seq
 (.reg [] [⟨some 47, .mov (.tmp 5), none⟩,
 ⟨some 4, .mov (.tmp 47), none⟩])
 .ret))))⟩
/-- kilovar/link.checkCycle -/
def tx110 : AFun := ⟨13, 41, [.tmp 2],
 (.seq
 (.reg [] [⟨some 2, .mov (.cst (.d (.int .i64 0))), none⟩])
 (.seq
 (.reg [0] [⟨some 3, .mov (.tmp 0), none⟩,
 ⟨some 4, .len (.tmp 3), none⟩,
 ⟨some 5, .cmp .eql (.tmp 4) (.cst (.d (.int .i64 0))), none⟩,
 ⟨some 6, .call 83 [(.tmp 5), (.cst (.d (.int .i64 12)))], none⟩,
 ⟨some 7, .mov (.tmp 0), none⟩,
 ⟨some 8, .len (.tmp 7), none⟩,
 ⟨some 9, .cmp .gtr (.tmp 8) (.cst (.d (.int .i64 16))), none⟩,
 ⟨some 10, .call 83 [(.tmp 9), (.cst (.d (.int .i64 5)))], none⟩,
 ⟨some 11, .bsl 0 31 1 2 [(.int .i64 0), (.int .i64 0)] [(0, (.tmp 6)), (1, (.tmp 10))], none⟩,
 ⟨some 12, .call 81 [(.tmp 11)], none⟩,
 ⟨some 2, .mov (.tmp 12), none⟩])
 .ret))⟩
/-- slices.Contains[[]bool,bool] -/
def tx111 : AFun := ⟨9, 40, [.tmp 4],
 (.seq
 (.reg [] [⟨some 4, .mov (.cst (.d (.bool false))), none⟩])
 (.seq
 (.reg [] [⟨some 5, .mov (.tmp 0), none⟩,
 ⟨some 6, .mov (.tmp 1), none⟩,
 ⟨some 7, .call 142 [(.tmp 5), (.tmp 6)], none⟩,
 ⟨some 8, .cmp .geq (.tmp 7) (.cst (.d (.int .i64 0))), none⟩,
 ⟨some 4, .mov (.tmp 8), none⟩])
 .ret))⟩
/-- kilovar/carrier.IsName -/
def tx114 : AFun := ⟨51, 41, [.tmp 2],
 (.seq
 (.reg [] [⟨some 2, .mov (.cst (.d (.bool false))), none⟩])
 (.seq
 (.seq
 (.reg [0] [⟨some 6, .mov (.tmp 0), none⟩,
 ⟨some 7, .rng 0 (.tmp 6), none⟩])
 (.post [0] [0]
 (.block 0
 (.keep [0, 7] [0]
 (.loop
 (.post [0, 7] []
 (.seq
 (.reg [] [⟨some 8, .nxt (.tmp 7), none⟩,
 ⟨some 9, .ext 0 (.tmp 8), none⟩])
 (.seq
 (.cond (.tmp 9)
 .skip
 (.exit 0))
 (.block 1
 (.seq
 (.reg [] [⟨some 10, .ext 1 (.tmp 8), none⟩,
 ⟨some 11, .ext 2 (.tmp 8), none⟩,
 ⟨some 3, .mov (.tmp 10), none⟩,
 ⟨some 4, .mov (.tmp 11), none⟩])
 (.seq
 (.reg [] [⟨some 12, .mov (.tmp 4), none⟩,
 ⟨some 13, .cmp .geq (.tmp 12) (.cst (.d (.int .i32 97))), none⟩,
 ⟨some 14, .mov (.tmp 13), none⟩,
 ⟨some 15, .mov (.tmp 4), some (14, true)⟩,
 ⟨some 16, .cmp .leq (.tmp 15) (.cst (.d (.int .i32 122))), some (14, true)⟩,
 ⟨some 17, .pick (.tmp 14) (.tmp 16) (.cst (.d (.bool false))), none⟩,
 ⟨some 18, .mov (.tmp 17), none⟩,
 ⟨some 19, .mov (.tmp 4), some (18, false)⟩,
 ⟨some 20, .cmp .geq (.tmp 19) (.cst (.d (.int .i32 65))), some (18, false)⟩,
 ⟨some 21, .mov (.tmp 20), some (18, false)⟩,
 ⟨some 22, .mov (.tmp 4), some (21, true)⟩,
 ⟨some 23, .cmp .leq (.tmp 22) (.cst (.d (.int .i32 90))), some (21, true)⟩,
 ⟨some 24, .pick (.tmp 21) (.tmp 23) (.cst (.d (.bool false))), some (18, false)⟩,
 ⟨some 25, .pick (.tmp 18) (.cst (.d (.bool true))) (.tmp 24), none⟩,
 ⟨some 5, .mov (.tmp 25), none⟩])
 (.seq
 (.reg [] [⟨some 26, .mov (.tmp 5), none⟩,
 ⟨some 27, .not (.tmp 26), none⟩,
 ⟨some 28, .mov (.tmp 27), none⟩,
 ⟨some 29, .mov (.tmp 3), some (28, true)⟩,
 ⟨some 30, .cmp .eql (.tmp 29) (.cst (.d (.int .i64 0))), some (28, true)⟩,
 ⟨some 31, .mov (.tmp 30), some (28, true)⟩,
 ⟨some 32, .mov (.tmp 4), some (31, false)⟩,
 ⟨some 33, .cmp .neq (.tmp 32) (.cst (.d (.int .i32 95))), some (31, false)⟩,
 ⟨some 34, .mov (.tmp 33), some (31, false)⟩,
 ⟨some 35, .mov (.tmp 4), some (34, true)⟩,
 ⟨some 36, .cmp .lss (.tmp 35) (.cst (.d (.int .i32 48))), some (34, true)⟩,
 ⟨some 37, .mov (.tmp 36), some (34, true)⟩,
 ⟨some 38, .mov (.tmp 4), some (37, false)⟩,
 ⟨some 39, .cmp .gtr (.tmp 38) (.cst (.d (.int .i32 57))), some (37, false)⟩,
 ⟨some 40, .pick (.tmp 37) (.cst (.d (.bool true))) (.tmp 39), some (34, true)⟩,
 ⟨some 41, .pick (.tmp 34) (.tmp 40) (.cst (.d (.bool false))), some (31, false)⟩,
 ⟨some 42, .pick (.tmp 31) (.cst (.d (.bool true))) (.tmp 41), some (28, true)⟩,
 ⟨some 43, .pick (.tmp 28) (.tmp 42) (.cst (.d (.bool false))), none⟩])
 (.cond (.tmp 43)
 (.seq
 (.reg [] [⟨some 2, .mov (.cst (.d (.bool false))), none⟩])
 .ret)
 .skip)))))))))))))
 (.seq
 (.reg [] [⟨some 44, .mov (.tmp 0), none⟩,
 ⟨some 45, .seq true (.tmp 44) (.cst (.d (.str []))), none⟩,
 ⟨some 46, .mov (.tmp 45), none⟩,
 ⟨some 47, .mov (.tmp 0), some (46, true)⟩,
 ⟨some 48, .lens (.tmp 47), some (46, true)⟩,
 ⟨some 49, .cmp .leq (.tmp 48) (.cst (.d (.int .i64 24))), some (46, true)⟩,
 ⟨some 50, .pick (.tmp 46) (.tmp 49) (.cst (.d (.bool false))), none⟩,
 ⟨some 2, .mov (.tmp 50), none⟩])
 .ret)))⟩
/-- kilovar/link.mapped[kilovar/link.Frame,string] -/
def tx117 : AFun := ⟨22, 43, [.tmp 4],
 (.seq
 (.reg [] [⟨some 4, .mov (.cst (.nils 1)), none⟩])
 (.seq
 (.reg [] [⟨some 5, .mov (.cst (.nils 1)), none⟩])
 (.seq
 (.seq
 (.reg [] [⟨some 8, .mov (.tmp 0), none⟩,
 ⟨some 9, .len (.tmp 8), none⟩,
 ⟨some 10, .mov (.cst (.d (.int .i64 0))), none⟩])
 (.post [5] [0, 1, 2]
 (.block 0
 (.asrow 2 9 1 5
 (.keep [1, 5, 8, 9, 10] []
 (.loop
 (.post [1, 5, 8, 9, 10] [0, 1, 2]
 (.seq
 (.reg [] [⟨some 11, .cmp .lss (.tmp 10) (.tmp 9), none⟩])
 (.seq
 (.cond (.tmp 11)
 .skip
 (.exit 0))
 (.seq
 (.block 1
 (.seq
 (.reg [0] [⟨some 12, .ixa 4 (.tmp 8) (.tmp 10), none⟩,
 ⟨some 13, .ld true 4 (.tmp 12), none⟩,
 ⟨some 7, .alloc 0 [(.d (.int .i64 0)), (.d (.int .i64 0)), (.d (.int .i64 0)), (.nils 1)], none⟩,
 ⟨none, .st 4 (.tmp 7) (.tmp 13), none⟩])
 (.reg [1, 2] [⟨some 14, .mov (.tmp 5), none⟩,
 ⟨some 15, .mov (.tmp 1), none⟩,
 ⟨some 16, .ld true 4 (.tmp 7), none⟩,
 ⟨some 17, .callv (.tmp 15) [(.tmp 16)], none⟩,
 ⟨some 18, .bsl 1 9 1 1 [(.str [])] [(0, (.tmp 17))], none⟩,
 ⟨some 19, .app 2 9 1 16 (.tmp 14) (.tmp 18), none⟩,
 ⟨some 5, .mov (.tmp 19), none⟩])))
 (.reg [] [⟨some 20, .arith .add .i64 (.tmp 10) (.cst (.d (.int .i64 1))), none⟩,
 ⟨some 10, .mov (.tmp 20), none⟩])))))))))))
 (.seq
 (.reg [] [⟨some 21, .mov (.tmp 5), none⟩,
 ⟨some 4, .mov (.tmp 21), none⟩])
 .ret))))⟩
/-- (kilovar/link.Frame).line -/
def tx118 : AFun := ⟨21, 45, [.tmp 2],
 (.seq
 (.reg [0] [⟨some 1, .cbx 0 4 (.tmp 0), none⟩,
 ⟨some 2, .mov (.cst (.d (.str []))), none⟩])
 (.seq
 (.reg [1, 2, 3] [⟨some 4, .bsl 1 9 1 1 [(.str [])] [(0, (.cst (.d (.str [102, 114, 97, 109, 101]))))], none⟩,
 ⟨some 5, .fad 0 (.tmp 1), none⟩,
 ⟨some 6, .ld false 1 (.tmp 5), none⟩,
 ⟨some 7, .fad 1 (.tmp 1), none⟩,
 ⟨some 8, .ld false 1 (.tmp 7), none⟩,
 ⟨some 9, .fad 2 (.tmp 1), none⟩,
 ⟨some 10, .ld false 1 (.tmp 9), none⟩,
 ⟨some 11, .bsl 2 3 1 3 [(.int .i64 0), (.int .i64 0), (.int .i64 0)] [(0, (.tmp 6)), (1, (.tmp 8)), (2, (.tmp 10))], none⟩,
 ⟨some 12, .call 147 [(.tmp 11), (.cst (.d (.fn (.func 148) [])))], none⟩,
 ⟨some 13, .app 3 9 1 16 (.tmp 4) (.tmp 12), none⟩,
 ⟨some 3, .mov (.tmp 13), none⟩])
 (.seq
 (.reg [4] [⟨some 14, .mov (.tmp 3), none⟩,
 ⟨some 15, .fad 3 (.tmp 1), none⟩,
 ⟨some 16, .ld false 1 (.tmp 15), none⟩,
 ⟨some 17, .call 149 [(.tmp 16), (.cst (.d (.fn (.func 150) [])))], none⟩,
 ⟨some 18, .app 4 9 1 16 (.tmp 14) (.tmp 17), none⟩,
 ⟨some 19, .call 116 [(.tmp 18), (.cst (.d (.str [32])))], none⟩,
 ⟨some 20, .cat (.tmp 19) (.cst (.d (.str [10]))), none⟩,
 ⟨some 2, .mov (.tmp 20), none⟩])
 .ret)))⟩
/-- kilovar/link.mapped[kilovar/link.Frame,kilovar/api.Errno] -/
def tx124 : AFun := ⟨22, 43, [.tmp 4],
 (.seq
 (.reg [] [⟨some 4, .mov (.cst (.nils 1)), none⟩])
 (.seq
 (.reg [] [⟨some 5, .mov (.cst (.nils 1)), none⟩])
 (.seq
 (.seq
 (.reg [] [⟨some 8, .mov (.tmp 0), none⟩,
 ⟨some 9, .len (.tmp 8), none⟩,
 ⟨some 10, .mov (.cst (.d (.int .i64 0))), none⟩])
 (.post [5] [0, 1, 2]
 (.block 0
 (.asrow 2 31 1 5
 (.keep [1, 5, 8, 9, 10] []
 (.loop
 (.post [1, 5, 8, 9, 10] [0, 1, 2]
 (.seq
 (.reg [] [⟨some 11, .cmp .lss (.tmp 10) (.tmp 9), none⟩])
 (.seq
 (.cond (.tmp 11)
 .skip
 (.exit 0))
 (.seq
 (.block 1
 (.seq
 (.reg [0] [⟨some 12, .ixa 4 (.tmp 8) (.tmp 10), none⟩,
 ⟨some 13, .ld true 4 (.tmp 12), none⟩,
 ⟨some 7, .alloc 0 [(.d (.int .i64 0)), (.d (.int .i64 0)), (.d (.int .i64 0)), (.nils 1)], none⟩,
 ⟨none, .st 4 (.tmp 7) (.tmp 13), none⟩])
 (.reg [1, 2] [⟨some 14, .mov (.tmp 5), none⟩,
 ⟨some 15, .mov (.tmp 1), none⟩,
 ⟨some 16, .ld true 4 (.tmp 7), none⟩,
 ⟨some 17, .callv (.tmp 15) [(.tmp 16)], none⟩,
 ⟨some 18, .bsl 1 31 1 1 [(.int .i64 0)] [(0, (.tmp 17))], none⟩,
 ⟨some 19, .app 2 31 1 8 (.tmp 14) (.tmp 18), none⟩,
 ⟨some 5, .mov (.tmp 19), none⟩])))
 (.reg [] [⟨some 20, .arith .add .i64 (.tmp 10) (.cst (.d (.int .i64 1))), none⟩,
 ⟨some 10, .mov (.tmp 20), none⟩])))))))))))
 (.seq
 (.reg [] [⟨some 21, .mov (.tmp 5), none⟩,
 ⟨some 4, .mov (.tmp 21), none⟩])
 .ret))))⟩
/-- kilovar/link.limits$1 -/
def tx125 : AFun := ⟨5, 41, [.tmp 2],
 (.seq
 (.reg [0] [⟨some 1, .cbx 0 4 (.tmp 0), none⟩,
 ⟨some 2, .mov (.cst (.d (.int .i64 0))), none⟩])
 (.seq
 (.reg [] [⟨some 3, .fad 0 (.tmp 1), none⟩,
 ⟨some 4, .ld false 1 (.tmp 3), none⟩,
 ⟨some 2, .mov (.tmp 4), none⟩])
 .ret))⟩
/-- kilovar/link.limits$2 -/
def tx126 : AFun := ⟨3, 41, [.tmp 2],
 (.seq
 (.reg [0] [⟨some 1, .cbx 0 4 (.tmp 0), none⟩,
 ⟨some 2, .mov (.cst (.d (.int .i64 0))), none⟩])
 (.seq
 (.reg [] [⟨some 2, .mov (.cst (.d (.int .i64 255))), none⟩])
 .ret))⟩
/-- kilovar/link.limits$3 -/
def tx127 : AFun := ⟨5, 41, [.tmp 2],
 (.seq
 (.reg [0] [⟨some 1, .cbx 0 4 (.tmp 0), none⟩,
 ⟨some 2, .mov (.cst (.d (.int .i64 0))), none⟩])
 (.seq
 (.reg [] [⟨some 3, .fad 2 (.tmp 1), none⟩,
 ⟨some 4, .ld false 1 (.tmp 3), none⟩,
 ⟨some 2, .mov (.tmp 4), none⟩])
 .ret))⟩
/-- kilovar/link.limits$4 -/
def tx128 : AFun := ⟨3, 41, [.tmp 2],
 (.seq
 (.reg [0] [⟨some 1, .cbx 0 4 (.tmp 0), none⟩,
 ⟨some 2, .mov (.cst (.d (.int .i64 0))), none⟩])
 (.seq
 (.reg [] [⟨some 2, .mov (.cst (.d (.int .i64 64))), none⟩])
 .ret))⟩
/-- kilovar/link.limits$5 -/
def tx129 : AFun := ⟨5, 41, [.tmp 2],
 (.seq
 (.reg [0] [⟨some 1, .cbx 0 4 (.tmp 0), none⟩,
 ⟨some 2, .mov (.cst (.d (.int .i64 0))), none⟩])
 (.seq
 (.reg [] [⟨some 3, .fad 1 (.tmp 1), none⟩,
 ⟨some 4, .ld false 1 (.tmp 3), none⟩,
 ⟨some 2, .mov (.tmp 4), none⟩])
 .ret))⟩
/-- kilovar/link.limits$6 -/
def tx130 : AFun := ⟨6, 41, [.tmp 2],
 (.seq
 (.reg [0] [⟨some 1, .cbx 0 4 (.tmp 0), none⟩,
 ⟨some 2, .mov (.cst (.d (.int .i64 0))), none⟩])
 (.seq
 (.reg [] [⟨some 3, .fad 2 (.tmp 1), none⟩,
 ⟨some 4, .ld false 1 (.tmp 3), none⟩,
 ⟨some 5, .arith .sub .i64 (.tmp 4) (.cst (.d (.int .i64 1))), none⟩,
 ⟨some 2, .mov (.tmp 5), none⟩])
 .ret))⟩
/-- slices.AppendSeq[[]kilovar/link.numbered,kilovar/link.numbered] -/
def tx131 : AFun := ⟨13, 45, [.tmp 4],
 (.seq
 (.reg [0] [⟨some 2, .box 0 1 (.tmp 0), none⟩,
 ⟨some 4, .mov (.cst (.nils 5)), none⟩])
 (.seq
 (.seq
 (.reg [] [⟨some 6, .mov (.tmp 1), none⟩])
 (.block 0
 (.keep [2, 6] [0]
 (.rfor 1 (.tmp 6) [7]
 (.reg [2] [⟨some 5, .alloc 2 [(.d (.int .i64 0)), (.d (.int .i64 0)), (.d (.int .i64 0)), (.nils 1), (.d (.int .i64 0))], none⟩,
 ⟨none, .st 5 (.tmp 5) (.tmp 7), none⟩])
 (.post [] [2, 3, 4]
 (.block 1
 (.reg [3, 4] [⟨some 8, .ld false 1 (.tmp 2), none⟩,
 ⟨some 9, .ld true 5 (.tmp 5), none⟩,
 ⟨some 10, .bsl 3 172 5 1 [(.agg [(.int .i64 0), (.int .i64 0), (.int .i64 0), (.slice 1 []), (.int .i64 0)])] [(0, (.tmp 9))], none⟩,
 ⟨some 11, .app 4 172 5 56 (.tmp 8) (.tmp 10), none⟩,
 ⟨none, .st 1 (.tmp 2) (.tmp 11), none⟩])))))))
 (.seq
 (.reg [] [⟨some 12, .ld false 1 (.tmp 2), none⟩,
 ⟨some 4, .mov (.tmp 12), none⟩])
 .ret)))⟩
/-- (kilovar/link.Sender).sent$1 -/
def tx132 : AFun := ⟨30, 40, [],
 (.seq
 (.reg [] [⟨some 4, .fad 1 (.tmp 1), none⟩,
 ⟨some 5, .ld false 1 (.tmp 4), none⟩,
 ⟨some 3, .mov (.tmp 5), none⟩])
 (.post [] []
 (.block 0
 (.keep [0, 1, 3] []
 (.loop
 (.post [0, 1, 3] []
 (.seq
 (.seq
 (.reg [] [⟨some 6, .mov (.tmp 3), none⟩,
 ⟨some 7, .fad 0 (.tmp 1), none⟩,
 ⟨some 8, .ld false 1 (.tmp 7), none⟩,
 ⟨some 9, .len (.tmp 8), none⟩,
 ⟨some 10, .fad 1 (.tmp 1), none⟩,
 ⟨some 11, .ld false 1 (.tmp 10), none⟩,
 ⟨some 12, .fad 2 (.tmp 1), none⟩,
 ⟨some 13, .ld false 1 (.tmp 12), none⟩,
 ⟨some 14, .arith .add .i64 (.tmp 11) (.tmp 13), none⟩,
 ⟨some 15, .mini (.tmp 9) (.tmp 14), none⟩,
 ⟨some 16, .cmp .lss (.tmp 6) (.tmp 15), none⟩])
 (.cond (.tmp 16)
 .skip
 (.exit 0)))
 (.seq
 (.block 1
 (.seq
 (.reg [] [⟨some 19, .mov (.tmp 0), none⟩,
 ⟨some 20, .fad 0 (.tmp 1), none⟩,
 ⟨some 21, .ld false 1 (.tmp 20), none⟩,
 ⟨some 22, .mov (.tmp 3), none⟩,
 ⟨some 23, .ixa 4 (.tmp 21) (.tmp 22), none⟩,
 ⟨some 24, .ld true 4 (.tmp 23), none⟩,
 ⟨some 25, .mov (.tmp 3), none⟩,
 ⟨some 26, .arith .rem .i64 (.tmp 25) (.cst (.d (.int .i64 16))), none⟩,
 ⟨some 27, .build [(.d (.int .i64 0)), (.d (.int .i64 0)), (.d (.int .i64 0)), (.nils 1), (.d (.int .i64 0))] [(0, 4, (.tmp 24)), (4, 1, (.tmp 26))], none⟩,
 ⟨some 28, .callv (.tmp 19) [(.tmp 27)], none⟩,
 ⟨some 29, .not (.tmp 28), none⟩])
 (.cond (.tmp 29)
 .ret
 .skip)))
 (.reg [] [⟨some 17, .mov (.tmp 3), none⟩,
 ⟨some 18, .arith .add .i64 (.tmp 17) (.cst (.d (.int .i64 1))), none⟩,
 ⟨some 3, .mov (.tmp 18), none⟩])))))))))⟩
/-- kilovar/link.mapped[kilovar/link.Frame,kilovar/link.Frame] -/
def tx133 : AFun := ⟨22, 43, [.tmp 4],
 (.seq
 (.reg [] [⟨some 4, .mov (.cst (.nils 4)), none⟩])
 (.seq
 (.reg [] [⟨some 5, .mov (.cst (.nils 4)), none⟩])
 (.seq
 (.seq
 (.reg [] [⟨some 8, .mov (.tmp 0), none⟩,
 ⟨some 9, .len (.tmp 8), none⟩,
 ⟨some 10, .mov (.cst (.d (.int .i64 0))), none⟩])
 (.post [5] [0, 1, 2]
 (.block 0
 (.asrow 2 38 4 5
 (.keep [1, 5, 8, 9, 10] []
 (.loop
 (.post [1, 5, 8, 9, 10] [0, 1, 2]
 (.seq
 (.reg [] [⟨some 11, .cmp .lss (.tmp 10) (.tmp 9), none⟩])
 (.seq
 (.cond (.tmp 11)
 .skip
 (.exit 0))
 (.seq
 (.block 1
 (.seq
 (.reg [0] [⟨some 12, .ixa 4 (.tmp 8) (.tmp 10), none⟩,
 ⟨some 13, .ld true 4 (.tmp 12), none⟩,
 ⟨some 7, .alloc 0 [(.d (.int .i64 0)), (.d (.int .i64 0)), (.d (.int .i64 0)), (.nils 1)], none⟩,
 ⟨none, .st 4 (.tmp 7) (.tmp 13), none⟩])
 (.reg [1, 2] [⟨some 14, .mov (.tmp 5), none⟩,
 ⟨some 15, .mov (.tmp 1), none⟩,
 ⟨some 16, .ld true 4 (.tmp 7), none⟩,
 ⟨some 17, .callv (.tmp 15) [(.tmp 16)], none⟩,
 ⟨some 18, .bsl 1 38 4 1 [(.agg [(.int .i64 0), (.int .i64 0), (.int .i64 0), (.slice 1 [])])] [(0, (.tmp 17))], none⟩,
 ⟨some 19, .app 2 38 4 48 (.tmp 14) (.tmp 18), none⟩,
 ⟨some 5, .mov (.tmp 19), none⟩])))
 (.reg [] [⟨some 20, .arith .add .i64 (.tmp 10) (.cst (.d (.int .i64 1))), none⟩,
 ⟨some 10, .mov (.tmp 20), none⟩])))))))))))
 (.seq
 (.reg [] [⟨some 21, .mov (.tmp 5), none⟩,
 ⟨some 4, .mov (.tmp 21), none⟩])
 .ret))))⟩
/-- kilovar/link.checkRounds$1 -/
def tx134 : AFun := ⟨5, 40, [.tmp 2],
 (.seq
 (.reg [] [⟨some 2, .mov (.cst (.d (.int .i64 0))), none⟩])
 (.seq
 (.reg [] [⟨some 3, .mov (.tmp 0), none⟩,
 ⟨some 4, .call 82 [(.tmp 3), (.cst (.d (.int .i64 0))), (.cst (.d (.int .i64 7)))], none⟩,
 ⟨some 2, .mov (.tmp 4), none⟩])
 .ret))⟩
/-- kilovar/link.mapped[kilovar/link.Round,kilovar/api.Errno] -/
def tx135 : AFun := ⟨22, 43, [.tmp 4],
 (.seq
 (.reg [] [⟨some 4, .mov (.cst (.nils 1)), none⟩])
 (.seq
 (.reg [] [⟨some 5, .mov (.cst (.nils 1)), none⟩])
 (.seq
 (.seq
 (.reg [] [⟨some 8, .mov (.tmp 0), none⟩,
 ⟨some 9, .len (.tmp 8), none⟩,
 ⟨some 10, .mov (.cst (.d (.int .i64 0))), none⟩])
 (.post [5] [0, 1, 2]
 (.block 0
 (.asrow 2 31 1 5
 (.keep [1, 5, 8, 9, 10] []
 (.loop
 (.post [1, 5, 8, 9, 10] [0, 1, 2]
 (.seq
 (.reg [] [⟨some 11, .cmp .lss (.tmp 10) (.tmp 9), none⟩])
 (.seq
 (.cond (.tmp 11)
 .skip
 (.exit 0))
 (.seq
 (.block 1
 (.seq
 (.reg [0] [⟨some 12, .ixa 3 (.tmp 8) (.tmp 10), none⟩,
 ⟨some 13, .ld true 3 (.tmp 12), none⟩,
 ⟨some 7, .alloc 0 [(.nils 1), (.nils 1), (.d (.bool false))], none⟩,
 ⟨none, .st 3 (.tmp 7) (.tmp 13), none⟩])
 (.reg [1, 2] [⟨some 14, .mov (.tmp 5), none⟩,
 ⟨some 15, .mov (.tmp 1), none⟩,
 ⟨some 16, .ld true 3 (.tmp 7), none⟩,
 ⟨some 17, .callv (.tmp 15) [(.tmp 16)], none⟩,
 ⟨some 18, .bsl 1 31 1 1 [(.int .i64 0)] [(0, (.tmp 17))], none⟩,
 ⟨some 19, .app 2 31 1 8 (.tmp 14) (.tmp 18), none⟩,
 ⟨some 5, .mov (.tmp 19), none⟩])))
 (.reg [] [⟨some 20, .arith .add .i64 (.tmp 10) (.cst (.d (.int .i64 1))), none⟩,
 ⟨some 10, .mov (.tmp 20), none⟩])))))))))))
 (.seq
 (.reg [] [⟨some 21, .mov (.tmp 5), none⟩,
 ⟨some 4, .mov (.tmp 21), none⟩])
 .ret))))⟩
/-- kilovar/link.checkRounds$2 -/
def tx136 : AFun := ⟨16, 42, [.tmp 3],
 (.seq
 (.reg [0] [⟨some 2, .cbx 0 3 (.tmp 0), none⟩,
 ⟨some 3, .mov (.cst (.d (.int .i64 0))), none⟩])
 (.seq
 (.regd [1] [⟨some 4, .fad 0 (.tmp 2), none⟩,
 ⟨some 5, .ld false 1 (.tmp 4), none⟩,
 ⟨some 6, .ld false 1 (.tmp 1), none⟩,
 ⟨some 7, .call 137 [(.tmp 5), (.tmp 6)], none⟩,
 ⟨some 8, .call 81 [(.tmp 7)], none⟩,
 ⟨some 9, .fad 1 (.tmp 2), none⟩,
 ⟨some 10, .ld false 1 (.tmp 9), none⟩,
 ⟨some 11, .ld false 1 (.tmp 1), none⟩,
 ⟨some 12, .call 137 [(.tmp 10), (.tmp 11)], none⟩,
 ⟨some 13, .call 81 [(.tmp 12)], none⟩,
 ⟨some 14, .bsl 1 31 1 2 [(.int .i64 0), (.int .i64 0)] [(0, (.tmp 8)), (1, (.tmp 13))], none⟩,
 ⟨some 15, .call 81 [(.tmp 14)], none⟩,
 ⟨some 3, .mov (.tmp 15), none⟩] [(0, 2), (1, 2), (0, 5), (1, 5), (2, 5), (3, 5), (4, 5), (0, 6), (1, 6), (2, 6), (3, 6), (4, 6), (0, 7), (1, 7), (2, 7), (3, 7), (4, 7), (5, 7), (6, 7)])
 .ret))⟩
/-- kilovar/link.mapped[int,kilovar/api.Errno] -/
def tx137 : AFun := ⟨22, 42, [.tmp 4],
 (.seq
 (.reg [] [⟨some 4, .mov (.cst (.nils 1)), none⟩])
 (.seq
 (.reg [] [⟨some 5, .mov (.cst (.nils 1)), none⟩])
 (.seq
 (.seq
 (.reg [] [⟨some 8, .mov (.tmp 0), none⟩,
 ⟨some 9, .len (.tmp 8), none⟩,
 ⟨some 10, .mov (.cst (.d (.int .i64 0))), none⟩])
 (.post [5] [0, 1]
 (.block 0
 (.asrow 1 31 1 5
 (.keep [1, 5, 8, 9, 10] []
 (.loop
 (.post [1, 5, 8, 9, 10] [0, 1]
 (.seq
 (.reg [] [⟨some 11, .cmp .lss (.tmp 10) (.tmp 9), none⟩])
 (.seq
 (.cond (.tmp 11)
 .skip
 (.exit 0))
 (.seq
 (.block 1
 (.seq
 (.reg [] [⟨some 12, .ixa 1 (.tmp 8) (.tmp 10), none⟩,
 ⟨some 13, .ld false 1 (.tmp 12), none⟩,
 ⟨some 7, .mov (.tmp 13), none⟩])
 (.reg [0, 1] [⟨some 14, .mov (.tmp 5), none⟩,
 ⟨some 15, .mov (.tmp 1), none⟩,
 ⟨some 16, .mov (.tmp 7), none⟩,
 ⟨some 17, .callv (.tmp 15) [(.tmp 16)], none⟩,
 ⟨some 18, .bsl 0 31 1 1 [(.int .i64 0)] [(0, (.tmp 17))], none⟩,
 ⟨some 19, .app 1 31 1 8 (.tmp 14) (.tmp 18), none⟩,
 ⟨some 5, .mov (.tmp 19), none⟩])))
 (.reg [] [⟨some 20, .arith .add .i64 (.tmp 10) (.cst (.d (.int .i64 1))), none⟩,
 ⟨some 10, .mov (.tmp 20), none⟩])))))))))))
 (.seq
 (.reg [] [⟨some 21, .mov (.tmp 5), none⟩,
 ⟨some 4, .mov (.tmp 21), none⟩])
 .ret))))⟩
/-- slices.EqualFunc[[]kilovar/link.Frame,[]kilovar/link.Frame,kilovar/link.Frame,kilovar/link.Frame] -/
def tx138 : AFun := ⟨32, 42, [.tmp 6],
 (.seq
 (.reg [] [⟨some 6, .mov (.cst (.d (.bool false))), none⟩])
 (.seq
 (.seq
 (.reg [] [⟨some 10, .mov (.tmp 0), none⟩,
 ⟨some 11, .len (.tmp 10), none⟩,
 ⟨some 12, .mov (.tmp 1), none⟩,
 ⟨some 13, .len (.tmp 12), none⟩,
 ⟨some 14, .cmp .neq (.tmp 11) (.tmp 13), none⟩])
 (.cond (.tmp 14)
 (.seq
 (.reg [] [⟨some 6, .mov (.cst (.d (.bool false))), none⟩])
 .ret)
 .skip))
 (.seq
 (.seq
 (.reg [] [⟨some 15, .mov (.tmp 0), none⟩,
 ⟨some 16, .len (.tmp 15), none⟩,
 ⟨some 17, .mov (.cst (.d (.int .i64 0))), none⟩])
 (.post [] [0, 1]
 (.block 0
 (.keep [1, 2, 15, 16, 17] []
 (.loop
 (.post [1, 2, 15, 16, 17] [0, 1]
 (.seq
 (.reg [] [⟨some 18, .cmp .lss (.tmp 17) (.tmp 16), none⟩])
 (.seq
 (.cond (.tmp 18)
 .skip
 (.exit 0))
 (.seq
 (.block 1
 (.seq
 (.reg [0] [⟨some 19, .mov (.tmp 17), none⟩,
 ⟨some 20, .ixa 4 (.tmp 15) (.tmp 17), none⟩,
 ⟨some 21, .ld true 4 (.tmp 20), none⟩,
 ⟨some 8, .alloc 0 [(.d (.int .i64 0)), (.d (.int .i64 0)), (.d (.int .i64 0)), (.nils 1)], none⟩,
 ⟨some 7, .mov (.tmp 19), none⟩,
 ⟨none, .st 4 (.tmp 8) (.tmp 21), none⟩])
 (.seq
 (.reg [1] [⟨some 22, .mov (.tmp 1), none⟩,
 ⟨some 23, .mov (.tmp 7), none⟩,
 ⟨some 24, .ixa 4 (.tmp 22) (.tmp 23), none⟩,
 ⟨some 25, .ld true 4 (.tmp 24), none⟩,
 ⟨some 9, .alloc 1 [(.d (.int .i64 0)), (.d (.int .i64 0)), (.d (.int .i64 0)), (.nils 1)], none⟩,
 ⟨none, .st 4 (.tmp 9) (.tmp 25), none⟩])
 (.seq
 (.reg [] [⟨some 26, .mov (.tmp 2), none⟩,
 ⟨some 27, .ld true 4 (.tmp 8), none⟩,
 ⟨some 28, .ld true 4 (.tmp 9), none⟩,
 ⟨some 29, .callv (.tmp 26) [(.tmp 27), (.tmp 28)], none⟩,
 ⟨some 30, .not (.tmp 29), none⟩])
 (.cond (.tmp 30)
 (.seq
 (.reg [] [⟨some 6, .mov (.cst (.d (.bool false))), none⟩])
 .ret)
 .skip)))))
 (.reg [] [⟨some 31, .arith .add .i64 (.tmp 17) (.cst (.d (.int .i64 1))), none⟩,
 ⟨some 17, .mov (.tmp 31), none⟩]))))))))))
 (.seq
 (.reg [] [⟨some 6, .mov (.cst (.d (.bool true))), none⟩])
 .ret))))⟩
/-- kilovar/link.same -/
def tx139 : AFun := ⟨31, 42, [.tmp 4],
 (.seq
 (.reg [0, 1] [⟨some 2, .cbx 0 4 (.tmp 0), none⟩,
 ⟨some 3, .cbx 1 4 (.tmp 1), none⟩,
 ⟨some 4, .mov (.cst (.d (.bool false))), none⟩])
 (.seq
 (.reg [] [⟨some 5, .fad 0 (.tmp 2), none⟩,
 ⟨some 6, .ld false 1 (.tmp 5), none⟩,
 ⟨some 7, .fad 0 (.tmp 3), none⟩,
 ⟨some 8, .ld false 1 (.tmp 7), none⟩,
 ⟨some 9, .cmp .eql (.tmp 6) (.tmp 8), none⟩,
 ⟨some 10, .mov (.tmp 9), none⟩,
 ⟨some 11, .fad 1 (.tmp 2), some (10, true)⟩,
 ⟨some 12, .ld false 1 (.tmp 11), some (10, true)⟩,
 ⟨some 13, .fad 1 (.tmp 3), some (10, true)⟩,
 ⟨some 14, .ld false 1 (.tmp 13), some (10, true)⟩,
 ⟨some 15, .cmp .eql (.tmp 12) (.tmp 14), some (10, true)⟩,
 ⟨some 16, .pick (.tmp 10) (.tmp 15) (.cst (.d (.bool false))), none⟩,
 ⟨some 17, .mov (.tmp 16), none⟩,
 ⟨some 18, .fad 2 (.tmp 2), some (17, true)⟩,
 ⟨some 19, .ld false 1 (.tmp 18), some (17, true)⟩,
 ⟨some 20, .fad 2 (.tmp 3), some (17, true)⟩,
 ⟨some 21, .ld false 1 (.tmp 20), some (17, true)⟩,
 ⟨some 22, .cmp .eql (.tmp 19) (.tmp 21), some (17, true)⟩,
 ⟨some 23, .pick (.tmp 17) (.tmp 22) (.cst (.d (.bool false))), none⟩,
 ⟨some 24, .mov (.tmp 23), none⟩,
 ⟨some 25, .fad 3 (.tmp 2), some (24, true)⟩,
 ⟨some 26, .ld false 1 (.tmp 25), some (24, true)⟩,
 ⟨some 27, .fad 3 (.tmp 3), some (24, true)⟩,
 ⟨some 28, .ld false 1 (.tmp 27), some (24, true)⟩,
 ⟨some 29, .call 86 [(.tmp 26), (.tmp 28)], some (24, true)⟩,
 ⟨some 30, .pick (.tmp 24) (.tmp 29) (.cst (.d (.bool false))), none⟩,
 ⟨some 4, .mov (.tmp 30), none⟩])
 .ret))⟩
/-- slices.Index[[]int,int] -/
def tx140 : AFun := ⟨19, 40, [.tmp 4],
 (.seq
 (.reg [] [⟨some 4, .mov (.cst (.d (.int .i64 0))), none⟩])
 (.seq
 (.seq
 (.reg [] [⟨some 6, .mov (.tmp 0), none⟩,
 ⟨some 7, .len (.tmp 6), none⟩,
 ⟨some 8, .mov (.cst (.d (.int .i64 0))), none⟩])
 (.post [] []
 (.block 0
 (.keep [0, 1, 7, 8] []
 (.loop
 (.post [0, 1, 7, 8] []
 (.seq
 (.reg [] [⟨some 9, .cmp .lss (.tmp 8) (.tmp 7), none⟩])
 (.seq
 (.cond (.tmp 9)
 .skip
 (.exit 0))
 (.seq
 (.block 1
 (.seq
 (.reg [] [⟨some 10, .mov (.tmp 8), none⟩,
 ⟨some 5, .mov (.tmp 10), none⟩])
 (.seq
 (.reg [] [⟨some 11, .mov (.tmp 1), none⟩,
 ⟨some 12, .mov (.tmp 0), none⟩,
 ⟨some 13, .mov (.tmp 5), none⟩,
 ⟨some 14, .ixa 1 (.tmp 12) (.tmp 13), none⟩,
 ⟨some 15, .ld false 1 (.tmp 14), none⟩,
 ⟨some 16, .cmp .eql (.tmp 11) (.tmp 15), none⟩])
 (.cond (.tmp 16)
 (.seq
 (.reg [] [⟨some 17, .mov (.tmp 5), none⟩,
 ⟨some 4, .mov (.tmp 17), none⟩])
 .ret)
 .skip))))
 (.reg [] [⟨some 18, .arith .add .i64 (.tmp 8) (.cst (.d (.int .i64 1))), none⟩,
 ⟨some 8, .mov (.tmp 18), none⟩]))))))))))
 (.seq
 (.reg [] [⟨some 4, .mov (.cst (.d (.int .i64 (-1)))), none⟩])
 .ret)))⟩
/-- (kilovar/link.Station).ahead -/
def tx141 : AFun := ⟨26, 42, [.tmp 4],
 (.seq
 (.reg [0, 1] [⟨some 2, .cbx 0 4 (.tmp 0), none⟩,
 ⟨some 3, .cbx 1 4 (.tmp 1), none⟩,
 ⟨some 4, .mov (.cst (.d (.bool false))), none⟩])
 (.seq
 (.reg [] [⟨some 5, .fad 2 (.tmp 3), none⟩,
 ⟨some 6, .ld false 1 (.tmp 5), none⟩,
 ⟨some 7, .cmp .eql (.tmp 6) (.cst (.d (.int .i64 0))), none⟩,
 ⟨some 8, .mov (.tmp 7), none⟩,
 ⟨some 9, .fad 2 (.tmp 2), some (8, false)⟩,
 ⟨some 10, .ld false 1 (.tmp 9), some (8, false)⟩,
 ⟨some 11, .cmp .gtr (.tmp 10) (.cst (.d (.int .i64 0))), some (8, false)⟩,
 ⟨some 12, .mov (.tmp 11), some (8, false)⟩,
 ⟨some 13, .fad 1 (.tmp 2), some (12, true)⟩,
 ⟨some 14, .ld false 1 (.tmp 13), some (12, true)⟩,
 ⟨some 15, .fad 3 (.tmp 2), some (12, true)⟩,
 ⟨some 16, .ld false 1 (.tmp 15), some (12, true)⟩,
 ⟨some 17, .arith .add .i64 (.tmp 14) (.tmp 16), some (12, true)⟩,
 ⟨some 18, .fad 1 (.tmp 3), some (12, true)⟩,
 ⟨some 19, .ld false 1 (.tmp 18), some (12, true)⟩,
 ⟨some 20, .fad 3 (.tmp 3), some (12, true)⟩,
 ⟨some 21, .ld false 1 (.tmp 20), some (12, true)⟩,
 ⟨some 22, .arith .add .i64 (.tmp 19) (.tmp 21), some (12, true)⟩,
 ⟨some 23, .cmp .geq (.tmp 17) (.tmp 22), some (12, true)⟩,
 ⟨some 24, .pick (.tmp 12) (.tmp 23) (.cst (.d (.bool false))), some (8, false)⟩,
 ⟨some 25, .pick (.tmp 8) (.cst (.d (.bool true))) (.tmp 24), none⟩,
 ⟨some 4, .mov (.tmp 25), none⟩])
 .ret))⟩
/-- slices.Index[[]bool,bool] -/
def tx142 : AFun := ⟨19, 40, [.tmp 4],
 (.seq
 (.reg [] [⟨some 4, .mov (.cst (.d (.int .i64 0))), none⟩])
 (.seq
 (.seq
 (.reg [] [⟨some 6, .mov (.tmp 0), none⟩,
 ⟨some 7, .len (.tmp 6), none⟩,
 ⟨some 8, .mov (.cst (.d (.int .i64 0))), none⟩])
 (.post [] []
 (.block 0
 (.keep [0, 1, 7, 8] []
 (.loop
 (.post [0, 1, 7, 8] []
 (.seq
 (.reg [] [⟨some 9, .cmp .lss (.tmp 8) (.tmp 7), none⟩])
 (.seq
 (.cond (.tmp 9)
 .skip
 (.exit 0))
 (.seq
 (.block 1
 (.seq
 (.reg [] [⟨some 10, .mov (.tmp 8), none⟩,
 ⟨some 5, .mov (.tmp 10), none⟩])
 (.seq
 (.reg [] [⟨some 11, .mov (.tmp 1), none⟩,
 ⟨some 12, .mov (.tmp 0), none⟩,
 ⟨some 13, .mov (.tmp 5), none⟩,
 ⟨some 14, .ixa 1 (.tmp 12) (.tmp 13), none⟩,
 ⟨some 15, .ld false 1 (.tmp 14), none⟩,
 ⟨some 16, .beq false (.tmp 11) (.tmp 15), none⟩])
 (.cond (.tmp 16)
 (.seq
 (.reg [] [⟨some 17, .mov (.tmp 5), none⟩,
 ⟨some 4, .mov (.tmp 17), none⟩])
 .ret)
 .skip))))
 (.reg [] [⟨some 18, .arith .add .i64 (.tmp 8) (.cst (.d (.int .i64 1))), none⟩,
 ⟨some 8, .mov (.tmp 18), none⟩]))))))))))
 (.seq
 (.reg [] [⟨some 4, .mov (.cst (.d (.int .i64 (-1)))), none⟩])
 .ret)))⟩
/-- kilovar/link.mapped[int,string] -/
def tx147 : AFun := ⟨22, 42, [.tmp 4],
 (.seq
 (.reg [] [⟨some 4, .mov (.cst (.nils 1)), none⟩])
 (.seq
 (.reg [] [⟨some 5, .mov (.cst (.nils 1)), none⟩])
 (.seq
 (.seq
 (.reg [] [⟨some 8, .mov (.tmp 0), none⟩,
 ⟨some 9, .len (.tmp 8), none⟩,
 ⟨some 10, .mov (.cst (.d (.int .i64 0))), none⟩])
 (.post [5] [0, 1]
 (.block 0
 (.asrow 1 9 1 5
 (.keep [1, 5, 8, 9, 10] []
 (.loop
 (.post [1, 5, 8, 9, 10] [0, 1]
 (.seq
 (.reg [] [⟨some 11, .cmp .lss (.tmp 10) (.tmp 9), none⟩])
 (.seq
 (.cond (.tmp 11)
 .skip
 (.exit 0))
 (.seq
 (.block 1
 (.seq
 (.reg [] [⟨some 12, .ixa 1 (.tmp 8) (.tmp 10), none⟩,
 ⟨some 13, .ld false 1 (.tmp 12), none⟩,
 ⟨some 7, .mov (.tmp 13), none⟩])
 (.reg [0, 1] [⟨some 14, .mov (.tmp 5), none⟩,
 ⟨some 15, .mov (.tmp 1), none⟩,
 ⟨some 16, .mov (.tmp 7), none⟩,
 ⟨some 17, .callv (.tmp 15) [(.tmp 16)], none⟩,
 ⟨some 18, .bsl 0 9 1 1 [(.str [])] [(0, (.tmp 17))], none⟩,
 ⟨some 19, .app 1 9 1 16 (.tmp 14) (.tmp 18), none⟩,
 ⟨some 5, .mov (.tmp 19), none⟩])))
 (.reg [] [⟨some 20, .arith .add .i64 (.tmp 10) (.cst (.d (.int .i64 1))), none⟩,
 ⟨some 10, .mov (.tmp 20), none⟩])))))))))))
 (.seq
 (.reg [] [⟨some 21, .mov (.tmp 5), none⟩,
 ⟨some 4, .mov (.tmp 21), none⟩])
 .ret))))⟩
/-- strconv.Itoa -/
def tx148 : AFun := ⟨5, 40, [.tmp 2],
 (.seq
 (.reg [] [⟨some 2, .mov (.cst (.d (.str []))), none⟩])
 (.seq
 (.reg [] [⟨some 3, .mov (.tmp 0), none⟩,
 ⟨some 4, .call 158 [(.tmp 3)], none⟩,
 ⟨some 2, .mov (.tmp 4), none⟩])
 .ret))⟩
/-- kilovar/link.mapped[byte,string] -/
def tx149 : AFun := ⟨22, 42, [.tmp 4],
 (.seq
 (.reg [] [⟨some 4, .mov (.cst (.nils 1)), none⟩])
 (.seq
 (.reg [] [⟨some 5, .mov (.cst (.nils 1)), none⟩])
 (.seq
 (.seq
 (.reg [] [⟨some 8, .mov (.tmp 0), none⟩,
 ⟨some 9, .len (.tmp 8), none⟩,
 ⟨some 10, .mov (.cst (.d (.int .i64 0))), none⟩])
 (.post [5] [0, 1]
 (.block 0
 (.asrow 1 9 1 5
 (.keep [1, 5, 8, 9, 10] []
 (.loop
 (.post [1, 5, 8, 9, 10] [0, 1]
 (.seq
 (.reg [] [⟨some 11, .cmp .lss (.tmp 10) (.tmp 9), none⟩])
 (.seq
 (.cond (.tmp 11)
 .skip
 (.exit 0))
 (.seq
 (.block 1
 (.seq
 (.reg [] [⟨some 12, .ixa 1 (.tmp 8) (.tmp 10), none⟩,
 ⟨some 13, .ld false 1 (.tmp 12), none⟩,
 ⟨some 7, .mov (.tmp 13), none⟩])
 (.reg [0, 1] [⟨some 14, .mov (.tmp 5), none⟩,
 ⟨some 15, .mov (.tmp 1), none⟩,
 ⟨some 16, .mov (.tmp 7), none⟩,
 ⟨some 17, .callv (.tmp 15) [(.tmp 16)], none⟩,
 ⟨some 18, .bsl 0 9 1 1 [(.str [])] [(0, (.tmp 17))], none⟩,
 ⟨some 19, .app 1 9 1 16 (.tmp 14) (.tmp 18), none⟩,
 ⟨some 5, .mov (.tmp 19), none⟩])))
 (.reg [] [⟨some 20, .arith .add .i64 (.tmp 10) (.cst (.d (.int .i64 1))), none⟩,
 ⟨some 10, .mov (.tmp 20), none⟩])))))))))))
 (.seq
 (.reg [] [⟨some 21, .mov (.tmp 5), none⟩,
 ⟨some 4, .mov (.tmp 21), none⟩])
 .ret))))⟩
/-- (kilovar/link.Frame).line$1 -/
def tx150 : AFun := ⟨6, 40, [.tmp 2],
 (.seq
 (.reg [] [⟨some 2, .mov (.cst (.d (.str []))), none⟩])
 (.seq
 (.reg [] [⟨some 3, .mov (.tmp 0), none⟩,
 ⟨some 4, .conv .i64 (.tmp 3), none⟩,
 ⟨some 5, .call 148 [(.tmp 4)], none⟩,
 ⟨some 2, .mov (.tmp 5), none⟩])
 .ret))⟩
/-- internal/strconv.Itoa -/
def tx158 : AFun := ⟨5, 40, [.tmp 2],
 (.seq
 (.reg [] [⟨some 2, .mov (.cst (.d (.str []))), none⟩])
 (.seq
 (.reg [] [⟨some 3, .mov (.tmp 0), none⟩,
 ⟨some 4, .call 165 [(.tmp 3), (.cst (.d (.int .i64 10)))], none⟩,
 ⟨some 2, .mov (.tmp 4), none⟩])
 .ret))⟩
/-- internal/strconv.FormatInt -/
def tx165 : AFun := ⟨54, 41, [.tmp 4],
 (.seq
 (.reg [] [⟨some 4, .mov (.cst (.d (.str []))), none⟩])
 (.seq
 (.seq
 (.reg [] [⟨some 10, .mov (.tmp 1), none⟩,
 ⟨some 11, .cmp .eql (.tmp 10) (.cst (.d (.int .i64 10))), none⟩])
 (.cond (.tmp 11)
 (.seq
 (.seq
 (.reg [] [⟨some 12, .mov (.tmp 0), none⟩,
 ⟨some 13, .cmp .leq (.cst (.d (.int .i64 0))) (.tmp 12), none⟩,
 ⟨some 14, .mov (.tmp 13), none⟩,
 ⟨some 15, .mov (.tmp 0), some (14, true)⟩,
 ⟨some 16, .cmp .lss (.tmp 15) (.cst (.d (.int .i64 100))), some (14, true)⟩,
 ⟨some 17, .pick (.tmp 14) (.tmp 16) (.cst (.d (.bool false))), none⟩])
 (.cond (.tmp 17)
 (.seq
 (.reg [] [⟨some 18, .mov (.tmp 0), none⟩,
 ⟨some 19, .call 170 [(.tmp 18)], none⟩,
 ⟨some 4, .mov (.tmp 19), none⟩])
 .ret)
 .skip))
 (.seq
 (.reg [0] [⟨some 5, .alloc 0 [(.d (.int .u8 0)), (.d (.int .u8 0)), (.d (.int .u8 0)), (.d (.int .u8 0)), (.d (.int .u8 0)), (.d (.int .u8 0)), (.d (.int .u8 0)), (.d (.int .u8 0)), (.d (.int .u8 0)), (.d (.int .u8 0)), (.d (.int .u8 0)), (.d (.int .u8 0)), (.d (.int .u8 0)), (.d (.int .u8 0)), (.d (.int .u8 0)), (.d (.int .u8 0)), (.d (.int .u8 0)), (.d (.int .u8 0)), (.d (.int .u8 0)), (.d (.int .u8 0)), (.d (.int .u8 0)), (.d (.int .u8 0)), (.d (.int .u8 0)), (.d (.int .u8 0))], none⟩])
 (.seq
 (.reg [] [⟨some 20, .mov (.tmp 0), none⟩,
 ⟨some 21, .conv .u64 (.tmp 20), none⟩,
 ⟨some 6, .mov (.tmp 21), none⟩])
 (.seq
 (.seq
 (.reg [] [⟨some 22, .mov (.tmp 0), none⟩,
 ⟨some 23, .cmp .lss (.tmp 22) (.cst (.d (.int .i64 0))), none⟩])
 (.cond (.tmp 23)
 (.reg [] [⟨some 24, .mov (.tmp 6), none⟩,
 ⟨some 25, .neg .u64 (.tmp 24), none⟩,
 ⟨some 6, .mov (.tmp 25), none⟩])
 .skip))
 (.seq
 (.reg [] [⟨some 26, .mov (.tmp 6), none⟩,
 ⟨some 27, .call 171 [(.tmp 26)], none⟩,
 ⟨some 7, .mov (.tmp 27), none⟩])
 (.seq
 (.reg [] [⟨some 28, .mov (.tmp 7), none⟩,
 ⟨some 29, .arith .add .i64 (.cst (.d (.int .i64 1))) (.tmp 28), none⟩,
 ⟨some 30, .sla 24 (.tmp 5) (some (.cst (.d (.int .i64 1)))) (some (.tmp 29)), none⟩,
 ⟨some 31, .mov (.tmp 6), none⟩,
 ⟨some 32, .call 172 [(.tmp 30), (.tmp 31)], none⟩])
 (.seq
 (.seq
 (.reg [] [⟨some 33, .mov (.tmp 0), none⟩,
 ⟨some 34, .cmp .lss (.tmp 33) (.cst (.d (.int .i64 0))), none⟩])
 (.cond (.tmp 34)
 (.seq
 (.reg [] [⟨some 35, .ixp 24 1 (.tmp 5) (.cst (.d (.int .i64 0))), none⟩,
 ⟨none, .st 1 (.tmp 35) (.cst (.d (.int .u8 45))), none⟩])
 (.seq
 (.reg [] [⟨some 36, .mov (.tmp 7), none⟩,
 ⟨some 37, .arith .add .i64 (.cst (.d (.int .i64 1))) (.tmp 36), none⟩,
 ⟨some 38, .sla 24 (.tmp 5) none (some (.tmp 37)), none⟩,
 ⟨some 39, .b2s (.tmp 38), none⟩,
 ⟨some 4, .mov (.tmp 39), none⟩])
 .ret))
 .skip))
 (.seq
 (.reg [] [⟨some 40, .mov (.tmp 7), none⟩,
 ⟨some 41, .arith .add .i64 (.cst (.d (.int .i64 1))) (.tmp 40), none⟩,
 ⟨some 42, .sla 24 (.tmp 5) (some (.cst (.d (.int .i64 1)))) (some (.tmp 41)), none⟩,
 ⟨some 43, .b2s (.tmp 42), none⟩,
 ⟨some 4, .mov (.tmp 43), none⟩])
 .ret))))))))
 .skip))
 (.seq
 (.reg [] [⟨some 45, .mov (.tmp 0), none⟩,
 ⟨some 46, .conv .u64 (.tmp 45), none⟩,
 ⟨some 47, .mov (.tmp 1), none⟩,
 ⟨some 48, .mov (.tmp 0), none⟩,
 ⟨some 49, .cmp .lss (.tmp 48) (.cst (.d (.int .i64 0))), none⟩,
 ⟨some 50, .call 173 [(.cst (.nils 1)), (.tmp 46), (.tmp 47), (.tmp 49), (.cst (.d (.bool false)))], none⟩,
 ⟨some 44, .mov (.tmp 50), none⟩,
 ⟨some 51, .ext 0 (.tmp 44), none⟩,
 ⟨some 52, .ext 1 (.tmp 44), none⟩,
 ⟨some 8, .mov (.tmp 51), none⟩,
 ⟨some 9, .mov (.tmp 52), none⟩])
 (.seq
 (.reg [] [⟨some 53, .mov (.tmp 9), none⟩,
 ⟨some 4, .mov (.tmp 53), none⟩])
 .ret))))⟩
/-- internal/strconv.small -/
def tx170 : AFun := ⟨15, 40, [.tmp 2],
 (.seq
 (.reg [] [⟨some 2, .mov (.cst (.d (.str []))), none⟩])
 (.seq
 (.seq
 (.reg [] [⟨some 3, .mov (.tmp 0), none⟩,
 ⟨some 4, .cmp .lss (.tmp 3) (.cst (.d (.int .i64 10))), none⟩])
 (.cond (.tmp 4)
 (.seq
 (.reg [] [⟨some 5, .mov (.tmp 0), none⟩,
 ⟨some 6, .mov (.tmp 0), none⟩,
 ⟨some 7, .arith .add .i64 (.tmp 6) (.cst (.d (.int .i64 1))), none⟩,
 ⟨some 8, .slcs (.cst (.d (.str [48, 49, 50, 51, 52, 53, 54, 55, 56, 57, 97, 98, 99, 100, 101, 102, 103, 104, 105, 106, 107, 108, 109, 110, 111, 112, 113, 114, 115, 116, 117, 118, 119, 120, 121, 122]))) (some (.tmp 5)) (some (.tmp 7)), none⟩,
 ⟨some 2, .mov (.tmp 8), none⟩])
 .ret)
 .skip))
 (.seq
 (.reg [] [⟨some 9, .mov (.tmp 0), none⟩,
 ⟨some 10, .arith .mul .i64 (.tmp 9) (.cst (.d (.int .i64 2))), none⟩,
 ⟨some 11, .mov (.tmp 0), none⟩,
 ⟨some 12, .arith .mul .i64 (.tmp 11) (.cst (.d (.int .i64 2))), none⟩,
 ⟨some 13, .arith .add .i64 (.tmp 12) (.cst (.d (.int .i64 2))), none⟩,
 ⟨some 14, .slcs (.cst (.d (.str [48, 48, 48, 49, 48, 50, 48, 51, 48, 52, 48, 53, 48, 54, 48, 55, 48, 56, 48, 57, 49, 48, 49, 49, 49, 50, 49, 51, 49, 52, 49, 53, 49, 54, 49, 55, 49, 56, 49, 57, 50, 48, 50, 49, 50, 50, 50, 51, 50, 52, 50, 53, 50, 54, 50, 55, 50, 56, 50, 57, 51, 48, 51, 49, 51, 50, 51, 51, 51, 52, 51, 53, 51, 54, 51, 55, 51, 56, 51, 57, 52, 48, 52, 49, 52, 50, 52, 51, 52, 52, 52, 53, 52, 54, 52, 55, 52, 56, 52, 57, 53, 48, 53, 49, 53, 50, 53, 51, 53, 52, 53, 53, 53, 54, 53, 55, 53, 56, 53, 57, 54, 48, 54, 49, 54, 50, 54, 51, 54, 52, 54, 53, 54, 54, 54, 55, 54, 56, 54, 57, 55, 48, 55, 49, 55, 50, 55, 51, 55, 52, 55, 53, 55, 54, 55, 55, 55, 56, 55, 57, 56, 48, 56, 49, 56, 50, 56, 51, 56, 52, 56, 53, 56, 54, 56, 55, 56, 56, 56, 57, 57, 48, 57, 49, 57, 50, 57, 51, 57, 52, 57, 53, 57, 54, 57, 55, 57, 56, 57, 57]))) (some (.tmp 10)) (some (.tmp 13)), none⟩,
 ⟨some 2, .mov (.tmp 14), none⟩])
 .ret)))⟩
/-- internal/strconv.formatBase10 -/
def tx172 : AFun := ⟨167, 40, [],
 (.seq
 (.reg [] [⟨some 17, .mov (.tmp 0), none⟩,
 ⟨some 18, .len (.tmp 17), none⟩,
 ⟨some 4, .mov (.tmp 18), none⟩])
 (.seq
 (.post [0, 1, 4] []
 (.block 0
 (.keep [0, 1, 4] []
 (.loop
 (.post [0, 1, 4] []
 (.seq
 (.seq
 (.reg [] [⟨some 19, .mov (.tmp 4), none⟩,
 ⟨some 20, .cmp .geq (.tmp 19) (.cst (.d (.int .i64 8))), none⟩])
 (.cond (.tmp 20)
 .skip
 (.exit 0)))
 (.block 1
 (.seq
 (.reg [] [⟨some 21, .mov (.tmp 1), none⟩,
 ⟨some 22, .arith .rem .u64 (.tmp 21) (.cst (.d (.int .u64 100000000))), none⟩,
 ⟨some 23, .conv .u32 (.tmp 22), none⟩,
 ⟨some 5, .mov (.tmp 23), none⟩])
 (.seq
 (.reg [] [⟨some 24, .mov (.tmp 1), none⟩,
 ⟨some 25, .arith .quo .u64 (.tmp 24) (.cst (.d (.int .u64 100000000))), none⟩,
 ⟨some 1, .mov (.tmp 25), none⟩])
 (.seq
 (.reg [] [⟨some 26, .mov (.tmp 5), none⟩,
 ⟨some 27, .arith .quo .u32 (.tmp 26) (.cst (.d (.int .u32 10000))), none⟩,
 ⟨some 28, .mov (.tmp 5), none⟩,
 ⟨some 29, .arith .rem .u32 (.tmp 28) (.cst (.d (.int .u32 10000))), none⟩,
 ⟨some 6, .mov (.tmp 27), none⟩,
 ⟨some 7, .mov (.tmp 29), none⟩])
 (.seq
 (.reg [] [⟨some 30, .mov (.tmp 7), none⟩,
 ⟨some 31, .arith .quo .u32 (.tmp 30) (.cst (.d (.int .u32 100))), none⟩,
 ⟨some 32, .arith .mul .u32 (.tmp 31) (.cst (.d (.int .u32 2))), none⟩,
 ⟨some 33, .mov (.tmp 7), none⟩,
 ⟨some 34, .arith .rem .u32 (.tmp 33) (.cst (.d (.int .u32 100))), none⟩,
 ⟨some 35, .arith .mul .u32 (.tmp 34) (.cst (.d (.int .u32 2))), none⟩,
 ⟨some 8, .mov (.tmp 32), none⟩,
 ⟨some 9, .mov (.tmp 35), none⟩])
 (.seq
 (.reg [] [⟨some 36, .mov (.tmp 6), none⟩,
 ⟨some 37, .arith .quo .u32 (.tmp 36) (.cst (.d (.int .u32 100))), none⟩,
 ⟨some 38, .arith .mul .u32 (.tmp 37) (.cst (.d (.int .u32 2))), none⟩,
 ⟨some 39, .mov (.tmp 6), none⟩,
 ⟨some 40, .arith .rem .u32 (.tmp 39) (.cst (.d (.int .u32 100))), none⟩,
 ⟨some 41, .arith .mul .u32 (.tmp 40) (.cst (.d (.int .u32 2))), none⟩,
 ⟨some 10, .mov (.tmp 38), none⟩,
 ⟨some 11, .mov (.tmp 41), none⟩])
 (.seq
 (.regd [] [⟨some 42, .mov (.tmp 0), none⟩,
 ⟨some 43, .mov (.tmp 4), none⟩,
 ⟨some 44, .arith .sub .i64 (.tmp 43) (.cst (.d (.int .i64 1))), none⟩,
 ⟨some 45, .mov (.tmp 0), none⟩,
 ⟨some 46, .mov (.tmp 4), none⟩,
 ⟨some 47, .arith .sub .i64 (.tmp 46) (.cst (.d (.int .i64 2))), none⟩,
 ⟨some 48, .mov (.tmp 9), none⟩,
 ⟨some 49, .arith .add .u32 (.tmp 48) (.cst (.d (.int .u32 1))), none⟩,
 ⟨some 50, .ixs (.cst (.d (.str [48, 48, 48, 49, 48, 50, 48, 51, 48, 52, 48, 53, 48, 54, 48, 55, 48, 56, 48, 57, 49, 48, 49, 49, 49, 50, 49, 51, 49, 52, 49, 53, 49, 54, 49, 55, 49, 56, 49, 57, 50, 48, 50, 49, 50, 50, 50, 51, 50, 52, 50, 53, 50, 54, 50, 55, 50, 56, 50, 57, 51, 48, 51, 49, 51, 50, 51, 51, 51, 52, 51, 53, 51, 54, 51, 55, 51, 56, 51, 57, 52, 48, 52, 49, 52, 50, 52, 51, 52, 52, 52, 53, 52, 54, 52, 55, 52, 56, 52, 57, 53, 48, 53, 49, 53, 50, 53, 51, 53, 52, 53, 53, 53, 54, 53, 55, 53, 56, 53, 57, 54, 48, 54, 49, 54, 50, 54, 51, 54, 52, 54, 53, 54, 54, 54, 55, 54, 56, 54, 57, 55, 48, 55, 49, 55, 50, 55, 51, 55, 52, 55, 53, 55, 54, 55, 55, 55, 56, 55, 57, 56, 48, 56, 49, 56, 50, 56, 51, 56, 52, 56, 53, 56, 54, 56, 55, 56, 56, 56, 57, 57, 48, 57, 49, 57, 50, 57, 51, 57, 52, 57, 53, 57, 54, 57, 55, 57, 56, 57, 57]))) (.tmp 49), none⟩,
 ⟨some 51, .mov (.tmp 9), none⟩,
 ⟨some 52, .ixs (.cst (.d (.str [48, 48, 48, 49, 48, 50, 48, 51, 48, 52, 48, 53, 48, 54, 48, 55, 48, 56, 48, 57, 49, 48, 49, 49, 49, 50, 49, 51, 49, 52, 49, 53, 49, 54, 49, 55, 49, 56, 49, 57, 50, 48, 50, 49, 50, 50, 50, 51, 50, 52, 50, 53, 50, 54, 50, 55, 50, 56, 50, 57, 51, 48, 51, 49, 51, 50, 51, 51, 51, 52, 51, 53, 51, 54, 51, 55, 51, 56, 51, 57, 52, 48, 52, 49, 52, 50, 52, 51, 52, 52, 52, 53, 52, 54, 52, 55, 52, 56, 52, 57, 53, 48, 53, 49, 53, 50, 53, 51, 53, 52, 53, 53, 53, 54, 53, 55, 53, 56, 53, 57, 54, 48, 54, 49, 54, 50, 54, 51, 54, 52, 54, 53, 54, 54, 54, 55, 54, 56, 54, 57, 55, 48, 55, 49, 55, 50, 55, 51, 55, 52, 55, 53, 55, 54, 55, 55, 55, 56, 55, 57, 56, 48, 56, 49, 56, 50, 56, 51, 56, 52, 56, 53, 56, 54, 56, 55, 56, 56, 56, 57, 57, 48, 57, 49, 57, 50, 57, 51, 57, 52, 57, 53, 57, 54, 57, 55, 57, 56, 57, 57]))) (.tmp 51), none⟩,
 ⟨some 53, .ixa 1 (.tmp 42) (.tmp 44), none⟩,
 ⟨none, .st 1 (.tmp 53) (.tmp 50), none⟩,
 ⟨some 54, .ixa 1 (.tmp 45) (.tmp 47), none⟩,
 ⟨none, .st 1 (.tmp 54) (.tmp 52), none⟩] [(0, 1), (0, 2), (0, 3), (1, 3), (2, 3), (0, 4), (1, 4), (2, 4), (3, 4), (0, 5), (1, 5), (2, 5), (3, 5), (0, 6), (1, 6), (2, 6), (3, 6), (4, 6), (5, 6), (0, 7), (1, 7), (2, 7), (3, 7), (4, 7), (5, 7), (0, 8), (1, 8), (2, 8), (3, 8), (4, 8), (5, 8), (0, 9), (1, 9), (2, 9), (3, 9), (4, 9), (5, 9), (6, 9), (7, 9), (8, 9), (0, 10), (1, 10), (2, 10), (3, 10), (4, 10), (5, 10), (6, 10), (7, 10), (8, 10), (3, 11), (4, 11), (5, 11), (9, 11), (10, 11), (3, 12), (4, 12), (5, 12), (9, 12), (10, 12)])
 (.seq
 (.regd [] [⟨some 55, .mov (.tmp 0), none⟩,
 ⟨some 56, .mov (.tmp 4), none⟩,
 ⟨some 57, .arith .sub .i64 (.tmp 56) (.cst (.d (.int .i64 3))), none⟩,
 ⟨some 58, .mov (.tmp 0), none⟩,
 ⟨some 59, .mov (.tmp 4), none⟩,
 ⟨some 60, .arith .sub .i64 (.tmp 59) (.cst (.d (.int .i64 4))), none⟩,
 ⟨some 61, .mov (.tmp 8), none⟩,
 ⟨some 62, .arith .add .u32 (.tmp 61) (.cst (.d (.int .u32 1))), none⟩,
 ⟨some 63, .ixs (.cst (.d (.str [48, 48, 48, 49, 48, 50, 48, 51, 48, 52, 48, 53, 48, 54, 48, 55, 48, 56, 48, 57, 49, 48, 49, 49, 49, 50, 49, 51, 49, 52, 49, 53, 49, 54, 49, 55, 49, 56, 49, 57, 50, 48, 50, 49, 50, 50, 50, 51, 50, 52, 50, 53, 50, 54, 50, 55, 50, 56, 50, 57, 51, 48, 51, 49, 51, 50, 51, 51, 51, 52, 51, 53, 51, 54, 51, 55, 51, 56, 51, 57, 52, 48, 52, 49, 52, 50, 52, 51, 52, 52, 52, 53, 52, 54, 52, 55, 52, 56, 52, 57, 53, 48, 53, 49, 53, 50, 53, 51, 53, 52, 53, 53, 53, 54, 53, 55, 53, 56, 53, 57, 54, 48, 54, 49, 54, 50, 54, 51, 54, 52, 54, 53, 54, 54, 54, 55, 54, 56, 54, 57, 55, 48, 55, 49, 55, 50, 55, 51, 55, 52, 55, 53, 55, 54, 55, 55, 55, 56, 55, 57, 56, 48, 56, 49, 56, 50, 56, 51, 56, 52, 56, 53, 56, 54, 56, 55, 56, 56, 56, 57, 57, 48, 57, 49, 57, 50, 57, 51, 57, 52, 57, 53, 57, 54, 57, 55, 57, 56, 57, 57]))) (.tmp 62), none⟩,
 ⟨some 64, .mov (.tmp 8), none⟩,
 ⟨some 65, .ixs (.cst (.d (.str [48, 48, 48, 49, 48, 50, 48, 51, 48, 52, 48, 53, 48, 54, 48, 55, 48, 56, 48, 57, 49, 48, 49, 49, 49, 50, 49, 51, 49, 52, 49, 53, 49, 54, 49, 55, 49, 56, 49, 57, 50, 48, 50, 49, 50, 50, 50, 51, 50, 52, 50, 53, 50, 54, 50, 55, 50, 56, 50, 57, 51, 48, 51, 49, 51, 50, 51, 51, 51, 52, 51, 53, 51, 54, 51, 55, 51, 56, 51, 57, 52, 48, 52, 49, 52, 50, 52, 51, 52, 52, 52, 53, 52, 54, 52, 55, 52, 56, 52, 57, 53, 48, 53, 49, 53, 50, 53, 51, 53, 52, 53, 53, 53, 54, 53, 55, 53, 56, 53, 57, 54, 48, 54, 49, 54, 50, 54, 51, 54, 52, 54, 53, 54, 54, 54, 55, 54, 56, 54, 57, 55, 48, 55, 49, 55, 50, 55, 51, 55, 52, 55, 53, 55, 54, 55, 55, 55, 56, 55, 57, 56, 48, 56, 49, 56, 50, 56, 51, 56, 52, 56, 53, 56, 54, 56, 55, 56, 56, 56, 57, 57, 48, 57, 49, 57, 50, 57, 51, 57, 52, 57, 53, 57, 54, 57, 55, 57, 56, 57, 57]))) (.tmp 64), none⟩,
 ⟨some 66, .ixa 1 (.tmp 55) (.tmp 57), none⟩,
 ⟨none, .st 1 (.tmp 66) (.tmp 63), none⟩,
 ⟨some 67, .ixa 1 (.tmp 58) (.tmp 60), none⟩,
 ⟨none, .st 1 (.tmp 67) (.tmp 65), none⟩] [(0, 1), (0, 2), (0, 3), (1, 3), (2, 3), (0, 4), (1, 4), (2, 4), (3, 4), (0, 5), (1, 5), (2, 5), (3, 5), (0, 6), (1, 6), (2, 6), (3, 6), (4, 6), (5, 6), (0, 7), (1, 7), (2, 7), (3, 7), (4, 7), (5, 7), (0, 8), (1, 8), (2, 8), (3, 8), (4, 8), (5, 8), (0, 9), (1, 9), (2, 9), (3, 9), (4, 9), (5, 9), (6, 9), (7, 9), (8, 9), (0, 10), (1, 10), (2, 10), (3, 10), (4, 10), (5, 10), (6, 10), (7, 10), (8, 10), (3, 11), (4, 11), (5, 11), (9, 11), (10, 11), (3, 12), (4, 12), (5, 12), (9, 12), (10, 12)])
 (.seq
 (.regd [] [⟨some 68, .mov (.tmp 0), none⟩,
 ⟨some 69, .mov (.tmp 4), none⟩,
 ⟨some 70, .arith .sub .i64 (.tmp 69) (.cst (.d (.int .i64 5))), none⟩,
 ⟨some 71, .mov (.tmp 0), none⟩,
 ⟨some 72, .mov (.tmp 4), none⟩,
 ⟨some 73, .arith .sub .i64 (.tmp 72) (.cst (.d (.int .i64 6))), none⟩,
 ⟨some 74, .mov (.tmp 11), none⟩,
 ⟨some 75, .arith .add .u32 (.tmp 74) (.cst (.d (.int .u32 1))), none⟩,
 ⟨some 76, .ixs (.cst (.d (.str [48, 48, 48, 49, 48, 50, 48, 51, 48, 52, 48, 53, 48, 54, 48, 55, 48, 56, 48, 57, 49, 48, 49, 49, 49, 50, 49, 51, 49, 52, 49, 53, 49, 54, 49, 55, 49, 56, 49, 57, 50, 48, 50, 49, 50, 50, 50, 51, 50, 52, 50, 53, 50, 54, 50, 55, 50, 56, 50, 57, 51, 48, 51, 49, 51, 50, 51, 51, 51, 52, 51, 53, 51, 54, 51, 55, 51, 56, 51, 57, 52, 48, 52, 49, 52, 50, 52, 51, 52, 52, 52, 53, 52, 54, 52, 55, 52, 56, 52, 57, 53, 48, 53, 49, 53, 50, 53, 51, 53, 52, 53, 53, 53, 54, 53, 55, 53, 56, 53, 57, 54, 48, 54, 49, 54, 50, 54, 51, 54, 52, 54, 53, 54, 54, 54, 55, 54, 56, 54, 57, 55, 48, 55, 49, 55, 50, 55, 51, 55, 52, 55, 53, 55, 54, 55, 55, 55, 56, 55, 57, 56, 48, 56, 49, 56, 50, 56, 51, 56, 52, 56, 53, 56, 54, 56, 55, 56, 56, 56, 57, 57, 48, 57, 49, 57, 50, 57, 51, 57, 52, 57, 53, 57, 54, 57, 55, 57, 56, 57, 57]))) (.tmp 75), none⟩,
 ⟨some 77, .mov (.tmp 11), none⟩,
 ⟨some 78, .ixs (.cst (.d (.str [48, 48, 48, 49, 48, 50, 48, 51, 48, 52, 48, 53, 48, 54, 48, 55, 48, 56, 48, 57, 49, 48, 49, 49, 49, 50, 49, 51, 49, 52, 49, 53, 49, 54, 49, 55, 49, 56, 49, 57, 50, 48, 50, 49, 50, 50, 50, 51, 50, 52, 50, 53, 50, 54, 50, 55, 50, 56, 50, 57, 51, 48, 51, 49, 51, 50, 51, 51, 51, 52, 51, 53, 51, 54, 51, 55, 51, 56, 51, 57, 52, 48, 52, 49, 52, 50, 52, 51, 52, 52, 52, 53, 52, 54, 52, 55, 52, 56, 52, 57, 53, 48, 53, 49, 53, 50, 53, 51, 53, 52, 53, 53, 53, 54, 53, 55, 53, 56, 53, 57, 54, 48, 54, 49, 54, 50, 54, 51, 54, 52, 54, 53, 54, 54, 54, 55, 54, 56, 54, 57, 55, 48, 55, 49, 55, 50, 55, 51, 55, 52, 55, 53, 55, 54, 55, 55, 55, 56, 55, 57, 56, 48, 56, 49, 56, 50, 56, 51, 56, 52, 56, 53, 56, 54, 56, 55, 56, 56, 56, 57, 57, 48, 57, 49, 57, 50, 57, 51, 57, 52, 57, 53, 57, 54, 57, 55, 57, 56, 57, 57]))) (.tmp 77), none⟩,
 ⟨some 79, .ixa 1 (.tmp 68) (.tmp 70), none⟩,
 ⟨none, .st 1 (.tmp 79) (.tmp 76), none⟩,
 ⟨some 80, .ixa 1 (.tmp 71) (.tmp 73), none⟩,
 ⟨none, .st 1 (.tmp 80) (.tmp 78), none⟩] [(0, 1), (0, 2), (0, 3), (1, 3), (2, 3), (0, 4), (1, 4), (2, 4), (3, 4), (0, 5), (1, 5), (2, 5), (3, 5), (0, 6), (1, 6), (2, 6), (3, 6), (4, 6), (5, 6), (0, 7), (1, 7), (2, 7), (3, 7), (4, 7), (5, 7), (0, 8), (1, 8), (2, 8), (3, 8), (4, 8), (5, 8), (0, 9), (1, 9), (2, 9), (3, 9), (4, 9), (5, 9), (6, 9), (7, 9), (8, 9), (0, 10), (1, 10), (2, 10), (3, 10), (4, 10), (5, 10), (6, 10), (7, 10), (8, 10), (3, 11), (4, 11), (5, 11), (9, 11), (10, 11), (3, 12), (4, 12), (5, 12), (9, 12), (10, 12)])
 (.seq
 (.regd [] [⟨some 81, .mov (.tmp 0), none⟩,
 ⟨some 82, .mov (.tmp 4), none⟩,
 ⟨some 83, .arith .sub .i64 (.tmp 82) (.cst (.d (.int .i64 7))), none⟩,
 ⟨some 84, .mov (.tmp 0), none⟩,
 ⟨some 85, .mov (.tmp 4), none⟩,
 ⟨some 86, .arith .sub .i64 (.tmp 85) (.cst (.d (.int .i64 8))), none⟩,
 ⟨some 87, .mov (.tmp 10), none⟩,
 ⟨some 88, .arith .add .u32 (.tmp 87) (.cst (.d (.int .u32 1))), none⟩,
 ⟨some 89, .ixs (.cst (.d (.str [48, 48, 48, 49, 48, 50, 48, 51, 48, 52, 48, 53, 48, 54, 48, 55, 48, 56, 48, 57, 49, 48, 49, 49, 49, 50, 49, 51, 49, 52, 49, 53, 49, 54, 49, 55, 49, 56, 49, 57, 50, 48, 50, 49, 50, 50, 50, 51, 50, 52, 50, 53, 50, 54, 50, 55, 50, 56, 50, 57, 51, 48, 51, 49, 51, 50, 51, 51, 51, 52, 51, 53, 51, 54, 51, 55, 51, 56, 51, 57, 52, 48, 52, 49, 52, 50, 52, 51, 52, 52, 52, 53, 52, 54, 52, 55, 52, 56, 52, 57, 53, 48, 53, 49, 53, 50, 53, 51, 53, 52, 53, 53, 53, 54, 53, 55, 53, 56, 53, 57, 54, 48, 54, 49, 54, 50, 54, 51, 54, 52, 54, 53, 54, 54, 54, 55, 54, 56, 54, 57, 55, 48, 55, 49, 55, 50, 55, 51, 55, 52, 55, 53, 55, 54, 55, 55, 55, 56, 55, 57, 56, 48, 56, 49, 56, 50, 56, 51, 56, 52, 56, 53, 56, 54, 56, 55, 56, 56, 56, 57, 57, 48, 57, 49, 57, 50, 57, 51, 57, 52, 57, 53, 57, 54, 57, 55, 57, 56, 57, 57]))) (.tmp 88), none⟩,
 ⟨some 90, .mov (.tmp 10), none⟩,
 ⟨some 91, .ixs (.cst (.d (.str [48, 48, 48, 49, 48, 50, 48, 51, 48, 52, 48, 53, 48, 54, 48, 55, 48, 56, 48, 57, 49, 48, 49, 49, 49, 50, 49, 51, 49, 52, 49, 53, 49, 54, 49, 55, 49, 56, 49, 57, 50, 48, 50, 49, 50, 50, 50, 51, 50, 52, 50, 53, 50, 54, 50, 55, 50, 56, 50, 57, 51, 48, 51, 49, 51, 50, 51, 51, 51, 52, 51, 53, 51, 54, 51, 55, 51, 56, 51, 57, 52, 48, 52, 49, 52, 50, 52, 51, 52, 52, 52, 53, 52, 54, 52, 55, 52, 56, 52, 57, 53, 48, 53, 49, 53, 50, 53, 51, 53, 52, 53, 53, 53, 54, 53, 55, 53, 56, 53, 57, 54, 48, 54, 49, 54, 50, 54, 51, 54, 52, 54, 53, 54, 54, 54, 55, 54, 56, 54, 57, 55, 48, 55, 49, 55, 50, 55, 51, 55, 52, 55, 53, 55, 54, 55, 55, 55, 56, 55, 57, 56, 48, 56, 49, 56, 50, 56, 51, 56, 52, 56, 53, 56, 54, 56, 55, 56, 56, 56, 57, 57, 48, 57, 49, 57, 50, 57, 51, 57, 52, 57, 53, 57, 54, 57, 55, 57, 56, 57, 57]))) (.tmp 90), none⟩,
 ⟨some 92, .ixa 1 (.tmp 81) (.tmp 83), none⟩,
 ⟨none, .st 1 (.tmp 92) (.tmp 89), none⟩,
 ⟨some 93, .ixa 1 (.tmp 84) (.tmp 86), none⟩,
 ⟨none, .st 1 (.tmp 93) (.tmp 91), none⟩] [(0, 1), (0, 2), (0, 3), (1, 3), (2, 3), (0, 4), (1, 4), (2, 4), (3, 4), (0, 5), (1, 5), (2, 5), (3, 5), (0, 6), (1, 6), (2, 6), (3, 6), (4, 6), (5, 6), (0, 7), (1, 7), (2, 7), (3, 7), (4, 7), (5, 7), (0, 8), (1, 8), (2, 8), (3, 8), (4, 8), (5, 8), (0, 9), (1, 9), (2, 9), (3, 9), (4, 9), (5, 9), (6, 9), (7, 9), (8, 9), (0, 10), (1, 10), (2, 10), (3, 10), (4, 10), (5, 10), (6, 10), (7, 10), (8, 10), (3, 11), (4, 11), (5, 11), (9, 11), (10, 11), (3, 12), (4, 12), (5, 12), (9, 12), (10, 12)])
 (.reg [] [⟨some 94, .mov (.tmp 4), none⟩,
 ⟨some 95, .arith .sub .i64 (.tmp 94) (.cst (.d (.int .i64 8))), none⟩,
 ⟨some 4, .mov (.tmp 95), none⟩])))))))))))))))))
 (.seq
 (.reg [] [⟨some 96, .mov (.tmp 1), none⟩,
 ⟨some 97, .conv .u32 (.tmp 96), none⟩,
 ⟨some 12, .mov (.tmp 97), none⟩])
 (.seq
 (.seq
 (.reg [] [⟨some 98, .mov (.tmp 4), none⟩,
 ⟨some 99, .cmp .geq (.tmp 98) (.cst (.d (.int .i64 4))), none⟩])
 (.cond (.tmp 99)
 (.seq
 (.reg [] [⟨some 100, .mov (.tmp 12), none⟩,
 ⟨some 101, .arith .rem .u32 (.tmp 100) (.cst (.d (.int .u32 10000))), none⟩,
 ⟨some 13, .mov (.tmp 101), none⟩])
 (.seq
 (.reg [] [⟨some 102, .mov (.tmp 12), none⟩,
 ⟨some 103, .arith .quo .u32 (.tmp 102) (.cst (.d (.int .u32 10000))), none⟩,
 ⟨some 12, .mov (.tmp 103), none⟩])
 (.seq
 (.reg [] [⟨some 104, .mov (.tmp 13), none⟩,
 ⟨some 105, .arith .quo .u32 (.tmp 104) (.cst (.d (.int .u32 100))), none⟩,
 ⟨some 106, .arith .mul .u32 (.tmp 105) (.cst (.d (.int .u32 2))), none⟩,
 ⟨some 107, .mov (.tmp 13), none⟩,
 ⟨some 108, .arith .rem .u32 (.tmp 107) (.cst (.d (.int .u32 100))), none⟩,
 ⟨some 109, .arith .mul .u32 (.tmp 108) (.cst (.d (.int .u32 2))), none⟩,
 ⟨some 14, .mov (.tmp 106), none⟩,
 ⟨some 15, .mov (.tmp 109), none⟩])
 (.seq
 (.regd [] [⟨some 110, .mov (.tmp 0), none⟩,
 ⟨some 111, .mov (.tmp 4), none⟩,
 ⟨some 112, .arith .sub .i64 (.tmp 111) (.cst (.d (.int .i64 1))), none⟩,
 ⟨some 113, .mov (.tmp 0), none⟩,
 ⟨some 114, .mov (.tmp 4), none⟩,
 ⟨some 115, .arith .sub .i64 (.tmp 114) (.cst (.d (.int .i64 2))), none⟩,
 ⟨some 116, .mov (.tmp 15), none⟩,
 ⟨some 117, .arith .add .u32 (.tmp 116) (.cst (.d (.int .u32 1))), none⟩,
 ⟨some 118, .ixs (.cst (.d (.str [48, 48, 48, 49, 48, 50, 48, 51, 48, 52, 48, 53, 48, 54, 48, 55, 48, 56, 48, 57, 49, 48, 49, 49, 49, 50, 49, 51, 49, 52, 49, 53, 49, 54, 49, 55, 49, 56, 49, 57, 50, 48, 50, 49, 50, 50, 50, 51, 50, 52, 50, 53, 50, 54, 50, 55, 50, 56, 50, 57, 51, 48, 51, 49, 51, 50, 51, 51, 51, 52, 51, 53, 51, 54, 51, 55, 51, 56, 51, 57, 52, 48, 52, 49, 52, 50, 52, 51, 52, 52, 52, 53, 52, 54, 52, 55, 52, 56, 52, 57, 53, 48, 53, 49, 53, 50, 53, 51, 53, 52, 53, 53, 53, 54, 53, 55, 53, 56, 53, 57, 54, 48, 54, 49, 54, 50, 54, 51, 54, 52, 54, 53, 54, 54, 54, 55, 54, 56, 54, 57, 55, 48, 55, 49, 55, 50, 55, 51, 55, 52, 55, 53, 55, 54, 55, 55, 55, 56, 55, 57, 56, 48, 56, 49, 56, 50, 56, 51, 56, 52, 56, 53, 56, 54, 56, 55, 56, 56, 56, 57, 57, 48, 57, 49, 57, 50, 57, 51, 57, 52, 57, 53, 57, 54, 57, 55, 57, 56, 57, 57]))) (.tmp 117), none⟩,
 ⟨some 119, .mov (.tmp 15), none⟩,
 ⟨some 120, .ixs (.cst (.d (.str [48, 48, 48, 49, 48, 50, 48, 51, 48, 52, 48, 53, 48, 54, 48, 55, 48, 56, 48, 57, 49, 48, 49, 49, 49, 50, 49, 51, 49, 52, 49, 53, 49, 54, 49, 55, 49, 56, 49, 57, 50, 48, 50, 49, 50, 50, 50, 51, 50, 52, 50, 53, 50, 54, 50, 55, 50, 56, 50, 57, 51, 48, 51, 49, 51, 50, 51, 51, 51, 52, 51, 53, 51, 54, 51, 55, 51, 56, 51, 57, 52, 48, 52, 49, 52, 50, 52, 51, 52, 52, 52, 53, 52, 54, 52, 55, 52, 56, 52, 57, 53, 48, 53, 49, 53, 50, 53, 51, 53, 52, 53, 53, 53, 54, 53, 55, 53, 56, 53, 57, 54, 48, 54, 49, 54, 50, 54, 51, 54, 52, 54, 53, 54, 54, 54, 55, 54, 56, 54, 57, 55, 48, 55, 49, 55, 50, 55, 51, 55, 52, 55, 53, 55, 54, 55, 55, 55, 56, 55, 57, 56, 48, 56, 49, 56, 50, 56, 51, 56, 52, 56, 53, 56, 54, 56, 55, 56, 56, 56, 57, 57, 48, 57, 49, 57, 50, 57, 51, 57, 52, 57, 53, 57, 54, 57, 55, 57, 56, 57, 57]))) (.tmp 119), none⟩,
 ⟨some 121, .ixa 1 (.tmp 110) (.tmp 112), none⟩,
 ⟨none, .st 1 (.tmp 121) (.tmp 118), none⟩,
 ⟨some 122, .ixa 1 (.tmp 113) (.tmp 115), none⟩,
 ⟨none, .st 1 (.tmp 122) (.tmp 120), none⟩] [(0, 1), (0, 2), (0, 3), (1, 3), (2, 3), (0, 4), (1, 4), (2, 4), (3, 4), (0, 5), (1, 5), (2, 5), (3, 5), (0, 6), (1, 6), (2, 6), (3, 6), (4, 6), (5, 6), (0, 7), (1, 7), (2, 7), (3, 7), (4, 7), (5, 7), (0, 8), (1, 8), (2, 8), (3, 8), (4, 8), (5, 8), (0, 9), (1, 9), (2, 9), (3, 9), (4, 9), (5, 9), (6, 9), (7, 9), (8, 9), (0, 10), (1, 10), (2, 10), (3, 10), (4, 10), (5, 10), (6, 10), (7, 10), (8, 10), (3, 11), (4, 11), (5, 11), (9, 11), (10, 11), (3, 12), (4, 12), (5, 12), (9, 12), (10, 12)])
 (.seq
 (.regd [] [⟨some 123, .mov (.tmp 0), none⟩,
 ⟨some 124, .mov (.tmp 4), none⟩,
 ⟨some 125, .arith .sub .i64 (.tmp 124) (.cst (.d (.int .i64 3))), none⟩,
 ⟨some 126, .mov (.tmp 0), none⟩,
 ⟨some 127, .mov (.tmp 4), none⟩,
 ⟨some 128, .arith .sub .i64 (.tmp 127) (.cst (.d (.int .i64 4))), none⟩,
 ⟨some 129, .mov (.tmp 14), none⟩,
 ⟨some 130, .arith .add .u32 (.tmp 129) (.cst (.d (.int .u32 1))), none⟩,
 ⟨some 131, .ixs (.cst (.d (.str [48, 48, 48, 49, 48, 50, 48, 51, 48, 52, 48, 53, 48, 54, 48, 55, 48, 56, 48, 57, 49, 48, 49, 49, 49, 50, 49, 51, 49, 52, 49, 53, 49, 54, 49, 55, 49, 56, 49, 57, 50, 48, 50, 49, 50, 50, 50, 51, 50, 52, 50, 53, 50, 54, 50, 55, 50, 56, 50, 57, 51, 48, 51, 49, 51, 50, 51, 51, 51, 52, 51, 53, 51, 54, 51, 55, 51, 56, 51, 57, 52, 48, 52, 49, 52, 50, 52, 51, 52, 52, 52, 53, 52, 54, 52, 55, 52, 56, 52, 57, 53, 48, 53, 49, 53, 50, 53, 51, 53, 52, 53, 53, 53, 54, 53, 55, 53, 56, 53, 57, 54, 48, 54, 49, 54, 50, 54, 51, 54, 52, 54, 53, 54, 54, 54, 55, 54, 56, 54, 57, 55, 48, 55, 49, 55, 50, 55, 51, 55, 52, 55, 53, 55, 54, 55, 55, 55, 56, 55, 57, 56, 48, 56, 49, 56, 50, 56, 51, 56, 52, 56, 53, 56, 54, 56, 55, 56, 56, 56, 57, 57, 48, 57, 49, 57, 50, 57, 51, 57, 52, 57, 53, 57, 54, 57, 55, 57, 56, 57, 57]))) (.tmp 130), none⟩,
 ⟨some 132, .mov (.tmp 14), none⟩,
 ⟨some 133, .ixs (.cst (.d (.str [48, 48, 48, 49, 48, 50, 48, 51, 48, 52, 48, 53, 48, 54, 48, 55, 48, 56, 48, 57, 49, 48, 49, 49, 49, 50, 49, 51, 49, 52, 49, 53, 49, 54, 49, 55, 49, 56, 49, 57, 50, 48, 50, 49, 50, 50, 50, 51, 50, 52, 50, 53, 50, 54, 50, 55, 50, 56, 50, 57, 51, 48, 51, 49, 51, 50, 51, 51, 51, 52, 51, 53, 51, 54, 51, 55, 51, 56, 51, 57, 52, 48, 52, 49, 52, 50, 52, 51, 52, 52, 52, 53, 52, 54, 52, 55, 52, 56, 52, 57, 53, 48, 53, 49, 53, 50, 53, 51, 53, 52, 53, 53, 53, 54, 53, 55, 53, 56, 53, 57, 54, 48, 54, 49, 54, 50, 54, 51, 54, 52, 54, 53, 54, 54, 54, 55, 54, 56, 54, 57, 55, 48, 55, 49, 55, 50, 55, 51, 55, 52, 55, 53, 55, 54, 55, 55, 55, 56, 55, 57, 56, 48, 56, 49, 56, 50, 56, 51, 56, 52, 56, 53, 56, 54, 56, 55, 56, 56, 56, 57, 57, 48, 57, 49, 57, 50, 57, 51, 57, 52, 57, 53, 57, 54, 57, 55, 57, 56, 57, 57]))) (.tmp 132), none⟩,
 ⟨some 134, .ixa 1 (.tmp 123) (.tmp 125), none⟩,
 ⟨none, .st 1 (.tmp 134) (.tmp 131), none⟩,
 ⟨some 135, .ixa 1 (.tmp 126) (.tmp 128), none⟩,
 ⟨none, .st 1 (.tmp 135) (.tmp 133), none⟩] [(0, 1), (0, 2), (0, 3), (1, 3), (2, 3), (0, 4), (1, 4), (2, 4), (3, 4), (0, 5), (1, 5), (2, 5), (3, 5), (0, 6), (1, 6), (2, 6), (3, 6), (4, 6), (5, 6), (0, 7), (1, 7), (2, 7), (3, 7), (4, 7), (5, 7), (0, 8), (1, 8), (2, 8), (3, 8), (4, 8), (5, 8), (0, 9), (1, 9), (2, 9), (3, 9), (4, 9), (5, 9), (6, 9), (7, 9), (8, 9), (0, 10), (1, 10), (2, 10), (3, 10), (4, 10), (5, 10), (6, 10), (7, 10), (8, 10), (3, 11), (4, 11), (5, 11), (9, 11), (10, 11), (3, 12), (4, 12), (5, 12), (9, 12), (10, 12)])
 (.reg [] [⟨some 136, .mov (.tmp 4), none⟩,
 ⟨some 137, .arith .sub .i64 (.tmp 136) (.cst (.d (.int .i64 4))), none⟩,
 ⟨some 4, .mov (.tmp 137), none⟩]))))))
 .skip))
 (.seq
 (.seq
 (.reg [] [⟨some 138, .mov (.tmp 4), none⟩,
 ⟨some 139, .cmp .geq (.tmp 138) (.cst (.d (.int .i64 2))), none⟩])
 (.cond (.tmp 139)
 (.seq
 (.reg [] [⟨some 140, .mov (.tmp 12), none⟩,
 ⟨some 141, .arith .rem .u32 (.tmp 140) (.cst (.d (.int .u32 100))), none⟩,
 ⟨some 142, .arith .mul .u32 (.tmp 141) (.cst (.d (.int .u32 2))), none⟩,
 ⟨some 16, .mov (.tmp 142), none⟩])
 (.seq
 (.reg [] [⟨some 143, .mov (.tmp 12), none⟩,
 ⟨some 144, .arith .quo .u32 (.tmp 143) (.cst (.d (.int .u32 100))), none⟩,
 ⟨some 12, .mov (.tmp 144), none⟩])
 (.seq
 (.regd [] [⟨some 145, .mov (.tmp 0), none⟩,
 ⟨some 146, .mov (.tmp 4), none⟩,
 ⟨some 147, .arith .sub .i64 (.tmp 146) (.cst (.d (.int .i64 1))), none⟩,
 ⟨some 148, .mov (.tmp 0), none⟩,
 ⟨some 149, .mov (.tmp 4), none⟩,
 ⟨some 150, .arith .sub .i64 (.tmp 149) (.cst (.d (.int .i64 2))), none⟩,
 ⟨some 151, .mov (.tmp 16), none⟩,
 ⟨some 152, .arith .add .u32 (.tmp 151) (.cst (.d (.int .u32 1))), none⟩,
 ⟨some 153, .ixs (.cst (.d (.str [48, 48, 48, 49, 48, 50, 48, 51, 48, 52, 48, 53, 48, 54, 48, 55, 48, 56, 48, 57, 49, 48, 49, 49, 49, 50, 49, 51, 49, 52, 49, 53, 49, 54, 49, 55, 49, 56, 49, 57, 50, 48, 50, 49, 50, 50, 50, 51, 50, 52, 50, 53, 50, 54, 50, 55, 50, 56, 50, 57, 51, 48, 51, 49, 51, 50, 51, 51, 51, 52, 51, 53, 51, 54, 51, 55, 51, 56, 51, 57, 52, 48, 52, 49, 52, 50, 52, 51, 52, 52, 52, 53, 52, 54, 52, 55, 52, 56, 52, 57, 53, 48, 53, 49, 53, 50, 53, 51, 53, 52, 53, 53, 53, 54, 53, 55, 53, 56, 53, 57, 54, 48, 54, 49, 54, 50, 54, 51, 54, 52, 54, 53, 54, 54, 54, 55, 54, 56, 54, 57, 55, 48, 55, 49, 55, 50, 55, 51, 55, 52, 55, 53, 55, 54, 55, 55, 55, 56, 55, 57, 56, 48, 56, 49, 56, 50, 56, 51, 56, 52, 56, 53, 56, 54, 56, 55, 56, 56, 56, 57, 57, 48, 57, 49, 57, 50, 57, 51, 57, 52, 57, 53, 57, 54, 57, 55, 57, 56, 57, 57]))) (.tmp 152), none⟩,
 ⟨some 154, .mov (.tmp 16), none⟩,
 ⟨some 155, .ixs (.cst (.d (.str [48, 48, 48, 49, 48, 50, 48, 51, 48, 52, 48, 53, 48, 54, 48, 55, 48, 56, 48, 57, 49, 48, 49, 49, 49, 50, 49, 51, 49, 52, 49, 53, 49, 54, 49, 55, 49, 56, 49, 57, 50, 48, 50, 49, 50, 50, 50, 51, 50, 52, 50, 53, 50, 54, 50, 55, 50, 56, 50, 57, 51, 48, 51, 49, 51, 50, 51, 51, 51, 52, 51, 53, 51, 54, 51, 55, 51, 56, 51, 57, 52, 48, 52, 49, 52, 50, 52, 51, 52, 52, 52, 53, 52, 54, 52, 55, 52, 56, 52, 57, 53, 48, 53, 49, 53, 50, 53, 51, 53, 52, 53, 53, 53, 54, 53, 55, 53, 56, 53, 57, 54, 48, 54, 49, 54, 50, 54, 51, 54, 52, 54, 53, 54, 54, 54, 55, 54, 56, 54, 57, 55, 48, 55, 49, 55, 50, 55, 51, 55, 52, 55, 53, 55, 54, 55, 55, 55, 56, 55, 57, 56, 48, 56, 49, 56, 50, 56, 51, 56, 52, 56, 53, 56, 54, 56, 55, 56, 56, 56, 57, 57, 48, 57, 49, 57, 50, 57, 51, 57, 52, 57, 53, 57, 54, 57, 55, 57, 56, 57, 57]))) (.tmp 154), none⟩,
 ⟨some 156, .ixa 1 (.tmp 145) (.tmp 147), none⟩,
 ⟨none, .st 1 (.tmp 156) (.tmp 153), none⟩,
 ⟨some 157, .ixa 1 (.tmp 148) (.tmp 150), none⟩,
 ⟨none, .st 1 (.tmp 157) (.tmp 155), none⟩] [(0, 1), (0, 2), (0, 3), (1, 3), (2, 3), (0, 4), (1, 4), (2, 4), (3, 4), (0, 5), (1, 5), (2, 5), (3, 5), (0, 6), (1, 6), (2, 6), (3, 6), (4, 6), (5, 6), (0, 7), (1, 7), (2, 7), (3, 7), (4, 7), (5, 7), (0, 8), (1, 8), (2, 8), (3, 8), (4, 8), (5, 8), (0, 9), (1, 9), (2, 9), (3, 9), (4, 9), (5, 9), (6, 9), (7, 9), (8, 9), (0, 10), (1, 10), (2, 10), (3, 10), (4, 10), (5, 10), (6, 10), (7, 10), (8, 10), (3, 11), (4, 11), (5, 11), (9, 11), (10, 11), (3, 12), (4, 12), (5, 12), (9, 12), (10, 12)])
 (.reg [] [⟨some 158, .mov (.tmp 4), none⟩,
 ⟨some 159, .arith .sub .i64 (.tmp 158) (.cst (.d (.int .i64 2))), none⟩,
 ⟨some 4, .mov (.tmp 159), none⟩]))))
 .skip))
 (.seq
 (.reg [] [⟨some 160, .mov (.tmp 4), none⟩,
 ⟨some 161, .cmp .gtr (.tmp 160) (.cst (.d (.int .i64 0))), none⟩])
 (.cond (.tmp 161)
 (.reg [] [⟨some 162, .mov (.tmp 0), none⟩,
 ⟨some 163, .mov (.tmp 12), none⟩,
 ⟨some 164, .arith .add .u32 (.cst (.d (.int .u32 48))) (.tmp 163), none⟩,
 ⟨some 165, .conv .u8 (.tmp 164), none⟩,
 ⟨some 166, .ixa 1 (.tmp 162) (.cst (.d (.int .i64 0))), none⟩,
 ⟨none, .st 1 (.tmp 166) (.tmp 165), none⟩])
 .skip)))))))⟩
def tab04 : TabL := [
(12, 32, tx12),
(13, 4, tx13),
(14, 6, tx14),
(16, 3, tx16),
(22, 0, tx22),
(23, 3, tx23),
(24, 0, tx24),
(25, 2, tx25),
(26, 2, tx26),
(30, 2, tx30),
(31, 1, tx31),
(33, 5, tx33),
(35, 3, tx35),
(43, 2, tx43),
(44, 2, tx44),
(45, 0, tx45),
(49, 9, tx49),
(54, 0, tx54),
(56, 3, tx56),
(57, 0, tx57),
(58, 3, tx58),
(59, 3, tx59),
(70, 3, tx70),
(72, 0, tx72),
(78, 0, tx78),
(79, 3, tx79),
(80, 1, tx80),
(81, 0, tx81),
(82, 0, tx82),
(83, 0, tx83),
(84, 2, tx84),
(85, 0, tx85),
(86, 0, tx86),
(87, 2, tx87),
(88, 3, tx88),
(90, 1, tx90),
(91, 0, tx91),
(92, 1, tx92),
(93, 3, tx93),
(94, 2, tx94),
(95, 3, tx95),
(96, 1, tx96),
(97, 1, tx97),
(98, 1, tx98),
(99, 5, tx99),
(100, 1, tx100),
(101, 1, tx101),
(102, 2, tx102),
(103, 1, tx103),
(104, 0, tx104),
(107, 1, tx107),
(108, 2, tx108),
(109, 1, tx109),
(110, 1, tx110),
(111, 0, tx111),
(114, 1, tx114),
(117, 3, tx117),
(118, 5, tx118),
(124, 3, tx124),
(125, 1, tx125),
(126, 1, tx126),
(127, 1, tx127),
(128, 1, tx128),
(129, 1, tx129),
(130, 1, tx130),
(131, 5, tx131),
(132, 0, tx132),
(133, 3, tx133),
(134, 0, tx134),
(135, 3, tx135),
(136, 2, tx136),
(137, 2, tx137),
(138, 2, tx138),
(139, 2, tx139),
(140, 0, tx140),
(141, 2, tx141),
(142, 0, tx142),
(147, 2, tx147),
(148, 0, tx148),
(149, 2, tx149),
(150, 0, tx150),
(158, 0, tx158),
(165, 1, tx165),
(170, 0, tx170),
(172, 0, tx172)]
theorem tab04_chk : chkT Tryz.prog tab04 = true := by kernel_rfl
end Vc

