import Derived.Test.YthociffnlhdenaaGreatDoorG12
import Derived.Test.YthociffnlhdenaaGreatDoorG11
set_option linter.unusedSectionVars false
set_option linter.unusedVariables false
set_option linter.unusedSimpArgs false
set_option maxRecDepth 10000
set_option maxHeartbeats 4000000
namespace Vc
open Go Go.Proofs
def ir40 : AFun := ⟨88, 7, [.tmp 6, .tmp 7, .tmp 8],
 (.seq
 (.reg [0] [⟨some 3, .cbx 0 2 (.tmp 0), none⟩,
 ⟨some 6, .mov (.cst (.nils 1)), none⟩,
 ⟨some 7, .mov (.cst (.d (.int .i64 0))), none⟩,
 ⟨some 8, .mov (.cst (.d (.int .i64 0))), none⟩])
 (.seq
 (.seq
 (.regd [1] [⟨some 19, .ld true 2 (.tmp 3), none⟩,
 ⟨some 20, .call 27 [(.tmp 19)], none⟩,
 ⟨some 21, .ld true 2 (.tmp 3), none⟩,
 ⟨some 22, .mov (.tmp 1), none⟩,
 ⟨some 23, .call 87 [(.tmp 21), (.tmp 22)], none⟩,
 ⟨some 24, .ld true 2 (.tmp 3), none⟩,
 ⟨some 25, .mov (.tmp 2), none⟩,
 ⟨some 26, .call 107 [(.tmp 24), (.tmp 25)], none⟩,
 ⟨some 27, .bsl 1 29 1 3 [(.int .i64 0), (.int .i64 0), (.int .i64 0)] [(0, (.tmp 20)), (1, (.tmp 23)), (2, (.tmp 26))], none⟩,
 ⟨some 28, .call 86 [(.tmp 27)], none⟩,
 ⟨some 9, .mov (.tmp 28), none⟩] [(0, 2), (1, 2), (0, 3), (1, 3), (2, 3), (0, 5), (1, 5), (2, 5), (3, 5), (4, 5), (0, 6), (1, 6), (2, 6), (3, 6), (4, 6), (5, 6)])
 (.seq
 (.reg [] [⟨some 29, .mov (.tmp 9), none⟩,
 ⟨some 30, .cmp .neq (.tmp 29) (.cst (.d (.int .i64 0))), none⟩])
 (.cond (.tmp 30)
 (.seq
 (.reg [] [⟨some 31, .mov (.tmp 9), none⟩,
 ⟨some 6, .mov (.cst (.nils 1)), none⟩,
 ⟨some 7, .mov (.cst (.d (.int .i64 0))), none⟩,
 ⟨some 8, .mov (.tmp 31), none⟩])
 .ret)
 .skip)))
 (.seq
 (.reg [2] [⟨some 32, .bsl 2 3 1 1 [(.int .i64 0)] [(0, (.cst (.d (.int .i64 (-1)))))], none⟩,
 ⟨some 33, .fad 0 (.tmp 3), none⟩,
 ⟨some 34, .ld false 1 (.tmp 33), none⟩,
 ⟨some 35, .len (.tmp 34), none⟩,
 ⟨some 36, .calln 6 3 1 108 [(.tmp 32), (.tmp 35)], none⟩,
 ⟨some 10, .mov (.tmp 36), none⟩])
 (.seq
 (.reg [] [⟨some 37, .mov (.tmp 10), none⟩,
 ⟨some 38, .mov (.tmp 1), none⟩,
 ⟨some 39, .ixa 1 (.tmp 37) (.tmp 38), none⟩,
 ⟨none, .st 1 (.tmp 39) (.cst (.d (.int .i64 0))), none⟩])
 (.seq
 (.reg [] [⟨some 11, .mov (.cst (.d (.int .i64 0))), none⟩])
 (.seq
 (.reg [3] [⟨some 40, .mov (.tmp 1), none⟩,
 ⟨some 41, .bsl 3 3 1 1 [(.int .i64 0)] [(0, (.tmp 40))], none⟩,
 ⟨some 12, .mov (.tmp 41), none⟩])
 (.seq
 (.seq
 (.reg [] [⟨some 13, .mov (.cst (.d (.int .i64 1))), none⟩])
 (.post [10, 11] [0, 1, 2, 3, 4, 5]
 (.block 0
 (.asdat 12 (.keep [2, 3, 10, 11, 12, 13] [0, 1, 2, 3]
 (.loop
 (.post [2, 3, 10, 11, 12, 13] [4, 5]
 (.seq
 (.seq
 (.reg [] [⟨some 42, .mov (.tmp 12), none⟩,
 ⟨some 43, .len (.tmp 42), none⟩,
 ⟨some 44, .cmp .gtr (.tmp 43) (.cst (.d (.int .i64 0))), none⟩])
 (.cond (.tmp 44)
 .skip
 (.exit 0)))
 (.seq
 (.block 1
 (.seq
 (.reg [] [⟨some 14, .mov (.cst (.nils 1)), none⟩])
 (.seq
 (.seq
 (.reg [] [⟨some 47, .mov (.tmp 12), none⟩,
 ⟨some 48, .len (.tmp 47), none⟩,
 ⟨some 49, .mov (.cst (.d (.int .i64 0))), none⟩])
 (.post [2, 3, 10, 11, 13, 14] [0, 1, 2, 3, 4, 5]
 (.block 2
 (.asrow 5 3 1 14
 (.keep [2, 3, 10, 11, 13, 14, 47, 48, 49] [0, 1, 2, 3]
 (.loop
 (.post [2, 3, 10, 11, 13, 14, 47, 48, 49] [4, 5]
 (.seq
 (.reg [] [⟨some 50, .cmp .lss (.tmp 49) (.tmp 48), none⟩])
 (.seq
 (.cond (.tmp 50)
 .skip
 (.exit 2))
 (.seq
 (.block 3
 (.seq
 (.reg [] [⟨some 51, .ixa 1 (.tmp 47) (.tmp 49), none⟩,
 ⟨some 52, .ld false 1 (.tmp 51), none⟩,
 ⟨some 16, .mov (.tmp 52), none⟩])
 (.seq
 (.reg [] [⟨some 53, .mov (.tmp 11), none⟩,
 ⟨some 54, .arith .add .i64 (.tmp 53) (.cst (.d (.int .i64 1))), none⟩,
 ⟨some 11, .mov (.tmp 54), none⟩])
 (.seq
 (.reg [] [⟨some 55, .ld true 2 (.tmp 3), none⟩,
 ⟨some 56, .mov (.tmp 16), none⟩,
 ⟨some 57, .call 88 [(.tmp 55), (.tmp 56)], none⟩,
 ⟨some 58, .len (.tmp 57), none⟩,
 ⟨some 59, .mov (.cst (.d (.int .i64 0))), none⟩])
 (.post [2, 3, 10, 11, 13, 14, 47, 48, 49] [0, 1, 2, 3, 4, 5]
 (.block 4
 (.asrow 5 3 1 14
 (.keep [2, 3, 10, 11, 13, 14, 16, 47, 48, 49, 57, 58, 59] [0, 1, 2, 3]
 (.loop
 (.post [2, 3, 10, 11, 13, 14, 16, 47, 48, 49, 57, 58, 59] [4, 5]
 (.seq
 (.reg [] [⟨some 60, .cmp .lss (.tmp 59) (.tmp 58), none⟩])
 (.seq
 (.cond (.tmp 60)
 .skip
 (.exit 4))
 (.seq
 (.block 5
 (.seq
 (.reg [] [⟨some 61, .ixa 1 (.tmp 57) (.tmp 59), none⟩,
 ⟨some 62, .ld false 1 (.tmp 61), none⟩,
 ⟨some 18, .mov (.tmp 62), none⟩])
 (.seq
 (.seq
 (.reg [] [⟨some 63, .mov (.tmp 10), none⟩,
 ⟨some 64, .mov (.tmp 18), none⟩,
 ⟨some 65, .ixa 1 (.tmp 63) (.tmp 64), none⟩,
 ⟨some 66, .ld false 1 (.tmp 65), none⟩,
 ⟨some 67, .cmp .geq (.tmp 66) (.cst (.d (.int .i64 0))), none⟩,
 ⟨some 68, .mov (.tmp 67), none⟩,
 ⟨some 69, .mov (.tmp 2), some (68, false)⟩,
 ⟨some 70, .mov (.tmp 18), some (68, false)⟩,
 ⟨some 71, .mov (.tmp 16), some (68, false)⟩,
 ⟨some 72, .build [(.d (.int .i64 0)), (.d (.int .i64 0))] [(0, 1, (.tmp 70)), (1, 1, (.tmp 71))], some (68, false)⟩,
 ⟨some 73, .call 109 [(.tmp 69), (.tmp 72)], some (68, false)⟩,
 ⟨some 74, .pick (.tmp 68) (.cst (.d (.bool true))) (.tmp 73), none⟩])
 (.cond (.tmp 74)
 (.exit 5)
 .skip))
 (.seq
 (.reg [] [⟨some 75, .mov (.tmp 10), none⟩,
 ⟨some 76, .mov (.tmp 18), none⟩,
 ⟨some 77, .mov (.tmp 13), none⟩,
 ⟨some 78, .ixa 1 (.tmp 75) (.tmp 76), none⟩,
 ⟨none, .st 1 (.tmp 78) (.tmp 77), none⟩])
 (.reg [4, 5] [⟨some 79, .mov (.tmp 14), none⟩,
 ⟨some 80, .mov (.tmp 18), none⟩,
 ⟨some 81, .bsl 4 3 1 1 [(.int .i64 0)] [(0, (.tmp 80))], none⟩,
 ⟨some 82, .app 5 3 1 8 (.tmp 79) (.tmp 81), none⟩,
 ⟨some 14, .mov (.tmp 82), none⟩])))))
 (.reg [] [⟨some 83, .arith .add .i64 (.tmp 59) (.cst (.d (.int .i64 1))), none⟩,
 ⟨some 59, .mov (.tmp 83), none⟩]))))))))))))))
 (.reg [] [⟨some 84, .arith .add .i64 (.tmp 49) (.cst (.d (.int .i64 1))), none⟩,
 ⟨some 49, .mov (.tmp 84), none⟩])))))))))))
 (.asdat 14 (.reg [] [⟨some 85, .mov (.tmp 14), none⟩,
 ⟨some 12, .mov (.tmp 85), none⟩])))))
 (.reg [] [⟨some 45, .mov (.tmp 13), none⟩,
 ⟨some 46, .arith .add .i64 (.tmp 45) (.cst (.d (.int .i64 1))), none⟩,
 ⟨some 13, .mov (.tmp 46), none⟩]))))))))))
 (.seq
 (.reg [] [⟨some 86, .mov (.tmp 10), none⟩,
 ⟨some 87, .mov (.tmp 11), none⟩,
 ⟨some 6, .mov (.tmp 86), none⟩,
 ⟨some 7, .mov (.tmp 87), none⟩,
 ⟨some 8, .mov (.cst (.d (.int .i64 0))), none⟩])
 .ret))))))))⟩
def ir44 : AFun := ⟨82, 2, [.tmp 6, .tmp 7],
 (.seq
 (.reg [0] [⟨some 3, .cbx 0 2 (.tmp 0), none⟩,
 ⟨some 6, .mov (.cst (.nils 1)), none⟩,
 ⟨some 7, .mov (.cst (.d (.int .i64 0))), none⟩])
 (.seq
 (.reg [1] [⟨some 14, .fad 0 (.tmp 3), none⟩,
 ⟨some 15, .ld false 1 (.tmp 14), none⟩,
 ⟨some 16, .len (.tmp 15), none⟩,
 ⟨some 17, .msl 1 3 1 8 (.int .i64 0) (.tmp 16), none⟩,
 ⟨some 8, .mov (.tmp 17), none⟩])
 (.seq
 (.seq
 (.reg [] [⟨some 9, .mov (.cst (.d (.int .i64 0))), none⟩])
 (.post [1, 2, 3, 8] [0, 1]
 (.block 0
 (.keep [1, 2, 3, 8, 9] [0, 1]
 (.loop
 (.post [1, 2, 3, 8, 9] []
 (.seq
 (.seq
 (.reg [] [⟨some 18, .mov (.tmp 9), none⟩,
 ⟨some 19, .mov (.tmp 8), none⟩,
 ⟨some 20, .len (.tmp 19), none⟩,
 ⟨some 21, .cmp .lss (.tmp 18) (.tmp 20), none⟩])
 (.cond (.tmp 21)
 .skip
 (.exit 0)))
 (.seq
 (.block 1
 (.reg [] [⟨some 24, .mov (.tmp 8), none⟩,
 ⟨some 25, .mov (.tmp 9), none⟩,
 ⟨some 26, .ixa 1 (.tmp 24) (.tmp 25), none⟩,
 ⟨none, .st 1 (.tmp 26) (.cst (.d (.int .i64 (-1)))), none⟩]))
 (.reg [] [⟨some 22, .mov (.tmp 9), none⟩,
 ⟨some 23, .arith .add .i64 (.tmp 22) (.cst (.d (.int .i64 1))), none⟩,
 ⟨some 9, .mov (.tmp 23), none⟩])))))))))
 (.seq
 (.reg [] [⟨some 27, .mov (.tmp 8), none⟩,
 ⟨some 28, .mov (.tmp 1), none⟩,
 ⟨some 29, .ixa 1 (.tmp 27) (.tmp 28), none⟩,
 ⟨none, .st 1 (.tmp 29) (.cst (.d (.int .i64 0))), none⟩])
 (.seq
 (.reg [] [⟨some 10, .mov (.cst (.d (.int .i64 0))), none⟩])
 (.seq
 (.seq
 (.reg [] [⟨some 11, .mov (.cst (.d (.int .i64 1))), none⟩])
 (.post [8, 10] [0, 1]
 (.block 2
 (.keep [2, 3, 8, 10, 11] [0, 1]
 (.loop
 (.post [2, 3, 8, 10, 11] []
 (.seq
 (.seq
 (.reg [] [⟨some 30, .mov (.tmp 11), none⟩,
 ⟨some 31, .mov (.tmp 8), none⟩,
 ⟨some 32, .len (.tmp 31), none⟩,
 ⟨some 33, .cmp .leq (.tmp 30) (.tmp 32), none⟩])
 (.cond (.tmp 33)
 .skip
 (.exit 2)))
 (.seq
 (.block 3
 (.seq
 (.reg [] [⟨some 12, .mov (.cst (.d (.int .i64 0))), none⟩])
 (.post [2, 3, 8, 10, 11] [0, 1]
 (.block 4
 (.keep [2, 3, 8, 10, 11, 12] [0, 1]
 (.loop
 (.post [2, 3, 8, 10, 11, 12] []
 (.seq
 (.seq
 (.reg [] [⟨some 36, .mov (.tmp 12), none⟩,
 ⟨some 37, .mov (.tmp 8), none⟩,
 ⟨some 38, .len (.tmp 37), none⟩,
 ⟨some 39, .cmp .lss (.tmp 36) (.tmp 38), none⟩])
 (.cond (.tmp 39)
 .skip
 (.exit 4)))
 (.seq
 (.block 5
 (.seq
 (.seq
 (.reg [] [⟨some 42, .mov (.tmp 8), none⟩,
 ⟨some 43, .mov (.tmp 12), none⟩,
 ⟨some 44, .ixa 1 (.tmp 42) (.tmp 43), none⟩,
 ⟨some 45, .ld false 1 (.tmp 44), none⟩,
 ⟨some 46, .mov (.tmp 11), none⟩,
 ⟨some 47, .arith .sub .i64 (.tmp 46) (.cst (.d (.int .i64 1))), none⟩,
 ⟨some 48, .cmp .neq (.tmp 45) (.tmp 47), none⟩])
 (.cond (.tmp 48)
 (.exit 5)
 .skip))
 (.seq
 (.reg [] [⟨some 49, .mov (.tmp 10), none⟩,
 ⟨some 50, .arith .add .i64 (.tmp 49) (.cst (.d (.int .i64 1))), none⟩,
 ⟨some 10, .mov (.tmp 50), none⟩])
 (.seq
 (.reg [] [⟨some 13, .mov (.cst (.d (.int .i64 0))), none⟩])
 (.post [2, 3, 8, 10, 11, 12] [0, 1]
 (.block 6
 (.keep [2, 3, 8, 10, 11, 12, 13] [0, 1]
 (.loop
 (.post [2, 3, 8, 10, 11, 12, 13] []
 (.seq
 (.seq
 (.reg [] [⟨some 51, .mov (.tmp 13), none⟩,
 ⟨some 52, .mov (.tmp 8), none⟩,
 ⟨some 53, .len (.tmp 52), none⟩,
 ⟨some 54, .cmp .lss (.tmp 51) (.tmp 53), none⟩])
 (.cond (.tmp 54)
 .skip
 (.exit 6)))
 (.seq
 (.block 7
 (.seq
 (.reg [] [⟨some 57, .mov (.tmp 8), none⟩,
 ⟨some 58, .mov (.tmp 13), none⟩,
 ⟨some 59, .ixa 1 (.tmp 57) (.tmp 58), none⟩,
 ⟨some 60, .ld false 1 (.tmp 59), none⟩,
 ⟨some 61, .cmp .lss (.tmp 60) (.cst (.d (.int .i64 0))), none⟩,
 ⟨some 62, .mov (.tmp 61), none⟩,
 ⟨some 63, .ld true 2 (.tmp 3), some (62, true)⟩,
 ⟨some 64, .mov (.tmp 12), some (62, true)⟩,
 ⟨some 65, .mov (.tmp 13), some (62, true)⟩,
 ⟨some 66, .call 67 [(.tmp 63), (.tmp 64), (.tmp 65)], some (62, true)⟩,
 ⟨some 67, .cmp .gtr (.tmp 66) (.cst (.d (.int .i64 0))), some (62, true)⟩,
 ⟨some 68, .pick (.tmp 62) (.tmp 67) (.cst (.d (.bool false))), none⟩,
 ⟨some 69, .mov (.tmp 68), none⟩,
 ⟨some 70, .mov (.tmp 2), some (69, true)⟩,
 ⟨some 71, .mov (.tmp 13), some (69, true)⟩,
 ⟨some 72, .mov (.tmp 12), some (69, true)⟩,
 ⟨some 73, .call 110 [(.tmp 70), (.tmp 71), (.tmp 72)], some (69, true)⟩,
 ⟨some 74, .not (.tmp 73), some (69, true)⟩,
 ⟨some 75, .pick (.tmp 69) (.tmp 74) (.cst (.d (.bool false))), none⟩])
 (.cond (.tmp 75)
 (.reg [] [⟨some 76, .mov (.tmp 8), none⟩,
 ⟨some 77, .mov (.tmp 13), none⟩,
 ⟨some 78, .mov (.tmp 11), none⟩,
 ⟨some 79, .ixa 1 (.tmp 76) (.tmp 77), none⟩,
 ⟨none, .st 1 (.tmp 79) (.tmp 78), none⟩])
 .skip)))
 (.reg [] [⟨some 55, .mov (.tmp 13), none⟩,
 ⟨some 56, .arith .add .i64 (.tmp 55) (.cst (.d (.int .i64 1))), none⟩,
 ⟨some 13, .mov (.tmp 56), none⟩]))))))))))))
 (.reg [] [⟨some 40, .mov (.tmp 12), none⟩,
 ⟨some 41, .arith .add .i64 (.tmp 40) (.cst (.d (.int .i64 1))), none⟩,
 ⟨some 12, .mov (.tmp 41), none⟩]))))))))))
 (.reg [] [⟨some 34, .mov (.tmp 11), none⟩,
 ⟨some 35, .arith .add .i64 (.tmp 34) (.cst (.d (.int .i64 1))), none⟩,
 ⟨some 11, .mov (.tmp 35), none⟩])))))))))
 (.seq
 (.reg [] [⟨some 80, .mov (.tmp 8), none⟩,
 ⟨some 81, .mov (.tmp 10), none⟩,
 ⟨some 6, .mov (.tmp 80), none⟩,
 ⟨some 7, .mov (.tmp 81), none⟩])
 .ret)))))))⟩
def ir5 : AFun := ⟨68, 2, [.tmp 6],
 (.seq
 (.reg [0] [⟨some 3, .cbx 0 2 (.tmp 0), none⟩,
 ⟨some 6, .mov (.cst (.d (.bool false))), none⟩])
 (.seq
 (.seq
 (.reg [] [⟨some 13, .ld true 2 (.tmp 3), none⟩,
 ⟨some 14, .call 15 [(.tmp 13)], none⟩,
 ⟨some 15, .not (.tmp 14), none⟩,
 ⟨some 16, .mov (.tmp 15), none⟩,
 ⟨some 17, .mov (.tmp 2), some (16, false)⟩,
 ⟨some 18, .call 39 [(.tmp 17)], some (16, false)⟩,
 ⟨some 19, .not (.tmp 18), some (16, false)⟩,
 ⟨some 20, .pick (.tmp 16) (.cst (.d (.bool true))) (.tmp 19), none⟩])
 (.cond (.tmp 20)
 (.seq
 (.reg [] [⟨some 21, .call 16 [], none⟩,
 ⟨some 6, .mov (.tmp 21), none⟩])
 .ret)
 .skip))
 (.seq
 (.reg [] [⟨some 23, .ld true 2 (.tmp 3), none⟩,
 ⟨some 24, .call 18 [(.tmp 23)], none⟩,
 ⟨some 25, .mov (.tmp 1), none⟩,
 ⟨some 26, .mov (.tmp 2), none⟩,
 ⟨some 27, .call 41 [(.tmp 26)], none⟩,
 ⟨some 28, .call 40 [(.tmp 24), (.tmp 25), (.tmp 27)], none⟩,
 ⟨some 22, .mov (.tmp 28), none⟩,
 ⟨some 29, .ext 0 (.tmp 22), none⟩,
 ⟨some 30, .ext 1 (.tmp 22), none⟩,
 ⟨some 31, .ext 2 (.tmp 22), none⟩,
 ⟨some 7, .mov (.tmp 29), none⟩,
 ⟨some 8, .mov (.tmp 30), none⟩,
 ⟨some 9, .mov (.tmp 31), none⟩])
 (.seq
 (.reg [] [⟨some 32, .ld true 2 (.tmp 3), none⟩,
 ⟨some 33, .call 22 [(.tmp 32)], none⟩,
 ⟨some 10, .mov (.tmp 33), none⟩,
 ⟨some 11, .mov (.cst (.d (.int .i64 0))), none⟩])
 (.seq
 (.seq
 (.reg [] [⟨some 34, .mov (.tmp 10), none⟩,
 ⟨some 35, .cmp .eql (.tmp 34) (.cst (.d (.int .i64 0))), none⟩])
 (.cond (.tmp 35)
 (.regd [1] [⟨some 36, .ld true 2 (.tmp 3), none⟩,
 ⟨some 37, .mov (.tmp 1), none⟩,
 ⟨some 38, .call 23 [(.tmp 36), (.tmp 37)], none⟩,
 ⟨some 39, .ld true 2 (.tmp 3), none⟩,
 ⟨some 40, .mov (.tmp 2), none⟩,
 ⟨some 41, .call 43 [(.tmp 39), (.tmp 40)], none⟩,
 ⟨some 42, .bsl 1 3 1 2 [(.int .i64 0), (.int .i64 0)] [(0, (.tmp 38)), (1, (.tmp 41))], none⟩,
 ⟨some 43, .call 42 [(.tmp 42)], none⟩,
 ⟨some 10, .mov (.tmp 43), none⟩] [(0, 1), (0, 3), (1, 3), (2, 3), (0, 4), (1, 4), (2, 4), (3, 4)])
 .skip))
 (.seq
 (.reg [] [⟨some 12, .mov (.cst (.nils 1)), none⟩])
 (.seq
 (.seq
 (.reg [] [⟨some 44, .mov (.tmp 10), none⟩,
 ⟨some 45, .cmp .eql (.tmp 44) (.cst (.d (.int .i64 0))), none⟩])
 (.cond (.tmp 45)
 (.reg [] [⟨some 47, .ld true 2 (.tmp 3), none⟩,
 ⟨some 48, .mov (.tmp 1), none⟩,
 ⟨some 49, .mov (.tmp 2), none⟩,
 ⟨some 50, .call 44 [(.tmp 47), (.tmp 48), (.tmp 49)], none⟩,
 ⟨some 46, .mov (.tmp 50), none⟩,
 ⟨some 51, .ext 0 (.tmp 46), none⟩,
 ⟨some 52, .ext 1 (.tmp 46), none⟩,
 ⟨some 12, .mov (.tmp 51), none⟩,
 ⟨some 11, .mov (.tmp 52), none⟩])
 .skip))
 (.seq
 (.reg [] [⟨some 53, .mov (.tmp 7), none⟩,
 ⟨some 54, .mov (.tmp 9), none⟩,
 ⟨some 55, .mov (.tmp 10), none⟩,
 ⟨some 56, .mov (.tmp 12), none⟩,
 ⟨some 57, .call 28 [(.tmp 53), (.tmp 54), (.tmp 55), (.tmp 56)], none⟩,
 ⟨some 58, .mov (.tmp 57), none⟩,
 ⟨some 59, .mov (.tmp 8), some (58, true)⟩,
 ⟨some 60, .mov (.tmp 9), some (58, true)⟩,
 ⟨some 61, .mov (.tmp 10), some (58, true)⟩,
 ⟨some 62, .mov (.tmp 11), some (58, true)⟩,
 ⟨some 63, .call 29 [(.tmp 59), (.tmp 60), (.tmp 61), (.tmp 62)], some (58, true)⟩,
 ⟨some 64, .pick (.tmp 58) (.tmp 63) (.cst (.d (.bool false))), none⟩,
 ⟨some 65, .mov (.tmp 64), none⟩,
 ⟨some 66, .call 16 [], some (65, true)⟩,
 ⟨some 67, .pick (.tmp 65) (.tmp 66) (.cst (.d (.bool false))), none⟩,
 ⟨some 6, .mov (.tmp 67), none⟩])
 .ret))))))))⟩
def gL (m : Ms) (lost : List (Int × Int)) (a b : Nat) : Bool := decide (0 < betw m.ls a b) && !(lostB lost b a)
def Ms.floods (m : Ms) (lost : List (Int × Int)) (f : Int) : List Int := lvls m.ns.length (gL m lost) f.toNat m.ns.length
theorem pre_le {n : Nat} {g : Nat → Nat → Bool} {f k j : Nat} : (pre n g f k j).length ≤ j := by
  unfold pre; rw [List.length_map]
  have := List.length_filter_le (fun a => decide (lvl n g f k a = k)) (List.range j)
  rw [List.length_range] at this; exact this
theorem sentR_le {n : Nat} {g : Nat → Nat → Bool} {f : Nat} : ∀ k, sentR n g f k ≤ n
  | 0 => Nat.zero_le _
  | k + 1 => by
    have := known_le (lvls n g f k)
    rw [lvls_len] at this; exact this
theorem c44 (m : Ms) (f : Int) (lost : List (Int × Int)) (hf : m.fine) (h0 : 0 ≤ f) (h1 : f < (m.ns.length : Int)) (hll : lost.length ≤ 1048576) : CallDet Tryz.prog 44 [.d m.d, .d (.int .i64 f), .d (.slice 2 (prs lost))] [.slice 1 (ints (m.floods lost f)), .int .i64 (known (m.floods lost f))] := by
  have hsl := strs_len m.ns
  have h32 := hf.n32
  have h128 := hf.l128
  have hfn : f.toNat < m.ns.length := by omega
  have hasc := hf.asc
  have hlk : m.ls.length ≤ 1048576 := by omega
  refine call_of_vc (x := ir44) (by kernel_rfl) rfl ?_
  have fin : ∀ (d : List Int) (s : Nat), d = m.floods lost f → s = known (m.floods lost f) → resV [.slice 1 (ints d), .int .i64 s] = resV [.slice 1 (ints (m.floods lost f)), .int .i64 (known (m.floods lost f))] := fun d s h h2 => by rw [h, h2]
  refine And.intro ?_ ?_
  refine And.intro ?_ ?_
  (show (0 : Int) ≤ (↑(List.length (strs (Ms.ns m))) : Int); omega)
  refine And.intro ?_ ?_
  (show (↑(List.length (strs (Ms.ns m))) : Int) * (↑(8 : Nat) : Int) ≤ (2 : Int) ^ (47 : Nat); omega)
  (show (↑(List.length (strs (Ms.ns m))) : Int) ≤ (2 : Int) ^ (47 : Nat); omega)
  rotate_left
  refine loop_u (fun a : Nat × List Data => [(9, .d (.int .i64 (a.1)))]) (fun a => [(1, .row 3 1 (a.2) false)]) (fun a => a.1 ≤ (strs m.ns).length ∧ a.2 = List.replicate a.1 (.int .i64 (-1)) ++ (List.replicate (strs m.ns).length (.int .i64 0)).drop a.1) (fun a => (strs m.ns).length - a.1) (0, List.replicate (strs m.ns).length (.int .i64 0)) rfl ⟨Nat.zero_le _, rfl⟩ ?_
  rintro ⟨k, es⟩ ⟨hk, he⟩
  have hk : k ≤ (strs m.ns).length := hk
  have he : es = List.replicate k (.int .i64 (-1)) ++ (List.replicate (strs m.ns).length (.int .i64 0)).drop k := he
  have hlen : es.length = (strs m.ns).length := by
    rw [he, List.length_append, List.length_replicate, List.length_drop, List.length_replicate]; omega
  have hx : k < (strs m.ns).length → es[((k : Int)).toNat]? = some (.int .i64 0) := fun h => by
    show es[k]? = some (.int .i64 0)
    rw [he, List.getElem?_append_right (by rw [List.length_replicate]; exact Nat.le_refl _), List.length_replicate, List.getElem?_drop, List.getElem?_replicate, if_pos (by omega)]
  have hy : ¬ k < (strs m.ns).length → es[f.toNat]? = some (.int .i64 (-1)) := fun h => by
    rw [he, List.getElem?_append_left (by rw [List.length_replicate]; omega), List.getElem?_replicate, if_pos (by omega)]
  have e0 : ¬ k < (strs m.ns).length → es.set f.toNat (.int .i64 0) = ints (lvls m.ns.length (gL m lost) f.toNat 0) := fun h => by
    have ek : k = m.ns.length := by omega
    subst ek
    rw [lvls_zero hfn]
    unfold start; rw [he, ints_set, ints_rep, List.drop_eq_nil_of_le (by rw [List.length_replicate]; omega), List.append_nil]
  refine And.intro ?_ ?_
  assumption
  refine And.intro rfl ?_
  refine brk_lt (fun t1 => ?_) (fun t1 => ?_)
  replace t1 : (↑k : Int) < (↑(List.length es) : Int) := t1
  refine And.intro ?_ ?_
  refine And.intro ?_ ?_
  exact rfl
  refine And.intro ?_ ?_
  assumption
  refine And.intro ?_ ?_
  (show (0 : Int) ≤ (↑k : Int); omega)
  (show (↑k : Int) < (↑(List.length (strs (Ms.ns m))) : Int); omega)
  refine Exists.intro _ (Exists.intro (Data.int IntKind.i64 (-1 : Int)) (And.intro (And.intro ?_ (And.intro (hx (by omega)) (And.intro rfl (And.intro ?_ (And.intro rfl rfl))))) ?_))
  assumption
  (show (0 : Nat) + (1 : Nat) ≤ (1 : Nat); omega)
  refine ar_add ?_ ?_
  refine And.intro ?_ ?_
  (show (-9223372036854775808 : Int) ≤ (↑k : Int) + (1 : Int); omega)
  (show (↑k : Int) + (1 : Int) ≤ (9223372036854775807 : Int); omega)
  rotate_left
  replace t1 : ¬(↑k : Int) < (↑(List.length es) : Int) := t1
  refine And.intro ?_ ?_
  refine And.intro ?_ ?_
  exact rfl
  refine And.intro ?_ ?_
  assumption
  refine And.intro ?_ ?_
  assumption
  (show f < (↑(List.length (strs (Ms.ns m))) : Int); omega)
  refine Exists.intro _ (Exists.intro (Data.int IntKind.i64 (0 : Int)) (And.intro (And.intro ?_ (And.intro (hy (by omega)) (And.intro rfl (And.intro ?_ (And.intro rfl rfl))))) ?_))
  assumption
  (show (0 : Nat) + (1 : Nat) ≤ (1 : Nat); omega)
  rotate_left
  · exact ⟨(k + 1, es.set k (.int .i64 (-1))), ⟨⟨by show k + 1 ≤ (strs m.ns).length; omega, by rw [he]; exact fill_at2 (by rw [List.length_replicate]; omega)⟩, by show (strs m.ns).length - (k + 1) < (strs m.ns).length - k; omega⟩, rfl⟩
  refine loop_u (fun a : Nat × List Int × Nat => [(10, .d (.int .i64 a.2.2)), (11, .d (.int .i64 ((a.1 : Int) + 1)))]) (fun a => [(1, .row 3 1 (ints a.2.1) false)]) (fun a => a.1 ≤ m.ns.length ∧ (a.2.1 = lvls m.ns.length (gL m lost) f.toNat a.1 ∧ a.2.2 = sentR m.ns.length (gL m lost) f.toNat a.1)) (fun a => m.ns.length - a.1) (0, lvls m.ns.length (gL m lost) f.toNat 0, 0) (by rw [← e0 (by omega)]; rfl) ⟨Nat.zero_le _, rfl, rfl⟩ ?_
  clear hx hy e0 he hlen
  rintro ⟨r, d, s⟩ ⟨hr, hd, hs⟩
  have hr : r ≤ m.ns.length := hr
  have hd : d = lvls m.ns.length (gL m lost) f.toNat r := hd
  have hs : s = sentR m.ns.length (gL m lost) f.toNat r := hs
  have hdl : (ints d).length = (strs m.ns).length := by rw [ints_len, hd, lvls_len, hsl]
  have hsn := sentR_le (n := m.ns.length) (g := gL m lost) (f := f.toNat) r
  rw [← hs] at hsn
  dsimp only
  refine And.intro ?_ ?_
  assumption
  refine And.intro rfl ?_
  refine brk_le (fun t2 => ?_) (fun t2 => ?_)
  rotate_left
  refine And.intro ?_ ?_
  assumption
  rotate_left
  · refine loop_u (fun a : Nat × List Int × Nat => [(10, .d (.int .i64 a.2.2)), (12, .d (.int .i64 a.1))]) (fun a => [(1, .row 3 1 (ints a.2.1) false)]) (fun a => a.1 ≤ m.ns.length ∧ (a.2.1 = (refP m.ns.length (gL m lost) f.toNat r a.1).1 ∧ a.2.2 = s + (pre m.ns.length (gL m lost) f.toNat r a.1).length)) (fun a => m.ns.length - a.1) (0, d, s) rfl ⟨Nat.zero_le _, hd, rfl⟩ ?_
    rintro ⟨j, d1, s1⟩ ⟨hj, hd1, hs1⟩
    have hj : j ≤ m.ns.length := hj
    have hd1 : d1 = (refP m.ns.length (gL m lost) f.toNat r j).1 := hd1
    have hs1 : s1 = s + (pre m.ns.length (gL m lost) f.toNat r j).length := hs1
    have hd1l : (ints d1).length = (strs m.ns).length := by rw [ints_len, hd1, refP_len, hsl]
    have hpl := pre_le (n := m.ns.length) (g := gL m lost) (f := f.toNat) (k := r) (j := j)
    dsimp only
    by_cases hjj : j < m.ns.length
    · have hx1 : (ints d1)[((j : Nat) : Int).toNat]? = some (.int .i64 (at0 d1 j)) := ints_at0 (by rw [hd1, refP_len]; exact hjj)
      have hat : at0 d1 j = r ↔ lvl m.ns.length (gL m lost) f.toNat r j = r := by rw [hd1]; exact refP_at hjj
      refine And.intro ?_ ?_
      assumption
      refine And.intro rfl ?_
      refine brk_lt (fun t3 => ?_) (fun t3 => ?_)
      refine And.intro ?_ ?_
      refine And.intro ?_ ?_
      exact rfl
      refine And.intro ?_ ?_
      assumption
      refine And.intro ?_ ?_
      (show (0 : Int) ≤ (↑j : Int); omega)
      (show (↑j : Int) < (↑(List.length (strs (Ms.ns m))) : Int); omega)
      refine And.intro ?_ ?_
      assumption
      refine Exists.intro _ (And.intro hx1 ?_)
      refine ar_sub ?_ ?_
      refine And.intro ?_ ?_
      (show (-9223372036854775808 : Int) ≤ (↑r : Int) + (1 : Int) - (1 : Int); omega)
      (show (↑r : Int) + (1 : Int) - (1 : Int) ≤ (9223372036854775807 : Int); omega)
      refine And.intro rfl ?_
      refine brk_ne (fun t4 => ?_) (fun t4 => ?_)
      refine ar_add ?_ ?_
      refine And.intro ?_ ?_
      (show (-9223372036854775808 : Int) ≤ (↑j : Int) + (1 : Int); omega)
      (show (↑j : Int) + (1 : Int) ≤ (9223372036854775807 : Int); omega)
      rotate_left
      refine ar_add ?_ ?_
      refine And.intro ?_ ?_
      (show (-9223372036854775808 : Int) ≤ (↑s1 : Int) + (1 : Int); omega)
      (show (↑s1 : Int) + (1 : Int) ≤ (9223372036854775807 : Int); omega)
      rotate_left
      (exfalso; omega)
      · have hn : lvl m.ns.length (gL m lost) f.toNat r j ≠ r := fun h => t4 (by rw [hat.2 h]; omega)
        exact ⟨(j + 1, d1, s1), ⟨⟨by show j + 1 ≤ m.ns.length; omega, by show d1 = _; rw [refP_no hn]; exact hd1, by show s1 = _; rw [pre_no hn]; exact hs1⟩, by show m.ns.length - (j + 1) < m.ns.length - j; omega⟩, rfl⟩
      · have hy : lvl m.ns.length (gL m lost) f.toNat r j = r := hat.1 (by omega)
        have hmem : ∀ b : Nat, ∀ k ∈ iotaI b, b ≤ m.ns.length → 0 ≤ k ∧ k < (m.ns.length : Int) := fun b k hk hb => by
          have := iota_mem.1 hk; omega
        have hfl : ∀ b, ((iotaI b).foldl (stepD (fun b => gL m lost j b.toNat) ((r + 1 : Nat) : Int)) d1).length = m.ns.length := fun b => by
          have hdl : d1.length = m.ns.length := by rw [hd1, refP_len]
          have : ∀ (L : List Int) (e : List Int), e.length = m.ns.length → (L.foldl (stepD (fun b => gL m lost j b.toNat) ((r + 1 : Nat) : Int)) e).length = m.ns.length := by
            intro L
            induction L with
            | nil => exact fun e h => h
            | cons x L ih =>
              intro e h
              refine ih _ ?_
              unfold stepD
              cases (decide (0 ≤ at0 e x.toNat) || !(gL m lost j x.toNat))
              · show (e.set _ _).length = _
                rw [List.length_set]; exact h
              · exact h
          exact this _ _ hdl
        refine loop_u (fun a : Nat × List Int => [(13, .d (.int .i64 a.1))]) (fun a => [(1, .row 3 1 (ints a.2) false)]) (fun a => a.1 ≤ m.ns.length ∧ a.2 = (iotaI a.1).foldl (stepD (fun b => gL m lost j b.toNat) ((r + 1 : Nat) : Int)) d1) (fun a => m.ns.length - a.1) (0, d1) rfl ⟨Nat.zero_le _, rfl⟩ ?_
        rintro ⟨b, d2⟩ ⟨hb, hd2⟩
        have hb : b ≤ m.ns.length := hb
        have hd2 : d2 = (iotaI b).foldl (stepD (fun b => gL m lost j b.toNat) ((r + 1 : Nat) : Int)) d1 := hd2
        have hd2l : (ints d2).length = (strs m.ns).length := by rw [ints_len, hd2, hfl, hsl]
        have est : (iotaI (b + 1)).foldl (stepD (fun b => gL m lost j b.toNat) ((r + 1 : Nat) : Int)) d1 = stepD (fun b => gL m lost j b.toNat) ((r + 1 : Nat) : Int) d2 b := by
          rw [iota_snoc, List.foldl_append, ← hd2]; rfl
        dsimp only
        by_cases hbb : b < m.ns.length
        · have hx2 : (ints d2)[((b : Nat) : Int).toNat]? = some (.int .i64 (at0 d2 b)) := ints_at0 (by rw [hd2, hfl]; exact hbb)
          have kst : (¬ at0 d2 b < 0 ∨ gL m lost j b = false) → stepD (fun b => gL m lost j b.toNat) ((r + 1 : Nat) : Int) d2 b = d2 := fun h => by
            unfold stepD
            have e : (decide (0 ≤ at0 d2 (b : Int).toNat) || !(gL m lost j (b : Int).toNat)) = true := by
              show (decide (0 ≤ at0 d2 b) || !(gL m lost j b)) = true
              rcases h with h | h
              · rw [decide_eq_true (by omega : 0 ≤ at0 d2 b)]; rfl
              · rw [h]; exact Bool.or_true _
            rw [e]; rfl
          have kyes : at0 d2 b < 0 → gL m lost j b = true → stepD (fun b => gL m lost j b.toNat) ((r + 1 : Nat) : Int) d2 b = d2.set b ((r + 1 : Nat) : Int) := fun h h2 => by
            unfold stepD
            have e : (decide (0 ≤ at0 d2 (b : Int).toNat) || !(gL m lost j (b : Int).toNat)) = false := by
              show (decide (0 ≤ at0 d2 b) || !(gL m lost j b)) = false
              rw [decide_eq_false (by omega : ¬ 0 ≤ at0 d2 b), h2]; rfl
            rw [e]; rfl
          have stay : stepD (fun b => gL m lost j b.toNat) ((r + 1 : Nat) : Int) d2 b = d2 → d2 = (iotaI (b + 1)).foldl (stepD (fun b => gL m lost j b.toNat) ((r + 1 : Nat) : Int)) d1 := fun h => by rw [est, h]
          refine And.intro ?_ ?_
          assumption
          refine And.intro rfl ?_
          refine brk_lt (fun t5 => ?_) (fun t5 => ?_)
          refine And.intro ?_ ?_
          refine And.intro ?_ ?_
          exact rfl
          refine And.intro ?_ ?_
          assumption
          refine And.intro ?_ ?_
          (show (0 : Int) ≤ (↑b : Int); omega)
          (show (↑b : Int) < (↑(List.length (strs (Ms.ns m))) : Int); omega)
          refine And.intro ?_ ?_
          assumption
          refine Exists.intro _ (And.intro hx2 ?_)
          refine And.intro rfl ?_
          refine brk_lt (fun t6 => ?_) (fun t6 => ?_)
          refine Exists.intro _ (And.intro (c67 m _ _ hlk hasc) ?_)
          refine And.intro rfl ?_
          refine brk_lt (fun t7 => ?_) (fun t7 => ?_)
          refine Exists.intro _ (And.intro (c110 lost _ _ hll) ?_)
          refine brk_intro (fun t8 => ?_) (fun t8 => ?_)
          replace t8 : (!lostB lost (↑b : Int) (↑j : Int)) = true := t8
          refine And.intro ?_ ?_
          refine And.intro ?_ ?_
          exact rfl
          refine And.intro ?_ ?_
          assumption
          refine And.intro ?_ ?_
          (show (0 : Int) ≤ (↑b : Int); omega)
          (show (↑b : Int) < (↑(List.length (strs (Ms.ns m))) : Int); omega)
          refine Exists.intro _ (Exists.intro (Data.int IntKind.i64 ((↑r : Int) + (1 : Int))) (And.intro (And.intro ?_ (And.intro hx2 (And.intro rfl (And.intro ?_ (And.intro rfl rfl))))) ?_))
          assumption
          (show (0 : Nat) + (1 : Nat) ≤ (1 : Nat); omega)
          refine ar_add ?_ ?_
          refine And.intro ?_ ?_
          (show (-9223372036854775808 : Int) ≤ (↑b : Int) + (1 : Int); omega)
          (show (↑b : Int) + (1 : Int) ≤ (9223372036854775807 : Int); omega)
          rotate_left
          replace t8 : (!lostB lost (↑b : Int) (↑j : Int)) = false := t8
          refine ar_add ?_ ?_
          refine And.intro ?_ ?_
          (show (-9223372036854775808 : Int) ≤ (↑b : Int) + (1 : Int); omega)
          (show (↑b : Int) + (1 : Int) ≤ (9223372036854775807 : Int); omega)
          rotate_left
          refine And.intro rfl ?_
          refine ar_add ?_ ?_
          refine And.intro ?_ ?_
          (show (-9223372036854775808 : Int) ≤ (↑b : Int) + (1 : Int); omega)
          (show (↑b : Int) + (1 : Int) ≤ (9223372036854775807 : Int); omega)
          rotate_left
          refine And.intro rfl ?_
          refine And.intro rfl ?_
          refine ar_add ?_ ?_
          refine And.intro ?_ ?_
          (show (-9223372036854775808 : Int) ≤ (↑b : Int) + (1 : Int); omega)
          (show (↑b : Int) + (1 : Int) ≤ (9223372036854775807 : Int); omega)
          rotate_left
          (exfalso; omega)
          · refine ⟨(b + 1, d2.set b ((r + 1 : Nat) : Int)), ⟨⟨by show b + 1 ≤ m.ns.length; omega, by show d2.set b ((r + 1 : Nat) : Int) = _; rw [est, kyes t6 (by unfold gL; rw [decide_eq_true t7, t8]; rfl)]⟩, by show m.ns.length - (b + 1) < m.ns.length - b; omega⟩, ?_⟩
            show _ = St.upd _ [(13, .d (.int .i64 ((b + 1 : Nat) : Int)))] [(1, .row 3 1 (ints (d2.set b ((r + 1 : Nat) : Int))) false)]
            rw [ints_set]; rfl
          · exact ⟨(b + 1, d2), ⟨⟨by show b + 1 ≤ m.ns.length; omega, stay (kst (.inr (by unfold gL; rw [t8, Bool.and_false])))⟩, by show m.ns.length - (b + 1) < m.ns.length - b; omega⟩, rfl⟩
          · exact ⟨(b + 1, d2), ⟨⟨by show b + 1 ≤ m.ns.length; omega, stay (kst (.inr (by unfold gL; rw [decide_eq_false t7]; rfl)))⟩, by show m.ns.length - (b + 1) < m.ns.length - b; omega⟩, rfl⟩
          · exact ⟨(b + 1, d2), ⟨⟨by show b + 1 ≤ m.ns.length; omega, stay (kst (.inl t6))⟩, by show m.ns.length - (b + 1) < m.ns.length - b; omega⟩, rfl⟩
        · have eb : b = m.ns.length := by omega
          refine And.intro ?_ ?_
          assumption
          refine And.intro rfl ?_
          refine brk_lt (fun t5 => ?_) (fun t5 => ?_)
          (exfalso; omega)
          refine ar_add ?_ ?_
          refine And.intro ?_ ?_
          (show (-9223372036854775808 : Int) ≤ (↑j : Int) + (1 : Int); omega)
          (show (↑j : Int) + (1 : Int) ≤ (9223372036854775807 : Int); omega)
          rotate_left
          exact ⟨(j + 1, d2, s1 + 1), ⟨⟨by show j + 1 ≤ m.ns.length; omega, by show d2 = _; rw [refP_yes hy, foldS_fst, ← hd1, hd2, eb], by show s1 + 1 = _; rw [pre_yes hy, List.length_append, hs1]; rfl⟩, by show m.ns.length - (j + 1) < m.ns.length - j; omega⟩, rfl⟩
    · have ej : j = m.ns.length := by omega
      refine And.intro ?_ ?_
      assumption
      refine And.intro rfl ?_
      refine brk_lt (fun t3 => ?_) (fun t3 => ?_)
      (exfalso; omega)
      refine ar_add ?_ ?_
      refine And.intro ?_ ?_
      (show (-9223372036854775808 : Int) ≤ (↑r : Int) + (1 : Int) + (1 : Int); omega)
      (show (↑r : Int) + (1 : Int) + (1 : Int) ≤ (9223372036854775807 : Int); omega)
      rotate_left
      exact ⟨(r + 1, d1, s1), ⟨⟨by show r + 1 ≤ m.ns.length; omega, by show d1 = _; rw [hd1, ej, refP_end], by show s1 = _; rw [hs1, ej, hs, sentR_next]⟩, by show m.ns.length - (r + 1) < m.ns.length - r; omega⟩, rfl⟩
  · have er : r = m.ns.length := by omega
    refine fin d s ?_ ?_
    · rw [hd, er]; rfl
    · rw [hs, er, sentR_end hfn]; rfl
def floodE (m : Ms) (f : Int) (lost : List (Int × Int)) : Int := firstOf [m.chk, m.nodeE f, pairsE m lost]
def Ms.floodsP (m : Ms) (lost : List (Int × Int)) (f : Int) : List Int := bif floodE m f lost != 0 then [] else m.floods lost f
def Ms.floodsN (m : Ms) (lost : List (Int × Int)) (f : Int) : Int := bif floodE m f lost != 0 then 0 else (known (m.floods lost f) : Int)
theorem nbs_mem (m : Ms) (i x : Int) : ∀ k : Nat, x ∈ nbs m i k ↔ 0 ≤ x ∧ x < (k : Int) ∧ 0 < betw m.ls i x
  | 0 => by
    show x ∈ [] ↔ _
    constructor
    · intro h; cases h
    · rintro ⟨h0, h1, _⟩; omega
  | k + 1 => by
    have ih := nbs_mem m i x k
    rw [nbs, List.mem_append, ih]
    by_cases h : 0 < betw m.ls i k
    · rw [decide_eq_true h]
      show _ ∨ x ∈ [(k : Int)] ↔ _
      rw [List.mem_singleton]
      constructor
      · rintro (⟨h0, h1, h2⟩ | rfl)
        · exact ⟨h0, by omega, h2⟩
        · exact ⟨by omega, by omega, h⟩
      · rintro ⟨h0, h1, h2⟩
        by_cases e : x = k
        · exact .inr e
        · exact .inl ⟨h0, by omega, h2⟩
    · rw [decide_eq_false h]
      show _ ∨ x ∈ [] ↔ _
      constructor
      · rintro (⟨h0, h1, h2⟩ | hh)
        · exact ⟨h0, by omega, h2⟩
        · cases hh
      · rintro ⟨h0, h1, h2⟩
        by_cases e : x = k
        · subst e; exact absurd h2 h
        · exact .inl ⟨h0, by omega, h2⟩
def qqL (lost : List (Int × Int)) (a b : Int) : Bool := !(lostB lost b a)
theorem gP_gL (m : Ms) (lost : List (Int × Int)) (a i : Nat) (ha : a < m.ns.length) (hi : i < m.ns.length) : gP m.nbs (qqL lost) a i = gL m lost a i := by
  unfold gP gL qqL Ms.nbs
  congr 1
  have h := nbs_mem m a i m.ns.length
  rw [Bool.eq_iff_iff, decide_eq_true_iff, List.contains_iff_mem, h]
  exact ⟨fun h => h.2.2, fun h => ⟨by omega, by omega, h⟩⟩
theorem nbs_in (m : Ms) (a k : Int) (h : k ∈ m.nbs a) : 0 ≤ k ∧ k < (m.ns.length : Int) := ⟨((nbs_mem m a k _).1 h).1, ((nbs_mem m a k _).1 h).2.1⟩
theorem ints_app (a b : List Int) : ints (a ++ b) = ints a ++ ints b := by unfold ints; rw [List.map_append]
theorem c40 (m : Ms) (f : Int) (lost : List (Int × Int)) (hn : m.ns.length ≤ 1048576) (hl : m.ls.length ≤ 1048576) (hll : lost.length ≤ 1048576) :
    CallDet Tryz.prog 40 [.d m.d, .d (.int .i64 f), .d (.slice 2 (prs lost))] [.slice 1 (ints (m.floodsP lost f)), .int .i64 (m.floodsN lost f), .int .i64 (floodE m f lost)] := by
  have hsl := strs_len m.ns
  have bad : ¬ floodE m f lost = 0 → resV [.slice 1 [], .int .i64 0, .int .i64 (floodE m f lost)] = resV [.slice 1 (ints (m.floodsP lost f)), .int .i64 (m.floodsN lost f), .int .i64 (floodE m f lost)] := fun h => by
    have e : (floodE m f lost != 0) = true := by rw [bne_iff_ne]; exact h
    unfold Ms.floodsP Ms.floodsN; rw [e]; rfl
  have fin : floodE m f lost = 0 → ∀ (d : List Int) (s : Nat), d = m.floods lost f → s = known (m.floods lost f) → resV [.slice 1 (ints d), .int .i64 s, .int .i64 0] = resV [.slice 1 (ints (m.floodsP lost f)), .int .i64 (m.floodsN lost f), .int .i64 (floodE m f lost)] := fun h d s h2 h3 => by
    unfold Ms.floodsP Ms.floodsN; rw [h, h2, h3]; rfl
  refine call_of_vc (x := ir40) (by kernel_rfl) rfl ?_
  by_cases hz : firstOf [m.chk, m.nodeE f, pairsE m lost] = 0
  · have hc0 : m.chk = 0 := firstOf_zero hz _ (by simp)
    have hn0 : m.nodeE f = 0 := firstOf_zero hz _ (by simp)
    have hf := chk_fine hc0
    have hk := (nodeD_ok (m := m) (i := f) (by unfold nodeD; rw [hc0, hn0]; rfl)).2
    have h32 := hf.n32
    have hfn : f.toNat < m.ns.length := by omega
    have hlr : (List.replicate (strs m.ns).length (Data.int .i64 (-1))).length = m.ns.length := by rw [List.length_replicate, hsl]
    have hr : (List.replicate (strs m.ns).length (Data.int .i64 (-1)))[f.toNat]? = some (.int .i64 (-1)) := by rw [List.getElem?_replicate, if_pos (by omega)]
    have e0 : (List.replicate (strs m.ns).length (Data.int .i64 (-1))).set f.toNat (.int .i64 0) = ints (start m.ns.length f.toNat) := by
      unfold start; rw [ints_set, ints_rep, hsl]
    refine Exists.intro _ (And.intro (c27 m (by omega) (by omega)) ?_)
    refine Exists.intro _ (And.intro (c87 m _) ?_)
    refine Exists.intro _ (And.intro (c107 m lost hll) ?_)
    refine And.intro rfl ?_
    refine And.intro rfl ?_
    refine Exists.intro _ (And.intro (c86 [Ms.chk m, Ms.nodeE m f, pairsE m lost] (by simp)) ?_)
    refine And.intro rfl ?_
    refine brk_ne (fun t1 => ?_) (fun t1 => ?_)
    (exfalso; omega)
    refine And.intro rfl ?_
    refine And.intro rfl ?_
    refine Exists.intro _ (And.intro (c108r _ (strs m.ns).length (by omega)) ?_)
    refine And.intro ?_ ?_
    refine And.intro ?_ ?_
    exact rfl
    refine And.intro ?_ ?_
    exact rfl
    refine And.intro ?_ ?_
    (show (0 : Int) ≤ f; omega)
    (show f < (↑(List.length (List.replicate (List.length (strs (Ms.ns m))) (Data.int IntKind.i64 (-1 : Int)))) : Int); omega)
    refine Exists.intro _ (Exists.intro (Data.int IntKind.i64 (0 : Int)) (And.intro (And.intro ?_ (And.intro hr (And.intro rfl (And.intro ?_ (And.intro rfl rfl))))) ?_))
    exact rfl
    (show (0 : Nat) + (1 : Nat) ≤ (1 : Nat); omega)
    refine And.intro rfl ?_
    rotate_left
    refine loop_u (fun a : Nat × List Int × List Int × Nat => [(11, .d (.int .i64 a.2.2.2)), (12, .d (.slice 1 (ints a.2.2.1))), (13, .d (.int .i64 ((a.1 : Int) + 1)))]) (fun a => [(6, .row 3 1 (ints a.2.1) false)]) (fun a => a.1 ≤ m.ns.length ∧ ((a.2.1, a.2.2.1) = floodP m.ns.length m.nbs (qqL lost) f.toNat a.1 ∧ a.2.2.2 + a.2.2.1.length = known a.2.1)) (fun a => m.ns.length - a.1) (0, start m.ns.length f.toNat, [(f.toNat : Int)], 0) (by rw [← e0, show ((f.toNat : Nat) : Int) = f by omega]; rfl) ⟨Nat.zero_le _, rfl, by show 0 + 1 = known _; rw [known_start hfn]⟩ ?_
    rintro ⟨r, d, nw, s⟩ ⟨hr, hd, hs⟩
    have hr : r ≤ m.ns.length := hr
    have hd : (d, nw) = floodP m.ns.length m.nbs (qqL lost) f.toNat r := hd
    have hs : s + nw.length = known d := hs
    have his := floodP_is (qq := qqL lost) hfn (nbs_in m) r
    have hdo : d = lvls m.ns.length (gP m.nbs (qqL lost)) f.toNat r := by rw [← his.out, ← hd]
    have hno : ∀ i, i ∈ nw ↔ 0 ≤ i ∧ i < (m.ns.length : Int) ∧ lvl m.ns.length (gP m.nbs (qqL lost)) f.toNat r i.toNat = (r : Int) := by have h := his.now; rw [← hd] at h; exact h
    have hdn : d.length = m.ns.length := by rw [hdo, lvls_len]
    have hdl : (ints d).length = (List.replicate (strs m.ns).length (Data.int .i64 (-1))).length := by rw [ints_len, hdn, hlr]
    have hkd := known_le d
    have hnl := ints_len nw
    dsimp only
    by_cases hw : 0 < nw.length
    · have hrn : r < m.ns.length := by
        refine Exists.elim (get_lt nw hw) fun i hi => ?_
        have h := (hno i).1 (List.mem_of_getElem? hi)
        exact lvl_lt hfn (by omega) h.2.2
      refine And.intro rfl ?_
      refine brk_lt (fun t2 => ?_) (fun t2 => ?_)
      rotate_left
      (exfalso; omega)
      refine loop_u (fun a : Nat × List Int × List Int × Nat => [(11, .d (.int .i64 a.2.2.2)), (14, .sl 5 (ints a.2.2.1).length), (49, .d (.int .i64 a.1))]) (fun a => [(5, .row 3 1 (ints a.2.2.1) false), (6, .row 3 1 (ints a.2.1) false)]) (fun a => a.1 ≤ nw.length ∧ ((a.2.1, a.2.2.1) = (nw.take a.1).foldl (sendP m.nbs (qqL lost) ((r + 1 : Nat) : Int)) (d, []) ∧ (a.2.2.2 = s + a.1 ∧ FOk m.ns.length (a.2.1, a.2.2.1)))) (fun a => nw.length - a.1) (0, d, [], s) rfl ⟨Nat.zero_le _, rfl, rfl, ⟨hdn, Nat.zero_le _⟩⟩ ?_
      rintro ⟨i, d1, x1, s1⟩ ⟨hi, hd1, hs1, hk1⟩
      have hi : i ≤ nw.length := hi
      have hd1 : (d1, x1) = (nw.take i).foldl (sendP m.nbs (qqL lost) ((r + 1 : Nat) : Int)) (d, []) := hd1
      have hs1 : s1 = s + i := hs1
      have hk1 : FOk m.ns.length (d1, x1) := hk1
      have hd1n : d1.length = m.ns.length := hk1.len
      have hd1l : (ints d1).length = (List.replicate (strs m.ns).length (Data.int .i64 (-1))).length := by rw [ints_len, hd1n, hlr]
      have hxl := ints_len x1
      have hxb : x1.length ≤ m.ns.length := hk1.bound
      dsimp only
      by_cases hii : i < nw.length
      · refine Exists.elim (get_lt nw hii) fun v hv => ?_
        have hvd := ints_get hv
        have hfs := fold_snoc (sendP m.nbs (qqL lost) ((r + 1 : Nat) : Int)) (d, []) hv
        rw [← hd1] at hfs
        have hbl := ints_len (m.nbs v)
        have hbn : (m.nbs v).length ≤ m.ns.length := nbs_len m v m.ns.length
        refine And.intro rfl ?_
        refine brk_lt (fun t3 => ?_) (fun t3 => ?_)
        refine ix_at hvd ?_ ?_
        (show (0 : Int) ≤ (↑i : Int); omega)
        refine ar_add ?_ ?_
        refine And.intro ?_ ?_
        (show (-9223372036854775808 : Int) ≤ (↑s1 : Int) + (1 : Int); omega)
        (show (↑s1 : Int) + (1 : Int) ≤ (9223372036854775807 : Int); omega)
        refine Exists.intro _ (And.intro (c88 m v (by omega) (by omega)) ?_)
        rotate_left
        (exfalso; omega)
        refine loop_u (fun a : Nat × List Int × List Int => [(14, .sl 5 (ints a.2.2).length), (59, .d (.int .i64 a.1))]) (fun a => [(5, .row 3 1 (ints a.2.2) false), (6, .row 3 1 (ints a.2.1) false)]) (fun a => a.1 ≤ (m.nbs v).length ∧ ((a.2.1, a.2.2) = ((m.nbs v).take a.1).foldl (stepS (qqL lost v) ((r + 1 : Nat) : Int)) (d1, x1) ∧ FOk m.ns.length (a.2.1, a.2.2))) (fun a => (m.nbs v).length - a.1) (0, d1, x1) rfl ⟨Nat.zero_le _, rfl, hk1⟩ ?_
        rintro ⟨q, d2, x2⟩ ⟨hq, hd2, hk2⟩
        have hq : q ≤ (m.nbs v).length := hq
        have hd2 : (d2, x2) = ((m.nbs v).take q).foldl (stepS (qqL lost v) ((r + 1 : Nat) : Int)) (d1, x1) := hd2
        have hk2 : FOk m.ns.length (d2, x2) := hk2
        have hd2n : d2.length = m.ns.length := hk2.len
        have hd2l : (ints d2).length = (List.replicate (strs m.ns).length (Data.int .i64 (-1))).length := by rw [ints_len, hd2n, hlr]
        have hx2l := ints_len x2
        have hx2b : x2.length ≤ m.ns.length := hk2.bound
        dsimp only
        by_cases hqq : q < (m.nbs v).length
        · refine Exists.elim (get_lt (m.nbs v) hqq) fun w hw2 => ?_
          have hwd := ints_get hw2
          have hwr := nbs_in m v w (List.mem_of_getElem? hw2)
          have hfs2 := fold_snoc (stepS (qqL lost v) ((r + 1 : Nat) : Int)) (d1, x1) hw2
          rw [← hd2] at hfs2
          have hk3 := hk2.step (qqL lost v) (r := ((r + 1 : Nat) : Int)) (by omega) hwr
          have hwx : (ints d2)[w.toNat]? = some (.int .i64 (at0 d2 w.toNat)) := ints_at0 (by omega)
          have kst : (0 ≤ at0 d2 w.toNat ∨ lostB lost w v = true) → stepS (qqL lost v) ((r + 1 : Nat) : Int) (d2, x2) w = (d2, x2) := fun h => by
            unfold stepS
            have e : (decide (0 ≤ at0 (d2, x2).1 w.toNat) || !(qqL lost v w)) = true := by
              show (decide (0 ≤ at0 d2 w.toNat) || !(!(lostB lost w v))) = true
              rcases h with h | h
              · rw [decide_eq_true h]; rfl
              · rw [h]; exact Bool.or_true _
            rw [e]; rfl
          have kyes : ¬ 0 ≤ at0 d2 w.toNat → lostB lost w v = false → stepS (qqL lost v) ((r + 1 : Nat) : Int) (d2, x2) w = (d2.set w.toNat ((r + 1 : Nat) : Int), x2 ++ [w]) := fun h h2 => by
            unfold stepS
            have e : (decide (0 ≤ at0 (d2, x2).1 w.toNat) || !(qqL lost v w)) = false := by
              show (decide (0 ≤ at0 d2 w.toNat) || !(!(lostB lost w v))) = false
              rw [decide_eq_false h, h2]; rfl
            rw [e]; rfl
          have stay : stepS (qqL lost v) ((r + 1 : Nat) : Int) (d2, x2) w = (d2, x2) → (d2, x2) = ((m.nbs v).take (q + 1)).foldl (stepS (qqL lost v) ((r + 1 : Nat) : Int)) (d1, x1) := fun h => by rw [hfs2, h]
          refine And.intro rfl ?_
          refine brk_lt (fun t4 => ?_) (fun t4 => ?_)
          refine ix_at hwd ?_ ?_
          (show (0 : Int) ≤ (↑q : Int); omega)
          refine And.intro ?_ ?_
          refine And.intro ?_ ?_
          exact rfl
          refine And.intro ?_ ?_
          assumption
          refine And.intro ?_ ?_
          (show (0 : Int) ≤ w; omega)
          (show w < (↑(List.length (List.replicate (List.length (strs (Ms.ns m))) (Data.int IntKind.i64 (-1 : Int)))) : Int); omega)
          refine And.intro ?_ ?_
          assumption
          refine Exists.intro _ (And.intro hwx ?_)
          refine And.intro rfl ?_
          refine brk_le (fun t5 => ?_) (fun t5 => ?_)
          refine And.intro rfl ?_
          refine ar_add ?_ ?_
          refine And.intro ?_ ?_
          (show (-9223372036854775808 : Int) ≤ (↑q : Int) + (1 : Int); omega)
          (show (↑q : Int) + (1 : Int) ≤ (9223372036854775807 : Int); omega)
          rotate_left
          refine Exists.intro _ (And.intro (c109 lost _ _ hll) ?_)
          refine brk_intro (fun t6 => ?_) (fun t6 => ?_)
          replace t6 : lostB lost w v = true := t6
          refine ar_add ?_ ?_
          refine And.intro ?_ ?_
          (show (-9223372036854775808 : Int) ≤ (↑q : Int) + (1 : Int); omega)
          (show (↑q : Int) + (1 : Int) ≤ (9223372036854775807 : Int); omega)
          rotate_left
          replace t6 : lostB lost w v = false := t6
          refine And.intro ?_ ?_
          refine And.intro ?_ ?_
          exact rfl
          refine And.intro ?_ ?_
          assumption
          refine And.intro ?_ ?_
          (show (0 : Int) ≤ w; omega)
          (show w < (↑(List.length (List.replicate (List.length (strs (Ms.ns m))) (Data.int IntKind.i64 (-1 : Int)))) : Int); omega)
          refine Exists.intro _ (Exists.intro (Data.int IntKind.i64 ((↑r : Int) + (1 : Int))) (And.intro (And.intro ?_ (And.intro hwx (And.intro rfl (And.intro ?_ (And.intro rfl rfl))))) ?_))
          assumption
          (show (0 : Nat) + (1 : Nat) ≤ (1 : Nat); omega)
          refine And.intro rfl ?_
          refine And.intro rfl ?_
          refine And.intro rfl ?_
          refine And.intro ?_ ?_
          refine And.intro ?_ ?_
          exact rfl
          refine And.intro ?_ ?_
          exact rfl
          refine And.intro ?_ ?_
          exact rfl
          refine And.intro ?_ ?_
          (show (List.length (ints x2) + (1 : Nat)) * (8 : Nat) ≤ (2 : Nat) ^ (47 : Nat); omega)
          (show List.length (ints x2) + (1 : Nat) ≤ (2 : Nat) ^ (47 : Nat); omega)
          refine ar_add ?_ ?_
          refine And.intro ?_ ?_
          (show (-9223372036854775808 : Int) ≤ (↑q : Int) + (1 : Int); omega)
          (show (↑q : Int) + (1 : Int) ≤ (9223372036854775807 : Int); omega)
          rotate_left
          (exfalso; omega)
          · exact ⟨(q + 1, d2, x2), ⟨⟨by show q + 1 ≤ (m.nbs v).length; omega, stay (kst (.inl t5)), hk2⟩, by show (m.nbs v).length - (q + 1) < (m.nbs v).length - q; omega⟩, rfl⟩
          · exact ⟨(q + 1, d2, x2), ⟨⟨by show q + 1 ≤ (m.nbs v).length; omega, stay (kst (.inr t6)), hk2⟩, by show (m.nbs v).length - (q + 1) < (m.nbs v).length - q; omega⟩, rfl⟩
          · have ey := kyes t5 t6
            rw [ey] at hfs2 hk3
            refine ⟨(q + 1, d2.set w.toNat ((r + 1 : Nat) : Int), x2 ++ [w]), ⟨⟨by show q + 1 ≤ (m.nbs v).length; omega, hfs2.symm, hk3⟩, by show (m.nbs v).length - (q + 1) < (m.nbs v).length - q; omega⟩, ?_⟩
            show _ = St.upd _ [(14, .sl 5 (ints (x2 ++ [w])).length), (59, .d (.int .i64 ((q + 1 : Nat) : Int)))] [(5, .row 3 1 (ints (x2 ++ [w])) false), (6, .row 3 1 (ints (d2.set w.toNat ((r + 1 : Nat) : Int))) false)]
            rw [ints_set, ints_app]; rfl
        · have eq : q = (m.nbs v).length := by omega
          have e2 : (m.nbs v).take q = m.nbs v := List.take_of_length_le (by omega)
          rw [e2] at hd2
          refine And.intro rfl ?_
          refine brk_lt (fun t4 => ?_) (fun t4 => ?_)
          (exfalso; omega)
          refine ar_add ?_ ?_
          refine And.intro ?_ ?_
          (show (-9223372036854775808 : Int) ≤ (↑i : Int) + (1 : Int); omega)
          (show (↑i : Int) + (1 : Int) ≤ (9223372036854775807 : Int); omega)
          rotate_left
          exact ⟨(i + 1, d2, x2, s1 + 1), ⟨⟨by show i + 1 ≤ nw.length; omega, by show (d2, x2) = _; rw [hfs, hd2]; rfl, by show s1 + 1 = s + (i + 1); omega, hk2⟩, by show nw.length - (i + 1) < nw.length - i; omega⟩, rfl⟩
      · have ei : i = nw.length := by omega
        refine And.intro rfl ?_
        refine brk_lt (fun t3 => ?_) (fun t3 => ?_)
        (exfalso; omega)
        rotate_left
        conv => whnf
        rw [Nat.beq_refl]
        refine ar_add ?_ ?_
        refine And.intro ?_ ?_
        (show (-9223372036854775808 : Int) ≤ (↑r : Int) + (1 : Int) + (1 : Int); omega)
        (show (↑r : Int) + (1 : Int) + (1 : Int) ≤ (9223372036854775807 : Int); omega)
        rotate_left
        have e2 : nw.take i = nw := List.take_of_length_le (by omega)
        rw [e2] at hd1
        have hfp : floodP m.ns.length m.nbs (qqL lost) f.toNat (r + 1) = (d1, x1) := by
          show (floodP m.ns.length m.nbs (qqL lost) f.toNat r).2.foldl _ ((floodP m.ns.length m.nbs (qqL lost) f.toNat r).1, []) = _
          rw [← hd]; exact hd1.symm
        have hd1o : d1 = lvls m.ns.length (gP m.nbs (qqL lost)) f.toNat (r + 1) := by
          rw [← (floodP_is (qq := qqL lost) hfn (nbs_in m) (r + 1)).out, hfp]
        have hcn := floodP_sent (qq := qqL lost) hfn (nbs_in m) r
        rw [hfp, ← hd1o, ← hdo] at hcn
        have hcn : x1.length + known d = known d1 := hcn
        exact ⟨(r + 1, d1, x1, s1), ⟨⟨by show r + 1 ≤ m.ns.length; omega, hfp.symm, by show s1 + x1.length = known d1; omega⟩, by show m.ns.length - (r + 1) < m.ns.length - r; omega⟩, rfl⟩
    · have hw0 : nw = [] := List.eq_nil_of_length_eq_zero (by omega)
      refine And.intro rfl ?_
      refine brk_lt (fun t2 => ?_) (fun t2 => ?_)
      (exfalso; omega)
      refine And.intro ?_ ?_
      assumption
      rotate_left
      have hno2 : ∀ i, i < m.ns.length → lvl m.ns.length (gP m.nbs (qqL lost)) f.toNat r i ≠ r := fun i hi e => by
        have h := (hno (i : Int)).2 ⟨by omega, by omega, e⟩
        rw [hw0] at h; cases h
      have hde : d = m.floods lost f := by
        rw [hdo, lvls_stop hfn hno2]
        exact lvls_congr (gP_gL m lost) _
      refine fin hz d s hde ?_
      rw [← hde, ← hs, hw0]; rfl
  · refine Exists.intro _ (And.intro (c27 m (by omega) (by omega)) ?_)
    refine Exists.intro _ (And.intro (c87 m _) ?_)
    refine Exists.intro _ (And.intro (c107 m lost hll) ?_)
    refine And.intro rfl ?_
    refine And.intro rfl ?_
    refine Exists.intro _ (And.intro (c86 [Ms.chk m, Ms.nodeE m f, pairsE m lost] (by simp)) ?_)
    refine And.intro rfl ?_
    refine brk_ne (fun t1 => ?_) (fun t1 => ?_)
    rotate_left
    (exfalso; omega)
    exact bad t1
theorem c28_y (a : List Int) (e bad : Int) (w : List Int) (ha : a.length ≤ 1048576) (h : a = bif bad != 0 then [] else w) (h2 : e = bad) : CallDet Tryz.prog 28 [.d (.slice 1 (ints a)), .d (.int .i64 e), .d (.int .i64 bad), .d (.slice 1 (ints w))] [.bool true] := by
  have h3 := c28 a e bad w ha
  rw [show listedB a e bad w = true by unfold listedB; rw [← h, ← h2]; simp] at h3
  exact h3
theorem c28_n (a : List Int) (e bad : Int) (ha : a.length ≤ 1048576) (h : a = []) (h2 : e = bad) : CallDet Tryz.prog 28 [.d (.slice 1 (ints a)), .d (.int .i64 e), .d (.int .i64 bad), .d (.slice 1 [])] [.bool true] := by
  have h3 := c28_y a e bad [] ha (by rw [h]; cases (bad != 0) <;> rfl) h2
  exact h3
theorem c29_y (a e bad w : Int) (h : a = bif bad != 0 then 0 else w) (h2 : e = bad) : CallDet Tryz.prog 29 [.d (.int .i64 a), .d (.int .i64 e), .d (.int .i64 bad), .d (.int .i64 w)] [.bool true] := by
  have h3 := c29 a e bad w
  rw [show numberB a e bad w = true by unfold numberB; rw [← h, ← h2]; simp] at h3
  exact h3
theorem floods_len (m : Ms) (lost : List (Int × Int)) (f : Int) : (m.floods lost f).length = m.ns.length := lvls_len _
theorem flood_in {m : Ms} {f : Int} {lost : List (Int × Int)} (h : m.chk = 0) (h2 : firstOf [m.nodeE f, pairsE m lost] = 0) : m.fine ∧ 0 ≤ f ∧ f < (m.ns.length : Int) :=
  nodeD_ok (m := m) (i := f) (by unfold nodeD; rw [h, firstOf_zero h2 (m.nodeE f) (by simp)]; rfl)
theorem floodE_0 {m : Ms} {f : Int} {lost : List (Int × Int)} (h : m.chk = 0) : floodE m f lost = firstOf [m.nodeE f, pairsE m lost] := by
  unfold floodE; rw [firstOf_cons, h]; rfl
theorem floodE_1 {m : Ms} {f : Int} {lost : List (Int × Int)} (h : ¬ m.chk = 0) : floodE m f lost = m.chk := by
  unfold floodE; rw [firstOf_cons, show (m.chk != 0) = true by rw [bne_iff_ne]; exact h]; rfl
theorem floodsP_le (m : Ms) (lost : List (Int × Int)) (f : Int) (hn : m.ns.length ≤ 1048576) : (m.floodsP lost f).length ≤ 1048576 := by
  unfold Ms.floodsP
  cases (floodE m f lost != 0)
  · show (m.floods lost f).length ≤ _; rw [floods_len]; exact hn
  · exact Nat.zero_le _
theorem floodsP_nil {m : Ms} {lost : List (Int × Int)} {f : Int} (h : ¬ floodE m f lost = 0) : m.floodsP lost f = [] := by
  unfold Ms.floodsP; rw [show (floodE m f lost != 0) = true by rw [bne_iff_ne]; exact h]; rfl
theorem floodsN_nil {m : Ms} {lost : List (Int × Int)} {f b w : Int} (e : floodE m f lost = b) (h : ¬ b = 0) : m.floodsN lost f = bif b != 0 then 0 else w := by
  unfold Ms.floodsN; rw [e, show (b != 0) = true by rw [bne_iff_ne]; exact h]; rfl
theorem c5 (hw : CallDet Tryz.prog 16 [] [.bool true]) (m : Ms) (f : Int) (lost : List (Int × Int)) (hn : m.ns.length ≤ 1048576) (hl : m.ls.length ≤ 1048576) (hll : lost.length ≤ 1048576) :
    CallDet Tryz.prog 5 [.d m.d, .d (.int .i64 f), .d (.slice 2 (prs lost))] [.bool true] := by
  have c16_ := hw
  refine call_of_vc (x := ir5) (by kernel_rfl) rfl ?_
  refine Exists.intro _ (And.intro (c15 m (by omega)) ?_)
  refine brk_intro (fun t1 => ?_) (fun t1 => ?_)
  refine And.intro rfl ?_
  refine Exists.intro _ (And.intro c16_ ?_)
  exact rfl
  refine Exists.intro _ (And.intro (c39 lost) ?_)
  refine brk_intro (fun t2 => ?_) (fun t2 => ?_)
  replace t2 : (!(decide ((↑(List.length lost) : Int) ≤ (12 : Int)) || (↑(List.length lost) : Int) == (257 : Int))) = true := t2
  refine Exists.intro _ (And.intro c16_ ?_)
  exact rfl
  replace t2 : (!(decide ((↑(List.length lost) : Int) ≤ (12 : Int)) || (↑(List.length lost) : Int) == (257 : Int))) = false := t2
  refine Exists.intro _ (And.intro (c18 m (by omega) (by omega)) ?_)
  refine Exists.intro _ (And.intro (c41 lost hll) ?_)
  refine Exists.intro _ (And.intro (c40 m f lost (by omega) (by omega) hll) ?_)
  refine Exists.intro _ (And.intro (c22 m (by omega) (by omega)) ?_)
  refine And.intro rfl ?_
  refine brk_eq (fun t3 => ?_) (fun t3 => ?_)
  refine Exists.intro _ (And.intro (c23 m f) ?_)
  refine Exists.intro _ (And.intro (c43 m lost hll) ?_)
  refine And.intro rfl ?_
  refine And.intro rfl ?_
  refine Exists.intro _ (And.intro (c42 [Ms.nodeE m f, pairsE m lost] (by simp)) ?_)
  refine And.intro rfl ?_
  refine brk_eq (fun t4 => ?_) (fun t4 => ?_)
  refine Exists.intro _ (And.intro (c44 m f lost (flood_in ‹_› ‹_›).1 (flood_in ‹_› ‹_›).2.1 (flood_in ‹_› ‹_›).2.2 hll) ?_)
  refine Exists.intro _ (And.intro (c28_y _ _ _ _ ?_ ?_ ?_) ?_)
  rotate_left
  rotate_left
  rotate_left
  refine Exists.intro _ (And.intro (c29_y _ _ _ _ ?_ ?_) ?_)
  rotate_left
  rotate_left
  refine Exists.intro _ (And.intro c16_ ?_)
  exact rfl
  refine Exists.intro _ (And.intro (c28_n _ _ _ ?_ ?_ ?_) ?_)
  rotate_left
  rotate_left
  rotate_left
  refine Exists.intro _ (And.intro (c29_y _ _ _ _ ?_ ?_) ?_)
  rotate_left
  rotate_left
  refine Exists.intro _ (And.intro c16_ ?_)
  exact rfl
  refine And.intro rfl ?_
  refine brk_eq (fun t5 => ?_) (fun t5 => ?_)
  (exfalso; omega)
  refine Exists.intro _ (And.intro (c28_n _ _ _ ?_ ?_ ?_) ?_)
  rotate_left
  rotate_left
  rotate_left
  refine Exists.intro _ (And.intro (c29_y _ _ _ _ ?_ ?_) ?_)
  rotate_left
  rotate_left
  refine Exists.intro _ (And.intro c16_ ?_)
  exact rfl
  all_goals first
    | exact floodsP_le m lost f hn
    | exact floodE_0 ‹_›
    | exact floodE_1 ‹_›
    | exact floodsP_nil (by rw [floodE_0 ‹_›]; assumption)
    | exact floodsP_nil (by rw [floodE_1 ‹_›]; assumption)
    | exact floodsN_nil (floodE_0 ‹_›) ‹_›
    | exact floodsN_nil (floodE_1 ‹_›) ‹_›
    | (rw [← floodE_0 ‹_›]; exact rfl)
    | skip
end Vc
