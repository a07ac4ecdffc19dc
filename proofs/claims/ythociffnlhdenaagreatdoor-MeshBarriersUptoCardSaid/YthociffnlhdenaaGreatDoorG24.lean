import Derived.Test.YthociffnlhdenaaGreatDoorG13
import Derived.Test.YthociffnlhdenaaGreatDoorG17
import Derived.Test.YthociffnlhdenaaGreatDoorG23
set_option linter.unusedSectionVars false
set_option linter.unusedVariables false
set_option linter.unusedSimpArgs false
set_option maxRecDepth 10000
set_option maxHeartbeats 4000000
namespace Vc
open Go Go.Proofs
def ir45 : AFun := ⟨20, 2, [.tmp 4, .tmp 5],
 (.seq
 (.reg [0] [⟨some 2, .cbx 0 2 (.tmp 0), none⟩,
 ⟨some 4, .mov (.cst (.nils 1)), none⟩,
 ⟨some 5, .mov (.cst (.d (.int .i64 0))), none⟩])
 (.seq
 (.seq
 (.regd [1] [⟨some 7, .ld true 2 (.tmp 2), none⟩,
 ⟨some 8, .call 27 [(.tmp 7)], none⟩,
 ⟨some 9, .ld true 2 (.tmp 2), none⟩,
 ⟨some 10, .mov (.tmp 1), none⟩,
 ⟨some 11, .call 87 [(.tmp 9), (.tmp 10)], none⟩,
 ⟨some 12, .bsl 1 29 1 2 [(.int .i64 0), (.int .i64 0)] [(0, (.tmp 8)), (1, (.tmp 11))], none⟩,
 ⟨some 13, .call 86 [(.tmp 12)], none⟩,
 ⟨some 6, .mov (.tmp 13), none⟩] [(0, 2), (1, 2), (0, 3), (1, 3), (2, 3)])
 (.seq
 (.reg [] [⟨some 14, .mov (.tmp 6), none⟩,
 ⟨some 15, .cmp .neq (.tmp 14) (.cst (.d (.int .i64 0))), none⟩])
 (.cond (.tmp 15)
 (.seq
 (.reg [] [⟨some 16, .mov (.tmp 6), none⟩,
 ⟨some 4, .mov (.cst (.nils 1)), none⟩,
 ⟨some 5, .mov (.tmp 16), none⟩])
 .ret)
 .skip)))
 (.seq
 (.reg [] [⟨some 17, .ld true 2 (.tmp 2), none⟩,
 ⟨some 18, .mov (.tmp 1), none⟩,
 ⟨some 19, .call 111 [(.tmp 17), (.tmp 18)], none⟩,
 ⟨some 4, .mov (.tmp 19), none⟩,
 ⟨some 5, .mov (.cst (.d (.int .i64 0))), none⟩])
 .ret)))⟩
def ir46 : AFun := ⟨24, 1, [.tmp 6, .tmp 7],
 (.seq
 (.reg [0] [⟨some 3, .cbx 0 2 (.tmp 0), none⟩,
 ⟨some 6, .mov (.cst (.nils 1)), none⟩,
 ⟨some 7, .mov (.cst (.d (.int .i64 0))), none⟩])
 (.seq
 (.seq
 (.reg [] [⟨some 10, .ld true 2 (.tmp 3), none⟩,
 ⟨some 11, .mov (.tmp 1), none⟩,
 ⟨some 12, .mov (.tmp 2), none⟩,
 ⟨some 13, .call 112 [(.tmp 10), (.tmp 11), (.tmp 12)], none⟩,
 ⟨some 8, .mov (.tmp 13), none⟩])
 (.seq
 (.reg [] [⟨some 14, .mov (.tmp 8), none⟩,
 ⟨some 15, .cmp .neq (.tmp 14) (.cst (.d (.int .i64 0))), none⟩])
 (.cond (.tmp 15)
 (.seq
 (.reg [] [⟨some 16, .mov (.tmp 8), none⟩,
 ⟨some 6, .mov (.cst (.nils 1)), none⟩,
 ⟨some 7, .mov (.tmp 16), none⟩])
 .ret)
 .skip)))
 (.seq
 (.reg [] [⟨some 17, .ld true 2 (.tmp 3), none⟩,
 ⟨some 18, .mov (.tmp 1), none⟩,
 ⟨some 19, .call 111 [(.tmp 17), (.tmp 18)], none⟩,
 ⟨some 9, .mov (.tmp 19), none⟩])
 (.seq
 (.seq
 (.reg [] [⟨some 20, .mov (.tmp 9), none⟩,
 ⟨some 21, .mov (.tmp 2), none⟩,
 ⟨some 22, .call 113 [(.tmp 20), (.tmp 21)], none⟩])
 (.cond (.tmp 22)
 (.seq
 (.reg [] [⟨some 6, .mov (.cst (.nils 1)), none⟩,
 ⟨some 7, .mov (.cst (.d (.int .i64 21))), none⟩])
 .ret)
 .skip))
 (.seq
 (.reg [] [⟨some 23, .mov (.tmp 9), none⟩,
 ⟨some 6, .mov (.tmp 23), none⟩,
 ⟨some 7, .mov (.cst (.d (.int .i64 0))), none⟩])
 .ret)))))⟩
def ir111 : AFun := ⟨25, 3, [.tmp 4],
 (.seq
 (.reg [0] [⟨some 2, .cbx 0 2 (.tmp 0), none⟩,
 ⟨some 4, .mov (.cst (.nils 1)), none⟩])
 (.seq
 (.reg [] [⟨some 5, .mov (.cst (.nils 1)), none⟩])
 (.seq
 (.seq
 (.reg [] [⟨some 8, .ld true 2 (.tmp 2), none⟩,
 ⟨some 9, .mov (.tmp 1), none⟩,
 ⟨some 10, .call 92 [(.tmp 8), (.tmp 9)], none⟩,
 ⟨some 11, .len (.tmp 10), none⟩,
 ⟨some 12, .mov (.cst (.d (.int .i64 0))), none⟩])
 (.post [5] [0, 1, 2]
 (.block 0
 (.asrow 2 3 1 5
 (.keep [5, 10, 11, 12] [0]
 (.loop
 (.post [5, 10, 11, 12] [1, 2]
 (.seq
 (.reg [] [⟨some 13, .cmp .lss (.tmp 12) (.tmp 11), none⟩])
 (.seq
 (.cond (.tmp 13)
 .skip
 (.exit 0))
 (.seq
 (.block 1
 (.seq
 (.reg [] [⟨some 14, .mov (.tmp 12), none⟩,
 ⟨some 15, .ixa 1 (.tmp 10) (.tmp 12), none⟩,
 ⟨some 16, .ld false 1 (.tmp 15), none⟩,
 ⟨some 6, .mov (.tmp 14), none⟩,
 ⟨some 7, .mov (.tmp 16), none⟩])
 (.seq
 (.reg [] [⟨some 17, .mov (.tmp 7), none⟩,
 ⟨some 18, .cmp .geq (.tmp 17) (.cst (.d (.int .i64 0))), none⟩])
 (.cond (.tmp 18)
 (.reg [1, 2] [⟨some 19, .mov (.tmp 5), none⟩,
 ⟨some 20, .mov (.tmp 6), none⟩,
 ⟨some 21, .bsl 1 3 1 1 [(.int .i64 0)] [(0, (.tmp 20))], none⟩,
 ⟨some 22, .app 2 3 1 8 (.tmp 19) (.tmp 21), none⟩,
 ⟨some 5, .mov (.tmp 22), none⟩])
 .skip))))
 (.reg [] [⟨some 23, .arith .add .i64 (.tmp 12) (.cst (.d (.int .i64 1))), none⟩,
 ⟨some 12, .mov (.tmp 23), none⟩])))))))))))
 (.seq
 (.reg [] [⟨some 24, .mov (.tmp 5), none⟩,
 ⟨some 4, .mov (.tmp 24), none⟩])
 .ret))))⟩
def ir112 : AFun := ⟨17, 2, [.tmp 6],
 (.seq
 (.reg [0] [⟨some 3, .cbx 0 2 (.tmp 0), none⟩,
 ⟨some 6, .mov (.cst (.d (.int .i64 0))), none⟩])
 (.seq
 (.regd [1] [⟨some 7, .ld true 2 (.tmp 3), none⟩,
 ⟨some 8, .call 27 [(.tmp 7)], none⟩,
 ⟨some 9, .ld true 2 (.tmp 3), none⟩,
 ⟨some 10, .mov (.tmp 1), none⟩,
 ⟨some 11, .call 87 [(.tmp 9), (.tmp 10)], none⟩,
 ⟨some 12, .ld true 2 (.tmp 3), none⟩,
 ⟨some 13, .mov (.tmp 2), none⟩,
 ⟨some 14, .call 87 [(.tmp 12), (.tmp 13)], none⟩,
 ⟨some 15, .bsl 1 29 1 3 [(.int .i64 0), (.int .i64 0), (.int .i64 0)] [(0, (.tmp 8)), (1, (.tmp 11)), (2, (.tmp 14))], none⟩,
 ⟨some 16, .call 86 [(.tmp 15)], none⟩,
 ⟨some 6, .mov (.tmp 16), none⟩] [(0, 2), (1, 2), (0, 3), (1, 3), (2, 3), (0, 5), (1, 5), (2, 5), (3, 5), (4, 5), (0, 6), (1, 6), (2, 6), (3, 6), (4, 6), (5, 6)])
 .ret))⟩
def ir114 : AFun := ⟨7, 0, [.tmp 3],
 (.seq
 (.reg [] [⟨some 3, .mov (.cst (.d (.bool false))), none⟩])
 (.seq
 (.reg [] [⟨some 4, .ld false 1 (.tmp 1), none⟩,
 ⟨some 5, .mov (.tmp 0), none⟩,
 ⟨some 6, .call 113 [(.tmp 4), (.tmp 5)], none⟩,
 ⟨some 3, .mov (.tmp 6), none⟩])
 .ret))⟩
def ir116 : AFun := ⟨13, 1, [.tmp 3],
 (.seq
 (.reg [0] [⟨some 2, .cbx 0 3 (.tmp 0), none⟩,
 ⟨some 3, .mov (.cst (.d (.bool false))), none⟩])
 (.seq
 (.regd [] [⟨some 4, .ld false 1 (.tmp 1), none⟩,
 ⟨some 5, .fad 0 (.tmp 2), none⟩,
 ⟨some 6, .ld false 1 (.tmp 5), none⟩,
 ⟨some 7, .callv (.tmp 4) [(.tmp 6)], none⟩,
 ⟨some 8, .ld false 1 (.tmp 1), none⟩,
 ⟨some 9, .fad 1 (.tmp 2), none⟩,
 ⟨some 10, .ld false 1 (.tmp 9), none⟩,
 ⟨some 11, .callv (.tmp 8) [(.tmp 10)], none⟩,
 ⟨some 12, .beq true (.tmp 7) (.tmp 11), none⟩,
 ⟨some 3, .mov (.tmp 12), none⟩] [(0, 1), (0, 2), (0, 4), (1, 4), (2, 4), (3, 4), (0, 5), (1, 5), (2, 5), (3, 5), (4, 5), (0, 6), (1, 6), (2, 6), (3, 6), (4, 6)])
 .ret))⟩
def ir47 : AFun := ⟨75, 5, [.tmp 8],
 (.seq
 (.reg [0, 1] [⟨some 4, .cbx 0 2 (.tmp 0), none⟩,
 ⟨some 7, .cbx 1 1 (.tmp 3), none⟩,
 ⟨some 8, .mov (.cst (.d (.int .i64 0))), none⟩])
 (.seq
 (.seq
 (.regd [2] [⟨some 15, .ld true 2 (.tmp 4), none⟩,
 ⟨some 16, .mov (.tmp 1), none⟩,
 ⟨some 17, .mov (.tmp 2), none⟩,
 ⟨some 18, .call 112 [(.tmp 15), (.tmp 16), (.tmp 17)], none⟩,
 ⟨some 19, .ld false 1 (.tmp 7), none⟩,
 ⟨some 20, .len (.tmp 19), none⟩,
 ⟨some 21, .cmp .gtr (.tmp 20) (.cst (.d (.int .i64 32))), none⟩,
 ⟨some 22, .call 89 [(.tmp 21), (.cst (.d (.int .i64 5)))], none⟩,
 ⟨some 23, .bsl 2 29 1 2 [(.int .i64 0), (.int .i64 0)] [(0, (.tmp 18)), (1, (.tmp 22))], none⟩,
 ⟨some 24, .call 86 [(.tmp 23)], none⟩,
 ⟨some 9, .mov (.tmp 24), none⟩] [(0, 1), (0, 2), (1, 2), (0, 4), (1, 4), (2, 4), (3, 4), (0, 5), (1, 5), (2, 5), (3, 5), (0, 6), (1, 6), (2, 6), (3, 6)])
 (.seq
 (.reg [] [⟨some 25, .mov (.tmp 9), none⟩,
 ⟨some 26, .cmp .neq (.tmp 25) (.cst (.d (.int .i64 0))), none⟩])
 (.cond (.tmp 26)
 (.seq
 (.reg [] [⟨some 27, .mov (.tmp 9), none⟩,
 ⟨some 8, .mov (.tmp 27), none⟩])
 .ret)
 .skip)))
 (.seq
 (.seq
 (.reg [] [⟨some 28, .ld false 1 (.tmp 7), none⟩,
 ⟨some 29, .len (.tmp 28), none⟩,
 ⟨some 30, .mov (.cst (.d (.int .i64 0))), none⟩])
 (.post [1, 2, 4, 7] [0, 1, 2, 3]
 (.block 0
 (.keep [1, 2, 4, 7, 28, 29, 30] [0, 1, 2]
 (.loop
 (.post [1, 2, 4, 7, 28, 29, 30] [3]
 (.seq
 (.reg [] [⟨some 31, .cmp .lss (.tmp 30) (.tmp 29), none⟩])
 (.seq
 (.cond (.tmp 31)
 .skip
 (.exit 0))
 (.seq
 (.block 1
 (.seq
 (.reg [] [⟨some 32, .mov (.tmp 30), none⟩,
 ⟨some 33, .ixa 1 (.tmp 28) (.tmp 30), none⟩,
 ⟨some 34, .ld false 1 (.tmp 33), none⟩,
 ⟨some 10, .mov (.tmp 32), none⟩,
 ⟨some 11, .mov (.tmp 34), none⟩])
 (.seq
 (.reg [3] [⟨some 35, .ld true 2 (.tmp 4), none⟩,
 ⟨some 36, .mov (.tmp 11), none⟩,
 ⟨some 37, .call 87 [(.tmp 35), (.tmp 36)], none⟩,
 ⟨some 38, .mov (.tmp 10), none⟩,
 ⟨some 39, .cmp .gtr (.tmp 38) (.cst (.d (.int .i64 0))), none⟩,
 ⟨some 40, .mov (.tmp 39), none⟩,
 ⟨some 41, .mov (.tmp 11), some (40, true)⟩,
 ⟨some 42, .ld false 1 (.tmp 7), some (40, true)⟩,
 ⟨some 43, .mov (.tmp 10), some (40, true)⟩,
 ⟨some 44, .arith .sub .i64 (.tmp 43) (.cst (.d (.int .i64 1))), some (40, true)⟩,
 ⟨some 45, .maxi (.cst (.d (.int .i64 0))) (.tmp 44), some (40, true)⟩,
 ⟨some 46, .ixa 1 (.tmp 42) (.tmp 45), some (40, true)⟩,
 ⟨some 47, .ld false 1 (.tmp 46), some (40, true)⟩,
 ⟨some 48, .cmp .leq (.tmp 41) (.tmp 47), some (40, true)⟩,
 ⟨some 49, .pick (.tmp 40) (.tmp 48) (.cst (.d (.bool false))), none⟩,
 ⟨some 50, .call 89 [(.tmp 49), (.cst (.d (.int .i64 11)))], none⟩,
 ⟨some 51, .bsl 3 29 1 2 [(.int .i64 0), (.int .i64 0)] [(0, (.tmp 37)), (1, (.tmp 50))], none⟩,
 ⟨some 52, .call 86 [(.tmp 51)], none⟩,
 ⟨some 12, .mov (.tmp 52), none⟩])
 (.seq
 (.reg [] [⟨some 53, .mov (.tmp 12), none⟩,
 ⟨some 54, .cmp .neq (.tmp 53) (.cst (.d (.int .i64 0))), none⟩])
 (.cond (.tmp 54)
 (.seq
 (.reg [] [⟨some 55, .mov (.tmp 12), none⟩,
 ⟨some 8, .mov (.tmp 55), none⟩])
 .ret)
 .skip)))))
 (.reg [] [⟨some 56, .arith .add .i64 (.tmp 30) (.cst (.d (.int .i64 1))), none⟩,
 ⟨some 30, .mov (.tmp 56), none⟩]))))))))))
 (.seq
 (.reg [4] [⟨some 57, .mkf (.func 114) [] [(.tmp 7)], none⟩,
 ⟨some 13, .alloc 4 [.undef], none⟩,
 ⟨none, .st 1 (.tmp 13) (.tmp 57), none⟩])
 (.seq
 (.reg [] [⟨some 58, .fad 1 (.tmp 4), none⟩,
 ⟨some 59, .ld false 1 (.tmp 58), none⟩,
 ⟨some 60, .mkf (.func 116) [] [(.tmp 13)], none⟩,
 ⟨some 61, .call 115 [(.tmp 59), (.tmp 60)], none⟩,
 ⟨some 14, .mov (.tmp 61), none⟩])
 (.seq
 (.reg [] [⟨some 62, .ld false 1 (.tmp 13), none⟩,
 ⟨some 63, .mov (.tmp 1), none⟩,
 ⟨some 64, .callv (.tmp 62) [(.tmp 63)], none⟩,
 ⟨some 65, .not (.tmp 64), none⟩,
 ⟨some 66, .mov (.tmp 65), none⟩,
 ⟨some 67, .ld false 1 (.tmp 13), some (66, false)⟩,
 ⟨some 68, .mov (.tmp 2), some (66, false)⟩,
 ⟨some 69, .callv (.tmp 67) [(.tmp 68)], some (66, false)⟩,
 ⟨some 70, .pick (.tmp 66) (.cst (.d (.bool true))) (.tmp 69), none⟩,
 ⟨some 71, .mov (.tmp 70), none⟩,
 ⟨some 72, .mov (.tmp 14), some (71, false)⟩,
 ⟨some 73, .pick (.tmp 71) (.cst (.d (.bool true))) (.tmp 72), none⟩,
 ⟨some 74, .call 89 [(.tmp 73), (.cst (.d (.int .i64 19)))], none⟩,
 ⟨some 8, .mov (.tmp 74), none⟩])
 .ret))))))⟩
def ir48 : AFun := ⟨27, 3, [.tmp 4],
 (.seq
 (.reg [0] [⟨some 2, .cbx 0 2 (.tmp 0), none⟩,
 ⟨some 4, .mov (.cst (.nils 1)), none⟩])
 (.seq
 (.reg [] [⟨some 8, .ld true 2 (.tmp 2), none⟩,
 ⟨some 9, .mov (.tmp 1), none⟩,
 ⟨some 10, .call 26 [(.tmp 8), (.tmp 9)], none⟩,
 ⟨some 5, .mov (.tmp 10), none⟩])
 (.seq
 (.reg [] [⟨some 6, .mov (.cst (.nils 1)), none⟩])
 (.seq
 (.seq
 (.reg [] [⟨some 7, .mov (.cst (.d (.int .i64 0))), none⟩])
 (.post [6] [0, 1, 2]
 (.block 0
 (.asrow 2 3 1 6
 (.keep [5, 6, 7] [0]
 (.loop
 (.post [5, 6, 7] [1, 2]
 (.seq
 (.seq
 (.reg [] [⟨some 11, .mov (.tmp 7), none⟩,
 ⟨some 12, .mov (.tmp 5), none⟩,
 ⟨some 13, .len (.tmp 12), none⟩,
 ⟨some 14, .cmp .lss (.tmp 11) (.tmp 13), none⟩])
 (.cond (.tmp 14)
 .skip
 (.exit 0)))
 (.seq
 (.block 1
 (.seq
 (.reg [] [⟨some 17, .mov (.tmp 5), none⟩,
 ⟨some 18, .mov (.tmp 7), none⟩,
 ⟨some 19, .ixa 1 (.tmp 17) (.tmp 18), none⟩,
 ⟨some 20, .ld false 1 (.tmp 19), none⟩,
 ⟨some 21, .cmp .geq (.tmp 20) (.cst (.d (.int .i64 0))), none⟩])
 (.cond (.tmp 21)
 (.reg [1, 2] [⟨some 22, .mov (.tmp 6), none⟩,
 ⟨some 23, .mov (.tmp 7), none⟩,
 ⟨some 24, .bsl 1 3 1 1 [(.int .i64 0)] [(0, (.tmp 23))], none⟩,
 ⟨some 25, .app 2 3 1 8 (.tmp 22) (.tmp 24), none⟩,
 ⟨some 6, .mov (.tmp 25), none⟩])
 .skip)))
 (.reg [] [⟨some 15, .mov (.tmp 7), none⟩,
 ⟨some 16, .arith .add .i64 (.tmp 15) (.cst (.d (.int .i64 1))), none⟩,
 ⟨some 7, .mov (.tmp 16), none⟩]))))))))))
 (.seq
 (.reg [] [⟨some 26, .mov (.tmp 6), none⟩,
 ⟨some 4, .mov (.tmp 26), none⟩])
 .ret)))))⟩
def ir51 : AFun := ⟨74, 1, [.tmp 8],
 (.seq
 (.reg [0] [⟨some 4, .cbx 0 2 (.tmp 0), none⟩,
 ⟨some 8, .mov (.cst (.d (.int .i64 0))), none⟩])
 (.seq
 (.seq
 (.reg [] [⟨some 11, .mov (.tmp 3), none⟩,
 ⟨some 12, .len (.tmp 11), none⟩,
 ⟨some 13, .cmp .gtr (.tmp 12) (.cst (.d (.int .i64 32))), none⟩])
 (.cond (.tmp 13)
 (.seq
 (.reg [] [⟨some 8, .mov (.cst (.d (.int .i64 5))), none⟩])
 .ret)
 .skip))
 (.seq
 (.seq
 (.reg [] [⟨some 9, .mov (.cst (.d (.int .i64 0))), none⟩])
 (.post [1, 2, 3, 4] [0]
 (.block 0
 (.keep [1, 2, 3, 4, 9] [0]
 (.loop
 (.post [1, 2, 3, 4, 9] []
 (.seq
 (.seq
 (.reg [] [⟨some 14, .mov (.tmp 9), none⟩,
 ⟨some 15, .mov (.tmp 3), none⟩,
 ⟨some 16, .len (.tmp 15), none⟩,
 ⟨some 17, .cmp .lss (.tmp 14) (.tmp 16), none⟩])
 (.cond (.tmp 17)
 .skip
 (.exit 0)))
 (.seq
 (.block 1
 (.seq
 (.seq
 (.regd [] [⟨some 20, .ld true 2 (.tmp 4), none⟩,
 ⟨some 21, .mov (.tmp 3), none⟩,
 ⟨some 22, .mov (.tmp 9), none⟩,
 ⟨some 23, .ixa 1 (.tmp 21) (.tmp 22), none⟩,
 ⟨some 24, .ld false 1 (.tmp 23), none⟩,
 ⟨some 25, .call 95 [(.tmp 20), (.tmp 24)], none⟩,
 ⟨some 26, .not (.tmp 25), none⟩] [(0, 1), (0, 2), (1, 2), (0, 3), (0, 4)])
 (.cond (.tmp 26)
 (.seq
 (.reg [] [⟨some 8, .mov (.cst (.d (.int .i64 10))), none⟩])
 .ret)
 .skip))
 (.seq
 (.regd [] [⟨some 27, .mov (.tmp 9), none⟩,
 ⟨some 28, .cmp .gtr (.tmp 27) (.cst (.d (.int .i64 0))), none⟩,
 ⟨some 29, .mov (.tmp 28), none⟩,
 ⟨some 30, .mov (.tmp 3), some (29, true)⟩,
 ⟨some 31, .mov (.tmp 9), some (29, true)⟩,
 ⟨some 32, .ixa 1 (.tmp 30) (.tmp 31), some (29, true)⟩,
 ⟨some 33, .ld false 1 (.tmp 32), some (29, true)⟩,
 ⟨some 34, .mov (.tmp 3), some (29, true)⟩,
 ⟨some 35, .mov (.tmp 9), some (29, true)⟩,
 ⟨some 36, .arith .sub .i64 (.tmp 35) (.cst (.d (.int .i64 1))), some (29, true)⟩,
 ⟨some 37, .ixa 1 (.tmp 34) (.tmp 36), some (29, true)⟩,
 ⟨some 38, .ld false 1 (.tmp 37), some (29, true)⟩,
 ⟨some 39, .cmp .leq (.tmp 33) (.tmp 38), some (29, true)⟩,
 ⟨some 40, .pick (.tmp 29) (.tmp 39) (.cst (.d (.bool false))), none⟩] [(3, 4), (3, 7), (4, 7), (5, 7), (6, 7), (3, 8), (4, 8), (5, 8), (6, 8), (7, 8), (3, 9), (4, 9), (5, 9), (6, 9), (7, 9), (3, 10), (4, 10), (5, 10), (6, 10), (3, 11), (4, 11), (5, 11), (6, 11)])
 (.cond (.tmp 40)
 (.seq
 (.reg [] [⟨some 8, .mov (.cst (.d (.int .i64 11))), none⟩])
 .ret)
 .skip))))
 (.reg [] [⟨some 18, .mov (.tmp 9), none⟩,
 ⟨some 19, .arith .add .i64 (.tmp 18) (.cst (.d (.int .i64 1))), none⟩,
 ⟨some 9, .mov (.tmp 19), none⟩])))))))))
 (.seq
 (.seq
 (.reg [] [⟨some 41, .mov (.tmp 3), none⟩,
 ⟨some 42, .mov (.tmp 1), none⟩,
 ⟨some 43, .call 50 [(.tmp 41), (.tmp 42)], none⟩,
 ⟨some 44, .not (.tmp 43), none⟩,
 ⟨some 45, .mov (.tmp 44), none⟩,
 ⟨some 46, .mov (.tmp 3), some (45, false)⟩,
 ⟨some 47, .mov (.tmp 2), some (45, false)⟩,
 ⟨some 48, .call 50 [(.tmp 46), (.tmp 47)], some (45, false)⟩,
 ⟨some 49, .pick (.tmp 45) (.cst (.d (.bool true))) (.tmp 48), none⟩])
 (.cond (.tmp 49)
 (.seq
 (.reg [] [⟨some 8, .mov (.cst (.d (.int .i64 19))), none⟩])
 .ret)
 .skip))
 (.seq
 (.seq
 (.reg [] [⟨some 10, .mov (.cst (.d (.int .i64 0))), none⟩])
 (.post [] [0]
 (.block 2
 (.keep [3, 4, 10] [0]
 (.loop
 (.post [3, 4, 10] []
 (.seq
 (.seq
 (.reg [] [⟨some 50, .mov (.tmp 10), none⟩,
 ⟨some 51, .fad 1 (.tmp 4), none⟩,
 ⟨some 52, .ld false 1 (.tmp 51), none⟩,
 ⟨some 53, .len (.tmp 52), none⟩,
 ⟨some 54, .cmp .lss (.tmp 50) (.tmp 53), none⟩])
 (.cond (.tmp 54)
 .skip
 (.exit 2)))
 (.seq
 (.block 3
 (.seq
 (.regd [] [⟨some 57, .mov (.tmp 3), none⟩,
 ⟨some 58, .fad 1 (.tmp 4), none⟩,
 ⟨some 59, .ld false 1 (.tmp 58), none⟩,
 ⟨some 60, .mov (.tmp 10), none⟩,
 ⟨some 61, .ixa 3 (.tmp 59) (.tmp 60), none⟩,
 ⟨some 62, .fad 0 (.tmp 61), none⟩,
 ⟨some 63, .ld false 1 (.tmp 62), none⟩,
 ⟨some 64, .call 50 [(.tmp 57), (.tmp 63)], none⟩,
 ⟨some 65, .mov (.tmp 3), none⟩,
 ⟨some 66, .fad 1 (.tmp 4), none⟩,
 ⟨some 67, .ld false 1 (.tmp 66), none⟩,
 ⟨some 68, .mov (.tmp 10), none⟩,
 ⟨some 69, .ixa 3 (.tmp 67) (.tmp 68), none⟩,
 ⟨some 70, .fad 1 (.tmp 69), none⟩,
 ⟨some 71, .ld false 1 (.tmp 70), none⟩,
 ⟨some 72, .call 50 [(.tmp 65), (.tmp 71)], none⟩,
 ⟨some 73, .beq true (.tmp 64) (.tmp 72), none⟩] [(0, 1), (0, 2), (0, 3), (1, 3), (2, 3), (0, 4), (0, 5), (0, 6), (0, 8), (1, 8), (2, 8), (3, 8), (4, 8), (5, 8), (6, 8), (7, 8), (0, 9), (1, 9), (2, 9), (3, 9), (4, 9), (5, 9), (6, 9), (7, 9), (8, 9), (0, 10), (1, 10), (2, 10), (3, 10), (4, 10), (5, 10), (6, 10), (7, 10), (8, 10), (0, 11), (1, 11), (2, 11), (3, 11), (4, 11), (5, 11), (6, 11), (7, 11), (8, 11), (9, 11), (10, 11), (0, 12), (1, 12), (2, 12), (3, 12), (4, 12), (5, 12), (6, 12), (7, 12), (8, 12), (0, 13), (1, 13), (2, 13), (3, 13), (4, 13), (5, 13), (6, 13), (7, 13), (8, 13), (0, 14), (1, 14), (2, 14), (3, 14), (4, 14), (5, 14), (6, 14), (7, 14), (8, 14)])
 (.cond (.tmp 73)
 (.seq
 (.reg [] [⟨some 8, .mov (.cst (.d (.int .i64 19))), none⟩])
 .ret)
 .skip)))
 (.reg [] [⟨some 55, .mov (.tmp 10), none⟩,
 ⟨some 56, .arith .add .i64 (.tmp 55) (.cst (.d (.int .i64 1))), none⟩,
 ⟨some 10, .mov (.tmp 56), none⟩])))))))))
 (.seq
 (.reg [] [⟨some 8, .mov (.cst (.d (.int .i64 0))), none⟩])
 .ret))))))⟩
def ir6 : AFun := ⟨116, 3, [.tmp 6],
 (.seq
 (.reg [0, 1] [⟨some 3, .cbx 0 2 (.tmp 0), none⟩,
 ⟨some 4, .cbx 1 2 (.tmp 1), none⟩,
 ⟨some 6, .mov (.cst (.d (.bool false))), none⟩])
 (.seq
 (.seq
 (.reg [] [⟨some 17, .ld true 2 (.tmp 3), none⟩,
 ⟨some 18, .call 15 [(.tmp 17)], none⟩,
 ⟨some 19, .not (.tmp 18), none⟩,
 ⟨some 20, .mov (.tmp 19), none⟩,
 ⟨some 21, .mov (.tmp 2), some (20, false)⟩,
 ⟨some 22, .len (.tmp 21), some (20, false)⟩,
 ⟨some 23, .cmp .gtr (.tmp 22) (.cst (.d (.int .i64 12))), some (20, false)⟩,
 ⟨some 24, .mov (.tmp 23), some (20, false)⟩,
 ⟨some 25, .mov (.tmp 2), some (24, true)⟩,
 ⟨some 26, .len (.tmp 25), some (24, true)⟩,
 ⟨some 27, .cmp .neq (.tmp 26) (.cst (.d (.int .i64 33))), some (24, true)⟩,
 ⟨some 28, .pick (.tmp 24) (.tmp 27) (.cst (.d (.bool false))), some (20, false)⟩,
 ⟨some 29, .pick (.tmp 20) (.cst (.d (.bool true))) (.tmp 28), none⟩])
 (.cond (.tmp 29)
 (.seq
 (.reg [] [⟨some 30, .call 16 [], none⟩,
 ⟨some 6, .mov (.tmp 30), none⟩])
 .ret)
 .skip))
 (.seq
 (.regd [] [⟨some 32, .ld true 2 (.tmp 3), none⟩,
 ⟨some 33, .call 18 [(.tmp 32)], none⟩,
 ⟨some 34, .ixp 2 1 (.tmp 4) (.cst (.d (.int .i64 0))), none⟩,
 ⟨some 35, .ld false 1 (.tmp 34), none⟩,
 ⟨some 36, .call 45 [(.tmp 33), (.tmp 35)], none⟩,
 ⟨some 31, .mov (.tmp 36), none⟩,
 ⟨some 37, .ext 0 (.tmp 31), none⟩,
 ⟨some 38, .ext 1 (.tmp 31), none⟩,
 ⟨some 7, .mov (.tmp 37), none⟩,
 ⟨some 8, .mov (.tmp 38), none⟩] [(0, 2), (1, 2), (0, 3), (1, 3), (6, 7), (7, 8)])
 (.seq
 (.regd [] [⟨some 40, .ld true 2 (.tmp 3), none⟩,
 ⟨some 41, .call 18 [(.tmp 40)], none⟩,
 ⟨some 42, .ixp 2 1 (.tmp 4) (.cst (.d (.int .i64 0))), none⟩,
 ⟨some 43, .ld false 1 (.tmp 42), none⟩,
 ⟨some 44, .ixp 2 1 (.tmp 4) (.cst (.d (.int .i64 1))), none⟩,
 ⟨some 45, .ld false 1 (.tmp 44), none⟩,
 ⟨some 46, .call 46 [(.tmp 41), (.tmp 43), (.tmp 45)], none⟩,
 ⟨some 39, .mov (.tmp 46), none⟩,
 ⟨some 47, .ext 0 (.tmp 39), none⟩,
 ⟨some 48, .ext 1 (.tmp 39), none⟩,
 ⟨some 9, .mov (.tmp 47), none⟩,
 ⟨some 10, .mov (.tmp 48), none⟩] [(0, 2), (1, 2), (0, 3), (1, 3), (0, 4), (1, 4), (2, 4), (3, 4), (0, 5), (1, 5), (2, 5), (3, 5), (8, 9), (9, 10)])
 (.seq
 (.regd [] [⟨some 49, .ld true 2 (.tmp 3), none⟩,
 ⟨some 50, .call 18 [(.tmp 49)], none⟩,
 ⟨some 51, .ixp 2 1 (.tmp 4) (.cst (.d (.int .i64 0))), none⟩,
 ⟨some 52, .ld false 1 (.tmp 51), none⟩,
 ⟨some 53, .ixp 2 1 (.tmp 4) (.cst (.d (.int .i64 1))), none⟩,
 ⟨some 54, .ld false 1 (.tmp 53), none⟩,
 ⟨some 55, .mov (.tmp 2), none⟩,
 ⟨some 56, .call 20 [(.tmp 55)], none⟩,
 ⟨some 57, .call 47 [(.tmp 50), (.tmp 52), (.tmp 54), (.tmp 56)], none⟩,
 ⟨some 11, .mov (.tmp 57), none⟩] [(0, 2), (1, 2), (0, 3), (1, 3), (0, 4), (1, 4), (2, 4), (3, 4), (0, 5), (1, 5), (2, 5), (3, 5), (0, 6), (1, 6), (2, 6), (3, 6), (4, 6), (5, 6), (2, 7), (3, 7), (4, 7), (5, 7)])
 (.seq
 (.reg [] [⟨some 58, .ld true 2 (.tmp 3), none⟩,
 ⟨some 59, .call 22 [(.tmp 58)], none⟩,
 ⟨some 12, .mov (.tmp 59), none⟩])
 (.seq
 (.reg [] [⟨some 60, .mov (.tmp 12), none⟩,
 ⟨some 61, .mov (.tmp 12), none⟩,
 ⟨some 13, .mov (.tmp 60), none⟩,
 ⟨some 14, .mov (.tmp 61), none⟩])
 (.seq
 (.reg [] [⟨some 15, .mov (.cst (.nils 1)), none⟩])
 (.seq
 (.seq
 (.reg [] [⟨some 62, .mov (.tmp 12), none⟩,
 ⟨some 63, .cmp .eql (.tmp 62) (.cst (.d (.int .i64 0))), none⟩])
 (.cond (.tmp 63)
 (.seq
 (.reg [] [⟨some 64, .ld true 2 (.tmp 3), none⟩,
 ⟨some 65, .ixp 2 1 (.tmp 4) (.cst (.d (.int .i64 0))), none⟩,
 ⟨some 66, .ld false 1 (.tmp 65), none⟩,
 ⟨some 67, .call 23 [(.tmp 64), (.tmp 66)], none⟩,
 ⟨some 13, .mov (.tmp 67), none⟩])
 (.reg [2] [⟨some 68, .mov (.tmp 13), none⟩,
 ⟨some 69, .ld true 2 (.tmp 3), none⟩,
 ⟨some 70, .ixp 2 1 (.tmp 4) (.cst (.d (.int .i64 1))), none⟩,
 ⟨some 71, .ld false 1 (.tmp 70), none⟩,
 ⟨some 72, .call 23 [(.tmp 69), (.tmp 71)], none⟩,
 ⟨some 73, .bsl 2 3 1 2 [(.int .i64 0), (.int .i64 0)] [(0, (.tmp 68)), (1, (.tmp 72))], none⟩,
 ⟨some 74, .call 42 [(.tmp 73)], none⟩,
 ⟨some 14, .mov (.tmp 74), none⟩]))
 .skip))
 (.seq
 (.seq
 (.reg [] [⟨some 75, .mov (.tmp 13), none⟩,
 ⟨some 76, .cmp .eql (.tmp 75) (.cst (.d (.int .i64 0))), none⟩])
 (.cond (.tmp 76)
 (.reg [] [⟨some 77, .ld true 2 (.tmp 3), none⟩,
 ⟨some 78, .ixp 2 1 (.tmp 4) (.cst (.d (.int .i64 0))), none⟩,
 ⟨some 79, .ld false 1 (.tmp 78), none⟩,
 ⟨some 80, .call 48 [(.tmp 77), (.tmp 79)], none⟩,
 ⟨some 15, .mov (.tmp 80), none⟩])
 .skip))
 (.seq
 (.reg [] [⟨some 81, .mov (.tmp 14), none⟩,
 ⟨some 16, .mov (.tmp 81), none⟩])
 (.seq
 (.seq
 (.reg [] [⟨some 82, .mov (.tmp 14), none⟩,
 ⟨some 83, .cmp .eql (.tmp 82) (.cst (.d (.int .i64 0))), none⟩])
 (.cond (.tmp 83)
 (.seq
 (.reg [] [⟨some 84, .mov (.tmp 15), none⟩,
 ⟨some 85, .ixp 2 1 (.tmp 4) (.cst (.d (.int .i64 1))), none⟩,
 ⟨some 86, .ld false 1 (.tmp 85), none⟩,
 ⟨some 87, .call 50 [(.tmp 84), (.tmp 86)], none⟩,
 ⟨some 88, .call 49 [(.tmp 87), (.cst (.d (.int .i64 21)))], none⟩,
 ⟨some 14, .mov (.tmp 88), none⟩])
 (.reg [] [⟨some 89, .ld true 2 (.tmp 3), none⟩,
 ⟨some 90, .ixp 2 1 (.tmp 4) (.cst (.d (.int .i64 0))), none⟩,
 ⟨some 91, .ld false 1 (.tmp 90), none⟩,
 ⟨some 92, .ixp 2 1 (.tmp 4) (.cst (.d (.int .i64 1))), none⟩,
 ⟨some 93, .ld false 1 (.tmp 92), none⟩,
 ⟨some 94, .mov (.tmp 2), none⟩,
 ⟨some 95, .call 51 [(.tmp 89), (.tmp 91), (.tmp 93), (.tmp 94)], none⟩,
 ⟨some 16, .mov (.tmp 95), none⟩]))
 .skip))
 (.seq
 (.reg [] [⟨some 96, .mov (.tmp 7), none⟩,
 ⟨some 97, .mov (.tmp 8), none⟩,
 ⟨some 98, .mov (.tmp 13), none⟩,
 ⟨some 99, .mov (.tmp 15), none⟩,
 ⟨some 100, .call 28 [(.tmp 96), (.tmp 97), (.tmp 98), (.tmp 99)], none⟩,
 ⟨some 101, .mov (.tmp 100), none⟩,
 ⟨some 102, .mov (.tmp 9), some (101, true)⟩,
 ⟨some 103, .mov (.tmp 10), some (101, true)⟩,
 ⟨some 104, .mov (.tmp 14), some (101, true)⟩,
 ⟨some 105, .mov (.tmp 15), some (101, true)⟩,
 ⟨some 106, .call 28 [(.tmp 102), (.tmp 103), (.tmp 104), (.tmp 105)], some (101, true)⟩,
 ⟨some 107, .pick (.tmp 101) (.tmp 106) (.cst (.d (.bool false))), none⟩,
 ⟨some 108, .mov (.tmp 107), none⟩,
 ⟨some 109, .mov (.tmp 11), some (108, true)⟩,
 ⟨some 110, .mov (.tmp 16), some (108, true)⟩,
 ⟨some 111, .cmp .eql (.tmp 109) (.tmp 110), some (108, true)⟩,
 ⟨some 112, .pick (.tmp 108) (.tmp 111) (.cst (.d (.bool false))), none⟩,
 ⟨some 113, .mov (.tmp 112), none⟩,
 ⟨some 114, .call 16 [], some (113, true)⟩,
 ⟨some 115, .pick (.tmp 113) (.tmp 114) (.cst (.d (.bool false))), none⟩,
 ⟨some 6, .mov (.tmp 115), none⟩])
 .ret)))))))))))))⟩
def reachN (d : List Int) : Nat → List Int
  | 0 => []
  | k + 1 => reachN d k ++ (bif decide (0 ≤ at0 d k) then [(k : Int)] else [])
theorem reachN_len (d : List Int) : ∀ k, (reachN d k).length ≤ k
  | 0 => Nat.le_refl _
  | k + 1 => by
    have := reachN_len d k
    rw [reachN, List.length_append]
    cases decide (0 ≤ at0 d k)
    · show _ + 0 ≤ _; omega
    · show _ + 1 ≤ _; omega
theorem reachN_yes {d : List Int} {k : Nat} (h : 0 ≤ at0 d k) : reachN d (k + 1) = reachN d k ++ [(k : Int)] := by rw [reachN, decide_eq_true h]; rfl
theorem reachN_no {d : List Int} {k : Nat} (h : ¬ 0 ≤ at0 d k) : reachN d (k + 1) = reachN d k := by rw [reachN, decide_eq_false h]; exact List.append_nil _
def Ms.reach (m : Ms) (f : Int) : List Int := reachN (m.dist f) (m.dist f).length
theorem dist_len (m : Ms) (f : Int) : (m.dist f).length = m.ns.length := by
  unfold Ms.dist; rw [passes_len]; unfold start; rw [List.length_set, List.length_replicate]
theorem reach_len (m : Ms) (f : Int) : (m.reach f).length ≤ m.ns.length := by
  have := reachN_len (m.dist f) (m.dist f).length
  rw [dist_len] at this
  unfold Ms.reach; rw [dist_len]; exact this
theorem at0_get {d : List Int} {k : Nat} {x : Int} (h : d[k]? = some x) : at0 d k = x := by unfold at0; rw [h]; rfl
theorem ints_app1 (l : List Int) (x : Int) : ints (l ++ [x]) = ints l ++ [.int .i64 x] := by unfold ints; rw [List.map_append]; rfl
theorem c111 (m : Ms) (f : Int) (hf : m.fine) (h0 : 0 ≤ f) (h1 : f < (m.ns.length : Int)) : CallDet Tryz.prog 111 [.d m.d, .d (.int .i64 f)] [.slice 1 (ints (m.reach f))] := by
  have hdl := ints_len (m.dist f)
  have hdn := dist_len m f
  have h32 := hf.n32
  refine call_of_vc (x := ir111) (by kernel_rfl) rfl ?_
  refine Exists.intro _ (And.intro (c92 m f hf h0 h1) ?_)
  rotate_left
  refine loop_u (fun a : Nat => [(5, .sl 2 (ints (reachN (m.dist f) a)).length), (12, .d (.int .i64 a))]) (fun a => [(2, .row 3 1 (ints (reachN (m.dist f) a)) false)]) (fun a => a ≤ (m.dist f).length) (fun a => (m.dist f).length - a) 0 rfl (Nat.zero_le _) ?_
  intro k hk
  have hk : k ≤ (m.dist f).length := hk
  have hrl := reachN_len (m.dist f) k
  have hil := ints_len (reachN (m.dist f) k)
  by_cases hkk : k < (m.dist f).length
  · refine Exists.elim (get_lt (m.dist f) hkk) fun x hx => ?_
    have hxd := ints_get hx
    have hxa := at0_get hx
    refine And.intro rfl ?_
    refine brk_lt (fun t1 => ?_) (fun t1 => ?_)
    refine ix_at hxd ?_ ?_
    (show (0 : Int) ≤ (↑k : Int); omega)
    refine And.intro rfl ?_
    refine brk_le (fun t2 => ?_) (fun t2 => ?_)
    refine And.intro rfl ?_
    refine And.intro rfl ?_
    refine And.intro rfl ?_
    refine And.intro ?_ ?_
    refine And.intro ?_ ?_
    exact rfl
    refine And.intro ?_ ?_
    exact rfl
    refine And.intro ?_ ?_
    exact rfl
    refine And.intro ?_ ?_
    (show (List.length (ints (reachN (Ms.dist m f) k)) + (1 : Nat)) * (8 : Nat) ≤ (2 : Nat) ^ (47 : Nat); omega)
    (show List.length (ints (reachN (Ms.dist m f) k)) + (1 : Nat) ≤ (2 : Nat) ^ (47 : Nat); omega)
    refine ar_add ?_ ?_
    refine And.intro ?_ ?_
    (show (-9223372036854775808 : Int) ≤ (↑k : Int) + (1 : Int); omega)
    (show (↑k : Int) + (1 : Int) ≤ (9223372036854775807 : Int); omega)
    rotate_left
    refine ar_add ?_ ?_
    refine And.intro ?_ ?_
    (show (-9223372036854775808 : Int) ≤ (↑k : Int) + (1 : Int); omega)
    (show (↑k : Int) + (1 : Int) ≤ (9223372036854775807 : Int); omega)
    rotate_left
    (exfalso; omega)
    · refine ⟨k + 1, ⟨hkk, by show (m.dist f).length - (k + 1) < (m.dist f).length - k; omega⟩, ?_⟩
      rw [reachN_yes (by rw [hxa]; exact t2), ints_app1]; rfl
    · refine ⟨k + 1, ⟨hkk, by show (m.dist f).length - (k + 1) < (m.dist f).length - k; omega⟩, ?_⟩
      rw [reachN_no (by rw [hxa]; exact t2)]; rfl
  · have ek : k = (m.dist f).length := by omega
    subst ek
    refine And.intro rfl ?_
    refine brk_lt (fun t1 => ?_) (fun t1 => ?_)
    (exfalso; omega)
    refine And.intro rfl ?_
    exact rfl
theorem c48 (m : Ms) (f : Int) (hf : m.fine) (h0 : 0 ≤ f) (h1 : f < (m.ns.length : Int)) : CallDet Tryz.prog 48 [.d m.d, .d (.int .i64 f)] [.slice 1 (ints (m.reach f))] := by
  have hdl := ints_len (m.dist f)
  have hdn := dist_len m f
  have h32 := hf.n32
  refine call_of_vc (x := ir48) (by kernel_rfl) rfl ?_
  refine Exists.intro _ (And.intro (c26 m f hf h0 h1) ?_)
  rotate_left
  refine loop_u (fun a : Nat => [(6, .sl 2 (ints (reachN (m.dist f) a)).length), (7, .d (.int .i64 a))]) (fun a => [(2, .row 3 1 (ints (reachN (m.dist f) a)) false)]) (fun a => a ≤ (m.dist f).length) (fun a => (m.dist f).length - a) 0 rfl (Nat.zero_le _) ?_
  intro k hk
  have hk : k ≤ (m.dist f).length := hk
  have hrl := reachN_len (m.dist f) k
  have hil := ints_len (reachN (m.dist f) k)
  by_cases hkk : k < (m.dist f).length
  · refine Exists.elim (get_lt (m.dist f) hkk) fun x hx => ?_
    have hxd := ints_get hx
    have hxa := at0_get hx
    refine And.intro rfl ?_
    refine brk_lt (fun t1 => ?_) (fun t1 => ?_)
    refine ix_at hxd ?_ ?_
    (show (0 : Int) ≤ (↑k : Int); omega)
    refine And.intro rfl ?_
    refine brk_le (fun t2 => ?_) (fun t2 => ?_)
    refine And.intro rfl ?_
    refine And.intro rfl ?_
    refine And.intro rfl ?_
    refine And.intro ?_ ?_
    refine And.intro ?_ ?_
    exact rfl
    refine And.intro ?_ ?_
    exact rfl
    refine And.intro ?_ ?_
    exact rfl
    refine And.intro ?_ ?_
    (show (List.length (ints (reachN (Ms.dist m f) k)) + (1 : Nat)) * (8 : Nat) ≤ (2 : Nat) ^ (47 : Nat); omega)
    (show List.length (ints (reachN (Ms.dist m f) k)) + (1 : Nat) ≤ (2 : Nat) ^ (47 : Nat); omega)
    refine ar_add ?_ ?_
    refine And.intro ?_ ?_
    (show (-9223372036854775808 : Int) ≤ (↑k : Int) + (1 : Int); omega)
    (show (↑k : Int) + (1 : Int) ≤ (9223372036854775807 : Int); omega)
    rotate_left
    refine ar_add ?_ ?_
    refine And.intro ?_ ?_
    (show (-9223372036854775808 : Int) ≤ (↑k : Int) + (1 : Int); omega)
    (show (↑k : Int) + (1 : Int) ≤ (9223372036854775807 : Int); omega)
    rotate_left
    (exfalso; omega)
    · refine ⟨k + 1, ⟨hkk, by show (m.dist f).length - (k + 1) < (m.dist f).length - k; omega⟩, ?_⟩
      rw [reachN_yes (by rw [hxa]; exact t2), ints_app1]; rfl
    · refine ⟨k + 1, ⟨hkk, by show (m.dist f).length - (k + 1) < (m.dist f).length - k; omega⟩, ?_⟩
      rw [reachN_no (by rw [hxa]; exact t2)]; rfl
  · have ek : k = (m.dist f).length := by omega
    subst ek
    refine And.intro rfl ?_
    refine brk_lt (fun t1 => ?_) (fun t1 => ?_)
    (exfalso; omega)
    refine And.intro rfl ?_
    exact rfl
def Ms.reachP (m : Ms) (i : Int) : List Int := bif nodeD m i != 0 then [] else m.reach i
theorem c45 (m : Ms) (i : Int) (hn : m.ns.length ≤ 1048576) (hl : m.ls.length ≤ 1048576) : CallDet Tryz.prog 45 [.d m.d, .d (.int .i64 i)] [.slice 1 (ints (m.reachP i)), .int .i64 (nodeD m i)] := by
  have bad : ¬ nodeD m i = 0 → resV [.slice 1 [], .int .i64 (nodeD m i)] = resV [.slice 1 (ints (m.reachP i)), .int .i64 (nodeD m i)] := fun h => by
    unfold Ms.reachP; rw [show (nodeD m i != 0) = true by rw [bne_iff_ne]; exact h]; rfl
  have fin : nodeD m i = 0 → resV [.slice 1 (ints (m.reach i)), .int .i64 0] = resV [.slice 1 (ints (m.reachP i)), .int .i64 (nodeD m i)] := fun h => by
    unfold Ms.reachP; rw [h]; rfl
  refine call_of_vc (x := ir45) (by kernel_rfl) rfl ?_
  refine Exists.intro _ (And.intro (c27 m (by omega) (by omega)) ?_)
  refine Exists.intro _ (And.intro (c87 m _) ?_)
  refine And.intro rfl ?_
  refine And.intro rfl ?_
  refine Exists.intro _ (And.intro (c86 [Ms.chk m, Ms.nodeE m i] (by simp)) ?_)
  refine And.intro rfl ?_
  refine brk_ne (fun t1 => ?_) (fun t1 => ?_)
  rotate_left
  refine Exists.intro _ (And.intro (c111 m i (nodeD_ok ‹_›).1 (nodeD_ok ‹_›).2.1 (nodeD_ok ‹_›).2.2) ?_)
  rotate_left
  · exact bad t1
  · exact fin t1
def twoE (m : Ms) (f t : Int) : Int := firstOf [m.chk, m.nodeE f, m.nodeE t]
theorem twoE_ok {m : Ms} {f t : Int} (h : twoE m f t = 0) : nodeD m f = 0 ∧ nodeD m t = 0 := by
  have h1 := firstOf_zero h
  constructor
  · unfold nodeD; rw [h1 m.chk (by simp), h1 (m.nodeE f) (by simp)]; rfl
  · unfold nodeD; rw [h1 m.chk (by simp), h1 (m.nodeE t) (by simp)]; rfl
theorem c112 (m : Ms) (f t : Int) (hn : m.ns.length ≤ 1048576) (hl : m.ls.length ≤ 1048576) : CallDet Tryz.prog 112 [.d m.d, .d (.int .i64 f), .d (.int .i64 t)] [.int .i64 (twoE m f t)] := by
  refine call_of_vc (x := ir112) (by kernel_rfl) rfl ?_
  refine Exists.intro _ (And.intro (c27 m (by omega) (by omega)) ?_)
  refine Exists.intro _ (And.intro (c87 m _) ?_)
  refine Exists.intro _ (And.intro (c87 m _) ?_)
  refine And.intro rfl ?_
  refine And.intro rfl ?_
  refine Exists.intro _ (And.intro (c86 [Ms.chk m, Ms.nodeE m f, Ms.nodeE m t] (by simp)) ?_)
  exact rfl
def barrE (m : Ms) (f t : Int) : Int := bif twoE m f t != 0 then twoE m f t else bif (m.reach f).contains t then 21 else 0
theorem c46 (m : Ms) (f t : Int) (hn : m.ns.length ≤ 1048576) (hl : m.ls.length ≤ 1048576) : CallDet Tryz.prog 46 [.d m.d, .d (.int .i64 f), .d (.int .i64 t)] [.slice 1 (ints (bif barrE m f t != 0 then [] else m.reach f)), .int .i64 (barrE m f t)] := by
  have bad : ∀ v, barrE m f t = v → ¬ v = 0 → resV [.slice 1 [], .int .i64 v] = resV [.slice 1 (ints (bif barrE m f t != 0 then [] else m.reach f)), .int .i64 (barrE m f t)] := fun v e h => by
    rw [e, show (v != 0) = true by rw [bne_iff_ne]; exact h]; rfl
  have hrl := reach_len m f
  refine call_of_vc (x := ir46) (by kernel_rfl) rfl ?_
  refine Exists.intro _ (And.intro (c112 m f t (by omega) (by omega)) ?_)
  refine And.intro rfl ?_
  refine brk_ne (fun t1 => ?_) (fun t1 => ?_)
  rotate_left
  refine Exists.intro _ (And.intro (c111 m f (nodeD_ok (twoE_ok ‹_›).1).1 (nodeD_ok (twoE_ok ‹_›).1).2.1 (nodeD_ok (twoE_ok ‹_›).1).2.2) ?_)
  refine Exists.intro _ (And.intro (c113 (m.reach f) t (by omega)) ?_)
  refine brk_intro (fun t2 => ?_) (fun t2 => ?_)
  rotate_left
  rotate_left
  · refine bad _ ?_ t1
    unfold barrE; rw [show (twoE m f t != 0) = true by rw [bne_iff_ne]; exact t1]; rfl
  · refine bad _ ?_ (by decide)
    unfold barrE; rw [t1, t2]; rfl
  · have e : barrE m f t = 0 := by unfold barrE; rw [t1, t2]; rfl
    rw [e]; rfl
theorem c114 (l : List Int) (x : Int) (hl : l.length ≤ 1048576) : CallDet Tryz.prog 114 [.d (.int .i64 x), .cp [.slice 1 (ints l)] 0] [.bool (l.contains x)] := by
  refine call_of_vc (x := ir114) (by kernel_rfl) rfl ?_
  refine Exists.intro _ (And.intro (c113 l x hl) ?_)
  exact rfl
def crossB (set : List Int) (l : Lk) : Bool := set.contains l.a != set.contains l.b
theorem c116 (s : List Int) (l : Lk) (hl : s.length ≤ 1048576) : CallDet Tryz.prog 116 [.d l.d, .cp [.fn (.func 114) [.agg [.slice 1 (ints s)]]] 0] [.bool (crossB s l)] := by
  refine call_of_vc (x := ir116) (by kernel_rfl) rfl ?_
  refine Exists.intro _ (And.intro (c114 s _ hl) ?_)
  refine Exists.intro _ (And.intro (c114 s _ hl) ?_)
  exact rfl
def setE (m : Ms) (pre : List Int) (n : Int) : Int := firstOf [m.nodeE n, bif (match pre.getLast? with | some y => decide (n ≤ y) | none => false) then 11 else 0]
def barE (m : Ms) (f t : Int) (set : List Int) : Int := bif decide ((32 : Int) < (set.length : Int)) then 5 else bif scanE (setE m) [] set != 0 then scanE (setE m) [] set else
  bif !(set.contains f) || (set.contains t || m.ls.any (crossB set)) then 19 else 0
theorem barE_1 {m : Ms} {f t : Int} {set : List Int} (h : (32 : Int) < (set.length : Int)) : barE m f t set = 5 := by unfold barE; rw [decide_eq_true h]; rfl
theorem barE_2 {m : Ms} {f t v : Int} {set : List Int} (h : ¬ (32 : Int) < (set.length : Int)) (e : scanE (setE m) [] set = v) (hv : (v != 0) = true) : barE m f t set = v := by unfold barE; rw [decide_eq_false h, e, hv]; rfl
theorem barE_3 {m : Ms} {f t : Int} {set : List Int} (h : ¬ (32 : Int) < (set.length : Int)) (e : scanE (setE m) [] set = 0) : barE m f t set = bif !(set.contains f) || (set.contains t || m.ls.any (crossB set)) then 19 else 0 := by unfold barE; rw [decide_eq_false h, e]; rfl
theorem last_take {l : List Int} {k : Nat} (h : k < l.length) {y : Int} (hy : l[k]? = some y) : (l.take (k + 1)).getLast? = some y := by
  rw [take_one hy]; simp
theorem setE_0 {m : Ms} {n : Int} {l : List Int} : setE m (l.take 0) n = firstOf [m.nodeE n, 0] := rfl
theorem setE_s {m : Ms} {n y : Int} {l : List Int} {k : Nat} (hk : 0 < k) (hy : l[k - 1]? = some y) : setE m (l.take k) n = firstOf [m.nodeE n, bif decide (n ≤ y) then 11 else 0] := by
  unfold setE
  obtain ⟨j, rfl⟩ : ∃ j, k = j + 1 := ⟨k - 1, by omega⟩
  have hy : l[j]? = some y := hy
  rw [last_take (List.getElem?_eq_some_iff.1 hy).1 hy]
theorem setE_n {m : Ms} {n : Int} {pre : List Int} (h : m.nodeE n = 10) : setE m pre n = 10 := by unfold setE; rw [h]; rfl
theorem c47 (m : Ms) (f t : Int) (s : List Int) (hn : m.ns.length ≤ 1048576) (hl : m.ls.length ≤ 1048576) (hs : s.length ≤ 1048576) : CallDet Tryz.prog 47 [.d m.d, .d (.int .i64 f), .d (.int .i64 t), .d (.slice 1 (ints s))] [.int .i64 (bif twoE m f t != 0 then twoE m f t else barE m f t s)] := by
  have hsl := ints_len s
  have fin : ∀ v, (bif twoE m f t != 0 then twoE m f t else barE m f t s) = v → resV [.int .i64 v] = resV [.int .i64 (bif twoE m f t != 0 then twoE m f t else barE m f t s)] := fun v h => by rw [h]
  refine call_of_vc (x := ir47) (by kernel_rfl) rfl ?_
  refine Exists.intro _ (And.intro (c112 m f t (by omega) (by omega)) ?_)
  refine And.intro rfl ?_
  refine Exists.intro _ (And.intro (c89 _ _) ?_)
  refine And.intro rfl ?_
  refine And.intro rfl ?_
  refine Exists.intro _ (And.intro (c86 [twoE m f t, bif decide ((32 : Int) < (↑(List.length (ints s)) : Int)) then (5 : Int) else (0 : Int)] (by simp)) ?_)
  refine And.intro rfl ?_
  refine brk_ne (fun t1 => ?_) (fun t1 => ?_)
  rotate_left
  rotate_left
  · rw [hsl] at t1 ⊢
    refine fin _ ?_
    by_cases h2 : twoE m f t = 0
    · rw [h2] at t1 ⊢
      cases hd : decide ((32 : Int) < (s.length : Int))
      · rw [hd] at t1; exact absurd rfl t1
      · show barE m f t s = 5
        exact barE_1 (of_decide_eq_true hd)
    · have e : (twoE m f t != 0) = true := by rw [bne_iff_ne]; exact h2
      rw [firstOf_cons, e]; rfl
  have h2 : twoE m f t = 0 := firstOf_zero t1 (twoE m f t) (by simp)
  have h3 : ¬ (32 : Int) < (s.length : Int) := fun h => by
    have := firstOf_zero t1 (bif decide ((32 : Int) < ((ints s).length : Int)) then 5 else 0) (by simp)
    rw [hsl, decide_eq_true h] at this; cases this
  have fin2 : ∀ v, barE m f t s = v → resV [.int .i64 v] = resV [.int .i64 (bif twoE m f t != 0 then twoE m f t else barE m f t s)] := fun v h => fin v (by rw [h2, h]; rfl)
  refine loop_u (fun k : Nat => [(30, .d (.int .i64 k))]) (fun k => []) (fun k => k ≤ s.length ∧ scanE (setE m) [] s = scanE (setE m) (s.take k) (s.drop k)) (fun k => s.length - k) 0 rfl ⟨Nat.zero_le _, rfl⟩ ?_
  rintro k ⟨hk, hi⟩
  have hk : k ≤ s.length := hk
  by_cases hkk : k < s.length
  · refine Exists.elim (get_lt s hkk) fun x hx => ?_
    have hxd := ints_get hx
    have bad : ∀ v, setE m (s.take k) x = v → ¬ v = 0 → barE m f t s = v := fun v e h => barE_2 h3 ((scan_bad hi hx (by rw [e, bne_iff_ne]; exact h)).trans e) (by rw [bne_iff_ne]; exact h)
    have okk : setE m (s.take k) x = 0 → scanE (setE m) [] s = scanE (setE m) (s.take (k + 1)) (s.drop (k + 1)) := fun e => scan_ok hi hx (by rw [e]; rfl)
    by_cases hk0 : k = 0
    · subst hk0
      refine And.intro rfl ?_
      refine brk_lt (fun t2 => ?_) (fun t2 => ?_)
      refine ix_at hxd ?_ ?_
      (show (0 : Int) ≤ (↑(0 : Nat) : Int); omega)
      refine Exists.intro _ (And.intro (c87 m _) ?_)
      refine And.intro rfl ?_
      refine And.intro rfl ?_
      refine Exists.intro _ (And.intro (c89 _ _) ?_)
      refine And.intro rfl ?_
      refine And.intro rfl ?_
      refine Exists.intro _ (And.intro (c86 [Ms.nodeE m x, (0 : Int)] (by simp)) ?_)
      refine And.intro rfl ?_
      refine brk_ne (fun t3 => ?_) (fun t3 => ?_)
      rotate_left
      refine ar_add ?_ ?_
      refine And.intro ?_ ?_
      (show (-9223372036854775808 : Int) ≤ (↑(0 : Nat) : Int) + (1 : Int); omega)
      (show (↑(0 : Nat) : Int) + (1 : Int) ≤ (9223372036854775807 : Int); omega)
      rotate_left
      (exfalso; omega)
      · exact fin2 _ (bad _ setE_0 t3)
      · exact ⟨1, ⟨⟨hkk, okk (setE_0.trans t3)⟩, by show s.length - 1 < s.length - 0; omega⟩, rfl⟩
    · refine Exists.elim (get_lt s (k := k - 1) (by omega)) fun y hy => ?_
      have hyd : (ints s)[(max (0 : Int) ((k : Int) - 1)).toNat]? = some (.int .i64 y) := by
        rw [show (max (0 : Int) ((k : Int) - 1)).toNat = k - 1 by omega]
        have h := ints_get hy
        rwa [show (((k - 1 : Nat) : Int)).toNat = k - 1 from rfl] at h
      refine And.intro rfl ?_
      refine brk_lt (fun t2 => ?_) (fun t2 => ?_)
      refine ix_at hxd ?_ ?_
      (show (0 : Int) ≤ (↑k : Int); omega)
      refine Exists.intro _ (And.intro (c87 m _) ?_)
      refine And.intro rfl ?_
      refine brk_lt (fun t3 => ?_) (fun t3 => ?_)
      refine ar_sub ?_ ?_
      refine And.intro ?_ ?_
      (show (-9223372036854775808 : Int) ≤ (↑k : Int) - (1 : Int); omega)
      (show (↑k : Int) - (1 : Int) ≤ (9223372036854775807 : Int); omega)
      refine And.intro rfl ?_
      refine ix_at hyd ?_ ?_
      (show (0 : Int) ≤ max (0 : Int) ((↑k : Int) - (1 : Int)); omega)
      refine And.intro rfl ?_
      refine Exists.intro _ (And.intro (c89 _ _) ?_)
      refine And.intro rfl ?_
      refine And.intro rfl ?_
      refine Exists.intro _ (And.intro (c86 [Ms.nodeE m x, bif decide (x ≤ y) then (11 : Int) else (0 : Int)] (by simp)) ?_)
      refine And.intro rfl ?_
      refine brk_ne (fun t4 => ?_) (fun t4 => ?_)
      rotate_left
      refine ar_add ?_ ?_
      refine And.intro ?_ ?_
      (show (-9223372036854775808 : Int) ≤ (↑k : Int) + (1 : Int); omega)
      (show (↑k : Int) + (1 : Int) ≤ (9223372036854775807 : Int); omega)
      rotate_left
      (exfalso; omega)
      (exfalso; omega)
      · exact fin2 _ (bad _ (setE_s (by omega) hy) t4)
      · exact ⟨k + 1, ⟨⟨hkk, okk ((setE_s (by omega) hy).trans t4)⟩, by show s.length - (k + 1) < s.length - k; omega⟩, rfl⟩
  · have h4 : scanE (setE m) [] s = 0 := scan_end hi (by omega)
    have e3 := barE_3 (f := f) (t := t) h3 h4
    have c115_g := c115g m.ls hl 116 [.fn (.func 114) [.agg [.slice 1 (ints s)]]] (crossB s) (fun o _ => c116 s o hs)
    refine And.intro rfl ?_
    refine brk_lt (fun t2 => ?_) (fun t2 => ?_)
    (exfalso; omega)
    refine Exists.intro _ (And.intro c115_g ?_)
    refine Exists.intro _ (And.intro (c114 s _ hs) ?_)
    refine brk_intro (fun t3 => ?_) (fun t3 => ?_)
    refine And.intro rfl ?_
    refine And.intro rfl ?_
    refine Exists.intro _ (And.intro (c89 _ _) ?_)
    rotate_left
    refine Exists.intro _ (And.intro (c114 s _ hs) ?_)
    refine brk_intro (fun t4 => ?_) (fun t4 => ?_)
    replace t4 : List.contains s t = true := t4
    refine And.intro rfl ?_
    refine Exists.intro _ (And.intro (c89 _ _) ?_)
    rotate_left
    replace t4 : List.contains s t = false := t4
    refine Exists.intro _ (And.intro (c89 _ _) ?_)
    rotate_left
    · exact fin2 _ (by rw [e3, t3]; rfl)
    · exact fin2 _ (by rw [e3, t3, t4]; rfl)
    · exact fin2 _ (by rw [e3, t3, t4]; rfl)
theorem c51 (m : Ms) (f t : Int) (s : List Int) (hf : m.fine) (hs : s.length ≤ 1048576) : CallDet Tryz.prog 51 [.d m.d, .d (.int .i64 f), .d (.int .i64 t), .d (.slice 1 (ints s))] [.int .i64 (barE m f t s)] := by
  have hsl := ints_len s
  have h128 := hf.l128
  have hll := lks_len m.ls
  have fin : ∀ v, barE m f t s = v → resV [.int .i64 v] = resV [.int .i64 (barE m f t s)] := fun v h => by rw [h]
  refine call_of_vc (x := ir51) (by kernel_rfl) rfl ?_
  refine And.intro rfl ?_
  refine brk_lt (fun t1 => ?_) (fun t1 => ?_)
  rotate_left
  rotate_left
  · exact fin _ (barE_1 (by omega))
  have h3 : ¬ (32 : Int) < (s.length : Int) := by omega
  refine loop_u (fun k : Nat => [(9, .d (.int .i64 k))]) (fun k => []) (fun k => k ≤ s.length ∧ scanE (setE m) [] s = scanE (setE m) (s.take k) (s.drop k)) (fun k => s.length - k) 0 rfl ⟨Nat.zero_le _, rfl⟩ ?_
  rintro k ⟨hk, hi⟩
  have hk : k ≤ s.length := hk
  by_cases hkk : k < s.length
  · refine Exists.elim (get_lt s hkk) fun x hx => ?_
    have hxd := ints_get hx
    have bad : ∀ v, setE m (s.take k) x = v → ¬ v = 0 → barE m f t s = v := fun v e h => barE_2 h3 ((scan_bad hi hx (by rw [e, bne_iff_ne]; exact h)).trans e) (by rw [bne_iff_ne]; exact h)
    have okk : setE m (s.take k) x = 0 → scanE (setE m) [] s = scanE (setE m) (s.take (k + 1)) (s.drop (k + 1)) := fun e => scan_ok hi hx (by rw [e]; rfl)
    have n10 : (!(m.has x)) = true → m.nodeE x = 10 := fun h => by unfold Ms.nodeE; rw [← has_out, h]; rfl
    have n0 : (!(m.has x)) = false → m.nodeE x = 0 := fun h => by unfold Ms.nodeE; rw [← has_out, h]; rfl
    by_cases hk0 : k = 0
    · subst hk0
      refine And.intro rfl ?_
      refine brk_lt (fun t2 => ?_) (fun t2 => ?_)
      refine ix_at hxd ?_ ?_
      (show (0 : Int) ≤ (↑(0 : Nat) : Int); omega)
      refine Exists.intro _ (And.intro (c95 m _) ?_)
      refine brk_intro (fun t3 => ?_) (fun t3 => ?_)
      rotate_left
      refine And.intro rfl ?_
      refine And.intro rfl ?_
      refine ar_add ?_ ?_
      refine And.intro ?_ ?_
      (show (-9223372036854775808 : Int) ≤ (↑(0 : Nat) : Int) + (1 : Int); omega)
      (show (↑(0 : Nat) : Int) + (1 : Int) ≤ (9223372036854775807 : Int); omega)
      rotate_left
      (exfalso; omega)
      · exact fin _ (bad _ (setE_n (n10 t3)) (by decide))
      · exact ⟨1, ⟨⟨hkk, okk ((setE_0 (l := s)).trans (by rw [n0 t3]; rfl))⟩, by show s.length - 1 < s.length - 0; omega⟩, rfl⟩
    · refine Exists.elim (get_lt s (k := k - 1) (by omega)) fun y hy => ?_
      have hyd : (ints s)[((k : Int) - 1).toNat]? = some (.int .i64 y) := by
        rw [show ((k : Int) - 1).toNat = k - 1 by omega]
        have h := ints_get hy
        rwa [show (((k - 1 : Nat) : Int)).toNat = k - 1 from rfl] at h
      refine And.intro rfl ?_
      refine brk_lt (fun t2 => ?_) (fun t2 => ?_)
      refine ix_at hxd ?_ ?_
      (show (0 : Int) ≤ (↑k : Int); omega)
      refine Exists.intro _ (And.intro (c95 m _) ?_)
      refine brk_intro (fun t3 => ?_) (fun t3 => ?_)
      rotate_left
      refine And.intro rfl ?_
      refine brk_lt (fun t4 => ?_) (fun t4 => ?_)
      refine ix_at hxd ?_ ?_
      (show (0 : Int) ≤ (↑k : Int); omega)
      refine ar_sub ?_ ?_
      refine And.intro ?_ ?_
      (show (-9223372036854775808 : Int) ≤ (↑k : Int) - (1 : Int); omega)
      (show (↑k : Int) - (1 : Int) ≤ (9223372036854775807 : Int); omega)
      refine ix_at hyd ?_ ?_
      (show (0 : Int) ≤ (↑k : Int) - (1 : Int); omega)
      refine And.intro rfl ?_
      refine brk_le (fun t5 => ?_) (fun t5 => ?_)
      rotate_left
      refine ar_add ?_ ?_
      refine And.intro ?_ ?_
      (show (-9223372036854775808 : Int) ≤ (↑k : Int) + (1 : Int); omega)
      (show (↑k : Int) + (1 : Int) ≤ (9223372036854775807 : Int); omega)
      rotate_left
      (exfalso; omega)
      (exfalso; omega)
      · exact fin _ (bad _ (setE_n (n10 t3)) (by decide))
      · exact fin _ (bad _ ((setE_s (by omega) hy).trans (by rw [n0 t3, decide_eq_true t5]; rfl)) (by decide))
      · exact ⟨k + 1, ⟨⟨hkk, okk ((setE_s (by omega) hy).trans (by rw [n0 t3, decide_eq_false t5]; rfl))⟩, by show s.length - (k + 1) < s.length - k; omega⟩, rfl⟩
  · have h4 : scanE (setE m) [] s = 0 := scan_end hi (by omega)
    have e3 := barE_3 (f := f) (t := t) h3 h4
    refine And.intro rfl ?_
    refine brk_lt (fun t2 => ?_) (fun t2 => ?_)
    (exfalso; omega)
    refine Exists.intro _ (And.intro (c50 s _ hs) ?_)
    refine brk_intro (fun t3 => ?_) (fun t3 => ?_)
    refine And.intro rfl ?_
    rotate_left
    refine Exists.intro _ (And.intro (c50 s _ hs) ?_)
    refine brk_intro (fun t4 => ?_) (fun t4 => ?_)
    replace t4 : List.contains s t = true := t4
    rotate_left
    replace t4 : List.contains s t = false := t4
    rotate_left
    · exact fin _ (by rw [e3, t3]; rfl)
    · exact fin _ (by rw [e3, t3, t4]; rfl)
    have e5 : ∀ b, m.ls.any (crossB s) = b → barE m f t s = bif b then 19 else 0 := fun b h => by rw [e3, t3, t4, h]; rfl
    refine loop_u (fun q : Nat => [(10, .d (.int .i64 q))]) (fun q => []) (fun q => q ≤ m.ls.length ∧ m.ls.any (crossB s) = (m.ls.drop q).any (crossB s)) (fun q => m.ls.length - q) 0 rfl ⟨Nat.zero_le _, rfl⟩ ?_
    rintro q ⟨hq, hqa⟩
    have hq : q ≤ m.ls.length := hq
    by_cases hqq : q < m.ls.length
    · refine Exists.elim (get_lt m.ls hqq) fun l hlk => ?_
      have hlI : (lks m.ls)[((q : Nat) : Int).toNat]? = some (.agg [.int .i64 l.a, .int .i64 l.b, .int .i64 l.c]) := lks_at hlk
      rw [drop_at hlk, List.any_cons] at hqa
      refine And.intro rfl ?_
      refine brk_lt (fun t5 => ?_) (fun t5 => ?_)
      refine ix_at hlI ?_ ?_
      (show (0 : Int) ≤ (↑q : Int); omega)
      refine Exists.intro _ (And.intro (c50 s _ hs) ?_)
      refine ix_at hlI ?_ ?_
      (show (0 : Int) ≤ (↑q : Int); omega)
      refine Exists.intro _ (And.intro (c50 s _ hs) ?_)
      refine brk_intro (fun t6 => ?_) (fun t6 => ?_)
      replace t6 : (List.contains s (Lk.a l) != List.contains s (Lk.b l)) = true := t6
      rotate_left
      replace t6 : (List.contains s (Lk.a l) != List.contains s (Lk.b l)) = false := t6
      refine ar_add ?_ ?_
      refine And.intro ?_ ?_
      (show (-9223372036854775808 : Int) ≤ (↑q : Int) + (1 : Int); omega)
      (show (↑q : Int) + (1 : Int) ≤ (9223372036854775807 : Int); omega)
      rotate_left
      (exfalso; omega)
      · exact fin _ ((e5 true (by rw [hqa]; show ((s.contains l.a != s.contains l.b) || _) = true; rw [t6]; rfl)).trans rfl)
      · exact ⟨q + 1, ⟨⟨hqq, by rw [hqa]; show ((s.contains l.a != s.contains l.b) || _) = _; rw [t6]; rfl⟩, by show m.ls.length - (q + 1) < m.ls.length - q; omega⟩, rfl⟩
    · rw [List.drop_eq_nil_of_le (by omega)] at hqa
      refine And.intro rfl ?_
      refine brk_lt (fun t5 => ?_) (fun t5 => ?_)
      (exfalso; omega)
      rotate_left
      exact fin _ ((e5 false hqa).trans rfl)
theorem nodeD_good2 {m : Ms} {i : Int} (h : m.chk = 0) (h2 : m.nodeE i = 0) : nodeD m i = 0 := by rw [nodeD_good h]; exact h2
theorem nil_if {α : Type} {v : Int} {l : List α} (h : ¬ v = 0) : (bif v != 0 then [] else l) = [] := by rw [show (v != 0) = true by rw [bne_iff_ne]; exact h]; rfl
theorem if_le {α : Type} {v : Int} {l : List α} {n : Nat} (h : l.length ≤ n) : (bif v != 0 then [] else l).length ≤ n := by
  cases (v != 0)
  · exact h
  · exact Nat.zero_le _
theorem first_1 {a : Int} {l : List Int} (h : ¬ a = 0) : firstOf (a :: l) = a := by rw [firstOf_cons, show (a != 0) = true by rw [bne_iff_ne]; exact h]; rfl
theorem first_0 {a : Int} {l : List Int} (h : a = 0) : firstOf (a :: l) = firstOf l := by rw [firstOf_cons, h]; rfl
def cbE (m : Ms) (f t : Int) (s : List Int) : Int := bif twoE m f t != 0 then twoE m f t else barE m f t s
theorem if_0 {v w : Int} (h : v = 0) : (bif v != 0 then v else w) = w := by rw [h]; rfl
theorem if_1 {v w : Int} (h : ¬ v = 0) : (bif v != 0 then v else w) = v := by rw [show (v != 0) = true by rw [bne_iff_ne]; exact h]; rfl
theorem c6 (hw : CallDet Tryz.prog 16 [] [.bool true]) (m : Ms) (f t : Int) (s : List Int) (hn : m.ns.length ≤ 1048576) (hl : m.ls.length ≤ 1048576) (hs : s.length ≤ 1048576) :
    CallDet Tryz.prog 6 [.d m.d, .d (.agg [.int .i64 f, .int .i64 t]), .d (.slice 1 (ints s))] [.bool true] := by
  have c16_ := hw
  have hrl := reach_len m f
  have hA : m.chk = 0 → nodeD m f = m.nodeE f := nodeD_good
  have hB : ¬ m.chk = 0 → nodeD m f = m.chk := nodeD_bad
  have hG : firstOf [m.nodeE f, m.nodeE t] = 0 → m.nodeE f = 0 := fun h => firstOf_zero h _ (by simp)
  have hC : m.chk = 0 → firstOf [m.nodeE f, m.nodeE t] = 0 → barrE m f t = bif (m.reach f).contains t then 21 else 0 := fun h h2 => by unfold barrE; exact if_0 (by unfold twoE; rw [first_0 h]; exact h2)
  have hD : m.chk = 0 → ¬ firstOf [m.nodeE f, m.nodeE t] = 0 → barrE m f t = firstOf [m.nodeE f, m.nodeE t] := fun h h2 => by unfold barrE; unfold twoE; rw [first_0 h]; exact if_1 h2
  have hE : ¬ m.chk = 0 → barrE m f t = m.chk := fun h => by unfold barrE twoE; rw [first_1 h]; exact if_1 h
  have hC2 : m.chk = 0 → firstOf [m.nodeE f, m.nodeE t] = 0 → cbE m f t s = barE m f t s := fun h h2 => by unfold cbE; exact if_0 (by unfold twoE; rw [first_0 h]; exact h2)
  have hD2 : m.chk = 0 → ¬ firstOf [m.nodeE f, m.nodeE t] = 0 → cbE m f t s = firstOf [m.nodeE f, m.nodeE t] := fun h h2 => by unfold cbE; unfold twoE; rw [first_0 h]; exact if_1 h2
  have hE2 : ¬ m.chk = 0 → cbE m f t s = m.chk := fun h => by unfold cbE twoE; rw [first_1 h]; exact if_1 h
  have hP : m.reachP f = bif nodeD m f != 0 then [] else m.reach f := rfl
  have c47_ : CallDet Tryz.prog 47 [.d m.d, .d (.int .i64 f), .d (.int .i64 t), .d (.slice 1 (ints s))] [.int .i64 (cbE m f t s)] := c47 m f t s hn hl hs
  refine call_of_vc (x := ir6) (by kernel_rfl) rfl ?_
  refine Exists.intro _ (And.intro (c15 m (by omega)) ?_)
  refine brk_intro (fun t1 => ?_) (fun t1 => ?_)
  refine And.intro rfl ?_
  refine Exists.intro _ (And.intro c16_ ?_)
  exact rfl
  refine And.intro rfl ?_
  refine brk_lt (fun t2 => ?_) (fun t2 => ?_)
  refine And.intro rfl ?_
  refine brk_ne (fun t3 => ?_) (fun t3 => ?_)
  refine Exists.intro _ (And.intro c16_ ?_)
  exact rfl
  refine Exists.intro _ (And.intro (c18 m (by omega) (by omega)) ?_)
  refine And.intro ?_ ?_
  refine And.intro ?_ ?_
  (show (0 : Int) ≤ (0 : Int); omega)
  (show (0 : Int) < (↑(2 : Nat) : Int); omega)
  refine Exists.intro _ (And.intro (c45 m f (by omega) (by omega)) ?_)
  refine Exists.intro _ (And.intro (c18 m (by omega) (by omega)) ?_)
  refine And.intro ?_ ?_
  refine And.intro ?_ ?_
  (show (0 : Int) ≤ (0 : Int); omega)
  (show (0 : Int) < (↑(2 : Nat) : Int); omega)
  refine And.intro ?_ ?_
  refine And.intro ?_ ?_
  (show (0 : Int) ≤ (1 : Int); omega)
  (show (1 : Int) < (↑(2 : Nat) : Int); omega)
  refine Exists.intro _ (And.intro (c46 m f t (by omega) (by omega)) ?_)
  refine Exists.intro _ (And.intro (c18 m (by omega) (by omega)) ?_)
  refine And.intro ?_ ?_
  refine And.intro ?_ ?_
  (show (0 : Int) ≤ (0 : Int); omega)
  (show (0 : Int) < (↑(2 : Nat) : Int); omega)
  refine And.intro ?_ ?_
  refine And.intro ?_ ?_
  (show (0 : Int) ≤ (1 : Int); omega)
  (show (1 : Int) < (↑(2 : Nat) : Int); omega)
  refine Exists.intro _ (And.intro (c20 s (by omega)) ?_)
  refine Exists.intro _ (And.intro c47_ ?_)
  refine Exists.intro _ (And.intro (c22 m (by omega) (by omega)) ?_)
  refine And.intro rfl ?_
  refine brk_eq (fun t4 => ?_) (fun t4 => ?_)
  refine And.intro ?_ ?_
  refine And.intro ?_ ?_
  (show (0 : Int) ≤ (0 : Int); omega)
  (show (0 : Int) < (↑(2 : Nat) : Int); omega)
  refine Exists.intro _ (And.intro (c23 m f) ?_)
  refine And.intro ?_ ?_
  refine And.intro ?_ ?_
  (show (0 : Int) ≤ (1 : Int); omega)
  (show (1 : Int) < (↑(2 : Nat) : Int); omega)
  refine Exists.intro _ (And.intro (c23 m t) ?_)
  refine And.intro rfl ?_
  refine And.intro rfl ?_
  refine Exists.intro _ (And.intro (c42 [Ms.nodeE m f, Ms.nodeE m t] (by simp)) ?_)
  refine And.intro rfl ?_
  refine brk_eq (fun t5 => ?_) (fun t5 => ?_)
  refine And.intro ?_ ?_
  refine And.intro ?_ ?_
  (show (0 : Int) ≤ (0 : Int); omega)
  (show (0 : Int) < (↑(2 : Nat) : Int); omega)
  refine Exists.intro _ (And.intro (c48 m f (nodeD_ok (nodeD_good2 ‹_› ‹_›)).1 (nodeD_ok (nodeD_good2 ‹_› ‹_›)).2.1 (nodeD_ok (nodeD_good2 ‹_› ‹_›)).2.2) ?_)
  refine And.intro rfl ?_
  refine brk_eq (fun t6 => ?_) (fun t6 => ?_)
  refine And.intro ?_ ?_
  refine And.intro ?_ ?_
  (show (0 : Int) ≤ (1 : Int); omega)
  (show (1 : Int) < (↑(2 : Nat) : Int); omega)
  refine Exists.intro _ (And.intro (c50 (m.reach f) t (by omega)) ?_)
  refine Exists.intro _ (And.intro (c49 _ _) ?_)
  refine And.intro ?_ ?_
  refine And.intro ?_ ?_
  (show (0 : Int) ≤ (0 : Int); omega)
  (show (0 : Int) < (↑(2 : Nat) : Int); omega)
  refine And.intro ?_ ?_
  refine And.intro ?_ ?_
  (show (0 : Int) ≤ (1 : Int); omega)
  (show (1 : Int) < (↑(2 : Nat) : Int); omega)
  refine Exists.intro _ (And.intro (c51 m f t s (chk_fine ‹_›) (by omega)) ?_)
  refine Exists.intro _ (And.intro (c28_y _ _ _ _ ?_ ?_ ?_) ?_)
  rotate_left
  rotate_left
  (show nodeD m f = Ms.nodeE m f; omega)
  refine Exists.intro _ (And.intro (c28_y _ _ _ _ ?_ ?_ ?_) ?_)
  rotate_left
  rotate_left
  (show barrE m f t = bif List.contains (Ms.reach m f) t then (21 : Int) else (0 : Int); omega)
  refine And.intro rfl ?_
  refine brk_eq (fun t7 => ?_) (fun t7 => ?_)
  refine Exists.intro _ (And.intro c16_ ?_)
  exact rfl
  (exfalso; omega)
  refine Exists.intro _ (And.intro (c28_y _ _ _ _ ?_ ?_ ?_) ?_)
  rotate_left
  rotate_left
  (show nodeD m f = Ms.nodeE m f; omega)
  refine Exists.intro _ (And.intro (c28_y _ _ _ _ ?_ ?_ ?_) ?_)
  rotate_left
  rotate_left
  (show barrE m f t = firstOf [Ms.nodeE m f, Ms.nodeE m t]; omega)
  refine And.intro rfl ?_
  refine brk_eq (fun t8 => ?_) (fun t8 => ?_)
  refine Exists.intro _ (And.intro c16_ ?_)
  exact rfl
  (exfalso; omega)
  refine And.intro rfl ?_
  refine brk_eq (fun t9 => ?_) (fun t9 => ?_)
  (exfalso; omega)
  refine Exists.intro _ (And.intro (c28_n _ _ _ ?_ ?_ ?_) ?_)
  rotate_left
  rotate_left
  (show nodeD m f = Ms.nodeE m f; omega)
  refine Exists.intro _ (And.intro (c28_n _ _ _ ?_ ?_ ?_) ?_)
  rotate_left
  rotate_left
  (show barrE m f t = firstOf [Ms.nodeE m f, Ms.nodeE m t]; omega)
  refine And.intro rfl ?_
  refine brk_eq (fun t10 => ?_) (fun t10 => ?_)
  refine Exists.intro _ (And.intro c16_ ?_)
  exact rfl
  (exfalso; omega)
  refine And.intro rfl ?_
  refine brk_eq (fun t11 => ?_) (fun t11 => ?_)
  (exfalso; omega)
  refine And.intro rfl ?_
  refine brk_eq (fun t12 => ?_) (fun t12 => ?_)
  (exfalso; omega)
  refine Exists.intro _ (And.intro (c28_n _ _ _ ?_ ?_ ?_) ?_)
  rotate_left
  rotate_left
  (show nodeD m f = Ms.chk m; omega)
  refine Exists.intro _ (And.intro (c28_n _ _ _ ?_ ?_ ?_) ?_)
  rotate_left
  rotate_left
  (show barrE m f t = Ms.chk m; omega)
  refine And.intro rfl ?_
  refine brk_eq (fun t13 => ?_) (fun t13 => ?_)
  refine Exists.intro _ (And.intro c16_ ?_)
  exact rfl
  (exfalso; omega)
  refine And.intro rfl ?_
  refine Exists.intro _ (And.intro (c18 m (by omega) (by omega)) ?_)
  refine And.intro ?_ ?_
  refine And.intro ?_ ?_
  (show (0 : Int) ≤ (0 : Int); omega)
  (show (0 : Int) < (↑(2 : Nat) : Int); omega)
  refine Exists.intro _ (And.intro (c45 m f (by omega) (by omega)) ?_)
  refine Exists.intro _ (And.intro (c18 m (by omega) (by omega)) ?_)
  refine And.intro ?_ ?_
  refine And.intro ?_ ?_
  (show (0 : Int) ≤ (0 : Int); omega)
  (show (0 : Int) < (↑(2 : Nat) : Int); omega)
  refine And.intro ?_ ?_
  refine And.intro ?_ ?_
  (show (0 : Int) ≤ (1 : Int); omega)
  (show (1 : Int) < (↑(2 : Nat) : Int); omega)
  refine Exists.intro _ (And.intro (c46 m f t (by omega) (by omega)) ?_)
  refine Exists.intro _ (And.intro (c18 m (by omega) (by omega)) ?_)
  refine And.intro ?_ ?_
  refine And.intro ?_ ?_
  (show (0 : Int) ≤ (0 : Int); omega)
  (show (0 : Int) < (↑(2 : Nat) : Int); omega)
  refine And.intro ?_ ?_
  refine And.intro ?_ ?_
  (show (0 : Int) ≤ (1 : Int); omega)
  (show (1 : Int) < (↑(2 : Nat) : Int); omega)
  refine Exists.intro _ (And.intro (c20 s (by omega)) ?_)
  refine Exists.intro _ (And.intro c47_ ?_)
  refine Exists.intro _ (And.intro (c22 m (by omega) (by omega)) ?_)
  refine And.intro rfl ?_
  refine brk_eq (fun t14 => ?_) (fun t14 => ?_)
  refine And.intro ?_ ?_
  refine And.intro ?_ ?_
  (show (0 : Int) ≤ (0 : Int); omega)
  (show (0 : Int) < (↑(2 : Nat) : Int); omega)
  refine Exists.intro _ (And.intro (c23 m f) ?_)
  refine And.intro ?_ ?_
  refine And.intro ?_ ?_
  (show (0 : Int) ≤ (1 : Int); omega)
  (show (1 : Int) < (↑(2 : Nat) : Int); omega)
  refine Exists.intro _ (And.intro (c23 m t) ?_)
  refine And.intro rfl ?_
  refine And.intro rfl ?_
  refine Exists.intro _ (And.intro (c42 [Ms.nodeE m f, Ms.nodeE m t] (by simp)) ?_)
  refine And.intro rfl ?_
  refine brk_eq (fun t15 => ?_) (fun t15 => ?_)
  refine And.intro ?_ ?_
  refine And.intro ?_ ?_
  (show (0 : Int) ≤ (0 : Int); omega)
  (show (0 : Int) < (↑(2 : Nat) : Int); omega)
  refine Exists.intro _ (And.intro (c48 m f (nodeD_ok (nodeD_good2 ‹_› ‹_›)).1 (nodeD_ok (nodeD_good2 ‹_› ‹_›)).2.1 (nodeD_ok (nodeD_good2 ‹_› ‹_›)).2.2) ?_)
  refine And.intro rfl ?_
  refine brk_eq (fun t16 => ?_) (fun t16 => ?_)
  refine And.intro ?_ ?_
  refine And.intro ?_ ?_
  (show (0 : Int) ≤ (1 : Int); omega)
  (show (1 : Int) < (↑(2 : Nat) : Int); omega)
  refine Exists.intro _ (And.intro (c50 (m.reach f) t (by omega)) ?_)
  refine Exists.intro _ (And.intro (c49 _ _) ?_)
  refine And.intro ?_ ?_
  refine And.intro ?_ ?_
  (show (0 : Int) ≤ (0 : Int); omega)
  (show (0 : Int) < (↑(2 : Nat) : Int); omega)
  refine And.intro ?_ ?_
  refine And.intro ?_ ?_
  (show (0 : Int) ≤ (1 : Int); omega)
  (show (1 : Int) < (↑(2 : Nat) : Int); omega)
  refine Exists.intro _ (And.intro (c51 m f t s (chk_fine ‹_›) (by omega)) ?_)
  refine Exists.intro _ (And.intro (c28_y _ _ _ _ ?_ ?_ ?_) ?_)
  rotate_left
  rotate_left
  (show nodeD m f = Ms.nodeE m f; omega)
  refine Exists.intro _ (And.intro (c28_y _ _ _ _ ?_ ?_ ?_) ?_)
  rotate_left
  rotate_left
  (show barrE m f t = bif List.contains (Ms.reach m f) t then (21 : Int) else (0 : Int); omega)
  refine And.intro rfl ?_
  refine brk_eq (fun t17 => ?_) (fun t17 => ?_)
  refine Exists.intro _ (And.intro c16_ ?_)
  exact rfl
  (exfalso; omega)
  refine Exists.intro _ (And.intro (c28_y _ _ _ _ ?_ ?_ ?_) ?_)
  rotate_left
  rotate_left
  (show nodeD m f = Ms.nodeE m f; omega)
  refine Exists.intro _ (And.intro (c28_y _ _ _ _ ?_ ?_ ?_) ?_)
  rotate_left
  rotate_left
  (show barrE m f t = firstOf [Ms.nodeE m f, Ms.nodeE m t]; omega)
  refine And.intro rfl ?_
  refine brk_eq (fun t18 => ?_) (fun t18 => ?_)
  refine Exists.intro _ (And.intro c16_ ?_)
  exact rfl
  (exfalso; omega)
  refine And.intro rfl ?_
  refine brk_eq (fun t19 => ?_) (fun t19 => ?_)
  (exfalso; omega)
  refine Exists.intro _ (And.intro (c28_n _ _ _ ?_ ?_ ?_) ?_)
  rotate_left
  rotate_left
  (show nodeD m f = Ms.nodeE m f; omega)
  refine Exists.intro _ (And.intro (c28_n _ _ _ ?_ ?_ ?_) ?_)
  rotate_left
  rotate_left
  (show barrE m f t = firstOf [Ms.nodeE m f, Ms.nodeE m t]; omega)
  refine And.intro rfl ?_
  refine brk_eq (fun t20 => ?_) (fun t20 => ?_)
  refine Exists.intro _ (And.intro c16_ ?_)
  exact rfl
  (exfalso; omega)
  refine And.intro rfl ?_
  refine brk_eq (fun t21 => ?_) (fun t21 => ?_)
  (exfalso; omega)
  refine And.intro rfl ?_
  refine brk_eq (fun t22 => ?_) (fun t22 => ?_)
  (exfalso; omega)
  refine Exists.intro _ (And.intro (c28_n _ _ _ ?_ ?_ ?_) ?_)
  rotate_left
  rotate_left
  (show nodeD m f = Ms.chk m; omega)
  refine Exists.intro _ (And.intro (c28_n _ _ _ ?_ ?_ ?_) ?_)
  rotate_left
  rotate_left
  (show barrE m f t = Ms.chk m; omega)
  refine And.intro rfl ?_
  refine brk_eq (fun t23 => ?_) (fun t23 => ?_)
  refine Exists.intro _ (And.intro c16_ ?_)
  exact rfl
  (exfalso; omega)
  all_goals first
    | (rw [hP]; exact if_le (by omega))
    | exact if_le (by omega)
    | (rw [hP]; exact congrArg (fun v => bif v != 0 then [] else m.reach f) (by omega))
    | exact congrArg (fun v => bif v != 0 then [] else m.reach f) (by omega)
    | (rw [hP]; exact nil_if (by omega))
    | exact nil_if (by omega)
    | skip
end Vc
