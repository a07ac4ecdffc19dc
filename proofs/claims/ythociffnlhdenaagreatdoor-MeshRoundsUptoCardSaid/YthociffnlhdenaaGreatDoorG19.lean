import Derived.Test.YthociffnlhdenaaGreatDoorG12
import Derived.Test.YthociffnlhdenaaGreatDoorG16
import Derived.Test.YthociffnlhdenaaGreatDoorG18
import Derived.Test.YthociffnlhdenaaGreatDoorG17
import Derived.Test.YthociffnlhdenaaGreatDoorG10
set_option linter.unusedSectionVars false
set_option linter.unusedVariables false
set_option linter.unusedSimpArgs false
set_option maxRecDepth 10000
set_option maxHeartbeats 4000000
namespace Vc
open Go Go.Proofs
def ir111 : AFun := ⟨25, 3, [.tmp 4],
 (.seq
 (.reg [0] [⟨some 2, .cbx 0 2 (.tmp 0), none⟩,
 ⟨some 4, .mov (.cst (.nils 1)), none⟩])
 (.seq
 (.reg [] [⟨some 5, .mov (.cst (.nils 1)), none⟩])
 (.seq
 (.seq
 (.reg [] [⟨some 8, .ld true 2 (.tmp 2), none⟩,
 ⟨some 9, .mov (.tmp 1), none⟩,
 ⟨some 10, .call 92 [(.tmp 8), (.tmp 9)], none⟩,
 ⟨some 11, .len (.tmp 10), none⟩,
 ⟨some 12, .mov (.cst (.d (.int .i64 0))), none⟩])
 (.post [5] [0, 1, 2]
 (.block 0
 (.asrow 2 3 1 5
 (.keep [5, 10, 11, 12] [0]
 (.loop
 (.post [5, 10, 11, 12] [1, 2]
 (.seq
 (.reg [] [⟨some 13, .cmp .lss (.tmp 12) (.tmp 11), none⟩])
 (.seq
 (.cond (.tmp 13)
 .skip
 (.exit 0))
 (.seq
 (.block 1
 (.seq
 (.reg [] [⟨some 14, .mov (.tmp 12), none⟩,
 ⟨some 15, .ixa 1 (.tmp 10) (.tmp 12), none⟩,
 ⟨some 16, .ld false 1 (.tmp 15), none⟩,
 ⟨some 6, .mov (.tmp 14), none⟩,
 ⟨some 7, .mov (.tmp 16), none⟩])
 (.seq
 (.reg [] [⟨some 17, .mov (.tmp 7), none⟩,
 ⟨some 18, .cmp .geq (.tmp 17) (.cst (.d (.int .i64 0))), none⟩])
 (.cond (.tmp 18)
 (.reg [1, 2] [⟨some 19, .mov (.tmp 5), none⟩,
 ⟨some 20, .mov (.tmp 6), none⟩,
 ⟨some 21, .bsl 1 3 1 1 [(.int .i64 0)] [(0, (.tmp 20))], none⟩,
 ⟨some 22, .app 2 3 1 8 (.tmp 19) (.tmp 21), none⟩,
 ⟨some 5, .mov (.tmp 22), none⟩])
 .skip))))
 (.reg [] [⟨some 23, .arith .add .i64 (.tmp 12) (.cst (.d (.int .i64 1))), none⟩,
 ⟨some 12, .mov (.tmp 23), none⟩])))))))))))
 (.seq
 (.reg [] [⟨some 24, .mov (.tmp 5), none⟩,
 ⟨some 4, .mov (.tmp 24), none⟩])
 .ret))))⟩
def ir112 : AFun := ⟨17, 2, [.tmp 6],
 (.seq
 (.reg [0] [⟨some 3, .cbx 0 2 (.tmp 0), none⟩,
 ⟨some 6, .mov (.cst (.d (.int .i64 0))), none⟩])
 (.seq
 (.regd [1] [⟨some 7, .ld true 2 (.tmp 3), none⟩,
 ⟨some 8, .call 27 [(.tmp 7)], none⟩,
 ⟨some 9, .ld true 2 (.tmp 3), none⟩,
 ⟨some 10, .mov (.tmp 1), none⟩,
 ⟨some 11, .call 87 [(.tmp 9), (.tmp 10)], none⟩,
 ⟨some 12, .ld true 2 (.tmp 3), none⟩,
 ⟨some 13, .mov (.tmp 2), none⟩,
 ⟨some 14, .call 87 [(.tmp 12), (.tmp 13)], none⟩,
 ⟨some 15, .bsl 1 29 1 3 [(.int .i64 0), (.int .i64 0), (.int .i64 0)] [(0, (.tmp 8)), (1, (.tmp 11)), (2, (.tmp 14))], none⟩,
 ⟨some 16, .call 86 [(.tmp 15)], none⟩,
 ⟨some 6, .mov (.tmp 16), none⟩] [(0, 2), (1, 2), (0, 3), (1, 3), (2, 3), (0, 5), (1, 5), (2, 5), (3, 5), (4, 5), (0, 6), (1, 6), (2, 6), (3, 6), (4, 6), (5, 6)])
 .ret))⟩
def ir114 : AFun := ⟨7, 0, [.tmp 3],
 (.seq
 (.reg [] [⟨some 3, .mov (.cst (.d (.bool false))), none⟩])
 (.seq
 (.reg [] [⟨some 4, .ld false 1 (.tmp 1), none⟩,
 ⟨some 5, .mov (.tmp 0), none⟩,
 ⟨some 6, .call 113 [(.tmp 4), (.tmp 5)], none⟩,
 ⟨some 3, .mov (.tmp 6), none⟩])
 .ret))⟩
def ir116 : AFun := ⟨13, 1, [.tmp 3],
 (.seq
 (.reg [0] [⟨some 2, .cbx 0 3 (.tmp 0), none⟩,
 ⟨some 3, .mov (.cst (.d (.bool false))), none⟩])
 (.seq
 (.regd [] [⟨some 4, .ld false 1 (.tmp 1), none⟩,
 ⟨some 5, .fad 0 (.tmp 2), none⟩,
 ⟨some 6, .ld false 1 (.tmp 5), none⟩,
 ⟨some 7, .callv (.tmp 4) [(.tmp 6)], none⟩,
 ⟨some 8, .ld false 1 (.tmp 1), none⟩,
 ⟨some 9, .fad 1 (.tmp 2), none⟩,
 ⟨some 10, .ld false 1 (.tmp 9), none⟩,
 ⟨some 11, .callv (.tmp 8) [(.tmp 10)], none⟩,
 ⟨some 12, .beq true (.tmp 7) (.tmp 11), none⟩,
 ⟨some 3, .mov (.tmp 12), none⟩] [(0, 1), (0, 2), (0, 4), (1, 4), (2, 4), (3, 4), (0, 5), (1, 5), (2, 5), (3, 5), (4, 5), (0, 6), (1, 6), (2, 6), (3, 6), (4, 6)])
 .ret))⟩
def ir47 : AFun := ⟨75, 5, [.tmp 8],
 (.seq
 (.reg [0, 1] [⟨some 4, .cbx 0 2 (.tmp 0), none⟩,
 ⟨some 7, .cbx 1 1 (.tmp 3), none⟩,
 ⟨some 8, .mov (.cst (.d (.int .i64 0))), none⟩])
 (.seq
 (.seq
 (.regd [2] [⟨some 15, .ld true 2 (.tmp 4), none⟩,
 ⟨some 16, .mov (.tmp 1), none⟩,
 ⟨some 17, .mov (.tmp 2), none⟩,
 ⟨some 18, .call 112 [(.tmp 15), (.tmp 16), (.tmp 17)], none⟩,
 ⟨some 19, .ld false 1 (.tmp 7), none⟩,
 ⟨some 20, .len (.tmp 19), none⟩,
 ⟨some 21, .cmp .gtr (.tmp 20) (.cst (.d (.int .i64 32))), none⟩,
 ⟨some 22, .call 89 [(.tmp 21), (.cst (.d (.int .i64 5)))], none⟩,
 ⟨some 23, .bsl 2 29 1 2 [(.int .i64 0), (.int .i64 0)] [(0, (.tmp 18)), (1, (.tmp 22))], none⟩,
 ⟨some 24, .call 86 [(.tmp 23)], none⟩,
 ⟨some 9, .mov (.tmp 24), none⟩] [(0, 1), (0, 2), (1, 2), (0, 4), (1, 4), (2, 4), (3, 4), (0, 5), (1, 5), (2, 5), (3, 5), (0, 6), (1, 6), (2, 6), (3, 6)])
 (.seq
 (.reg [] [⟨some 25, .mov (.tmp 9), none⟩,
 ⟨some 26, .cmp .neq (.tmp 25) (.cst (.d (.int .i64 0))), none⟩])
 (.cond (.tmp 26)
 (.seq
 (.reg [] [⟨some 27, .mov (.tmp 9), none⟩,
 ⟨some 8, .mov (.tmp 27), none⟩])
 .ret)
 .skip)))
 (.seq
 (.seq
 (.reg [] [⟨some 28, .ld false 1 (.tmp 7), none⟩,
 ⟨some 29, .len (.tmp 28), none⟩,
 ⟨some 30, .mov (.cst (.d (.int .i64 0))), none⟩])
 (.post [1, 2, 4, 7] [0, 1, 2, 3]
 (.block 0
 (.keep [1, 2, 4, 7, 28, 29, 30] [0, 1, 2]
 (.loop
 (.post [1, 2, 4, 7, 28, 29, 30] [3]
 (.seq
 (.reg [] [⟨some 31, .cmp .lss (.tmp 30) (.tmp 29), none⟩])
 (.seq
 (.cond (.tmp 31)
 .skip
 (.exit 0))
 (.seq
 (.block 1
 (.seq
 (.reg [] [⟨some 32, .mov (.tmp 30), none⟩,
 ⟨some 33, .ixa 1 (.tmp 28) (.tmp 30), none⟩,
 ⟨some 34, .ld false 1 (.tmp 33), none⟩,
 ⟨some 10, .mov (.tmp 32), none⟩,
 ⟨some 11, .mov (.tmp 34), none⟩])
 (.seq
 (.reg [3] [⟨some 35, .ld true 2 (.tmp 4), none⟩,
 ⟨some 36, .mov (.tmp 11), none⟩,
 ⟨some 37, .call 87 [(.tmp 35), (.tmp 36)], none⟩,
 ⟨some 38, .mov (.tmp 10), none⟩,
 ⟨some 39, .cmp .gtr (.tmp 38) (.cst (.d (.int .i64 0))), none⟩,
 ⟨some 40, .mov (.tmp 39), none⟩,
 ⟨some 41, .mov (.tmp 11), some (40, true)⟩,
 ⟨some 42, .ld false 1 (.tmp 7), some (40, true)⟩,
 ⟨some 43, .mov (.tmp 10), some (40, true)⟩,
 ⟨some 44, .arith .sub .i64 (.tmp 43) (.cst (.d (.int .i64 1))), some (40, true)⟩,
 ⟨some 45, .maxi (.cst (.d (.int .i64 0))) (.tmp 44), some (40, true)⟩,
 ⟨some 46, .ixa 1 (.tmp 42) (.tmp 45), some (40, true)⟩,
 ⟨some 47, .ld false 1 (.tmp 46), some (40, true)⟩,
 ⟨some 48, .cmp .leq (.tmp 41) (.tmp 47), some (40, true)⟩,
 ⟨some 49, .pick (.tmp 40) (.tmp 48) (.cst (.d (.bool false))), none⟩,
 ⟨some 50, .call 89 [(.tmp 49), (.cst (.d (.int .i64 11)))], none⟩,
 ⟨some 51, .bsl 3 29 1 2 [(.int .i64 0), (.int .i64 0)] [(0, (.tmp 37)), (1, (.tmp 50))], none⟩,
 ⟨some 52, .call 86 [(.tmp 51)], none⟩,
 ⟨some 12, .mov (.tmp 52), none⟩])
 (.seq
 (.reg [] [⟨some 53, .mov (.tmp 12), none⟩,
 ⟨some 54, .cmp .neq (.tmp 53) (.cst (.d (.int .i64 0))), none⟩])
 (.cond (.tmp 54)
 (.seq
 (.reg [] [⟨some 55, .mov (.tmp 12), none⟩,
 ⟨some 8, .mov (.tmp 55), none⟩])
 .ret)
 .skip)))))
 (.reg [] [⟨some 56, .arith .add .i64 (.tmp 30) (.cst (.d (.int .i64 1))), none⟩,
 ⟨some 30, .mov (.tmp 56), none⟩]))))))))))
 (.seq
 (.reg [4] [⟨some 57, .mkf (.func 114) [] [(.tmp 7)], none⟩,
 ⟨some 13, .alloc 4 [.undef], none⟩,
 ⟨none, .st 1 (.tmp 13) (.tmp 57), none⟩])
 (.seq
 (.reg [] [⟨some 58, .fad 1 (.tmp 4), none⟩,
 ⟨some 59, .ld false 1 (.tmp 58), none⟩,
 ⟨some 60, .mkf (.func 116) [] [(.tmp 13)], none⟩,
 ⟨some 61, .call 115 [(.tmp 59), (.tmp 60)], none⟩,
 ⟨some 14, .mov (.tmp 61), none⟩])
 (.seq
 (.reg [] [⟨some 62, .ld false 1 (.tmp 13), none⟩,
 ⟨some 63, .mov (.tmp 1), none⟩,
 ⟨some 64, .callv (.tmp 62) [(.tmp 63)], none⟩,
 ⟨some 65, .not (.tmp 64), none⟩,
 ⟨some 66, .mov (.tmp 65), none⟩,
 ⟨some 67, .ld false 1 (.tmp 13), some (66, false)⟩,
 ⟨some 68, .mov (.tmp 2), some (66, false)⟩,
 ⟨some 69, .callv (.tmp 67) [(.tmp 68)], some (66, false)⟩,
 ⟨some 70, .pick (.tmp 66) (.cst (.d (.bool true))) (.tmp 69), none⟩,
 ⟨some 71, .mov (.tmp 70), none⟩,
 ⟨some 72, .mov (.tmp 14), some (71, false)⟩,
 ⟨some 73, .pick (.tmp 71) (.cst (.d (.bool true))) (.tmp 72), none⟩,
 ⟨some 74, .call 89 [(.tmp 73), (.cst (.d (.int .i64 19)))], none⟩,
 ⟨some 8, .mov (.tmp 74), none⟩])
 .ret))))))⟩
theorem first_1 {a : Int} {l : List Int} (h : ¬ a = 0) : firstOf (a :: l) = a := by rw [firstOf_cons, show (a != 0) = true by rw [bne_iff_ne]; exact h]; rfl
theorem first_0 {a : Int} {l : List Int} (h : a = 0) : firstOf (a :: l) = firstOf l := by rw [firstOf_cons, h]; rfl
theorem if_0 {v w : Int} (h : v = 0) : (bif v != 0 then v else w) = w := by rw [h]; rfl
theorem if_1 {v w : Int} (h : ¬ v = 0) : (bif v != 0 then v else w) = v := by rw [show (v != 0) = true by rw [bne_iff_ne]; exact h]; rfl
end Vc
set_option maxRecDepth 10000
set_option maxHeartbeats 4000000
namespace Vc
open Go Go.Proofs
def ir118 : AFun := ⟨38, 5, [.cell 8 4 true],
 (.seq
 (.reg [0, 1, 2] [⟨some 4, .cbx 0 3 (.tmp 0), none⟩,
 ⟨some 5, .cbx 1 2 (.tmp 1), none⟩,
 ⟨some 8, .alloc 2 [(.d (.int .i64 0)), (.d (.int .i64 0)), (.d (.int .i64 0)), (.d (.bool false))], none⟩])
 (.seq
 (.reg [3] [⟨some 11, .fad 2 (.tmp 4), none⟩,
 ⟨some 12, .ld false 1 (.tmp 11), none⟩,
 ⟨some 13, .mov (.tmp 2), none⟩,
 ⟨some 14, .ixa 3 (.tmp 12) (.tmp 13), none⟩,
 ⟨some 15, .ld true 3 (.tmp 14), none⟩,
 ⟨some 9, .alloc 3 [(.d (.int .i64 0)), (.d (.int .i64 0)), (.d (.int .i64 0))], none⟩,
 ⟨none, .st 3 (.tmp 9) (.tmp 15), none⟩])
 (.seq
 (.seq
 (.reg [] [⟨some 16, .fad 2 (.tmp 9), none⟩,
 ⟨some 17, .ld false 1 (.tmp 16), none⟩,
 ⟨some 18, .cmp .eql (.tmp 17) (.cst (.d (.int .i64 (-1)))), none⟩])
 (.cond (.tmp 18)
 (.seq
 (.reg [] [⟨some 19, .build [(.d (.int .i64 0)), (.d (.int .i64 0)), (.d (.int .i64 0)), (.d (.bool false))] [], none⟩,
 ⟨none, .st 4 (.tmp 8) (.tmp 19), none⟩])
 .ret)
 .skip))
 (.seq
 (.regd [4] [⟨some 20, .fad 0 (.tmp 9), none⟩,
 ⟨some 21, .ld false 1 (.tmp 20), none⟩,
 ⟨some 22, .fad 1 (.tmp 9), none⟩,
 ⟨some 23, .ld false 1 (.tmp 22), none⟩,
 ⟨some 24, .ld true 2 (.tmp 5), none⟩,
 ⟨some 25, .mov (.tmp 2), none⟩,
 ⟨some 26, .mov (.tmp 3), none⟩,
 ⟨some 27, .call 91 [(.tmp 24), (.tmp 25), (.tmp 26)], none⟩,
 ⟨some 28, .arith .add .i64 (.tmp 23) (.tmp 27), none⟩,
 ⟨some 29, .mov (.tmp 2), none⟩,
 ⟨some 30, .build [(.d (.int .i64 0)), (.d (.int .i64 0)), (.d (.int .i64 0))] [(0, 1, (.tmp 21)), (1, 1, (.tmp 28)), (2, 1, (.tmp 29))], none⟩,
 ⟨some 31, .build [(.d (.int .i64 0)), (.d (.int .i64 0)), (.d (.int .i64 0)), (.d (.bool false))] [(0, 3, (.tmp 30))], none⟩,
 ⟨some 10, .alloc 4 [(.d (.int .i64 0)), (.d (.int .i64 0)), (.d (.int .i64 0)), (.d (.bool false))], none⟩,
 ⟨none, .st 4 (.tmp 10) (.tmp 31), none⟩] [(0, 2), (1, 2), (0, 3), (1, 3), (0, 4), (1, 4), (2, 4), (3, 4), (0, 5), (1, 5), (2, 5), (3, 5), (4, 5), (0, 6), (1, 6), (2, 6), (3, 6), (4, 6), (5, 6), (0, 7), (1, 7), (2, 7), (3, 7), (0, 8), (1, 8), (0, 9), (1, 9), (2, 9), (3, 9), (4, 9), (5, 9), (6, 9), (7, 9), (8, 9), (0, 12), (1, 12), (2, 12), (3, 12), (4, 12), (5, 12), (6, 12), (7, 12), (8, 12), (9, 12), (10, 12), (11, 12)])
 (.seq
 (.reg [] [⟨some 32, .fad 0 (.tmp 10), none⟩,
 ⟨some 33, .fad 1 (.tmp 32), none⟩,
 ⟨some 34, .ld false 1 (.tmp 33), none⟩,
 ⟨some 35, .cmp .leq (.tmp 34) (.cst (.d (.int .i64 3200))), none⟩,
 ⟨some 36, .fad 3 (.tmp 10), none⟩,
 ⟨none, .st 1 (.tmp 36) (.tmp 35), none⟩])
 (.seq
 (.reg [] [⟨some 37, .ld true 4 (.tmp 10), none⟩,
 ⟨none, .st 4 (.tmp 8) (.tmp 37), none⟩])
 .ret))))))⟩
def ir121 : AFun := ⟨44, 4, [.cell 8 3 true, .tmp 9],
 (.seq
 (.reg [0, 1, 2] [⟨some 4, .cbx 0 2 (.tmp 0), none⟩,
 ⟨some 5, .cbx 1 3 (.tmp 1), none⟩,
 ⟨some 8, .alloc 2 [(.d (.int .i64 0)), (.d (.int .i64 0)), (.d (.int .i64 0))], none⟩,
 ⟨some 9, .mov (.cst (.d (.bool false))), none⟩])
 (.seq
 (.reg [3] [⟨some 12, .fad 2 (.tmp 5), none⟩,
 ⟨some 13, .ld false 1 (.tmp 12), none⟩,
 ⟨some 14, .mov (.tmp 2), none⟩,
 ⟨some 15, .ixa 3 (.tmp 13) (.tmp 14), none⟩,
 ⟨some 16, .ld true 3 (.tmp 15), none⟩,
 ⟨some 10, .alloc 3 [(.d (.int .i64 0)), (.d (.int .i64 0)), (.d (.int .i64 0))], none⟩,
 ⟨none, .st 3 (.tmp 10) (.tmp 16), none⟩])
 (.seq
 (.reg [] [⟨some 17, .ld true 2 (.tmp 4), none⟩,
 ⟨some 18, .mov (.tmp 2), none⟩,
 ⟨some 19, .mov (.tmp 3), none⟩,
 ⟨some 20, .call 67 [(.tmp 17), (.tmp 18), (.tmp 19)], none⟩,
 ⟨some 11, .mov (.tmp 20), none⟩])
 (.seq
 (.seq
 (.reg [] [⟨some 21, .fad 2 (.tmp 10), none⟩,
 ⟨some 22, .ld false 1 (.tmp 21), none⟩,
 ⟨some 23, .cmp .lss (.tmp 22) (.cst (.d (.int .i64 0))), none⟩,
 ⟨some 24, .mov (.tmp 23), none⟩,
 ⟨some 25, .mov (.tmp 11), some (24, false)⟩,
 ⟨some 26, .cmp .eql (.tmp 25) (.cst (.d (.int .i64 0))), some (24, false)⟩,
 ⟨some 27, .pick (.tmp 24) (.cst (.d (.bool true))) (.tmp 26), none⟩,
 ⟨some 28, .mov (.tmp 27), none⟩,
 ⟨some 29, .fad 1 (.tmp 10), some (28, false)⟩,
 ⟨some 30, .ld false 1 (.tmp 29), some (28, false)⟩,
 ⟨some 31, .mov (.tmp 11), some (28, false)⟩,
 ⟨some 32, .arith .add .i64 (.tmp 30) (.tmp 31), some (28, false)⟩,
 ⟨some 33, .cmp .gtr (.tmp 32) (.cst (.d (.int .i64 3200))), some (28, false)⟩,
 ⟨some 34, .pick (.tmp 28) (.cst (.d (.bool true))) (.tmp 33), none⟩])
 (.cond (.tmp 34)
 (.seq
 (.reg [] [⟨some 35, .build [(.d (.int .i64 0)), (.d (.int .i64 0)), (.d (.int .i64 0))] [], none⟩,
 ⟨none, .st 3 (.tmp 8) (.tmp 35), none⟩,
 ⟨some 9, .mov (.cst (.d (.bool false))), none⟩])
 .ret)
 .skip))
 (.seq
 (.reg [] [⟨some 36, .fad 0 (.tmp 10), none⟩,
 ⟨some 37, .ld false 1 (.tmp 36), none⟩,
 ⟨some 38, .fad 1 (.tmp 10), none⟩,
 ⟨some 39, .ld false 1 (.tmp 38), none⟩,
 ⟨some 40, .mov (.tmp 11), none⟩,
 ⟨some 41, .arith .add .i64 (.tmp 39) (.tmp 40), none⟩,
 ⟨some 42, .mov (.tmp 2), none⟩,
 ⟨some 43, .build [(.d (.int .i64 0)), (.d (.int .i64 0)), (.d (.int .i64 0))] [(0, 1, (.tmp 37)), (1, 1, (.tmp 41)), (2, 1, (.tmp 42))], none⟩,
 ⟨none, .st 3 (.tmp 8) (.tmp 43), none⟩,
 ⟨some 9, .mov (.cst (.d (.bool true))), none⟩])
 .ret)))))⟩
def ir122 : AFun := ⟨24, 2, [.tmp 4],
 (.seq
 (.reg [0, 1] [⟨some 2, .cbx 0 3 (.tmp 0), none⟩,
 ⟨some 3, .cbx 1 3 (.tmp 1), none⟩,
 ⟨some 4, .mov (.cst (.d (.bool false))), none⟩])
 (.seq
 (.reg [] [⟨some 5, .fad 0 (.tmp 2), none⟩,
 ⟨some 6, .ld false 1 (.tmp 5), none⟩,
 ⟨some 7, .fad 0 (.tmp 3), none⟩,
 ⟨some 8, .ld false 1 (.tmp 7), none⟩,
 ⟨some 9, .cmp .gtr (.tmp 6) (.tmp 8), none⟩,
 ⟨some 10, .mov (.tmp 9), none⟩,
 ⟨some 11, .fad 0 (.tmp 2), some (10, false)⟩,
 ⟨some 12, .ld false 1 (.tmp 11), some (10, false)⟩,
 ⟨some 13, .fad 0 (.tmp 3), some (10, false)⟩,
 ⟨some 14, .ld false 1 (.tmp 13), some (10, false)⟩,
 ⟨some 15, .cmp .eql (.tmp 12) (.tmp 14), some (10, false)⟩,
 ⟨some 16, .mov (.tmp 15), some (10, false)⟩,
 ⟨some 17, .fad 1 (.tmp 2), some (16, true)⟩,
 ⟨some 18, .ld false 1 (.tmp 17), some (16, true)⟩,
 ⟨some 19, .fad 1 (.tmp 3), some (16, true)⟩,
 ⟨some 20, .ld false 1 (.tmp 19), some (16, true)⟩,
 ⟨some 21, .cmp .lss (.tmp 18) (.tmp 20), some (16, true)⟩,
 ⟨some 22, .pick (.tmp 16) (.tmp 21) (.cst (.d (.bool false))), some (10, false)⟩,
 ⟨some 23, .pick (.tmp 10) (.cst (.d (.bool true))) (.tmp 22), none⟩,
 ⟨some 4, .mov (.tmp 23), none⟩])
 .ret))⟩
def ir150 : AFun := ⟨24, 2, [.tmp 4],
 (.seq
 (.reg [0, 1] [⟨some 2, .cbx 0 3 (.tmp 0), none⟩,
 ⟨some 3, .cbx 1 3 (.tmp 1), none⟩,
 ⟨some 4, .mov (.cst (.d (.bool false))), none⟩])
 (.seq
 (.reg [] [⟨some 5, .fad 0 (.tmp 2), none⟩,
 ⟨some 6, .ld false 1 (.tmp 5), none⟩,
 ⟨some 7, .fad 0 (.tmp 3), none⟩,
 ⟨some 8, .ld false 1 (.tmp 7), none⟩,
 ⟨some 9, .cmp .gtr (.tmp 6) (.tmp 8), none⟩,
 ⟨some 10, .mov (.tmp 9), none⟩,
 ⟨some 11, .fad 0 (.tmp 2), some (10, false)⟩,
 ⟨some 12, .ld false 1 (.tmp 11), some (10, false)⟩,
 ⟨some 13, .fad 0 (.tmp 3), some (10, false)⟩,
 ⟨some 14, .ld false 1 (.tmp 13), some (10, false)⟩,
 ⟨some 15, .cmp .eql (.tmp 12) (.tmp 14), some (10, false)⟩,
 ⟨some 16, .mov (.tmp 15), some (10, false)⟩,
 ⟨some 17, .fad 1 (.tmp 2), some (16, true)⟩,
 ⟨some 18, .ld false 1 (.tmp 17), some (16, true)⟩,
 ⟨some 19, .fad 1 (.tmp 3), some (16, true)⟩,
 ⟨some 20, .ld false 1 (.tmp 19), some (16, true)⟩,
 ⟨some 21, .cmp .lss (.tmp 18) (.tmp 20), some (16, true)⟩,
 ⟨some 22, .pick (.tmp 16) (.tmp 21) (.cst (.d (.bool false))), some (10, false)⟩,
 ⟨some 23, .pick (.tmp 10) (.cst (.d (.bool true))) (.tmp 22), none⟩,
 ⟨some 4, .mov (.tmp 23), none⟩])
 .ret))⟩
def ir117 : AFun := ⟨32, 2, [],
 (.seq
 (.reg [0, 1] [⟨some 3, .box 0 3 (.tmp 0), none⟩,
 ⟨some 5, .cbx 1 4 (.tmp 2), none⟩])
 (.seq
 (.reg [] [⟨some 6, .mov (.cst (.d (.fn (.func 150) []))), none⟩])
 (.seq
 (.regd [] [⟨some 7, .mov (.tmp 1), none⟩,
 ⟨some 8, .fad 0 (.tmp 3), none⟩,
 ⟨some 9, .ld false 1 (.tmp 8), none⟩,
 ⟨some 10, .cmp .neq (.tmp 7) (.tmp 9), none⟩,
 ⟨some 11, .mov (.tmp 10), none⟩,
 ⟨some 12, .fad 3 (.tmp 5), some (11, true)⟩,
 ⟨some 13, .ld false 1 (.tmp 12), some (11, true)⟩,
 ⟨some 14, .pick (.tmp 11) (.tmp 13) (.cst (.d (.bool false))), none⟩,
 ⟨some 15, .mov (.tmp 14), none⟩,
 ⟨some 16, .mov (.tmp 6), some (15, true)⟩,
 ⟨some 17, .fad 0 (.tmp 5), some (15, true)⟩,
 ⟨some 18, .ld true 3 (.tmp 17), some (15, true)⟩,
 ⟨some 19, .fad 2 (.tmp 3), some (15, true)⟩,
 ⟨some 20, .ld false 1 (.tmp 19), some (15, true)⟩,
 ⟨some 21, .mov (.tmp 1), some (15, true)⟩,
 ⟨some 22, .ixa 3 (.tmp 20) (.tmp 21), some (15, true)⟩,
 ⟨some 23, .ld true 3 (.tmp 22), some (15, true)⟩,
 ⟨some 24, .callv (.tmp 16) [(.tmp 18), (.tmp 23)], some (15, true)⟩,
 ⟨some 25, .pick (.tmp 15) (.tmp 24) (.cst (.d (.bool false))), none⟩] [(0, 1), (0, 2), (9, 10), (9, 11), (9, 12), (10, 12), (11, 12), (9, 13), (10, 13), (11, 13), (9, 14), (10, 14), (11, 14), (12, 14), (13, 14), (9, 15), (10, 15), (11, 15), (9, 16), (10, 16), (11, 16)])
 (.cond (.tmp 25)
 (.reg [] [⟨some 26, .fad 2 (.tmp 3), none⟩,
 ⟨some 27, .ld false 1 (.tmp 26), none⟩,
 ⟨some 28, .mov (.tmp 1), none⟩,
 ⟨some 29, .fad 0 (.tmp 5), none⟩,
 ⟨some 30, .ld true 3 (.tmp 29), none⟩,
 ⟨some 31, .ixa 3 (.tmp 27) (.tmp 28), none⟩,
 ⟨none, .st 3 (.tmp 31) (.tmp 30), none⟩])
 .skip))))⟩
def ir119 : AFun := ⟨44, 9, [.cell 6 3 true],
 (.seq
 (.reg [0, 1, 2] [⟨some 3, .cbx 0 3 (.tmp 0), none⟩,
 ⟨some 4, .cbx 1 2 (.tmp 1), none⟩,
 ⟨some 6, .alloc 2 [(.d (.int .i64 0)), (.d (.int .i64 0)), (.nils 3)], none⟩])
 (.seq
 (.reg [3] [⟨some 11, .ld true 3 (.tmp 3), none⟩,
 ⟨some 12, .calli 99 [(.tmp 11)], none⟩,
 ⟨some 7, .alloc 3 [(.d (.int .i64 0)), (.d (.int .i64 0)), (.nils 3)], none⟩,
 ⟨none, .st 3 (.tmp 7) (.tmp 12), none⟩])
 (.seq
 (.seq
 (.reg [] [⟨some 13, .fad 2 (.tmp 7), none⟩,
 ⟨some 14, .ld false 1 (.tmp 13), none⟩,
 ⟨some 15, .len (.tmp 14), none⟩,
 ⟨some 16, .mov (.cst (.d (.int .i64 0))), none⟩])
 (.post [6, 7] [0, 1, 2, 3]
 (.block 0
 (.keep [2, 3, 4, 6, 7, 15, 16] [0, 1, 2, 3]
 (.loop
 (.post [2, 3, 4, 6, 7, 15, 16] []
 (.seq
 (.reg [] [⟨some 17, .cmp .lss (.tmp 16) (.tmp 15), none⟩])
 (.seq
 (.cond (.tmp 17)
 .skip
 (.exit 0))
 (.seq
 (.block 1
 (.seq
 (.reg [] [⟨some 18, .mov (.tmp 16), none⟩,
 ⟨some 8, .mov (.tmp 18), none⟩])
 (.seq
 (.reg [] [⟨some 19, .ld true 2 (.tmp 4), none⟩,
 ⟨some 20, .mov (.tmp 8), none⟩,
 ⟨some 21, .call 88 [(.tmp 19), (.tmp 20)], none⟩,
 ⟨some 22, .len (.tmp 21), none⟩,
 ⟨some 23, .mov (.cst (.d (.int .i64 0))), none⟩])
 (.post [2, 3, 4, 6, 7, 15, 16] [0, 1, 2, 3]
 (.block 2
 (.keep [2, 3, 4, 6, 7, 8, 15, 16, 21, 22, 23] [0, 1, 2, 3]
 (.loop
 (.post [2, 3, 4, 6, 7, 8, 15, 16, 21, 22, 23] [7, 8]
 (.seq
 (.reg [] [⟨some 24, .cmp .lss (.tmp 23) (.tmp 22), none⟩])
 (.seq
 (.cond (.tmp 24)
 .skip
 (.exit 2))
 (.seq
 (.block 3
 (.seq
 (.reg [] [⟨some 25, .ixa 1 (.tmp 21) (.tmp 23), none⟩,
 ⟨some 26, .ld false 1 (.tmp 25), none⟩,
 ⟨some 10, .mov (.tmp 26), none⟩])
 (.seq
 (.reg [] [⟨some 27, .mov (.tmp 2), none⟩,
 ⟨some 28, .mov (.tmp 8), none⟩,
 ⟨some 29, .mov (.tmp 10), none⟩,
 ⟨some 30, .build [(.d (.int .i64 0)), (.d (.int .i64 0))] [(0, 1, (.tmp 28)), (1, 1, (.tmp 29))], none⟩,
 ⟨some 31, .call 109 [(.tmp 27), (.tmp 30)], none⟩,
 ⟨some 32, .not (.tmp 31), none⟩])
 (.cond (.tmp 32)
 (.regd [] [⟨some 33, .ld true 3 (.tmp 7), none⟩,
 ⟨some 34, .mov (.tmp 8), none⟩,
 ⟨some 35, .ld true 3 (.tmp 3), none⟩,
 ⟨some 36, .ld true 2 (.tmp 4), none⟩,
 ⟨some 37, .mov (.tmp 10), none⟩,
 ⟨some 38, .mov (.tmp 8), none⟩,
 ⟨some 39, .call 118 [(.tmp 35), (.tmp 36), (.tmp 37), (.tmp 38)], none⟩,
 ⟨some 40, .calli 117 [(.tmp 33), (.tmp 34), (.tmp 39)], none⟩] [(0, 1), (0, 2), (1, 2), (0, 3), (1, 3), (2, 3), (0, 4), (1, 4), (2, 4), (3, 4), (0, 5), (1, 5), (2, 5), (3, 5), (4, 5), (0, 6), (1, 6)])
 .skip))))
 (.reg [] [⟨some 41, .arith .add .i64 (.tmp 23) (.cst (.d (.int .i64 1))), none⟩,
 ⟨some 23, .mov (.tmp 41), none⟩]))))))))))))
 (.reg [] [⟨some 42, .arith .add .i64 (.tmp 16) (.cst (.d (.int .i64 1))), none⟩,
 ⟨some 16, .mov (.tmp 42), none⟩]))))))))))
 (.seq
 (.reg [] [⟨some 43, .ld true 3 (.tmp 7), none⟩,
 ⟨none, .st 3 (.tmp 6) (.tmp 43), none⟩])
 .ret))))⟩
theorem betB_1 {x o : En} (h : o.nu < x.nu) : x.betB o = true := by unfold En.betB; rw [decide_eq_true h]; rfl
theorem betB_2 {x o : En} (h : ¬ o.nu < x.nu) (h2 : x.nu = o.nu) : x.betB o = decide (x.di < o.di) := by unfold En.betB; rw [decide_eq_false h, show (x.nu == o.nu) = true by simpa using h2]; rfl
theorem betB_3 {x o : En} (h : ¬ o.nu < x.nu) (h2 : ¬ x.nu = o.nu) : x.betB o = false := by unfold En.betB; rw [decide_eq_false h, show (x.nu == o.nu) = false by simpa using h2]; rfl
theorem c150 (x o : En) : CallDet Tryz.prog 150 [.d (.agg [.int .i64 x.nu, .int .i64 x.di, .int .i64 x.ne]), .d (.agg [.int .i64 o.nu, .int .i64 o.di, .int .i64 o.ne])] [.bool (x.betB o)] := by
 have fin : ∀ b, x.betB o = b → resV [.bool b] = resV [.bool (x.betB o)] := fun b h => by rw [h]
 refine call_of_vc (x := ir150) (by kernel_rfl) rfl ?_
 refine And.intro rfl ?_
 refine brk_lt (fun t1 => ?_) (fun t1 => ?_)
 refine And.intro rfl ?_
 rotate_left
 refine And.intro rfl ?_
 refine brk_eq (fun t2 => ?_) (fun t2 => ?_)
 refine And.intro rfl ?_
 rotate_left
 refine And.intro rfl ?_
 rotate_left
 ·exact fin _ (betB_1 t1)
 ·exact fin _ (betB_2 t1 t2)
 ·exact fin _ (betB_3 t1 t2)
theorem c122 (x o : En) : CallDet Tryz.prog 122 [.d (.agg [.int .i64 x.nu, .int .i64 x.di, .int .i64 x.ne]), .d (.agg [.int .i64 o.nu, .int .i64 o.di, .int .i64 o.ne])] [.bool (x.betB o)] := by
 have fin : ∀ b, x.betB o = b → resV [.bool b] = resV [.bool (x.betB o)] := fun b h => by rw [h]
 refine call_of_vc (x := ir122) (by kernel_rfl) rfl ?_
 refine And.intro rfl ?_
 refine brk_lt (fun t1 => ?_) (fun t1 => ?_)
 refine And.intro rfl ?_
 rotate_left
 refine And.intro rfl ?_
 refine brk_eq (fun t2 => ?_) (fun t2 => ?_)
 refine And.intro rfl ?_
 rotate_left
 refine And.intro rfl ?_
 rotate_left
 ·exact fin _ (betB_1 t1)
 ·exact fin _ (betB_2 t1 t2)
 ·exact fin _ (betB_3 t1 t2)
def ofX (m : Ms) (s : Sts) (fr w : Int) : En := bif (s.at fr).ne == -1 then ⟨0, 0, 0⟩ else ofE m s fr w
theorem ofX_1 {m : Ms} {s : Sts} {fr w : Int} (h : (s.at fr).ne = -1) : ofX m s fr w = ⟨0, 0, 0⟩ := by unfold ofX; rw [h]; rfl
theorem ofX_2 {m : Ms} {s : Sts} {fr w : Int} (h : ¬ (s.at fr).ne = -1) : ofX m s fr w = ofE m s fr w := by unfold ofX; rw [show ((s.at fr).ne == -1) = false by simpa using h]; rfl
theorem ofB_1 {m : Ms} {s : Sts} {fr w : Int} (h : (s.at fr).ne = -1) : ofB m s fr w = false := by unfold ofB; rw [h]; rfl
theorem ofB_2 {m : Ms} {s : Sts} {fr w : Int} (h : ¬ (s.at fr).ne = -1) : ofB m s fr w = decide ((s.at fr).di + betw m.ls fr w ≤ 3200) := by unfold ofB; rw [show ((s.at fr).ne == -1) = false by simpa using h]; rfl
theorem c118 (m : Ms) (s : Sts) (fr w : Int) (hf : m.fine) (h0 : 0 ≤ fr) (h1 : fr.toNat < s.es.length) (hd : 0 ≤ (s.at fr).di ∧ (s.at fr).di ≤ 3200) : CallDet Tryz.prog 118 [.d s.d, .d m.d, .d (.int .i64 fr), .d (.int .i64 w)] [.agg [.int .i64 (ofX m s fr w).nu, .int .i64 (ofX m s fr w).di, .int .i64 (ofX m s fr w).ne, .bool (ofB m s fr w)]] := by
 have hx := ens_atI (Sts.at_getI h1)
 have hc := hf.rng fr w
 have h128 := hf.l128
 refine call_of_vc (x := ir118) (by kernel_rfl) rfl ?_
 refine ix_at hx ?_ ?_
 assumption
 refine And.intro rfl ?_
 refine brk_eq (fun t1 => ?_) (fun t1 => ?_)
 rotate_left
 refine Exists.intro _ (And.intro (c91 m _ _ (by omega)) ?_)
 refine ar_add ?_ ?_
 refine And.intro ?_ ?_
 (show (-9223372036854775808 : Int) ≤ En.di (Sts.at s fr) + betw (Ms.ls m) fr w; omega)
 (show En.di (Sts.at s fr) + betw (Ms.ls m) fr w ≤ (9223372036854775807 : Int); omega)
 refine And.intro rfl ?_
 rotate_left
 ·exact (show resV [.agg [.int .i64 0, .int .i64 0, .int .i64 0, .bool false]] = resV [.agg [.int .i64 (ofX m s fr w).nu, .int .i64 (ofX m s fr w).di, .int .i64 (ofX m s fr w).ne, .bool (ofB m s fr w)]] by rw [ofX_1 t1, ofB_1 t1])
 ·exact (show resV [.agg [.int .i64 (s.at fr).nu, .int .i64 ((s.at fr).di + betw m.ls fr w), .int .i64 fr, .bool (decide ((s.at fr).di + betw m.ls fr w ≤ 3200))]] = resV [.agg [.int .i64 (ofX m s fr w).nu, .int .i64 (ofX m s fr w).di, .int .i64 (ofX m s fr w).ne, .bool (ofB m s fr w)]] by rw [ofX_2 t1, ofB_2 t1]; rfl)
def hrs (co n : Int) (x : En) (is : Bool) (E : List En) : List En := match E[n.toNat]? with
 | some e => bif !(n == co) && (is && x.betB e) then E.set n.toNat x else E
 | none => E
theorem c99i_119 (s : Sts) (m : Ms) (hn : s.es.length ≤ 1048576) : CallIn Tryz.prog 99 [.d s.d] [.cbox [.int .i64 s.co, .int .i64 s.nu, .slice 3 (ens s.es)], .cbox [.slice 1 (strs m.ns), .slice 3 (lks m.ls)], .box [.d (.int .i64 0), .d (.int .i64 0), .nils 3], .none, .none, .none, .none, .none, .none] (.agg [.d (.int .i64 s.co), .d (.int .i64 s.nu), .sl 6 (ens s.es).length])
  (setAll [.cbox [.int .i64 s.co, .int .i64 s.nu, .slice 3 (ens s.es)], .cbox [.slice 1 (strs m.ns), .slice 3 (lks m.ls)], .box [.d (.int .i64 0), .d (.int .i64 0), .nils 3], .none, .none, .none, .none, .none, .none] [(4, .cbox [.int .i64 s.co, .int .i64 s.nu, .slice 3 (ens s.es)]), (5, .box [.d (.int .i64 s.co), .d (.int .i64 s.nu), .sl 6 (ens s.es).length]), (6, .row 105 3 (ens s.es) false)]) := by
 have hl := ens_len s.es
 have e : List.take (ens s.es).length (ens s.es) ++ List.drop (ens s.es).length (List.replicate (ens s.es).length (.agg [.int .i64 0, .int .i64 0, .int .i64 0])) = ens s.es := by
  rw [List.take_length, List.drop_eq_nil_of_le (by rw [List.length_replicate]; exact Nat.le_refl _), List.append_nil]
 refine callIn_of_vc 4 (x := ir99) (by kernel_rfl) rfl rfl rfl ?_
 refine And.intro ?_ ?_
 refine And.intro ?_ ?_
 (show (0 : Int) ≤ (↑(List.length (ens (Sts.es s))) : Int); omega)
 refine And.intro ?_ ?_
 (show (↑(List.length (ens (Sts.es s))) : Int) * (↑(24 : Nat) : Int) ≤ (2 : Int) ^ (47 : Nat); omega)
 (show (↑(List.length (ens (Sts.es s))) : Int) ≤ (2 : Int) ^ (47 : Nat); omega)
 refine Exists.intro _ (And.intro (And.intro rfl (And.intro rfl (And.intro ?_ rfl))) ?_)
 focus (show List.length (List.replicate (List.length (ens (Sts.es s))) (Data.agg [Data.int IntKind.i64 (0 : Int), Data.int IntKind.i64 (0 : Int), Data.int IntKind.i64 (0 : Int)])) = List.length (ens (Sts.es s)); simp only [List.length_replicate, List.length_set, List.length_append, List.length_take, List.length_drop]; done)
 refine And.intro ?_ ?_
 (show List.length (List.take (List.length (ens (Sts.es s))) (ens (Sts.es s)) ++ List.drop (List.length (ens (Sts.es s))) (List.replicate (List.length (ens (Sts.es s))) (Data.agg [Data.int IntKind.i64 (0 : Int), Data.int IntKind.i64 (0 : Int), Data.int IntKind.i64 (0 : Int)]))) = List.length (ens (Sts.es s)); simp only [List.length_replicate, List.length_set, List.length_append, List.length_take, List.length_drop]; omega)
 refine And.intro rfl ?_
 rotate_left
 exact congrArg (fun X => ([.cbox [.int .i64 s.co, .int .i64 s.nu, .slice 3 (ens s.es)], .cbox [.slice 1 (strs m.ns), .slice 3 (lks m.ls)], .box [.d (.int .i64 0), .d (.int .i64 0), .nils 3], .none, .cbox [.int .i64 s.co, .int .i64 s.nu, .slice 3 (ens s.es)], .box [.d (.int .i64 s.co), .d (.int .i64 s.nu), .sl 6 (ens s.es).length], .row 105 3 X false, .none, .none] : List AObj)) e
theorem c117i_119 (m : Ms) (s : Sts) (n : Int) (x e : En) (is : Bool) (E : List En) (L : Nat) (h0 : 0 ≤ n) (he : E[n.toNat]? = some e) (hL : L = (ens E).length) : CallIn Tryz.prog 117 [.agg [.d (.int .i64 s.co), .d (.int .i64 s.nu), .sl 6 L], .d (.int .i64 n), .d (.agg [.int .i64 x.nu, .int .i64 x.di, .int .i64 x.ne, .bool is])]
  [.cbox [.int .i64 s.co, .int .i64 s.nu, .slice 3 (ens s.es)], .cbox [.slice 1 (strs m.ns), .slice 3 (lks m.ls)], .box [.d (.int .i64 0), .d (.int .i64 0), .nils 3], .box [.d (.int .i64 s.co), .d (.int .i64 s.nu), .sl 6 (ens s.es).length], .cbox [.int .i64 s.co, .int .i64 s.nu, .slice 3 (ens s.es)], .box [.d (.int .i64 s.co), .d (.int .i64 s.nu), .sl 6 (ens s.es).length], .row 105 3 (ens E) false, .none, .none] (.tup []) (setAll [.cbox [.int .i64 s.co, .int .i64 s.nu, .slice 3 (ens s.es)], .cbox [.slice 1 (strs m.ns), .slice 3 (lks m.ls)], .box [.d (.int .i64 0), .d (.int .i64 0), .nils 3], .box [.d (.int .i64 s.co), .d (.int .i64 s.nu), .sl 6 (ens s.es).length], .cbox [.int .i64 s.co, .int .i64 s.nu, .slice 3 (ens s.es)], .box [.d (.int .i64 s.co), .d (.int .i64 s.nu), .sl 6 (ens s.es).length], .row 105 3 (ens E) false, .none, .none] [(7, .box [.d (.int .i64 s.co), .d (.int .i64 s.nu), .sl 6 (ens E).length]), (8, .cbox [.int .i64 x.nu, .int .i64 x.di, .int .i64 x.ne, .bool is]), (6, .row 105 3 (ens (hrs s.co n x is E)) false)]) := by
 subst hL
 have hel := ens_len E
 have hk : n.toNat < E.length := (List.getElem?_eq_some_iff.1 he).1
 have hed := ens_atI he
 have hno : (bif !(n == s.co) && (is && x.betB e) then E.set n.toNat x else E) = E → hrs s.co n x is E = E := fun h => by unfold hrs; rw [he]; exact h
 refine callIn_of_vc 7 (x := ir117) (by kernel_rfl) rfl rfl rfl ?_
 cases is
 ·have e0 : hrs s.co n x false E = E := hno (by cases (n == s.co) <;> rfl)
  rw [e0]
  refine And.intro rfl ?_
  refine brk_ne (fun t1 => ?_) (fun t1 => ?_)
  refine And.intro rfl ?_
  refine And.intro rfl ?_
  exact rfl
  refine And.intro rfl ?_
  refine And.intro rfl ?_
  refine And.intro rfl ?_
  exact rfl
 ·by_cases hb : x.betB e = true
  ·by_cases hn : n = s.co
   ·have e0 : hrs s.co n x true E = E := hno (by rw [show (n == s.co) = true by rw [beq_iff_eq]; exact hn]; rfl)
    rw [e0]
    refine And.intro rfl ?_
    refine brk_ne (fun t1 => ?_) (fun t1 => ?_)
    (exfalso; omega)
    refine And.intro rfl ?_
    refine And.intro rfl ?_
    refine And.intro rfl ?_
    exact rfl
   ·have e0 : hrs s.co n x true E = E.set n.toNat x := by unfold hrs; rw [he]; show (bif !(n == s.co) && (true && x.betB e) then _ else _) = _; rw [hb, show (n == s.co) = false by rw [beq_eq_false_iff_ne]; exact hn]; rfl
    rw [e0]
    refine And.intro rfl ?_
    refine brk_ne (fun t1 => ?_) (fun t1 => ?_)
    refine And.intro ?_ ?_
    refine And.intro ?_ ?_
    exact rfl
    refine And.intro ?_ ?_
    exact rfl
    refine And.intro ?_ ?_
    assumption
    (show n < (↑(List.length (ens E)) : Int); omega)
    refine And.intro rfl ?_
    refine Exists.intro _ (And.intro hed ?_)
    refine Exists.intro _ (And.intro (c150 x e) ?_)
    refine brk_t hb ?_
    refine And.intro ?_ ?_
    refine And.intro ?_ ?_
    exact rfl
    refine And.intro ?_ ?_
    exact rfl
    refine And.intro ?_ ?_
    assumption
    (show n < (↑(List.length (ens E)) : Int); omega)
    refine Exists.intro _ (Exists.intro (Vc.Data.agg [Data.int IntKind.i64 (En.nu x), Data.int IntKind.i64 (En.di x), Data.int IntKind.i64 (En.ne x)]) (And.intro (And.intro ?_ (And.intro hed (And.intro rfl (And.intro ?_ (And.intro rfl rfl))))) ?_))
    exact rfl
    (show (0 : Nat) + (3 : Nat) ≤ (1 : Nat) + (1 : Nat) + (1 : Nat); omega)
    refine And.intro rfl ?_
    rotate_left
    (exfalso; omega)
    rw [show ens (E.set n.toNat x) = (ens E).set n.toNat (.agg [.int .i64 x.nu, .int .i64 x.di, .int .i64 x.ne]) from ens_set E n.toNat x]; rfl
  ·have hb : x.betB e = false := by cases h : x.betB e; rfl; exact absurd h hb
   have e0 : hrs s.co n x true E = E := hno (by rw [hb]; cases (n == s.co) <;> rfl)
   rw [e0]
   refine And.intro rfl ?_
   refine brk_ne (fun t1 => ?_) (fun t1 => ?_)
   refine And.intro ?_ ?_
   refine And.intro ?_ ?_
   exact rfl
   refine And.intro ?_ ?_
   exact rfl
   refine And.intro ?_ ?_
   assumption
   (show n < (↑(List.length (ens E)) : Int); omega)
   refine And.intro rfl ?_
   refine Exists.intro _ (And.intro hed ?_)
   refine Exists.intro _ (And.intro (c150 x e) ?_)
   refine brk_f hb ?_
   refine And.intro rfl ?_
   exact rfl
   refine And.intro rfl ?_
   refine And.intro rfl ?_
   refine And.intro rfl ?_
   exact rfl
theorem hrs_hr (m : Ms) (s : Sts) (lost : List (Int × Int)) (n : Nat) (k : Int) (acc : En) (E : List En) (hn : n < E.length) (hlo : lostB lost n k = false) :
  hrs s.co n (ofX m s k n) (ofB m s k n) (E.set n acc) = E.set n (hr m s lost n acc k) := by
 have he : (E.set n acc)[(n : Int).toNat]? = some acc := List.getElem?_set_self hn
 unfold hrs
 rw [he]
 show (bif !((n : Int) == s.co) && (ofB m s k n && (ofX m s k n).betB acc) then (E.set n acc).set n (ofX m s k n) else E.set n acc) = _
 have e1 : (!((n : Int) == s.co) && (ofB m s k n && (ofX m s k n).betB acc)) = hrB m s lost n k acc := by
  unfold hrB
  rw [hlo]
  by_cases h : (s.at k).ne = -1
  ·rw [ofB_1 h]; rfl
  ·rw [ofX_2 h]; rfl
 rw [e1]
 unfold hr
 cases hb : hrB m s lost n k acc
 ·rfl
 ·have : (s.at k).ne ≠ -1 := fun h => by
   unfold hrB at hb
   rw [ofB_1 h] at hb
   simp at hb
  rw [ofX_2 this]
  show (E.set n acc).set n (ofE m s k n) = E.set n (ofE m s k n)
  rw [List.set_set]
theorem hr_lost (m : Ms) (s : Sts) (lost : List (Int × Int)) (n : Int) (k : Int) (acc : En) (hlo : lostB lost n k = true) : hr m s lost n acc k = acc := by
 unfold hr hrB; rw [hlo]; simp
theorem c119 (m : Ms) (s : Sts) (lost : List (Int × Int)) (g : Good m s) (hll : lost.length ≤ 1048576) : CallDet Tryz.prog 119 [.d s.d, .d m.d, .d (.slice 2 (prs lost))] [(s.round m lost).d] := by
 have hf := chk_fine g.chk
 have hl := ens_len s.es
 have hle := g.len
 have h32 := hf.n32
 have h128 := hf.l128
 refine call_of_vc (x := ir119) (by kernel_rfl) rfl ?_
 refine Exists.intro _ (Exists.intro _ (And.intro (c99i_119 s m (by omega)) ?_))
 refine And.intro rfl ?_
 rotate_left
 refine loop_u (fun a : Nat => [(16, .d (.int .i64 a))]) (fun a => [(6, .row 105 3 (ens (rndL m s lost a)) false)]) (fun a => a ≤ s.es.length) (fun a => s.es.length - a) 0 (by rw [rndL_zero]; rfl) (Nat.zero_le _) ?_
 intro n hn
 have hn : n ≤ s.es.length := hn
 by_cases hnn : n < s.es.length
 ·have hbl := ints_len (m.nbs n)
  have hbn : (m.nbs n).length ≤ m.ns.length := nbs_len m n m.ns.length
  refine And.intro rfl ?_
  refine brk_lt (fun t1 => ?_) (fun t1 => ?_)
  refine Exists.intro _ (And.intro (c88 m n (by omega) (by omega)) ?_)
  rotate_left
  (exfalso; omega)
  refine loop_u (fun a : Nat => [(23, .d (.int .i64 a))]) (fun a => [(6, .row 105 3 (ens ((rndL m s lost n).set n (((m.nbs n).take a).foldl (hr m s lost n) (s.at n)))) false)]) (fun a => a ≤ (m.nbs n).length) (fun a => (m.nbs n).length - a) 0 (by show _ = St.upd _ _ [(6, .row 105 3 (ens ((rndL m s lost n).set n (s.at n))) false)]; rw [rndL_start m s lost hnn]; rfl) (Nat.zero_le _) ?_
  intro q hq
  have hq : q ≤ (m.nbs n).length := hq
  by_cases hqq : q < (m.nbs n).length
  ·refine Exists.elim (get_lt (m.nbs n) hqq) fun k hk => ?_
   have hkd := ints_get hk
   have hkr := nbs_in m n k (List.mem_of_getElem? hk)
   have hfs := fold_snoc (hr m s lost n) (s.at n) hk
   have hrk := g.rng k hkr.1 hkr.2
   generalize hacc : ((m.nbs n).take q).foldl (hr m s lost n) (s.at n) = acc at hfs ⊢
   have hEl : ((rndL m s lost n).set n acc).length = s.es.length := by rw [List.length_set, rndL_len]
   have hEd := ens_len ((rndL m s lost n).set n acc)
   have heg : ((rndL m s lost n).set n acc)[(n : Int).toNat]? = some acc := List.getElem?_set_self (by rw [rndL_len]; exact hnn)
   refine And.intro rfl ?_
   refine brk_lt (fun t2 => ?_) (fun t2 => ?_)
   refine ix_at hkd ?_ ?_
   (show (0 : Int) ≤ (↑q : Int); omega)
   refine Exists.intro _ (And.intro (c109 lost _ _ hll) ?_)
   refine brk_intro (fun t3 => ?_) (fun t3 => ?_)
   refine Exists.intro _ (And.intro (c118 m s k n hf hkr.1 (by omega) hrk.2.1) ?_)
   refine Exists.intro _ (Exists.intro _ (And.intro (c117i_119 m s n (ofX m s k n) acc (ofB m s k n) ((rndL m s lost n).set n acc) _ (by omega) heg (by omega)) ?_))
   refine ar_add ?_ ?_
   refine And.intro ?_ ?_
   (show (-9223372036854775808 : Int) ≤ (↑q : Int) + (1 : Int); omega)
   (show (↑q : Int) + (1 : Int) ≤ (9223372036854775807 : Int); omega)
   rotate_left
   refine ar_add ?_ ?_
   refine And.intro ?_ ?_
   (show (-9223372036854775808 : Int) ≤ (↑q : Int) + (1 : Int); omega)
   (show (↑q : Int) + (1 : Int) ≤ (9223372036854775807 : Int); omega)
   rotate_left
   (exfalso; omega)
   ·refine ⟨q + 1, ⟨hqq, by show (m.nbs n).length - (q + 1) < (m.nbs n).length - q; omega⟩, ?_⟩
    rw [hfs, hrs_hr m s lost n k acc _ (by rw [rndL_len]; exact hnn) (by simpa using t3)]; rfl
   ·refine ⟨q + 1, ⟨hqq, by show (m.nbs n).length - (q + 1) < (m.nbs n).length - q; omega⟩, ?_⟩
    rw [hfs, hr_lost m s lost n k acc (by simpa using t3)]; rfl
  ·have eq : q = (m.nbs n).length := by omega
   subst eq
   rw [List.take_length]
   refine And.intro rfl ?_
   refine brk_lt (fun t2 => ?_) (fun t2 => ?_)
   (exfalso; omega)
   refine ar_add ?_ ?_
   refine And.intro ?_ ?_
   (show (-9223372036854775808 : Int) ≤ (↑n : Int) + (1 : Int); omega)
   (show (↑n : Int) + (1 : Int) ≤ (9223372036854775807 : Int); omega)
   rotate_left
   refine ⟨n + 1, ⟨hnn, by show s.es.length - (n + 1) < s.es.length - n; omega⟩, ?_⟩
   rw [show List.foldl (hr m s lost n) (s.at n) (m.nbs n) = roundE m s lost n from rfl, rndL_next m s lost hnn]; rfl
 ·have en : n = s.es.length := by omega
  subst en
  have hfin : (ens (rndL m s lost s.es.length)).length = (ens s.es).length := by rw [ens_len, rndL_len, hl]
  refine And.intro rfl ?_
  refine brk_lt (fun t1 => ?_) (fun t1 => ?_)
  (exfalso; omega)
  refine And.intro ?_ ?_
  assumption
  exact rfl
end Vc
set_option maxRecDepth 10000
set_option maxHeartbeats 4000000
namespace Vc
open Go Go.Proofs
def ir56 : AFun := ⟨51, 9, [.cell 8 3 true, .tmp 9],
 (.seq
 (.reg [0, 1, 2] [⟨some 4, .cbx 0 2 (.tmp 0), none⟩,
 ⟨some 5, .cbx 1 3 (.tmp 1), none⟩,
 ⟨some 8, .alloc 2 [(.d (.int .i64 0)), (.d (.int .i64 0)), (.nils 3)], none⟩,
 ⟨some 9, .mov (.cst (.d (.int .i64 0))), none⟩])
 (.seq
 (.seq
 (.reg [] [⟨some 13, .ld true 2 (.tmp 4), none⟩,
 ⟨some 14, .mov (.tmp 2), none⟩,
 ⟨some 15, .mov (.tmp 3), none⟩,
 ⟨some 16, .call 67 [(.tmp 13), (.tmp 14), (.tmp 15)], none⟩,
 ⟨some 17, .cmp .eql (.tmp 16) (.cst (.d (.int .i64 0))), none⟩])
 (.cond (.tmp 17)
 (.seq
 (.reg [] [⟨some 18, .build [(.d (.int .i64 0)), (.d (.int .i64 0)), (.nils 3)] [], none⟩,
 ⟨none, .st 3 (.tmp 8) (.tmp 18), none⟩,
 ⟨some 9, .mov (.cst (.d (.int .i64 7))), none⟩])
 .ret)
 .skip))
 (.seq
 (.reg [3] [⟨some 19, .ld true 3 (.tmp 5), none⟩,
 ⟨some 20, .calli 103 [(.tmp 19)], none⟩,
 ⟨some 10, .alloc 3 [(.d (.int .i64 0)), (.d (.int .i64 0)), (.nils 3)], none⟩,
 ⟨none, .st 3 (.tmp 10) (.tmp 20), none⟩])
 (.seq
 (.reg [4] [⟨some 22, .ld true 2 (.tmp 4), none⟩,
 ⟨some 23, .ld true 3 (.tmp 5), none⟩,
 ⟨some 24, .mov (.tmp 3), none⟩,
 ⟨some 25, .mov (.tmp 2), none⟩,
 ⟨some 26, .call 121 [(.tmp 22), (.tmp 23), (.tmp 24), (.tmp 25)], none⟩,
 ⟨some 21, .mov (.tmp 26), none⟩,
 ⟨some 27, .ext 0 (.tmp 21), none⟩,
 ⟨some 28, .ext 1 (.tmp 21), none⟩,
 ⟨some 11, .alloc 4 [(.d (.int .i64 0)), (.d (.int .i64 0)), (.d (.int .i64 0))], none⟩,
 ⟨none, .st 3 (.tmp 11) (.tmp 27), none⟩,
 ⟨some 12, .mov (.tmp 28), none⟩])
 (.seq
 (.seq
 (.regd [] [⟨some 29, .mov (.tmp 12), none⟩,
 ⟨some 30, .mov (.tmp 29), none⟩,
 ⟨some 31, .mov (.tmp 2), some (30, true)⟩,
 ⟨some 32, .fad 0 (.tmp 5), some (30, true)⟩,
 ⟨some 33, .ld false 1 (.tmp 32), some (30, true)⟩,
 ⟨some 34, .cmp .neq (.tmp 31) (.tmp 33), some (30, true)⟩,
 ⟨some 35, .pick (.tmp 30) (.tmp 34) (.cst (.d (.bool false))), none⟩,
 ⟨some 36, .mov (.tmp 35), none⟩,
 ⟨some 37, .ld true 3 (.tmp 11), some (36, true)⟩,
 ⟨some 38, .fad 2 (.tmp 5), some (36, true)⟩,
 ⟨some 39, .ld false 1 (.tmp 38), some (36, true)⟩,
 ⟨some 40, .mov (.tmp 2), some (36, true)⟩,
 ⟨some 41, .ixa 3 (.tmp 39) (.tmp 40), some (36, true)⟩,
 ⟨some 42, .ld true 3 (.tmp 41), some (36, true)⟩,
 ⟨some 43, .call 122 [(.tmp 37), (.tmp 42)], some (36, true)⟩,
 ⟨some 44, .pick (.tmp 36) (.tmp 43) (.cst (.d (.bool false))), none⟩] [(2, 3), (2, 4), (8, 9), (8, 10), (8, 11), (9, 11), (10, 11), (8, 12), (8, 13)])
 (.cond (.tmp 44)
 (.reg [] [⟨some 45, .fad 2 (.tmp 10), none⟩,
 ⟨some 46, .ld false 1 (.tmp 45), none⟩,
 ⟨some 47, .mov (.tmp 2), none⟩,
 ⟨some 48, .ld true 3 (.tmp 11), none⟩,
 ⟨some 49, .ixa 3 (.tmp 46) (.tmp 47), none⟩,
 ⟨none, .st 3 (.tmp 49) (.tmp 48), none⟩])
 .skip))
 (.seq
 (.reg [] [⟨some 50, .ld true 3 (.tmp 10), none⟩,
 ⟨none, .st 3 (.tmp 8) (.tmp 50), none⟩,
 ⟨some 9, .mov (.cst (.d (.int .i64 0))), none⟩])
 .ret))))))⟩
def ir57 : AFun := ⟨63, 9, [.cell 6 3 true],
 (.seq
 (.reg [0, 1, 2] [⟨some 3, .cbx 0 2 (.tmp 0), none⟩,
 ⟨some 4, .cbx 1 3 (.tmp 1), none⟩,
 ⟨some 6, .alloc 2 [(.d (.int .i64 0)), (.d (.int .i64 0)), (.nils 3)], none⟩])
 (.seq
 (.reg [3] [⟨some 12, .ld true 3 (.tmp 4), none⟩,
 ⟨some 13, .calli 103 [(.tmp 12)], none⟩,
 ⟨some 7, .alloc 3 [(.d (.int .i64 0)), (.d (.int .i64 0)), (.nils 3)], none⟩,
 ⟨none, .st 3 (.tmp 7) (.tmp 13), none⟩])
 (.seq
 (.seq
 (.reg [] [⟨some 8, .mov (.cst (.d (.int .i64 0))), none⟩])
 (.post [6, 7] [0, 1, 2, 3, 4]
 (.block 0
 (.keep [2, 3, 4, 6, 7, 8] [0, 1, 2, 3]
 (.loop
 (.post [2, 3, 4, 6, 7, 8] [4]
 (.seq
 (.seq
 (.reg [] [⟨some 14, .mov (.tmp 8), none⟩,
 ⟨some 15, .fad 0 (.tmp 3), none⟩,
 ⟨some 16, .ld false 1 (.tmp 15), none⟩,
 ⟨some 17, .len (.tmp 16), none⟩,
 ⟨some 18, .cmp .lss (.tmp 14) (.tmp 17), none⟩])
 (.cond (.tmp 18)
 .skip
 (.exit 0)))
 (.seq
 (.block 1
 (.seq
 (.seq
 (.reg [] [⟨some 21, .mov (.tmp 8), none⟩,
 ⟨some 22, .fad 0 (.tmp 4), none⟩,
 ⟨some 23, .ld false 1 (.tmp 22), none⟩,
 ⟨some 24, .cmp .eql (.tmp 21) (.tmp 23), none⟩])
 (.cond (.tmp 24)
 (.exit 1)
 .skip))
 (.seq
 (.reg [] [⟨some 9, .mov (.cst (.d (.int .i64 0))), none⟩])
 (.post [2, 3, 4, 6, 7, 8] [0, 1, 2, 3, 4]
 (.block 2
 (.keep [2, 3, 4, 6, 7, 8, 9] [0, 1, 2, 3]
 (.loop
 (.post [2, 3, 4, 6, 7, 8, 9] [4]
 (.seq
 (.seq
 (.reg [] [⟨some 25, .mov (.tmp 9), none⟩,
 ⟨some 26, .fad 0 (.tmp 3), none⟩,
 ⟨some 27, .ld false 1 (.tmp 26), none⟩,
 ⟨some 28, .len (.tmp 27), none⟩,
 ⟨some 29, .cmp .lss (.tmp 25) (.tmp 28), none⟩])
 (.cond (.tmp 29)
 .skip
 (.exit 2)))
 (.seq
 (.block 3
 (.seq
 (.reg [4] [⟨some 33, .ld true 2 (.tmp 3), none⟩,
 ⟨some 34, .ld true 3 (.tmp 4), none⟩,
 ⟨some 35, .mov (.tmp 9), none⟩,
 ⟨some 36, .mov (.tmp 8), none⟩,
 ⟨some 37, .call 121 [(.tmp 33), (.tmp 34), (.tmp 35), (.tmp 36)], none⟩,
 ⟨some 32, .mov (.tmp 37), none⟩,
 ⟨some 38, .ext 0 (.tmp 32), none⟩,
 ⟨some 39, .ext 1 (.tmp 32), none⟩,
 ⟨some 10, .alloc 4 [(.d (.int .i64 0)), (.d (.int .i64 0)), (.d (.int .i64 0))], none⟩,
 ⟨none, .st 3 (.tmp 10) (.tmp 38), none⟩,
 ⟨some 11, .mov (.tmp 39), none⟩])
 (.seq
 (.regd [] [⟨some 40, .mov (.tmp 11), none⟩,
 ⟨some 41, .mov (.tmp 40), none⟩,
 ⟨some 42, .mov (.tmp 2), some (41, true)⟩,
 ⟨some 43, .mov (.tmp 8), some (41, true)⟩,
 ⟨some 44, .mov (.tmp 9), some (41, true)⟩,
 ⟨some 45, .call 110 [(.tmp 42), (.tmp 43), (.tmp 44)], some (41, true)⟩,
 ⟨some 46, .not (.tmp 45), some (41, true)⟩,
 ⟨some 47, .pick (.tmp 41) (.tmp 46) (.cst (.d (.bool false))), none⟩,
 ⟨some 48, .mov (.tmp 47), none⟩,
 ⟨some 49, .ld true 3 (.tmp 10), some (48, true)⟩,
 ⟨some 50, .fad 2 (.tmp 7), some (48, true)⟩,
 ⟨some 51, .ld false 1 (.tmp 50), some (48, true)⟩,
 ⟨some 52, .mov (.tmp 8), some (48, true)⟩,
 ⟨some 53, .ixa 3 (.tmp 51) (.tmp 52), some (48, true)⟩,
 ⟨some 54, .ld true 3 (.tmp 53), some (48, true)⟩,
 ⟨some 55, .call 122 [(.tmp 49), (.tmp 54)], some (48, true)⟩,
 ⟨some 56, .pick (.tmp 48) (.tmp 55) (.cst (.d (.bool false))), none⟩] [(2, 3), (2, 4), (3, 4), (9, 10), (9, 11), (9, 12), (10, 12), (11, 12), (9, 13), (9, 14)])
 (.cond (.tmp 56)
 (.reg [] [⟨some 57, .fad 2 (.tmp 7), none⟩,
 ⟨some 58, .ld false 1 (.tmp 57), none⟩,
 ⟨some 59, .mov (.tmp 8), none⟩,
 ⟨some 60, .ld true 3 (.tmp 10), none⟩,
 ⟨some 61, .ixa 3 (.tmp 58) (.tmp 59), none⟩,
 ⟨none, .st 3 (.tmp 61) (.tmp 60), none⟩])
 .skip))))
 (.reg [] [⟨some 30, .mov (.tmp 9), none⟩,
 ⟨some 31, .arith .add .i64 (.tmp 30) (.cst (.d (.int .i64 1))), none⟩,
 ⟨some 9, .mov (.tmp 31), none⟩])))))))))))
 (.reg [] [⟨some 19, .mov (.tmp 8), none⟩,
 ⟨some 20, .arith .add .i64 (.tmp 19) (.cst (.d (.int .i64 1))), none⟩,
 ⟨some 8, .mov (.tmp 20), none⟩])))))))))
 (.seq
 (.reg [] [⟨some 62, .ld true 3 (.tmp 7), none⟩,
 ⟨none, .st 3 (.tmp 6) (.tmp 62), none⟩])
 .ret))))⟩
def ofRB (m : Ms) (s : Sts) (fr w : Int) : Bool := ofB m s fr w && !(betw m.ls fr w == 0)
def ofRX (m : Ms) (s : Sts) (fr w : Int) : En := bif ofRB m s fr w then ofE m s fr w else ⟨0, 0, 0⟩
theorem ofR_1 {m : Ms} {s : Sts} {fr w : Int} (h : (s.at fr).ne = -1) : ofRB m s fr w = false := by unfold ofRB; rw [ofB_1 h]; rfl
theorem ofR_2 {m : Ms} {s : Sts} {fr w : Int} (h : betw m.ls fr w = 0) : ofRB m s fr w = false := by unfold ofRB; rw [h]; simp
theorem ofR_3 {m : Ms} {s : Sts} {fr w : Int} (h : 3200 < (s.at fr).di + betw m.ls fr w) : ofRB m s fr w = false := by unfold ofRB ofB; rw [decide_eq_false (show ¬ (s.at fr).di + betw m.ls fr w ≤ 3200 by omega)]; simp
theorem ofR_4 {m : Ms} {s : Sts} {fr w : Int} (h1 : ¬ (s.at fr).ne = -1) (h2 : ¬ betw m.ls fr w = 0) (h3 : ¬ 3200 < (s.at fr).di + betw m.ls fr w) : ofRB m s fr w = true := by
 unfold ofRB ofB
 rw [decide_eq_true (show (s.at fr).di + betw m.ls fr w ≤ 3200 by omega), show ((s.at fr).ne == -1) = false by simpa using h1, show (betw m.ls fr w == 0) = false by simpa using h2]; rfl
theorem c121 (m : Ms) (s : Sts) (fr w : Int) (hf : m.fine) (h0 : 0 ≤ fr) (h1 : fr.toNat < s.es.length) (hd : 0 ≤ (s.at fr).di ∧ (s.at fr).di ≤ 3200) (hne : -1 ≤ (s.at fr).ne) : CallDet Tryz.prog 121 [.d m.d, .d s.d, .d (.int .i64 fr), .d (.int .i64 w)] [.agg [.int .i64 (ofRX m s fr w).nu, .int .i64 (ofRX m s fr w).di, .int .i64 (ofRX m s fr w).ne], .bool (ofRB m s fr w)] := by
 have hx := ens_atI (Sts.at_getI h1)
 have hc := hf.rng fr w
 have h128 := hf.l128
 have no : ofRB m s fr w = false → resV [.agg [.int .i64 0, .int .i64 0, .int .i64 0], .bool false] = resV [.agg [.int .i64 (ofRX m s fr w).nu, .int .i64 (ofRX m s fr w).di, .int .i64 (ofRX m s fr w).ne], .bool (ofRB m s fr w)] := fun h => by unfold ofRX; rw [h]; rfl
 have yes : ofRB m s fr w = true → resV [.agg [.int .i64 (s.at fr).nu, .int .i64 ((s.at fr).di + betw m.ls fr w), .int .i64 fr], .bool true] = resV [.agg [.int .i64 (ofRX m s fr w).nu, .int .i64 (ofRX m s fr w).di, .int .i64 (ofRX m s fr w).ne], .bool (ofRB m s fr w)] := fun h => by unfold ofRX; rw [h]; rfl
 refine call_of_vc (x := ir121) (by kernel_rfl) rfl ?_
 refine ix_at hx ?_ ?_
 assumption
 refine Exists.intro _ (And.intro (c67 m _ _ (by omega) hf.asc) ?_)
 refine And.intro rfl ?_
 refine brk_lt (fun t1 => ?_) (fun t1 => ?_)
 refine And.intro rfl ?_
 refine And.intro rfl ?_
 rotate_left
 refine And.intro rfl ?_
 refine brk_eq (fun t2 => ?_) (fun t2 => ?_)
 refine And.intro rfl ?_
 rotate_left
 refine ar_add ?_ ?_
 refine And.intro ?_ ?_
 (show (-9223372036854775808 : Int) ≤ En.di (Sts.at s fr) + betw (Ms.ls m) fr w; omega)
 (show En.di (Sts.at s fr) + betw (Ms.ls m) fr w ≤ (9223372036854775807 : Int); omega)
 refine And.intro rfl ?_
 refine brk_lt (fun t3 => ?_) (fun t3 => ?_)
 rotate_left
 refine ar_add ?_ ?_
 refine And.intro ?_ ?_
 (show (-9223372036854775808 : Int) ≤ En.di (Sts.at s fr) + betw (Ms.ls m) fr w; omega)
 (show En.di (Sts.at s fr) + betw (Ms.ls m) fr w ≤ (9223372036854775807 : Int); omega)
 rotate_left
 all_goals first
  | exact no (ofR_1 (by omega))
  | exact no (ofR_2 (by assumption))
  | exact no (ofR_3 (by assumption))
  | exact yes (ofR_4 (by omega) (by assumption) (by assumption))
  | skip
theorem ens_set2 (E : List En) (n : Nat) (a x : En) : ens (E.set n x) = (ens (E.set n a)).set n x.d := by rw [← ens_set, List.set_set]
theorem hr_ref (m : Ms) (s : Sts) (lost : List (Int × Int)) (n k : Int) (acc : En) : hr m s lost n acc k = acc ∨ (ofB m s k n = true ∧ n ≠ s.co ∧ lostB lost n k = false ∧ (ofE m s k n).betB acc = true ∧ hr m s lost n acc k = ofE m s k n) := by
 unfold hr
 cases hb : hrB m s lost n k acc
 ·exact .inl rfl
 ·right
  unfold hrB at hb
  simp only [Bool.and_eq_true, Bool.not_eq_true', beq_eq_false_iff_ne] at hb
  exact ⟨hb.2.1, hb.1, hb.2.2.1, hb.2.2.2, rfl⟩
theorem hr_not {m : Ms} {s : Sts} {lost : List (Int × Int)} {n k : Int} {acc : En} (h : n = s.co ∨ ofB m s k n = false ∨ lostB lost n k = true ∨ (ofE m s k n).betB acc = false) : hr m s lost n acc k = acc := by
 rcases hr_ref m s lost n k acc with e | ⟨h1, h2, h3, h4, _⟩
 ·exact e
 ·rcases h with h | h | h | h
  ·exact absurd h h2
  ·rw [h] at h1; cases h1
  ·rw [h] at h3; cases h3
  ·rw [h] at h4; cases h4
theorem hr_yes {m : Ms} {s : Sts} {lost : List (Int × Int)} {n k : Int} {acc : En} (h1 : ofB m s k n = true) (h2 : n ≠ s.co) (h3 : lostB lost n k = false) (h4 : (ofE m s k n).betB acc = true) : hr m s lost n acc k = ofE m s k n := by
 unfold hr hrB
 rw [h1, h3, h4, show (n == s.co) = false by simpa using h2]; rfl
theorem ofR_B {m : Ms} {s : Sts} {k n : Int} (h : ofRB m s k n = true) : ofB m s k n = true ∧ betw m.ls k n ≠ 0 ∧ ofRX m s k n = ofE m s k n := by
 have h0 := h
 unfold ofRB at h
 simp only [Bool.and_eq_true, Bool.not_eq_true', beq_eq_false_iff_ne] at h
 exact ⟨h.1, h.2, by unfold ofRX; rw [h0]; rfl⟩
theorem ofR_no {m : Ms} {s : Sts} {k n : Int} (h : ofRB m s k n = false) (hb : betw m.ls k n ≠ 0) : ofB m s k n = false := by
 unfold ofRB at h
 rw [show (betw m.ls k n == 0) = false by simpa using hb] at h
 simpa using h
theorem nbs_fold (m : Ms) (s : Sts) (lost : List (Int × Int)) (n : Int) (k : Nat) (acc : En) : (Vc.nbs m n (k + 1)).foldl (hr m s lost n) acc = bif decide (0 < betw m.ls n k) then hr m s lost n ((Vc.nbs m n k).foldl (hr m s lost n) acc) k else (Vc.nbs m n k).foldl (hr m s lost n) acc := by
 rw [Vc.nbs, List.foldl_append]
 cases decide (0 < betw m.ls n k) <;> rfl
def Sts.heard (s : Sts) (m : Ms) (w fr : Int) : Sts := ⟨s.co, s.nu, s.es.set w.toNat (hr m s [] w (s.at w) fr)⟩
def heaE (m : Ms) (w fr : Int) : Int := bif betw m.ls w fr == 0 then 7 else 0
theorem c103i_56 (s : Sts) (m : Ms) (hn : s.es.length ≤ 1048576) : CallIn Tryz.prog 103 [.d s.d] [.cbox [.slice 1 (strs m.ns), .slice 3 (lks m.ls)], .cbox [.int .i64 s.co, .int .i64 s.nu, .slice 3 (ens s.es)], .box [.d (.int .i64 0), .d (.int .i64 0), .nils 3], .none, .none, .none, .none, .none, .none] (.agg [.d (.int .i64 s.co), .d (.int .i64 s.nu), .sl 7 (ens s.es).length])
  (setAll [.cbox [.slice 1 (strs m.ns), .slice 3 (lks m.ls)], .cbox [.int .i64 s.co, .int .i64 s.nu, .slice 3 (ens s.es)], .box [.d (.int .i64 0), .d (.int .i64 0), .nils 3], .none, .none, .none, .none, .none, .none] [(5, .box [.d (.int .i64 s.co), .d (.int .i64 s.nu), .sl 7 (ens s.es).length]), (6, .box [.d (.int .i64 s.co), .d (.int .i64 s.nu), .sl 7 (ens s.es).length]), (7, .row 106 3 (ens s.es) false)]) := by
 have hl := ens_len s.es
 refine callIn_of_vc 5 (x := ir103) (by kernel_rfl) rfl rfl rfl ?_
 refine And.intro rfl ?_
 refine And.intro rfl ?_
 refine And.intro ?_ ?_
 refine And.intro ?_ ?_
 exact rfl
 refine And.intro ?_ ?_
 exact rfl
 refine And.intro ?_ ?_
 exact rfl
 refine And.intro ?_ ?_
 (show ((0 : Nat) + List.length (ens (Sts.es s))) * (24 : Nat) ≤ (2 : Nat) ^ (47 : Nat); omega)
 (show (0 : Nat) + List.length (ens (Sts.es s)) ≤ (2 : Nat) ^ (47 : Nat); omega)
 refine And.intro rfl ?_
 refine And.intro rfl ?_
 exact rfl
theorem c56 (m : Ms) (s : Sts) (w fr : Int) (g : Good m s) (hw : 0 ≤ w ∧ w < (m.ns.length : Int)) (hr2 : 0 ≤ fr ∧ fr < (m.ns.length : Int)) : CallDet Tryz.prog 56 [.d m.d, .d s.d, .d (.int .i64 w), .d (.int .i64 fr)] [(bif heaE m w fr != 0 then Sts.zero else s.heard m w fr).d, .int .i64 (heaE m w fr)] := by
 have hf := chk_fine g.chk
 have hl := ens_len s.es
 have hle := g.len
 have h32 := hf.n32
 have h128 := hf.l128
 have hrk := g.rng fr hr2.1 hr2.2
 have hbc := betw_comm m.ls w fr
 have bad : betw m.ls w fr = 0 → resV [.agg [.int .i64 0, .int .i64 0, .slice 3 []], .int .i64 7] = resV [(bif heaE m w fr != 0 then Sts.zero else s.heard m w fr).d, .int .i64 (heaE m w fr)] := fun h => by unfold heaE; rw [h]; rfl
 have fin : ¬ betw m.ls w fr = 0 → ∀ X, X = ens (s.heard m w fr).es → resV [.agg [.int .i64 s.co, .int .i64 s.nu, .slice 3 X], .int .i64 0] = resV [(bif heaE m w fr != 0 then Sts.zero else s.heard m w fr).d, .int .i64 (heaE m w fr)] := fun h X hX => by
  have e : heaE m w fr = 0 := by unfold heaE; rw [show (betw m.ls w fr == 0) = false by simpa using h]; rfl
  rw [e, hX]; rfl
 have hx := ens_atI (Sts.at_getI (s := s) (i := w) (by omega))
 have same : s.es.set w.toNat (s.at w) = s.es := by
  apply List.ext_getElem?
  intro i
  by_cases e : w.toNat = i
  ·subst e; rw [List.getElem?_set_self (by omega), Sts.at_getI (by omega)]
  ·rw [List.getElem?_set_ne e]
 have stay : hr m s [] w (s.at w) fr = s.at w → ens s.es = ens (s.heard m w fr).es := fun h => by unfold Sts.heard; rw [h]; show _ = ens (s.es.set _ _); rw [same]
 refine call_of_vc (x := ir56) (by kernel_rfl) rfl ?_
 refine Exists.intro _ (And.intro (c67 m _ _ (by omega) hf.asc) ?_)
 refine And.intro rfl ?_
 refine brk_eq (fun t1 => ?_) (fun t1 => ?_)
 rotate_left
 refine Exists.intro _ (Exists.intro _ (And.intro (c103i_56 s m (by omega)) ?_))
 refine Exists.intro _ (And.intro (c121 m s fr w hf hr2.1 (by omega) hrk.2.1 hrk.2.2.1) ?_)
 refine brk_intro (fun t2 => ?_) (fun t2 => ?_)
 refine And.intro rfl ?_
 refine brk_ne (fun t3 => ?_) (fun t3 => ?_)
 refine ix_at hx ?_ ?_
 (show (0 : Int) ≤ w; omega)
 refine Exists.intro _ (And.intro (c122 _ (s.at w)) ?_)
 refine brk_intro (fun t4 => ?_) (fun t4 => ?_)
 replace t4 : En.betB (ofRX m s fr w) (Sts.at s w) = true := t4
 refine And.intro ?_ ?_
 refine And.intro ?_ ?_
 exact rfl
 refine And.intro ?_ ?_
 exact rfl
 refine And.intro ?_ ?_
 (show (0 : Int) ≤ w; omega)
 (show w < (↑(List.length (ens (Sts.es s))) : Int); omega)
 refine Exists.intro _ (Exists.intro (Vc.Data.agg [Data.int IntKind.i64 (En.nu (ofRX m s fr w)), Data.int IntKind.i64 (En.di (ofRX m s fr w)), Data.int IntKind.i64 (En.ne (ofRX m s fr w))]) (And.intro (And.intro ?_ (And.intro hx (And.intro rfl (And.intro ?_ (And.intro rfl rfl))))) ?_))
 exact rfl
 (show (0 : Nat) + (3 : Nat) ≤ (1 : Nat) + (1 : Nat) + (1 : Nat); omega)
 refine And.intro ?_ ?_
 focus (show List.length (List.set (ens (Sts.es s)) (Int.toNat w) (Data.agg [Data.int IntKind.i64 (En.nu (ofRX m s fr w)), Data.int IntKind.i64 (En.di (ofRX m s fr w)), Data.int IntKind.i64 (En.ne (ofRX m s fr w))])) = List.length (ens (Sts.es s)); simp only [List.length_replicate, List.length_set, List.length_append, List.length_take, List.length_drop]; done)
 rotate_left
 replace t4 : En.betB (ofRX m s fr w) (Sts.at s w) = false := t4
 refine And.intro rfl ?_
 rotate_left
 refine And.intro rfl ?_
 refine And.intro rfl ?_
 rotate_left
 refine And.intro rfl ?_
 refine And.intro rfl ?_
 refine And.intro rfl ?_
 rotate_left
 ·exact bad t1
 ·have h := ofR_B t2
  refine fin t1 _ ?_
  show _ = ens (s.es.set w.toNat (hr m s [] w (s.at w) fr))
  rw [hr_yes h.1 (by omega) rfl (by rw [← h.2.2]; assumption), ens_set, h.2.2]; rfl
 ·have h := ofR_B t2
  exact fin t1 _ (stay (hr_not (.inr (.inr (.inr (by rw [← h.2.2]; assumption))))))
 ·exact fin t1 _ (stay (hr_not (.inl (by omega))))
 ·exact fin t1 _ (stay (hr_not (.inr (.inl (ofR_no t2 (by omega))))))
theorem c103i_57 (s : Sts) (m : Ms) (hn : s.es.length ≤ 1048576) : CallIn Tryz.prog 103 [.d s.d] [.cbox [.slice 1 (strs m.ns), .slice 3 (lks m.ls)], .cbox [.int .i64 s.co, .int .i64 s.nu, .slice 3 (ens s.es)], .box [.d (.int .i64 0), .d (.int .i64 0), .nils 3], .none, .none, .none, .none, .none, .none] (.agg [.d (.int .i64 s.co), .d (.int .i64 s.nu), .sl 7 (ens s.es).length])
  (setAll [.cbox [.slice 1 (strs m.ns), .slice 3 (lks m.ls)], .cbox [.int .i64 s.co, .int .i64 s.nu, .slice 3 (ens s.es)], .box [.d (.int .i64 0), .d (.int .i64 0), .nils 3], .none, .none, .none, .none, .none, .none] [(5, .box [.d (.int .i64 s.co), .d (.int .i64 s.nu), .sl 7 (ens s.es).length]), (6, .box [.d (.int .i64 s.co), .d (.int .i64 s.nu), .sl 7 (ens s.es).length]), (7, .row 106 3 (ens s.es) false)]) := by
 have hl := ens_len s.es
 refine callIn_of_vc 5 (x := ir103) (by kernel_rfl) rfl rfl rfl ?_
 refine And.intro rfl ?_
 refine And.intro rfl ?_
 refine And.intro ?_ ?_
 refine And.intro ?_ ?_
 exact rfl
 refine And.intro ?_ ?_
 exact rfl
 refine And.intro ?_ ?_
 exact rfl
 refine And.intro ?_ ?_
 (show ((0 : Nat) + List.length (ens (Sts.es s))) * (24 : Nat) ≤ (2 : Nat) ^ (47 : Nat); omega)
 (show (0 : Nat) + List.length (ens (Sts.es s)) ≤ (2 : Nat) ^ (47 : Nat); omega)
 refine And.intro rfl ?_
 refine And.intro rfl ?_
 exact rfl
theorem c57 (m : Ms) (s : Sts) (lost : List (Int × Int)) (g : Good m s) (hll : lost.length ≤ 1048576) : CallDet Tryz.prog 57 [.d m.d, .d s.d, .d (.slice 2 (prs lost))] [(s.round m lost).d] := by
 have hf := chk_fine g.chk
 have hl := ens_len s.es
 have hsl := strs_len m.ns
 have hle := g.len
 have h32 := hf.n32
 have h128 := hf.l128
 refine call_of_vc (x := ir57) (by kernel_rfl) rfl ?_
 refine Exists.intro _ (Exists.intro _ (And.intro (c103i_57 s m (by omega)) ?_))
 rotate_left
 refine loop_u (fun a : Nat => [(8, .d (.int .i64 a))]) (fun a => [(7, .row 106 3 (ens (rndL m s lost a)) false)]) (fun a => a ≤ s.es.length) (fun a => s.es.length - a) 0 (by rw [rndL_zero]; rfl) (Nat.zero_le _) ?_
 intro n hn
 have hn : n ≤ s.es.length := hn
 by_cases hnn : n < s.es.length
 ·by_cases hco : (n : Int) = s.co
  ·have e0 : roundE m s lost n = s.at n := by
    unfold roundE
    rcases (hr_fold m s lost n (m.nbs n) (s.at n)).1 with e | ⟨fr, _, hb, _⟩
    ·exact e
    ·unfold hrB at hb; rw [show ((n : Int) == s.co) = true by simpa using hco] at hb; cases hb
   refine And.intro rfl ?_
   refine brk_lt (fun t1 => ?_) (fun t1 => ?_)
   refine And.intro rfl ?_
   refine brk_eq (fun t2 => ?_) (fun t2 => ?_)
   refine ar_add ?_ ?_
   refine And.intro ?_ ?_
   (show (-9223372036854775808 : Int) ≤ (↑n : Int) + (1 : Int); omega)
   (show (↑n : Int) + (1 : Int) ≤ (9223372036854775807 : Int); omega)
   rotate_left
   (exfalso; omega)
   (exfalso; omega)
   refine ⟨n + 1, ⟨hnn, by show s.es.length - (n + 1) < s.es.length - n; omega⟩, ?_⟩
   rw [← rndL_next m s lost hnn, e0, rndL_start m s lost hnn]; rfl
  ·refine And.intro rfl ?_
   refine brk_lt (fun t1 => ?_) (fun t1 => ?_)
   refine And.intro rfl ?_
   refine brk_eq (fun t2 => ?_) (fun t2 => ?_)
   (exfalso; omega)
   rotate_left
   (exfalso; omega)
   refine loop_u (fun a : Nat => [(9, .d (.int .i64 a))]) (fun a => [(7, .row 106 3 (ens ((rndL m s lost n).set n ((Vc.nbs m n a).foldl (hr m s lost n) (s.at n)))) false)]) (fun a => a ≤ m.ns.length) (fun a => m.ns.length - a) 0 (by show _ = St.upd _ _ [(7, .row 106 3 (ens ((rndL m s lost n).set n (s.at n))) false)]; rw [rndL_start m s lost hnn]; rfl) (Nat.zero_le _) ?_
   intro k hk
   have hk : k ≤ m.ns.length := hk
   by_cases hkk : k < m.ns.length
   ·have hrk := g.rng k (by omega) (by omega)
    have hbc := betw_comm m.ls n k
    have hcr := hf.rng n k
    have hfs := nbs_fold m s lost n k (s.at n)
    generalize hacc : (Vc.nbs m n k).foldl (hr m s lost n) (s.at n) = acc at hfs ⊢
    have hEl : ((rndL m s lost n).set n acc).length = s.es.length := by rw [List.length_set, rndL_len]
    have hEd := ens_len ((rndL m s lost n).set n acc)
    have heg : ((rndL m s lost n).set n acc)[(n : Int).toNat]? = some acc := List.getElem?_set_self (by rw [rndL_len]; exact hnn)
    have hed := ens_atI heg
    have nx : (bif decide (0 < betw m.ls n k) then hr m s lost n acc k else acc) = acc → ens ((rndL m s lost n).set n acc) = ens ((rndL m s lost n).set n ((Vc.nbs m n (k + 1)).foldl (hr m s lost n) (s.at n))) := fun h => by rw [hfs, h]
    have no : hr m s lost n acc k = acc → (bif decide (0 < betw m.ls n k) then hr m s lost n acc k else acc) = acc := fun h => by rw [h]; cases decide (0 < betw m.ls n k) <;> rfl
    have nob : ofRB m s k n = false → (bif decide (0 < betw m.ls n k) then hr m s lost n acc k else acc) = acc := fun h => by
     by_cases hb : betw m.ls k n = 0
     ·rw [decide_eq_false (by omega)]; rfl
     ·exact no (hr_not (.inr (.inl (ofR_no h hb))))
    refine And.intro rfl ?_
    refine brk_lt (fun t3 => ?_) (fun t3 => ?_)
    refine Exists.intro _ (And.intro (c121 m s k n hf (by omega) (by omega) hrk.2.1 hrk.2.2.1) ?_)
    refine brk_intro (fun t4 => ?_) (fun t4 => ?_)
    refine Exists.intro _ (And.intro (c110 lost _ _ hll) ?_)
    refine brk_intro (fun t5 => ?_) (fun t5 => ?_)
    replace t5 : (!lostB lost (↑n : Int) (↑k : Int)) = true := t5
    refine And.intro ?_ ?_
    refine And.intro ?_ ?_
    exact rfl
    refine And.intro ?_ ?_
    (show List.length (ens (List.set (rndL m s lost n) n acc)) = List.length (ens (Sts.es s)); omega)
    refine And.intro ?_ ?_
    (show (0 : Int) ≤ (↑n : Int); omega)
    (show (↑n : Int) < (↑(List.length (ens (Sts.es s))) : Int); omega)
    refine And.intro ?_ ?_
    (show List.length (ens (List.set (rndL m s lost n) n acc)) = List.length (ens (Sts.es s)); omega)
    refine Exists.intro _ (And.intro hed ?_)
    refine Exists.intro _ (And.intro (c122 _ acc) ?_)
    refine brk_intro (fun t6 => ?_) (fun t6 => ?_)
    replace t6 : En.betB (ofRX m s (↑k : Int) (↑n : Int)) acc = true := t6
    refine And.intro ?_ ?_
    refine And.intro ?_ ?_
    exact rfl
    refine And.intro ?_ ?_
    (show List.length (ens (List.set (rndL m s lost n) n acc)) = List.length (ens (Sts.es s)); omega)
    refine And.intro ?_ ?_
    (show (0 : Int) ≤ (↑n : Int); omega)
    (show (↑n : Int) < (↑(List.length (ens (Sts.es s))) : Int); omega)
    refine Exists.intro _ (Exists.intro (Vc.Data.agg [Data.int IntKind.i64 (En.nu (ofRX m s (↑k : Int) (↑n : Int))), Data.int IntKind.i64 (En.di (ofRX m s (↑k : Int) (↑n : Int))), Data.int IntKind.i64 (En.ne (ofRX m s (↑k : Int) (↑n : Int)))]) (And.intro (And.intro ?_ (And.intro hed (And.intro rfl (And.intro ?_ (And.intro rfl rfl))))) ?_))
    (show List.length (ens (List.set (rndL m s lost n) n acc)) = List.length (ens (Sts.es s)); omega)
    (show (0 : Nat) + (3 : Nat) ≤ (1 : Nat) + (1 : Nat) + (1 : Nat); omega)
    refine ar_add ?_ ?_
    refine And.intro ?_ ?_
    (show (-9223372036854775808 : Int) ≤ (↑k : Int) + (1 : Int); omega)
    (show (↑k : Int) + (1 : Int) ≤ (9223372036854775807 : Int); omega)
    rotate_left
    replace t6 : En.betB (ofRX m s (↑k : Int) (↑n : Int)) acc = false := t6
    refine ar_add ?_ ?_
    refine And.intro ?_ ?_
    (show (-9223372036854775808 : Int) ≤ (↑k : Int) + (1 : Int); omega)
    (show (↑k : Int) + (1 : Int) ≤ (9223372036854775807 : Int); omega)
    rotate_left
    replace t5 : (!lostB lost (↑n : Int) (↑k : Int)) = false := t5
    refine And.intro rfl ?_
    refine ar_add ?_ ?_
    refine And.intro ?_ ?_
    (show (-9223372036854775808 : Int) ≤ (↑k : Int) + (1 : Int); omega)
    (show (↑k : Int) + (1 : Int) ≤ (9223372036854775807 : Int); omega)
    rotate_left
    refine And.intro rfl ?_
    refine And.intro rfl ?_
    refine ar_add ?_ ?_
    refine And.intro ?_ ?_
    (show (-9223372036854775808 : Int) ≤ (↑k : Int) + (1 : Int); omega)
    (show (↑k : Int) + (1 : Int) ≤ (9223372036854775807 : Int); omega)
    rotate_left
    (exfalso; omega)
    ·have h := ofR_B t4
     refine ⟨k + 1, ⟨hkk, by show m.ns.length - (k + 1) < m.ns.length - k; omega⟩, ?_⟩
     have hy : hr m s lost n acc k = ofRX m s k n := by rw [h.2.2]; exact hr_yes h.1 hco (by simpa using t5) (by rw [← h.2.2]; exact t6)
     rw [hfs, decide_eq_true (by omega : 0 < betw m.ls n k)]
     show _ = St.upd _ _ [(7, .row 106 3 (ens ((rndL m s lost n).set n (hr m s lost n acc k))) false)]
     rw [hy, ens_set2 (rndL m s lost n) n acc (ofRX m s k n)]; rfl
    ·have h := ofR_B t4
     refine ⟨k + 1, ⟨hkk, by show m.ns.length - (k + 1) < m.ns.length - k; omega⟩, ?_⟩
     rw [← nx (no (hr_not (.inr (.inr (.inr (by rw [← h.2.2]; exact t6))))))]; rfl
    ·refine ⟨k + 1, ⟨hkk, by show m.ns.length - (k + 1) < m.ns.length - k; omega⟩, ?_⟩
     rw [← nx (no (hr_not (.inr (.inr (.inl (by simpa using t5))))))]; rfl
    ·refine ⟨k + 1, ⟨hkk, by show m.ns.length - (k + 1) < m.ns.length - k; omega⟩, ?_⟩
     rw [← nx (nob t4)]; rfl
   ·have ek : k = m.ns.length := by omega
    subst ek
    refine And.intro rfl ?_
    refine brk_lt (fun t3 => ?_) (fun t3 => ?_)
    (exfalso; omega)
    refine ar_add ?_ ?_
    refine And.intro ?_ ?_
    (show (-9223372036854775808 : Int) ≤ (↑n : Int) + (1 : Int); omega)
    (show (↑n : Int) + (1 : Int) ≤ (9223372036854775807 : Int); omega)
    rotate_left
    refine ⟨n + 1, ⟨hnn, by show s.es.length - (n + 1) < s.es.length - n; omega⟩, ?_⟩
    rw [show List.foldl (hr m s lost n) (s.at n) (Vc.nbs m n m.ns.length) = roundE m s lost n from rfl, rndL_next m s lost hnn]; rfl
 ·have en : n = s.es.length := by omega
  subst en
  have hfin : (ens (rndL m s lost s.es.length)).length = (ens s.es).length := by rw [ens_len, rndL_len, hl]
  refine And.intro rfl ?_
  refine brk_lt (fun t1 => ?_) (fun t1 => ?_)
  (exfalso; omega)
  refine And.intro ?_ ?_
  assumption
  exact rfl
end Vc
set_option maxRecDepth 10000
namespace Vc
open Go Go.Proofs
theorem hit_iff {l : Lk} {a b : Int} : hit l a b = true ↔ l.a = min a b ∧ l.b = max a b := by
 unfold hit; simp
theorem betw_mem : ∀ {ls : List Lk} {a b : Int}, 0 < betw ls a b → ∃ l ∈ ls, l.c = betw ls a b ∧ l.a = min a b ∧ l.b = max a b
 | [], a, b, h => by unfold betw at h; omega
 | x :: r, a, b, h => by
  unfold betw at h ⊢
  cases hh : hit x a b
  ·rw [hh] at h
   obtain ⟨l, hl, h2⟩ := betw_mem (ls := r) h
   exact ⟨l, List.mem_cons_of_mem _ hl, h2⟩
  ·exact ⟨x, List.mem_cons_self, rfl, hit_iff.1 hh⟩
theorem betw_of : ∀ {ls : List Lk} {l : Lk}, (∀ k x, ls[k]? = some x → (ls.take k).any (fun o => sameL o x) = false) → l ∈ ls → l.a ≤ l.b → betw ls l.a l.b = l.c
 | x :: r, l, h, hl, hab => by
  unfold betw
  cases hh : hit x l.a l.b
  ·rcases List.mem_cons.1 hl with rfl | hl
   ·have : hit l l.a l.b = true := hit_iff.2 ⟨by omega, by omega⟩
    rw [this] at hh; cases hh
   ·refine betw_of (fun k y hy => ?_) hl hab
    have := h (k + 1) y hy
    rw [List.take_succ_cons, List.any_cons, Bool.or_eq_false_iff] at this
    exact this.2
  ·rcases List.mem_cons.1 hl with rfl | hl
   ·rfl
   ·exfalso
    obtain ⟨j, hj, e⟩ := List.mem_iff_getElem.1 hl
    have := h (j + 1) l (by rw [List.getElem?_cons_succ]; exact List.getElem?_eq_some_iff.2 ⟨hj, e⟩)
    rw [List.take_succ_cons, List.any_cons, Bool.or_eq_false_iff] at this
    have h2 := hit_iff.1 hh
    have h3 : sameL x l = true := by
     unfold sameL
     rw [show (x.a == l.a) = true by rw [beq_iff_eq]; omega, show (x.b == l.b) = true by rw [beq_iff_eq]; omega]; rfl
    rw [h3] at this; cases this.1
theorem Ms.fine.betw_dir {m : Ms} (h : m.fine) {u v : Nat} {c : Int} : dir m.ls u v c ↔ c = betw m.ls u v ∧ 0 < c := by
 constructor
 ·rintro ⟨l, hl, rfl, he⟩
  have hk := h.link hl
  have e := betw_of (l := l) (fun k x hx => (linkE_zero (h.links k x hx)).2.1) hl (by omega)
  refine ⟨?_, by omega⟩
  rcases he with ⟨rfl, rfl⟩ | ⟨rfl, rfl⟩
  ·rw [show ((l.a.toNat : Nat) : Int) = l.a by omega, show ((l.b.toNat : Nat) : Int) = l.b by omega, e]
  ·rw [betw_comm, show ((l.a.toNat : Nat) : Int) = l.a by omega, show ((l.b.toNat : Nat) : Int) = l.b by omega, e]
 ·rintro ⟨rfl, h0⟩
  obtain ⟨l, hl, hc, ha, hb⟩ := betw_mem h0
  refine ⟨l, hl, hc, ?_⟩
  omega
theorem nbs_iff (m : Ms) (i x : Int) : x ∈ m.nbs i ↔ 0 ≤ x ∧ x < (m.ns.length : Int) ∧ 0 < betw m.ls i x := nbs_mem m i x m.ns.length
theorem round_at (m : Ms) (s : Sts) (lost : List (Int × Int)) {k : Int} (h0 : 0 ≤ k) (h1 : k < (s.es.length : Int)) : (s.round m lost).at k = roundE m s lost k := by
 have e := rndL_get m s lost s.es.length (i := k.toNat) (by omega)
 unfold Sts.at Sts.round
 show ((rndL m s lost s.es.length)[k.toNat]?).getD _ = _
 rw [e, if_pos (by omega), show ((k.toNat : Nat) : Int) = k by omega]; rfl
theorem round_len (m : Ms) (s : Sts) (lost : List (Int × Int)) : (s.round m lost).es.length = s.es.length := rndL_len m s lost s.es.length
theorem round_step {m : Ms} {s : Sts} (g : Good m s) (lost : List (Int × Int)) {k : Int} (h0 : 0 ≤ k) (h1 : k < (m.ns.length : Int)) : (s.round m lost).at k = s.at k ∨ (k ≠ s.co ∧ ∃ u : Int, 0 ≤ u ∧ u < (m.ns.length : Int) ∧ (s.at u).ne ≠ -1 ∧ 0 < betw m.ls u k ∧ (s.at u).di + betw m.ls u k ≤ 3200 ∧ (s.round m lost).at k = ofE m s u k ∧ ((s.round m lost).at k).bet (s.at k)) := by
 rw [round_at m s lost h0 (by rw [g.len]; exact h1)]
 rcases (hr_fold m s lost k (m.nbs k) (s.at k)).1 with e | ⟨u, hu, hb, e⟩
 ·exact .inl e
 ·right
  have hn := (nbs_iff m k u).1 hu
  unfold hrB ofB at hb
  simp only [Bool.and_eq_true, Bool.not_eq_true', beq_eq_false_iff_ne, decide_eq_true_eq] at hb
  refine ⟨hb.1, u, hn.1, hn.2.1, hb.2.1.1, by rw [betw_comm]; exact hn.2.2, hb.2.1.2, e, ?_⟩
  show (roundE m s lost k).bet _
  unfold roundE
  rw [e]; exact betB_iff.1 hb.2.2.2
theorem round_best {m : Ms} {s : Sts} (g : Good m s) (lost : List (Int × Int)) {k u : Int} (h0 : 0 ≤ k) (h1 : k < (m.ns.length : Int)) (hk : k ≠ s.co) (hu : 0 ≤ u ∧ u < (m.ns.length : Int)) (hn : (s.at u).ne ≠ -1) (hb : 0 < betw m.ls u k) (hd : (s.at u).di + betw m.ls u k ≤ 3200) (hl : lostB lost k u = false) : ¬ (ofE m s u k).bet ((s.round m lost).at k) := by
 rw [round_at m s lost h0 (by rw [g.len]; exact h1)]
 have h := (hr_fold m s lost k (m.nbs k) (s.at k)).2.1 u ((nbs_iff m k u).2 ⟨hu.1, hu.2, by rw [betw_comm]; exact hb⟩)
 intro hbet
 have e : hrB m s lost k u (roundE m s lost k) = true := by
  unfold hrB ofB
  simp only [Bool.and_eq_true, Bool.not_eq_true', beq_eq_false_iff_ne, decide_eq_true_eq]
  exact ⟨hk, ⟨hn, hd⟩, hl, betB_iff.2 hbet⟩
 unfold roundE at e
 rw [h] at e; cases e
theorem Good.round {m : Ms} {s : Sts} (g : Good m s) (lost : List (Int × Int)) : Good m (s.round m lost) :=
 g.hears rfl rfl (round_len m s lost) fun _ h0 h1 => round_step g lost h0 h1
def Sts.rounds (m : Ms) (s : Sts) : Nat → Sts
 | 0 => s
 | k + 1 => (Sts.rounds m s k).round m []
theorem Good.rounds {m : Ms} {s : Sts} (g : Good m s) : ∀ k, Good m (s.rounds m k)
 | 0 => g
 | k + 1 => (Good.rounds g k).round []
theorem rounds_co (m : Ms) (s : Sts) : ∀ k, (s.rounds m k).co = s.co
 | 0 => rfl
 | k + 1 => rounds_co m s k
theorem rounds_len (m : Ms) (s : Sts) : ∀ k, (s.rounds m k).es.length = s.es.length
 | 0 => rfl
 | k + 1 => (round_len m _ _).trans (rounds_len m s k)
theorem sts_ext {s t : Sts} (hc : s.co = t.co) (hn : s.nu = t.nu) (hl : s.es.length = t.es.length) (h : ∀ v : Nat, v < s.es.length → s.at v = t.at v) : s = t := by
 have e : s.es = t.es := by
  apply List.ext_getElem?
  intro i
  by_cases hi : i < s.es.length
  ·rw [Sts.at_get hi, Sts.at_get (by omega), h i hi]
  ·rw [List.getElem?_eq_none (by omega), List.getElem?_eq_none (by omega)]
 cases s; cases t
 simp only at hc hn e
 subst hc; subst hn; subst e; rfl
theorem Good.waves {m : Ms} {s : Sts} (g : Good m s) : Waves m.ns.length (fun u v c => v ≠ s.co.toNat ∧ dir m.ls u v c) (fun k v => (s.rounds m k).at v) where
 step := fun k v hv => by
  have gk := g.rounds k
  rcases round_step gk [] (k := (v : Int)) (by omega) (by omega) with e | ⟨h1, u, h2, h3, h4, h5, h6, h7, h8⟩
  ·exact .inl e
  ·right
   have hco := g.co
   rw [rounds_co] at h1
   refine ⟨u.toNat, betw m.ls u v, by omega, ⟨by omega, (chk_fine g.chk).betw_dir.2 ⟨by rw [show ((u.toNat : Nat) : Int) = u by omega], h5⟩⟩, ?_, ?_, ?_, h8⟩
   ·rw [show ((u.toNat : Nat) : Int) = u by omega]; exact h4
   ·rw [show ((u.toNat : Nat) : Int) = u by omega]; exact h6
   ·show ((s.rounds m k).round m []).at v = _
    rw [h7, show ((u.toNat : Nat) : Int) = u by omega]; rfl
 best := fun k v u c hv hu ho hn hc => by
  have gk := g.rounds k
  have hd := (chk_fine g.chk).betw_dir.1 ho.2
  have hco := g.co
  have := round_best gk [] (k := (v : Int)) (u := (u : Int)) (by omega) (by omega) (by rw [rounds_co]; have := ho.1; omega) ⟨by omega, by omega⟩ hn (by omega) (by rw [← hd.1]; exact hc) rfl
  rw [hd.1]
  exact this
 cost := fun u v c ho => by have := ((chk_fine g.chk).betw_dir.1 ho.2).2; omega
theorem Good.rest {m : Ms} {s : Sts} (g : Good m s) {k : Nat} (hk : m.ns.length ≤ k + 1) : s.rounds m (k + 1) = s.rounds m k := by
 have gl := g.len
 refine sts_ext rfl rfl (round_len m _ _) fun v hv => ?_
 rw [rounds_len, gl] at hv
 exact g.waves.rest k v hv hk
instance : DecidableEq En := fun _ _ => decidable_of_iff _ En.same_iff
def restK (m : Ms) (s : Sts) : Nat → Nat → Nat
 | 0, k => k
 | f + 1, k => if (s.rounds m (k + 1)).es = (s.rounds m k).es then k else restK m s f (k + 1)
def Sts.K (m : Ms) (s : Sts) : Nat := restK m s m.ns.length 0
theorem restK_stop {m : Ms} {s : Sts} {f k : Nat} (h : (s.rounds m (k + 1)).es = (s.rounds m k).es) : restK m s f k = k := by
 cases f with
 | zero => rfl
 | succ f => unfold restK; rw [if_pos h]
theorem restK_go {m : Ms} {s : Sts} {f k : Nat} (h : ¬ (s.rounds m (k + 1)).es = (s.rounds m k).es) : restK m s (f + 1) k = restK m s f (k + 1) := by
 conv => lhs; unfold restK
 rw [if_neg h]
theorem Good.ne_lt {m : Ms} {s : Sts} (g : Good m s) {k : Nat} (h : ¬ (s.rounds m (k + 1)).es = (s.rounds m k).es) : k + 1 < m.ns.length := by
 rcases Nat.lt_or_ge (k + 1) m.ns.length with h1 | h1
 ·exact h1
 ·exact absurd (by rw [g.rest h1]) h
end Vc
set_option maxRecDepth 10000
set_option maxHeartbeats 4000000
namespace Vc
open Go Go.Proofs
def ir120 : AFun := ⟨26, 0, [.tmp 4],
 (.seq
 (.reg [] [⟨some 4, .mov (.cst (.d (.bool false))), none⟩])
 (.seq
 (.seq
 (.reg [] [⟨some 6, .mov (.tmp 0), none⟩,
 ⟨some 7, .len (.tmp 6), none⟩,
 ⟨some 8, .mov (.tmp 1), none⟩,
 ⟨some 9, .len (.tmp 8), none⟩,
 ⟨some 10, .cmp .neq (.tmp 7) (.tmp 9), none⟩])
 (.cond (.tmp 10)
 (.seq
 (.reg [] [⟨some 4, .mov (.cst (.d (.bool false))), none⟩])
 .ret)
 .skip))
 (.seq
 (.seq
 (.reg [] [⟨some 11, .mov (.tmp 0), none⟩,
 ⟨some 12, .len (.tmp 11), none⟩,
 ⟨some 13, .mov (.cst (.d (.int .i64 0))), none⟩])
 (.post [] []
 (.block 0
 (.keep [0, 1, 12, 13] []
 (.loop
 (.post [0, 1, 12, 13] []
 (.seq
 (.reg [] [⟨some 14, .cmp .lss (.tmp 13) (.tmp 12), none⟩])
 (.seq
 (.cond (.tmp 14)
 .skip
 (.exit 0))
 (.seq
 (.block 1
 (.seq
 (.reg [] [⟨some 15, .mov (.tmp 13), none⟩,
 ⟨some 5, .mov (.tmp 15), none⟩])
 (.seq
 (.regd [] [⟨some 16, .mov (.tmp 0), none⟩,
 ⟨some 17, .mov (.tmp 5), none⟩,
 ⟨some 18, .ixa 3 (.tmp 16) (.tmp 17), none⟩,
 ⟨some 19, .ld true 3 (.tmp 18), none⟩,
 ⟨some 20, .mov (.tmp 1), none⟩,
 ⟨some 21, .mov (.tmp 5), none⟩,
 ⟨some 22, .ixa 3 (.tmp 20) (.tmp 21), none⟩,
 ⟨some 23, .ld true 3 (.tmp 22), none⟩,
 ⟨some 24, .aeq true [0, 0, 0] (.tmp 19) (.tmp 23), none⟩] [(0, 1), (0, 4), (1, 4), (2, 4), (3, 4), (0, 5), (1, 5), (2, 5), (3, 5), (4, 5), (0, 6), (1, 6), (2, 6), (3, 6), (0, 7), (1, 7), (2, 7), (3, 7)])
 (.cond (.tmp 24)
 (.seq
 (.reg [] [⟨some 4, .mov (.cst (.d (.bool false))), none⟩])
 .ret)
 .skip))))
 (.reg [] [⟨some 25, .arith .add .i64 (.tmp 13) (.cst (.d (.int .i64 1))), none⟩,
 ⟨some 13, .mov (.tmp 25), none⟩]))))))))))
 (.seq
 (.reg [] [⟨some 4, .mov (.cst (.d (.bool true))), none⟩])
 .ret))))⟩
def ir53 : AFun := ⟨25, 4, [.cell 6 3 true, .tmp 7],
 (.seq
 (.reg [0, 1, 2] [⟨some 3, .cbx 0 2 (.tmp 0), none⟩,
 ⟨some 4, .cbx 1 3 (.tmp 1), none⟩,
 ⟨some 6, .alloc 2 [(.d (.int .i64 0)), (.d (.int .i64 0)), (.nils 3)], none⟩,
 ⟨some 7, .mov (.cst (.d (.int .i64 0))), none⟩])
 (.seq
 (.seq
 (.regd [3] [⟨some 9, .ld true 2 (.tmp 3), none⟩,
 ⟨some 10, .ld true 3 (.tmp 4), none⟩,
 ⟨some 11, .call 37 [(.tmp 9), (.tmp 10)], none⟩,
 ⟨some 12, .ld true 2 (.tmp 3), none⟩,
 ⟨some 13, .mov (.tmp 2), none⟩,
 ⟨some 14, .call 107 [(.tmp 12), (.tmp 13)], none⟩,
 ⟨some 15, .bsl 3 29 1 2 [(.int .i64 0), (.int .i64 0)] [(0, (.tmp 11)), (1, (.tmp 14))], none⟩,
 ⟨some 16, .call 86 [(.tmp 15)], none⟩,
 ⟨some 8, .mov (.tmp 16), none⟩] [(0, 1), (0, 3), (1, 3), (2, 3), (0, 4), (1, 4), (2, 4), (3, 4)])
 (.seq
 (.reg [] [⟨some 17, .mov (.tmp 8), none⟩,
 ⟨some 18, .cmp .neq (.tmp 17) (.cst (.d (.int .i64 0))), none⟩])
 (.cond (.tmp 18)
 (.seq
 (.reg [] [⟨some 19, .build [(.d (.int .i64 0)), (.d (.int .i64 0)), (.nils 3)] [], none⟩,
 ⟨some 20, .mov (.tmp 8), none⟩,
 ⟨none, .st 3 (.tmp 6) (.tmp 19), none⟩,
 ⟨some 7, .mov (.tmp 20), none⟩])
 .ret)
 .skip)))
 (.seq
 (.reg [] [⟨some 21, .ld true 3 (.tmp 4), none⟩,
 ⟨some 22, .ld true 2 (.tmp 3), none⟩,
 ⟨some 23, .mov (.tmp 2), none⟩,
 ⟨some 24, .call 119 [(.tmp 21), (.tmp 22), (.tmp 23)], none⟩,
 ⟨none, .st 3 (.tmp 6) (.tmp 24), none⟩,
 ⟨some 7, .mov (.cst (.d (.int .i64 0))), none⟩])
 .ret)))⟩
def ir52 : AFun := ⟨44, 11, [.cell 8 3 true, .tmp 9],
 (.seq
 (.reg [0, 1, 2] [⟨some 4, .cbx 0 2 (.tmp 0), none⟩,
 ⟨some 5, .cbx 1 3 (.tmp 1), none⟩,
 ⟨some 8, .alloc 2 [(.d (.int .i64 0)), (.d (.int .i64 0)), (.nils 3)], none⟩,
 ⟨some 9, .mov (.cst (.d (.int .i64 0))), none⟩])
 (.seq
 (.seq
 (.regd [3] [⟨some 12, .ld true 2 (.tmp 4), none⟩,
 ⟨some 13, .ld true 3 (.tmp 5), none⟩,
 ⟨some 14, .call 37 [(.tmp 12), (.tmp 13)], none⟩,
 ⟨some 15, .ld true 2 (.tmp 4), none⟩,
 ⟨some 16, .mov (.tmp 2), none⟩,
 ⟨some 17, .call 87 [(.tmp 15), (.tmp 16)], none⟩,
 ⟨some 18, .ld true 2 (.tmp 4), none⟩,
 ⟨some 19, .mov (.tmp 3), none⟩,
 ⟨some 20, .call 87 [(.tmp 18), (.tmp 19)], none⟩,
 ⟨some 21, .bsl 3 29 1 3 [(.int .i64 0), (.int .i64 0), (.int .i64 0)] [(0, (.tmp 14)), (1, (.tmp 17)), (2, (.tmp 20))], none⟩,
 ⟨some 22, .call 86 [(.tmp 21)], none⟩,
 ⟨some 10, .mov (.tmp 22), none⟩] [(0, 1), (0, 3), (1, 3), (2, 3), (0, 4), (1, 4), (2, 4), (3, 4), (0, 6), (1, 6), (2, 6), (3, 6), (4, 6), (5, 6), (0, 7), (1, 7), (2, 7), (3, 7), (4, 7), (5, 7), (6, 7)])
 (.seq
 (.reg [] [⟨some 23, .mov (.tmp 10), none⟩,
 ⟨some 24, .cmp .neq (.tmp 23) (.cst (.d (.int .i64 0))), none⟩])
 (.cond (.tmp 24)
 (.seq
 (.reg [] [⟨some 25, .build [(.d (.int .i64 0)), (.d (.int .i64 0)), (.nils 3)] [], none⟩,
 ⟨some 26, .mov (.tmp 10), none⟩,
 ⟨none, .st 3 (.tmp 8) (.tmp 25), none⟩,
 ⟨some 9, .mov (.tmp 26), none⟩])
 .ret)
 .skip)))
 (.seq
 (.seq
 (.reg [] [⟨some 27, .ld true 2 (.tmp 4), none⟩,
 ⟨some 28, .mov (.tmp 2), none⟩,
 ⟨some 29, .mov (.tmp 3), none⟩,
 ⟨some 30, .call 91 [(.tmp 27), (.tmp 28), (.tmp 29)], none⟩,
 ⟨some 31, .cmp .eql (.tmp 30) (.cst (.d (.int .i64 0))), none⟩])
 (.cond (.tmp 31)
 (.seq
 (.reg [] [⟨some 32, .build [(.d (.int .i64 0)), (.d (.int .i64 0)), (.nils 3)] [], none⟩,
 ⟨none, .st 3 (.tmp 8) (.tmp 32), none⟩,
 ⟨some 9, .mov (.cst (.d (.int .i64 7))), none⟩])
 .ret)
 .skip))
 (.seq
 (.reg [4] [⟨some 33, .ld true 3 (.tmp 5), none⟩,
 ⟨some 34, .calli 99 [(.tmp 33)], none⟩,
 ⟨some 11, .alloc 4 [(.d (.int .i64 0)), (.d (.int .i64 0)), (.nils 3)], none⟩,
 ⟨none, .st 3 (.tmp 11) (.tmp 34), none⟩])
 (.seq
 (.regd [] [⟨some 35, .ld true 3 (.tmp 11), none⟩,
 ⟨some 36, .mov (.tmp 2), none⟩,
 ⟨some 37, .ld true 3 (.tmp 5), none⟩,
 ⟨some 38, .ld true 2 (.tmp 4), none⟩,
 ⟨some 39, .mov (.tmp 3), none⟩,
 ⟨some 40, .mov (.tmp 2), none⟩,
 ⟨some 41, .call 118 [(.tmp 37), (.tmp 38), (.tmp 39), (.tmp 40)], none⟩,
 ⟨some 42, .calli 117 [(.tmp 35), (.tmp 36), (.tmp 41)], none⟩] [(0, 1), (0, 2), (1, 2), (0, 3), (1, 3), (2, 3), (0, 4), (1, 4), (2, 4), (3, 4), (0, 5), (1, 5), (2, 5), (3, 5), (4, 5), (0, 6), (1, 6)])
 (.seq
 (.reg [] [⟨some 43, .ld true 3 (.tmp 11), none⟩,
 ⟨none, .st 3 (.tmp 8) (.tmp 43), none⟩,
 ⟨some 9, .mov (.cst (.d (.int .i64 0))), none⟩])
 .ret))))))⟩
def ir54 : AFun := ⟨38, 6, [.cell 4 3 true, .tmp 5, .tmp 6],
 (.seq
 (.reg [0, 1, 2] [⟨some 2, .cbx 0 2 (.tmp 0), none⟩,
 ⟨some 3, .cbx 1 3 (.tmp 1), none⟩,
 ⟨some 4, .alloc 2 [(.d (.int .i64 0)), (.d (.int .i64 0)), (.nils 3)], none⟩,
 ⟨some 5, .mov (.cst (.d (.int .i64 0))), none⟩,
 ⟨some 6, .mov (.cst (.d (.int .i64 0))), none⟩])
 (.seq
 (.seq
 (.reg [] [⟨some 11, .ld true 2 (.tmp 2), none⟩,
 ⟨some 12, .ld true 3 (.tmp 3), none⟩,
 ⟨some 13, .call 37 [(.tmp 11), (.tmp 12)], none⟩,
 ⟨some 7, .mov (.tmp 13), none⟩])
 (.seq
 (.reg [] [⟨some 14, .mov (.tmp 7), none⟩,
 ⟨some 15, .cmp .neq (.tmp 14) (.cst (.d (.int .i64 0))), none⟩])
 (.cond (.tmp 15)
 (.seq
 (.reg [] [⟨some 16, .build [(.d (.int .i64 0)), (.d (.int .i64 0)), (.nils 3)] [], none⟩,
 ⟨some 17, .mov (.tmp 7), none⟩,
 ⟨none, .st 3 (.tmp 4) (.tmp 16), none⟩,
 ⟨some 5, .mov (.cst (.d (.int .i64 0))), none⟩,
 ⟨some 6, .mov (.tmp 17), none⟩])
 .ret)
 .skip)))
 (.seq
 (.reg [3] [⟨some 18, .ld true 3 (.tmp 3), none⟩,
 ⟨some 19, .call 99 [(.tmp 18)], none⟩,
 ⟨some 8, .alloc 3 [(.d (.int .i64 0)), (.d (.int .i64 0)), (.nils 3)], none⟩,
 ⟨none, .st 3 (.tmp 8) (.tmp 19), none⟩,
 ⟨some 9, .mov (.cst (.d (.int .i64 0))), none⟩])
 (.seq
 (.seq
 (.reg [4] [⟨some 20, .ld true 3 (.tmp 8), none⟩,
 ⟨some 21, .ld true 2 (.tmp 2), none⟩,
 ⟨some 22, .call 119 [(.tmp 20), (.tmp 21), (.cst (.nils 2))], none⟩,
 ⟨some 10, .alloc 4 [(.d (.int .i64 0)), (.d (.int .i64 0)), (.nils 3)], none⟩,
 ⟨none, .st 3 (.tmp 10) (.tmp 22), none⟩])
 (.post [4, 8, 9] [0, 1, 2, 3, 4, 5]
 (.block 0
 (.keep [2, 4, 8, 9, 10] [0, 1, 2, 3, 4]
 (.loop
 (.post [2, 4, 8, 9, 10] [5]
 (.seq
 (.seq
 (.reg [] [⟨some 23, .fad 2 (.tmp 10), none⟩,
 ⟨some 24, .ld false 1 (.tmp 23), none⟩,
 ⟨some 25, .fad 2 (.tmp 8), none⟩,
 ⟨some 26, .ld false 1 (.tmp 25), none⟩,
 ⟨some 27, .call 120 [(.tmp 24), (.tmp 26)], none⟩,
 ⟨some 28, .not (.tmp 27), none⟩])
 (.cond (.tmp 28)
 .skip
 (.exit 0)))
 (.seq
 (.block 1
 (.seq
 (.reg [] [⟨some 32, .ld true 3 (.tmp 10), none⟩,
 ⟨none, .st 3 (.tmp 8) (.tmp 32), none⟩])
 (.reg [] [⟨some 33, .mov (.tmp 9), none⟩,
 ⟨some 34, .arith .add .i64 (.tmp 33) (.cst (.d (.int .i64 1))), none⟩,
 ⟨some 9, .mov (.tmp 34), none⟩])))
 (.seq
 (.seq
 (.reg [] [⟨some 35, .ld true 3 (.tmp 10), none⟩])
 (.keep [2, 4, 8, 9, 35] [4, 5] (.reg [] [⟨some 10, .alloc 4 [(.d (.int .i64 0)), (.d (.int .i64 0)), (.nils 3)], none⟩,
 ⟨none, .st 3 (.tmp 10) (.tmp 35), none⟩])))
 (.reg [] [⟨some 29, .ld true 3 (.tmp 8), none⟩,
 ⟨some 30, .ld true 2 (.tmp 2), none⟩,
 ⟨some 31, .call 119 [(.tmp 29), (.tmp 30), (.cst (.nils 2))], none⟩,
 ⟨none, .st 3 (.tmp 10) (.tmp 31), none⟩]))))))))))
 (.seq
 (.reg [] [⟨some 36, .ld true 3 (.tmp 8), none⟩,
 ⟨some 37, .mov (.tmp 9), none⟩,
 ⟨none, .st 3 (.tmp 4) (.tmp 36), none⟩,
 ⟨some 5, .mov (.tmp 37), none⟩,
 ⟨some 6, .mov (.cst (.d (.int .i64 0))), none⟩])
 .ret)))))⟩
def ir55 : AFun := ⟨22, 5, [.cell 4 3 true, .tmp 5],
 (.seq
 (.reg [0, 1, 2] [⟨some 2, .cbx 0 2 (.tmp 0), none⟩,
 ⟨some 3, .cbx 1 3 (.tmp 1), none⟩,
 ⟨some 4, .alloc 2 [(.d (.int .i64 0)), (.d (.int .i64 0)), (.nils 3)], none⟩,
 ⟨some 5, .mov (.cst (.d (.int .i64 0))), none⟩])
 (.seq
 (.reg [3] [⟨some 9, .ld true 3 (.tmp 3), none⟩,
 ⟨some 10, .call 103 [(.tmp 9)], none⟩,
 ⟨some 6, .alloc 3 [(.d (.int .i64 0)), (.d (.int .i64 0)), (.nils 3)], none⟩,
 ⟨none, .st 3 (.tmp 6) (.tmp 10), none⟩])
 (.seq
 (.reg [] [⟨some 7, .mov (.cst (.d (.int .i64 0))), none⟩])
 (.post [4, 5] [0, 1, 2, 3, 4]
 (.block 0
 (.keep [2, 4, 6, 7] [0, 1, 2, 3]
 (.loop
 (.post [2, 4, 6, 7] [4]
 (.block 1
 (.seq
 (.reg [4] [⟨some 11, .ld true 2 (.tmp 2), none⟩,
 ⟨some 12, .ld true 3 (.tmp 6), none⟩,
 ⟨some 13, .call 57 [(.tmp 11), (.tmp 12), (.cst (.nils 2))], none⟩,
 ⟨some 8, .alloc 4 [(.d (.int .i64 0)), (.d (.int .i64 0)), (.nils 3)], none⟩,
 ⟨none, .st 3 (.tmp 8) (.tmp 13), none⟩])
 (.seq
 (.seq
 (.reg [] [⟨some 14, .ld true 3 (.tmp 8), none⟩,
 ⟨some 15, .ld true 3 (.tmp 6), none⟩,
 ⟨some 16, .call 69 [(.tmp 14), (.tmp 15)], none⟩])
 (.cond (.tmp 16)
 (.seq
 (.reg [] [⟨some 17, .ld true 3 (.tmp 6), none⟩,
 ⟨some 18, .mov (.tmp 7), none⟩,
 ⟨none, .st 3 (.tmp 4) (.tmp 17), none⟩,
 ⟨some 5, .mov (.tmp 18), none⟩])
 .ret)
 .skip))
 (.seq
 (.reg [] [⟨some 19, .ld true 3 (.tmp 8), none⟩,
 ⟨none, .st 3 (.tmp 6) (.tmp 19), none⟩])
 (.reg [] [⟨some 20, .mov (.tmp 7), none⟩,
 ⟨some 21, .arith .add .i64 (.tmp 20) (.cst (.d (.int .i64 1))), none⟩,
 ⟨some 7, .mov (.tmp 21), none⟩])))))))))))))⟩
def ir7 : AFun := ⟨149, 10, [.tmp 6],
 (.seq
 (.reg [0, 1, 2] [⟨some 3, .cbx 0 2 (.tmp 0), none⟩,
 ⟨some 4, .cbx 1 3 (.tmp 1), none⟩,
 ⟨some 5, .cbx 2 3 (.tmp 2), none⟩,
 ⟨some 6, .mov (.cst (.d (.bool false))), none⟩])
 (.seq
 (.seq
 (.reg [] [⟨some 21, .ld true 2 (.tmp 3), none⟩,
 ⟨some 22, .call 15 [(.tmp 21)], none⟩,
 ⟨some 23, .not (.tmp 22), none⟩,
 ⟨some 24, .mov (.tmp 23), none⟩,
 ⟨some 25, .ld true 3 (.tmp 4), some (24, false)⟩,
 ⟨some 26, .call 30 [(.tmp 25)], some (24, false)⟩,
 ⟨some 27, .not (.tmp 26), some (24, false)⟩,
 ⟨some 28, .pick (.tmp 24) (.cst (.d (.bool true))) (.tmp 27), none⟩,
 ⟨some 29, .mov (.tmp 28), none⟩,
 ⟨some 30, .fad 2 (.tmp 5), some (29, false)⟩,
 ⟨some 31, .ld false 1 (.tmp 30), some (29, false)⟩,
 ⟨some 32, .call 39 [(.tmp 31)], some (29, false)⟩,
 ⟨some 33, .not (.tmp 32), some (29, false)⟩,
 ⟨some 34, .pick (.tmp 29) (.cst (.d (.bool true))) (.tmp 33), none⟩])
 (.cond (.tmp 34)
 (.seq
 (.reg [] [⟨some 35, .call 16 [], none⟩,
 ⟨some 6, .mov (.tmp 35), none⟩])
 .ret)
 .skip))
 (.seq
 (.regd [3] [⟨some 37, .ld true 2 (.tmp 3), none⟩,
 ⟨some 38, .call 18 [(.tmp 37)], none⟩,
 ⟨some 39, .ld true 3 (.tmp 4), none⟩,
 ⟨some 40, .call 33 [(.tmp 39)], none⟩,
 ⟨some 41, .fad 0 (.tmp 5), none⟩,
 ⟨some 42, .ixp 2 1 (.tmp 41) (.cst (.d (.int .i64 0))), none⟩,
 ⟨some 43, .ld false 1 (.tmp 42), none⟩,
 ⟨some 44, .fad 0 (.tmp 5), none⟩,
 ⟨some 45, .ixp 2 1 (.tmp 44) (.cst (.d (.int .i64 1))), none⟩,
 ⟨some 46, .ld false 1 (.tmp 45), none⟩,
 ⟨some 47, .call 52 [(.tmp 38), (.tmp 40), (.tmp 43), (.tmp 46)], none⟩,
 ⟨some 36, .mov (.tmp 47), none⟩,
 ⟨some 48, .ext 0 (.tmp 36), none⟩,
 ⟨some 49, .ext 1 (.tmp 36), none⟩,
 ⟨some 7, .alloc 3 [(.d (.int .i64 0)), (.d (.int .i64 0)), (.nils 3)], none⟩,
 ⟨none, .st 3 (.tmp 7) (.tmp 48), none⟩,
 ⟨some 8, .mov (.tmp 49), none⟩] [(0, 2), (1, 2), (0, 4), (1, 4), (2, 4), (3, 4), (0, 5), (1, 5), (2, 5), (3, 5), (0, 6), (1, 6), (2, 6), (3, 6), (0, 7), (1, 7), (2, 7), (3, 7), (4, 7), (5, 7), (6, 7), (0, 8), (1, 8), (2, 8), (3, 8), (4, 8), (5, 8), (6, 8), (0, 9), (1, 9), (2, 9), (3, 9), (4, 9), (5, 9), (6, 9), (12, 13), (0, 14), (1, 14), (2, 14), (3, 14), (4, 14), (5, 14), (6, 14), (7, 14), (8, 14), (9, 14), (10, 14), (11, 14), (12, 14), (13, 14), (13, 15)])
 (.seq
 (.regd [4] [⟨some 51, .ld true 2 (.tmp 3), none⟩,
 ⟨some 52, .call 18 [(.tmp 51)], none⟩,
 ⟨some 53, .ld true 3 (.tmp 4), none⟩,
 ⟨some 54, .call 33 [(.tmp 53)], none⟩,
 ⟨some 55, .fad 2 (.tmp 5), none⟩,
 ⟨some 56, .ld false 1 (.tmp 55), none⟩,
 ⟨some 57, .call 41 [(.tmp 56)], none⟩,
 ⟨some 58, .call 53 [(.tmp 52), (.tmp 54), (.tmp 57)], none⟩,
 ⟨some 50, .mov (.tmp 58), none⟩,
 ⟨some 59, .ext 0 (.tmp 50), none⟩,
 ⟨some 60, .ext 1 (.tmp 50), none⟩,
 ⟨some 9, .alloc 4 [(.d (.int .i64 0)), (.d (.int .i64 0)), (.nils 3)], none⟩,
 ⟨none, .st 3 (.tmp 9) (.tmp 59), none⟩,
 ⟨some 10, .mov (.tmp 60), none⟩] [(0, 2), (1, 2), (0, 4), (1, 4), (2, 4), (3, 4), (0, 5), (1, 5), (2, 5), (3, 5), (9, 10), (0, 11), (1, 11), (2, 11), (3, 11), (4, 11), (5, 11), (6, 11), (7, 11), (8, 11), (9, 11), (10, 11), (10, 12)])
 (.seq
 (.regd [5] [⟨some 62, .ld true 2 (.tmp 3), none⟩,
 ⟨some 63, .call 18 [(.tmp 62)], none⟩,
 ⟨some 64, .ld true 3 (.tmp 4), none⟩,
 ⟨some 65, .call 33 [(.tmp 64)], none⟩,
 ⟨some 66, .call 54 [(.tmp 63), (.tmp 65)], none⟩,
 ⟨some 61, .mov (.tmp 66), none⟩,
 ⟨some 67, .ext 0 (.tmp 61), none⟩,
 ⟨some 68, .ext 1 (.tmp 61), none⟩,
 ⟨some 69, .ext 2 (.tmp 61), none⟩,
 ⟨some 11, .alloc 5 [(.d (.int .i64 0)), (.d (.int .i64 0)), (.nils 3)], none⟩,
 ⟨none, .st 3 (.tmp 11) (.tmp 67), none⟩,
 ⟨some 12, .mov (.tmp 68), none⟩,
 ⟨some 13, .mov (.tmp 69), none⟩] [(0, 2), (1, 2), (6, 7), (6, 8), (7, 8), (0, 9), (1, 9), (2, 9), (3, 9), (4, 9), (5, 9), (6, 9), (7, 9), (8, 9), (7, 10), (8, 10), (8, 11)])
 (.seq
 (.reg [] [⟨some 70, .ld true 2 (.tmp 3), none⟩,
 ⟨some 71, .ld true 3 (.tmp 4), none⟩,
 ⟨some 72, .call 34 [(.tmp 70), (.tmp 71)], none⟩,
 ⟨some 14, .mov (.tmp 72), none⟩])
 (.seq
 (.reg [] [⟨some 73, .mov (.tmp 14), none⟩,
 ⟨some 74, .mov (.tmp 14), none⟩,
 ⟨some 15, .mov (.tmp 73), none⟩,
 ⟨some 16, .mov (.tmp 74), none⟩,
 ⟨some 17, .mov (.cst (.d (.int .i64 0))), none⟩])
 (.seq
 (.reg [6, 7, 8] [⟨some 18, .alloc 6 [(.d (.int .i64 0)), (.d (.int .i64 0)), (.nils 3)], none⟩,
 ⟨some 19, .alloc 7 [(.d (.int .i64 0)), (.d (.int .i64 0)), (.nils 3)], none⟩,
 ⟨some 20, .alloc 8 [(.d (.int .i64 0)), (.d (.int .i64 0)), (.nils 3)], none⟩])
 (.seq
 (.seq
 (.reg [] [⟨some 75, .mov (.tmp 14), none⟩,
 ⟨some 76, .cmp .eql (.tmp 75) (.cst (.d (.int .i64 0))), none⟩])
 (.cond (.tmp 76)
 (.seq
 (.regd [9] [⟨some 77, .ld true 2 (.tmp 3), none⟩,
 ⟨some 78, .fad 0 (.tmp 5), none⟩,
 ⟨some 79, .ixp 2 1 (.tmp 78) (.cst (.d (.int .i64 0))), none⟩,
 ⟨some 80, .ld false 1 (.tmp 79), none⟩,
 ⟨some 81, .call 23 [(.tmp 77), (.tmp 80)], none⟩,
 ⟨some 82, .ld true 2 (.tmp 3), none⟩,
 ⟨some 83, .fad 0 (.tmp 5), none⟩,
 ⟨some 84, .ixp 2 1 (.tmp 83) (.cst (.d (.int .i64 1))), none⟩,
 ⟨some 85, .ld false 1 (.tmp 84), none⟩,
 ⟨some 86, .call 23 [(.tmp 82), (.tmp 85)], none⟩,
 ⟨some 87, .bsl 9 3 1 2 [(.int .i64 0), (.int .i64 0)] [(0, (.tmp 81)), (1, (.tmp 86))], none⟩,
 ⟨some 88, .call 42 [(.tmp 87)], none⟩,
 ⟨some 15, .mov (.tmp 88), none⟩] [(0, 1), (0, 2), (0, 3), (0, 5), (1, 5), (2, 5), (3, 5), (4, 5), (0, 6), (1, 6), (2, 6), (3, 6), (4, 6), (5, 6), (0, 7), (1, 7), (2, 7), (3, 7), (4, 7), (5, 7), (0, 8), (1, 8), (2, 8), (3, 8), (4, 8), (5, 8)])
 (.seq
 (.reg [] [⟨some 89, .ld true 2 (.tmp 3), none⟩,
 ⟨some 90, .fad 2 (.tmp 5), none⟩,
 ⟨some 91, .ld false 1 (.tmp 90), none⟩,
 ⟨some 92, .call 43 [(.tmp 89), (.tmp 91)], none⟩,
 ⟨some 16, .mov (.tmp 92), none⟩])
 (.reg [] [⟨some 94, .ld true 2 (.tmp 3), none⟩,
 ⟨some 95, .ld true 3 (.tmp 4), none⟩,
 ⟨some 96, .call 55 [(.tmp 94), (.tmp 95)], none⟩,
 ⟨some 93, .mov (.tmp 96), none⟩,
 ⟨some 97, .ext 0 (.tmp 93), none⟩,
 ⟨some 98, .ext 1 (.tmp 93), none⟩,
 ⟨none, .st 3 (.tmp 20) (.tmp 97), none⟩,
 ⟨some 17, .mov (.tmp 98), none⟩])))
 .skip))
 (.seq
 (.seq
 (.reg [] [⟨some 99, .mov (.tmp 15), none⟩,
 ⟨some 100, .cmp .eql (.tmp 99) (.cst (.d (.int .i64 0))), none⟩])
 (.cond (.tmp 100)
 (.reg [] [⟨some 102, .ld true 2 (.tmp 3), none⟩,
 ⟨some 103, .ld true 3 (.tmp 4), none⟩,
 ⟨some 104, .fad 0 (.tmp 5), none⟩,
 ⟨some 105, .ixp 2 1 (.tmp 104) (.cst (.d (.int .i64 0))), none⟩,
 ⟨some 106, .ld false 1 (.tmp 105), none⟩,
 ⟨some 107, .fad 0 (.tmp 5), none⟩,
 ⟨some 108, .ixp 2 1 (.tmp 107) (.cst (.d (.int .i64 1))), none⟩,
 ⟨some 109, .ld false 1 (.tmp 108), none⟩,
 ⟨some 110, .call 56 [(.tmp 102), (.tmp 103), (.tmp 106), (.tmp 109)], none⟩,
 ⟨some 101, .mov (.tmp 110), none⟩,
 ⟨some 111, .ext 0 (.tmp 101), none⟩,
 ⟨some 112, .ext 1 (.tmp 101), none⟩,
 ⟨none, .st 3 (.tmp 18) (.tmp 111), none⟩,
 ⟨some 15, .mov (.tmp 112), none⟩])
 .skip))
 (.seq
 (.seq
 (.reg [] [⟨some 113, .mov (.tmp 16), none⟩,
 ⟨some 114, .cmp .eql (.tmp 113) (.cst (.d (.int .i64 0))), none⟩])
 (.cond (.tmp 114)
 (.reg [] [⟨some 115, .ld true 2 (.tmp 3), none⟩,
 ⟨some 116, .ld true 3 (.tmp 4), none⟩,
 ⟨some 117, .fad 2 (.tmp 5), none⟩,
 ⟨some 118, .ld false 1 (.tmp 117), none⟩,
 ⟨some 119, .call 57 [(.tmp 115), (.tmp 116), (.tmp 118)], none⟩,
 ⟨none, .st 3 (.tmp 19) (.tmp 119), none⟩])
 .skip))
 (.seq
 (.reg [] [⟨some 120, .ld true 3 (.tmp 7), none⟩,
 ⟨some 121, .mov (.tmp 8), none⟩,
 ⟨some 122, .mov (.tmp 15), none⟩,
 ⟨some 123, .ld true 3 (.tmp 18), none⟩,
 ⟨some 124, .call 38 [(.tmp 120), (.tmp 121), (.tmp 122), (.tmp 123)], none⟩,
 ⟨some 125, .mov (.tmp 124), none⟩,
 ⟨some 126, .ld true 3 (.tmp 9), some (125, true)⟩,
 ⟨some 127, .mov (.tmp 10), some (125, true)⟩,
 ⟨some 128, .mov (.tmp 16), some (125, true)⟩,
 ⟨some 129, .ld true 3 (.tmp 19), some (125, true)⟩,
 ⟨some 130, .call 38 [(.tmp 126), (.tmp 127), (.tmp 128), (.tmp 129)], some (125, true)⟩,
 ⟨some 131, .pick (.tmp 125) (.tmp 130) (.cst (.d (.bool false))), none⟩,
 ⟨some 132, .mov (.tmp 131), none⟩,
 ⟨some 133, .ld true 3 (.tmp 11), some (132, true)⟩,
 ⟨some 134, .mov (.tmp 13), some (132, true)⟩,
 ⟨some 135, .mov (.tmp 14), some (132, true)⟩,
 ⟨some 136, .ld true 3 (.tmp 20), some (132, true)⟩,
 ⟨some 137, .call 38 [(.tmp 133), (.tmp 134), (.tmp 135), (.tmp 136)], some (132, true)⟩,
 ⟨some 138, .pick (.tmp 132) (.tmp 137) (.cst (.d (.bool false))), none⟩,
 ⟨some 139, .mov (.tmp 138), none⟩,
 ⟨some 140, .mov (.tmp 12), some (139, true)⟩,
 ⟨some 141, .mov (.tmp 13), some (139, true)⟩,
 ⟨some 142, .mov (.tmp 14), some (139, true)⟩,
 ⟨some 143, .mov (.tmp 17), some (139, true)⟩,
 ⟨some 144, .call 29 [(.tmp 140), (.tmp 141), (.tmp 142), (.tmp 143)], some (139, true)⟩,
 ⟨some 145, .pick (.tmp 139) (.tmp 144) (.cst (.d (.bool false))), none⟩,
 ⟨some 146, .mov (.tmp 145), none⟩,
 ⟨some 147, .call 16 [], some (146, true)⟩,
 ⟨some 148, .pick (.tmp 146) (.tmp 147) (.cst (.d (.bool false))), none⟩,
 ⟨some 6, .mov (.tmp 148), none⟩])
 .ret))))))))))))⟩
def Sts.roundP (m : Ms) (s : Sts) (lost : List (Int × Int)) : Sts := bif firstOf [m.chkS s, pairsE m lost] != 0 then Sts.zero else s.round m lost
theorem c53 (m : Ms) (s : Sts) (lost : List (Int × Int)) (hm : m.ns.length ≤ 1048576) (hl2 : m.ls.length ≤ 1048576) (hn : s.es.length ≤ 1048576) (hll : lost.length ≤ 1048576) : CallDet Tryz.prog 53 [.d m.d, .d s.d, .d (.slice 2 (prs lost))] [(s.roundP m lost).d, .int .i64 (firstOf [m.chkS s, pairsE m lost])] := by
 have bad : ¬ firstOf [m.chkS s, pairsE m lost] = 0 → resV [.agg [.int .i64 0, .int .i64 0, .slice 3 []], .int .i64 (firstOf [m.chkS s, pairsE m lost])] = resV [(s.roundP m lost).d, .int .i64 (firstOf [m.chkS s, pairsE m lost])] := fun h => by
  unfold Sts.roundP; rw [show (firstOf [m.chkS s, pairsE m lost] != 0) = true by rw [bne_iff_ne]; exact h]; rfl
 have fin : firstOf [m.chkS s, pairsE m lost] = 0 → resV [(s.round m lost).d, .int .i64 0] = resV [(s.roundP m lost).d, .int .i64 (firstOf [m.chkS s, pairsE m lost])] := fun h => by
  unfold Sts.roundP; rw [h]; rfl
 refine call_of_vc (x := ir53) (by kernel_rfl) rfl ?_
 refine Exists.intro _ (And.intro (c37 m s hm hl2 hn) ?_)
 refine Exists.intro _ (And.intro (c107 m lost hll) ?_)
 refine And.intro rfl ?_
 refine And.intro rfl ?_
 refine Exists.intro _ (And.intro (c86 [Ms.chkS m s, pairsE m lost] (by simp)) ?_)
 refine And.intro rfl ?_
 refine brk_ne (fun t1 => ?_) (fun t1 => ?_)
 rotate_left
 refine Exists.intro _ (And.intro (c119 m s lost (good_of (firstOf_zero ‹_› (m.chkS s) (by simp))) hll) ?_)
 rotate_left
 ·exact bad t1
 ·exact fin t1
theorem same_iff2 {x y : En} (h : (!(En.same x y)) = true) : x ≠ y := fun e => by rw [En.same_iff.2 e] at h; cases h
theorem same_iff3 {x y : En} (h : (!(En.same x y)) = false) : x = y := En.same_iff.1 (by simpa using h)
theorem c120 (a b : List En) (hl : a.length = b.length) (ha : a.length ≤ 1048576) : CallDet Tryz.prog 120 [.d (.slice 3 (ens a)), .d (.slice 3 (ens b))] [.bool (decide (a = b))] := by
 have h1 := ens_len a
 have h2 := ens_len b
 have fin : ∀ v : Bool, decide (a = b) = v → resV [.bool v] = resV [.bool (decide (a = b))] := fun v h => by rw [h]
 refine call_of_vc (x := ir120) (by kernel_rfl) rfl ?_
 refine And.intro rfl ?_
 refine brk_ne (fun t1 => ?_) (fun t1 => ?_)
 (exfalso; omega)
 rotate_left
 refine loop_u (fun k : Nat => [(13, .d (.int .i64 k))]) (fun k => []) (fun k => k ≤ a.length ∧ a.take k = b.take k) (fun k => a.length - k) 0 rfl ⟨Nat.zero_le _, rfl⟩ ?_
 rintro k ⟨hk, ht⟩
 have hk : k ≤ a.length := hk
 by_cases hkk : k < a.length
 ·refine Exists.elim (get_lt a hkk) fun x hx => ?_
  refine Exists.elim (get_lt b (k := k) (by omega)) fun y hy => ?_
  have hxd := ens_at hx
  have hyd := ens_at hy
  refine And.intro rfl ?_
  refine brk_lt (fun t2 => ?_) (fun t2 => ?_)
  refine ix_at hxd ?_ ?_
  (show (0 : Int) ≤ (↑k : Int); omega)
  refine ix_at hyd ?_ ?_
  (show (0 : Int) ≤ (↑k : Int); omega)
  refine Exists.intro _ (And.intro (Exists.intro _ (And.intro rfl rfl)) ?_)
  refine brk_intro (fun t3 => ?_) (fun t3 => ?_)
  replace t3 : (!(En.nu x == En.nu y && (En.di x == En.di y && (En.ne x == En.ne y && true)))) = true := t3
  rotate_left
  replace t3 : (!(En.nu x == En.nu y && (En.di x == En.di y && (En.ne x == En.ne y && true)))) = false := t3
  refine ar_add ?_ ?_
  refine And.intro ?_ ?_
  (show (-9223372036854775808 : Int) ≤ (↑k : Int) + (1 : Int); omega)
  (show (↑k : Int) + (1 : Int) ≤ (9223372036854775807 : Int); omega)
  rotate_left
  (exfalso; omega)
  ·refine fin _ (decide_eq_false fun e => ?_)
   subst e
   rw [hx] at hy
   exact same_iff2 t3 (Option.some.inj hy)
  ·exact ⟨k + 1, ⟨⟨hkk, by rw [take_one hx, take_one hy, ht, same_iff3 t3]⟩, by show a.length - (k + 1) < a.length - k; omega⟩, rfl⟩
 ·have e : a = b := by rw [List.take_of_length_le (by omega), List.take_of_length_le (by omega)] at ht; exact ht
  refine And.intro rfl ?_
  refine brk_lt (fun t2 => ?_) (fun t2 => ?_)
  (exfalso; omega)
  rotate_left
  exact fin _ (decide_eq_true e)
theorem hrs_heard (m : Ms) (s : Sts) (w fr : Int) (h0 : 0 ≤ w) (h1 : w.toNat < s.es.length) : hrs s.co w (ofX m s fr w) (ofB m s fr w) s.es = (s.heard m w fr).es := by
 have same : s.es.set w.toNat (s.at w) = s.es := by
  apply List.ext_getElem?
  intro i
  by_cases e : w.toNat = i
  ·subst e; rw [List.getElem?_set_self h1, Sts.at_getI h1]
  ·rw [List.getElem?_set_ne e]
 have h := hrs_hr m s [] w.toNat fr (s.at w) s.es h1 rfl
 rw [same, show ((w.toNat : Nat) : Int) = w by omega] at h
 exact h
theorem c99i_52 (m : Ms) (s : Sts) (a b c : Int) (hn : s.es.length ≤ 1048576) : CallIn Tryz.prog 99 [.d s.d] [.cbox [.slice 1 (strs m.ns), .slice 3 (lks m.ls)], .cbox [.int .i64 s.co, .int .i64 s.nu, .slice 3 (ens s.es)], .box [.d (.int .i64 0), .d (.int .i64 0), .nils 3], .row 29 1 [.int .i64 a, .int .i64 b, .int .i64 c] false, .none, .none, .none, .none, .none, .none, .none] (.agg [.d (.int .i64 s.co), .d (.int .i64 s.nu), .sl 7 (ens s.es).length])
  (setAll [.cbox [.slice 1 (strs m.ns), .slice 3 (lks m.ls)], .cbox [.int .i64 s.co, .int .i64 s.nu, .slice 3 (ens s.es)], .box [.d (.int .i64 0), .d (.int .i64 0), .nils 3], .row 29 1 [.int .i64 a, .int .i64 b, .int .i64 c] false, .none, .none, .none, .none, .none, .none, .none] [(5, .cbox [.int .i64 s.co, .int .i64 s.nu, .slice 3 (ens s.es)]), (6, .box [.d (.int .i64 s.co), .d (.int .i64 s.nu), .sl 7 (ens s.es).length]), (7, .row 105 3 (ens s.es) false)]) := by
 have hl := ens_len s.es
 have e : List.take (ens s.es).length (ens s.es) ++ List.drop (ens s.es).length (List.replicate (ens s.es).length (.agg [.int .i64 0, .int .i64 0, .int .i64 0])) = ens s.es := by
  rw [List.take_length, List.drop_eq_nil_of_le (by rw [List.length_replicate]; exact Nat.le_refl _), List.append_nil]
 refine callIn_of_vc 5 (x := ir99) (by kernel_rfl) rfl rfl rfl ?_
 refine And.intro ?_ ?_
 refine And.intro ?_ ?_
 (show (0 : Int) ≤ (↑(List.length (ens (Sts.es s))) : Int); omega)
 refine And.intro ?_ ?_
 (show (↑(List.length (ens (Sts.es s))) : Int) * (↑(24 : Nat) : Int) ≤ (2 : Int) ^ (47 : Nat); omega)
 (show (↑(List.length (ens (Sts.es s))) : Int) ≤ (2 : Int) ^ (47 : Nat); omega)
 refine Exists.intro _ (And.intro (And.intro rfl (And.intro rfl (And.intro ?_ rfl))) ?_)
 focus (show List.length (List.replicate (List.length (ens (Sts.es s))) (Data.agg [Data.int IntKind.i64 (0 : Int), Data.int IntKind.i64 (0 : Int), Data.int IntKind.i64 (0 : Int)])) = List.length (ens (Sts.es s)); simp only [List.length_replicate, List.length_set, List.length_append, List.length_take, List.length_drop]; done)
 refine And.intro ?_ ?_
 (show List.length (List.take (List.length (ens (Sts.es s))) (ens (Sts.es s)) ++ List.drop (List.length (ens (Sts.es s))) (List.replicate (List.length (ens (Sts.es s))) (Data.agg [Data.int IntKind.i64 (0 : Int), Data.int IntKind.i64 (0 : Int), Data.int IntKind.i64 (0 : Int)]))) = List.length (ens (Sts.es s)); simp only [List.length_replicate, List.length_set, List.length_append, List.length_take, List.length_drop]; omega)
 refine And.intro rfl ?_
 rotate_left
 exact congrArg (fun X => ([.cbox [.slice 1 (strs m.ns), .slice 3 (lks m.ls)], .cbox [.int .i64 s.co, .int .i64 s.nu, .slice 3 (ens s.es)], .box [.d (.int .i64 0), .d (.int .i64 0), .nils 3], .row 29 1 [.int .i64 a, .int .i64 b, .int .i64 c] false, .none, .cbox [.int .i64 s.co, .int .i64 s.nu, .slice 3 (ens s.es)], .box [.d (.int .i64 s.co), .d (.int .i64 s.nu), .sl 7 (ens s.es).length], .row 105 3 X false, .none, .none, .none] : List AObj)) e
theorem c117i_52 (m : Ms) (s : Sts) (n : Int) (x e : En) (is : Bool) (E : List En) (L : Nat) (a b c : Int) (h0 : 0 ≤ n) (he : E[n.toNat]? = some e) (hL : L = (ens E).length) : CallIn Tryz.prog 117 [.agg [.d (.int .i64 s.co), .d (.int .i64 s.nu), .sl 7 L], .d (.int .i64 n), .d (.agg [.int .i64 x.nu, .int .i64 x.di, .int .i64 x.ne, .bool is])]
  [.cbox [.slice 1 (strs m.ns), .slice 3 (lks m.ls)], .cbox [.int .i64 s.co, .int .i64 s.nu, .slice 3 (ens s.es)], .box [.d (.int .i64 0), .d (.int .i64 0), .nils 3], .row 29 1 [.int .i64 a, .int .i64 b, .int .i64 c] false, .box [.d (.int .i64 s.co), .d (.int .i64 s.nu), .sl 7 (ens s.es).length], .cbox [.int .i64 s.co, .int .i64 s.nu, .slice 3 (ens s.es)], .box [.d (.int .i64 s.co), .d (.int .i64 s.nu), .sl 7 (ens s.es).length], .row 105 3 (ens E) false, .none, .none, .none] (.tup []) (setAll [.cbox [.slice 1 (strs m.ns), .slice 3 (lks m.ls)], .cbox [.int .i64 s.co, .int .i64 s.nu, .slice 3 (ens s.es)], .box [.d (.int .i64 0), .d (.int .i64 0), .nils 3], .row 29 1 [.int .i64 a, .int .i64 b, .int .i64 c] false, .box [.d (.int .i64 s.co), .d (.int .i64 s.nu), .sl 7 (ens s.es).length], .cbox [.int .i64 s.co, .int .i64 s.nu, .slice 3 (ens s.es)], .box [.d (.int .i64 s.co), .d (.int .i64 s.nu), .sl 7 (ens s.es).length], .row 105 3 (ens E) false, .none, .none, .none] [(8, .box [.d (.int .i64 s.co), .d (.int .i64 s.nu), .sl 7 (ens E).length]), (9, .cbox [.int .i64 x.nu, .int .i64 x.di, .int .i64 x.ne, .bool is]), (7, .row 105 3 (ens (hrs s.co n x is E)) false)]) := by
 subst hL
 have hel := ens_len E
 have hk : n.toNat < E.length := (List.getElem?_eq_some_iff.1 he).1
 have hed := ens_atI he
 have hno : (bif !(n == s.co) && (is && x.betB e) then E.set n.toNat x else E) = E → hrs s.co n x is E = E := fun h => by unfold hrs; rw [he]; exact h
 refine callIn_of_vc 8 (x := ir117) (by kernel_rfl) rfl rfl rfl ?_
 cases is
 ·have e0 : hrs s.co n x false E = E := hno (by cases (n == s.co) <;> rfl)
  rw [e0]
  refine And.intro rfl ?_
  refine brk_ne (fun t1 => ?_) (fun t1 => ?_)
  refine And.intro rfl ?_
  refine And.intro rfl ?_
  exact rfl
  refine And.intro rfl ?_
  refine And.intro rfl ?_
  refine And.intro rfl ?_
  exact rfl
 ·by_cases hb : x.betB e = true
  ·by_cases hn : n = s.co
   ·have e0 : hrs s.co n x true E = E := hno (by rw [show (n == s.co) = true by rw [beq_iff_eq]; exact hn]; rfl)
    rw [e0]
    refine And.intro rfl ?_
    refine brk_ne (fun t1 => ?_) (fun t1 => ?_)
    (exfalso; omega)
    refine And.intro rfl ?_
    refine And.intro rfl ?_
    refine And.intro rfl ?_
    exact rfl
   ·have e0 : hrs s.co n x true E = E.set n.toNat x := by unfold hrs; rw [he]; show (bif !(n == s.co) && (true && x.betB e) then _ else _) = _; rw [hb, show (n == s.co) = false by rw [beq_eq_false_iff_ne]; exact hn]; rfl
    rw [e0]
    refine And.intro rfl ?_
    refine brk_ne (fun t1 => ?_) (fun t1 => ?_)
    refine And.intro ?_ ?_
    refine And.intro ?_ ?_
    exact rfl
    refine And.intro ?_ ?_
    exact rfl
    refine And.intro ?_ ?_
    assumption
    (show n < (↑(List.length (ens E)) : Int); omega)
    refine And.intro rfl ?_
    refine Exists.intro _ (And.intro hed ?_)
    refine Exists.intro _ (And.intro (c150 x e) ?_)
    refine brk_t hb ?_
    refine And.intro ?_ ?_
    refine And.intro ?_ ?_
    exact rfl
    refine And.intro ?_ ?_
    exact rfl
    refine And.intro ?_ ?_
    assumption
    (show n < (↑(List.length (ens E)) : Int); omega)
    refine Exists.intro _ (Exists.intro (Vc.Data.agg [Data.int IntKind.i64 (En.nu x), Data.int IntKind.i64 (En.di x), Data.int IntKind.i64 (En.ne x)]) (And.intro (And.intro ?_ (And.intro hed (And.intro rfl (And.intro ?_ (And.intro rfl rfl))))) ?_))
    exact rfl
    (show (0 : Nat) + (3 : Nat) ≤ (1 : Nat) + (1 : Nat) + (1 : Nat); omega)
    refine And.intro rfl ?_
    rotate_left
    (exfalso; omega)
    rw [show ens (E.set n.toNat x) = (ens E).set n.toNat (.agg [.int .i64 x.nu, .int .i64 x.di, .int .i64 x.ne]) from ens_set E n.toNat x]; rfl
  ·have hb : x.betB e = false := by cases h : x.betB e; rfl; exact absurd h hb
   have e0 : hrs s.co n x true E = E := hno (by rw [hb]; cases (n == s.co) <;> rfl)
   rw [e0]
   refine And.intro rfl ?_
   refine brk_ne (fun t1 => ?_) (fun t1 => ?_)
   refine And.intro ?_ ?_
   refine And.intro ?_ ?_
   exact rfl
   refine And.intro ?_ ?_
   exact rfl
   refine And.intro ?_ ?_
   assumption
   (show n < (↑(List.length (ens E)) : Int); omega)
   refine And.intro rfl ?_
   refine Exists.intro _ (And.intro hed ?_)
   refine Exists.intro _ (And.intro (c150 x e) ?_)
   refine brk_f hb ?_
   refine And.intro rfl ?_
   exact rfl
   refine And.intro rfl ?_
   refine And.intro rfl ?_
   refine And.intro rfl ?_
   exact rfl
def heardE (m : Ms) (s : Sts) (w fr : Int) : Int := bif firstOf [m.chkS s, m.nodeE w, m.nodeE fr] != 0 then firstOf [m.chkS s, m.nodeE w, m.nodeE fr] else heaE m w fr
theorem c52 (m : Ms) (s : Sts) (w fr : Int) (hm : m.ns.length ≤ 1048576) (hl2 : m.ls.length ≤ 1048576) (hn : s.es.length ≤ 1048576) : CallDet Tryz.prog 52 [.d m.d, .d s.d, .d (.int .i64 w), .d (.int .i64 fr)] [(bif heardE m s w fr != 0 then Sts.zero else s.heard m w fr).d, .int .i64 (heardE m s w fr)] := by
 have hl := ens_len s.es
 have bad : ∀ v, heardE m s w fr = v → ¬ v = 0 → resV [.agg [.int .i64 0, .int .i64 0, .slice 3 []], .int .i64 v] = resV [(bif heardE m s w fr != 0 then Sts.zero else s.heard m w fr).d, .int .i64 (heardE m s w fr)] := fun v e h => by
  rw [e, show (v != 0) = true by rw [bne_iff_ne]; exact h]; rfl
 have fin : heardE m s w fr = 0 → ∀ X, X = ens (s.heard m w fr).es → resV [.agg [.int .i64 s.co, .int .i64 s.nu, .slice 3 X], .int .i64 0] = resV [(bif heardE m s w fr != 0 then Sts.zero else s.heard m w fr).d, .int .i64 (heardE m s w fr)] := fun e X hX => by
  rw [e, hX]; rfl
 refine call_of_vc (x := ir52) (by kernel_rfl) rfl ?_
 by_cases hz : firstOf [m.chkS s, m.nodeE w, m.nodeE fr] = 0
 ·have g := good_of (firstOf_zero hz (m.chkS s) (by simp))
  have hf := chk_fine g.chk
  have hle := g.len
  have h128 := hf.l128
  have hw := node_in (firstOf_zero hz (m.nodeE w) (by simp))
  have hr2 := node_in (firstOf_zero hz (m.nodeE fr) (by simp))
  have hrk := g.rng fr hr2.1 hr2.2
  have hhl : (ens (hrs s.co w (ofX m s fr w) (ofB m s fr w) s.es)).length = (ens s.es).length := by
   rw [hrs_heard m s w fr hw.1 (by omega), ens_len, hl]; unfold Sts.heard; rw [List.length_set]
  refine Exists.intro _ (And.intro (c37 m s hm hl2 hn) ?_)
  refine Exists.intro _ (And.intro (c87 m _) ?_)
  refine Exists.intro _ (And.intro (c87 m _) ?_)
  refine And.intro rfl ?_
  refine And.intro rfl ?_
  refine Exists.intro _ (And.intro (c86 [Ms.chkS m s, Ms.nodeE m w, Ms.nodeE m fr] (by simp)) ?_)
  refine And.intro rfl ?_
  refine brk_ne (fun t1 => ?_) (fun t1 => ?_)
  (exfalso; omega)
  refine Exists.intro _ (And.intro (c91 m _ _ hl2) ?_)
  refine And.intro rfl ?_
  refine brk_eq (fun t2 => ?_) (fun t2 => ?_)
  rotate_left
  refine Exists.intro _ (Exists.intro _ (And.intro (c99i_52 m s _ _ _ hn) ?_))
  refine Exists.intro _ (And.intro (c118 m s fr w hf hr2.1 (by omega) hrk.2.1) ?_)
  refine Exists.intro _ (Exists.intro _ (And.intro (c117i_52 m s w (ofX m s fr w) (s.at w) (ofB m s fr w) s.es _ _ _ _ hw.1 (Sts.at_getI (by omega)) rfl) ?_))
  refine And.intro ?_ ?_
  assumption
  rotate_left
  ·refine bad _ ?_ (by decide)
   unfold heardE heaE; rw [if_0 hz, t2]; rfl
  ·refine fin ?_ _ (congrArg ens (hrs_heard m s w fr hw.1 (by omega)))
   unfold heardE heaE; rw [if_0 hz, show (betw m.ls w fr == 0) = false by rw [beq_eq_false_iff_ne]; exact t2]; rfl
 ·refine Exists.intro _ (And.intro (c37 m s hm hl2 hn) ?_)
  refine Exists.intro _ (And.intro (c87 m _) ?_)
  refine Exists.intro _ (And.intro (c87 m _) ?_)
  refine And.intro rfl ?_
  refine And.intro rfl ?_
  refine Exists.intro _ (And.intro (c86 [Ms.chkS m s, Ms.nodeE m w, Ms.nodeE m fr] (by simp)) ?_)
  refine And.intro rfl ?_
  refine brk_ne (fun t1 => ?_) (fun t1 => ?_)
  rotate_left
  (exfalso; omega)
  exact bad _ (by unfold heardE; exact if_1 hz) hz
theorem c69_g (a b : Sts) (hc : a.co = b.co) (hn : a.nu = b.nu) (hl : a.es.length = b.es.length) (ha : a.es.length ≤ 1048576) : CallDet Tryz.prog 69 [.d a.d, .d b.d] [.bool (decide (a.es = b.es))] := by
 have h1 := ens_len a.es
 have h2 := ens_len b.es
 have fin : ∀ v : Bool, decide (a.es = b.es) = v → resV [.bool v] = resV [.bool (decide (a.es = b.es))] := fun v h => by rw [h]
 refine call_of_vc (x := ir69) (by kernel_rfl) rfl ?_
 refine And.intro rfl ?_
 refine brk_ne (fun t1 => ?_) (fun t1 => ?_)
 (exfalso; omega)
 refine And.intro rfl ?_
 refine brk_ne (fun t2 => ?_) (fun t2 => ?_)
 (exfalso; omega)
 refine And.intro rfl ?_
 refine brk_ne (fun t3 => ?_) (fun t3 => ?_)
 (exfalso; omega)
 rotate_left
 refine loop_u (fun k : Nat => [(5, .d (.int .i64 k))]) (fun k => []) (fun k => k ≤ a.es.length ∧ a.es.take k = b.es.take k) (fun k => a.es.length - k) 0 rfl ⟨Nat.zero_le _, rfl⟩ ?_
 rintro k ⟨hk, ht⟩
 have hk : k ≤ a.es.length := hk
 by_cases hkk : k < a.es.length
 ·refine Exists.elim (get_lt a.es hkk) fun x hx => ?_
  refine Exists.elim (get_lt b.es (k := k) (by omega)) fun y hy => ?_
  have hxd := ens_at hx
  have hyd := ens_at hy
  refine And.intro rfl ?_
  refine brk_lt (fun u1 => ?_) (fun u1 => ?_)
  refine ix_at hxd ?_ ?_
  (show (0 : Int) ≤ (↑k : Int); omega)
  refine ix_at hyd ?_ ?_
  (show (0 : Int) ≤ (↑k : Int); omega)
  refine Exists.intro _ (And.intro (Exists.intro _ (And.intro rfl rfl)) ?_)
  refine brk_intro (fun u2 => ?_) (fun u2 => ?_)
  replace u2 : (!(En.nu x == En.nu y && (En.di x == En.di y && (En.ne x == En.ne y && true)))) = true := u2
  rotate_left
  replace u2 : (!(En.nu x == En.nu y && (En.di x == En.di y && (En.ne x == En.ne y && true)))) = false := u2
  refine ar_add ?_ ?_
  refine And.intro ?_ ?_
  (show (-9223372036854775808 : Int) ≤ (↑k : Int) + (1 : Int); omega)
  (show (↑k : Int) + (1 : Int) ≤ (9223372036854775807 : Int); omega)
  rotate_left
  (exfalso; omega)
  ·refine fin _ (decide_eq_false fun e => ?_)
   rw [← e, hx] at hy
   exact same_iff2 u2 (Option.some.inj hy)
  ·exact ⟨k + 1, ⟨⟨hkk, by rw [take_one hx, take_one hy, ht, same_iff3 u2]⟩, by show a.es.length - (k + 1) < a.es.length - k; omega⟩, rfl⟩
 ·have e : a.es = b.es := by rw [List.take_of_length_le (by omega), List.take_of_length_le (by omega)] at ht; exact ht
  refine And.intro rfl ?_
  refine brk_lt (fun u1 => ?_) (fun u1 => ?_)
  (exfalso; omega)
  rotate_left
  exact fin _ (decide_eq_true e)
def Sts.allP (m : Ms) (s : Sts) : Sts := s.rounds m (s.K m)
theorem c55 (m : Ms) (s : Sts) (g : Good m s) : CallDet Tryz.prog 55 [.d m.d, .d s.d] [(s.allP m).d, .int .i64 (s.K m)] := by
 have hf := chk_fine g.chk
 have hl := ens_len s.es
 have hle := g.len
 have h32 := hf.n32
 have h128 := hf.l128
 have fin : ∀ k : Nat, s.K m = k → resV [.agg [.int .i64 (s.rounds m k).co, .int .i64 (s.rounds m k).nu, .slice 3 (ens (s.rounds m k).es)], .int .i64 k] = resV [(s.allP m).d, .int .i64 (s.K m)] := fun k h => by unfold Sts.allP; rw [h]; rfl
 refine call_of_vc (x := ir55) (by kernel_rfl) rfl ?_
 refine Exists.intro _ (And.intro (c103 s (by omega)) ?_)
 rotate_left
 refine loop_u (fun k : Nat => [(7, .d (.int .i64 k))]) (fun k => [(3, .box [.d (.int .i64 (s.rounds m k).co), .d (.int .i64 (s.rounds m k).nu), .d (.slice 3 (ens (s.rounds m k).es))])]) (fun k => k ≤ m.ns.length ∧ s.K m = restK m s (m.ns.length - k) k) (fun k => m.ns.length - k) 0 rfl ⟨Nat.zero_le _, rfl⟩ ?_
 rintro k ⟨hk, hK⟩
 have hk : k ≤ m.ns.length := hk
 have gk := g.rounds k
 have hlk := rounds_len m s (k + 1)
 have ce := c69_g (s.rounds m (k + 1)) (s.rounds m k) rfl rfl (round_len m _ _) (by omega)
 have c69_k := ce
 by_cases he : (s.rounds m (k + 1)).es = (s.rounds m k).es
 ·rw [decide_eq_true he] at c69_k
  refine Exists.intro _ (And.intro (c57 m (s.rounds m k) [] gk (by decide)) ?_)
  refine Exists.intro _ (And.intro c69_k ?_)
  rotate_left
  exact fin k (hK.trans (restK_stop he))
 ·rw [decide_eq_false he] at c69_k
  have hlt := g.ne_lt he
  refine Exists.intro _ (And.intro (c57 m (s.rounds m k) [] gk (by decide)) ?_)
  refine Exists.intro _ (And.intro c69_k ?_)
  refine ar_add ?_ ?_
  refine And.intro ?_ ?_
  (show (-9223372036854775808 : Int) ≤ (↑k : Int) + (1 : Int); omega)
  (show (↑k : Int) + (1 : Int) ≤ (9223372036854775807 : Int); omega)
  rotate_left
  exact ⟨k + 1, ⟨⟨by show k + 1 ≤ _; omega, by rw [hK, show m.ns.length - k = (m.ns.length - (k + 1)) + 1 by omega, restK_go he]⟩, by show m.ns.length - (k + 1) < m.ns.length - k; omega⟩, rfl⟩
theorem c54 (m : Ms) (s : Sts) (hm : m.ns.length ≤ 1048576) (hl2 : m.ls.length ≤ 1048576) (hn : s.es.length ≤ 1048576) : CallDet Tryz.prog 54 [.d m.d, .d s.d] [(bif m.chkS s != 0 then Sts.zero else s.allP m).d, .int .i64 (bif m.chkS s != 0 then 0 else (s.K m : Int)), .int .i64 (m.chkS s)] := by
 have hl := ens_len s.es
 have bad : ¬ m.chkS s = 0 → resV [.agg [.int .i64 0, .int .i64 0, .slice 3 []], .int .i64 0, .int .i64 (m.chkS s)] = resV [(bif m.chkS s != 0 then Sts.zero else s.allP m).d, .int .i64 (bif m.chkS s != 0 then 0 else (s.K m : Int)), .int .i64 (m.chkS s)] := fun h => by
  rw [show (m.chkS s != 0) = true by rw [bne_iff_ne]; exact h]; rfl
 have fin : m.chkS s = 0 → ∀ k : Nat, s.K m = k → resV [.agg [.int .i64 (s.rounds m k).co, .int .i64 (s.rounds m k).nu, .slice 3 (ens (s.rounds m k).es)], .int .i64 k, .int .i64 0] = resV [(bif m.chkS s != 0 then Sts.zero else s.allP m).d, .int .i64 (bif m.chkS s != 0 then 0 else (s.K m : Int)), .int .i64 (m.chkS s)] := fun e k h => by rw [e]; unfold Sts.allP; rw [h]; rfl
 refine call_of_vc (x := ir54) (by kernel_rfl) rfl ?_
 by_cases hz : m.chkS s = 0
 ·have g := good_of hz
  have hf := chk_fine g.chk
  have hle := g.len
  have h32 := hf.n32
  have h128 := hf.l128
  refine Exists.intro _ (And.intro (c37 m s hm hl2 hn) ?_)
  refine And.intro rfl ?_
  refine brk_ne (fun t1 => ?_) (fun t1 => ?_)
  (exfalso; omega)
  refine Exists.intro _ (And.intro (c99 s (by omega)) ?_)
  refine Exists.intro _ (And.intro (c119 m s [] g (by decide)) ?_)
  rotate_left
  refine loop_u (fun k : Nat => [(9, .d (.int .i64 k))]) (fun k => [(3, .box [.d (.int .i64 (s.rounds m k).co), .d (.int .i64 (s.rounds m k).nu), .d (.slice 3 (ens (s.rounds m k).es))]), (4, .box [.d (.int .i64 (s.rounds m (k + 1)).co), .d (.int .i64 (s.rounds m (k + 1)).nu), .d (.slice 3 (ens (s.rounds m (k + 1)).es))])]) (fun k => k ≤ m.ns.length ∧ s.K m = restK m s (m.ns.length - k) k) (fun k => m.ns.length - k) 0 rfl ⟨Nat.zero_le _, rfl⟩ ?_
  rintro k ⟨hk, hK⟩
  have hk : k ≤ m.ns.length := hk
  have hlk := rounds_len m s (k + 1)
  have c120_k := c120 (s.rounds m (k + 1)).es (s.rounds m k).es (round_len m _ _) (by omega)
  by_cases he : (s.rounds m (k + 1)).es = (s.rounds m k).es
  ·rw [decide_eq_true he] at c120_k
   refine Exists.intro _ (And.intro c120_k ?_)
   rotate_left
   exact fin hz k (hK.trans (restK_stop he))
  ·rw [decide_eq_false he] at c120_k
   have hlt := g.ne_lt he
   refine Exists.intro _ (And.intro c120_k ?_)
   refine ar_add ?_ ?_
   refine And.intro ?_ ?_
   (show (-9223372036854775808 : Int) ≤ (↑k : Int) + (1 : Int); omega)
   (show (↑k : Int) + (1 : Int) ≤ (9223372036854775807 : Int); omega)
   refine Exists.intro _ (And.intro (c119 m (s.rounds m (k + 1)) [] (g.rounds (k + 1)) (by decide)) ?_)
   rotate_left
   exact ⟨k + 1, ⟨⟨by show k + 1 ≤ _; omega, by rw [hK, show m.ns.length - k = (m.ns.length - (k + 1)) + 1 by omega, restK_go he]⟩, by show m.ns.length - (k + 1) < m.ns.length - k; omega⟩, rfl⟩
 ·refine Exists.intro _ (And.intro (c37 m s hm hl2 hn) ?_)
  refine And.intro rfl ?_
  refine brk_ne (fun t1 => ?_) (fun t1 => ?_)
  rotate_left
  (exfalso; omega)
  exact bad hz
theorem zb {α : Type} {e b : Int} {z x w : α} (h : e = b) (h2 : b = 0 → x = w) : (bif e != 0 then z else x) = bif b != 0 then z else w := by
 subst h
 by_cases h : e = 0
 ·rw [h2 h]
 ·rw [show (e != 0) = true by rw [bne_iff_ne]; exact h]; rfl
theorem if_lenE {e : Int} {x : Sts} {n : Nat} (h : x.es.length ≤ n) : (bif e != 0 then Sts.zero else x).es.length ≤ n := by
 cases (e != 0)
 ·exact h
 ·exact Nat.zero_le _
theorem heard_len (m : Ms) (s : Sts) (a b : Int) : (s.heard m a b).es.length = s.es.length := by unfold Sts.heard; exact List.length_set
theorem c7 (hw : CallDet Tryz.prog 16 [] [.bool true]) (m : Ms) (s : Sts) (a b : Int) (lost : List (Int × Int)) (hm : m.ns.length ≤ 1048576) (hl2 : m.ls.length ≤ 1048576) (hn : s.es.length ≤ 1048576) (hll : lost.length ≤ 1048576) :
  CallDet Tryz.prog 7 [.d m.d, .d s.d, .d (.agg [.int .i64 a, .int .i64 b, .slice 2 (prs lost)])] [.bool true] := by
 have c16_ := hw
 have hA : m.chkS s = 0 → firstOf [m.nodeE a, m.nodeE b] = 0 → heardE m s a b = heaE m a b := fun h h2 => by unfold heardE; exact if_0 (by rw [first_0 h]; exact h2)
 have hB : m.chkS s = 0 → ¬ firstOf [m.nodeE a, m.nodeE b] = 0 → heardE m s a b = firstOf [m.nodeE a, m.nodeE b] := fun h h2 => by unfold heardE; rw [first_0 h]; exact if_1 h2
 have hC : ¬ m.chkS s = 0 → heardE m s a b = m.chkS s := fun h => by unfold heardE; rw [first_1 h]; exact if_1 h
 have hD : m.chkS s = 0 → firstOf [m.chkS s, pairsE m lost] = pairsE m lost := fun h => by rw [first_0 h]; show (bif pairsE m lost != 0 then pairsE m lost else 0) = _; by_cases h2 : pairsE m lost = 0; rw [h2]; rfl; exact if_1 h2
 have hE : ¬ m.chkS s = 0 → firstOf [m.chkS s, pairsE m lost] = m.chkS s := fun h => first_1 h
 have hF : s.roundP m lost = bif firstOf [m.chkS s, pairsE m lost] != 0 then Sts.zero else s.round m lost := rfl
 have hhl := heard_len m s a b
 have hrl := round_len m s lost
 have hal : (s.allP m).es.length = s.es.length := rounds_len m s _
 have fa : firstOf [m.nodeE a, m.nodeE b] = 0 → (0 ≤ a ∧ a < (m.ns.length : Int)) ∧ (0 ≤ b ∧ b < (m.ns.length : Int)) := fun h => ⟨node_in (firstOf_zero h (m.nodeE a) (by simp)), node_in (firstOf_zero h (m.nodeE b) (by simp))⟩
 refine call_of_vc (x := ir7) (by kernel_rfl) rfl ?_
 refine Exists.intro _ (And.intro (c15 m hm) ?_)
 refine brk_intro (fun t1 => ?_) (fun t1 => ?_)
 refine And.intro rfl ?_
 refine And.intro rfl ?_
 refine Exists.intro _ (And.intro c16_ ?_)
 exact rfl
 refine Exists.intro _ (And.intro (c30 s) ?_)
 refine brk_intro (fun t2 => ?_) (fun t2 => ?_)
 replace t2 : (!(decide ((↑(List.length (Sts.es s)) : Int) ≤ (9 : Int)) || (↑(List.length (Sts.es s)) : Int) == (33 : Int))) = true := t2
 refine And.intro rfl ?_
 refine Exists.intro _ (And.intro c16_ ?_)
 exact rfl
 replace t2 : (!(decide ((↑(List.length (Sts.es s)) : Int) ≤ (9 : Int)) || (↑(List.length (Sts.es s)) : Int) == (33 : Int))) = false := t2
 refine Exists.intro _ (And.intro (c39 lost) ?_)
 refine brk_intro (fun t3 => ?_) (fun t3 => ?_)
 replace t3 : (!(decide ((↑(List.length lost) : Int) ≤ (12 : Int)) || (↑(List.length lost) : Int) == (257 : Int))) = true := t3
 refine Exists.intro _ (And.intro c16_ ?_)
 exact rfl
 replace t3 : (!(decide ((↑(List.length lost) : Int) ≤ (12 : Int)) || (↑(List.length lost) : Int) == (257 : Int))) = false := t3
 refine Exists.intro _ (And.intro (c18 m hm hl2) ?_)
 refine Exists.intro _ (And.intro (c33 s hn) ?_)
 refine And.intro ?_ ?_
 refine And.intro ?_ ?_
 (show (0 : Int) ≤ (0 : Int); omega)
 (show (0 : Int) < (↑(2 : Nat) : Int); omega)
 refine And.intro ?_ ?_
 refine And.intro ?_ ?_
 (show (0 : Int) ≤ (1 : Int); omega)
 (show (1 : Int) < (↑(2 : Nat) : Int); omega)
 refine Exists.intro _ (And.intro (c52 m s a b hm hl2 hn) ?_)
 refine Exists.intro _ (And.intro (c18 m hm hl2) ?_)
 refine Exists.intro _ (And.intro (c33 s hn) ?_)
 refine Exists.intro _ (And.intro (c41 lost hll) ?_)
 refine Exists.intro _ (And.intro (c53 m s lost hm hl2 hn hll) ?_)
 refine Exists.intro _ (And.intro (c18 m hm hl2) ?_)
 refine Exists.intro _ (And.intro (c33 s hn) ?_)
 refine Exists.intro _ (And.intro (c54 m s hm hl2 hn) ?_)
 refine Exists.intro _ (And.intro (c34 m s hm hl2 hn) ?_)
 refine And.intro rfl ?_
 refine brk_eq (fun t4 => ?_) (fun t4 => ?_)
 refine And.intro ?_ ?_
 refine And.intro ?_ ?_
 (show (0 : Int) ≤ (0 : Int); omega)
 (show (0 : Int) < (↑(2 : Nat) : Int); omega)
 refine Exists.intro _ (And.intro (c23 m _) ?_)
 refine And.intro ?_ ?_
 refine And.intro ?_ ?_
 (show (0 : Int) ≤ (1 : Int); omega)
 (show (1 : Int) < (↑(2 : Nat) : Int); omega)
 refine Exists.intro _ (And.intro (c23 m _) ?_)
 refine And.intro rfl ?_
 refine And.intro rfl ?_
 refine Exists.intro _ (And.intro (c42 [Ms.nodeE m a, Ms.nodeE m b] (by simp)) ?_)
 refine Exists.intro _ (And.intro (c43 m lost hll) ?_)
 refine Exists.intro _ (And.intro (c55 m s (good_of ‹_›)) ?_)
 refine And.intro rfl ?_
 refine brk_eq (fun t5 => ?_) (fun t5 => ?_)
 refine And.intro ?_ ?_
 refine And.intro ?_ ?_
 (show (0 : Int) ≤ (0 : Int); omega)
 (show (0 : Int) < (↑(2 : Nat) : Int); omega)
 refine And.intro ?_ ?_
 refine And.intro ?_ ?_
 (show (0 : Int) ≤ (1 : Int); omega)
 (show (1 : Int) < (↑(2 : Nat) : Int); omega)
 refine Exists.intro _ (And.intro (c56 m s a b (good_of ‹_›) (fa ‹_›).1 (fa ‹_›).2) ?_)
 refine And.intro rfl ?_
 refine brk_eq (fun t6 => ?_) (fun t6 => ?_)
 refine Exists.intro _ (And.intro (c57 m s lost (good_of ‹_›) hll) ?_)
 refine Exists.intro _ (And.intro (c38 _ _ _ _ ?_ ?_ ?_) ?_)
 rotate_left
 (show heardE m s a b = heaE m a b; omega)
 rotate_left
 refine Exists.intro _ (And.intro (c38 _ _ _ _ ?_ ?_ ?_) ?_)
 rotate_left
 (show firstOf [Ms.chkS m s, pairsE m lost] = pairsE m lost; omega)
 rotate_left
 refine Exists.intro _ (And.intro (c38 _ _ _ _ ?_ ?_ ?_) ?_)
 rotate_left
 exact rfl
 exact rfl
 refine Exists.intro _ (And.intro (c29_y _ _ _ _ ?_ ?_) ?_)
 exact rfl
 exact rfl
 refine Exists.intro _ (And.intro c16_ ?_)
 exact rfl
 refine Exists.intro _ (And.intro (c38 _ _ _ _ ?_ ?_ ?_) ?_)
 rotate_left
 (show heardE m s a b = heaE m a b; omega)
 rotate_left
 refine Exists.intro _ (And.intro (c38 _ Sts.zero _ _ ?_ ?_ ?_) ?_)
 rotate_left
 (show firstOf [Ms.chkS m s, pairsE m lost] = pairsE m lost; omega)
 rotate_left
 refine Exists.intro _ (And.intro (c38 _ _ _ _ ?_ ?_ ?_) ?_)
 rotate_left
 exact rfl
 exact rfl
 refine Exists.intro _ (And.intro (c29_y _ _ _ _ ?_ ?_) ?_)
 exact rfl
 exact rfl
 refine Exists.intro _ (And.intro c16_ ?_)
 exact rfl
 refine And.intro rfl ?_
 refine brk_eq (fun t7 => ?_) (fun t7 => ?_)
 refine Exists.intro _ (And.intro (c57 m s lost (good_of ‹_›) hll) ?_)
 refine Exists.intro _ (And.intro (c38 _ Sts.zero _ _ ?_ ?_ ?_) ?_)
 rotate_left
 (show heardE m s a b = firstOf [Ms.nodeE m a, Ms.nodeE m b]; omega)
 rotate_left
 refine Exists.intro _ (And.intro (c38 _ _ _ _ ?_ ?_ ?_) ?_)
 rotate_left
 (show firstOf [Ms.chkS m s, pairsE m lost] = pairsE m lost; omega)
 rotate_left
 refine Exists.intro _ (And.intro (c38 _ _ _ _ ?_ ?_ ?_) ?_)
 rotate_left
 exact rfl
 exact rfl
 refine Exists.intro _ (And.intro (c29_y _ _ _ _ ?_ ?_) ?_)
 exact rfl
 exact rfl
 refine Exists.intro _ (And.intro c16_ ?_)
 exact rfl
 refine Exists.intro _ (And.intro (c38 _ Sts.zero _ _ ?_ ?_ ?_) ?_)
 rotate_left
 (show heardE m s a b = firstOf [Ms.nodeE m a, Ms.nodeE m b]; omega)
 rotate_left
 refine Exists.intro _ (And.intro (c38 _ Sts.zero _ _ ?_ ?_ ?_) ?_)
 rotate_left
 (show firstOf [Ms.chkS m s, pairsE m lost] = pairsE m lost; omega)
 rotate_left
 refine Exists.intro _ (And.intro (c38 _ _ _ _ ?_ ?_ ?_) ?_)
 rotate_left
 exact rfl
 exact rfl
 refine Exists.intro _ (And.intro (c29_y _ _ _ _ ?_ ?_) ?_)
 exact rfl
 exact rfl
 refine Exists.intro _ (And.intro c16_ ?_)
 exact rfl
 refine And.intro rfl ?_
 refine brk_eq (fun t8 => ?_) (fun t8 => ?_)
 (exfalso; omega)
 refine And.intro rfl ?_
 refine brk_eq (fun t9 => ?_) (fun t9 => ?_)
 (exfalso; omega)
 refine Exists.intro _ (And.intro (c38 _ Sts.zero _ _ ?_ ?_ ?_) ?_)
 rotate_left
 (show heardE m s a b = Ms.chkS m s; omega)
 rotate_left
 refine Exists.intro _ (And.intro (c38 _ Sts.zero _ _ ?_ ?_ ?_) ?_)
 rotate_left
 (show firstOf [Ms.chkS m s, pairsE m lost] = Ms.chkS m s; omega)
 rotate_left
 refine Exists.intro _ (And.intro (c38 _ Sts.zero _ _ ?_ ?_ ?_) ?_)
 rotate_left
 exact rfl
 rotate_left
 refine Exists.intro _ (And.intro (c29_y _ _ _ _ ?_ ?_) ?_)
 rotate_left
 exact rfl
 refine Exists.intro _ (And.intro c16_ ?_)
 exact rfl
 all_goals first
  | exact if_lenE (by omega)
  | (rw [hF]; exact if_lenE (by omega))
  | exact zb (by omega) (fun _ => rfl)
  | exact zb (by omega) (fun h => by rw [h]; rfl)
  | exact zb (by omega) (fun h => absurd h ‹_›)
  | exact zb (by omega) (fun h => absurd h (by omega))
  | (rw [hF]; exact zb (by omega) (fun _ => rfl))
  | (rw [hF]; exact zb (by omega) (fun h => absurd h (by omega)))
  | skip
end Vc
