import Derived.Test.YthociffnlhdenaaGreatDoorG12
import Derived.Test.YthociffnlhdenaaGreatDoorG16
import Derived.Test.YthociffnlhdenaaGreatDoorG18
import Derived.Test.YthociffnlhdenaaGreatDoorG17
import Derived.Test.YthociffnlhdenaaGreatDoorG10
set_option linter.unusedSectionVars false
set_option linter.unusedVariables false
set_option linter.unusedSimpArgs false
set_option maxRecDepth 10000
set_option maxHeartbeats 4000000
namespace Vc
open Go Go.Proofs
def ir111 : AFun := ⟨25, 3, [.tmp 4],
 (.seq
 (.reg [0] [⟨some 2, .cbx 0 2 (.tmp 0), none⟩,
 ⟨some 4, .mov (.cst (.nils 1)), none⟩])
 (.seq
 (.reg [] [⟨some 5, .mov (.cst (.nils 1)), none⟩])
 (.seq
 (.seq
 (.reg [] [⟨some 8, .ld true 2 (.tmp 2), none⟩,
 ⟨some 9, .mov (.tmp 1), none⟩,
 ⟨some 10, .call 92 [(.tmp 8), (.tmp 9)], none⟩,
 ⟨some 11, .len (.tmp 10), none⟩,
 ⟨some 12, .mov (.cst (.d (.int .i64 0))), none⟩])
 (.post [5] [0, 1, 2]
 (.block 0
 (.asrow 2 3 1 5
 (.keep [5, 10, 11, 12] [0]
 (.loop
 (.post [5, 10, 11, 12] [1, 2]
 (.seq
 (.reg [] [⟨some 13, .cmp .lss (.tmp 12) (.tmp 11), none⟩])
 (.seq
 (.cond (.tmp 13)
 .skip
 (.exit 0))
 (.seq
 (.block 1
 (.seq
 (.reg [] [⟨some 14, .mov (.tmp 12), none⟩,
 ⟨some 15, .ixa 1 (.tmp 10) (.tmp 12), none⟩,
 ⟨some 16, .ld false 1 (.tmp 15), none⟩,
 ⟨some 6, .mov (.tmp 14), none⟩,
 ⟨some 7, .mov (.tmp 16), none⟩])
 (.seq
 (.reg [] [⟨some 17, .mov (.tmp 7), none⟩,
 ⟨some 18, .cmp .geq (.tmp 17) (.cst (.d (.int .i64 0))), none⟩])
 (.cond (.tmp 18)
 (.reg [1, 2] [⟨some 19, .mov (.tmp 5), none⟩,
 ⟨some 20, .mov (.tmp 6), none⟩,
 ⟨some 21, .bsl 1 3 1 1 [(.int .i64 0)] [(0, (.tmp 20))], none⟩,
 ⟨some 22, .app 2 3 1 8 (.tmp 19) (.tmp 21), none⟩,
 ⟨some 5, .mov (.tmp 22), none⟩])
 .skip))))
 (.reg [] [⟨some 23, .arith .add .i64 (.tmp 12) (.cst (.d (.int .i64 1))), none⟩,
 ⟨some 12, .mov (.tmp 23), none⟩])))))))))))
 (.seq
 (.reg [] [⟨some 24, .mov (.tmp 5), none⟩,
 ⟨some 4, .mov (.tmp 24), none⟩])
 .ret))))⟩
def ir112 : AFun := ⟨17, 2, [.tmp 6],
 (.seq
 (.reg [0] [⟨some 3, .cbx 0 2 (.tmp 0), none⟩,
 ⟨some 6, .mov (.cst (.d (.int .i64 0))), none⟩])
 (.seq
 (.regd [1] [⟨some 7, .ld true 2 (.tmp 3), none⟩,
 ⟨some 8, .call 27 [(.tmp 7)], none⟩,
 ⟨some 9, .ld true 2 (.tmp 3), none⟩,
 ⟨some 10, .mov (.tmp 1), none⟩,
 ⟨some 11, .call 87 [(.tmp 9), (.tmp 10)], none⟩,
 ⟨some 12, .ld true 2 (.tmp 3), none⟩,
 ⟨some 13, .mov (.tmp 2), none⟩,
 ⟨some 14, .call 87 [(.tmp 12), (.tmp 13)], none⟩,
 ⟨some 15, .bsl 1 29 1 3 [(.int .i64 0), (.int .i64 0), (.int .i64 0)] [(0, (.tmp 8)), (1, (.tmp 11)), (2, (.tmp 14))], none⟩,
 ⟨some 16, .call 86 [(.tmp 15)], none⟩,
 ⟨some 6, .mov (.tmp 16), none⟩] [(0, 2), (1, 2), (0, 3), (1, 3), (2, 3), (0, 5), (1, 5), (2, 5), (3, 5), (4, 5), (0, 6), (1, 6), (2, 6), (3, 6), (4, 6), (5, 6)])
 .ret))⟩
def ir114 : AFun := ⟨7, 0, [.tmp 3],
 (.seq
 (.reg [] [⟨some 3, .mov (.cst (.d (.bool false))), none⟩])
 (.seq
 (.reg [] [⟨some 4, .ld false 1 (.tmp 1), none⟩,
 ⟨some 5, .mov (.tmp 0), none⟩,
 ⟨some 6, .call 113 [(.tmp 4), (.tmp 5)], none⟩,
 ⟨some 3, .mov (.tmp 6), none⟩])
 .ret))⟩
def ir116 : AFun := ⟨13, 1, [.tmp 3],
 (.seq
 (.reg [0] [⟨some 2, .cbx 0 3 (.tmp 0), none⟩,
 ⟨some 3, .mov (.cst (.d (.bool false))), none⟩])
 (.seq
 (.regd [] [⟨some 4, .ld false 1 (.tmp 1), none⟩,
 ⟨some 5, .fad 0 (.tmp 2), none⟩,
 ⟨some 6, .ld false 1 (.tmp 5), none⟩,
 ⟨some 7, .callv (.tmp 4) [(.tmp 6)], none⟩,
 ⟨some 8, .ld false 1 (.tmp 1), none⟩,
 ⟨some 9, .fad 1 (.tmp 2), none⟩,
 ⟨some 10, .ld false 1 (.tmp 9), none⟩,
 ⟨some 11, .callv (.tmp 8) [(.tmp 10)], none⟩,
 ⟨some 12, .beq true (.tmp 7) (.tmp 11), none⟩,
 ⟨some 3, .mov (.tmp 12), none⟩] [(0, 1), (0, 2), (0, 4), (1, 4), (2, 4), (3, 4), (0, 5), (1, 5), (2, 5), (3, 5), (4, 5), (0, 6), (1, 6), (2, 6), (3, 6), (4, 6)])
 .ret))⟩
def ir47 : AFun := ⟨75, 5, [.tmp 8],
 (.seq
 (.reg [0, 1] [⟨some 4, .cbx 0 2 (.tmp 0), none⟩,
 ⟨some 7, .cbx 1 1 (.tmp 3), none⟩,
 ⟨some 8, .mov (.cst (.d (.int .i64 0))), none⟩])
 (.seq
 (.seq
 (.regd [2] [⟨some 15, .ld true 2 (.tmp 4), none⟩,
 ⟨some 16, .mov (.tmp 1), none⟩,
 ⟨some 17, .mov (.tmp 2), none⟩,
 ⟨some 18, .call 112 [(.tmp 15), (.tmp 16), (.tmp 17)], none⟩,
 ⟨some 19, .ld false 1 (.tmp 7), none⟩,
 ⟨some 20, .len (.tmp 19), none⟩,
 ⟨some 21, .cmp .gtr (.tmp 20) (.cst (.d (.int .i64 32))), none⟩,
 ⟨some 22, .call 89 [(.tmp 21), (.cst (.d (.int .i64 5)))], none⟩,
 ⟨some 23, .bsl 2 29 1 2 [(.int .i64 0), (.int .i64 0)] [(0, (.tmp 18)), (1, (.tmp 22))], none⟩,
 ⟨some 24, .call 86 [(.tmp 23)], none⟩,
 ⟨some 9, .mov (.tmp 24), none⟩] [(0, 1), (0, 2), (1, 2), (0, 4), (1, 4), (2, 4), (3, 4), (0, 5), (1, 5), (2, 5), (3, 5), (0, 6), (1, 6), (2, 6), (3, 6)])
 (.seq
 (.reg [] [⟨some 25, .mov (.tmp 9), none⟩,
 ⟨some 26, .cmp .neq (.tmp 25) (.cst (.d (.int .i64 0))), none⟩])
 (.cond (.tmp 26)
 (.seq
 (.reg [] [⟨some 27, .mov (.tmp 9), none⟩,
 ⟨some 8, .mov (.tmp 27), none⟩])
 .ret)
 .skip)))
 (.seq
 (.seq
 (.reg [] [⟨some 28, .ld false 1 (.tmp 7), none⟩,
 ⟨some 29, .len (.tmp 28), none⟩,
 ⟨some 30, .mov (.cst (.d (.int .i64 0))), none⟩])
 (.post [1, 2, 4, 7] [0, 1, 2, 3]
 (.block 0
 (.keep [1, 2, 4, 7, 28, 29, 30] [0, 1, 2]
 (.loop
 (.post [1, 2, 4, 7, 28, 29, 30] [3]
 (.seq
 (.reg [] [⟨some 31, .cmp .lss (.tmp 30) (.tmp 29), none⟩])
 (.seq
 (.cond (.tmp 31)
 .skip
 (.exit 0))
 (.seq
 (.block 1
 (.seq
 (.reg [] [⟨some 32, .mov (.tmp 30), none⟩,
 ⟨some 33, .ixa 1 (.tmp 28) (.tmp 30), none⟩,
 ⟨some 34, .ld false 1 (.tmp 33), none⟩,
 ⟨some 10, .mov (.tmp 32), none⟩,
 ⟨some 11, .mov (.tmp 34), none⟩])
 (.seq
 (.reg [3] [⟨some 35, .ld true 2 (.tmp 4), none⟩,
 ⟨some 36, .mov (.tmp 11), none⟩,
 ⟨some 37, .call 87 [(.tmp 35), (.tmp 36)], none⟩,
 ⟨some 38, .mov (.tmp 10), none⟩,
 ⟨some 39, .cmp .gtr (.tmp 38) (.cst (.d (.int .i64 0))), none⟩,
 ⟨some 40, .mov (.tmp 39), none⟩,
 ⟨some 41, .mov (.tmp 11), some (40, true)⟩,
 ⟨some 42, .ld false 1 (.tmp 7), some (40, true)⟩,
 ⟨some 43, .mov (.tmp 10), some (40, true)⟩,
 ⟨some 44, .arith .sub .i64 (.tmp 43) (.cst (.d (.int .i64 1))), some (40, true)⟩,
 ⟨some 45, .maxi (.cst (.d (.int .i64 0))) (.tmp 44), some (40, true)⟩,
 ⟨some 46, .ixa 1 (.tmp 42) (.tmp 45), some (40, true)⟩,
 ⟨some 47, .ld false 1 (.tmp 46), some (40, true)⟩,
 ⟨some 48, .cmp .leq (.tmp 41) (.tmp 47), some (40, true)⟩,
 ⟨some 49, .pick (.tmp 40) (.tmp 48) (.cst (.d (.bool false))), none⟩,
 ⟨some 50, .call 89 [(.tmp 49), (.cst (.d (.int .i64 11)))], none⟩,
 ⟨some 51, .bsl 3 29 1 2 [(.int .i64 0), (.int .i64 0)] [(0, (.tmp 37)), (1, (.tmp 50))], none⟩,
 ⟨some 52, .call 86 [(.tmp 51)], none⟩,
 ⟨some 12, .mov (.tmp 52), none⟩])
 (.seq
 (.reg [] [⟨some 53, .mov (.tmp 12), none⟩,
 ⟨some 54, .cmp .neq (.tmp 53) (.cst (.d (.int .i64 0))), none⟩])
 (.cond (.tmp 54)
 (.seq
 (.reg [] [⟨some 55, .mov (.tmp 12), none⟩,
 ⟨some 8, .mov (.tmp 55), none⟩])
 .ret)
 .skip)))))
 (.reg [] [⟨some 56, .arith .add .i64 (.tmp 30) (.cst (.d (.int .i64 1))), none⟩,
 ⟨some 30, .mov (.tmp 56), none⟩]))))))))))
 (.seq
 (.reg [4] [⟨some 57, .mkf (.func 114) [] [(.tmp 7)], none⟩,
 ⟨some 13, .alloc 4 [.undef], none⟩,
 ⟨none, .st 1 (.tmp 13) (.tmp 57), none⟩])
 (.seq
 (.reg [] [⟨some 58, .fad 1 (.tmp 4), none⟩,
 ⟨some 59, .ld false 1 (.tmp 58), none⟩,
 ⟨some 60, .mkf (.func 116) [] [(.tmp 13)], none⟩,
 ⟨some 61, .call 115 [(.tmp 59), (.tmp 60)], none⟩,
 ⟨some 14, .mov (.tmp 61), none⟩])
 (.seq
 (.reg [] [⟨some 62, .ld false 1 (.tmp 13), none⟩,
 ⟨some 63, .mov (.tmp 1), none⟩,
 ⟨some 64, .callv (.tmp 62) [(.tmp 63)], none⟩,
 ⟨some 65, .not (.tmp 64), none⟩,
 ⟨some 66, .mov (.tmp 65), none⟩,
 ⟨some 67, .ld false 1 (.tmp 13), some (66, false)⟩,
 ⟨some 68, .mov (.tmp 2), some (66, false)⟩,
 ⟨some 69, .callv (.tmp 67) [(.tmp 68)], some (66, false)⟩,
 ⟨some 70, .pick (.tmp 66) (.cst (.d (.bool true))) (.tmp 69), none⟩,
 ⟨some 71, .mov (.tmp 70), none⟩,
 ⟨some 72, .mov (.tmp 14), some (71, false)⟩,
 ⟨some 73, .pick (.tmp 71) (.cst (.d (.bool true))) (.tmp 72), none⟩,
 ⟨some 74, .call 89 [(.tmp 73), (.cst (.d (.int .i64 19)))], none⟩,
 ⟨some 8, .mov (.tmp 74), none⟩])
 .ret))))))⟩
theorem ints_app1 (l : List Int) (x : Int) : ints (l ++ [x]) = ints l ++ [.int .i64 x] := by unfold ints; rw [List.map_append]; rfl
theorem nil_if {α : Type} {v : Int} {l : List α} (h : ¬ v = 0) : (bif v != 0 then [] else l) = [] := by rw [show (v != 0) = true by rw [bne_iff_ne]; exact h]; rfl
theorem if_le {α : Type} {v : Int} {l : List α} {n : Nat} (h : l.length ≤ n) : (bif v != 0 then [] else l).length ≤ n := by
 cases (v != 0)
 ·exact h
 ·exact Nat.zero_le _
theorem first_1 {a : Int} {l : List Int} (h : ¬ a = 0) : firstOf (a :: l) = a := by rw [firstOf_cons, show (a != 0) = true by rw [bne_iff_ne]; exact h]; rfl
theorem first_0 {a : Int} {l : List Int} (h : a = 0) : firstOf (a :: l) = firstOf l := by rw [firstOf_cons, h]; rfl
theorem if_0 {v w : Int} (h : v = 0) : (bif v != 0 then v else w) = w := by rw [h]; rfl
theorem if_1 {v w : Int} (h : ¬ v = 0) : (bif v != 0 then v else w) = v := by rw [show (v != 0) = true by rw [bne_iff_ne]; exact h]; rfl
end Vc
set_option maxRecDepth 10000
set_option maxHeartbeats 4000000
namespace Vc
open Go Go.Proofs
def ir118 : AFun := ⟨38, 5, [.cell 8 4 true],
 (.seq
 (.reg [0, 1, 2] [⟨some 4, .cbx 0 3 (.tmp 0), none⟩,
 ⟨some 5, .cbx 1 2 (.tmp 1), none⟩,
 ⟨some 8, .alloc 2 [(.d (.int .i64 0)), (.d (.int .i64 0)), (.d (.int .i64 0)), (.d (.bool false))], none⟩])
 (.seq
 (.reg [3] [⟨some 11, .fad 2 (.tmp 4), none⟩,
 ⟨some 12, .ld false 1 (.tmp 11), none⟩,
 ⟨some 13, .mov (.tmp 2), none⟩,
 ⟨some 14, .ixa 3 (.tmp 12) (.tmp 13), none⟩,
 ⟨some 15, .ld true 3 (.tmp 14), none⟩,
 ⟨some 9, .alloc 3 [(.d (.int .i64 0)), (.d (.int .i64 0)), (.d (.int .i64 0))], none⟩,
 ⟨none, .st 3 (.tmp 9) (.tmp 15), none⟩])
 (.seq
 (.seq
 (.reg [] [⟨some 16, .fad 2 (.tmp 9), none⟩,
 ⟨some 17, .ld false 1 (.tmp 16), none⟩,
 ⟨some 18, .cmp .eql (.tmp 17) (.cst (.d (.int .i64 (-1)))), none⟩])
 (.cond (.tmp 18)
 (.seq
 (.reg [] [⟨some 19, .build [(.d (.int .i64 0)), (.d (.int .i64 0)), (.d (.int .i64 0)), (.d (.bool false))] [], none⟩,
 ⟨none, .st 4 (.tmp 8) (.tmp 19), none⟩])
 .ret)
 .skip))
 (.seq
 (.regd [4] [⟨some 20, .fad 0 (.tmp 9), none⟩,
 ⟨some 21, .ld false 1 (.tmp 20), none⟩,
 ⟨some 22, .fad 1 (.tmp 9), none⟩,
 ⟨some 23, .ld false 1 (.tmp 22), none⟩,
 ⟨some 24, .ld true 2 (.tmp 5), none⟩,
 ⟨some 25, .mov (.tmp 2), none⟩,
 ⟨some 26, .mov (.tmp 3), none⟩,
 ⟨some 27, .call 91 [(.tmp 24), (.tmp 25), (.tmp 26)], none⟩,
 ⟨some 28, .arith .add .i64 (.tmp 23) (.tmp 27), none⟩,
 ⟨some 29, .mov (.tmp 2), none⟩,
 ⟨some 30, .build [(.d (.int .i64 0)), (.d (.int .i64 0)), (.d (.int .i64 0))] [(0, 1, (.tmp 21)), (1, 1, (.tmp 28)), (2, 1, (.tmp 29))], none⟩,
 ⟨some 31, .build [(.d (.int .i64 0)), (.d (.int .i64 0)), (.d (.int .i64 0)), (.d (.bool false))] [(0, 3, (.tmp 30))], none⟩,
 ⟨some 10, .alloc 4 [(.d (.int .i64 0)), (.d (.int .i64 0)), (.d (.int .i64 0)), (.d (.bool false))], none⟩,
 ⟨none, .st 4 (.tmp 10) (.tmp 31), none⟩] [(0, 2), (1, 2), (0, 3), (1, 3), (0, 4), (1, 4), (2, 4), (3, 4), (0, 5), (1, 5), (2, 5), (3, 5), (4, 5), (0, 6), (1, 6), (2, 6), (3, 6), (4, 6), (5, 6), (0, 7), (1, 7), (2, 7), (3, 7), (0, 8), (1, 8), (0, 9), (1, 9), (2, 9), (3, 9), (4, 9), (5, 9), (6, 9), (7, 9), (8, 9), (0, 12), (1, 12), (2, 12), (3, 12), (4, 12), (5, 12), (6, 12), (7, 12), (8, 12), (9, 12), (10, 12), (11, 12)])
 (.seq
 (.reg [] [⟨some 32, .fad 0 (.tmp 10), none⟩,
 ⟨some 33, .fad 1 (.tmp 32), none⟩,
 ⟨some 34, .ld false 1 (.tmp 33), none⟩,
 ⟨some 35, .cmp .leq (.tmp 34) (.cst (.d (.int .i64 3200))), none⟩,
 ⟨some 36, .fad 3 (.tmp 10), none⟩,
 ⟨none, .st 1 (.tmp 36) (.tmp 35), none⟩])
 (.seq
 (.reg [] [⟨some 37, .ld true 4 (.tmp 10), none⟩,
 ⟨none, .st 4 (.tmp 8) (.tmp 37), none⟩])
 .ret))))))⟩
def ir150 : AFun := ⟨24, 2, [.tmp 4],
 (.seq
 (.reg [0, 1] [⟨some 2, .cbx 0 3 (.tmp 0), none⟩,
 ⟨some 3, .cbx 1 3 (.tmp 1), none⟩,
 ⟨some 4, .mov (.cst (.d (.bool false))), none⟩])
 (.seq
 (.reg [] [⟨some 5, .fad 0 (.tmp 2), none⟩,
 ⟨some 6, .ld false 1 (.tmp 5), none⟩,
 ⟨some 7, .fad 0 (.tmp 3), none⟩,
 ⟨some 8, .ld false 1 (.tmp 7), none⟩,
 ⟨some 9, .cmp .gtr (.tmp 6) (.tmp 8), none⟩,
 ⟨some 10, .mov (.tmp 9), none⟩,
 ⟨some 11, .fad 0 (.tmp 2), some (10, false)⟩,
 ⟨some 12, .ld false 1 (.tmp 11), some (10, false)⟩,
 ⟨some 13, .fad 0 (.tmp 3), some (10, false)⟩,
 ⟨some 14, .ld false 1 (.tmp 13), some (10, false)⟩,
 ⟨some 15, .cmp .eql (.tmp 12) (.tmp 14), some (10, false)⟩,
 ⟨some 16, .mov (.tmp 15), some (10, false)⟩,
 ⟨some 17, .fad 1 (.tmp 2), some (16, true)⟩,
 ⟨some 18, .ld false 1 (.tmp 17), some (16, true)⟩,
 ⟨some 19, .fad 1 (.tmp 3), some (16, true)⟩,
 ⟨some 20, .ld false 1 (.tmp 19), some (16, true)⟩,
 ⟨some 21, .cmp .lss (.tmp 18) (.tmp 20), some (16, true)⟩,
 ⟨some 22, .pick (.tmp 16) (.tmp 21) (.cst (.d (.bool false))), some (10, false)⟩,
 ⟨some 23, .pick (.tmp 10) (.cst (.d (.bool true))) (.tmp 22), none⟩,
 ⟨some 4, .mov (.tmp 23), none⟩])
 .ret))⟩
def ir117 : AFun := ⟨32, 2, [],
 (.seq
 (.reg [0, 1] [⟨some 3, .box 0 3 (.tmp 0), none⟩,
 ⟨some 5, .cbx 1 4 (.tmp 2), none⟩])
 (.seq
 (.reg [] [⟨some 6, .mov (.cst (.d (.fn (.func 150) []))), none⟩])
 (.seq
 (.regd [] [⟨some 7, .mov (.tmp 1), none⟩,
 ⟨some 8, .fad 0 (.tmp 3), none⟩,
 ⟨some 9, .ld false 1 (.tmp 8), none⟩,
 ⟨some 10, .cmp .neq (.tmp 7) (.tmp 9), none⟩,
 ⟨some 11, .mov (.tmp 10), none⟩,
 ⟨some 12, .fad 3 (.tmp 5), some (11, true)⟩,
 ⟨some 13, .ld false 1 (.tmp 12), some (11, true)⟩,
 ⟨some 14, .pick (.tmp 11) (.tmp 13) (.cst (.d (.bool false))), none⟩,
 ⟨some 15, .mov (.tmp 14), none⟩,
 ⟨some 16, .mov (.tmp 6), some (15, true)⟩,
 ⟨some 17, .fad 0 (.tmp 5), some (15, true)⟩,
 ⟨some 18, .ld true 3 (.tmp 17), some (15, true)⟩,
 ⟨some 19, .fad 2 (.tmp 3), some (15, true)⟩,
 ⟨some 20, .ld false 1 (.tmp 19), some (15, true)⟩,
 ⟨some 21, .mov (.tmp 1), some (15, true)⟩,
 ⟨some 22, .ixa 3 (.tmp 20) (.tmp 21), some (15, true)⟩,
 ⟨some 23, .ld true 3 (.tmp 22), some (15, true)⟩,
 ⟨some 24, .callv (.tmp 16) [(.tmp 18), (.tmp 23)], some (15, true)⟩,
 ⟨some 25, .pick (.tmp 15) (.tmp 24) (.cst (.d (.bool false))), none⟩] [(0, 1), (0, 2), (9, 10), (9, 11), (9, 12), (10, 12), (11, 12), (9, 13), (10, 13), (11, 13), (9, 14), (10, 14), (11, 14), (12, 14), (13, 14), (9, 15), (10, 15), (11, 15), (9, 16), (10, 16), (11, 16)])
 (.cond (.tmp 25)
 (.reg [] [⟨some 26, .fad 2 (.tmp 3), none⟩,
 ⟨some 27, .ld false 1 (.tmp 26), none⟩,
 ⟨some 28, .mov (.tmp 1), none⟩,
 ⟨some 29, .fad 0 (.tmp 5), none⟩,
 ⟨some 30, .ld true 3 (.tmp 29), none⟩,
 ⟨some 31, .ixa 3 (.tmp 27) (.tmp 28), none⟩,
 ⟨none, .st 3 (.tmp 31) (.tmp 30), none⟩])
 .skip))))⟩
def hrs (co n : Int) (x : En) (is : Bool) (E : List En) : List En := match E[n.toNat]? with
 | some e => bif !(n == co) && (is && x.betB e) then E.set n.toNat x else E
 | none => E
end Vc
set_option maxRecDepth 10000
set_option maxHeartbeats 4000000
namespace Vc
open Go Go.Proofs
end Vc
set_option maxRecDepth 10000
namespace Vc
open Go Go.Proofs
theorem hit_iff {l : Lk} {a b : Int} : hit l a b = true ↔ l.a = min a b ∧ l.b = max a b := by
 unfold hit; simp
theorem betw_mem : ∀ {ls : List Lk} {a b : Int}, 0 < betw ls a b → ∃ l ∈ ls, l.c = betw ls a b ∧ l.a = min a b ∧ l.b = max a b
 | [], a, b, h => by unfold betw at h; omega
 | x :: r, a, b, h => by
  unfold betw at h ⊢
  cases hh : hit x a b
  ·rw [hh] at h
   obtain ⟨l, hl, h2⟩ := betw_mem (ls := r) h
   exact ⟨l, List.mem_cons_of_mem _ hl, h2⟩
  ·exact ⟨x, List.mem_cons_self, rfl, hit_iff.1 hh⟩
theorem betw_of : ∀ {ls : List Lk} {l : Lk}, (∀ k x, ls[k]? = some x → (ls.take k).any (fun o => sameL o x) = false) → l ∈ ls → l.a ≤ l.b → betw ls l.a l.b = l.c
 | x :: r, l, h, hl, hab => by
  unfold betw
  cases hh : hit x l.a l.b
  ·rcases List.mem_cons.1 hl with rfl | hl
   ·have : hit l l.a l.b = true := hit_iff.2 ⟨by omega, by omega⟩
    rw [this] at hh; cases hh
   ·refine betw_of (fun k y hy => ?_) hl hab
    have := h (k + 1) y hy
    rw [List.take_succ_cons, List.any_cons, Bool.or_eq_false_iff] at this
    exact this.2
  ·rcases List.mem_cons.1 hl with rfl | hl
   ·rfl
   ·exfalso
    obtain ⟨j, hj, e⟩ := List.mem_iff_getElem.1 hl
    have := h (j + 1) l (by rw [List.getElem?_cons_succ]; exact List.getElem?_eq_some_iff.2 ⟨hj, e⟩)
    rw [List.take_succ_cons, List.any_cons, Bool.or_eq_false_iff] at this
    have h2 := hit_iff.1 hh
    have h3 : sameL x l = true := by
     unfold sameL
     rw [show (x.a == l.a) = true by rw [beq_iff_eq]; omega, show (x.b == l.b) = true by rw [beq_iff_eq]; omega]; rfl
    rw [h3] at this; cases this.1
theorem Ms.fine.betw_dir {m : Ms} (h : m.fine) {u v : Nat} {c : Int} : dir m.ls u v c ↔ c = betw m.ls u v ∧ 0 < c := by
 constructor
 ·rintro ⟨l, hl, rfl, he⟩
  have hk := h.link hl
  have e := betw_of (l := l) (fun k x hx => (linkE_zero (h.links k x hx)).2.1) hl (by omega)
  refine ⟨?_, by omega⟩
  rcases he with ⟨rfl, rfl⟩ | ⟨rfl, rfl⟩
  ·rw [show ((l.a.toNat : Nat) : Int) = l.a by omega, show ((l.b.toNat : Nat) : Int) = l.b by omega, e]
  ·rw [betw_comm, show ((l.a.toNat : Nat) : Int) = l.a by omega, show ((l.b.toNat : Nat) : Int) = l.b by omega, e]
 ·rintro ⟨rfl, h0⟩
  obtain ⟨l, hl, hc, ha, hb⟩ := betw_mem h0
  refine ⟨l, hl, hc, ?_⟩
  omega
theorem nbs_iff (m : Ms) (i x : Int) : x ∈ m.nbs i ↔ 0 ≤ x ∧ x < (m.ns.length : Int) ∧ 0 < betw m.ls i x := nbs_mem m i x m.ns.length
theorem round_at (m : Ms) (s : Sts) (lost : List (Int × Int)) {k : Int} (h0 : 0 ≤ k) (h1 : k < (s.es.length : Int)) : (s.round m lost).at k = roundE m s lost k := by
 have e := rndL_get m s lost s.es.length (i := k.toNat) (by omega)
 unfold Sts.at Sts.round
 show ((rndL m s lost s.es.length)[k.toNat]?).getD _ = _
 rw [e, if_pos (by omega), show ((k.toNat : Nat) : Int) = k by omega]; rfl
theorem round_len (m : Ms) (s : Sts) (lost : List (Int × Int)) : (s.round m lost).es.length = s.es.length := rndL_len m s lost s.es.length
theorem round_step {m : Ms} {s : Sts} (g : Good m s) (lost : List (Int × Int)) {k : Int} (h0 : 0 ≤ k) (h1 : k < (m.ns.length : Int)) : (s.round m lost).at k = s.at k ∨ (k ≠ s.co ∧ ∃ u : Int, 0 ≤ u ∧ u < (m.ns.length : Int) ∧ (s.at u).ne ≠ -1 ∧ 0 < betw m.ls u k ∧ (s.at u).di + betw m.ls u k ≤ 3200 ∧ (s.round m lost).at k = ofE m s u k ∧ ((s.round m lost).at k).bet (s.at k)) := by
 rw [round_at m s lost h0 (by rw [g.len]; exact h1)]
 rcases (hr_fold m s lost k (m.nbs k) (s.at k)).1 with e | ⟨u, hu, hb, e⟩
 ·exact .inl e
 ·right
  have hn := (nbs_iff m k u).1 hu
  unfold hrB ofB at hb
  simp only [Bool.and_eq_true, Bool.not_eq_true', beq_eq_false_iff_ne, decide_eq_true_eq] at hb
  refine ⟨hb.1, u, hn.1, hn.2.1, hb.2.1.1, by rw [betw_comm]; exact hn.2.2, hb.2.1.2, e, ?_⟩
  show (roundE m s lost k).bet _
  unfold roundE
  rw [e]; exact betB_iff.1 hb.2.2.2
theorem round_best {m : Ms} {s : Sts} (g : Good m s) (lost : List (Int × Int)) {k u : Int} (h0 : 0 ≤ k) (h1 : k < (m.ns.length : Int)) (hk : k ≠ s.co) (hu : 0 ≤ u ∧ u < (m.ns.length : Int)) (hn : (s.at u).ne ≠ -1) (hb : 0 < betw m.ls u k) (hd : (s.at u).di + betw m.ls u k ≤ 3200) (hl : lostB lost k u = false) : ¬ (ofE m s u k).bet ((s.round m lost).at k) := by
 rw [round_at m s lost h0 (by rw [g.len]; exact h1)]
 have h := (hr_fold m s lost k (m.nbs k) (s.at k)).2.1 u ((nbs_iff m k u).2 ⟨hu.1, hu.2, by rw [betw_comm]; exact hb⟩)
 intro hbet
 have e : hrB m s lost k u (roundE m s lost k) = true := by
  unfold hrB ofB
  simp only [Bool.and_eq_true, Bool.not_eq_true', beq_eq_false_iff_ne, decide_eq_true_eq]
  exact ⟨hk, ⟨hn, hd⟩, hl, betB_iff.2 hbet⟩
 unfold roundE at e
 rw [h] at e; cases e
theorem Good.round {m : Ms} {s : Sts} (g : Good m s) (lost : List (Int × Int)) : Good m (s.round m lost) :=
 g.hears rfl rfl (round_len m s lost) fun _ h0 h1 => round_step g lost h0 h1
def Sts.rounds (m : Ms) (s : Sts) : Nat → Sts
 | 0 => s
 | k + 1 => (Sts.rounds m s k).round m []
theorem Good.rounds {m : Ms} {s : Sts} (g : Good m s) : ∀ k, Good m (s.rounds m k)
 | 0 => g
 | k + 1 => (Good.rounds g k).round []
theorem rounds_co (m : Ms) (s : Sts) : ∀ k, (s.rounds m k).co = s.co
 | 0 => rfl
 | k + 1 => rounds_co m s k
theorem rounds_len (m : Ms) (s : Sts) : ∀ k, (s.rounds m k).es.length = s.es.length
 | 0 => rfl
 | k + 1 => (round_len m _ _).trans (rounds_len m s k)
theorem sts_ext {s t : Sts} (hc : s.co = t.co) (hn : s.nu = t.nu) (hl : s.es.length = t.es.length) (h : ∀ v : Nat, v < s.es.length → s.at v = t.at v) : s = t := by
 have e : s.es = t.es := by
  apply List.ext_getElem?
  intro i
  by_cases hi : i < s.es.length
  ·rw [Sts.at_get hi, Sts.at_get (by omega), h i hi]
  ·rw [List.getElem?_eq_none (by omega), List.getElem?_eq_none (by omega)]
 cases s; cases t
 simp only at hc hn e
 subst hc; subst hn; subst e; rfl
theorem Good.waves {m : Ms} {s : Sts} (g : Good m s) : Waves m.ns.length (fun u v c => v ≠ s.co.toNat ∧ dir m.ls u v c) (fun k v => (s.rounds m k).at v) where
 step := fun k v hv => by
  have gk := g.rounds k
  rcases round_step gk [] (k := (v : Int)) (by omega) (by omega) with e | ⟨h1, u, h2, h3, h4, h5, h6, h7, h8⟩
  ·exact .inl e
  ·right
   have hco := g.co
   rw [rounds_co] at h1
   refine ⟨u.toNat, betw m.ls u v, by omega, ⟨by omega, (chk_fine g.chk).betw_dir.2 ⟨by rw [show ((u.toNat : Nat) : Int) = u by omega], h5⟩⟩, ?_, ?_, ?_, h8⟩
   ·rw [show ((u.toNat : Nat) : Int) = u by omega]; exact h4
   ·rw [show ((u.toNat : Nat) : Int) = u by omega]; exact h6
   ·show ((s.rounds m k).round m []).at v = _
    rw [h7, show ((u.toNat : Nat) : Int) = u by omega]; rfl
 best := fun k v u c hv hu ho hn hc => by
  have gk := g.rounds k
  have hd := (chk_fine g.chk).betw_dir.1 ho.2
  have hco := g.co
  have := round_best gk [] (k := (v : Int)) (u := (u : Int)) (by omega) (by omega) (by rw [rounds_co]; have := ho.1; omega) ⟨by omega, by omega⟩ hn (by omega) (by rw [← hd.1]; exact hc) rfl
  rw [hd.1]
  exact this
 cost := fun u v c ho => by have := ((chk_fine g.chk).betw_dir.1 ho.2).2; omega
theorem Good.rest {m : Ms} {s : Sts} (g : Good m s) {k : Nat} (hk : m.ns.length ≤ k + 1) : s.rounds m (k + 1) = s.rounds m k := by
 have gl := g.len
 refine sts_ext rfl rfl (round_len m _ _) fun v hv => ?_
 rw [rounds_len, gl] at hv
 exact g.waves.rest k v hv hk
instance : DecidableEq En := fun _ _ => decidable_of_iff _ En.same_iff
def restK (m : Ms) (s : Sts) : Nat → Nat → Nat
 | 0, k => k
 | f + 1, k => if (s.rounds m (k + 1)).es = (s.rounds m k).es then k else restK m s f (k + 1)
def Sts.K (m : Ms) (s : Sts) : Nat := restK m s m.ns.length 0
end Vc
set_option maxRecDepth 10000
set_option maxHeartbeats 4000000
namespace Vc
open Go Go.Proofs
def ir120 : AFun := ⟨26, 0, [.tmp 4],
 (.seq
 (.reg [] [⟨some 4, .mov (.cst (.d (.bool false))), none⟩])
 (.seq
 (.seq
 (.reg [] [⟨some 6, .mov (.tmp 0), none⟩,
 ⟨some 7, .len (.tmp 6), none⟩,
 ⟨some 8, .mov (.tmp 1), none⟩,
 ⟨some 9, .len (.tmp 8), none⟩,
 ⟨some 10, .cmp .neq (.tmp 7) (.tmp 9), none⟩])
 (.cond (.tmp 10)
 (.seq
 (.reg [] [⟨some 4, .mov (.cst (.d (.bool false))), none⟩])
 .ret)
 .skip))
 (.seq
 (.seq
 (.reg [] [⟨some 11, .mov (.tmp 0), none⟩,
 ⟨some 12, .len (.tmp 11), none⟩,
 ⟨some 13, .mov (.cst (.d (.int .i64 0))), none⟩])
 (.post [] []
 (.block 0
 (.keep [0, 1, 12, 13] []
 (.loop
 (.post [0, 1, 12, 13] []
 (.seq
 (.reg [] [⟨some 14, .cmp .lss (.tmp 13) (.tmp 12), none⟩])
 (.seq
 (.cond (.tmp 14)
 .skip
 (.exit 0))
 (.seq
 (.block 1
 (.seq
 (.reg [] [⟨some 15, .mov (.tmp 13), none⟩,
 ⟨some 5, .mov (.tmp 15), none⟩])
 (.seq
 (.regd [] [⟨some 16, .mov (.tmp 0), none⟩,
 ⟨some 17, .mov (.tmp 5), none⟩,
 ⟨some 18, .ixa 3 (.tmp 16) (.tmp 17), none⟩,
 ⟨some 19, .ld true 3 (.tmp 18), none⟩,
 ⟨some 20, .mov (.tmp 1), none⟩,
 ⟨some 21, .mov (.tmp 5), none⟩,
 ⟨some 22, .ixa 3 (.tmp 20) (.tmp 21), none⟩,
 ⟨some 23, .ld true 3 (.tmp 22), none⟩,
 ⟨some 24, .aeq true [0, 0, 0] (.tmp 19) (.tmp 23), none⟩] [(0, 1), (0, 4), (1, 4), (2, 4), (3, 4), (0, 5), (1, 5), (2, 5), (3, 5), (4, 5), (0, 6), (1, 6), (2, 6), (3, 6), (0, 7), (1, 7), (2, 7), (3, 7)])
 (.cond (.tmp 24)
 (.seq
 (.reg [] [⟨some 4, .mov (.cst (.d (.bool false))), none⟩])
 .ret)
 .skip))))
 (.reg [] [⟨some 25, .arith .add .i64 (.tmp 13) (.cst (.d (.int .i64 1))), none⟩,
 ⟨some 13, .mov (.tmp 25), none⟩]))))))))))
 (.seq
 (.reg [] [⟨some 4, .mov (.cst (.d (.bool true))), none⟩])
 .ret))))⟩
def ir53 : AFun := ⟨25, 4, [.cell 6 3 true, .tmp 7],
 (.seq
 (.reg [0, 1, 2] [⟨some 3, .cbx 0 2 (.tmp 0), none⟩,
 ⟨some 4, .cbx 1 3 (.tmp 1), none⟩,
 ⟨some 6, .alloc 2 [(.d (.int .i64 0)), (.d (.int .i64 0)), (.nils 3)], none⟩,
 ⟨some 7, .mov (.cst (.d (.int .i64 0))), none⟩])
 (.seq
 (.seq
 (.regd [3] [⟨some 9, .ld true 2 (.tmp 3), none⟩,
 ⟨some 10, .ld true 3 (.tmp 4), none⟩,
 ⟨some 11, .call 37 [(.tmp 9), (.tmp 10)], none⟩,
 ⟨some 12, .ld true 2 (.tmp 3), none⟩,
 ⟨some 13, .mov (.tmp 2), none⟩,
 ⟨some 14, .call 107 [(.tmp 12), (.tmp 13)], none⟩,
 ⟨some 15, .bsl 3 29 1 2 [(.int .i64 0), (.int .i64 0)] [(0, (.tmp 11)), (1, (.tmp 14))], none⟩,
 ⟨some 16, .call 86 [(.tmp 15)], none⟩,
 ⟨some 8, .mov (.tmp 16), none⟩] [(0, 1), (0, 3), (1, 3), (2, 3), (0, 4), (1, 4), (2, 4), (3, 4)])
 (.seq
 (.reg [] [⟨some 17, .mov (.tmp 8), none⟩,
 ⟨some 18, .cmp .neq (.tmp 17) (.cst (.d (.int .i64 0))), none⟩])
 (.cond (.tmp 18)
 (.seq
 (.reg [] [⟨some 19, .build [(.d (.int .i64 0)), (.d (.int .i64 0)), (.nils 3)] [], none⟩,
 ⟨some 20, .mov (.tmp 8), none⟩,
 ⟨none, .st 3 (.tmp 6) (.tmp 19), none⟩,
 ⟨some 7, .mov (.tmp 20), none⟩])
 .ret)
 .skip)))
 (.seq
 (.reg [] [⟨some 21, .ld true 3 (.tmp 4), none⟩,
 ⟨some 22, .ld true 2 (.tmp 3), none⟩,
 ⟨some 23, .mov (.tmp 2), none⟩,
 ⟨some 24, .call 119 [(.tmp 21), (.tmp 22), (.tmp 23)], none⟩,
 ⟨none, .st 3 (.tmp 6) (.tmp 24), none⟩,
 ⟨some 7, .mov (.cst (.d (.int .i64 0))), none⟩])
 .ret)))⟩
theorem zb {α : Type} {e b : Int} {z x w : α} (h : e = b) (h2 : b = 0 → x = w) : (bif e != 0 then z else x) = bif b != 0 then z else w := by
 subst h
 by_cases h : e = 0
 ·rw [h2 h]
 ·rw [show (e != 0) = true by rw [bne_iff_ne]; exact h]; rfl
end Vc
set_option maxRecDepth 10000
set_option maxHeartbeats 4000000
namespace Vc
open Go Go.Proofs
def ir151 : AFun := ⟨22, 3, [.tmp 4],
 (.seq
 (.reg [] [⟨some 4, .mov (.cst (.nils 1)), none⟩])
 (.seq
 (.reg [] [⟨some 5, .mov (.cst (.nils 1)), none⟩])
 (.seq
 (.seq
 (.reg [] [⟨some 8, .mov (.tmp 0), none⟩,
 ⟨some 9, .len (.tmp 8), none⟩,
 ⟨some 10, .mov (.cst (.d (.int .i64 0))), none⟩])
 (.post [5] [0, 1, 2]
 (.block 0
 (.asrow 2 3 1 5
 (.keep [1, 5, 8, 9, 10] []
 (.loop
 (.post [1, 5, 8, 9, 10] [0, 1, 2]
 (.seq
 (.reg [] [⟨some 11, .cmp .lss (.tmp 10) (.tmp 9), none⟩])
 (.seq
 (.cond (.tmp 11)
 .skip
 (.exit 0))
 (.seq
 (.block 1
 (.seq
 (.reg [0] [⟨some 12, .ixa 3 (.tmp 8) (.tmp 10), none⟩,
 ⟨some 13, .ld true 3 (.tmp 12), none⟩,
 ⟨some 7, .alloc 0 [(.d (.int .i64 0)), (.d (.int .i64 0)), (.d (.int .i64 0))], none⟩,
 ⟨none, .st 3 (.tmp 7) (.tmp 13), none⟩])
 (.reg [1, 2] [⟨some 14, .mov (.tmp 5), none⟩,
 ⟨some 15, .mov (.tmp 1), none⟩,
 ⟨some 16, .ld true 3 (.tmp 7), none⟩,
 ⟨some 17, .callv (.tmp 15) [(.tmp 16)], none⟩,
 ⟨some 18, .bsl 1 3 1 1 [(.int .i64 0)] [(0, (.tmp 17))], none⟩,
 ⟨some 19, .app 2 3 1 8 (.tmp 14) (.tmp 18), none⟩,
 ⟨some 5, .mov (.tmp 19), none⟩])))
 (.reg [] [⟨some 20, .arith .add .i64 (.tmp 10) (.cst (.d (.int .i64 1))), none⟩,
 ⟨some 10, .mov (.tmp 20), none⟩])))))))))))
 (.seq
 (.reg [] [⟨some 21, .mov (.tmp 5), none⟩,
 ⟨some 4, .mov (.tmp 21), none⟩])
 .ret))))⟩
def ir152 : AFun := ⟨5, 1, [.tmp 2],
 (.seq
 (.reg [0] [⟨some 1, .cbx 0 3 (.tmp 0), none⟩,
 ⟨some 2, .mov (.cst (.d (.int .i64 0))), none⟩])
 (.seq
 (.reg [] [⟨some 3, .fad 2 (.tmp 1), none⟩,
 ⟨some 4, .ld false 1 (.tmp 3), none⟩,
 ⟨some 2, .mov (.tmp 4), none⟩])
 .ret))⟩
def ir153 : AFun := ⟨5, 4, [.tmp 2],
 (.seq
 (.reg [] [⟨some 2, .mov (.cst (.nils 1)), none⟩])
 (.seq
 (.reg [] [⟨some 3, .mov (.tmp 0), none⟩,
 ⟨some 4, .calli 164 [(.cst (.nils 1)), (.tmp 3)], none⟩,
 ⟨some 2, .mov (.tmp 4), none⟩])
 .ret))⟩
def ir154 : AFun := ⟨6, 2, [.tmp 4],
 (.seq
 (.reg [0, 1] [⟨some 2, .cbx 0 1 (.tmp 0), none⟩,
 ⟨some 3, .cbx 1 1 (.tmp 1), none⟩,
 ⟨some 4, .mov (.cst .undef), none⟩])
 (.seq
 (.reg [] [⟨some 5, .mkf (.func 165) [] [(.tmp 3), (.tmp 2)], none⟩,
 ⟨some 4, .mov (.tmp 5), none⟩])
 .ret))⟩
def ir164 : AFun := ⟨13, 4, [.tmp 4],
 (.seq
 (.reg [0] [⟨some 2, .box 0 1 (.tmp 0), none⟩,
 ⟨some 4, .mov (.cst (.nils 1)), none⟩])
 (.seq
 (.seq
 (.reg [] [⟨some 6, .mov (.tmp 1), none⟩])
 (.block 0
 (.keep [2, 6] [0]
 (.rfor 1 (.tmp 6) [7]
 (.reg [] [⟨some 5, .mov (.tmp 7), none⟩])
 (.post [] [2, 3]
 (.block 1
 (.reg [2, 3] [⟨some 8, .ld false 1 (.tmp 2), none⟩,
 ⟨some 9, .mov (.tmp 5), none⟩,
 ⟨some 10, .bsl 2 3 1 1 [(.int .i64 0)] [(0, (.tmp 9))], none⟩,
 ⟨some 11, .app 3 3 1 8 (.tmp 8) (.tmp 10), none⟩,
 ⟨none, .st 1 (.tmp 2) (.tmp 11), none⟩])))))))
 (.seq
 (.reg [] [⟨some 12, .ld false 1 (.tmp 2), none⟩,
 ⟨some 4, .mov (.tmp 12), none⟩])
 .ret)))⟩
def ir165 : AFun := ⟨32, 0, [],
 (.seq
 (.reg [] [⟨some 5, .ld false 1 (.tmp 1), none⟩,
 ⟨some 4, .mov (.tmp 5), none⟩])
 (.seq
 (.reg [] [⟨some 6, .ld false 1 (.tmp 2), none⟩,
 ⟨some 7, .len (.tmp 6), none⟩,
 ⟨some 8, .mov (.cst (.d (.int .i64 0))), none⟩])
 (.post [] []
 (.block 0
 (.keep [0, 2, 4, 7, 8] []
 (.loop
 (.post [0, 2, 4, 7, 8] []
 (.seq
 (.reg [] [⟨some 9, .cmp .lss (.tmp 8) (.tmp 7), none⟩])
 (.seq
 (.cond (.tmp 9)
 .skip
 (.exit 0))
 (.seq
 (.block 1
 (.seq
 (.seq
 (.reg [] [⟨some 10, .mov (.tmp 0), none⟩,
 ⟨some 11, .mov (.tmp 4), none⟩,
 ⟨some 12, .callv (.tmp 10) [(.tmp 11)], none⟩,
 ⟨some 13, .not (.tmp 12), none⟩])
 (.cond (.tmp 13)
 .ret
 .skip))
 (.seq
 (.seq
 (.reg [] [⟨some 14, .ld false 1 (.tmp 2), none⟩,
 ⟨some 15, .mov (.tmp 4), none⟩,
 ⟨some 16, .ixa 1 (.tmp 14) (.tmp 15), none⟩,
 ⟨some 17, .ld false 1 (.tmp 16), none⟩,
 ⟨some 18, .cmp .lss (.tmp 17) (.cst (.d (.int .i64 0))), none⟩,
 ⟨some 19, .mov (.tmp 18), none⟩,
 ⟨some 20, .ld false 1 (.tmp 2), some (19, false)⟩,
 ⟨some 21, .mov (.tmp 4), some (19, false)⟩,
 ⟨some 22, .ixa 1 (.tmp 20) (.tmp 21), some (19, false)⟩,
 ⟨some 23, .ld false 1 (.tmp 22), some (19, false)⟩,
 ⟨some 24, .mov (.tmp 4), some (19, false)⟩,
 ⟨some 25, .cmp .eql (.tmp 23) (.tmp 24), some (19, false)⟩,
 ⟨some 26, .pick (.tmp 19) (.cst (.d (.bool true))) (.tmp 25), none⟩])
 (.cond (.tmp 26)
 .ret
 .skip))
 (.reg [] [⟨some 27, .ld false 1 (.tmp 2), none⟩,
 ⟨some 28, .mov (.tmp 4), none⟩,
 ⟨some 29, .ixa 1 (.tmp 27) (.tmp 28), none⟩,
 ⟨some 30, .ld false 1 (.tmp 29), none⟩,
 ⟨some 4, .mov (.tmp 30), none⟩]))))
 (.reg [] [⟨some 31, .arith .add .i64 (.tmp 8) (.cst (.d (.int .i64 1))), none⟩,
 ⟨some 8, .mov (.tmp 31), none⟩])))))))))))⟩
def ir66 : AFun := ⟨28, 4, [.tmp 4, .tmp 5],
 (.seq
 (.reg [0] [⟨some 2, .cbx 0 3 (.tmp 0), none⟩,
 ⟨some 4, .mov (.cst (.nils 1)), none⟩,
 ⟨some 5, .mov (.cst (.d (.int .i64 0))), none⟩])
 (.seq
 (.reg [1] [⟨some 8, .mov (.tmp 1), none⟩,
 ⟨some 9, .bsl 1 3 1 1 [(.int .i64 0)] [(0, (.tmp 8))], none⟩,
 ⟨some 6, .mov (.tmp 9), none⟩])
 (.seq
 (.seq
 (.reg [] [⟨some 10, .mov (.tmp 1), none⟩,
 ⟨some 7, .mov (.tmp 10), none⟩])
 (.post [6] [0, 1, 2, 3]
 (.block 0
 (.asrow 3 3 1 6
 (.keep [2, 6, 7] [0, 1]
 (.loop
 (.post [2, 6, 7] [2, 3]
 (.seq
 (.seq
 (.reg [] [⟨some 11, .mov (.tmp 7), none⟩,
 ⟨some 12, .fad 0 (.tmp 2), none⟩,
 ⟨some 13, .ld false 1 (.tmp 12), none⟩,
 ⟨some 14, .cmp .neq (.tmp 11) (.tmp 13), none⟩])
 (.cond (.tmp 14)
 .skip
 (.exit 0)))
 (.block 1
 (.seq
 (.reg [] [⟨some 15, .fad 2 (.tmp 2), none⟩,
 ⟨some 16, .ld false 1 (.tmp 15), none⟩,
 ⟨some 17, .mov (.tmp 7), none⟩,
 ⟨some 18, .ixa 3 (.tmp 16) (.tmp 17), none⟩,
 ⟨some 19, .fad 2 (.tmp 18), none⟩,
 ⟨some 20, .ld false 1 (.tmp 19), none⟩,
 ⟨some 7, .mov (.tmp 20), none⟩])
 (.seq
 (.seq
 (.reg [] [⟨some 21, .mov (.tmp 7), none⟩,
 ⟨some 22, .cmp .lss (.tmp 21) (.cst (.d (.int .i64 0))), none⟩])
 (.cond (.tmp 22)
 (.seq
 (.reg [] [⟨some 4, .mov (.cst (.nils 1)), none⟩,
 ⟨some 5, .mov (.cst (.d (.int .i64 7))), none⟩])
 .ret)
 .skip))
 (.reg [2, 3] [⟨some 23, .mov (.tmp 6), none⟩,
 ⟨some 24, .mov (.tmp 7), none⟩,
 ⟨some 25, .bsl 2 3 1 1 [(.int .i64 0)] [(0, (.tmp 24))], none⟩,
 ⟨some 26, .app 3 3 1 8 (.tmp 23) (.tmp 25), none⟩,
 ⟨some 6, .mov (.tmp 26), none⟩]))))))))))))
 (.seq
 (.reg [] [⟨some 27, .mov (.tmp 6), none⟩,
 ⟨some 4, .mov (.tmp 27), none⟩,
 ⟨some 5, .mov (.cst (.d (.int .i64 0))), none⟩])
 .ret))))⟩
def ir65 : AFun := ⟨27, 3, [.tmp 2],
 (.seq
 (.reg [0] [⟨some 1, .cbx 0 3 (.tmp 0), none⟩,
 ⟨some 2, .mov (.cst (.nils 1)), none⟩])
 (.seq
 (.reg [] [⟨some 3, .mov (.cst (.nils 1)), none⟩])
 (.seq
 (.seq
 (.reg [] [⟨some 4, .mov (.cst (.d (.int .i64 0))), none⟩])
 (.post [3] [0, 1, 2]
 (.block 0
 (.asrow 2 3 1 3
 (.keep [1, 3, 4] [0]
 (.loop
 (.post [1, 3, 4] [1, 2]
 (.seq
 (.seq
 (.reg [] [⟨some 7, .mov (.tmp 4), none⟩,
 ⟨some 8, .fad 2 (.tmp 1), none⟩,
 ⟨some 9, .ld false 1 (.tmp 8), none⟩,
 ⟨some 10, .len (.tmp 9), none⟩,
 ⟨some 11, .cmp .lss (.tmp 7) (.tmp 10), none⟩])
 (.cond (.tmp 11)
 .skip
 (.exit 0)))
 (.seq
 (.block 1
 (.seq
 (.reg [] [⟨some 15, .ld true 3 (.tmp 1), none⟩,
 ⟨some 16, .mov (.tmp 4), none⟩,
 ⟨some 17, .call 66 [(.tmp 15), (.tmp 16)], none⟩,
 ⟨some 14, .mov (.tmp 17), none⟩,
 ⟨some 18, .ext 0 (.tmp 14), none⟩,
 ⟨some 19, .ext 1 (.tmp 14), none⟩,
 ⟨some 5, .mov (.tmp 18), none⟩,
 ⟨some 6, .mov (.tmp 19), none⟩])
 (.seq
 (.reg [] [⟨some 20, .mov (.tmp 6), none⟩,
 ⟨some 21, .cmp .eql (.tmp 20) (.cst (.d (.int .i64 0))), none⟩])
 (.cond (.tmp 21)
 (.reg [1, 2] [⟨some 22, .mov (.tmp 3), none⟩,
 ⟨some 23, .mov (.tmp 4), none⟩,
 ⟨some 24, .bsl 1 3 1 1 [(.int .i64 0)] [(0, (.tmp 23))], none⟩,
 ⟨some 25, .app 2 3 1 8 (.tmp 22) (.tmp 24), none⟩,
 ⟨some 3, .mov (.tmp 25), none⟩])
 .skip))))
 (.reg [] [⟨some 12, .mov (.tmp 4), none⟩,
 ⟨some 13, .arith .add .i64 (.tmp 12) (.cst (.d (.int .i64 1))), none⟩,
 ⟨some 4, .mov (.tmp 13), none⟩]))))))))))
 (.seq
 (.reg [] [⟨some 26, .mov (.tmp 3), none⟩,
 ⟨some 2, .mov (.tmp 26), none⟩])
 .ret))))⟩
def ir127 : AFun := ⟨25, 1, [.tmp 4, .tmp 5],
 (.seq
 (.reg [0] [⟨some 2, .cbx 0 3 (.tmp 0), none⟩,
 ⟨some 4, .mov (.cst (.nils 1)), none⟩,
 ⟨some 5, .mov (.cst (.d (.bool false))), none⟩])
 (.seq
 (.reg [] [⟨some 8, .fad 2 (.tmp 2), none⟩,
 ⟨some 9, .ld false 1 (.tmp 8), none⟩,
 ⟨some 10, .call 151 [(.tmp 9), (.cst (.d (.fn (.func 152) [])))], none⟩,
 ⟨some 6, .mov (.tmp 10), none⟩])
 (.seq
 (.reg [] [⟨some 11, .mov (.tmp 6), none⟩,
 ⟨some 12, .mov (.tmp 1), none⟩,
 ⟨some 13, .call 154 [(.tmp 11), (.tmp 12)], none⟩,
 ⟨some 14, .call 153 [(.tmp 13)], none⟩,
 ⟨some 7, .mov (.tmp 14), none⟩])
 (.seq
 (.regd [] [⟨some 15, .mov (.tmp 7), none⟩,
 ⟨some 16, .mov (.tmp 7), none⟩,
 ⟨some 17, .mov (.tmp 7), none⟩,
 ⟨some 18, .len (.tmp 17), none⟩,
 ⟨some 19, .arith .sub .i64 (.tmp 18) (.cst (.d (.int .i64 1))), none⟩,
 ⟨some 20, .ixa 1 (.tmp 16) (.tmp 19), none⟩,
 ⟨some 21, .ld false 1 (.tmp 20), none⟩,
 ⟨some 22, .fad 0 (.tmp 2), none⟩,
 ⟨some 23, .ld false 1 (.tmp 22), none⟩,
 ⟨some 24, .cmp .eql (.tmp 21) (.tmp 23), none⟩,
 ⟨some 4, .mov (.tmp 15), none⟩,
 ⟨some 5, .mov (.tmp 24), none⟩] [(0, 1), (0, 2), (1, 2), (0, 3), (1, 3), (0, 4), (1, 4), (0, 5), (0, 6), (0, 7), (1, 7), (2, 7), (3, 7), (4, 7), (5, 7), (6, 7), (0, 8), (1, 8), (2, 8), (3, 8), (4, 8), (5, 8), (6, 8), (0, 9), (1, 10), (2, 10), (3, 10), (4, 10), (5, 10), (6, 10), (7, 10), (8, 10), (9, 10)])
 .ret))))⟩
def ir63 : AFun := ⟨31, 3, [.tmp 6, .tmp 7],
 (.seq
 (.reg [0, 1] [⟨some 3, .cbx 0 2 (.tmp 0), none⟩,
 ⟨some 4, .cbx 1 3 (.tmp 1), none⟩,
 ⟨some 6, .mov (.cst (.nils 1)), none⟩,
 ⟨some 7, .mov (.cst (.d (.int .i64 0))), none⟩])
 (.seq
 (.seq
 (.regd [2] [⟨some 11, .ld true 2 (.tmp 3), none⟩,
 ⟨some 12, .ld true 3 (.tmp 4), none⟩,
 ⟨some 13, .call 37 [(.tmp 11), (.tmp 12)], none⟩,
 ⟨some 14, .ld true 2 (.tmp 3), none⟩,
 ⟨some 15, .mov (.tmp 2), none⟩,
 ⟨some 16, .call 87 [(.tmp 14), (.tmp 15)], none⟩,
 ⟨some 17, .bsl 2 29 1 2 [(.int .i64 0), (.int .i64 0)] [(0, (.tmp 13)), (1, (.tmp 16))], none⟩,
 ⟨some 18, .call 86 [(.tmp 17)], none⟩,
 ⟨some 8, .mov (.tmp 18), none⟩] [(0, 1), (0, 3), (1, 3), (2, 3), (0, 4), (1, 4), (2, 4), (3, 4)])
 (.seq
 (.reg [] [⟨some 19, .mov (.tmp 8), none⟩,
 ⟨some 20, .cmp .neq (.tmp 19) (.cst (.d (.int .i64 0))), none⟩])
 (.cond (.tmp 20)
 (.seq
 (.reg [] [⟨some 21, .mov (.tmp 8), none⟩,
 ⟨some 6, .mov (.cst (.nils 1)), none⟩,
 ⟨some 7, .mov (.tmp 21), none⟩])
 .ret)
 .skip)))
 (.seq
 (.reg [] [⟨some 23, .ld true 3 (.tmp 4), none⟩,
 ⟨some 24, .mov (.tmp 2), none⟩,
 ⟨some 25, .call 127 [(.tmp 23), (.tmp 24)], none⟩,
 ⟨some 22, .mov (.tmp 25), none⟩,
 ⟨some 26, .ext 0 (.tmp 22), none⟩,
 ⟨some 27, .ext 1 (.tmp 22), none⟩,
 ⟨some 9, .mov (.tmp 26), none⟩,
 ⟨some 10, .mov (.tmp 27), none⟩])
 (.seq
 (.seq
 (.reg [] [⟨some 28, .mov (.tmp 10), none⟩,
 ⟨some 29, .not (.tmp 28), none⟩])
 (.cond (.tmp 29)
 (.seq
 (.reg [] [⟨some 6, .mov (.cst (.nils 1)), none⟩,
 ⟨some 7, .mov (.cst (.d (.int .i64 7))), none⟩])
 .ret)
 .skip))
 (.seq
 (.reg [] [⟨some 30, .mov (.tmp 9), none⟩,
 ⟨some 6, .mov (.tmp 30), none⟩,
 ⟨some 7, .mov (.cst (.d (.int .i64 0))), none⟩])
 .ret)))))⟩
def ir64 : AFun := ⟨36, 4, [.tmp 4, .tmp 5],
 (.seq
 (.reg [0, 1] [⟨some 2, .cbx 0 2 (.tmp 0), none⟩,
 ⟨some 3, .cbx 1 3 (.tmp 1), none⟩,
 ⟨some 4, .mov (.cst (.nils 1)), none⟩,
 ⟨some 5, .mov (.cst (.d (.int .i64 0))), none⟩])
 (.seq
 (.seq
 (.reg [] [⟨some 11, .ld true 2 (.tmp 2), none⟩,
 ⟨some 12, .ld true 3 (.tmp 3), none⟩,
 ⟨some 13, .call 37 [(.tmp 11), (.tmp 12)], none⟩,
 ⟨some 6, .mov (.tmp 13), none⟩])
 (.seq
 (.reg [] [⟨some 14, .mov (.tmp 6), none⟩,
 ⟨some 15, .cmp .neq (.tmp 14) (.cst (.d (.int .i64 0))), none⟩])
 (.cond (.tmp 15)
 (.seq
 (.reg [] [⟨some 16, .mov (.tmp 6), none⟩,
 ⟨some 4, .mov (.cst (.nils 1)), none⟩,
 ⟨some 5, .mov (.tmp 16), none⟩])
 .ret)
 .skip)))
 (.seq
 (.reg [] [⟨some 7, .mov (.cst (.nils 1)), none⟩])
 (.seq
 (.seq
 (.reg [] [⟨some 17, .fad 2 (.tmp 3), none⟩,
 ⟨some 18, .ld false 1 (.tmp 17), none⟩,
 ⟨some 19, .len (.tmp 18), none⟩,
 ⟨some 20, .mov (.cst (.d (.int .i64 0))), none⟩])
 (.post [7] [0, 1, 2, 3]
 (.block 0
 (.asrow 3 3 1 7
 (.keep [3, 7, 19, 20] [0, 1]
 (.loop
 (.post [3, 7, 19, 20] [2, 3]
 (.seq
 (.reg [] [⟨some 21, .cmp .lss (.tmp 20) (.tmp 19), none⟩])
 (.seq
 (.cond (.tmp 21)
 .skip
 (.exit 0))
 (.seq
 (.block 1
 (.seq
 (.reg [] [⟨some 22, .mov (.tmp 20), none⟩,
 ⟨some 8, .mov (.tmp 22), none⟩])
 (.seq
 (.reg [] [⟨some 24, .ld true 3 (.tmp 3), none⟩,
 ⟨some 25, .mov (.tmp 8), none⟩,
 ⟨some 26, .call 127 [(.tmp 24), (.tmp 25)], none⟩,
 ⟨some 23, .mov (.tmp 26), none⟩,
 ⟨some 27, .ext 0 (.tmp 23), none⟩,
 ⟨some 28, .ext 1 (.tmp 23), none⟩,
 ⟨some 9, .mov (.tmp 27), none⟩,
 ⟨some 10, .mov (.tmp 28), none⟩])
 (.seq
 (.reg [] [⟨some 29, .mov (.tmp 10), none⟩])
 (.cond (.tmp 29)
 (.reg [2, 3] [⟨some 30, .mov (.tmp 7), none⟩,
 ⟨some 31, .mov (.tmp 8), none⟩,
 ⟨some 32, .bsl 2 3 1 1 [(.int .i64 0)] [(0, (.tmp 31))], none⟩,
 ⟨some 33, .app 3 3 1 8 (.tmp 30) (.tmp 32), none⟩,
 ⟨some 7, .mov (.tmp 33), none⟩])
 .skip)))))
 (.reg [] [⟨some 34, .arith .add .i64 (.tmp 20) (.cst (.d (.int .i64 1))), none⟩,
 ⟨some 20, .mov (.tmp 34), none⟩])))))))))))
 (.seq
 (.reg [] [⟨some 35, .mov (.tmp 7), none⟩,
 ⟨some 4, .mov (.tmp 35), none⟩,
 ⟨some 5, .mov (.cst (.d (.int .i64 0))), none⟩])
 .ret)))))⟩
def ir9 : AFun := ⟨75, 2, [.tmp 6],
 (.seq
 (.reg [0, 1] [⟨some 3, .cbx 0 2 (.tmp 0), none⟩,
 ⟨some 4, .cbx 1 3 (.tmp 1), none⟩,
 ⟨some 6, .mov (.cst (.d (.bool false))), none⟩])
 (.seq
 (.seq
 (.reg [] [⟨some 15, .ld true 2 (.tmp 3), none⟩,
 ⟨some 16, .call 15 [(.tmp 15)], none⟩,
 ⟨some 17, .not (.tmp 16), none⟩,
 ⟨some 18, .mov (.tmp 17), none⟩,
 ⟨some 19, .ld true 3 (.tmp 4), some (18, false)⟩,
 ⟨some 20, .call 30 [(.tmp 19)], some (18, false)⟩,
 ⟨some 21, .not (.tmp 20), some (18, false)⟩,
 ⟨some 22, .pick (.tmp 18) (.cst (.d (.bool true))) (.tmp 21), none⟩])
 (.cond (.tmp 22)
 (.seq
 (.reg [] [⟨some 23, .call 16 [], none⟩,
 ⟨some 6, .mov (.tmp 23), none⟩])
 .ret)
 .skip))
 (.seq
 (.regd [] [⟨some 25, .ld true 2 (.tmp 3), none⟩,
 ⟨some 26, .call 18 [(.tmp 25)], none⟩,
 ⟨some 27, .ld true 3 (.tmp 4), none⟩,
 ⟨some 28, .call 33 [(.tmp 27)], none⟩,
 ⟨some 29, .mov (.tmp 2), none⟩,
 ⟨some 30, .call 63 [(.tmp 26), (.tmp 28), (.tmp 29)], none⟩,
 ⟨some 24, .mov (.tmp 30), none⟩,
 ⟨some 31, .ext 0 (.tmp 24), none⟩,
 ⟨some 32, .ext 1 (.tmp 24), none⟩,
 ⟨some 7, .mov (.tmp 31), none⟩,
 ⟨some 8, .mov (.tmp 32), none⟩] [(0, 2), (1, 2), (0, 4), (1, 4), (2, 4), (3, 4), (7, 8), (8, 9)])
 (.seq
 (.regd [] [⟨some 34, .ld true 2 (.tmp 3), none⟩,
 ⟨some 35, .call 18 [(.tmp 34)], none⟩,
 ⟨some 36, .ld true 3 (.tmp 4), none⟩,
 ⟨some 37, .call 33 [(.tmp 36)], none⟩,
 ⟨some 38, .call 64 [(.tmp 35), (.tmp 37)], none⟩,
 ⟨some 33, .mov (.tmp 38), none⟩,
 ⟨some 39, .ext 0 (.tmp 33), none⟩,
 ⟨some 40, .ext 1 (.tmp 33), none⟩,
 ⟨some 9, .mov (.tmp 39), none⟩,
 ⟨some 10, .mov (.tmp 40), none⟩] [(0, 2), (1, 2), (6, 7), (7, 8)])
 (.seq
 (.reg [] [⟨some 41, .ld true 2 (.tmp 3), none⟩,
 ⟨some 42, .ld true 3 (.tmp 4), none⟩,
 ⟨some 43, .call 34 [(.tmp 41), (.tmp 42)], none⟩,
 ⟨some 11, .mov (.tmp 43), none⟩])
 (.seq
 (.reg [] [⟨some 44, .mov (.tmp 11), none⟩,
 ⟨some 12, .mov (.tmp 44), none⟩])
 (.seq
 (.reg [] [⟨some 13, .mov (.cst (.nils 1)), none⟩,
 ⟨some 14, .mov (.cst (.nils 1)), none⟩])
 (.seq
 (.seq
 (.reg [] [⟨some 45, .mov (.tmp 11), none⟩,
 ⟨some 46, .cmp .eql (.tmp 45) (.cst (.d (.int .i64 0))), none⟩])
 (.cond (.tmp 46)
 (.seq
 (.reg [] [⟨some 47, .ld true 2 (.tmp 3), none⟩,
 ⟨some 48, .mov (.tmp 2), none⟩,
 ⟨some 49, .call 23 [(.tmp 47), (.tmp 48)], none⟩,
 ⟨some 12, .mov (.tmp 49), none⟩])
 (.reg [] [⟨some 50, .ld true 3 (.tmp 4), none⟩,
 ⟨some 51, .call 65 [(.tmp 50)], none⟩,
 ⟨some 14, .mov (.tmp 51), none⟩]))
 .skip))
 (.seq
 (.seq
 (.reg [] [⟨some 52, .mov (.tmp 12), none⟩,
 ⟨some 53, .cmp .eql (.tmp 52) (.cst (.d (.int .i64 0))), none⟩])
 (.cond (.tmp 53)
 (.reg [] [⟨some 55, .ld true 3 (.tmp 4), none⟩,
 ⟨some 56, .mov (.tmp 2), none⟩,
 ⟨some 57, .call 66 [(.tmp 55), (.tmp 56)], none⟩,
 ⟨some 54, .mov (.tmp 57), none⟩,
 ⟨some 58, .ext 0 (.tmp 54), none⟩,
 ⟨some 59, .ext 1 (.tmp 54), none⟩,
 ⟨some 13, .mov (.tmp 58), none⟩,
 ⟨some 12, .mov (.tmp 59), none⟩])
 .skip))
 (.seq
 (.reg [] [⟨some 60, .mov (.tmp 7), none⟩,
 ⟨some 61, .mov (.tmp 8), none⟩,
 ⟨some 62, .mov (.tmp 12), none⟩,
 ⟨some 63, .mov (.tmp 13), none⟩,
 ⟨some 64, .call 28 [(.tmp 60), (.tmp 61), (.tmp 62), (.tmp 63)], none⟩,
 ⟨some 65, .mov (.tmp 64), none⟩,
 ⟨some 66, .mov (.tmp 9), some (65, true)⟩,
 ⟨some 67, .mov (.tmp 10), some (65, true)⟩,
 ⟨some 68, .mov (.tmp 11), some (65, true)⟩,
 ⟨some 69, .mov (.tmp 14), some (65, true)⟩,
 ⟨some 70, .call 28 [(.tmp 66), (.tmp 67), (.tmp 68), (.tmp 69)], some (65, true)⟩,
 ⟨some 71, .pick (.tmp 65) (.tmp 70) (.cst (.d (.bool false))), none⟩,
 ⟨some 72, .mov (.tmp 71), none⟩,
 ⟨some 73, .call 16 [], some (72, true)⟩,
 ⟨some 74, .pick (.tmp 72) (.tmp 73) (.cst (.d (.bool false))), none⟩,
 ⟨some 6, .mov (.tmp 74), none⟩])
 .ret))))))))))⟩
theorem c152 (x : En) : CallDet Tryz.prog 152 [.d (.agg [.int .i64 x.nu, .int .i64 x.di, .int .i64 x.ne])] [.int .i64 x.ne] := by
 refine call_of_vc (x := ir152) (by kernel_rfl) rfl ?_
 exact rfl
def nes (l : List En) : List Int := l.map En.ne
theorem nes_len (l : List En) : (nes l).length = l.length := List.length_map _
theorem c151 (l : List En) (hl : l.length ≤ 1048576) : CallDet Tryz.prog 151 [.d (.slice 3 (ens l)), .d (.fn (.func 152) [])] [.slice 1 (ints (nes l))] := by
 have hel := ens_len l
 refine call_of_vc (x := ir151) (by kernel_rfl) rfl ?_
 rotate_left
 refine loop_u (fun k : Nat => [(5, .sl 2 (ints (nes (l.take k))).length), (10, .d (.int .i64 k))]) (fun k => [(2, .row 3 1 (ints (nes (l.take k))) false)]) (fun k => k ≤ l.length) (fun k => l.length - k) 0 rfl (Nat.zero_le _) ?_
 intro k hk
 have hk : k ≤ l.length := hk
 have h1 : (ints (nes (l.take k))).length = k := by rw [ints_len, nes_len, List.length_take]; omega
 by_cases hkk : k < l.length
 ·refine Exists.elim (get_lt l hkk) fun x hx => ?_
  have hxd := ens_at hx
  refine And.intro rfl ?_
  refine brk_lt (fun t1 => ?_) (fun t1 => ?_)
  refine ix_at hxd ?_ ?_
  (show (0 : Int) ≤ (↑k : Int); omega)
  refine Exists.intro _ (And.intro (c152 x) ?_)
  refine And.intro rfl ?_
  refine And.intro rfl ?_
  refine And.intro rfl ?_
  refine And.intro ?_ ?_
  refine And.intro ?_ ?_
  exact rfl
  refine And.intro ?_ ?_
  exact rfl
  refine And.intro ?_ ?_
  exact rfl
  refine And.intro ?_ ?_
  (show (List.length (ints (nes (List.take k l))) + (1 : Nat)) * (8 : Nat) ≤ (2 : Nat) ^ (47 : Nat); omega)
  (show List.length (ints (nes (List.take k l))) + (1 : Nat) ≤ (2 : Nat) ^ (47 : Nat); omega)
  refine ar_add ?_ ?_
  refine And.intro ?_ ?_
  (show (-9223372036854775808 : Int) ≤ (↑k : Int) + (1 : Int); omega)
  (show (↑k : Int) + (1 : Int) ≤ (9223372036854775807 : Int); omega)
  rotate_left
  (exfalso; omega)
  refine ⟨k + 1, ⟨hkk, by show l.length - (k + 1) < l.length - k; omega⟩, ?_⟩
  rw [take_one hx, show nes (l.take k ++ [x]) = nes (l.take k) ++ [x.ne] by unfold nes; rw [List.map_append]; rfl, ints_app1]; rfl
 ·have e : l.take k = l := List.take_of_length_le (by omega)
  rw [e] at h1 ⊢
  have h2 : (ints (nes l)).length = l.length := by rw [ints_len, nes_len]
  refine And.intro rfl ?_
  refine brk_lt (fun t1 => ?_) (fun t1 => ?_)
  (exfalso; omega)
  refine And.intro rfl ?_
  exact rfl
def capA (a0 : Int) (ne : List Int) : List Data := [.agg [.int .i64 a0], .agg [.slice 1 (ints ne)]]
theorem c154 (ne : List Int) (a0 : Int) : CallDet Tryz.prog 154 [.d (.slice 1 (ints ne)), .d (.int .i64 a0)] [.fn (.func 165) (capA a0 ne)] := by
 refine call_of_vc (x := ir154) (by kernel_rfl) rfl ?_
 exact rfl
def xa164 : ACode := (.reg [] [⟨some 5, .mov (.tmp 7), none⟩])
def xb164 : ACode := (.post [] [2, 3]
    (.block 1
     (.reg [2, 3] [⟨some 8, .ld false 1 (.tmp 2), none⟩,
      ⟨some 9, .mov (.tmp 5), none⟩,
      ⟨some 10, .bsl 2 3 1 1 [(.int .i64 0)] [(0, (.tmp 9))], none⟩,
      ⟨some 11, .app 3 3 1 8 (.tmp 8) (.tmp 10), none⟩,
      ⟨none, .st 1 (.tmp 2) (.tmp 11), none⟩])))
noncomputable def lp164 (a0 : Int) (ne : List Int) : AObj := .lp .ready none 13 [(2, .ptr 0 0), (6, .d (.fn (.func 165) (capA a0 ne)))] [7] xa164 xb164 (ckP Tryz.prog 13 xa164 xb164)
def boxv (acc : List Data) : AVal := match acc with | [] => .nils 1 | _ :: _ => .sl 3 acc.length
def row3 (acc : List Data) : AObj := match acc with | [] => .none | _ :: _ => .row 3 1 acc false
noncomputable def heap164 (a0 : Int) (ne : List Int) (acc : List Data) : List AObj := [.box [boxv acc], lp164 a0 ne, .none, row3 acc]
theorem yield164 (a0 : Int) (ne : List Int) (n : Int) (acc : List Data) (hl : acc.length ≤ 1048576) :
  YieldIn Tryz.prog 1 [.d (.int .i64 n)] (heap164 a0 ne acc) (.d (.bool true)) (heap164 a0 ne (acc ++ [.int .i64 n])) := by
 cases acc with
 | nil =>
  refine yieldIn_of_vc (m := 13) (ps := [7]) (xa := xa164) (xb := xb164) (sl := [(2, .ptr 0 0), (6, .d (.fn (.func 165) (capA a0 ne)))]) rfl rfl rfl rfl rfl rfl ?_
  repeat refine And.intro rfl ?_
  refine And.intro ⟨by show 1 * 8 ≤ 2 ^ 47; decide, by show 1 ≤ 2 ^ 47; decide⟩ ?_
  repeat refine And.intro rfl ?_
  exact rfl
 | cons y r =>
  refine yieldIn_of_vc (m := 13) (ps := [7]) (xa := xa164) (xb := xb164) (sl := [(2, .ptr 0 0), (6, .d (.fn (.func 165) (capA a0 ne)))]) rfl rfl rfl rfl rfl rfl ?_
  repeat refine And.intro rfl ?_
  refine And.intro ⟨rfl, rfl, rfl, ?_, ?_⟩ ?_
  ·show ((y :: r).length + 1) * 8 ≤ 2 ^ 47
   omega
  ·show (y :: r).length + 1 ≤ 2 ^ 47
   omega
  repeat refine And.intro rfl ?_
  exact rfl
def wayN (ne : List Int) : Nat → Int → List Int
 | 0, _ => []
 | f + 1, a => if a < 0 then [] else if at0 ne a.toNat < 0 ∨ at0 ne a.toNat = a then [a] else a :: wayN ne f (at0 ne a.toNat)
theorem wayN_stop {ne : List Int} {f : Nat} {a : Int} (h0 : 0 ≤ a) (h : at0 ne a.toNat < 0 ∨ at0 ne a.toNat = a) : wayN ne (f + 1) a = [a] := by
 rw [wayN, if_neg (by omega), if_pos h]
theorem wayN_go {ne : List Int} {f : Nat} {a : Int} (h0 : 0 ≤ a) (h : ¬ at0 ne a.toNat < 0) (h2 : ¬ at0 ne a.toNat = a) : wayN ne (f + 1) a = a :: wayN ne f (at0 ne a.toNat) := by
 rw [wayN, if_neg (by omega), if_neg (by omega)]
theorem wayN_len (ne : List Int) : ∀ (f : Nat) (a : Int), (wayN ne f a).length ≤ f
 | 0, _ => Nat.le_refl _
 | f + 1, a => by
  rw [wayN]
  split
  ·exact Nat.zero_le _
  ·split
   ·show 1 ≤ f + 1; omega
   ·have := wayN_len ne f (at0 ne a.toNat)
    show (wayN ne f (at0 ne a.toNat)).length + 1 ≤ f + 1; omega
theorem c165 (ne : List Int) (a0 : Int) (h0 : 0 ≤ a0) (h1 : a0 < (ne.length : Int)) (hl : ne.length ≤ 32) (hb : ∀ i : Nat, i < ne.length → at0 ne i < (ne.length : Int)) : CallIn Tryz.prog 165 [.yld 1, .cp [.int .i64 a0] 0, .cp [.slice 1 (ints ne)] 0] (heap164 a0 ne []) (.tup []) (heap164 a0 ne (ints (wayN ne ne.length a0))) := by
 have hil := ints_len ne
 refine callIn_of_vc (P := Tryz.prog) (x := ir165) 4 (by kernel_rfl) rfl rfl rfl ?_
 rotate_left
 refine loop_u (fun a : Nat × Int × List Data => [(4, .d (.int .i64 a.2.1)), (8, .d (.int .i64 a.1))]) (fun a => [(0, .box [boxv a.2.2]), (3, row3 a.2.2)]) (fun a => (a.1 ≤ ne.length ∧ a.2.2.length = a.1) ∧ ((0 ≤ a.2.1 ∧ a.2.1 < (ne.length : Int)) ∧ a.2.2 ++ ints (wayN ne (ne.length - a.1) a.2.1) = ints (wayN ne ne.length a0))) (fun a => ne.length - a.1) (0, a0, []) rfl ⟨⟨Nat.zero_le _, rfl⟩, ⟨h0, h1⟩, rfl⟩ ?_
 rintro ⟨k, a, acc⟩ ⟨⟨hk, hal⟩, ⟨ha0, ha1⟩, hacc⟩
 have hk : k ≤ ne.length := hk
 have hal : acc.length = k := hal
 have ha0 : 0 ≤ a := ha0
 have ha1 : a < (ne.length : Int) := ha1
 have hacc : acc ++ ints (wayN ne (ne.length - k) a) = ints (wayN ne ne.length a0) := hacc
 have hba := hb a.toNat (by omega)
 have stop : k < ne.length → (at0 ne a.toNat < 0 ∨ at0 ne a.toNat = a) → acc ++ [.int .i64 a] = ints (wayN ne ne.length a0) := fun h h2 => by
  rw [← hacc, show ne.length - k = (ne.length - (k + 1)) + 1 by omega, wayN_stop ha0 h2]; rfl
 have nxt : k < ne.length → ¬ at0 ne a.toNat < 0 → ¬ at0 ne a.toNat = a → (acc ++ [.int .i64 a]) ++ ints (wayN ne (ne.length - (k + 1)) (at0 ne a.toNat)) = ints (wayN ne ne.length a0) := fun h h2 h3 => by
  rw [← hacc, show ne.length - k = (ne.length - (k + 1)) + 1 by omega, wayN_go ha0 h2 h3, List.append_assoc]; rfl
 have ending : k = ne.length → acc = ints (wayN ne ne.length a0) := fun h => by
  rw [← hacc, h, Nat.sub_self]; exact (List.append_nil _).symm
 cases acc with
 | nil =>
  by_cases hkk : k < (ints ne).length
  ·have hx : (ints ne)[a.toNat]? = some (.int .i64 (at0 ne a.toNat)) := ints_at0 (by omega)
   refine And.intro rfl ?_
   refine brk_lt (fun t1 => ?_) (fun t1 => ?_)
   replace t1 : (↑k : Int) < (↑(List.length (ints ne)) : Int) := t1
   rotate_left
   replace t1 : ¬(↑k : Int) < (↑(List.length (ints ne)) : Int) := t1
   (exfalso; omega)
   refine Exists.intro (.d (.bool true)) (Exists.intro [(0, .box [boxv (([] : List Data) ++ [Data.int .i64 a])]), (3, row3 (([] : List Data) ++ [Data.int .i64 a]))] (And.intro (yield164 a0 ne a ([]) (by decide)) ?_))
   refine ix_at hx ?_ ?_
   assumption
   refine And.intro rfl ?_
   refine brk_lt (fun u1 => ?_) (fun u1 => ?_)
   refine And.intro rfl ?_
   refine And.intro rfl ?_
   rotate_left
   refine ix_at hx ?_ ?_
   assumption
   refine And.intro rfl ?_
   refine brk_eq (fun u2 => ?_) (fun u2 => ?_)
   replace u2 : at0 ne (Int.toNat a) = Prod.fst (a, []) := u2
   refine And.intro rfl ?_
   rotate_left
   replace u2 : ¬at0 ne (Int.toNat a) = Prod.fst (a, []) := u2
   refine ix_at hx ?_ ?_
   assumption
   refine ar_add ?_ ?_
   refine And.intro ?_ ?_
   (show (-9223372036854775808 : Int) ≤ (↑k : Int) + (1 : Int); omega)
   (show (↑k : Int) + (1 : Int) ≤ (9223372036854775807 : Int); omega)
   rotate_left
   ·exact congrArg (heap164 a0 ne) (stop (by omega) (.inl u1))
   ·exact congrArg (heap164 a0 ne) (stop (by omega) (.inr u2))
   ·have u2 : ¬ at0 ne a.toNat = a := u2
    exact ⟨(k + 1, at0 ne a.toNat, ([] : List Data) ++ [Data.int .i64 a]), ⟨⟨⟨by show k + 1 ≤ ne.length; omega, by rw [List.length_append, hal]; rfl⟩, ⟨by show 0 ≤ at0 ne a.toNat; omega, hba⟩, nxt (by omega) u1 u2⟩, by show ne.length - (k + 1) < ne.length - k; omega⟩, rfl⟩
  ·have ek : k = ne.length := by omega
   refine And.intro rfl ?_
   refine brk_lt (fun t1 => ?_) (fun t1 => ?_)
   replace t1 : (↑k : Int) < (↑(List.length (ints ne)) : Int) := t1
   (exfalso; omega)
   replace t1 : ¬(↑k : Int) < (↑(List.length (ints ne)) : Int) := t1
   refine And.intro rfl ?_
   rotate_left
   exact congrArg (heap164 a0 ne) (ending ek)
 | cons y r =>
  by_cases hkk : k < (ints ne).length
  ·have hx : (ints ne)[a.toNat]? = some (.int .i64 (at0 ne a.toNat)) := ints_at0 (by omega)
   refine And.intro rfl ?_
   refine brk_lt (fun t1 => ?_) (fun t1 => ?_)
   replace t1 : (↑k : Int) < (↑(List.length (ints ne)) : Int) := t1
   rotate_left
   replace t1 : ¬(↑k : Int) < (↑(List.length (ints ne)) : Int) := t1
   (exfalso; omega)
   refine Exists.intro (.d (.bool true)) (Exists.intro [(0, .box [boxv ((y :: r : List Data) ++ [Data.int .i64 a])]), (3, row3 ((y :: r : List Data) ++ [Data.int .i64 a]))] (And.intro (yield164 a0 ne a (y :: r) (by omega)) ?_))
   refine ix_at hx ?_ ?_
   assumption
   refine And.intro rfl ?_
   refine brk_lt (fun u1 => ?_) (fun u1 => ?_)
   refine And.intro rfl ?_
   refine And.intro rfl ?_
   rotate_left
   refine ix_at hx ?_ ?_
   assumption
   refine And.intro rfl ?_
   refine brk_eq (fun u2 => ?_) (fun u2 => ?_)
   replace u2 : at0 ne (Int.toNat a) = Prod.fst (a, y :: r) := u2
   refine And.intro rfl ?_
   rotate_left
   replace u2 : ¬at0 ne (Int.toNat a) = Prod.fst (a, y :: r) := u2
   refine ix_at hx ?_ ?_
   assumption
   refine ar_add ?_ ?_
   refine And.intro ?_ ?_
   (show (-9223372036854775808 : Int) ≤ (↑k : Int) + (1 : Int); omega)
   (show (↑k : Int) + (1 : Int) ≤ (9223372036854775807 : Int); omega)
   rotate_left
   ·exact congrArg (heap164 a0 ne) (stop (by omega) (.inl u1))
   ·exact congrArg (heap164 a0 ne) (stop (by omega) (.inr u2))
   ·have u2 : ¬ at0 ne a.toNat = a := u2
    exact ⟨(k + 1, at0 ne a.toNat, (y :: r : List Data) ++ [Data.int .i64 a]), ⟨⟨⟨by show k + 1 ≤ ne.length; omega, by rw [List.length_append, hal]; rfl⟩, ⟨by show 0 ≤ at0 ne a.toNat; omega, hba⟩, nxt (by omega) u1 u2⟩, by show ne.length - (k + 1) < ne.length - k; omega⟩, rfl⟩
  ·have ek : k = ne.length := by omega
   refine And.intro rfl ?_
   refine brk_lt (fun t1 => ?_) (fun t1 => ?_)
   replace t1 : (↑k : Int) < (↑(List.length (ints ne)) : Int) := t1
   (exfalso; omega)
   replace t1 : ¬(↑k : Int) < (↑(List.length (ints ne)) : Int) := t1
   refine And.intro rfl ?_
   rotate_left
   exact congrArg (heap164 a0 ne) (ending ek)
theorem c153 (ne : List Int) (a0 : Int) (h0 : 0 ≤ a0) (h1 : a0 < (ne.length : Int)) (hl : ne.length ≤ 32) (hb : ∀ i : Nat, i < ne.length → at0 ne i < (ne.length : Int)) : CallDet Tryz.prog 153 [.d (.fn (.func 165) (capA a0 ne))] [.slice 1 (ints (wayN ne ne.length a0))] := by
 have hc := c165 ne a0 h0 h1 hl hb
 refine call_of_vc (x := ir153) (by kernel_rfl) rfl ?_
 refine Or.elim (show ints (wayN ne ne.length a0) = [] ∨ ∃ y r, ints (wayN ne ne.length a0) = y :: r by cases ints (wayN ne ne.length a0) with | nil => exact .inl rfl | cons y r => exact .inr ⟨y, r, rfl⟩) (fun hN => ?_) (fun hN => Exists.elim hN fun y hN => Exists.elim hN fun r hN => ?_)
 ·rw [hN] at hc ⊢
  refine Exists.intro (.nils 1) (Exists.intro [(0, .box [.nils 1])] (And.intro ?_ ?_))
  ·refine callIn_of_vc (P := Tryz.prog) (x := ir164) 0 (by kernel_rfl) rfl rfl rfl ?_
   refine Exists.intro (.tup []) (Exists.intro (heap164 a0 ne []) (And.intro hc ?_))
   refine And.intro (by intro h; cases h) ?_
   exact ⟨rfl, rfl⟩
  ·exact rfl
 ·rw [hN] at hc ⊢
  refine Exists.intro (.sl 3 (y :: r).length) (Exists.intro [(0, .box [.sl 3 (y :: r).length]), (3, .row 3 1 (y :: r) false)] (And.intro ?_ ?_))
  ·refine callIn_of_vc (P := Tryz.prog) (x := ir164) 0 (by kernel_rfl) rfl rfl rfl ?_
   refine Exists.intro (.tup []) (Exists.intro (heap164 a0 ne (y :: r)) (And.intro hc ?_))
   refine And.intro (by intro h; cases h) ?_
   exact ⟨rfl, rfl⟩
  ·repeat refine And.intro rfl ?_
   exact rfl
theorem wayN_last (ne : List Int) : ∀ (f : Nat) (a : Int), 0 ≤ a → ∃ x, (wayN ne (f + 1) a).getLast? = some x
 | 0, a, h => by
  rw [wayN, if_neg (by omega)]
  split
  ·exact ⟨a, rfl⟩
  ·exact ⟨a, rfl⟩
 | f + 1, a, h => by
  rw [wayN, if_neg (by omega)]
  split
  ·exact ⟨a, rfl⟩
  ·rename_i hn
   obtain ⟨x, hx⟩ := wayN_last ne f (at0 ne a.toNat) (by omega)
   refine ⟨x, ?_⟩
   rw [List.getLast?_cons, hx]; rfl
def wayB (ne : List Int) (co a : Int) : Bool := match (wayN ne ne.length a).getLast? with
 | some x => x == co
 | none => false
theorem c127 (s : Sts) (a : Int) (h0 : 0 ≤ a) (h1 : a < (s.es.length : Int)) (hl : s.es.length ≤ 32) (hb : ∀ i : Nat, i < s.es.length → (s.at i).ne < (s.es.length : Int)) : CallDet Tryz.prog 127 [.d s.d, .d (.int .i64 a)] [.slice 1 (ints (wayN (nes s.es) (nes s.es).length a)), .bool (wayB (nes s.es) s.co a)] := by
 have hnl := nes_len s.es
 have hbn : ∀ i : Nat, i < (nes s.es).length → at0 (nes s.es) i < ((nes s.es).length : Int) := fun i hi => by
  have h := hb i (by omega)
  have e : at0 (nes s.es) i = (s.at i).ne := by
   unfold at0 nes
   rw [List.getElem?_map, Sts.at_get (by omega)]; rfl
  omega
 have hwl := wayN_len (nes s.es) (nes s.es).length a
 refine Exists.elim (wayN_last (nes s.es) ((nes s.es).length - 1) a h0) fun x hx => ?_
 rw [show (nes s.es).length - 1 + 1 = (nes s.es).length by omega] at hx
 have hwb : wayB (nes s.es) s.co a = (x == s.co) := by unfold wayB; rw [hx]
 rw [hwb]
 have hil := ints_len (wayN (nes s.es) (nes s.es).length a)
 have hpos : 0 < (wayN (nes s.es) (nes s.es).length a).length := by
  cases hw : wayN (nes s.es) (nes s.es).length a with
  | nil => rw [hw] at hx; cases hx
  | cons y r => exact Nat.succ_pos _
 have hxd : (ints (wayN (nes s.es) (nes s.es).length a))[(((ints (wayN (nes s.es) (nes s.es).length a)).length : Int) - 1).toNat]? = some (.int .i64 x) := by
  rw [hil, show (((wayN (nes s.es) (nes s.es).length a).length : Int) - 1).toNat = (wayN (nes s.es) (nes s.es).length a).length - 1 by omega]
  rw [List.getLast?_eq_getElem?] at hx
  have h := ints_get hx
  rwa [show ((((wayN (nes s.es) (nes s.es).length a).length - 1 : Nat) : Int)).toNat = (wayN (nes s.es) (nes s.es).length a).length - 1 from rfl] at h
 refine call_of_vc (x := ir127) (by kernel_rfl) rfl ?_
 refine Exists.intro _ (And.intro (c151 s.es (by omega)) ?_)
 refine Exists.intro _ (And.intro (c154 _ _) ?_)
 refine Exists.intro _ (And.intro (c153 (nes s.es) a h0 (by omega) (by omega) hbn) ?_)
 refine ar_sub ?_ ?_
 refine And.intro ?_ ?_
 (show (-9223372036854775808 : Int) ≤ (↑(List.length (ints (wayN (nes (Sts.es s)) (List.length (nes (Sts.es s))) a))) : Int) - (1 : Int); omega)
 (show (↑(List.length (ints (wayN (nes (Sts.es s)) (List.length (nes (Sts.es s))) a))) : Int) - (1 : Int) ≤ (9223372036854775807 : Int); omega)
 refine ix_at hxd ?_ ?_
 (show (0 : Int) ≤ (↑(List.length (ints (wayN (nes (Sts.es s)) (List.length (nes (Sts.es s))) a))) : Int) - (1 : Int); omega)
 refine And.intro rfl ?_
 exact rfl
end Vc
set_option maxRecDepth 10000
set_option maxHeartbeats 4000000
namespace Vc
open Go Go.Proofs
def rkS (n : Nat) (s : Sts) (a : Int) : Nat := cnt n (fun u => (s.at u).betB (s.at a))
theorem betB_self (x : En) : x.betB x = false := by
 cases h : x.betB x
 ·rfl
 ·have := betB_iff.1 h
  unfold En.bet at this; omega
theorem Good.betw_self {m : Ms} {s : Sts} (g : Good m s) (a : Int) : betw m.ls a a = 0 := by
 rcases Classical.em (0 < betw m.ls a a) with h | h
 ·obtain ⟨l, hl, _, h1, h2⟩ := betw_mem h
  have := ((chk_fine g.chk).link hl).1.2.2
  omega
 ·have := (chk_fine g.chk).rng a a; omega
theorem Good.nxt {m : Ms} {s : Sts} (g : Good m s) {a : Int} (h0 : 0 ≤ a) (h1 : a < (m.ns.length : Int)) (hc : a ≠ s.co) (hn : (s.at a).ne ≠ -1) : 0 ≤ (s.at a).ne ∧ (s.at a).ne < (m.ns.length : Int) ∧ (s.at a).ne ≠ a ∧ 0 < betw m.ls a (s.at a).ne ∧ (s.at (s.at a).ne).bet (s.at a) := by
 have r := g.rng a h0 h1
 have hl := g.lnk a h0 h1 hc hn
 have hr := (chk_fine g.chk).rng a (s.at a).ne
 refine ⟨by omega, r.2.2.2, fun e => ?_, by omega, ?_⟩
 ·rw [e] at hl; exact hl (g.betw_self a)
 ·have := g.lead a h0 h1 hc hn
  unfold En.bet; omega
theorem Good.rk_lt {m : Ms} {s : Sts} (g : Good m s) {a : Int} (h0 : 0 ≤ a) (h1 : a < (m.ns.length : Int)) (hc : a ≠ s.co) (hn : (s.at a).ne ≠ -1) : rkS m.ns.length s (s.at a).ne < rkS m.ns.length s a := by
 have k := g.nxt h0 h1 hc hn
 refine cnt_lt (j := (s.at a).ne.toNat) (fun i _ hi => ?_) (by omega) ?_ ?_
 ·have h := betB_iff.1 hi
  refine betB_iff.2 ?_
  have h2 := k.2.2.2.2
  unfold En.bet at h h2 ⊢
  omega
 ·show (s.at (((s.at a).ne.toNat : Nat) : Int)).betB _ = false
  rw [show (((s.at a).ne.toNat : Nat) : Int) = (s.at a).ne by omega]; exact betB_self _
 ·show (s.at (((s.at a).ne.toNat : Nat) : Int)).betB _ = true
  rw [show (((s.at a).ne.toNat : Nat) : Int) = (s.at a).ne by omega]; exact betB_iff.2 k.2.2.2.2
theorem rkS_lt {n : Nat} (s : Sts) {a : Int} (h0 : 0 ≤ a) (h1 : a < (n : Int)) : rkS n s a < n := by
 have h := cnt_lt (n := n) (p := fun u => (s.at u).betB (s.at a)) (q := fun _ => true) (j := a.toNat) (fun _ _ _ => rfl) (by omega) (by show (s.at ((a.toNat : Nat) : Int)).betB _ = false; rw [show ((a.toNat : Nat) : Int) = a by omega]; exact betB_self _) rfl
 rw [cnt_all] at h; exact h
theorem nes_at {s : Sts} {a : Int} (h0 : 0 ≤ a) (h1 : a < (s.es.length : Int)) : at0 (nes s.es) a.toNat = (s.at a).ne := by
 unfold at0 nes
 rw [List.getElem?_map, Sts.at_getI (by omega)]; rfl
def Sts.way (s : Sts) (a : Int) : List Int := wayN (nes s.es) (nes s.es).length a
def Sts.isR (s : Sts) (a : Int) : Bool := wayB (nes s.es) s.co a
theorem last_snoc (l : List Int) (x : Int) : (l ++ [x]).getLast? = some x := by simp
theorem isR_of {s : Sts} {a x : Int} {pre : List Int} (h : pre ++ [x] = s.way a) : s.isR a = (x == s.co) := by
 unfold Sts.isR wayB
 unfold Sts.way at h
 rw [← h, last_snoc]
def rtE (s : Sts) (a : Int) : Int := bif s.isR a then 0 else 7
theorem c66 (m : Ms) (s : Sts) (a : Int) (g : Good m s) (h0 : 0 ≤ a) (h1 : a < (m.ns.length : Int)) : CallDet Tryz.prog 66 [.d s.d, .d (.int .i64 a)] [.slice 1 (ints (bif s.isR a then s.way a else [])), .int .i64 (rtE s a)] := by
 have hel := ens_len s.es
 have hle := g.len
 have h32 := (chk_fine g.chk).n32
 have hnl := nes_len s.es
 have hwl := wayN_len (nes s.es) (nes s.es).length a
 have no : s.isR a = false → resV [.slice 1 [], .int .i64 7] = resV [.slice 1 (ints (bif s.isR a then s.way a else [])), .int .i64 (rtE s a)] := fun h => by unfold rtE; rw [h]; rfl
 have yes : ∀ X, s.isR a = true → X = s.way a → resV [.slice 1 (ints X), .int .i64 0] = resV [.slice 1 (ints (bif s.isR a then s.way a else [])), .int .i64 (rtE s a)] := fun X h hX => by unfold rtE; rw [h, hX]; rfl
 refine call_of_vc (x := ir66) (by kernel_rfl) rfl ?_
 refine And.intro rfl ?_
 rotate_left
 refine loop_u (fun q : Nat × Int × List Int => [(6, .sl 1 (ints (q.2.2 ++ [q.2.1])).length), (7, .d (.int .i64 q.2.1))]) (fun q => [(1, .row 3 1 (ints (q.2.2 ++ [q.2.1])) false)]) (fun q => (rkS m.ns.length s q.2.1 < q.1 ∧ q.1 ≤ m.ns.length) ∧ ((0 ≤ q.2.1 ∧ q.2.1 < (m.ns.length : Int)) ∧ q.2.2 ++ wayN (nes s.es) q.1 q.2.1 = s.way a)) (fun q => q.1) (m.ns.length, a, []) rfl ⟨⟨rkS_lt s h0 h1, Nat.le_refl _⟩, ⟨h0, h1⟩, by unfold Sts.way; rw [hnl, hle]; rfl⟩ ?_
 rintro ⟨f, b, pre⟩ ⟨⟨hf, hfn⟩, ⟨hb0, hb1⟩, hp⟩
 have hf : rkS m.ns.length s b < f := hf
 have hfn : f ≤ m.ns.length := hfn
 have hb0 : 0 ≤ b := hb0
 have hb1 : b < (m.ns.length : Int) := hb1
 have hp : pre ++ wayN (nes s.es) f b = s.way a := hp
 have hpl : pre.length ≤ 32 := by
  have h := congrArg List.length hp
  rw [List.length_append] at h
  unfold Sts.way at h
  omega
 have hil := ints_len (pre ++ [b])
 rw [List.length_append, List.length_singleton] at hil
 have hna := nes_at (s := s) hb0 (by omega)
 have hx := ens_atI (Sts.at_getI (s := s) (i := b) (by omega))
 obtain ⟨f, rfl⟩ : ∃ f', f = f' + 1 := ⟨f - 1, by omega⟩
 dsimp only
 by_cases hc : b = s.co
 ·have hw : pre ++ [b] = s.way a := by
   rw [← hp, wayN_stop hb0 (.inr (by rw [hna, hc, g.coE]))]
  have hi := isR_of hw
  refine And.intro rfl ?_
  refine brk_ne (fun t1 => ?_) (fun t1 => ?_)
  (exfalso; omega)
  refine And.intro rfl ?_
  rotate_left
  exact yes _ (by rw [hi]; simpa using hc) hw
 ·by_cases hn : (s.at b).ne = -1
  ·have hw : pre ++ [b] = s.way a := by
    rw [← hp, wayN_stop hb0 (.inl (by rw [hna, hn]; decide))]
   have hi := isR_of hw
   refine And.intro rfl ?_
   refine brk_ne (fun t1 => ?_) (fun t1 => ?_)
   refine ix_at hx ?_ ?_
   assumption
   refine And.intro rfl ?_
   refine brk_lt (fun t2 => ?_) (fun t2 => ?_)
   rotate_left
   (exfalso; omega)
   (exfalso; omega)
   exact no (by rw [hi]; simpa using hc)
  ·have k := g.nxt hb0 hb1 hc hn
   have k0 := k.1
   have hr := g.rk_lt hb0 hb1 hc hn
   have hw : (pre ++ [b]) ++ wayN (nes s.es) f (s.at b).ne = s.way a := by
    rw [← hp, wayN_go hb0 (by rw [hna]; exact Int.not_lt.2 k0) (by rw [hna]; exact k.2.2.1), hna, List.append_assoc]; rfl
   refine And.intro rfl ?_
   refine brk_ne (fun t1 => ?_) (fun t1 => ?_)
   refine ix_at hx ?_ ?_
   assumption
   refine And.intro rfl ?_
   refine brk_lt (fun t2 => ?_) (fun t2 => ?_)
   rotate_left
   refine And.intro rfl ?_
   refine And.intro rfl ?_
   refine And.intro rfl ?_
   refine And.intro ?_ ?_
   refine And.intro ?_ ?_
   exact rfl
   refine And.intro ?_ ?_
   exact rfl
   refine And.intro ?_ ?_
   exact rfl
   refine And.intro ?_ ?_
   (show (List.length (ints (pre ++ [b])) + (1 : Nat)) * (8 : Nat) ≤ (2 : Nat) ^ (47 : Nat); omega)
   (show List.length (ints (pre ++ [b])) + (1 : Nat) ≤ (2 : Nat) ^ (47 : Nat); omega)
   rotate_left
   (exfalso; omega)
   ·exact absurd (show (s.at b).ne < 0 from t2) (Int.not_lt.2 k0)
   refine ⟨(f, (s.at b).ne, pre ++ [b]), ⟨⟨⟨Nat.lt_of_lt_of_le hr (Nat.le_of_lt_succ hf), by show f ≤ _; omega⟩, ⟨k.1, k.2.1⟩, hw⟩, by show f < f + 1; omega⟩, ?_⟩
   show _ = St.upd _ [(6, .sl 1 (ints ((pre ++ [b]) ++ [(s.at b).ne])).length), (7, .d (.int .i64 (s.at b).ne))] [(1, .row 3 1 (ints ((pre ++ [b]) ++ [(s.at b).ne])) false)]
   rw [ints_app1 (pre ++ [b])]; rfl
def selN (B : Nat → Bool) : Nat → List Int
 | 0 => []
 | k + 1 => selN B k ++ (bif B k then [(k : Int)] else [])
theorem selN_len (B : Nat → Bool) : ∀ k, (selN B k).length ≤ k
 | 0 => Nat.le_refl _
 | k + 1 => by
  have := selN_len B k
  rw [selN, List.length_append]
  cases B k
  ·show _ + 0 ≤ _; omega
  ·show _ + 1 ≤ _; omega
theorem selN_yes {B : Nat → Bool} {k : Nat} (h : B k = true) : selN B (k + 1) = selN B k ++ [(k : Int)] := by rw [selN, h]; rfl
theorem selN_no {B : Nat → Bool} {k : Nat} (h : B k = false) : selN B (k + 1) = selN B k := by rw [selN, h]; exact List.append_nil _
theorem rt0 {s : Sts} {a : Int} (h : rtE s a = 0) : s.isR a = true := by
 unfold rtE at h
 cases hb : s.isR a
 ·rw [hb] at h; cases h
 ·rfl
theorem rt7 {s : Sts} {a : Int} (h : ¬ rtE s a = 0) : s.isR a = false := by
 unfold rtE at h
 cases hb : s.isR a
 ·rfl
 ·rw [hb] at h; exact absurd rfl h
def Sts.routed (s : Sts) : List Int := selN (fun i => s.isR i) s.es.length
theorem c65 (m : Ms) (s : Sts) (g : Good m s) : CallDet Tryz.prog 65 [.d s.d] [.slice 1 (ints s.routed)] := by
 have hel := ens_len s.es
 have hle := g.len
 have h32 := (chk_fine g.chk).n32
 refine call_of_vc (x := ir65) (by kernel_rfl) rfl ?_
 rotate_left
 refine loop_u (fun k : Nat => [(3, .sl 2 (ints (selN (fun i => s.isR i) k)).length), (4, .d (.int .i64 k))]) (fun k => [(2, .row 3 1 (ints (selN (fun i => s.isR i) k)) false)]) (fun k => k ≤ s.es.length) (fun k => s.es.length - k) 0 rfl (Nat.zero_le _) ?_
 intro k hk
 have hk : k ≤ s.es.length := hk
 have hsl := selN_len (fun i => s.isR i) k
 have hil := ints_len (selN (fun i => s.isR i) k)
 by_cases hkk : k < s.es.length
 ·refine And.intro rfl ?_
  refine brk_lt (fun t1 => ?_) (fun t1 => ?_)
  refine Exists.intro _ (And.intro (c66 m s k g (by omega) (by omega)) ?_)
  refine And.intro rfl ?_
  refine brk_eq (fun t2 => ?_) (fun t2 => ?_)
  refine And.intro rfl ?_
  refine And.intro rfl ?_
  refine And.intro rfl ?_
  refine And.intro ?_ ?_
  refine And.intro ?_ ?_
  exact rfl
  refine And.intro ?_ ?_
  exact rfl
  refine And.intro ?_ ?_
  exact rfl
  refine And.intro ?_ ?_
  (show (List.length (ints (selN (fun i => Sts.isR s (↑i : Int)) k)) + (1 : Nat)) * (8 : Nat) ≤ (2 : Nat) ^ (47 : Nat); omega)
  (show List.length (ints (selN (fun i => Sts.isR s (↑i : Int)) k)) + (1 : Nat) ≤ (2 : Nat) ^ (47 : Nat); omega)
  refine ar_add ?_ ?_
  refine And.intro ?_ ?_
  (show (-9223372036854775808 : Int) ≤ (↑k : Int) + (1 : Int); omega)
  (show (↑k : Int) + (1 : Int) ≤ (9223372036854775807 : Int); omega)
  rotate_left
  refine ar_add ?_ ?_
  refine And.intro ?_ ?_
  (show (-9223372036854775808 : Int) ≤ (↑k : Int) + (1 : Int); omega)
  (show (↑k : Int) + (1 : Int) ≤ (9223372036854775807 : Int); omega)
  rotate_left
  (exfalso; omega)
  ·refine ⟨k + 1, ⟨hkk, by show s.es.length - (k + 1) < s.es.length - k; omega⟩, ?_⟩
   rw [selN_yes (rt0 t2), ints_app1]; rfl
  ·refine ⟨k + 1, ⟨hkk, by show s.es.length - (k + 1) < s.es.length - k; omega⟩, ?_⟩
   rw [selN_no (rt7 t2)]; rfl
 ·have ek : k = s.es.length := by omega
  subst ek
  refine And.intro rfl ?_
  refine brk_lt (fun t1 => ?_) (fun t1 => ?_)
  (exfalso; omega)
  refine And.intro rfl ?_
  exact rfl
theorem c64 (m : Ms) (s : Sts) (hm : m.ns.length ≤ 1048576) (hl2 : m.ls.length ≤ 1048576) (hn : s.es.length ≤ 1048576) : CallDet Tryz.prog 64 [.d m.d, .d s.d] [.slice 1 (ints (bif m.chkS s != 0 then [] else s.routed)), .int .i64 (m.chkS s)] := by
 have hel := ens_len s.es
 have bad : ¬ m.chkS s = 0 → resV [.slice 1 [], .int .i64 (m.chkS s)] = resV [.slice 1 (ints (bif m.chkS s != 0 then [] else s.routed)), .int .i64 (m.chkS s)] := fun h => by rw [nil_if h]; rfl
 have fin : m.chkS s = 0 → ∀ X, X = s.routed → resV [.slice 1 (ints X), .int .i64 0] = resV [.slice 1 (ints (bif m.chkS s != 0 then [] else s.routed)), .int .i64 (m.chkS s)] := fun h X hX => by rw [h, hX]; rfl
 refine call_of_vc (x := ir64) (by kernel_rfl) rfl ?_
 by_cases hz : m.chkS s = 0
 ·have g := good_of hz
  have hle := g.len
  have h32 := (chk_fine g.chk).n32
  have hbb : ∀ i : Nat, i < s.es.length → (s.at i).ne < (s.es.length : Int) := fun i hi => by have := (g.rng i (by omega) (by omega)).2.2.2; omega
  refine Exists.intro _ (And.intro (c37 m s hm hl2 hn) ?_)
  refine And.intro rfl ?_
  refine brk_ne (fun t1 => ?_) (fun t1 => ?_)
  (exfalso; omega)
  rotate_left
  refine loop_u (fun k : Nat => [(7, .sl 3 (ints (selN (fun i => s.isR i) k)).length), (20, .d (.int .i64 k))]) (fun k => [(3, .row 3 1 (ints (selN (fun i => s.isR i) k)) false)]) (fun k => k ≤ s.es.length) (fun k => s.es.length - k) 0 rfl (Nat.zero_le _) ?_
  intro k hk
  have hk : k ≤ s.es.length := hk
  have hsl := selN_len (fun i => s.isR i) k
  have hil := ints_len (selN (fun i => s.isR i) k)
  by_cases hkk : k < s.es.length
  ·have c127_k : CallDet Tryz.prog 127 [.d s.d, .d (.int .i64 k)] [.slice 1 (ints (s.way k)), .bool (s.isR k)] := c127 s k (by omega) (by omega) (by omega) hbb
   refine And.intro rfl ?_
   refine brk_lt (fun t2 => ?_) (fun t2 => ?_)
   refine Exists.intro _ (And.intro c127_k ?_)
   refine brk_intro (fun t3 => ?_) (fun t3 => ?_)
   refine And.intro rfl ?_
   refine And.intro rfl ?_
   refine And.intro rfl ?_
   refine And.intro ?_ ?_
   refine And.intro ?_ ?_
   exact rfl
   refine And.intro ?_ ?_
   exact rfl
   refine And.intro ?_ ?_
   exact rfl
   refine And.intro ?_ ?_
   (show (List.length (ints (selN (fun i => Sts.isR s (↑i : Int)) k)) + (1 : Nat)) * (8 : Nat) ≤ (2 : Nat) ^ (47 : Nat); omega)
   (show List.length (ints (selN (fun i => Sts.isR s (↑i : Int)) k)) + (1 : Nat) ≤ (2 : Nat) ^ (47 : Nat); omega)
   refine ar_add ?_ ?_
   refine And.intro ?_ ?_
   (show (-9223372036854775808 : Int) ≤ (↑k : Int) + (1 : Int); omega)
   (show (↑k : Int) + (1 : Int) ≤ (9223372036854775807 : Int); omega)
   rotate_left
   refine ar_add ?_ ?_
   refine And.intro ?_ ?_
   (show (-9223372036854775808 : Int) ≤ (↑k : Int) + (1 : Int); omega)
   (show (↑k : Int) + (1 : Int) ≤ (9223372036854775807 : Int); omega)
   rotate_left
   (exfalso; omega)
   ·refine ⟨k + 1, ⟨hkk, by show s.es.length - (k + 1) < s.es.length - k; omega⟩, ?_⟩
    rw [selN_yes t3, ints_app1]; rfl
   ·refine ⟨k + 1, ⟨hkk, by show s.es.length - (k + 1) < s.es.length - k; omega⟩, ?_⟩
    rw [selN_no t3]; rfl
  ·have ek : k = s.es.length := by omega
   subst ek
   refine And.intro rfl ?_
   refine brk_lt (fun t2 => ?_) (fun t2 => ?_)
   (exfalso; omega)
   refine And.intro rfl ?_
   rotate_left
   exact fin hz _ rfl
 ·refine Exists.intro _ (And.intro (c37 m s hm hl2 hn) ?_)
  refine And.intro rfl ?_
  refine brk_ne (fun t1 => ?_) (fun t1 => ?_)
  rotate_left
  (exfalso; omega)
  exact bad hz
def routE (m : Ms) (s : Sts) (a : Int) : Int := bif firstOf [m.chkS s, m.nodeE a] != 0 then firstOf [m.chkS s, m.nodeE a] else rtE s a
theorem c63 (m : Ms) (s : Sts) (a : Int) (hm : m.ns.length ≤ 1048576) (hl2 : m.ls.length ≤ 1048576) (hn : s.es.length ≤ 1048576) : CallDet Tryz.prog 63 [.d m.d, .d s.d, .d (.int .i64 a)] [.slice 1 (ints (bif routE m s a != 0 then [] else s.way a)), .int .i64 (routE m s a)] := by
 have bad : ∀ v, routE m s a = v → ¬ v = 0 → resV [.slice 1 [], .int .i64 v] = resV [.slice 1 (ints (bif routE m s a != 0 then [] else s.way a)), .int .i64 (routE m s a)] := fun v e h => by rw [e, nil_if h]; rfl
 have fin : routE m s a = 0 → resV [.slice 1 (ints (s.way a)), .int .i64 0] = resV [.slice 1 (ints (bif routE m s a != 0 then [] else s.way a)), .int .i64 (routE m s a)] := fun h => by rw [h]; rfl
 refine call_of_vc (x := ir63) (by kernel_rfl) rfl ?_
 by_cases hz : firstOf [m.chkS s, m.nodeE a] = 0
 ·have g := good_of (firstOf_zero hz (m.chkS s) (by simp))
  have hle := g.len
  have h32 := (chk_fine g.chk).n32
  have ha := node_in (firstOf_zero hz (m.nodeE a) (by simp))
  have hbb : ∀ i : Nat, i < s.es.length → (s.at i).ne < (s.es.length : Int) := fun i hi => by have := (g.rng i (by omega) (by omega)).2.2.2; omega
  have c127_k : CallDet Tryz.prog 127 [.d s.d, .d (.int .i64 a)] [.slice 1 (ints (s.way a)), .bool (s.isR a)] := c127 s a ha.1 (by omega) (by omega) hbb
  refine Exists.intro _ (And.intro (c37 m s hm hl2 hn) ?_)
  refine Exists.intro _ (And.intro (c87 m _) ?_)
  refine And.intro rfl ?_
  refine And.intro rfl ?_
  refine Exists.intro _ (And.intro (c86 [Ms.chkS m s, Ms.nodeE m a] (by simp)) ?_)
  refine And.intro rfl ?_
  refine brk_ne (fun t1 => ?_) (fun t1 => ?_)
  (exfalso; omega)
  refine Exists.intro _ (And.intro c127_k ?_)
  refine brk_intro (fun t2 => ?_) (fun t2 => ?_)
  rotate_left
  rotate_left
  ·refine bad _ ?_ (by decide)
   unfold routE rtE; rw [if_0 hz, show s.isR a = false by simpa using t2]; rfl
  ·refine fin ?_
   unfold routE rtE; rw [if_0 hz, show s.isR a = true by simpa using t2]; rfl
 ·refine Exists.intro _ (And.intro (c37 m s hm hl2 hn) ?_)
  refine Exists.intro _ (And.intro (c87 m _) ?_)
  refine And.intro rfl ?_
  refine And.intro rfl ?_
  refine Exists.intro _ (And.intro (c86 [Ms.chkS m s, Ms.nodeE m a] (by simp)) ?_)
  refine And.intro rfl ?_
  refine brk_ne (fun t1 => ?_) (fun t1 => ?_)
  rotate_left
  (exfalso; omega)
  exact bad _ (by unfold routE; exact if_1 hz) hz
theorem way_len (s : Sts) (a : Int) : (s.way a).length ≤ s.es.length := by
 have := wayN_len (nes s.es) (nes s.es).length a
 unfold Sts.way; rw [nes_len] at this ⊢; exact this
theorem c9 (hw : CallDet Tryz.prog 16 [] [.bool true]) (m : Ms) (s : Sts) (a : Int) (hm : m.ns.length ≤ 1048576) (hl2 : m.ls.length ≤ 1048576) (hn : s.es.length ≤ 1048576) :
  CallDet Tryz.prog 9 [.d m.d, .d s.d, .d (.int .i64 a)] [.bool true] := by
 have c16_ := hw
 have hwl := way_len s a
 have hsl : s.routed.length ≤ s.es.length := selN_len _ _
 have hA : m.chkS s = 0 → m.nodeE a = 0 → routE m s a = rtE s a := fun h h2 => by unfold routE; exact if_0 (by rw [first_0 h, h2]; rfl)
 have hB : m.chkS s = 0 → ¬ m.nodeE a = 0 → routE m s a = m.nodeE a := fun h h2 => by unfold routE; rw [first_0 h, first_1 h2]; exact if_1 h2
 have hC : ¬ m.chkS s = 0 → routE m s a = m.chkS s := fun h => by unfold routE; rw [first_1 h]; exact if_1 h
 refine call_of_vc (x := ir9) (by kernel_rfl) rfl ?_
 refine Exists.intro _ (And.intro (c15 m hm) ?_)
 refine brk_intro (fun t1 => ?_) (fun t1 => ?_)
 refine And.intro rfl ?_
 refine Exists.intro _ (And.intro c16_ ?_)
 exact rfl
 refine Exists.intro _ (And.intro (c30 s) ?_)
 refine brk_intro (fun t2 => ?_) (fun t2 => ?_)
 replace t2 : (!(decide ((↑(List.length (Sts.es s)) : Int) ≤ (9 : Int)) || (↑(List.length (Sts.es s)) : Int) == (33 : Int))) = true := t2
 refine Exists.intro _ (And.intro c16_ ?_)
 exact rfl
 replace t2 : (!(decide ((↑(List.length (Sts.es s)) : Int) ≤ (9 : Int)) || (↑(List.length (Sts.es s)) : Int) == (33 : Int))) = false := t2
 refine Exists.intro _ (And.intro (c18 m hm hl2) ?_)
 refine Exists.intro _ (And.intro (c33 s hn) ?_)
 refine Exists.intro _ (And.intro (c63 m s a hm hl2 hn) ?_)
 refine Exists.intro _ (And.intro (c18 m hm hl2) ?_)
 refine Exists.intro _ (And.intro (c33 s hn) ?_)
 refine Exists.intro _ (And.intro (c64 m s hm hl2 hn) ?_)
 refine Exists.intro _ (And.intro (c34 m s hm hl2 hn) ?_)
 refine And.intro rfl ?_
 refine brk_eq (fun t3 => ?_) (fun t3 => ?_)
 refine Exists.intro _ (And.intro (c23 m _) ?_)
 refine Exists.intro _ (And.intro (c65 m s (good_of ‹_›)) ?_)
 refine And.intro rfl ?_
 refine brk_eq (fun t4 => ?_) (fun t4 => ?_)
 refine Exists.intro _ (And.intro (c66 m s a (good_of ‹_›) (node_in ‹_›).1 (node_in ‹_›).2) ?_)
 refine Exists.intro _ (And.intro (c28_y _ _ _ _ ?_ ?_ ?_) ?_)
 rotate_left
 rotate_left
 (show routE m s a = rtE s a; omega)
 refine Exists.intro _ (And.intro (c28_y _ _ _ _ ?_ ?_ ?_) ?_)
 rotate_left
 exact rfl
 exact rfl
 refine Exists.intro _ (And.intro c16_ ?_)
 exact rfl
 refine Exists.intro _ (And.intro (c28_n _ _ _ ?_ ?_ ?_) ?_)
 rotate_left
 rotate_left
 (show routE m s a = Ms.nodeE m a; omega)
 refine Exists.intro _ (And.intro (c28_y _ _ _ _ ?_ ?_ ?_) ?_)
 rotate_left
 exact rfl
 exact rfl
 refine Exists.intro _ (And.intro c16_ ?_)
 exact rfl
 refine And.intro rfl ?_
 refine brk_eq (fun t5 => ?_) (fun t5 => ?_)
 (exfalso; omega)
 refine Exists.intro _ (And.intro (c28_n _ _ _ ?_ ?_ ?_) ?_)
 rotate_left
 rotate_left
 (show routE m s a = Ms.chkS m s; omega)
 refine Exists.intro _ (And.intro (c28_n _ _ _ ?_ ?_ ?_) ?_)
 rotate_left
 rotate_left
 exact rfl
 refine Exists.intro _ (And.intro c16_ ?_)
 exact rfl
 all_goals first
  | exact if_le (by omega)
  | exact zb (by omega) (fun _ => rfl)
  | exact zb (by omega) (fun h => by rw [rt0 h]; rfl)
  | exact nil_if (by omega)
  | skip
end Vc
