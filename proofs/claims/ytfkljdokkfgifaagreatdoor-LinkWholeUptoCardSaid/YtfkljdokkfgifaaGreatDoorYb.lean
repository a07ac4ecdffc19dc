import Derived.Test.YtfkljdokkfgifaaGreatDoorYa
import Derived.Test.YtfkljdokkfgifaaGreatDoorWc
set_option linter.unusedSectionVars false
set_option linter.unusedVariables false
set_option linter.unusedSimpArgs false
set_option maxRecDepth 10000
namespace Vc
open Go Go.Proofs
/-! LinkWhole: the walk, its first part. -/

def wS (n1 : UInt8) : Nat := 2 + n1.toNat % 11
def wP (n1 : UInt8) (b : List UInt8) : Nat := (partsI b.length (wS n1)).toNat
def wl (n0 n1 : UInt8) (b : List UInt8) : List Fr := cutFrs n0.toNat b (wS n1)
structure Wh (n0 n1 : UInt8) (b : List UInt8) : Prop where
  hb : b.length ≤ 60
  hn : (0 : Int) ≤ (n0.toNat : Int) ∧ (n0.toNat : Int) ≤ 255
  hS : wS n1 ≤ 12
  hS2 : 2 ≤ wS n1
  hP : partsI b.length (wS n1 : Nat) = (wP n1 b : Int)
  h1 : 1 ≤ wP n1 b
  h30 : wP n1 b ≤ 30
  hc : b.length ≤ wP n1 b * wS n1
  hl : 0 < b.length → (wP n1 b - 1) * wS n1 < b.length
  hone : b.length = 0 → wP n1 b = 1
theorem wh_of (n0 n1 : UInt8) {b : List UInt8} (hb : b.length ≤ 60) : Wh n0 n1 b := by
  have h0 := n0.toNat_lt
  have hm : n1.toNat % 11 < 11 := Nat.mod_lt _ (by omega)
  have hS : 2 ≤ wS n1 ∧ wS n1 ≤ 12 := by unfold wS; omega
  obtain ⟨P, e, h1, h2, h3, h4⟩ := parts_fact b.length (wS n1) (by omega)
  have eP : wP n1 b = P := by unfold wP; rw [e]; rfl
  refine ⟨hb, ⟨by omega, by omega⟩, hS.2, hS.1, by rw [eP]; exact e, by omega, ?_, by rw [eP]; exact h2, fun h => by rw [eP]; exact h3 h, fun h => by rw [eP]; exact h4 h⟩
  rw [eP]; exact parts_30 hS.1 hb h1 h3 h4
theorem wl_eq {n0 n1 : UInt8} {b : List UInt8} : wl n0 n1 b = (List.range (wP n1 b)).map (cutFr n0.toNat b (wS n1)) := rfl
theorem wl_len (n0 n1 : UInt8) (b : List UInt8) : (wl n0 n1 b).length = wP n1 b := by rw [wl_eq]; simp
theorem wl_at {n0 n1 : UInt8} {b : List UInt8} {k : Nat} (h : k < wP n1 b) : (wl n0 n1 b)[k]? = some (cutFr n0.toNat b (wS n1) k) := by
  rw [wl_eq, List.getElem?_map, List.getElem?_range h]; rfl
theorem wh_check {n0 n1 : UInt8} {b : List UInt8} (hw : Wh n0 n1 b) : checkCut n0.toNat b.length (wS n1 : Nat) = 0 := by
  have e1 : within3 (n0.toNat : Int) 0 255 = 0 := by unfold within3; have := hw.hn; rw [decide_eq_false (by omega), decide_eq_false (by omega)]; rfl
  have e2 : within3 ((wS n1 : Nat) : Int) 1 12 = 0 := by unfold within3; have := hw.hS; have := hw.hS2; rw [decide_eq_false (by omega), decide_eq_false (by omega)]; rfl
  have e3 : decide ((256 : Int) < (b.length : Int)) = false := decide_eq_false (by have := hw.hb; omega)
  have e4 : decide (64 < partsI b.length (wS n1 : Nat)) = false := decide_eq_false (by rw [hw.hP]; have := hw.h30; omega)
  have e5 : decide (((wS n1 : Nat) : Int) * 64 < (b.length : Int)) = false := decide_eq_false (by have := hw.hS2; have := hw.hb; omega)
  unfold checkCut
  simp [e1, e2, e3, e4, e5, cutHead, firstOf]
theorem wh13 {n0 n1 : UInt8} {b : List UInt8} (hw : Wh n0 n1 b) : CallDet Tryz.prog 13 [.d (.int .i64 (n0.toNat : Int)), .d (.slice 1 (b.map byt)), .d (.int .i64 ((wS n1 : Nat) : Int))] [.slice 4 (frs (wl n0 n1 b)), .int .i64 0] := by
  have h := c13 n0.toNat (wS n1 : Nat) b
  rw [cutL, wh_check hw] at h
  exact h
def ir7a (rest : ACode) : ACode :=
 (.seq
 (.reg [0] [⟨some 3, .cbx 0 4 (.tmp 1), none⟩,
 ⟨some 4, .mov (.cst (.d (.bool false))), none⟩])
 (.seq
 (.seq
 (.reg [] [⟨some 28, .mov (.tmp 0), none⟩,
 ⟨some 29, .len (.tmp 28), none⟩,
 ⟨some 30, .cmp .gtr (.tmp 29) (.cst (.d (.int .i64 60))), none⟩])
 (.cond (.tmp 30)
 (.seq
 (.reg [] [⟨some 31, .call 12 [], none⟩,
 ⟨some 4, .mov (.tmp 31), none⟩])
 .ret)
 .skip))
 (.seq
 (.regd [] [⟨some 32, .ixp 4 1 (.tmp 3) (.cst (.d (.int .i64 0))), none⟩,
 ⟨some 33, .ld false 1 (.tmp 32), none⟩,
 ⟨some 34, .conv .i64 (.tmp 33), none⟩,
 ⟨some 35, .ixp 4 1 (.tmp 3) (.cst (.d (.int .i64 1))), none⟩,
 ⟨some 36, .ld false 1 (.tmp 35), none⟩,
 ⟨some 37, .conv .i64 (.tmp 36), none⟩,
 ⟨some 38, .arith .rem .i64 (.tmp 37) (.cst (.d (.int .i64 11))), none⟩,
 ⟨some 39, .arith .add .i64 (.cst (.d (.int .i64 2))) (.tmp 38), none⟩,
 ⟨some 5, .mov (.tmp 34), none⟩,
 ⟨some 6, .mov (.tmp 39), none⟩] [(0, 3), (1, 3), (2, 3), (0, 4), (1, 4), (2, 4), (0, 5), (1, 5), (2, 5), (0, 6), (1, 6), (2, 6), (0, 7), (1, 7), (2, 7), (3, 8), (4, 8), (5, 8), (6, 8), (7, 8)])
 (.seq
 (.reg [1, 2] [⟨some 41, .mov (.tmp 5), none⟩,
 ⟨some 42, .bsl 1 5 1 0 [] [], none⟩,
 ⟨some 43, .mov (.tmp 0), none⟩,
 ⟨some 44, .app 2 5 1 1 (.tmp 42) (.tmp 43), none⟩,
 ⟨some 45, .mov (.tmp 6), none⟩,
 ⟨some 46, .call 13 [(.tmp 41), (.tmp 44), (.tmp 45)], none⟩,
 ⟨some 40, .mov (.tmp 46), none⟩,
 ⟨some 47, .ext 0 (.tmp 40), none⟩,
 ⟨some 48, .ext 1 (.tmp 40), none⟩,
 ⟨some 7, .mov (.tmp 47), none⟩,
 ⟨some 8, .mov (.tmp 48), none⟩])
 (.seq
 (.seq
 (.reg [] [⟨some 49, .mov (.tmp 8), none⟩,
 ⟨some 50, .cmp .neq (.tmp 49) (.cst (.d (.int .i64 0))), none⟩,
 ⟨some 51, .mov (.tmp 50), none⟩,
 ⟨some 52, .mov (.tmp 7), some (51, false)⟩,
 ⟨some 53, .len (.tmp 52), some (51, false)⟩,
 ⟨some 54, .cmp .lss (.tmp 53) (.cst (.d (.int .i64 1))), some (51, false)⟩,
 ⟨some 55, .pick (.tmp 51) (.cst (.d (.bool true))) (.tmp 54), none⟩,
 ⟨some 56, .mov (.tmp 55), none⟩,
 ⟨some 57, .mov (.tmp 7), some (56, false)⟩,
 ⟨some 58, .len (.tmp 57), some (56, false)⟩,
 ⟨some 59, .cmp .gtr (.tmp 58) (.cst (.d (.int .i64 30))), some (56, false)⟩,
 ⟨some 60, .pick (.tmp 56) (.cst (.d (.bool true))) (.tmp 59), none⟩])
 (.cond (.tmp 60)
 (.seq
 (.reg [] [⟨some 4, .mov (.cst (.d (.bool false))), none⟩])
 .ret)
 .skip))
 (.seq
 (.reg [] [⟨some 9, .mov (.cst (.d (.int .i64 0))), none⟩])
 rest))))))

def ir7b (rest : ACode) : ACode :=
 (.seq
 (.seq
 (.reg [] [⟨some 61, .mov (.tmp 7), none⟩,
 ⟨some 62, .len (.tmp 61), none⟩,
 ⟨some 63, .mov (.cst (.d (.int .i64 0))), none⟩])
 (.post [0, 3, 7, 9] [0, 1, 2, 3, 4, 5]
 (.block 0
 (.keep [0, 3, 5, 6, 7, 9, 61, 62, 63] [0, 1, 2]
 (.loop
 (.post [0, 3, 5, 6, 7, 9, 61, 62, 63] [3, 4, 5]
 (.seq
 (.reg [] [⟨some 64, .cmp .lss (.tmp 63) (.tmp 62), none⟩])
 (.seq
 (.cond (.tmp 64)
 .skip
 (.exit 0))
 (.seq
 (.block 1
 (.seq
 (.reg [3] [⟨some 65, .mov (.tmp 63), none⟩,
 ⟨some 66, .ixa 4 (.tmp 61) (.tmp 63), none⟩,
 ⟨some 67, .ld true 4 (.tmp 66), none⟩,
 ⟨some 11, .alloc 3 [(.d (.int .i64 0)), (.d (.int .i64 0)), (.d (.int .i64 0)), (.nils 1)], none⟩,
 ⟨some 10, .mov (.tmp 65), none⟩,
 ⟨none, .st 4 (.tmp 11) (.tmp 67), none⟩])
 (.seq
 (.seq
 (.reg [] [⟨some 68, .fad 0 (.tmp 11), none⟩,
 ⟨some 69, .ld false 1 (.tmp 68), none⟩,
 ⟨some 70, .mov (.tmp 5), none⟩,
 ⟨some 71, .cmp .neq (.tmp 69) (.tmp 70), none⟩,
 ⟨some 72, .mov (.tmp 71), none⟩,
 ⟨some 73, .fad 1 (.tmp 11), some (72, false)⟩,
 ⟨some 74, .ld false 1 (.tmp 73), some (72, false)⟩,
 ⟨some 75, .mov (.tmp 10), some (72, false)⟩,
 ⟨some 76, .cmp .neq (.tmp 74) (.tmp 75), some (72, false)⟩,
 ⟨some 77, .pick (.tmp 72) (.cst (.d (.bool true))) (.tmp 76), none⟩,
 ⟨some 78, .mov (.tmp 77), none⟩,
 ⟨some 79, .fad 2 (.tmp 11), some (78, false)⟩,
 ⟨some 80, .ld false 1 (.tmp 79), some (78, false)⟩,
 ⟨some 81, .mov (.tmp 7), some (78, false)⟩,
 ⟨some 82, .len (.tmp 81), some (78, false)⟩,
 ⟨some 83, .cmp .neq (.tmp 80) (.tmp 82), some (78, false)⟩,
 ⟨some 84, .pick (.tmp 78) (.cst (.d (.bool true))) (.tmp 83), none⟩,
 ⟨some 85, .mov (.tmp 84), none⟩,
 ⟨some 86, .mov (.tmp 10), some (85, false)⟩,
 ⟨some 87, .arith .add .i64 (.tmp 86) (.cst (.d (.int .i64 1))), some (85, false)⟩,
 ⟨some 88, .mov (.tmp 7), some (85, false)⟩,
 ⟨some 89, .len (.tmp 88), some (85, false)⟩,
 ⟨some 90, .cmp .lss (.tmp 87) (.tmp 89), some (85, false)⟩,
 ⟨some 91, .mov (.tmp 90), some (85, false)⟩,
 ⟨some 92, .fad 3 (.tmp 11), some (91, true)⟩,
 ⟨some 93, .ld false 1 (.tmp 92), some (91, true)⟩,
 ⟨some 94, .len (.tmp 93), some (91, true)⟩,
 ⟨some 95, .mov (.tmp 6), some (91, true)⟩,
 ⟨some 96, .cmp .neq (.tmp 94) (.tmp 95), some (91, true)⟩,
 ⟨some 97, .pick (.tmp 91) (.tmp 96) (.cst (.d (.bool false))), some (85, false)⟩,
 ⟨some 98, .pick (.tmp 85) (.cst (.d (.bool true))) (.tmp 97), none⟩,
 ⟨some 99, .mov (.tmp 98), none⟩,
 ⟨some 100, .mov (.tmp 10), some (99, false)⟩,
 ⟨some 101, .arith .add .i64 (.tmp 100) (.cst (.d (.int .i64 1))), some (99, false)⟩,
 ⟨some 102, .mov (.tmp 7), some (99, false)⟩,
 ⟨some 103, .len (.tmp 102), some (99, false)⟩,
 ⟨some 104, .cmp .eql (.tmp 101) (.tmp 103), some (99, false)⟩,
 ⟨some 105, .mov (.tmp 104), some (99, false)⟩,
 ⟨some 106, .fad 3 (.tmp 11), some (105, true)⟩,
 ⟨some 107, .ld false 1 (.tmp 106), some (105, true)⟩,
 ⟨some 108, .len (.tmp 107), some (105, true)⟩,
 ⟨some 109, .mov (.tmp 6), some (105, true)⟩,
 ⟨some 110, .cmp .gtr (.tmp 108) (.tmp 109), some (105, true)⟩,
 ⟨some 111, .mov (.tmp 110), some (105, true)⟩,
 ⟨some 112, .fad 3 (.tmp 11), some (111, false)⟩,
 ⟨some 113, .ld false 1 (.tmp 112), some (111, false)⟩,
 ⟨some 114, .len (.tmp 113), some (111, false)⟩,
 ⟨some 115, .cmp .eql (.tmp 114) (.cst (.d (.int .i64 0))), some (111, false)⟩,
 ⟨some 116, .mov (.tmp 115), some (111, false)⟩,
 ⟨some 117, .mov (.tmp 0), some (116, true)⟩,
 ⟨some 118, .len (.tmp 117), some (116, true)⟩,
 ⟨some 119, .cmp .gtr (.tmp 118) (.cst (.d (.int .i64 0))), some (116, true)⟩,
 ⟨some 120, .pick (.tmp 116) (.tmp 119) (.cst (.d (.bool false))), some (111, false)⟩,
 ⟨some 121, .pick (.tmp 111) (.cst (.d (.bool true))) (.tmp 120), some (105, true)⟩,
 ⟨some 122, .pick (.tmp 105) (.tmp 121) (.cst (.d (.bool false))), some (99, false)⟩,
 ⟨some 123, .pick (.tmp 99) (.cst (.d (.bool true))) (.tmp 122), none⟩])
 (.cond (.tmp 123)
 (.seq
 (.reg [] [⟨some 4, .mov (.cst (.d (.bool false))), none⟩])
 .ret)
 .skip))
 (.seq
 (.reg [] [⟨some 124, .mov (.tmp 9), none⟩,
 ⟨some 125, .fad 3 (.tmp 11), none⟩,
 ⟨some 126, .ld false 1 (.tmp 125), none⟩,
 ⟨some 127, .len (.tmp 126), none⟩,
 ⟨some 128, .arith .add .i64 (.tmp 124) (.tmp 127), none⟩,
 ⟨some 9, .mov (.tmp 128), none⟩])
 (.seq
 (.reg [4] [⟨some 130, .ld true 4 (.tmp 11), none⟩,
 ⟨some 131, .call 27 [(.tmp 130)], none⟩,
 ⟨some 132, .call 26 [(.tmp 131)], none⟩,
 ⟨some 129, .mov (.tmp 132), none⟩,
 ⟨some 133, .ext 0 (.tmp 129), none⟩,
 ⟨some 134, .ext 1 (.tmp 129), none⟩,
 ⟨some 12, .alloc 4 [(.d (.int .u8 0)), (.d (.int .u8 0)), (.d (.int .u8 0)), (.d (.int .u8 0)), (.d (.int .u8 0)), (.d (.int .u8 0)), (.d (.int .u8 0)), (.d (.int .u8 0)), (.d (.int .u8 0)), (.d (.int .u8 0)), (.d (.int .u8 0)), (.d (.int .u8 0)), (.d (.int .u8 0)), (.d (.int .u8 0)), (.d (.int .u8 0)), (.d (.int .u8 0))], none⟩,
 ⟨none, .st 16 (.tmp 12) (.tmp 133), none⟩,
 ⟨some 13, .mov (.tmp 134), none⟩])
 (.seq
 (.reg [5] [⟨some 136, .ld true 16 (.tmp 12), none⟩,
 ⟨some 137, .call 16 [(.tmp 136)], none⟩,
 ⟨some 135, .mov (.tmp 137), none⟩,
 ⟨some 138, .ext 0 (.tmp 135), none⟩,
 ⟨some 139, .ext 1 (.tmp 135), none⟩,
 ⟨some 14, .alloc 5 [(.d (.int .i64 0)), (.d (.int .i64 0)), (.d (.int .i64 0)), (.nils 1)], none⟩,
 ⟨none, .st 4 (.tmp 14) (.tmp 138), none⟩,
 ⟨some 15, .mov (.tmp 139), none⟩])
 (.seq
 (.reg [] [⟨some 140, .mov (.tmp 13), none⟩,
 ⟨some 141, .cmp .neq (.tmp 140) (.cst (.d (.int .i64 0))), none⟩,
 ⟨some 142, .mov (.tmp 141), none⟩,
 ⟨some 143, .mov (.tmp 15), some (142, false)⟩,
 ⟨some 144, .cmp .neq (.tmp 143) (.cst (.d (.int .i64 0))), some (142, false)⟩,
 ⟨some 145, .pick (.tmp 142) (.cst (.d (.bool true))) (.tmp 144), none⟩,
 ⟨some 146, .mov (.tmp 145), none⟩,
 ⟨some 147, .ld true 4 (.tmp 14), some (146, false)⟩,
 ⟨some 148, .ld true 4 (.tmp 11), some (146, false)⟩,
 ⟨some 149, .call 25 [(.tmp 147), (.tmp 148)], some (146, false)⟩,
 ⟨some 150, .not (.tmp 149), some (146, false)⟩,
 ⟨some 151, .pick (.tmp 146) (.cst (.d (.bool true))) (.tmp 150), none⟩])
 (.cond (.tmp 151)
 (.seq
 (.reg [] [⟨some 4, .mov (.cst (.d (.bool false))), none⟩])
 .ret)
 .skip))))))))
 (.reg [] [⟨some 152, .arith .add .i64 (.tmp 63) (.cst (.d (.int .i64 1))), none⟩,
 ⟨some 63, .mov (.tmp 152), none⟩]))))))))))
 (.seq
 (.seq
 (.reg [] [⟨some 153, .mov (.tmp 9), none⟩,
 ⟨some 154, .mov (.tmp 0), none⟩,
 ⟨some 155, .len (.tmp 154), none⟩,
 ⟨some 156, .cmp .neq (.tmp 153) (.tmp 155), none⟩])
 (.cond (.tmp 156)
 (.seq
 (.reg [] [⟨some 4, .mov (.cst (.d (.bool false))), none⟩])
 .ret)
 .skip))
 rest))

def ir7c (rest : ACode) : ACode :=
 (.seq
 (.reg [] [⟨some 157, .ixp 4 1 (.tmp 3) (.cst (.d (.int .i64 2))), none⟩,
 ⟨some 158, .ld false 1 (.tmp 157), none⟩,
 ⟨some 159, .conv .i64 (.tmp 158), none⟩,
 ⟨some 160, .mov (.tmp 7), none⟩,
 ⟨some 161, .len (.tmp 160), none⟩,
 ⟨some 162, .arith .rem .i64 (.tmp 159) (.tmp 161), none⟩,
 ⟨some 16, .mov (.tmp 162), none⟩])
 (.seq
 (.reg [] [⟨some 17, .mov (.cst (.nils 4)), none⟩])
 (.seq
 (.seq
 (.reg [] [⟨some 163, .mov (.tmp 7), none⟩,
 ⟨some 164, .len (.tmp 163), none⟩,
 ⟨some 165, .mov (.cst (.d (.int .i64 0))), none⟩])
 (.post [0, 3, 17] [0, 1, 2, 3, 4, 5, 6, 7]
 (.block 2
 (.asrow 7 46 4 17
 (.keep [0, 3, 7, 16, 17, 164, 165] [0, 1, 2, 3, 4, 5]
 (.loop
 (.post [0, 3, 7, 16, 17, 164, 165] [6, 7]
 (.seq
 (.reg [] [⟨some 166, .cmp .lss (.tmp 165) (.tmp 164), none⟩])
 (.seq
 (.cond (.tmp 166)
 .skip
 (.exit 2))
 (.seq
 (.block 3
 (.seq
 (.reg [] [⟨some 167, .mov (.tmp 165), none⟩,
 ⟨some 18, .mov (.tmp 167), none⟩])
 (.reg [6, 7] [⟨some 168, .mov (.tmp 17), none⟩,
 ⟨some 169, .mov (.tmp 7), none⟩,
 ⟨some 170, .mov (.tmp 7), none⟩,
 ⟨some 171, .len (.tmp 170), none⟩,
 ⟨some 172, .arith .sub .i64 (.tmp 171) (.cst (.d (.int .i64 1))), none⟩,
 ⟨some 173, .mov (.tmp 18), none⟩,
 ⟨some 174, .arith .sub .i64 (.tmp 172) (.tmp 173), none⟩,
 ⟨some 175, .mov (.tmp 16), none⟩,
 ⟨some 176, .arith .add .i64 (.tmp 174) (.tmp 175), none⟩,
 ⟨some 177, .mov (.tmp 7), none⟩,
 ⟨some 178, .len (.tmp 177), none⟩,
 ⟨some 179, .arith .rem .i64 (.tmp 176) (.tmp 178), none⟩,
 ⟨some 180, .ixa 4 (.tmp 169) (.tmp 179), none⟩,
 ⟨some 181, .ld true 4 (.tmp 180), none⟩,
 ⟨some 182, .bsl 6 46 4 1 [(.agg [(.int .i64 0), (.int .i64 0), (.int .i64 0), (.slice 1 [])])] [(0, (.tmp 181))], none⟩,
 ⟨some 183, .app 7 46 4 48 (.tmp 168) (.tmp 182), none⟩,
 ⟨some 17, .mov (.tmp 183), none⟩])))
 (.reg [] [⟨some 184, .arith .add .i64 (.tmp 165) (.cst (.d (.int .i64 1))), none⟩,
 ⟨some 165, .mov (.tmp 184), none⟩])))))))))))
 rest)))

def ir7d (rest : ACode) : ACode :=
 (.seq
 (.reg [8] [⟨some 185, .mov (.tmp 17), none⟩,
 ⟨some 186, .ixp 4 1 (.tmp 3) (.cst (.d (.int .i64 3))), none⟩,
 ⟨some 187, .ld false 1 (.tmp 186), none⟩,
 ⟨some 188, .conv .i64 (.tmp 187), none⟩,
 ⟨some 189, .mov (.tmp 17), none⟩,
 ⟨some 190, .len (.tmp 189), none⟩,
 ⟨some 191, .arith .rem .i64 (.tmp 188) (.tmp 190), none⟩,
 ⟨some 192, .ixa 4 (.tmp 185) (.tmp 191), none⟩,
 ⟨some 193, .ld true 4 (.tmp 192), none⟩,
 ⟨some 19, .alloc 8 [(.d (.int .i64 0)), (.d (.int .i64 0)), (.d (.int .i64 0)), (.nils 1)], none⟩,
 ⟨none, .st 4 (.tmp 19) (.tmp 193), none⟩])
 (.seq
 (.regd [9, 10, 11, 12] [⟨some 194, .bsl 9 46 4 0 [] [], none⟩,
 ⟨some 195, .mov (.tmp 17), none⟩,
 ⟨some 196, .app 10 46 4 48 (.tmp 194) (.tmp 195), none⟩,
 ⟨some 197, .ld true 4 (.tmp 19), none⟩,
 ⟨some 198, .bsl 11 46 4 1 [(.agg [(.int .i64 0), (.int .i64 0), (.int .i64 0), (.slice 1 [])])] [(0, (.tmp 197))], none⟩,
 ⟨some 199, .app 12 46 4 48 (.tmp 196) (.tmp 198), none⟩,
 ⟨some 20, .mov (.tmp 199), none⟩] [(0, 1), (0, 3), (1, 3), (2, 3), (0, 4), (1, 4), (2, 4)])
 (.seq
 (.reg [] [⟨some 201, .mov (.tmp 20), none⟩,
 ⟨some 202, .call 15 [(.tmp 201)], none⟩,
 ⟨some 203, .call 14 [(.tmp 202)], none⟩,
 ⟨some 200, .mov (.tmp 203), none⟩,
 ⟨some 204, .ext 0 (.tmp 200), none⟩,
 ⟨some 205, .ext 1 (.tmp 200), none⟩,
 ⟨some 21, .mov (.tmp 204), none⟩,
 ⟨some 22, .mov (.tmp 205), none⟩])
 (.seq
 (.seq
 (.reg [] [⟨some 206, .mov (.tmp 22), none⟩,
 ⟨some 207, .cmp .neq (.tmp 206) (.cst (.d (.int .i64 0))), none⟩,
 ⟨some 208, .mov (.tmp 207), none⟩,
 ⟨some 209, .mov (.tmp 21), some (208, false)⟩,
 ⟨some 210, .mov (.tmp 0), some (208, false)⟩,
 ⟨some 211, .call 24 [(.tmp 209), (.tmp 210)], some (208, false)⟩,
 ⟨some 212, .not (.tmp 211), some (208, false)⟩,
 ⟨some 213, .pick (.tmp 208) (.cst (.d (.bool true))) (.tmp 212), none⟩])
 (.cond (.tmp 213)
 (.seq
 (.reg [] [⟨some 4, .mov (.cst (.d (.bool false))), none⟩])
 .ret)
 .skip))
 rest))))

def ir7e (rest : ACode) : ACode :=
 (.seq
 (.seq
 (.reg [] [⟨some 214, .mov (.tmp 17), none⟩,
 ⟨some 215, .len (.tmp 214), none⟩,
 ⟨some 216, .cmp .gtr (.tmp 215) (.cst (.d (.int .i64 1))), none⟩])
 (.cond (.tmp 216)
 (.seq
 (.reg [] [⟨some 218, .mov (.tmp 17), none⟩,
 ⟨some 219, .slc 4 (.tmp 218) (some (.cst (.d (.int .i64 1)))) none, none⟩,
 ⟨some 220, .call 15 [(.tmp 219)], none⟩,
 ⟨some 221, .call 14 [(.tmp 220)], none⟩,
 ⟨some 217, .mov (.tmp 221), none⟩,
 ⟨some 222, .ext 0 (.tmp 217), none⟩,
 ⟨some 223, .ext 1 (.tmp 217), none⟩,
 ⟨some 23, .mov (.tmp 222), none⟩,
 ⟨some 24, .mov (.tmp 223), none⟩])
 (.seq
 (.reg [] [⟨some 224, .mov (.tmp 24), none⟩,
 ⟨some 225, .cmp .neq (.tmp 224) (.cst (.d (.int .i64 16))), none⟩])
 (.cond (.tmp 225)
 (.seq
 (.reg [] [⟨some 4, .mov (.cst (.d (.bool false))), none⟩])
 .ret)
 .skip)))
 .skip))
 rest)

def ir7f (rest : ACode) : ACode :=
 (.seq
 (.seq
 (.reg [] [⟨some 226, .fad 3 (.tmp 19), none⟩,
 ⟨some 227, .ld false 1 (.tmp 226), none⟩,
 ⟨some 228, .len (.tmp 227), none⟩,
 ⟨some 229, .cmp .gtr (.tmp 228) (.cst (.d (.int .i64 0))), none⟩])
 (.cond (.tmp 229)
 (.seq
 (.reg [13] [⟨some 230, .ld true 4 (.tmp 19), none⟩,
 ⟨some 231, .calli 27 [(.tmp 230)], none⟩,
 ⟨some 25, .alloc 13 [(.d (.int .i64 0)), (.d (.int .i64 0)), (.d (.int .i64 0)), (.nils 1)], none⟩,
 ⟨none, .st 4 (.tmp 25) (.tmp 231), none⟩])
 (.seq
 (.regd [] [⟨some 232, .fad 3 (.tmp 25), none⟩,
 ⟨some 233, .ld false 1 (.tmp 232), none⟩,
 ⟨some 234, .ixa 1 (.tmp 233) (.cst (.d (.int .i64 0))), none⟩,
 ⟨some 235, .ld false 1 (.tmp 234), none⟩,
 ⟨some 236, .ixp 4 1 (.tmp 3) (.cst (.d (.int .i64 3))), none⟩,
 ⟨some 237, .ld false 1 (.tmp 236), none⟩,
 ⟨some 238, .arith .rem .u8 (.tmp 237) (.cst (.d (.int .u8 127))), none⟩,
 ⟨some 239, .arith .add .u8 (.cst (.d (.int .u8 1))) (.tmp 238), none⟩,
 ⟨some 240, .bit .xor .u8 (.tmp 235) (.tmp 239), none⟩,
 ⟨some 241, .ixa 1 (.tmp 233) (.cst (.d (.int .i64 0))), none⟩,
 ⟨none, .st 1 (.tmp 241) (.tmp 240), none⟩] [(0, 4), (1, 4), (2, 4), (3, 4), (0, 5), (1, 5), (2, 5), (3, 5), (0, 6), (1, 6), (2, 6), (3, 6), (0, 7), (1, 7), (2, 7), (3, 7)])
 (.seq
 (.regd [14, 15] [⟨some 243, .mov (.tmp 17), none⟩,
 ⟨some 244, .calln 22 38 4 15 [(.tmp 243)], none⟩,
 ⟨some 245, .ld true 4 (.tmp 25), none⟩,
 ⟨some 246, .bsl 14 38 4 1 [(.agg [(.int .i64 0), (.int .i64 0), (.int .i64 0), (.slice 1 [])])] [(0, (.tmp 245))], none⟩,
 ⟨some 247, .app 15 38 4 48 (.tmp 244) (.tmp 246), none⟩,
 ⟨some 248, .call 14 [(.tmp 247)], none⟩,
 ⟨some 242, .mov (.tmp 248), none⟩,
 ⟨some 249, .ext 0 (.tmp 242), none⟩,
 ⟨some 250, .ext 1 (.tmp 242), none⟩,
 ⟨some 26, .mov (.tmp 249), none⟩,
 ⟨some 27, .mov (.tmp 250), none⟩] [(0, 2), (1, 2), (0, 3), (1, 3), (7, 8), (8, 9)])
 (.seq
 (.reg [] [⟨some 251, .mov (.tmp 27), none⟩,
 ⟨some 252, .cmp .neq (.tmp 251) (.cst (.d (.int .i64 24))), none⟩])
 (.cond (.tmp 252)
 (.seq
 (.reg [] [⟨some 4, .mov (.cst (.d (.bool false))), none⟩])
 .ret)
 .skip)))))
 .skip))
 rest)

def ir7g : ACode :=
 (.seq
 (.reg [] [⟨some 253, .call 12 [], none⟩,
 ⟨some 4, .mov (.tmp 253), none⟩])
 .ret)

def ir7 :AFun := ⟨254, 23, [.tmp 4], (ir7a (.keep [0, 3, 4, 5, 6, 7, 9] [1, 2] (ir7b (.keep [0, 3, 4, 7] [] (ir7c (.keep [0, 3, 4, 17] [] (ir7d (.keep [3, 4, 17, 19] [9, 10, 11, 12] (ir7e (.keep [3, 4, 17, 19] [9, 10, 11, 12] (ir7f (.keep [4] [0, 7, 8, 13, 14, 15, 16, 17, 18, 19, 20, 21, 22] ir7g))))))))))))⟩

set_option maxHeartbeats 4000000 in
theorem a7 (b : List UInt8) (n0 n1 n2 n3 : UInt8) (c : ACode) (hc : Wh n0 n1 b → vc Tryz.prog 254 c ⟨[(0, .d (.slice 1 (b.map byt))), (3, .ptr 0 0), (4, .d (.bool false)), (5, .d (.int .i64 (n0.toNat : Int))), (6, .d (.int .i64 ((wS n1 : Nat) : Int))), (7, .d (.slice 4 (frs (wl n0 n1 b)))), (9, .d (.int .i64 0))], [.cbox [byt n0, byt n1, byt n2, byt n3], .none, .none, .none, .none, .none, .none, .none, .none, .none, .none, .none, .none, .none, .none, .none, .none, .none, .none, .none, .none, .none, .none]⟩ (postF ir7 [.bool true])) :
    vc Tryz.prog 254 (ir7a (.keep [0, 3, 4, 5, 6, 7, 9] [1, 2] c)) (startS ir7 [.d (.slice 1 (b.map byt)), .d (.agg [byt n0, byt n1, byt n2, byt n3])]) (postF ir7 [.bool true]) := by
  refine And.intro rfl ?_
  refine brk_intro ?_ ?_
  · intro _
    refine Exists.intro _ (And.intro c12 ?_)
    exact rfl
  intro h
  have h : decide ((60 : Int) < ((b.map byt).length : Int)) = false := h
  have hbl : b.length ≤ 60 := by have := of_decide_eq_false h; rw [List.length_map] at this; omega
  have hw := wh_of n0 n1 hbl
  have hlen : (b.map byt).length = b.length := List.length_map _
  refine And.intro (And.intro (by decide) (by decide)) ?_
  refine Exists.intro _ (And.intro (i64_u8 n0) ?_)
  refine And.intro (And.intro (by decide) (by decide)) ?_
  refine Exists.intro _ (And.intro (i64_u8 n1) ?_)
  refine ar_rem (by have := n1.toNat_lt; omega) ?_
  refine ar_is (r := ((2 + n1.toNat % 11 : Nat) : Int)) (by have := n1.toNat_lt; simp only [arithF]; rw [IntWalk.i64_in _ (by omega)]; rfl) ?_
  repeat refine And.intro rfl ?_
  refine And.intro ⟨rfl, rfl, rfl, ?_, ?_⟩ ?_
  · show (0 + (b.map byt).length) * 1 ≤ 2 ^ 47
    omega
  · show 0 + (b.map byt).length ≤ 2 ^ 47
    omega
  repeat refine And.intro rfl ?_
  refine Exists.intro _ (And.intro (wh13 hw) ?_)
  have hL : (frs (wl n0 n1 b)).length = wP n1 b := by rw [frs_len, wl_len]
  have h1 := hw.h1
  have h2 := hw.h30
  repeat refine And.intro rfl ?_
  have t1 : decide (((frs (wl n0 n1 b)).length : Int) < 1) = false := decide_eq_false (by omega)
  have t2 : decide ((30 : Int) < ((frs (wl n0 n1 b)).length : Int)) = false := decide_eq_false (by omega)
  refine brk_f t1 ?_
  repeat refine And.intro rfl ?_
  refine brk_f t2 ?_
  exact hc hw
end Vc

set_option maxRecDepth 10000
namespace Vc
open Go Go.Proofs
theorem fr_self (f : Fr) : (!(f.same f)) = false := by simp [Fr.same]
set_option maxHeartbeats 8000000 in
theorem b7 (b : List UInt8) (n0 n1 n2 n3 : UInt8) (hw : Wh n0 n1 b) (c : ACode) (hc : vc Tryz.prog 254 c ⟨[(0, .d (.slice 1 (b.map byt))), (3, .ptr 0 0), (7, .d (.slice 4 (frs (wl n0 n1 b))))], [.cbox [byt n0, byt n1, byt n2, byt n3], .none, .none, .none, .none, .none, .none, .none, .none, .none, .none, .none, .none, .none, .none, .none, .none, .none, .none, .none, .none, .none, .none]⟩ (postF ir7 [.bool true])) :
    vc Tryz.prog 254 (ir7b (.keep [0, 3, 4, 7] [] c)) ⟨[(0, .d (.slice 1 (b.map byt))), (3, .ptr 0 0), (4, .d (.bool false)), (5, .d (.int .i64 (n0.toNat : Int))), (6, .d (.int .i64 ((wS n1 : Nat) : Int))), (7, .d (.slice 4 (frs (wl n0 n1 b)))), (9, .d (.int .i64 0))], [.cbox [byt n0, byt n1, byt n2, byt n3], .none, .none, .none, .none, .none, .none, .none, .none, .none, .none, .none, .none, .none, .none, .none, .none, .none, .none, .none, .none, .none, .none]⟩ (postF ir7 [.bool true]) := by
  have hL : (frs (wl n0 n1 b)).length = wP n1 b := by rw [frs_len, wl_len]
  have hlen : (b.map byt).length = b.length := List.length_map _
  have h1 := hw.h1
  have h2 := hw.h30
  have h3 := hw.hS
  have h4 := hw.hb
  refine loop_st (fun a : Nat × Nat => ⟨[(0, .d (.slice 1 (b.map byt))), (3, .ptr 0 0), (5, .d (.int .i64 (n0.toNat : Int))), (6, .d (.int .i64 ((wS n1 : Nat) : Int))), (7, .d (.slice 4 (frs (wl n0 n1 b)))), (9, .d (.int .i64 (a.2 : Int))), (61, .d (.slice 4 (frs (wl n0 n1 b)))), (62, .d (.int .i64 ((frs (wl n0 n1 b)).length : Int))), (63, .d (.int .i64 (a.1 : Int)))], [.cbox [byt n0, byt n1, byt n2, byt n3], .none, .none, .none, .none, .none, .none, .none, .none, .none, .none, .none, .none, .none, .none, .none, .none, .none, .none, .none, .none, .none, .none]⟩)
    (fun a => a.2 = (b.take (a.1 * wS n1)).length) (fun a => wP n1 b - a.1) (0, 0) rfl (by simp) ?_
  rintro ⟨k, sum⟩ hI
  have hI : sum = (b.take (k * wS n1)).length := hI
  refine And.intro rfl ?_
  refine brk_intro ?_ ?_
  · intro h
    have h : (k : Int) < ((frs (wl n0 n1 b)).length : Int) := of_decide_eq_true h
    have hk : k < wP n1 b := by omega
    have hd : (frs (wl n0 n1 b))[(k : Int).toNat]? = some (cutFr n0.toNat b (wS n1) k).d := by simp [frs, wl_at hk]
    have hm : ((n0.toNat : Int) != (n0.toNat : Int)) = false := by simp
    have hp : ((k : Int) != (k : Int)) = false := by simp
    have hn : (partsI b.length (wS n1 : Nat) != ((frs (wl n0 n1 b)).length : Int)) = false := by rw [hw.hP, hL]; simp
    have hq := piece_le b (wS n1) k
    have hql := piece_len b (wS n1) k
    have hqm : ((piece b (wS n1) k).map byt).length = (piece b (wS n1) k).length := List.length_map _
    have hstep : sum + (piece b (wS n1) k).length = (b.take ((k + 1) * wS n1)).length := sum_step hI
    have hsl : sum ≤ 60 := by rw [hI, List.length_take]; omega
    have hsum : ((sum : Int) + (((piece b (wS n1) k).map byt).length : Int)) = ((sum + (piece b (wS n1) k).length : Nat) : Int) := by rw [hqm]; rfl
    have hA : -9223372036854775808 ≤ (sum : Int) + (((piece b (wS n1) k).map byt).length : Int) ∧ (sum : Int) + (((piece b (wS n1) k).map byt).length : Int) ≤ 9223372036854775807 := by omega
    have hchk : (cutFr n0.toNat b (wS n1) k).check = 0 := cut_check hw.hn hw.hS hw.hP (by omega) hk
    have hsame := fr_self (cutFr n0.toNat b (wS n1) k)
    refine ix_at hd (by omega) ?_
    repeat refine And.intro rfl ?_
    refine brk_f hm ?_
    repeat refine And.intro rfl ?_
    refine brk_f hp ?_
    repeat refine And.intro rfl ?_
    refine brk_f hn ?_
    repeat refine And.intro rfl ?_
    refine ar_add (by omega) ?_
    repeat refine And.intro rfl ?_
    refine brk_intro ?_ ?_
    · intro e
      have e : ((k : Int) + 1) < ((frs (wl n0 n1 b)).length : Int) := of_decide_eq_true e
      have hfull : ((((piece b (wS n1) k).map byt).length : Int) != ((wS n1 : Nat) : Int)) = false := by
        have hh := hw.hl
        have : (k + 1) * wS n1 ≤ (wP n1 b - 1) * wS n1 := Nat.mul_le_mul_right _ (by omega)
        have hb0 : 0 < b.length := by
          have := hw.hc
          rcases Nat.eq_zero_or_pos b.length with e0 | e0
          · exfalso
            have h5 := hw.hone e0
            omega
          · exact e0
        have := hh hb0
        have e5 : (k + 1) * wS n1 = k * wS n1 + wS n1 := by rw [Nat.add_mul, Nat.one_mul]
        have : (piece b (wS n1) k).length = wS n1 := by rw [hql]; omega
        rw [hqm, this]; simp
      have hlast : (((k : Int) + 1) == ((frs (wl n0 n1 b)).length : Int)) = false := by rw [beq_eq_false_iff_ne]; omega
      repeat refine And.intro rfl ?_
      refine brk_f hfull ?_
      repeat refine And.intro rfl ?_
      refine ar_add (by omega) ?_
      repeat refine And.intro rfl ?_
      refine brk_f hlast ?_
      repeat refine And.intro rfl ?_
      refine ar_add hA ?_
      repeat refine And.intro rfl ?_
      refine Exists.intro _ (And.intro (c27 (cutFr n0.toNat b (wS n1) k) (by show (piece b (wS n1) k).length ≤ _; omega)) ?_)
      repeat refine And.intro rfl ?_
      refine Exists.intro _ (And.intro (c26z (cutFr n0.toNat b (wS n1) k) hchk) ?_)
      repeat refine And.intro rfl ?_
      refine Exists.intro _ (And.intro (c16b (cutFr n0.toNat b (wS n1) k) hchk) ?_)
      repeat refine And.intro rfl ?_
      refine Exists.intro _ (And.intro (c25 (cutFr n0.toNat b (wS n1) k) (cutFr n0.toNat b (wS n1) k)) ?_)
      repeat refine And.intro rfl ?_
      refine brk_f hsame ?_
      repeat refine And.intro rfl ?_
      refine ar_add (by omega) ?_
      exact ⟨(k + 1, sum + (piece b (wS n1) k).length), ⟨hstep, by show wP n1 b - (k + 1) < wP n1 b - k; omega⟩, congrArg (fun z : Int => St.mk [(0, .d (.slice 1 (b.map byt))), (3, .ptr 0 0), (5, .d (.int .i64 (n0.toNat : Int))), (6, .d (.int .i64 ((wS n1 : Nat) : Int))), (7, .d (.slice 4 (frs (wl n0 n1 b)))), (9, .d (.int .i64 z)), (61, .d (.slice 4 (frs (wl n0 n1 b)))), (62, .d (.int .i64 ((frs (wl n0 n1 b)).length : Int))), (63, .d (.int .i64 ((k : Int) + 1)))] [.cbox [byt n0, byt n1, byt n2, byt n3], .none, .none, .none, .none, .none, .none, .none, .none, .none, .none, .none, .none, .none, .none, .none, .none, .none, .none, .none, .none, .none, .none]) hsum⟩
    · intro e
      have e : ¬ ((k : Int) + 1) < ((frs (wl n0 n1 b)).length : Int) := of_decide_eq_false e
      have hlast : (((k : Int) + 1) == ((frs (wl n0 n1 b)).length : Int)) = true := by rw [beq_iff_eq]; omega
      have hbig : decide (((wS n1 : Nat) : Int) < (((piece b (wS n1) k).map byt).length : Int)) = false := decide_eq_false (by omega)
      repeat refine And.intro rfl ?_
      refine ar_add (by omega) ?_
      repeat refine And.intro rfl ?_
      refine brk_t hlast ?_
      repeat refine And.intro rfl ?_
      refine brk_f hbig ?_
      repeat refine And.intro rfl ?_
      refine brk_intro ?_ ?_
      · intro e0
        have e0 : ((((piece b (wS n1) k).map byt).length : Int) == 0) = true := e0
        have hnil : decide ((0 : Int) < ((b.map byt).length : Int)) = false := decide_eq_false (fun hh => by
          have e0 := eq_of_beq e0
          have := hw.hl (by omega)
          have e6 : (wP n1 b - 1) = k := by omega
          rw [e6] at this
          have e5 : (k + 1) * wS n1 = k * wS n1 + wS n1 := by rw [Nat.add_mul, Nat.one_mul]
          have := hw.hS2
          omega)
        repeat refine And.intro rfl ?_
        refine brk_f hnil ?_
        repeat refine And.intro rfl ?_
        refine ar_add hA ?_
        repeat refine And.intro rfl ?_
        refine Exists.intro _ (And.intro (c27 (cutFr n0.toNat b (wS n1) k) (by show (piece b (wS n1) k).length ≤ _; omega)) ?_)
        repeat refine And.intro rfl ?_
        refine Exists.intro _ (And.intro (c26z (cutFr n0.toNat b (wS n1) k) hchk) ?_)
        repeat refine And.intro rfl ?_
        refine Exists.intro _ (And.intro (c16b (cutFr n0.toNat b (wS n1) k) hchk) ?_)
        repeat refine And.intro rfl ?_
        refine Exists.intro _ (And.intro (c25 (cutFr n0.toNat b (wS n1) k) (cutFr n0.toNat b (wS n1) k)) ?_)
        repeat refine And.intro rfl ?_
        refine brk_f hsame ?_
        repeat refine And.intro rfl ?_
        refine ar_add (by omega) ?_
        exact ⟨(k + 1, sum + (piece b (wS n1) k).length), ⟨hstep, by show wP n1 b - (k + 1) < wP n1 b - k; omega⟩, congrArg (fun z : Int => St.mk [(0, .d (.slice 1 (b.map byt))), (3, .ptr 0 0), (5, .d (.int .i64 (n0.toNat : Int))), (6, .d (.int .i64 ((wS n1 : Nat) : Int))), (7, .d (.slice 4 (frs (wl n0 n1 b)))), (9, .d (.int .i64 z)), (61, .d (.slice 4 (frs (wl n0 n1 b)))), (62, .d (.int .i64 ((frs (wl n0 n1 b)).length : Int))), (63, .d (.int .i64 ((k : Int) + 1)))] [.cbox [byt n0, byt n1, byt n2, byt n3], .none, .none, .none, .none, .none, .none, .none, .none, .none, .none, .none, .none, .none, .none, .none, .none, .none, .none, .none, .none, .none, .none]) hsum⟩
      · intro e0
        repeat refine And.intro rfl ?_
        refine ar_add hA ?_
        repeat refine And.intro rfl ?_
        refine Exists.intro _ (And.intro (c27 (cutFr n0.toNat b (wS n1) k) (by show (piece b (wS n1) k).length ≤ _; omega)) ?_)
        repeat refine And.intro rfl ?_
        refine Exists.intro _ (And.intro (c26z (cutFr n0.toNat b (wS n1) k) hchk) ?_)
        repeat refine And.intro rfl ?_
        refine Exists.intro _ (And.intro (c16b (cutFr n0.toNat b (wS n1) k) hchk) ?_)
        repeat refine And.intro rfl ?_
        refine Exists.intro _ (And.intro (c25 (cutFr n0.toNat b (wS n1) k) (cutFr n0.toNat b (wS n1) k)) ?_)
        repeat refine And.intro rfl ?_
        refine brk_f hsame ?_
        repeat refine And.intro rfl ?_
        refine ar_add (by omega) ?_
        exact ⟨(k + 1, sum + (piece b (wS n1) k).length), ⟨hstep, by show wP n1 b - (k + 1) < wP n1 b - k; omega⟩, congrArg (fun z : Int => St.mk [(0, .d (.slice 1 (b.map byt))), (3, .ptr 0 0), (5, .d (.int .i64 (n0.toNat : Int))), (6, .d (.int .i64 ((wS n1 : Nat) : Int))), (7, .d (.slice 4 (frs (wl n0 n1 b)))), (9, .d (.int .i64 z)), (61, .d (.slice 4 (frs (wl n0 n1 b)))), (62, .d (.int .i64 ((frs (wl n0 n1 b)).length : Int))), (63, .d (.int .i64 ((k : Int) + 1)))] [.cbox [byt n0, byt n1, byt n2, byt n3], .none, .none, .none, .none, .none, .none, .none, .none, .none, .none, .none, .none, .none, .none, .none, .none, .none, .none, .none, .none, .none, .none]) hsum⟩
  · intro h
    have h : ¬ (k : Int) < ((frs (wl n0 n1 b)).length : Int) := of_decide_eq_false h
    have e : wP n1 b * wS n1 ≤ k * wS n1 := Nat.mul_le_mul_right _ (by omega)
    have e2 := hw.hc
    have hs : sum = b.length := by rw [hI, List.length_take]; omega
    have hne : ((sum : Int) != ((b.map byt).length : Int)) = false := by rw [hlen, hs]; simp
    repeat refine And.intro rfl ?_
    refine brk_f hne ?_
    exact hc
end Vc

