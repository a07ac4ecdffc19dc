import Derived.Test.YtfkljdokkfgifaaGreatDoorWe
set_option linter.unusedSectionVars false
set_option linter.unusedVariables false
set_option linter.unusedSimpArgs false
set_option maxRecDepth 10000
namespace Vc
open Go Go.Proofs
/-- kilovar/link.Unpacked -/
def ir16 : AFun := ⟨37, 3, [.cell 2 4 true, .tmp 3],
 (.seq
 (.reg [0, 1] [⟨some 1, .cbx 0 16 (.tmp 0), none⟩,
 ⟨some 2, .alloc 1 [(.d (.int .i64 0)), (.d (.int .i64 0)), (.d (.int .i64 0)), (.nils 1)], none⟩,
 ⟨some 3, .mov (.cst (.d (.int .i64 0))), none⟩])
 (.seq
 (.reg [2] [⟨some 5, .ixp 16 1 (.tmp 1) (.cst (.d (.int .i64 0))), none⟩,
 ⟨some 6, .ld false 1 (.tmp 5), none⟩,
 ⟨some 7, .conv .i64 (.tmp 6), none⟩,
 ⟨some 8, .ixp 16 1 (.tmp 1) (.cst (.d (.int .i64 1))), none⟩,
 ⟨some 9, .ld false 1 (.tmp 8), none⟩,
 ⟨some 10, .conv .i64 (.tmp 9), none⟩,
 ⟨some 11, .ixp 16 1 (.tmp 1) (.cst (.d (.int .i64 2))), none⟩,
 ⟨some 12, .ld false 1 (.tmp 11), none⟩,
 ⟨some 13, .conv .i64 (.tmp 12), none⟩,
 ⟨some 14, .build [(.d (.int .i64 0)), (.d (.int .i64 0)), (.d (.int .i64 0)), (.nils 1)] [(0, 1, (.tmp 7)), (1, 1, (.tmp 10)), (2, 1, (.tmp 13))], none⟩,
 ⟨some 4, .alloc 2 [(.d (.int .i64 0)), (.d (.int .i64 0)), (.d (.int .i64 0)), (.nils 1)], none⟩,
 ⟨none, .st 4 (.tmp 4) (.tmp 14), none⟩])
 (.seq
 (.seq
 (.reg [] [⟨some 15, .ixp 16 1 (.tmp 1) (.cst (.d (.int .i64 3))), none⟩,
 ⟨some 16, .ld false 1 (.tmp 15), none⟩,
 ⟨some 17, .cmp .gtr (.tmp 16) (.cst (.d (.int .u8 12))), none⟩])
 (.cond (.tmp 17)
 (.seq
 (.reg [] [⟨some 18, .build [(.d (.int .i64 0)), (.d (.int .i64 0)), (.d (.int .i64 0)), (.nils 1)] [], none⟩,
 ⟨none, .st 4 (.tmp 2) (.tmp 18), none⟩,
 ⟨some 3, .mov (.cst (.d (.int .i64 1))), none⟩])
 .ret)
 .skip))
 (.seq
 (.reg [] [⟨some 19, .ixp 16 1 (.tmp 1) (.cst (.d (.int .i64 3))), none⟩,
 ⟨some 20, .ld false 1 (.tmp 19), none⟩,
 ⟨some 21, .conv .i64 (.tmp 20), none⟩,
 ⟨some 22, .arith .add .i64 (.cst (.d (.int .i64 4))) (.tmp 21), none⟩,
 ⟨some 23, .sla 16 (.tmp 1) (some (.cst (.d (.int .i64 4)))) (some (.tmp 22)), none⟩,
 ⟨some 24, .call 87 [(.tmp 23)], none⟩,
 ⟨some 25, .fad 3 (.tmp 4), none⟩,
 ⟨none, .st 1 (.tmp 25) (.tmp 24), none⟩])
 (.seq
 (.seq
 (.regd [] [⟨some 26, .ld true 4 (.tmp 4), none⟩,
 ⟨some 27, .call 30 [(.tmp 26)], none⟩,
 ⟨some 28, .cmp .neq (.tmp 27) (.cst (.d (.int .i64 0))), none⟩,
 ⟨some 29, .mov (.tmp 28), none⟩,
 ⟨some 30, .ld true 4 (.tmp 4), some (29, false)⟩,
 ⟨some 31, .call 88 [(.tmp 30)], some (29, false)⟩,
 ⟨some 32, .ld true 16 (.tmp 1), some (29, false)⟩,
 ⟨some 33, .aeq true [0, 0, 0, 0, 0, 0, 0, 0, 0, 0, 0, 0, 0, 0, 0, 0] (.tmp 31) (.tmp 32), some (29, false)⟩,
 ⟨some 34, .pick (.tmp 29) (.cst (.d (.bool true))) (.tmp 33), none⟩] [(4, 6), (5, 6)])
 (.cond (.tmp 34)
 (.seq
 (.reg [] [⟨some 35, .build [(.d (.int .i64 0)), (.d (.int .i64 0)), (.d (.int .i64 0)), (.nils 1)] [], none⟩,
 ⟨none, .st 4 (.tmp 2) (.tmp 35), none⟩,
 ⟨some 3, .mov (.cst (.d (.int .i64 1))), none⟩])
 .ret)
 .skip))
 (.seq
 (.reg [] [⟨some 36, .ld true 4 (.tmp 4), none⟩,
 ⟨none, .st 4 (.tmp 2) (.tmp 36), none⟩,
 ⟨some 3, .mov (.cst (.d (.int .i64 0))), none⟩])
 .ret))))))⟩

/-- kilovar/kilovarref04.Unpacked -/
def ir21 : AFun := ⟨37, 5, [.cell 2 4 true, .tmp 3],
 (.seq
 (.reg [0, 1] [⟨some 1, .cbx 0 16 (.tmp 0), none⟩,
 ⟨some 2, .alloc 1 [(.d (.int .i64 0)), (.d (.int .i64 0)), (.d (.int .i64 0)), (.nils 1)], none⟩,
 ⟨some 3, .mov (.cst (.d (.int .i64 0))), none⟩])
 (.seq
 (.seq
 (.reg [] [⟨some 5, .ixp 16 1 (.tmp 1) (.cst (.d (.int .i64 3))), none⟩,
 ⟨some 6, .ld false 1 (.tmp 5), none⟩,
 ⟨some 7, .cmp .gtr (.tmp 6) (.cst (.d (.int .u8 12))), none⟩])
 (.cond (.tmp 7)
 (.seq
 (.reg [] [⟨some 8, .build [(.d (.int .i64 0)), (.d (.int .i64 0)), (.d (.int .i64 0)), (.nils 1)] [], none⟩,
 ⟨none, .st 4 (.tmp 2) (.tmp 8), none⟩,
 ⟨some 3, .mov (.cst (.d (.int .i64 1))), none⟩])
 .ret)
 .skip))
 (.seq
 (.regd [2, 3, 4] [⟨some 9, .ixp 16 1 (.tmp 1) (.cst (.d (.int .i64 0))), none⟩,
 ⟨some 10, .ld false 1 (.tmp 9), none⟩,
 ⟨some 11, .conv .i64 (.tmp 10), none⟩,
 ⟨some 12, .ixp 16 1 (.tmp 1) (.cst (.d (.int .i64 1))), none⟩,
 ⟨some 13, .ld false 1 (.tmp 12), none⟩,
 ⟨some 14, .conv .i64 (.tmp 13), none⟩,
 ⟨some 15, .ixp 16 1 (.tmp 1) (.cst (.d (.int .i64 2))), none⟩,
 ⟨some 16, .ld false 1 (.tmp 15), none⟩,
 ⟨some 17, .conv .i64 (.tmp 16), none⟩,
 ⟨some 18, .bsl 2 5 1 0 [] [], none⟩,
 ⟨some 19, .ixp 16 1 (.tmp 1) (.cst (.d (.int .i64 3))), none⟩,
 ⟨some 20, .ld false 1 (.tmp 19), none⟩,
 ⟨some 21, .conv .i64 (.tmp 20), none⟩,
 ⟨some 22, .arith .add .i64 (.cst (.d (.int .i64 4))) (.tmp 21), none⟩,
 ⟨some 23, .sla 16 (.tmp 1) (some (.cst (.d (.int .i64 4)))) (some (.tmp 22)), none⟩,
 ⟨some 24, .app 3 5 1 1 (.tmp 18) (.tmp 23), none⟩,
 ⟨some 25, .build [(.d (.int .i64 0)), (.d (.int .i64 0)), (.d (.int .i64 0)), (.nils 1)] [(0, 1, (.tmp 11)), (1, 1, (.tmp 14)), (2, 1, (.tmp 17)), (3, 1, (.tmp 24))], none⟩,
 ⟨some 4, .alloc 4 [(.d (.int .i64 0)), (.d (.int .i64 0)), (.d (.int .i64 0)), (.nils 1)], none⟩,
 ⟨none, .st 4 (.tmp 4) (.tmp 25), none⟩] [(0, 3), (1, 3), (2, 3), (0, 4), (1, 4), (2, 4), (0, 5), (1, 5), (2, 5), (0, 6), (1, 6), (2, 6), (3, 6), (4, 6), (5, 6), (0, 7), (1, 7), (2, 7), (3, 7), (4, 7), (5, 7), (0, 8), (1, 8), (2, 8), (3, 8), (4, 8), (5, 8), (0, 9), (1, 9), (2, 9), (3, 9), (4, 9), (5, 9), (6, 9), (7, 9), (8, 9), (0, 10), (1, 10), (2, 10), (3, 10), (4, 10), (5, 10), (6, 10), (7, 10), (8, 10), (9, 10), (0, 11), (1, 11), (2, 11), (3, 11), (4, 11), (5, 11), (6, 11), (7, 11), (8, 11), (9, 11), (0, 12), (1, 12), (2, 12), (3, 12), (4, 12), (5, 12), (6, 12), (7, 12), (8, 12), (9, 12), (0, 13), (1, 13), (2, 13), (3, 13), (4, 13), (5, 13), (6, 13), (7, 13), (8, 13), (9, 13), (0, 14), (1, 14), (2, 14), (3, 14), (4, 14), (5, 14), (6, 14), (7, 14), (8, 14), (9, 14), (0, 15), (1, 15), (2, 15), (3, 15), (4, 15), (5, 15), (6, 15), (7, 15), (8, 15), (0, 17), (1, 17), (2, 17), (3, 17), (4, 17), (5, 17), (6, 17), (7, 17), (8, 17), (9, 17), (10, 17), (11, 17), (12, 17), (13, 17), (14, 17), (15, 17), (16, 17)])
 (.seq
 (.seq
 (.regd [] [⟨some 26, .ld true 4 (.tmp 4), none⟩,
 ⟨some 27, .call 28 [(.tmp 26)], none⟩,
 ⟨some 28, .cmp .neq (.tmp 27) (.cst (.d (.int .i64 0))), none⟩,
 ⟨some 29, .mov (.tmp 28), none⟩,
 ⟨some 30, .ld true 4 (.tmp 4), some (29, false)⟩,
 ⟨some 31, .call 29 [(.tmp 30)], some (29, false)⟩,
 ⟨some 32, .ld true 16 (.tmp 1), some (29, false)⟩,
 ⟨some 33, .aeq true [0, 0, 0, 0, 0, 0, 0, 0, 0, 0, 0, 0, 0, 0, 0, 0] (.tmp 31) (.tmp 32), some (29, false)⟩,
 ⟨some 34, .pick (.tmp 29) (.cst (.d (.bool true))) (.tmp 33), none⟩] [(4, 6), (5, 6)])
 (.cond (.tmp 34)
 (.seq
 (.reg [] [⟨some 35, .build [(.d (.int .i64 0)), (.d (.int .i64 0)), (.d (.int .i64 0)), (.nils 1)] [], none⟩,
 ⟨none, .st 4 (.tmp 2) (.tmp 35), none⟩,
 ⟨some 3, .mov (.cst (.d (.int .i64 1))), none⟩])
 .ret)
 .skip))
 (.seq
 (.reg [] [⟨some 36, .ld true 4 (.tmp 4), none⟩,
 ⟨none, .st 4 (.tmp 2) (.tmp 36), none⟩,
 ⟨some 3, .mov (.cst (.d (.int .i64 0))), none⟩])
 .ret)))))⟩


def unpF (b : List UInt8) : Fr := match b with
  | x0 :: x1 :: x2 :: x3 :: r => ⟨x0.toNat, x1.toNat, x2.toNat, r.take x3.toNat⟩
  | _ => ⟨0, 0, 0, []⟩
def blkEq (f : Fr) (b : List UInt8) : Bool := (eqCells (List.replicate 16 0) (dcells (blkC f)) (dcells (b.map byt))).getD false
/-- a block that is no frame's -/
def unpBad (b : List UInt8) : Bool := match b with
  | _ :: _ :: _ :: x3 :: _ => decide (12 < (x3.toNat : Int)) || ((unpF b).check != 0 || !blkEq (unpF b) b)
  | _ => true
def unp (b : List UInt8) : Fr := match unpBad b with | true => ⟨0, 0, 0, []⟩ | false => unpF b
def unpE (b : List UInt8) : Int := match unpBad b with | true => 1 | false => 0
theorem i64_u8 (x : UInt8) : IntKind.i64.wrap (x.toNat : Int) = x.toNat := IntWalk.i64_in _ (by have := x.toNat_lt; omega)
theorem check_d (x : Data) (f : Fr) (h : x = f.d) : CallDet Tryz.prog 30 [.d x] [.int .i64 f.check] := h ▸ c30 f.m f.p f.n f.b
theorem check_r (x : Data) (f : Fr) (h : x = f.d) (ho : f.ok) : CallDet Tryz.prog 28 [.d x] [.int .i64 f.check] := h ▸ c28 f ho
theorem packed_d (x : Data) (f : Fr) (h : x = f.d) (hc : f.check = 0) : CallDet Tryz.prog 88 [.d x] [.agg (blkC f)] := h ▸ c88 f hc
theorem packed_r (x : Data) (f : Fr) (h : x = f.d) (hc : f.check = 0) : CallDet Tryz.prog 29 [.d x] [.agg (blkC f)] := h ▸ c29 f hc

theorem c16 (x0 x1 x2 x3 x4 x5 x6 x7 x8 x9 x10 x11 x12 x13 x14 x15 : UInt8) : CallDet Tryz.prog 16 [.d (.agg ([x0, x1, x2, x3, x4, x5, x6, x7, x8, x9, x10, x11, x12, x13, x14, x15].map byt))] [(unp [x0, x1, x2, x3, x4, x5, x6, x7, x8, x9, x10, x11, x12, x13, x14, x15]).d, .int .i64 (unpE [x0, x1, x2, x3, x4, x5, x6, x7, x8, x9, x10, x11, x12, x13, x14, x15])] := by
  refine call_of_vc (x := ir16) (by kernel_rfl) rfl ?_
  have l3 := x3.toNat_lt
  refine And.intro ⟨by decide, by decide⟩ ?_
  refine Exists.intro _ (And.intro (i64_u8 x0) ?_)
  refine And.intro ⟨by decide, by decide⟩ ?_
  refine Exists.intro _ (And.intro (i64_u8 x1) ?_)
  refine And.intro ⟨by decide, by decide⟩ ?_
  refine Exists.intro _ (And.intro (i64_u8 x2) ?_)
  refine And.intro ⟨by decide, by decide⟩ ?_
  refine And.intro rfl ?_
  refine brk_intro ?_ ?_
  · intro h
    have h : decide (12 < (x3.toNat : Int)) = true := h
    have e : unpBad [x0, x1, x2, x3, x4, x5, x6, x7, x8, x9, x10, x11, x12, x13, x14, x15] = true := by
      show (decide (12 < (x3.toNat : Int)) || _) = true
      rw [h]; rfl
    rw [unp, unpE, e]
    exact rfl
  intro h
  have h : decide (12 < (x3.toNat : Int)) = false := h
  have hx3 : x3.toNat ≤ 12 := by simp at h; omega
  refine And.intro ⟨by decide, by decide⟩ ?_
  refine Exists.intro _ (And.intro (i64_u8 x3) ?_)
  refine ar_add (by omega) ?_
  have hS : (0 : Int) ≤ 4 ∧ (4 : Int) ≤ 4 + (x3.toNat : Int) ∧ 4 + (x3.toNat : Int) ≤ 16 ∧ 0 + 16 ≤ ([x0, x1, x2, x3, x4, x5, x6, x7, x8, x9, x10, x11, x12, x13, x14, x15].map byt).length := by
    refine ⟨by omega, by omega, by omega, by simp⟩
  refine And.intro hS ?_
  let F : Fr := unpF [x0, x1, x2, x3, x4, x5, x6, x7, x8, x9, x10, x11, x12, x13, x14, x15]
  let S : List Data := (([x0, x1, x2, x3, x4, x5, x6, x7, x8, x9, x10, x11, x12, x13, x14, x15].map byt).drop (0 + (4 : Int).toNat)).take ((4 + (x3.toNat : Int)).toNat - (4 : Int).toNat)
  have hS2 : S = F.b.map byt := by
    show ([x4, x5, x6, x7, x8, x9, x10, x11, x12, x13, x14, x15].map byt).take ((4 + (x3.toNat : Int)).toNat - 4) = ([x4, x5, x6, x7, x8, x9, x10, x11, x12, x13, x14, x15].take x3.toNat).map byt
    rw [show (4 + (x3.toNat : Int)).toNat - 4 = x3.toNat by omega, List.map_take]
  have hl : S.length ≤ 12 := by rw [hS2]; simp [F, unpF]; omega
  refine Exists.intro [Data.slice 1 S] (And.intro (c87 S (by omega)) ?_)
  have hF : Data.agg [.int .i64 x0.toNat, .int .i64 x1.toNat, .int .i64 x2.toNat, .slice 1 S] = F.d := by rw [hS2]; rfl
  have hok : F.ok := by
    have := x2.toNat_lt
    show -9223372036854775808 ≤ (x2.toNat : Int) ∧ (x2.toNat : Int) ≤ 9223372036854775807
    omega
  have hbad : unpBad [x0, x1, x2, x3, x4, x5, x6, x7, x8, x9, x10, x11, x12, x13, x14, x15] = (F.check != 0 || !blkEq F [x0, x1, x2, x3, x4, x5, x6, x7, x8, x9, x10, x11, x12, x13, x14, x15]) := by
    show (decide (12 < (x3.toNat : Int)) || _) = _
    rw [h]; rfl
  refine Exists.intro [Data.int .i64 F.check] (And.intro (check_d _ F hF) ?_)
  refine And.intro rfl ?_
  refine brk_intro ?_ ?_
  · intro h1
    have h1 : (F.check != 0) = true := h1
    repeat refine And.intro rfl ?_
    rw [unp, unpE, hbad, h1]
    exact rfl
  · intro h1
    have h1 : (F.check != 0) = false := h1
    have hc : F.check = 0 := by simpa using h1
    repeat refine And.intro rfl ?_
    refine Exists.intro [Data.agg (blkC F)] (And.intro (packed_d _ F hF hc) ?_)
    refine Exists.intro (.bool (!blkEq F [x0, x1, x2, x3, x4, x5, x6, x7, x8, x9, x10, x11, x12, x13, x14, x15])) (And.intro ⟨_, rfl, rfl⟩ ?_)
    repeat refine And.intro rfl ?_
    refine brk_intro ?_ ?_
    · intro h2
      have h2 : (!blkEq F [x0, x1, x2, x3, x4, x5, x6, x7, x8, x9, x10, x11, x12, x13, x14, x15]) = true := h2
      rw [unp, unpE, hbad, h1, h2]
      exact rfl
    · intro h2
      have h2 : (!blkEq F [x0, x1, x2, x3, x4, x5, x6, x7, x8, x9, x10, x11, x12, x13, x14, x15]) = false := h2
      have e : unp [x0, x1, x2, x3, x4, x5, x6, x7, x8, x9, x10, x11, x12, x13, x14, x15] = F := by rw [unp, hbad, h1, h2]; rfl
      have e2 : unpE [x0, x1, x2, x3, x4, x5, x6, x7, x8, x9, x10, x11, x12, x13, x14, x15] = 0 := by rw [unpE, hbad, h1, h2]; rfl
      rw [e, e2, ← hF]
      repeat refine And.intro rfl ?_
      exact rfl

theorem c21 (x0 x1 x2 x3 x4 x5 x6 x7 x8 x9 x10 x11 x12 x13 x14 x15 : UInt8) : CallDet Tryz.prog 21 [.d (.agg ([x0, x1, x2, x3, x4, x5, x6, x7, x8, x9, x10, x11, x12, x13, x14, x15].map byt))] [(unp [x0, x1, x2, x3, x4, x5, x6, x7, x8, x9, x10, x11, x12, x13, x14, x15]).d, .int .i64 (unpE [x0, x1, x2, x3, x4, x5, x6, x7, x8, x9, x10, x11, x12, x13, x14, x15])] := by
  refine call_of_vc (x := ir21) (by kernel_rfl) rfl ?_
  have l3 := x3.toNat_lt
  refine And.intro ⟨by decide, by decide⟩ ?_
  refine And.intro rfl ?_
  refine brk_intro ?_ ?_
  · intro h
    have h : decide (12 < (x3.toNat : Int)) = true := h
    have e : unpBad [x0, x1, x2, x3, x4, x5, x6, x7, x8, x9, x10, x11, x12, x13, x14, x15] = true := by
      show (decide (12 < (x3.toNat : Int)) || _) = true
      rw [h]; rfl
    rw [unp, unpE, e]
    exact rfl
  intro h
  have h : decide (12 < (x3.toNat : Int)) = false := h
  have hx3 : x3.toNat ≤ 12 := by simp at h; omega
  refine And.intro ⟨by decide, by decide⟩ ?_
  refine Exists.intro _ (And.intro (i64_u8 x0) ?_)
  refine And.intro ⟨by decide, by decide⟩ ?_
  refine Exists.intro _ (And.intro (i64_u8 x1) ?_)
  refine And.intro ⟨by decide, by decide⟩ ?_
  refine Exists.intro _ (And.intro (i64_u8 x2) ?_)
  repeat refine And.intro rfl ?_
  refine And.intro ⟨by decide, by decide⟩ ?_
  refine Exists.intro _ (And.intro (i64_u8 x3) ?_)
  refine ar_add (by omega) ?_
  have hS : (0 : Int) ≤ 4 ∧ (4 : Int) ≤ 4 + (x3.toNat : Int) ∧ 4 + (x3.toNat : Int) ≤ 16 ∧ 0 + 16 ≤ ([x0, x1, x2, x3, x4, x5, x6, x7, x8, x9, x10, x11, x12, x13, x14, x15].map byt).length := by
    refine ⟨by omega, by omega, by omega, by simp⟩
  refine And.intro hS ?_
  let F : Fr := unpF [x0, x1, x2, x3, x4, x5, x6, x7, x8, x9, x10, x11, x12, x13, x14, x15]
  let S : List Data := (([x0, x1, x2, x3, x4, x5, x6, x7, x8, x9, x10, x11, x12, x13, x14, x15].map byt).drop (0 + (4 : Int).toNat)).take ((4 + (x3.toNat : Int)).toNat - (4 : Int).toNat)
  have hS2 : S = F.b.map byt := by
    show ([x4, x5, x6, x7, x8, x9, x10, x11, x12, x13, x14, x15].map byt).take ((4 + (x3.toNat : Int)).toNat - 4) = ([x4, x5, x6, x7, x8, x9, x10, x11, x12, x13, x14, x15].take x3.toNat).map byt
    rw [show (4 + (x3.toNat : Int)).toNat - 4 = x3.toNat by omega, List.map_take]
  have hl : S.length ≤ 12 := by rw [hS2]; simp [F, unpF]; omega
  repeat refine And.intro rfl ?_
  refine And.intro ⟨rfl, rfl, rfl, ?_, ?_⟩ ?_
  · show (0 + S.length) * 1 ≤ 2 ^ 47
    omega
  · show 0 + S.length ≤ 2 ^ 47
    omega
  repeat refine And.intro rfl ?_
  have hF : Data.agg [.int .i64 x0.toNat, .int .i64 x1.toNat, .int .i64 x2.toNat, .slice 1 S] = F.d := by rw [hS2]; rfl
  have hok : F.ok := by
    have := x2.toNat_lt
    show -9223372036854775808 ≤ (x2.toNat : Int) ∧ (x2.toNat : Int) ≤ 9223372036854775807
    omega
  have hbad : unpBad [x0, x1, x2, x3, x4, x5, x6, x7, x8, x9, x10, x11, x12, x13, x14, x15] = (F.check != 0 || !blkEq F [x0, x1, x2, x3, x4, x5, x6, x7, x8, x9, x10, x11, x12, x13, x14, x15]) := by
    show (decide (12 < (x3.toNat : Int)) || _) = _
    rw [h]; rfl
  refine Exists.intro [Data.int .i64 F.check] (And.intro (check_r _ F hF hok) ?_)
  refine And.intro rfl ?_
  refine brk_intro ?_ ?_
  · intro h1
    have h1 : (F.check != 0) = true := h1
    repeat refine And.intro rfl ?_
    rw [unp, unpE, hbad, h1]
    exact rfl
  · intro h1
    have h1 : (F.check != 0) = false := h1
    have hc : F.check = 0 := by simpa using h1
    repeat refine And.intro rfl ?_
    refine Exists.intro [Data.agg (blkC F)] (And.intro (packed_r _ F hF hc) ?_)
    refine Exists.intro (.bool (!blkEq F [x0, x1, x2, x3, x4, x5, x6, x7, x8, x9, x10, x11, x12, x13, x14, x15])) (And.intro ⟨_, rfl, rfl⟩ ?_)
    repeat refine And.intro rfl ?_
    refine brk_intro ?_ ?_
    · intro h2
      have h2 : (!blkEq F [x0, x1, x2, x3, x4, x5, x6, x7, x8, x9, x10, x11, x12, x13, x14, x15]) = true := h2
      rw [unp, unpE, hbad, h1, h2]
      exact rfl
    · intro h2
      have h2 : (!blkEq F [x0, x1, x2, x3, x4, x5, x6, x7, x8, x9, x10, x11, x12, x13, x14, x15]) = false := h2
      have e : unp [x0, x1, x2, x3, x4, x5, x6, x7, x8, x9, x10, x11, x12, x13, x14, x15] = F := by rw [unp, hbad, h1, h2]; rfl
      have e2 : unpE [x0, x1, x2, x3, x4, x5, x6, x7, x8, x9, x10, x11, x12, x13, x14, x15] = 0 := by rw [unpE, hbad, h1, h2]; rfl
      rw [e, e2, ← hF]
      repeat refine And.intro rfl ?_
      exact rfl
end Vc

namespace Vc
open Go Go.Proofs
/-! Joining, in plain Lean. -/
def clash (x y : Fr) : Bool := x.m != y.m || (x.n != y.n || (x.p == y.p && !(x.b == y.b)))
theorem clash_iff {x y : Fr} : clash x y = false ↔ x.m = y.m ∧ x.n = y.n ∧ (x.p = y.p → x.b = y.b) := by
  simp [clash]
def clean (t : List Fr) : Prop := ∀ x ∈ t, ∀ y ∈ t, clash x y = false
theorem clean_nil : clean [] := fun _ hx => absurd hx List.not_mem_nil
theorem clash_refl (x : Fr) : clash x x = false := clash_iff.2 ⟨rfl, rfl, fun _ => rfl⟩
theorem clash_symm {x y : Fr} (h : clash x y = false) : clash y x = false := by
  obtain ⟨h1, h2, h3⟩ := clash_iff.1 h
  exact clash_iff.2 ⟨h1.symm, h2.symm, fun e => (h3 e.symm).symm⟩
theorem take_one {α : Type} {l : List α} {k : Nat} {x : α} (h : l[k]? = some x) : l.take (k + 1) = l.take k ++ [x] := by
  rw [List.take_add_one, h]; rfl
theorem clean_snoc {t : List Fr} {x : Fr} (h : clean t) (hx : ∀ y ∈ t, clash x y = false) : clean (t ++ [x]) := by
  intro a ha b hb
  rcases List.mem_append.1 ha with h1 | h1 <;> rcases List.mem_append.1 hb with h2 | h2
  · exact h a h1 b h2
  · rw [List.mem_singleton.1 h2]; exact clash_symm (hx a h1)
  · rw [List.mem_singleton.1 h1]; exact hx b h2
  · rw [List.mem_singleton.1 h1, List.mem_singleton.1 h2]; exact clash_refl _
theorem clean_get {l : List Fr} {i k : Nat} {x y : Fr} (hx : l[i]? = some x) (hy : l[k]? = some y) (hc : clash x y = true) : ¬ clean l := by
  intro h
  rw [h x (List.mem_of_getElem? hx) y (List.mem_of_getElem? hy)] at hc
  cases hc
theorem mem_take_get {α : Type} {l : List α} {k : Nat} {y : α} (h : y ∈ l.take k) : ∃ j, j < k ∧ l[j]? = some y := by
  obtain ⟨j, hj⟩ := List.getElem?_of_mem h
  rw [List.getElem?_take] at hj
  by_cases e : j < k
  · rw [if_pos e] at hj; exact ⟨j, e, hj⟩
  · rw [if_neg e] at hj; cases hj
theorem mem_take {α : Type} {l : List α} {k j : Nat} {y : α} (h : l[j]? = some y) (hj : j < k) : y ∈ l.take k :=
  List.mem_of_getElem? (i := j) (by rw [List.getElem?_take, if_pos hj]; exact h)

def findP (l : List Fr) (q : Int) : Option Fr := l.find? fun f => f.p == q
def joinUpto (l : List Fr) : Nat → Option (List UInt8)
  | 0 => some []
  | q + 1 => match joinUpto l q, findP l q with
    | some a, some f => some (a ++ f.b)
    | _, _ => none
theorem joinUpto_none {l : List Fr} {q : Nat} (h : findP l q = none) : ∀ {n : Nat}, q < n → joinUpto l n = none
  | 0, hn => absurd hn (by omega)
  | n + 1, hn => by
    by_cases e : q = n
    · subst e
      simp only [joinUpto, h]
      cases joinUpto l q <;> rfl
    · simp only [joinUpto, joinUpto_none h (show q < n by omega)]
open Classical in
noncomputable def joinR (l : List Fr) : List UInt8 × Int := match l with
  | [] => ([], 12)
  | f :: _ => if clean l then (match joinUpto l f.n.toNat with | some a => (a, 0) | none => ([], 16)) else ([], 24)
theorem joinR_clash {l : List Fr} (h : ¬ clean l) : joinR l = ([], 24) := by
  cases l with
  | nil => exact absurd clean_nil h
  | cons f r => simp only [joinR, if_neg h]
theorem joinR_some {l : List Fr} {f : Fr} {a : List UInt8} (hf : l[0]? = some f) (h : clean l) (ha : joinUpto l f.n.toNat = some a) : joinR l = (a, 0) := by
  cases l with
  | nil => cases hf
  | cons g r => cases hf; simp only [joinR, if_pos h, ha]
theorem joinR_none {l : List Fr} {f : Fr} (hf : l[0]? = some f) (h : clean l) (ha : joinUpto l f.n.toNat = none) : joinR l = ([], 16) := by
  cases l with
  | nil => cases hf
  | cons g r => cases hf; simp only [joinR, if_pos h, ha]

def lastP (t : List Fr) (q : Int) : Option Fr := t.reverse.find? fun f => f.p == q
theorem lastP_snoc (t : List Fr) (f : Fr) (q : Int) : lastP (t ++ [f]) q = if f.p = q then some f else lastP t q := by
  rw [lastP, List.reverse_append]
  simp only [List.reverse_cons, List.reverse_nil, List.nil_append, List.cons_append, List.find?_cons]
  by_cases e : f.p = q
  · simp [e]
  · rw [show (f.p == q) = false by simpa using e, if_neg e]; rfl
theorem lastP_mem {t : List Fr} {q : Int} {f : Fr} (h : lastP t q = some f) : f ∈ t ∧ f.p = q :=
  ⟨List.mem_reverse.1 (List.mem_of_find?_eq_some h), by simpa using List.find?_some h⟩
theorem lastP_none {t : List Fr} {q : Int} (h : lastP t q = none) : ∀ y ∈ t, y.p ≠ q := fun y hy => by
  have := List.find?_eq_none.1 h y (List.mem_reverse.2 hy)
  simpa using this
theorem findP_mem {t : List Fr} {q : Int} {f : Fr} (h : findP t q = some f) : f ∈ t ∧ f.p = q :=
  ⟨List.mem_of_find?_eq_some h, by simpa using List.find?_some h⟩
theorem findP_none {t : List Fr} {q : Int} (h : findP t q = none) : ∀ y ∈ t, y.p ≠ q := fun y hy => by
  have := List.find?_eq_none.1 h y hy
  simpa using this
theorem findP_snoc (t : List Fr) (f : Fr) (q : Int) : findP (t ++ [f]) q = match findP t q with | some g => some g | none => if f.p = q then some f else none := by
  rw [findP, List.find?_append]
  show (findP t q).or _ = _
  cases findP t q with
  | some g => rfl
  | none =>
    by_cases e : f.p = q <;> simp [e]
/-- what the map holds at a part is what the search finds -/
theorem last_find {t : List Fr} (h : clean t) (q : Int) : (lastP t q).map Fr.b = (findP t q).map Fr.b := by
  cases h1 : lastP t q with
  | none =>
    cases h2 : findP t q with
    | none => rfl
    | some g => exact absurd (findP_mem h2).2 (lastP_none h1 g (findP_mem h2).1)
  | some f =>
    obtain ⟨f1, f2⟩ := lastP_mem h1
    cases h2 : findP t q with
    | none => exact absurd f2 (findP_none h2 f f1)
    | some g =>
      obtain ⟨g1, g2⟩ := findP_mem h2
      exact congrArg some ((clash_iff.1 (h f f1 g g1)).2.2 (f2.trans g2.symm))

theorem keys_put {p : Int} {v : Data} : ∀ {es : List (Data × Data)}, keysOk (some .i64) es = true → keysOk (some .i64) (putM (.int .i64 p) v es) = true
  | [], _ => rfl
  | (k, w) :: r, h => by
    simp only [keysOk, Bool.and_eq_true] at h
    simp only [putM]
    cases dEq (.int .i64 p) k
    · simp only [keysOk, h.1, keys_put h.2]; rfl
    · simp only [keysOk, h.2]; rfl
theorem find_put {p q : Int} {v : Data} : ∀ {es : List (Data × Data)}, keysOk (some .i64) es = true → findM (.int .i64 q) (putM (.int .i64 p) v es) = if p = q then some v else findM (.int .i64 q) es
  | [], _ => by
    simp only [putM, findM, dEq]
    by_cases e : p = q
    · subst e; simp
    · rw [show (q == p) = false by simpa using fun h => e h.symm, if_neg e]
  | (k, w) :: r, h => by
    simp only [keysOk, Bool.and_eq_true] at h
    obtain ⟨k', a, rfl⟩ : ∃ k' a, k = .int k' a := by
      cases k <;> simp [keyD] at h
      exact ⟨_, _, rfl⟩
    simp only [putM, dEq]
    by_cases e : p = a
    · subst e
      simp only [BEq.rfl, findM, dEq]
      by_cases e2 : q = p
      · subst e2; simp
      · rw [show (q == p) = false by simpa using e2, if_neg fun h => e2 h.symm]
    · rw [show (p == a) = false by simpa using e]
      simp only [findM, dEq, find_put h.2]
      by_cases e2 : q = a
      · subst e2; simp [e]
      · rw [show (q == a) = false by simpa using e2]

theorem firstOf_zero : ∀ {es : List Int}, firstOf es = 0 → ∀ e ∈ es, e = 0
  | [], _, e, he => absurd he List.not_mem_nil
  | x :: r, h, e, he => by
    simp only [firstOf] at h
    cases hx : x != 0
    · rw [hx] at h
      rcases List.mem_cons.1 he with rfl | he
      · simpa using hx
      · exact firstOf_zero h e he
    · rw [hx] at h
      have h : x = 0 := h
      subst h
      cases hx
theorem checks_zero {l : List Fr} (h : checkFrames l = 0) : l.length ≤ 64 ∧ ∀ f ∈ l, f.check = 0 := by
  unfold checkFrames at h
  cases h1 : decide ((64 : Int) < (l.length : Int)) <;> rw [h1] at h
  · refine ⟨by simp at h1; omega, fun f hf => ?_⟩
    exact firstOf_zero h _ (List.mem_map_of_mem hf)
  · cases h
end Vc

set_option maxRecDepth 10000
namespace Vc
open Go Go.Proofs
/-- kilovar/kilovarref04.Joined -/
def ir20 : AFun := ⟨110, 1, [.tmp 2, .tmp 3],
 (.seq
 (.reg [] [⟨some 2, .mov (.cst (.nils 1)), none⟩,
 ⟨some 3, .mov (.cst (.d (.int .i64 0))), none⟩])
 (.seq
 (.seq
 (.reg [] [⟨some 10, .mov (.tmp 0), none⟩,
 ⟨some 11, .len (.tmp 10), none⟩,
 ⟨some 12, .cmp .eql (.tmp 11) (.cst (.d (.int .i64 0))), none⟩])
 (.cond (.tmp 12)
 (.seq
 (.reg [] [⟨some 2, .mov (.cst (.nils 1)), none⟩,
 ⟨some 3, .mov (.cst (.d (.int .i64 12))), none⟩])
 .ret)
 .skip))
 (.seq
 (.seq
 (.reg [] [⟨some 4, .mov (.cst (.d (.int .i64 0))), none⟩])
 (.post [0] []
 (.block 0
 (.keep [0, 4] []
 (.loop
 (.post [0, 4] []
 (.seq
 (.seq
 (.reg [] [⟨some 13, .mov (.tmp 4), none⟩,
 ⟨some 14, .mov (.tmp 0), none⟩,
 ⟨some 15, .len (.tmp 14), none⟩,
 ⟨some 16, .cmp .lss (.tmp 13) (.tmp 15), none⟩])
 (.cond (.tmp 16)
 .skip
 (.exit 0)))
 (.seq
 (.block 1
 (.seq
 (.reg [] [⟨some 5, .mov (.cst (.d (.int .i64 0))), none⟩])
 (.post [0, 4] []
 (.block 2
 (.keep [0, 4, 5] []
 (.loop
 (.post [0, 4, 5] []
 (.seq
 (.seq
 (.reg [] [⟨some 19, .mov (.tmp 5), none⟩,
 ⟨some 20, .mov (.tmp 4), none⟩,
 ⟨some 21, .cmp .lss (.tmp 19) (.tmp 20), none⟩])
 (.cond (.tmp 21)
 .skip
 (.exit 2)))
 (.seq
 (.block 3
 (.seq
 (.regd [] [⟨some 24, .mov (.tmp 0), none⟩,
 ⟨some 25, .mov (.tmp 4), none⟩,
 ⟨some 26, .ixa 4 (.tmp 24) (.tmp 25), none⟩,
 ⟨some 27, .fad 0 (.tmp 26), none⟩,
 ⟨some 28, .ld false 1 (.tmp 27), none⟩,
 ⟨some 29, .mov (.tmp 0), none⟩,
 ⟨some 30, .mov (.tmp 5), none⟩,
 ⟨some 31, .ixa 4 (.tmp 29) (.tmp 30), none⟩,
 ⟨some 32, .fad 0 (.tmp 31), none⟩,
 ⟨some 33, .ld false 1 (.tmp 32), none⟩,
 ⟨some 34, .cmp .neq (.tmp 28) (.tmp 33), none⟩,
 ⟨some 35, .mov (.tmp 34), none⟩,
 ⟨some 36, .mov (.tmp 0), some (35, false)⟩,
 ⟨some 37, .mov (.tmp 4), some (35, false)⟩,
 ⟨some 38, .ixa 4 (.tmp 36) (.tmp 37), some (35, false)⟩,
 ⟨some 39, .fad 2 (.tmp 38), some (35, false)⟩,
 ⟨some 40, .ld false 1 (.tmp 39), some (35, false)⟩,
 ⟨some 41, .mov (.tmp 0), some (35, false)⟩,
 ⟨some 42, .mov (.tmp 5), some (35, false)⟩,
 ⟨some 43, .ixa 4 (.tmp 41) (.tmp 42), some (35, false)⟩,
 ⟨some 44, .fad 2 (.tmp 43), some (35, false)⟩,
 ⟨some 45, .ld false 1 (.tmp 44), some (35, false)⟩,
 ⟨some 46, .cmp .neq (.tmp 40) (.tmp 45), some (35, false)⟩,
 ⟨some 47, .pick (.tmp 35) (.cst (.d (.bool true))) (.tmp 46), none⟩,
 ⟨some 48, .mov (.tmp 47), none⟩,
 ⟨some 49, .mov (.tmp 0), some (48, false)⟩,
 ⟨some 50, .mov (.tmp 4), some (48, false)⟩,
 ⟨some 51, .ixa 4 (.tmp 49) (.tmp 50), some (48, false)⟩,
 ⟨some 52, .fad 1 (.tmp 51), some (48, false)⟩,
 ⟨some 53, .ld false 1 (.tmp 52), some (48, false)⟩,
 ⟨some 54, .mov (.tmp 0), some (48, false)⟩,
 ⟨some 55, .mov (.tmp 5), some (48, false)⟩,
 ⟨some 56, .ixa 4 (.tmp 54) (.tmp 55), some (48, false)⟩,
 ⟨some 57, .fad 1 (.tmp 56), some (48, false)⟩,
 ⟨some 58, .ld false 1 (.tmp 57), some (48, false)⟩,
 ⟨some 59, .cmp .eql (.tmp 53) (.tmp 58), some (48, false)⟩,
 ⟨some 60, .mov (.tmp 59), some (48, false)⟩,
 ⟨some 61, .mov (.tmp 0), some (60, true)⟩,
 ⟨some 62, .mov (.tmp 4), some (60, true)⟩,
 ⟨some 63, .ixa 4 (.tmp 61) (.tmp 62), some (60, true)⟩,
 ⟨some 64, .fad 3 (.tmp 63), some (60, true)⟩,
 ⟨some 65, .ld false 1 (.tmp 64), some (60, true)⟩,
 ⟨some 66, .mov (.tmp 0), some (60, true)⟩,
 ⟨some 67, .mov (.tmp 5), some (60, true)⟩,
 ⟨some 68, .ixa 4 (.tmp 66) (.tmp 67), some (60, true)⟩,
 ⟨some 69, .fad 3 (.tmp 68), some (60, true)⟩,
 ⟨some 70, .ld false 1 (.tmp 69), some (60, true)⟩,
 ⟨some 71, .call 24 [(.tmp 65), (.tmp 70)], some (60, true)⟩,
 ⟨some 72, .not (.tmp 71), some (60, true)⟩,
 ⟨some 73, .pick (.tmp 60) (.tmp 72) (.cst (.d (.bool false))), some (48, false)⟩,
 ⟨some 74, .pick (.tmp 48) (.cst (.d (.bool true))) (.tmp 73), none⟩] [(0, 1), (0, 5), (1, 5), (2, 5), (3, 5), (4, 5), (0, 6), (1, 6), (2, 6), (3, 6), (4, 6), (5, 6), (0, 7), (1, 7), (2, 7), (3, 7), (4, 7), (0, 8), (1, 8), (2, 8), (3, 8), (4, 8), (0, 9), (1, 9), (2, 9), (3, 9), (4, 9), (12, 13), (12, 17), (13, 17), (14, 17), (15, 17), (16, 17), (12, 18), (13, 18), (14, 18), (15, 18), (16, 18), (17, 18), (12, 19), (13, 19), (14, 19), (15, 19), (16, 19), (12, 20), (13, 20), (14, 20), (15, 20), (16, 20), (12, 21), (13, 21), (14, 21), (15, 21), (16, 21), (25, 26), (25, 30), (26, 30), (27, 30), (28, 30), (29, 30), (25, 31), (26, 31), (27, 31), (28, 31), (29, 31), (30, 31), (25, 32), (26, 32), (27, 32), (28, 32), (29, 32), (25, 33), (26, 33), (27, 33), (28, 33), (29, 33), (25, 34), (26, 34), (27, 34), (28, 34), (29, 34), (37, 38), (37, 42), (38, 42), (39, 42), (40, 42), (41, 42), (37, 43), (38, 43), (39, 43), (40, 43), (41, 43), (42, 43), (37, 44), (38, 44), (39, 44), (40, 44), (41, 44), (37, 45), (38, 45), (39, 45), (40, 45), (41, 45), (37, 46), (38, 46), (39, 46), (40, 46), (41, 46)])
 (.cond (.tmp 74)
 (.seq
 (.reg [] [⟨some 2, .mov (.cst (.nils 1)), none⟩,
 ⟨some 3, .mov (.cst (.d (.int .i64 24))), none⟩])
 .ret)
 .skip)))
 (.reg [] [⟨some 22, .mov (.tmp 5), none⟩,
 ⟨some 23, .arith .add .i64 (.tmp 22) (.cst (.d (.int .i64 1))), none⟩,
 ⟨some 5, .mov (.tmp 23), none⟩]))))))))))
 (.reg [] [⟨some 17, .mov (.tmp 4), none⟩,
 ⟨some 18, .arith .add .i64 (.tmp 17) (.cst (.d (.int .i64 1))), none⟩,
 ⟨some 4, .mov (.tmp 18), none⟩])))))))))
 (.seq
 (.reg [] [⟨some 6, .mov (.cst (.nils 1)), none⟩])
 (.seq
 (.seq
 (.reg [] [⟨some 7, .mov (.cst (.d (.int .i64 0))), none⟩])
 (.post [6] [0]
 (.block 4
 (.asrow 0 5 1 6
 (.keep [0, 6, 7] []
 (.loop
 (.post [0, 6, 7] [0]
 (.seq
 (.seq
 (.reg [] [⟨some 75, .mov (.tmp 7), none⟩,
 ⟨some 76, .mov (.tmp 0), none⟩,
 ⟨some 77, .ixa 4 (.tmp 76) (.cst (.d (.int .i64 0))), none⟩,
 ⟨some 78, .fad 2 (.tmp 77), none⟩,
 ⟨some 79, .ld false 1 (.tmp 78), none⟩,
 ⟨some 80, .cmp .lss (.tmp 75) (.tmp 79), none⟩])
 (.cond (.tmp 80)
 .skip
 (.exit 4)))
 (.seq
 (.block 5
 (.seq
 (.reg [] [⟨some 8, .mov (.cst (.d (.bool false))), none⟩])
 (.seq
 (.seq
 (.reg [] [⟨some 9, .mov (.cst (.d (.int .i64 0))), none⟩])
 (.post [0, 6, 7, 8] [0]
 (.block 6
 (.asrow 0 5 1 6
 (.keep [0, 6, 7, 8, 9] []
 (.loop
 (.post [0, 6, 7, 8, 9] [0]
 (.seq
 (.seq
 (.reg [] [⟨some 83, .mov (.tmp 9), none⟩,
 ⟨some 84, .mov (.tmp 0), none⟩,
 ⟨some 85, .len (.tmp 84), none⟩,
 ⟨some 86, .cmp .lss (.tmp 83) (.tmp 85), none⟩])
 (.cond (.tmp 86)
 .skip
 (.exit 6)))
 (.seq
 (.block 7
 (.seq
 (.reg [] [⟨some 89, .mov (.tmp 0), none⟩,
 ⟨some 90, .mov (.tmp 9), none⟩,
 ⟨some 91, .ixa 4 (.tmp 89) (.tmp 90), none⟩,
 ⟨some 92, .fad 1 (.tmp 91), none⟩,
 ⟨some 93, .ld false 1 (.tmp 92), none⟩,
 ⟨some 94, .mov (.tmp 7), none⟩,
 ⟨some 95, .cmp .eql (.tmp 93) (.tmp 94), none⟩,
 ⟨some 96, .mov (.tmp 95), none⟩,
 ⟨some 97, .mov (.tmp 8), some (96, true)⟩,
 ⟨some 98, .not (.tmp 97), some (96, true)⟩,
 ⟨some 99, .pick (.tmp 96) (.tmp 98) (.cst (.d (.bool false))), none⟩])
 (.cond (.tmp 99)
 (.reg [0] [⟨some 100, .mov (.tmp 6), none⟩,
 ⟨some 101, .mov (.tmp 0), none⟩,
 ⟨some 102, .mov (.tmp 9), none⟩,
 ⟨some 103, .ixa 4 (.tmp 101) (.tmp 102), none⟩,
 ⟨some 104, .fad 3 (.tmp 103), none⟩,
 ⟨some 105, .ld false 1 (.tmp 104), none⟩,
 ⟨some 106, .app 0 5 1 1 (.tmp 100) (.tmp 105), none⟩,
 ⟨some 6, .mov (.tmp 106), none⟩,
 ⟨some 8, .mov (.cst (.d (.bool true))), none⟩])
 .skip)))
 (.reg [] [⟨some 87, .mov (.tmp 9), none⟩,
 ⟨some 88, .arith .add .i64 (.tmp 87) (.cst (.d (.int .i64 1))), none⟩,
 ⟨some 9, .mov (.tmp 88), none⟩]))))))))))
 (.seq
 (.reg [] [⟨some 107, .mov (.tmp 8), none⟩,
 ⟨some 108, .not (.tmp 107), none⟩])
 (.cond (.tmp 108)
 (.seq
 (.reg [] [⟨some 2, .mov (.cst (.nils 1)), none⟩,
 ⟨some 3, .mov (.cst (.d (.int .i64 16))), none⟩])
 .ret)
 .skip)))))
 (.reg [] [⟨some 81, .mov (.tmp 7), none⟩,
 ⟨some 82, .arith .add .i64 (.tmp 81) (.cst (.d (.int .i64 1))), none⟩,
 ⟨some 7, .mov (.tmp 82), none⟩]))))))))))
 (.seq
 (.reg [] [⟨some 109, .mov (.tmp 6), none⟩,
 ⟨some 2, .mov (.tmp 109), none⟩,
 ⟨some 3, .mov (.cst (.d (.int .i64 0))), none⟩])
 .ret))))))⟩


theorem check_fr {f : Fr} (h : f.check = 0) : (0 ≤ f.m ∧ f.m ≤ 255) ∧ (1 ≤ f.n ∧ f.n ≤ 64) ∧ (0 ≤ f.p ∧ f.p ≤ f.n - 1) ∧ f.b.length ≤ 12 := check_zero h
theorem jr {l : List Fr} {p : List UInt8 × Int} (h : joinR l = p) : resV [.slice 1 (p.1.map byt), .int .i64 p.2] = resV [.slice 1 ((joinR l).1.map byt), .int .i64 (joinR l).2] := by rw [h]
theorem jr' {l : List Fr} {b : List UInt8} {acc : List Data} (h : joinR l = (b, 0)) (hb : acc = b.map byt) : resV [.slice 1 acc, .int .i64 0] = resV [.slice 1 ((joinR l).1.map byt), .int .i64 (joinR l).2] := by rw [h, hb]
theorem c20 (l : List Fr) (h0 : checkFrames l = 0) : CallDet Tryz.prog 20 [.d (.slice 4 (frs l))] [.slice 1 ((joinR l).1.map byt), .int .i64 (joinR l).2] := by
  obtain ⟨hl, hc⟩ := checks_zero h0
  have hlen := frs_len l
  refine call_of_vc (x := ir20) (by kernel_rfl) rfl ?_
  refine And.intro rfl ?_
  refine brk_intro ?_ ?_
  · intro h
    have h : (((frs l).length : Int) == 0) = true := h
    have e : l = [] := List.eq_nil_of_length_eq_zero (by have := eq_of_beq h; omega)
    subst e
    exact rfl
  intro h
  have h : (((frs l).length : Int) == 0) = false := h
  have hpos : 0 < l.length := by have := ne_of_beq_false h; omega
  obtain ⟨f0, hf0⟩ : ∃ f, l[0]? = some f := ⟨_, List.getElem?_eq_getElem hpos⟩
  have hd0 : (frs l)[(0 : Int).toNat]? = some f0.d := by simp [frs, hf0]
  have hn0 : 1 ≤ f0.n ∧ f0.n ≤ 64 := by
    have := check_fr (hc f0 (List.mem_of_getElem? hf0)); omega
  refine loop_st (fun k : Nat => ⟨[(0, .d (.slice 4 (frs l))), (4, .d (.int .i64 k))], [.none]⟩)
    (fun k => clean (l.take k) ∧ k ≤ l.length) (fun k => l.length - k) 0 rfl ⟨clean_nil, Nat.zero_le _⟩ ?_
  rintro i ⟨hi, hil⟩
  refine And.intro rfl ?_
  refine brk_intro ?_ ?_
  · intro h
    have h : (i : Int) < (frs l).length := of_decide_eq_true h
    refine Exists.elim (⟨_, List.getElem?_eq_getElem (by omega)⟩ : ∃ x, l[i]? = some x) fun x hx => ?_
    have hdx : (frs l)[(i : Int).toNat]? = some x.d := by simp [frs, hx]
    refine loop_st (fun k : Nat => ⟨[(0, .d (.slice 4 (frs l))), (4, .d (.int .i64 i)), (5, .d (.int .i64 k))], [.none]⟩)
      (fun k => (∀ y ∈ l.take k, clash x y = false) ∧ k ≤ i) (fun k => i - k) 0 rfl ⟨fun y hy => (by simp at hy), Nat.zero_le _⟩ ?_
    rintro k ⟨hk, hki⟩
    refine And.intro rfl ?_
    refine brk_intro ?_ ?_
    · intro h2
      have h2 : (k : Int) < (i : Int) := of_decide_eq_true h2
      refine Exists.elim (⟨_, List.getElem?_eq_getElem (by omega)⟩ : ∃ y, l[k]? = some y) fun y hy => ?_
      have hdy : (frs l)[(k : Int).toNat]? = some y.d := by simp [frs, hy]
      have bad : ∀ (hcl : clash x y = true), joinR l = ([], 24) := fun hcl => joinR_clash (clean_get hx hy hcl)
      have good : ∀ (hcl : clash x y = false), (∀ z ∈ l.take (k + 1), clash x z = false) ∧ k + 1 ≤ i := fun hcl => by
        refine ⟨fun z hz => ?_, by omega⟩
        rw [take_one hy] at hz
        rcases List.mem_append.1 hz with hz | hz
        · exact hk z hz
        · rw [List.mem_singleton.1 hz]; exact hcl
      refine ix_at hdx (by omega) ?_
      refine ix_at hdy (by omega) ?_
      refine And.intro rfl ?_
      refine brk_intro ?_ ?_
      · intro h3
        have h3 : (x.m != y.m) = true := h3
        repeat refine And.intro rfl ?_
        exact jr (bad (by simp only [clash, h3]; rfl))
      intro h3
      have h3 : (x.m != y.m) = false := h3
      refine ix_at hdx (by omega) ?_
      refine ix_at hdy (by omega) ?_
      refine And.intro rfl ?_
      repeat refine And.intro rfl ?_
      refine brk_intro ?_ ?_
      · intro h4
        have h4 : (x.n != y.n) = true := h4
        repeat refine And.intro rfl ?_
        exact jr (bad (by simp only [clash, h4, Bool.true_or, Bool.or_true]))
      intro h4
      have h4 : (x.n != y.n) = false := h4
      refine ix_at hdx (by omega) ?_
      refine ix_at hdy (by omega) ?_
      refine And.intro rfl ?_
      refine brk_intro ?_ ?_
      · intro h5
        have h5 : (x.p == y.p) = true := h5
        refine ix_at hdx (by omega) ?_
        refine ix_at hdy (by omega) ?_
        refine Exists.intro _ (And.intro (c24 x.b y.b) ?_)
        repeat refine And.intro rfl ?_
        have ecl : clash x y = !(x.b == y.b) := by simp only [clash, h3, h4, h5, Bool.false_or, Bool.true_and]
        refine brk_intro ?_ ?_
        · intro h6
          have h6 : (!(x.b == y.b)) = true := h6
          exact jr (bad (ecl.trans h6))
        · intro h6
          have h6 : (!(x.b == y.b)) = false := h6
          refine ar_add (by omega) ?_
          exact ⟨k + 1, ⟨good (ecl.trans h6), by omega⟩, rfl⟩
      · intro h5
        have h5 : (x.p == y.p) = false := h5
        repeat refine And.intro rfl ?_
        have ecl : clash x y = false := by simp only [clash, h3, h4, h5, Bool.false_or, Bool.false_and]
        refine ar_add (by omega) ?_
        exact ⟨k + 1, ⟨good ecl, by omega⟩, rfl⟩
    · intro h2
      have h2 : ¬ (k : Int) < (i : Int) := of_decide_eq_false h2
      have e : k = i := by omega
      have hn : clean (l.take (i + 1)) := by
        rw [take_one hx]
        exact clean_snoc hi (e ▸ hk)
      refine ar_add (by omega) ?_
      exact ⟨i + 1, ⟨⟨hn, by omega⟩, by omega⟩, rfl⟩
  · intro h
    have h : ¬ (i : Int) < (frs l).length := of_decide_eq_false h
    have hcl : clean l := by rw [List.take_of_length_le (by omega)] at hi; exact hi
    refine loop_st (fun a : Nat × List Data => ⟨[(0, .d (.slice 4 (frs l))), (6, .sl 0 a.2.length), (7, .d (.int .i64 a.1))], [.row 5 1 a.2 false]⟩)
      (fun a => (∃ b, joinUpto l a.1 = some b ∧ a.2 = b.map byt ∧ b.length ≤ 12 * a.1) ∧ (a.1 : Int) ≤ f0.n) (fun a => f0.n.toNat - a.1) (0, []) rfl ⟨⟨[], rfl, rfl, by simp⟩, by show ((0 : Nat) : Int) ≤ _; omega⟩ ?_
    rintro ⟨q, acc⟩ ⟨⟨b, hb1, hb2, hb3⟩, hq⟩
    have hb1 : joinUpto l q = some b := hb1
    have hb2 : acc = b.map byt := hb2
    have hb3 : b.length ≤ 12 * q := hb3
    have hq : (q : Int) ≤ f0.n := hq
    have hal : acc.length = b.length := by rw [hb2]; simp
    refine ix_at hd0 (by decide) ?_
    refine And.intro rfl ?_
    refine brk_intro ?_ ?_
    · intro h
      have h : (q : Int) < f0.n := of_decide_eq_true h
      refine loop_st (fun a : Nat × Bool × List Data => ⟨[(0, .d (.slice 4 (frs l))), (6, .sl 0 a.2.2.length), (7, .d (.int .i64 q)), (8, .d (.bool a.2.1)), (9, .d (.int .i64 a.1))], [.row 5 1 a.2.2 false]⟩)
        (fun a => (a.2.1 = (findP (l.take a.1) q).isSome ∧ a.2.2 = acc ++ (match findP (l.take a.1) q with | some f => f.b.map byt | none => [])) ∧ a.1 ≤ l.length) (fun a => l.length - a.1) (0, false, acc) rfl ⟨⟨rfl, by simp [findP]⟩, Nat.zero_le _⟩ ?_
      rintro ⟨i, fo, ac⟩ ⟨⟨h1, h2⟩, h3⟩
      have h1 : fo = (findP (l.take i) q).isSome := h1
      have h2 : ac = acc ++ (match findP (l.take i) q with | some f => f.b.map byt | none => []) := h2
      have h3 : i ≤ l.length := h3
      refine And.intro rfl ?_
      refine brk_intro ?_ ?_
      · intro h
        have h : (i : Int) < (frs l).length := of_decide_eq_true h
        refine Exists.elim (⟨_, List.getElem?_eq_getElem (by omega)⟩ : ∃ x, l[i]? = some x) fun x hx => ?_
        have hdx : (frs l)[(i : Int).toNat]? = some x.d := by simp [frs, hx]
        have hfs := findP_snoc (l.take i) x q
        rw [← take_one hx] at hfs
        refine ix_at hdx (by omega) ?_
        refine And.intro rfl ?_
        refine brk_intro ?_ ?_
        · intro h4
          have h4 : (x.p == (q : Int)) = true := h4
          have h4' : x.p = q := by simpa using h4
          refine brk_intro ?_ ?_
          · intro h5
            have h5 : (!fo) = true := h5
            have h6 : findP (l.take i) q = none := by
              cases hh : findP (l.take i) q with
              | none => rfl
              | some g => rw [hh] at h1; rw [h1] at h5; cases h5
            have h7 : ac = acc := by rw [h2, h6]; simp
            refine ix_at hdx (by omega) ?_
            have hxb : x.b.length ≤ 12 := (check_fr (hc x (List.mem_of_getElem? hx))).2.2.2
            repeat refine And.intro rfl ?_
            refine And.intro ⟨rfl, rfl, rfl, ?_, ?_⟩ ?_
            · show (ac.length + (x.b.map byt).length) * 1 ≤ 2 ^ 47
              rw [h7, hal, List.length_map]; omega
            · show ac.length + (x.b.map byt).length ≤ 2 ^ 47
              rw [h7, hal, List.length_map]; omega
            refine ar_add (by omega) ?_
            refine ⟨(i + 1, true, ac ++ x.b.map byt), ⟨⟨⟨?_, ?_⟩, by show i + 1 ≤ l.length; omega⟩, by show l.length - (i + 1) < l.length - i; omega⟩, rfl⟩
            · show true = (findP (l.take (i + 1)) q).isSome
              rw [hfs, h6]; simp [h4']
            · show ac ++ x.b.map byt = acc ++ _
              rw [hfs, h6, h7]; simp [h4']
          · intro h5
            have h5 : (!fo) = false := h5
            refine Exists.elim (show ∃ g, findP (l.take i) q = some g by
              cases hh : findP (l.take i) q with
              | none => rw [hh] at h1; rw [h1] at h5; cases h5
              | some g => exact ⟨g, rfl⟩) fun g h6 => ?_
            refine ar_add (by omega) ?_
            refine ⟨(i + 1, fo, ac), ⟨⟨⟨?_, ?_⟩, by show i + 1 ≤ l.length; omega⟩, by show l.length - (i + 1) < l.length - i; omega⟩, rfl⟩
            · show fo = (findP (l.take (i + 1)) q).isSome
              rw [hfs, h1, h6]
            · show ac = acc ++ _
              rw [hfs, h2, h6]
        · intro h4
          have h4 : (x.p == (q : Int)) = false := h4
          have h4' : ¬ x.p = q := by simpa using h4
          repeat refine And.intro rfl ?_
          refine ar_add (by omega) ?_
          have h8 : findP (l.take (i + 1)) q = findP (l.take i) q := by
            rw [hfs, if_neg h4']
            cases findP (l.take i) q <;> rfl
          refine ⟨(i + 1, fo, ac), ⟨⟨⟨?_, ?_⟩, by show i + 1 ≤ l.length; omega⟩, by show l.length - (i + 1) < l.length - i; omega⟩, rfl⟩
          · show fo = (findP (l.take (i + 1)) q).isSome
            rw [h8, h1]
          · show ac = acc ++ _
            rw [h8, h2]
      · intro h
        have h : ¬ (i : Int) < (frs l).length := of_decide_eq_false h
        have ht : l.take i = l := List.take_of_length_le (by omega)
        rw [ht] at h1 h2
        refine brk_intro ?_ ?_
        · intro h4
          have h4 : (!fo) = true := h4
          have h6 : findP l q = none := by
            cases hh : findP l q with
            | none => rfl
            | some g => rw [hh] at h1; rw [h1] at h4; cases h4
          exact jr (joinR_none hf0 hcl (joinUpto_none h6 (by omega)))
        · intro h4
          have h4 : (!fo) = false := h4
          refine Exists.elim (show ∃ g, findP l q = some g by
            cases hh : findP l q with
            | none => rw [hh] at h1; rw [h1] at h4; cases h4
            | some g => exact ⟨g, rfl⟩) fun g h6 => ?_
          have hgb : g.b.length ≤ 12 := (check_fr (hc g (findP_mem h6).1)).2.2.2
          refine ar_add (by omega) ?_
          refine ⟨(q + 1, ac), ⟨⟨⟨b ++ g.b, ?_, ?_, ?_⟩, by show ((q + 1 : Nat) : Int) ≤ _; omega⟩, by show f0.n.toNat - (q + 1) < f0.n.toNat - q; omega⟩, rfl⟩
          · show joinUpto l (q + 1) = _
            simp only [joinUpto, hb1, h6]
          · show ac = _
            rw [h2, h6, hb2]; simp
          · show (b ++ g.b).length ≤ 12 * (q + 1)
            simp; omega
    · intro h
      have h : ¬ (q : Int) < f0.n := of_decide_eq_false h
      have e : f0.n.toNat = q := by omega
      repeat refine And.intro rfl ?_
      exact jr' (joinR_some hf0 hcl (e ▸ hb1)) hb2
end Vc

set_option maxRecDepth 10000
namespace Vc
open Go Go.Proofs
/-- kilovar/link.Joined -/
def ir14 : AFun := ⟨95, 6, [.tmp 2, .tmp 3],
 (.seq
 (.reg [] [⟨some 2, .mov (.cst (.nils 1)), none⟩,
 ⟨some 3, .mov (.cst (.d (.int .i64 0))), none⟩])
 (.scope
 (.seq
 (.seq
 (.reg [0] [⟨some 15, .mov (.tmp 0), none⟩,
 ⟨some 16, .call 85 [(.tmp 15)], none⟩,
 ⟨some 17, .mov (.tmp 0), none⟩,
 ⟨some 18, .len (.tmp 17), none⟩,
 ⟨some 19, .cmp .eql (.tmp 18) (.cst (.d (.int .i64 0))), none⟩,
 ⟨some 20, .call 83 [(.tmp 19), (.cst (.d (.int .i64 12)))], none⟩,
 ⟨some 21, .bsl 0 31 1 2 [(.int .i64 0), (.int .i64 0)] [(0, (.tmp 16)), (1, (.tmp 20))], none⟩,
 ⟨some 22, .call 81 [(.tmp 21)], none⟩,
 ⟨some 4, .mov (.tmp 22), none⟩])
 (.seq
 (.reg [] [⟨some 23, .mov (.tmp 4), none⟩,
 ⟨some 24, .cmp .neq (.tmp 23) (.cst (.d (.int .i64 0))), none⟩])
 (.cond (.tmp 24)
 (.seq
 (.reg [] [⟨some 25, .mov (.tmp 4), none⟩,
 ⟨some 2, .mov (.cst (.nils 1)), none⟩,
 ⟨some 3, .mov (.tmp 25), none⟩])
 .ret)
 .skip)))
 (.seq
 (.reg [1] [⟨some 26, .mkm 1, none⟩,
 ⟨some 5, .mov (.tmp 26), none⟩])
 (.seq
 (.seq
 (.reg [] [⟨some 27, .mov (.tmp 0), none⟩,
 ⟨some 28, .len (.tmp 27), none⟩,
 ⟨some 29, .mov (.cst (.d (.int .i64 0))), none⟩])
 (.post [0, 5] [0, 1, 2, 3]
 (.block 0
 (.keep [0, 5, 27, 28, 29] [0, 1]
 (.loop
 (.post [0, 5, 27, 28, 29] [2, 3]
 (.seq
 (.reg [] [⟨some 30, .cmp .lss (.tmp 29) (.tmp 28), none⟩])
 (.seq
 (.cond (.tmp 30)
 .skip
 (.exit 0))
 (.seq
 (.block 1
 (.seq
 (.reg [2] [⟨some 31, .ixa 4 (.tmp 27) (.tmp 29), none⟩,
 ⟨some 32, .ld true 4 (.tmp 31), none⟩,
 ⟨some 7, .alloc 2 [(.d (.int .i64 0)), (.d (.int .i64 0)), (.d (.int .i64 0)), (.nils 1)], none⟩,
 ⟨none, .st 4 (.tmp 7) (.tmp 32), none⟩])
 (.seq
 (.reg [3] [⟨some 34, .mov (.tmp 5), none⟩,
 ⟨some 35, .fad 1 (.tmp 7), none⟩,
 ⟨some 36, .ld false 1 (.tmp 35), none⟩,
 ⟨some 37, .lkp (some .i64) (.agg [(.int .i64 0), (.int .i64 0), (.int .i64 0), (.slice 1 [])]) true (.tmp 34) (.tmp 36), none⟩,
 ⟨some 33, .mov (.tmp 37), none⟩,
 ⟨some 38, .ext 0 (.tmp 33), none⟩,
 ⟨some 39, .ext 1 (.tmp 33), none⟩,
 ⟨some 8, .alloc 3 [(.d (.int .i64 0)), (.d (.int .i64 0)), (.d (.int .i64 0)), (.nils 1)], none⟩,
 ⟨none, .st 4 (.tmp 8) (.tmp 38), none⟩,
 ⟨some 9, .mov (.tmp 39), none⟩])
 (.seq
 (.seq
 (.regd [] [⟨some 40, .fad 0 (.tmp 7), none⟩,
 ⟨some 41, .ld false 1 (.tmp 40), none⟩,
 ⟨some 42, .mov (.tmp 0), none⟩,
 ⟨some 43, .ixa 4 (.tmp 42) (.cst (.d (.int .i64 0))), none⟩,
 ⟨some 44, .fad 0 (.tmp 43), none⟩,
 ⟨some 45, .ld false 1 (.tmp 44), none⟩,
 ⟨some 46, .cmp .neq (.tmp 41) (.tmp 45), none⟩,
 ⟨some 47, .mov (.tmp 46), none⟩,
 ⟨some 48, .fad 2 (.tmp 7), some (47, false)⟩,
 ⟨some 49, .ld false 1 (.tmp 48), some (47, false)⟩,
 ⟨some 50, .mov (.tmp 0), some (47, false)⟩,
 ⟨some 51, .ixa 4 (.tmp 50) (.cst (.d (.int .i64 0))), some (47, false)⟩,
 ⟨some 52, .fad 2 (.tmp 51), some (47, false)⟩,
 ⟨some 53, .ld false 1 (.tmp 52), some (47, false)⟩,
 ⟨some 54, .cmp .neq (.tmp 49) (.tmp 53), some (47, false)⟩,
 ⟨some 55, .pick (.tmp 47) (.cst (.d (.bool true))) (.tmp 54), none⟩,
 ⟨some 56, .mov (.tmp 55), none⟩,
 ⟨some 57, .mov (.tmp 9), some (56, false)⟩,
 ⟨some 58, .mov (.tmp 57), some (56, false)⟩,
 ⟨some 59, .fad 3 (.tmp 8), some (58, true)⟩,
 ⟨some 60, .ld false 1 (.tmp 59), some (58, true)⟩,
 ⟨some 61, .fad 3 (.tmp 7), some (58, true)⟩,
 ⟨some 62, .ld false 1 (.tmp 61), some (58, true)⟩,
 ⟨some 63, .call 86 [(.tmp 60), (.tmp 62)], some (58, true)⟩,
 ⟨some 64, .not (.tmp 63), some (58, true)⟩,
 ⟨some 65, .pick (.tmp 58) (.tmp 64) (.cst (.d (.bool false))), some (56, false)⟩,
 ⟨some 66, .pick (.tmp 56) (.cst (.d (.bool true))) (.tmp 65), none⟩] [(0, 2), (1, 2), (0, 3), (1, 3), (0, 4), (1, 4), (0, 5), (1, 5), (8, 10), (9, 10), (8, 11), (9, 11), (8, 12), (9, 12), (8, 13), (9, 13), (19, 21), (20, 21), (19, 22), (20, 22)])
 (.cond (.tmp 66)
 (.seq
 (.reg [] [⟨some 2, .mov (.cst (.nils 1)), none⟩,
 ⟨some 3, .mov (.cst (.d (.int .i64 24))), none⟩])
 .ret)
 .skip))
 (.reg [] [⟨some 67, .mov (.tmp 5), none⟩,
 ⟨some 68, .fad 1 (.tmp 7), none⟩,
 ⟨some 69, .ld false 1 (.tmp 68), none⟩,
 ⟨some 70, .ld true 4 (.tmp 7), none⟩,
 ⟨none, .mpu (some .i64) (.tmp 67) (.tmp 69) (.tmp 70), none⟩])))))
 (.reg [] [⟨some 71, .arith .add .i64 (.tmp 29) (.cst (.d (.int .i64 1))), none⟩,
 ⟨some 29, .mov (.tmp 71), none⟩]))))))))))
 (.seq
 (.reg [] [⟨some 10, .mov (.cst (.nils 1)), none⟩])
 (.seq
 (.reg [] [⟨some 11, .mov (.cst (.d (.bool true))), none⟩])
 (.seq
 .skip
 (.seq
 (.seq
 (.reg [] [⟨some 72, .mov (.tmp 0), none⟩,
 ⟨some 73, .ixa 4 (.tmp 72) (.cst (.d (.int .i64 0))), none⟩,
 ⟨some 74, .fad 2 (.tmp 73), none⟩,
 ⟨some 75, .ld false 1 (.tmp 74), none⟩,
 ⟨some 76, .mov (.cst (.d (.int .i64 0))), none⟩])
 (.post [10, 11] [0, 1, 2, 3, 4, 5]
 (.block 2
 (.asrow 5 5 1 10
 (.keep [5, 10, 11, 75, 76] [0, 1, 2, 3]
 (.loop
 (.post [5, 10, 11, 75, 76] [4, 5]
 (.seq
 (.reg [] [⟨some 77, .cmp .lss (.tmp 76) (.tmp 75), none⟩])
 (.seq
 (.cond (.tmp 77)
 .skip
 (.exit 2))
 (.seq
 (.block 3
 (.seq
 (.reg [] [⟨some 78, .mov (.tmp 76), none⟩,
 ⟨some 12, .mov (.tmp 78), none⟩])
 (.seq
 (.reg [4] [⟨some 80, .mov (.tmp 5), none⟩,
 ⟨some 81, .mov (.tmp 12), none⟩,
 ⟨some 82, .lkp (some .i64) (.agg [(.int .i64 0), (.int .i64 0), (.int .i64 0), (.slice 1 [])]) true (.tmp 80) (.tmp 81), none⟩,
 ⟨some 79, .mov (.tmp 82), none⟩,
 ⟨some 83, .ext 0 (.tmp 79), none⟩,
 ⟨some 84, .ext 1 (.tmp 79), none⟩,
 ⟨some 13, .alloc 4 [(.d (.int .i64 0)), (.d (.int .i64 0)), (.d (.int .i64 0)), (.nils 1)], none⟩,
 ⟨none, .st 4 (.tmp 13) (.tmp 83), none⟩,
 ⟨some 14, .mov (.tmp 84), none⟩])
 (.seq
 (.seq
 (.reg [] [⟨some 85, .mov (.tmp 14), none⟩,
 ⟨some 86, .not (.tmp 85), none⟩])
 (.cond (.tmp 86)
 (.seq
 (.reg [] [⟨some 11, .mov (.cst (.d (.bool false))), none⟩])
 (.exit 2))
 .skip))
 (.reg [5] [⟨some 87, .mov (.tmp 10), none⟩,
 ⟨some 88, .fad 3 (.tmp 13), none⟩,
 ⟨some 89, .ld false 1 (.tmp 88), none⟩,
 ⟨some 90, .app 5 5 1 1 (.tmp 87) (.tmp 89), none⟩,
 ⟨some 10, .mov (.tmp 90), none⟩])))))
 (.reg [] [⟨some 91, .arith .add .i64 (.tmp 76) (.cst (.d (.int .i64 1))), none⟩,
 ⟨some 76, .mov (.tmp 91), none⟩])))))))))))
 (.seq
 (.seq
 (.reg [] [⟨some 92, .mov (.tmp 11), none⟩,
 ⟨some 93, .not (.tmp 92), none⟩])
 (.cond (.tmp 93)
 (.seq
 (.reg [] [⟨some 2, .mov (.cst (.nils 1)), none⟩,
 ⟨some 3, .mov (.cst (.d (.int .i64 16))), none⟩])
 .ret)
 .skip))
 (.seq
 (.reg [] [⟨some 94, .mov (.tmp 10), none⟩,
 ⟨some 2, .mov (.tmp 94), none⟩,
 ⟨some 3, .mov (.cst (.d (.int .i64 0))), none⟩])
 .ret)))))))))))⟩


noncomputable def joinL (l : List Fr) : List UInt8 × Int := match checkFrames l != 0 with
  | true => ([], checkFrames l)
  | false => joinR l
def joinHead (l : List Fr) : Int := firstOf [checkFrames l, bif ((l.length : Int) == 0) then 12 else 0]
theorem head_bad {l : List Fr} (h : (joinHead l != 0) = true) : joinL l = ([], joinHead l) := by
  unfold joinHead at *
  simp only [firstOf] at *
  unfold joinL
  cases h1 : checkFrames l != 0
  · rw [h1] at h
    cases h2 : ((l.length : Int) == 0)
    · rw [h2] at h; cases h
    · have e : l = [] := List.eq_nil_of_length_eq_zero (by have := eq_of_beq h2; omega)
      subst e
      rfl
  · rfl
theorem head_ok {l : List Fr} (h : (joinHead l != 0) = false) : checkFrames l = 0 ∧ 0 < l.length ∧ joinL l = joinR l := by
  unfold joinHead at *
  simp only [firstOf] at *
  unfold joinL
  cases h1 : checkFrames l != 0
  · rw [h1] at h
    cases h2 : ((l.length : Int) == 0)
    · refine ⟨by simpa using h1, by have := ne_of_beq_false h2; omega, rfl⟩
    · rw [h2] at h; cases h
  · rw [h1] at h
    have h : (checkFrames l != 0) = false := h
    rw [h] at h1; cases h1
theorem jl {l : List Fr} {p : List UInt8 × Int} (h : joinL l = p) : resV [.slice 1 (p.1.map byt), .int .i64 p.2] = resV [.slice 1 ((joinL l).1.map byt), .int .i64 (joinL l).2] := by rw [h]
theorem jl' {l : List Fr} {b : List UInt8} {acc : List Data} (h : joinL l = (b, 0)) (hb : acc = b.map byt) : resV [.slice 1 acc, .int .i64 0] = resV [.slice 1 ((joinL l).1.map byt), .int .i64 (joinL l).2] := by rw [h, hb]
theorem step_clean {l : List Fr} {f0 x : Fr} {k : Nat} (hf0 : l[0]? = some f0) (hx : l[k]? = some x) (hcl : clean (l.take k)) (hm : x.m = f0.m) (hn : x.n = f0.n)
    (hb : ∀ g, lastP (l.take k) x.p = some g → g.b = x.b) : clean (l.take (k + 1)) := by
  rw [take_one hx]
  refine clean_snoc hcl fun y hy => ?_
  have h0 : f0 ∈ l.take k := by
    obtain ⟨j, hj, _⟩ := mem_take_get hy
    exact mem_take hf0 (by omega)
  obtain ⟨h1, h2, _⟩ := clash_iff.1 (hcl f0 h0 y hy)
  refine clash_iff.2 ⟨hm.trans h1, hn.trans h2, fun e => ?_⟩
  cases hl : lastP (l.take k) x.p with
  | none => exact absurd e.symm (lastP_none hl y hy)
  | some g =>
    obtain ⟨g1, g2⟩ := lastP_mem hl
    rw [← hb g hl]
    exact (clash_iff.1 (hcl g g1 y hy)).2.2 (g2.trans e)

theorem c14 (l : List Fr) (hl0 : l.length ≤ 1048576) : CallDet Tryz.prog 14 [.d (.slice 4 (frs l))] [.slice 1 ((joinL l).1.map byt), .int .i64 (joinL l).2] := by
  have hlen := frs_len l
  refine call_of_vc (x := ir14) (by kernel_rfl) rfl ?_
  refine Exists.intro _ (And.intro (c85 l hl0) ?_)
  refine And.intro rfl ?_
  refine Exists.intro _ (And.intro (c83 _ _) ?_)
  refine And.intro rfl ?_
  refine And.intro rfl ?_
  have hh : CallDet Tryz.prog 81 [.d (.slice 1 (ints [checkFrames l, bif (((frs l).length : Int) == 0) then 12 else 0]))] [.int .i64 (joinHead l)] := by
    rw [hlen]; exact c81 [checkFrames l, bif ((l.length : Int) == 0) then 12 else 0] (by simp)
  refine Exists.intro _ (And.intro hh ?_)
  refine And.intro rfl ?_
  refine brk_intro ?_ ?_
  · intro h
    have h : (joinHead l != 0) = true := h
    exact jl (head_bad h)
  intro h
  have h : (joinHead l != 0) = false := h
  have hok := head_ok h
  have hpos : 0 < l.length := hok.2.1
  have hJ : joinL l = joinR l := hok.2.2
  have hl : l.length ≤ 64 := (checks_zero hok.1).1
  have hc : ∀ f ∈ l, f.check = 0 := (checks_zero hok.1).2
  refine Exists.elim (⟨_, List.getElem?_eq_getElem hpos⟩ : ∃ f, l[0]? = some f) fun f0 hf0 => ?_
  have hd0 : (frs l)[(0 : Int).toNat]? = some f0.d := by simp [frs, hf0]
  have hn0 : 1 ≤ f0.n ∧ f0.n ≤ 64 := by
    have := check_fr (hc f0 (List.mem_of_getElem? hf0)); omega
  refine loop_st (fun a : Nat × List (Data × Data) => ⟨[(0, .d (.slice 4 (frs l))), (5, .mp 1), (27, .d (.slice 4 (frs l))), (28, .d (.int .i64 (frs l).length)), (29, .d (.int .i64 a.1))], [.none, .mapo a.2, .none, .none, .none, .none]⟩)
    (fun a => (keysOk (some .i64) a.2 = true ∧ ∀ q, findM (.int .i64 q) a.2 = (lastP (l.take a.1) q).map Fr.d) ∧ clean (l.take a.1) ∧ a.1 ≤ l.length) (fun a => l.length - a.1) (0, []) rfl ⟨⟨rfl, fun q => rfl⟩, clean_nil, Nat.zero_le _⟩ ?_
  rintro ⟨k, es⟩ ⟨⟨hks, hfd⟩, hcl, hkl⟩
  have hks : keysOk (some .i64) es = true := hks
  have hfd : ∀ q, findM (.int .i64 q) es = (lastP (l.take k) q).map Fr.d := hfd
  have hcl : clean (l.take k) := hcl
  have hkl : k ≤ l.length := hkl
  refine And.intro rfl ?_
  refine brk_intro ?_ ?_
  · intro h
    have h : (k : Int) < (frs l).length := of_decide_eq_true h
    refine Exists.elim (⟨_, List.getElem?_eq_getElem (by omega)⟩ : ∃ x, l[k]? = some x) fun x hx => ?_
    have hdx : (frs l)[(k : Int).toNat]? = some x.d := by simp [frs, hx]
    have bad : ∀ y, y ∈ l → clash x y = true → joinL l = ([], 24) := fun y hy hcl => hJ.trans (joinR_clash fun hcc => by
      rw [hcc x (List.mem_of_getElem? hx) y hy] at hcl; cases hcl)
    have bad0 := bad f0 (List.mem_of_getElem? hf0)
    have next : ∀ (hm : (x.m != f0.m) = false) (hn : (x.n != f0.n) = false) (hb : ∀ g, lastP (l.take k) x.p = some g → g.b = x.b),
        ((keysOk (some .i64) (putM (.int .i64 x.p) x.d es) = true ∧ ∀ q, findM (.int .i64 q) (putM (.int .i64 x.p) x.d es) = (lastP (l.take (k + 1)) q).map Fr.d) ∧ clean (l.take (k + 1)) ∧ k + 1 ≤ l.length) ∧ l.length - (k + 1) < l.length - k := fun hm hn hb => by
      refine ⟨⟨⟨keys_put hks, fun q => ?_⟩, step_clean hf0 hx hcl (by simpa using hm) (by simpa using hn) hb, by omega⟩, by omega⟩
      rw [find_put hks, take_one hx, lastP_snoc]
      by_cases e : x.p = q
      · rw [if_pos e, if_pos e]; rfl
      · rw [if_neg e, if_neg e]; exact hfd q
    refine ix_at hdx (by omega) ?_
    refine Or.elim (show (∃ g, lastP (l.take k) x.p = some g) ∨ lastP (l.take k) x.p = none by cases lastP (l.take k) x.p with | none => exact .inr rfl | some g => exact .inl ⟨g, rfl⟩) (fun hg => Exists.elim hg fun g hg => ?_) (fun hg => ?_)
    · have hfg : findM (.int .i64 x.p) es = some g.d := by rw [hfd, hg]; rfl
      refine Exists.intro [g.d, .bool true] (And.intro ⟨rfl, hks, Or.inl ⟨g.d, hfg, rfl⟩⟩ ?_)
      refine ix_at hd0 (by decide) ?_
      refine And.intro rfl ?_
      refine brk_intro ?_ ?_
      · intro h3
        have h3 : (x.m != f0.m) = true := h3
        repeat refine And.intro rfl ?_
        exact jl (bad0 (by simp only [clash, h3]; rfl))
      intro h3
      have h3 : (x.m != f0.m) = false := h3
      refine ix_at hd0 (by decide) ?_
      repeat refine And.intro rfl ?_
      refine brk_intro ?_ ?_
      · intro h4
        have h4 : (x.n != f0.n) = true := h4
        repeat refine And.intro rfl ?_
        exact jl (bad0 (by simp only [clash, h4, Bool.true_or, Bool.or_true]))
      intro h4
      have h4 : (x.n != f0.n) = false := h4
      have hgm := lastP_mem hg
      refine Exists.intro _ (And.intro (c86 g.b x.b (by have := (check_fr (hc g (List.mem_of_mem_take hgm.1))).2.2.2; omega)) ?_)
      repeat refine And.intro rfl ?_
      refine brk_intro ?_ ?_
      · intro h6
        have h6 : (!(g.b == x.b)) = true := h6
        have hcx : clash x g = true := by
          cases hh : clash x g with
          | true => rfl
          | false =>
            have := (clash_iff.1 hh).2.2 hgm.2.symm
            rw [this] at h6; simp at h6
        exact jl (bad g (List.mem_of_mem_take hgm.1) hcx)
      · intro h6
        have h6 : (!(g.b == x.b)) = false := h6
        have hgx : ∀ g', lastP (l.take k) x.p = some g' → g'.b = x.b := fun g' hg' => by
          rw [hg] at hg'
          cases hg'
          simpa using h6
        refine And.intro ⟨rfl, hks⟩ ?_
        refine ar_add (by omega) ?_
        exact ⟨(k + 1, putM (.int .i64 x.p) x.d es), next h3 h4 hgx, rfl⟩
    · have hfg : findM (.int .i64 x.p) es = none := by rw [hfd, hg]; rfl
      refine Exists.intro [.agg [.int .i64 0, .int .i64 0, .int .i64 0, .slice 1 []], .bool false] (And.intro ⟨rfl, hks, Or.inr ⟨hfg, rfl⟩⟩ ?_)
      refine ix_at hd0 (by decide) ?_
      refine And.intro rfl ?_
      refine brk_intro ?_ ?_
      · intro h3
        have h3 : (x.m != f0.m) = true := h3
        repeat refine And.intro rfl ?_
        exact jl (bad0 (by simp only [clash, h3]; rfl))
      intro h3
      have h3 : (x.m != f0.m) = false := h3
      refine ix_at hd0 (by decide) ?_
      repeat refine And.intro rfl ?_
      refine brk_intro ?_ ?_
      · intro h4
        have h4 : (x.n != f0.n) = true := h4
        repeat refine And.intro rfl ?_
        exact jl (bad0 (by simp only [clash, h4, Bool.true_or, Bool.or_true]))
      intro h4
      have h4 : (x.n != f0.n) = false := h4
      repeat refine And.intro rfl ?_
      have hgx : ∀ g', lastP (l.take k) x.p = some g' → g'.b = x.b := fun g' hg' => by
        rw [hg] at hg'
        cases hg'
      refine And.intro ⟨rfl, hks⟩ ?_
      refine ar_add (by omega) ?_
      exact ⟨(k + 1, putM (.int .i64 x.p) x.d es), next h3 h4 hgx, rfl⟩
  · intro h
    have h : ¬ (k : Int) < (frs l).length := of_decide_eq_false h
    have hk2 : l.take k = l := List.take_of_length_le (by omega)
    have hcl2 : clean l := hk2 ▸ hcl
    have hfd2 : ∀ q, findM (.int .i64 q) es = (lastP l q).map Fr.d := fun q => by rw [hfd, hk2]
    have hlf : ∀ q, (lastP l q).map Fr.b = (findP l q).map Fr.b := last_find hcl2
    refine ix_at hd0 (by decide) ?_
    refine loop_st (fun a : Nat × List Data => ⟨[(5, .mp 1), (10, .sl 5 a.2.length), (11, .d (.bool true)), (75, .d (.int .i64 f0.n)), (76, .d (.int .i64 a.1))], [.none, .mapo es, .none, .none, .none, .row 5 1 a.2 false]⟩)
      (fun a => (∃ b, joinUpto l a.1 = some b ∧ a.2 = b.map byt ∧ b.length ≤ 12 * a.1) ∧ (a.1 : Int) ≤ f0.n) (fun a => f0.n.toNat - a.1) (0, []) rfl ⟨⟨[], rfl, rfl, by simp⟩, by show ((0 : Nat) : Int) ≤ _; omega⟩ ?_
    rintro ⟨q, acc⟩ ⟨⟨b, hb1, hb2, hb3⟩, hq⟩
    have hb1 : joinUpto l q = some b := hb1
    have hb2 : acc = b.map byt := hb2
    have hb3 : b.length ≤ 12 * q := hb3
    have hq : (q : Int) ≤ f0.n := hq
    have hal : acc.length = b.length := by rw [hb2]; simp
    refine And.intro rfl ?_
    refine brk_intro ?_ ?_
    · intro h
      have h : (q : Int) < f0.n := of_decide_eq_true h
      refine Or.elim (show (∃ g, lastP l q = some g) ∨ lastP l q = none by cases lastP l q with | none => exact .inr rfl | some g => exact .inl ⟨g, rfl⟩) (fun hg => Exists.elim hg fun g hg => ?_) (fun hg => ?_)
      · have hfg : findM (.int .i64 q) es = some g.d := by rw [hfd2, hg]; rfl
        have hgb : g.b.length ≤ 12 := (check_fr (hc g (lastP_mem hg).1)).2.2.2
        have hnx : joinUpto l (q + 1) = some (b ++ g.b) := by
          have := hlf q
          rw [hg] at this
          cases hf : findP l q with
          | none => rw [hf] at this; cases this
          | some g' =>
            rw [hf] at this
            have this : some g.b = some g'.b := this
            simp only [joinUpto, hb1, hf, Option.some.inj this]
        refine Exists.intro [g.d, .bool true] (And.intro ⟨rfl, hks, Or.inl ⟨g.d, hfg, rfl⟩⟩ ?_)
        repeat refine And.intro rfl ?_
        refine And.intro ⟨rfl, rfl, rfl, ?_, ?_⟩ ?_
        · show (acc.length + (g.b.map byt).length) * 1 ≤ 2 ^ 47
          rw [hal, List.length_map]; omega
        · show acc.length + (g.b.map byt).length ≤ 2 ^ 47
          rw [hal, List.length_map]; omega
        refine ar_add (by omega) ?_
        refine ⟨(q + 1, acc ++ g.b.map byt), ⟨⟨⟨b ++ g.b, hnx, ?_, ?_⟩, by show ((q + 1 : Nat) : Int) ≤ _; omega⟩, by show f0.n.toNat - (q + 1) < f0.n.toNat - q; omega⟩, rfl⟩
        · show acc ++ g.b.map byt = _
          rw [hb2]; simp
        · show (b ++ g.b).length ≤ 12 * (q + 1)
          simp; omega
      · have hfg : findM (.int .i64 q) es = none := by rw [hfd2, hg]; rfl
        have hfn : findP l q = none := by
          have := hlf q
          rw [hg] at this
          cases hf : findP l q with
          | none => rfl
          | some g' => rw [hf] at this; cases this
        refine Exists.intro [.agg [.int .i64 0, .int .i64 0, .int .i64 0, .slice 1 []], .bool false] (And.intro ⟨rfl, hks, Or.inr ⟨hfg, rfl⟩⟩ ?_)
        repeat refine And.intro rfl ?_
        exact jl (hJ.trans (joinR_none hf0 hcl2 (joinUpto_none hfn (by omega))))
    · intro h
      have h : ¬ (q : Int) < f0.n := of_decide_eq_false h
      have e : f0.n.toNat = q := by omega
      repeat refine And.intro rfl ?_
      exact jl' (hJ.trans (joinR_some hf0 hcl2 (e ▸ hb1))) hb2
end Vc

