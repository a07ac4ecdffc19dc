import Derived.Test.YtfkljdokkfgifaaGreatDoorWf
set_option linter.unusedSectionVars false
set_option linter.unusedVariables false
set_option linter.unusedSimpArgs false
set_option maxRecDepth 10000
namespace Vc
open Go Go.Proofs
/-! Equal frames and blocks. -/
theorem fr_same (f : Fr) : f.same f = true := by simp [Fr.same]
theorem frs_same : ∀ (l : List Fr), sameFrames l l = true
  | [] => rfl
  | f :: r => by simp only [sameFrames, fr_same, frs_same r]; rfl
theorem cut_ok {n s : Int} {len : Nat} (h : checkCut n len s = 0) : 1 ≤ s ∧ s ≤ 12 ∧ len ≤ 256 ∧ decide (s * 64 < len) = false := by
  cases h1 : cutHead n len s != 0
  · obtain ⟨_, h2, h3, h4, h5⟩ := cutHead_zero h1
    refine ⟨h3, h4, h2, ?_⟩
    cases h6 : decide (s * 64 < (len : Int))
    · rfl
    · rw [h6] at h5; rw [h5] at h; cases h
  · rw [cutHead_check h1] at h
    rw [h] at h1; cases h1
theorem cutL_len (n s : Int) (b : List UInt8) : (cutL n b s).length ≤ 64 := by
  unfold cutL
  cases h : checkCut n b.length s == 0
  · exact Nat.zero_le _
  · obtain ⟨h1, _, _, h2⟩ := cut_ok (eq_of_beq h)
    rw [← many_iff h1] at h2
    show (cutFrs n b s).length ≤ 64
    simp only [cutFrs, List.length_map, List.length_range]
    simp at h2
    omega
theorem eqC_refl (f : Fr) : eqCells (List.replicate 16 0) (dcells (blkC f)) (dcells (blkC f)) = some true := by
  show some _ = _
  simp
def blk16 (x0 x1 x2 x3 x4 x5 x6 x7 x8 x9 x10 x11 x12 x13 x14 x15 : UInt8) : Data := .agg ([x0, x1, x2, x3, x4, x5, x6, x7, x8, x9, x10, x11, x12, x13, x14, x15].map byt)

end Vc

