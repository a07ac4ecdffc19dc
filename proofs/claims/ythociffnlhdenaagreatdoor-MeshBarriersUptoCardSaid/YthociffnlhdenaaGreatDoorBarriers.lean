/- The statement MeshBarriers of chapter 05 (its card, up to a size): it answers true for every mesh, all indices and every set, without a panic. No conditions but those of the card. -/
import Derived.Test.YthociffnlhdenaaGreatDoorG21
import Derived.Test.YthociffnlhdenaaGreatDoorG22
import Derived.Test.YthociffnlhdenaaGreatDoorG24
set_option linter.unusedSectionVars false
set_option linter.unusedVariables false
set_option linter.unusedSimpArgs false
namespace Go.Proofs.YthociffnlhdenaaGreatDoor
open Go.ChangeShapes Go.WideShapes Go.ChangeAt Go.RowKit Vc
theorem law6 (xs : List Vc.Data) (hf : FitAs at6 xs) (hw : wgts xs ≤ 1048576) : CallDet Tryz.prog 6 (xs.map .d) [.bool true] := by
  simp only [at6, FitAs] at hf
  obtain ⟨d0, r0, rfl, h0, d1, r1, rfl, h1, d2, r2, rfl, h2, rfl⟩ := hf
  have h0' : ∃ ds, d0 = .agg ds ∧ Fits' [.sl false [.str], .sl true [.int .i64, .int .i64, .int .i64]] ds := h0
  obtain ⟨ds0, rfl, k0⟩ := h0'
  obtain ⟨m, em⟩ := ms_fit k0
  rw [em] at hw ⊢
  have h1' : ∃ ds, d1 = .agg ds ∧ Fits' [.int .i64, .int .i64] ds := h1
  obtain ⟨ds1, rfl, k1⟩ := h1'
  obtain ⟨f, t1, rfl, _, k2⟩ := i64_fit k1
  obtain ⟨t, t2, rfl, _, k3⟩ := i64_fit k2
  obtain rfl := fits_nil k3
  have h2' : Fits' [.sl false [.int .i64]] [d2] := h2
  obtain ⟨r, t3, e2, _⟩ := intl_fit h2'
  obtain rfl : d2 = .slice 1 (ints r) := (List.cons.inj e2).1
  have hw2 : wgt m.d + ((1 + (1 + 0)) + ((wgts (ints r) + 1) + 0)) ≤ 1048576 := hw
  have e1 := wgt_ms m
  have e2 := wgts_ints r
  exact c6 c16 m f t r (by omega) (by omega) (by omega)
theorem meshBarriersUpto : Rows.MeshBarriersUptoCardSaid := card6 law6
end Go.Proofs.YthociffnlhdenaaGreatDoor
