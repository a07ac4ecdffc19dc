/- The statement MeshFloods of chapter 05 (its card, up to a size): it answers true for every mesh, every index and all pairs that are lost, without a panic. No conditions but those of the card. -/
import Derived.Test.YthociffnlhdenaaGreatDoorG21
import Derived.Test.YthociffnlhdenaaGreatDoorG22
import Derived.Test.YthociffnlhdenaaGreatDoorG13
set_option linter.unusedSectionVars false
set_option linter.unusedVariables false
set_option linter.unusedSimpArgs false
namespace Go.Proofs.YthociffnlhdenaaGreatDoor
open Go.ChangeShapes Go.WideShapes Go.ChangeAt Go.RowKit Vc
theorem law5 (xs : List Vc.Data) (hf : FitAs at5 xs) (hw : wgts xs ≤ 1048576) : CallDet Tryz.prog 5 (xs.map .d) [.bool true] := by
  simp only [at5, FitAs] at hf
  obtain ⟨d0, r0, rfl, h0, d1, r1, rfl, h1, d2, r2, rfl, h2, rfl⟩ := hf
  have h0' : ∃ ds, d0 = .agg ds ∧ Fits' [.sl false [.str], .sl true [.int .i64, .int .i64, .int .i64]] ds := h0
  obtain ⟨ds0, rfl, k0⟩ := h0'
  obtain ⟨m, em⟩ := ms_fit k0
  rw [em] at hw ⊢
  have h1' : Fits' [.int .i64] [d1] := h1
  obtain ⟨i, t1, e1, _, _⟩ := i64_fit h1'
  obtain rfl : d1 = .int .i64 i := (List.cons.inj e1).1
  have h2' : Fits' [.sl true [.int .i64, .int .i64]] [d2] := h2
  obtain ⟨l, t2, e2, _⟩ := prl_fit h2'
  obtain rfl : d2 = .slice 2 (prs l) := (List.cons.inj e2).1
  have hw2 : wgt m.d + (1 + ((wgts (prs l) + 1) + 0)) ≤ 1048576 := hw
  have e1 := wgt_ms m
  have e2 := wgts_prs l
  exact c5 c16 m i l (by omega) (by omega) (by omega)
theorem meshFloodsUpto : Rows.MeshFloodsUptoCardSaid := card5 law5
end Go.Proofs.YthociffnlhdenaaGreatDoor
