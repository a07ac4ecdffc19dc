/- The statement MeshRoutes of chapter 05 (its card, up to a size): it answers true for every mesh, every state and every index, without a panic. No conditions but those of the card. -/
import Derived.Test.YthociffnlhdenaaGreatDoorG23
import Derived.Test.YthociffnlhdenaaGreatDoorG17
import Derived.Test.YthociffnlhdenaaGreatDoorG19
set_option linter.unusedSectionVars false
set_option linter.unusedVariables false
set_option linter.unusedSimpArgs false
namespace Go.Proofs.YthociffnlhdenaaGreatDoor
open Go.ChangeShapes Go.WideShapes Go.ChangeAt Go.RowKit Vc
theorem law9 (xs : List Vc.Data) (hf : FitAs at9 xs) (hw : wgts xs ≤ 1048576) : CallDet Tryz.prog 9 (xs.map .d) [.bool true] := by
 simp only [at9, FitAs] at hf
 obtain ⟨d0, r0, rfl, h0, d1, r1, rfl, h1, d2, r2, rfl, h2, rfl⟩ := hf
 have h0' : ∃ ds, d0 = .agg ds ∧ Fits' [.sl false [.str], .sl true [.int .i64, .int .i64, .int .i64]] ds := h0
 obtain ⟨ds0, rfl, k0⟩ := h0'
 obtain ⟨m, em⟩ := ms_fit k0
 rw [em] at hw ⊢
 have h1' : ∃ ds, d1 = .agg ds ∧ Fits' [.int .i64, .int .i64, .sl true [.int .i64, .int .i64, .int .i64]] ds := h1
 obtain ⟨ds1, rfl, k1⟩ := h1'
 obtain ⟨s, es⟩ := st_fit k1
 rw [es] at hw ⊢
 have h2' : Fits' [.int .i64] [d2] := h2
 obtain ⟨i, t2, e2, _, _⟩ := i64_fit h2'
 obtain rfl : d2 = .int .i64 i := (List.cons.inj e2).1
 have hw2 : wgt m.d + (wgt s.d + (1 + 0)) ≤ 1048576 := hw
 have e1 := wgt_ms m
 have e2 := wgt_st s
 exact c9 c16 m s i (by omega) (by omega) (by omega)
theorem meshRoutesUpto : Rows.MeshRoutesUptoCardSaid := card9 law9
end Go.Proofs.YthociffnlhdenaaGreatDoor
