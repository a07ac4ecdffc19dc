import Derived.Test.YtfkljdokkfgifaaGreatDoorXd
set_option linter.unusedSectionVars false
set_option linter.unusedVariables false
set_option linter.unusedSimpArgs false
namespace Go.Proofs.YtfkljdokkfgifaaGreatDoor
open Go.ChangeShapes Go.WideShapes Go.ChangeAt Go.RowKit Vc

def wit4 : Array Value := #[.agg #[.slice none 0 0, .int .i64 0, .int .i64 0], .agg #[.int .i64 0, .slice none 0 0], .agg #[.int .i64 0, .int .i64 0, .int .i64 0, .slice none 0 0, .int .i64 0, .int .i64 0]]

theorem laid_met4 (os : Os) : laidMet Tryz.prog Rows.linkStepsUptoRow.laid ((laidWorld os).forCall (fun _ _ => 0) ⟨#[], wit4, []⟩).memory :=
  laidMet_of_run' 8 (by kernel_rfl) (by kernel_rfl)

noncomputable def rd4 {H : Type} : List (DataW H) := [.agg [.nil, .lit (.int .i64 0), .lit (.int .i64 0)], .agg [.lit (.int .i64 0), .nil], .agg [.agg [.lit (.int .i64 0), .lit (.int .i64 0), .lit (.int .i64 0), .nil], .lit (.int .i64 0), .lit (.int .i64 0)]]
theorem reads4 (os : Os) {H : Type} (enc : TypeId × Value → H) : ∃ places, DataW.whole enc Tryz.prog ((laidWorld os).forCall (fun _ _ => 0) ⟨#[], wit4, []⟩).memory Tryz.f4.params.toList Rows.linkStepsSpec.vars false wit4.toList 8 = some (rd4, [], places) :=
  ⟨[], by kernel_rfl⟩

def frC : CT := .sl true [.int .i64, .int .i64, .int .i64, .sl false [.int .u8]]
def at4 : List AT := [(true, [frC, .int .i64, .int .i64]), (true, [.int .i64, frC]), (true, [.int .i64, .int .i64, .int .i64, .sl false [.int .u8], .int .i64, .int .i64])]
theorem chk4 : chkAs Tryz.prog Tryz.f4.params.toList at4 = true := by kernel_rfl
theorem rt4 : Tryz.f4.resultTypes = #[4] := by kernel_rfl

section
variable (hlaw : ∀ xs, FitAs at4 xs → wgts xs ≤ 1048576 → CallDet Tryz.prog 4 (xs.map .d) [.bool true])
include hlaw

set_option maxRecDepth 100000 in
theorem lifted4 (os : Os) (started : os.Started) (H : Type) (enc : TypeId × Value → H) (F : Stop.Interp) :
    ReturnsInHanded {} Tryz.checked os 4 .any ((Rows.OpenSpec.upto Rows.linkStepsSpec).preRow enc Tryz.prog Tryz.f4 Rows.linkStepsUptoRow.domain false Rows.linkStepsUptoRow.laid) (((Rows.OpenSpec.upto Rows.linkStepsSpec).at F).post enc Tryz.prog Tryz.f4 false true false false) := by
  obtain ⟨places, hx⟩ := reads4 os enc
  refine returnsInHanded_of_row (C := Tryz.checked) (s := Rows.OpenSpec.upto Rows.linkStepsSpec) own started (by kernel_rfl) Tryz.func4
    (witness_row_at (enc := enc) (C := Tryz.checked) false (laidWorld os) wit4 rfl (by kernel_rfl) (by kernel_rfl) (by kernel_rfl)
      (OpenSpec.preRow_of_cond 8 hx (by kernel_rfl) (fun k hk => by cases hk; kernel_rfl) (by kernel_rfl) (laid_met4 os))) ?_
  intro W base args ds gs before hval hW _ hcond _ hL _ _
  refine law_calls (s := Rows.linkStepsSpec) laidOut chk4 rt4 Tryz.underlying4 rfl (fun ds hds => ?_) hlaw hval hW ?_ (fun p hp => by cases hp)
  · match ds, hds with
    | [d1, d2, d3], _ => rfl
    | [], h | [_], h | [_, _], h | _ :: _ :: _ :: _ :: _, h => simp [Tryz.params4] at h
  · have h := hcond _ rfl
    have h2 := bulks_le (ds ++ gs)
    simp only [Rows.uptoSmall, decide_eq_true_eq] at h
    omega

theorem said4 : Rows.LinkStepsUptoSaid :=
  OpenClaim.holds_of_cond 4 Tryz.f4 rfl rfl rfl rfl rfl rfl rfl ⟨rfl, rfl, rfl, rfl, rfl⟩ rfl rfl rfl rfl rfl (by kernel_rfl) Tryz.func4 (by kernel_rfl)
    (of_decide_eq_true (by kernel_rfl)) (by unfold Func.isWrapper; first | (rw [if_pos (by decide +kernel)]; kernel_rfl) | (rw [if_neg (by decide +kernel)]; exact ⟨rfl, rfl⟩))
    (fun os started H enc _ F => by rw [OpenClaim.pre_eq_preRow]; exact lifted4 hlaw os started H enc F)

theorem plain4 (f : FuncId) (fn : Func) (hf : Tryz.pinned.checked.prog.funcNamed Tryz.f4.name = some f) (hfn : Tryz.pinned.checked.prog.funcs[f]? = some fn) :
    false = Tryz.pinned.checked.prog.looks [] ∧ ∀ (j : Nat) t, fn.params[j]? = some t → Tryz.pinned.checked.prog.wantsStandIn t = false := by
  obtain rfl : f = 4 := Option.some.inj ((show Tryz.prog.funcNamed Tryz.f4.name = some 4 by kernel_rfl).symm.trans hf) |>.symm
  obtain rfl : fn = Tryz.f4 := (Option.some.inj (Tryz.func4.symm.trans hfn)).symm
  refine ⟨by kernel_rfl, fun j t ht => ?_⟩
  rw [Tryz.params4] at ht
  match j, ht with
  | 0, ht => cases ht; exact (show Tryz.prog.wantsStandIn 61 = false by kernel_rfl)
  | 1, ht => cases ht; exact (show Tryz.prog.wantsStandIn 63 = false by kernel_rfl)
  | 2, ht => cases ht; exact (show Tryz.prog.wantsStandIn 65 = false by kernel_rfl)

theorem card4 : Rows.LinkStepsUptoCardSaid :=
  Claim7.holds_tied_plain_at .later [] _ _ _ _ (said4 hlaw) (fun _ h => by cases h) (by kernel_rfl) (fun _ h => by cases h) linkStepsUpto_row_tie rfl ⟨rfl, rfl⟩ (by kernel_rfl) rfl (plain4 hlaw) (by kernel_rfl)
end
end Go.Proofs.YtfkljdokkfgifaaGreatDoor

