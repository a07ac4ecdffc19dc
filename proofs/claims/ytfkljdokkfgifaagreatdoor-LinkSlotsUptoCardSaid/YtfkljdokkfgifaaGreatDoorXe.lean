import Derived.Test.YtfkljdokkfgifaaGreatDoorXd
set_option linter.unusedSectionVars false
set_option linter.unusedVariables false
set_option linter.unusedSimpArgs false
namespace Go.Proofs.YtfkljdokkfgifaaGreatDoor
open Go.ChangeShapes Go.WideShapes Go.ChangeAt Go.RowKit Vc

def wit6 : Array Value := #[.slice none 0 0, .slice none 0 0, .agg #[.int .i64 0, .int .i64 0, .int .i64 0]]

theorem laid_met6 (os : Os) : laidMet Tryz.prog Rows.linkSlotsUptoRow.laid ((laidWorld os).forCall (fun _ _ => 0) ⟨#[], wit6, []⟩).memory :=
  laidMet_of_run' 8 (by kernel_rfl) (by kernel_rfl)

noncomputable def rd6 {H : Type} : List (DataW H) := [.nil, .nil, .agg [.lit (.int .i64 0), .lit (.int .i64 0), .lit (.int .i64 0)]]
theorem reads6 (os : Os) {H : Type} (enc : TypeId × Value → H) : ∃ places, DataW.whole enc Tryz.prog ((laidWorld os).forCall (fun _ _ => 0) ⟨#[], wit6, []⟩).memory Tryz.f6.params.toList Rows.linkSlotsSpec.vars false wit6.toList 8 = some (rd6, [], places) :=
  ⟨[], by kernel_rfl⟩

def frC : CT := .sl true [.int .i64, .int .i64, .int .i64, .sl false [.int .u8]]
def stC : CT := .sl true [.str, .int .i64, .int .i64, .int .i64]
def at6 : List AT := [(false, [stC]), (false, [.sl false [.bool]]), (true, [.int .i64, .int .i64, .int .i64])]
theorem chk6 : chkAs Tryz.prog Tryz.f6.params.toList at6 = true := by kernel_rfl
theorem rt6 : Tryz.f6.resultTypes = #[4] := by kernel_rfl

section
variable (hlaw : ∀ xs, FitAs at6 xs → wgts xs ≤ 1048576 → CallDet Tryz.prog 6 (xs.map .d) [.bool true])
include hlaw

set_option maxRecDepth 100000 in
theorem lifted6 (os : Os) (started : os.Started) (H : Type) (enc : TypeId × Value → H) (F : Stop.Interp) :
    ReturnsInHanded {} Tryz.checked os 6 .any ((Rows.OpenSpec.upto Rows.linkSlotsSpec).preRow enc Tryz.prog Tryz.f6 Rows.linkSlotsUptoRow.domain false Rows.linkSlotsUptoRow.laid) (((Rows.OpenSpec.upto Rows.linkSlotsSpec).at F).post enc Tryz.prog Tryz.f6 false true false false) := by
  obtain ⟨places, hx⟩ := reads6 os enc
  refine returnsInHanded_of_row (C := Tryz.checked) (s := Rows.OpenSpec.upto Rows.linkSlotsSpec) own started (by kernel_rfl) Tryz.func6
    (witness_row_at (enc := enc) (C := Tryz.checked) false (laidWorld os) wit6 rfl (by kernel_rfl) (by kernel_rfl) (by kernel_rfl)
      (OpenSpec.preRow_of_cond 8 hx (by kernel_rfl) (fun k hk => by cases hk; kernel_rfl) (by kernel_rfl) (laid_met6 os))) ?_
  intro W base args ds gs before hval hW _ hcond _ hL _ _
  refine law_calls (s := Rows.linkSlotsSpec) laidOut chk6 rt6 Tryz.underlying4 rfl (fun ds hds => ?_) hlaw hval hW ?_ (fun p hp => by cases hp)
  · match ds, hds with
    | [d1, d2, d3], _ => rfl
    | [], h | [_], h | [_, _], h | _ :: _ :: _ :: _ :: _, h => simp [Tryz.params6] at h
  · have h := hcond _ rfl
    have h2 := bulks_le (ds ++ gs)
    simp only [Rows.uptoSmall, decide_eq_true_eq] at h
    omega

theorem said6 : Rows.LinkSlotsUptoSaid :=
  OpenClaim.holds_of_cond 6 Tryz.f6 rfl rfl rfl rfl rfl rfl rfl ⟨rfl, rfl, rfl, rfl, rfl⟩ rfl rfl rfl rfl rfl (by kernel_rfl) Tryz.func6 (by kernel_rfl)
    (of_decide_eq_true (by kernel_rfl)) (by unfold Func.isWrapper; first | (rw [if_pos (by decide +kernel)]; kernel_rfl) | (rw [if_neg (by decide +kernel)]; exact ⟨rfl, rfl⟩))
    (fun os started H enc _ F => by rw [OpenClaim.pre_eq_preRow]; exact lifted6 hlaw os started H enc F)

theorem plain6 (f : FuncId) (fn : Func) (hf : Tryz.pinned.checked.prog.funcNamed Tryz.f6.name = some f) (hfn : Tryz.pinned.checked.prog.funcs[f]? = some fn) :
    false = Tryz.pinned.checked.prog.looks [] ∧ ∀ (j : Nat) t, fn.params[j]? = some t → Tryz.pinned.checked.prog.wantsStandIn t = false := by
  obtain rfl : f = 6 := Option.some.inj ((show Tryz.prog.funcNamed Tryz.f6.name = some 6 by kernel_rfl).symm.trans hf) |>.symm
  obtain rfl : fn = Tryz.f6 := (Option.some.inj (Tryz.func6.symm.trans hfn)).symm
  refine ⟨by kernel_rfl, fun j t ht => ?_⟩
  rw [Tryz.params6] at ht
  match j, ht with
  | 0, ht => cases ht; exact (show Tryz.prog.wantsStandIn 104 = false by kernel_rfl)
  | 1, ht => cases ht; exact (show Tryz.prog.wantsStandIn 105 = false by kernel_rfl)
  | 2, ht => cases ht; exact (show Tryz.prog.wantsStandIn 106 = false by kernel_rfl)

theorem card6 : Rows.LinkSlotsUptoCardSaid :=
  Claim7.holds_tied_plain_at .later [] _ _ _ _ (said6 hlaw) (fun _ h => by cases h) (by kernel_rfl) (fun _ h => by cases h) linkSlotsUpto_row_tie rfl ⟨rfl, rfl⟩ (by kernel_rfl) rfl (plain6 hlaw) (by kernel_rfl)
end
end Go.Proofs.YtfkljdokkfgifaaGreatDoor

