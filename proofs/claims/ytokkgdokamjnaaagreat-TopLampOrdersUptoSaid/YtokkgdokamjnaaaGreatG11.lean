import Derived.Test.YtokkgdokamjnaaaGreatG10
set_option linter.unusedSectionVars false
set_option linter.unusedVariables false
set_option linter.unusedSimpArgs false
namespace Go.Proofs.YtokkgdokamjnaaaGreat
open Go.ChangeShapes Go.WideShapes Go.ChangeAt Go.RowKit Vc
def wit3:Array Value:=#[.agg #[.slice none 0 0,.slice none 0 0],.slice none 0 0,.agg #[.int .u8 0,.int .u8 0,.int .u8 0,.int .u32 0,.int .u16 0,.int .u16 0,.slice none 0 0]]
theorem laid_met3 (os:Os):laidMet Tryz.prog Rows.topLampOrdersUptoRow.laid ((laidWorld os).forCall (fun _ _=>0) ⟨#[],wit3,[]⟩).memory :=
 laidMet_of_run' 8 (by kernel_rfl) (by kernel_rfl)
noncomputable def rd3 {H:Type}:List (DataW H):=[.agg [.nil,.nil],.nil,.agg [.agg [.lit (.int .u8 0),.lit (.int .u8 0),.lit (.int .u8 0)],.lit (.int .u32 0),.lit (.int .u16 0),.lit (.int .u16 0),.nil]]
theorem reads3 (os:Os) {H:Type} (enc:TypeId × Value→H):∃ places,DataW.whole enc Tryz.prog ((laidWorld os).forCall (fun _ _=>0) ⟨#[],wit3,[]⟩).memory Tryz.f3.params.toList Rows.topLampOrdersSpec.vars false wit3.toList 8=some (rd3,[],places) :=
 ⟨[],by kernel_rfl⟩
def at3:List AT:=[(true,[.sl false [.str],.sl true [.int .i64,.int .i64,.int .i64]]),(false,[.sl true [.bool,.bool,.bool,.bool,.bool,.bool,.bool,.int .i64,.int .i64]]),(true,[.int .u8,.int .u8,.int .u8,.int .u32,.int .u16,.int .u16,.sl true [.int .u8,.int .u8]])]
theorem chk3:chkAs Tryz.prog Tryz.f3.params.toList at3=true:=by kernel_rfl
theorem rt3:Tryz.f3.resultTypes=#[4]:=by kernel_rfl
section
variable (hlaw : ∀ xs, FitAs at3 xs → wgts xs ≤ 1048576 → CallDet Tryz.prog 3 (xs.map .d) [.bool true])
include hlaw
set_option maxRecDepth 100000 in
theorem lifted3 (os : Os) (started : os.Started) (H : Type) (enc : TypeId × Value → H) (F : Stop.Interp) :
  ReturnsInHanded {} Tryz.checked os 3 .any ((Rows.OpenSpec.upto Rows.topLampOrdersSpec).preRow enc Tryz.prog Tryz.f3 Rows.topLampOrdersUptoRow.domain false Rows.topLampOrdersUptoRow.laid) (((Rows.OpenSpec.upto Rows.topLampOrdersSpec).at F).post enc Tryz.prog Tryz.f3 false true false false):=by
 obtain ⟨places,hx⟩:=reads3 os enc
 refine returnsInHanded_of_row (C:=Tryz.checked) (s:=Rows.OpenSpec.upto Rows.topLampOrdersSpec) own started (by kernel_rfl) Tryz.func3
  (witness_row_at (enc:=enc) (C:=Tryz.checked) false (laidWorld os) wit3 rfl (by kernel_rfl) (by kernel_rfl) (by kernel_rfl)
   (OpenSpec.preRow_of_cond 8 hx (by kernel_rfl) (fun k hk=>by cases hk; kernel_rfl) (by kernel_rfl) (laid_met3 os))) ?_
 intro W base args ds gs before hval hW _ hcond _ hL _ _
 refine law_calls (s:=Rows.topLampOrdersSpec) laidOut chk3 rt3 Tryz.underlying4 rfl (fun ds hds=>?_) hlaw hval hW ?_ (fun p hp=>by cases hp)
 ·match ds,hds with
  | [d1,d2,d3],_=>rfl
  | [],h | [_],h | [_,_],h | _::_::_::_::_,h=>simp [Tryz.params3] at h
 ·have h:=hcond _ rfl
  have h2:=bulks_le (ds++gs)
  simp only [Rows.uptoSmall,decide_eq_true_eq] at h
  omega
theorem said3:Rows.TopLampOrdersUptoSaid :=
 OpenClaim.holds_of_cond 3 Tryz.f3 rfl rfl rfl rfl rfl rfl rfl ⟨rfl,rfl,rfl,rfl,rfl⟩ rfl rfl rfl rfl rfl (by kernel_rfl) Tryz.func3 (by kernel_rfl)
  (of_decide_eq_true (by kernel_rfl)) (by unfold Func.isWrapper; first | (rw [if_pos (by decide +kernel)]; kernel_rfl) | (rw [if_neg (by decide +kernel)]; exact ⟨rfl,rfl⟩))
  (fun os started H enc _ F=>by rw [OpenClaim.pre_eq_preRow]; exact lifted3 hlaw os started H enc F)
end
end Go.Proofs.YtokkgdokamjnaaaGreat
