import Derived.Test.YtcplcokecclehaaG08
set_option linter.unusedSectionVars false
set_option linter.unusedVariables false
set_option linter.unusedSimpArgs false
namespace Go.Proofs.Ytcplcokecclehaa
open Go.ChangeShapes Go.WideShapes Go.ChangeAt Go.RowKit Vc
def wit3:Array Value:=#[.agg #[.slice none 0 0,.slice none 0 0,.int .i64 0,.int .i64 0,.slice none 0 0],.int .u8 0,.slice none 0 0]
theorem laid_met3 (os:Os):laidMet Try.prog Rows.topFuseSlotsUptoRow.laid ((laidWorld os).forCall (fun _ _=>0) ⟨#[],wit3,[]⟩).memory :=
 laidMet_of_run' 8 (by kernel_rfl) (by kernel_rfl)
noncomputable def rd3 {H:Type}:List (DataW H):=[.agg [.nil,.nil,.lit (.int .i64 0),.lit (.int .i64 0),.nil],.lit (.int .u8 0),.nil]
theorem reads3 (os:Os) {H:Type} (enc:TypeId × Value→H):∃ places,DataW.whole enc Try.prog ((laidWorld os).forCall (fun _ _=>0) ⟨#[],wit3,[]⟩).memory Try.f3.params.toList Rows.topFuseSlotsSpec.vars false wit3.toList 8=some (rd3,[],places) :=
 ⟨[],by kernel_rfl⟩
def tnC:List CT:=[.sl false [.int .i64],.sl false [.sl false [.int .i64]],.int .i64,.int .i64,.sl false [.int .i64]]
def at3:List AT:=[(true,tnC),(false,[.int .u8]),(false,[.sl true [.int .u8,.int .u8]])]
theorem chk3:chkAs Try.prog Try.f3.params.toList at3=true:=by kernel_rfl
theorem rt3:Try.f3.resultTypes=#[4]:=by kernel_rfl
section
variable (hlaw : ∀ xs, FitAs at3 xs → wgts xs ≤ 1048576 → CallDet Try.prog 3 (xs.map .d) [.bool true])
include hlaw
set_option maxRecDepth 100000 in
theorem lifted3 (os : Os) (started : os.Started) (H : Type) (enc : TypeId × Value → H) (F : Stop.Interp) :
  ReturnsInHanded {} Try.checked os 3 .any ((Rows.OpenSpec.upto Rows.topFuseSlotsSpec).preRow enc Try.prog Try.f3 Rows.topFuseSlotsUptoRow.domain false Rows.topFuseSlotsUptoRow.laid) (((Rows.OpenSpec.upto Rows.topFuseSlotsSpec).at F).post enc Try.prog Try.f3 false true false false):=by
 obtain ⟨places,hx⟩:=reads3 os enc
 refine returnsInHanded_of_row (C:=Try.checked) (s:=Rows.OpenSpec.upto Rows.topFuseSlotsSpec) own started (by kernel_rfl) Try.func3
  (witness_row_at (enc:=enc) (C:=Try.checked) false (laidWorld os) wit3 rfl (by kernel_rfl) (by kernel_rfl) (by kernel_rfl)
   (OpenSpec.preRow_of_cond 8 hx (by kernel_rfl) (fun k hk=>by cases hk; kernel_rfl) (by kernel_rfl) (laid_met3 os))) ?_
 intro W base args ds gs before hval hW _ hcond _ hL _ _
 refine law_calls (s:=Rows.topFuseSlotsSpec) laidOut chk3 rt3 Try.underlying4 rfl (fun ds hds=>?_) hlaw hval hW ?_ (fun p hp=>by cases hp)
 ·match ds,hds with
  | [d1,d2,d3],_=>rfl
  | [],h | [_],h | [_,_],h | _::_::_::_::_,h=>simp [Try.params3] at h
 ·have h:=hcond _ rfl
  have h2:=bulks_le (ds++gs)
  simp only [Rows.uptoSmall,decide_eq_true_eq] at h
  omega
theorem said3:Rows.TopFuseSlotsUptoSaid :=
 OpenClaim.holds_of_cond 3 Try.f3 rfl rfl rfl rfl rfl rfl rfl ⟨rfl,rfl,rfl,rfl,rfl⟩ rfl rfl rfl rfl rfl (by kernel_rfl) Try.func3 (by kernel_rfl)
  (of_decide_eq_true (by kernel_rfl)) (by unfold Func.isWrapper; first | (rw [if_pos (by decide +kernel)]; kernel_rfl) | (rw [if_neg (by decide +kernel)]; exact ⟨rfl,rfl⟩))
  (fun os started H enc _ F=>by rw [OpenClaim.pre_eq_preRow]; exact lifted3 hlaw os started H enc F)
end
end Go.Proofs.Ytcplcokecclehaa
