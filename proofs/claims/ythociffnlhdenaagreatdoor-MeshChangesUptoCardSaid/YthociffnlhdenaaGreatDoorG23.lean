import Derived.Test.YthociffnlhdenaaGreatDoorG22
set_option linter.unusedSectionVars false
set_option linter.unusedVariables false
set_option linter.unusedSimpArgs false
namespace Go.Proofs.YthociffnlhdenaaGreatDoor
open Go.ChangeShapes Go.WideShapes Go.ChangeAt Go.RowKit Vc
def wit12:Array Value:=#[.agg #[.slice none 0 0,.slice none 0 0],.agg #[.int .i64 0,.int .i64 0,.slice none 0 0],.agg #[.int .i64 0,.int .i64 0,.int .i64 0,.int .i64 0,.string ⟨#[]⟩,.int .i64 0,.int .i64 0]]
theorem laid_met12 (os:Os):laidMetH Tryz.prog Rows.meshChangesUptoRow.laid ((laidWorld os).forCall (fun _ _=>0) ⟨#[],wit12,[]⟩).memory :=
 laidMetH_of_parts3 (fuel:=8) (laidMet_of_run' 8 (by kernel_rfl) (by kernel_rfl)) (by kernel_rfl) (by kernel_rfl)
noncomputable def rd12 {H:Type}:List (DataW H):=[.agg [.nil,.nil],.agg [.lit (.int .i64 0),.lit (.int .i64 0),.nil],.agg [.lit (.int .i64 0),.agg [.lit (.int .i64 0),.lit (.int .i64 0),.lit (.int .i64 0)],.lit (.string []),.lit (.int .i64 0),.lit (.int .i64 0)]]
theorem reads12 (os:Os) {H:Type} (enc:TypeId × Value→H):∃ places,DataW.whole enc Tryz.prog ((laidWorld os).forCall (fun _ _=>0) ⟨#[],wit12,[]⟩).memory Tryz.f12.params.toList Rows.meshChangesSpec.vars false wit12.toList 8=some (rd12,[],places) :=
 ⟨[],by kernel_rfl⟩
def at12:List AT:=[(true,msC),(true,stC),(true,[.int .i64,.int .i64,.int .i64,.int .i64,.str,.int .i64,.int .i64])]
theorem chk12:chkAs Tryz.prog Tryz.f12.params.toList at12=true:=by kernel_rfl
theorem rt12:Tryz.f12.resultTypes=#[4]:=by kernel_rfl
theorem fnm12:Tryz.pinned.checked.prog.funcNamed Rows.meshChangesUptoRow.func=some 12:=by kernel_rfl
theorem jp12:(Rows.meshChangesUptoRow.inPlace==Tryz.pinned.checked.prog.inPlace 12)=true:=by kernel_rfl
theorem ju12:(Rows.meshChangesUptoRow.unfollowed==Tryz.pinned.checked.prog.unfollowed 12)=true:=by kernel_rfl
theorem jr12:(Rows.meshChangesUptoRow.recurses==Tryz.pinned.checked.prog.recurses 12)=true:=by kernel_rfl
theorem jn12:(Rows.meshChangesUptoRow.named==Tryz.pinned.checked.prog.varsNamed 12)=true:=by kernel_rfl
theorem jl12:(Rows.meshChangesUptoRow.lifted==Tryz.pinned.checked.prog.liftsFinal)=true:=lift0
theorem jf12:joinedFacts Tryz.pinned.checked.prog 12 Tryz.f12 (Rows.OpenSpec.upto Rows.meshChangesSpec).bare Rows.meshChangesUptoRow=true:=by
 unfold joinedFacts
 rw [jp12,ju12,jr12,jn12,jl12,may0,out0]
 kernel_rfl
theorem inst12:Tryz.f12.isInstance Tryz.pinned.checked.prog Rows.meshChangesUptoRow.origin Rows.meshChangesUptoRow.targs:=of_decide_eq_true (by kernel_rfl)
theorem wrap12:Tryz.f12.isWrapper Tryz.pinned.checked.prog Rows.meshChangesUptoRow.wrapper Rows.meshChangesUptoRow.mainSum:=by unfold Func.isWrapper; first | (rw [if_pos (by decide +kernel)]; kernel_rfl) | (rw [if_neg (by decide +kernel)]; exact ⟨rfl,rfl⟩)
section
variable (hlaw : ∀ xs, FitAs at12 xs → wgts xs ≤ 1048576 → CallDet Tryz.prog 12 (xs.map .d) [.bool true])
include hlaw
set_option maxRecDepth 100000 in
theorem lifted12 (os : Os) (started : os.Started) (H : Type) (enc : TypeId × Value → H) (F : Stop.Interp) :
  ReturnsInHanded {} Tryz.checked os 12 .any ((Rows.OpenSpec.upto Rows.meshChangesSpec).preRow enc Tryz.prog Tryz.f12 Rows.meshChangesUptoRow.domain false Rows.meshChangesUptoRow.laid) (((Rows.OpenSpec.upto Rows.meshChangesSpec).at F).post enc Tryz.prog Tryz.f12 false true false false):=by
 obtain ⟨places,hx⟩:=reads12 os enc
 refine returnsInHanded_of_row (C:=Tryz.checked) (s:=Rows.OpenSpec.upto Rows.meshChangesSpec) own started (by kernel_rfl) Tryz.func12
  (witness_row_at (enc:=enc) (C:=Tryz.checked) false (laidWorld os) wit12 rfl (by kernel_rfl) (by kernel_rfl) (by kernel_rfl)
   (OpenSpec.preRow_of_cond 8 hx (by kernel_rfl) (fun k hk=>by cases hk; kernel_rfl) (by kernel_rfl) (laid_met12 os))) ?_
 intro W base args ds gs before hval hW _ hcond _ hL _ _
 refine law_calls (s:=Rows.meshChangesSpec) laidOut chk12 rt12 Tryz.underlying4 rfl (fun ds hds=>?_) hlaw hval hW ?_ (glob hL (.tail _ (.tail _ (.tail _ (.tail _ (.head _))))) (.tail _ (.tail _ (.tail _ (.head _)))))
 ·match ds,hds with
  | [d1,d2,d3],_=>rfl
  | [],h | [_],h | [_,_],h | _::_::_::_::_,h=>simp [Tryz.params12] at h
 ·have h:=hcond _ rfl
  have h2:=bulks_le (ds++gs)
  simp only [Rows.uptoSmall,decide_eq_true_eq] at h
  omega
theorem said12:Rows.MeshChangesUptoSaid :=
 OpenClaim.holds_of_cond 12 Tryz.f12 rfl rfl rfl rfl rfl rfl rfl ⟨rfl,rfl,rfl,rfl,rfl⟩ rfl rfl rfl rfl rfl fnm12 Tryz.func12 jf12
  inst12 wrap12
  (fun os started H enc _ F=>by rw [OpenClaim.pre_eq_preRow]; exact lifted12 hlaw os started H enc F)
theorem plain12 (f : FuncId) (fn : Func) (hf : Tryz.pinned.checked.prog.funcNamed Tryz.f12.name = some f) (hfn : Tryz.pinned.checked.prog.funcs[f]? = some fn) :
  false=Tryz.pinned.checked.prog.looks []∧∀ (j:Nat) t,fn.params[j]?=some t→Tryz.pinned.checked.prog.wantsStandIn t=false:=by
 obtain rfl:f=12:=Option.some.inj ((show Tryz.prog.funcNamed Tryz.f12.name=some 12 by kernel_rfl).symm.trans hf) |>.symm
 obtain rfl:fn=Tryz.f12:=(Option.some.inj (Tryz.func12.symm.trans hfn)).symm
 refine ⟨by kernel_rfl,fun j t ht=>?_⟩
 rw [Tryz.params12] at ht
 match j,ht with
 | 0,ht=>cases ht; exact (show Tryz.prog.wantsStandIn 25=false by kernel_rfl)
 | 1,ht=>cases ht; exact (show Tryz.prog.wantsStandIn 50=false by kernel_rfl)
 | 2,ht=>cases ht; exact (show Tryz.prog.wantsStandIn 123=false by kernel_rfl)
theorem card12:Rows.MeshChangesUptoCardSaid :=
 Claim7.holds_tied_plain_at .later [] _ _ _ _ (said12 hlaw) (fun _ h=>by cases h) (by kernel_rfl) (fun _ h=>by cases h) meshChangesUpto_row_tie rfl ⟨rfl,rfl⟩ (by kernel_rfl) rfl (plain12 hlaw) (by kernel_rfl)
end
end Go.Proofs.YthociffnlhdenaaGreatDoor
