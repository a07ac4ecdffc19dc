import Derived.Test.YtkghjijnlnnfkaaGreatDoorG24
set_option linter.unusedSectionVars false
set_option linter.unusedVariables false
set_option linter.unusedSimpArgs false
namespace Go.Proofs.YtkghjijnlnnfkaaGreatDoor
open Go.ChangeShapes Go.WideShapes Go.ChangeAt Go.RowKit Vc
def wit11:Array Value:=#[.agg #[.bool false,.bool false,.slice none 0 0],.string ⟨#[]⟩,.int .i64 0]
theorem laid_met11 (os:Os):laidMetH Tryz.prog Rows.creditOrdersUptoRow.laid ((laidWorld os).forCall (fun _ _=>0) ⟨#[],wit11,[]⟩).memory :=
 laidMetH_of_parts3 (fuel:=8) (laidMet_of_run' 8 (by kernel_rfl) (by kernel_rfl)) (by kernel_rfl) (by kernel_rfl)
noncomputable def rd11 {H:Type}:List (DataW H):=[.agg [.lit (.bool false),.lit (.bool false),.nil],.lit (.string []),.lit (.int .i64 0)]
theorem reads11 (os:Os) {H:Type} (enc:TypeId × Value→H):∃ places,DataW.whole enc Tryz.prog ((laidWorld os).forCall (fun _ _=>0) ⟨#[],wit11,[]⟩).memory Tryz.f11.params.toList Rows.creditOrdersSpec.vars false wit11.toList 8=some (rd11,[],places) :=
 ⟨[],by kernel_rfl⟩
def at11:List AT:=[(true,[.bool,.bool,.sl true [.str,.int .i64]]),(false,[.str]),(false,[.int .i64])]
theorem chk11:chkAs Tryz.prog Tryz.f11.params.toList at11=true:=by kernel_rfl
theorem rt11:Tryz.f11.resultTypes=#[4]:=by kernel_rfl
theorem fnm11:Tryz.pinned.checked.prog.funcNamed Rows.creditOrdersUptoRow.func=some 11:=by kernel_rfl
theorem jp11:(Rows.creditOrdersUptoRow.inPlace==Tryz.pinned.checked.prog.inPlace 11)=true:=by kernel_rfl
theorem ju11:(Rows.creditOrdersUptoRow.unfollowed==Tryz.pinned.checked.prog.unfollowed 11)=true:=by kernel_rfl
theorem jr11:(Rows.creditOrdersUptoRow.recurses==Tryz.pinned.checked.prog.recurses 11)=true:=by kernel_rfl
theorem jn11:(Rows.creditOrdersUptoRow.named==Tryz.pinned.checked.prog.varsNamed 11)=true:=by kernel_rfl
theorem jl11:(Rows.creditOrdersUptoRow.lifted==Tryz.pinned.checked.prog.liftsFinal)=true:=lift0
theorem jf11:joinedFacts Tryz.pinned.checked.prog 11 Tryz.f11 (Rows.OpenSpec.upto Rows.creditOrdersSpec).bare Rows.creditOrdersUptoRow=true:=by
 unfold joinedFacts
 rw [jp11,ju11,jr11,jn11,jl11,may0,out0]
 kernel_rfl
theorem inst11:Tryz.f11.isInstance Tryz.pinned.checked.prog Rows.creditOrdersUptoRow.origin Rows.creditOrdersUptoRow.targs:=of_decide_eq_true (by kernel_rfl)
theorem wrap11:Tryz.f11.isWrapper Tryz.pinned.checked.prog Rows.creditOrdersUptoRow.wrapper Rows.creditOrdersUptoRow.mainSum:=by unfold Func.isWrapper; first | (rw [if_pos (by decide +kernel)]; kernel_rfl) | (rw [if_neg (by decide +kernel)]; exact ⟨rfl,rfl⟩)
section
variable (hlaw : ∀ xs, FitAs at11 xs → wgts xs ≤ 1048576 → CallDet Tryz.prog 11 (xs.map .d) [.bool true])
include hlaw
set_option maxRecDepth 100000 in
theorem lifted11 (os : Os) (started : os.Started) (H : Type) (enc : TypeId × Value → H) (F : Stop.Interp) :
  ReturnsInHanded {} Tryz.checked os 11 .any ((Rows.OpenSpec.upto Rows.creditOrdersSpec).preRow enc Tryz.prog Tryz.f11 Rows.creditOrdersUptoRow.domain false Rows.creditOrdersUptoRow.laid) (((Rows.OpenSpec.upto Rows.creditOrdersSpec).at F).post enc Tryz.prog Tryz.f11 false true false false):=by
 obtain ⟨places,hx⟩:=reads11 os enc
 refine returnsInHanded_of_row (C:=Tryz.checked) (s:=Rows.OpenSpec.upto Rows.creditOrdersSpec) own started (by kernel_rfl) Tryz.func11
  (witness_row_at (enc:=enc) (C:=Tryz.checked) false (laidWorld os) wit11 rfl (by kernel_rfl) (by kernel_rfl) (by kernel_rfl)
   (OpenSpec.preRow_of_cond 8 hx (by kernel_rfl) (fun k hk=>by cases hk; kernel_rfl) (by kernel_rfl) (laid_met11 os))) ?_
 intro W base args ds gs before hval hW _ hcond _ hL _ _
 refine law_calls (s:=Rows.creditOrdersSpec) laidOut chk11 rt11 Tryz.underlying4 rfl (fun ds hds=>?_) hlaw hval hW ?_ (glob hL (.tail _ (.tail _ (.head _))))
 ·match ds,hds with
  | [d1,d2,d3],_=>rfl
  | [],h | [_],h | [_,_],h | _::_::_::_::_,h=>simp [Tryz.params11] at h
 ·have h:=hcond _ rfl
  have h2:=bulks_le (ds++gs)
  simp only [Rows.uptoSmall,decide_eq_true_eq] at h
  omega
theorem said11:Rows.CreditOrdersUptoSaid :=
 OpenClaim.holds_of_cond 11 Tryz.f11 rfl rfl rfl rfl rfl rfl rfl ⟨rfl,rfl,rfl,rfl,rfl⟩ rfl rfl rfl rfl rfl fnm11 Tryz.func11 jf11
  inst11 wrap11
  (fun os started H enc _ F=>by rw [OpenClaim.pre_eq_preRow]; exact lifted11 hlaw os started H enc F)
theorem plain11 (f : FuncId) (fn : Func) (hf : Tryz.pinned.checked.prog.funcNamed Tryz.f11.name = some f) (hfn : Tryz.pinned.checked.prog.funcs[f]? = some fn) :
  false=Tryz.pinned.checked.prog.looks []∧∀ (j:Nat) t,fn.params[j]?=some t→Tryz.pinned.checked.prog.wantsStandIn t=false:=by
 obtain rfl:f=11:=Option.some.inj ((show Tryz.prog.funcNamed Tryz.f11.name=some 11 by kernel_rfl).symm.trans hf) |>.symm
 obtain rfl:fn=Tryz.f11:=(Option.some.inj (Tryz.func11.symm.trans hfn)).symm
 refine ⟨by kernel_rfl,fun j t ht=>?_⟩
 rw [Tryz.params11] at ht
 match j,ht with
 | 0,ht=>cases ht; exact (show Tryz.prog.wantsStandIn 98=false by kernel_rfl)
 | 1,ht=>cases ht; exact (show Tryz.prog.wantsStandIn 9=false by kernel_rfl)
 | 2,ht=>cases ht; exact (show Tryz.prog.wantsStandIn 3=false by kernel_rfl)
theorem card11:Rows.CreditOrdersUptoCardSaid :=
 Claim7.holds_tied_plain_at .later [] _ _ _ _ (said11 hlaw) (fun _ h=>by cases h) (by kernel_rfl) (fun _ h=>by cases h) creditOrdersUpto_row_tie rfl ⟨rfl,rfl⟩ (by kernel_rfl) rfl (plain11 hlaw) (by kernel_rfl)
end
end Go.Proofs.YtkghjijnlnnfkaaGreatDoor
