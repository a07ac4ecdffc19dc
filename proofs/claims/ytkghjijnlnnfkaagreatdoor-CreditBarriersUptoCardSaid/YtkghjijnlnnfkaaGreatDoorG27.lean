import Derived.Test.YtkghjijnlnnfkaaGreatDoorG26
set_option linter.unusedSectionVars false
set_option linter.unusedVariables false
set_option linter.unusedSimpArgs false
namespace Go.Proofs.YtkghjijnlnnfkaaGreatDoor
open Go.ChangeShapes Go.WideShapes Go.ChangeAt Go.RowKit Vc
def wit7:Array Value:=#[.agg #[.bool false,.bool false,.slice none 0 0],.slice none 0 0,.agg #[.int .i64 0,.int .i64 0]]
theorem laid_met7 (os:Os):laidMetH Tryz.prog Rows.creditBarriersUptoRow.laid ((laidWorld os).forCall (fun _ _=>0) ⟨#[],wit7,[]⟩).memory :=
 laidMetH_of_parts3 (fuel:=8) (laidMet_of_run' 8 (by kernel_rfl) (by kernel_rfl)) (by kernel_rfl) (by kernel_rfl)
noncomputable def rd7 {H:Type}:List (DataW H):=[.agg [.lit (.bool false),.lit (.bool false),.nil],.nil,.agg [.lit (.int .i64 0),.lit (.int .i64 0)]]
theorem reads7 (os:Os) {H:Type} (enc:TypeId × Value→H):∃ places,DataW.whole enc Tryz.prog ((laidWorld os).forCall (fun _ _=>0) ⟨#[],wit7,[]⟩).memory Tryz.f7.params.toList Rows.creditBarriersSpec.vars false wit7.toList 8=some (rd7,[],places) :=
 ⟨[],by kernel_rfl⟩
def at7:List AT:=[(true,[.bool,.bool,.sl true [.str,.int .i64]]),(false,[.sl true [.bool,.bool,.bool,.bool,.bool,.bool,.bool,.int .i64,.int .i64]]),(true,[.int .i64,.int .i64])]
theorem chk7:chkAs Tryz.prog Tryz.f7.params.toList at7=true:=by kernel_rfl
theorem rt7:Tryz.f7.resultTypes=#[4]:=by kernel_rfl
theorem fnm7:Tryz.pinned.checked.prog.funcNamed Rows.creditBarriersUptoRow.func=some 7:=by kernel_rfl
theorem jp7:(Rows.creditBarriersUptoRow.inPlace==Tryz.pinned.checked.prog.inPlace 7)=true:=by kernel_rfl
theorem ju7:(Rows.creditBarriersUptoRow.unfollowed==Tryz.pinned.checked.prog.unfollowed 7)=true:=by kernel_rfl
theorem jr7:(Rows.creditBarriersUptoRow.recurses==Tryz.pinned.checked.prog.recurses 7)=true:=by kernel_rfl
theorem jn7:(Rows.creditBarriersUptoRow.named==Tryz.pinned.checked.prog.varsNamed 7)=true:=by kernel_rfl
theorem jl7:(Rows.creditBarriersUptoRow.lifted==Tryz.pinned.checked.prog.liftsFinal)=true:=lift0
theorem jf7:joinedFacts Tryz.pinned.checked.prog 7 Tryz.f7 (Rows.OpenSpec.upto Rows.creditBarriersSpec).bare Rows.creditBarriersUptoRow=true:=by
 unfold joinedFacts
 rw [jp7,ju7,jr7,jn7,jl7,may0,out0]
 kernel_rfl
theorem inst7:Tryz.f7.isInstance Tryz.pinned.checked.prog Rows.creditBarriersUptoRow.origin Rows.creditBarriersUptoRow.targs:=of_decide_eq_true (by kernel_rfl)
theorem wrap7:Tryz.f7.isWrapper Tryz.pinned.checked.prog Rows.creditBarriersUptoRow.wrapper Rows.creditBarriersUptoRow.mainSum:=by unfold Func.isWrapper; first | (rw [if_pos (by decide +kernel)]; kernel_rfl) | (rw [if_neg (by decide +kernel)]; exact ⟨rfl,rfl⟩)
section
variable (hlaw : ∀ xs, FitAs at7 xs → wgts xs ≤ 1048576 → CallDet Tryz.prog 7 (xs.map .d) [.bool true])
include hlaw
set_option maxRecDepth 100000 in
theorem lifted7 (os : Os) (started : os.Started) (H : Type) (enc : TypeId × Value → H) (F : Stop.Interp) :
  ReturnsInHanded {} Tryz.checked os 7 .any ((Rows.OpenSpec.upto Rows.creditBarriersSpec).preRow enc Tryz.prog Tryz.f7 Rows.creditBarriersUptoRow.domain false Rows.creditBarriersUptoRow.laid) (((Rows.OpenSpec.upto Rows.creditBarriersSpec).at F).post enc Tryz.prog Tryz.f7 false true false false):=by
 obtain ⟨places,hx⟩:=reads7 os enc
 refine returnsInHanded_of_row (C:=Tryz.checked) (s:=Rows.OpenSpec.upto Rows.creditBarriersSpec) own started (by kernel_rfl) Tryz.func7
  (witness_row_at (enc:=enc) (C:=Tryz.checked) false (laidWorld os) wit7 rfl (by kernel_rfl) (by kernel_rfl) (by kernel_rfl)
   (OpenSpec.preRow_of_cond 8 hx (by kernel_rfl) (fun k hk=>by cases hk; kernel_rfl) (by kernel_rfl) (laid_met7 os))) ?_
 intro W base args ds gs before hval hW _ hcond _ hL _ _
 refine law_calls (s:=Rows.creditBarriersSpec) laidOut chk7 rt7 Tryz.underlying4 rfl (fun ds hds=>?_) hlaw hval hW ?_ (glob hL (.tail _ (.tail _ (.head _))))
 ·match ds,hds with
  | [d1,d2,d3],_=>rfl
  | [],h | [_],h | [_,_],h | _::_::_::_::_,h=>simp [Tryz.params7] at h
 ·have h:=hcond _ rfl
  have h2:=bulks_le (ds++gs)
  simp only [Rows.uptoSmall,decide_eq_true_eq] at h
  omega
theorem said7:Rows.CreditBarriersUptoSaid :=
 OpenClaim.holds_of_cond 7 Tryz.f7 rfl rfl rfl rfl rfl rfl rfl ⟨rfl,rfl,rfl,rfl,rfl⟩ rfl rfl rfl rfl rfl fnm7 Tryz.func7 jf7
  inst7 wrap7
  (fun os started H enc _ F=>by rw [OpenClaim.pre_eq_preRow]; exact lifted7 hlaw os started H enc F)
theorem plain7 (f : FuncId) (fn : Func) (hf : Tryz.pinned.checked.prog.funcNamed Tryz.f7.name = some f) (hfn : Tryz.pinned.checked.prog.funcs[f]? = some fn) :
  false=Tryz.pinned.checked.prog.looks []∧∀ (j:Nat) t,fn.params[j]?=some t→Tryz.pinned.checked.prog.wantsStandIn t=false:=by
 obtain rfl:f=7:=Option.some.inj ((show Tryz.prog.funcNamed Tryz.f7.name=some 7 by kernel_rfl).symm.trans hf) |>.symm
 obtain rfl:fn=Tryz.f7:=(Option.some.inj (Tryz.func7.symm.trans hfn)).symm
 refine ⟨by kernel_rfl,fun j t ht=>?_⟩
 rw [Tryz.params7] at ht
 match j,ht with
 | 0,ht=>cases ht; exact (show Tryz.prog.wantsStandIn 98=false by kernel_rfl)
 | 1,ht=>cases ht; exact (show Tryz.prog.wantsStandIn 81=false by kernel_rfl)
 | 2,ht=>cases ht; exact (show Tryz.prog.wantsStandIn 82=false by kernel_rfl)
theorem card7:Rows.CreditBarriersUptoCardSaid :=
 Claim7.holds_tied_plain_at .later [] _ _ _ _ (said7 hlaw) (fun _ h=>by cases h) (by kernel_rfl) (fun _ h=>by cases h) creditBarriersUpto_row_tie rfl ⟨rfl,rfl⟩ (by kernel_rfl) rfl (plain7 hlaw) (by kernel_rfl)
end
end Go.Proofs.YtkghjijnlnnfkaaGreatDoor
