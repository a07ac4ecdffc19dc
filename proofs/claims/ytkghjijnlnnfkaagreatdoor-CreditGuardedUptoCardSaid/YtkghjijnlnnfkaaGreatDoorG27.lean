import Derived.Test.YtkghjijnlnnfkaaGreatDoorG26
set_option linter.unusedSectionVars false
set_option linter.unusedVariables false
set_option linter.unusedSimpArgs false
namespace Go.Proofs.YtkghjijnlnnfkaaGreatDoor
open Go.ChangeShapes Go.WideShapes Go.ChangeAt Go.RowKit Vc
def wit10:Array Value:=#[.agg #[.int .i64 0,.int .i64 0,.int .i64 0,.int .i64 0,.int .u8 0,.int .u8 0,.int .u8 0,.int .u8 0,.int .u8 0,.int .u8 0,.int .u8 0,.int .u8 0,.int .u8 0,.int .u8 0,.int .u8 0,.int .u8 0,.int .u8 0,.int .u8 0,.int .u8 0,.int .u8 0,.bool false,.slice none 0 0],.slice none 0 0,.agg #[.int .u32 0,.int .u32 0,.int .u32 0]]
theorem laid_met10 (os:Os):laidMetH Tryz.prog Rows.creditGuardedUptoRow.laid ((laidWorld os).forCall (fun _ _=>0) ⟨#[],wit10,[]⟩).memory :=
 laidMetH_of_parts3 (fuel:=8) (laidMet_of_run' 8 (by kernel_rfl) (by kernel_rfl)) (by kernel_rfl) (by kernel_rfl)
noncomputable def rd10 {H:Type}:List (DataW H):=[.agg [.lit (.int .i64 0),.lit (.int .i64 0),.lit (.int .i64 0),.lit (.int .i64 0),.agg [.lit (.int .u8 0),.lit (.int .u8 0),.lit (.int .u8 0),.lit (.int .u8 0),.lit (.int .u8 0),.lit (.int .u8 0),.lit (.int .u8 0),.lit (.int .u8 0)],.agg [.lit (.int .u8 0),.lit (.int .u8 0),.lit (.int .u8 0),.lit (.int .u8 0),.lit (.int .u8 0),.lit (.int .u8 0),.lit (.int .u8 0),.lit (.int .u8 0)],.lit (.bool false),.nil],.nil,.agg [.lit (.int .u32 0),.lit (.int .u32 0),.lit (.int .u32 0)]]
theorem reads10 (os:Os) {H:Type} (enc:TypeId × Value→H):∃ places,DataW.whole enc Tryz.prog ((laidWorld os).forCall (fun _ _=>0) ⟨#[],wit10,[]⟩).memory Tryz.f10.params.toList Rows.creditGuardedSpec.vars false wit10.toList 8=some (rd10,[],places) :=
 ⟨[],by kernel_rfl⟩
def at10:List AT:=[(true,[.int .i64,.int .i64,.int .i64,.int .i64,.int .u8,.int .u8,.int .u8,.int .u8,.int .u8,.int .u8,.int .u8,.int .u8,.int .u8,.int .u8,.int .u8,.int .u8,.int .u8,.int .u8,.int .u8,.int .u8,.bool,.sl false [.int .i64]]),(false,[.sl true [.bool,.bool,.bool,.bool,.bool,.bool,.bool,.int .i64,.int .i64]]),(true,[.int .u32,.int .u32,.int .u32])]
theorem chk10:chkAs Tryz.prog Tryz.f10.params.toList at10=true:=by kernel_rfl
theorem rt10:Tryz.f10.resultTypes=#[4]:=by kernel_rfl
theorem fnm10:Tryz.pinned.checked.prog.funcNamed Rows.creditGuardedUptoRow.func=some 10:=by kernel_rfl
theorem jp10:(Rows.creditGuardedUptoRow.inPlace==Tryz.pinned.checked.prog.inPlace 10)=true:=by kernel_rfl
theorem ju10:(Rows.creditGuardedUptoRow.unfollowed==Tryz.pinned.checked.prog.unfollowed 10)=true:=by kernel_rfl
theorem jr10:(Rows.creditGuardedUptoRow.recurses==Tryz.pinned.checked.prog.recurses 10)=true:=by kernel_rfl
theorem jn10:(Rows.creditGuardedUptoRow.named==Tryz.pinned.checked.prog.varsNamed 10)=true:=by kernel_rfl
theorem jl10:(Rows.creditGuardedUptoRow.lifted==Tryz.pinned.checked.prog.liftsFinal)=true:=lift0
theorem jf10:joinedFacts Tryz.pinned.checked.prog 10 Tryz.f10 (Rows.OpenSpec.upto Rows.creditGuardedSpec).bare Rows.creditGuardedUptoRow=true:=by
 unfold joinedFacts
 rw [jp10,ju10,jr10,jn10,jl10,may0,out0]
 kernel_rfl
theorem inst10:Tryz.f10.isInstance Tryz.pinned.checked.prog Rows.creditGuardedUptoRow.origin Rows.creditGuardedUptoRow.targs:=of_decide_eq_true (by kernel_rfl)
theorem wrap10:Tryz.f10.isWrapper Tryz.pinned.checked.prog Rows.creditGuardedUptoRow.wrapper Rows.creditGuardedUptoRow.mainSum:=by unfold Func.isWrapper; first | (rw [if_pos (by decide +kernel)]; kernel_rfl) | (rw [if_neg (by decide +kernel)]; exact ⟨rfl,rfl⟩)
section
variable (hlaw : ∀ xs, FitAs at10 xs → wgts xs ≤ 1048576 → CallDet Tryz.prog 10 (xs.map .d) [.bool true])
include hlaw
set_option maxRecDepth 100000 in
theorem lifted10 (os : Os) (started : os.Started) (H : Type) (enc : TypeId × Value → H) (F : Stop.Interp) :
  ReturnsInHanded {} Tryz.checked os 10 .any ((Rows.OpenSpec.upto Rows.creditGuardedSpec).preRow enc Tryz.prog Tryz.f10 Rows.creditGuardedUptoRow.domain false Rows.creditGuardedUptoRow.laid) (((Rows.OpenSpec.upto Rows.creditGuardedSpec).at F).post enc Tryz.prog Tryz.f10 false true false false):=by
 obtain ⟨places,hx⟩:=reads10 os enc
 refine returnsInHanded_of_row (C:=Tryz.checked) (s:=Rows.OpenSpec.upto Rows.creditGuardedSpec) own started (by kernel_rfl) Tryz.func10
  (witness_row_at (enc:=enc) (C:=Tryz.checked) false (laidWorld os) wit10 rfl (by kernel_rfl) (by kernel_rfl) (by kernel_rfl)
   (OpenSpec.preRow_of_cond 8 hx (by kernel_rfl) (fun k hk=>by cases hk; kernel_rfl) (by kernel_rfl) (laid_met10 os))) ?_
 intro W base args ds gs before hval hW _ hcond _ hL _ _
 refine law_calls (s:=Rows.creditGuardedSpec) laidOut chk10 rt10 Tryz.underlying4 rfl (fun ds hds=>?_) hlaw hval hW ?_ (glob hL (.tail _ (.tail _ (.head _))))
 ·match ds,hds with
  | [d1,d2,d3],_=>rfl
  | [],h | [_],h | [_,_],h | _::_::_::_::_,h=>simp [Tryz.params10] at h
 ·have h:=hcond _ rfl
  have h2:=bulks_le (ds++gs)
  simp only [Rows.uptoSmall,decide_eq_true_eq] at h
  omega
theorem said10:Rows.CreditGuardedUptoSaid :=
 OpenClaim.holds_of_cond 10 Tryz.f10 rfl rfl rfl rfl rfl rfl rfl ⟨rfl,rfl,rfl,rfl,rfl⟩ rfl rfl rfl rfl rfl fnm10 Tryz.func10 jf10
  inst10 wrap10
  (fun os started H enc _ F=>by rw [OpenClaim.pre_eq_preRow]; exact lifted10 hlaw os started H enc F)
theorem plain10 (f : FuncId) (fn : Func) (hf : Tryz.pinned.checked.prog.funcNamed Tryz.f10.name = some f) (hfn : Tryz.pinned.checked.prog.funcs[f]? = some fn) :
  false=Tryz.pinned.checked.prog.looks []∧∀ (j:Nat) t,fn.params[j]?=some t→Tryz.pinned.checked.prog.wantsStandIn t=false:=by
 obtain rfl:f=10:=Option.some.inj ((show Tryz.prog.funcNamed Tryz.f10.name=some 10 by kernel_rfl).symm.trans hf) |>.symm
 obtain rfl:fn=Tryz.f10:=(Option.some.inj (Tryz.func10.symm.trans hfn)).symm
 refine ⟨by kernel_rfl,fun j t ht=>?_⟩
 rw [Tryz.params10] at ht
 match j,ht with
 | 0,ht=>cases ht; exact (show Tryz.prog.wantsStandIn 26=false by kernel_rfl)
 | 1,ht=>cases ht; exact (show Tryz.prog.wantsStandIn 81=false by kernel_rfl)
 | 2,ht=>cases ht; exact (show Tryz.prog.wantsStandIn 129=false by kernel_rfl)
theorem card10:Rows.CreditGuardedUptoCardSaid :=
 Claim7.holds_tied_plain_at .later [] _ _ _ _ (said10 hlaw) (fun _ h=>by cases h) (by kernel_rfl) (fun _ h=>by cases h) creditGuardedUpto_row_tie rfl ⟨rfl,rfl⟩ (by kernel_rfl) rfl (plain10 hlaw) (by kernel_rfl)
end
end Go.Proofs.YtkghjijnlnnfkaaGreatDoor
