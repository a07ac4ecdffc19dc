import Derived.Test.YtmjbifmndhianaaGreatDoorG25
set_option linter.unusedSectionVars false
set_option linter.unusedVariables false
set_option linter.unusedSimpArgs false
namespace Go.Proofs.YtmjbifmndhianaaGreatDoor
open Go.ChangeShapes Go.WideShapes Go.ChangeAt Go.RowKit Vc
def wit8:Array Value:=#[.agg #[.int .i64 0,.int .i64 0,.int .i64 0,.int .i64 0,.int .u8 0,.int .u8 0,.int .u8 0,.int .u8 0,.int .u8 0,.int .u8 0,.int .u8 0,.int .u8 0,.int .u8 0,.int .u8 0,.int .u8 0,.int .u8 0,.int .u8 0,.int .u8 0,.int .u8 0,.int .u8 0,.bool false,.slice none 0 0],.slice none 0 0,.agg #[.int .u8 0,.int .u8 0,.int .u8 0]]
theorem laid_met8 (os:Os):laidMetH Tryz.prog Rows.creditOnceUptoRow.laid ((laidWorld os).forCall (fun _ _=>0) ⟨#[],wit8,[]⟩).memory :=
 laidMetH_of_parts3 (fuel:=8) (laidMet_of_run' 8 (by kernel_rfl) (by kernel_rfl)) (by kernel_rfl) (by kernel_rfl)
noncomputable def rd8 {H:Type}:List (DataW H):=[.agg [.lit (.int .i64 0),.lit (.int .i64 0),.lit (.int .i64 0),.lit (.int .i64 0),.agg [.lit (.int .u8 0),.lit (.int .u8 0),.lit (.int .u8 0),.lit (.int .u8 0),.lit (.int .u8 0),.lit (.int .u8 0),.lit (.int .u8 0),.lit (.int .u8 0)],.agg [.lit (.int .u8 0),.lit (.int .u8 0),.lit (.int .u8 0),.lit (.int .u8 0),.lit (.int .u8 0),.lit (.int .u8 0),.lit (.int .u8 0),.lit (.int .u8 0)],.lit (.bool false),.nil],.nil,.agg [.lit (.int .u8 0),.lit (.int .u8 0),.lit (.int .u8 0)]]
theorem reads8 (os:Os) {H:Type} (enc:TypeId × Value→H):∃ places,DataW.whole enc Tryz.prog ((laidWorld os).forCall (fun _ _=>0) ⟨#[],wit8,[]⟩).memory Tryz.f8.params.toList Rows.creditOnceSpec.vars false wit8.toList 8=some (rd8,[],places) :=
 ⟨[],by kernel_rfl⟩
def at8:List AT:=[(true,[.int .i64,.int .i64,.int .i64,.int .i64,.int .u8,.int .u8,.int .u8,.int .u8,.int .u8,.int .u8,.int .u8,.int .u8,.int .u8,.int .u8,.int .u8,.int .u8,.int .u8,.int .u8,.int .u8,.int .u8,.bool,.sl false [.int .i64]]),(false,[.sl true [.int .u16,.int .u16]]),(true,[.int .u8,.int .u8,.int .u8])]
theorem chk8:chkAs Tryz.prog Tryz.f8.params.toList at8=true:=by kernel_rfl
theorem rt8:Tryz.f8.resultTypes=#[4]:=by kernel_rfl
theorem fnm8:Tryz.pinned.checked.prog.funcNamed Rows.creditOnceUptoRow.func=some 8:=by kernel_rfl
theorem jp8:(Rows.creditOnceUptoRow.inPlace==Tryz.pinned.checked.prog.inPlace 8)=true:=by kernel_rfl
theorem ju8:(Rows.creditOnceUptoRow.unfollowed==Tryz.pinned.checked.prog.unfollowed 8)=true:=by kernel_rfl
theorem jr8:(Rows.creditOnceUptoRow.recurses==Tryz.pinned.checked.prog.recurses 8)=true:=by kernel_rfl
theorem jn8:(Rows.creditOnceUptoRow.named==Tryz.pinned.checked.prog.varsNamed 8)=true:=by kernel_rfl
theorem jl8:(Rows.creditOnceUptoRow.lifted==Tryz.pinned.checked.prog.liftsFinal)=true:=lift0
theorem jf8:joinedFacts Tryz.pinned.checked.prog 8 Tryz.f8 (Rows.OpenSpec.upto Rows.creditOnceSpec).bare Rows.creditOnceUptoRow=true:=by
 unfold joinedFacts
 rw [jp8,ju8,jr8,jn8,jl8,may0,out0]
 kernel_rfl
theorem inst8:Tryz.f8.isInstance Tryz.pinned.checked.prog Rows.creditOnceUptoRow.origin Rows.creditOnceUptoRow.targs:=of_decide_eq_true (by kernel_rfl)
theorem wrap8:Tryz.f8.isWrapper Tryz.pinned.checked.prog Rows.creditOnceUptoRow.wrapper Rows.creditOnceUptoRow.mainSum:=by unfold Func.isWrapper; first | (rw [if_pos (by decide +kernel)]; kernel_rfl) | (rw [if_neg (by decide +kernel)]; exact ⟨rfl,rfl⟩)
section
variable (hlaw : ∀ xs, FitAs at8 xs → wgts xs ≤ 1048576 → CallDet Tryz.prog 8 (xs.map .d) [.bool true])
include hlaw
set_option maxRecDepth 100000 in
theorem lifted8 (os : Os) (started : os.Started) (H : Type) (enc : TypeId × Value → H) (F : Stop.Interp) :
  ReturnsInHanded {} Tryz.checked os 8 .any ((Rows.OpenSpec.upto Rows.creditOnceSpec).preRow enc Tryz.prog Tryz.f8 Rows.creditOnceUptoRow.domain false Rows.creditOnceUptoRow.laid) (((Rows.OpenSpec.upto Rows.creditOnceSpec).at F).post enc Tryz.prog Tryz.f8 false true false false):=by
 obtain ⟨places,hx⟩:=reads8 os enc
 refine returnsInHanded_of_row (C:=Tryz.checked) (s:=Rows.OpenSpec.upto Rows.creditOnceSpec) own started (by kernel_rfl) Tryz.func8
  (witness_row_at (enc:=enc) (C:=Tryz.checked) false (laidWorld os) wit8 rfl (by kernel_rfl) (by kernel_rfl) (by kernel_rfl)
   (OpenSpec.preRow_of_cond 8 hx (by kernel_rfl) (fun k hk=>by cases hk; kernel_rfl) (by kernel_rfl) (laid_met8 os))) ?_
 intro W base args ds gs before hval hW _ hcond _ hL _ _
 refine law_calls (s:=Rows.creditOnceSpec) laidOut chk8 rt8 Tryz.underlying4 rfl (fun ds hds=>?_) hlaw hval hW ?_ (glob hL (.tail _ (.tail _ (.head _))))
 ·match ds,hds with
  | [d1,d2,d3],_=>rfl
  | [],h | [_],h | [_,_],h | _::_::_::_::_,h=>simp [Tryz.params8] at h
 ·have h:=hcond _ rfl
  have h2:=bulks_le (ds++gs)
  simp only [Rows.uptoSmall,decide_eq_true_eq] at h
  omega
theorem said8:Rows.CreditOnceUptoSaid :=
 OpenClaim.holds_of_cond 8 Tryz.f8 rfl rfl rfl rfl rfl rfl rfl ⟨rfl,rfl,rfl,rfl,rfl⟩ rfl rfl rfl rfl rfl fnm8 Tryz.func8 jf8
  inst8 wrap8
  (fun os started H enc _ F=>by rw [OpenClaim.pre_eq_preRow]; exact lifted8 hlaw os started H enc F)
theorem plain8 (f : FuncId) (fn : Func) (hf : Tryz.pinned.checked.prog.funcNamed Tryz.f8.name = some f) (hfn : Tryz.pinned.checked.prog.funcs[f]? = some fn) :
  false=Tryz.pinned.checked.prog.looks []∧∀ (j:Nat) t,fn.params[j]?=some t→Tryz.pinned.checked.prog.wantsStandIn t=false:=by
 obtain rfl:f=8:=Option.some.inj ((show Tryz.prog.funcNamed Tryz.f8.name=some 8 by kernel_rfl).symm.trans hf) |>.symm
 obtain rfl:fn=Tryz.f8:=(Option.some.inj (Tryz.func8.symm.trans hfn)).symm
 refine ⟨by kernel_rfl,fun j t ht=>?_⟩
 rw [Tryz.params8] at ht
 match j,ht with
 | 0,ht=>cases ht; exact (show Tryz.prog.wantsStandIn 26=false by kernel_rfl)
 | 1,ht=>cases ht; exact (show Tryz.prog.wantsStandIn 117=false by kernel_rfl)
 | 2,ht=>cases ht; exact (show Tryz.prog.wantsStandIn 118=false by kernel_rfl)
theorem card8:Rows.CreditOnceUptoCardSaid :=
 Claim7.holds_tied_plain_at .later [] _ _ _ _ (said8 hlaw) (fun _ h=>by cases h) (by kernel_rfl) (fun _ h=>by cases h) creditOnceUpto_row_tie rfl ⟨rfl,rfl⟩ (by kernel_rfl) rfl (plain8 hlaw) (by kernel_rfl)
end
end Go.Proofs.YtmjbifmndhianaaGreatDoor
