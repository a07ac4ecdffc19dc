import Derived.Test.YtmjbifmndhianaaGreatDoorG25
set_option linter.unusedSectionVars false
set_option linter.unusedVariables false
set_option linter.unusedSimpArgs false
namespace Go.Proofs.YtmjbifmndhianaaGreatDoor
open Go.ChangeShapes Go.WideShapes Go.ChangeAt Go.RowKit Vc
def wit9:Array Value:=#[.agg #[.int .i64 0,.int .i64 0,.int .i64 0,.int .i64 0,.int .u8 0,.int .u8 0,.int .u8 0,.int .u8 0,.int .u8 0,.int .u8 0,.int .u8 0,.int .u8 0,.int .u8 0,.int .u8 0,.int .u8 0,.int .u8 0,.int .u8 0,.int .u8 0,.int .u8 0,.int .u8 0,.bool false,.slice none 0 0],.agg #[.int .u8 0,.int .u8 0,.int .u8 0,.int .u8 0,.int .u8 0,.int .u8 0,.int .u8 0,.int .u8 0],.int .u16 0]
theorem laid_met9 (os:Os):laidMetH Tryz.prog Rows.creditPhasesUptoRow.laid ((laidWorld os).forCall (fun _ _=>0) ⟨#[],wit9,[]⟩).memory :=
 laidMetH_of_parts3 (fuel:=8) (laidMet_of_run' 8 (by kernel_rfl) (by kernel_rfl)) (by kernel_rfl) (by kernel_rfl)
noncomputable def rd9 {H:Type}:List (DataW H):=[.agg [.lit (.int .i64 0),.lit (.int .i64 0),.lit (.int .i64 0),.lit (.int .i64 0),.agg [.lit (.int .u8 0),.lit (.int .u8 0),.lit (.int .u8 0),.lit (.int .u8 0),.lit (.int .u8 0),.lit (.int .u8 0),.lit (.int .u8 0),.lit (.int .u8 0)],.agg [.lit (.int .u8 0),.lit (.int .u8 0),.lit (.int .u8 0),.lit (.int .u8 0),.lit (.int .u8 0),.lit (.int .u8 0),.lit (.int .u8 0),.lit (.int .u8 0)],.lit (.bool false),.nil],.agg [.lit (.int .u8 0),.lit (.int .u8 0),.lit (.int .u8 0),.lit (.int .u8 0),.lit (.int .u8 0),.lit (.int .u8 0),.lit (.int .u8 0),.lit (.int .u8 0)],.lit (.int .u16 0)]
theorem reads9 (os:Os) {H:Type} (enc:TypeId × Value→H):∃ places,DataW.whole enc Tryz.prog ((laidWorld os).forCall (fun _ _=>0) ⟨#[],wit9,[]⟩).memory Tryz.f9.params.toList Rows.creditPhasesSpec.vars false wit9.toList 8=some (rd9,[],places) :=
 ⟨[],by kernel_rfl⟩
def at9:List AT:=[(true,[.int .i64,.int .i64,.int .i64,.int .i64,.int .u8,.int .u8,.int .u8,.int .u8,.int .u8,.int .u8,.int .u8,.int .u8,.int .u8,.int .u8,.int .u8,.int .u8,.int .u8,.int .u8,.int .u8,.int .u8,.bool,.sl false [.int .i64]]),(true,[.int .u8,.int .u8,.int .u8,.int .u8,.int .u8,.int .u8,.int .u8,.int .u8]),(false,[.int .u16])]
theorem chk9:chkAs Tryz.prog Tryz.f9.params.toList at9=true:=by kernel_rfl
theorem rt9:Tryz.f9.resultTypes=#[4]:=by kernel_rfl
theorem fnm9:Tryz.pinned.checked.prog.funcNamed Rows.creditPhasesUptoRow.func=some 9:=by kernel_rfl
theorem jp9:(Rows.creditPhasesUptoRow.inPlace==Tryz.pinned.checked.prog.inPlace 9)=true:=by kernel_rfl
theorem ju9:(Rows.creditPhasesUptoRow.unfollowed==Tryz.pinned.checked.prog.unfollowed 9)=true:=by kernel_rfl
theorem jr9:(Rows.creditPhasesUptoRow.recurses==Tryz.pinned.checked.prog.recurses 9)=true:=by kernel_rfl
theorem jn9:(Rows.creditPhasesUptoRow.named==Tryz.pinned.checked.prog.varsNamed 9)=true:=by kernel_rfl
theorem jl9:(Rows.creditPhasesUptoRow.lifted==Tryz.pinned.checked.prog.liftsFinal)=true:=lift0
theorem jf9:joinedFacts Tryz.pinned.checked.prog 9 Tryz.f9 (Rows.OpenSpec.upto Rows.creditPhasesSpec).bare Rows.creditPhasesUptoRow=true:=by
 unfold joinedFacts
 rw [jp9,ju9,jr9,jn9,jl9,may0,out0]
 kernel_rfl
theorem inst9:Tryz.f9.isInstance Tryz.pinned.checked.prog Rows.creditPhasesUptoRow.origin Rows.creditPhasesUptoRow.targs:=of_decide_eq_true (by kernel_rfl)
theorem wrap9:Tryz.f9.isWrapper Tryz.pinned.checked.prog Rows.creditPhasesUptoRow.wrapper Rows.creditPhasesUptoRow.mainSum:=by unfold Func.isWrapper; first | (rw [if_pos (by decide +kernel)]; kernel_rfl) | (rw [if_neg (by decide +kernel)]; exact ⟨rfl,rfl⟩)
section
variable (hlaw : ∀ xs, FitAs at9 xs → wgts xs ≤ 1048576 → CallDet Tryz.prog 9 (xs.map .d) [.bool true])
include hlaw
set_option maxRecDepth 100000 in
theorem lifted9 (os : Os) (started : os.Started) (H : Type) (enc : TypeId × Value → H) (F : Stop.Interp) :
  ReturnsInHanded {} Tryz.checked os 9 .any ((Rows.OpenSpec.upto Rows.creditPhasesSpec).preRow enc Tryz.prog Tryz.f9 Rows.creditPhasesUptoRow.domain false Rows.creditPhasesUptoRow.laid) (((Rows.OpenSpec.upto Rows.creditPhasesSpec).at F).post enc Tryz.prog Tryz.f9 false true false false):=by
 obtain ⟨places,hx⟩:=reads9 os enc
 refine returnsInHanded_of_row (C:=Tryz.checked) (s:=Rows.OpenSpec.upto Rows.creditPhasesSpec) own started (by kernel_rfl) Tryz.func9
  (witness_row_at (enc:=enc) (C:=Tryz.checked) false (laidWorld os) wit9 rfl (by kernel_rfl) (by kernel_rfl) (by kernel_rfl)
   (OpenSpec.preRow_of_cond 8 hx (by kernel_rfl) (fun k hk=>by cases hk; kernel_rfl) (by kernel_rfl) (laid_met9 os))) ?_
 intro W base args ds gs before hval hW _ hcond _ hL _ _
 refine law_calls (s:=Rows.creditPhasesSpec) laidOut chk9 rt9 Tryz.underlying4 rfl (fun ds hds=>?_) hlaw hval hW ?_ (glob hL (.tail _ (.tail _ (.head _))))
 ·match ds,hds with
  | [d1,d2,d3],_=>rfl
  | [],h | [_],h | [_,_],h | _::_::_::_::_,h=>simp [Tryz.params9] at h
 ·have h:=hcond _ rfl
  have h2:=bulks_le (ds++gs)
  simp only [Rows.uptoSmall,decide_eq_true_eq] at h
  omega
theorem said9:Rows.CreditPhasesUptoSaid :=
 OpenClaim.holds_of_cond 9 Tryz.f9 rfl rfl rfl rfl rfl rfl rfl ⟨rfl,rfl,rfl,rfl,rfl⟩ rfl rfl rfl rfl rfl fnm9 Tryz.func9 jf9
  inst9 wrap9
  (fun os started H enc _ F=>by rw [OpenClaim.pre_eq_preRow]; exact lifted9 hlaw os started H enc F)
theorem plain9 (f : FuncId) (fn : Func) (hf : Tryz.pinned.checked.prog.funcNamed Tryz.f9.name = some f) (hfn : Tryz.pinned.checked.prog.funcs[f]? = some fn) :
  false=Tryz.pinned.checked.prog.looks []∧∀ (j:Nat) t,fn.params[j]?=some t→Tryz.pinned.checked.prog.wantsStandIn t=false:=by
 obtain rfl:f=9:=Option.some.inj ((show Tryz.prog.funcNamed Tryz.f9.name=some 9 by kernel_rfl).symm.trans hf) |>.symm
 obtain rfl:fn=Tryz.f9:=(Option.some.inj (Tryz.func9.symm.trans hfn)).symm
 refine ⟨by kernel_rfl,fun j t ht=>?_⟩
 rw [Tryz.params9] at ht
 match j,ht with
 | 0,ht=>cases ht; exact (show Tryz.prog.wantsStandIn 26=false by kernel_rfl)
 | 1,ht=>cases ht; exact (show Tryz.prog.wantsStandIn 23=false by kernel_rfl)
 | 2,ht=>cases ht; exact (show Tryz.prog.wantsStandIn 120=false by kernel_rfl)
theorem card9:Rows.CreditPhasesUptoCardSaid :=
 Claim7.holds_tied_plain_at .later [] _ _ _ _ (said9 hlaw) (fun _ h=>by cases h) (by kernel_rfl) (fun _ h=>by cases h) creditPhasesUpto_row_tie rfl ⟨rfl,rfl⟩ (by kernel_rfl) rfl (plain9 hlaw) (by kernel_rfl)
end
end Go.Proofs.YtmjbifmndhianaaGreatDoor
