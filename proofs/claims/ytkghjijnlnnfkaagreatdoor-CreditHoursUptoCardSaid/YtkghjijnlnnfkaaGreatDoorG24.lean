import Derived.Test.YtkghjijnlnnfkaaGreatDoorG23
set_option linter.unusedSectionVars false
set_option linter.unusedVariables false
set_option linter.unusedSimpArgs false
namespace Go.Proofs.YtkghjijnlnnfkaaGreatDoor
open Go.ChangeShapes Go.WideShapes Go.ChangeAt Go.RowKit Vc
def wit6:Array Value:=#[.agg #[.int .i64 0,.int .i64 0,.int .i64 0,.int .i64 0,.int .u8 0,.int .u8 0,.int .u8 0,.int .u8 0,.int .u8 0,.int .u8 0,.int .u8 0,.int .u8 0,.int .u8 0,.int .u8 0,.int .u8 0,.int .u8 0,.int .u8 0,.int .u8 0,.int .u8 0,.int .u8 0,.bool false,.slice none 0 0],.slice none 0 0,.agg #[.int .i64 0,.int .i64 0]]
theorem laid_met6 (os:Os):laidMetH Tryz.prog Rows.creditHoursUptoRow.laid ((laidWorld os).forCall (fun _ _=>0) ⟨#[],wit6,[]⟩).memory :=
 laidMetH_of_parts3 (fuel:=8) (laidMet_of_run' 8 (by kernel_rfl) (by kernel_rfl)) (by kernel_rfl) (by kernel_rfl)
noncomputable def rd6 {H:Type}:List (DataW H):=[.agg [.lit (.int .i64 0),.lit (.int .i64 0),.lit (.int .i64 0),.lit (.int .i64 0),.agg [.lit (.int .u8 0),.lit (.int .u8 0),.lit (.int .u8 0),.lit (.int .u8 0),.lit (.int .u8 0),.lit (.int .u8 0),.lit (.int .u8 0),.lit (.int .u8 0)],.agg [.lit (.int .u8 0),.lit (.int .u8 0),.lit (.int .u8 0),.lit (.int .u8 0),.lit (.int .u8 0),.lit (.int .u8 0),.lit (.int .u8 0),.lit (.int .u8 0)],.lit (.bool false),.nil],.nil,.agg [.lit (.int .i64 0),.lit (.int .i64 0)]]
theorem reads6 (os:Os) {H:Type} (enc:TypeId × Value→H):∃ places,DataW.whole enc Tryz.prog ((laidWorld os).forCall (fun _ _=>0) ⟨#[],wit6,[]⟩).memory Tryz.f6.params.toList Rows.creditHoursSpec.vars false wit6.toList 8=some (rd6,[],places) :=
 ⟨[],by kernel_rfl⟩
def at6:List AT:=[(true,[.int .i64,.int .i64,.int .i64,.int .i64,.int .u8,.int .u8,.int .u8,.int .u8,.int .u8,.int .u8,.int .u8,.int .u8,.int .u8,.int .u8,.int .u8,.int .u8,.int .u8,.int .u8,.int .u8,.int .u8,.bool,.sl false [.int .i64]]),(false,[.sl true [.bool,.bool,.bool,.bool,.bool,.bool,.bool,.int .i64,.int .i64]]),(true,[.int .i64,.int .i64])]
theorem chk6:chkAs Tryz.prog Tryz.f6.params.toList at6=true:=by kernel_rfl
theorem rt6:Tryz.f6.resultTypes=#[4]:=by kernel_rfl
theorem fnm6:Tryz.pinned.checked.prog.funcNamed Rows.creditHoursUptoRow.func=some 6:=by kernel_rfl
theorem jp6:(Rows.creditHoursUptoRow.inPlace==Tryz.pinned.checked.prog.inPlace 6)=true:=by kernel_rfl
theorem ju6:(Rows.creditHoursUptoRow.unfollowed==Tryz.pinned.checked.prog.unfollowed 6)=true:=by kernel_rfl
theorem jr6:(Rows.creditHoursUptoRow.recurses==Tryz.pinned.checked.prog.recurses 6)=true:=by kernel_rfl
theorem jn6:(Rows.creditHoursUptoRow.named==Tryz.pinned.checked.prog.varsNamed 6)=true:=by kernel_rfl
theorem jl6:(Rows.creditHoursUptoRow.lifted==Tryz.pinned.checked.prog.liftsFinal)=true:=lift0
theorem jf6:joinedFacts Tryz.pinned.checked.prog 6 Tryz.f6 (Rows.OpenSpec.upto Rows.creditHoursSpec).bare Rows.creditHoursUptoRow=true:=by
 unfold joinedFacts
 rw [jp6,ju6,jr6,jn6,jl6,may0,out0]
 kernel_rfl
theorem inst6:Tryz.f6.isInstance Tryz.pinned.checked.prog Rows.creditHoursUptoRow.origin Rows.creditHoursUptoRow.targs:=of_decide_eq_true (by kernel_rfl)
theorem wrap6:Tryz.f6.isWrapper Tryz.pinned.checked.prog Rows.creditHoursUptoRow.wrapper Rows.creditHoursUptoRow.mainSum:=by unfold Func.isWrapper; first | (rw [if_pos (by decide +kernel)]; kernel_rfl) | (rw [if_neg (by decide +kernel)]; exact ⟨rfl,rfl⟩)
section
variable (hlaw : ∀ xs, FitAs at6 xs → wgts xs ≤ 1048576 → CallDet Tryz.prog 6 (xs.map .d) [.bool true])
include hlaw
set_option maxRecDepth 100000 in
theorem lifted6 (os : Os) (started : os.Started) (H : Type) (enc : TypeId × Value → H) (F : Stop.Interp) :
  ReturnsInHanded {} Tryz.checked os 6 .any ((Rows.OpenSpec.upto Rows.creditHoursSpec).preRow enc Tryz.prog Tryz.f6 Rows.creditHoursUptoRow.domain false Rows.creditHoursUptoRow.laid) (((Rows.OpenSpec.upto Rows.creditHoursSpec).at F).post enc Tryz.prog Tryz.f6 false true false false):=by
 obtain ⟨places,hx⟩:=reads6 os enc
 refine returnsInHanded_of_row (C:=Tryz.checked) (s:=Rows.OpenSpec.upto Rows.creditHoursSpec) own started (by kernel_rfl) Tryz.func6
  (witness_row_at (enc:=enc) (C:=Tryz.checked) false (laidWorld os) wit6 rfl (by kernel_rfl) (by kernel_rfl) (by kernel_rfl)
   (OpenSpec.preRow_of_cond 8 hx (by kernel_rfl) (fun k hk=>by cases hk; kernel_rfl) (by kernel_rfl) (laid_met6 os))) ?_
 intro W base args ds gs before hval hW _ hcond _ hL _ _
 refine law_calls (s:=Rows.creditHoursSpec) laidOut chk6 rt6 Tryz.underlying4 rfl (fun ds hds=>?_) hlaw hval hW ?_ (glob hL (.tail _ (.tail _ (.head _))))
 ·match ds,hds with
  | [d1,d2,d3],_=>rfl
  | [],h | [_],h | [_,_],h | _::_::_::_::_,h=>simp [Tryz.params6] at h
 ·have h:=hcond _ rfl
  have h2:=bulks_le (ds++gs)
  simp only [Rows.uptoSmall,decide_eq_true_eq] at h
  omega
theorem said6:Rows.CreditHoursUptoSaid :=
 OpenClaim.holds_of_cond 6 Tryz.f6 rfl rfl rfl rfl rfl rfl rfl ⟨rfl,rfl,rfl,rfl,rfl⟩ rfl rfl rfl rfl rfl fnm6 Tryz.func6 jf6
  inst6 wrap6
  (fun os started H enc _ F=>by rw [OpenClaim.pre_eq_preRow]; exact lifted6 hlaw os started H enc F)
theorem plain6 (f : FuncId) (fn : Func) (hf : Tryz.pinned.checked.prog.funcNamed Tryz.f6.name = some f) (hfn : Tryz.pinned.checked.prog.funcs[f]? = some fn) :
  false=Tryz.pinned.checked.prog.looks []∧∀ (j:Nat) t,fn.params[j]?=some t→Tryz.pinned.checked.prog.wantsStandIn t=false:=by
 obtain rfl:f=6:=Option.some.inj ((show Tryz.prog.funcNamed Tryz.f6.name=some 6 by kernel_rfl).symm.trans hf) |>.symm
 obtain rfl:fn=Tryz.f6:=(Option.some.inj (Tryz.func6.symm.trans hfn)).symm
 refine ⟨by kernel_rfl,fun j t ht=>?_⟩
 rw [Tryz.params6] at ht
 match j,ht with
 | 0,ht=>cases ht; exact (show Tryz.prog.wantsStandIn 26=false by kernel_rfl)
 | 1,ht=>cases ht; exact (show Tryz.prog.wantsStandIn 81=false by kernel_rfl)
 | 2,ht=>cases ht; exact (show Tryz.prog.wantsStandIn 82=false by kernel_rfl)
theorem card6:Rows.CreditHoursUptoCardSaid :=
 Claim7.holds_tied_plain_at .later [] _ _ _ _ (said6 hlaw) (fun _ h=>by cases h) (by kernel_rfl) (fun _ h=>by cases h) creditHoursUpto_row_tie rfl ⟨rfl,rfl⟩ (by kernel_rfl) rfl (plain6 hlaw) (by kernel_rfl)
end
end Go.Proofs.YtkghjijnlnnfkaaGreatDoor
