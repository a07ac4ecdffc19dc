import Derived.Test.YtifgdpnmgeffbaaGreatDoorG21
set_option linter.unusedSectionVars false
set_option linter.unusedVariables false
set_option linter.unusedSimpArgs false
namespace Go.Proofs.YtifgdpnmgeffbaaGreatDoor
open Go.ChangeShapes Go.WideShapes Go.ChangeAt Go.RowKit Vc
def wit8:Array Value:=#[.slice none 0 0,.int .i64 0,.int .i64 0]
theorem laid_met8 (os:Os):laidMetH Tryz.prog Rows.accessTurnsUptoRow.laid ((laidWorld os).forCall (fun _ _=>0) ⟨#[],wit8,[]⟩).memory :=
 laidMetH_of_parts3 (fuel:=8) (laidMet_of_run' 8 (by kernel_rfl) (by kernel_rfl)) (by kernel_rfl) (by kernel_rfl)
noncomputable def rd8 {H:Type}:List (DataW H):=[.nil,.lit (.int .i64 0),.lit (.int .i64 0)]
theorem reads8 (os:Os) {H:Type} (enc:TypeId × Value→H):∃ places,DataW.whole enc Tryz.prog ((laidWorld os).forCall (fun _ _=>0) ⟨#[],wit8,[]⟩).memory Tryz.f8.params.toList Rows.accessTurnsSpec.vars false wit8.toList 8=some (rd8,[],places) :=
 ⟨[],by kernel_rfl⟩
def at8:List AT:=[(false,[.sl true [.str,.int .i64]]),(false,[.int .i64]),(false,[.int .i64])]
theorem chk8:chkAs Tryz.prog Tryz.f8.params.toList at8=true:=by kernel_rfl
theorem rt8:Tryz.f8.resultTypes=#[4]:=by kernel_rfl
theorem fnm8:Tryz.pinned.checked.prog.funcNamed Rows.accessTurnsUptoRow.func=some 8:=by kernel_rfl
theorem jp8:(Rows.accessTurnsUptoRow.inPlace==Tryz.pinned.checked.prog.inPlace 8)=true:=by kernel_rfl
theorem ju8:(Rows.accessTurnsUptoRow.unfollowed==Tryz.pinned.checked.prog.unfollowed 8)=true:=by kernel_rfl
theorem jr8:(Rows.accessTurnsUptoRow.recurses==Tryz.pinned.checked.prog.recurses 8)=true:=by kernel_rfl
theorem jn8:(Rows.accessTurnsUptoRow.named==Tryz.pinned.checked.prog.varsNamed 8)=true:=by kernel_rfl
theorem jl8:(Rows.accessTurnsUptoRow.lifted==Tryz.pinned.checked.prog.liftsFinal)=true:=lift0
theorem jf8:joinedFacts Tryz.pinned.checked.prog 8 Tryz.f8 (Rows.OpenSpec.upto Rows.accessTurnsSpec).bare Rows.accessTurnsUptoRow=true:=by
 unfold joinedFacts
 rw [jp8,ju8,jr8,jn8,jl8,may0,out0]
 kernel_rfl
theorem inst8:Tryz.f8.isInstance Tryz.pinned.checked.prog Rows.accessTurnsUptoRow.origin Rows.accessTurnsUptoRow.targs:=of_decide_eq_true (by kernel_rfl)
theorem wrap8:Tryz.f8.isWrapper Tryz.pinned.checked.prog Rows.accessTurnsUptoRow.wrapper Rows.accessTurnsUptoRow.mainSum:=by unfold Func.isWrapper; first | (rw [if_pos (by decide +kernel)]; kernel_rfl) | (rw [if_neg (by decide +kernel)]; exact ⟨rfl,rfl⟩)
section
variable (hlaw : ∀ xs, FitAs at8 xs → wgts xs ≤ 1048576 → CallDet Tryz.prog 8 (xs.map .d) [.bool true])
include hlaw
set_option maxRecDepth 100000 in
theorem lifted8 (os : Os) (started : os.Started) (H : Type) (enc : TypeId × Value → H) (F : Stop.Interp) :
  ReturnsInHanded {} Tryz.checked os 8 .any ((Rows.OpenSpec.upto Rows.accessTurnsSpec).preRow enc Tryz.prog Tryz.f8 Rows.accessTurnsUptoRow.domain false Rows.accessTurnsUptoRow.laid) (((Rows.OpenSpec.upto Rows.accessTurnsSpec).at F).post enc Tryz.prog Tryz.f8 false true false false):=by
 obtain ⟨places,hx⟩:=reads8 os enc
 refine returnsInHanded_of_row (C:=Tryz.checked) (s:=Rows.OpenSpec.upto Rows.accessTurnsSpec) own started (by kernel_rfl) Tryz.func8
  (witness_row_at (enc:=enc) (C:=Tryz.checked) false (laidWorld os) wit8 rfl (by kernel_rfl) (by kernel_rfl) (by kernel_rfl)
   (OpenSpec.preRow_of_cond 8 hx (by kernel_rfl) (fun k hk=>by cases hk; kernel_rfl) (by kernel_rfl) (laid_met8 os))) ?_
 intro W base args ds gs before hval hW _ hcond _ hL _ _
 refine law_calls (s:=Rows.accessTurnsSpec) laidOut chk8 rt8 Tryz.underlying4 rfl (fun ds hds=>?_) hlaw hval hW ?_ (glob hL (.tail _ (.tail _ (.tail _ (.head _)))))
 ·match ds,hds with
  | [d1,d2,d3],_=>rfl
  | [],h | [_],h | [_,_],h | _::_::_::_::_,h=>simp [Tryz.params8] at h
 ·have h:=hcond _ rfl
  have h2:=bulks_le (ds++gs)
  simp only [Rows.uptoSmall,decide_eq_true_eq] at h
  omega
theorem said8:Rows.AccessTurnsUptoSaid :=
 OpenClaim.holds_of_cond 8 Tryz.f8 rfl rfl rfl rfl rfl rfl rfl ⟨rfl,rfl,rfl,rfl,rfl⟩ rfl rfl rfl rfl rfl fnm8 Tryz.func8 jf8
  inst8 wrap8
  (fun os started H enc _ F=>by rw [OpenClaim.pre_eq_preRow]; exact lifted8 hlaw os started H enc F)
theorem plain8 (f : FuncId) (fn : Func) (hf : Tryz.pinned.checked.prog.funcNamed Tryz.f8.name = some f) (hfn : Tryz.pinned.checked.prog.funcs[f]? = some fn) :
  false=Tryz.pinned.checked.prog.looks []∧∀ (j:Nat) t,fn.params[j]?=some t→Tryz.pinned.checked.prog.wantsStandIn t=false:=by
 obtain rfl:f=8:=Option.some.inj ((show Tryz.prog.funcNamed Tryz.f8.name=some 8 by kernel_rfl).symm.trans hf) |>.symm
 obtain rfl:fn=Tryz.f8:=(Option.some.inj (Tryz.func8.symm.trans hfn)).symm
 refine ⟨by kernel_rfl,fun j t ht=>?_⟩
 rw [Tryz.params8] at ht
 match j,ht with
 | 0,ht=>cases ht; exact (show Tryz.prog.wantsStandIn 136=false by kernel_rfl)
 | 1,ht=>cases ht; exact (show Tryz.prog.wantsStandIn 3=false by kernel_rfl)
 | 2,ht=>cases ht; exact (show Tryz.prog.wantsStandIn 3=false by kernel_rfl)
theorem card8:Rows.AccessTurnsUptoCardSaid :=
 Claim7.holds_tied_plain_at .later [] _ _ _ _ (said8 hlaw) (fun _ h=>by cases h) (by kernel_rfl) (fun _ h=>by cases h) accessTurnsUpto_row_tie rfl ⟨rfl,rfl⟩ (by kernel_rfl) rfl (plain8 hlaw) (by kernel_rfl)
end
end Go.Proofs.YtifgdpnmgeffbaaGreatDoor
