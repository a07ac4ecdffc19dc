import Derived.Test.YtmffgalmdnpcgaaGreatDoorG34
set_option linter.unusedSectionVars false
set_option linter.unusedVariables false
set_option linter.unusedSimpArgs false
namespace Go.Proofs.YtmffgalmdnpcgaaGreatDoor
open Go.ChangeShapes Go.WideShapes Go.ChangeAt Go.RowKit Vc
def wit3:Array Value:=#[.agg #[.slice none 0 0,.slice none 0 0,.slice none 0 0,.slice none 0 0],.agg #[.int .i64 0,.slice none 0 0],.int .i64 0]
theorem laid_met3 (os:Os):laidMetH Tryz.prog Rows.tariffTariffsUptoRow.laid ((laidWorld os).forCall (fun _ _=>0) ⟨#[],wit3,[]⟩).memory :=
 laidMetH_of_parts3 (fuel:=8) (laidMet_of_run' 8 (by kernel_rfl) (by kernel_rfl)) (by kernel_rfl) (by kernel_rfl)
noncomputable def rd3 {H:Type}:List (DataW H):=[.agg [.nil,.nil,.nil,.nil],.agg [.lit (.int .i64 0),.nil],.lit (.int .i64 0)]
theorem reads3 (os:Os) {H:Type} (enc:TypeId × Value→H):∃ places,DataW.whole enc Tryz.prog ((laidWorld os).forCall (fun _ _=>0) ⟨#[],wit3,[]⟩).memory Tryz.f3.params.toList Rows.tariffTariffsSpec.vars false wit3.toList 8=some (rd3,[],places) :=
 ⟨[],by kernel_rfl⟩
def at3:List AT:=[(true,[.sl false [.int .i64],.sl false [.sl true [.int .i64,.int .i64]],.sl true [.int .i64,.int .i64,.int .i64,.int .i64,.int .i64,.int .i64,.int .i64,.int .i64],.sl true [.int .i64,.int .i64]]),(true,[.int .i64,.sl true [.int .i64,.int .i64,.sl false [.int .i64],.sl false [.sl true [.int .i64,.int .i64]],.sl true [.int .i64,.int .i64,.int .i64,.int .i64,.int .i64,.int .i64,.int .i64,.int .i64],.sl true [.int .i64,.int .i64]]]),(false,[.int .i64])]
theorem chk3:chkAs Tryz.prog Tryz.f3.params.toList at3=true:=by kernel_rfl
theorem rt3:Tryz.f3.resultTypes=#[4]:=by kernel_rfl
theorem fnm3:Tryz.pinned.checked.prog.funcNamed Rows.tariffTariffsUptoRow.func=some 3:=by kernel_rfl
theorem jp3:(Rows.tariffTariffsUptoRow.inPlace==Tryz.pinned.checked.prog.inPlace 3)=true:=by kernel_rfl
theorem ju3:(Rows.tariffTariffsUptoRow.unfollowed==Tryz.pinned.checked.prog.unfollowed 3)=true:=by kernel_rfl
theorem jr3:(Rows.tariffTariffsUptoRow.recurses==Tryz.pinned.checked.prog.recurses 3)=true:=by kernel_rfl
theorem jn3:(Rows.tariffTariffsUptoRow.named==Tryz.pinned.checked.prog.varsNamed 3)=true:=by kernel_rfl
theorem jl3:(Rows.tariffTariffsUptoRow.lifted==Tryz.pinned.checked.prog.liftsFinal)=true:=lift0
theorem mk3:(Tryz.pinned.checked.prog.make==some Rows.tariffTariffsUptoRow.make)=true:=by kernel_rfl
theorem wf3:Rows.tariffTariffsUptoRow.wfByText (Rows.OpenSpec.upto Rows.tariffTariffsSpec)=true:=by kernel_rfl
theorem gb3:false=Rows.tariffTariffsUptoRow.goesBy Tryz.pinned.checked.prog:=by kernel_rfl
theorem mi3:Tryz.pinned.checked.prog.mainIs=some (true, "d87acec7a963abd4a738eebefd7350e5f7504370e7fb3c6a8a93001dc0e43843".toList):=by kernel_rfl
theorem mr3:mapsRowed Tryz.pinned.checked.prog=true:=by kernel_rfl
theorem sh3:Tryz.pinned.checked.prog.stopsHeard=true:=by kernel_rfl
theorem jf3:joinedFacts Tryz.pinned.checked.prog 3 Tryz.f3 (Rows.OpenSpec.upto Rows.tariffTariffsSpec).bare Rows.tariffTariffsUptoRow=true:=by
 unfold joinedFacts
 rw [jp3,ju3,jr3,jn3,jl3,may0,out0,mr3,sh3,mk3]
 kernel_rfl
theorem inst3:Tryz.f3.isInstance Tryz.pinned.checked.prog Rows.tariffTariffsUptoRow.origin Rows.tariffTariffsUptoRow.targs:=of_decide_eq_true (by kernel_rfl)
theorem wrap3:Tryz.f3.isWrapper Tryz.pinned.checked.prog Rows.tariffTariffsUptoRow.wrapper Rows.tariffTariffsUptoRow.mainSum:=by unfold Func.isWrapper; first | (rw [if_pos (by decide +kernel)]; kernel_rfl) | (rw [if_neg (by decide +kernel)]; exact ⟨rfl,rfl⟩)
section
variable (hlaw : ∀ xs, FitAs at3 xs → wgts xs ≤ 1048576 → CallDet Tryz.prog 3 (xs.map .d) [.bool true])
include hlaw
set_option maxRecDepth 100000 in
theorem lifted3 (os : Os) (started : os.Started) (H : Type) (enc : TypeId × Value → H) (F : Stop.Interp) :
  ReturnsInHanded {} Tryz.checked os 3 .any ((Rows.OpenSpec.upto Rows.tariffTariffsSpec).preRow enc Tryz.prog Tryz.f3 Rows.tariffTariffsUptoRow.domain false Rows.tariffTariffsUptoRow.laid) (((Rows.OpenSpec.upto Rows.tariffTariffsSpec).at F).post enc Tryz.prog Tryz.f3 false true false false):=by
 obtain ⟨places,hx⟩:=reads3 os enc
 refine returnsInHanded_of_row (C:=Tryz.checked) (s:=Rows.OpenSpec.upto Rows.tariffTariffsSpec) own started (by kernel_rfl) Tryz.func3
  (witness_row_at (enc:=enc) (C:=Tryz.checked) false (laidWorld os) wit3 rfl (by kernel_rfl) (by kernel_rfl) (by kernel_rfl)
   (OpenSpec.preRow_of_cond 8 hx (by kernel_rfl) (fun k hk=>by cases hk; kernel_rfl) (by kernel_rfl) (laid_met3 os))) ?_
 intro W base args ds gs before hval hW _ hcond _ hL _ _
 refine law_calls (s:=Rows.tariffTariffsSpec) laidOut chk3 rt3 Tryz.underlying4 rfl (fun ds hds=>?_) hlaw hval hW ?_ (glob hL (.tail _ (.tail _ (.head _))) (.tail _ (.tail _ (.tail _ (.head _)))))
 ·match ds,hds with
  | [d1,d2,d3],_=>rfl
  | [],h | [_],h | [_,_],h | _::_::_::_::_,h=>simp [Tryz.params3] at h
 ·have h:=hcond _ rfl
  have h2:=bulks_le (ds++gs)
  simp only [Rows.uptoSmall,decide_eq_true_eq] at h
  omega
theorem said3:Rows.TariffTariffsUptoSaid :=
 OpenClaim.holds_of_cond 3 Tryz.f3 rfl rfl rfl rfl rfl rfl rfl ⟨rfl,rfl,rfl,rfl,rfl⟩ rfl rfl rfl rfl rfl fnm3 Tryz.func3 jf3
  inst3 wrap3
  (fun os started H enc _ F=>by rw [OpenClaim.pre_eq_preRow]; exact lifted3 hlaw os started H enc F)
theorem plain3 (f : FuncId) (fn : Func) (hf : Tryz.pinned.checked.prog.funcNamed Tryz.f3.name = some f) (hfn : Tryz.pinned.checked.prog.funcs[f]? = some fn) :
  false=Tryz.pinned.checked.prog.looks []∧∀ (j:Nat) t,fn.params[j]?=some t→Tryz.pinned.checked.prog.wantsStandIn t=false:=by
 obtain rfl:f=3:=Option.some.inj ((show Tryz.prog.funcNamed Tryz.f3.name=some 3 by kernel_rfl).symm.trans hf) |>.symm
 obtain rfl:fn=Tryz.f3:=(Option.some.inj (Tryz.func3.symm.trans hfn)).symm
 refine ⟨by kernel_rfl,fun j t ht=>?_⟩
 rw [Tryz.params3] at ht
 match j,ht with
 | 0,ht=>cases ht; exact (show Tryz.prog.wantsStandIn 27=false by kernel_rfl)
 | 1,ht=>cases ht; exact (show Tryz.prog.wantsStandIn 30=false by kernel_rfl)
 | 2,ht=>cases ht; exact (show Tryz.prog.wantsStandIn 3=false by kernel_rfl)
theorem card3:Rows.TariffTariffsUptoCardSaid :=
 Claim7.holds_tied_plain_at .later [] _ _ _ _ (said3 hlaw) (fun _ h=>by cases h) wf3 (fun _ h=>by cases h) tariffTariffsUpto_row_tie rfl ⟨rfl,rfl⟩ mi3 rfl (plain3 hlaw) gb3
end
end Go.Proofs.YtmffgalmdnpcgaaGreatDoor
