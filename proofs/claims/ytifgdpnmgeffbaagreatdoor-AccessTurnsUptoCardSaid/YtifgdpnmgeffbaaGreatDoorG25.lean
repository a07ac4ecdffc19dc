import Derived.Test.YtifgdpnmgeffbaaGreatDoorG04
set_option linter.unusedSectionVars false
set_option linter.unusedVariables false
set_option linter.unusedSimpArgs false
set_option linter.unusedVariables false
namespace Vc
open Go
theorem run_of {h:List AObj}:∀ {e:Eff} {v:AVal} {ws:List (Nat × AObj)} {rs:List Nat} {K:AVal→List (Nat × AObj)→List Nat→Prop},ERun e h v ws rs→K v ws rs→runE e h K
 | .ret v ws,_,_,_,K,he,hk=>by
  obtain ⟨rfl,rfl,rfl⟩:=he
  exact hk
 | .rd id k,_,_,_,K,he,hk=>by
  obtain ⟨o,rs',ho,rfl,he⟩:=he
  simp only [runE,ho]
  exact run_of he hk
 | .side p k,_,_,_,K,he,hk=>⟨he.1,run_of he.2 hk⟩
 | .exD k,_,_,_,K,he,hk=>let ⟨x,he⟩:=he; ⟨x,run_of he hk⟩
 | .exI k,_,_,_,K,he,hk=>let ⟨x,he⟩:=he; ⟨x,run_of he hk⟩
 | .exL k,_,_,_,K,he,hk=>let ⟨x,he⟩:=he; ⟨x,run_of he hk⟩
 | .all k,_,_,_,K,he,hk=>by
  obtain ⟨rs',rfl,he⟩:=he
  simp only [runE]
  exact run_of he hk
 | .exA k,_,_,_,K,he,hk=>let ⟨x,y,he⟩:=he; ⟨x,y,run_of he hk⟩
 | .fail,_,_,_,K,he,hk=>he.elim
 | .allx ids p,_,_,_,K,he,hk=>by
  obtain ⟨he,rfl⟩:=he
  exact ⟨_,_,he,hk⟩
section
variable {P : Program} [Laid P] {n : Nat} {Q : AExit → St → Prop}
theorem vops_step {d : Option Nat} {op : AOp} {r : List AOper} {st : St} {acc : List Acc} {K : St → List Acc → Prop} {v : AVal} {ws : List (Nat × AObj)} {rs : List Nat} (st' : St)
  (he:ERun (eff P (getL st.slots) op) st.heap v ws rs) (hst:(⟨putL st.slots d v,applyW st.heap ws⟩:St)=st') (hk:vops P r st' (⟨rs,wids ws⟩::acc) K):vops P (⟨d,op,none⟩::r) st acc K:=by
 simp only [vops,vop,vdo]
 refine run_of he ?_
 rw [forceV_eq,forceL_eq,forceH_eq,hst]
 exact hk
theorem vc_post_of {ks gs:List Nat} {c:ACode} {st:St} (h:vc P n c st fun e st'=>match e with | .normal=>clear gs ⟨keepL ks st'.slots,st'.heap⟩ (Q .normal) | .exit i=>Q (.exit i) st' | .ret=>Q .ret st'):vc P n (.post ks gs c) st Q:=by
 simp only [vc,forceL_eq]; exact h
theorem vc_reg_of {ops:List AOper} {st:St} (h:vops P ops st [] fun st' _=>Q .normal st'):vc P n (.reg [] ops) st Q:=by
 simp only [vc,clear]; exact h
theorem vc_regd_of {ops:List AOper} {un:List (Nat × Nat)} {st:St} (h:vops P ops st [] fun st' acc=>match accOk un acc.reverse with | true=>Q .normal st' | false=>False):vc P n (.regd [] ops un) st Q:=by
 simp only [vc,clear]; exact h
theorem vc_asdat_sl {c : ACode} {st : St} {s id off r m : Nat} {cs : List AVal} {t : TypeId} {sz : Nat} {es : List Data} {fz : Bool} (h1 : getL st.slots s = .ptr id off) (h2 : st.heap[id]? = some (.box cs)) (h3 : cs[off]? = some (.sl r m))
  (h4:st.heap[r]?=some (.row t sz es fz)) (h5:es.length=m) (hk:vc P n c ⟨st.slots,(st.heap.set r (.row t sz es true)).set id (.box (cs.set off (.d (.slice sz es))))⟩ Q):vc P n (.asdat s c) st Q:=by
 have h6:Nat.beq es.length m=true:=by rw [h5]; exact Nat.beq_refl m
 simp only [vc,h1,h2,h3,h4,h6,forceH_eq]
 exact hk
theorem vc_asdat_nil {c : ACode} {st : St} {s id off sz : Nat} {cs : List AVal} (h1 : getL st.slots s = .ptr id off) (h2 : st.heap[id]? = some (.box cs)) (h3 : cs[off]? = some (.nils sz))
  (hk:vc P n c ⟨st.slots,st.heap.set id (.box (cs.set off (.d (.slice sz []))))⟩ Q):vc P n (.asdat s c) st Q:=by
 simp only [vc,h1,h2,h3,forceH_eq]
 exact hk
theorem vc_asdat_bv {c : ACode} {st : St} {s id m : Nat} {cs : List AVal} {ds : List Data} (h1 : getL st.slots s = .bv id 0 m) (h2 : st.heap[id]? = some (.box cs)) (h3 : allD cs = some ds) (h5 : ds.length = m)
  (hk:vc P n c ⟨setL st.slots s (.d (.slice 1 ds)),st.heap.set id (.cbox ds)⟩ Q):vc P n (.asdat s c) st Q:=by
 have h6:Nat.beq ds.length m=true:=by rw [h5]; exact Nat.beq_refl m
 simp only [vc,h1,h2,h3,h6,forceH_eq,forceL_eq]
 exact hk
end
theorem clear_t {r:Nat} {rs:List Nat} {sl:List (Nat × AVal)} {hp:List AObj} {K:St→Prop} (h:(noRefS r sl&&noRefH r hp)=true) (hk:clear rs ⟨sl,hp.set r .none⟩ K):clear (r::rs) ⟨sl,hp⟩ K:=by
 show (match noRefS r sl&&noRefH r hp with | true=>forceH (hp.set r .none) fun h=>clear rs ⟨sl,h⟩ K | false=>_)
 rw [h,forceH_eq]; exact hk
theorem cut_mid (c1 c2:List AVal) (x:AVal):cut (c1++x::c2) (0+((c1.length:Nat):Int).toNat * 1) 1=some [x]:=by
 rw [show 0+((c1.length:Nat):Int).toNat * 1=c1.length by omega]
 induction c1 with
 | nil=>rfl
 | cons c r ih=>exact ih
theorem lay_mid (c1 c2:List AVal) (x y:AVal):lay (c1++x::c2) (0+((c1.length:Nat):Int).toNat * 1) [y]=c1++y::c2:=by
 rw [show 0+((c1.length:Nat):Int).toNat * 1=c1.length by omega]
 induction c1 with
 | nil=>cases c2 <;> rfl
 | cons c r ih=>exact congrArg (c::·) ih
theorem at_mid (c1 c2:List AVal) (x:AVal):(c1++x::c2)[0+((c1.length:Nat):Int).toNat * 1]?=some x:=by
 rw [show 0+((c1.length:Nat):Int).toNat * 1=c1.length by omega,List.getElem?_append_right (Nat.le_refl _),Nat.sub_self]; rfl
theorem set_mid (c1 c2:List AVal) (x y:AVal):(c1++x::c2).set (0+((c1.length:Nat):Int).toNat * 1) y=c1++y::c2:=by
 rw [show 0+((c1.length:Nat):Int).toNat * 1=c1.length by omega,List.set_append_right _ _ (Nat.le_refl _),Nat.sub_self]; rfl
theorem noRef_mid {i:Nat} {x:AVal} {c2:List AVal} (hx:noRefV i x=true) (h2:noRefVs i c2=true):∀ {c1:List AVal},noRefVs i c1=true→noRefVs i (c1++x::c2)=true
 | [],_=>by
  show (noRefV i x&&noRefVs i c2)=true
  rw [hx,h2]; rfl
 | c::r,h=>by
  have h:(noRefV i c&&noRefVs i r)=true:=h
  rw [Bool.and_eq_true] at h
  show (noRefV i c&&noRefVs i (r++x::c2))=true
  rw [h.1,noRef_mid hx h2 h.2]; rfl
theorem noRef_all {i:Nat}:∀ {c:List AVal},(∀ x∈c,noRefV i x=true)→noRefVs i c=true
 | [],_=>rfl
 | c::r,h=>by
  show (noRefV i c&&noRefVs i r)=true
  rw [h c List.mem_cons_self,noRef_all fun x hx=>h x (List.mem_cons_of_mem _ hx)]; rfl
theorem eld_mid {P : Program} [Laid P] {s : Nat → AVal} {x : Opd} {id : Nat} {c1 c2 : List AVal} {v : AVal} {h : List AObj} (h1 : ev s x = .ptr id (0 + ((c1.length : Nat) : Int).toNat * 1)) (h2 : h[id]? = some (.box (c1 ++ v :: c2))) :
  ERun (eff P s (.ld false 1 x)) h v [] [id]:=by
 simp only [eff,h1]
 refine ⟨_,[],h2,rfl,?_⟩
 show ERun (loadE false 1 (0+((c1.length:Nat):Int).toNat * 1) (c1++v::c2)) h v [] []
 unfold loadE
 rw [cut_mid]
 exact ⟨rfl,rfl,rfl⟩
theorem est_mid {P : Program} [Laid P] {s : Nat → AVal} {x y : Opd} {id r m : Nat} {c1 c2 : List AVal} {v : AVal} {h : List AObj} {t : TypeId} {sz : Nat} {es : List Data} {fz : Bool} (h1 : ev s x = .ptr id (0 + ((c1.length : Nat) : Int).toNat * 1)) (h2 : h[id]? = some (.box (c1 ++ v :: c2)))
  (h3:ev s y=.sl r m) (h4:h[r]?=some (.row t sz es fz)) (h5:es.length=m):ERun (eff P s (.st 1 x y)) h .undef [(id,.box (c1++.sl r m::c2))] [id,r]:=by
 simp only [eff,h1,h3]
 refine ⟨_,[r],h2,rfl,?_⟩
 show ERun (cellsE (.sl r m) _) h _ _ _
 unfold cellsE
 refine ⟨_,[],h4,rfl,h5,?_⟩
 rw [cut_mid]
 show ERun (Eff.ret AVal.undef [(id,AObj.box (lay (c1++v::c2) (0+((c1.length:Nat):Int).toNat * 1) [.sl r m]))]) h _ _ _
 rw [lay_mid]
 exact ⟨rfl,rfl,rfl⟩
end Vc
