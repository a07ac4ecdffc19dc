import Derived.Test.YtmjbifmndhianaaGreatDoorG07
set_option linter.unusedSectionVars false
set_option linter.unusedVariables false
set_option linter.unusedSimpArgs false
set_option linter.unusedVariables false
namespace Vc
open Go Go.RowKit
def endRW (res:List ARes) (t sz:Nat) (es:List Data) (st:St):Prop :=
 ∃ id n j es',endI res (.rv id n 0 j) st.heap st∧st.heap[id]?=some (.row t sz es' false)∧es'.length=n∧0 < n∧j≤n∧es=es'.take j
def postRW (x:AFun) (t sz:Nat) (es:List Data):AExit→St→Prop:=fun e st=>match e with
 | .normal=>endRW x.res t sz es st
 | .ret=>endRW x.res t sz es st
 | .exit _=>False
theorem callRow_win {P : Program} [Laid P] {f : FuncId} {x : AFun} {args : List AVal} {t sz : Nat} {es : List Data} (hf : chkFun P f x = true) (hargs : Nat.ble args.length x.n = true)
  (h:vc P x.n x.body (startS x args) (postRW x t sz es)):CallRow P f args t sz es:=by
 unfold chkFun at hf
 split at hf
 ·rename_i fn hfn
  split at hf
  ·rename_i c hb
   simp only [Bool.and_eq_true] at hf
   obtain ⟨⟨⟨h1,h2⟩,h3⟩,h4⟩:=hf
   have hn:=nbeq h2
   refine ⟨⟨fn,hfn,by simp [hb],by simpa using h4⟩,fun w S vs hv hS hgl=>?_⟩
   refine callsIn_wide.1 (callsIn_of_wp_marks (n:=0) hfn hb trivial ?_)
   have hT:=vc_sound (C:=fun _=>True) (r:=none) h1 ⟨clrs_true _,.inl rfl⟩ (hn ▸ h)
   have hlen:=VRels_length hv
   have hle:args.length≤fn.ntmps:=by rw [hn]; exact Nat.le_of_ble_eq_true hargs
   have hext:Ext w ⟨S,fun _=>undef⟩ [] w ⟨S,fun _=>undef⟩ (nones x.heap) :=
    ⟨fun _ _ h=>h,fun _ _ _=>rfl,fun _ _ _ _ _ h=>by simp at h,fun _ _ h=>by simp at h,fun _ _ h=>by simp at h,fun _ _ h=>by simp at h,fun _ _ _ h=>by simp at h,fun _ _ _ _ _ _ _ _ _ h=>by simp at h,fun _ _ _ h=>by simp at h,fun _ _ _ h=>by simp at h⟩
   have hr:Rel fn.ntmps w.heap.size ⟨w,S,Laid.vars P,w,⟨S,fun _=>undef⟩,[],fun _=>False,ckP P⟩ ⟨S,fun _=>undef⟩ (startS x args) { tmps:=vs.toArray++Array.replicate (fn.ntmps - vs.toArray.size) undef,defers:=[] } w:=by
    refine ⟨by simp [hlen]; omega,⟨List.nodup_nil,by simp⟩,fun i=>?_,fun id o ho=>?_,fun id o b off ho _ hown=>?_,fun i j oi oj b _ hi _ hli=>?_,hS,Below.refl _ _,fun _ _ h=>h,fun _ _ h=>.inl h,Nat.le_refl _,fun b hb=>by simp at hb,hext,hgl,fun id s pd m sl ps xa xb ck h=>by have:=nones_get _ _ _ h; cases this⟩
    ·simp only [startS,zipSlots_get,Nat.zero_le,if_true,Nat.sub_zero]
     by_cases hi:i < args.length
     ·have h5:=VRel_mono hext _ (VRels_get i hv)
      have h6:(vs.toArray++Array.replicate (fn.ntmps - vs.toArray.size) undef).getD i undef=vs[i]?.getD undef:=by
       simp only [Array.getD_eq_getD_getElem?]
       rw [Array.getElem?_append_left (by simpa [hlen] using hi)]
       simp
      rw [h6]
      exact h5
     ·have:args[i]?.getD .undef=.undef:=by rw [List.getElem?_eq_none (by omega)]; rfl
      rw [this]; simp [VRel]
    ·rw [nones_get _ _ _ ho]; trivial
    ·rw [nones_get _ _ _ ho] at hown; exact hown.elim
    ·exact absurd (nones_get _ _ _ hi) hli
   refine wpIn_mono (hT _ _ _ _ _ ⟨rfl,rfl⟩ (fun id _=>.inl (by simp)) hr) fun e a w' ⟨G,st,k1,k2⟩=>?_
   have fin:endRW x.res t sz es st→LeavesInM Fence.wide 0 P fn a.tmps (fun e w'=>∃ v' S',e=.returned v'∧Below w.heap.size w w'∧(∀ b o,S b o→S' b o)∧(∀ b o,S' b o→S b o∨w.heap.size≤b)∧(∀ b o,S' b o→b < w'.heap.size)∧0 < sz∧(∃ xs,w'.ownsRow w.heap.size t sz v' es.length xs∧DXs w' S' es sz xs)∧∀ b o,blockOf v'=some b→¬ S' b o) a.defers .returning w':=by
    intro he
    refine leaves_of_rel (show Rel _ _ _ _ _ ⟨a.tmps,a.defers⟩ _ from k1) fun w'' k3=>?_
    obtain ⟨id,m,j,es',he,hid,hm,h0,hj,rfl⟩:=he
    obtain ⟨v,q1,q2,_⟩:=endI_rel k3 h3 he
    obtain ⟨hsz,xs,q3,q4⟩:=k3.objs id _ hid
    simp only [VRel] at q2
    obtain ⟨t',sz',es'',fz',q5,_,q6⟩:=q2
    rw [hid] at q5; cases q5
    obtain ⟨b,cap,p1,p,p2,p3,p4,rfl⟩:=q6 hm
    have p4:=p4 (by omega)
    rw [Nat.zero_mul] at p4
    subst p4
    rw [Nat.sub_zero,Nat.sub_zero] at *
    have hlen:(es'.take j).length=j:=by rw [List.length_take]; omega
    refine ⟨_,q1,_,G.S,rfl,k3.below,k3.sub,k3.sup,k3.lim,hsz,⟨xs.take (j * sz),?_,DXs_take j q4⟩,fun b' o hb hs=>?_⟩
    ·rw [hlen]
     rcases q3.2 with ⟨e1,e2⟩ | ⟨g,cap',cur,e1,e2,e3,e4,e5,e6,e7⟩
     ·omega
     ·rw [p1] at e1
      cases e1
      have hjs:j * sz≤es'.length * sz:=Nat.mul_le_mul_right sz (by omega)
      refine ⟨by rw [List.length_take,q3.1]; omega,.inr ⟨b,cap,cur,rfl,e2,e3,by omega,e5,e6,?_⟩⟩
      rw [← e7,List.take_take]
      congr 1
      omega
    ·cases hb
     exact k3.free id _ _ o hid (by rw [p1]; rfl) (fun h=>by cases h) hs
   cases e with
   | normal=>exact fin k2
   | ret=>exact fin k2
   | exit i=>exact k2.elim
   | goto l=>exact k2.elim
   | panic ch=>exact k2.elim
   | outgrown=>exact k2.elim
  ·cases hf
 ·cases hf
end Vc
