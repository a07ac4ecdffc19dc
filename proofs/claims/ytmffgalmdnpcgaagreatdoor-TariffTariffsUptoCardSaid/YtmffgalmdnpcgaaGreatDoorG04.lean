import Derived.Test.YtmffgalmdnpcgaaGreatDoorG03
import Derived.RangeFuncIn
import Derived.RangeFuncRecord
import Derived.RangeFuncOwn
import Derived.RangeFuncLeaves
import Derived.IntWalk
set_option linter.unusedSectionVars false
set_option linter.unusedVariables false
set_option linter.unusedSimpArgs false
set_option linter.unusedSimpArgs false
set_option linter.unusedVariables false
namespace Vc
open Go Go.RowKit
theorem ev_congr {s s':Nat→AVal} {y:Opd} (h:∀ t,y=.tmp t→s t=s' t):ev s y=ev s' y:=by
 cases y with
 | tmp t=>exact h t rfl
 | cst v=>rfl
theorem evs_congr {s s':Nat→AVal}:∀ {l:List Opd},(∀ y∈l,ev s y=ev s' y)→evs s l=evs s' l
 | [],_=>rfl
 | y::r,h=>by simp only [evs]; rw [h y List.mem_cons_self,evs_congr fun z hz=>h z (List.mem_cons_of_mem _ hz)]
theorem evParts_congr {s s':Nat→AVal}:∀ {l:List (Nat × Nat × Opd)},(∀ y∈l.map (fun p=>p.2.2),ev s y=ev s' y)→evParts s l=evParts s' l
 | [],_=>rfl
 | (o,n,y)::r,h=>by simp only [evParts]; rw [h y (by simp),evParts_congr fun z hz=>h z (by simp only [List.map_cons]; exact List.mem_cons_of_mem _ hz)]
theorem evElems_congr {s s':Nat→AVal}:∀ {l:List (Nat × Opd)},(∀ y∈l.map (fun p=>p.2),ev s y=ev s' y)→evElems s l=evElems s' l
 | [],_=>rfl
 | (o,y)::r,h=>by simp only [evElems]; rw [h y (by simp),evElems_congr fun z hz=>h z (by simp only [List.map_cons]; exact List.mem_cons_of_mem _ hz)]
theorem optmap_congr {s s':Nat→AVal} {x:Option Opd} (h:∀ y∈optL x,ev s y=ev s' y):x.map (ev s)=x.map (ev s'):=by
 cases x with
 | none=>rfl
 | some y=>simp [h y (by simp [optL])]
theorem eff_congr {P:Program} [Laid P] {s s':Nat→AVal} {x:AOp} (h:∀ y∈x.opds,ev s y=ev s' y):eff P s x=eff P s' x:=by
 cases x with
 | build z ps=>simp only [eff]; rw [evParts_congr h]
 | bsl r t sz n z ps=>simp only [eff]; rw [evElems_congr h]
 | mkf f a b =>
  simp only [AOp.opds] at h
  simp only [eff]
  rw [evs_congr fun y hy=>h y (List.mem_append_right _ hy)]
 | mkr f a b =>
  simp only [AOp.opds] at h
  simp only [eff]
  rw [evs_congr (l:=a) fun y hy=>h y (List.mem_append_left _ hy),evs_congr (l:=b) fun y hy=>h y (List.mem_append_right _ hy)]
 | calli f args=>simp only [eff]; rw [evs_congr (l:=args) h]
 | calln r t sz f args=>simp only [eff]; rw [evs_congr (l:=args) h]
 | callx ids f args=>simp only [eff]; rw [evs_congr (l:=args) h]
 | callvi x args =>
  simp only [AOp.opds] at h
  simp only [eff]
  rw [h x List.mem_cons_self,evs_congr fun y hy=>h y (List.mem_cons_of_mem _ hy)]
 | call f args=>simp only [eff]; rw [evs_congr (l:=args) h]
 | callv x args =>
  simp only [AOp.opds] at h
  simp only [eff]
  rw [h x List.mem_cons_self,evs_congr fun y hy=>h y (List.mem_cons_of_mem _ hy)]
 | slc sz x lo hi =>
  simp only [AOp.opds] at h
  simp only [eff]
  rw [h x List.mem_cons_self,optmap_congr (x:=lo) fun y hy=>h y (List.mem_cons_of_mem _ (List.mem_append_left _ hy)),optmap_congr (x:=hi) fun y hy=>h y (List.mem_cons_of_mem _ (List.mem_append_right _ hy))]
 | slw sz x lo hi =>
  simp only [AOp.opds] at h
  simp only [eff]
  rw [h x List.mem_cons_self,optmap_congr (x:=lo) fun y hy=>h y (List.mem_cons_of_mem _ (List.mem_append_left _ hy)),optmap_congr (x:=hi) fun y hy=>h y (List.mem_cons_of_mem _ (List.mem_append_right _ hy))]
 | slcs x lo hi =>
  simp only [AOp.opds] at h
  simp only [eff]
  rw [h x List.mem_cons_self,optmap_congr (x:=lo) fun y hy=>h y (List.mem_cons_of_mem _ (List.mem_append_left _ hy)),optmap_congr (x:=hi) fun y hy=>h y (List.mem_cons_of_mem _ (List.mem_append_right _ hy))]
 | alloc r cs=>rfl
 | alt r t cs=>rfl
 | mk0 r t sz b c=>rfl
 | s2a n x=>simp only [AOp.opds] at h; simp only [eff]; rw [h x (by simp)]
 | aps r t x y=>simp only [AOp.opds] at h; simp only [eff]; rw [h x (by simp),h y (by simp)]
 | usd x=>simp only [AOp.opds] at h; simp only [eff]; rw [h x (by simp)]
 | ust t x y=>simp only [AOp.opds] at h; simp only [eff]; rw [h x (by simp),h y (by simp)]
 | pick c a b =>
  simp only [AOp.opds] at h
  simp only [eff]
  rw [h c (by simp),h a (by simp),h b (by simp)]
 | st n x y=>simp only [AOp.opds] at h; simp only [eff]; rw [h x (by simp),h y (by simp)]
 | arith o k x y=>simp only [AOp.opds] at h; simp only [eff]; rw [h x (by simp),h y (by simp)]
 | cmp o x y=>simp only [AOp.opds] at h; simp only [eff]; rw [h x (by simp),h y (by simp)]
 | beq o x y=>simp only [AOp.opds] at h; simp only [eff]; rw [h x (by simp),h y (by simp)]
 | seq o x y=>simp only [AOp.opds] at h; simp only [eff]; rw [h x (by simp),h y (by simp)]
 | slt o x y=>simp only [AOp.opds] at h; simp only [eff]; rw [h x (by simp),h y (by simp)]
 | cat x y=>simp only [AOp.opds] at h; simp only [eff]; rw [h x (by simp),h y (by simp)]
 | ixa o x y=>simp only [AOp.opds] at h; simp only [eff]; rw [h x (by simp),h y (by simp)]
 | ixp l o x y=>simp only [AOp.opds] at h; simp only [eff]; rw [h x (by simp),h y (by simp)]
 | ixv g l o x y=>simp only [AOp.opds] at h; simp only [eff]; rw [h x (by simp),h y (by simp)]
 | ixs x y=>simp only [AOp.opds] at h; simp only [eff]; rw [h x (by simp),h y (by simp)]
 | app r t sz b x y=>simp only [AOp.opds] at h; simp only [eff]; rw [h x (by simp),h y (by simp)]
 | mini x y=>simp only [AOp.opds] at h; simp only [eff]; rw [h x (by simp),h y (by simp)]
 | maxi x y=>simp only [AOp.opds] at h; simp only [eff]; rw [h x (by simp),h y (by simp)]
 | mov x=>simp only [AOp.opds] at h; simp only [eff]; rw [h x (by simp)]
 | box r n x=>simp only [AOp.opds] at h; simp only [eff]; rw [h x (by simp)]
 | ld g n x=>simp only [AOp.opds] at h; simp only [eff]; rw [h x (by simp)]
 | not x=>simp only [AOp.opds] at h; simp only [eff]; rw [h x (by simp)]
 | conv k x=>simp only [AOp.opds] at h; simp only [eff]; rw [h x (by simp)]
 | fad o x=>simp only [AOp.opds] at h; simp only [eff]; rw [h x (by simp)]
 | fld g o n x=>simp only [AOp.opds] at h; simp only [eff]; rw [h x (by simp)]
 | msl r t sz b z x=>simp only [AOp.opds] at h; simp only [eff]; rw [h x (by simp)]
 | mkb r t n b z x=>simp only [AOp.opds] at h; simp only [eff]; rw [h x (by simp)]
 | len x=>simp only [AOp.opds] at h; simp only [eff]; rw [h x (by simp)]
 | lens x=>simp only [AOp.opds] at h; simp only [eff]; rw [h x (by simp)]
 | ext i x=>simp only [AOp.opds] at h; simp only [eff]; rw [h x (by simp)]
 | nck x=>simp only [AOp.opds] at h; simp only [eff]; rw [h x (by simp)]
 | neg k x=>simp only [AOp.opds] at h; simp only [eff]; rw [h x (by simp)]
 | isnil k x=>simp only [AOp.opds] at h; simp only [eff]; rw [h x (by simp)]
 | b2s x=>simp only [AOp.opds] at h; simp only [eff]; rw [h x (by simp)]
 | aeq q ks x y=>simp only [AOp.opds] at h; simp only [eff]; rw [h x (by simp),h y (by simp)]
 | bit q k x y=>simp only [AOp.opds] at h; simp only [eff]; rw [h x (by simp),h y (by simp)]
 | shf q k x y=>simp only [AOp.opds] at h; simp only [eff]; rw [h x (by simp),h y (by simp)]
 | mkm r=>rfl
 | lkps ck z c x y=>simp only [AOp.opds] at h; simp only [eff]; rw [h x (by simp),h y (by simp)]
 | mpus ck x y z=>simp only [AOp.opds] at h; simp only [eff]; rw [h x (by simp),h y (by simp),h z (by simp)]
 | rngm r x=>simp only [AOp.opds] at h; simp only [eff]; rw [h x (by simp)]
 | nxm x=>simp only [AOp.opds] at h; simp only [eff]; rw [h x (by simp)]
 | ent x=>simp only [AOp.opds] at h; simp only [eff]; rw [h x (by simp)]
 | sln sz x hi mx=>simp only [AOp.opds] at h; simp only [eff]; rw [h x (by simp),h hi (by simp),h mx (by simp)]
 | lkp ck z c x y=>simp only [AOp.opds] at h; simp only [eff]; rw [h x (by simp),h y (by simp)]
 | mpu ck x y z=>simp only [AOp.opds] at h; simp only [eff]; rw [h x (by simp),h y (by simp),h z (by simp)]
 | lenm x=>simp only [AOp.opds] at h; simp only [eff]; rw [h x (by simp)]
 | rng r x=>simp only [AOp.opds] at h; simp only [eff]; rw [h x (by simp)]
 | nxt x=>simp only [AOp.opds] at h; simp only [eff]; rw [h x (by simp)]
 | i2s x=>simp only [AOp.opds] at h; simp only [eff]; rw [h x (by simp)]
 | cbx r n x=>simp only [AOp.opds] at h; simp only [eff]; rw [h x (by simp)]
 | sla n x lo hi =>
  simp only [AOp.opds] at h
  simp only [eff]
  rw [h x List.mem_cons_self,optmap_congr (x:=lo) fun y hy=>h y (List.mem_cons_of_mem _ (List.mem_append_left _ hy)),optmap_congr (x:=hi) fun y hy=>h y (List.mem_cons_of_mem _ (List.mem_append_right _ hy))]
 | slv n x lo hi =>
  simp only [AOp.opds] at h
  simp only [eff]
  rw [h x List.mem_cons_self,optmap_congr (x:=lo) fun y hy=>h y (List.mem_cons_of_mem _ (List.mem_append_left _ hy)),optmap_congr (x:=hi) fun y hy=>h y (List.mem_cons_of_mem _ (List.mem_append_right _ hy))]
 | copyw sz x y=>simp only [AOp.opds] at h; simp only [eff]; rw [h x (by simp),h y (by simp)]
 | appz r t sz b z x y=>simp only [AOp.opds] at h; simp only [eff]; rw [h x (by simp),h y (by simp)]
 | appw sz x y=>simp only [AOp.opds] at h; simp only [eff]; rw [h x (by simp),h y (by simp)]
 | lenw x=>simp only [AOp.opds] at h; simp only [eff]; rw [h x (by simp)]
 | clrw sz z x=>simp only [AOp.opds] at h; simp only [eff]; rw [h x (by simp)]
 | slm sz x lo hi mx=>simp only [AOp.opds] at h; simp only [eff]; rw [h x (by simp),h lo (by simp),h hi (by simp),h mx (by simp)]
 | copy sz x y=>simp only [AOp.opds] at h; simp only [eff]; rw [h x (by simp),h y (by simp)]
theorem mem_tmpsOf:∀ {l:List Opd} {t:Nat},Opd.tmp t∈l→t∈tmpsOf l
 | [],t,h=>by cases h
 | y::r,t,h=>by
  rcases List.mem_cons.1 h with e | e
  ·subst e; simp [tmpsOf]
  ·cases y <;> simp [tmpsOf,mem_tmpsOf e]
theorem hasN_mem {l:List Nat} {x:Nat}:hasN l x=true↔x∈l:=by
 unfold hasN
 rw [List.any_eq_true]
 constructor
 ·rintro ⟨y,hy,h⟩; rw [Nat.eq_of_beq_eq_true h]; exact hy
 ·intro h; exact ⟨x,h,Nat.beq_refl x⟩
structure Rec where
 skip:Bool
 v:AVal
 ws:List (Nat × AObj)
 rs:List Nat
def RunF (P:Program) [Laid P] (s:Nat→AVal) (h:List AObj) (x:AOper) (e:Rec):Prop :=
 e.skip=false∧ERun (eff P s x.op) h e.v e.ws e.rs
def SkipF (e:Rec):Prop:=e.skip=true∧e.v=.gone∧e.ws=[]∧e.rs=[]
def StepF (P:Program) [Laid P] (s:Nat→AVal) (h:List AObj) (x:AOper) (e:Rec):Prop :=
 match x.guard with
 | none=>RunF P s h x e
 | some (g,want)=>(∃ b,s g=.d (.bool b)∧((b=want∧RunF P s h x e)∨(b≠want∧SkipF e)))∨(s g=.gone∧SkipF e)
theorem StepF_congr {P:Program} [Laid P] {s s':Nat→AVal} {h h':List AObj} {x:AOper} {e:Rec} (hs:StepF P s h x e) (h1:∀ t∈x.reads,s' t=s t) (hlen:h'.length=h.length) (h2:∀ id∈e.rs,h'[id]?=h[id]?):StepF P s' h' x e:=by
 have hrun:RunF P s h x e→RunF P s' h' x e:=by
  rintro ⟨k1,k2⟩
  refine ⟨k1,?_⟩
  rw [eff_congr (s':=s) fun y hy=>ev_congr fun t ht=>h1 t (by unfold AOper.reads; exact List.mem_append_left _ (mem_tmpsOf (ht ▸ hy)))]
  exact ERun_local hlen k2 h2
 unfold StepF at hs ⊢
 cases hg:x.guard with
 | none=>rw [hg] at hs; exact hrun hs
 | some p =>
  obtain ⟨g,want⟩:=p
  rw [hg] at hs
  have hgg:s' g=s g:=h1 g (by unfold AOper.reads; rw [hg]; simp)
  simp only at hs ⊢
  rw [hgg]
  rcases hs with ⟨b,k1,k2⟩ | k
  ·exact .inl ⟨b,k1,k2.imp (fun k=>⟨k.1,hrun k.2⟩) (fun k=>k)⟩
  ·exact .inr k
def updS (s:Nat→AVal) (d:Option Nat) (v:AVal):Nat→AVal:=fun t=>if d=some t then v else s t
def vw (sel:Nat→Bool):Nat→List AOper→List Rec→(Nat→AVal)→(Nat→AVal)
 | k,x::xs,e::es,s=>vw sel (k+1) xs es (if sel k then updS s x.dst e.v else s)
 | _,_,_,s=>s
def vh (sel:Nat→Bool):Nat→List Rec→List AObj→List AObj
 | k,e::es,h=>vh sel (k+1) es (if sel k then applyW h e.ws else h)
 | _,[],h=>h
theorem applyW_length:∀ (ws:List (Nat × AObj)) (h:List AObj),(applyW h ws).length=h.length
 | [],h=>rfl
 | (i,o)::r,h=>by simp only [applyW]; rw [applyW_length r]; simp
theorem vh_length (sel:Nat→Bool):∀ (es:List Rec) (k:Nat) (h:List AObj),(vh sel k es h).length=h.length
 | [],k,h=>rfl
 | e::es,k,h=>by
  simp only [vh]
  rw [vh_length sel es]
  split
  ·exact applyW_length _ _
  ·rfl
theorem applyW_other {id:Nat}:∀ (ws:List (Nat × AObj)) (h:List AObj),id∉wids ws→(applyW h ws)[id]?=h[id]?
 | [],h,_=>rfl
 | (i,o)::r,h,hn=>by
  simp only [wids,List.mem_cons,not_or] at hn
  simp only [applyW]
  rw [applyW_other r _ hn.2,List.getElem?_set_ne (Ne.symm hn.1)]
theorem applyW_congr {id:Nat}:∀ (ws:List (Nat × AObj)) (h h':List AObj),h.length=h'.length→(h[id]?=h'[id]?∨id∈wids ws)→(applyW h ws)[id]?=(applyW h' ws)[id]?
 | [],h,h',_,hh=>by
  rcases hh with hh | hh
  ·exact hh
  ·simp [wids] at hh
 | (i,o)::r,h,h',hl,hh=>by
  simp only [applyW]
  refine applyW_congr r _ _ (by simpa using hl) ?_
  by_cases e:i=id
  ·left
   subst e
   by_cases hlt:i < h.length
   ·have hlt':i < h'.length:=by omega
    simp [hlt,hlt']
   ·have hlt':¬ i < h'.length:=by omega
    simp [hlt,hlt']
  ·rcases hh with hh | hh
   ·left; rw [List.getElem?_set_ne e,List.getElem?_set_ne e]; exact hh
   ·simp only [wids,List.mem_cons] at hh
    rcases hh with hh | hh
    ·exact absurd hh.symm e
    ·exact .inr hh
theorem vw_congr {sel sel':Nat→Bool} {t:Nat}:∀ (xs:List AOper) (es:List Rec) (k:Nat) (s s':Nat→AVal),s t=s' t→(∀ j x,xs[j]?=some x→x.dst=some t→sel (k+j)=sel' (k+j))→vw sel k xs es s t=vw sel' k xs es s' t
 | [],es,k,s,s',h,_=>by cases es <;> simpa [vw] using h
 | x::xs,[],k,s,s',h,_=>by simpa [vw] using h
 | x::xs,e::es,k,s,s',h,hx=>by
  simp only [vw]
  refine vw_congr xs es (k+1) _ _ ?_ (fun j y hj hy=>?_)
  ·by_cases hd:x.dst=some t
   ·have:=hx 0 x rfl hd
    simp only [Nat.add_zero] at this
    rw [this]
    split
    ·simp [updS,hd]
    ·exact h
   ·split <;> split <;> simp [updS,hd,h]
  ·have:=hx (j+1) y (by simpa using hj) hy
   rwa [show k+(j+1)=k+1+j by omega] at this
theorem vh_congr {sel sel':Nat→Bool} {id:Nat}:∀ (es:List Rec) (k:Nat) (h h':List AObj),h.length=h'.length→h[id]?=h'[id]?→(∀ j e,es[j]?=some e→id∈wids e.ws→sel (k+j)=sel' (k+j))→(vh sel k es h)[id]?=(vh sel' k es h')[id]?
 | [],k,h,h',_,hh,_=>by simpa [vh] using hh
 | e::es,k,h,h',hl,hh,hx=>by
  simp only [vh]
  refine vh_congr es (k+1) _ _ ?_ ?_ (fun j y hj hy=>?_)
  ·split <;> split <;> simp [applyW_length,hl]
  ·by_cases hd:id∈wids e.ws
   ·have:=hx 0 e rfl hd
    simp only [Nat.add_zero] at this
    rw [this]
    split
    ·exact applyW_congr _ _ _ hl (.inr hd)
    ·exact hh
   ·split <;> split <;> simp [applyW_other _ _ hd,hh]
  ·have:=hx (j+1) y (by simpa using hj) hy
   rwa [show k+(j+1)=k+1+j by omega] at this
theorem vw_last {sel : Nat → Bool} {t : Nat} : ∀ (xs : List AOper) (es : List Rec) (k i : Nat) (s : Nat → AVal) (x : AOper) (e : Rec), xs[i]? = some x → es[i]? = some e → sel (k + i) = true → x.dst = some t →
  (∀ j y,i < j→xs[j]?=some y→sel (k+j)=true→y.dst≠some t)→vw sel k xs es s t=e.v
 | [],es,k,i,s,x,e,hx,_,_,_,_=>by simp at hx
 | y::xs,[],k,i,s,x,e,_,he,_,_,_=>by simp at he
 | y::xs,f::es,k,0,s,x,e,hx,he,hsel,hd,hn=>by
  simp at hx he
  subst hx he
  simp only [Nat.add_zero] at hsel
  simp only [vw,hsel,if_true]
  have keep:∀ (xs:List AOper) (es:List Rec) (k':Nat) (s:Nat→AVal),(∀ j y,xs[j]?=some y→sel (k'+j)=true→y.dst≠some t)→vw sel k' xs es s t=s t:=by
   intro xs
   induction xs with
   | nil=>intro es k' s _; cases es <;> rfl
   | cons z xs ih =>
    intro es k' s hh
    cases es with
    | nil=>rfl
    | cons g es =>
     simp only [vw]
     rw [ih es (k'+1) _ (fun j y hj hs=>hh (j+1) y (by simpa using hj) (by rwa [show k'+(j+1)=k'+1+j by omega]))]
     split
     ·rename_i hsk
      have:=hh 0 z rfl (by simpa using hsk)
      simp [updS,this]
     ·rfl
  rw [keep xs es (k+1) _ (fun j y hj hs=>hn (j+1) y (by omega) (by simpa using hj) (by rwa [show k+(j+1)=k+1+j by omega]))]
  simp [updS,hd]
 | y::xs,f::es,k,i+1,s,x,e,hx,he,hsel,hd,hn=>by
  simp only [vw]
  exact vw_last xs es (k+1) i _ x e (by simpa using hx) (by simpa using he) (by rwa [show k+1+i=k+(i+1) by omega]) hd
   (fun j y hj hy hs=>hn (j+1) y (by omega) (by simpa using hy) (by rwa [show k+(j+1)=k+1+j by omega]))
theorem vh_last {sel : Nat → Bool} {id : Nat} : ∀ (es : List Rec) (k i : Nat) (h : List AObj) (e : Rec), es[i]? = some e → sel (k + i) = true → id ∈ wids e.ws →
  (∀ j y,i < j→es[j]?=some y→sel (k+j)=true→id∉wids y.ws)→∀ h',h'.length=h.length→(vh sel k es h)[id]?=(applyW h' e.ws)[id]?
 | [],k,i,h,e,he,_,_,_,_,_=>by simp at he
 | f::es,k,0,h,e,he,hsel,hd,hn,h',hl=>by
  simp at he
  subst he
  simp only [Nat.add_zero] at hsel
  simp only [vh,hsel,if_true]
  have keep:∀ (es:List Rec) (k':Nat) (h:List AObj),(∀ j y,es[j]?=some y→sel (k'+j)=true→id∉wids y.ws)→(vh sel k' es h)[id]?=h[id]?:=by
   intro es
   induction es with
   | nil=>intro k' h _; rfl
   | cons z es ih =>
    intro k' h hh
    simp only [vh]
    rw [ih (k'+1) _ (fun j y hj hs=>hh (j+1) y (by simpa using hj) (by rwa [show k'+(j+1)=k'+1+j by omega]))]
    split
    ·rename_i hsk
     exact applyW_other _ _ (hh 0 z rfl (by simpa using hsk))
    ·rfl
  rw [keep es (k+1) _ (fun j y hj hs=>hn (j+1) y (by omega) (by simpa using hj) (by rwa [show k+(j+1)=k+1+j by omega]))]
  exact applyW_congr _ _ _ hl.symm (.inr hd)
 | f::es,k,i+1,h,e,he,hsel,hd,hn,h',hl=>by
  simp only [vh]
  refine vh_last es (k+1) i _ e (by simpa using he) (by rwa [show k+1+i=k+(i+1) by omega]) hd
   (fun j y hj hy hs=>hn (j+1) y (by omega) (by simpa using hy) (by rwa [show k+(j+1)=k+1+j by omega])) h' ?_
  split
  ·rw [applyW_length]; exact hl
  ·exact hl
end Vc
set_option linter.unusedSimpArgs false
set_option linter.unusedVariables false
namespace Vc
open Go Go.RowKit
def Chain (P:Program) [Laid P]:(Nat→AVal)→List AObj→List AOper→List Rec→Prop
 | s,h,x::xs,e::es=>StepF P s h x e∧Chain P (updS s x.dst e.v) (applyW h e.ws) xs es
 | _,_,[],[]=>True
 | _,_,_,_=>False
theorem vw_none {sel:Nat→Bool}:∀ (xs:List AOper) (es:List Rec) (k:Nat) (s:Nat→AVal),(∀ j,k≤j→sel j=false)→vw sel k xs es s=s
 | [],es,k,s,_=>by cases es <;> rfl
 | x::xs,[],k,s,_=>rfl
 | x::xs,e::es,k,s,h=>by
  simp only [vw,h k (Nat.le_refl _),Bool.false_eq_true,if_false]
  exact vw_none xs es (k+1) s fun j hj=>h j (by omega)
theorem vh_none {sel:Nat→Bool}:∀ (es:List Rec) (k:Nat) (h:List AObj),(∀ j,k≤j→sel j=false)→vh sel k es h=h
 | [],k,s,_=>rfl
 | e::es,k,s,h=>by
  simp only [vh,h k (Nat.le_refl _),Bool.false_eq_true,if_false]
  exact vh_none es (k+1) s fun j hj=>h j (by omega)
theorem Chain_get {P : Program} [Laid P] : ∀ {xs : List AOper} {es : List Rec} {s : Nat → AVal} {h : List AObj} (k i : Nat) {x : AOper} {e : Rec}, Chain P s h xs es → xs[i]? = some x → es[i]? = some e →
  StepF P (vw (fun j=>decide (j < k+i)) k xs es s) (vh (fun j=>decide (j < k+i)) k es h) x e
 | [],es,s,h,k,i,x,e,_,hx,_=>by simp at hx
 | y::xs,[],s,h,k,i,x,e,_,_,he=>by simp at he
 | y::xs,f::es,s,h,k,0,x,e,hc,hx,he=>by
  simp at hx he
  subst hx he
  rw [vw_none _ _ _ _ (fun j hj=>by simp; omega),vh_none _ _ _ (fun j hj=>by simp; omega)]
  exact hc.1
 | y::xs,f::es,s,h,k,i+1,x,e,hc,hx,he=>by
  have:=Chain_get (k+1) i hc.2 (by simpa using hx) (by simpa using he)
  have e1:k+1+i=k+(i+1):=by omega
  rw [e1] at this
  have e2:decide (k < k+(i+1))=true:=decide_eq_true (by omega)
  simp only [vw,vh,e2,if_true]
  exact this
theorem Chain_length {P:Program} [Laid P]:∀ {xs:List AOper} {es:List Rec} {s:Nat→AVal} {h:List AObj},Chain P s h xs es→es.length=xs.length
 | [],[],_,_,_=>rfl
 | [],_::_,_,_,h=>h.elim
 | _::_,[],_,_,h=>h.elim
 | x::xs,e::es,s,h,hc=>by simp [Chain_length hc.2]
theorem getL_putL (l:List (Nat × AVal)) (d:Option Nat) (v:AVal) (t:Nat):getL (putL l d v) t=updS (getL l) d v t:=by
 cases d with
 | none=>simp [putL,updS]
 | some d =>
  simp only [putL,updS,getL_setL,Option.some.injEq]
  by_cases e:t=d
  ·subst e; simp
  ·simp [e,Ne.symm e]
def toAcc (e:Rec):Acc:=⟨e.rs,wids e.ws⟩
theorem vdo_step {P:Program} [Laid P] {o:AOper} {st:St} {K:St→Acc→Prop} (h:vdo P o st K):∃ e,RunF P (getL st.slots) st.heap o e∧∃ st',(∀ t,getL st'.slots t=updS (getL st.slots) o.dst e.v t)∧st'.heap=applyW st.heap e.ws∧K st' (toAcc e):=by
 unfold vdo at h
 obtain ⟨v,ws,rs,h1,h2⟩:=runE_run h
 rw [forceV_eq,forceL_eq,forceH_eq] at h2
 exact ⟨⟨false,v,ws,rs⟩,⟨rfl,h1⟩,_,fun t=>getL_putL _ _ _ t,rfl,h2⟩
theorem vskip_step {o:AOper} {st:St} {K:St→Acc→Prop} (h:vskip o st K):∃ e,SkipF e∧∃ st',(∀ t,getL st'.slots t=updS (getL st.slots) o.dst e.v t)∧st'.heap=applyW st.heap e.ws∧K st' (toAcc e):=by
 unfold vskip at h
 rw [forceL_eq] at h
 exact ⟨⟨true,.gone,[],[]⟩,⟨rfl,rfl,rfl,rfl⟩,⟨putL st.slots o.dst .gone,st.heap⟩,fun t=>getL_putL _ _ _ t,rfl,h⟩
theorem set_same {l:List (Nat × AVal)} {g:Nat} {v:AVal} (h:getL l g=v) (t:Nat):getL (setL l g v) t=getL l t:=by
 rw [getL_setL]
 split
 ·rename_i e; subst e; exact h.symm
 ·rfl
theorem vop_step {P:Program} [Laid P] {o:AOper} {st:St} {K:St→Acc→Prop} (h:vop P o st K):∃ e,StepF P (getL st.slots) st.heap o e∧∃ st',(∀ t,getL st'.slots t=updS (getL st.slots) o.dst e.v t)∧st'.heap=applyW st.heap e.ws∧K st' (toAcc e):=by
 unfold vop at h
 split at h
 ·rename_i hg
  obtain ⟨e,h1,h2⟩:=vdo_step h
  exact ⟨e,by unfold StepF; rw [hg]; exact h1,h2⟩
 ·rename_i g want hg
  split at h
  ·rename_i b hb
   have fin:∀ {b':Bool},b=b'→forceL (setL st.slots g (.d (.bool b'))) (fun sl=>if b'=want then vdo P o ⟨sl,st.heap⟩ K else vskip o ⟨sl,st.heap⟩ K)→∃ e,StepF P (getL st.slots) st.heap o e∧∃ st',(∀ t,getL st'.slots t=updS (getL st.slots) o.dst e.v t)∧st'.heap=applyW st.heap e.ws∧K st' (toAcc e):=by
    rintro b' rfl h
    rw [forceL_eq] at h
    have hsame:(fun t=>getL (setL st.slots g (.d (.bool b))) t)=getL st.slots:=funext fun t=>set_same hb t
    split at h
    ·rename_i hw
     obtain ⟨e,h1,st',h2,h3⟩:=vdo_step h
     have h1':RunF P (getL st.slots) st.heap o e:=by rw [← hsame]; exact h1
     refine ⟨e,by unfold StepF; rw [hg]; exact .inl ⟨b,hb,.inl ⟨hw,h1'⟩⟩,st',fun t=>?_,h3⟩
     rw [h2,← hsame]
    ·rename_i hw
     obtain ⟨e,h1,st',h2,h3⟩:=vskip_step h
     refine ⟨e,by unfold StepF; rw [hg]; exact .inl ⟨b,hb,.inr ⟨hw,h1⟩⟩,st',fun t=>?_,h3⟩
     rw [h2,← hsame]
   cases b with
   | true =>
    refine fin (b':=true) rfl ?_
    rw [forceL_eq]
    have h':=h
    simp only [brk,forceL_eq] at h'
    cases want <;> simpa using h'
   | false =>
    refine fin (b':=false) rfl ?_
    rw [forceL_eq]
    have h':=h
    simp only [brk,forceL_eq] at h'
    cases want <;> simpa using h'
  ·rename_i hb
   obtain ⟨e,h1,h2⟩:=vskip_step h
   exact ⟨e,by unfold StepF; rw [hg]; exact .inr ⟨hb,h1⟩,h2⟩
  ·exact h.elim
theorem vops_chain {P : Program} [Laid P] : ∀ {xs : List AOper} {st : St} {acc : List Acc} {K : St → List Acc → Prop}, vops P xs st acc K →
  ∃ es st',Chain P (getL st.slots) st.heap xs es∧(∀ k t,getL st'.slots t=vw (fun _=>true) k xs es (getL st.slots) t)∧(∀ k,st'.heap=vh (fun _=>true) k es st.heap)∧K st' ((es.map toAcc).reverse++acc)
 | [],st,acc,K,h=>⟨[],st,trivial,fun _ _=>rfl,fun _=>rfl,h⟩
 | x::xs,st,acc,K,h=>by
  simp only [vops] at h
  obtain ⟨e,h1,st1,h2,h3,h4⟩:=vop_step h
  obtain ⟨es,st',h5,h6,h7,h8⟩:=vops_chain h4
  have hfun:getL st1.slots=updS (getL st.slots) x.dst e.v:=funext h2
  rw [hfun,h3] at h5
  refine ⟨e::es,st',⟨h1,h5⟩,fun k t=>?_,fun k=>?_,by simpa using h8⟩
  ·simp only [vw,if_true]
   rw [h6 (k+1) t,hfun]
  ·simp only [vh,if_true]
   rw [h7 (k+1),h3]
def Indep (x:AOper) (e:Rec) (y:AOper) (f:Rec):Prop :=
 apartA x y=true∧apartA y x=true∧(∀ id∈wids e.ws,id∉f.rs∧id∉wids f.ws)∧∀ id∈e.rs,id∉wids f.ws
theorem apartA_spec {x y:AOper} (h:apartA x y=true) {t:Nat} (hd:x.dst=some t):t∉y.reads∧y.dst≠some t:=by
 unfold apartA at h
 rw [hd] at h
 simp only [Bool.and_eq_true] at h
 refine ⟨fun hm=>?_,fun e=>?_⟩
 ·rw [hasN_mem.2 hm] at h; simp at h
 ·rw [e] at h; simp [Nat.beq_refl] at h
def Inv (n base:Nat) (w0:W0) (xs:List AOper) (es:List Rec) (s0:Nat→AVal) (h0:List AObj) (sel:Nat→Bool) (a:Act) (w:World):Prop :=
 ∃ G st,Rel n base w0 G st a w∧(∀ t,getL st.slots t=vw sel 0 xs es s0 t)∧st.heap=vh sel 0 es h0
theorem chkOpers_get {P:Program} [Laid P] {n:Nat} {ops:Array Oper}:∀ {os:List Oper} {xs:List AOper} {i:Nat} {o:Oper} {x:AOper},chkOpers P n ops os xs=true→os[i]?=some o→xs[i]?=some x→chkOper P n ops o x=true
 | [],xs,i,o,x,_,ho,_=>by simp at ho
 | _::_,[],i,o,x,_,_,hx=>by simp at hx
 | a::os,b::xs,0,o,x,hc,ho,hx=>by
  simp at ho hx
  subst ho hx
  simp only [chkOpers,Bool.and_eq_true] at hc
  exact hc.1
 | a::os,b::xs,i+1,o,x,hc,ho,hx=>by
  simp only [chkOpers,Bool.and_eq_true] at hc
  exact chkOpers_get hc.2 (by simpa using ho) (by simpa using hx)
theorem chkOpers_length {P:Program} [Laid P] {n:Nat} {ops:Array Oper}:∀ {os:List Oper} {xs:List AOper},chkOpers P n ops os xs=true→xs.length=os.length
 | [],[],_=>rfl
 | [],_::_,h=>by simp [chkOpers] at h
 | _::_,[],h=>by simp [chkOpers] at h
 | _::os,_::xs,h=>by
  simp only [chkOpers,Bool.and_eq_true] at h
  simp [chkOpers_length h.2]
section
variable {P : Program} [Laid P] {n base : Nat} {w0 : W0} {w : World} {a : Act} {r : Option Nat} {ops : Array Oper} {xs : List AOper} {es : List Rec} {s0 : Nat → AVal} {h0 : List AObj}
theorem step_sound (hgl : W0Ok P w0) (hck : chkOpers P n ops ops.toList xs = true) (hch : Chain P s0 h0 xs es) {i : Nat} {o : Oper} {x : AOper} {e : Rec} (ho : ops[i]? = some o) (hx : xs[i]? = some x) (he : es[i]? = some e)
  {sel:Nat→Bool} (hi:sel i=false) (hind:∀ j y f,xs[j]?=some y→es[j]?=some f→(j < i∧sel j=false)∨(i < j∧sel j=true)→Indep x e y f)
  (hinv:Inv n base w0 xs es s0 h0 sel a w) {K:Act→World→Prop} {Q:Exit→Act→World→Prop} (hK:∀ a' w',Inv n base w0 xs es s0 h0 (fun j=>sel j||Nat.beq j i) a' w'→K a' w') :
  wpOpIn (Fw r) 0 P ops Q i K a w:=by
 obtain ⟨G,st,hr,hs,hh⟩:=hinv
 have hchk:=chkOpers_get hck (by simpa using ho) hx
 simp only [chkOper,Bool.and_eq_true,beq_iff_eq] at hchk
 obtain ⟨⟨⟨hop,hdst⟩,hdok⟩,hguard⟩:=hchk
 have hlen:=Chain_length hch
 have esget:∀ {j y},xs[j]?=some y→∃ f,es[j]?=some f:=fun {j y} hj=>by
  have:=(List.getElem?_eq_some_iff.1 hj).1
  exact ⟨es[j]'(by omega),List.getElem?_eq_getElem (by omega)⟩
 have xsget:∀ {j f},es[j]?=some f→∃ y,xs[j]?=some y:=fun {j f} hj=>by
  have:=(List.getElem?_eq_some_iff.1 hj).1
  exact ⟨xs[j]'(by omega),List.getElem?_eq_getElem (by omega)⟩
 have order:∀ {j y f},xs[j]?=some y→es[j]?=some f→sel j≠decide (j < 0+i)→Indep x e y f:=fun {j y f} hj hf hne=>by
  refine hind j y f hj hf ?_
  by_cases hji:j=i
  ·subst hji; rw [hi] at hne; simp at hne
  ·cases hsj:sel j <;> rw [hsj] at hne <;> simp at hne
   ·exact .inl ⟨by omega,rfl⟩
   ·exact .inr ⟨by omega,rfl⟩
 have hstep:StepF P (getL st.slots) st.heap x e:=by
  refine StepF_congr (Chain_get 0 i hch hx he) (fun t ht=>?_) (by rw [hh,vh_length,vh_length]) (fun id hid=>?_)
  ·rw [hs]
   refine vw_congr xs es 0 s0 s0 rfl fun j y hj hy=>?_
   simp only [Nat.zero_add]
   refine Classical.byContradiction fun hne=>?_
   obtain ⟨f,hf⟩:=esget hj
   exact (apartA_spec (order hj hf (by simpa using hne)).2.1 hy).1 ht
  ·rw [hh]
   refine vh_congr es 0 h0 h0 rfl rfl fun j f hf hid2=>?_
   simp only [Nat.zero_add]
   refine Classical.byContradiction fun hne=>?_
   obtain ⟨y,hj⟩:=xsget hf
   exact (order hj hf (by simpa using hne)).2.2.2 id hid hid2
 have next:∀ {G':Gh} {a':Act} {w':World} {sl:List (Nat × AVal)},Rel n base w0 G' ⟨sl,applyW st.heap e.ws⟩ a' w'→(∀ t,getL sl t=updS (getL st.slots) x.dst e.v t)→Inv n base w0 xs es s0 h0 (fun j=>sel j||Nat.beq j i) a' w':=by
  intro G' a' w' sl hr' hsl
  have hbi:∀ {j},j≠i→Nat.beq j i=false:=fun {j} h=>by
   cases hj:Nat.beq j i
   ·rfl
   ·exact absurd (Nat.eq_of_beq_eq_true hj) h
  have later:∀ {j y},i < j→xs[j]?=some y→(sel (0+j)||Nat.beq (0+j) i)=true→∃ f,es[j]?=some f∧Indep x e y f:=fun {j y} hij hj hsj=>by
   simp only [Nat.zero_add] at hsj
   rw [hbi (by omega),Bool.or_false] at hsj
   obtain ⟨f,hf⟩:=esget hj
   exact ⟨f,hf,hind j y f hj hf (.inr ⟨hij,hsj⟩)⟩
  refine ⟨G',⟨sl,applyW st.heap e.ws⟩,hr',fun t=>?_,?_⟩
  ·show getL sl t=_
   rw [hsl]
   simp only [updS]
   by_cases hd:x.dst=some t
   ·rw [if_pos hd]
    refine (vw_last xs es 0 i s0 x e hx he (by simp [Nat.beq_refl]) hd fun j y hij hj hsj=>?_).symm
    obtain ⟨f,_,hI⟩:=later hij hj hsj
    exact (apartA_spec hI.1 hd).2
   ·rw [if_neg hd,hs]
    refine vw_congr xs es 0 s0 s0 rfl fun j y hj hy=>?_
    simp only [Nat.zero_add]
    have:j≠i:=fun h=>by subst h; rw [hx] at hj; cases hj; exact hd hy
    rw [hbi this,Bool.or_false]
  ·show applyW st.heap e.ws=_
   apply List.ext_getElem?
   intro id
   by_cases hd:id∈wids e.ws
   ·refine (vh_last es 0 i h0 e he (by simp [Nat.beq_refl]) hd (fun j f hij hf hsj=>?_) st.heap (by rw [hh,vh_length])).symm
    obtain ⟨y,hj⟩:=xsget hf
    obtain ⟨f',hf',hI⟩:=later hij hj hsj
    rw [hf] at hf'; cases hf'
    exact (hI.2.2.1 id hd).2
   ·rw [applyW_other _ _ hd,hh]
    refine vh_congr es 0 h0 h0 rfl rfl fun j f hf hid2=>?_
    simp only [Nat.zero_add]
    have:j≠i:=fun h=>by subst h; rw [he] at hf; cases hf; exact hd hid2
    rw [hbi this,Bool.or_false]
 have hdlt:∀ d,o.dst=some d→d < n:=fun d hd=>by
  rw [hd] at hdok
  simpa [dstOk,Nat.blt_eq] using hdok
 have run:RunF P (getL st.slots) st.heap x e→o.wpIn (Fw r) 0 P a w K Q:=by
  rintro ⟨_,hrun⟩
  refine op_sound hgl hr hrun hop K Q fun y w' G' hr' hv=>?_
  cases hd:o.dst with
  | none =>
   rw [hd] at hdst
   refine hK _ _ (next (G':=G') (sl:=st.slots) hr' fun t=>?_)
   simp [updS,← hdst]
  | some d =>
   rw [hd] at hdst
   refine hK _ _ (next (G':=G') (sl:=setL st.slots d e.v) (hr'.put (hdlt d hd) hv) fun t=>?_)
   rw [← hdst]
   exact getL_putL st.slots (some d) e.v t
 have skip:SkipF e→K (a.put o.dst undef) w:=by
  rintro ⟨_,hv,hw,_⟩
  cases hd:o.dst with
  | none =>
   rw [hd] at hdst
   refine hK _ _ (next (G':=G) (sl:=st.slots) (by rw [hw]; exact hr) fun t=>?_)
   simp [updS,← hdst]
  | some d =>
   rw [hd] at hdst
   refine hK _ _ (next (G':=G) (sl:=setL st.slots d e.v) (by rw [hw]; exact hr.put (hdlt d hd) (by rw [hv]; simp [VRel])) fun t=>?_)
   rw [← hdst]
   exact getL_putL st.slots (some d) e.v t
 unfold wpOpIn
 rw [ho]
 simp only
 unfold StepF at hstep
 cases hg:o.guard with
 | none =>
  rw [hg] at hguard
  cases hgx:x.guard with
  | none =>
   rw [hgx] at hstep
   rw [if_pos (by simp [Region.wanted,hg])]
   exact run hstep
  | some p=>rw [hgx] at hguard; simp at hguard
 | some p =>
  obtain ⟨j,b⟩:=p
  rw [hg] at hguard
  cases hgx:x.guard with
  | none=>rw [hgx] at hguard; simp at hguard
  | some q =>
   obtain ⟨g,want⟩:=q
   rw [hgx] at hguard hstep
   simp only [Bool.and_eq_true,beq_iff_eq] at hguard
   obtain ⟨⟨rfl,hj⟩,hglt⟩:=hguard
   have hglt:g < n:=by simpa [Nat.blt_eq] using hglt
   have hy:yielded ops a.tmps j=(match a.tmps[g]? with | some (.bool b)=>some b | _=>none):=by
    unfold yielded
    cases hoj:ops[j]? with
    | none=>rw [hoj] at hj; simp at hj
    | some oj =>
     rw [hoj] at hj
     simp only [beq_iff_eq] at hj
     simp only [Option.bind_some,hj]
     rfl
   have htg:a.tmps[g]?=some (a.tmps.getD g undef):=by
    have:g < a.tmps.size:=by rw [hr.size]; exact hglt
    simp [Array.getD_eq_getD_getElem?,this]
   have hvg:=hr.slots g
   simp only at hstep
   rcases hstep with ⟨bv,h1,h2⟩ | ⟨h1,h2⟩
   ·rw [h1] at hvg
    have hb:=bool_of hvg
    rw [htg,hb] at hy
    simp only at hy
    rcases h2 with ⟨rfl,h2⟩ | ⟨hne,h2⟩
    ·rw [if_pos (by simp [Region.wanted,hg,hy])]
     exact run h2
    ·rw [if_neg (by simp [Region.wanted,hg,hy]; exact hne)]
     exact ⟨fun _ _=>trivial,skip h2⟩
   ·rw [h1] at hvg
    simp only [VRel] at hvg
    rw [htg,hvg] at hy
    rw [if_neg (by unfold Region.wanted; rw [hg]; simp only; rw [hy]; simp [undef])]
    exact ⟨fun _ _=>trivial,skip h2⟩
end
end Vc
set_option linter.unusedSimpArgs false
set_option linter.unusedVariables false
namespace Vc
open Go Go.RowKit
theorem befT_length:∀ (l:List Oper) (acc:List Nat),(befT l acc).length=acc.length+l.length
 | [],acc=>by simp [befT]
 | o::r,acc=>by simp only [befT]; rw [befT_length r]; simp; omega
theorem befT_old:∀ (l:List Oper) (acc:List Nat) (k:Nat),k < acc.length→(befT l acc).getD k 0=acc.getD k 0
 | [],acc,k,_=>rfl
 | o::r,acc,k,hk=>by
  simp only [befT]
  rw [befT_old r _ k (by simp; omega)]
  simp [List.getD_eq_getElem?_getD,List.getElem?_append_left hk]
theorem fold_bits (acc : List Nat) (i : Nat) : ∀ (es : List Edge) (s : Nat), (es.foldl (fun s e => if Region.binds .any e then s ||| 2 ^ e.on ||| acc.getD e.on 0 else s) s).testBit i = true →
  s.testBit i=true∨∃ e∈es,Region.binds .any e=true∧(e.on=i∨(acc.getD e.on 0).testBit i=true)
 | [],s,h=>.inl h
 | e::es,s,h=>by
  simp only [List.foldl_cons] at h
  rcases fold_bits acc i es _ h with h1 | ⟨f,hf,h1⟩
  ·split at h1
   ·rename_i hb
    simp only [Nat.testBit_or,Bool.or_eq_true,Nat.testBit_two_pow,decide_eq_true_eq] at h1
    rcases h1 with (h1 | h1) | h1
    ·exact .inl h1
    ·exact .inr ⟨e,List.mem_cons_self,hb,.inl h1⟩
    ·exact .inr ⟨e,List.mem_cons_self,hb,.inr h1⟩
   ·exact .inl h1
  ·exact .inr ⟨f,List.mem_cons_of_mem _ hf,h1⟩
theorem befT_spec {i : Nat} : ∀ (l : List Oper) (acc : List Nat) (k : Nat) (o : Oper), l[k]? = some o → ((befT l acc).getD (acc.length + k) 0).testBit i = true →
  ∃ e∈o.after.toList,Region.binds .any e=true∧(e.on=i∨(e.on < acc.length+k∧((befT l acc).getD e.on 0).testBit i=true))
 | [],acc,k,o,ho,_=>by simp at ho
 | p::r,acc,0,o,ho,h=>by
  simp at ho
  subst ho
  simp only [befT,Nat.add_zero] at h ⊢
  rw [befT_old r _ acc.length (by simp)] at h
  simp only [List.getD_eq_getElem?_getD,List.getElem?_append_right (Nat.le_refl _),Nat.sub_self,List.getElem?_cons_zero,Option.getD_some] at h
  rcases fold_bits acc i p.after.toList 0 (by simpa [List.getD_eq_getElem?_getD] using h) with h1 | ⟨e,he,hb,h1⟩
  ·simp at h1
  ·refine ⟨e,he,hb,h1.imp id fun h1=>?_⟩
   have hlt:e.on < acc.length:=by
    rcases Nat.lt_or_ge e.on acc.length with h2 | h2
    ·exact h2
    ·simp [List.getD_eq_getElem?_getD,List.getElem?_eq_none h2] at h1
   refine ⟨hlt,?_⟩
   rw [befT_old r _ e.on (by simp; omega)]
   simpa [List.getD_eq_getElem?_getD,List.getElem?_append_left hlt] using h1
 | p::r,acc,k+1,o,ho,h=>by
  simp only [befT] at h ⊢
  have e1:acc.length+(k+1)=(acc++[p.after.toList.foldl (fun s e=>if Region.binds .any e then s ||| 2 ^ e.on ||| acc.getD e.on 0 else s) 0]).length+k:=by simp; omega
  rw [e1] at h ⊢
  exact befT_spec r _ k o (by simpa using ho) h
section
variable {P : Program} [Laid P] {n base : Nat} {w0 : W0} {w : World} {a : Act} {r : Option Nat} {ops : Array Oper} {xs : List AOper} {es : List Rec} {s0 : Nat → AVal} {h0 : List AObj}
theorem Inv_congr {sel sel':Nat→Bool} (h:Inv n base w0 xs es s0 h0 sel a w) (hlen:es.length=xs.length) (hs:∀ j,j < xs.length→sel' j=sel j):Inv n base w0 xs es s0 h0 sel' a w:=by
 obtain ⟨G,st,h1,h2,h3⟩:=h
 refine ⟨G,st,h1,fun t=>?_,?_⟩
 ·rw [h2]
  refine vw_congr xs es 0 s0 s0 rfl fun j x hj _=>?_
  rw [Nat.zero_add]
  exact (hs j (List.getElem?_eq_some_iff.1 hj).1).symm
 ·rw [h3]
  apply List.ext_getElem?
  intro id
  refine vh_congr es 0 h0 h0 rfl rfl fun j f hf _=>?_
  rw [Nat.zero_add]
  have:=(List.getElem?_eq_some_iff.1 hf).1
  exact (hs j (by omega)).symm
theorem region_text (hgl : W0Ok P w0) (hck : chkOpers P n ops ops.toList xs = true) (hch : Chain P s0 h0 xs es) {Q : Exit → Act → World → Prop} (hQ : ∀ a w, Inv n base w0 xs es s0 h0 (fun _ => true) a w → Q .normal a w) :
  ∀ (m k:Nat) (a:Act) (w:World),k+m=ops.size→Inv n base w0 xs es s0 h0 (fun j=>decide (j < k)) a w→wpOpsIn (Fw r) 0 P ops Q (List.range' k m) a w
 | 0,k,a,w,hk,h=>by
  simp only [List.range'_zero,wpOpsIn]
  have hl:=chkOpers_length hck
  refine hQ a w (Inv_congr h (Chain_length hch) fun j hj=>?_)
  have:j < k:=by simp at hl; omega
  simp [this]
 | m+1,k,a,w,hk,h=>by
  have hl:=chkOpers_length hck
  have hlen:=Chain_length hch
  have hlt:k < ops.size:=by omega
  have hlx:k < xs.length:=by simp at hl; omega
  rw [List.range'_succ,wpOpsIn_cons]
  refine step_sound hgl hck hch (Array.getElem?_eq_getElem hlt) (List.getElem?_eq_getElem hlx) (List.getElem?_eq_getElem (by omega:k < es.length)) (by simp) (fun j y f _ _ hor=>?_) h (fun a' w' h'=>?_)
  ·simp at hor; omega
  ·refine region_text hgl hck hch hQ m (k+1) a' w' (by omega) (Inv_congr h' hlen fun j _=>?_)
   cases hb:Nat.beq j k
   ·have:j≠k:=fun e=>by subst e; simp [Nat.beq_refl] at hb
    simp; omega
   ·have:=Nat.eq_of_beq_eq_true hb
    simp; omega
theorem accOk2_indep {x y:AOper} {e f:Rec} (h1:apartA x y=true) (h2:apartA y x=true) (h:accOk2 (some (toAcc e)) (some (toAcc f))=true):Indep x e y f∧Indep y f x e:=by
 unfold accOk2 at h
 simp only [Bool.not_eq_true',Bool.or_eq_false_iff] at h
 obtain ⟨⟨k1,k2⟩,k3⟩:=h
 have no:∀ {p q:List Nat},meets p q=false→∀ i∈p,i∉q:=by
  intro p q hm i hi hj
  unfold meets at hm
  rw [List.any_eq_false] at hm
  have:=hm i hi
  exact this (List.any_eq_true.2 ⟨i,hj,Nat.beq_refl i⟩)
 simp only [toAcc] at k1 k2 k3
 exact ⟨⟨h1,h2,fun id hid=>⟨no k1 id hid,no k2 id hid⟩,fun id hid=>no k3 id hid⟩,
  ⟨h2,h1,fun id hid=>⟨fun h=>no k3 id h hid,fun h=>no k2 id h hid⟩,fun id hid h=>no k1 id h hid⟩⟩
theorem region_any (hgl : W0Ok P w0) (hck : chkOpers P n ops ops.toList xs = true) (hch : Chain P s0 h0 xs es) {un : List (Nat × Nat)} (hun : chkUn ops xs un = true) (hback : edgesBack ops = true) (hacc : accOk un (es.map toAcc) = true)
  {Q:Exit→Act→World→Prop} (hQ:∀ a w,Inv n base w0 xs es s0 h0 (fun _=>true) a w→Q .normal a w) :
  ∀ (fuel:Nat) (listed:Array Bool) (a:Act) (w:World),listed.size=ops.size→(listed.toList.countP fun b=>!b)≤fuel →
   (∀ j o,ops[j]?=some o→listed.getD j false=true→∀ e∈o.after,Region.binds .any e=true→listed.getD e.on false=true) →
   Inv n base w0 xs es s0 h0 (fun j=>listed.getD j false) a w→wpAnyIn (Fw r) 0 P .any ops Q fuel listed a w:=by
 have hl:=chkOpers_length hck
 have hlen:=Chain_length hch
 simp only [Array.length_toList] at hl
 have key : ∀ (listed : Array Bool), (∀ j o, ops[j]? = some o → listed.getD j false = true → ∀ e ∈ o.after, Region.binds .any e = true → listed.getD e.on false = true) →
   ∀ (j i:Nat),listed.getD j false=true→((befT ops.toList []).getD j 0).testBit i=true→listed.getD i false=true:=by
  intro listed hdc j
  induction j using Nat.strongRecOn with
  | _ j ih =>
   intro i hj hb
   cases ho:ops[j]? with
   | none =>
    have hge:ops.size≤j:=by simpa using ho
    have:(befT ops.toList []).getD j 0=0:=by
     rw [List.getD_eq_getElem?_getD,List.getElem?_eq_none (by rw [befT_length]; simpa using hge)]
     rfl
    rw [this] at hb; simp at hb
   | some o =>
    have:=befT_spec (i:=i) ops.toList [] j o (by simpa using ho) (by simpa using hb)
    obtain ⟨e,he,hbd,h1⟩:=this
    have hl1:=hdc j o ho hj e (by simpa using he) hbd
    rcases h1 with h1 | ⟨h1,h2⟩
    ·rw [← h1]; exact hl1
    ·exact ih e.on (by simpa using h1) i hl1 h2
 have pair:∀ {i j:Nat} {x y:AOper} {e f:Rec},i < j→j < ops.size→xs[i]?=some x→xs[j]?=some y→es[i]?=some e→es[j]?=some f→((befT ops.toList []).getD j 0).testBit i=false→Indep x e y f∧Indep y f x e:=by
  intro i j x y e f hij hj hx hy he hf hb
  unfold chkUn at hun
  simp only [List.all_eq_true,List.mem_range] at hun
  have:=hun j hj i hij
  simp only [hb,Bool.false_or,Bool.and_eq_true,hx,hy] at this
  obtain ⟨h1,h2,h3⟩:=this
  rw [List.any_eq_true] at h1
  obtain ⟨p,hp,h4⟩:=h1
  simp only [Bool.and_eq_true] at h4
  have e1:=Nat.eq_of_beq_eq_true h4.1
  have e2:=Nat.eq_of_beq_eq_true h4.2
  unfold accOk at hacc
  rw [List.all_eq_true] at hacc
  have h5:=hacc p hp
  obtain ⟨p1,p2⟩:=p
  simp only at e1 e2 h5
  subst e1 e2
  simp only [List.getElem?_map,he,hf,Option.map_some] at h5
  exact accOk2_indep h2 h3 h5
 have final:∀ (listed:Array Bool) (a:Act) (w:World),listed.size=ops.size→(∀ j,j < ops.size→listed.getD j false=true)→Inv n base w0 xs es s0 h0 (fun j=>listed.getD j false) a w→Q .normal a w:=by
  intro listed a w hs hall h
  exact hQ a w (Inv_congr h hlen fun j hj=>(hall j (by omega)).symm)
 have ready_all:∀ (listed:Array Bool),listed.size=ops.size→Region.ready .any ops listed=[]→∀ j,j < ops.size→listed.getD j false=true:=by
  intro listed hs hnil j
  induction j using Nat.strongRecOn with
  | _ j ih =>
   intro hj
   refine Classical.byContradiction fun hne=>?_
   have hlj:listed.getD j true=false:=by
    have hjl:j < listed.size:=by omega
    simp [Array.getD,hjl] at hne ⊢
    exact hne
   have:j∈Region.ready .any ops listed:=by
    rw [mem_ready]
    refine ⟨hlj,ops[j],Array.getElem?_eq_getElem hj,fun e he hb=>?_⟩
    unfold edgesBack at hback
    simp only [List.all_eq_true,List.mem_range] at hback
    have h1:=hback j hj
    rw [Array.getElem?_eq_getElem hj] at h1
    simp only [Array.all_eq_true'] at h1
    have h2:=h1 e he
    simp only [hb,Bool.not_true,Bool.false_or,Nat.blt_eq] at h2
    exact ih e.on h2 (by omega)
   rw [hnil] at this; cases this
 intro fuel
 induction fuel with
 | zero =>
  intro listed a w hs hc hdc h
  have hall:∀ j,j < ops.size→listed.getD j false=true:=by
   intro j hj
   have h0:listed.toList.countP (fun b=>!b)=0:=by omega
   rw [List.countP_eq_zero] at h0
   have hjl:j < listed.size:=by omega
   have:=h0 listed[j] (by simp)
   simp [Array.getD,hjl]
   simpa using this
  refine ⟨?_,final listed a w hs hall h⟩
  refine List.eq_nil_iff_forall_not_mem.2 fun j hj=>?_
  rw [mem_ready] at hj
  obtain ⟨h1,o,ho,_⟩:=hj
  have hjl:j < ops.size:=(Array.getElem?_eq_some_iff.1 ho).1
  have:=hall j hjl
  have hjl':j < listed.size:=by omega
  simp [Array.getD,hjl'] at h1 this
  rw [this] at h1; cases h1
 | succ fuel ih =>
  intro listed a w hs hc hdc h
  refine ⟨fun hnil=>final listed a w hs (ready_all listed hs hnil) h,fun i hi=>?_⟩
  rw [mem_ready] at hi
  obtain ⟨h1,o,ho,hpre⟩:=hi
  have hil:i < ops.size:=(Array.getElem?_eq_some_iff.1 ho).1
  have hil':i < listed.size:=by omega
  have hif:listed.getD i false=false:=by simp [Array.getD,hil'] at h1 ⊢; exact h1
  have hix:i < xs.length:=by omega
  refine step_sound hgl hck hch ho (List.getElem?_eq_getElem hix) (List.getElem?_eq_getElem (by omega:i < es.length)) hif (fun j y f hy hf hor=>?_) h (fun a' w' h'=>?_)
  ·have hjx:=(List.getElem?_eq_some_iff.1 hy).1
   rcases hor with ⟨hji,hsj⟩ | ⟨hij,hsj⟩
   ·refine (pair hji hil hy (List.getElem?_eq_getElem hix) hf (List.getElem?_eq_getElem (by omega:i < es.length)) ?_).2
    cases hb:((befT ops.toList []).getD i 0).testBit j
    ·rfl
    ·obtain ⟨e,he,hbd,h2⟩:=befT_spec (i:=j) ops.toList [] i o (by simpa using ho) (by simpa using hb)
     have hl1:=hpre e (by simpa using he) hbd
     rcases h2 with h2 | ⟨_,h2⟩
     ·rw [h2,hsj] at hl1; cases hl1
     ·rw [key listed hdc e.on j hl1 h2] at hsj; cases hsj
   ·refine (pair hij (by omega) (List.getElem?_eq_getElem hix) hy (List.getElem?_eq_getElem (by omega:i < es.length)) hf ?_).1
    cases hb:((befT ops.toList []).getD j 0).testBit i
    ·rfl
    ·rw [key listed hdc j i hsj hb] at hif; cases hif
  ·have getD_set : ∀ j, (listed.setIfInBounds i true).getD j false = (listed.getD j false || Nat.beq j i) := by
    intro j
    by_cases e:j=i
    ·subst e
     simp [Array.getD,hil',Nat.beq_refl]
    ·have hb : Nat.beq j i = false := by
      cases hj:Nat.beq j i
      ·rfl
      ·exact absurd (Nat.eq_of_beq_eq_true hj) e
     rw [hb,Bool.or_false]
     simp [Array.getD_eq_getD_getElem?,Array.getElem?_setIfInBounds_ne (Ne.symm e)]
   refine ih (listed.setIfInBounds i true) a' w' (by simpa using hs) ?_ ?_ (Inv_congr h' hlen fun j _=>getD_set j)
   ·have hset:(listed.setIfInBounds i true).toList=listed.toList.set i true:=by simp
    rw [hset]
    have hli:listed.toList[i]'(by simpa using hil')=false:=by
     simp [Array.getD,hil'] at hif
     simpa using hif
    have:=List.countP_set (p:=fun b:Bool=>!b) (l:=listed.toList) (i:=i) (a:=true) (by simpa using hil')
    rw [this]
    simp only [hli,Bool.not_false,Bool.not_true,if_true,Bool.false_eq_true,if_false]
    omega
   ·intro j p hp hj e he hb
    rw [getD_set] at hj ⊢
    rw [Bool.or_eq_true] at hj ⊢
    left
    rcases hj with hj | hj
    ·exact hdc j p hp hj e he hb
    ·have:=Nat.eq_of_beq_eq_true hj
     subst this
     rw [ho] at hp; cases hp
     exact hpre e he hb
end
end Vc
set_option linter.unusedSimpArgs false
set_option linter.unusedVariables false
namespace Vc
open Go Go.RowKit
section
variable {w : World} {G : Gh} {h : List AObj} {r : Nat}
mutual
theorem VRel_clear:∀ {v:AVal} {x:Value},noRefV r v=true→VRel w G h v x→VRel w G (h.set r .none) v x
 | .d _,_,_,hv=>by simpa [VRel] using hv
 | .nils _,_,_,hv=>by simpa [VRel] using hv
 | .sl id n,x,hn,hv=>by
  simp only [VRel] at hv ⊢
  have:r≠id:=fun e=>by subst e; simp [noRefV,Nat.beq_refl] at hn
  obtain ⟨t,sz,es,fz,h1,h2⟩:=hv
  exact ⟨t,sz,es,fz,by rw [List.getElem?_set_ne this]; exact h1,h2⟩
 | .ptr id off,x,hn,hv=>by
  simp only [VRel] at hv ⊢
  have:r≠id:=fun e=>by subst e; simp [noRefV,Nat.beq_refl] at hn
  obtain ⟨b,h1,h2⟩:=hv
  exact ⟨b,by rw [List.getElem?_set_ne this]; exact h1,h2⟩
 | .ep id n i off,x,hn,hv=>by
  simp only [VRel] at hv ⊢
  have:r≠id:=fun e=>by subst e; simp [noRefV,Nat.beq_refl] at hn
  obtain ⟨t,sz,es,fz,h1,h2⟩:=hv
  exact ⟨t,sz,es,fz,by rw [List.getElem?_set_ne this]; exact h1,h2⟩
 | .rv id n i j,x,hn,hv=>by
  simp only [VRel] at hv ⊢
  have:r≠id:=fun e=>by subst e; simp [noRefV,Nat.beq_refl] at hn
  obtain ⟨t,sz,es,fz,h1,h2⟩:=hv
  exact ⟨t,sz,es,fz,by rw [List.getElem?_set_ne this]; exact h1,h2⟩
 | .cp _ _,_,_,hv=>by simpa [VRel] using hv
 | .mp id,x,hn,hv=>by
  simp only [VRel] at hv ⊢
  have:r≠id:=fun e=>by subst e; simp [noRefV,Nat.beq_refl] at hn
  obtain ⟨es,h1,h2⟩:=hv
  exact ⟨es,by rw [List.getElem?_set_ne this]; exact h1,h2⟩
 | .it id,x,hn,hv=>by
  simp only [VRel] at hv ⊢
  have:r≠id:=fun e=>by subst e; simp [noRefV,Nat.beq_refl] at hn
  obtain ⟨l,p,h1,h2⟩:=hv
  exact ⟨l,p,by rw [List.getElem?_set_ne this]; exact h1,h2⟩
 | .fn f a b,x,hn,hv=>by
  simp only [VRel] at hv ⊢
  simp only [noRefV,Bool.and_eq_true] at hn
  obtain ⟨fv,cv,e,h1,h2⟩:=hv
  exact ⟨fv,cv,e,VRels_clear hn.1 h1,VRels_clear hn.2 h2⟩
 | .agg vs,x,hn,hv=>by
  simp only [VRel] at hv ⊢
  simp only [noRefV] at hn
  obtain ⟨us,e,h1,h2⟩:=hv
  exact ⟨us,e,VRels_clear hn h1,h2⟩
 | .tup vs,x,hn,hv=>by
  simp only [VRel] at hv ⊢
  simp only [noRefV] at hn
  obtain ⟨us,e,h1⟩:=hv
  exact ⟨us,e,VRels_clear hn h1⟩
 | .undef,_,_,_=>by simp [VRel]
 | .gone,_,_,hv=>by simpa [VRel] using hv
 | .anyn _ _,_,_,hv=>by simpa only [VRel] using hv
 | .gp _ _,_,_,hv=>by simpa only [VRel] using hv
 | .nilp,_,_,hv=>by simpa only [VRel] using hv
 | .dc _ _,_,_,hv=>by simpa only [VRel] using hv
 | .mi id,x,hn,hv=>by
  simp only [VRel] at hv ⊢
  have:r≠id:=fun e=>by subst e; simp [noRefV,Nat.beq_refl] at hn
  obtain ⟨m,c,l,h1,h2⟩:=hv
  exact ⟨m,c,l,by rw [List.getElem?_set_ne this]; exact h1,h2⟩
 | .tp id off,x,hn,hv=>by
  simp only [VRel] at hv ⊢
  have:r≠id:=fun e=>by subst e; simp [noRefV,Nat.beq_refl] at hn
  obtain ⟨b,t,cs,h1,h2⟩:=hv
  exact ⟨b,t,cs,by rw [List.getElem?_set_ne this]; exact h1,h2⟩
 | .bs id n,x,hn,hv=>by
  simp only [VRel] at hv ⊢
  have:r≠id:=fun e=>by subst e; simp [noRefV,Nat.beq_refl] at hn
  obtain ⟨t,bs,h1,h2⟩:=hv
  exact ⟨t,bs,by rw [List.getElem?_set_ne this]; exact h1,h2⟩
 | .bp id n,x,hn,hv=>by
  simp only [VRel] at hv ⊢
  have:r≠id:=fun e=>by subst e; simp [noRefV,Nat.beq_refl] at hn
  obtain ⟨t,bs,h1,h2⟩:=hv
  exact ⟨t,bs,by rw [List.getElem?_set_ne this]; exact h1,h2⟩
 | .yld id,x,hn,hv=>by
  simp only [VRel] at hv ⊢
  have:r≠id:=fun e=>by subst e; simp [noRefV,Nat.beq_refl] at hn
  obtain ⟨b,s,p,n,sl,ps,xa,xb,ck,h1,h2⟩:=hv
  exact ⟨b,s,p,n,sl,ps,xa,xb,ck,by rw [List.getElem?_set_ne this]; exact h1,h2⟩
 | .bw id n,_,hn,hv=>by
  simp only [VRel] at hv ⊢
  have:r≠id:=fun e=>by subst e; simp [noRefV,Nat.beq_refl] at hn
  obtain ⟨b,h1,h2⟩:=hv
  exact ⟨b,by rw [List.getElem?_set_ne this]; exact h1,h2⟩
 | .bv id off n,_,hn,hv=>by
  simp only [VRel] at hv ⊢
  have:r≠id:=fun e=>by subst e; simp [noRefV,Nat.beq_refl] at hn
  obtain ⟨b,cap,h1,h2⟩:=hv
  exact ⟨b,cap,by rw [List.getElem?_set_ne this]; exact h1,h2⟩
theorem VRels_clear:∀ {vs:List AVal} {xs:List Value},noRefVs r vs=true→VRels w G h vs xs→VRels w G (h.set r .none) vs xs
 | [],_,_,hv=>by simpa [VRels] using hv
 | v::vs,_,hn,hv=>by
  simp only [noRefVs,Bool.and_eq_true] at hn
  simp only [VRels] at hv ⊢
  obtain ⟨y,r',e,h1,h2⟩:=hv
  exact ⟨y,r',e,VRel_clear hn.1 h1,VRels_clear hn.2 h2⟩
end
theorem noRefS_get:∀ {l:List (Nat × AVal)} {i:Nat},noRefS r l=true→noRefV r (getL l i)=true
 | [],i,_=>rfl
 | (j,v)::l,i,hn=>by
  simp only [noRefS,Bool.and_eq_true] at hn
  simp only [getL]
  cases Nat.beq i j
  ·exact noRefS_get hn.2
  ·exact hn.1
theorem noRefH_get:∀ {l:List AObj} {i:Nat} {o:AObj},noRefH r l=true→l[i]?=some o→noRefO r o=true
 | [],i,o,_,ho=>by simp at ho
 | x::l,0,o,hn,ho=>by
  simp only [noRefH,Bool.and_eq_true] at hn
  simp at ho; subst ho; exact hn.1
 | x::l,i+1,o,hn,ho=>by
  simp only [noRefH,Bool.and_eq_true] at hn
  exact noRefH_get hn.2 (by simpa using ho)
end
section
variable {P : Program} [Laid P] {n base : Nat} {w0 : W0} {w : World} {G : Gh} {st : St} {a : Act} {r : Option Nat}
theorem Ext.clear {w w':World} {G G':Gh} {h h':List AObj} (hx:Ext w G h w' G' h') {id:Nat} (hn:h[id]?=none∨h[id]?=some .none):Ext w G h w' G' (h'.set id .none):=by
 have ne:∀ {j:Nat} {o:AObj},h[j]?=some o→o≠.none→id≠j:=fun {j o} hj ho e=>by
  subst e
  rcases hn with hn | hn <;> rw [hn] at hj <;> simp at hj
  exact ho hj.symm
 refine ⟨hx.seals,hx.keeps,?_,?_,?_,?_,?_,?_,?_,?_,?_,?_⟩
 ·intro j t sz es fz hj
  rw [List.getElem?_set_ne (ne hj (by simp))]; exact hx.row _ _ _ _ _ hj
 ·intro j cs hj
  rw [List.getElem?_set_ne (ne hj (by simp))]; exact hx.box _ _ hj
 ·intro j cs hj
  rw [List.getElem?_set_ne (ne hj (by simp))]; exact hx.cbox _ _ hj
 ·intro j cs hj
  obtain ⟨es',h1,h2⟩:=hx.mapo _ _ hj
  exact ⟨es',by rw [List.getElem?_set_ne (ne hj (by simp))]; exact h1,h2⟩
 ·intro j l q hj
  rw [List.getElem?_set_ne (ne hj (by simp))]; exact hx.sit _ _ _ hj
 ·intro j s q n sl ps xa xb ck hj
  rw [List.getElem?_set_ne (ne hj (by simp))]; exact hx.lp _ _ _ _ _ _ _ _ _ hj
 ·intro j t cs hj
  rw [List.getElem?_set_ne (ne hj (by simp))]; exact hx.tbox _ _ _ hj
 ·intro j t bs hj
  rw [List.getElem?_set_ne (ne hj (by simp))]; exact hx.brow _ _ _ hj
 ·intro j es hj
  rw [List.getElem?_set_ne (ne hj (by simp))]; exact hx.mapf _ _ hj
 ·intro j m c l hj
  rw [List.getElem?_set_ne (ne hj (by simp))]; exact hx.mit _ _ _ _ hj
theorem Rel.clear1 (hr:Rel n base w0 G st a w) {id:Nat} (hn:w0.h1[id]?=none∨w0.h1[id]?=some .none) (h1:noRefS id st.slots=true) (h2:noRefH id st.heap=true):Rel n base w0 G ⟨st.slots,st.heap.set id .none⟩ a w:=by
 have other:∀ {j:Nat} {o:AObj},(st.heap.set id .none)[j]?=some o→o=.none∨(j≠id∧st.heap[j]?=some o):=by
  intro j o ho
  by_cases e:j=id
  ·subst e
   by_cases hlt:j < st.heap.length
   ·simp [hlt] at ho; exact .inl ho.symm
   ·rw [List.getElem?_eq_none (by simp; omega)] at ho; cases ho
  ·rw [List.getElem?_set_ne (Ne.symm e)] at ho
   exact .inr ⟨e,ho⟩
 refine { hr with ext:=hr.ext.clear hn,lps:=fun j s pd m sl ps xa xb ck hj=>(other hj).elim (fun e=>by cases e) fun h=>hr.lps j s pd m sl ps xa xb ck h.2,slots:=fun i=>VRel_clear (noRefS_get h1) (hr.slots i),objs:=fun j o ho=>?_,free:=fun j o b off ho hb hown=>?_,apart:=fun i j oi oj b hij hi hj hli hlj hbi=>?_ }
 ·rcases other ho with e | ⟨_,ho⟩
  ·subst e; trivial
  ·have:=hr.objs j o ho
   cases o with
   | box cs =>
    obtain ⟨b,arr,t,k1,k2,k3,k4,k5⟩:=this
    exact ⟨b,arr,t,k1,k2,k3,VRels_clear (noRefH_get h2 ho) k4,k5⟩
   | tbox t cs =>
    obtain ⟨b,arr,k1,k2,k3,k4,k5⟩:=this
    exact ⟨b,arr,k1,k2,k3,VRels_clear (noRefH_get h2 ho) k4,k5⟩
   | lp s p m sl ps xa xb ck =>
    obtain ⟨b,fn,arr,ca,cb,df,k1,k2,k3,k4,k5,k6⟩:=this
    have hnr:noRefS id sl=true:=noRefH_get h2 ho
    exact ⟨b,fn,arr,ca,cb,df,k1,k2,k3,k4,fun i=>VRel_clear (noRefS_get hnr) (k5 i),k6⟩
   | mit m c l =>
    obtain ⟨b,bm,mes,clock,seen,es,k1,k2,k3,k4,k5⟩:=this
    have hne:id≠m:=fun e=>by
     have:=noRefH_get h2 ho
     simp [noRefO,e,Nat.beq_refl] at this
    exact ⟨b,bm,mes,clock,seen,es,k1,k2,k3,by rw [List.getElem?_set_ne hne]; exact k4,k5⟩
   | _=>exact this
 ·rcases other ho with e | ⟨_,ho⟩
  ·subst e; exact hown.elim
  ·exact hr.free j o b off ho hb hown
 ·rcases other hi with e | ⟨_,hi⟩
  ·exact absurd e hli
  ·rcases other hj with e | ⟨_,hj⟩
   ·exact absurd e hlj
   ·exact hr.apart i j oi oj b hij hi hj hli hlj hbi
theorem clear_spec:∀ {rs:List Nat} {st:St} {K:St→Prop},clear rs st K→∃ st',K st'∧∀ {n base:Nat} {w0:W0} {w:World} {G:Gh} {a:Act},(∀ r∈rs,w0.h1[r]?=none∨w0.h1[r]?=some .none)→Rel n base w0 G st a w→Rel n base w0 G st' a w
 | [],st,K,h=>⟨st,h,fun _ h=>h⟩
 | r::rs,st,K,h=>by
  simp only [clear] at h
  split at h
  ·rename_i hn
   rw [forceH_eq] at h
   obtain ⟨st',h1,h2⟩:=clear_spec h
   simp only [Bool.and_eq_true] at hn
   exact ⟨st',h1,fun hc hr=>h2 (fun r hr=>hc r (List.mem_cons_of_mem _ hr)) (hr.clear1 (hc r List.mem_cons_self) hn.1 hn.2)⟩
  ·obtain ⟨st',h1,h2⟩:=clear_spec h
   exact ⟨st',h1,fun hc hr=>h2 (fun r hr=>hc r (List.mem_cons_of_mem _ hr)) hr⟩
theorem keepL_get (ks:List Nat):∀ (l:List (Nat × AVal)) (i:Nat),getL (keepL ks l) i=.undef∨getL (keepL ks l) i=getL l i
 | [],i=>.inl rfl
 | (j,v)::r,i=>by
  simp only [keepL]
  cases hk:ks.any (Nat.beq j) with
  | true =>
   simp only [cond_true,getL]
   cases hb:Nat.beq i j
   ·exact keepL_get ks r i
   ·exact .inr rfl
  | false =>
   simp only [cond_false,getL]
   cases hb:Nat.beq i j
   ·exact keepL_get ks r i
   ·left
    have:=Nat.eq_of_beq_eq_true hb
    subst this
    have none:∀ l:List (Nat × AVal),getL (keepL ks l) i=.undef:=by
     intro l
     induction l with
     | nil=>rfl
     | cons p l ih =>
      obtain ⟨q,u⟩:=p
      simp only [keepL]
      cases hq:ks.any (Nat.beq q) with
      | false=>simpa using ih
      | true =>
       simp only [cond_true,getL]
       have:Nat.beq i q=false:=by
        cases hiq:Nat.beq i q
        ·rfl
        ·have:=Nat.eq_of_beq_eq_true hiq
         subst this
         rw [hk] at hq; cases hq
       rw [this]
       simpa using ih
    exact none r
theorem stepR_scope {b:Frame} {a:Act} {k:List Item} {cs:List Frame} {w:World} {c:Code}:step P (lone (b.atR a (.code (.scope c)::k)) cs w)=.next (lone (b.atR a (.code c::.inScope c::k)) cs w) :=
 step_lone_go (by simp [stepG,stepG.exec,Frame.atR])
theorem stepR_inScope {b:Frame} {a:Act} {k:List Item} {cs:List Frame} {w:World} {c:Code}:step P (lone (b.atR a (.inScope c::k)) cs w)=.next (lone (b.atR a k) cs w) :=
 step_lone_go (by simp [stepG,stepG.exec,Frame.atR])
theorem wpIn_scope {F:Fence} {n:Nat} {c:Code} {Q:Exit→Act→World→Prop} {a:Act} {w:World} (h:c.wpIn F n P (fun e a w=>match e with | .goto _=>False | e=>Q e a w) a w):(Code.scope c).wpIn F n P Q a w:=by
 intro b k cs hro hb hr
 have h0:(lone (b.atR a (.code (.scope c)::k)) cs w).fenced P F:=fenced_calm hb hr rfl
 obtain ⟨e,a₁,w₁,hq,harr⟩:=h b (.inScope c::k) cs hro hb hr
 cases e with
 | normal=>exact ⟨.normal,a₁,w₁,hq,.head h0 stepR_scope (StepsIn.trans harr (.one (fenced_calm hb hr rfl) stepR_inScope))⟩
 | exit id' =>
  have hx:exitTo id' (.inScope c::k)=exitTo id' k:=by simp [exitTo]
  exact ⟨.exit id',a₁,w₁,hq,fun k' hk=>.head h0 stepR_scope (harr.1 k' (by rw [hx]; exact hk)),
   fun hr' hk=>let ⟨k₁,h1,h2⟩:=harr.2 hr' (by rw [hx]; exact hk); ⟨k₁,h1,.head h0 stepR_scope h2⟩⟩
 | goto l=>exact hq.elim
 | ret=>exact ⟨_,a₁,w₁,hq,.of_steps (.one h0 stepR_scope) harr⟩
 | panic ch=>exact ⟨_,a₁,w₁,hq,.of_steps (.one h0 stepR_scope) harr⟩
 | outgrown=>exact ⟨_,a₁,w₁,hq,.of_steps (.one h0 stepR_scope) harr⟩
theorem T_mono {C:Nat→Prop} {c:Code} {Q Q':AExit→St→Prop} (h:T P n C r c st Q) (hq:∀ e s,Q e s→Q' e s):T P n C r c st Q' :=
 fun base w0 G a w h1 h2 hr=>wpIn_mono (h base w0 G a w h1 h2 hr) fun e a w ⟨G,st,h1,h2⟩=>⟨G,st,h1,by cases e <;> first | exact hq _ _ h2 | exact h2⟩
theorem T_weaken {C:Nat→Prop} {c:Code} {Q:AExit→St→Prop} {st':St} (hw:∀ {base:Nat} {w0:W0} {w:World} {G:Gh} {a:Act},(∀ id,C id→w0.h1[id]?=none∨w0.h1[id]?=some .none)→Rel n base w0 G st a w→∃ G',Rel n base w0 G' st' a w) (h:T P n C r c st' Q):T P n C r c st Q :=
 fun base w0 G a w h1 h2 hr=>let ⟨G',hr'⟩:=hw h2 hr; h base w0 G' a w h1 h2 hr'
theorem T_region {C : Nat → Prop} {xs : List AOper} {ops : Array Oper} {id : Nat} {Q : AExit → St → Prop} (hck : chkOpers P n ops ops.toList xs = true)
  (h:vops P xs st [] fun st _=>Q .normal st):T P n C r (.region id ops false) st Q:=by
 intro base w0 G a w hgl hC hr
 obtain ⟨es,st',hch,h1,h2,h3⟩:=vops_chain h
 refine wpIn_region ?_
 rw [List.range_eq_range']
 refine region_text (base:=base) (w0:=w0) hgl hck hch (fun a w hi=>?_) ops.size 0 a w (by omega) ?_
 ·obtain ⟨G',st2,k1,k2,k3⟩:=hi
  refine ⟨G',st',?_,h3⟩
  have:=k1.look (l:=st'.slots) (fun i=>by rw [h1 0,k2])
  rw [k3,← h2 0] at this
  exact this
 ·exact ⟨G,st,hr,fun t=>by rw [vw_none _ _ _ _ fun j _=>by simp],by rw [vh_none _ _ _ fun j _=>by simp]⟩
theorem T_regiond {C : Nat → Prop} {xs : List AOper} {un : List (Nat × Nat)} {ops : Array Oper} {id : Nat} {Q : AExit → St → Prop} (hck : chkOpers P n ops ops.toList xs = true) (hun : chkUn ops xs un = true) (hback : edgesBack ops = true) (hm : P.follows .mixedOrders = true)
  (h:vops P xs st [] fun st acc=>match accOk un acc.reverse with | true=>Q .normal st | false=>False):T P n C r (.region id ops true) st Q:=by
 intro base w0 G a w hgl hC hr
 obtain ⟨es,st',hch,h1,h2,h3⟩:=vops_chain h
 simp only [List.append_nil,List.reverse_reverse] at h3
 split at h3
 ·rename_i hacc
  refine wpIn_region_any hm (region_any (base:=base) (w0:=w0) hgl hck hch hun hback hacc (fun a w hi=>?_) ops.size _ a _ (by simp) ?_ (fun j o ho hl=>?_) ?_)
  ·obtain ⟨G',st2,k1,k2,k3⟩:=hi
   refine ⟨G',st',?_,h3⟩
   have:=k1.look (l:=st'.slots) (fun i=>by rw [h1 0,k2])
   rw [k3,← h2 0] at this
   exact this
  ·exact Nat.le_trans List.countP_le_length (by simp)
  ·simp [Array.getD] at hl
  ·have hfalse:∀ j,(Array.replicate ops.size false).getD j false=false:=fun j=>by simp [Array.getD]
   exact ⟨G,st,hr.drew,fun t=>by rw [vw_none _ _ _ _ fun j _=>hfalse j],by rw [vh_none _ _ _ fun j _=>hfalse j]⟩
 ·exact h3.elim
theorem Rel.asrow {n base : Nat} {w0 : W0} {w : World} {G : Gh} {st : St} {a : Act} (hr : Rel n base w0 G st a w) {r t sz s k : Nat} (hs : getL st.slots s = .nils k) (hh : st.heap[r]? = some .none) (hsz : sz ≠ 0) :
  ∃ G',Rel n base w0 G' ⟨setL st.slots s (.sl r 0),st.heap.set r (.row t sz [] false)⟩ a w:=by
 have hlt:r < st.heap.length:=(List.getElem?_eq_some_iff.1 hh).1
 have h:=hr.upd (o':=.row t sz [] false) (v':=.slice none 0 0) (S':=G.S) (row:=none) (w':=w) hh (.inl rfl) (fun _ _ h=>h) (fun _ _ h=>.inl h)
  ⟨rfl,rfl,rfl,Nat.le_refl _,fun _ _ _=>rfl⟩ (fun _ _ _ h=>by cases h) (fun b hb=>by cases hb) trivial
  (fun hx=>⟨by omega,[],by rw [show (⟨G.S,Vc.upd G.val r (.slice none 0 0)⟩:Gh).val r=.slice none 0 0 from upd_same _ _ _]; exact World.ownsRow_nil w base t sz,by simp [DXs]⟩)
  (fun b off hb _ _=>by cases hb) (fun b off hs=>hr.lim b off hs)
 refine ⟨_,{ h.2 with slots:=fun i=>?_ }⟩
 simp only [getL_setL]
 by_cases e:i=s
 ·subst e
  have h1:=hr.slots i
  rw [hs] at h1
  simp only [VRel] at h1
  rw [if_pos rfl,h1]
  simp only [VRel]
  exact ⟨t,sz,[],false,by simp [hlt],Nat.le_refl _,fun _=>(upd_same _ _ _).symm⟩
 ·rw [if_neg e]
  exact h.2.slots i
theorem Rel.sealed {n base : Nat} {w0 : W0} {w : World} {G : Gh} {st : St} {a : Act} (hr : Rel n base w0 G st a w) {s id m : Nat} {t : TypeId} {sz : Nat} {es : List Data} {fz : Bool} (hs : getL st.slots s = .sl id m)
  (hh:st.heap[id]?=some (.row t sz es fz)) (hm:es.length=m) :
  ∃ G',Rel n base w0 G' ⟨setL st.slots s (.d (.slice sz es)),st.heap.set id (.row t sz es true)⟩ a w:=by
 have hf:Frz st.heap [(id,AObj.row t sz es true)]:=fun i o hm=>by simp at hm; obtain ⟨rfl,rfl⟩:=hm; exact ⟨t,sz,es,fz,rfl,hh⟩
 obtain ⟨G1,hr1,hS,hval,hsl,_,_⟩:=freeze_rel hr hf
 have hd:=row_slice hr hh hS (fun b hb j hj=>hsl id t sz es true (by simp) b (by rw [hval]; exact hb) j hj)
 have h1:=hr.slots s
 rw [hs] at h1
 simp only [VRel] at h1
 obtain ⟨t1,sz1,es1,fz1,h5,h6,h7⟩:=h1
 rw [hh] at h5; cases h5
 rw [← h7 hm] at hd
 refine ⟨G1,{ hr1 with slots:=fun i=>?_ }⟩
 simp only [getL_setL]
 by_cases e:i=s
 ·subst e
  rw [if_pos rfl]
  simpa [VRel] using hd
 ·rw [if_neg e]
  exact hr1.slots i
theorem VRels_put {w:World} {G:Gh} {h:List AObj}:∀ {cs:List AVal} {vs:List Value} {off:Nat} {x y:AVal},VRels w G h cs vs→cs[off]?=some x→(∀ u,VRel w G h x u→VRel w G h y u)→VRels w G h (cs.set off y) vs
 | [],_,_,_,_,_,hx,_=>by simp at hx
 | c::cs,vs,0,x,y,hv,hx,hy=>by
  simp only [VRels] at hv
  obtain ⟨u,r,rfl,h1,h2⟩:=hv
  simp at hx; subst hx
  exact VRels_cons.2 ⟨hy u h1,h2⟩
 | c::cs,vs,off+1,x,y,hv,hx,hy=>by
  simp only [VRels] at hv
  obtain ⟨u,r,rfl,h1,h2⟩:=hv
  exact VRels_cons.2 ⟨h1,VRels_put h2 (by simpa using hx) hy⟩
theorem Rel.sealedIn {n base : Nat} {w0 : W0} {w : World} {G : Gh} {st : St} {a : Act} (hr : Rel n base w0 G st a w) {id off r m : Nat} {cs : List AVal} {t : TypeId} {sz : Nat} {es : List Data} {fz : Bool} (hb : st.heap[id]? = some (.box cs))
  (hc:cs[off]?=some (.sl r m)) (hh:st.heap[r]?=some (.row t sz es fz)) (hm:es.length=m) :
  ∃ G',Rel n base w0 G' ⟨st.slots,(st.heap.set r (.row t sz es true)).set id (.box (cs.set off (.d (.slice sz es))))⟩ a w:=by
 have hf:Frz st.heap [(r,AObj.row t sz es true)]:=fun i o hm=>by simp at hm; obtain ⟨rfl,rfl⟩:=hm; exact ⟨t,sz,es,fz,rfl,hh⟩
 obtain ⟨G1,hr1,hS,hval,hsl,_,_⟩:=freeze_rel hr hf
 have hd:=row_slice hr hh hS (fun b hb j hj=>hsl r t sz es true (by simp) b (by rw [hval]; exact hb) j hj)
 have hne:r≠id:=fun e=>by subst e; rw [hb] at hh; cases hh
 have hlt:r < st.heap.length:=(List.getElem?_eq_some_iff.1 hh).1
 have hb1:(applyW st.heap [(r,AObj.row t sz es true)])[id]?=some (.box cs):=by
  show (st.heap.set r _)[id]?=_
  rw [List.getElem?_set_ne hne]; exact hb
 have hr1':Rel n base w0 G1 ⟨st.slots,st.heap.set r (.row t sz es true)⟩ a w:=hr1
 have h:=hr1'.upd (id:=id) (o:=.box cs) (o':=.box (cs.set off (.d (.slice sz es)))) (v':=G1.val id) (S':=G1.S) (row:=none) (w':=w) hb1 (.inl rfl) (fun _ _ h=>h) (fun _ _ h=>.inl h)
  ⟨rfl,rfl,rfl,Nat.le_refl _,fun _ _ _=>rfl⟩ (fun _ _ _ h=>by cases h) (fun b hb=>.inl ⟨by simp,hb⟩) rfl
  (fun hx=>by
   obtain ⟨b,arr,t',h1,h2,h3,h4,h5⟩:=hr1'.objs id _ hb1
   refine ⟨b,arr,t',by simpa [Vc.upd] using h1,h2,h3,?_,h5⟩
   refine VRels_put (VRels_mono hx cs h4) hc fun u hu=>?_
   simp only [VRel] at hu ⊢
   obtain ⟨t2,sz2,es2,fz2,h6,h7,h8⟩:=hu
   have hr2:((st.heap.set r (AObj.row t sz es true)).set id (.box (cs.set off (.d (.slice sz es)))))[r]?=some (.row t sz es true):=by
    rw [List.getElem?_set_ne (Ne.symm hne)]; simp [hlt]
   have h6:((st.heap.set r (AObj.row t sz es true)).set id (.box (cs.set off (.d (.slice sz es)))))[r]?=some (.row t2 sz2 es2 fz2):=h6
   rw [hr2] at h6; cases h6
   rw [h8 hm]
   show DRel w G1.S _ (Vc.upd G1.val id (G1.val id) r)
   rw [show Vc.upd G1.val id (G1.val id) r=G1.val r by unfold Vc.upd; rw [if_neg hne],hval]
   exact hd)
  (fun b off' hb' ho hs=>hr1'.free id _ b off' hb1 hb' trivial hs) (fun b off hs=>hr1'.lim _ _ hs)
 exact ⟨_,h.2⟩
theorem Rel.nilIn {n base : Nat} {w0 : W0} {w : World} {G : Gh} {st : St} {a : Act} (hr : Rel n base w0 G st a w) {id off sz : Nat} {cs : List AVal} (hb : st.heap[id]? = some (.box cs))
  (hc:cs[off]?=some (.nils sz)) :
  ∃ G',Rel n base w0 G' ⟨st.slots,st.heap.set id (.box (cs.set off (.d (.slice sz []))))⟩ a w:=by
 have h:=hr.upd (id:=id) (o:=.box cs) (o':=.box (cs.set off (.d (.slice sz [])))) (v':=G.val id) (S':=G.S) (row:=none) (w':=w) hb (.inl rfl) (fun _ _ h=>h) (fun _ _ h=>.inl h)
  ⟨rfl,rfl,rfl,Nat.le_refl _,fun _ _ _=>rfl⟩ (fun _ _ _ h=>by cases h) (fun b hb=>.inl ⟨by simp,hb⟩) rfl
  (fun hx=>by
   obtain ⟨b,arr,t',h1,h2,h3,h4,h5⟩:=hr.objs id _ hb
   refine ⟨b,arr,t',by simpa [Vc.upd] using h1,h2,h3,?_,h5⟩
   refine VRels_put (VRels_mono hx cs h4) hc fun u hu=>?_
   simp only [VRel] at hu
   simp only [VRel,DRel]
   exact ⟨none,0,hu,Nat.le_refl _,by simp⟩)
  (fun b off' hb' ho hs=>hr.free id _ b off' hb hb' trivial hs) (fun b off hs=>hr.lim _ _ hs)
 exact ⟨_,h.2⟩
theorem rows_of_cs {w:World} {S:Nat→Nat→Prop}:∀ {ds:List Data} {b off:Nat},(∀ d∈ds,d.isAgg=false)→DCs w S ds b off→DRows w S ds b off 1
 | [],_,_,_,_=>by simp [DRows]
 | d::ds,b,off,ha,h=>by
  have hd:=ha d List.mem_cons_self
  simp only [DCs] at h
  obtain ⟨h1,h2,h3,h4⟩:=h
  refine DRows_cons.2 ⟨?_,rows_of_cs (fun x hx=>ha x (List.mem_cons_of_mem _ hx)) h4⟩
  cases d with
  | agg cs=>simp [Data.isAgg] at hd
  | _=>exact ⟨rfl,h1,h2,h3,trivial⟩
theorem Rel.sealedBox {n base : Nat} {w0 : W0} {w : World} {G : Gh} {st : St} {a : Act} (hr : Rel n base w0 G st a w) {s id m : Nat} {cs : List AVal} {ds : List Data} (hs : getL st.slots s = .bv id 0 m)
  (hb:st.heap[id]?=some (.box cs)) (hall:allD cs=some ds) (hm:ds.length=m) :
  ∃ G',Rel n base w0 G' ⟨setL st.slots s (.d (.slice 1 ds)),st.heap.set id (.cbox ds)⟩ a w:=by
 obtain ⟨rfl,hag⟩:=allD_some hall
 have hlt:id < st.heap.length:=(List.getElem?_eq_some_iff.1 hb).1
 obtain ⟨G1,hr1,hS,hval⟩:=cfreeze_one hr hb hag
 have h1:=hr.slots s
 rw [hs] at h1
 simp only [VRel] at h1
 obtain ⟨b,cap,_,h3,h4⟩:=h1
 obtain ⟨b',arr,t',k1,k2,k3,k4⟩:=hr1.objs id (.cbox ds) (by simp [hlt])
 rw [hval,h3] at k1
 cases k1
 refine ⟨G1,{ hr1 with slots:=fun i=>?_ }⟩
 simp only [getL_setL]
 by_cases e:i=s
 ·subst e
  rw [if_pos rfl]
  simp only [VRel,DRel]
  exact ⟨_,_,by rw [hm]; exact h4,by omega,.inr ⟨b,0,rfl,rows_of_cs hag k4⟩⟩
 ·rw [if_neg e]
  exact hr1.slots i
theorem MRel_split {S:Nat→Nat→Prop}:∀ {es:List (Data × Data)} {ms:List MapEntry} {e:MapEntry},MRel w S es ms→e∈ms→∃ l1 k v l2 m1 m2,es=l1++(k,v)::l2∧ms=m1++e::m2∧DRel w S k e.key∧DRel w S v e.val∧MRel w S (l1++l2) (m1++m2)
 | [],ms,e,h,he=>by simp only [MRel] at h; subst h; cases he
 | (k,v)::es,ms,e,h,he=>by
  simp only [MRel] at h
  obtain ⟨m,q,rfl,h1,h2,h3⟩:=h
  rcases List.mem_cons.1 he with rfl | he
  ·exact ⟨[],k,v,es,[],q,rfl,rfl,h1,h2,h3⟩
  ·obtain ⟨l1,k',v',l2,m1,m2,rfl,rfl,h4,h5,h6⟩:=MRel_split h3 he
   refine ⟨(k,v)::l1,k',v',l2,m::m1,m2,rfl,rfl,h4,h5,?_⟩
   simp only [List.cons_append,MRel]
   exact ⟨m,_,rfl,h1,h2,h6⟩
theorem leftOf_push {mes : Array MapEntry} {s : Array Nat} {e : MapEntry} (hn : (mes.toList.map (·.born)).Nodup) (he : e ∈ mes.toList) :
  (leftOf mes (s.push e.born)).toList=(leftOf mes s).toList.filter fun x=>!(x.born==e.born):=by
 unfold leftOf
 rw [Array.toList_filter,Array.toList_filter,List.filter_filter]
 refine List.filter_congr fun x _=>?_
 simp only [Array.contains_push]
 cases (s.contains x.born) <;> simp
theorem filter_born {e:MapEntry}:∀ {m1 m2:List MapEntry},((m1++e::m2).map (·.born)).Nodup→(m1++e::m2).filter (fun x=>!(x.born==e.born))=m1++m2:=by
 intro m1 m2 h
 simp only [List.map_append,List.map_cons,List.nodup_append,List.nodup_cons,List.mem_cons] at h
 have f1:m1.filter (fun x=>!(x.born==e.born))=m1:=List.filter_eq_self.2 fun x hx=>by
  have:=h.2.2 x.born (List.mem_map.2 ⟨x,hx,rfl⟩) e.born (.inl rfl)
  simpa using this
 have f2:m2.filter (fun x=>!(x.born==e.born))=m2:=List.filter_eq_self.2 fun x hx=>by
  have:¬ x.born=e.born:=fun q=>h.2.1.1 (List.mem_map.2 ⟨x,hx,q⟩)
  simpa using this
 simp [List.filter_append,List.filter_cons,f1,f2]
theorem Rel.pick (hr : Rel n base w0 G st a w) {id m : Nat} {left : List (Data × Data)} (hh : st.heap[id]? = some (.mit m .pend left)) :
  ∃ l1 k v l2,left=l1++(k,v)::l2∧Rel n base w0 G ⟨st.slots,st.heap.set id (.mit m (.here k v) (l1++l2))⟩ a w:=by
 obtain ⟨b,bm,mes,clock,seen,es,h1,h2,h3,h4,h5,h6,h7,h8⟩:=hr.objs id _ hh
 obtain ⟨e,s,ms,rfl,he,hp,hm⟩:=h8
 have hem:e∈mes.toList:=by
  unfold leftOf at he
  rw [Array.toList_filter] at he
  exact (List.mem_filter.1 he).1
 obtain ⟨l1,k,v,l2,m1,m2,rfl,rfl,k1,k2,k3⟩:=MRel_split hm (hp.mem_iff.2 he)
 have hnod:((leftOf mes s).toList.map (·.born)).Nodup:=by
  unfold leftOf
  rw [Array.toList_filter]
  exact (List.filter_sublist.map _).nodup h7.2
 have hperm:(m1++m2).Perm (leftOf mes (s.push e.born)).toList:=by
  rw [leftOf_push h7.2 hem,← filter_born (e:=e) (m1:=m1) (m2:=m2) ((hp.map _).nodup_iff.2 hnod)]
  exact hp.filter _
 refine ⟨l1,k,v,l2,rfl,?_⟩
 have h:=hr.upd (o':=.mit m (.here k v) (l1++l2)) (v':=G.val id) (S':=G.S) (row:=none) (w':=w) hh (.inl rfl) (fun _ _ h=>h) (fun _ _ h=>.inl h)
  ⟨rfl,rfl,rfl,Nat.le_refl _,fun _ _ _=>rfl⟩ (fun _ _ _ h=>by cases h) (fun b1 hb1=>.inl ⟨by simp,hb1⟩) ⟨rfl,rfl⟩
  (fun hx=>by
   have hmne:m≠id:=fun q=>by rw [q,hh] at h4; cases h4
   refine ⟨b,bm,mes,clock,s.push e.born,es,(upd_same _ _ _).trans h1,h2,h3,?_,?_,h6,h7,e,s,m1++m2,rfl,hem,k1,k2,hperm,k3⟩
   ·rw [List.getElem?_set_ne (Ne.symm hmne)]; exact h4
   ·show Vc.upd G.val id (G.val id) m=_
    unfold Vc.upd
    rw [if_neg hmne]
    exact h5)
  (fun b1 off1 hb1 _ hS=>hr.free id _ b1 off1 hh hb1 trivial hS) (fun b1 off1 hS=>hr.lim b1 off1 hS)
 have hval:Vc.upd G.val id (G.val id)=G.val:=by funext j; unfold Vc.upd; split <;> simp_all
 rw [hval] at h
 exact h.2
theorem Rel.mvr (hr : Rel n base w0 G st a w) {x y s m : Nat} {t : TypeId} {sz : Nat} {es : List Data} {fz : Bool} (hn : w0.h1[x]? = none ∨ w0.h1[x]? = some .none) (hs : getL st.slots s = .sl x m)
  (hx:st.heap[x]?=some (.row t sz es fz)) (hy:st.heap[y]?=some .none) (hxy:Nat.beq x y=false) (h1:noRefS x (setL st.slots s .undef)=true) (h2:noRefH x st.heap=true) :
  ∃ G',Rel n base w0 G' ⟨setL st.slots s (.sl y m),(st.heap.set x .none).set y (.row t sz es fz)⟩ a w:=by
 have hne:x≠y:=fun e=>by subst e; simp [Nat.beq_refl] at hxy
 have hr1:Rel n base w0 G ⟨setL st.slots s .undef,st.heap⟩ a w:=hr.drop fun i=>by
  rw [getL_setL]
  split
  ·exact .inl rfl
  ·exact .inr rfl
 have hr2:=hr1.clear1 hn h1 h2
 have hy2:(st.heap.set x .none)[y]?=some .none:=by rw [List.getElem?_set_ne hne]; exact hy
 have hylt:y < st.heap.length:=(List.getElem?_eq_some_iff.1 hy).1
 have hox:=hr.objs x _ hx
 have hext:Ext w G (st.heap.set x .none) w ⟨G.S,Vc.upd G.val y (G.val x)⟩ ((st.heap.set x .none).set y (.row t sz es fz)):=by
  have ne:∀ {j:Nat} {o:AObj},(st.heap.set x .none)[j]?=some o→o≠.none→j≠y:=fun {j o} hj ho e=>by
   subst e; rw [hy2] at hj; cases hj; exact ho rfl
  have ge:∀ {j:Nat},j≠y→((st.heap.set x .none).set y (.row t sz es fz))[j]?=(st.heap.set x .none)[j]?:=fun {j} hj=>List.getElem?_set_ne (Ne.symm hj)
  have va:∀ {j:Nat},j≠y→Vc.upd G.val y (G.val x) j=G.val j:=fun {j} hj=>by simp [Vc.upd,hj]
  refine ⟨fun _ _ h=>h,fun _ _ _=>rfl,?_,?_,?_,?_,?_,?_,?_,?_,?_,?_⟩
  ·intro j t1 s1 e1 f1 hj
   have:=ne hj (by simp)
   exact ⟨e1,f1,(ge this).trans hj,Nat.le_refl _,fun _=>va this⟩
  ·intro j cs hj
   have:=ne hj (by simp)
   exact ⟨.inl ⟨cs,(ge this).trans hj⟩,va this⟩
  ·intro j cs hj
   have:=ne hj (by simp)
   exact ⟨(ge this).trans hj,va this⟩
  ·intro j es1 hj
   have:=ne hj (by simp)
   exact ⟨es1,.inl ((ge this).trans hj),va this⟩
  ·intro j l p hj
   have:=ne hj (by simp)
   exact ⟨l,p,(ge this).trans hj,va this⟩
  ·intro j s1 p n1 sl ps xa xb ck hj
   have:=ne hj (by simp)
   exact ⟨s1,p,(ge this).trans hj,va this⟩
  ·intro j t1 cs hj
   have:=ne hj (by simp)
   exact ⟨cs,(ge this).trans hj,va this⟩
  ·intro j t1 bs hj
   have:=ne hj (by simp)
   exact ⟨bs,(ge this).trans hj,Nat.le_refl _,fun _=>va this⟩
  ·intro j es1 hj
   have:=ne hj (by simp)
   exact ⟨(ge this).trans hj,va this,fun _ _=>rfl⟩
  ·intro j m1 c l hj
   have:=ne hj (by simp)
   exact ⟨c,l,(ge this).trans hj,va this⟩
 have hvy:Vc.upd G.val y (G.val x) y=G.val x:=by simp [Vc.upd]
 have hvo:∀ {j:Nat},j≠y→Vc.upd G.val y (G.val x) j=G.val j:=fun {j} hj=>by simp [Vc.upd,hj]
 have hgy:((st.heap.set x .none).set y (.row t sz es fz))[y]?=some (.row t sz es fz):=by simp [hylt]
 have hgo:∀ {j:Nat} {o:AObj},j≠y→((st.heap.set x .none).set y (.row t sz es fz))[j]?=some o→(st.heap.set x .none)[j]?=some o:=fun {j o} hj h=>by
  rw [List.getElem?_set_ne (Ne.symm hj)] at h; exact h
 have hgx:∀ {j:Nat} {o:AObj},(st.heap.set x .none)[j]?=some o→o≠.none→j≠x∧st.heap[j]?=some o:=fun {j o} h ho=>by
  by_cases e:j=x
  ·subst e
   have hlt:j < st.heap.length:=(List.getElem?_eq_some_iff.1 hx).1
   simp [hlt] at h
   exact absurd h.symm ho
  ·rw [List.getElem?_set_ne (Ne.symm e)] at h
   exact ⟨e,h⟩
 refine ⟨⟨G.S,Vc.upd G.val y (G.val x)⟩,?_⟩
 constructor
 ·exact hr.size
 ·exact hr.defers
 ·intro i
  rw [getL_setL]
  split
  ·rename_i e
   have h:=hr.slots i
   rw [e,hs] at h
   simp only [VRel] at h ⊢
   obtain ⟨t1,s1,e1,f1,k1,k2,k3⟩:=h
   rw [hx] at k1; cases k1
   exact ⟨t,sz,es,fz,hgy,k2,fun e2=>by rw [hvy,e]; exact k3 e2⟩
  ·rename_i e
   have h:=hr2.slots i
   rw [getL_setL,if_neg e] at h
   exact VRel_mono hext _ h
 ·intro j o ho
  by_cases e:j=y
  ·subst e
   rw [hgy] at ho; cases ho
   obtain ⟨h0,xs,k1,k2⟩:=hox
   exact ⟨h0,xs,by rw [show (⟨G.S,Vc.upd G.val j (G.val x)⟩:Gh).val j=G.val x from hvy]; exact k1,k2⟩
  ·by_cases hl:o=.none
   ·subst hl; trivial
   ·exact ORel_mono hext (hvo e) (fun _ _=>rfl) (hr2.objs j o (hgo e ho))
 ·intro j o b off ho hb hown hS
  by_cases e:j=y
  ·subst e
   rw [hgy] at ho; cases ho
   rw [show (⟨G.S,Vc.upd G.val j (G.val x)⟩:Gh).val j=G.val x from hvy] at hb
   exact hr.free x _ b off hx hb hown hS
  ·rw [show (⟨G.S,Vc.upd G.val y (G.val x)⟩:Gh).val j=G.val j from hvo e] at hb
   exact hr2.free j o b off (hgo e ho) hb hown hS
 ·intro i j oi oj b hij hi hj hli hlj hbi
  by_cases ei:i=y
  ·subst ei
   have ej:j≠i:=Ne.symm hij
   rw [show (⟨G.S,Vc.upd G.val i (G.val x)⟩:Gh).val i=G.val x from hvy] at hbi
   rw [show (⟨G.S,Vc.upd G.val i (G.val x)⟩:Gh).val j=G.val j from hvo ej]
   obtain ⟨k1,k2⟩:=hgx (hgo ej hj) hlj
   exact hr.apart x j _ oj b (Ne.symm k1) hx k2 (by simp) hlj hbi
  ·rw [show (⟨G.S,Vc.upd G.val y (G.val x)⟩:Gh).val i=G.val i from hvo ei] at hbi
   obtain ⟨k1,k2⟩:=hgx (hgo ei hi) hli
   by_cases ej:j=y
   ·subst ej
    rw [show (⟨G.S,Vc.upd G.val j (G.val x)⟩:Gh).val j=G.val x from hvy]
    exact hr.apart i x oi _ b k1 k2 hx hli (by simp) hbi
   ·rw [show (⟨G.S,Vc.upd G.val y (G.val x)⟩:Gh).val j=G.val j from hvo ej]
    obtain ⟨k3,k4⟩:=hgx (hgo ej hj) hlj
    exact hr.apart i j oi oj b hij k2 k4 hli hlj hbi
 ·exact hr.lim
 ·exact hr.below
 ·exact hr.sub
 ·exact hr.sup
 ·exact hr.old
 ·exact hr.dead
 ·exact hr2.ext.trans hext
 ·exact hr.glob
 ·intro j s1 pd m1 sl ps xa xb ck hj
  by_cases e:j=y
  ·subst e; rw [hgy] at hj; cases hj
  ·exact hr2.lps j s1 pd m1 sl ps xa xb ck (hgo e hj)
theorem Rel.allocDead (hr:Rel n base w0 G st a w):Rel n base w0 G st { a with defers:=mark w.heap.size::a.defers } (w.alloc (.deferred (some []))):=by
 have oth:∀ c,c < w.heap.size→(w.alloc (.deferred (some []))).heap[c]?=w.heap[c]?:=fun c hc=>Below.heap_alloc _ _ _ hc
 have hx:Ext w G st.heap (w.alloc (.deferred (some []))) G st.heap:=by
  refine ⟨fun _ _ h=>h,fun c o hs=>World.cell?_of_block (w:=w) (oth c (hr.lim c o hs)),fun _ _ _ es fz h=>⟨es,fz,h,Nat.le_refl _,fun _=>rfl⟩,fun _ cs h=>⟨.inl ⟨cs,h⟩,rfl⟩,fun _ _ h=>⟨h,rfl⟩,fun _ es h=>⟨es,.inl h,rfl⟩,fun _ l p h=>⟨l,p,h,rfl⟩,fun _ s p _ _ _ _ _ _ h=>⟨s,p,h,rfl⟩,fun _ _ cs h=>⟨cs,h,rfl⟩,fun _ _ bs h=>⟨bs,h,Nat.le_refl _,fun _=>rfl⟩,fun id es h=>⟨h,rfl,fun c hc=>oth c (ORel_lt (hr.objs id _ h) (by simp) c (by rw [hc]; rfl)).2⟩,fun _ _ c l h=>⟨c,l,h,rfl⟩⟩
 have new:(w.alloc (.deferred (some []))).heap[w.heap.size]?=some (.deferred (some [])):=World.alloc_heap_new w _
 constructor
 ·exact hr.size
 ·refine ⟨List.nodup_cons.2 ⟨fun h=>?_,hr.defers.1⟩,fun d hd=>?_⟩
  ·have:=hr.dead _ (.inr h)
   have:=(Array.getElem?_eq_some_iff.1 this).1
   omega
  ·rcases List.mem_cons.1 hd with e | e
   ·exact ⟨_,e,hr.old,fun hD=>by have:=(Array.getElem?_eq_some_iff.1 (hr.dead _ (.inl hD))).1; omega⟩
   ·exact hr.defers.2 d e
 ·exact fun i=>VRel_mono hx _ (hr.slots i)
 ·intro id o ho
  by_cases hl:o=.none
  ·subst hl; trivial
  ·exact ORel_mono hx rfl (fun c hc=>oth c (ORel_lt (hr.objs id o ho) hl c hc).2) (hr.objs id o ho)
 ·exact hr.free
 ·exact hr.apart
 ·exact fun c o h=>Nat.lt_of_lt_of_le (hr.lim c o h) (by simp)
 ·exact hr.below.alloc hr.old _
 ·exact hr.sub
 ·exact hr.sup
 ·exact Nat.le_trans hr.old (by simp)
 ·intro c hc
  rcases hc with hc | hc
  ·have:=hr.dead c (.inl hc)
   rw [oth c (Array.getElem?_eq_some_iff.1 this).1]; exact this
  ·rcases List.mem_cons.1 hc with e | e
   ·have:c=w.heap.size:=by simpa [mark] using e
    subst this; exact new
   ·have:=hr.dead c (.inr e)
    rw [oth c (Array.getElem?_eq_some_iff.1 this).1]; exact this
 ·exact hr.ext.trans hx
 ·exact fun p hp=>DCs_mono hx.keeps hx.seals _ (hr.glob p hp)
 ·exact hr.lps
theorem funOf_rel {h : List AObj} {f : AVal} {v : Value} {g : FuncId} {first caps : List AVal} (hv : VRel w G h f v) (hf : funOf f = some (g, first, caps)) :
  ∃ fv cv:List Value,v=.func (.func g) fv.toArray cv.toArray∧VRels w G h first fv∧VRels w G h caps cv:=by
 unfold funOf at hf
 split at hf <;> cases hf
 ·simp only [VRel,DRel] at hv
  obtain ⟨cv,h1,h2⟩:=hv
  exact ⟨[],cv,by simpa using h1,by simp [VRels],capCells_rel h2⟩
 ·simp only [VRel] at hv
  obtain ⟨fv,cv,h1,h2,h3⟩:=hv
  exact ⟨fv,cv,h1,h2,h3⟩
structure Fits (C:Nat→Prop) (r:Option Nat) (x:ACode):Prop where
 clr:clrsIn C x
 rf:r=none∨noRfor x=true
theorem vc_sound:∀ {x:ACode} {c:Code} {st:St} {Q:AExit→St→Prop} {C:Nat→Prop} {r:Option Nat},chk P n c x=true→Fits C r x→vc P n x st Q→T P n C r c st Q
 | .keep ks gs x,c,st,Q,C,r,hc,hf,h=>by
  have hc':chk P n c x=true:=by cases c <;> simpa [chk] using hc
  simp only [vc] at h
  rw [forceL_eq] at h
  obtain ⟨st',h1,h2⟩:=clear_spec h
  exact T_weaken (fun hC hr=>⟨_,h2 (fun g hg=>hC g (hf.clr.1 g hg)) (hr.drop fun i=>keepL_get ks st.slots i)⟩) (vc_sound hc' ⟨hf.clr.2,hf.rf⟩ h1)
 | .asrow id t sz s x,c,st,Q,C,r,hc,hf,h=>by
  have hc':sz≠0∧chk P n c x=true:=by
   have:(!Nat.beq sz 0&&chk P n c x)=true:=by cases c <;> simpa only [chk] using hc
   simp only [Bool.and_eq_true,Bool.not_eq_true'] at this
   exact ⟨fun e=>by subst e; simp [Nat.beq_refl] at this,this.2⟩
  simp only [vc] at h
  split at h
  ·rename_i k hs hh
   rw [forceL_eq,forceH_eq] at h
   exact T_weaken (fun _ hr=>hr.asrow hs hh hc'.1) (vc_sound hc'.2 ⟨hf.clr,hf.rf⟩ h)
  ·exact vc_sound hc'.2 ⟨hf.clr,hf.rf⟩ h
 | .pick id x,c,st,Q,C,r,hc,hf,h=>by
  have hc':chk P n c x=true:=by cases c <;> simpa only [chk] using hc
  simp only [vc] at h
  split at h
  ·rename_i m left hh
   intro base w0 G a w hgl hC hr
   obtain ⟨l1,k,v,l2,e,hr'⟩:=hr.pick hh
   have h:=h l1 k v l2 e
   rw [forceH_eq] at h
   exact vc_sound hc' ⟨hf.clr,hf.rf⟩ h base w0 G a w hgl hC hr'
  ·exact vc_sound hc' ⟨hf.clr,hf.rf⟩ h
 | .mvr x1 y1 s x,c,st,Q,C,r,hc,hf,h=>by
  have hc':chk P n c x=true:=by cases c <;> simpa only [chk] using hc
  simp only [vc] at h
  split at h
  ·rename_i x' m t sz es fz hs hx hy
   split at h
   ·rename_i hb
    simp only [Bool.and_eq_true,Bool.not_eq_true'] at hb
    have e:=Nat.eq_of_beq_eq_true hb.1.1.1
    subst e
    rw [forceL_eq,forceH_eq] at h
    exact T_weaken (fun hC hr=>hr.mvr (hC _ hf.clr.1) hs hx hy hb.1.1.2 hb.1.2 hb.2) (vc_sound hc' ⟨hf.clr.2,hf.rf⟩ h)
   ·exact vc_sound hc' ⟨hf.clr.2,hf.rf⟩ h
  ·exact vc_sound hc' ⟨hf.clr.2,hf.rf⟩ h
 | .asdat s x,c,st,Q,C,r,hc,hf,h=>by
  have hc':chk P n c x=true:=by cases c <;> simpa only [chk] using hc
  simp only [vc] at h
  split at h
  ·rename_i id m hs
   split at h
   ·rename_i t sz es fz hh
    split at h
    ·rename_i hb
     rw [forceL_eq,forceH_eq] at h
     exact T_weaken (fun _ hr=>hr.sealed hs hh (Nat.eq_of_beq_eq_true hb)) (vc_sound hc' ⟨hf.clr,hf.rf⟩ h)
    ·exact vc_sound hc' ⟨hf.clr,hf.rf⟩ h
   ·exact vc_sound hc' ⟨hf.clr,hf.rf⟩ h
  ·split at h
   ·rename_i cs hb
    split at h
    ·rename_i r m hcs
     split at h
     ·rename_i t sz es fz hh
      split at h
      ·rename_i hbq
       rw [forceH_eq] at h
       exact T_weaken (fun _ hr=>hr.sealedIn hb hcs hh (Nat.eq_of_beq_eq_true hbq)) (vc_sound hc' ⟨hf.clr,hf.rf⟩ h)
      ·exact vc_sound hc' ⟨hf.clr,hf.rf⟩ h
     ·exact vc_sound hc' ⟨hf.clr,hf.rf⟩ h
    ·rename_i sz hcs
     rw [forceH_eq] at h
     exact T_weaken (fun _ hr=>hr.nilIn hb hcs) (vc_sound hc' ⟨hf.clr,hf.rf⟩ h)
    ·split at h
     ·rename_i ds hall
      rw [forceH_eq] at h
      refine T_weaken (fun _ hr=>?_) (vc_sound hc' ⟨hf.clr,hf.rf⟩ h)
      obtain ⟨rfl,hag⟩:=allD_some hall
      obtain ⟨G1,hr1,_,_⟩:=cfreeze_one hr hb hag
      exact ⟨G1,hr1⟩
     ·exact vc_sound hc' ⟨hf.clr,hf.rf⟩ h
   ·exact vc_sound hc' ⟨hf.clr,hf.rf⟩ h
  ·rename_i id m hs
   split at h
   ·rename_i cs hb
    split at h
    ·rename_i ds hall
     split at h
     ·rename_i hbq
      rw [forceL_eq,forceH_eq] at h
      exact T_weaken (fun _ hr=>hr.sealedBox hs hb hall (Nat.eq_of_beq_eq_true hbq)) (vc_sound hc' ⟨hf.clr,hf.rf⟩ h)
     ·exact vc_sound hc' ⟨hf.clr,hf.rf⟩ h
    ·exact vc_sound hc' ⟨hf.clr,hf.rf⟩ h
   ·exact vc_sound hc' ⟨hf.clr,hf.rf⟩ h
  ·exact vc_sound hc' ⟨hf.clr,hf.rf⟩ h
 | .post ks gs x,c,st,Q,C,r,hc,hf,h=>by
  have hc':chk P n c x=true:=by cases c <;> simpa [chk] using hc
  simp only [vc] at h
  have h1:=vc_sound (r:=r) hc' ⟨hf.clr.2,hf.rf⟩ h
  intro base w0 G a w hgl hC hr
  refine wpIn_mono (h1 base w0 G a w hgl hC hr) fun e a w ⟨G,st,k1,k2⟩=>?_
  cases e with
  | normal =>
   simp only [forceL_eq] at k2
   obtain ⟨st',h1,h2⟩:=clear_spec k2
   exact ⟨_,st',h2 (fun g hg=>hC g (hf.clr.1 g hg)) (k1.drop fun i=>keepL_get ks st.slots i),h1⟩
  | exit i=>exact ⟨G,st,k1,k2⟩
  | ret=>exact ⟨G,st,k1,k2⟩
  | goto l=>exact k2.elim
  | panic ch=>exact k2.elim
  | outgrown=>exact k2.elim
 | .skip,c,st,Q,C,r,hc,hf,h=>by
  cases c <;> simp [chk] at hc
  ·exact fun base w0 G a w _ _ hr=>wpIn_skip ⟨G,st,hr,h⟩
  ·exact fun base w0 G a w _ _ hr=>wpIn_label ⟨G,st,hr,h⟩
 | .reg clr xs,c,st,Q,C,r,hc,hf,h=>by
  cases c <;> try (simp [chk] at hc; done)
  rename_i id ops draw
  cases draw <;> try (simp [chk] at hc; done)
  have hc:chkOpers P n ops ops.toList xs=true:=by simpa only [chk] using hc
  simp only [vc] at h
  obtain ⟨st',h1,h2⟩:=clear_spec h
  exact T_weaken (fun hC hr=>⟨_,h2 (fun g hg=>hC g (hf.clr g hg)) hr⟩) (T_region hc h1)
 | .regd clr xs un,c,st,Q,C,r,hc,hf,h=>by
  cases c <;> try (simp [chk] at hc; done)
  rename_i id ops draw
  cases draw <;> try (simp [chk] at hc; done)
  simp only [chk,Bool.and_eq_true] at hc
  simp only [vc] at h
  obtain ⟨st',h1,h2⟩:=clear_spec h
  exact T_weaken (fun hC hr=>⟨_,h2 (fun g hg=>hC g (hf.clr g hg)) hr⟩) (T_regiond hc.1.1.1 hc.1.1.2 hc.1.2 hc.2 h1)
 | .seq x y,c,st,Q,C,r,hc,hf,h=>by
  cases c <;> simp [chk] at hc
  rename_i c1 c2
  simp only [vc] at h
  have hf1:Fits C r x:=⟨hf.clr.1,hf.rf.imp id fun h=>(Bool.and_eq_true _ _ ▸ h:_∧_).1⟩
  have hf2:Fits C r y:=⟨hf.clr.2,hf.rf.imp id fun h=>(Bool.and_eq_true _ _ ▸ h:_∧_).2⟩
  have h1:=vc_sound (r:=r) hc.1 hf1 h
  intro base w0 G a w hgl hC hr
  refine wpIn_seq (wpIn_mono (h1 base w0 G a w hgl hC hr) fun e a w ⟨G,st,k1,k2⟩=>?_)
  cases e with
  | normal=>exact vc_sound hc.2 hf2 k2 base w0 G a w hgl hC k1
  | exit i=>exact ⟨G,st,k1,k2⟩
  | ret=>exact ⟨G,st,k1,k2⟩
  | goto l=>exact k2.elim
  | panic ch=>exact k2.elim
  | outgrown=>exact k2.elim
 | .cond d x y,c,st,Q,C,r,hc,hf,h=>by
  cases c <;> simp [chk] at hc
  simp only [vc] at h
  have hf1:Fits C r x:=⟨hf.clr.1,hf.rf.imp id fun h=>(Bool.and_eq_true _ _ ▸ h:_∧_).1⟩
  have hf2:Fits C r y:=⟨hf.clr.2,hf.rf.imp id fun h=>(Bool.and_eq_true _ _ ▸ h:_∧_).2⟩
  intro base w0 G a w hgl hC hr
  have hv:=chkOpd_rel hr hc.1.1
  split at h
  ·rename_i b hb
   rw [hb] at hv
   have hv:=bool_of hv
   cases b with
   | true=>exact wpIn_cond_true hv (vc_sound hc.1.2 hf1 (by simpa [brk] using h) base w0 G a w hgl hC hr)
   | false=>exact wpIn_cond_false hv (vc_sound hc.2 hf2 (by simpa [brk] using h) base w0 G a w hgl hC hr)
  ·rename_i es hb
   rw [hb] at hv
   simp only [VRel,cond_false] at hv
   obtain ⟨b,hv,hes⟩:=hv
   cases b with
   | true=>exact wpIn_cond_true hv (vc_sound hc.1.2 hf1 (h.1 (hes rfl)) base w0 G a w hgl hC hr)
   | false=>exact wpIn_cond_false hv (vc_sound hc.2 hf2 h.2 base w0 G a w hgl hC hr)
  ·rename_i es hb
   rw [hb] at hv
   simp only [VRel,cond_true] at hv
   obtain ⟨b,hv,hes⟩:=hv
   cases b with
   | true=>exact wpIn_cond_false hv (vc_sound hc.2 hf2 (h.1 (hes rfl)) base w0 G a w hgl hC hr)
   | false=>exact wpIn_cond_true hv (vc_sound hc.1.2 hf1 h.2 base w0 G a w hgl hC hr)
  ·exact h.elim
 | .block id x,c,st,Q,C,r,hc,hf,h=>by
  cases c <;> simp [chk] at hc
  rename_i i c1
  simp only [vc] at h
  have h1:=vc_sound (r:=r) hc.2 ⟨hf.clr,hf.rf⟩ h
  have hid:=hc.1
  subst hid
  intro base w0 G a w hgl hC hr
  refine wpIn_block (wpIn_mono (h1 base w0 G a w hgl hC hr) fun e a w ⟨G,st,k1,k2⟩=>?_)
  cases e with
  | normal=>exact ⟨G,st,k1,k2⟩
  | exit j =>
   simp only at k2
   cases hb:Nat.beq j i
   ·rw [hb] at k2
    have:j≠i:=fun e=>by subst e; simp [Nat.beq_refl] at hb
    simp only [Exit.inBlock,if_neg this]
    exact ⟨G,st,k1,k2⟩
   ·rw [hb] at k2
    simp only [Exit.inBlock,if_pos (nbeq hb)]
    exact ⟨G,st,k1,k2⟩
  | ret=>exact ⟨G,st,k1,k2⟩
  | goto l=>exact k2.elim
  | panic ch=>exact k2.elim
  | outgrown=>exact k2.elim
 | .loop x,c,st,Q,C,r,hc,hf,h=>h C r c hc hf.clr hf.rf
 | .exit i,c,st,Q,C,r,hc,hf,h=>by
  cases c <;> simp [chk] at hc
  have:=hc
  subst this
  exact fun base w0 G a w _ _ hr=>wpIn_exit ⟨G,st,hr,h⟩
 | .dead,c,st,Q,C,r,hc,hf,h=>(show False from h).elim
 | .scope x,c,st,Q,C,r,hc,hf,h=>by
  cases c <;> simp [chk] at hc
  simp only [vc] at h
  have h1:=vc_sound (r:=r) hc ⟨hf.clr,hf.rf⟩ h
  intro base w0 G a w hgl hC hr
  refine wpIn_scope (wpIn_mono (h1 base w0 G a w hgl hC hr) fun e a w ⟨G,st,k1,k2⟩=>?_)
  cases e with
  | normal=>exact ⟨G,st,k1,k2⟩
  | exit i=>exact ⟨G,st,k1,k2⟩
  | ret=>exact ⟨G,st,k1,k2⟩
  | goto l=>exact k2.elim
  | panic ch=>exact k2.elim
  | outgrown=>exact k2.elim
 | .ret,c,st,Q,C,r,hc,hf,h=>by
  cases c <;> simp [chk] at hc
  exact fun base w0 G a w _ _ hr=>wpIn_ret ⟨G,st,hr,h⟩
 | .rfor id f ps xa xb,c,st,Q,C,r,hc,hf,h=>by
  cases c <;> try (simp [chk] at hc; done)
  rename_i fo ps' ca cb
  simp only [chk,Bool.and_eq_true,beq_iff_eq] at hc
  obtain ⟨⟨⟨⟨hc1,hc2⟩,hc3⟩,hc4⟩,hc5⟩:=hc
  have hrn:r=none:=hf.rf.resolve_right (by simp [noRfor])
  subst hrn
  simp only [vc] at h
  split at h
  ·rename_i g first caps hfo hid
   obtain ⟨v,h',⟨⟨fn',hf1,hf2,hf3⟩,hlen,hcall⟩,hend⟩:=h
   intro base w0 G a w hgl hC hr
   obtain ⟨fv,cv,hfv,hfirst,hcaps⟩:=funOf_rel (chkOpd_rel hr hc1) hfo
   refine wpIn_rangeFunc ?_
   intro fn _
   have hr1:=hr.allocDead
   obtain ⟨w1,hw1⟩:∃ w1,w1=w.alloc (.deferred (some [])):=⟨_,rfl⟩
   rw [← hw1] at hr1
   have hsz:w1.heap.size=w.heap.size+1:=by rw [hw1]; simp
   obtain ⟨rec,hrec⟩:∃ rec:Loop,rec={ state:=.ready,pending:=none,fn,tmps:=a.tmps,params:=ps',assign:=ca,body:=cb,defers:=w.heap.size }:=⟨_,rfl⟩
   have hlt:id < st.heap.length:=(List.getElem?_eq_some_iff.1 hid).1
   have hup:=hr1.upd (id:=id) (o:=.none) (o':=.lp .ready none n st.slots ps xa xb (ckP P n xa xb)) (v':=.pointer (some ⟨w1.heap.size,0,none⟩)) (S':=G.S) (row:=none) (w':=w1.alloc (.loop rec)) hid (.inl rfl) (fun _ _ h=>h) (fun _ _ h=>.inl h)
    (World.grownBy_alloc w1 _ none) (fun _ _ _ h=>by cases h) (fun b hb=>.inr (by cases hb; exact Nat.le_refl _)) trivial
    (fun hx=>⟨w1.heap.size,fn,a.tmps,ca,cb,w.heap.size,upd_same _ _ _,hr1.old,by rw [World.alloc_heap_new,hrec,← hc2]; rfl,hr.size,fun i=>VRel_mono hx _ (hr1.slots i),by simp [ckP,hc4,hc5]⟩)
    (fun b off hb _ hs=>by cases hb; exact Nat.lt_irrefl _ (hr1.lim _ _ hs)) (fun b off hs=>Nat.lt_of_lt_of_le (hr1.lim b off hs) (by simp))
    (fun s pd m sl ps' xa' xb' ck h=>by cases h; rw [hgl.ck])
   obtain ⟨hx1,hr2⟩:=hup
   have hset:(st.heap.set id (.lp .ready none n st.slots ps xa xb (ckP P n xa xb)))[id]?=some (.lp .ready none n st.slots ps xa xb (ckP P n xa xb)):=by simp [hlt]
   have hx0:Ext w G st.heap w1 G st.heap:=by
    refine ⟨fun _ _ h=>h,fun c o hs=>?_,fun _ _ _ es fz h=>⟨es,fz,h,Nat.le_refl _,fun _=>rfl⟩,fun _ cs h=>⟨.inl ⟨cs,h⟩,rfl⟩,fun _ _ h=>⟨h,rfl⟩,fun _ es h=>⟨es,.inl h,rfl⟩,fun _ l p h=>⟨l,p,h,rfl⟩,fun _ s p _ _ _ _ _ _ h=>⟨s,p,h,rfl⟩,fun _ _ cs h=>⟨cs,h,rfl⟩,fun _ _ bs h=>⟨bs,h,Nat.le_refl _,fun _=>rfl⟩,fun id es h=>⟨h,rfl,fun c hc=>by rw [hw1]; exact Below.heap_alloc _ _ _ (ORel_lt (hr.objs id _ h) (by simp) c (by rw [hc]; rfl)).2⟩,fun _ _ c l h=>⟨c,l,h,rfl⟩⟩
    rw [hw1]; exact World.cell?_of_block (w:=w) (Below.heap_alloc _ _ _ (hr.lim c o hs))
   have hyld:VRel (w1.alloc (.loop rec)) ⟨G.S,Vc.upd G.val id (.pointer (some ⟨w1.heap.size,0,none⟩))⟩ (st.heap.set id (.lp .ready none n st.slots ps xa xb (ckP P n xa xb))) (.yld id) (.func (.yield w1.heap.size) #[] #[]):=by
    simp only [VRel]
    exact ⟨_,_,_,_,_,_,_,_,_,hset,upd_same _ _ _,rfl⟩
   have hargs:VRels (w1.alloc (.loop rec)) ⟨G.S,Vc.upd G.val id (.pointer (some ⟨w1.heap.size,0,none⟩))⟩ (st.heap.set id (.lp .ready none n st.slots ps xa xb (ckP P n xa xb))) (first++.yld id::caps) (fv++.func (.yield w1.heap.size) #[] #[]::cv) :=
    VRels_append (VRels_mono hx1 _ (VRels_mono hx0 _ hfirst)) (VRels_cons.2 ⟨hyld,VRels_mono hx1 _ (VRels_mono hx0 _ hcaps)⟩)
   have hcalls:=hcall n base w0 _ st.slots _ _ _ hgl hr2 hargs
   refine ⟨w1.heap.size,[mark w.heap.size],w1.alloc (.loop rec),{ target:=.fn (.func g) cv.toArray,args:=fv.toArray++#[.func (.yield w1.heap.size) #[] #[]] },w1.alloc (.loop rec),g,
    (fv++.func (.yield w1.heap.size) #[] #[]::cv).toArray,w1.alloc (.loop rec),?_,?_,fun _ _=>trivial,?_,fun h=>by simp [Fw,Fence.wide] at h,?_⟩
   ·rw [hrec,hsz,hw1]; exact run_enterLoop_outer _ _ _ _ _
   ·have e1:Array.map a.eval #[Operand.const (.func (.yield w1.heap.size) #[] #[])]=#[.func (.yield w1.heap.size) #[] #[]]:=by simp [Act.eval]
    simp only [resolve,rangeCall,hfv,Deferred.ofValue,e1]
    rfl
   ·have h5:¬ fn'.body=none:=fun h=>by simp [h] at hf2
    have h6:¬ fn'.name = "runtime.NumGoroutine" := by simpa using hf3
    simp [invoke,callFunc,hf1,h5,h6]
   ·refine CallsIn.mono (show CallsIn (Fw none) (0 - 1) P g _ _ _ from (callsIn_wide (n:=0)).2 hcalls) ?_
    rintro e w3 ⟨x,G3,rfl,hx3,hr3,_⟩
    unfold rforEnd at hend
    split at hend
    ·rename_i s3 pend m3 sl3 ps3 xa3 xb3 ck3 hid3
     obtain ⟨hbusy,hend⟩:=hend
     obtain ⟨b3,fn3,arr3,ca3,cb3,df3,q1,q2,q3,q4,q5,q6⟩:=hr3.objs id _ hid3
     have hv3:G3.val id=.pointer (some ⟨w1.heap.size,0,none⟩):=by
      obtain ⟨_,_,_,hv3⟩:=hx3.lp id _ _ _ _ _ _ _ _ hset
      rw [hv3]; exact upd_same _ _ _
     have hb3:b3=w1.heap.size:=by rw [hv3] at q1; cases q1; rfl
     subst hb3
     have hlt3:id < h'.length:=(List.getElem?_eq_some_iff.1 hid3).1
     have hend3:=run_endLoop (P:=P) q3 hbusy
     obtain ⟨rec4,hrec4⟩:∃ rec4:Loop,rec4={ state:=.exhausted,pending:=pend.map AJump.code,fn:=fn3,tmps:=arr3,params:=ps3.toArray,assign:=ca3,body:=cb3,defers:=df3 }:=⟨_,rfl⟩
     have hput:(w3.putObj w1.heap.size (.loop rec4)).heap[w1.heap.size]?=some (.loop rec4):=World.putObj_heap_same (Array.getElem?_eq_some_iff.1 q3).1
     have hup4:=hr3.upd (id:=id) (o:=.lp s3 pend m3 sl3 ps3 xa3 xb3 ck3) (o':=.lp .exhausted pend m3 sl3 ps3 xa3 xb3 ck3) (v':=G3.val id) (S':=G3.S) (row:=some w1.heap.size) (w':=w3.putObj w1.heap.size (.loop rec4)) hid3 (.inr ⟨by simp,by rw [hv3]; rfl⟩) (fun _ _ h=>h) (fun _ _ h=>.inl h)
      (grownBy_putObj' w3 _ _) (fun b off hs hb=>by
       cases hb
       exact (hr3.free id _ _ off hid3 (by rw [hv3]; rfl) trivial hs).elim)
      (fun b hb=>.inl ⟨by simp,hb⟩) ⟨rfl,rfl,rfl,rfl,rfl,rfl,rfl⟩
      (fun hx=>⟨w1.heap.size,fn3,arr3,ca3,cb3,df3,(upd_same _ _ _).trans hv3,q2,by rw [hput,hrec4],q4,fun i=>VRel_mono hx _ (q5 i),q6⟩)
      (fun b off hb _ hs=>hr3.free id _ b off hid3 hb trivial hs) (fun b off hs=>by rw [World.putObj_size]; exact hr3.lim b off hs)
      (fun s pd m sl ps' xa' xb' ck h=>by cases h; exact hr3.lps _ _ _ _ _ _ _ _ _ hid3)
     obtain ⟨_,hr4⟩:=hup4
     obtain ⟨st',k1,k2⟩:=clear_spec hend
     have hr5:=k2 (fun r hr=>by rw [List.mem_singleton.1 hr]; exact hC id hf.clr.1) hr4
     refine ⟨pend.map AJump.code,w3.putObj w1.heap.size (.loop rec4),by rw [hend3,hrec4],?_⟩
     cases pend with
     | none=>exact ⟨_,st',hr5,k1⟩
     | some j =>
      cases j with
      | ret=>exact wpIn_ret ⟨_,st',hr5,k1⟩
      | exit i=>exact wpIn_exit ⟨_,st',hr5,k1⟩
    ·exact hend.elim
  ·exact h.elim
end
end Vc
set_option linter.unusedSimpArgs false
set_option linter.unusedVariables false
namespace Vc
open Go Go.RowKit
theorem least {p:Nat→Prop}:∀ {n:Nat},p n→∃ n,p n∧∀ m,p m→n≤m:=by
 intro n
 induction n using Nat.strongRecOn with
 | _ n ih =>
  intro hn
  by_cases h:∃ m,m < n∧p m
  ·obtain ⟨m,h1,h2⟩:=h
   exact ih m h1 h2
  ·refine ⟨n,hn,fun m hm=>?_⟩
   rcases Nat.lt_or_ge m n with h1 | h1
   ·exact absurd ⟨m,h1,hm⟩ h
   ·exact h1
theorem loop_J {P : Program} [Laid P] {n : Nat} {b : ACode} {st : St} {Q : AExit → St → Prop} (J : Nat → St → Prop) (h0 : ∃ m, J m st)
  (hb:∀ m s,J m s→vc P n b s fun e s'=>match e with
   | .normal=>∃ m',m' < m∧J m' s'
   | .exit i=>Q (.exit i) s'
   | .ret=>Q .ret s'):TA P n (.loop b) st Q:=by
 intro C r c hc hcl hrf base w0 G a w hgl hC hr
 cases c <;> try (simp [chk] at hc; done)
 rename_i c
 have hc:chk P n c b=true:=by simpa only [chk] using hc
 let p:Act→World→Nat→Prop:=fun a w m=>∃ s G,J m s∧Rel n base w0 G s a w
 have hl:∀ a w,∃ m,(∃ k,p a w k)→p a w m∧∀ k,p a w k→m≤k:=by
  intro a w
  by_cases h:∃ k,p a w k
  ·obtain ⟨k,hk⟩:=h
   obtain ⟨m,h1,h2⟩:=least hk
   exact ⟨m,fun _=>⟨h1,h2⟩⟩
  ·exact ⟨0,fun h'=>absurd h' h⟩
 refine wpIn_loop (fun a w=>∃ k,p a w k) (fun a w=>Classical.choose (hl a w)) (let ⟨m,hm⟩:=h0; ⟨m,st,G,hm,hr⟩) fun a w hI=>?_
 obtain ⟨⟨s,G',h1,h2⟩,h3⟩:=Classical.choose_spec (hl a w) hI
 refine wpIn_mono (vc_sound (x:=b) (r:=r) hc ⟨hcl,hrf⟩ (hb _ s h1) base w0 G' a w hgl hC h2) fun e a' w' ⟨G2,s2,k1,k2⟩=>?_
 cases e with
 | normal =>
  obtain ⟨m',k3,k4⟩:=k2
  have hp:p a' w' m':=⟨s2,G2,k4,k1⟩
  exact ⟨⟨m',hp⟩,Nat.lt_of_le_of_lt ((Classical.choose_spec (hl a' w') ⟨m',hp⟩).2 m' hp) k3⟩
 | exit i=>exact ⟨G2,s2,k1,k2⟩
 | ret=>exact ⟨G2,s2,k1,k2⟩
 | goto l=>exact k2.elim
 | panic ch=>exact k2.elim
 | outgrown=>exact k2.elim
inductive ARes where
 | tmp (t:Nat)
 | cell (t n:Nat) (ag:Bool)
structure AFun where
 n:Nat
 heap:Nat
 res:List ARes
 body:ACode
def chkRes (P:Program):List ResultVar→List ARes→Bool
 | [],[]=>true
 | .tmp t::r,.tmp t'::r'=>Nat.beq t t'&&chkRes P r r'
 | .cell t ty::r,.cell t' n ag::r'=>Nat.beq t t'&&sizeIs P ty n&&(isAggT P ty==ag)&&chkRes P r r'
 | _,_=>false
def chkFun (P:Program) (f:FuncId) (x:AFun):Bool :=
 match P.funcs[f]? with
 | some fn=>match fn.body with
  | some c=>chk P fn.ntmps c x.body&&Nat.beq fn.ntmps x.n&&chkRes P fn.results.toList x.res&&!(fn.name == "runtime.NumGoroutine")
  | none=>false
 | none=>false
def zipSlots:Nat→List AVal→List (Nat × AVal)
 | _,[]=>[]
 | k,v::r=>(k,v)::zipSlots (k+1) r
def nones:Nat→List AObj
 | 0=>[]
 | n+1=>.none::nones n
def allDs:List AVal→Option (List Data)
 | []=>some []
 | .d x::r=>match allDs r with
  | some ds=>some (x::ds)
  | none=>none
 | _::_=>none
def resE (s:Nat→AVal):List ARes→(List AVal→Eff)→Eff
 | [],k=>k []
 | .tmp t::r,k=>resE s r fun vs=>k (s t::vs)
 | .cell t n ag::r,k=>match s t with
  | .ptr id off=>.rd id fun o=>match o with
   | .box cs=>match cut cs off n with
    | some l=>match ag,l with
     | true,l=>resE s r fun vs=>k (ofCells l::vs)
     | false,[v]=>resE s r fun vs=>k (v::vs)
     | _,_=>.fail
    | none=>.fail
   | _=>.fail
  | _=>.fail
def retE (s:Nat→AVal) (res:List ARes):Eff :=
 resE s res fun vs=>pvL vs fun xs ws=>match allDs xs with
  | some ds=>.ret (resV ds) ws
  | none=>.fail
def endP (res:List ARes) (rs:List Data) (st:St):Prop:=runE (retE (getL st.slots) res) st.heap fun v _ _=>v=resV rs
def postF (x:AFun) (rs:List Data):AExit→St→Prop:=fun e st=>match e with
 | .normal=>endP x.res rs st
 | .ret=>endP x.res rs st
 | .exit _=>False
def startS (x:AFun) (args:List AVal):St:=⟨zipSlots 0 args,nones x.heap⟩
theorem vc_mono_ops {P:Program} [Laid P]:∀ {xs:List AOper} {st:St} {acc:List Acc} {K K':St→List Acc→Prop},vops P xs st acc K→(∀ s a,K s a→K' s a)→vops P xs st acc K'
 | [],st,acc,K,K',h,hk=>hk _ _ h
 | x::xs,st,acc,K,K',h,hk=>by
  simp only [vops] at h ⊢
  have vdo_mono:∀ {o:AOper} {st:St} {K K':St→Acc→Prop},vdo P o st K→(∀ s a,K s a→K' s a)→vdo P o st K':=by
   intro o st K K' h hk
   unfold vdo at h ⊢
   have runE_mono:∀ {e:Eff} {h:List AObj} {K K':AVal→List (Nat × AObj)→List Nat→Prop},runE e h K→(∀ v w r,K v w r→K' v w r)→runE e h K':=by
    intro e h
    induction e with
    | ret v ws=>intro K K' hh hk; exact hk _ _ _ hh
    | rd id k ih =>
     intro K K' hh hk
     simp only [runE] at hh ⊢
     split at hh
     ·rename_i o ho
      exact ih o hh fun v w r=>hk v w _
     ·exact hh.elim
    | side p k ih=>intro K K' hh hk; exact ⟨hh.1,ih hh.2 hk⟩
    | exD k ih=>intro K K' hh hk; obtain ⟨x,hh⟩:=hh; exact ⟨x,ih x hh hk⟩
    | exI k ih=>intro K K' hh hk; obtain ⟨x,hh⟩:=hh; exact ⟨x,ih x hh hk⟩
    | exL k ih=>intro K K' hh hk; obtain ⟨x,hh⟩:=hh; exact ⟨x,ih x hh hk⟩
    | all k ih=>intro K K' hh hk; exact ih h hh fun v w r=>hk v w _
    | exA k ih=>intro K K' hh hk; obtain ⟨x,y,hh⟩:=hh; exact ⟨x,y,ih x y hh hk⟩
    | fail=>intro K K' hh hk; exact hh.elim
    | allx ids p=>intro K K' hh hk; obtain ⟨v,ws,h1,h2⟩:=hh; exact ⟨v,ws,h1,hk _ _ _ h2⟩
   refine runE_mono h fun v w r hh=>?_
   rw [forceV_eq,forceL_eq,forceH_eq] at hh ⊢
   exact hk _ _ hh
  have vskip_mono:∀ {o:AOper} {st:St} {K K':St→Acc→Prop},vskip o st K→(∀ s a,K s a→K' s a)→vskip o st K':=by
   intro o st K K' h hk
   unfold vskip at h ⊢
   rw [forceL_eq] at h ⊢
   exact hk _ _ h
  have hk':∀ s a,vops P xs s (a::acc) K→vops P xs s (a::acc) K':=fun s a h=>vc_mono_ops h hk
  unfold vop at h ⊢
  split at h
  ·exact vdo_mono h hk'
  ·split at h
   ·rename_i b hb
    cases b <;> simp only [brk,forceL_eq] at h ⊢ <;> split at h <;> first | exact vdo_mono h hk' | exact vskip_mono h hk'
   ·exact vskip_mono h hk'
   ·exact h.elim
theorem clear_mono:∀ {rs:List Nat} {st:St} {K K':St→Prop},clear rs st K→(∀ s,K s→K' s)→clear rs st K'
 | [],st,K,K',h,hk=>hk _ h
 | r::rs,st,K,K',h,hk=>by
  simp only [clear] at h ⊢
  split at h
  ·rw [forceH_eq] at h ⊢; exact clear_mono h hk
  ·exact clear_mono h hk
theorem vc_mono {P:Program} [Laid P] {n:Nat}:∀ {x:ACode} {st:St} {Q Q':AExit→St→Prop},vc P n x st Q→(∀ e s,Q e s→Q' e s)→vc P n x st Q'
 | .skip,st,Q,Q',h,hq=>hq _ _ h
 | .reg clr ops,st,Q,Q',h,hq=>clear_mono h fun s h=>vc_mono_ops h fun s a h=>hq _ _ h
 | .regd clr ops un, st, Q, Q', h, hq => clear_mono h fun s h => vc_mono_ops h fun s a h => by
   split at h
   ·exact hq _ _ h
   ·exact h.elim
 | .seq a b, st, Q, Q', h, hq => vc_mono (x := a) h fun e s h => by
   cases e with
   | normal=>exact vc_mono (x:=b) h hq
   | exit i=>exact hq _ _ h
   | ret=>exact hq _ _ h
 | .cond c a b, st, Q, Q', h, hq => by
   simp only [vc] at h ⊢
   split at h
   ·rename_i x hx
    cases x
    ·exact vc_mono (x:=b) h hq
    ·exact vc_mono (x:=a) h hq
   ·exact ⟨fun e=>vc_mono (x:=a) (h.1 e) hq,vc_mono (x:=b) h.2 hq⟩
   ·exact ⟨fun e=>vc_mono (x:=b) (h.1 e) hq,vc_mono (x:=a) h.2 hq⟩
   ·exact h.elim
 | .block id c, st, Q, Q', h, hq => vc_mono (x := c) h fun e s h => by
   cases e with
   | normal=>exact hq _ _ h
   | exit i =>
    simp only at h ⊢
    cases hb:Nat.beq i id <;> rw [hb] at h <;> exact hq _ _ h
   | ret=>exact hq _ _ h
 | .loop c,st,Q,Q',h,hq=>fun C r c hc h1 h2=>T_mono (h C r c hc h1 h2) hq
 | .rfor r f ps xa xb, st, Q, Q', h, hq => by
   simp only [vc] at h ⊢
   split at h
   ·obtain ⟨v,h',h1,h2⟩:=h
    refine ⟨v,h',h1,?_⟩
    unfold rforEnd at h2 ⊢
    split at h2
    ·refine ⟨h2.1,clear_mono h2.2 fun s hs=>?_⟩
     split at hs <;> exact hq _ _ hs
    ·exact h2.elim
   ·exact h.elim
 | .exit i,st,Q,Q',h,hq=>hq _ _ h
 | .scope c,st,Q,Q',h,hq=>vc_mono (x:=c) h hq
 | .ret,st,Q,Q',h,hq=>hq _ _ h
 | .dead,st,Q,Q',h,hq=>h
 | .asrow r t sz s c, st, Q, Q', h, hq => by
   simp only [vc] at h ⊢
   split at h
   ·rename_i k hs hh
    rw [forceL_eq,forceH_eq] at h
    simp only [forceL_eq,forceH_eq]
    exact vc_mono (x:=c) h hq
   ·exact vc_mono (x:=c) h hq
 | .pick id c, st, Q, Q', h, hq => by
   simp only [vc] at h ⊢
   split at h
   ·intro l1 k v l2 e
    have h:=h l1 k v l2 e
    rw [forceH_eq] at h ⊢
    exact vc_mono (x:=c) h hq
   ·exact vc_mono (x:=c) h hq
 | .mvr a b s c, st, Q, Q', h, hq => by
   simp only [vc] at h ⊢
   split at h
   ·split at h
    ·rw [forceL_eq,forceH_eq] at h
     simp only [forceL_eq,forceH_eq]
     exact vc_mono (x:=c) h hq
    ·exact vc_mono (x:=c) h hq
   ·exact vc_mono (x:=c) h hq
 | .asdat s c, st, Q, Q', h, hq => by
   simp only [vc] at h ⊢
   split at h
   ·rename_i id m hs
    split at h
    ·rename_i t sz es fz hh
     split at h
     ·rename_i hb
      rw [forceL_eq,forceH_eq] at h
      simp only [forceL_eq,forceH_eq]
      exact vc_mono (x:=c) h hq
     ·rename_i hb
      exact vc_mono (x:=c) h hq
    ·exact vc_mono (x:=c) h hq
   ·split at h
    ·rename_i cs hb
     split at h
     ·rename_i r m hcs
      split at h
      ·rename_i t sz es fz hh
       split at h
       ·rename_i hbq
        rw [forceH_eq] at h
        simp only [forceH_eq]
        exact vc_mono (x:=c) h hq
       ·exact vc_mono (x:=c) h hq
      ·exact vc_mono (x:=c) h hq
     ·rw [forceH_eq] at h
      simp only [forceH_eq]
      exact vc_mono (x:=c) h hq
     ·split at h
      ·rw [forceH_eq] at h
       simp only [forceH_eq]
       exact vc_mono (x:=c) h hq
      ·exact vc_mono (x:=c) h hq
    ·exact vc_mono (x:=c) h hq
   ·split at h
    ·rename_i cs hb
     split at h
     ·rename_i ds hall
      split at h
      ·rename_i hbq
       rw [forceL_eq,forceH_eq] at h
       simp only [forceL_eq,forceH_eq]
       exact vc_mono (x:=c) h hq
      ·exact vc_mono (x:=c) h hq
     ·exact vc_mono (x:=c) h hq
    ·exact vc_mono (x:=c) h hq
   ·exact vc_mono (x:=c) h hq
 | .post ks gs c, st, Q, Q', h, hq => vc_mono (x := c) h fun e s h => by
   cases e with
   | normal =>
    simp only [forceL_eq] at h ⊢
    exact clear_mono h fun s h=>hq _ _ h
   | exit i=>exact hq _ _ h
   | ret=>exact hq _ _ h
 | .keep ks gs c, st, Q, Q', h, hq => by
   simp only [vc] at h ⊢
   rw [forceL_eq] at h ⊢
   exact clear_mono h fun s h=>vc_mono (x:=c) h hq
theorem zipSlots_get:∀ (k:Nat) (args:List AVal) (i:Nat),getL (zipSlots k args) i=if k≤i then args[i - k]?.getD .undef else .undef
 | k,[],i=>by simp [zipSlots,getL]
 | k,v::r,i=>by
  simp only [zipSlots,getL]
  by_cases e:i=k
  ·subst e; simp [Nat.beq_refl]
  ·have : Nat.beq i k = false := by
    cases hb:Nat.beq i k
    ·rfl
    ·exact absurd (Nat.eq_of_beq_eq_true hb) e
   rw [this]
   simp only [cond_false]
   rw [zipSlots_get (k+1) r i]
   by_cases h1:k≤i
   ·rw [if_pos h1,if_pos (by omega),show i - k=(i - (k+1))+1 by omega]
    simp
   ·rw [if_neg h1,if_neg (by omega)]
theorem nones_get:∀ (n i:Nat) (o:AObj),(nones n)[i]?=some o→o=.none
 | 0,i,o,h=>by simp [nones] at h
 | n+1,0,o,h=>by simp [nones] at h; exact h.symm
 | n+1,i+1,o,h=>nones_get n i o (by simpa [nones] using h)
end Vc
set_option linter.unusedSimpArgs false
set_option linter.unusedVariables false
namespace Vc
open Go
def AOp.shift (k:Nat):AOp→AOp
 | .alloc r cs=>.alloc (r+k) cs
 | .box r n x=>.box (r+k) n x
 | .bsl r t sz n z ps=>.bsl (r+k) t sz n z ps
 | .msl r t sz b z n=>.msl (r+k) t sz b z n
 | .mkb r t m b z n=>.mkb (r+k) t m b z n
 | .mk0 r t sz b c=>.mk0 (r+k) t sz b c
 | .app r t sz b s x=>.app (r+k) t sz b s x
 | .appz r t sz b z s x=>.appz (r+k) t sz b z s x
 | .cbx r n x=>.cbx (r+k) n x
 | .rng r x=>.rng (r+k) x
 | .mkm r=>.mkm (r+k)
 | .rngm r x=>.rngm (r+k) x
 | .alt r t cs=>.alt (r+k) t cs
 | .aps r t x y=>.aps (r+k) t x y
 | .calln r t sz f args=>.calln (r+k) t sz f args
 | .callx ids f args=>.callx (ids.map (·+k)) f args
 | o=>o
def AOper.shift (k:Nat) (o:AOper):AOper:={ o with op:=o.op.shift k }
def addL (k:Nat):List Nat→List Nat
 | []=>[]
 | r::rs=>(r+k)::addL k rs
def shiftL (k:Nat):List AOper→List AOper
 | []=>[]
 | o::r=>o.shift k::shiftL k r
def ACode.shift (k:Nat):ACode→ACode
 | .skip=>.skip
 | .reg cl xs=>.reg (addL k cl) (shiftL k xs)
 | .regd cl xs un=>.regd (addL k cl) (shiftL k xs) un
 | .seq a b=>.seq (a.shift k) (b.shift k)
 | .cond c a b=>.cond c (a.shift k) (b.shift k)
 | .block i c=>.block i (c.shift k)
 | .loop c=>.loop (c.shift k)
 | .exit i=>.exit i
 | .scope c=>.scope (c.shift k)
 | .ret=>.ret
 | .dead=>.dead
 | .keep ks gs c=>.keep ks (addL k gs) (c.shift k)
 | .post ks gs c=>.post ks (addL k gs) (c.shift k)
 | .asrow r t sz s c=>.asrow (r+k) t sz s (c.shift k)
 | .asdat s c=>.asdat s (c.shift k)
 | .pick id c=>.pick (id+k) (c.shift k)
 | .mvr x y s c=>.mvr (x+k) (y+k) s (c.shift k)
 | .rfor r f ps a b=>.rfor (r+k) f ps (a.shift k) (b.shift k)
theorem chkOp_shift {P:Program} {k:Nat} (o:Op) (x:AOp):chkOp P o (x.shift k)=chkOp P o x:=by
 cases x with
 | alloc r cs => 
  cases o with
  | unOp op t x=>cases op <;> rfl
  | makeMap t rv=>cases rv <;> rfl
  | slice a b c d m=>cases m <;> rfl
  | next i s=>cases s <;> rfl
  | _=>rfl
 | rngm r x' => 
  cases o with
  | unOp op t x=>cases op <;> rfl
  | makeMap t rv=>cases rv <;> rfl
  | slice a b c d m=>cases m <;> rfl
  | next i s=>cases s <;> rfl
  | _=>rfl
 | alt r t' cs => 
  cases o with
  | unOp op t x=>cases op <;> rfl
  | makeMap t rv=>cases rv <;> rfl
  | slice a b c d m=>cases m <;> rfl
  | next i s=>cases s <;> rfl
  | _=>rfl
 | aps r t' x' y' => 
  cases o with
  | unOp op t x=>cases op <;> rfl
  | makeMap t rv=>cases rv <;> rfl
  | slice a b c d m=>cases m <;> rfl
  | next i s=>cases s <;> rfl
  | _=>rfl
 | box r n x => 
  cases o with
  | unOp op t x=>cases op <;> rfl
  | makeMap t rv=>cases rv <;> rfl
  | slice a b c d m=>cases m <;> rfl
  | next i s=>cases s <;> rfl
  | _=>rfl
 | bsl r t sz n z ps => 
  cases o with
  | unOp op t x=>cases op <;> rfl
  | makeMap t rv=>cases rv <;> rfl
  | slice a b c d m=>cases m <;> rfl
  | next i s=>cases s <;> rfl
  | _=>rfl
 | msl r t sz b z n => 
  cases o with
  | unOp op t x=>cases op <;> rfl
  | makeMap t rv=>cases rv <;> rfl
  | slice a b c d m=>cases m <;> rfl
  | next i s=>cases s <;> rfl
  | _=>rfl
 | mk0 r t sz b c => 
  cases o with
  | unOp op t x=>cases op <;> rfl
  | makeMap t rv=>cases rv <;> rfl
  | slice a b c d m=>cases m <;> rfl
  | next i s=>cases s <;> rfl
  | _=>rfl
 | mkb r t m b z n => 
  cases o with
  | unOp op t x=>cases op <;> rfl
  | makeMap t rv=>cases rv <;> rfl
  | slice a b c d m=>cases m <;> rfl
  | next i s=>cases s <;> rfl
  | _=>rfl
 | app r t sz b s x => 
  cases o with
  | unOp op t x=>cases op <;> rfl
  | makeMap t rv=>cases rv <;> rfl
  | slice a b c d m=>cases m <;> rfl
  | next i s=>cases s <;> rfl
  | _=>rfl
 | appz r t sz b z s x => 
  cases o with
  | unOp op t x=>cases op <;> rfl
  | makeMap t rv=>cases rv <;> rfl
  | slice a b c d m=>cases m <;> rfl
  | next i s=>cases s <;> rfl
  | _=>rfl
 | cbx r n x => 
  cases o with
  | unOp op t x=>cases op <;> rfl
  | makeMap t rv=>cases rv <;> rfl
  | slice a b c d m=>cases m <;> rfl
  | next i s=>cases s <;> rfl
  | _=>rfl
 | rng r x => 
  cases o with
  | unOp op t x=>cases op <;> rfl
  | makeMap t rv=>cases rv <;> rfl
  | slice a b c d m=>cases m <;> rfl
  | next i s=>cases s <;> rfl
  | _=>rfl
 | mkm r => 
  cases o with
  | unOp op t x=>cases op <;> rfl
  | makeMap t rv=>cases rv <;> rfl
  | slice a b c d m=>cases m <;> rfl
  | next i s=>cases s <;> rfl
  | _=>rfl
 | calln r t sz f args =>
  cases o with
  | unOp op t x=>cases op <;> rfl
  | makeMap t rv=>cases rv <;> rfl
  | slice a b c d m=>cases m <;> rfl
  | next i s=>cases s <;> rfl
  | _=>rfl
 | callx ids f args =>
  cases o with
  | unOp op t x=>cases op <;> rfl
  | makeMap t rv=>cases rv <;> rfl
  | slice a b c d m=>cases m <;> rfl
  | next i s=>cases s <;> rfl
  | _=>rfl
 | _=>rfl
theorem chkOper_shift {P:Program} {k n:Nat} {ops:Array Oper} (o:Oper) (x:AOper):chkOper P n ops o (x.shift k)=chkOper P n ops o x:=by
 unfold chkOper
 rw [show (x.shift k).op=x.op.shift k from rfl,chkOp_shift]
 rfl
theorem chkOpers_shift {P:Program} {k n:Nat} {ops:Array Oper}:∀ (os:List Oper) (xs:List AOper),chkOpers P n ops os (shiftL k xs)=chkOpers P n ops os xs
 | [],[]=>rfl
 | [],_::_=>rfl
 | _::_,[]=>rfl
 | o::os,x::xs=>by simp only [shiftL,chkOpers,chkOper_shift,chkOpers_shift os xs]
theorem shiftL_map {k:Nat}:∀ (xs:List AOper),shiftL k xs=xs.map (AOper.shift k)
 | []=>rfl
 | x::xs=>by simp [shiftL,shiftL_map xs]
theorem reads_shift {k:Nat} (x:AOper):(x.shift k).reads=x.reads:=by
 have:(x.op.shift k).opds=x.op.opds:=by cases x.op <;> rfl
 unfold AOper.reads
 rw [show (x.shift k).op=x.op.shift k from rfl,this]
 rfl
theorem apartA_shift {k:Nat} (x y:AOper):apartA (x.shift k) (y.shift k)=apartA x y:=by
 unfold apartA
 rw [reads_shift]
 rfl
theorem chkUn_shift {k:Nat} (ops:Array Oper) (xs:List AOper) (un:List (Nat × Nat)):chkUn ops (shiftL k xs) un=chkUn ops xs un:=by
 unfold chkUn
 simp only [shiftL_map,List.getElem?_map]
 congr 1
 funext j
 congr 1
 funext i
 cases xs[i]? <;> cases xs[j]? <;> simp [apartA_shift]
theorem chk_shift {P:Program} {n k:Nat}:∀ {x:ACode} {c:Code},chk P n c (x.shift k)=chk P n c x
 | .keep ks gs x,c=>by
  have:=chk_shift (P:=P) (n:=n) (k:=k) (x:=x) (c:=c)
  cases c <;> simpa only [ACode.shift,chk] using this
 | .post ks gs x,c=>by
  have:=chk_shift (P:=P) (n:=n) (k:=k) (x:=x) (c:=c)
  cases c <;> simpa only [ACode.shift,chk] using this
 | .asrow r t sz s x,c=>by
  have:=chk_shift (P:=P) (n:=n) (k:=k) (x:=x) (c:=c)
  cases c <;> simp only [ACode.shift,chk,this]
 | .asdat s x,c=>by
  have:=chk_shift (P:=P) (n:=n) (k:=k) (x:=x) (c:=c)
  cases c <;> simpa only [ACode.shift,chk] using this
 | .pick id x,c=>by
  have:=chk_shift (P:=P) (n:=n) (k:=k) (x:=x) (c:=c)
  cases c <;> simpa only [ACode.shift,chk] using this
 | .mvr a b s x,c=>by
  have:=chk_shift (P:=P) (n:=n) (k:=k) (x:=x) (c:=c)
  cases c <;> simpa only [ACode.shift,chk] using this
 | .skip,c=>rfl
 | .reg cl xs,c=>by
  cases c <;> try (simp only [ACode.shift,chk]; done)
  rename_i id ops draw
  cases draw <;> simp only [ACode.shift,chk,chkOpers_shift]
 | .regd cl xs un,c=>by
  cases c <;> try (simp only [ACode.shift,chk]; done)
  rename_i id ops draw
  cases draw <;> simp only [ACode.shift,chk,chkOpers_shift,chkUn_shift]
 | .seq x y,c=>by
  cases c <;> simp only [ACode.shift,chk,chk_shift (x:=x),chk_shift (x:=y)]
 | .cond d x y,c=>by
  cases c <;> simp only [ACode.shift,chk,chk_shift (x:=x),chk_shift (x:=y)]
 | .block i x,c=>by
  cases c <;> simp only [ACode.shift,chk,chk_shift (x:=x)]
 | .loop x,c=>by
  cases c <;> simp only [ACode.shift,chk,chk_shift (x:=x)]
 | .exit i,c=>rfl
 | .scope x,c=>by
  cases c <;> simp only [ACode.shift,chk,chk_shift (x:=x)]
 | .ret,c=>rfl
 | .dead,c=>rfl
 | .rfor r f ps x y,c=>by
  cases c <;> simp only [ACode.shift,chk,chk_shift (x:=x),chk_shift (x:=y)]
theorem clrs_true:∀ (x:ACode),clrsIn (fun _=>True) x
 | .keep _ _ c | .post _ _ c=>⟨fun _ _=>trivial,clrs_true c⟩
 | .asrow _ _ _ _ c=>clrs_true c
 | .asdat _ c=>clrs_true c
 | .pick _ c=>clrs_true c
 | .mvr _ _ _ c=>⟨trivial,clrs_true c⟩
 | .reg _ _ | .regd _ _ _=>fun _ _=>trivial
 | .seq a b | .cond _ a b=>⟨clrs_true a,clrs_true b⟩
 | .block _ c | .loop c | .scope c=>clrs_true c
 | .rfor _ _ _ a b=>⟨trivial,clrs_true a,clrs_true b⟩
 | .skip | .exit _ | .ret | .dead=>trivial
theorem addL_le {k:Nat}:∀ {l:List Nat},∀ g∈addL k l,k≤g
 | [],g,h=>by cases h
 | r::rs,g,h=>by
  rcases List.mem_cons.1 h with e | e
  ·subst e; omega
  ·exact addL_le g e
theorem clrs_shift (k:Nat):∀ (x:ACode),clrsIn (fun id=>k≤id) (x.shift k)
 | .keep _ _ c | .post _ _ c=>⟨addL_le,clrs_shift k c⟩
 | .asrow _ _ _ _ c=>clrs_shift k c
 | .asdat _ c=>clrs_shift k c
 | .pick _ c=>clrs_shift k c
 | .mvr a _ _ c=>⟨Nat.le_add_left k a,clrs_shift k c⟩
 | .reg _ _ | .regd _ _ _=>addL_le
 | .seq a b | .cond _ a b=>⟨clrs_shift k a,clrs_shift k b⟩
 | .block _ c | .loop c | .scope c=>clrs_shift k c
 | .rfor _ _ _ a b=>⟨by omega,clrs_shift k a,clrs_shift k b⟩
 | .skip | .exit _ | .ret | .dead=>trivial
end Vc
set_option linter.unusedSimpArgs false
set_option linter.unusedVariables false
namespace Vc
open Go Go.RowKit
theorem allDs_some:∀ {vs:List AVal} {ds:List Data},allDs vs=some ds→vs=ds.map .d
 | [],ds,h=>by simp [allDs] at h; subst h; rfl
 | v::vs,ds,h=>by
  cases v <;> simp only [allDs] at h <;> try (cases h; done)
  split at h
  ·rename_i ds' h'
   cases h
   simp [allDs_some h']
  ·cases h
def resOne (P:Program) (tmps:Array Value):ResultVar→Sem Value
 | .tmp t=>pure (tmps.getD t undef)
 | .cell a t=>do loadVar t (← asAddr (tmps.getD a undef))
section
variable {P : Program} [Laid P] {n base : Nat} {w0 : W0} {w : World} {G : Gh} {st : St} {a : Act} {v : AVal} {ws : List (Nat × AObj)}
theorem res_rel (hr : Rel n base w0 G st a w) : ∀ {rvs : List ResultVar} {res : List ARes} {k : List AVal → Eff} {rs : List Nat}, chkRes P rvs res = true → ERun (resE (getL st.slots) res k) st.heap v ws rs →
  ∃ vals us rs',ERun (k vals) st.heap v ws rs'∧(rvs.mapM (resOne P a.tmps)).run P w=.ok us w∧VRels w G st.heap vals us
 | [],[],k,rs,_,he=>⟨[],[],rs,he,by simp,by simp [VRels]⟩
 | .tmp t::rvs,.tmp t'::res,k,rs,hc,he=>by
  simp only [chkRes,Bool.and_eq_true] at hc
  have:=nbeq hc.1
  subst this
  simp only [resE] at he
  obtain ⟨vals,us,rs',h1,h2,h3⟩:=res_rel hr hc.2 he
  exact ⟨_,a.tmps.getD t undef::us,rs',h1,by simp only [List.mapM_cons,resOne,Sem.run_bind,Sem.run_pure,Result.andThen_ok,h2],VRels_cons.2 ⟨hr.slots t,h3⟩⟩
 | .cell t ty::rvs,.cell t' m ag::res,k,rs,hc,he=>by
  simp only [chkRes,Bool.and_eq_true,beq_iff_eq] at hc
  obtain ⟨⟨⟨h1,h2⟩,h3⟩,hc⟩:=hc
  have:=nbeq h1
  subst this
  obtain ⟨i,d,hi,hk,hd⟩:=sizeIs_spec h2
  have hv:=hr.slots t
  simp only [resE] at he
  split at he
  ·rename_i id off hp
   rw [hp] at hv
   simp only [VRel] at hv
   obtain ⟨b,_,hval,hptr⟩:=hv
   obtain ⟨ob,rs',hob,rfl,he⟩:=he
   dsimp only at he
   split at he
   ·rename_i cs
    split at he
    ·rename_i l hl
     obtain ⟨b',arr,tt,k2,k3,k4,k5,hone⟩:=hr.objs id _ hob
     rw [hval] at k2; cases k2
     have hrun:=run_loadVar (w:=w) (b:=b) (b0:=0) (off:=off) (vs:=arr.toList) hi hd hk (by have:=(cut_eq hl).2; have:=VRels_length k5; omega) (fun j y hj=>by rw [Nat.zero_add]; exact heap_cell k4 hj) h3
     have hload:∀ {x:AVal},ERun (loadE ag m off cs) st.heap x [] []→∃ y,(resOne P a.tmps (.cell t ty)).run P w=.ok y w∧VRel w G st.heap x y:=by
      intro x hx
      obtain ⟨_,_,q1,q2⟩:=loadE_rel k5 hone hx
      obtain ⟨y,q3,q4⟩:=agg_run hrun q2
      refine ⟨y,?_,q4⟩
      rw [Nat.zero_add] at q3
      simp only [resOne,hptr,asAddr,Sem.run_bind,Sem.run_pure,Result.andThen_ok,q3]
     split at he
     ·obtain ⟨y,q1,q2⟩:=hload (x:=ofCells l) (by unfold loadE; rw [hl]; exact ⟨rfl,rfl,rfl⟩)
      obtain ⟨vals,us,rs2,h4,h5,h6⟩:=res_rel hr hc he
      exact ⟨_,y::us,rs2,h4,by simp only [List.mapM_cons,Sem.run_bind,q1,Result.andThen_ok,h5,Sem.run_pure],VRels_cons.2 ⟨q2,h6⟩⟩
     ·rename_i x
      obtain ⟨y,q1,q2⟩:=hload (x:=x) (by unfold loadE; rw [hl]; exact ⟨rfl,rfl,rfl⟩)
      obtain ⟨vals,us,rs2,h4,h5,h6⟩:=res_rel hr hc he
      exact ⟨_,y::us,rs2,h4,by simp only [List.mapM_cons,Sem.run_bind,q1,Result.andThen_ok,h5,Sem.run_pure],VRels_cons.2 ⟨q2,h6⟩⟩
     ·exact he.elim
    ·exact he.elim
   ·exact he.elim
  ·exact he.elim
 | [],_::_,_,_,hc,_=>by simp [chkRes] at hc
 | .tmp _::_,[],_,_,hc,_=>by simp [chkRes] at hc
 | .cell _ _::_,[],_,_,hc,_=>by simp [chkRes] at hc
 | .tmp _::_,.cell _ _ _::_,_,_,hc,_=>by simp [chkRes] at hc
 | .cell _ _::_,.tmp _::_,_,_,hc,_=>by simp [chkRes] at hc
theorem results_of {fn : Func} {tmps : Array Value} {us : List Value} (h4 : (fn.results.toList.mapM (resOne P tmps)).run P w = .ok us w) :
  (results fn tmps).run P w=.ok (if us.length=1 then us.getD 0 undef else .tuple us.toArray) w:=by
 unfold results
 have e:(fun x=>match x with | ResultVar.tmp t=>pure (tmps.getD t undef) | ResultVar.cell q t=>do loadVar t (← asAddr (tmps.getD q undef)):ResultVar→Sem Value)=resOne P tmps:=by
  funext x; cases x <;> rfl
 have hm:(fn.results.mapM (resOne P tmps)).run P w=.ok us.toArray w:=by
  rw [Array.mapM_eq_mapM_toList]
  simp only [Sem.run_map,h4,Result.andThen_ok]
 rw [Sem.run_bind,show (fn.results.mapM _:Sem (Array Value)).run P w=.ok us.toArray w from e ▸ hm]
 simp only [Result.andThen_ok,Sem.run_pure]
 congr 1
 match us with
 | []=>simp
 | [u]=>simp
 | u::u'::r=>simp
theorem end_rel (hr : Rel n base w0 G st a w) {fn : Func} {res : List ARes} {rs : List Data} (hc : chkRes P fn.results.toList res = true) (he : endP res rs st) :
  ∃ v S',(results fn a.tmps).run P w=.ok v w∧(∀ b o,w0.S b o→S' b o)∧(∀ b o,S' b o→w0.S b o∨base≤b)∧(∀ b o,S' b o→b < w.heap.size)∧VRel w ⟨S',fun _=>undef⟩ [] (resV rs) v:=by
 unfold endP retE at he
 obtain ⟨v,ws,rd,h1,h2⟩:=runE_run he
 subst h2
 obtain ⟨vals,us,rs',h3,h4,h5⟩:=res_rel hr hc h1
 obtain ⟨xs,fws,rs2,h6,h7,h8⟩:=pvL_rel hr h5 h3
 split at h6
 ·rename_i ds hds
  obtain ⟨h9,rfl,rfl⟩:=h6
  obtain ⟨G1,hr1,hS,hval,hsl,_,_⟩:=freeze_rel hr h7
  have h10:=h8 G1.S hS (by rw [← hval]; exact hsl) (fun _=>undef)
  rw [allDs_some hds] at h10
  have hlen:=VRels_length h10
  refine ⟨if us.length=1 then us.getD 0 undef else .tuple us.toArray,G1.S,results_of h4,hr1.sub,hr1.sup,hr1.lim,?_⟩
  rw [h9]
  match ds,us,h10,hlen with
  | [d],[u],h10,_ =>
   simp only [List.map_cons,List.map_nil] at h10
   simpa [resV] using (VRels_cons.1 h10).1
  | [],us,h10,hlen =>
   simp at hlen
   subst hlen
   simp only [resV,VRel]
   exact ⟨[],by simp,h10⟩
  | d::d'::r,us,h10,hlen =>
   simp at hlen
   have:¬ us.length=1:=by omega
   simp only [resV,VRel,if_neg this]
   exact ⟨us,rfl,h10⟩
  | [d],[],_,hlen=>simp at hlen
  | [d],_::_::_,_,hlen=>simp at hlen
 ·exact h6.elim
def resA:List AVal→AVal
 | [v]=>v
 | vs=>.tup vs
def endI (res:List ARes) (v:AVal) (h':List AObj) (st:St):Prop:=runE (resE (getL st.slots) res fun vs=>.ret (resA vs) []) st.heap fun v' _ _=>v'=v∧st.heap=h'
def postI (x:AFun) (v:AVal) (h':List AObj):AExit→St→Prop:=fun e st=>match e with
 | .normal=>endI x.res v h' st
 | .ret=>endI x.res v h' st
 | .exit _=>False
theorem endI_rel (hr : Rel n base w0 G st a w) {fn : Func} {res : List ARes} {v : AVal} {h' : List AObj} (hc : chkRes P fn.results.toList res = true) (he : endI res v h' st) :
  ∃ x,(results fn a.tmps).run P w=.ok x w∧VRel w G st.heap v x∧st.heap=h':=by
 unfold endI at he
 obtain ⟨v',ws,rd,h1,rfl,h2⟩:=runE_run he
 obtain ⟨vals,us,rs',⟨rfl,rfl,rfl⟩,h4,h5⟩:=res_rel hr hc h1
 have hlen:=VRels_length h5
 refine ⟨_,results_of h4,?_,h2⟩
 match vals,us,h5,hlen with
 | [x],[u],h5,_=>simpa [resA] using (VRels_cons.1 h5).1
 | [],us,h5,hlen =>
  simp at hlen
  subst hlen
  simp only [resA,VRel]
  exact ⟨[],by simp,h5⟩
 | x::y::r,us,h5,hlen =>
  simp at hlen
  have:¬ us.length=1:=by omega
  simp only [resA,VRel,if_neg this]
  exact ⟨us,rfl,h5⟩
 | [x],[],_,hlen=>simp at hlen
 | [x],_::_::_,_,hlen=>simp at hlen
theorem cell_of_deferred {w w':World} {b:Nat} {x y:Option (List Deferred)} (h1:w.heap[b]?=some (.deferred x)) (h2:w'.heap[b]?=some (.deferred y)) (o:Nat):w'.cell? ⟨b,o,none⟩=w.cell? ⟨b,o,none⟩:=by
 simp [World.cell?,h1,h2]
theorem Rel.take {b:Nat} {ds:List Deferred} {tmps:Array Value} (hr:Rel n base w0 G st ⟨tmps,mark b::ds⟩ w):(Instr.takeDeferred b).run P w=.ok [] (w.putObj b (.deferred none))∧Rel n base w0 G st ⟨tmps,ds⟩ (w.putObj b (.deferred none)):=by
 have hb:=hr.dead b (.inr (by simp))
 refine ⟨run_takeDeferred hb,?_⟩
 have hlt:b < w.heap.size:=(Array.getElem?_eq_some_iff.1 hb).1
 have hb':(w.putObj b (.deferred none)).heap[b]?=some (.deferred none):=World.putObj_heap_same hlt
 have oth:∀ c,c≠b→(w.putObj b (.deferred none)).heap[c]?=w.heap[c]?:=fun c hc=>World.putObj_heap_other hc
 have hx:Ext w G st.heap (w.putObj b (.deferred none)) G st.heap:=by
  refine ⟨fun _ _ h=>h,fun c o _=>?_,fun _ _ _ es fz h=>⟨es,fz,h,Nat.le_refl _,fun _=>rfl⟩,fun _ cs h=>⟨.inl ⟨cs,h⟩,rfl⟩,fun _ _ h=>⟨h,rfl⟩,fun _ es h=>⟨es,.inl h,rfl⟩,fun _ l p h=>⟨l,p,h,rfl⟩,fun _ s p _ _ _ _ _ _ h=>⟨s,p,h,rfl⟩,fun _ _ cs h=>⟨cs,h,rfl⟩,fun _ _ bs h=>⟨bs,h,Nat.le_refl _,fun _=>rfl⟩,fun id es h=>⟨h,rfl,fun c hc=>oth c (fun e=>ORel_live (hr.objs id _ h) (by simp) c (by rw [hc]; rfl) _ (e ▸ hb))⟩,fun _ _ c l h=>⟨c,l,h,rfl⟩⟩
  by_cases e:c=b
  ·subst e; exact cell_of_deferred hb hb' o
  ·exact World.cell?_of_block (w:=w) (oth c e)
 have hd:=hr.defers
 obtain ⟨hbb,hD⟩:base≤b∧¬ w0.D b:=by
  obtain ⟨b',e,h1,h2⟩:=hd.2 (mark b) (by simp)
  have:b'=b:=by simp [mark] at e; exact e.symm
  subst this
  exact ⟨h1,h2⟩
 constructor
 ·exact hr.size
 ·exact ⟨(List.nodup_cons.1 hd.1).2,fun d h=>hd.2 d (List.mem_cons_of_mem _ h)⟩
 ·exact fun i=>VRel_mono hx _ (hr.slots i)
 ·intro id o ho
  by_cases hl:o=.none
  ·subst hl; trivial
  ·refine ORel_mono hx rfl (fun c hc=>oth c fun e=>?_) (hr.objs id o ho)
   subst e
   exact ORel_live (hr.objs id o ho) hl c hc _ hb
 ·exact hr.free
 ·exact hr.apart
 ·exact fun c o h=>Nat.lt_of_lt_of_eq (hr.lim c o h) World.putObj_size.symm
 ·refine hr.below.grown (grownBy_putObj' w b _) hr.old fun k hk=>?_
  cases hk; exact hbb
 ·exact hr.sub
 ·exact hr.sup
 ·exact by rw [World.putObj_size]; exact hr.old
 ·intro c hc
  have hne:c≠b:=by
   rintro rfl
   rcases hc with hc | hc
   ·exact hD hc
   ·exact (List.nodup_cons.1 hd.1).1 hc
  rw [oth c hne]
  exact hr.dead c (hc.imp id fun h=>List.mem_cons_of_mem _ h)
 ·exact hr.ext.trans hx
 ·exact fun p hp=>DCs_mono hx.keeps hx.seals _ (hr.glob p hp)
 ·exact hr.lps
theorem leaves_of_rel {fn : Func} {R : Ending → World → Prop} : ∀ {ds : List Deferred} {tmps : Array Value} {w : World}, Rel n base w0 G st ⟨tmps, ds⟩ w →
  (∀ w',Rel n base w0 G st ⟨tmps,[]⟩ w'→∃ v,(results fn tmps).run P w'=.ok v w'∧R (.returned v) w')→LeavesInM Fence.wide 0 P fn tmps R ds .returning w
 | [],tmps,w,hr,h=>h w hr
 | d::ds,tmps,w,hr,h=>by
  obtain ⟨b,rfl,_⟩:=hr.defers.2 d (by simp)
  have h1:=Rel.take (P:=P) hr
  exact ⟨by simp,.inl ⟨b,_,rfl,h1.1,leaves_of_rel h1.2 h⟩⟩
end
theorem VRels_get {w:World} {G:Gh} {h:List AObj}:∀ {xs:List AVal} {vs:List Value} (i:Nat),VRels w G h xs vs→VRel w G h (xs[i]?.getD .undef) (vs[i]?.getD undef)
 | [],vs,i,_=>by simp [VRel]
 | x::xs,vs,0,hv=>by
  simp only [VRels] at hv
  obtain ⟨v,r,rfl,h1,h2⟩:=hv
  simpa using h1
 | x::xs,vs,i+1,hv=>by
  simp only [VRels] at hv
  obtain ⟨v,r,rfl,h1,h2⟩:=hv
  simpa using VRels_get i h2
theorem call_of_vc {P : Program} [Laid P] {f : FuncId} {x : AFun} {args : List AVal} {rs : List Data} (hf : chkFun P f x = true) (hargs : Nat.ble args.length x.n = true)
  (h:vc P x.n x.body (startS x args) (postF x rs)):CallDet P f args rs:=by
 unfold chkFun at hf
 split at hf
 ·rename_i fn hfn
  split at hf
  ·rename_i c hb
   simp only [Bool.and_eq_true] at hf
   obtain ⟨⟨⟨h1,h2⟩,h3⟩,h4⟩:=hf
   have hn:=nbeq h2
   refine ⟨⟨fn,hfn,by simp [hb],by simpa using h4⟩,fun w S vs hv hS hgl=>?_⟩
   refine callsIn_wide.1 (callsIn_of_wp_marks (n:=0) hfn hb trivial ?_)
   have hT:=vc_sound (C:=fun _=>True) (r:=none) h1 ⟨clrs_true _,.inl rfl⟩ (hn ▸ h)
   have hlen:=VRels_length hv
   have hle:args.length≤fn.ntmps:=by rw [hn]; exact Nat.le_of_ble_eq_true hargs
   have hext:Ext w ⟨S,fun _=>undef⟩ [] w ⟨S,fun _=>undef⟩ (nones x.heap) :=
    ⟨fun _ _ h=>h,fun _ _ _=>rfl,fun _ _ _ _ _ h=>by simp at h,fun _ _ h=>by simp at h,fun _ _ h=>by simp at h,fun _ _ h=>by simp at h,fun _ _ _ h=>by simp at h,fun _ _ _ _ _ _ _ _ _ h=>by simp at h,fun _ _ _ h=>by simp at h,fun _ _ _ h=>by simp at h,fun _ _ h=>by simp at h,fun _ _ _ _ h=>by simp at h⟩
   have hr:Rel fn.ntmps w.heap.size ⟨w,S,Laid.vars P,w,⟨S,fun _=>undef⟩,[],fun _=>False,ckP P⟩ ⟨S,fun _=>undef⟩ (startS x args) { tmps:=vs.toArray++Array.replicate (fn.ntmps - vs.toArray.size) undef,defers:=[] } w:=by
    refine ⟨by simp [hlen]; omega,⟨List.nodup_nil,by simp⟩,fun i=>?_,fun id o ho=>?_,fun id o b off ho _ hown=>?_,fun i j oi oj b _ hi _ hli=>?_,hS,Below.refl _ _,fun _ _ h=>h,fun _ _ h=>.inl h,Nat.le_refl _,fun b hb=>by simp at hb,hext,hgl,fun id s pd m sl ps xa xb ck h=>by have:=nones_get _ _ _ h; cases this⟩
    ·simp only [startS,zipSlots_get,Nat.zero_le,if_true,Nat.sub_zero]
     by_cases hi:i < args.length
     ·have h5:=VRel_mono hext _ (VRels_get i hv)
      have h6:(vs.toArray++Array.replicate (fn.ntmps - vs.toArray.size) undef).getD i undef=vs[i]?.getD undef:=by
       simp only [Array.getD_eq_getD_getElem?]
       rw [Array.getElem?_append_left (by simpa [hlen] using hi)]
       simp
      rw [h6]
      exact h5
     ·have:args[i]?.getD .undef=.undef:=by rw [List.getElem?_eq_none (by omega)]; rfl
      rw [this]; simp [VRel]
    ·rw [nones_get _ _ _ ho]; trivial
    ·rw [nones_get _ _ _ ho] at hown; exact hown.elim
    ·exact absurd (nones_get _ _ _ hi) hli
   refine wpIn_mono (hT _ _ _ _ _ ⟨rfl,rfl⟩ (fun id _=>.inl (by simp)) hr) fun e a w' ⟨G,st,k1,k2⟩=>?_
   have fin:endP x.res rs st→LeavesInM Fence.wide 0 P fn a.tmps (fun e w'=>∃ v' S',e=.returned v'∧Below w.heap.size w w'∧(∀ b o,S b o→S' b o)∧(∀ b o,S' b o→S b o∨w.heap.size≤b)∧(∀ b o,S' b o→b < w'.heap.size)∧VRel w' ⟨S',fun _=>undef⟩ [] (resV rs) v') a.defers .returning w':=by
    intro he
    refine leaves_of_rel (show Rel _ _ _ _ _ ⟨a.tmps,a.defers⟩ _ from k1) fun w'' k3=>?_
    obtain ⟨v,S',q1,q2,q3,q4,q5⟩:=end_rel k3 h3 he
    exact ⟨v,q1,v,S',rfl,k3.below,q2,q3,q4,q5⟩
   cases e with
   | normal=>exact fin k2
   | ret=>exact fin k2
   | exit i=>exact k2.elim
   | goto l=>exact k2.elim
   | panic ch=>exact k2.elim
   | outgrown=>exact k2.elim
  ·cases hf
 ·cases hf
def freeFrom:Nat→List AObj→Bool
 | 0,.none::r=>freeFrom 0 r
 | 0,_::_=>false
 | k+1,_::r=>freeFrom k r
 | _,[]=>true
theorem freeFrom_spec:∀ {h:List AObj} {k:Nat},freeFrom k h=true→∀ id,k≤id→h[id]?=none∨h[id]?=some .none
 | [],k,_,id,_=>.inl rfl
 | o::r,0,hf,0,_=>by
  cases o <;> simp [freeFrom] at hf
  exact .inr rfl
 | o::r,0,hf,id+1,_=>by
  cases o <;> simp [freeFrom] at hf
  simpa using freeFrom_spec hf id (Nat.zero_le _)
 | o::r,k+1,hf,0,hk=>by omega
 | o::r,k+1,hf,id+1,hk=>by
  simp only [freeFrom] at hf
  simpa using freeFrom_spec hf id (by omega)
theorem Rel.enter {n n' base : Nat} {w0 : W0} {w : World} {G : Gh} {st : St} {a : Act} {slots' : List (Nat × AVal)} {tmps' : Array Value} (hr : Rel n base w0 G st a w) (hsz : tmps'.size = n') (hs : ∀ i, VRel w G st.heap (getL slots' i) (tmps'.getD i undef)) :
  Rel n' base { w0 with w1:=w,G1:=G,h1:=st.heap,D:=fun b=>w0.D b∨mark b∈a.defers } G ⟨slots',st.heap⟩ { tmps:=tmps',defers:=[] } w where
 size:=hsz
 defers:=⟨List.nodup_nil,by simp⟩
 slots:=hs
 objs:=hr.objs
 free:=hr.free
 apart:=hr.apart
 lim:=hr.lim
 below:=hr.below
 sub:=hr.sub
 sup:=hr.sup
 old:=hr.old
 dead:=fun b hb=>hr.dead b (hb.elim id fun h=>by simp at h)
 ext:=Ext.refl _ _ _
 glob:=hr.glob
 lps:=hr.lps
theorem Rel.back {n n' base : Nat} {w0 : W0} {w w' : World} {G G' : Gh} {st st' : St} {a a' : Act} (hr : Rel n base w0 G st a w)
  (hr':Rel n' base { w0 with w1:=w,G1:=G,h1:=st.heap,D:=fun b=>w0.D b∨mark b∈a.defers } G' st' a' w'):Rel n base w0 G' ⟨st.slots,st'.heap⟩ a w' where
 size:=hr.size
 defers:=hr.defers
 slots:=fun i=>VRel_mono hr'.ext _ (hr.slots i)
 objs:=hr'.objs
 free:=hr'.free
 apart:=hr'.apart
 lim:=hr'.lim
 below:=hr'.below
 sub:=hr'.sub
 sup:=hr'.sup
 old:=hr'.old
 dead:=fun b hb=>hr'.dead b (.inl hb)
 ext:=hr.ext.trans hr'.ext
 glob:=hr'.glob
 lps:=hr'.lps
theorem callIn_of_vc {P : Program} [Laid P] {f : FuncId} {x : AFun} {args : List AVal} {h h' : List AObj} {v : AVal} (k : Nat) (hf : chkFun P f x = true) (hargs : Nat.ble args.length x.n = true) (hk : freeFrom k h = true) (hl : h'.length = h.length)
  (hv:vc P x.n (x.body.shift k) ⟨zipSlots 0 args,h⟩ (postI x v h')):CallIn P f args h v h':=by
 unfold chkFun at hf
 split at hf
 ·rename_i fn hfn
  split at hf
  ·rename_i c hb
   simp only [Bool.and_eq_true] at hf
   obtain ⟨⟨⟨h1,h2⟩,h3⟩,h4⟩:=hf
   have hn:=nbeq h2
   refine ⟨⟨fn,hfn,by simp [hb],by simpa using h4⟩,hl,fun n base w0 G slots a w vs hgl hr hvs=>?_⟩
   refine callsIn_wide.1 (callsIn_of_wp_marks (n:=0) hfn hb trivial ?_)
   have hT:=vc_sound (C:=fun id=>k≤id) (r:=none) (by rw [chk_shift]; exact h1) ⟨clrs_shift k _,.inl rfl⟩ (hn ▸ hv)
   have hlen:=VRels_length hvs
   have hle:args.length≤fn.ntmps:=by rw [hn]; exact Nat.le_of_ble_eq_true hargs
   have hr1:=hr.enter (n':=fn.ntmps) (slots':=zipSlots 0 args) (tmps':=vs.toArray++Array.replicate (fn.ntmps - vs.toArray.size) undef) (by simp [hlen]; omega) (fun i=>by
    simp only [zipSlots_get,Nat.zero_le,if_true,Nat.sub_zero]
    by_cases hi:i < args.length
    ·have h5:=VRels_get i hvs
     have h6:(vs.toArray++Array.replicate (fn.ntmps - vs.toArray.size) undef).getD i undef=vs[i]?.getD undef:=by
      simp only [Array.getD_eq_getD_getElem?]
      rw [Array.getElem?_append_left (by simpa [hlen] using hi)]
      simp
     rw [h6]
     exact h5
    ·have:args[i]?.getD .undef=.undef:=by rw [List.getElem?_eq_none (by omega)]; rfl
     rw [this]; simp [VRel])
   refine wpIn_mono (hT _ _ _ _ _ (by exact ⟨hgl.gl,hgl.ck⟩) (by exact fun id hid=>freeFrom_spec hk id hid) hr1) fun e a' w' ⟨G',st',k1,k2⟩=>?_
   have fin:endI x.res v h' st'→LeavesInM Fence.wide 0 P fn a'.tmps (fun e w'=>∃ x G',e=.returned x∧Ext w G h w' G' h'∧Rel n base w0 G' ⟨slots,h'⟩ a w'∧VRel w' G' h' v x) a'.defers .returning w':=by
    intro he
    refine leaves_of_rel (show Rel _ _ _ _ _ ⟨a'.tmps,a'.defers⟩ _ from k1) fun w'' k3=>?_
    obtain ⟨y,q1,q2,rfl⟩:=endI_rel k3 h3 he
    exact ⟨y,q1,y,G',rfl,k3.ext,hr.back k3,q2⟩
   cases e with
   | normal=>exact fin k2
   | ret=>exact fin k2
   | exit i=>exact k2.elim
   | goto l=>exact k2.elim
   | panic ch=>exact k2.elim
   | outgrown=>exact k2.elim
  ·cases hf
 ·cases hf
def endR (res:List ARes) (t sz:Nat) (es:List Data) (st:St):Prop:=(∃ id,endI res (.sl id es.length) st.heap st∧st.heap[id]?=some (.row t sz es false))∨(0 < sz∧es=[]∧∃ k,endI res (.nils k) st.heap st)
def postR (x:AFun) (t sz:Nat) (es:List Data):AExit→St→Prop:=fun e st=>match e with
 | .normal=>endR x.res t sz es st
 | .ret=>endR x.res t sz es st
 | .exit _=>False
theorem callRow_of_vc {P : Program} [Laid P] {f : FuncId} {x : AFun} {args : List AVal} {t sz : Nat} {es : List Data} (hf : chkFun P f x = true) (hargs : Nat.ble args.length x.n = true)
  (h:vc P x.n x.body (startS x args) (postR x t sz es)):CallRow P f args t sz es:=by
 unfold chkFun at hf
 split at hf
 ·rename_i fn hfn
  split at hf
  ·rename_i c hb
   simp only [Bool.and_eq_true] at hf
   obtain ⟨⟨⟨h1,h2⟩,h3⟩,h4⟩:=hf
   have hn:=nbeq h2
   refine ⟨⟨fn,hfn,by simp [hb],by simpa using h4⟩,fun w S vs hv hS hgl=>?_⟩
   refine callsIn_wide.1 (callsIn_of_wp_marks (n:=0) hfn hb trivial ?_)
   have hT:=vc_sound (C:=fun _=>True) (r:=none) h1 ⟨clrs_true _,.inl rfl⟩ (hn ▸ h)
   have hlen:=VRels_length hv
   have hle:args.length≤fn.ntmps:=by rw [hn]; exact Nat.le_of_ble_eq_true hargs
   have hext:Ext w ⟨S,fun _=>undef⟩ [] w ⟨S,fun _=>undef⟩ (nones x.heap) :=
    ⟨fun _ _ h=>h,fun _ _ _=>rfl,fun _ _ _ _ _ h=>by simp at h,fun _ _ h=>by simp at h,fun _ _ h=>by simp at h,fun _ _ h=>by simp at h,fun _ _ _ h=>by simp at h,fun _ _ _ _ _ _ _ _ _ h=>by simp at h,fun _ _ _ h=>by simp at h,fun _ _ _ h=>by simp at h,fun _ _ h=>by simp at h,fun _ _ _ _ h=>by simp at h⟩
   have hr:Rel fn.ntmps w.heap.size ⟨w,S,Laid.vars P,w,⟨S,fun _=>undef⟩,[],fun _=>False,ckP P⟩ ⟨S,fun _=>undef⟩ (startS x args) { tmps:=vs.toArray++Array.replicate (fn.ntmps - vs.toArray.size) undef,defers:=[] } w:=by
    refine ⟨by simp [hlen]; omega,⟨List.nodup_nil,by simp⟩,fun i=>?_,fun id o ho=>?_,fun id o b off ho _ hown=>?_,fun i j oi oj b _ hi _ hli=>?_,hS,Below.refl _ _,fun _ _ h=>h,fun _ _ h=>.inl h,Nat.le_refl _,fun b hb=>by simp at hb,hext,hgl,fun id s pd m sl ps xa xb ck h=>by have:=nones_get _ _ _ h; cases this⟩
    ·simp only [startS,zipSlots_get,Nat.zero_le,if_true,Nat.sub_zero]
     by_cases hi:i < args.length
     ·have h5:=VRel_mono hext _ (VRels_get i hv)
      have h6:(vs.toArray++Array.replicate (fn.ntmps - vs.toArray.size) undef).getD i undef=vs[i]?.getD undef:=by
       simp only [Array.getD_eq_getD_getElem?]
       rw [Array.getElem?_append_left (by simpa [hlen] using hi)]
       simp
      rw [h6]
      exact h5
     ·have:args[i]?.getD .undef=.undef:=by rw [List.getElem?_eq_none (by omega)]; rfl
      rw [this]; simp [VRel]
    ·rw [nones_get _ _ _ ho]; trivial
    ·rw [nones_get _ _ _ ho] at hown; exact hown.elim
    ·exact absurd (nones_get _ _ _ hi) hli
   refine wpIn_mono (hT _ _ _ _ _ ⟨rfl,rfl⟩ (fun id _=>.inl (by simp)) hr) fun e a w' ⟨G,st,k1,k2⟩=>?_
   have fin:endR x.res t sz es st→LeavesInM Fence.wide 0 P fn a.tmps (fun e w'=>∃ v' S',e=.returned v'∧Below w.heap.size w w'∧(∀ b o,S b o→S' b o)∧(∀ b o,S' b o→S b o∨w.heap.size≤b)∧(∀ b o,S' b o→b < w'.heap.size)∧0 < sz∧(∃ xs,w'.ownsRow w.heap.size t sz v' es.length xs∧DXs w' S' es sz xs)∧∀ b o,blockOf v'=some b→¬ S' b o) a.defers .returning w':=by
    intro he
    refine leaves_of_rel (show Rel _ _ _ _ _ ⟨a.tmps,a.defers⟩ _ from k1) fun w'' k3=>?_
    rcases he with ⟨id,he,hid⟩ | ⟨hsz,rfl,k,he⟩
    rotate_left
    ·obtain ⟨v,q1,q2,_⟩:=endI_rel k3 h3 he
     simp only [VRel] at q2
     subst q2
     exact ⟨_,q1,_,G.S,rfl,k3.below,k3.sub,k3.sup,k3.lim,hsz,⟨[],⟨by simp,.inl ⟨rfl,rfl⟩⟩,rfl⟩,fun b o hb=>by cases hb⟩
    obtain ⟨v,q1,q2,_⟩:=endI_rel k3 h3 he
    obtain ⟨hsz,xs,q3,q4⟩:=k3.objs id _ hid
    simp only [VRel] at q2
    obtain ⟨t',sz',es',fz',q5,_,q6⟩:=q2
    rw [hid] at q5; cases q5
    have e:=q6 rfl
    rw [← e] at q3
    exact ⟨v,q1,v,G.S,rfl,k3.below,k3.sub,k3.sup,k3.lim,hsz,⟨xs,q3,q4⟩,fun b o hb hs=>k3.free id _ b o hid (by rw [← e]; exact hb) (fun h=>by cases h) hs⟩
   cases e with
   | normal=>exact fin k2
   | ret=>exact fin k2
   | exit i=>exact k2.elim
   | goto l=>exact k2.elim
   | panic ch=>exact k2.elim
   | outgrown=>exact k2.elim
  ·cases hf
 ·cases hf
def putMany:List (Nat × AVal)→List Nat→List AVal→List (Nat × AVal)
 | s,p::ps,v::vs=>putMany (setL s p v) ps vs
 | s,_,_=>s
def isFree:Option AObj→Bool
 | none=>true
 | some .none=>true
 | _=>false
def pickFree (h:List AObj):List Nat→List Nat
 | []=>[]
 | r::rs=>bif isFree h[r]? then r::pickFree h rs else pickFree h rs
def ACode.only (h:List AObj):ACode→ACode
 | .skip=>.skip
 | .reg cl xs=>.reg (pickFree h cl) xs
 | .regd cl xs un=>.regd (pickFree h cl) xs un
 | .seq a b=>.seq (a.only h) (b.only h)
 | .cond c a b=>.cond c (a.only h) (b.only h)
 | .block i c=>.block i (c.only h)
 | .loop c=>.loop (c.only h)
 | .exit i=>.exit i
 | .scope c=>.scope (c.only h)
 | .ret=>.ret
 | .dead=>.dead
 | .keep ks gs c=>.keep ks (pickFree h gs) (c.only h)
 | .post ks gs c=>.post ks (pickFree h gs) (c.only h)
 | .asrow r t sz s c=>.asrow r t sz s (c.only h)
 | .asdat s c=>.asdat s (c.only h)
 | .pick i c=>.pick i (c.only h)
 | .mvr a b s c=>bif isFree h[a]? then .mvr a b s (c.only h) else c.only h
 | .rfor r f ps a b=>.rfor r f ps a b
theorem chk_only {P:Program} {n:Nat} {h:List AObj}:∀ {x:ACode} {c:Code},chk P n c (x.only h)=chk P n c x
 | .keep ks gs x,c=>by
  have:=chk_only (P:=P) (n:=n) (h:=h) (x:=x) (c:=c)
  cases c <;> simpa only [ACode.only,chk] using this
 | .post ks gs x,c=>by
  have:=chk_only (P:=P) (n:=n) (h:=h) (x:=x) (c:=c)
  cases c <;> simpa only [ACode.only,chk] using this
 | .asrow r t sz s x,c=>by
  have:=chk_only (P:=P) (n:=n) (h:=h) (x:=x) (c:=c)
  cases c <;> simp only [ACode.only,chk,this]
 | .asdat s x,c=>by
  have:=chk_only (P:=P) (n:=n) (h:=h) (x:=x) (c:=c)
  cases c <;> simpa only [ACode.only,chk] using this
 | .pick i x,c=>by
  have:=chk_only (P:=P) (n:=n) (h:=h) (x:=x) (c:=c)
  cases c <;> simpa only [ACode.only,chk] using this
 | .mvr a b s x,c=>by
  have:=chk_only (P:=P) (n:=n) (h:=h) (x:=x) (c:=c)
  simp only [ACode.only]
  cases isFree h[a]? <;> (simp only [cond_true,cond_false]; cases c <;> simpa only [chk] using this)
 | .skip,c=>rfl
 | .reg cl xs,c=>by
  cases c <;> try (simp only [ACode.only,chk]; done)
  rename_i id ops draw
  cases draw <;> simp only [ACode.only,chk]
 | .regd cl xs un,c=>by
  cases c <;> try (simp only [ACode.only,chk]; done)
  rename_i id ops draw
  cases draw <;> simp only [ACode.only,chk]
 | .seq x y,c=>by
  cases c <;> simp only [ACode.only,chk,chk_only (x:=x),chk_only (x:=y)]
 | .cond d x y,c=>by
  cases c <;> simp only [ACode.only,chk,chk_only (x:=x),chk_only (x:=y)]
 | .block i x,c=>by
  cases c <;> simp only [ACode.only,chk,chk_only (x:=x)]
 | .loop x,c=>by
  cases c <;> simp only [ACode.only,chk,chk_only (x:=x)]
 | .exit i,c=>rfl
 | .scope x,c=>by
  cases c <;> simp only [ACode.only,chk,chk_only (x:=x)]
 | .ret,c=>rfl
 | .dead,c=>rfl
 | .rfor r f ps x y,c=>rfl
theorem pickFree_spec {h:List AObj}:∀ {l:List Nat},∀ g∈pickFree h l,isFree h[g]?=true
 | [],g,hg=>by cases hg
 | r::rs,g,hg=>by
  simp only [pickFree] at hg
  cases hf:isFree h[r]? <;> rw [hf] at hg
  ·exact pickFree_spec g hg
  ·rcases List.mem_cons.1 hg with e | e
   ·subst e; exact hf
   ·exact pickFree_spec g e
theorem clrs_only (h:List AObj):∀ (x:ACode),noRfor x=true→clrsIn (fun id=>isFree h[id]?=true) (x.only h)
 | .keep _ _ c,hn | .post _ _ c,hn=>⟨pickFree_spec,clrs_only h c hn⟩
 | .asrow _ _ _ _ c,hn=>clrs_only h c hn
 | .asdat _ c,hn=>clrs_only h c hn
 | .pick _ c,hn=>clrs_only h c hn
 | .mvr a b s c,hn=>by
  simp only [ACode.only]
  cases hf:isFree h[a]?
  ·exact clrs_only h c hn
  ·exact ⟨hf,clrs_only h c hn⟩
 | .reg _ _,_ | .regd _ _ _,_=>pickFree_spec
 | .seq a b,hn | .cond _ a b,hn=>by
  simp only [noRfor,Bool.and_eq_true] at hn
  exact ⟨clrs_only h a hn.1,clrs_only h b hn.2⟩
 | .block _ c,hn | .loop c,hn | .scope c,hn=>clrs_only h c hn
 | .rfor _ _ _ a b,hn=>by simp [noRfor] at hn
 | .skip,_ | .exit _,_ | .ret,_ | .dead,_=>trivial
theorem isFree_spec {x:Option AObj} (h:isFree x=true):x=none∨x=some .none:=by
 unfold isFree at h
 split at h <;> simp_all
theorem putMany_rel {w : World} {G : Gh} {h : List AObj} : ∀ {ps : List Nat} {sl : List (Nat × AVal)} {tmps : Array Value} {args : List AVal} {vs : List Value}, (∀ p ∈ ps, p < tmps.size) → args.length = ps.length → (∀ i, VRel w G h (getL sl i) (tmps.getD i undef)) → VRels w G h args vs →
  ∀ i,VRel w G h (getL (putMany sl ps args) i) (((ps.zip vs).foldl (fun t (p,v)=>t.setIfInBounds p v) tmps).getD i undef)
 | [],sl,tmps,[],vs,_,_,hs,_,i=>by simpa [putMany] using hs i
 | [],sl,tmps,_::_,vs,_,hl,_,_,_=>by simp at hl
 | p::ps,sl,tmps,[],vs,_,hl,_,_,_=>by simp at hl
 | p::ps,sl,tmps,a::args,vs,hp,hl,hs,hv,i=>by
  simp only [VRels] at hv
  obtain ⟨v,r,rfl,h1,h2⟩:=hv
  simp only [putMany,List.zip_cons_cons,List.foldl_cons]
  refine putMany_rel (fun q hq=>by rw [Array.size_setIfInBounds]; exact hp q (List.mem_cons_of_mem _ hq)) (by simpa using hl) (fun j=>?_) h2 i
  rw [getL_setL]
  have hlt:=hp p List.mem_cons_self
  by_cases e:j=p
  ·subst e
   rw [if_pos rfl]
   simpa [Array.getD_eq_getD_getElem?,hlt] using h1
  ·rw [if_neg e]
   have:=hs j
   simpa [Array.getD_eq_getD_getElem?,Array.getElem?_setIfInBounds_ne (Ne.symm e)] using this
theorem fold_size:∀ (l:List (Nat × Value)) (t:Array Value),(l.foldl (fun t (p,v)=>t.setIfInBounds p v) t).size=t.size
 | [],t=>rfl
 | (p,v)::l,t=>by simp only [List.foldl_cons]; rw [fold_size l]; simp
theorem noRfor_only (h:List AObj):∀ (x:ACode),noRfor (x.only h)=noRfor x
 | .keep _ _ c | .post _ _ c=>noRfor_only h c
 | .asrow _ _ _ _ c=>noRfor_only h c
 | .asdat _ c=>noRfor_only h c
 | .pick _ c=>noRfor_only h c
 | .mvr a b s c=>by
  simp only [ACode.only]
  cases isFree h[a]? <;> exact noRfor_only h c
 | .reg _ _ | .regd _ _ _=>rfl
 | .seq a b | .cond _ a b=>by simp only [ACode.only,noRfor,noRfor_only h a,noRfor_only h b]
 | .block _ c | .loop c | .scope c=>noRfor_only h c
 | .rfor _ _ _ a b=>rfl
 | .skip | .exit _ | .ret | .dead=>rfl
theorem Rel.setLp {n base : Nat} {w0 : W0} {w : World} {G : Gh} {st : St} {a : Act} {id b m : Nat} {s : LoopState} {pd : Option AJump} {sl : List (Nat × AVal)} {ps : List Nat} {xa xb : ACode} {ck : Code → Code → Bool}
  (hr:Rel n base w0 G st a w) (hid:st.heap[id]?=some (.lp s pd m sl ps xa xb ck)) (hv:G.val id=.pointer (some ⟨b,0,none⟩)) :
  ∃ fn arr ca cb df,w.heap[b]?=some (.loop { state:=s,pending:=pd.map AJump.code,fn:=fn,tmps:=arr,params:=ps.toArray,assign:=ca,body:=cb,defers:=df }) ∧
   (∀ i,VRel w G st.heap (getL sl i) (arr.getD i undef))∧ck ca cb=true∧arr.size=m ∧
   ∀ s' pd',∃ G',G'.val id=.pointer (some ⟨b,0,none⟩)∧Ext w G st.heap (w.putObj b (.loop { state:=s',pending:=pd'.map AJump.code,fn:=fn,tmps:=arr,params:=ps.toArray,assign:=ca,body:=cb,defers:=df })) G' (st.heap.set id (.lp s' pd' m sl ps xa xb ck)) ∧
    Rel n base w0 G' ⟨st.slots,st.heap.set id (.lp s' pd' m sl ps xa xb ck)⟩ a (w.putObj b (.loop { state:=s',pending:=pd'.map AJump.code,fn:=fn,tmps:=arr,params:=ps.toArray,assign:=ca,body:=cb,defers:=df })):=by
 obtain ⟨b',fn,arr,ca,cb,df,h1,h2,h3,h4,h5,h6⟩:=hr.objs id _ hid
 have hb:b'=b:=by rw [hv] at h1; cases h1; rfl
 subst hb
 refine ⟨fn,arr,ca,cb,df,h3,h5,h6,h4,fun s' pd'=>?_⟩
 obtain ⟨rec4,hrec4⟩:∃ rec4:Loop,rec4={ state:=s',pending:=pd'.map AJump.code,fn:=fn,tmps:=arr,params:=ps.toArray,assign:=ca,body:=cb,defers:=df }:=⟨_,rfl⟩
 rw [← hrec4]
 have hput:(w.putObj b' (.loop rec4)).heap[b']?=some (.loop rec4):=World.putObj_heap_same (Array.getElem?_eq_some_iff.1 h3).1
 have hup4:=hr.upd (id:=id) (o:=.lp s pd m sl ps xa xb ck) (o':=.lp s' pd' m sl ps xa xb ck) (v':=G.val id) (S':=G.S) (row:=some b') (w':=w.putObj b' (.loop rec4)) hid (.inr ⟨by simp,by rw [hv]; rfl⟩) (fun _ _ h=>h) (fun _ _ h=>.inl h)
  (grownBy_putObj' w _ _) (fun b off hs hb=>by
   cases hb
   exact (hr.free id _ _ off hid (by rw [hv]; rfl) trivial hs).elim)
  (fun b hb=>.inl ⟨by simp,hb⟩) ⟨rfl,rfl,rfl,rfl,rfl,rfl,rfl⟩
  (fun hx=>⟨b',fn,arr,ca,cb,df,(upd_same _ _ _).trans hv,h2,by rw [hput,hrec4],h4,fun i=>VRel_mono hx _ (h5 i),h6⟩)
  (fun b off hb _ hs=>hr.free id _ b off hid hb trivial hs) (fun b off hs=>by rw [World.putObj_size]; exact hr.lim b off hs)
  (fun s pd m sl ps' xa' xb' ck' h=>by cases h; exact hr.lps _ _ _ _ _ _ _ _ _ hid)
 exact ⟨_,(upd_same _ _ _).trans hv,hup4.1,hup4.2⟩
def roundEnd (id:Nat) (v:AVal) (h':List AObj):AExit→St→Prop:=fun e st =>
 match st.heap[id]? with
 | some (.lp .busy none m sl ps xa xb ck)=>match e with
  | .normal=>v=.d (.bool true)∧st.heap.set id (.lp .ready none m sl ps xa xb ck)=h'
  | .ret=>v=.d (.bool false)∧st.heap.set id (.lp .done (some .ret) m sl ps xa xb ck)=h'
  | .exit i=>v=.d (.bool false)∧st.heap.set id (.lp .done (some (.exit i)) m sl ps xa xb ck)=h'
 | _=>False
def roundMid (P:Program) [Laid P] (n id:Nat) (xb:ACode) (h:List AObj) (v:AVal) (h':List AObj):AExit→St→Prop:=fun e st =>
 match e,st.heap[id]? with
 | .normal,some (.lp .ready none m sl ps xa xb' ck)=>vc P n (xb.only h) ⟨st.slots,st.heap.set id (.lp .busy none m sl ps xa xb' ck)⟩ (roundEnd id v h')
 | _,_=>False
theorem yieldIn_of_vc {P : Program} [Laid P] {id : Nat} {args : List AVal} {h h' : List AObj} {v : AVal} {m : Nat} {sl : List (Nat × AVal)} {ps : List Nat} {xa xb : ACode}
  {ck:Code→Code→Bool} (hid:h[id]?=some (.lp .ready none m sl ps xa xb ck)) (hps:ps.all (fun p=>Nat.blt p m)=true) (hlen:Nat.beq args.length ps.length=true) (hna:noRfor xa=true) (hnb:noRfor xb=true) (hl:h'.length=h.length)
  (hv:vc P m (xa.only h) ⟨putMany sl ps args,h⟩ (roundMid P m id xb h v h')):YieldIn P id args h v h':=by
 refine ⟨hl,fun n base w0 G slots a w vs b hgl hr hval hvs=>?_⟩
 obtain ⟨b',fn,arr,ca,cb,df,h1,h2,h3,h4,h5,h6⟩:=hr.objs id _ hid
 have hb:b'=b:=by rw [hval] at h1; cases h1; rfl
 subst hb
 have hlv:=VRels_length hvs
 have hlen:=nbeq hlen
 have hck:=hr.lps id _ _ _ _ _ _ _ _ hid
 rw [hck,hgl.ck] at h6
 simp only [ckP,Bool.and_eq_true] at h6
 refine ⟨fn,_,ca,cb,run_yield (P:=P) (args:=vs.toArray) h3 (by simp; omega),?_⟩
 have hps':∀ p∈ps,p < arr.size:=fun p hp=>by
  have:=List.all_eq_true.1 hps p hp
  rw [h4]; simpa [Nat.blt_eq] using this
 have hfold:((ps.toArray.zip vs.toArray).foldl (fun t (p,v)=>t.setIfInBounds p v) arr)=((ps.zip vs).foldl (fun t (p,v)=>t.setIfInBounds p v) arr):=by simp
 have hr1:=hr.enter (n':=m) (slots':=putMany sl ps args) (tmps':=((ps.zip vs).foldl (fun t (p,v)=>t.setIfInBounds p v) arr)) (by rw [fold_size]; exact h4) (putMany_rel hps' hlen h5 hvs)
 have hT:=vc_sound (C:=fun i=>isFree h[i]?=true) (r:=some b') (by rw [chk_only]; exact h6.1) ⟨clrs_only h xa hna,.inr (by rw [noRfor_only]; exact hna)⟩ hv
 rw [hfold]
 refine roundIn_of_wpIn (F:=Fence.wide) trivial ?_
 refine wpIn_mono (hT _ _ _ _ _ (by exact ⟨hgl.gl,hgl.ck⟩) (by exact fun i hi=>isFree_spec hi) hr1) ?_
 rintro e a1 w1 ⟨G1,st1,k1,k2⟩
 cases e with
 | normal =>
  have k2:roundMid P m id xb h v h' .normal st1:=k2
  unfold roundMid at k2
  split at k2
  ·rename_i m1 sl1 ps1 xa1 xb1 ck1 _ hid1
   obtain ⟨s2,p2,hid2,hv2⟩:=k1.ext.lp id _ _ _ _ _ _ _ _ hid
   rw [hid1] at hid2
   cases hid2
   have hv2:G1.val id=.pointer (some ⟨b',0,none⟩):=hv2.trans hval
   obtain ⟨fn1,arr1,ca1,cb1,df1,q1,q2,q3,q4,q5⟩:=k1.setLp hid1 hv2
   obtain ⟨G2,hv3,hx2,hr2⟩:=q5 .busy none
   refine ⟨_,run_beginRound q1 rfl,?_⟩
   have hT2:=vc_sound (C:=fun i=>isFree h[i]?=true) (r:=some b') (by rw [chk_only]; exact h6.2) ⟨clrs_only h xb hnb,.inr (by rw [noRfor_only]; exact hnb)⟩ k2
   refine wpIn_mono (hT2 _ _ _ _ _ (by exact ⟨hgl.gl,hgl.ck⟩) (by exact fun i hi=>isFree_spec hi) hr2) ?_
   rintro e2 a2 w2 ⟨G3,st3,l1,l2⟩
   have fin : ∀ (pd : Option AJump) (m3 : Nat) (sl3 : List (Nat × AVal)) (ps3 : List Nat) (xa3 xb3 : ACode) (ck3 : Code → Code → Bool), st3.heap[id]? = some (.lp .busy none m3 sl3 ps3 xa3 xb3 ck3) →
     v=.d (.bool pd.isNone)→st3.heap.set id (.lp (if pd.isNone then .ready else .done) pd m3 sl3 ps3 xa3 xb3 ck3)=h' →
     ∃ x w',(Instr.endRound b' (pd.map AJump.code)).run P w2=.ok x w'∧∃ y G',(Ending.returned x:Ending)=.returned y∧Ext w G h w' G' h'∧Rel n base w0 G' ⟨slots,h'⟩ a w'∧VRel w' G' h' v y:=by
    intro pd m3 sl3 ps3 xa3 xb3 ck3 hid3 e1 e2
    have hv4:G3.val id=.pointer (some ⟨b',0,none⟩):=by
     obtain ⟨_,_,_,e3⟩:=l1.ext.lp id _ _ _ _ _ _ _ _ hid
     exact e3.trans hval
    obtain ⟨fn2,arr2,ca2,cb2,df2,p1,p2,p3,p4,p5⟩:=l1.setLp hid3 hv4
    obtain ⟨G4,hv5,hx4,hr4⟩:=p5 (if pd.isNone then .ready else .done) pd
    have hr4':=hr.back (st:=⟨slots,h⟩) hr4
    refine ⟨.bool (pd.map AJump.code).isNone,_,run_endRound _ p1,_,G4,rfl,?_,?_,?_⟩
    ·have:=hr4.ext
     simp only [e2] at this
     simpa using this
    ·simp only [e2] at hr4'
     simpa using hr4'
    ·subst e1
     simp [VRel,DRel]
   cases e2 with
   | normal =>
    have l2:roundEnd id v h' .normal st3:=l2
    unfold roundEnd at l2
    split at l2
    ·rename_i hid3; exact fin none _ _ _ _ _ _ hid3 l2.1 l2.2
    ·exact l2.elim
   | ret =>
    have l2:roundEnd id v h' .ret st3:=l2
    unfold roundEnd at l2
    split at l2
    ·rename_i hid3; exact fin (some .ret) _ _ _ _ _ _ hid3 l2.1 l2.2
    ·exact l2.elim
   | exit i =>
    have l2:roundEnd id v h' (.exit i) st3:=l2
    unfold roundEnd at l2
    split at l2
    ·rename_i hid3; exact fin (some (.exit i)) _ _ _ _ _ _ hid3 l2.1 l2.2
    ·exact l2.elim
   | goto l=>exact l2.elim
   | panic ch=>exact l2.elim
   | outgrown=>exact l2.elim
  ·exact k2.elim
 | exit i=>simp [roundMid] at k2
 | ret=>simp [roundMid] at k2
 | goto l=>exact k2.elim
 | panic ch=>exact k2.elim
 | outgrown=>exact k2.elim
end Vc
set_option linter.unusedVariables false
namespace Vc
open Go
theorem ar_add {a b : Int} {K : Int → Prop} (h : -9223372036854775808 ≤ a + b ∧ a + b ≤ 9223372036854775807) (hK : K (a + b)) :
  ∃ r,(IntKind.i64=IntKind.i64∧IntKind.i64=IntKind.i64∧arithF .add .i64 a b=some r)∧K r :=
 ⟨_,⟨rfl,rfl,by simp only [arithF,IntWalk.i64_in _ h]⟩,hK⟩
theorem ar_sub {a b : Int} {K : Int → Prop} (h : -9223372036854775808 ≤ a - b ∧ a - b ≤ 9223372036854775807) (hK : K (a - b)) :
  ∃ r,(IntKind.i64=IntKind.i64∧IntKind.i64=IntKind.i64∧arithF .sub .i64 a b=some r)∧K r :=
 ⟨_,⟨rfl,rfl,by simp only [arithF,IntWalk.i64_in _ h]⟩,hK⟩
theorem ar_mul {a b : Int} {K : Int → Prop} (h : -9223372036854775808 ≤ a * b ∧ a * b ≤ 9223372036854775807) (hK : K (a * b)) :
  ∃ r,(IntKind.i64=IntKind.i64∧IntKind.i64=IntKind.i64∧arithF .mul .i64 a b=some r)∧K r :=
 ⟨_,⟨rfl,rfl,by simp only [arithF,IntWalk.i64_in _ h]⟩,hK⟩
theorem ar_quo {a b : Int} {K : Int → Prop} (h : 0 ≤ a ∧ a ≤ 9223372036854775807 ∧ 1 ≤ b) (hK : K (a / b)) :
  ∃ r,(IntKind.i64=IntKind.i64∧IntKind.i64=IntKind.i64∧arithF .quo .i64 a b=some r)∧K r :=
 ⟨_,⟨rfl,rfl,by simp only [arithF]; rw [if_neg (by omega),IntWalk.i64_quo _ _ h]⟩,hK⟩
theorem ar_rem {a b : Int} {K : Int → Prop} (h : 0 ≤ a ∧ 1 ≤ b) (hK : K (a % b)) :
  ∃ r,(IntKind.i64=IntKind.i64∧IntKind.i64=IntKind.i64∧arithF .rem .i64 a b=some r)∧K r :=
 ⟨_,⟨rfl,rfl,by simp only [arithF]; rw [if_neg (by omega),Int.tmod_eq_emod_of_nonneg h.1]⟩,hK⟩
theorem loop_st {P : Program} [Laid P] {n : Nat} {b : ACode} {st : St} {Q : AExit → St → Prop} {α : Type} (S : α → St) (I : α → Prop) (m : α → Nat) (a0 : α) (h0 : st = S a0) (hi : I a0)
  (hb:∀ a,I a→vc P n b (S a) fun e s'=>match e with
   | .normal=>∃ a',(I a'∧m a' < m a)∧s'=S a'
   | .exit i=>Q (.exit i) s'
   | .ret=>Q .ret s'):TA P n (.loop b) st Q:=by
 refine loop_J (fun k s=>∃ a,k=m a∧s=S a∧I a) ⟨_,a0,rfl,h0,hi⟩ ?_
 rintro k s ⟨a,rfl,rfl,ha⟩
 refine vc_mono (hb a ha) fun e s' he=>?_
 cases e with
 | normal =>
  obtain ⟨a',⟨h1,h2⟩,rfl⟩:=he
  exact ⟨_,h2,a',rfl,rfl,h1⟩
 | exit i=>exact he
 | ret=>exact he
theorem ix_at {es:List Data} {n:Int} {sz:Nat} {d:Data} {K:Data→Prop} (h:es[n.toNat]?=some d) (h0:0≤n) (hK:K d):∃ d,(sz=sz∧0≤n∧es[n.toNat]?=some d)∧K d :=
 ⟨d,⟨rfl,h0,h⟩,hK⟩
end Vc
