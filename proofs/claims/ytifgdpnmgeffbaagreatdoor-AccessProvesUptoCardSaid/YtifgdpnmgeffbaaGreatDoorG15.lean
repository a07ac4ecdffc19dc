import Derived.Test.YtifgdpnmgeffbaaGreatDoorG04
import Derived.Test.YtifgdpnmgeffbaaGreatDoorG13
set_option linter.unusedSectionVars false
set_option linter.unusedVariables false
set_option linter.unusedSimpArgs false
namespace Vc
abbrev Nm:=List UInt8
structure Ed where
 ix:Int
 fr:Nm
 to:Nm
abbrev Way:=List Int × Nm
def dd (R:List Nm):List Way→List Way
 | []=>[]
 | w::r=>bif R.contains w.2 then dd R r else w::dd (w.2::R) r
def ddr (R:List Nm):List Way→List Nm
 | []=>R
 | w::r=>bif R.contains w.2 then ddr R r else ddr (w.2::R) r
theorem dd_append:∀ (A B:List Way) (R:List Nm),dd R (A++B)=dd R A++dd (ddr R A) B
 | [],B,R=>rfl
 | w::A,B,R=>by
  show dd R (w::(A++B))=_
  rw [dd,dd,ddr]
  cases R.contains w.2
  ·show w::dd (w.2::R) (A++B)=w::dd (w.2::R) A++_
   rw [dd_append A B]; rfl
  ·exact dd_append A B R
theorem ddr_append:∀ (A B:List Way) (R:List Nm),ddr R (A++B)=ddr (ddr R A) B
 | [],B,R=>rfl
 | w::A,B,R=>by
  show ddr R (w::(A++B))=_
  rw [ddr,ddr]
  cases R.contains w.2 <;> exact ddr_append A B _
theorem mem_ddr {x:Nm}:∀ {A:List Way} {R:List Nm},x∈ddr R A↔x∈R∨∃ w∈A,w.2=x
 | [],R=>by simp [ddr]
 | w::A,R=>by
  rw [ddr]
  cases h:R.contains w.2 with
  | true =>
   show x∈ddr R A↔_
   rw [mem_ddr]
   have hw:=List.contains_iff_mem.1 h
   constructor
   ·rintro (h1 | ⟨v,h1,h2⟩)
    ·exact .inl h1
    ·exact .inr ⟨v,List.mem_cons_of_mem _ h1,h2⟩
   ·rintro (h1 | ⟨v,h1,h2⟩)
    ·exact .inl h1
    ·rcases List.mem_cons.1 h1 with rfl | h1
     ·rw [← h2]; exact .inl hw
     ·exact .inr ⟨v,h1,h2⟩
  | false =>
   show x∈ddr (w.2::R) A↔_
   rw [mem_ddr]
   constructor
   ·rintro (h1 | ⟨v,h1,h2⟩)
    ·rcases List.mem_cons.1 h1 with rfl | h1
     ·exact .inr ⟨w,List.mem_cons_self,rfl⟩
     ·exact .inl h1
    ·exact .inr ⟨v,List.mem_cons_of_mem _ h1,h2⟩
   ·rintro (h1 | ⟨v,h1,h2⟩)
    ·exact .inl (List.mem_cons_of_mem _ h1)
    ·rcases List.mem_cons.1 h1 with rfl | h1
     ·rw [← h2]; exact .inl List.mem_cons_self
     ·exact .inr ⟨v,h1,h2⟩
theorem dd_skip:∀ {A:List Way} {R:List Nm},(∀ w∈A,w.2∈R)→dd R A=[]∧ddr R A=R
 | [],_,_=>⟨rfl,rfl⟩
 | w::A,R,h=>by
  rw [dd,ddr,List.contains_iff_mem.2 (h w List.mem_cons_self)]
  exact dd_skip fun v hv=>h v (List.mem_cons_of_mem _ hv)
theorem mem_dd:∀ {A:List Way} {R:List Nm} {w:Way},w∈dd R A→w∈A∧w.2∉R
 | v::A,R,w,h=>by
  rw [dd] at h
  cases hc:R.contains v.2 with
  | true =>
   rw [hc] at h
   obtain ⟨h1,h2⟩:=mem_dd (A:=A) (R:=R) h
   exact ⟨List.mem_cons_of_mem _ h1,h2⟩
  | false =>
   rw [hc] at h
   rcases List.mem_cons.1 h with rfl | h
   ·exact ⟨List.mem_cons_self,fun hm=>by rw [List.contains_iff_mem.2 hm] at hc; cases hc⟩
   ·obtain ⟨h1,h2⟩:=mem_dd (A:=A) (R:=v.2::R) h
    exact ⟨List.mem_cons_of_mem _ h1,fun hm=>h2 (List.mem_cons_of_mem _ hm)⟩
theorem dd_end:∀ {A:List Way} {R:List Nm} {w:Way},w∈A→w.2∉R→∃ v∈dd R A,v.2=w.2
 | u::A,R,w,h,hR=>by
  rw [dd]
  rcases List.mem_cons.1 h with rfl | h
  ·have:R.contains w.2=false:=by rw [Bool.eq_false_iff]; exact fun hc=>hR (List.contains_iff_mem.1 hc)
   rw [this]
   exact ⟨w,List.mem_cons_self,rfl⟩
  ·cases hc:R.contains u.2 with
   | true=>exact dd_end (A:=A) (R:=R) h hR
   | false =>
    by_cases e:w.2=u.2
    ·exact ⟨u,List.mem_cons_self,e.symm⟩
    ·obtain ⟨v, hv, e2⟩ := dd_end (A := A) (R := u.2 :: R) h fun hm => by
      rcases List.mem_cons.1 hm with h1 | h1
      ·exact e h1
      ·exact hR h1
     exact ⟨v,List.mem_cons_of_mem _ hv,e2⟩
theorem dd_congr:∀ {A:List Way} {R R':List Nm},(∀ x,x∈R↔x∈R')→dd R A=dd R' A
 | [],_,_,_=>rfl
 | w::A,R,R',h=>by
  rw [dd,dd]
  have e:R.contains w.2=R'.contains w.2:=by
   rw [Bool.eq_iff_iff,List.contains_iff_mem,List.contains_iff_mem]; exact h _
  rw [e]
  cases R'.contains w.2
  ·show w::dd (w.2::R) A=w::dd (w.2::R') A
   rw [dd_congr (R':=w.2::R') fun x=>by simp only [List.mem_cons]; rw [h x]]
  ·exact dd_congr h
def stepF (E:List Ed) (w:Way):List Way:=(E.filter fun e=>e.fr==w.2).map fun e=>(w.1++[e.ix],e.to)
def stepN (E:List Ed) (w:Way):List Way:=(E.filter fun e=>e.fr==w.2&&!w.1.contains e.ix).map fun e=>(w.1++[e.ix],e.to)
theorem mem_stepF {E:List Ed} {w z:Way}:z∈stepF E w↔∃ e∈E,e.fr=w.2∧z=(w.1++[e.ix],e.to):=by
 unfold stepF
 rw [List.mem_map]
 constructor
 ·rintro ⟨e,he,rfl⟩
  obtain ⟨h1,h2⟩:=List.mem_filter.1 he
  exact ⟨e,h1,by simpa using h2,rfl⟩
 ·rintro ⟨e,h1,h2,rfl⟩
  exact ⟨e,List.mem_filter.2 ⟨h1,by simpa using h2⟩,rfl⟩
theorem dd_flat (E:List Ed):∀ {K:List Way} {R R':List Nm},(∀ w∈K,w.2∈R→∀ z∈stepF E w,z.2∈R')→dd R' ((dd R K).flatMap (stepF E))=dd R' (K.flatMap (stepF E))
 | [],_,_,_=>rfl
 | w::K,R,R',h=>by
  rw [dd,List.flatMap_cons,dd_append]
  cases hc:R.contains w.2 with
  | true =>
   obtain ⟨h1,h2⟩:=dd_skip (h w List.mem_cons_self (List.contains_iff_mem.1 hc))
   rw [h1,h2]
   exact dd_flat E fun v hv=>h v (List.mem_cons_of_mem _ hv)
  | false =>
   show dd R' ((w::dd (w.2::R) K).flatMap (stepF E))=_
   rw [List.flatMap_cons,dd_append]
   congr 1
   refine dd_flat E fun v hv hm z hz=>?_
   rw [mem_ddr]
   rcases List.mem_cons.1 hm with e | hm
   ·obtain ⟨e1,he1,e2,rfl⟩:=mem_stepF.1 hz
    exact .inr ⟨(w.1++[e1.ix],e1.to),mem_stepF.2 ⟨e1,he1,e2.trans e,rfl⟩,rfl⟩
   ·exact .inl (h v (List.mem_cons_of_mem _ hv) hm z hz)
def lv (E:List Ed) (top:Nm):Nat→List Way × List Nm
 | 0=>([([],top)],[top])
 | d+1=>(dd (lv E top d).2 ((lv E top d).1.flatMap (stepF E)),ddr (lv E top d).2 ((lv E top d).1.flatMap (stepF E)))
def kk (E:List Ed) (top:Nm):Nat→List Way
 | 0=>[([],top)]
 | d+1=>(kk E top d).flatMap (stepN E)
def rb (E:List Ed) (top:Nm):Nat→List Nm
 | 0=>[]
 | d+1=>(lv E top d).2
theorem rb_mem {E:List Ed} {top x:Nm}:∀ {d:Nat},x∈rb E top (d+1)↔x∈rb E top d∨∃ w∈(lv E top d).1,w.2=x
 | 0=>by simp [rb,lv,eq_comm]
 | d+1=>by
  show x∈ddr _ _↔x∈(lv E top d).2∨∃ w∈dd _ _,w.2=x
  rw [mem_ddr]
  constructor
  ·rintro (h | ⟨w,h,e⟩)
   ·exact .inl h
   ·by_cases hx:x∈(lv E top d).2
    ·exact .inl hx
    ·obtain ⟨v,hv,e2⟩:=dd_end h (by rw [e]; exact hx)
     exact .inr ⟨v,hv,e2.trans e⟩
  ·rintro (h | ⟨w,h,e⟩)
   ·exact .inl h
   ·exact .inr ⟨w,(mem_dd h).1,e⟩
theorem rb_step {E:List Ed} {top:Nm}:∀ {d:Nat} {x:Nm},x∈rb E top d→∀ e∈E,e.fr=x→e.to∈rb E top (d+1)
 | 0,x,h,_,_,_=>by cases h
 | d+1,x,h,e,he,hf=>by
  rcases rb_mem.1 h with h | ⟨w,hw,e2⟩
  ·exact rb_mem.2 (.inl (rb_step h e he hf))
  ·show e.to∈ddr _ _
   rw [mem_ddr]
   exact .inr ⟨(w.1++[e.ix],e.to),List.mem_flatMap.2 ⟨w,hw,mem_stepF.2 ⟨e,he,hf.trans e2.symm,rfl⟩⟩,rfl⟩
def Inj (E:List Ed):Prop:=∀ a∈E,∀ b∈E,a.ix=b.ix→a=b
theorem kk_end {E:List Ed} {top:Nm}:∀ {d:Nat} {w:Way},w∈kk E top d→w.2∈rb E top (d+1)
 | 0,w,h=>by
  have h:w=([],top):=by simpa [kk] using h
  subst h
  exact rb_mem.2 (.inr ⟨_,List.mem_cons_self,rfl⟩)
 | d+1,w,h=>by
  obtain ⟨v,hv,hz⟩:=List.mem_flatMap.1 h
  unfold stepN at hz
  obtain ⟨e,he,rfl⟩:=List.mem_map.1 hz
  obtain ⟨h1,h2⟩:=List.mem_filter.1 he
  simp only [Bool.and_eq_true,beq_iff_eq] at h2
  exact rb_step (kk_end hv) e h1 h2.1
theorem kk_used {E:List Ed} {top:Nm} (hi:Inj E):∀ {d:Nat} {w:Way},w∈kk E top d→∀ e∈E,e.ix∈w.1→e.to∈rb E top (d+1)
 | 0,w,h,e,_,hm=>by
  have h:w=([],top):=by simpa [kk] using h
  subst h
  cases hm
 | d+1,w,h,e,he,hm=>by
  have hw:=kk_end h
  obtain ⟨v,hv,hz⟩:=List.mem_flatMap.1 h
  unfold stepN at hz
  obtain ⟨e0,he0,rfl⟩:=List.mem_map.1 hz
  rcases List.mem_append.1 hm with hm | hm
  ·exact rb_mem.2 (.inl (kk_used hi hv e he hm))
  ·have:=hi e he e0 (List.mem_filter.1 he0).1 (List.mem_singleton.1 hm)
   rw [this]; exact hw
theorem dd_filter {f : Ed → Way} (p q : Ed → Bool) : ∀ {E : List Ed} {R : List Nm}, (∀ e ∈ E, p e = true → q e = false → (f e).2 ∈ R) → (∀ e ∈ E, q e = true → p e = true) →
  dd R ((E.filter p).map f)=dd R ((E.filter q).map f)∧(∀ x,x∈ddr R ((E.filter p).map f)↔x∈ddr R ((E.filter q).map f))
 | [],_,_,_=>⟨rfl,fun _=>Iff.rfl⟩
 | e::E,R,h1,h2=>by
  cases hp:p e with
  | false =>
   have hq:q e=false:=by
    cases hq:q e with
    | false=>rfl
    | true=>rw [h2 e List.mem_cons_self hq] at hp; cases hp
   rw [List.filter_cons_of_neg (by rw [hp]; simp),List.filter_cons_of_neg (by rw [hq]; simp)]
   exact dd_filter p q (fun x hx=>h1 x (List.mem_cons_of_mem _ hx)) (fun x hx=>h2 x (List.mem_cons_of_mem _ hx))
  | true =>
   rw [List.filter_cons_of_pos hp]
   cases hq:q e with
   | true =>
    rw [List.filter_cons_of_pos hq,List.map_cons,List.map_cons,dd,dd,ddr,ddr]
    cases hc:R.contains (f e).2 with
    | true=>exact dd_filter p q (fun x hx=>h1 x (List.mem_cons_of_mem _ hx)) (fun x hx=>h2 x (List.mem_cons_of_mem _ hx))
    | false =>
     obtain ⟨i1,i2⟩:=dd_filter (f:=f) p q (E:=E) (R:=(f e).2::R) (fun x hx ha hb=>List.mem_cons_of_mem _ (h1 x (List.mem_cons_of_mem _ hx) ha hb)) (fun x hx=>h2 x (List.mem_cons_of_mem _ hx))
     exact ⟨by show f e::_=f e::_; rw [i1],i2⟩
   | false =>
    rw [List.filter_cons_of_neg (by rw [hq]; simp),List.map_cons,dd,ddr,List.contains_iff_mem.2 (h1 e List.mem_cons_self hp hq)]
    exact dd_filter p q (fun x hx=>h1 x (List.mem_cons_of_mem _ hx)) (fun x hx=>h2 x (List.mem_cons_of_mem _ hx))
theorem dd_used {E:List Ed}:∀ {K:List Way} {R:List Nm},(∀ w∈K,∀ e∈E,e.ix∈w.1→e.to∈R)→dd R (K.flatMap (stepF E))=dd R (K.flatMap (stepN E))
 | [],_,_=>rfl
 | w::K,R,h=>by
  rw [List.flatMap_cons,List.flatMap_cons,dd_append,dd_append]
  obtain ⟨h1,h2⟩:=dd_filter (f:=fun e=>(w.1++[e.ix],e.to)) (fun e=>e.fr==w.2) (fun e=>e.fr==w.2&&!w.1.contains e.ix) (E:=E) (R:=R)
   (fun e he _ hq=>by
    have:w.1.contains e.ix=true:=by
     cases hc:w.1.contains e.ix with
     | true=>rfl
     | false=>simp_all
    exact h w List.mem_cons_self e he (List.contains_iff_mem.1 this))
   (fun e _ hq=>by simp only [Bool.and_eq_true] at hq; exact hq.1)
  have h1:dd R (stepF E w)=dd R (stepN E w):=h1
  have h2:∀ x,x∈ddr R (stepF E w)↔x∈ddr R (stepN E w):=h2
  rw [h1,dd_congr h2]
  congr 1
  exact dd_used fun v hv e he hm=>by
   rw [mem_ddr]; exact .inl (h v (List.mem_cons_of_mem _ hv) e he hm)
theorem lv_kk {E:List Ed} {top:Nm} (hi:Inj E):∀ d,(lv E top d).1=dd (rb E top d) (kk E top d)
 | 0=>rfl
 | d+1=>by
  show dd (rb E top (d+1)) ((lv E top d).1.flatMap (stepF E))=dd (rb E top (d+1)) ((kk E top d).flatMap (stepN E))
  rw [lv_kk hi d,dd_flat E fun w _ hm z hz=>?_,dd_used fun w hw e he hm=>kk_used hi hw e he hm]
  obtain ⟨e,he,hf,rfl⟩:=mem_stepF.1 hz
  exact rb_step hm e he hf
end Vc
namespace Vc
section
variable (ri ob : List UInt8) (day : Int) (of : List UInt8)
def prG (w:Way):List Gr→Int→List Nm→List Way→Option (List Int) × List Nm × List Way
 | [],_,R,N=>(none,R,N)
 | g::r,i,R,N=>bif holdB ri ob day g&&(g.fr==w.2&&!R.contains g.to) then (bif g.to==of then (some (w.1++[i]),R,N) else prG w r (i+1) (R++[g.to]) (N++[(w.1++[i],g.to)])) else prG w r (i+1) R N
def prW (G:List Gr):List Way→List Nm→List Way→Option (List Int) × List Nm × List Way
 | [],R,N=>(none,R,N)
 | w::r,R,N=>match prG ri ob day of w G 0 R N with
  | (some c,R',N')=>(some c,R',N')
  | (none,R',N')=>prW G r R' N'
def srch (G:List Gr):Nat→List Way→List Nm→Option (List Int)
 | 0,_,_=>none
 | f+1,W,R=>match W with
  | []=>none
  | _::_=>match prW ri ob day of G W R [] with
   | (some c,_,_)=>some c
   | (none,R',N')=>srch G f N' R'
def cntR (R:List Nm):List Gr→Nat
 | []=>0
 | g::r=>(bif R.contains g.to then 0 else 1)+cntR R r
theorem cntR_snoc (R:List Nm) (x:Nm):∀ G:List Gr,cntR (R++[x]) G≤cntR R G
 | []=>Nat.le_refl _
 | g::r=>by
  have ih:=cntR_snoc R x r
  rw [cntR,cntR]
  cases h:R.contains g.to with
  | true =>
   have:(R++[x]).contains g.to=true:=List.contains_iff_mem.2 (List.mem_append_left _ (List.contains_iff_mem.1 h))
   rw [this]
   show 0+_≤0+_; omega
  | false =>
   cases (R++[x]).contains g.to
   ·show 1+_≤1+_; omega
   ·show 0+_≤1+_; omega
theorem cntR_new {R:List Nm}:∀ {G:List Gr} {g:Gr},g∈G→R.contains g.to=false→cntR (R++[g.to]) G+1≤cntR R G
 | x::r,g,hm,hR=>by
  rw [cntR,cntR]
  have hself:(R++[g.to]).contains g.to=true:=List.contains_iff_mem.2 (List.mem_append_right _ (List.mem_singleton.2 rfl))
  rcases List.mem_cons.1 hm with rfl | hm
  ·rw [hself,hR]
   have:=cntR_snoc R g.to r
   show 0+_+1≤1+_; omega
  ·have ih:=cntR_new hm hR
   cases h:R.contains x.to with
   | true =>
    have:(R++[g.to]).contains x.to=true:=List.contains_iff_mem.2 (List.mem_append_left _ (List.contains_iff_mem.1 h))
    rw [this]
    show 0+_+1≤0+_; omega
   | false =>
    cases (R++[g.to]).contains x.to
    ·show 1+_+1≤1+_; omega
    ·show 0+_+1≤1+_; omega
theorem prG_cnt {GA:List Gr} {w:Way}:∀ {G:List Gr} {i:Int} {R R':List Nm} {N N':List Way},(∀ g∈G,g∈GA)→prG ri ob day of w G i R N=(none,R',N')→cntR R' GA+N'.length≤cntR R GA+N.length
 | [],i,R,R',N,N',_,h=>by cases h; exact Nat.le_refl _
 | g::r,i,R,R',N,N',hs,h=>by
  rw [prG] at h
  have hs2:∀ g∈r,g∈GA:=fun x hx=>hs x (List.mem_cons_of_mem _ hx)
  cases hc:(holdB ri ob day g&&(g.fr==w.2&&!R.contains g.to)) with
  | false =>
   rw [hc] at h
   exact prG_cnt hs2 h
  | true =>
   rw [hc] at h
   cases ho:(g.to==of) with
   | true=>rw [ho] at h; cases h
   | false =>
    rw [ho] at h
    have ih:=prG_cnt hs2 h
    simp only [Bool.and_eq_true,Bool.not_eq_true'] at hc
    have h1:=cntR_new (G:=GA) (hs g List.mem_cons_self) hc.2.2
    rw [List.length_append] at ih
    have h2:([(w.1++[i],g.to)]:List Way).length=1:=rfl
    omega
theorem prW_cnt {G:List Gr}:∀ {W:List Way} {R R':List Nm} {N N':List Way},prW ri ob day of G W R N=(none,R',N')→cntR R' G+N'.length≤cntR R G+N.length
 | [],R,R',N,N',h=>by cases h; exact Nat.le_refl _
 | w::r,R,R',N,N',h=>by
  rw [prW] at h
  split at h
  ·cases h
  ·rename_i R1 N1 e
   have h1:=prG_cnt ri ob day of (fun g h=>h) e
   have h2:=prW_cnt h
   omega
def mea (G:List Gr) (W:List Way) (R:List Nm):Nat:=2 * cntR R G+(match W with | []=>0 | _::_=>1)
theorem mea_step {G:List Gr} {w:Way} {W N':List Way} {R R':List Nm} (h:prW ri ob day of G (w::W) R []=(none,R',N')):mea G N' R' < mea G (w::W) R:=by
 have h1:=prW_cnt ri ob day of h
 unfold mea
 cases N' with
 | nil =>
  have h1:cntR R' G+0≤cntR R G+0:=h1
  show 2 * cntR R' G+0 < 2 * cntR R G+1
  omega
 | cons x r =>
  have h1:cntR R' G+(r.length+1)≤cntR R G+0:=h1
  show 2 * cntR R' G+1 < 2 * cntR R G+1
  omega
end
end Vc
