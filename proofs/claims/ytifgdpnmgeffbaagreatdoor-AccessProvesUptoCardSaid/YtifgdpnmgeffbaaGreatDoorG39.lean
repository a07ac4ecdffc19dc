import Derived.Test.YtifgdpnmgeffbaaGreatDoorG28
set_option linter.unusedSectionVars false
set_option linter.unusedVariables false
set_option linter.unusedSimpArgs false
set_option maxRecDepth 10000
set_option linter.unusedVariables false
namespace Vc
def Pth (ri ob:Nm) (day:Int) (G:List Gr):Nm→List Int→Nm→Prop
 | a,[],b=>a=b
 | a,i::c,b=>∃ g,0≤i∧G[i.toNat]?=some g∧holdB ri ob day g=true∧g.fr=a∧Pth ri ob day G g.to c b
section
variable (ri ob : List UInt8) (day : Int)
theorem eds_mem:∀ {r:List Gr} {i:Int} {e:Ed},e∈eds ri ob day r i→∃ k:Nat,∃ g,r[k]?=some g∧holdB ri ob day g=true∧e=⟨i+k,g.fr,g.to⟩
 | [],_,_,h=>by cases h
 | g::r,i,e,h=>by
  rw [eds] at h
  cases hh:holdB ri ob day g with
  | false =>
   rw [hh] at h
   obtain ⟨k,g',h1,h2,h3⟩:=eds_mem h
   refine ⟨k+1,g',h1,h2,?_⟩
   rw [h3]
   simp only [Ed.mk.injEq,and_true]
   omega
  | true =>
   rw [hh] at h
   rcases List.mem_cons.1 h with h | h
   ·exact ⟨0,g,rfl,hh,by rw [h]; simp⟩
   ·obtain ⟨k,g',h1,h2,h3⟩:=eds_mem h
    refine ⟨k+1,g',h1,h2,?_⟩
    rw [h3]
    simp only [Ed.mk.injEq,and_true]
    omega
theorem eds_has:∀ {r:List Gr} {i:Int} {k:Nat} {g:Gr},r[k]?=some g→holdB ri ob day g=true→(⟨i+k,g.fr,g.to⟩:Ed)∈eds ri ob day r i
 | [],_,_,_,h,_=>by simp at h
 | g'::r,i,0,g,h,hh=>by
  have h:g'=g:=by simpa using h
  subst h
  rw [eds,hh]
  have:(⟨i+((0:Nat):Int),g'.fr,g'.to⟩:Ed)=⟨i,g'.fr,g'.to⟩:=by simp
  rw [this]
  exact List.mem_cons_self
 | g'::r,i,k+1,g,h,hh=>by
  have ih:=eds_has (r:=r) (i:=i+1) (k:=k) (g:=g) (by simpa using h) hh
  have e:(⟨i+((k+1:Nat):Int),g.fr,g.to⟩:Ed)=⟨i+1+k,g.fr,g.to⟩:=by
   simp only [Ed.mk.injEq,and_true]
   omega
  rw [e,eds]
  cases holdB ri ob day g' with
  | false=>exact ih
  | true=>exact List.mem_cons_of_mem _ ih
theorem pth_snoc {G:List Gr} {g:Gr} {k:Nat} (hg:G[k]?=some g) (hh:holdB ri ob day g=true):∀ {c:List Int} {a b:Nm},Pth ri ob day G a c b→g.fr=b→Pth ri ob day G a (c++[(k:Int)]) g.to
 | [],a,b,h,hf=>⟨g,by omega,by simpa using hg,hh,hf.trans (Eq.symm h),rfl⟩
 | i::c,a,b,h,hf=>by
  obtain ⟨g',h1,h2,h3,h4,h5⟩:=h
  exact ⟨g',h1,h2,h3,h4,pth_snoc hg hh h5 hf⟩
theorem lv_in {E:List Ed} {T:Nm}:∀ d,T∈(lv E T d).2
 | 0=>List.mem_cons_self
 | d+1=>mem_ddr.2 (.inl (lv_in d))
theorem lv_pth {G:List Gr} {T:Nm}:∀ {d:Nat} {w:Way},w∈(lv (eds ri ob day G 0) T d).1→Pth ri ob day G T w.1 w.2∧∀ i∈w.1,∀ g,G[i.toNat]?=some g→g.to≠T
 | 0,w,h=>by
  rw [List.mem_singleton.1 h]
  exact ⟨rfl,fun i hi=>by cases hi⟩
 | d+1,w,h=>by
  obtain ⟨h0,hn⟩:=mem_dd h
  obtain ⟨v,hv,hz⟩:=List.mem_flatMap.1 h0
  obtain ⟨e,he,hf,rfl⟩:=mem_stepF.1 hz
  obtain ⟨k,g,h1,h2,rfl⟩:=eds_mem ri ob day he
  obtain ⟨i1,i2⟩:=lv_pth hv
  have e0:(0:Int)+k=k:=by omega
  refine ⟨?_,?_⟩
  ·show Pth ri ob day G T (v.1++[(0:Int)+k]) g.to
   rw [e0]
   exact pth_snoc ri ob day h1 h2 i1 hf
  ·intro i hi g' hg'
   rcases List.mem_append.1 hi with hi | hi
   ·exact i2 i hi g' hg'
   ·have hi:=List.mem_singleton.1 hi
    have hi:i=(0:Int)+k:=hi
    rw [hi,e0] at hg'
    have hg':G[k]?=some g':=by simpa using hg'
    rw [h1] at hg'
    cases hg'
    intro e
    exact hn (by show g.to∈_; rw [e]; exact lv_in d)
theorem kk_nodup {E:List Ed} {T:Nm}:∀ {d:Nat} {w:Way},w∈kk E T d→w.1.Nodup
 | 0,w,h=>by
  have h:w=([],T):=by simpa [kk] using h
  rw [h]; exact List.nodup_nil
 | d+1,w,h=>by
  obtain ⟨v,hv,hz⟩:=List.mem_flatMap.1 h
  unfold stepN at hz
  obtain ⟨e,he,rfl⟩:=List.mem_map.1 hz
  obtain ⟨h1,h2⟩:=List.mem_filter.1 he
  simp only [Bool.and_eq_true,Bool.not_eq_true'] at h2
  have h3:e.ix∉v.1:=fun hm=>by rw [List.contains_iff_mem.2 hm] at h2; cases h2.2
  show (v.1++[e.ix]).Nodup
  rw [List.nodup_append]
  refine ⟨kk_nodup hv,by simp,?_⟩
  intro a ha b hb e2
  rw [List.mem_singleton.1 hb] at e2
  exact h3 (e2 ▸ ha)
theorem lv_nodup {G:List Gr} {T:Nm} {d:Nat} {w:Way} (h:w∈(lv (eds ri ob day G 0) T d).1):w.1.Nodup:=by
 rw [lv_kk (eds_inj ri ob day G 0) d] at h
 exact kk_nodup (mem_dd h).1
theorem pth_rb {G:List Gr} {T b:Nm}:∀ {c:List Int} {a:Nm} {d:Nat},Pth ri ob day G a c b→a∈rb (eds ri ob day G 0) T d→b∈rb (eds ri ob day G 0) T (d+c.length)
 | [],a,d,h,hm=>by
  have h:a=b:=h
  rw [← h]; exact hm
 | i::c,a,d,h,hm=>by
  obtain ⟨g,h1,h2,h3,h4,h5⟩:=h
  have h6:g.to∈rb (eds ri ob day G 0) T (d+1):=rb_step hm ⟨0+(i.toNat:Nat),g.fr,g.to⟩ (eds_has ri ob day h2 h3) h4
  have h7:=pth_rb h5 h6
  have e:d+(i::c).length=d+1+c.length:=by simp; omega
  rw [e]; exact h7
theorem pth_ix {G:List Gr} {b:Nm}:∀ {c:List Int} {a:Nm},Pth ri ob day G a c b→∀ i∈c,0≤i∧i < (G.length:Int)
 | [],_,_,i,hi=>by cases hi
 | j::c,a,h,i,hi=>by
  obtain ⟨g,h1,h2,h3,h4,h5⟩:=h
  rcases List.mem_cons.1 hi with rfl | hi
  ·have:=(List.getElem?_eq_some_iff.1 h2).1
   omega
  ·exact pth_ix h5 i hi
variable (of : List UInt8)
theorem chain_pth {l : List Ob} {G : List Gr} {c : List Int} (h : chainP l G ri ob day of = some c) :
  Pth ri ob day G ((ownO l ob).getD []) c of∧c.Nodup∧∀ i∈c,∀ g,G[i.toNat]?=some g→g.to≠(ownO l ob).getD []:=by
 rcases chain_lv ri ob day of l G with ⟨e,v,h1,_,h3⟩ | ⟨_,h2⟩
 ·rw [h] at h3; cases h3
  have hm:=List.mem_of_find?_eq_some h1
  have hv:=List.find?_some h1
  have hv:v.2=of:=by simpa using hv
  obtain ⟨i1,i2⟩:=lv_pth ri ob day hm
  exact ⟨hv ▸ i1,lv_nodup ri ob day hm,i2⟩
 ·rw [h] at h2; cases h2
theorem chain_iff (l:List Ob) (G:List Gr):(chainP l G ri ob day of).isSome=true↔∃ c,Pth ri ob day G ((ownO l ob).getD []) c of:=by
 constructor
 ·intro h
  obtain ⟨c,hc⟩:=Option.isSome_iff_exists.1 h
  exact ⟨c,(chain_pth ri ob day of hc).1⟩
 ·rintro ⟨c,hc⟩
  rcases chain_lv ri ob day of l G with ⟨e,v,_,_,h3⟩ | ⟨h1,_⟩
  ·rw [h3]; rfl
  ·have h2:(ownO l ob).getD []∈rb (eds ri ob day G 0) ((ownO l ob).getD []) 1:=List.mem_cons_self
   exact absurd (pth_rb ri ob day hc h2) (rb_not ri ob day of fun e _=>h1 e)
end
theorem pth_congr {ri ob:Nm} {day day':Int} {G G':List Gr} (h:∀ k:Nat,∀ g,G[k]?=some g→holdB ri ob day g=true→∃ g',G'[k]?=some g'∧holdB ri ob day' g'=true∧g'.fr=g.fr∧g'.to=g.to) {b:Nm}:∀ {c:List Int} {a:Nm},Pth ri ob day G a c b→Pth ri ob day' G' a c b
 | [],_,h=>h
 | i::c,a,hp=>by
  obtain ⟨g,h1,h2,h3,h4,h5⟩:=hp
  obtain ⟨g',i1,i2,i3,i4⟩:=h i.toNat g h2 h3
  exact ⟨g',h1,i1,i2,i3.trans h4,by rw [i4]; exact pth_congr h h5⟩
theorem chain_congr {ri ob:Nm} {day day':Int} {G:List Gr} (l:List Ob) (of:Nm) (h:∀ g∈G,holdB ri ob day g=holdB ri ob day' g):(chainP l G ri ob day of).isSome=(chainP l G ri ob day' of).isSome:=by
 rw [Bool.eq_iff_iff,chain_iff,chain_iff]
 constructor
 ·rintro ⟨c,hc⟩
  exact ⟨c,pth_congr (fun k g hg hh=>⟨g,hg,(h g (List.mem_of_getElem? hg)).symm.trans hh,rfl,rfl⟩) hc⟩
 ·rintro ⟨c,hc⟩
  exact ⟨c,pth_congr (fun k g hg hh=>⟨g,hg,(h g (List.mem_of_getElem? hg)).trans hh,rfl,rfl⟩) hc⟩
theorem pth_more {ri ob:Nm} {day:Int} {G:List Gr} (g:Gr) {a b:Nm} {c:List Int} (h:Pth ri ob day G a c b):Pth ri ob day (G++[g]) a c b :=
 pth_congr (fun k x hx hh=>⟨x,by rw [List.getElem?_append_left (List.getElem?_eq_some_iff.1 hx).1]; exact hx,hh,rfl,rfl⟩) h
theorem chain_more {ri ob:Nm} {day:Int} {G:List Gr} (l:List Ob) (g:Gr) (of:Nm) (h:(chainP l G ri ob day of).isSome=true):(chainP l (G++[g]) ri ob day of).isSome=true:=by
 rw [chain_iff] at h ⊢
 obtain ⟨c,hc⟩:=h
 exact ⟨c,pth_more g hc⟩
theorem chain_give {day:Int} {G:List Gr} (l:List Ob) (g:Gr) (h:(chainP l (G++[g]) g.ri g.ob day g.fr).isSome=true) (h1:g.a≤day) (h2:day < g.b):(chainP l (G++[g]) g.ri g.ob day g.to).isSome=true:=by
 rw [chain_iff] at h ⊢
 obtain ⟨c,hc⟩:=h
 have hg:(G++[g])[G.length]?=some g:=by simp
 refine ⟨c++[(G.length:Int)],pth_snoc g.ri g.ob day hg ?_ hc rfl⟩
 unfold holdB
 rw [beq_self_eq_true,beq_self_eq_true,decide_eq_true h1,decide_eq_true h2]; rfl
theorem nodup_len:∀ {n:Nat} {c:List Int},c.Nodup→(∀ i∈c,0≤i∧i < (n:Int))→c.length≤n
 | 0,[],_,_=>Nat.le_refl _
 | 0,x::c,_,h=>by have:=h x List.mem_cons_self; omega
 | n+1,c,hn,h=>by
  by_cases hm:(n:Int)∈c
  ·have h1 : (c.erase (n : Int)).length ≤ n := nodup_len (hn.erase _) fun i hi => by
    obtain ⟨h2,h3⟩:=hn.mem_erase_iff.1 hi
    have:=h i h3
    omega
   rw [List.length_erase_of_mem hm] at h1
   omega
  ·have h1 : c.length ≤ n := nodup_len hn fun i hi => by
    have:=h i hi
    have:i≠(n:Int):=fun e=>hm (e ▸ hi)
    omega
   omega
theorem runC_pth {ri ob:Nm} {day:Int} {G:List Gr} {b:Nm}:∀ {c:List Int} {a:Nm},Pth ri ob day G a c b→runC ri ob day G a c=some b
 | [],a,h=>by
  have h:a=b:=h
  rw [h]; rfl
 | i::c,a,h=>by
  obtain ⟨g,h1,h2,h3,h4,h5⟩:=h
  rw [runC,h2]
  show (bif g.fr==a&&holdB ri ob day g then runC ri ob day G g.to c else none)=_
  rw [h4,beq_self_eq_true,h3]
  exact runC_pth h5
theorem runC_tail {ri ob:Nm} {day:Int} {G:List Gr} {T b:Nm} {i:Int} {c:List Int} (h:Pth ri ob day G T (i::c) b) (hT:∀ j∈i::c,∀ g,G[j.toNat]?=some g→g.to≠T):runC ri ob day G T c≠some b:=by
 obtain ⟨g,h1,h2,h3,h4,h5⟩:=h
 have hgT:=hT i List.mem_cons_self g h2
 cases c with
 | nil =>
  have h5:g.to=b:=h5
  intro e
  have e:some T=some b:=e
  cases e
  exact hgT h5
 | cons j c =>
  obtain ⟨g',i1,i2,i3,i4,i5⟩:=h5
  rw [runC,i2]
  have e:(g'.fr==T)=false:=by
   rw [i4]
   cases hh:g.to==T with
   | false=>rfl
   | true=>exact absurd (by simpa using hh) hgT
  show (bif g'.fr==T&&holdB ri ob day g' then runC ri ob day G g'.to c else none)≠_
  rw [e]
  intro h; cases h
theorem dupI_f:∀ {c s:List Int},c.Nodup→(∀ x∈c,x∉s)→dupI s c=false
 | [],_,_,_=>rfl
 | x::c,s,hn,hs=>by
  have hn1:=List.nodup_cons.1 hn
  have h1:s.contains x=false:=by
   cases h:s.contains x with
   | false=>rfl
   | true=>exact absurd (List.contains_iff_mem.1 h) (hs x List.mem_cons_self)
  rw [dupI,h1]
  refine dupI_f hn1.2 fun y hy hm=>?_
  rcases List.mem_append.1 hm with hm | hm
  ·exact hs y (List.mem_cons_of_mem _ hy) hm
  ·rw [List.mem_singleton.1 hm] at hy
   exact hn1.1 hy
theorem bad_f {G:List Gr} {c:List Int} (h:∀ i∈c,0≤i∧i < (G.length:Int)):c.any (badI G)=false:=by
 rw [List.any_eq_false]
 intro x hx
 have h1:=h x hx
 unfold badI
 rw [decide_eq_false (by omega),decide_eq_false (by omega)]
 simp
theorem offL_mem (p:Nm→Bool) (x:Nm):∀ {G:List Gr} {L:List Nm},x∈offL p G L↔x∈L∨∃ g∈G,p g.to=true∧g.to=x
 | [],L=>by simp [offL]
 | g::r,L=>by
  rw [offL]
  have ih1:=offL_mem p x (G:=r) (L:=L)
  have ih2:=offL_mem p x (G:=r) (L:=L++[g.to])
  have key:(∃ y∈g::r,p y.to=true∧y.to=x)↔(p g.to=true∧g.to=x)∨∃ y∈r,p y.to=true∧y.to=x:=by simp
  rw [key]
  cases hp:p g.to with
  | false =>
   show x∈offL p r L↔_
   rw [ih1]; simp
  | true =>
   cases hc:L.contains g.to with
   | true =>
    show x∈offL p r L↔_
    rw [ih1]
    constructor
    ·exact fun h=>h.imp id .inr
    ·rintro (h | ⟨_,h⟩ | h)
     ·exact .inl h
     ·exact .inl (h ▸ List.contains_iff_mem.1 hc)
     ·exact .inr h
   | false =>
    show x∈offL p r (L++[g.to])↔_
    rw [ih2,List.mem_append,List.mem_singleton]
    constructor
    ·rintro ((h | h) | h)
     ·exact .inl h
     ·exact .inr (.inl ⟨rfl,h.symm⟩)
     ·exact .inr (.inr h)
    ·rintro (h | ⟨_,h⟩ | h)
     ·exact .inl (.inl h)
     ·exact .inl (.inr h.symm)
     ·exact .inr h
theorem offL_nodup (p:Nm→Bool):∀ {G:List Gr} {L:List Nm},L.Nodup→(offL p G L).Nodup
 | [],L,h=>h
 | g::r,L,h=>by
  rw [offL]
  cases hp:p g.to with
  | false=>exact offL_nodup p (G:=r) h
  | true =>
   cases hc:L.contains g.to with
   | true=>exact offL_nodup p (G:=r) h
   | false =>
    refine offL_nodup p (G:=r) ?_
    rw [List.nodup_append]
    refine ⟨h,by simp,?_⟩
    intro a ha b hb e
    rw [List.mem_singleton.1 hb] at e
    rw [e] at ha
    rw [List.contains_iff_mem.2 ha] at hc; cases hc
theorem offL_len (p:Nm→Bool):∀ {G:List Gr} {L:List Nm},L.length≤(offL p G L).length∧(offL p G L).length≤L.length+G.length∧∀ i,i < L.length→(offL p G L)[i]?=L[i]?
 | [],L=>⟨Nat.le_refl _,Nat.le_refl _,fun _ _=>rfl⟩
 | g::r,L=>by
  rw [offL]
  obtain ⟨a1,a2,a3⟩:=offL_len p (G:=r) (L:=L)
  obtain ⟨b1,b2,b3⟩:=offL_len p (G:=r) (L:=L++[g.to])
  rw [List.length_append] at b1 b2
  simp only [List.length_singleton] at b1 b2
  have e:(g::r).length=r.length+1:=rfl
  cases hc:(p g.to&&!L.contains g.to) with
  | false=>exact ⟨a1,by rw [e]; show (offL p r L).length≤_; omega,a3⟩
  | true =>
   refine ⟨by show L.length≤(offL p r (L++[g.to])).length; omega,by rw [e]; show (offL p r (L++[g.to])).length≤_; omega,fun i hi=>?_⟩
   show (offL p r (L++[g.to]))[i]?=_
   rw [b3 i (by rw [List.length_append]; omega),List.getElem?_append_left hi]
structure Sps (p:Int→Bool) (a:Int) (out:List (Int × Int)):Prop where
 rg:∀ x∈out,0≤x.1∧x.1 < x.2∧x.2≤a
 ap:out.Pairwise fun x y=>x.2 < y.1
 has:∀ d,0≤d→d < a→((∃ x∈out,x.1≤d∧d < x.2)↔p d=true)
theorem Sps.no {p:Int→Bool} {a b:Int} {out:List (Int × Int)} (h:Sps p a out) (h0:0≤a) (hab:a < b) (hp:∀ d,a≤d→d < b→p d=false):Sps p b out where
 rg:=fun x hx=>by have:=h.rg x hx; omega
 ap:=h.ap
 has:=fun d h1 h2=>by
  rcases Int.lt_or_le d a with h3 | h3
  ·exact h.has d h1 h3
  ·rw [hp d h3 h2]
   constructor
   ·rintro ⟨x,hx,h4,h5⟩
    have:=h.rg x hx; omega
   ·intro h; cases h
theorem Sps.yes {p:Int→Bool} {a b:Int} {out:List (Int × Int)} (h:Sps p a out) (h0:0≤a) (hab:a < b) (hp:∀ d,a≤d→d < b→p d=true):Sps p b (pushD a b out):=by
 have app:(∀ x∈out,x.2 < a)→Sps p b (out++[(a,b)]):=by
  intro hlt
  refine ⟨?_,?_,?_⟩
  ·intro x hx
   rcases List.mem_append.1 hx with hx | hx
   ·have:=h.rg x hx; omega
   ·rw [List.mem_singleton.1 hx]
    exact ⟨h0,hab,Int.le_refl _⟩
  ·rw [List.pairwise_append]
   refine ⟨h.ap,List.pairwise_singleton _ _,?_⟩
   intro x hx y hy
   rw [List.mem_singleton.1 hy]
   exact hlt x hx
  ·intro d h1 h2
   rcases Int.lt_or_le d a with h3 | h3
   ·rw [← h.has d h1 h3]
    constructor
    ·rintro ⟨x,hx,h4,h5⟩
     rcases List.mem_append.1 hx with hx | hx
     ·exact ⟨x,hx,h4,h5⟩
     ·rw [List.mem_singleton.1 hx] at h4
      have h4:a≤d:=h4
      omega
    ·rintro ⟨x,hx,h4,h5⟩
     exact ⟨x,List.mem_append_left _ hx,h4,h5⟩
   ·rw [hp d h3 h2]
    exact ⟨fun _=>rfl,fun _=>⟨(a,b),List.mem_append_right _ List.mem_cons_self,h3,h2⟩⟩
 rcases snoc_cases out with rfl | ⟨o,x,rfl⟩
 ·exact app (fun x hx=>by cases hx)
 ·rw [pushD_snoc]
  have hpa:=List.pairwise_append.1 h.ap
  have hx:=h.rg x (List.mem_append_right _ List.mem_cons_self)
  cases he:x.2==a with
  | false =>
   have hne:x.2≠a:=by simpa using he
   refine app fun y hy=>?_
   rcases List.mem_append.1 hy with hy | hy
   ·have:=hpa.2.2 y hy x List.mem_cons_self
    omega
   ·rw [List.mem_singleton.1 hy]; omega
  | true =>
   have he:x.2=a:=by simpa using he
   show Sps p b (o++[(x.1,b)])
   refine ⟨?_,?_,?_⟩
   ·intro y hy
    rcases List.mem_append.1 hy with hy | hy
    ·have:=h.rg y (List.mem_append_left _ hy); omega
    ·rw [List.mem_singleton.1 hy]
     exact ⟨hx.1,by show x.1 < b; omega,Int.le_refl _⟩
   ·rw [List.pairwise_append]
    refine ⟨hpa.1,List.pairwise_singleton _ _,?_⟩
    intro y hy z hz
    rw [List.mem_singleton.1 hz]
    exact hpa.2.2 y hy x List.mem_cons_self
   ·intro d h1 h2
    rcases Int.lt_or_le d a with h3 | h3
    ·rw [← h.has d h1 h3]
     constructor
     ·rintro ⟨y,hy,h4,h5⟩
      rcases List.mem_append.1 hy with hy | hy
      ·exact ⟨y,List.mem_append_left _ hy,h4,h5⟩
      ·rw [List.mem_singleton.1 hy] at h4
       exact ⟨x,List.mem_append_right _ List.mem_cons_self,h4,by omega⟩
     ·rintro ⟨y,hy,h4,h5⟩
      rcases List.mem_append.1 hy with hy | hy
      ·exact ⟨y,List.mem_append_left _ hy,h4,h5⟩
      ·rw [List.mem_singleton.1 hy] at h4
       exact ⟨(x.1,b),List.mem_append_right _ List.mem_cons_self,h4,h2⟩
    ·rw [hp d h3 h2]
     exact ⟨fun _=>rfl,fun _=>⟨(x.1,b),List.mem_append_right _ List.mem_cons_self,by show x.1≤d; omega,h2⟩⟩
theorem cut_sps (p:Int→Bool):∀ (D:List Int) (a:Int) (out:List (Int × Int)),(a::D).Pairwise (· < ·)→0≤a→(∀ b∈a::D,∀ d,b≤d→(∀ e∈a::D,b < e→d < e)→p d=p b)→Sps p a out→Sps p ((a::D).getLast (by simp)) (cutL p (a::D) out)
 | [],a,out,_,_,_,h=>h
 | b::r,a,out,hs,h0,hc,h=>by
  have hs1:=List.pairwise_cons.1 hs
  have hab:a < b:=hs1.1 b List.mem_cons_self
  have hs2:=List.pairwise_cons.1 hs1.2
  have hp:∀ d,a≤d→d < b→p d=p a:=fun d h1 h2=>hc a List.mem_cons_self d h1 fun e he hae=>by
   rcases List.mem_cons.1 he with he | he
   ·omega
   ·rcases List.mem_cons.1 he with he | he
    ·omega
    ·have:=hs2.1 e he; omega
  have hn:Sps p b (bif p a then pushD a b out else out):=by
   cases hpa:p a with
   | true=>exact h.yes h0 hab fun d h1 h2=>(hp d h1 h2).trans hpa
   | false=>exact h.no h0 hab fun d h1 h2=>(hp d h1 h2).trans hpa
  rw [cutL,List.getLast_cons (List.cons_ne_nil _ _)]
  refine cut_sps p r b _ hs1.2 (by omega) (fun x hx d h1 h2=>hc x (List.mem_cons_of_mem _ hx) d h1 fun e he hxe=>?_) hn
  rcases List.mem_cons.1 he with he | he
  ·have : b ≤ x := by
    rcases List.mem_cons.1 hx with h3 | h3
    ·omega
    ·have:=hs2.1 x h3; omega
   omega
  ·exact h2 e he hxe
end Vc
