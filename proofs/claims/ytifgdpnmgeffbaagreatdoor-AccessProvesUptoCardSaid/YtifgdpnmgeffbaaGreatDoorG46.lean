import Derived.Test.YtifgdpnmgeffbaaGreatDoorG39
import Derived.Test.YtifgdpnmgeffbaaGreatDoorG42
set_option linter.unusedSectionVars false
set_option linter.unusedVariables false
set_option linter.unusedSimpArgs false
set_option maxRecDepth 10000
set_option maxHeartbeats 1000000
set_option linter.unusedVariables false
namespace Vc
open Go Go.Proofs
theorem chain_top (l:List Ob) (G:List Gr) (ri ob:Nm) (day:Int):chainP l G ri ob day ((ownO l ob).getD [])=some []:=by
 unfold chainP
 rw [beq_self_eq_true]; rfl
theorem pth_last {ri ob:Nm} {day:Int} {G:List Gr} {b:Nm}:∀ {c:List Int} {a:Nm},Pth ri ob day G a c b→a=b∨∃ g∈G,g.to=b
 | [],a,h=>.inl h
 | i::c,a,h=>by
  obtain ⟨g,h1,h2,h3,h4,h5⟩:=h
  rcases pth_last h5 with h6 | h6
  ·exact .inr ⟨g,List.mem_of_getElem? h2,h6⟩
  ·exact .inr h6
theorem off_has (l:List Ob) (G:List Gr) (ri ob:Nm) (day:Int) (n:Nm):n∈offL (fun n=>(chainP l G ri ob day n).isSome) G [(ownO l ob).getD []]↔(chainP l G ri ob day n).isSome=true:=by
 rw [offL_mem,List.mem_singleton]
 constructor
 ·rintro (h | ⟨g,_,h1,h2⟩)
  ·rw [h,chain_top]; rfl
  ·rw [← h2]; exact h1
 ·intro h
  obtain ⟨c,hc⟩:=(chain_iff ri ob day n l G).1 h
  rcases pth_last hc with h1 | ⟨g,hg,h1⟩
  ·exact .inl h1.symm
  ·exact .inr ⟨g,hg,by rw [h1]; exact h,h1⟩
theorem off_con (l:List Ob) (G:List Gr) (ri ob:Nm) (day:Int) (n:Nm):(offL (fun n=>(chainP l G ri ob day n).isSome) G [(ownO l ob).getD []]).contains n=(chainP l G ri ob day n).isSome:=by
 rw [Bool.eq_iff_iff,← off_has]
 exact List.contains_iff_mem
theorem take_con {L:List Nm} (h:L.Nodup) {k:Nat} {n:Nm} (hn:L[k]?=some n):(L.take k).contains n=false:=by
 cases hc:(L.take k).contains n with
 | false=>rfl
 | true =>
  obtain ⟨i,hi,he⟩:=List.mem_iff_getElem.1 (List.contains_iff_mem.1 hc)
  rw [List.length_take] at hi
  have hk:=(List.getElem?_eq_some_iff.1 hn)
  obtain ⟨hk1,hk2⟩:=hk
  rw [List.getElem_take] at he
  have:=List.pairwise_iff_getElem.1 h i k (by omega) hk1 (by omega)
  exact absurd (he.trans hk2.symm) this
theorem obE_nm:∀ {l:List Ob} {s:List Nm},obE l s=0→∀ x∈l,nmE x.2=0
 | [],_,_,x,hx=>by cases hx
 | y::r,s,h,x,hx=>by
  rw [obE] at h
  cases hc:(obX y s != 0) with
  | true =>
   rw [hc] at h
   have h:obX y s=0:=h
   rw [h] at hc; cases hc
  | false =>
   rw [hc] at h
   rcases List.mem_cons.1 hx with rfl | hx
   ·have h0:obX x s=0:=by simpa using hc
    exact firstOf_zero h0 (nmE x.2) (by simp)
   ·exact obE_nm h x hx
theorem grE_x:∀ {l:List Ob} {G:List Gr},grE l G=0→∀ g∈G,grX l g=0
 | _,[],_,g,hg=>by cases hg
 | l,y::r,h,g,hg=>by
  rw [grE] at h
  cases hc:(grX l y != 0) with
  | true =>
   rw [hc] at h
   have h:grX l y=0:=h
   rw [h] at hc; cases hc
  | false =>
   rw [hc] at h
   rcases List.mem_cons.1 hg with rfl | hg
   ·simpa using hc
   ·exact grE_x h g hg
theorem book_ob {l:List Ob} {G:List Gr} (h:bookE l G=0):obE l []=0:=by
 by_cases h1:(16:Int) < (l.length:Int)
 ·rw [bk_1 h1] at h; exact absurd h (by decide)
 ·by_cases h2:obE l []=0
  ·exact h2
  ·rw [bk_2 h1 h2] at h; exact absurd h h2
theorem own_nm {l:List Ob} (h:∀ x∈l,nmE x.2=0) (ob:Nm) (hs:(ownO l ob).isSome=true):nmE ((ownO l ob).getD [])=0:=by
 induction l with
 | nil=>cases hs
 | cons x r ih =>
  rw [ownO] at hs ⊢
  cases hc:(x.1==ob) with
  | true=>exact h x List.mem_cons_self
  | false =>
   rw [hc] at hs
   exact ih (fun y hy=>h y (List.mem_cons_of_mem _ hy)) hs
theorem ask_own {l:List Ob} {ri ob:Nm} (h:askE l ri ob=0):(ownO l ob).isSome=true:=by
 have h1:=firstOf_zero h (bif !(ownO l ob).isSome then 10 else 0) (by simp)
 cases hs:(ownO l ob).isSome with
 | true=>rfl
 | false=>rw [hs] at h1; exact absurd h1 (by show ¬ (10:Int)=0; decide)
theorem qd_0 {l:List Ob} {G:List Gr} {n ri ob:Nm} {day:Int} (h1:bookE l G=0) (h2:nmE n=0) (h3:askE l ri ob=0) (h4:within3 day 0 100000=0):qdE l G n ri ob day=0:=by
 unfold qdE qE
 rw [h1,h2,h3,h4]; rfl
theorem gr_ask {l:List Ob} {g:Gr} (h:grX l g=0):(nmE g.fr=0∧nmE g.to=0)∧askE l g.ri g.ob=0:=by
 have h1:=firstOf_zero h (nmE g.fr) (by simp)
 have h2:=firstOf_zero h (nmE g.to) (by simp)
 have h3:=firstOf_zero h (nmE g.ri) (by simp)
 have h4:=firstOf_zero h (nmE g.ob) (by simp)
 have h5:=firstOf_zero h (bif !(nms l).contains g.ob then 10 else 0) (by simp)
 refine ⟨⟨h1,h2⟩,?_⟩
 unfold askE
 rw [h3,h4,ownO_some]
 unfold nms at h5
 rw [h5]; rfl
theorem day_rg {day:Int} (h:within3 day 0 100000=0):0≤day∧day < 100001:=by
 unfold within3 at h
 cases hc:(decide (day < 0)||decide ((100000:Int) < day)) with
 | true=>rw [hc] at h; exact absurd h (by show ¬ (3:Int)=0; decide)
 | false =>
  simp only [Bool.or_eq_false_iff,decide_eq_false_iff_not] at hc
  omega
theorem days_sps (l:List Ob) (G:List Gr) (of ri ob:Nm) (h:∀ g∈G,(0≤g.a∧g.a < g.b)∧g.b≤100000):Sps (fun d=>(chainP l G ri ob d of).isSome) 100001 (daysP l G of ri ob):=by
 unfold daysP
 have hm:∀ e,e∈Lib.compact (srtI (endsF G [0,100001]))↔e∈endsF G [0,100001]:=fun e=>(cmp_mem _ e).trans (srtI_mem _ e)
 have hs:=cmp_sorted _ (srtI_sorted (endsF G [0,100001]))
 have h0:(0:Int)∈endsF G [0,100001]:=(endsF_mem 0 G _).2 (.inl (by simp))
 have h1:(100001:Int)∈endsF G [0,100001]:=(endsF_mem 100001 G _).2 (.inl (by simp))
 have hr:=ends_rg h
 have hg:∀ g∈G,g.a∈endsF G [0,100001]∧g.b∈endsF G [0,100001]:=fun g hg=>⟨(endsF_mem _ G _).2 (.inr ⟨g,hg,.inl rfl⟩),(endsF_mem _ G _).2 (.inr ⟨g,hg,.inr rfl⟩)⟩
 generalize Lib.compact (srtI (endsF G [0,100001]))=C at hm hs
 match C,hm,hs with
 | [],hm,_=>exact absurd ((hm 0).2 h0) (by simp)
 | a::D,hm,hs =>
  have hs1:=List.pairwise_cons.1 hs
  have ha:a=0:=by
   have h2:=(hr a ((hm a).1 List.mem_cons_self)).1
   rcases List.mem_cons.1 ((hm 0).2 h0) with h | h
   ·exact h.symm
   ·have:=hs1.1 0 h; omega
  subst ha
  have hp:=cut_sps (fun d=>(chainP l G ri ob d of).isSome) D 0 [] hs (Int.le_refl _) (fun b hb d hbd hn=>by
   refine chain_congr l of fun g hgm=>?_
   obtain ⟨ga,gb⟩:=hg g hgm
   have ea:decide (g.a≤d)=decide (g.a≤b):=by
    rw [Bool.eq_iff_iff,decide_eq_true_iff,decide_eq_true_iff]
    constructor
    ·intro h3
     rcases Int.lt_or_le b g.a with h4 | h4
     ·have:=hn g.a ((hm _).2 ga) h4; omega
     ·exact h4
    ·intro h3; omega
   have eb:decide (d < g.b)=decide (b < g.b):=by
    rw [Bool.eq_iff_iff,decide_eq_true_iff,decide_eq_true_iff]
    constructor
    ·intro h3; omega
    ·intro h3; exact hn g.b ((hm _).2 gb) h3
   unfold holdB
   rw [ea,eb]) ⟨(fun x hx=>by cases hx),List.Pairwise.nil,fun d h3 h4=>by omega⟩
  have hl:(0::D).getLast (by simp)=100001:=by
   have h5:=(hr _ ((hm _).1 (List.getLast_mem (List.cons_ne_nil 0 D)))).2
   have h6:=(hm 100001).2 h1
   obtain ⟨i,hi,he⟩:=List.mem_iff_getElem.1 h6
   have h7:(0::D)[i]≤(0::D).getLast (by simp):=by
    rw [List.getLast_eq_getElem]
    by_cases e:i=(0::D).length - 1
    ·subst e; exact Int.le_refl _
    ·exact Int.le_of_lt (List.pairwise_iff_getElem.1 hs i _ (by omega) (by omega) (by omega))
   rw [he] at h7
   omega
  rw [hl] at hp
  exact hp
theorem cw_0 {l:List Ob} {G:List Gr} {of ri ob:Nm} {day:Int} (hq:qdE l G of ri ob day=0) {d:List Int} (hd:d.length≤32):cwE l G of ri ob day d=0:=by
 have h1:=firstOf_zero hq (qE l G of ri ob) (by simp)
 have h2:=firstOf_zero hq (within3 day 0 100000) (by simp)
 unfold cwE
 rw [h1,h2,decide_eq_false (by omega)]; rfl
theorem chk_0 {l:List Ob} {G:List Gr} {of ri ob:Nm} {day:Int} {c:List Int} (hG:G.length≤32) (hq:qdE l G of ri ob day=0) (h:chainP l G ri ob day of=some c):chkW l G of ri ob day c=0∧(c≠[]→chkW l G of ri ob day (c.drop 1)=19)∧c.length≤G.length:=by
 obtain ⟨h1,h2,h3⟩:=chain_pth ri ob day of h
 have hix:=pth_ix ri ob day h1
 have hl:=nodup_len h2 hix
 have cw:∀ d:List Int,d.length≤32→cwE l G of ri ob day d=0:=fun d hd=>cw_0 hq hd
 refine ⟨?_,?_,hl⟩
 ·unfold chkW
  rw [cw c (by omega),bad_f hix,dupI_f h2 (fun x _ hx=>by cases hx),runC_pth h1]
  cases hT:(of==(ownO l ob).getD []) with
  | true =>
   have e:of=(ownO l ob).getD []:=by simpa using hT
   rw [e,chain_top] at h
   cases h
   rfl
  | false =>
   show (bif of != of then (19:Int) else 0)=0
   rw [bne,beq_self_eq_true]; rfl
 ·intro hne
  have hT:(of==(ownO l ob).getD [])=false:=by
   cases hT:(of==(ownO l ob).getD []) with
   | false=>rfl
   | true =>
    have e:of=(ownO l ob).getD []:=by simpa using hT
    rw [e,chain_top] at h
    cases h
    exact absurd rfl hne
  cases c with
  | nil=>exact absurd rfl hne
  | cons i r =>
   have h4:=runC_tail h1 h3
   show chkW l G of ri ob day r=19
   have h2':=(List.nodup_cons.1 h2).2
   have hl':r.length≤32:=by
    have:(i::r).length=r.length+1:=rfl
    omega
   unfold chkW
   rw [cw r hl',bad_f (fun j hj=>hix j (List.mem_cons_of_mem _ hj)),dupI_f h2' (fun x _ hx=>by cases hx),hT]
   show (match runC ri ob day G ((ownO l ob).getD []) r with | none=>(19:Int) | some t=>bif t != of then 19 else 0)=19
   cases hr:runC ri ob day G ((ownO l ob).getD []) r with
   | none=>rfl
   | some t =>
    have hne2:t≠of:=fun e=>h4 (by rw [hr,e])
    show (bif t != of then (19:Int) else 0)=19
    rw [bne_iff_ne.2 hne2]; rfl
theorem chk_n {l:List Ob} {G:List Gr} {of ri ob:Nm} {day:Int} (hq:qdE l G of ri ob day=0) (h:chainP l G ri ob day of=none):chkW l G of ri ob day []=19:=by
 have hT:(of==(ownO l ob).getD [])=false:=by
  cases hT:(of==(ownO l ob).getD []) with
  | false=>rfl
  | true =>
   have e:of=(ownO l ob).getD []:=by simpa using hT
   rw [e,chain_top] at h
   cases h
 unfold chkW
 rw [cw_0 hq (Nat.zero_le _),hT]
 show (bif ((ownO l ob).getD [] != of) then (19:Int) else 0)=19
 have hne:(ownO l ob).getD []≠of:=fun e=>by rw [e,beq_self_eq_true] at hT; cases hT
 rw [bne_iff_ne.2 hne]; rfl
end Vc
