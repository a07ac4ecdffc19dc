import Derived.Test.YtifgdpnmgeffbaaGreatDoorG15
import Derived.Test.YtifgdpnmgeffbaaGreatDoorG23
set_option linter.unusedSectionVars false
set_option linter.unusedVariables false
set_option linter.unusedSimpArgs false
namespace Vc
section
variable (ri ob : List UInt8) (day : Int)
def eds:List Gr→Int→List Ed
 | [],_=>[]
 | g::r,i=>bif holdB ri ob day g then ⟨i,g.fr,g.to⟩::eds r (i+1) else eds r (i+1)
theorem eds_ix:∀ {r:List Gr} {i:Int} {e:Ed},e∈eds ri ob day r i→i≤e.ix
 | [],_,_,h=>by cases h
 | g::r,i,e,h=>by
  rw [eds] at h
  cases hh:holdB ri ob day g with
  | false =>
   rw [hh] at h
   have:=eds_ix h; omega
  | true =>
   rw [hh] at h
   rcases List.mem_cons.1 h with h | h
   ·rw [h]; exact Int.le_refl _
   ·have:=eds_ix h; omega
theorem eds_inj:∀ (r:List Gr) (i:Int),Inj (eds ri ob day r i)
 | [],_=>fun a ha=>by cases ha
 | g::r,i=>by
  rw [eds]
  cases hh:holdB ri ob day g with
  | false=>exact eds_inj r (i+1)
  | true =>
   intro a ha b hb e
   rcases List.mem_cons.1 ha with ha | ha <;> rcases List.mem_cons.1 hb with hb | hb
   ·rw [ha,hb]
   ·have:=eds_ix ri ob day hb
    rw [← e,ha] at this
    exact absurd this (by show ¬ (i+1≤i); omega)
   ·have:=eds_ix ri ob day ha
    rw [e,hb] at this
    exact absurd this (by show ¬ (i+1≤i); omega)
   ·exact eds_inj r (i+1) a ha b hb e
theorem stepF_cons (e:Ed) (E:List Ed) (w:Way):stepF (e::E) w=bif e.fr==w.2 then (w.1++[e.ix],e.to)::stepF E w else stepF E w:=by
 unfold stepF
 rw [List.filter_cons]
 cases h:(e.fr==w.2)
 ·rfl
 ·rfl
theorem has_congr {R S:List Nm} (h:∀ x,x∈R↔x∈S) (x:Nm):R.contains x=S.contains x:=by
 rw [Bool.eq_iff_iff,List.contains_iff_mem,List.contains_iff_mem]; exact h x
variable (of : List UInt8)
theorem prG_dd {w : Way} : ∀ {r : List Gr} {i : Int} {R S : List Nm} {N : List Way}, (∀ x, x ∈ R ↔ x ∈ S) →
  (∀ v,(dd S (stepF (eds ri ob day r i) w)).find? (fun z=>z.2==of)=some v→(prG ri ob day of w r i R N).1=some v.1) ∧
  ((dd S (stepF (eds ri ob day r i) w)).find? (fun z=>z.2==of)=none→∃ R',prG ri ob day of w r i R N=(none,R',N++dd S (stepF (eds ri ob day r i) w))∧∀ x,x∈R'↔x∈ddr S (stepF (eds ri ob day r i) w))
 | [],i,R,S,N,h=>⟨(fun v hv=>by cases hv),fun _=>⟨R,by rw [eds]; show _=(none,R,N++[]); rw [List.append_nil]; rfl,h⟩⟩
 | g::r,i,R,S,N,h=>by
  rw [eds,prG]
  cases hh:holdB ri ob day g with
  | false=>exact prG_dd h
  | true =>
   rw [show (bif true then ({ ix:=i,fr:=g.fr,to:=g.to }:Ed)::eds ri ob day r (i+1) else eds ri ob day r (i+1))=(⟨i,g.fr,g.to⟩:Ed)::eds ri ob day r (i+1) from rfl,stepF_cons]
   show (∀ v,(dd S (bif g.fr==w.2 then (w.1++[i],g.to)::_ else _)).find? _=some v→_)∧_
   cases hf:(g.fr==w.2) with
   | false=>exact prG_dd h
   | true =>
    show (∀ v,(dd S ((w.1++[i],g.to)::stepF (eds ri ob day r (i+1)) w)).find? _=some v→_)∧((dd S ((w.1++[i],g.to)::stepF (eds ri ob day r (i+1)) w)).find? _=none→∃ R',_=(none,R',N++dd S ((w.1++[i],g.to)::stepF (eds ri ob day r (i+1)) w))∧∀ x,x∈R'↔x∈ddr S ((w.1++[i],g.to)::stepF (eds ri ob day r (i+1)) w))
    rw [dd,ddr,has_congr h g.to]
    cases hc:S.contains g.to with
    | true=>exact prG_dd h
    | false =>
     have h2:∀ x,x∈R++[g.to]↔x∈g.to::S:=fun x=>by
      rw [List.mem_append,List.mem_singleton,List.mem_cons,h x]; exact or_comm
     cases ho:(g.to==of) with
     | true =>
      refine ⟨fun v hv=>?_,fun hv=>?_⟩
      ·have hv:(((w.1++[i],g.to):Way)::_).find? (fun z=>z.2==of)=some v:=hv
       rw [List.find?_cons_of_pos (p:=fun (z:Way)=>z.2==of) ho] at hv
       cases hv
       rfl
      ·have hv:(((w.1++[i],g.to):Way)::_).find? (fun z=>z.2==of)=none:=hv
       rw [List.find?_cons_of_pos (p:=fun (z:Way)=>z.2==of) ho] at hv
       cases hv
     | false =>
      have ih:=prG_dd (w:=w) (r:=r) (i:=i+1) (N:=N++[(w.1++[i],g.to)]) h2
      have hn:(fun (z:Way)=>z.2==of) (w.1++[i],g.to)≠true:=by show (g.to==of)≠true; rw [ho]; decide
      refine ⟨fun v hv=>?_,fun hv=>?_⟩
      ·have hv:(((w.1++[i],g.to):Way)::_).find? (fun z=>z.2==of)=some v:=hv
       rw [List.find?_cons_of_neg (p:=fun (z:Way)=>z.2==of) hn] at hv
       exact ih.1 v hv
      ·have hv:(((w.1++[i],g.to):Way)::_).find? (fun z=>z.2==of)=none:=hv
       rw [List.find?_cons_of_neg (p:=fun (z:Way)=>z.2==of) hn] at hv
       obtain ⟨R',e,hR⟩:=ih.2 hv
       refine ⟨R',?_,hR⟩
       show prG ri ob day of w r (i+1) (R++[g.to]) (N++[(w.1++[i],g.to)])=_
       rw [e,List.append_assoc]; rfl
theorem prW_dd {G : List Gr} : ∀ {W : List Way} {R S : List Nm} {N : List Way}, (∀ x, x ∈ R ↔ x ∈ S) →
  (∀ v,(dd S (W.flatMap (stepF (eds ri ob day G 0)))).find? (fun z=>z.2==of)=some v→(prW ri ob day of G W R N).1=some v.1) ∧
  ((dd S (W.flatMap (stepF (eds ri ob day G 0)))).find? (fun z=>z.2==of)=none→∃ R',prW ri ob day of G W R N=(none,R',N++dd S (W.flatMap (stepF (eds ri ob day G 0))))∧∀ x,x∈R'↔x∈ddr S (W.flatMap (stepF (eds ri ob day G 0))))
 | [],R,S,N,h=>⟨(fun v hv=>by cases hv),fun _=>⟨R,by show (none,R,N)=(none,R,N++[]); rw [List.append_nil],h⟩⟩
 | w::W,R,S,N,h=>by
  rw [List.flatMap_cons,dd_append,ddr_append,List.find?_append,prW]
  have h1:=prG_dd ri ob day of (w:=w) (r:=G) (i:=0) (N:=N) h
  cases hf:(dd S (stepF (eds ri ob day G 0) w)).find? (fun z=>z.2==of) with
  | some u =>
   have e:=h1.1 u hf
   refine ⟨fun v hv=>?_,fun hv=>by cases hv⟩
   have hv:some u=some v:=hv
   cases hv
   cases hp:prG ri ob day of w G 0 R N with
   | mk o RN =>
    obtain ⟨R',N'⟩:=RN
    rw [hp] at e
    have e:o=some u.1:=e
    rw [e]
  | none =>
   obtain ⟨R',e,hR⟩:=h1.2 hf
   rw [e]
   have ih:=prW_dd (G:=G) (W:=W) (N:=N++dd S (stepF (eds ri ob day G 0) w)) hR
   refine ⟨fun v hv=>ih.1 v hv,fun hv=>?_⟩
   obtain ⟨R2,e2,hR2⟩:=ih.2 hv
   refine ⟨R2,?_,hR2⟩
   show prW ri ob day of G W R' (N++dd S (stepF (eds ri ob day G 0) w))=_
   rw [e2,List.append_assoc]
theorem srch_cons {G:List Gr} {f:Nat} {W:List Way} {R:List Nm} (h:W≠[]):srch ri ob day of G (f+1) W R=(match prW ri ob day of G W R [] with | (some c,_,_)=>some c | (none,R',N')=>srch ri ob day of G f N' R'):=by
 cases W with
 | nil=>exact absurd rfl h
 | cons w r=>rfl
theorem mea_step2 {G:List Gr} {W N':List Way} {R R':List Nm} (h0:W≠[]) (h:prW ri ob day of G W R []=(none,R',N')):mea G N' R' < mea G W R:=by
 cases W with
 | nil=>exact absurd rfl h0
 | cons w r=>exact mea_step ri ob day of h
theorem lv_nil {E:List Ed} {top:Nm} {d:Nat} (h:(lv E top d).1=[]):∀ k,(lv E top (d+k)).1=[]
 | 0=>h
 | k+1=>by
  show dd _ ((lv E top (d+k)).1.flatMap (stepF E))=[]
  rw [lv_nil h k]; rfl
def fnd (G:List Gr) (top:Nm) (d:Nat):Option Way:=(lv (eds ri ob day G 0) top d).1.find? (fun z=>z.2==of)
theorem fnd_nil {G:List Gr} {top:Nm} {d:Nat} (h:(lv (eds ri ob day G 0) top d).1=[]) {e:Nat} (he:d≤e):fnd ri ob day of G top e=none:=by
 have e1:e=d+(e - d):=by omega
 unfold fnd
 rw [e1,lv_nil h]; rfl
theorem srch_lv {G : List Gr} {top : Nm} : ∀ {f d : Nat} {R : List Nm}, (∀ x, x ∈ R ↔ x ∈ (lv (eds ri ob day G 0) top d).2) → mea G (lv (eds ri ob day G 0) top d).1 R < f →
  (∃ e v,d < e∧fnd ri ob day of G top e=some v∧(∀ e',d < e'→e' < e→fnd ri ob day of G top e'=none)∧srch ri ob day of G f (lv (eds ri ob day G 0) top d).1 R=some v.1) ∨
  ((∀ e,d < e→fnd ri ob day of G top e=none)∧srch ri ob day of G f (lv (eds ri ob day G 0) top d).1 R=none)
 | 0,_,_,_,hm=>absurd hm (Nat.not_lt_zero _)
 | f+1,d,R,hR,hm=>by
  by_cases hW:(lv (eds ri ob day G 0) top d).1=[]
  ·refine .inr ⟨fun e he=>fnd_nil ri ob day of hW (Nat.le_of_lt he),?_⟩
   rw [hW]; rfl
  ·have hp:=prW_dd ri ob day of (G:=G) (W:=(lv (eds ri ob day G 0) top d).1) (N:=[]) hR
   rw [srch_cons ri ob day of hW]
   cases hf:(dd (lv (eds ri ob day G 0) top d).2 ((lv (eds ri ob day G 0) top d).1.flatMap (stepF (eds ri ob day G 0)))).find? (fun z=>z.2==of) with
   | some v =>
    have e:=hp.1 v hf
    refine .inl ⟨d+1,v,Nat.lt_succ_self d,hf,fun e' h1 h2=>absurd h1 (by omega),?_⟩
    cases hq:prW ri ob day of G (lv (eds ri ob day G 0) top d).1 R [] with
    | mk o RN =>
     obtain ⟨R',N'⟩:=RN
     rw [hq] at e
     have e:o=some v.1:=e
     rw [e]
   | none =>
    obtain ⟨R',e,hR'⟩:=hp.2 hf
    have hm2:=mea_step2 ri ob day of hW e
    rw [e]
    have hR2:∀ x,x∈R'↔x∈(lv (eds ri ob day G 0) top (d+1)).2:=hR'
    have hf2:fnd ri ob day of G top (d+1)=none:=hf
    have hm3:mea G (lv (eds ri ob day G 0) top (d+1)).1 R' < f:=by
     have hm4:mea G (lv (eds ri ob day G 0) top (d+1)).1 R' < mea G (lv (eds ri ob day G 0) top d).1 R:=hm2
     omega
    rcases srch_lv (f:=f) (d:=d+1) hR2 hm3 with ⟨e1,v,h1,h2,h3,h4⟩ | ⟨h1,h2⟩
    ·refine .inl ⟨e1,v,by omega,h2,fun e' h5 h6=>?_,h4⟩
     by_cases h7:e'=d+1
     ·rw [h7]; exact hf2
     ·exact h3 e' (by omega) h6
    ·refine .inr ⟨fun e1 h5=>?_,h2⟩
     by_cases h7:e1=d+1
     ·rw [h7]; exact hf2
     ·exact h1 e1 (by omega)
end
end Vc
namespace Vc
section
variable (ri ob : List UInt8) (day : Int)
end
end Vc
namespace Vc
section
variable (ri ob : List UInt8) (day : Int)
variable (of : List UInt8)
theorem rb_not {G:List Gr} {top:Nm}:∀ {d:Nat},(∀ e,e < d→fnd ri ob day of G top e=none)→of∉rb (eds ri ob day G 0) top d
 | 0,_=>fun h=>by cases h
 | d+1,h=>fun hm=>by
  rcases rb_mem.1 hm with h1 | ⟨w,hw,e⟩
  ·exact rb_not (fun e he=>h e (by omega)) h1
  ·have h2:=List.find?_eq_none.1 (h d (Nat.lt_succ_self d)) w hw
   exact h2 (beq_iff_eq.2 e)
theorem chain_lv (l:List Ob) (G:List Gr):(∃ e v,fnd ri ob day of G ((ownO l ob).getD []) e=some v∧(∀ e',e' < e→fnd ri ob day of G ((ownO l ob).getD []) e'=none)∧chainP l G ri ob day of=some v.1)∨((∀ e,fnd ri ob day of G ((ownO l ob).getD []) e=none)∧chainP l G ri ob day of=none):=by
 generalize hT:(ownO l ob).getD []=T
 unfold chainP
 rw [hT]
 cases h:(of==T) with
 | true =>
  refine .inl ⟨0,([],T),?_,fun e' he=>absurd he (Nat.not_lt_zero _),rfl⟩
  show [(([],T):Way)].find? (fun z=>z.2==of)=_
  rw [List.find?_cons_of_pos (p:=fun (z:Way)=>z.2==of) (by show (T==of)=true; rw [beq_iff_eq.1 h]; exact beq_self_eq_true T)]
 | false =>
  have h0:fnd ri ob day of G T 0=none:=by
   show [(([],T):Way)].find? (fun z=>z.2==of)=_
   rw [List.find?_cons_of_neg (p:=fun (z:Way)=>z.2==of) (by show ¬ (T==of)=true; intro e; rw [beq_iff_eq.1 e,beq_self_eq_true] at h; cases h)]
   rfl
  have hm:mea G [(([],T):Way)] [T] < 2 * G.length+2:=by
   have:=cntR_le [T] G
   show 2 * cntR [T] G+1 < _
   omega
  rcases srch_lv ri ob day of (G:=G) (top:=T) (f:=2 * G.length+2) (d:=0) (R:=[T]) (fun x=>Iff.rfl) hm with ⟨e,v,h1,h2,h3,h4⟩ | ⟨h1,h2⟩
  ·refine .inl ⟨e,v,h2,fun e' he=>?_,h4⟩
   by_cases h5:e'=0
   ·rw [h5]; exact h0
   ·exact h3 e' (by omega) he
  ·refine .inr ⟨fun e=>?_,h2⟩
   by_cases h5:e=0
   ·rw [h5]; exact h0
   ·exact h1 e (by omega)
end
end Vc
