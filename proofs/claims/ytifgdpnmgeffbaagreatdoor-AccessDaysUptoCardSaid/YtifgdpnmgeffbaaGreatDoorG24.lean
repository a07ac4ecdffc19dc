import Derived.Test.YtifgdpnmgeffbaaGreatDoorG15
import Derived.Test.YtifgdpnmgeffbaaGreatDoorG23
set_option linter.unusedSectionVars false
set_option linter.unusedVariables false
set_option linter.unusedSimpArgs false
namespace Vc
section
variable (ri ob : List UInt8) (day : Int)
def eds:List Gr→Int→List Ed
 | [],_=>[]
 | g::r,i=>bif holdB ri ob day g then ⟨i,g.fr,g.to⟩::eds r (i+1) else eds r (i+1)
theorem eds_ix:∀ {r:List Gr} {i:Int} {e:Ed},e∈eds ri ob day r i→i≤e.ix
 | [],_,_,h=>by cases h
 | g::r,i,e,h=>by
  rw [eds] at h
  cases hh:holdB ri ob day g with
  | false =>
   rw [hh] at h
   have:=eds_ix h; omega
  | true =>
   rw [hh] at h
   rcases List.mem_cons.1 h with h | h
   ·rw [h]; exact Int.le_refl _
   ·have:=eds_ix h; omega
theorem eds_inj:∀ (r:List Gr) (i:Int),Inj (eds ri ob day r i)
 | [],_=>fun a ha=>by cases ha
 | g::r,i=>by
  rw [eds]
  cases hh:holdB ri ob day g with
  | false=>exact eds_inj r (i+1)
  | true =>
   intro a ha b hb e
   rcases List.mem_cons.1 ha with ha | ha <;> rcases List.mem_cons.1 hb with hb | hb
   ·rw [ha,hb]
   ·have:=eds_ix ri ob day hb
    rw [← e,ha] at this
    exact absurd this (by show ¬ (i+1≤i); omega)
   ·have:=eds_ix ri ob day ha
    rw [e,hb] at this
    exact absurd this (by show ¬ (i+1≤i); omega)
   ·exact eds_inj r (i+1) a ha b hb e
theorem stepF_cons (e:Ed) (E:List Ed) (w:Way):stepF (e::E) w=bif e.fr==w.2 then (w.1++[e.ix],e.to)::stepF E w else stepF E w:=by
 unfold stepF
 rw [List.filter_cons]
 cases h:(e.fr==w.2)
 ·rfl
 ·rfl
theorem has_congr {R S:List Nm} (h:∀ x,x∈R↔x∈S) (x:Nm):R.contains x=S.contains x:=by
 rw [Bool.eq_iff_iff,List.contains_iff_mem,List.contains_iff_mem]; exact h x
variable (of : List UInt8)
theorem prG_dd {w : Way} : ∀ {r : List Gr} {i : Int} {R S : List Nm} {N : List Way}, (∀ x, x ∈ R ↔ x ∈ S) →
  (∀ v,(dd S (stepF (eds ri ob day r i) w)).find? (fun z=>z.2==of)=some v→(prG ri ob day of w r i R N).1=some v.1) ∧
  ((dd S (stepF (eds ri ob day r i) w)).find? (fun z=>z.2==of)=none→∃ R',prG ri ob day of w r i R N=(none,R',N++dd S (stepF (eds ri ob day r i) w))∧∀ x,x∈R'↔x∈ddr S (stepF (eds ri ob day r i) w))
 | [],i,R,S,N,h=>⟨(fun v hv=>by cases hv),fun _=>⟨R,by rw [eds]; show _=(none,R,N++[]); rw [List.append_nil]; rfl,h⟩⟩
 | g::r,i,R,S,N,h=>by
  rw [eds,prG]
  cases hh:holdB ri ob day g with
  | false=>exact prG_dd h
  | true =>
   rw [show (bif true then ({ ix:=i,fr:=g.fr,to:=g.to }:Ed)::eds ri ob day r (i+1) else eds ri ob day r (i+1))=(⟨i,g.fr,g.to⟩:Ed)::eds ri ob day r (i+1) from rfl,stepF_cons]
   show (∀ v,(dd S (bif g.fr==w.2 then (w.1++[i],g.to)::_ else _)).find? _=some v→_)∧_
   cases hf:(g.fr==w.2) with
   | false=>exact prG_dd h
   | true =>
    show (∀ v,(dd S ((w.1++[i],g.to)::stepF (eds ri ob day r (i+1)) w)).find? _=some v→_)∧((dd S ((w.1++[i],g.to)::stepF (eds ri ob day r (i+1)) w)).find? _=none→∃ R',_=(none,R',N++dd S ((w.1++[i],g.to)::stepF (eds ri ob day r (i+1)) w))∧∀ x,x∈R'↔x∈ddr S ((w.1++[i],g.to)::stepF (eds ri ob day r (i+1)) w))
    rw [dd,ddr,has_congr h g.to]
    cases hc:S.contains g.to with
    | true=>exact prG_dd h
    | false =>
     have h2:∀ x,x∈R++[g.to]↔x∈g.to::S:=fun x=>by
      rw [List.mem_append,List.mem_singleton,List.mem_cons,h x]; exact or_comm
     cases ho:(g.to==of) with
     | true =>
      refine ⟨fun v hv=>?_,fun hv=>?_⟩
      ·have hv:(((w.1++[i],g.to):Way)::_).find? (fun z=>z.2==of)=some v:=hv
       rw [List.find?_cons_of_pos (p:=fun (z:Way)=>z.2==of) ho] at hv
       cases hv
       rfl
      ·have hv:(((w.1++[i],g.to):Way)::_).find? (fun z=>z.2==of)=none:=hv
       rw [List.find?_cons_of_pos (p:=fun (z:Way)=>z.2==of) ho] at hv
       cases hv
     | false =>
      have ih:=prG_dd (w:=w) (r:=r) (i:=i+1) (N:=N++[(w.1++[i],g.to)]) h2
      have hn:(fun (z:Way)=>z.2==of) (w.1++[i],g.to)≠true:=by show (g.to==of)≠true; rw [ho]; decide
      refine ⟨fun v hv=>?_,fun hv=>?_⟩
      ·have hv:(((w.1++[i],g.to):Way)::_).find? (fun z=>z.2==of)=some v:=hv
       rw [List.find?_cons_of_neg (p:=fun (z:Way)=>z.2==of) hn] at hv
       exact ih.1 v hv
      ·have hv:(((w.1++[i],g.to):Way)::_).find? (fun z=>z.2==of)=none:=hv
       rw [List.find?_cons_of_neg (p:=fun (z:Way)=>z.2==of) hn] at hv
       obtain ⟨R',e,hR⟩:=ih.2 hv
       refine ⟨R',?_,hR⟩
       show prG ri ob day of w r (i+1) (R++[g.to]) (N++[(w.1++[i],g.to)])=_
       rw [e,List.append_assoc]; rfl
theorem prW_dd {G : List Gr} : ∀ {W : List Way} {R S : List Nm} {N : List Way}, (∀ x, x ∈ R ↔ x ∈ S) →
  (∀ v,(dd S (W.flatMap (stepF (eds ri ob day G 0)))).find? (fun z=>z.2==of)=some v→(prW ri ob day of G W R N).1=some v.1) ∧
  ((dd S (W.flatMap (stepF (eds ri ob day G 0)))).find? (fun z=>z.2==of)=none→∃ R',prW ri ob day of G W R N=(none,R',N++dd S (W.flatMap (stepF (eds ri ob day G 0))))∧∀ x,x∈R'↔x∈ddr S (W.flatMap (stepF (eds ri ob day G 0))))
 | [],R,S,N,h=>⟨(fun v hv=>by cases hv),fun _=>⟨R,by show (none,R,N)=(none,R,N++[]); rw [List.append_nil],h⟩⟩
 | w::W,R,S,N,h=>by
  rw [List.flatMap_cons,dd_append,ddr_append,List.find?_append,prW]
  have h1:=prG_dd ri ob day of (w:=w) (r:=G) (i:=0) (N:=N) h
  cases hf:(dd S (stepF (eds ri ob day G 0) w)).find? (fun z=>z.2==of) with
  | some u =>
   have e:=h1.1 u hf
   refine ⟨fun v hv=>?_,fun hv=>by cases hv⟩
   have hv:some u=some v:=hv
   cases hv
   cases hp:prG ri ob day of w G 0 R N with
   | mk o RN =>
    obtain ⟨R',N'⟩:=RN
    rw [hp] at e
    have e:o=some u.1:=e
    rw [e]
  | none =>
   obtain ⟨R',e,hR⟩:=h1.2 hf
   rw [e]
   have ih:=prW_dd (G:=G) (W:=W) (N:=N++dd S (stepF (eds ri ob day G 0) w)) hR
   refine ⟨fun v hv=>ih.1 v hv,fun hv=>?_⟩
   obtain ⟨R2,e2,hR2⟩:=ih.2 hv
   refine ⟨R2,?_,hR2⟩
   show prW ri ob day of G W R' (N++dd S (stepF (eds ri ob day G 0) w))=_
   rw [e2,List.append_assoc]
theorem srch_cons {G:List Gr} {f:Nat} {W:List Way} {R:List Nm} (h:W≠[]):srch ri ob day of G (f+1) W R=(match prW ri ob day of G W R [] with | (some c,_,_)=>some c | (none,R',N')=>srch ri ob day of G f N' R'):=by
 cases W with
 | nil=>exact absurd rfl h
 | cons w r=>rfl
theorem mea_step2 {G:List Gr} {W N':List Way} {R R':List Nm} (h0:W≠[]) (h:prW ri ob day of G W R []=(none,R',N')):mea G N' R' < mea G W R:=by
 cases W with
 | nil=>exact absurd rfl h0
 | cons w r=>exact mea_step ri ob day of h
theorem lv_nil {E:List Ed} {top:Nm} {d:Nat} (h:(lv E top d).1=[]):∀ k,(lv E top (d+k)).1=[]
 | 0=>h
 | k+1=>by
  show dd _ ((lv E top (d+k)).1.flatMap (stepF E))=[]
  rw [lv_nil h k]; rfl
def fnd (G:List Gr) (top:Nm) (d:Nat):Option Way:=(lv (eds ri ob day G 0) top d).1.find? (fun z=>z.2==of)
theorem fnd_nil {G:List Gr} {top:Nm} {d:Nat} (h:(lv (eds ri ob day G 0) top d).1=[]) {e:Nat} (he:d≤e):fnd ri ob day of G top e=none:=by
 have e1:e=d+(e - d):=by omega
 unfold fnd
 rw [e1,lv_nil h]; rfl
theorem srch_lv {G : List Gr} {top : Nm} : ∀ {f d : Nat} {R : List Nm}, (∀ x, x ∈ R ↔ x ∈ (lv (eds ri ob day G 0) top d).2) → mea G (lv (eds ri ob day G 0) top d).1 R < f →
  (∃ e v,d < e∧fnd ri ob day of G top e=some v∧(∀ e',d < e'→e' < e→fnd ri ob day of G top e'=none)∧srch ri ob day of G f (lv (eds ri ob day G 0) top d).1 R=some v.1) ∨
  ((∀ e,d < e→fnd ri ob day of G top e=none)∧srch ri ob day of G f (lv (eds ri ob day G 0) top d).1 R=none)
 | 0,_,_,_,hm=>absurd hm (Nat.not_lt_zero _)
 | f+1,d,R,hR,hm=>by
  by_cases hW:(lv (eds ri ob day G 0) top d).1=[]
  ·refine .inr ⟨fun e he=>fnd_nil ri ob day of hW (Nat.le_of_lt he),?_⟩
   rw [hW]; rfl
  ·have hp:=prW_dd ri ob day of (G:=G) (W:=(lv (eds ri ob day G 0) top d).1) (N:=[]) hR
   rw [srch_cons ri ob day of hW]
   cases hf:(dd (lv (eds ri ob day G 0) top d).2 ((lv (eds ri ob day G 0) top d).1.flatMap (stepF (eds ri ob day G 0)))).find? (fun z=>z.2==of) with
   | some v =>
    have e:=hp.1 v hf
    refine .inl ⟨d+1,v,Nat.lt_succ_self d,hf,fun e' h1 h2=>absurd h1 (by omega),?_⟩
    cases hq:prW ri ob day of G (lv (eds ri ob day G 0) top d).1 R [] with
    | mk o RN =>
     obtain ⟨R',N'⟩:=RN
     rw [hq] at e
     have e:o=some v.1:=e
     rw [e]
   | none =>
    obtain ⟨R',e,hR'⟩:=hp.2 hf
    have hm2:=mea_step2 ri ob day of hW e
    rw [e]
    have hR2:∀ x,x∈R'↔x∈(lv (eds ri ob day G 0) top (d+1)).2:=hR'
    have hf2:fnd ri ob day of G top (d+1)=none:=hf
    have hm3:mea G (lv (eds ri ob day G 0) top (d+1)).1 R' < f:=by
     have hm4:mea G (lv (eds ri ob day G 0) top (d+1)).1 R' < mea G (lv (eds ri ob day G 0) top d).1 R:=hm2
     omega
    rcases srch_lv (f:=f) (d:=d+1) hR2 hm3 with ⟨e1,v,h1,h2,h3,h4⟩ | ⟨h1,h2⟩
    ·refine .inl ⟨e1,v,by omega,h2,fun e' h5 h6=>?_,h4⟩
     by_cases h7:e'=d+1
     ·rw [h7]; exact hf2
     ·exact h3 e' (by omega) h6
    ·refine .inr ⟨fun e1 h5=>?_,h2⟩
     by_cases h7:e1=d+1
     ·rw [h7]; exact hf2
     ·exact h1 e1 (by omega)
end
end Vc
namespace Vc
section
variable (ri ob : List UInt8) (day : Int)
def nmsW (S:List Way):List Nm:=S.map Prod.snd
def lenW (S:List Way):List Int:=S.map fun z=>(z.1.length:Int)
theorem hoG_dd {w : Way} : ∀ {r : List Gr} {i : Int} {L S : List Nm} {K : List Int}, (∀ x, x ∈ L ↔ x ∈ S) →
  hoG ri ob day w.2 (w.1.length:Int) r L K=(L++nmsW (dd S (stepF (eds ri ob day r i) w)),K++lenW (dd S (stepF (eds ri ob day r i) w)))
 | [],i,L,S,K,h=>by
  show (L,K)=(L++[],K++[])
  rw [List.append_nil,List.append_nil]
 | g::r,i,L,S,K,h=>by
  rw [eds,hoG]
  cases hh:holdB ri ob day g with
  | false=>exact hoG_dd h
  | true =>
   rw [show (bif true then ({ ix:=i,fr:=g.fr,to:=g.to }:Ed)::eds ri ob day r (i+1) else eds ri ob day r (i+1))=(⟨i,g.fr,g.to⟩:Ed)::eds ri ob day r (i+1) from rfl,stepF_cons]
   show (bif true&&(g.fr==w.2&&!L.contains g.to) then _ else _)=(L++nmsW (dd S (bif g.fr==w.2 then (w.1++[i],g.to)::_ else _)),K++lenW (dd S (bif g.fr==w.2 then (w.1++[i],g.to)::_ else _)))
   cases hf:(g.fr==w.2) with
   | false=>exact hoG_dd h
   | true =>
    show (bif true&&(true&&!L.contains g.to) then _ else _)=(L++nmsW (dd S ((w.1++[i],g.to)::stepF (eds ri ob day r (i+1)) w)),K++lenW (dd S ((w.1++[i],g.to)::stepF (eds ri ob day r (i+1)) w)))
    rw [dd,has_congr h g.to]
    cases hc:S.contains g.to with
    | true=>exact hoG_dd h
    | false =>
     have h2:∀ x,x∈L++[g.to]↔x∈g.to::S:=fun x=>by
      rw [List.mem_append,List.mem_singleton,List.mem_cons,h x]; exact or_comm
     have ih:=hoG_dd (w:=w) (r:=r) (i:=i+1) (K:=K++[(w.1.length:Int)+1]) h2
     show hoG ri ob day w.2 (w.1.length:Int) r (L++[g.to]) (K++[(w.1.length:Int)+1])=_
     rw [ih,List.append_assoc,List.append_assoc]
     show (L++(g.to::_),K++(((w.1.length:Int)+1)::_))=(L++(g.to::_),K++(((w.1++[i]).length:Int)::_))
     rw [List.length_append]
     rfl
theorem hoG_cnt {n:Nm} {d:Int} {GA:List Gr}:∀ {r:List Gr} {L:List Nm} {K:List Int},(∀ g∈r,g∈GA)→cntR (hoG ri ob day n d r L K).1 GA+(hoG ri ob day n d r L K).1.length≤cntR L GA+L.length
 | [],_,_,_=>Nat.le_refl _
 | g::r,L,K,hs=>by
  rw [hoG]
  have hs2:∀ g∈r,g∈GA:=fun x hx=>hs x (List.mem_cons_of_mem _ hx)
  cases hc:(holdB ri ob day g&&(g.fr==n&&!L.contains g.to)) with
  | false=>exact hoG_cnt hs2
  | true =>
   simp only [Bool.and_eq_true,Bool.not_eq_true'] at hc
   have h1:=hoG_cnt (n:=n) (d:=d) (r:=r) (L:=L++[g.to]) (K:=K++[d+1]) hs2
   have h2:=cntR_new (hs g List.mem_cons_self) hc.2.2
   rw [List.length_append] at h1
   have h3:[g.to].length=1:=rfl
   show cntR (hoG ri ob day n d r (L++[g.to]) (K++[d+1])).1 GA+(hoG ri ob day n d r (L++[g.to]) (K++[d+1])).1.length≤_
   omega
def hoW (E:List Ed):Nat→Nat→List Way→List Way
 | 0,_,S=>S
 | f+1,i,S=>match S[i]? with
  | none=>S
  | some w=>hoW E f (i+1) (S++dd (nmsW S) (stepF E w))
theorem hoL_hoW (G:List Gr):∀ (f i:Nat) (S:List Way),hoL ri ob day G f i (nmsW S) (lenW S)=(nmsW (hoW (eds ri ob day G 0) f i S),lenW (hoW (eds ri ob day G 0) f i S))
 | 0,_,_=>rfl
 | f+1,i,S=>by
  rw [hoL,hoW]
  cases hw:S[i]? with
  | none =>
   have e:(nmsW S)[i]?=none:=by unfold nmsW; rw [List.getElem?_map,hw]; rfl
   rw [e]
  | some w =>
   have e1:(nmsW S)[i]?=some w.2:=by unfold nmsW; rw [List.getElem?_map,hw]; rfl
   have e2:(lenW S)[i]?=some (w.1.length:Int):=by unfold lenW; rw [List.getElem?_map,hw]; rfl
   rw [e1,e2]
   show hoL ri ob day G f (i+1) (hoG ri ob day w.2 (w.1.length:Int) G (nmsW S) (lenW S)).1 (hoG ri ob day w.2 (w.1.length:Int) G (nmsW S) (lenW S)).2=_
   rw [hoG_dd ri ob day (i:=0) (L:=nmsW S) (S:=nmsW S) (fun x=>Iff.rfl)]
   have e3:nmsW S++nmsW (dd (nmsW S) (stepF (eds ri ob day G 0) w))=nmsW (S++dd (nmsW S) (stepF (eds ri ob day G 0) w)):=(List.map_append).symm
   have e4:lenW S++lenW (dd (nmsW S) (stepF (eds ri ob day G 0) w))=lenW (S++dd (nmsW S) (stepF (eds ri ob day G 0) w)):=(List.map_append).symm
   rw [e3,e4]
   exact hoL_hoW G f (i+1) _
theorem hoW_cnt {G:List Gr} {S:List Way} {w:Way}:cntR (nmsW (S++dd (nmsW S) (stepF (eds ri ob day G 0) w))) G+(S++dd (nmsW S) (stepF (eds ri ob day G 0) w)).length≤cntR (nmsW S) G+S.length:=by
 have h:=hoG_cnt ri ob day (n:=w.2) (d:=(w.1.length:Int)) (GA:=G) (r:=G) (L:=nmsW S) (K:=lenW S) (fun g h=>h)
 rw [hoG_dd ri ob day (i:=0) (L:=nmsW S) (S:=nmsW S) (fun x=>Iff.rfl)] at h
 have e3:nmsW S++nmsW (dd (nmsW S) (stepF (eds ri ob day G 0) w))=nmsW (S++dd (nmsW S) (stepF (eds ri ob day G 0) w)):=(List.map_append).symm
 have h:cntR (nmsW S++nmsW (dd (nmsW S) (stepF (eds ri ob day G 0) w))) G+(nmsW S++nmsW (dd (nmsW S) (stepF (eds ri ob day G 0) w))).length≤cntR (nmsW S) G+(nmsW S).length:=h
 rw [e3] at h
 have l1:∀ X:List Way,(nmsW X).length=X.length:=fun X=>List.length_map _
 rw [l1,l1] at h
 exact h
theorem nms_dd {A:List Way} {R:List Nm} {x:Nm}:(x∈R∨x∈nmsW (dd R A))↔x∈ddr R A:=by
 rw [mem_ddr]
 constructor
 ·rintro (h | h)
  ·exact .inl h
  ·obtain ⟨w,hw,e⟩:=List.mem_map.1 h
   exact .inr ⟨w,(mem_dd hw).1,e⟩
 ·rintro (h | ⟨w,h,e⟩)
  ·exact .inl h
  ·by_cases hx:x∈R
   ·exact .inl hx
   ·obtain ⟨v,hv,e2⟩:=dd_end h (by rw [e]; exact hx)
    exact .inr (List.mem_map.2 ⟨v,hv,e2.trans e⟩)
def catl (E:List Ed) (top:Nm) (d:Nat):Nat→List Way
 | 0=>[]
 | k+1=>(lv E top d).1++catl E top (d+1) k
theorem hoW_lv {G : List Gr} {top : Nm} : ∀ (f d : Nat) (P a b : List Way), (lv (eds ri ob day G 0) top d).1 = a ++ b → (∀ x, x ∈ nmsW (P ++ (a ++ b)) ↔ x ∈ (lv (eds ri ob day G 0) top d).2) →
  cntR (nmsW ((P++(a++b))++dd (lv (eds ri ob day G 0) top d).2 (a.flatMap (stepF (eds ri ob day G 0))))) G+(((P++(a++b))++dd (lv (eds ri ob day G 0) top d).2 (a.flatMap (stepF (eds ri ob day G 0)))).length - (P.length+a.length)) < f →
  ∃ k,hoW (eds ri ob day G 0) f (P.length+a.length) ((P++(a++b))++dd (lv (eds ri ob day G 0) top d).2 (a.flatMap (stepF (eds ri ob day G 0))))=P++catl (eds ri ob day G 0) top d k∧(lv (eds ri ob day G 0) top (d+k)).1=[]:=by
 intro f
 generalize hE:eds ri ob day G 0=E
 induction f with
 | zero=>intro d P a b _ _ h; exact absurd h (Nat.not_lt_zero _)
 | succ f ih =>
  have key : ∀ (d : Nat) (P a : List Way) (w : Way) (b : List Way), (lv E top d).1 = a ++ w :: b → (∀ x, x ∈ nmsW (P ++ (a ++ w :: b)) ↔ x ∈ (lv E top d).2) →
    cntR (nmsW ((P++(a++w::b))++dd (lv E top d).2 (a.flatMap (stepF E)))) G+(((P++(a++w::b))++dd (lv E top d).2 (a.flatMap (stepF E))).length - (P.length+a.length)) < f+1 →
    ∃ k,hoW E (f+1) (P.length+a.length) ((P++(a++w::b))++dd (lv E top d).2 (a.flatMap (stepF E)))=P++catl E top d k∧(lv E top (d+k)).1=[]:=by
   intro d P a w b h1 h2 h3
   have hi:((P++(a++w::b))++dd (lv E top d).2 (a.flatMap (stepF E)))[P.length+a.length]?=some w:=by
    rw [List.append_assoc,List.getElem?_append_right (by omega),Nat.add_sub_cancel_left,List.append_assoc,List.getElem?_append_right (Nat.le_refl _),Nat.sub_self]
    rfl
   rw [hoW,hi]
   have hn:∀ x,x∈nmsW ((P++(a++w::b))++dd (lv E top d).2 (a.flatMap (stepF E)))↔x∈ddr (lv E top d).2 (a.flatMap (stepF E)):=fun x=>by
    rw [← nms_dd]
    unfold nmsW
    rw [List.map_append,List.mem_append]
    exact or_congr (h2 x) Iff.rfl
   have hs:((P++(a++w::b))++dd (lv E top d).2 (a.flatMap (stepF E)))++dd (nmsW ((P++(a++w::b))++dd (lv E top d).2 (a.flatMap (stepF E)))) (stepF E w)=(P++((a++[w])++b))++dd (lv E top d).2 ((a++[w]).flatMap (stepF E)):=by
    rw [dd_congr hn,List.flatMap_append,dd_append,List.append_assoc a [w] b,List.append_assoc (P++_)]
    show _++(_++dd _ (stepF E w))=_++(_++dd _ ([w].flatMap (stepF E)))
    rw [List.flatMap_cons,List.flatMap_nil,List.append_nil]
    rfl
   have hc:=hoW_cnt ri ob day (G:=G) (S:=(P++(a++w::b))++dd (lv E top d).2 (a.flatMap (stepF E))) (w:=w)
   rw [hE] at hc
   rw [hs] at hc
   have hl:(P.length+a.length)+1=P.length+(a++[w]).length:=by rw [List.length_append]; rfl
   have hlen:P.length+a.length < ((P++(a++w::b))++dd (lv E top d).2 (a.flatMap (stepF E))).length:=(List.getElem?_eq_some_iff.1 hi).1
   show ∃ k,hoW E f (P.length+a.length+1) (_++dd (nmsW _) (stepF E w))=_∧_
   rw [hs,hl]
   refine ih d P (a++[w]) b (by rw [h1,List.append_assoc]; rfl) (fun x=>?_) ?_
   ·rw [List.append_assoc a [w] b]; exact h2 x
   ·have hg:=congrArg List.length hs
    rw [List.length_append (bs:=dd (nmsW _) (stepF E w))] at hg
    rw [← hl]
    omega
  intro d P a b h1 h2 h3
  cases b with
  | cons w b=>exact key d P a w b h1 h2 h3
  | nil =>
   rw [List.append_nil] at h1 h2 h3 ⊢
   have e1:dd (lv E top d).2 (a.flatMap (stepF E))=(lv E top (d+1)).1:=by rw [← h1]; rfl
   have e2:ddr (lv E top d).2 (a.flatMap (stepF E))=(lv E top (d+1)).2:=by rw [← h1]; rfl
   have h4:∀ x,x∈nmsW ((P++a)++dd (lv E top d).2 (a.flatMap (stepF E)))↔x∈(lv E top (d+1)).2:=fun x=>by
    rw [← e2,← nms_dd]
    unfold nmsW
    rw [List.map_append,List.mem_append]
    exact or_congr (h2 x) Iff.rfl
   rw [e1] at h3 h4 ⊢
   cases hb:(lv E top (d+1)).1 with
   | nil =>
    refine ⟨1,?_,hb⟩
    have hi:((P++a)++([]:List Way))[P.length+a.length]?=none:=by
     rw [List.append_nil]
     exact List.getElem?_eq_none (by rw [List.length_append]; exact Nat.le_refl _)
    rw [hoW,hi]
    show (P++a)++[]=P++((lv E top d).1++[])
    rw [h1,List.append_nil,List.append_nil]
   | cons w b =>
    rw [hb] at h3 h4
    have e3:(P++a)++(w::b)=((P++a)++([]++w::b))++dd (lv E top (d+1)).2 (([]:List Way).flatMap (stepF E)):=by
     show _=((P++a)++(w::b))++[]
     rw [List.append_nil]
    have e4:P.length+a.length=(P++a).length+([]:List Way).length:=by rw [List.length_append]; rfl
    obtain ⟨k,hk,hk2⟩:=key (d+1) (P++a) [] w b hb h4 (by rw [← e3,← e4]; exact h3)
    refine ⟨k+1,?_,?_⟩
    ·rw [e3,e4,hk]
     show _=P++((lv E top d).1++_)
     rw [h1,List.append_assoc]
    ·rw [show d+(k+1)=d+1+k by omega]; exact hk2
end
end Vc
namespace Vc
section
variable (ri ob : List UInt8) (day : Int)
theorem stepN_cons (e:Ed) (E:List Ed) (w:Way):stepN (e::E) w=bif e.fr==w.2&&!w.1.contains e.ix then (w.1++[e.ix],e.to)::stepN E w else stepN E w:=by
 unfold stepN
 rw [List.filter_cons]
 cases h:(e.fr==w.2&&!w.1.contains e.ix)
 ·rfl
 ·rfl
theorem exF_ext {G:List Gr} {of:Nm}:∀ (f:Nat) (c:List Int) (t:Nm),(∀ x,extG (eds ri ob day G 0) of f (c,t)=some x→exF ri ob day G of f c t=(x,true))∧(extG (eds ri ob day G 0) of f (c,t)=none→(exF ri ob day G of f c t).2=false)
 | 0,c,t=>by
  rw [extG,exF]
  show (∀ x,(bif t==of then some c else none)=some x→_)∧_
  cases h:(t==of) with
  | true=>exact ⟨fun x hx=>by cases hx; rfl,fun hx=>by cases hx⟩
  | false=>exact ⟨fun x hx=>(by cases hx),fun _=>rfl⟩
 | f+1,c,t=>by
  rw [extG,exF]
  have key:∀ (r:List Gr) (k:Nat),(∀ x,(stepN (eds ri ob day r (k:Int)) (c,t)).findSome? (extG (eds ri ob day G 0) of f)=some x→exG ri ob day (exF ri ob day G of f) c t r k=(x,true))∧((stepN (eds ri ob day r (k:Int)) (c,t)).findSome? (extG (eds ri ob day G 0) of f)=none→(exG ri ob day (exF ri ob day G of f) c t r k).2=false):=by
   intro r
   induction r with
   | nil=>exact fun k=>⟨fun x hx=>(by cases hx),fun _=>rfl⟩
   | cons g r ih =>
    intro k
    have ih1:_:=ih (k+1)
    have ek:((k+1:Nat):Int)=(k:Int)+1:=rfl
    rw [ek] at ih1
    rw [eds,exG]
    cases hh:holdB ri ob day g with
    | false=>exact ih1
    | true =>
     rw [show (bif true then ({ ix:=(k:Int),fr:=g.fr,to:=g.to }:Ed)::eds ri ob day r ((k:Int)+1) else eds ri ob day r ((k:Int)+1))=(⟨(k:Int),g.fr,g.to⟩:Ed)::eds ri ob day r ((k:Int)+1) from rfl,stepN_cons]
     show (∀ x,(bif g.fr==t&&!c.contains (k:Int) then (c++[(k:Int)],g.to)::_ else _).findSome? _=some x→(bif true&&(g.fr==t&&!c.contains (k:Int)) then _ else _)=_)∧((bif g.fr==t&&!c.contains (k:Int) then (c++[(k:Int)],g.to)::_ else _).findSome? _=none→((bif true&&(g.fr==t&&!c.contains (k:Int)) then _ else _):List Int × Bool).2=_)
     cases hf:(g.fr==t&&!c.contains (k:Int)) with
     | false=>exact ih1
     | true =>
      show (∀ x,(((c++[(k:Int)],g.to):Way)::stepN (eds ri ob day r ((k:Int)+1)) (c,t)).findSome? (extG (eds ri ob day G 0) of f)=some x→(bif (exF ri ob day G of f (c++[(k:Int)]) g.to).2 then ((exF ri ob day G of f (c++[(k:Int)]) g.to).1,true) else exG ri ob day (exF ri ob day G of f) c t r (k+1))=(x,true))∧((((c++[(k:Int)],g.to):Way)::stepN (eds ri ob day r ((k:Int)+1)) (c,t)).findSome? (extG (eds ri ob day G 0) of f)=none→(bif (exF ri ob day G of f (c++[(k:Int)]) g.to).2 then ((exF ri ob day G of f (c++[(k:Int)]) g.to).1,true) else exG ri ob day (exF ri ob day G of f) c t r (k+1)).2=false)
      have h1:=exF_ext (G:=G) (of:=of) f (c++[(k:Int)]) g.to
      rw [List.findSome?_cons]
      cases hx:extG (eds ri ob day G 0) of f (c++[(k:Int)],g.to) with
      | some y =>
       rw [h1.1 y hx]
       exact ⟨fun x e=>by cases e; rfl,fun e=>by cases e⟩
      | none =>
       rw [h1.2 hx]
       exact ih1
  exact key G 0
theorem lv_len {E:List Ed} {top:Nm}:∀ {d:Nat} {w:Way},w∈(lv E top d).1→w.1.length=d
 | 0,w,h=>by rw [List.mem_singleton.1 h]; rfl
 | d+1,w,h=>by
  obtain ⟨v,hv,hz⟩:=List.mem_flatMap.1 (mem_dd h).1
  obtain ⟨e,_,_,rfl⟩:=mem_stepF.1 hz
  show (v.1++[e.ix]).length=d+1
  rw [List.length_append,lv_len hv]; rfl
variable (of : List UInt8)
theorem rb_not {G:List Gr} {top:Nm}:∀ {d:Nat},(∀ e,e < d→fnd ri ob day of G top e=none)→of∉rb (eds ri ob day G 0) top d
 | 0,_=>fun h=>by cases h
 | d+1,h=>fun hm=>by
  rcases rb_mem.1 hm with h1 | ⟨w,hw,e⟩
  ·exact rb_not (fun e he=>h e (by omega)) h1
  ·have h2:=List.find?_eq_none.1 (h d (Nat.lt_succ_self d)) w hw
   exact h2 (beq_iff_eq.2 e)
theorem catl_some {G:List Gr} {top:Nm} {v:Way}:∀ {k d e:Nat},d≤e→e < d+k→fnd ri ob day of G top e=some v→(∀ e',d≤e'→e' < e→fnd ri ob day of G top e'=none)→(catl (eds ri ob day G 0) top d k).find? (fun z=>z.2==of)=some v
 | 0,d,e,h1,h2,_,_=>absurd h2 (by omega)
 | k+1,d,e,h1,h2,h3,h4=>by
  show ((lv (eds ri ob day G 0) top d).1++catl (eds ri ob day G 0) top (d+1) k).find? _=_
  rw [List.find?_append]
  by_cases h:d=e
  ·subst h
   have h3:(lv (eds ri ob day G 0) top d).1.find? (fun z=>z.2==of)=some v:=h3
   rw [h3]; rfl
  ·have h5:(lv (eds ri ob day G 0) top d).1.find? (fun z=>z.2==of)=none:=h4 d (Nat.le_refl _) (by omega)
   rw [h5]
   exact catl_some (k:=k) (d:=d+1) (e:=e) (by omega) (by omega) h3 (fun e' h6 h7=>h4 e' (by omega) h7)
theorem catl_none {G:List Gr} {top:Nm}:∀ {k d:Nat},(∀ e,fnd ri ob day of G top e=none)→(catl (eds ri ob day G 0) top d k).find? (fun z=>z.2==of)=none
 | 0,_,_=>rfl
 | k+1,d,h=>by
  show ((lv (eds ri ob day G 0) top d).1++catl (eds ri ob day G 0) top (d+1) k).find? _=_
  have h5:(lv (eds ri ob day G 0) top d).1.find? (fun z=>z.2==of)=none:=h d
  rw [List.find?_append,h5]
  exact catl_none h
theorem goW_find (F:Int→List Int):∀ S:List Way,goW of F (nmsW S) (lenW S)=(match S.find? (fun z=>z.2==of) with | none=>([],7) | some v=>(F (v.1.length:Int),0))
 | []=>rfl
 | w::S=>by
  show (bif w.2==of then (F (w.1.length:Int),(0:Int)) else goW of F (nmsW S) (lenW S))=_
  rw [List.find?_cons]
  cases h:(w.2==of) with
  | true=>rfl
  | false=>exact goW_find F S
theorem nms_has:∀ S:List Way,(nmsW S).contains of=(S.find? (fun z=>z.2==of)).isSome
 | []=>rfl
 | w::S=>by
  show (w.2::nmsW S).contains of=_
  rw [List.contains_cons,List.find?_cons,show (of==w.2)=(w.2==of) from Bool.eq_iff_iff.2 (by rw [beq_iff_eq,beq_iff_eq]; exact eq_comm),nms_has S]
  cases (w.2==of) <;> rfl
theorem chain_lv (l:List Ob) (G:List Gr):(∃ e v,fnd ri ob day of G ((ownO l ob).getD []) e=some v∧(∀ e',e' < e→fnd ri ob day of G ((ownO l ob).getD []) e'=none)∧chainP l G ri ob day of=some v.1)∨((∀ e,fnd ri ob day of G ((ownO l ob).getD []) e=none)∧chainP l G ri ob day of=none):=by
 generalize hT:(ownO l ob).getD []=T
 unfold chainP
 rw [hT]
 cases h:(of==T) with
 | true =>
  refine .inl ⟨0,([],T),?_,fun e' he=>absurd he (Nat.not_lt_zero _),rfl⟩
  show [(([],T):Way)].find? (fun z=>z.2==of)=_
  rw [List.find?_cons_of_pos (p:=fun (z:Way)=>z.2==of) (by show (T==of)=true; rw [beq_iff_eq.1 h]; exact beq_self_eq_true T)]
 | false =>
  have h0:fnd ri ob day of G T 0=none:=by
   show [(([],T):Way)].find? (fun z=>z.2==of)=_
   rw [List.find?_cons_of_neg (p:=fun (z:Way)=>z.2==of) (by show ¬ (T==of)=true; intro e; rw [beq_iff_eq.1 e,beq_self_eq_true] at h; cases h)]
   rfl
  have hm:mea G [(([],T):Way)] [T] < 2 * G.length+2:=by
   have:=cntR_le [T] G
   show 2 * cntR [T] G+1 < _
   omega
  rcases srch_lv ri ob day of (G:=G) (top:=T) (f:=2 * G.length+2) (d:=0) (R:=[T]) (fun x=>Iff.rfl) hm with ⟨e,v,h1,h2,h3,h4⟩ | ⟨h1,h2⟩
  ·refine .inl ⟨e,v,h2,fun e' he=>?_,h4⟩
   by_cases h5:e'=0
   ·rw [h5]; exact h0
   ·exact h3 e' (by omega) he
  ·refine .inr ⟨fun e=>?_,h2⟩
   by_cases h5:e=0
   ·rw [h5]; exact h0
   ·exact h1 e (by omega)
theorem chain_ref (l : List Ob) (G : List Gr) : (hoL ri ob day G (G.length + 2) 0 [(ownO l ob).getD []] [0]).1.contains of = (chainP l G ri ob day of).isSome ∧
  goW of (whyF G of ri ob day (hoL ri ob day G (G.length+2) 0 [(ownO l ob).getD []] [0]).1) (hoL ri ob day G (G.length+2) 0 [(ownO l ob).getD []] [0]).1 (hoL ri ob day G (G.length+2) 0 [(ownO l ob).getD []] [0]).2=((chainP l G ri ob day of).getD [],bif (chainP l G ri ob day of).isSome then 0 else 7):=by
 have hch:=chain_lv ri ob day of l G
 generalize (ownO l ob).getD []=T at hch ⊢
 have h1:hoL ri ob day G (G.length+2) 0 [T] [0]=(nmsW (hoW (eds ri ob day G 0) (G.length+2) 0 [([],T)]),lenW (hoW (eds ri ob day G 0) (G.length+2) 0 [([],T)])):=hoL_hoW ri ob day G (G.length+2) 0 [([],T)]
 obtain ⟨k,hk,hk2⟩:=hoW_lv ri ob day (G:=G) (top:=T) (G.length+2) 0 [] [] [([],T)] rfl (fun x=>Iff.rfl) (by
  have:=cntR_le [T] G
  show cntR [T] G+1 < G.length+2
  omega)
 have hk:hoW (eds ri ob day G 0) (G.length+2) 0 [([],T)]=catl (eds ri ob day G 0) T 0 k:=hk
 have hk0:k≠0:=fun e=>by rw [e] at hk2; cases hk2
 rw [h1,hk]
 have hT0:(nmsW (catl (eds ri ob day G 0) T 0 k))[0]?.getD []=T:=by
  cases k with
  | zero=>exact absurd rfl hk0
  | succ k=>rfl
 show (nmsW (catl (eds ri ob day G 0) T 0 k)).contains of=_∧goW of (whyF G of ri ob day (nmsW (catl (eds ri ob day G 0) T 0 k))) (nmsW (catl (eds ri ob day G 0) T 0 k)) (lenW (catl (eds ri ob day G 0) T 0 k))=_
 rw [nms_has,goW_find]
 rcases hch with ⟨e,v,h2,h3,h4⟩ | ⟨h2,h4⟩
 ·have he : e < 0 + k := by
   refine Classical.byContradiction fun hn=>?_
   have hk3:(lv (eds ri ob day G 0) T k).1=[]:=by rw [Nat.zero_add] at hk2; exact hk2
   rw [fnd_nil ri ob day of hk3 (by omega)] at h2
   cases h2
  rw [catl_some ri ob day of (Nat.zero_le _) he h2 (fun e' _ h=>h3 e' h),h4]
  have hvl:v.1.length=e:=lv_len (List.mem_of_find?_eq_some h2)
  have hx:=ext_lv (eds_inj ri ob day G 0) (top:=T) (x:=of) (d:=e) (rb_not ri ob day of h3)
  have h2':(lv (eds ri ob day G 0) T e).1.find? (fun w=>w.2==of)=some v:=h2
  rw [h2'] at hx
  have hF:=(exF_ext ri ob day (G:=G) (of:=of) e [] T).1 v.1 hx
  refine ⟨rfl,?_⟩
  show (whyF G of ri ob day (nmsW (catl (eds ri ob day G 0) T 0 k)) (v.1.length:Int),(0:Int))=(v.1,0)
  unfold whyF
  rw [hT0,hvl]
  show ((exF ri ob day G of e [] T).1,(0:Int))=_
  rw [hF]
 ·rw [catl_none ri ob day of h2,h4]
  exact ⟨rfl,rfl⟩
end
end Vc
