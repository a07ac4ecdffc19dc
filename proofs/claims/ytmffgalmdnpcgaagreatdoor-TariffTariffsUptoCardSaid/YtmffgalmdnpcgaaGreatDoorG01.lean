import Derived.Test.YtmffgalmdnpcgaaGreatDoorG00
import Derived.Laws.Strings
import Derived.Laws.Concat
import Derived.Great.BuildSlice
set_option linter.unusedSectionVars false
set_option linter.unusedVariables false
set_option linter.unusedSimpArgs false
set_option linter.unusedSimpArgs false
set_option linter.unusedVariables false
namespace Vc
open Go Go.RowKit
theorem VRels_length {w:World} {G:Gh} {h:List AObj}:∀ {xs:List AVal} {vs:List Value},VRels w G h xs vs→vs.length=xs.length
 | [],vs,hv=>by simp only [VRels] at hv; subst hv; rfl
 | x::xs,vs,hv=>by
  simp only [VRels] at hv
  obtain ⟨v,r,rfl,_,h2⟩:=hv
  simp [VRels_length h2]
theorem VRels_cons {w:World} {G:Gh} {h:List AObj} {x:AVal} {xs:List AVal} {v:Value} {vs:List Value}:VRels w G h (x::xs) (v::vs)↔VRel w G h x v∧VRels w G h xs vs:=by
 simp only [VRels]
 constructor
 ·rintro ⟨v',r,e,h1,h2⟩; cases e; exact ⟨h1,h2⟩
 ·rintro ⟨h1,h2⟩; exact ⟨v,vs,rfl,h1,h2⟩
theorem VRels_drop {w:World} {G:Gh} {h:List AObj}:∀ {xs:List AVal} {vs:List Value} (i:Nat),VRels w G h xs vs→VRels w G h (xs.drop i) (vs.drop i)
 | [],vs,i,hv=>by simp only [VRels] at hv; subst hv; simp [VRels]
 | x::xs,vs,0,hv=>by simpa using hv
 | x::xs,vs,i+1,hv=>by
  simp only [VRels] at hv
  obtain ⟨v,r,rfl,_,h2⟩:=hv
  simpa using VRels_drop i h2
theorem VRels_take {w:World} {G:Gh} {h:List AObj}:∀ {xs:List AVal} {vs:List Value} (i:Nat),VRels w G h xs vs→VRels w G h (xs.take i) (vs.take i)
 | [],vs,i,hv=>by simp only [VRels] at hv; subst hv; simp [VRels]
 | x::xs,vs,0,hv=>by simp [VRels]
 | x::xs,vs,i+1,hv=>by
  simp only [VRels] at hv
  obtain ⟨v,r,rfl,h1,h2⟩:=hv
  simp only [List.take_succ_cons]
  exact VRels_cons.2 ⟨h1,VRels_take i h2⟩
theorem VRels_append {w:World} {G:Gh} {h:List AObj}:∀ {xs ys:List AVal} {vs us:List Value},VRels w G h xs vs→VRels w G h ys us→VRels w G h (xs++ys) (vs++us)
 | [],ys,vs,us,hv,hu=>by simp only [VRels] at hv; subst hv; simpa using hu
 | x::xs,ys,vs,us,hv,hu=>by
  simp only [VRels] at hv
  obtain ⟨v,r,rfl,h1,h2⟩:=hv
  exact VRels_cons.2 ⟨h1,VRels_append h2 hu⟩
theorem DRels_length {w:World} {S:Nat→Nat→Prop}:∀ {xs:List Data} {vs:List Value},DRels w S xs vs→vs.length=xs.length
 | [],vs,hv=>by simp only [DRels] at hv; subst hv; rfl
 | x::xs,vs,hv=>by
  simp only [DRels] at hv
  obtain ⟨v,r,rfl,_,_,h2⟩:=hv
  simp [DRels_length h2]
theorem DRels_VRels {w:World} {G:Gh} {h:List AObj}:∀ {ds:List Data} {vs:List Value},DRels w G.S ds vs→VRels w G h (dcells ds) vs
 | [],vs,hv=>by simp only [DRels] at hv; subst hv; simp [dcells,VRels]
 | d::ds,vs,hv=>by
  simp only [DRels] at hv
  obtain ⟨v,r,rfl,_,h1,h2⟩:=hv
  simp only [dcells,List.map_cons]
  exact VRels_cons.2 ⟨by simpa [VRel] using h1,DRels_VRels h2⟩
theorem DRel_one {w:World} {S:Nat→Nat→Prop} {d:Data} {v:Value} (hv:DRel w S d v) (ha:d.isAgg=false):v.oneCell'=true:=by
 cases d with
 | agg cs=>simp [Data.isAgg] at ha
 | int k m=>simp only [DRel] at hv; subst hv; rfl
 | bool b=>simp only [DRel] at hv; subst hv; rfl
 | str l=>simp only [DRel] at hv; subst hv; rfl
 | slice sz es=>simp only [DRel] at hv; obtain ⟨_,_,e,_⟩:=hv; subst e; rfl
 | fn f c=>simp only [DRel] at hv; obtain ⟨_,e,_⟩:=hv; subst e; rfl
theorem DRels_one {w:World} {S:Nat→Nat→Prop}:∀ {ds:List Data} {vs:List Value},DRels w S ds vs→∀ u∈vs,u.oneCell'=true
 | [],vs,hv=>by simp only [DRels] at hv; subst hv; simp
 | d::ds,vs,hv=>by
  simp only [DRels] at hv
  obtain ⟨v,r,rfl,h0,h1,h2⟩:=hv
  intro u hu
  rcases List.mem_cons.1 hu with e | e
  ·rw [e]; exact DRel_one h1 h0
  ·exact DRels_one h2 u e
theorem take?_eq {α:Type}:∀ {n:Nat} {cs l:List α},cut.take? n cs=some l→l=cs.take n∧n≤cs.length
 | 0,cs,l,h=>by simp [cut.take?] at h; subst h; simp
 | n+1,[],l,h=>by simp [cut.take?] at h
 | n+1,x::r,l,h=>by
  simp only [cut.take?] at h
  split at h
  ·rename_i l' hl'
   cases h
   obtain ⟨rfl,h2⟩:=take?_eq hl'
   exact ⟨by simp,by simp; omega⟩
  ·cases h
theorem cut_eq {α:Type}:∀ {off:Nat} {cs l:List α} {n:Nat},cut cs off n=some l→l=(cs.drop off).take n∧off+n≤cs.length
 | 0,cs,l,n,h=>by
  have h':cut.take? n cs=some l:=by cases cs <;> simpa [cut] using h
  obtain ⟨h1,h2⟩:=take?_eq h'
  exact ⟨by simpa using h1,by omega⟩
 | off+1,[],l,n,h=>by simp [cut] at h
 | off+1,c::r,l,n,h=>by
  simp only [cut] at h
  obtain ⟨h1,h2⟩:=cut_eq h
  exact ⟨by simpa using h1,by simp; omega⟩
theorem over_eq {α:Type}:∀ (cs news:List α),news.length≤cs.length→lay.over cs news=news++cs.drop news.length
 | cs,[],_=>by simp [lay.over]
 | [],_::_,h=>by simp at h
 | c::r,x::xs,h=>by simp [lay.over,over_eq r xs (by simpa using h)]
theorem lay_eq {α:Type}:∀ (off:Nat) (cs news:List α),off+news.length≤cs.length→lay cs off news=cs.take off++news++cs.drop (off+news.length)
 | 0,cs,news,h=>by
  have:lay cs 0 news=lay.over cs news:=by cases cs <;> rfl
  rw [this,over_eq cs news (by omega)]
  simp
 | off+1,[],news,h=>by simp at h
 | off+1,c::r,news,h=>by
  simp only [lay]
  rw [lay_eq off r news (by simp at h; omega)]
  have:off+1+news.length=(off+news.length)+1:=by omega
  simp [this]
theorem allD_some:∀ {cs:List AVal} {ds:List Data},allD cs=some ds→cs=dcells ds∧∀ d∈ds,d.isAgg=false
 | [],ds,h=>by simp [allD] at h; subst h; exact ⟨rfl,by simp⟩
 | c::r,ds,h=>by
  cases c <;> simp only [allD] at h <;> try (cases h; done)
  split at h
  ·cases h
  ·rename_i hx
   split at h
   ·rename_i ds' h'
    cases h
    obtain ⟨h1,h2⟩:=allD_some h'
    exact ⟨by simp [dcells,h1],fun d hd=>(List.mem_cons.1 hd).elim (fun e=>by rw [e]; exact hx) (fun e=>h2 d e)⟩
   ·cases h
theorem DRels_of {w:World} {G:Gh} {h:List AObj}:∀ {ds:List Data} {vs:List Value},(∀ d∈ds,d.isAgg=false)→VRels w G h (dcells ds) vs→DRels w G.S ds vs
 | [],vs,_,hv=>by simpa [dcells,VRels,DRels] using hv
 | d::ds,vs,ha,hv=>by
  simp only [dcells,List.map_cons,VRels] at hv
  obtain ⟨v,r,rfl,h1,h2⟩:=hv
  simp only [DRels]
  exact ⟨v,r,rfl,ha d List.mem_cons_self,by simpa [VRel] using h1,DRels_of (fun x hx=>ha x (List.mem_cons_of_mem _ hx)) h2⟩
section
variable {P : Program} [Laid P] {n base : Nat} {w0 : W0} {w : World} {G : Gh} {st : St} {a : Act} {o : Oper} {r : Option Nat}
def Goes (P:Program) (n base:Nat) (w0:W0) (w:World) (st:St) (a:Act) (o:Oper) (r:Option Nat) (v:AVal) (ws:List (Nat × AObj)):Prop :=
 ∀ (K:Act→World→Prop) (Q:Exit→Act→World→Prop),
  (∀ x w' G',Rel n base w0 G' ⟨st.slots,applyW st.heap ws⟩ a w'→VRel w' G' (applyW st.heap ws) v x→K (a.put o.dst x) w')→o.wpIn (Fw r) 0 P a w K Q
theorem goes_value {v : AVal} {ws : List (Nat × AObj)} {x : Value} {w' : World} {G' : Gh} (hnd : ∀ c, o.op ≠ .defer c) (hrun : (execOp a.eval o).run P w = .ok (.value x) w')
  (hr:Rel n base w0 G' ⟨st.slots,applyW st.heap ws⟩ a w') (hv:VRel w' G' (applyW st.heap ws) v x):Goes P n base w0 w st a o r v ws:=by
 intro K Q hK
 refine ⟨fun _ _=>trivial,?_⟩
 rw [Oper.semAt_eq _ _ _ hnd,hrun]
 exact hK x w' G' hr hv
theorem goes_skip {ws : List (Nat × AObj)} {w' : World} {G' : Gh} (hnd : ∀ c, o.op ≠ .defer c) (hrun : (execOp a.eval o).run P w = .ok .skip w')
  (hr:Rel n base w0 G' ⟨st.slots,applyW st.heap ws⟩ a w'):Goes P n base w0 w st a o r .undef ws:=by
 intro K Q hK
 refine ⟨fun _ _=>trivial,?_⟩
 rw [Oper.semAt_eq _ _ _ hnd,hrun]
 exact hK undef w' G' hr (by simp [VRel])
theorem constOk_rel {h:List AObj} {v:Value} {x:AVal} (hc:constOk v x=true):VRel w G h x v:=by
 unfold constOk at hc
 split at hc
 ·simp at hc; obtain ⟨rfl,rfl⟩:=hc; simp [VRel,DRel]
 ·simp at hc; subst hc; simp [VRel,DRel]
 ·rename_i s l
  simp at hc
  subst hc
  simp [VRel,DRel,str]
 ·simp [VRel]
 ·simp [VRel,DRel]
 ·simp at hc
  obtain ⟨⟨rfl,h1⟩,h2⟩:=hc
  simp only [VRel,DRel]
  exact ⟨[],by simp [h1,h2],by simp [DCaps]⟩
 ·simp [VRel]
 ·simp [VRel]
 ·simp [VRel]
 ·simp [VRel]
 ·simp [VRel]
 ·cases hc
theorem constOk_one {v:Value} {x:AVal} (hc:constOk v x=true):v.oneCell'=true:=by
 unfold constOk at hc
 split at hc <;> first | rfl | cases hc
theorem constsOk_one:∀ {vs:List Value} {xs:List AVal},constsOk vs xs=true→∀ u∈vs,u.oneCell'=true
 | [],[],_=>by simp
 | v::vs,x::xs,hc=>by
  simp only [constsOk,Bool.and_eq_true] at hc
  intro u hu
  rcases List.mem_cons.1 hu with e | e
  ·rw [e]; exact constOk_one hc.1
  ·exact constsOk_one hc.2 u e
 | [],_::_,hc=>by simp [constsOk] at hc
 | _::_,[],hc=>by simp [constsOk] at hc
theorem constsOk_rel {h:List AObj}:∀ {vs:List Value} {xs:List AVal},constsOk vs xs=true→VRels w G h xs vs
 | [],[],_=>by simp [VRels]
 | v::vs,x::xs,hc=>by
  simp only [constsOk,Bool.and_eq_true] at hc
  exact VRels_cons.2 ⟨constOk_rel hc.1,constsOk_rel hc.2⟩
 | [],_::_,hc=>by simp [constsOk] at hc
 | _::_,[],hc=>by simp [constsOk] at hc
theorem chkOpd_rel (hr:Rel n base w0 G st a w) {x:Operand} {y:Opd} (hc:chkOpd x y=true):VRel w G st.heap (ev (getL st.slots) y) (a.eval x):=by
 unfold chkOpd at hc
 split at hc
 ·have:=Nat.eq_of_beq_eq_true hc
  subst this
  exact hr.get _
 ·exact constOk_rel hc
 ·have:=Nat.eq_of_beq_eq_true hc
  subst this
  simp only [ev,Act.eval,VRel,DRel]
  exact ⟨[],rfl,by simp [DCaps]⟩
 ·have:=Nat.eq_of_beq_eq_true hc
  subst this
  simp only [ev,Act.eval,VRel]
 ·cases hc
theorem chkOpds_rel (hr:Rel n base w0 G st a w):∀ {xs:List Operand} {ys:List Opd},chkOpds xs ys=true→VRels w G st.heap (evs (getL st.slots) ys) (xs.map a.eval)
 | [],[],_=>by simp [VRels,evs]
 | x::xs,y::ys,hc=>by
  simp only [chkOpds,Bool.and_eq_true] at hc
  simp only [evs,List.map_cons]
  exact VRels_cons.2 ⟨chkOpd_rel hr hc.1,chkOpds_rel hr hc.2⟩
 | [],_::_,hc=>by simp [chkOpds] at hc
 | _::_,[],hc=>by simp [chkOpds] at hc
theorem sizeIs_spec {t:TypeId} {k:Nat} (h:sizeIs P t k=true):∃ i d,P.info? t=some i∧i.size=k∧P.underlying t=some d:=by
 unfold sizeIs at h
 split at h
 ·rename_i i hi
  simp only [Bool.and_eq_true] at h
  obtain ⟨d,hd⟩:=Option.isSome_iff_exists.1 h.2
  exact ⟨i,d,hi,Nat.eq_of_beq_eq_true h.1,hd⟩
 ·cases h
theorem run_sizeOf {t:TypeId} {i:TypeInfo} (hi:P.info? t=some i):(Go.sizeOf t).run P w=.ok i.size w:=by simp [Go.sizeOf,typeInfo,hi]
theorem run_isAgg {t:TypeId} {d:TypeDesc} (hd:P.underlying t=some d):(isAgg t).run P w=.ok (isAggT P t) w:=by
 simp only [isAgg,Sem.run_bind,run_underlying hd,Result.andThen_ok,isAggT,hd]
 cases d <;> simp
theorem go_mov (hr : Rel n base w0 G st a w) {x : Operand} {y : Opd} (ho : o.op = .move x ∨ o.op = .assign x) (hc : chkOpd x y = true) :
  Goes P n base w0 w st a o r (ev (getL st.slots) y) []:=by
 refine goes_value (by rcases ho with h | h <;> simp [h]) (x:=a.eval x) (w':=w) (G':=G) ?_ hr (chkOpd_rel hr hc)
 rcases ho with h | h <;> simp [execOp,h]
theorem bool_of {h:List AObj} {b:Bool} {v:Value} (hv:VRel w G h (.d (.bool b)) v):v=.bool b:=by simpa [VRel,DRel] using hv
theorem int_of {h:List AObj} {k:IntKind} {m:Int} {v:Value} (hv:VRel w G h (.d (.int k m)) v):v=.int k m:=by simpa [VRel,DRel] using hv
theorem str_of {h:List AObj} {l:List UInt8} {v:Value} (hv:VRel w G h (.d (.str l)) v):v=str l:=by simpa [VRel,DRel] using hv
theorem go_pick (hr : Rel n base w0 G st a w) {c x y : Operand} {c' x' y' : Opd} (ho : o.op = .pick c x y) (hc : chkOpd c c' = true) (hx : chkOpd x x' = true) (hy : chkOpd y y' = true)
  {v:AVal} {ws:List (Nat × AObj)} {rs:List Nat} (he:ERun (eff P (getL st.slots) (.pick c' x' y')) st.heap v ws rs):Goes P n base w0 w st a o r v ws:=by
 have h1:=chkOpd_rel hr hc
 have h2:=chkOpd_rel hr hx
 have h3:=chkOpd_rel hr hy
 simp only [eff] at he
 split at he
 ·rename_i b hb
  rw [hb] at h1
  have e1:=bool_of h1
  split at he
  ·rename_i p q hp hq
   obtain ⟨rfl,rfl,rfl⟩:=he
   rw [hp] at h2; rw [hq] at h3
   refine goes_value (by simp [ho]) (x:=.bool (cond b p q)) (w':=w) (G':=G) ?_ hr (by simp [VRel,DRel])
   simp only [execOp,ho,e1,bool_of h2,bool_of h3,asBool]
   cases b <;> simp
  ·rename_i p hp hq
   obtain ⟨hbt,rfl,rfl,rfl⟩:=he
   subst hbt
   rw [hp] at h2
   refine goes_value (by simp [ho]) (x:=.bool p) (w':=w) (G':=G) ?_ hr (by simp [VRel,DRel])
   simp [execOp,ho,e1,bool_of h2,asBool]
  ·rename_i q hp hq
   obtain ⟨hbt,rfl,rfl,rfl⟩:=he
   subst hbt
   rw [hq] at h3
   refine goes_value (by simp [ho]) (x:=.bool q) (w':=w) (G':=G) ?_ hr (by simp [VRel,DRel])
   simp [execOp,ho,e1,bool_of h3,asBool]
  ·exact he.elim
 ·exact he.elim
end
end Vc
set_option linter.unusedSimpArgs false
set_option linter.unusedVariables false
namespace Vc
open Go Go.RowKit
section
variable {P : Program} [Laid P] {n base : Nat} {w0 : W0} {w : World} {G : Gh} {st : St} {a : Act} {o : Oper} {r : Option Nat} {v : AVal} {ws : List (Nat × AObj)} {rs : List Nat}
theorem loadE_rel {h : List AObj} {ag : Bool} {k off : Nat} {cs : List AVal} {vs : List Value} (hv : VRels w G h cs vs) (hone : ∀ u ∈ vs, u.oneCell' = true) {h0 : List AObj} (he : ERun (loadE ag k off cs) h0 v ws rs) :
  ws=[]∧rs=[]∧off+k≤vs.length∧((ag=true∧VRel w G h v (.agg ((vs.drop off).take k).toArray))∨(ag=false∧∃ x,vs[off]?=some x∧VRel w G h v x)):=by
 have hl:=VRels_length hv
 unfold loadE at he
 split at he
 ·rename_i l hcut
  obtain ⟨rfl,h2⟩:=cut_eq hcut
  have hs:=VRels_take k (VRels_drop off hv)
  split at he
  ·obtain ⟨rfl,rfl,rfl⟩:=he
   refine ⟨rfl,rfl,by omega,.inl ⟨rfl,?_⟩⟩
   unfold ofCells
   split
   ·rename_i ds hds
    obtain ⟨h3,h4⟩:=allD_some hds
    simp only [VRel,DRel]
    exact ⟨_,rfl,DRels_of (G:=G) (h:=h) h4 (h3 ▸ hs)⟩
   ·simp only [VRel]
    exact ⟨_,rfl,hs,fun u hu=>hone u (List.mem_of_mem_drop (List.mem_of_mem_take hu))⟩
  ·rename_i v' hv'
   obtain ⟨rfl,rfl,rfl⟩:=he
   refine ⟨rfl,rfl,by omega,.inr ⟨rfl,?_⟩⟩
   rw [hv'] at hs
   simp only [VRels] at hs
   obtain ⟨x,r',e,h3,rfl⟩:=hs
   refine ⟨x,?_,h3⟩
   have:((vs.drop off).take k)[0]?=some x:=by rw [e]; rfl
   rw [List.getElem?_take] at this
   split at this
   ·simpa using this
   ·cases this
  ·exact he.elim
 ·exact he.elim
theorem DCs_get {S:Nat→Nat→Prop}:∀ {ds:List Data} {b off:Nat},DCs w S ds b off→∃ vs:List Value,DRels w S ds vs∧∀ j x,vs[j]?=some x→w.cell? ⟨b,off+j,none⟩=some x∧S b (off+j)
 | [],b,off,_=>⟨[],by simp [DRels],by simp⟩
 | d::ds,b,off,h=>by
  simp only [DCs] at h
  obtain ⟨h1,h2,⟨x,h3,h4⟩,h5⟩:=h
  obtain ⟨vs,h6,h7⟩:=DCs_get h5
  refine ⟨x::vs,by simp only [DRels]; exact ⟨x,vs,rfl,h1,h4,h6⟩,fun j y hj=>?_⟩
  cases j with
  | zero=>simp at hj; subst hj; exact ⟨h3,h2⟩
  | succ j =>
   have:=h7 j y (by simpa using hj)
   rwa [show off+(j+1)=off+1+j by omega]
theorem DRels_drop {S:Nat→Nat→Prop}:∀ {xs:List Data} {vs:List Value} (i:Nat),DRels w S xs vs→DRels w S (xs.drop i) (vs.drop i)
 | [],vs,i,hv=>by simp only [DRels] at hv; subst hv; simp [DRels]
 | x::xs,vs,0,hv=>by simpa using hv
 | x::xs,vs,i+1,hv=>by
  simp only [DRels] at hv
  obtain ⟨v,r,rfl,_,_,h2⟩:=hv
  simpa using DRels_drop i h2
theorem DRels_take {S:Nat→Nat→Prop}:∀ {xs:List Data} {vs:List Value} (i:Nat),DRels w S xs vs→DRels w S (xs.take i) (vs.take i)
 | [],vs,i,hv=>by simp only [DRels] at hv; subst hv; simp [DRels]
 | x::xs,vs,0,hv=>by simp [DRels]
 | x::xs,vs,i+1,hv=>by
  simp only [DRels] at hv
  obtain ⟨v,r,rfl,h0,h1,h2⟩:=hv
  simp only [List.take_succ_cons,DRels]
  exact ⟨v,_,rfl,h0,h1,DRels_take i h2⟩
theorem DRels_get {S:Nat→Nat→Prop}:∀ {xs:List Data} {vs:List Value} {i:Nat} {d:Data},DRels w S xs vs→xs[i]?=some d→∃ x,vs[i]?=some x∧DRel w S d x∧d.isAgg=false
 | [],vs,i,d,hv,hd=>by simp at hd
 | x::xs,vs,0,d,hv,hd=>by
  simp only [DRels] at hv
  obtain ⟨v,r,rfl,h0,h1,h2⟩:=hv
  simp at hd; subst hd
  exact ⟨v,rfl,h1,h0⟩
 | x::xs,vs,i+1,d,hv,hd=>by
  simp only [DRels] at hv
  obtain ⟨v,r,rfl,h0,h1,h2⟩:=hv
  simpa using DRels_get h2 (by simpa using hd)
theorem loadD_rel {h : List AObj} {ag : Bool} {k off : Nat} {cs : List Data} {vs : List Value} (hv : DRels w G.S cs vs) {h0 : List AObj} (he : ERun (loadD ag k off cs) h0 v ws rs) :
  ws=[]∧rs=[]∧off+k≤vs.length∧((ag=true∧VRel w G h v (.agg ((vs.drop off).take k).toArray))∨(ag=false∧∃ x,vs[off]?=some x∧VRel w G h v x)):=by
 have hl:=DRels_length hv
 unfold loadD at he
 split at he
 ·rename_i l hcut
  obtain ⟨rfl,h2⟩:=cut_eq hcut
  have hs:=DRels_take k (DRels_drop off hv)
  split at he
  ·obtain ⟨rfl,rfl,rfl⟩:=he
   exact ⟨rfl,rfl,by omega,.inl ⟨rfl,by simp only [VRel,DRel]; exact ⟨_,rfl,hs⟩⟩⟩
  ·rename_i d' hd'
   obtain ⟨rfl,rfl,rfl⟩:=he
   refine ⟨rfl,rfl,by omega,.inr ⟨rfl,?_⟩⟩
   have h3:cs[off]?=some d':=by
    have:((cs.drop off).take k)[0]?=some d':=by rw [hd']; rfl
    rw [List.getElem?_take] at this
    split at this
    ·simpa using this
    ·cases this
   obtain ⟨x,h4,h5,_⟩:=DRels_get hv h3
   exact ⟨x,h4,by simpa [VRel] using h5⟩
  ·exact he.elim
 ·exact he.elim
theorem run_loadVar {t : TypeId} {i : TypeInfo} {d : TypeDesc} (hi : P.info? t = some i) (hd : P.underlying t = some d) {b off k : Nat} {vs : List Value} (hk : i.size = k) (hlen : off + k ≤ vs.length)
  {b0:Nat} (hc:∀ j x,vs[j]?=some x→w.cell? ⟨b,b0+j,none⟩=some x) {ag:Bool} (hag:isAggT P t=ag) :
  (ag=true→(loadVar t ⟨b,b0+off,none⟩).run P w=.ok (.agg ((vs.drop off).take k).toArray) w) ∧
  (ag=false→∀ x,vs[off]?=some x→(loadVar t ⟨b,b0+off,none⟩).run P w=.ok x w):=by
 have hadd:∀ j,(⟨b,b0+off,none⟩:Addr).add j=⟨b,b0+off+j,none⟩:=fun j=>by unfold Addr.add; split <;> simp_all
 constructor
 ·intro h
  have hl:=run_loadCells_list (P:=P) w ⟨b,b0+off,none⟩ ((vs.drop off).take k) (fun j x hj=>by
   rw [hadd,Nat.add_assoc]
   refine hc (off+j) x ?_
   rw [List.getElem?_take] at hj
   split at hj
   ·simpa using hj
   ·cases hj)
  have hlen':((vs.drop off).take k).length=k:=by simp; omega
  rw [hlen'] at hl
  simp only [loadVar,Sem.run_bind,run_isAgg hd,Result.andThen_ok,hag,h,if_true,run_sizeOf hi,hk,hl,Sem.run_pure]
 ·intro h x hx
  have:=hc off x hx
  simp only [loadVar,Sem.run_bind,run_isAgg hd,Result.andThen_ok,hag,h,Bool.false_eq_true,if_false,run_load,this]
theorem agg_run {ag : Bool} {t : TypeId} {ad : Addr} {k off : Nat} {vs : List Value} {h : List AObj}
  (hrun:(ag=true→(loadVar t ad).run P w=.ok (.agg ((vs.drop off).take k).toArray) w)∧(ag=false→∀ x,vs[off]?=some x→(loadVar t ad).run P w=.ok x w))
  (hv:(ag=true∧VRel w G h v (.agg ((vs.drop off).take k).toArray))∨(ag=false∧∃ x,vs[off]?=some x∧VRel w G h v x)) :
  ∃ x,(loadVar t ad).run P w=.ok x w∧VRel w G h v x:=by
 rcases hv with ⟨h1,h2⟩ | ⟨h1,x,h2,h3⟩
 ·exact ⟨_,hrun.1 h1,h2⟩
 ·exact ⟨x,hrun.2 h1 x h2,h3⟩
theorem heap_cell {b j:Nat} {arr:Array Value} {t:TypeId} {fr:Nat × Nat} {x:Value} (hb:w.heap[b]?=some (.cells arr t fr)) (hx:arr.toList[j]?=some x):w.cell? ⟨b,j,none⟩=some x:=by
 rw [cell_of_row w b j arr t fr hb]
 simpa using hx
theorem DRows_get {S:Nat→Nat→Prop}:∀ {es:List Data} {b off sz i:Nat} {d:Data},DRows w S es b off sz→es[i]?=some d→DCells w S d b (off+i * sz) sz
 | [],b,off,sz,i,d,_,hd=>by simp at hd
 | e::es,b,off,sz,0,d,h,hd=>by
  simp at hd; subst hd
  simpa using (DRows_cons.1 h).1
 | e::es,b,off,sz,i+1,d,h,hd=>by
  have:=DRows_get (DRows_cons.1 h).2 (by simpa using hd:es[i]?=some d)
  rwa [show off+(i+1) * sz=off+sz+i * sz by rw [Nat.add_mul]; omega]
theorem DXs_get {S:Nat→Nat→Prop}:∀ {es:List Data} {sz i:Nat} {xs:List Value} {d:Data},DXs w S es sz xs→es[i]?=some d→∃ x,x.length=sz∧DRels w S d.cells x∧∀ j y,x[j]?=some y→xs[i * sz+j]?=some y
 | [],sz,i,xs,d,_,hd=>by simp at hd
 | e::es,sz,0,xs,d,h,hd=>by
  simp at hd; subst hd
  simp only [DXs] at h
  obtain ⟨x,r,rfl,h1,h2,h3⟩:=h
  refine ⟨x,h1,h2,fun j y hj=>?_⟩
  have:j < x.length:=(List.getElem?_eq_some_iff.1 hj).1
  simp [List.getElem?_append_left this,hj]
 | e::es,sz,i+1,xs,d,h,hd=>by
  simp only [DXs] at h
  obtain ⟨x,r,rfl,h1,h2,h3⟩:=h
  obtain ⟨x',h4,h5,h6⟩:=DXs_get h3 (by simpa using hd:es[i]?=some d)
  refine ⟨x',h4,h5,fun j y hj=>?_⟩
  rw [List.getElem?_append_right (by rw [h1,Nat.add_mul]; omega)]
  rw [show (i+1) * sz+j - x.length=i * sz+j by rw [h1,Nat.add_mul]; omega]
  exact h6 j y hj
theorem go_ld (hgl : W0Ok P w0) (hr : Rel n base w0 G st a w) {t : TypeId} {x : Operand} {ag : Bool} {k : Nat} {x' : Opd} (ho : o.op = .load t x) (hs : sizeIs P t k = true) (hag : isAggT P t = ag) (hx : chkOpd x x' = true)
  (he:ERun (eff P (getL st.slots) (.ld ag k x')) st.heap v ws rs):Goes P n base w0 w st a o r v ws:=by
 obtain ⟨i,d,hi,hk,hd⟩:=sizeIs_spec hs
 have h1:=chkOpd_rel hr hx
 have fin : ∀ {b0 b off : Nat} {vs : List Value}, a.eval x = .pointer (some ⟨b, b0 + off, none⟩) → (∀ j y, vs[j]? = some y → w.cell? ⟨b, b0 + j, none⟩ = some y) →
   (ws=[]∧rs.length≤1∧off+k≤vs.length∧((ag=true∧VRel w G st.heap v (.agg ((vs.drop off).take k).toArray))∨(ag=false∧∃ y,vs[off]?=some y∧VRel w G st.heap v y)))→Goes P n base w0 w st a o r v ws:=by
  intro b0 b off vs hptr hcell ⟨h2,_,h3,h4⟩
  subst h2
  obtain ⟨y,h5,h6⟩:=agg_run (run_loadVar (w:=w) hi hd hk h3 hcell hag) h4
  exact goes_value (by simp [ho]) (x:=y) (w':=w) (G':=G) (by simp [execOp,ho,Instr.loadAt,hptr,Instr.sureAddr,h5]) hr h6
 simp only [eff] at he
 split at he
 ·rename_i id off hp
  rw [hp] at h1
  simp only [VRel] at h1
  obtain ⟨b,_,hval,hptr⟩:=h1
  obtain ⟨ob,rs',hob,rfl,he⟩:=he
  have hobj:=hr.objs id ob hob
  dsimp only at he
  split at he
  ·obtain ⟨b',arr,tt,h2,h3,h4,h5,hone⟩:=hobj
   rw [hval] at h2; cases h2
   obtain ⟨h6,h7,h8,h9⟩:=loadE_rel h5 hone he
   exact fin (b0:=0) (b:=b) (off:=off) (vs:=arr.toList) (by simpa using hptr) (fun j y hj=>by simpa using heap_cell h4 hj) ⟨h6,by simp [h7],h8,h9⟩
  ·obtain ⟨b',arr,tt,h2,h3,h4,h5⟩:=hobj
   rw [hval] at h2; cases h2
   obtain ⟨vs,h6,h7⟩:=DCs_get h5
   obtain ⟨h8,h9,h10,h11⟩:=loadD_rel (G:=G) (h:=st.heap) h6 he
   exact fin (b0:=0) (b:=b) (off:=off) (vs:=vs) (by simpa using hptr) (fun j y hj=>(h7 j y hj).1) ⟨h8,by simp [h9],h10,h11⟩
  ·exact he.elim
 ·rename_i cs off hp
  rw [hp] at h1
  simp only [VRel] at h1
  obtain ⟨b,b0,hptr,hcs⟩:=h1
  obtain ⟨vs,h6,h7⟩:=DCs_get hcs
  obtain ⟨h8,h9,h10,h11⟩:=loadD_rel (G:=G) (h:=st.heap) h6 he
  exact fin (b0:=b0) (b:=b) (off:=off) (vs:=vs) hptr (fun j y hj=>(h7 j y hj).1) ⟨h8,by simp [h9],h10,h11⟩
 ·rename_i id m j off hp
  rw [hp] at h1
  simp only [VRel] at h1
  obtain ⟨t1,sz,es,fz,hob1,hle,hptr⟩:=h1
  obtain ⟨ob,rs',hob,rfl,he⟩:=he
  rw [hob1] at hob; cases hob
  obtain ⟨hm,dd,hdd,he⟩:=he
  obtain ⟨b,cap,hval,hptr⟩:=hptr hm
  obtain ⟨h0,xs,hown,hdx⟩:=hr.objs id _ hob1
  obtain ⟨y,h3,h4,h5⟩:=DXs_get hdx hdd
  obtain ⟨h8,h9,h10,h11⟩:=loadD_rel (G:=G) (h:=st.heap) h4 he
  refine fin (b0:=j * sz) (b:=b) (off:=off) (vs:=y) hptr (fun q z hq=>?_) ⟨h8,by simp [h9],h10,h11⟩
  have:=hown.cells (g:=b) (by rw [hval]; rfl) _ _ (h5 q z hq)
  unfold Addr.add at this
  split at this <;> simp_all
 ·rename_i g off hp
  rw [hp] at h1
  simp only [VRel] at h1
  split at he
  ·rename_i ds hds
   obtain ⟨vs,h6,h7⟩:=DCs_get (hr.glob (g,ds) (by rw [hgl.gl]; exact gfind_mem hds))
   obtain ⟨h8,h9,h10,h11⟩:=loadD_rel (G:=G) (h:=st.heap) h6 he
   exact fin (b0:=0) (b:=g) (off:=off) (vs:=vs) (by simpa using h1) (fun j y hj=>by simpa using (h7 j y hj).1) ⟨h8,by simp [h9],h10,h11⟩
  ·exact he.elim
 ·rename_i id off hp
  rw [hp] at h1
  simp only [VRel] at h1
  obtain ⟨b,_,_,_,hval,hptr⟩:=h1
  obtain ⟨ob,rs',hob,rfl,he⟩:=he
  have hobj:=hr.objs id ob hob
  dsimp only at he
  split at he
  ·obtain ⟨b',arr,h2,h3,h4,h5,hone⟩:=hobj
   rw [hval] at h2; cases h2
   obtain ⟨h6,h7,h8,h9⟩:=loadE_rel h5 hone he
   exact fin (b0:=0) (b:=b) (off:=off) (vs:=arr.toList) (by simpa using hptr) (fun j y hj=>by simpa using heap_cell h4 hj) ⟨h6,by simp [h7],h8,h9⟩
  ·exact he.elim
 ·exact he.elim
end
end Vc
set_option linter.unusedSimpArgs false
set_option linter.unusedVariables false
namespace Vc
open Go Go.RowKit
section
variable {P : Program} [Laid P] {n base : Nat} {w0 : W0} {w : World} {G : Gh} {st : St} {a : Act} {o : Oper} {r : Option Nat} {v : AVal} {ws : List (Nat × AObj)} {rs : List Nat}
theorem go_arith (hr : Rel n base w0 G st a w) {op op' : BinOp} {t t' : TypeId} {x y : Operand} {k : IntKind} {x' y' : Opd} (ho : o.op = .binOp op t x y t')
  (hop:arithOk op op'=true) (hx:chkOpd x x'=true) (hy:chkOpd y y'=true)
  (he:ERun (eff P (getL st.slots) (.arith op' k x' y')) st.heap v ws rs):Goes P n base w0 w st a o r v ws:=by
 have h1:=chkOpd_rel hr hx
 have h2:=chkOpd_rel hr hy
 simp only [eff] at he
 split at he
 ·rename_i k1 m1 k2 m2 e1 e2
  rw [e1] at h1; rw [e2] at h2
  have e3:=int_of h1
  have e4:=int_of h2
  obtain ⟨q,⟨rfl,rfl,hq⟩,rfl,rfl,rfl⟩:=he
  refine goes_value (by simp [ho]) (x:=.int k2 q) (w':=w) (G':=G) ?_ hr (by simp [VRel,DRel])
  simp only [execOp,ho,e3,e4]
  cases op <;> cases op' <;> simp [arithOk,cmpOk,negOk,sltOk] at hop <;> simp only [arithF] at hq
  ·cases hq; simp [eqGuard,binOp,Op.intArith]
  ·cases hq; simp [eqGuard,binOp,Op.intArith]
  ·cases hq; simp [eqGuard,binOp,Op.intArith]
  ·split at hq
   ·cases hq
   ·rename_i hz
    cases hq; simp [eqGuard,binOp,Op.intDiv,hz]
  ·split at hq
   ·cases hq
   ·rename_i hz
    cases hq; simp [eqGuard,binOp,Op.intDiv,hz]
 ·exact he.elim
theorem go_cmp (hr : Rel n base w0 G st a w) {op op' : BinOp} {t t' : TypeId} {x y : Operand} {x' y' : Opd} (ho : o.op = .binOp op t x y t')
  (hop:cmpOk op op'=true) (hx:chkOpd x x'=true) (hy:chkOpd y y'=true)
  (he:ERun (eff P (getL st.slots) (.cmp op' x' y')) st.heap v ws rs):Goes P n base w0 w st a o r v ws:=by
 have h1:=chkOpd_rel hr hx
 have h2:=chkOpd_rel hr hy
 simp only [eff] at he
 split at he
 ·rename_i k1 m1 k2 m2 e1 e2
  rw [e1] at h1; rw [e2] at h2
  have e3:=int_of h1
  have e4:=int_of h2
  obtain ⟨rfl,rfl,rfl,rfl⟩:=he
  refine goes_value (by simp [ho]) (x:=.bool (cmpF op' m1 m2)) (w':=w) (G':=G) ?_ hr (by simp [VRel,DRel])
  simp only [execOp,ho,e3,e4]
  cases op <;> cases op' <;> simp [arithOk,cmpOk,negOk,sltOk] at hop <;> simp [eqGuard,binOp,Op.intCmp,cmpF]
 ·exact he.elim
theorem run_equalIn_bool (d:Nat) {t:TypeId} (hb:P.underlying t=some .bool) (x y:Bool):(Op.equalIn (d+1) t (.bool x) (.bool y)).run P w=.ok (x==y) w:=by
 simp [Op.equalIn,run_underlying hb]
theorem run_equal_bool {t:TypeId} (hb:P.underlying t=some .bool) (x y:Bool):(Op.equal t (.bool x) (.bool y)).run P w=.ok (x==y) w:=run_equalIn_bool 9999 hb x y
theorem go_beq (hr : Rel n base w0 G st a w) {op : BinOp} {neg : Bool} {t t' : TypeId} {x y : Operand} {x' y' : Opd} (ho : o.op = .binOp op t x y t')
  (hop:negOk op neg=true) (hb:P.underlying t=some .bool) (hx:chkOpd x x'=true) (hy:chkOpd y y'=true)
  (he:ERun (eff P (getL st.slots) (.beq neg x' y')) st.heap v ws rs):Goes P n base w0 w st a o r v ws:=by
 have h1:=chkOpd_rel hr hx
 have h2:=chkOpd_rel hr hy
 simp only [eff] at he
 split at he
 ·rename_i b1 b2 e1 e2
  rw [e1] at h1; rw [e2] at h2
  have e3:=bool_of h1
  have e4:=bool_of h2
  obtain ⟨rfl,rfl,rfl⟩:=he
  refine goes_value (by simp [ho]) (x:=.bool (cond neg (b1 != b2) (b1==b2))) (w':=w) (G':=G) ?_ hr (by simp [VRel,DRel])
  simp only [execOp,ho,e3,e4]
  cases op <;> cases neg <;> simp [arithOk,cmpOk,negOk,sltOk] at hop <;> simp [eqGuard,binOp,run_equal_bool hb,bne]
 ·exact he.elim
theorem go_seq (hr : Rel n base w0 G st a w) {op : BinOp} {neg : Bool} {t t' : TypeId} {x y : Operand} {x' y' : Opd} (ho : o.op = .binOp op t x y t')
  (hop:negOk op neg=true) (hx:chkOpd x x'=true) (hy:chkOpd y y'=true)
  (he:ERun (eff P (getL st.slots) (.seq neg x' y')) st.heap v ws rs):Goes P n base w0 w st a o r v ws:=by
 have h1:=chkOpd_rel hr hx
 have h2:=chkOpd_rel hr hy
 simp only [eff] at he
 split at he
 ·rename_i b1 b2 e1 e2
  rw [e1] at h1; rw [e2] at h2
  have e3:=str_of h1
  have e4:=str_of h2
  obtain ⟨rfl,rfl,rfl⟩:=he
  refine goes_value (by simp [ho]) (x:=.bool (cond neg (b1 != b2) (b1==b2))) (w':=w) (G':=G) ?_ hr (by simp [VRel,DRel])
  simp only [execOp,ho,e3,e4,str]
  cases op <;> cases neg <;> simp [arithOk,cmpOk,negOk,sltOk] at hop <;> simp [eqGuard,binOp,Op.stringOp,ByteArray.toList_mk,bne]
 ·exact he.elim
theorem go_cat (hr : Rel n base w0 G st a w) {t t' : TypeId} {x y : Operand} {x' y' : Opd} (ho : o.op = .binOp .add t x y t') (hx : chkOpd x x' = true) (hy : chkOpd y y' = true)
  (he:ERun (eff P (getL st.slots) (.cat x' y')) st.heap v ws rs):Goes P n base w0 w st a o r v ws:=by
 have h1:=chkOpd_rel hr hx
 have h2:=chkOpd_rel hr hy
 simp only [eff] at he
 split at he
 ·rename_i b1 b2 e1 e2
  rw [e1] at h1; rw [e2] at h2
  have e3:=str_of h1
  have e4:=str_of h2
  obtain ⟨hlen,rfl,rfl,rfl⟩:=he
  refine goes_value (by simp [ho]) (x:=str (b1++b2)) (w':=w) (G':=G) ?_ hr (by simp [VRel,DRel])
  simp only [execOp,ho,e3,e4,str]
  have hm:¬ ((((⟨b1.toArray⟩:ByteArray).size+(⟨b2.toArray⟩:ByteArray).size:Nat):Int) > IntKind.i64.max):=by
   have:IntKind.i64.max=9223372036854775807:=by decide
   rw [this]
   simp [ByteArray.size]
   omega
  simp only [eqGuard,binOp,Op.stringOp,Sem.run_bind,Result.andThen_ok,hm,if_false,Sem.run_pure]
  simp [ByteArray.mk_append_mk]
 ·exact he.elim
theorem go_not (hr : Rel n base w0 G st a w) {t : TypeId} {x : Operand} {x' : Opd} (ho : o.op = .unOp .not t x) (hx : chkOpd x x' = true)
  (he:ERun (eff P (getL st.slots) (.not x')) st.heap v ws rs):Goes P n base w0 w st a o r v ws:=by
 have h1:=chkOpd_rel hr hx
 simp only [eff] at he
 split at he
 ·rename_i b e1
  rw [e1] at h1
  obtain ⟨rfl,rfl,rfl⟩:=he
  exact goes_value (by simp [ho]) (x:=.bool (!b)) (w':=w) (G':=G) (by simp [execOp,ho,bool_of h1,Op.unary]) hr (by simp [VRel,DRel])
 ·exact he.elim
theorem go_conv (hr : Rel n base w0 G st a w) {s t : TypeId} {x : Operand} {x' : Opd} {k ks : IntKind} (ho : o.op = .convert s t x) (hs : P.underlying s = some (.int ks)) (ht : P.underlying t = some (.int k)) (hx : chkOpd x x' = true)
  (he:ERun (eff P (getL st.slots) (.conv k x')) st.heap v ws rs):Goes P n base w0 w st a o r v ws:=by
 have h1:=chkOpd_rel hr hx
 simp only [eff] at he
 split at he
 ·rename_i k1 m e1
  rw [e1] at h1
  obtain ⟨q,hq,rfl,rfl,rfl⟩:=he
  exact goes_value (by simp [ho]) (x:=.int k q) (w':=w) (G':=G) (by simp [execOp,ho,int_of h1,convert,run_underlying hs,run_underlying ht,Conv.intToInt,hq]) hr (by simp [VRel,DRel])
 ·exact he.elim
theorem addr_add {b off k:Nat}:(⟨b,off,none⟩:Addr).add k=⟨b,off+k,none⟩:=by
 unfold Addr.add
 split <;> simp_all
theorem go_fad (hr : Rel n base w0 G st a w) {t : TypeId} {x : Operand} {x' : Opd} {i off : Nat} {fs : Array Field} {f : Field} (ho : o.op = .fieldAddr t x i) (ht : P.underlying t = some (.struct fs)) (hf : fs[i]? = some f)
  (hoff:f.offset=off) {ti:TypeInfo} (hi:P.info? f.type=some ti) (hz:ti.size≠0) (hx:chkOpd x x'=true)
  (he:ERun (eff P (getL st.slots) (.fad off x')) st.heap v ws rs):Goes P n base w0 w st a o r v ws:=by
 have h1:=chkOpd_rel hr hx
 have fin:∀ {b q:Nat},a.eval x=.pointer (some ⟨b,q,none⟩)→(execOp a.eval o).run P w=.ok (.value (.pointer (some ⟨b,q+off,none⟩))) w:=by
  intro b q hp
  simp [execOp,ho,hp,Instr.fieldAt,run_underlying ht,hf,Instr.sureAddr,fieldPlace,run_sizeOf hi,hz,addr_add,hoff]
 simp only [eff] at he
 split at he
 ·rename_i id q e1
  rw [e1] at h1
  obtain ⟨rfl,rfl,rfl⟩:=he
  simp only [VRel] at h1
  obtain ⟨b,h2,h3,h4⟩:=h1
  exact goes_value (by simp [ho]) (fin h4) hr (by simp only [VRel]; exact ⟨b,h2,h3,rfl⟩)
 ·rename_i cs q e1
  rw [e1] at h1
  obtain ⟨rfl,rfl,rfl⟩:=he
  simp only [VRel] at h1
  obtain ⟨b,b0,h2,h3⟩:=h1
  exact goes_value (by simp [ho]) (fin h2) hr (by simp only [VRel]; exact ⟨b,b0,by rw [Nat.add_assoc],h3⟩)
 ·rename_i id m j q e1
  rw [e1] at h1
  obtain ⟨ob,rs',hob,rfl,he⟩:=he
  simp only [VRel] at h1
  obtain ⟨t1,sz,es,fz,h2,h3,h4⟩:=h1
  rw [h2] at hob; cases hob
  obtain ⟨hm,rfl,rfl,rfl⟩:=he
  obtain ⟨b,cap,h5,h6⟩:=h4 hm
  exact goes_value (by simp [ho]) (fin h6) hr (by simp only [VRel]; exact ⟨t1,sz,es,fz,h2,h3,fun _=>⟨b,cap,h5,by rw [Nat.add_assoc]⟩⟩)
 ·rename_i g q e1
  rw [e1] at h1
  obtain ⟨rfl,rfl,rfl⟩:=he
  simp only [VRel] at h1
  exact goes_value (by simp [ho]) (fin h1) hr (by simp only [VRel])
 ·rename_i id q e1
  rw [e1] at h1
  obtain ⟨rfl,rfl,rfl⟩:=he
  simp only [VRel] at h1
  obtain ⟨b,t',cs',h2,h3,h4⟩:=h1
  exact goes_value (by simp [ho]) (fin h4) hr (by simp only [VRel]; exact ⟨b,t',cs',h2,h3,rfl⟩)
 ·exact he.elim
end
end Vc
set_option linter.unusedSimpArgs false
set_option linter.unusedVariables false
namespace Vc
open Go Go.RowKit
section
variable {P : Program} [Laid P] {n base : Nat} {w0 : W0} {w : World} {G : Gh} {st : St} {a : Act} {o : Oper} {r : Option Nat} {v : AVal} {ws : List (Nat × AObj)} {rs : List Nat}
theorem go_ixa (hr : Rel n base w0 G st a w) {t e : TypeId} {x i : Operand} {sz : Nat} {x' i' : Opd} (ho : o.op = .indexAddr t x i) (ht : P.underlying t = some (.slice e)) (hs : sizeIs P e sz = true)
  (hx:chkOpd x x'=true) (hi:chkOpd i i'=true) (he:ERun (eff P (getL st.slots) (.ixa sz x' i')) st.heap v ws rs):Goes P n base w0 w st a o r v ws:=by
 have h1:=chkOpd_rel hr hx
 have h2:=chkOpd_rel hr hi
 obtain ⟨ti,td,hti,rfl,htd⟩:=sizeIs_spec hs
 simp only [eff] at he
 split at he
 ·rename_i k m e1
  rw [e1] at h2
  have e2:=int_of h2
  have fin:∀ {b off len cap:Nat},a.eval x=.slice (some ⟨b,off,none⟩) len cap→0≤m→m < len→(execOp a.eval o).run P w=.ok (.value (.pointer (some ⟨b,off+m.toNat * ti.size,none⟩))) w:=by
   intro b off len cap hv h3 h4
   simp [execOp,ho,hv,e2,Instr.indexAt,run_underlying ht,asIntOf,h3,h4,run_sizeOf hti,addr_add]
  split at he
  ·rename_i sz' es e3
   rw [e3] at h1
   obtain ⟨d,⟨rfl,h3,h4⟩,rfl,rfl,rfl⟩:=he
   simp only [VRel,DRel] at h1
   obtain ⟨ad,cap,h5,h6,h7⟩:=h1
   have hlt:m.toNat < es.length:=(List.getElem?_eq_some_iff.1 h4).1
   rcases h7 with h7 | ⟨b,off,rfl,h8⟩
   ·subst h7; simp at hlt
   ·have h9:=DRows_get h8 h4
    exact goes_value (by simp [ho]) (fin h5 h3 (by omega)) hr (by simp only [VRel]; exact ⟨b,off+m.toNat * ti.size,rfl,h9.2⟩)
  ·rename_i id q e3
   rw [e3] at h1
   obtain ⟨ob,rs',hob,rfl,he⟩:=he
   simp only [VRel] at h1
   obtain ⟨t1,sz,es,fz,h5,h6,h7⟩:=h1
   rw [h5] at hob; cases hob
   obtain ⟨⟨rfl,h8,h9,h10⟩,rfl,rfl,rfl⟩:=he
   have h11:=h7 h8
   obtain ⟨h0,xs,hown,hdx⟩:=hr.objs id _ h5
   rcases hown.2 with ⟨h12,h13⟩ | ⟨g,cap,cur,h12,_⟩
   ·omega
   ·rw [h12,h8] at h11
    have:=fin h11 h9 h10
    rw [Nat.zero_add] at this
    exact goes_value (by simp [ho]) this hr (by simp only [VRel]; exact ⟨t1,_,es,fz,h5,h6,fun _=>⟨g,cap,by rw [h12,h8],by simp⟩⟩)
  ·rename_i id off q e3
   rw [e3] at h1
   simp only [VRel] at h1
   obtain ⟨b,cap,h5,h6,h7⟩:=h1
   obtain ⟨⟨h8,h9⟩,rfl,rfl,rfl⟩:=he
   exact goes_value (by simp [ho]) (fin h7 h8 h9) hr (by simp only [VRel]; exact ⟨b,h5,h6,rfl⟩)
  ·exact he.elim
 ·exact he.elim
theorem go_ixp (hr : Rel n base w0 G st a w) {t e : TypeId} {x i : Operand} {len sz : Nat} {x' i' : Opd} (ho : o.op = .indexAddr t x i) (ht : P.underlying t = some (.array len e)) (hs : sizeIs P e sz = true)
  (hx:chkOpd x x'=true) (hi:chkOpd i i'=true) (he:ERun (eff P (getL st.slots) (.ixp len sz x' i')) st.heap v ws rs):Goes P n base w0 w st a o r v ws:=by
 have h1:=chkOpd_rel hr hx
 have h2:=chkOpd_rel hr hi
 obtain ⟨ti,td,hti,rfl,htd⟩:=sizeIs_spec hs
 simp only [eff] at he
 split at he
 ·rename_i k m e1
  rw [e1] at h2
  have e2:=int_of h2
  have fin:∀ {b off:Nat},a.eval x=.pointer (some ⟨b,off,none⟩)→0≤m→m < len→(execOp a.eval o).run P w=.ok (.value (.pointer (some ⟨b,off+m.toNat * ti.size,none⟩))) w:=by
   intro b off hv h3 h4
   simp [execOp,ho,hv,e2,Instr.indexAt,run_underlying ht,asIntOf,Instr.sureAddr,h3,h4,run_sizeOf hti,addr_add]
  split at he
  ·rename_i id off e3
   rw [e3] at h1
   obtain ⟨⟨h3,h4⟩,rfl,rfl,rfl⟩:=he
   simp only [VRel] at h1
   obtain ⟨b,h5,h6,h7⟩:=h1
   exact goes_value (by simp [ho]) (fin h7 h3 h4) hr (by simp only [VRel]; exact ⟨b,h5,h6,rfl⟩)
  ·rename_i cs off e3
   rw [e3] at h1
   obtain ⟨⟨h3,h4⟩,rfl,rfl,rfl⟩:=he
   simp only [VRel] at h1
   obtain ⟨b,b0,h5,h6⟩:=h1
   exact goes_value (by simp [ho]) (fin h5 h3 h4) hr (by simp only [VRel]; exact ⟨b,b0,by rw [Nat.add_assoc],h6⟩)
  ·rename_i g off e3
   rw [e3] at h1
   obtain ⟨⟨h3,h4⟩,rfl,rfl,rfl⟩:=he
   simp only [VRel] at h1
   exact goes_value (by simp [ho]) (fin h1 h3 h4) hr (by simp only [VRel])
  ·exact he.elim
 ·exact he.elim
theorem aggCells_of {h : List AObj} {x : AVal} {cs : List AVal} {y : Value} (hv : VRel w G h x y) (hc : aggCells x = some cs) :
  ∃ vs:List Value,VRels w G h cs vs∧y=.agg vs.toArray∧∀ u∈vs,u.oneCell'=true:=by
 unfold aggCells at hc
 split at hc
 ·cases hc
  simp only [VRel,DRel] at hv
  obtain ⟨vs,e,h1⟩:=hv
  exact ⟨vs,DRels_VRels h1,e,DRels_one h1⟩
 ·cases hc
  simp only [VRel] at hv
  obtain ⟨vs,e,h1,h2⟩:=hv
  exact ⟨vs,h1,e,h2⟩
 ·cases hc
theorem run_part {t : TypeId} {i : TypeInfo} {d : TypeDesc} (hi : P.info? t = some i) (hd : P.underlying t = some d) {off k : Nat} {vs : List Value} (hk : i.size = k) {ag : Bool} (hag : isAggT P t = ag) :
  (ag=true→(part t vs.toArray off).run P w=.ok (.agg ((vs.drop off).take k).toArray) w) ∧
  (ag=false→∀ x,vs[off]?=some x→(part t vs.toArray off).run P w=.ok x w):=by
 constructor
 ·intro h
  simp only [part,Sem.run_bind,run_isAgg hd,Result.andThen_ok,hag,h,if_true,run_sizeOf hi,hk,Sem.run_pure]
  congr 2
  simp [List.extract_eq_take_drop]
 ·intro h x hx
  simp [part,run_isAgg hd,hag,h,hx]
theorem agg_run' {ag : Bool} {s : Sem Value} {k off : Nat} {vs : List Value} {h : List AObj}
  (hrun:(ag=true→s.run P w=.ok (.agg ((vs.drop off).take k).toArray) w)∧(ag=false→∀ x,vs[off]?=some x→s.run P w=.ok x w))
  (hv:(ag=true∧VRel w G h v (.agg ((vs.drop off).take k).toArray))∨(ag=false∧∃ x,vs[off]?=some x∧VRel w G h v x)) :
  ∃ x,s.run P w=.ok x w∧VRel w G h v x:=by
 rcases hv with ⟨h1,h2⟩ | ⟨h1,x,h2,h3⟩
 ·exact ⟨_,hrun.1 h1,h2⟩
 ·exact ⟨x,hrun.2 h1 x h2,h3⟩
theorem go_fld (hr : Rel n base w0 G st a w) {t : TypeId} {x : Operand} {i off k : Nat} {ag : Bool} {x' : Opd} {fs : Array Field} {f : Field} (ho : o.op = .field t x i) (ht : P.underlying t = some (.struct fs)) (hf : fs[i]? = some f)
  (hoff:f.offset=off) (hs:sizeIs P f.type k=true) (hag:isAggT P f.type=ag) (hx:chkOpd x x'=true)
  (he:ERun (eff P (getL st.slots) (.fld ag off k x')) st.heap v ws rs):Goes P n base w0 w st a o r v ws:=by
 have h1:=chkOpd_rel hr hx
 obtain ⟨ti,td,hti,hk,htd⟩:=sizeIs_spec hs
 simp only [eff] at he
 split at he
 ·rename_i cs hcs
  obtain ⟨vs,h2,h3,hone⟩:=aggCells_of h1 hcs
  obtain ⟨rfl,rfl,h4,h5⟩:=loadE_rel h2 hone he
  obtain ⟨y,h6,h7⟩:=agg_run' (run_part (w:=w) hti htd (off:=off) hk hag) h5
  exact goes_value (by simp [ho]) (x:=y) (w':=w) (G':=G) (by simp [execOp,ho,Instr.field,run_underlying ht,hf,h3,asAgg,hoff,h6]) hr h7
 ·exact he.elim
theorem DRows_xs {S : Nat → Nat → Prop} : ∀ {es : List Data} {b off sz : Nat}, DRows w S es b off sz →
  ∃ xs,DXs w S es sz xs∧xs.length=es.length * sz∧∀ j u,xs[j]?=some u→w.cell? ⟨b,off+j,none⟩=some u∧S b (off+j)
 | [],b,off,sz,_=>⟨[],by simp [DXs],by simp,by simp⟩
 | e::es,b,off,sz,h=>by
  obtain ⟨⟨h1,h2⟩,h3⟩:=DRows_cons.1 h
  obtain ⟨x,h4,h5⟩:=DCs_get h2
  obtain ⟨xs,h6,h7,h8⟩:=DRows_xs h3
  have hl:x.length=sz:=(DRels_length h4).trans h1
  refine ⟨x++xs,by simp only [DXs]; exact ⟨x,xs,rfl,hl,h4,h6⟩,by simp [h7,hl,Nat.add_mul]; omega,fun j u hj=>?_⟩
  by_cases hlt:j < x.length
  ·rw [List.getElem?_append_left hlt] at hj
   exact h5 j u hj
  ·rw [List.getElem?_append_right (by omega)] at hj
   have:=h8 _ u hj
   rwa [show off+sz+(j - x.length)=off+j by omega] at this
theorem DXs_of_box {w:World} {G:Gh} {h:List AObj}:∀ {ds:List Data} {xs:List Value},(∀ d∈ds,d.isAgg=false)→VRels w G h (dcells ds) xs→DXs w G.S ds 1 xs
 | [],xs,_,hv=>by simpa [dcells,VRels,DXs] using hv
 | d::ds,xs,ha,hv=>by
  have hd:=ha d List.mem_cons_self
  simp only [dcells,List.map_cons,VRels,VRel] at hv
  obtain ⟨v,r,rfl,h1,h2⟩:=hv
  refine ⟨[v],r,rfl,rfl,?_,DXs_of_box (fun x hx=>ha x (List.mem_cons_of_mem _ hx)) h2⟩
  have e:d.cells=[d]:=by cases d <;> first | rfl | (simp [Data.isAgg] at hd)
  rw [e]
  exact DRels_of (G:=G) (h:=h) (ds:=[d]) (fun x hx=>by rw [List.mem_singleton.1 hx]; exact hd) (by simp only [dcells,List.map_cons,List.map_nil,VRels,VRel]; exact ⟨v,[],rfl,h1,rfl⟩)
theorem DXs_len {w:World} {S:Nat→Nat→Prop}:∀ {ds:List Data} {sz:Nat} {xs:List Value},DXs w S ds sz xs→xs.length=ds.length * sz
 | [],sz,xs,h=>by simp only [DXs] at h; subst h; simp
 | d::ds,sz,xs,h=>by
  obtain ⟨x,r,rfl,h1,_,h2⟩:=h
  rw [List.length_append,h1,DXs_len h2,List.length_cons,Nat.add_mul]
  omega
theorem readE_rel (hr : Rel n base w0 G st a w) {x : AVal} {y : Value} (hv : VRel w G st.heap x y) {k : Nat → List Data → Eff} (he : ERun (readE x k) st.heap v ws rs) :
  ∃ sz es rs' ad cap,ERun (k sz es) st.heap v ws rs'∧y=.slice ad es.length cap∧es.length≤cap ∧
   (es=[]∨∃ b off xs,ad=some ⟨b,off,none⟩∧DXs w G.S es sz xs∧xs.length=es.length * sz∧∀ j u,xs[j]?=some u→w.cell? ⟨b,off+j,none⟩=some u):=by
 unfold readE at he
 split at he
 ·rename_i sz es
  simp only [VRel,DRel] at hv
  obtain ⟨ad,cap,h1,h2,h3⟩:=hv
  refine ⟨sz,es,rs,ad,cap,he,h1,h2,?_⟩
  rcases h3 with h3 | ⟨b,off,h3,h4⟩
  ·exact .inl h3
  ·obtain ⟨xs,h5,h6,h7⟩:=DRows_xs h4
   exact .inr ⟨b,off,xs,h3,h5,h6,fun j u hj=>(h7 j u hj).1⟩
 ·rename_i sz
  simp only [VRel] at hv
  exact ⟨sz,[],rs,none,0,he,hv,by simp,.inl rfl⟩
 ·rename_i id m
  simp only [VRel] at hv
  obtain ⟨t1,sz,es,fz,h5,h6,h7⟩:=hv
  obtain ⟨ob,rs',hob,rfl,he⟩:=he
  rw [h5] at hob; cases hob
  obtain ⟨h8,he⟩:=he
  obtain ⟨h0,xs,hown,hdx⟩:=hr.objs id _ h5
  rw [h7 h8]
  rcases hown.2 with ⟨h9,h10⟩ | ⟨g,cap,cur,h9,h10,h11,h12,h13,h14,h15⟩
  ·have:es=[]:=List.eq_nil_of_length_eq_zero h10
   subst this
   exact ⟨sz,[],rs',none,0,he,h9,by simp,.inl rfl⟩
  ·refine ⟨sz,es,rs',_,cap,he,h9,h12,.inr ⟨g,0,xs,rfl,hdx,hown.1,fun j u hj=>?_⟩⟩
   have:=hown.cells (g:=g) (by rw [h9]; rfl) j u hj
   rwa [addr_add] at this
 ·rename_i id m
  simp only [VRel] at hv
  obtain ⟨b,_,h6,h7⟩:=hv
  obtain ⟨ob,rs',hob,rfl,he⟩:=he
  dsimp only at he
  split at he
  ·rename_i cs
   split at he
   ·rename_i ds hall
    obtain ⟨h8,he⟩:=he
    obtain ⟨rfl,hag⟩:=allD_some hall
    obtain ⟨b',arr,t',k1,k2,k3,k4,k5⟩:=hr.objs id _ hob
    rw [h6] at k1; cases k1
    have k6:=DXs_of_box hag k4
    subst h8
    refine ⟨1,ds,rs',_,_,he,h7,Nat.le_refl _,.inr ⟨b,0,arr.toList,rfl,k6,by rw [DXs_len k6],fun j u hj=>?_⟩⟩
    rw [Nat.zero_add,cell_of_row w b j arr t' (0,0) k3,← Array.getElem?_toList]
    exact hj
   ·exact he.elim
  ·exact he.elim
 ·exact he.elim
theorem go_len (hr : Rel n base w0 G st a w) {c : Call} {t e : TypeId} {x : Operand} {x' : Opd} (ho : o.op = .call c) (hcal : c.callee = .builtin .len) (hargs : c.args.toList = [x]) (ht : c.argTypes[0]? = some t)
  (hu:P.underlying t=some (.slice e)) (hx:chkOpd x x'=true)
  (he:ERun (eff P (getL st.slots) (.len x')) st.heap v ws rs):Goes P n base w0 w st a o r v ws:=by
 have h1:=chkOpd_rel hr hx
 have hargs':c.args=#[x]:=by rw [← Array.toArray_toList (xs:=c.args),hargs]
 simp only [eff] at he
 split at he
 ·rename_i id off q e3
  rw [e3] at h1
  simp only [VRel] at h1
  obtain ⟨b,cap,_,_,h7⟩:=h1
  obtain ⟨rfl,rfl,rfl⟩:=he
  exact goes_value (by simp [ho]) (x:=.int .i64 q) (w':=w) (G':=G) (by simp [execOp,ho,resolve,hcal,hargs',invoke,builtin,Builtin.len_,ht,run_underlying hu,h7,goInt]) hr (by simp [VRel,DRel])
 ·rename_i id q e3
  rw [e3] at h1
  simp only [VRel] at h1
  obtain ⟨t1,bs1,h5,h6,h7⟩:=h1
  obtain ⟨ob,rs',hob,rfl,he⟩:=he
  rw [h5] at hob; cases hob
  obtain ⟨h8,rfl,rfl,rfl⟩:=he
  have h9:=h7 h8
  obtain ⟨ad,cap,h10⟩:∃ ad cap,G.val id=.slice ad q cap:=by
   rcases (hr.objs _ _ h5).2 with ⟨h11,h12⟩ | ⟨g,cap,cur,fz,h11,_⟩
   ·exact ⟨none,0,by rw [h11,← h8,h12]⟩
   ·exact ⟨_,cap,by rw [h11,h8]⟩
  exact goes_value (by simp [ho]) (x:=.int .i64 q) (w':=w) (G':=G) (by simp [execOp,ho,resolve,hcal,hargs',invoke,builtin,Builtin.len_,ht,run_underlying hu,h9,h10,goInt]) hr (by simp [VRel,DRel])
 obtain ⟨sz,es,rs',ad,cap,⟨rfl,rfl,rfl⟩,h2,_⟩:=readE_rel hr h1 he
 exact goes_value (by simp [ho]) (x:=.int .i64 es.length) (w':=w) (G':=G) (by simp [execOp,ho,resolve,hcal,hargs',invoke,builtin,Builtin.len_,ht,run_underlying hu,h2,goInt]) hr (by simp [VRel,DRel])
theorem str_size (l:List UInt8):(⟨l.toArray⟩:ByteArray).size=l.length:=by
 show l.toArray.size=l.length
 simp
theorem go_ixs (hr : Rel n base w0 G st a w) {t : TypeId} {x i : Operand} {x' i' : Opd} (ho : o.op = .index t x i) (ht : P.underlying t = some .string)
  (hx:chkOpd x x'=true) (hi:chkOpd i i'=true) (he:ERun (eff P (getL st.slots) (.ixs x' i')) st.heap v ws rs):Goes P n base w0 w st a o r v ws:=by
 have h1:=chkOpd_rel hr hx
 have h2:=chkOpd_rel hr hi
 simp only [eff] at he
 split at he
 ·rename_i l k m e1 e2
  rw [e1] at h1; rw [e2] at h2
  obtain ⟨q,⟨h3,h4⟩,rfl,rfl,rfl⟩:=he
  have e3:=str_of h1
  have e4:=int_of h2
  refine goes_value (by simp [ho]) (x:=.int .u8 q) (w':=w) (G':=G) ?_ hr (by simp [VRel,DRel])
  simp only [Option.map_eq_some_iff] at h4
  obtain ⟨c,h5,rfl⟩:=h4
  have hlt:m.toNat < l.length:=(List.getElem?_eq_some_iff.1 h5).1
  have:(⟨l.toArray⟩:ByteArray)[m.toNat]?=some c:=by
   rw [getElem?_pos (⟨l.toArray⟩:ByteArray) m.toNat (by simpa [ByteArray.size] using hlt)]
   rw [← (List.getElem?_eq_some_iff.1 h5).2]
   rfl
  simp [execOp,ho,e3,e4,str,Instr.index,run_underlying ht,asIntOf,h3,this]
 ·exact he.elim
theorem go_ext (hr : Rel n base w0 G st a w) {x : Operand} {i : Nat} {x' : Opd} (ho : o.op = .extract x i) (hx : chkOpd x x' = true)
  (he:ERun (eff P (getL st.slots) (.ext i x')) st.heap v ws rs):Goes P n base w0 w st a o r v ws:=by
 have h1:=chkOpd_rel hr hx
 simp only [eff] at he
 split at he
 ·rename_i vs e1
  rw [e1] at h1
  simp only [VRel] at h1
  obtain ⟨us,e2,h2⟩:=h1
  split at he
  ·rename_i v' hv'
   obtain ⟨rfl,rfl,rfl⟩:=he
   have:∃ u,us[i]?=some u∧VRel w G st.heap v u:=by
    have h3:=VRels_drop i h2
    have h4:i < vs.length:=(List.getElem?_eq_some_iff.1 hv').1
    rw [List.drop_eq_getElem_cons h4,(List.getElem?_eq_some_iff.1 hv').2] at h3
    simp only [VRels] at h3
    obtain ⟨u,r',e3,h5,_⟩:=h3
    refine ⟨u,?_,h5⟩
    have:(us.drop i)[0]?=some u:=by rw [e3]; rfl
    simpa using this
   obtain ⟨u,h6,h7⟩:=this
   exact goes_value (by simp [ho]) (x:=u) (w':=w) (G':=G) (by simp [execOp,ho,e2,Instr.extract,h6]) hr h7
  ·exact he.elim
 ·exact he.elim
theorem go_mini (hr : Rel n base w0 G st a w) {c : Call} {x y : Operand} {x' y' : Opd} (ho : o.op = .call c) (hcal : c.callee = .builtin .min) (hargs : c.args.toList = [x, y]) (hx : chkOpd x x' = true) (hy : chkOpd y y' = true)
  (he:ERun (eff P (getL st.slots) (.mini x' y')) st.heap v ws rs):Goes P n base w0 w st a o r v ws:=by
 have h1:=chkOpd_rel hr hx
 have h2:=chkOpd_rel hr hy
 have hargs':c.args=#[x,y]:=by rw [← Array.toArray_toList (xs:=c.args),hargs]
 simp only [eff] at he
 split at he
 ·rename_i k1 m1 k2 m2 e1 e2
  rw [e1] at h1; rw [e2] at h2
  have e3:=int_of h1
  have e4:=int_of h2
  obtain ⟨rfl,rfl,rfl,rfl⟩:=he
  refine goes_value (by simp [ho]) (x:=.int k1 (min m1 m2)) (w':=w) (G':=G) ?_ hr (by simp [VRel,DRel])
  simp [execOp,ho,resolve,hcal,hargs',e3,e4,invoke,builtin,Builtin.min_,Builtin.min2]
  omega
 ·exact he.elim
theorem go_maxi (hr : Rel n base w0 G st a w) {c : Call} {x y : Operand} {x' y' : Opd} (ho : o.op = .call c) (hcal : c.callee = .builtin .max) (hargs : c.args.toList = [x, y]) (hx : chkOpd x x' = true) (hy : chkOpd y y' = true)
  (he:ERun (eff P (getL st.slots) (.maxi x' y')) st.heap v ws rs):Goes P n base w0 w st a o r v ws:=by
 have h1:=chkOpd_rel hr hx
 have h2:=chkOpd_rel hr hy
 have hargs':c.args=#[x,y]:=by rw [← Array.toArray_toList (xs:=c.args),hargs]
 simp only [eff] at he
 split at he
 ·rename_i k1 m1 k2 m2 e1 e2
  rw [e1] at h1; rw [e2] at h2
  have e3:=int_of h1
  have e4:=int_of h2
  obtain ⟨rfl,rfl,rfl,rfl⟩:=he
  refine goes_value (by simp [ho]) (x:=.int k1 (max m1 m2)) (w':=w) (G':=G) ?_ hr (by simp [VRel,DRel])
  simp [execOp,ho,resolve,hcal,hargs',e3,e4,invoke,builtin,Builtin.max_,Builtin.max2]
  omega
 ·exact he.elim
end
end Vc
set_option linter.unusedSimpArgs false
set_option linter.unusedVariables false
namespace Vc
open Go Go.RowKit
section
variable {P : Program} [Laid P] {n base : Nat} {w0 : W0} {w : World} {G : Gh} {st : St} {a : Act} {o : Oper} {r : Option Nat} {v : AVal} {ws : List (Nat × AObj)} {rs : List Nat}
theorem upd_same (f:Nat→Value) (i:Nat) (v:Value):upd f i v i=v:=by simp [upd]
theorem box_rel (hr : Rel n base w0 G st a w) {id : Nat} (hn : st.heap[id]? = some .none) {arr : Array Value} {t : TypeId} {cs : List AVal} (hv : VRels w G st.heap cs arr.toList) (hone : ∀ u ∈ arr.toList, u.oneCell' = true) :
  ∃ G',Ext w G st.heap (w.alloc (.cells arr t)) G' (st.heap.set id (.box cs))∧Rel n base w0 G' { st with heap:=st.heap.set id (.box cs) } a (w.alloc (.cells arr t)) ∧
   VRel (w.alloc (.cells arr t)) G' (st.heap.set id (.box cs)) (.ptr id 0) (.pointer (some ⟨w.heap.size,0,none⟩)):=by
 have hlt:id < st.heap.length:=(List.getElem?_eq_some_iff.1 hn).1
 have h:=hr.upd (o':=.box cs) (v':=.pointer (some ⟨w.heap.size,0,none⟩)) (S':=G.S) (row:=none) (w':=w.alloc (.cells arr t)) hn (.inl rfl) (fun _ _ h=>h) (fun _ _ h=>.inl h)
  (World.grownBy_alloc w _ none) (fun _ _ _ h=>by cases h) (fun b hb=>by cases hb; exact .inr (Nat.le_refl _)) trivial
  (fun hx=>⟨w.heap.size,arr,t,by simp [upd],hr.old,heap_alloc_new w _,VRels_mono hx cs hv,hone⟩)
  (fun b off hb _ hs=>by cases hb; have:=hr.lim _ _ hs; simp at this) (fun b off hs=>by have:=hr.lim _ _ hs; simp; omega)
 refine ⟨_,h.1,h.2,?_⟩
 simp only [VRel]
 exact ⟨w.heap.size,.inl ⟨cs,by simp [hlt]⟩,by simp [upd],rfl⟩
theorem run_newRow (e:TypeId) (arr:Array Value):(newRow e arr).run P w=.ok ⟨w.heap.size,0,none⟩ (w.alloc (.cells arr e)):=by
 simp [newRow]
theorem zeroOk_spec {t:TypeId} {cs:List AVal} (h:zeroOk P t cs=true):∃ i z,P.info? t=some i∧i.zero=some z∧constsOk z.cells.toList cs=true∧z.cells.size=i.size:=by
 unfold zeroOk at h
 split at h
 ·rename_i i hi
  split at h
  ·rename_i z hz
   simp only [Bool.and_eq_true] at h
   exact ⟨i,z,hi,hz,h.1,Nat.eq_of_beq_eq_true h.2⟩
  ·cases h
 ·cases h
theorem run_zero {t:TypeId} {i:TypeInfo} {z:Value} (hi:P.info? t=some i) (hz:i.zero=some z):(zeroValue t).run P w=.ok z w:=by
 simp [zeroValue,typeInfo,hi,hz]
theorem go_alloc (hr : Rel n base w0 G st a w) {t : TypeId} {id : Nat} {cs : List AVal} (ho : o.op = .alloc t) (hz : zeroOk P t cs = true)
  (he:ERun (eff P (getL st.slots) (.alloc id cs)) st.heap v ws rs):Goes P n base w0 w st a o r v ws:=by
 obtain ⟨i,z,hi,hz,hc,hsz⟩:=zeroOk_spec hz
 simp only [eff] at he
 obtain ⟨ob,rs',hob,rfl,he⟩:=he
 dsimp only at he
 split at he
 ·obtain ⟨rfl,rfl,rfl⟩:=he
  obtain ⟨G',h1,h2,h3⟩:=box_rel (t:=t) hr hob (constsOk_rel (w:=w) (G:=G) (h:=st.heap) hc) (constsOk_one hc)
  exact goes_value (by simp [ho]) (G':=G') (by simp [execOp,ho,Instr.alloc,run_zero hi hz,newVar,newRow]) h2 h3
 ·exact he.elim
theorem cellsE_rel (hr : Rel n base w0 G st a w) {x : AVal} {y : Value} (hv : VRel w G st.heap x y) {k : List AVal → Eff} (he : ERun (cellsE x k) st.heap v ws rs) :
  ∃ cs rs',ERun (k cs) st.heap v ws rs'∧VRels w G st.heap cs y.cells.toList∧∀ u∈y.cells.toList,u.oneCell'=true:=by
 have one:∀ {x:AVal} {y:Value},VRel w G st.heap x y→y.oneCell'=true→VRels w G st.heap [x] y.cells.toList∧∀ u∈y.cells.toList,u.oneCell'=true:=by
  intro x y hv hn
  have:y.cells=#[y]:=by cases y <;> simp_all [Value.cells,Value.oneCell']
  rw [this]
  exact ⟨VRels_cons.2 ⟨hv,by simp [VRels]⟩,by simpa using hn⟩
 unfold cellsE at he
 split at he
 ·simp only [VRel,DRel] at hv
  obtain ⟨vs,e,h1⟩:=hv
  subst e
  exact ⟨_,_,he,DRels_VRels h1,DRels_one h1⟩
 ·simp only [VRel] at hv
  obtain ⟨vs,e,h1,h2⟩:=hv
  subst e
  exact ⟨_,_,he,h1,h2⟩
 ·rename_i x h1
  refine ⟨_,_,he,one hv ?_⟩
  refine DRel_one (by simpa [VRel] using hv) ?_
  cases x <;> first | rfl | exact absurd rfl (h1 _)
 ·exact ⟨_,_,he,one hv (by simp only [VRel] at hv; subst hv; rfl)⟩
 ·exact ⟨_,_,he,one hv (by simp only [VRel] at hv; obtain ⟨b,_,_,e⟩:=hv; subst e; rfl)⟩
 ·exact ⟨_,_,he,one hv (by simp only [VRel] at hv; obtain ⟨b,_,e,_⟩:=hv; subst e; rfl)⟩
 ·exact ⟨_,_,he,one hv (by simp only [VRel] at hv; obtain ⟨_,_,e,_⟩:=hv; subst e; rfl)⟩
 ·have hv':=hv
  simp only [VRel] at hv
  obtain ⟨es,h5,h6⟩:=hv
  refine ⟨_,_,he,one hv' ?_⟩
  rcases h5 with h5 | h5
  ·obtain ⟨b,mes,ck,h7,_⟩:=hr.objs _ _ h5
   rw [h6,h7]; rfl
  ·obtain ⟨b,mes,ck,h7,_⟩:=hr.objs _ _ h5
   rw [h6,h7]; rfl
 ·have hv':=hv
  simp only [VRel] at hv
  obtain ⟨t1,sz,es,fz,h5,h6,h7⟩:=hv
  obtain ⟨ob,rs',hob,rfl,he⟩:=he
  rw [h5] at hob; cases hob
  obtain ⟨h8,he⟩:=he
  refine ⟨_,_,he,one hv' ?_⟩
  obtain ⟨h0,xs,hown,hdx⟩:=hr.objs _ _ h5
  rw [h7 h8]
  rcases hown.2 with ⟨h9,_⟩ | ⟨g,cap,cur,h9,_⟩ <;> rw [h9] <;> rfl
 ·have hv':=hv
  simp only [VRel] at hv
  obtain ⟨t1,bs1,h5,h6,h7⟩:=hv
  obtain ⟨ob,rs',hob,rfl,he⟩:=he
  rw [h5] at hob; cases hob
  obtain ⟨h8,he⟩:=he
  refine ⟨_,_,he,one hv' ?_⟩
  rw [h7 h8]
  rcases (hr.objs _ _ h5).2 with ⟨h9,_⟩ | ⟨g,cap,cur,fz,h9,_⟩ <;> rw [h9] <;> rfl
 ·exact he.elim
theorem go_box (hr : Rel n base w0 G st a w) {t : TypeId} {x : Operand} {id k : Nat} {x' : Opd} (ho : o.op = .box t x) (hx : chkOpd x x' = true)
  (he:ERun (eff P (getL st.slots) (.box id k x')) st.heap v ws rs):Goes P n base w0 w st a o r v ws:=by
 have h1:=chkOpd_rel hr hx
 simp only [eff] at he
 obtain ⟨ob,rs',hob,rfl,he⟩:=he
 dsimp only at he
 split at he
 ·obtain ⟨cs,rs2,⟨rfl,rfl,rfl⟩,h2,h3⟩:=cellsE_rel hr h1 he
  obtain ⟨G',h3,h4,h5⟩:=box_rel (t:=t) hr hob h2 h3
  exact goes_value (by simp [ho]) (G':=G') (by simp [execOp,ho,Instr.box,newVar,newRow]) h4 h5
 ·exact he.elim
theorem go_st_box (hr : Rel n base w0 G st a w) {t : TypeId} {x y : Operand} {k : Nat} {x' y' : Opd} (ho : o.op = .store t x y) (hs : sizeIs P t k = true) (hx : chkOpd x x' = true) (hy : chkOpd y y' = true)
  (hep:∀ id m i off,ev (getL st.slots) x'=.ep id m i off→Goes P n base w0 w st a o r v ws)
  (he:ERun (eff P (getL st.slots) (.st k x' y')) st.heap v ws rs):Goes P n base w0 w st a o r v ws:=by
 have h1:=chkOpd_rel hr hx
 have h2:=chkOpd_rel hr hy
 obtain ⟨ti,td,hti,rfl,htd⟩:=sizeIs_spec hs
 simp only [eff] at he
 split at he
 ·rename_i id off e1
  rw [e1] at h1
  obtain ⟨ob,rs',hob,rfl,he⟩:=he
  dsimp only at he
  split at he
  ·rename_i cs
   obtain ⟨vs,rs2,he,h3,h4⟩:=cellsE_rel hr h2 he
   split at he
   ·rename_i l hl hk
    obtain ⟨rfl,rfl,rfl⟩:=he
    have hk:=Nat.eq_of_beq_eq_true hk
    have hlen:=VRels_length h3
    obtain ⟨_,hfit⟩:=cut_eq hl
    obtain ⟨b,arr,tt,h5,h6,h7,h8,h9⟩:=hr.objs id _ hob
    have harr:=VRels_length h8
    simp only [VRel] at h1
    obtain ⟨b',_,h10,h11⟩:=h1
    rw [h5] at h10; cases h10
    have hrun:=run_storeCells_at P b off tt (a.eval y).cells.toList 0 arr w h7 (by simp at *; omega) h4
    have hlt:id < st.heap.length:=(List.getElem?_eq_some_iff.1 hob).1
    have hnew:lay cs off vs=cs.take off++vs++cs.drop (off+(a.eval y).cells.toList.length):=by rw [hlen]; exact lay_eq off cs vs (by omega)
    have h12:=hr.upd (o':=.box (lay cs off vs)) (v':=G.val id) (S':=G.S) (row:=blockOf (G.val id))
     (w':=w.setRow b (arr.toList.take off++(a.eval y).cells.toList++arr.toList.drop (off+(a.eval y).cells.toList.length)).toArray) hob (.inr ⟨by simp,rfl⟩) (fun _ _ h=>h) (fun _ _ h=>.inl h)
     ⟨rfl,rfl,rfl,by simp [World.setRow],fun k _ hk=>setRow_other w b k _ (fun e=>hk (by rw [h5,e]; rfl))⟩
     (fun b1 off1 hS hb1=>absurd hS (hr.free id _ b1 off1 hob hb1 trivial)) (fun b1 hb1=>.inl ⟨by simp,hb1⟩) rfl
     (fun hx=>⟨b,_,tt,(upd_same _ _ _).trans h5,h6,setRow_heap w b arr _ tt _ h7,
      Eq.mpr (congrArg (fun z=>VRels _ _ (st.heap.set id (AObj.box (lay cs off vs))) z _) hnew)
       (VRels_append (VRels_append (VRels_take off (VRels_mono hx _ h8)) (VRels_mono hx _ h3)) (VRels_drop _ (VRels_mono hx _ h8))),by
      intro u hu
      simp only [List.mem_append] at hu
      rcases hu with (hu | hu) | hu
      ·exact h9 u (List.mem_of_mem_take hu)
      ·exact h4 u hu
      ·exact h9 u (List.mem_of_mem_drop hu)⟩)
     (fun b1 off1 hb1 _ hS=>hr.free id _ b1 off1 hob hb1 trivial hS) (fun b1 off1 hS=>by have:=hr.lim b1 off1 hS; simpa [World.setRow] using this)
    refine goes_skip (by simp [ho]) (G':=_) ?_ h12.2
    simp only [execOp,ho,Instr.storeAt,h11,Instr.sureAddr,storeVar]
    have hsz:(a.eval y).cells.size=ti.size:=by rw [← hk,← hlen]; simp
    simp only [Nat.add_zero] at hrun
    simp only [Sem.run_bind,run_sizeOf hti,Result.andThen_ok,hsz,ne_eq,not_true_eq_false,if_false,hrun,Sem.run_pure]
   ·exact he.elim
  ·exact he.elim
 ·rename_i e1; exact hep _ _ _ _ e1
 ·rename_i id off e1
  rw [e1] at h1
  obtain ⟨ob,rs',hob,rfl,he⟩:=he
  dsimp only at he
  split at he
  ·rename_i tt cs
   obtain ⟨vs,rs2,he,h3,h4⟩:=cellsE_rel hr h2 he
   split at he
   ·rename_i l hl hk
    obtain ⟨rfl,rfl,rfl⟩:=he
    have hk:=Nat.eq_of_beq_eq_true hk
    have hlen:=VRels_length h3
    obtain ⟨_,hfit⟩:=cut_eq hl
    obtain ⟨b,arr,h5,h6,h7,h8,h9⟩:=hr.objs id _ hob
    have harr:=VRels_length h8
    simp only [VRel] at h1
    obtain ⟨b',_,_,_,h10,h11⟩:=h1
    rw [h5] at h10; cases h10
    have hrun:=run_storeCells_at P b off tt (a.eval y).cells.toList 0 arr w h7 (by simp at *; omega) h4
    have hlt:id < st.heap.length:=(List.getElem?_eq_some_iff.1 hob).1
    have hnew:lay cs off vs=cs.take off++vs++cs.drop (off+(a.eval y).cells.toList.length):=by rw [hlen]; exact lay_eq off cs vs (by omega)
    have h12:=hr.upd (o':=.tbox tt (lay cs off vs)) (v':=G.val id) (S':=G.S) (row:=blockOf (G.val id))
     (w':=w.setRow b (arr.toList.take off++(a.eval y).cells.toList++arr.toList.drop (off+(a.eval y).cells.toList.length)).toArray) hob (.inr ⟨by simp,rfl⟩) (fun _ _ h=>h) (fun _ _ h=>.inl h)
     ⟨rfl,rfl,rfl,by simp [World.setRow],fun k _ hk=>setRow_other w b k _ (fun e=>hk (by rw [h5,e]; rfl))⟩
     (fun b1 off1 hS hb1=>absurd hS (hr.free id _ b1 off1 hob hb1 trivial)) (fun b1 hb1=>.inl ⟨by simp,hb1⟩) ⟨rfl,rfl⟩
     (fun hx=>⟨b,_,(upd_same _ _ _).trans h5,h6,setRow_heap w b arr _ tt _ h7,
      Eq.mpr (congrArg (fun z=>VRels _ _ (st.heap.set id (AObj.tbox tt (lay cs off vs))) z _) hnew)
       (VRels_append (VRels_append (VRels_take off (VRels_mono hx _ h8)) (VRels_mono hx _ h3)) (VRels_drop _ (VRels_mono hx _ h8))),by
      intro u hu
      simp only [List.mem_append] at hu
      rcases hu with (hu | hu) | hu
      ·exact h9 u (List.mem_of_mem_take hu)
      ·exact h4 u hu
      ·exact h9 u (List.mem_of_mem_drop hu)⟩)
     (fun b1 off1 hb1 _ hS=>hr.free id _ b1 off1 hob hb1 trivial hS) (fun b1 off1 hS=>by have:=hr.lim b1 off1 hS; simpa [World.setRow] using this)
    refine goes_skip (by simp [ho]) (G':=_) ?_ h12.2
    simp only [execOp,ho,Instr.storeAt,h11,Instr.sureAddr,storeVar]
    have hsz:(a.eval y).cells.size=ti.size:=by rw [← hk,← hlen]; simp
    simp only [Nat.add_zero] at hrun
    simp only [Sem.run_bind,run_sizeOf hti,Result.andThen_ok,hsz,ne_eq,not_true_eq_false,if_false,hrun,Sem.run_pure]
   ·exact he.elim
  ·exact he.elim
 ·exact he.elim
end
end Vc
set_option linter.unusedSimpArgs false
set_option linter.unusedVariables false
namespace Vc
open Go Go.RowKit
theorem foldl_set (off : Nat) : ∀ (l : List Value) (k : Nat) (arr : Array Value), off + k + l.length ≤ arr.size →
  (l.zipIdx k).foldl (fun (cs:Array Value) (x:Value × Nat)=>cs.setIfInBounds (off+x.2) x.1) arr=(arr.toList.take (off+k)++l++arr.toList.drop (off+k+l.length)).toArray
 | [],k,arr,_=>by simp
 | c::r,k,arr,h=>by
  simp only [List.zipIdx_cons,List.foldl_cons]
  rw [foldl_set off r (k+1) (arr.setIfInBounds (off+k) c) (by simp at h ⊢; omega)]
  have e:=list_seg_step arr.toList (off+k) c r (by simp at h ⊢; omega)
  simp only [Array.toList_setIfInBounds]
  rw [show off+(k+1)=off+k+1 by omega]
  rw [e]
  simp [Nat.add_assoc,Nat.add_comm]
theorem fill_one (off : Nat) (v : Array Value) (cells : Array Value) (h : off + v.size ≤ cells.size) :
  v.zipIdx.foldl (fun (cs:Array Value) (x:Value × Nat)=>cs.setIfInBounds (off+x.2) x.1) cells=(cells.toList.take off++v.toList++cells.toList.drop (off+v.size)).toArray:=by
 rw [← Array.foldl_toList]
 have:=foldl_set off v.toList 0 cells (by simpa using h)
 simpa using this
theorem fill_cons (place : Nat → Option (Nat × Nat)) (cells : Array Value) (i : Nat) (y : Value) (rest : List (Nat × Value)) {off k : Nat} (hp : place i = some (off, k)) (hk : y.cells.size = k) (hfit : off + k ≤ cells.size) :
  Instr.fill place cells ((i,y)::rest)=Instr.fill place (cells.toList.take off++y.cells.toList++cells.toList.drop (off+k)).toArray rest:=by
 subst hk
 rw [Instr.fill,hp]
 simp only
 rw [if_neg (by simp; omega),fill_one off y.cells cells hfit]
section
variable {P : Program} [Laid P] {n base : Nat} {w0 : W0} {w : World} {G : Gh} {st : St} {a : Act} {o : Oper} {r : Option Nat} {v : AVal} {ws : List (Nat × AObj)} {rs : List Nat}
theorem parts_rel (hr : Rel n base w0 G st a w) {t : TypeId} {place : Nat → Option (Nat × Nat)}
  (hplace:∀ i off k,partOk P t i off k=true→place i=some (off,k)) :
  ∀ {ps:List (Nat × Operand)} {qs:List (Nat × Nat × Opd)} {cells:List AVal} {arr:Array Value} {rs:List Nat},chkParts P t ps qs=true→VRels w G st.heap cells arr.toList→(∀ u∈arr.toList,u.oneCell'=true) →
   ERun (partsE cells (evParts (getL st.slots) qs)) st.heap v ws rs →
   ws=[]∧∃ cells' arr',Instr.fill place arr (ps.map fun x=>(x.1,a.eval x.2))=some arr'∧v=ofCells cells'∧VRels w G st.heap cells' arr'.toList∧∀ u∈arr'.toList,u.oneCell'=true
 | [],[],cells,arr,rs,_,hv,h1,he=>by
  obtain ⟨rfl,rfl,rfl⟩:=he
  exact ⟨rfl,cells,arr,by simp [Instr.fill],rfl,hv,h1⟩
 | [],_::_,_,_,_,hc,_,_,_=>by simp [chkParts] at hc
 | _::_,[],_,_,_,hc,_,_,_=>by simp [chkParts] at hc
 | (i,x)::ps,(off,k,y)::qs,cells,arr,rs,hc,hv,h1,he=>by
  simp only [chkParts,Bool.and_eq_true] at hc
  obtain ⟨⟨hx,hp⟩,hc⟩:=hc
  have hp:=hplace i off k hp
  simp only [evParts,partsE] at he
  obtain ⟨cs,rs',he,h2,h3⟩:=cellsE_rel hr (chkOpd_rel hr hx) he
  split at he
  ·rename_i l hcut
   split at he
   ·rename_i hk
    have hk:=Nat.eq_of_beq_eq_true hk
    obtain ⟨_,hfit⟩:=cut_eq hcut
    have hl1:=VRels_length hv
    have hl2:=VRels_length h2
    simp only [List.map_cons]
    rw [fill_cons place arr i (a.eval x) _ hp (by simpa [hk] using hl2) (by simp at hl1; omega)]
    refine parts_rel hr hplace hc ?_ ?_ he
    ·rw [lay_eq off cells cs (by omega)]
     simp only [hk]
     exact VRels_append (VRels_append (VRels_take off hv) h2) (VRels_drop (off+k) hv)
    ·intro u hu
     simp only [List.mem_append] at hu
     rcases hu with (hu | hu) | hu
     ·exact h1 u (List.mem_of_mem_take hu)
     ·exact h3 u hu
     ·exact h1 u (List.mem_of_mem_drop hu)
   ·exact he.elim
  ·exact he.elim
theorem ofCells_rel {h:List AObj} {cs:List AVal} {arr:Array Value} (hv:VRels w G h cs arr.toList) (h1:∀ u∈arr.toList,u.oneCell'=true):VRel w G h (ofCells cs) (.agg arr):=by
 unfold ofCells
 split
 ·rename_i ds hds
  obtain ⟨h3,h4⟩:=allD_some hds
  simp only [VRel,DRel]
  exact ⟨arr.toList,by simp,DRels_of (G:=G) (h:=h) h4 (h3 ▸ hv)⟩
 ·simp only [VRel]
  exact ⟨arr.toList,by simp,hv,h1⟩
theorem run_places {fs : Array Field} (h : fs.toList.all (fun f => (P.info? f.type).isSome) = true) :
  ∃ pl:Array (Nat × Nat),(fs.mapM fun (f:Field)=>do pure (f.offset,← Go.sizeOf f.type):Sem (Array (Nat × Nat))).run P w=.ok pl w∧∀ (i:Nat) (f:Field) (k:Nat),fs[i]?=some f→sizeIs P f.type k=true→pl[i]?=some (f.offset,k):=by
 have key:∀ (l:List Field),l.all (fun f=>(P.info? f.type).isSome)=true→∃ pl:List (Nat × Nat),(l.mapM fun (f:Field)=>do pure (f.offset,← Go.sizeOf f.type):Sem (List (Nat × Nat))).run P w=.ok pl w∧∀ (i:Nat) (f:Field) k,l[i]?=some f→sizeIs P f.type k=true→pl[i]?=some (f.offset,k):=by
  intro l
  induction l with
  | nil=>intro _; exact ⟨[],by simp,by simp⟩
  | cons f l ih =>
   intro hl
   simp only [List.all_cons,Bool.and_eq_true] at hl
   obtain ⟨pl,h1,h2⟩:=ih hl.2
   obtain ⟨ti,hti⟩:=Option.isSome_iff_exists.1 hl.1
   refine ⟨(f.offset,ti.size)::pl,?_,?_⟩
   ·simp only [List.mapM_cons,Sem.run_bind,run_sizeOf hti,Result.andThen_ok,Sem.run_pure,h1]
   ·intro i g k hg hk
    cases i with
    | zero =>
     simp at hg; subst hg
     obtain ⟨ti',_,h3,h4,_⟩:=sizeIs_spec hk
     rw [hti] at h3; cases h3
     simp [h4]
    | succ i=>simpa using h2 i g k (by simpa using hg) hk
 obtain ⟨pl,h1,h2⟩:=key fs.toList h
 refine ⟨pl.toArray,?_,?_⟩
 ·rw [Array.mapM_eq_mapM_toList]
  simp only [Sem.run_map,h1,Result.andThen_ok]
 ·intro i f k hf hk
  simpa using h2 i f k (by simpa using hf) hk
theorem go_build (hr : Rel n base w0 G st a w) {t : TypeId} {ps : Array (Nat × Operand)} {zero : List AVal} {qs : List (Nat × Nat × Opd)} (ho : o.op = .build t ps) (hz : zeroOk P t zero = true) (hf : fieldsOk P t = true)
  (hc:chkParts P t ps.toList qs=true) (hag:isAggT P t=true) (he:ERun (eff P (getL st.slots) (.build zero qs)) st.heap v ws rs):Goes P n base w0 w st a o r v ws:=by
 obtain ⟨i,z,hi,hzz,hcs,hsz⟩:=zeroOk_spec hz
 simp only [eff] at he
 have hone:=constsOk_one hcs
 have hrel:=constsOk_rel (w:=w) (G:=G) (h:=st.heap) hcs
 unfold fieldsOk at hf
 split at hf
 ·rename_i fs hu
  obtain ⟨pl,h1,h2⟩:=run_places (w:=w) hf
  obtain ⟨rfl,cells',arr',h3,rfl,h4,h5⟩:=parts_rel (place:=(pl[·]?)) hr (fun i off k h=>by
   unfold partOk at h
   rw [hu] at h
   simp only at h
   split at h
   ·rename_i f hff
    simp only [Bool.and_eq_true] at h
    rw [← Nat.eq_of_beq_eq_true h.1]
    exact h2 i f k hff h.2
   ·cases h) hc hrel hone he
  refine goes_value (by simp [ho]) (x:=.agg arr') (w':=w) (G':=G) ?_ hr (ofCells_rel h4 h5)
  have h3':Instr.fill (fun x=>pl[x]?) z.cells (ps.toList.map fun x=>(x.1,a.eval x.2))=some arr':=h3
  simp only [execOp,ho,Instr.build,Sem.run_bind,run_zero hi hzz,run_underlying hu,Result.andThen_ok,h1,Array.toList_map,h3',Sem.run_pure]
 ·rename_i l e hu
  obtain ⟨ti,hti⟩:=Option.isSome_iff_exists.1 hf
  obtain ⟨rfl,cells',arr',h3,rfl,h4,h5⟩:=parts_rel (place:=fun i=>some (i * ti.size,ti.size)) hr (fun i off k h=>by
   unfold partOk at h
   rw [hu] at h
   simp only [Bool.and_eq_true] at h
   obtain ⟨ti',_,h6,h7,_⟩:=sizeIs_spec h.1
   rw [hti] at h6; cases h6
   rw [Nat.eq_of_beq_eq_true h.2,h7]) hc hrel hone he
  refine goes_value (by simp [ho]) (x:=.agg arr') (w':=w) (G':=G) ?_ hr (ofCells_rel h4 h5)
  simp only [execOp,ho,Instr.build,Sem.run_bind,run_zero hi hzz,run_underlying hu,Result.andThen_ok,run_sizeOf hti,Array.toList_map,h3,Sem.run_pure]
 ·cases hf
end
end Vc
