import Derived.Test.YtmffgalmdnpcgaaGreatDoorG01
import Derived.Laws.MakeOwn
import Derived.Lib.AppendZerosOnto
import Derived.RangeFuncCalls
set_option linter.unusedSectionVars false
set_option linter.unusedVariables false
set_option linter.unusedSimpArgs false
set_option linter.unusedSimpArgs false
set_option linter.unusedVariables false
namespace Vc
open Go Go.RowKit
def Frz (h:List AObj) (ws:List (Nat × AObj)):Prop:=∀ id o,(id,o)∈ws→∃ t sz es fz,o=.row t sz es true∧h[id]?=some (.row t sz es fz)
def Sld (S:Nat→Nat→Prop) (val:Nat→Value) (ws:List (Nat × AObj)):Prop:=∀ id t sz es fz,(id,AObj.row t sz es fz)∈ws→∀ b,(val id).ownBlock=some b→∀ j,j < es.length * sz→S b j
theorem Frz_nil {h:List AObj}:Frz h []:=fun _ _ h=>by cases h
theorem Frz_app {h:List AObj} {x y:List (Nat × AObj)} (hx:Frz h x) (hy:Frz h y):Frz h (x++y):=fun id o hm=>(List.mem_append.1 hm).elim (hx id o) (hy id o)
theorem Sld_app {S:Nat→Nat→Prop} {val:Nat→Value} {x y:List (Nat × AObj)} (h:Sld S val (x++y)):Sld S val x∧Sld S val y :=
 ⟨fun id t sz es fz hm=>h id t sz es fz (List.mem_append_left _ hm),fun id t sz es fz hm=>h id t sz es fz (List.mem_append_right _ hm)⟩
theorem own_block {v:Value} {b:Nat} (h:v.ownBlock=some b):blockOf v=some b:=by
 cases v <;> simp_all [Value.ownBlock,blockOf]
 rename_i a _ _
 cases a <;> simp_all [Value.ownBlock,blockOf]
theorem DXs_rows {w:World} {S:Nat→Nat→Prop}:∀ {es:List Data} {sz b off:Nat} {xs:List Value},DXs w S es sz xs→(∀ j u,xs[j]?=some u→w.cell? ⟨b,off+j,none⟩=some u)→(∀ j,j < es.length * sz→S b (off+j))→DRows w S es b off sz
 | [],sz,b,off,xs,_,_,_=>by simp [DRows]
 | d::ds,sz,b,off,xs,h,hc,hs=>by
  simp only [DXs] at h
  obtain ⟨x,r,rfl,h1,h2,h3⟩:=h
  have cells:∀ {cs:List Data} {ys:List Value} {o:Nat},DRels w S cs ys→(∀ j u,ys[j]?=some u→w.cell? ⟨b,o+j,none⟩=some u)→(∀ j,j < cs.length→S b (o+j))→DCs w S cs b o:=by
   intro cs
   induction cs with
   | nil=>intros; simp [DCs]
   | cons c cs ih =>
    intro ys o hd hy hS
    simp only [DRels] at hd
    obtain ⟨u,r',rfl,h4,h5,h6⟩:=hd
    simp only [DCs]
    refine ⟨h4,by simpa using hS 0 (by simp),⟨u,by simpa using hy 0 u rfl,h5⟩,ih h6 (fun j y hj=>?_) (fun j hj=>?_)⟩
    ·have:=hy (j+1) y (by simpa using hj)
     rwa [show o+(j+1)=o+1+j by omega] at this
    ·have:=hS (j+1) (by simpa using hj)
     rwa [show o+(j+1)=o+1+j by omega] at this
  have hlen:=DRels_length h2
  refine DRows_cons.2 ⟨⟨by omega,cells h2 (fun j u hj=>hc j u ?_) (fun j hj=>hs j ?_)⟩,DXs_rows h3 (fun j u hj=>?_) (fun j hj=>?_)⟩
  ·rw [List.getElem?_append_left (List.getElem?_eq_some_iff.1 hj).1]; exact hj
  ·simp only [List.length_cons,Nat.add_mul]; omega
  ·have:=hc (sz+j) u (by rw [List.getElem?_append_right (by omega)]; rw [show sz+j - x.length=j by omega]; exact hj)
   rwa [← Nat.add_assoc] at this
  ·have:=hs (sz+j) (by simp only [List.length_cons,Nat.add_mul]; omega)
   rwa [← Nat.add_assoc] at this
section
variable {P : Program} [Laid P] {n base : Nat} {w0 : W0} {w : World} {G : Gh} {st : St} {a : Act} {o : Oper} {r : Option Nat}
theorem row_slice (hr : Rel n base w0 G st a w) {id : Nat} {t : TypeId} {sz : Nat} {es : List Data} {fz : Bool} (hh : st.heap[id]? = some (.row t sz es fz)) {S1 : Nat → Nat → Prop} (hS : ∀ b o, G.S b o → S1 b o)
  (hsl:∀ b,(G.val id).ownBlock=some b→∀ j,j < es.length * sz→S1 b j):DRel w S1 (.slice sz es) (G.val id):=by
 obtain ⟨h0,xs,hown,hdx⟩:=hr.objs _ _ hh
 simp only [DRel]
 rcases hown.2 with ⟨h9,h10⟩ | ⟨g,cap,cur,h9,h10,h11,h12,h13,h14,h15⟩
 ·have:es=[]:=List.eq_nil_of_length_eq_zero h10
  subst this
  exact ⟨none,0,h9,by simp,.inl rfl⟩
 ·refine ⟨some ⟨g,0,none⟩,cap,h9,h12,.inr ⟨g,0,rfl,?_⟩⟩
  refine DXs_rows (DXs_mono (fun _ _ _=>rfl) hS es hdx) (fun j u hj=>?_) (fun j hj=>?_)
  ·have:=hown.cells (g:=g) (by rw [h9]; rfl) j u hj
   rwa [addr_add] at this
  ·rw [Nat.zero_add]
   exact hsl g (by rw [h9]; rfl) j hj
theorem agg_not_one {w:World} {S:Nat→Nat→Prop} {d:Data} {v:Value} (hv:DRel w S d v) (h1:v.oneCell'=true):d.isAgg=false:=by
 cases d with
 | agg cs=>simp only [DRel] at hv; obtain ⟨vs,e,_⟩:=hv; subst e; simp [Value.oneCell'] at h1
 | _=>rfl
def Pv (G:Gh) (w:World) (h:List AObj) (x:AVal) (y:Value) (fws:List (Nat × AObj)):Prop :=
 Frz h fws∧∀ S1,(∀ b o,G.S b o→S1 b o)→Sld S1 G.val fws→∀ val,VRel w ⟨S1,val⟩ [] x y
mutual
theorem pv_rel (hr : Rel n base w0 G st a w) : ∀ {x : AVal} {y : Value} {k : AVal → List (Nat × AObj) → Eff} {v : AVal} {ws : List (Nat × AObj)} {rs : List Nat}, VRel w G st.heap x y → ERun (pv x k) st.heap v ws rs →
  ∃ x' fws rs',ERun (k x' fws) st.heap v ws rs'∧Pv G w st.heap x' y fws
 | .sl id m,y,k,v,ws,rs,hv,he=>by
  simp only [pv] at he
  obtain ⟨ob,rs',hob,rfl,he⟩:=he
  simp only [VRel] at hv
  obtain ⟨t1,sz,es,fz,h5,h6,h7⟩:=hv
  rw [h5] at hob; cases hob
  obtain ⟨h8,he⟩:=he
  refine ⟨_,_,rs',he,⟨fun i o hm=>?_,fun S1 hS hsl val=>?_⟩⟩
  ·simp at hm
   obtain ⟨rfl,rfl⟩:=hm
   exact ⟨t1,sz,es,fz,rfl,h5⟩
  ·simp only [VRel]
   rw [h7 h8]
   exact row_slice hr h5 hS fun b hb j hj=>hsl id t1 sz es true (by simp) b hb j hj
 | .nils sz,y,k,v,ws,rs,hv,he=>by
  simp only [pv] at he
  simp only [VRel] at hv
  exact ⟨_,_,rs,he,Frz_nil,fun S1 _ _ val=>by simp only [VRel,DRel]; exact ⟨none,0,hv,by simp,.inl trivial⟩⟩
 | .agg vs,y,k,v,ws,rs,hv,he=>by
  simp only [pv] at he
  simp only [VRel] at hv
  obtain ⟨us,rfl,h1,h2⟩:=hv
  obtain ⟨ds,fws,rs',he,h3,h4⟩:=pvs_rel hr h1 h2 he
  exact ⟨_,_,rs',he,h3,fun S1 hS hsl val=>by simp only [VRel,DRel]; exact ⟨us,rfl,h4 S1 hS hsl⟩⟩
 | .d x,y,k,v,ws,rs,hv,he=>by
  simp only [pv] at he
  simp only [VRel] at hv
  exact ⟨_,_,rs,he,Frz_nil,fun S1 hS _ val=>by simp only [VRel]; exact DRel_mono (fun _ _ _=>rfl) hS x hv⟩
 | .cp cs off,y,k,v,ws,rs,hv,he=>by
  simp only [pv] at he
  simp only [VRel] at hv
  obtain ⟨b,b0,e,h1⟩:=hv
  exact ⟨_,_,rs,he,Frz_nil,fun S1 hS _ val=>by simp only [VRel]; exact ⟨b,b0,e,DCs_mono (fun _ _ _=>rfl) hS cs h1⟩⟩
 | .anyn neg es,y,k,v,ws,rs,hv,he=>by
  simp only [pv] at he
  obtain ⟨hne,he⟩:=he
  simp only [VRel] at hv
  obtain ⟨b,e,hb⟩:=hv
  have hb:b=false:=by
   cases b with
   | false=>rfl
   | true=>exact absurd (hb rfl) hne
  subst hb
  exact ⟨_,_,rs,he,Frz_nil,fun S1 _ _ val=>by simp only [VRel,DRel]; rw [e]; cases neg <;> rfl⟩
 | .ptr _ _,_,_,_,_,_,_,he=>by simp [pv,ERun] at he
 | .ep _ _ _ _,_,_,_,_,_,_,he=>by simp [pv,ERun] at he
 | .rv _ _ _ _,_,_,_,_,_,_,he=>by simp [pv,ERun] at he
 | .mp _,_,_,_,_,_,_,he=>by simp [pv,ERun] at he
 | .it _,_,_,_,_,_,_,he=>by simp [pv,ERun] at he
 | .fn _ _ _,_,_,_,_,_,_,he=>by simp [pv,ERun] at he
 | .tup _,_,_,_,_,_,_,he=>by simp [pv,ERun] at he
 | .undef,_,_,_,_,_,_,he=>by simp [pv,ERun] at he
 | .gone,_,_,_,_,_,_,he=>by simp [pv,ERun] at he
theorem pvs_rel (hr : Rel n base w0 G st a w) : ∀ {xs : List AVal} {ys : List Value} {k : List Data → List (Nat × AObj) → Eff} {v : AVal} {ws : List (Nat × AObj)} {rs : List Nat}, VRels w G st.heap xs ys → (∀ u ∈ ys, u.oneCell' = true) → ERun (pvs xs k) st.heap v ws rs →
  ∃ ds fws rs',ERun (k ds fws) st.heap v ws rs'∧Frz st.heap fws∧∀ S1,(∀ b o,G.S b o→S1 b o)→Sld S1 G.val fws→DRels w S1 ds ys
 | [],ys,k,v,ws,rs,hv,h1,he=>by
  simp only [VRels] at hv
  subst hv
  exact ⟨_,_,rs,he,Frz_nil,fun _ _ _=>by simp [DRels]⟩
 | x::xs,ys,k,v,ws,rs,hv,h1,he=>by
  simp only [VRels] at hv
  obtain ⟨y,r,rfl,h2,h3⟩:=hv
  simp only [pvs] at he
  obtain ⟨x',fws,rs',he,h4,h5⟩:=pv_rel hr h2 he
  split at he
  ·rename_i d
   obtain ⟨ds,fws2,rs2,he,h6,h7⟩:=pvs_rel hr h3 (fun u hu=>h1 u (List.mem_cons_of_mem _ hu)) he
   refine ⟨_,_,rs2,he,Frz_app h4 h6,fun S1 hS hsl=>?_⟩
   obtain ⟨s1,s2⟩:=Sld_app hsl
   have h8:=h5 S1 hS s1 G.val
   simp only [VRel] at h8
   simp only [DRels]
   exact ⟨y,r,rfl,agg_not_one h8 (h1 y List.mem_cons_self),h8,h7 S1 hS s2⟩
  ·exact he.elim
end
theorem pvL_rel (hr : Rel n base w0 G st a w) : ∀ {xs : List AVal} {ys : List Value} {k : List AVal → List (Nat × AObj) → Eff} {v : AVal} {ws : List (Nat × AObj)} {rs : List Nat}, VRels w G st.heap xs ys → ERun (pvL xs k) st.heap v ws rs →
  ∃ xs' fws rs',ERun (k xs' fws) st.heap v ws rs'∧Frz st.heap fws∧∀ S1,(∀ b o,G.S b o→S1 b o)→Sld S1 G.val fws→∀ val,VRels w ⟨S1,val⟩ [] xs' ys
 | [],ys,k,v,ws,rs,hv,he=>by
  simp only [VRels] at hv
  subst hv
  exact ⟨_,_,rs,he,Frz_nil,fun _ _ _ _=>by simp [VRels]⟩
 | x::xs,ys,k,v,ws,rs,hv,he=>by
  simp only [VRels] at hv
  obtain ⟨y,r,rfl,h2,h3⟩:=hv
  simp only [pvL] at he
  obtain ⟨x',fws,rs',he,h4,h5⟩:=pv_rel hr h2 he
  obtain ⟨ds,fws2,rs2,he,h6,h7⟩:=pvL_rel hr h3 he
  refine ⟨_,_,rs2,he,Frz_app h4 h6,fun S1 hS hsl val=>?_⟩
  obtain ⟨s1,s2⟩:=Sld_app hsl
  exact VRels_cons.2 ⟨h5 S1 hS s1 val,h7 S1 hS s2 val⟩
theorem freeze_rel : ∀ {ws : List (Nat × AObj)} {st : St} {G : Gh}, Rel n base w0 G st a w → Frz st.heap ws →
  ∃ G1,Rel n base w0 G1 ⟨st.slots,applyW st.heap ws⟩ a w∧(∀ b o,G.S b o→G1.S b o)∧G1.val=G.val∧Sld G1.S G1.val ws ∧
   (∀ (id:Nat) (o:AObj),st.heap[id]?=some o→o=AObj.none→(applyW st.heap ws)[id]?=some AObj.none)∧Ext w G st.heap w G1 (applyW st.heap ws)
 | [],st,G,hr,_=>⟨G,hr,fun _ _ h=>h,rfl,(fun _ _ _ _ _ h=>by cases h),(fun id o h e=>by simpa [applyW,e] using h),Ext.refl w G st.heap⟩
 | (i,ob)::ws,st,G,hr,hf=>by
  obtain ⟨t,sz,es,fz,rfl,hh⟩:=hf i ob List.mem_cons_self
  have hlt:i < st.heap.length:=(List.getElem?_eq_some_iff.1 hh).1
  let S':Nat→Nat→Prop:=fun b j=>G.S b j∨((G.val i).ownBlock=some b∧j < es.length * sz)
  have hobj:=hr.objs i _ hh
  have hblk:=ORel_lt hobj (by simp)
  have h:=hr.upd (o':=.row t sz es true) (v':=G.val i) (S':=S') (row:=none) (w':=w) hh (.inl rfl) (fun _ _ h=>.inl h)
   (fun b off h=>h.imp id fun h=>own_block h.1) ⟨rfl,rfl,rfl,Nat.le_refl _,fun _ _ _=>rfl⟩ (fun _ _ _ h=>by cases h) (fun b hb=>.inl ⟨by simp,hb⟩)
   ⟨rfl,rfl,Nat.le_refl _,fun _=>rfl⟩
   (fun hx=>by
    obtain ⟨h0,xs,h1,h2⟩:=hobj
    exact ⟨h0,xs,by rw [show (⟨S',upd G.val i (G.val i)⟩:Gh).val i=G.val i from upd_same _ _ _]; exact h1,DXs_mono (fun _ _ _=>rfl) (fun _ _ h=>.inl h) es h2⟩)
   (fun b off hb hown hs=>by
    have hle:=hown rfl
    rcases hs with hs | ⟨_,hs⟩
    ·exact hr.free i _ b off hh hb (fun _=>hle) hs
    ·omega)
   (fun b off hs=>hs.elim (hr.lim b off) fun h=>(hblk b (own_block h.1)).2)
  have hval:upd G.val i (G.val i)=G.val:=by funext j; unfold upd; split <;> simp_all
  rw [hval] at h
  have hf':Frz (st.heap.set i (.row t sz es true)) ws:=by
   intro id o hm
   obtain ⟨t2,sz2,es2,fz2,e,h2⟩:=hf id o (List.mem_cons_of_mem _ hm)
   by_cases e2:id=i
   ·subst e2
    rw [hh] at h2; cases h2
    exact ⟨_,_,_,true,e,by simp [hlt]⟩
   ·exact ⟨t2,sz2,es2,fz2,e,by rw [List.getElem?_set_ne (Ne.symm e2)]; exact h2⟩
  obtain ⟨G1,h1,h2,h3,h4,h5,h6⟩:=freeze_rel h.2 hf'
  have htrans:Ext w G st.heap w G1 (applyW (st.heap.set i (.row t sz es true)) ws):=by
   obtain ⟨q1,_⟩:=h
   refine ⟨fun b o hb=>h2 b o (.inl hb),fun _ _ _=>rfl,?_,?_,?_,?_,?_,?_,?_,?_,?_,?_⟩
   ·intro id t1 s1 e1 f1 hi
    obtain ⟨e2,f2,k1,k2,k3⟩:=q1.row id t1 s1 e1 f1 hi
    obtain ⟨e3,f3,k4,k5,k6⟩:=h6.row id t1 s1 e2 f2 k1
    exact ⟨e3,f3,k4,by omega,fun _=>by rw [h3]⟩
   ·intro id cs hi
    obtain ⟨k1,k2⟩:=q1.box id cs hi
    refine ⟨?_,by rw [h3]⟩
    rcases k1 with ⟨cs',k1⟩ | ⟨ds,k1⟩
    ·exact (h6.box id cs' k1).1
    ·exact .inr ⟨ds,(h6.cbox id ds k1).1⟩
   ·intro id ds hi
    exact ⟨(h6.cbox id ds (q1.cbox id ds hi).1).1,by rw [h3]⟩
   ·intro id es1 hi
    obtain ⟨e2,k1,_⟩:=q1.mapo id es1 hi
    rcases k1 with k1 | k1
    ·obtain ⟨e3,k2,_⟩:=h6.mapo id e2 k1
     exact ⟨e3,k2,by rw [h3]⟩
    ·exact ⟨e2,.inr (h6.mapf id e2 k1).1,by rw [h3]⟩
   ·intro id l p hi
    obtain ⟨l2,p2,k1,_⟩:=q1.sit id l p hi
    obtain ⟨l3,p3,k2,_⟩:=h6.sit id l2 p2 k1
    exact ⟨l3,p3,k2,by rw [h3]⟩
   ·intro id s p n sl ps xa xb ck hi
    obtain ⟨s2,p2,k1,_⟩:=q1.lp id s p n sl ps xa xb ck hi
    obtain ⟨s3,p3,k2,_⟩:=h6.lp id s2 p2 n sl ps xa xb ck k1
    exact ⟨s3,p3,k2,by rw [h3]⟩
   ·intro id t1 cs hi
    obtain ⟨c2,k1,_⟩:=q1.tbox id t1 cs hi
    obtain ⟨c3,k2,_⟩:=h6.tbox id t1 c2 k1
    exact ⟨c3,k2,by rw [h3]⟩
   ·intro id t1 bs hi
    obtain ⟨b2,k1,k3,_⟩:=q1.brow id t1 bs hi
    obtain ⟨b3,k2,k4,_⟩:=h6.brow id t1 b2 k1
    exact ⟨b3,k2,by omega,fun _=>by rw [h3]⟩
   ·intro id es1 hi
    exact ⟨(h6.mapf id es1 (q1.mapf id es1 hi).1).1,by rw [h3],fun _ _=>rfl⟩
   ·intro id m c l hi
    obtain ⟨c2,l2,k1,_⟩:=q1.mit id m c l hi
    obtain ⟨c3,l3,k2,_⟩:=h6.mit id m c2 l2 k1
    exact ⟨c3,l3,k2,by rw [h3]⟩
  refine ⟨G1,h1,fun b o hb=>h2 b o (.inl hb),h3,?_,?_,htrans⟩
  ·intro id t2 sz2 es2 fz2 hm b hb j hj
   rcases List.mem_cons.1 hm with e | hm
   ·cases e
    exact h2 b j (.inr ⟨by rw [h3] at hb; exact hb,hj⟩)
   ·exact h4 id t2 sz2 es2 fz2 hm b hb j hj
  ·intro id o ho e
   subst e
   refine h5 id .none ?_ rfl
   by_cases e2:id=i
   ·subst e2; rw [hh] at ho; cases ho
   ·rw [List.getElem?_set_ne (Ne.symm e2)]; exact ho
end
end Vc
set_option linter.unusedSimpArgs false
set_option linter.unusedVariables false
namespace Vc
open Go Go.RowKit
theorem DXs_length {w:World} {S:Nat→Nat→Prop}:∀ {es:List Data} {sz:Nat} {xs:List Value},DXs w S es sz xs→xs.length=es.length * sz
 | [],sz,xs,h=>by simp only [DXs] at h; subst h; simp
 | d::ds,sz,xs,h=>by
  simp only [DXs] at h
  obtain ⟨x,r,rfl,h1,h2,h3⟩:=h
  have:=DXs_length h3
  simp [this,h1,Nat.add_mul]; omega
theorem DXs_append {w:World} {S:Nat→Nat→Prop}:∀ {es fs:List Data} {sz:Nat} {xs ys:List Value},DXs w S es sz xs→DXs w S fs sz ys→DXs w S (es++fs) sz (xs++ys)
 | [],fs,sz,xs,ys,h,hy=>by simp only [DXs] at h; subst h; simpa using hy
 | d::ds,fs,sz,xs,ys,h,hy=>by
  simp only [DXs] at h
  obtain ⟨x,r,rfl,h1,h2,h3⟩:=h
  simp only [List.cons_append,DXs]
  exact ⟨x,r++ys,by simp,h1,h2,DXs_append h3 hy⟩
theorem DXs_one {w:World} {S:Nat→Nat→Prop}:∀ {es:List Data} {sz:Nat} {xs:List Value},DXs w S es sz xs→∀ u∈xs,u.oneCell'=true
 | [],sz,xs,h=>by simp only [DXs] at h; subst h; simp
 | d::ds,sz,xs,h=>by
  simp only [DXs] at h
  obtain ⟨x,r,rfl,h1,h2,h3⟩:=h
  intro u hu
  rcases List.mem_append.1 hu with e | e
  ·exact DRels_one h2 u e
  ·exact DXs_one h3 u e
theorem DXs_set {w : World} {S : Nat → Nat → Prop} {d : Data} {x : List Value} : ∀ {es : List Data} {sz i : Nat} {xs : List Value}, DXs w S es sz xs → i < es.length → x.length = sz → DRels w S d.cells x →
  DXs w S (es.set i d) sz (xs.take (i * sz)++x++xs.drop (i * sz+sz))
 | [],sz,i,xs,_,hi,_,_=>by simp at hi
 | e::es,sz,0,xs,h,_,hl,hd=>by
  simp only [DXs] at h
  obtain ⟨y,r,rfl,h1,h2,h3⟩:=h
  simp only [List.set_cons_zero,DXs]
  refine ⟨x,r,?_,hl,hd,h3⟩
  simp [← h1]
 | e::es,sz,i+1,xs,h,hi,hl,hd=>by
  simp only [DXs] at h
  obtain ⟨y,r,rfl,h1,h2,h3⟩:=h
  simp only [List.set_cons_succ,DXs]
  refine ⟨y,_,?_,h1,h2,DXs_set h3 (by simpa using hi) hl hd⟩
  have e1:(i+1) * sz=y.length+i * sz:=by rw [h1,Nat.add_mul]; omega
  rw [e1,Nat.add_assoc]
  simp [List.take_append,List.drop_append,List.take_of_length_le (show y.length≤y.length+i * sz by omega),List.drop_eq_nil_of_le (show y.length≤y.length+(i * sz+sz) by omega)]
section
variable {P : Program} [Laid P] {n base : Nat} {w0 : W0} {w : World} {G : Gh} {st : St} {a : Act} {o : Oper} {r : Option Nat} {v : AVal} {ws : List (Nat × AObj)} {rs : List Nat}
theorem newrow_rel (hr : Rel n base w0 G st a w) {id : Nat} (hn : st.heap[id]? = some .none) {arr : Array Value} {t : TypeId} {sz : Nat} {es : List Data} (hsz : 0 < sz) (hx : DXs w G.S es sz arr.toList) (hm : es.length ≤ maxLen) :
  ∃ G',Rel n base w0 G' { st with heap:=st.heap.set id (.row t sz es false) } a (w.alloc (.cells arr t)) ∧
   VRel (w.alloc (.cells arr t)) G' (st.heap.set id (.row t sz es false)) (.sl id es.length) (.slice (some ⟨w.heap.size,0,none⟩) es.length es.length):=by
 have hlt:id < st.heap.length:=(List.getElem?_eq_some_iff.1 hn).1
 have hlen:=DXs_length hx
 have h:=hr.upd (o':=.row t sz es false) (v':=.slice (some ⟨w.heap.size,0,none⟩) es.length es.length) (S':=G.S) (row:=none) (w':=w.alloc (.cells arr t)) hn (.inl rfl) (fun _ _ h=>h) (fun _ _ h=>.inl h)
  (World.grownBy_alloc w _ none) (fun _ _ _ h=>by cases h) (fun b hb=>by cases hb; exact .inr (Nat.le_refl _)) trivial
  (fun he=>by
   refine ⟨hsz,arr.toList,?_,DXs_mono he.keeps (fun _ _ h=>h) es hx⟩
   rw [show (⟨G.S,upd G.val id (.slice (some ⟨w.heap.size,0,none⟩) es.length es.length)⟩:Gh).val id=_ from upd_same _ _ _]
   exact ⟨hlen,.inr ⟨w.heap.size,es.length,arr,rfl,hr.old,heap_alloc_new w _,Nat.le_refl _,hm,by simpa using hlen,by rw [← hlen]; exact List.take_length⟩⟩)
  (fun b off hb _ hs=>by cases hb; have:=hr.lim _ _ hs; simp at this) (fun b off hs=>by have:=hr.lim _ _ hs; simp; omega)
 refine ⟨_,h.2,?_⟩
 simp only [VRel]
 exact ⟨t,sz,es,false,by simp [hlt],Nat.le_refl _,fun _=>by simp [upd]⟩
theorem run_append_any (base : Nat) (t ty e : TypeId) (i : TypeInfo) (z : Value) (size bytes : Nat) (ht : P.underlying t = some (.slice e)) (hi : P.info? e = some i) (hz : i.zero = some z)
  (hsize:i.size=size) (hby:i.bytes=bytes) (hzs:z.cells.size=size) (hsz:0 < size)
  (v0:Value) (m:Nat) (xs:List Value) (hown:w.ownsRow base e size v0 m xs)
  (ad:Option Addr) (k c:Nat) (news:List Value) (hl:news.length=k * size) (hk:k=0∨∃ b off,ad=some ⟨b,off,none⟩∧∀ j u,news[j]?=some u→w.cell? ⟨b,off+j,none⟩=some u)
  (h1:∀ u∈news,u.oneCell'=true) (h63:m+k≤140737488355328) (hbytes:(m+k) * bytes≤140737488355328) (hbase:base≤w.heap.size) :
  ∃ v' w',(Builtin.append_ #[t,t] ty #[v0,.slice ad k c]).run P w=.ok v' w'∧w'.ownsRow base e size v' (m+k) (xs++news)∧w.grownBy w' v0.ownBlock ∧
   (v'.ownBlock=v0.ownBlock∨v'.ownBlock=some w.heap.size)∧(k=0→v'=v0)∧(∀ g j,v0.ownBlock=some g→j < m * size→w'.cell? ⟨g,j,none⟩=w.cell? ⟨g,j,none⟩):=by
 subst hsize
 subst hby
 have hlen:(xs++news).length=(m+k) * i.size:=by rw [List.length_append,hown.1,hl,Nat.add_mul]
 by_cases hk0:k=0
 ·subst hk0
  have hn:news=[]:=List.eq_nil_of_length_eq_zero (by simpa using hl)
  subst hn
  refine ⟨v0,w,?_,by simpa using hown,⟨rfl,rfl,rfl,Nat.le_refl _,fun _ _ _=>rfl⟩,.inl rfl,fun _=>rfl,fun _ _ _ _=>rfl⟩
  rcases hown.2 with ⟨rfl,rfl⟩ | ⟨g,cap,cur,rfl,hbg,hg,hnc,hcm,hcs,htake⟩
  ·cases ad <;> simp [Builtin.append_,run_underlying ht,Go.sizeOf,typeInfo,hi,Builtin.lenOf,Builtin.firstCells,loadCells,loadCellsFrom]
  ·cases ad <;> simp [Builtin.append_,run_underlying ht,Go.sizeOf,typeInfo,hi,Builtin.lenOf,Builtin.firstCells,loadCells,loadCellsFrom,hnc,storeCells]
 ·obtain ⟨b,off,rfl,hnews⟩:=hk.resolve_left hk0
  have hnews':∀ j u,news[j]?=some u→w.cell? ((⟨b,off,none⟩:Addr).add j)=some u:=fun j u hj=>by rw [addr_add]; exact hnews j u hj
  have hm63:m+k≤maxLen:=by simp only [maxLen]; omega
  have grown : ∀ (old : Nat), old < m + k →
    (w.drew.alloc (.cells (xs.toArray++news.toArray++Builtin.zeroCells z.cells (grownCap w (m+k) old e - (m+k))) e)).ownsRow base e i.size
     (.slice (some ⟨w.heap.size,0,none⟩) (m+k) (grownCap w (m+k) old e)) (m+k) (xs++news):=by
   intro old ho
   have hge:=grownCap_ge w (m+k) old e
   have hcm:grownCap w (m+k) old e≤maxLen:=grownCap_le_maxLen w (m+k) old e hm63
   refine ⟨hlen,.inr ⟨w.heap.size,_,_,rfl,hbase,heap_alloc_new w.drew _,hge,hcm,?_,?_⟩⟩
   ·simp only [Array.size_append,List.size_toArray,size_zeroCells,hzs,hown.1,hl,← Nat.add_mul]
    congr 1
    omega
   ·simp only [Array.toList_append,List.append_assoc]
    rw [← List.append_assoc,← hlen]
    exact List.take_left
  rcases hown.2 with ⟨rfl,rfl⟩ | ⟨g,cap,cur,rfl,hbg,hg,hnc,hcm,hcs,htake⟩
  ·have hx:xs=[]:=List.eq_nil_of_length_eq_zero (by simpa using hown.1)
   subst hx
   have hr:=run_append_nil (P:=P) w t ty e i z ht hi hz ⟨b,off,none⟩ k c news hl hnews' (by omega) (by omega) (by simp only [Nat.zero_add] at hbytes; omega)
   have hgr:=grown 0 (by omega)
   simp only [Nat.zero_add,List.nil_append,Array.empty_append] at hgr ⊢
   exact ⟨_,_,hr,hgr,⟨rfl,rfl,rfl,by simp,fun k hk _=>Below.heap_alloc w.drew _ k hk⟩,.inr rfl,fun h=>absurd h hk0,fun g j h=>by simp [Value.ownBlock] at h⟩
  ·by_cases hroom:m+k≤cap
   ·have hfit:m * i.size+news.length≤cur.size:=by rw [hl,hcs,← Nat.add_mul]; exact Nat.mul_le_mul_right _ hroom
    have hr:=run_append_room (P:=P) w t ty e i ht hi g m cap cur hg ⟨b,off,none⟩ k c news hl hnews' h1 hroom hfit
    refine ⟨_,_,hr,⟨hlen,.inr ⟨g,cap,_,rfl,hbg,setRow_heap w g cur _ e _ hg,hroom,hcm,?_,?_⟩⟩,⟨rfl,rfl,rfl,by simp [World.setRow],fun j _ hj=>setRow_other w g j _ (fun e=>hj (by simp [Value.ownBlock,e]))⟩,.inl rfl,fun h=>absurd h hk0,fun g' j hg' hj=>?_⟩
    ·simp only [List.size_toArray,List.length_append,List.length_take,List.length_drop,Array.length_toList]
     omega
    ·rw [htake,← hlen]
     exact List.take_left
    ·simp [Value.ownBlock] at hg'
     subst hg'
     rw [cell_of_row _ g j _ e (0,0) (setRow_heap w g cur _ e _ hg),cell_of_row w g j cur e (0,0) hg]
     simp only [List.append_assoc,List.getElem?_toArray]
     rw [List.getElem?_append_left (by simp; omega),List.getElem?_take_of_lt hj]
     simp
   ·have holds:∀ j u,xs[j]?=some u→w.cell? ((⟨g,0,none⟩:Addr).add j)=some u:=hown.cells (g:=g) rfl
    have hr:=run_append_grow (P:=P) w t ty e i z ht hi hz ⟨g,0,none⟩ m cap xs hown.1 holds ⟨b,off,none⟩ k c news hl hnews' (by omega) (by omega) (growslice_fits (by omega) hbytes)
    have hgr:=grown cap (by omega)
    refine ⟨_,_,hr,hgr,⟨rfl,rfl,rfl,by simp,fun k hk _=>Below.heap_alloc w.drew _ k hk⟩,.inr rfl,fun h=>absurd h hk0,fun g' j hg' _=>?_⟩
    simp [Value.ownBlock] at hg'
    subst hg'
    exact World.cell?_of_block (w:=w) (Below.heap_alloc w.drew _ g (Array.getElem?_eq_some_iff.1 hg).1)
theorem block_own {v:Value} {base:Nat} {t:TypeId} {sz k:Nat} {xs:List Value} (h:w.ownsRow base t sz v k xs):blockOf v=v.ownBlock:=by
 rcases h.2 with ⟨rfl,_⟩ | ⟨g,cap,cur,rfl,_⟩ <;> rfl
theorem append_rel (hr : Rel n base w0 G st a w) {id : Nat} {o : AObj} {t e ty : TypeId} {i : TypeInfo} {z : Value} {sz bytes : Nat} {es ys : List Data} {fz : Bool}
  (ho:st.heap[id]?=some o) (hcase:(o=.none∧es=[]∧fz=false)∨o=.row e sz es fz) {v0:Value} (hv0:(o=.none∧v0=.slice none 0 0)∨(o≠.none∧v0=G.val id))
  (ht:P.underlying t=some (.slice e)) (hi:P.info? e=some i) (hz:i.zero=some z) (hsize:i.size=sz) (hby:i.bytes=bytes) (hzs:z.cells.size=sz) (hsz:0 < sz)
  {ad:Option Addr} {c:Nat} (hy:ys=[]∨∃ b off xs,ad=some ⟨b,off,none⟩∧DXs w G.S ys sz xs∧xs.length=ys.length * sz∧∀ j u,xs[j]?=some u→w.cell? ⟨b,off+j,none⟩=some u)
  (h63:es.length+ys.length≤140737488355328) (hbytes:(es.length+ys.length) * bytes≤140737488355328) :
  ∃ v' w' G',(Builtin.append_ #[t,t] ty #[v0,.slice ad ys.length c]).run P w=.ok v' w'∧Rel n base w0 G' { st with heap:=st.heap.set id (.row e sz (es++ys) fz) } a w' ∧
   VRel w' G' (st.heap.set id (.row e sz (es++ys) fz)) (.sl id (es++ys).length) v':=by
 have hlt:id < st.heap.length:=(List.getElem?_eq_some_iff.1 ho).1
 obtain ⟨news,hl,hdx,hk⟩:∃ news,news.length=ys.length * sz∧DXs w G.S ys sz news∧(ys.length=0∨∃ b off,ad=some ⟨b,off,none⟩∧∀ j u,news[j]?=some u→w.cell? ⟨b,off+j,none⟩=some u):=by
  rcases hy with rfl | ⟨b,off,xs,h1,h2,h3,h4⟩
  ·exact ⟨[],by simp,by simp [DXs],.inl rfl⟩
  ·exact ⟨xs,h3,h2,.inr ⟨b,off,h1,h4⟩⟩
 obtain ⟨xs,hown,hdo⟩:∃ xs,w.ownsRow base e sz v0 es.length xs∧DXs w G.S es sz xs:=by
  rcases hcase with ⟨rfl,rfl,rfl⟩ | rfl
  ·rcases hv0 with ⟨_,rfl⟩ | ⟨h,_⟩
   ·exact ⟨[],World.ownsRow_nil w base e sz,by simp [DXs]⟩
   ·exact absurd rfl h
  ·rcases hv0 with ⟨h,_⟩ | ⟨_,rfl⟩
   ·cases h
   ·obtain ⟨_,xs,h1,h2⟩:=hr.objs id _ ho
    exact ⟨xs,h1,h2⟩
 obtain ⟨v',w',hrun,hown',hgr,hblk,hsame,hcells⟩:=run_append_any (P:=P) (w:=w) base t ty e i z sz bytes ht hi hz hsize hby hzs hsz v0 es.length xs hown ad ys.length c news hl hk (DXs_one hdx) h63 hbytes hr.old
 have hb0:=block_own hown
 have hb1:=block_own hown'
 have hv0b:∀ b,blockOf v0=some b→o≠.none∧blockOf (G.val id)=some b:=by
  intro b hb
  rcases hv0 with ⟨_,rfl⟩ | ⟨h,rfl⟩
  ·simp [blockOf] at hb
  ·exact ⟨h,hb⟩
 have hrow:v0.ownBlock=none∨(o≠.none∧v0.ownBlock=blockOf (G.val id)):=by
  rcases hv0 with ⟨_,rfl⟩ | ⟨h,rfl⟩
  ·exact .inl rfl
  ·exact .inr ⟨h,hb0.symm⟩
 have hSl:∀ b off,G.S b off→v0.ownBlock=some b→off < es.length * sz∧fz=true:=by
  intro b off hs hb
  rw [← hb0] at hb
  obtain ⟨h1,h2⟩:=hv0b b hb
  rcases hcase with ⟨h3,_⟩ | rfl
  ·exact absurd h3 h1
  ·cases fz
   ·exact absurd hs (hr.free id _ b off ho h2 (fun h=>by cases h))
   ·refine ⟨?_,rfl⟩
    rcases Nat.lt_or_ge off (es.length * sz) with h | h
    ·exact h
    ·exact absurd hs (hr.free id _ b off ho h2 (fun _=>h))
 have h:=hr.upd (o':=.row e sz (es++ys) fz) (v':=v') (S':=G.S) (row:=v0.ownBlock) (w':=w') ho hrow (fun _ _ h=>h) (fun _ _ h=>.inl h) hgr
  (fun b off hs hb=>hcells b off hb (hSl b off hs hb).1)
  (fun b hb=>by
   rw [hb1] at hb
   rcases hblk with h | h
   ·rw [h,← hb0] at hb
    exact .inl (hv0b b hb)
   ·rw [h] at hb; cases hb
    exact .inr (Nat.le_refl _))
  (by
   rcases hcase with ⟨rfl,_⟩ | rfl
   ·trivial
   ·refine ⟨rfl,rfl,by simp,fun hl=>?_⟩
    rcases hv0 with ⟨h,_⟩ | ⟨_,rfl⟩
    ·cases h
    ·exact hsame (by simpa using hl))
  (fun hx=>by
   refine ⟨hsz,xs++news,?_,?_⟩
   ·rw [show (⟨G.S,upd G.val id v'⟩:Gh).val id=v' from upd_same _ _ _,List.length_append]
    exact hown'
   ·exact DXs_append (DXs_mono hx.keeps (fun _ _ h=>h) es hdo) (DXs_mono hx.keeps (fun _ _ h=>h) ys hdx))
  (fun b off hb hown2 hs=>by
   rw [hb1] at hb
   rcases hblk with h | h
   ·obtain ⟨h2,h3⟩:=hSl b off hs (h ▸ hb)
    have:=hown2 h3
    simp only [List.length_append,Nat.add_mul] at this
    omega
   ·rw [h] at hb; cases hb
    have:=hr.lim _ _ hs
    omega)
  (fun b off hs=>Nat.lt_of_lt_of_le (hr.lim b off hs) hgr.size)
 refine ⟨v',w',_,hrun,h.2,?_⟩
 simp only [VRel]
 exact ⟨e,sz,es++ys,fz,by simp [hlt],Nat.le_refl _,fun _=>by simp [upd]⟩
theorem appw_rel (hr : Rel n base w0 G st a w) {id : Nat} {t e ty : TypeId} {i : TypeInfo} {z : Value} {bytes : Nat} {ds ys : List Data} (ho : st.heap[id]? = some .none)
  (ht:P.underlying t=some (.slice e)) (hi:P.info? e=some i) (hz:i.zero=some z) (hsize:i.size=1) (hby:i.bytes=bytes) (hzs:z.cells.size=1)
  {b:Nat} {arr:Array Value} {tt:TypeId} (hb:w.heap[b]?=some (.cells arr tt (0,0))) (hd:DXs w G.S ds 1 arr.toList)
  {ad:Option Addr} {c:Nat} (hy:ys=[]∨∃ b off xs,ad=some ⟨b,off,none⟩∧DXs w G.S ys 1 xs∧xs.length=ys.length * 1∧∀ j u,xs[j]?=some u→w.cell? ⟨b,off+j,none⟩=some u)
  (h0:0 < ys.length) (h63:ds.length+ys.length≤140737488355328) (hbytes:(ds.length+ys.length) * bytes≤140737488355328) :
  ∃ v' w' G',(Builtin.append_ #[t,t] ty #[.slice (some ⟨b,0,none⟩) ds.length ds.length,.slice ad ys.length c]).run P w=.ok v' w'∧Rel n base w0 G' { st with heap:=st.heap.set id (.row e 1 (ds++ys) false) } a w' ∧
   VRel w' G' (st.heap.set id (.row e 1 (ds++ys) false)) (.sl id (ds++ys).length) v':=by
 have hlt:id < st.heap.length:=(List.getElem?_eq_some_iff.1 ho).1
 obtain ⟨b2,off,news,rfl,hdx,hl,hnews⟩:=hy.resolve_left (fun h=>by subst h; simp at h0)
 have hnews':∀ j u,news[j]?=some u→w.cell? ((⟨b2,off,none⟩:Addr).add j)=some u:=fun j u hj=>by rw [addr_add]; exact hnews j u hj
 obtain ⟨v',w',hrun,hown',hgr⟩:=run_append_arg_grows (P:=P) w t ty e i z 1 bytes ht hi hz hsize hby hzs (by decide) ⟨b,0,none⟩ ds.length ds.length arr.toList (DXs_len hd)
  (fun j u hj=>by rw [addr_add,Nat.zero_add,cell_of_row w b j arr tt (0,0) hb,← Array.getElem?_toList]; exact hj)
  ⟨b2,off,none⟩ ys.length c news hl hnews' (by omega) (by simp only [maxLen]; omega) hbytes
 have hge:∀ b,blockOf v'=some b→w.heap.size≤b:=by
  intro b hb
  rcases hown'.2 with ⟨e,_⟩ | ⟨g,cap,cur,e,h1,_⟩
  ·rw [e] at hb; cases hb
  ·rw [e] at hb; cases hb; exact h1
 have h:=hr.upd (id:=id) (o:=.none) (o':=.row e 1 (ds++ys) false) (v':=v') (S':=G.S) (row:=none) (w':=w') ho (.inl rfl) (fun _ _ h=>h) (fun _ _ h=>.inl h) hgr
  (fun _ _ _ h=>by cases h) (fun b hb=>.inr (hge b hb)) trivial
  (fun hx=>by
   refine ⟨by decide,arr.toList++news,?_,?_⟩
   ·rw [show (⟨G.S,upd G.val id v'⟩:Gh).val id=v' from upd_same _ _ _,List.length_append]
    refine ⟨hown'.1,hown'.2.imp (fun h=>h) fun ⟨g,cap,cur,h1,h2,h3⟩=>⟨g,cap,cur,h1,Nat.le_trans hr.old h2,h3⟩⟩
   ·exact DXs_append (DXs_mono hx.keeps (fun _ _ h=>h) ds hd) (DXs_mono hx.keeps (fun _ _ h=>h) ys hdx))
  (fun b off hb _ hs=>by
   have:=hr.lim _ _ hs
   have:=hge b hb
   omega)
  (fun b off hs=>Nat.lt_of_lt_of_le (hr.lim b off hs) hgr.size)
 refine ⟨v',w',_,hrun,h.2,?_⟩
 simp only [VRel]
 exact ⟨e,1,ds++ys,false,by simp [hlt],Nat.le_refl _,fun _=>by simp [upd]⟩
theorem appd_rel (hr : Rel n base w0 G st a w) {id : Nat} {t e ty : TypeId} {i : TypeInfo} {z : Value} {sz bytes : Nat} {ds ys : List Data} (ho : st.heap[id]? = some .none)
  (ht:P.underlying t=some (.slice e)) (hi:P.info? e=some i) (hz:i.zero=some z) (hsize:i.size=sz) (hby:i.bytes=bytes) (hzs:z.cells.size=sz) (hsz:0 < sz)
  {a0:Option Addr} (hd:ds=[]∨∃ b off,a0=some ⟨b,off,none⟩∧DRows w G.S ds b off sz)
  {ad:Option Addr} {c:Nat} (hy:ys=[]∨∃ b off xs,ad=some ⟨b,off,none⟩∧DXs w G.S ys sz xs∧xs.length=ys.length * sz∧∀ j u,xs[j]?=some u→w.cell? ⟨b,off+j,none⟩=some u)
  (h0:0 < ys.length) (h63:ds.length+ys.length≤140737488355328) (hbytes:(ds.length+ys.length) * bytes≤140737488355328) :
  ∃ v' w' G',(Builtin.append_ #[t,t] ty #[.slice a0 ds.length ds.length,.slice ad ys.length c]).run P w=.ok v' w'∧Rel n base w0 G' { st with heap:=st.heap.set id (.row e sz (ds++ys) false) } a w' ∧
   VRel w' G' (st.heap.set id (.row e sz (ds++ys) false)) (.sl id (ds++ys).length) v':=by
 have hlt:id < st.heap.length:=(List.getElem?_eq_some_iff.1 ho).1
 obtain ⟨b2,off,news,rfl,hdx,hl,hnews⟩:=hy.resolve_left (fun h=>by subst h; simp at h0)
 have hnews':∀ j u,news[j]?=some u→w.cell? ((⟨b2,off,none⟩:Addr).add j)=some u:=fun j u hj=>by rw [addr_add]; exact hnews j u hj
 obtain ⟨olds,hol,hox,v',w',hrun,hown',hgr⟩:∃ olds:List Value,olds.length=ds.length * sz∧DXs w G.S ds sz olds∧∃ v' w',(Builtin.append_ #[t,t] ty #[.slice a0 ds.length ds.length,.slice (some ⟨b2,off,none⟩) ys.length c]).run P w=.ok v' w'∧w'.ownsRow w.heap.size e sz v' (ds.length+ys.length) (olds++news)∧w.grownBy w' none:=by
  rcases hd with rfl | ⟨b,o1,rfl,hd⟩
  ·refine ⟨[],by simp,by simp [DXs],?_⟩
   cases a0 with
   | none =>
    obtain ⟨v',w',hrun,hown',hgr,hblk,_,_⟩:=run_append_any (P:=P) (w:=w) w.heap.size t ty e i z sz bytes ht hi hz hsize hby hzs hsz (.slice none 0 0) 0 [] (World.ownsRow_nil w w.heap.size e sz) (some ⟨b2,off,none⟩) ys.length c news hl (.inr ⟨b2,off,rfl,hnews⟩) (DXs_one hdx) (by simpa using h63) (by simpa using hbytes) (Nat.le_refl _)
    exact ⟨v',w',by simpa using hrun,by simpa using hown',hgr⟩
   | some ad0 =>
    exact run_append_arg_grows (P:=P) w t ty e i z sz bytes ht hi hz hsize hby hzs hsz ad0 0 0 [] (by simp) (by simp) ⟨b2,off,none⟩ ys.length c news hl hnews' (by omega) (by simp only [maxLen]; simp at h63; omega) (by simpa using hbytes)
  ·obtain ⟨olds,h1,h2,h3⟩:=DRows_xs hd
   refine ⟨olds,h2,h1,?_⟩
   exact run_append_arg_grows (P:=P) w t ty e i z sz bytes ht hi hz hsize hby hzs hsz ⟨b,o1,none⟩ ds.length ds.length olds h2 (fun j u hj=>by rw [addr_add]; exact (h3 j u hj).1) ⟨b2,off,none⟩ ys.length c news hl hnews' (by omega) (by simp only [maxLen]; omega) hbytes
 have hge:∀ b,blockOf v'=some b→w.heap.size≤b:=by
  intro b hb
  rcases hown'.2 with ⟨e,_⟩ | ⟨g,cap,cur,e,h1,_⟩
  ·rw [e] at hb; cases hb
  ·rw [e] at hb; cases hb; exact h1
 have h:=hr.upd (id:=id) (o:=.none) (o':=.row e sz (ds++ys) false) (v':=v') (S':=G.S) (row:=none) (w':=w') ho (.inl rfl) (fun _ _ h=>h) (fun _ _ h=>.inl h) hgr
  (fun _ _ _ h=>by cases h) (fun b hb=>.inr (hge b hb)) trivial
  (fun hx=>by
   refine ⟨hsz,olds++news,?_,?_⟩
   ·rw [show (⟨G.S,upd G.val id v'⟩:Gh).val id=v' from upd_same _ _ _,List.length_append]
    refine ⟨hown'.1,hown'.2.imp (fun h=>h) fun ⟨g,cap,cur,h1,h2,h3⟩=>⟨g,cap,cur,h1,Nat.le_trans hr.old h2,h3⟩⟩
   ·exact DXs_append (DXs_mono hx.keeps (fun _ _ h=>h) ds hox) (DXs_mono hx.keeps (fun _ _ h=>h) ys hdx))
  (fun b off hb _ hs=>by
   have:=hr.lim _ _ hs
   have:=hge b hb
   omega)
  (fun b off hs=>Nat.lt_of_lt_of_le (hr.lim b off hs) hgr.size)
 refine ⟨v',w',_,hrun,h.2,?_⟩
 simp only [VRel]
 exact ⟨e,sz,ds++ys,false,by simp [hlt],Nat.le_refl _,fun _=>by simp [upd]⟩
end
end Vc
set_option linter.unusedSimpArgs false
set_option linter.unusedVariables false
namespace Vc
open Go Go.RowKit
section
variable {P : Program} [Laid P] {n base : Nat} {w0 : W0} {w : World} {G : Gh} {st : St} {a : Act} {o : Oper} {r : Option Nat} {v : AVal} {ws : List (Nat × AObj)} {rs : List Nat}
theorem go_app (hr : Rel n base w0 G st a w) {c : Call} {t e : TypeId} {x y : Operand} {id sz bytes : Nat} {x' y' : Opd} (ho : o.op = .call c) (hcal : c.callee = .builtin .append) (hargs : c.args.toList = [x, y])
  (ht:c.argTypes.toList=[t,t]) (hu:P.underlying t=some (.slice e)) {i:TypeInfo} {z:Value} (hi:P.info? e=some i) (hz:i.zero=some z) (hsize:i.size=sz) (hby:i.bytes=bytes) (hzs:z.cells.size=sz) (hsz:0 < sz)
  (hx:chkOpd x x'=true) (hy:chkOpd y y'=true)
  (he:ERun (eff P (getL st.slots) (.app id e sz bytes x' y')) st.heap v ws rs):Goes P n base w0 w st a o r v ws:=by
 have h1:=chkOpd_rel hr hx
 have h2:=chkOpd_rel hr hy
 have hargs':c.args=#[x,y]:=by rw [← Array.toArray_toList (xs:=c.args),hargs]
 have ht':c.argTypes=#[t,t]:=by rw [← Array.toArray_toList (xs:=c.argTypes),ht]
 simp only [eff] at he
 obtain ⟨sz',ys,rs',ad,cap,⟨hsz',he⟩,h3,h4,h5⟩:=readE_rel hr h2 he
 subst hsz'
 have fin:∀ {v0 v':Value} {w':World},a.eval x=v0→(Builtin.append_ #[t,t] o.type #[v0,.slice ad ys.length cap]).run P w=.ok v' w'→(execOp a.eval o).run P w=.ok (.value v') w':=by
  intro v0 v' w' h6 h7
  simp only [execOp,ho,resolve,hcal,hargs',h6,h3,invoke,builtin,ht',Sem.run_bind,Sem.run_pure,Result.andThen_ok,List.map_toArray,List.map_cons,List.map_nil,h7]
 split at he
 ·rename_i e1
  rw [e1] at h1
  simp only [VRel] at h1
  obtain ⟨ob,rs2,hob,rfl,he⟩:=he
  dsimp only at he
  split at he
  ·obtain ⟨⟨h6,h7⟩,rfl,rfl,rfl⟩:=he
   obtain ⟨v',w',G',h8,h9,h10⟩:=append_rel (P:=P) (ty:=o.type) hr hob (.inl ⟨rfl,rfl,rfl⟩) (.inl ⟨rfl,rfl⟩) hu hi hz hsize hby hzs hsz h5 (by simp; omega) (by simp; omega) (c:=cap)
   simp only [List.nil_append] at h9 h10
   exact goes_value (by simp [ho]) (fin h1 h8) h9 h10
  ·exact he.elim
 ·rename_i id2 m e1
  rw [e1] at h1
  simp only [VRel] at h1
  obtain ⟨t1,sz1,es,fz,h6,h7,h8⟩:=h1
  obtain ⟨ob,rs2,hob,rfl,he⟩:=he
  rw [h6] at hob; cases hob
  obtain ⟨⟨rfl,rfl,h9,h10,h11⟩,rfl,rfl,rfl⟩:=he
  obtain ⟨v',w',G',h12,h13,h14⟩:=append_rel (P:=P) (ty:=o.type) hr h6 (.inr rfl) (.inr ⟨by simp,rfl⟩) hu hi hz hsize hby hzs hsz h5 (by omega) (by omega) (c:=cap)
  exact goes_value (by simp [ho]) (fin (h8 h9) h12) h13 h14
 ·rename_i sz2 ds e1
  rw [e1] at h1
  simp only [VRel] at h1
  obtain ⟨a0,h6,h7⟩:=h1
  obtain ⟨ob,rs2,hob,rfl,he⟩:=he
  dsimp only at he
  split at he
  ·obtain ⟨⟨rfl,h10,h11,h12⟩,rfl,rfl,rfl⟩:=he
   obtain ⟨v',w',G',h13,h14,h15⟩:=appd_rel (P:=P) (ty:=o.type) hr hob hu hi hz hsize hby hzs hsz h7 h5 h10 (by omega) (by omega) (c:=cap)
   exact goes_value (by simp [ho]) (fin h6 h13) h14 h15
  ·exact he.elim
 ·rename_i id2 m e1
  rw [e1] at h1
  simp only [VRel] at h1
  obtain ⟨b,_,h6,h7⟩:=h1
  obtain ⟨ob,rs2,hob,rfl,he⟩:=he
  dsimp only at he
  split at he
  ·rename_i cs
   split at he
   ·rename_i ds hall
    obtain ⟨ob2,rs3,hob2,rfl,he⟩:=he
    dsimp only at he
    split at he
    ·obtain ⟨⟨h8,h9,h10,h11,h12⟩,rfl,rfl,rfl⟩:=he
     subst h8
     obtain ⟨rfl,hag⟩:=allD_some hall
     obtain ⟨b',arr,t',k1,k2,k3,k4,k5⟩:=hr.objs id2 _ hob
     rw [h6] at k1; cases k1
     obtain ⟨v',w',G',h13,h14,h15⟩:=appw_rel (P:=P) (ty:=o.type) hr hob2 hu hi hz hsize hby hzs k3 (DXs_of_box hag k4) h5 h10 (by omega) (by omega) (c:=cap)
     rw [h9] at h13
     exact goes_value (by simp [ho]) (fin h7 h13) h14 h15
    ·exact he.elim
   ·exact he.elim
  ·exact he.elim
 ·exact he.elim
theorem boundE_rel (hr : Rel n base w0 G st a w) {lo : Option Operand} {lo' : Option Opd} (hc : chkOpt lo lo' = true) {k : Int → Eff} {d : Int} (he : ERun (boundE (lo'.map (ev (getL st.slots))) k d) st.heap v ws rs) :
  ∃ i,ERun (k i) st.heap v ws rs∧((lo.map a.eval=none∧i=d)∨∃ kd,lo.map a.eval=some (.int kd i)):=by
 unfold chkOpt at hc
 split at hc
 ·exact ⟨d,he,.inl ⟨rfl,rfl⟩⟩
 ·rename_i x y
  have h1:=chkOpd_rel hr hc
  simp only [Option.map_some,boundE] at he
  split at he
  ·rename_i h; cases h
  ·rename_i q kd i e
   simp only [Option.some.injEq] at e
   rw [e] at h1
   exact ⟨i,he,.inr ⟨kd,by simp [int_of h1]⟩⟩
  ·exact he.elim
 ·cases hc
theorem run_sliceBounds {len cap : Nat} {s : Bool} {lo hi : Option Value} {i h : Int} (hlo : (lo = none ∧ i = 0) ∨ ∃ kd, lo = some (.int kd i)) (hhi : (hi = none ∧ h = len) ∨ ∃ kd, hi = some (.int kd h))
  (h0:0≤i) (h1:i≤h) (h2:h≤len) (h3:len≤cap):(Instr.sliceBounds s len cap lo hi none).run P w=.ok (i.toNat,h.toNat,cap) w:=by
 have hh:∀ kd code,(Instr.sliceBound (.int kd h) cap code).run P w=.ok h.toNat w:=by
  intro kd code
  have:h≤(cap:Int):=by omega
  have h0':0≤h:=by omega
  simp [Instr.sliceBound,asIntOf,h0',this]
 have hl:∀ kd code,(Instr.sliceBound (.int kd i) h.toNat code).run P w=.ok i.toNat w:=by
  intro kd code
  have:i≤((h.toNat:Nat):Int):=by omega
  simp [Instr.sliceBound,asIntOf,h0,h1]
  omega
 unfold Instr.sliceBounds
 rcases hhi with ⟨rfl,rfl⟩ | ⟨kd,rfl⟩ <;> rcases hlo with ⟨rfl,rfl⟩ | ⟨kd2,rfl⟩ <;> simp only [Sem.run_bind,Sem.run_pure,Result.andThen_ok,Option.isSome_none,Bool.false_eq_true,if_false,hh,Int.toNat_natCast,Int.toNat_zero]
 ·have:=hl kd2 .sliceB
  simp only [Int.toNat_natCast] at this
  simp [this]
 ·simp [hl kd2 .sliceB]
theorem extract_mk (l:List UInt8) (i h:Nat):(⟨l.toArray⟩:ByteArray).extract i h=⟨((l.take h).drop i).toArray⟩:=by
 have:((⟨l.toArray⟩:ByteArray).extract i h).data=((l.take h).drop i).toArray:=by
  rw [ByteArray.data_extract]
  simp [List.extract_eq_take_drop,List.drop_take]
 exact ByteArray.ext this
theorem go_slcs (hr : Rel n base w0 G st a w) {t : TypeId} {x : Operand} {lo hi : Option Operand} {x' : Opd} {lo' hi' : Option Opd} (ho : o.op = .slice t x lo hi none)
  (hu:P.underlying t=some .string) (hx:chkOpd x x'=true) (hlo:chkOpt lo lo'=true) (hhi:chkOpt hi hi'=true)
  (he:ERun (eff P (getL st.slots) (.slcs x' lo' hi')) st.heap v ws rs):Goes P n base w0 w st a o r v ws:=by
 have h1:=chkOpd_rel hr hx
 simp only [eff] at he
 split at he
 ·rename_i l e1
  rw [e1] at h1
  have e2:=str_of h1
  obtain ⟨h,he,hh⟩:=boundE_rel hr hhi he
  obtain ⟨i,he,hi⟩:=boundE_rel hr hlo he
  obtain ⟨⟨h3,h4,h5⟩,rfl,rfl,rfl⟩:=he
  have hb:=run_sliceBounds (P:=P) (w:=w) (s:=false) (len:=l.length) (cap:=l.length) hi hh h3 h4 h5 (Nat.le_refl _)
  refine goes_value (by simp [ho]) (x:=str ((l.take h.toNat).drop i.toNat)) (w':=w) (G':=G) ?_ hr (by simp [VRel,DRel])
  simp only [execOp,ho,e2,Instr.sliceAt,Instr.slice,run_underlying hu,Sem.run_bind,Result.andThen_ok,Option.map_none,Option.isSome_none,Bool.false_eq_true,if_false,str,str_size,hb,Sem.run_pure]
  rw [extract_mk]
 ·exact he.elim
theorem DRows_take {S:Nat→Nat→Prop}:∀ {es:List Data} {b off sz:Nat} (i:Nat),DRows w S es b off sz→DRows w S (es.take i) b off sz
 | es,b,off,sz,0,h=>by simp [DRows]
 | [],b,off,sz,i+1,h=>by simp [DRows]
 | e::es,b,off,sz,i+1,h=>by
  simp only [List.take_succ_cons]
  exact DRows_cons.2 ⟨(DRows_cons.1 h).1,DRows_take i (DRows_cons.1 h).2⟩
end
end Vc
set_option linter.unusedSimpArgs false
set_option linter.unusedVariables false
namespace Vc
open Go Go.RowKit
theorem DRel_cells {w:World} {S:Nat→Nat→Prop} {d:Data} {y:Value} (h:DRel w S d y):DRels w S d.cells y.cells.toList:=by
 have one:d.isAgg=false→DRels w S [d] y.cells.toList:=by
  intro ha
  have h1:=DRel_one h ha
  have:y.cells=#[y]:=by cases y <;> simp_all [Value.cells,Value.oneCell']
  rw [this]
  simp only [DRels]
  exact ⟨y,[],rfl,ha,h,rfl⟩
 cases d with
 | agg cs =>
  simp only [DRel] at h
  obtain ⟨vs,rfl,h1⟩:=h
  simpa [Data.cells,Value.cells] using h1
 | _=>exact one rfl
theorem applyW_append:∀ (x:List (Nat × AObj)) (h:List AObj) (y:List (Nat × AObj)),applyW h (x++y)=applyW (applyW h x) y
 | [],h,y=>rfl
 | (i,o)::r,h,y=>by simp only [List.cons_append,applyW]; exact applyW_append r _ y
section
variable {P : Program} [Laid P] {n base : Nat} {w0 : W0} {w : World} {G : Gh} {st : St} {a : Act} {o : Oper} {r : Option Nat}
theorem elems_rel (hr : Rel n base w0 G st a w) {sz nn : Nat} {v : AVal} {ws : List (Nat × AObj)} :
  ∀ {ps:List (Nat × Operand)} {qs:List (Nat × Opd)} {es:List Data} {arr:Array Value} {k:List Data→List (Nat × AObj)→Eff} {rs:List Nat},chkElems nn ps qs=true→es.length=nn→arr.size=nn * sz →
   ERun (elemsE sz es (evElems (getL st.slots) qs) k) st.heap v ws rs →
   ∃ es' fws arr' rs',ERun (k es' fws) st.heap v ws rs'∧es'.length=nn∧Frz st.heap fws∧Instr.fill (fun i=>some (i * sz,sz)) arr (ps.map fun x=>(x.1,a.eval x.2))=some arr' ∧
    ∀ S1,(∀ b o,G.S b o→S1 b o)→Sld S1 G.val fws→DXs w S1 es sz arr.toList→DXs w S1 es' sz arr'.toList
 | [],[],es,arr,k,rs,_,hl,hs,he=>⟨es,[],arr,rs,he,hl,Frz_nil,by simp [Instr.fill],fun _ _ _ h=>h⟩
 | [],_::_,_,_,_,_,hc,_,_,_=>by simp [chkElems] at hc
 | _::_,[],_,_,_,_,hc,_,_,_=>by simp [chkElems] at hc
 | (i,x)::ps,(j,y)::qs,es,arr,k,rs,hc,hl,hs,he=>by
  simp only [chkElems,Bool.and_eq_true] at hc
  obtain ⟨⟨⟨hij,hin⟩,hx⟩,hc⟩:=hc
  have hij:=Nat.eq_of_beq_eq_true hij
  subst hij
  have hin:i < nn:=by simpa [Nat.blt_eq] using hin
  simp only [evElems,elemsE] at he
  obtain ⟨x',fws,rs',he,h1,h2⟩:=pv_rel hr (chkOpd_rel hr hx) he
  split at he
  ·rename_i d
   split at he
   ·rename_i hlen
    have hlen:=Nat.eq_of_beq_eq_true hlen
    have hcl:∀ S1,(∀ b o,G.S b o→S1 b o)→Sld S1 G.val fws→DRels w S1 d.cells (a.eval x).cells.toList:=fun S1 hS hsl=>by
     have:=h2 S1 hS hsl G.val
     simp only [VRel] at this
     exact DRel_cells this
    have hsize:(a.eval x).cells.toList.length=sz:=by
     rw [DRels_length (hcl (fun _ _=>True) (fun _ _ _=>trivial) (fun _ _ _ _ _ _ _ _ _ _=>trivial)),hlen]
    have hmul:i * sz+sz≤nn * sz:=by rw [← Nat.succ_mul]; exact Nat.mul_le_mul_right _ hin
    simp only [List.map_cons]
    rw [fill_cons (fun i=>some (i * sz,sz)) arr i (a.eval x) _ rfl (by simpa using hsize) (by omega)]
    obtain ⟨es',fws2,arr',rs2,he,h3,h4,h5,h6⟩:=elems_rel hr (nn:=nn) (arr:=(arr.toList.take (i * sz)++(a.eval x).cells.toList++arr.toList.drop (i * sz+sz)).toArray) hc (by simpa using hl) (by
     simp only [List.size_toArray,List.length_append,List.length_take,List.length_drop,hsize,Array.length_toList,hs]
     omega) he
    refine ⟨es',_,arr',rs2,he,h3,Frz_app h1 h4,h5,fun S1 hS hsl hdx=>?_⟩
    obtain ⟨s1,s2⟩:=Sld_app hsl
    exact h6 S1 hS s2 (DXs_set hdx (by omega) hsize (hcl S1 hS s1))
   ·exact he.elim
  ·exact he.elim
theorem elems_one (hr : Rel n base w0 G st a w) {sz : Nat} {v : AVal} {ws : List (Nat × AObj)} {x : Operand} {y : Opd} {e0 : Data} {arr : Array Value} {k : List Data → List (Nat × AObj) → Eff} {rs : List Nat} (hx : chkOpd x y = true) (hs : arr.size = 1 * sz)
  (he:ERun (elemsE sz [e0] (evElems (getL st.slots) [(0,y)]) k) st.heap v ws rs) :
  ∃ es' fws arr' rs',ERun (k es' fws) st.heap v ws rs'∧es'.length=1∧Frz st.heap fws∧Instr.fill (fun i=>some (i * sz,sz)) arr ([((0:Nat),x)].map fun x=>(x.1,a.eval x.2))=some arr' ∧
   ∀ S1,(∀ b o,G.S b o→S1 b o)→Sld S1 G.val fws→DXs w S1 es' sz arr'.toList:=by
 simp only [evElems,elemsE] at he
 obtain ⟨x',fws,rs',he,h1,h2⟩:=pv_rel hr (chkOpd_rel hr hx) he
 split at he
 ·rename_i d
  split at he
  ·rename_i hlen
   have hlen:=Nat.eq_of_beq_eq_true hlen
   have hcl:∀ S1,(∀ b o,G.S b o→S1 b o)→Sld S1 G.val fws→DRels w S1 d.cells (a.eval x).cells.toList:=fun S1 hS hsl=>by
    have:=h2 S1 hS hsl G.val
    simp only [VRel] at this
    exact DRel_cells this
   have hsize:(a.eval x).cells.toList.length=sz:=by
    rw [DRels_length (hcl (fun _ _=>True) (fun _ _ _=>trivial) (fun _ _ _ _ _ _ _ _ _ _=>trivial)),hlen]
   refine ⟨[d],fws++[],((a.eval x).cells.toList++arr.toList.drop (0 * sz+sz)).toArray,rs',he,rfl,by simpa using h1,?_,fun S1 hS hsl=>?_⟩
   ·simp only [List.map_cons,List.map_nil]
    rw [fill_cons (fun i=>some (i * sz,sz)) arr 0 (a.eval x) _ rfl (by simpa using hsize) (by omega)]
    simp [Instr.fill]
   ·have hd:arr.toList.drop (0 * sz+sz)=[]:=List.drop_eq_nil_of_le (by simp; omega)
    have hsl':Sld S1 G.val fws:=by simpa using hsl
    simp only [hd,List.append_nil,List.toList_toArray,Array.toArray_toList]
    exact ⟨_,[],by simp,hsize,hcl S1 hS hsl',rfl⟩
  ·exact he.elim
 ·exact he.elim
theorem zero_DRels {S:Nat→Nat→Prop} {z:Value} {d:Data} (hc:constsOk z.cells.toList (dcells d.cells)=true):DRels w S d.cells z.cells.toList:=by
 have key:∀ {vs:List Value} {ds:List Data},constsOk vs (dcells ds)=true→∀ d∈ds,d.isAgg=false:=by
  intro vs
  induction vs with
  | nil=>intro ds h d hd; cases ds <;> simp_all [constsOk,dcells]
  | cons v vs ih =>
   intro ds h d hd
   cases ds with
   | nil=>simp at hd
   | cons e ds =>
    simp only [dcells,List.map_cons,constsOk,Bool.and_eq_true] at h
    rcases List.mem_cons.1 hd with e1 | e1
    ·subst e1
     have h1:=h.1
     cases d <;> first | rfl | (simp [constOk] at h1)
    ·exact ih h.2 d e1
 exact DRels_of (G:=⟨S,fun _=>undef⟩) (h:=[]) (key hc) (constsOk_rel hc)
theorem DXs_zero {S:Nat→Nat→Prop} {z:Array Value}:∀ {ds:List Data},(∀ d∈ds,DRels w S d.cells z.toList)→DXs w S ds z.size (List.replicate ds.length z.toList).flatten
 | [],_=>by simp [DXs]
 | d::ds,h=>by
  simp only [List.length_cons,List.replicate_succ,List.flatten_cons,DXs]
  exact ⟨_,_,rfl,by simp,h d List.mem_cons_self,DXs_zero (fun x hx=>h x (List.mem_cons_of_mem _ hx))⟩
theorem range_flat (z:Array Value):∀ (k:Nat),(List.range (k * z.size)).map (fun i=>z[i % z.size]!)=(List.replicate k z.toList).flatten
 | 0=>by simp
 | k+1=>by
  have e:(k+1) * z.size=z.size+k * z.size:=by rw [Nat.add_mul]; omega
  rw [e,List.range_add,List.map_append,List.replicate_succ,List.flatten_cons,← range_flat z k]
  congr 1
  ·apply List.ext_getElem?
   intro i
   simp only [List.getElem?_map,List.getElem?_range']
   by_cases hi:i < z.size
   ·simp [hi,Nat.mod_eq_of_lt hi]
   ·simp [hi]
  ·simp only [List.map_map]
   apply List.map_congr_left
   intro i _
   simp [Nat.add_mod_left]
theorem zerosOk_spec {e:TypeId} {sz:Nat} {i:TypeInfo} {z:Value} (hi:P.info? e=some i) (hz:i.zero=some z):∀ {ds:List Data},zerosOk P e sz ds=true→∀ d∈ds,constsOk z.cells.toList (dcells d.cells)=true
 | [],_=>by simp
 | d::ds,h=>by
  simp only [zerosOk,Bool.and_eq_true] at h
  intro x hx
  rcases List.mem_cons.1 hx with e1 | e1
  ·subst e1
   obtain ⟨i',z',h1,h2,h3,_⟩:=zeroOk_spec h.1.1.1
   rw [hi] at h1; cases h1
   rw [hz] at h2; cases h2
   exact h3
  ·exact zerosOk_spec hi hz h.2 x e1
theorem go_bsl (hr : Rel n base w0 G st a w) {t e : TypeId} {len id sz nn : Nat} {ps : Array (Nat × Operand)} {zero : List Data} {qs : List (Nat × Opd)} {v : AVal} {ws : List (Nat × AObj)} {rs : List Nat} (ho : o.op = .buildSlice t len ps)
  (hu:P.underlying t=some (.slice e)) {i:TypeInfo} {z:Value} (hi:P.info? e=some i) (hsz:i.size=sz) (h0:0 < sz) (hlen:len=nn) (hzl:zero.length=nn) (hsmall:nn * sz≤16777216)
  (hz0:nn=0∨(i.zero=some z∧z.cells.size=sz∧(zerosOk P e sz zero=true∨(nn=1∧∃ y,qs=[(0,y)])))) (hc:chkElems nn ps.toList qs=true)
  (he:ERun (eff P (getL st.slots) (.bsl id e sz nn zero qs)) st.heap v ws rs):Goes P n base w0 w st a o r v ws:=by
 subst hlen
 simp only [eff] at he
 obtain ⟨ob,rs',hob,rfl,he⟩:=he
 dsimp only at he
 split at he
 ·obtain ⟨es', fws, arr', rs2, he, h1, h2, h3, h4⟩ : ∃ es' fws arr' rs', ERun ((fun es ws => Eff.side (es.length = len) (.ret (.sl id len) (ws ++ [(id, .row e sz es false)]))) es' fws) st.heap v ws rs' ∧ es'.length = len ∧ Frz st.heap fws ∧
    Instr.fill (fun i=>some (i * sz,sz)) ((Array.range (len * sz)).map (z.cells[· % z.cells.size]!)) (ps.toList.map fun x=>(x.1,a.eval x.2))=some arr'∧∀ S1,(∀ b o,G.S b o→S1 b o)→Sld S1 G.val fws→DXs w S1 es' sz arr'.toList:=by
   have old:(len=0∨(i.zero=some z∧z.cells.size=sz∧zerosOk P e sz zero=true))→∃ es' fws arr' rs',ERun ((fun es ws=>Eff.side (es.length=len) (.ret (.sl id len) (ws++[(id,.row e sz es false)]))) es' fws) st.heap v ws rs'∧es'.length=len∧Frz st.heap fws ∧
    Instr.fill (fun i=>some (i * sz,sz)) ((Array.range (len * sz)).map (z.cells[· % z.cells.size]!)) (ps.toList.map fun x=>(x.1,a.eval x.2))=some arr'∧∀ S1,(∀ b o,G.S b o→S1 b o)→Sld S1 G.val fws→DXs w S1 es' sz arr'.toList:=by
    intro hzz
    obtain ⟨es',fws,arr',rs2,he,h1,h2,h3,h4⟩:=elems_rel hr (arr:=((Array.range (len * sz)).map (z.cells[· % z.cells.size]!))) hc hzl (by simp) he
    refine ⟨es',fws,arr',rs2,he,h1,h2,h3,fun S1 hS hsl=>h4 S1 hS hsl ?_⟩
    rcases hzz with hzz | ⟨hz1,hz2,hz3⟩
    ·have:zero=[]:=List.eq_nil_of_length_eq_zero (by omega)
     subst this
     simp [hzz,DXs]
    ·have:=DXs_zero (w:=w) (S:=S1) (z:=z.cells) (ds:=zero) (fun d hd=>zero_DRels (zerosOk_spec hi hz1 hz3 d hd))
     rw [← range_flat,hz2,hzl] at this
     simpa [hz2] using this
   rcases hz0 with hz0 | ⟨hz1,hz2,hz3 | ⟨hz3,y,hz4⟩⟩
   ·exact old (.inl hz0)
   ·exact old (.inr ⟨hz1,hz2,hz3⟩)
   ·subst hz3 hz4
    match hps:ps.toList,zero,hzl,he with
    | [],_,_,_=>rw [hps] at hc; simp [chkElems] at hc
    | [(j,x)],[e0],_,he =>
     rw [hps] at hc
     simp only [chkElems,Bool.and_eq_true] at hc
     obtain ⟨⟨⟨hij,_⟩,hx⟩,_⟩:=hc
     have hij:j=0:=Nat.eq_of_beq_eq_true hij
     subst hij
     exact elems_one hr hx (by simp) he
    | _::_::_,_,_,_=>rw [hps] at hc; simp [chkElems] at hc
  obtain ⟨h5,rfl,rfl,rfl⟩:=he
  obtain ⟨G1,hr1,hS,hval,hsl,hnone,hext⟩:=freeze_rel hr h2
  have hd1:=h4 G1.S hS (by rw [← hval]; exact hsl)
  obtain ⟨G2,hr2,hv2⟩:=newrow_rel (t:=e) hr1 (id:=id) (hnone id .none hob rfl) h0 hd1 (by rw [h5]; simp only [maxLen]; have:len * 1≤len * sz:=Nat.mul_le_mul_left _ h0; omega)
  rw [h5] at hv2
  refine goes_value (by simp [ho]) (x:=.slice (some ⟨w.heap.size,0,none⟩) len len) (w':=w.alloc (.cells arr' e)) (G':=G2) ?_ ?_ ?_
  ·subst hsz
   have n1:¬ (len * i.size > 2 ^ 24):=by omega
   by_cases hz:len * i.size=0
   ·have hz1:¬ 16777216 < len * i.size:=by omega
    rw [hz] at h3
    simp only [execOp,ho,Instr.buildSlice,run_underlying hu,Sem.run_bind,Result.andThen_ok,run_sizeOf hi,n1,if_false,hz,if_true,Sem.run_pure,Array.toList_map]
    simp only [Array.range_zero',Array.map_empty] at h3 ⊢
    simp only [h3]
    rw [if_neg (by omega)]
    simp only [h3,run_newRow,Sem.run_bind,Result.andThen_ok,Sem.run_pure]
   ·rcases hz0 with hz0 | ⟨hz1,hz2,hz3⟩
    ·subst hz0; simp at hz
    ·simp only [execOp,ho,Instr.buildSlice,run_underlying hu,Sem.run_bind,Result.andThen_ok,run_sizeOf hi,n1,if_false,hz,Sem.run_pure,run_zero hi hz1,Array.toList_map,h3,run_newRow]
  ·rw [applyW_append]; exact hr2
  ·rw [applyW_append]; exact hv2
 ·exact he.elim
end
end Vc
set_option linter.unusedSimpArgs false
set_option linter.unusedVariables false
namespace Vc
open Go Go.RowKit
section
variable {P : Program} [Laid P] {n base : Nat} {w0 : W0} {w w' : World} {G : Gh} {st : St} {a : Act} {o : Oper} {r : Option Nat} {v : AVal} {ws : List (Nat × AObj)} {rs : List Nat}
theorem go_msl (hr : Rel n base w0 G st a w) {t e : TypeId} {x y : Operand} {id sz bytes : Nat} {zero : Data} {x' : Opd} (ho : o.op = .makeSlice t x y)
  (hu:P.underlying t=some (.slice e)) {i:TypeInfo} {z:Value} (hi:P.info? e=some i) (hz:i.zero=some z) (hsz:i.size=sz) (hby:i.bytes=bytes) (hzs:z.cells.size=sz) (h0:0 < sz)
  (hz0:zerosOk P e sz [zero]=true) (hx:chkOpd x x'=true) (hy:chkOpd y x'=true)
  (he:ERun (eff P (getL st.slots) (.msl id e sz bytes zero x')) st.heap v ws rs):Goes P n base w0 w st a o r v ws:=by
 have h1:=chkOpd_rel hr hx
 have h2:=chkOpd_rel hr hy
 simp only [eff] at he
 split at he
 ·rename_i kd k e1
  rw [e1] at h1 h2
  have e2:=int_of h1
  have e3:=int_of h2
  obtain ⟨ob,rs',hob,rfl,he⟩:=he
  dsimp only at he
  split at he
  ·obtain ⟨⟨h3,h4,h5⟩,rfl,rfl,rfl⟩:=he
   have hrun:=run_make (P:=P) w t e i z hu hi hz kd kd k k h3 (Int.le_refl _) (by rw [hby,Int.mul_comm]; omega) (by omega)
   have hrep:(List.replicate k.toNat zero).length=k.toNat:=by simp
   have hdx:DXs w G.S (List.replicate k.toNat zero) sz (madeCells z.cells (k.toNat * i.size)).toList:=by
    have:=DXs_zero (w:=w) (S:=G.S) (z:=z.cells) (ds:=List.replicate k.toNat zero) (fun d hd=>by
     rw [List.eq_of_mem_replicate hd]
     exact zero_DRels (zerosOk_spec hi hz hz0 zero (by simp)))
    rw [← range_flat,hzs,hrep] at this
    simpa [madeCells,hsz,hzs] using this
   obtain ⟨G2,hr2,hv2⟩:=newrow_rel (t:=e) hr (id:=id) hob h0 hdx (by rw [hrep]; simp only [maxLen]; omega)
   rw [hrep] at hv2
   exact goes_value (by simp [ho]) (G':=G2) (by simp only [execOp,ho,e2,e3,Sem.run_bind,hrun,Result.andThen_ok,Sem.run_pure]) hr2 hv2
  ·exact he.elim
 ·exact he.elim
theorem after_call (hr : Rel n base w0 G st a w) {S' : Nat → Nat → Prop} (hb : Below w.heap.size w w') (hS : ∀ b o, G.S b o → S' b o) (hnew : ∀ b o, S' b o → G.S b o ∨ w.heap.size ≤ b) (hlim : ∀ b o, S' b o → b < w'.heap.size) :
  Rel n base w0 ⟨S',G.val⟩ st a w':=by
 have hx:Ext w G st.heap w' ⟨S',G.val⟩ st.heap :=
  ⟨hS,fun b o h=>hb.cell (p:=⟨b,o,none⟩) (hr.lim b o h),fun _ _ _ es fz h=>⟨es,fz,h,Nat.le_refl _,fun _=>rfl⟩,fun _ cs h=>⟨.inl ⟨cs,h⟩,rfl⟩,fun _ _ h=>⟨h,rfl⟩,fun _ es h=>⟨es,.inl h,rfl⟩,fun _ l p h=>⟨l,p,h,rfl⟩,fun _ s p _ _ _ _ _ _ h=>⟨s,p,h,rfl⟩,fun _ _ cs h=>⟨cs,h,rfl⟩,fun _ _ bs h=>⟨bs,h,Nat.le_refl _,fun _=>rfl⟩,fun id es h=>⟨h,rfl,fun c hc=>hb.block c (ORel_lt (hr.objs id _ h) (by simp) c (by rw [hc]; rfl)).2⟩,fun _ _ c l h=>⟨c,l,h,rfl⟩⟩
 constructor
 ·exact hr.size
 ·exact hr.defers
 ·exact fun i=>VRel_mono hx _ (hr.slots i)
 ·intro id o ho
  by_cases hl:o=.none
  ·subst hl; trivial
  ·exact ORel_mono hx rfl (fun b hbb=>hb.block b (ORel_lt (hr.objs id o ho) hl b hbb).2) (hr.objs id o ho)
 ·intro id o b off ho hbb hown hs
  have hl:o≠.none:=fun h=>by subst h; exact hown
  rcases hnew b off hs with h | h
  ·exact hr.free id o b off ho hbb hown h
  ·have:=(ORel_lt (hr.objs id o ho) hl b hbb).2
   omega
 ·exact hr.apart
 ·exact hlim
 ·exact hr.below.trans (hb.mono hr.old)
 ·exact fun b o h=>hS b o (hr.sub b o h)
 ·exact fun b o h=>(hnew b o h).elim (hr.sup b o) fun h=>.inr (Nat.le_trans hr.old h)
 ·exact Nat.le_trans hr.old hb.size
 ·intro b hd
  have h1:=hr.dead b hd
  rw [hb.block b (Array.getElem?_eq_some_iff.1 h1).1]
  exact h1
 ·exact hr.ext.trans hx
 ·exact fun p hp=>DCs_mono hx.keeps hx.seals _ (hr.glob p hp)
 ·exact hr.lps
mutual
theorem flat_DRel {w w':World} {S S':Nat→Nat→Prop}:∀ {d:Data} {v:Value},d.flat=true→DRel w S d v→DRel w' S' d v
 | .int _ _,_,_,h=>by simpa [DRel] using h
 | .bool _,_,_,h=>by simpa [DRel] using h
 | .str _,_,_,h=>by simpa [DRel] using h
 | .agg cs,_,hf,h=>by
  simp only [DRel,Data.flat] at h hf ⊢
  obtain ⟨vs,e,h⟩:=h
  exact ⟨vs,e,flats_DRels hf h⟩
 | .slice _ _,_,hf,_=>by simp [Data.flat] at hf
 | .fn f [],_,_,h=>by
  simp only [DRel,DCaps] at h ⊢
  exact h
 | .fn f (_::_),_,hf,_=>by simp [Data.flat] at hf
theorem flats_DRels {w w':World} {S S':Nat→Nat→Prop}:∀ {ds:List Data} {vs:List Value},Data.flats ds=true→DRels w S ds vs→DRels w' S' ds vs
 | [],_,_,h=>by simpa [DRels] using h
 | d::ds,_,hf,h=>by
  simp only [Data.flats,Bool.and_eq_true] at hf
  simp only [DRels] at h ⊢
  obtain ⟨v,r,e,ha,hd,hr⟩:=h
  exact ⟨v,r,e,ha,flat_DRel hf.1 hd,flats_DRels hf.2 hr⟩
end
theorem resV_rel {w w':World} {S S':Nat→Nat→Prop} {val val':Nat→Value} {h h':List AObj} {rs:List Data} {v:Value} (hd:∀ d∈rs,∀ x,DRel w S d x→DRel w' S' d x) (hv:VRel w ⟨S,val⟩ h (resV rs) v):VRel w' ⟨S',val'⟩ h' (resV rs) v:=by
 have many:∀ {rs:List Data} {vs:List Value},(∀ d∈rs,∀ x,DRel w S d x→DRel w' S' d x)→VRels w ⟨S,val⟩ h (rs.map .d) vs→VRels w' ⟨S',val'⟩ h' (rs.map .d) vs:=by
  intro rs
  induction rs with
  | nil=>intro vs _ hv; simpa [VRels] using hv
  | cons d rs ih =>
   intro vs hd hv
   simp only [List.map_cons,VRels] at hv ⊢
   obtain ⟨x,r,e,h1,h2⟩:=hv
   exact ⟨x,r,e,by simp only [VRel] at h1 ⊢; exact hd d List.mem_cons_self x h1,ih (fun y hy=>hd y (List.mem_cons_of_mem _ hy)) h2⟩
 match rs,hv with
 | [d],hv=>simp only [resV,VRel] at hv ⊢; exact hd d (by simp) v hv
 | [],hv =>
  simp only [resV,VRel] at hv ⊢
  obtain ⟨vs,e,h1⟩:=hv
  exact ⟨vs,e,many hd h1⟩
 | d::e::r,hv =>
  simp only [resV,VRel] at hv ⊢
  obtain ⟨vs,e,h1⟩:=hv
  exact ⟨vs,e,many hd h1⟩
theorem flats_mem:∀ {rs:List Data},Data.flats rs=true→∀ d∈rs,d.flat=true
 | [],_=>by simp
 | d::ds,h=>by
  simp only [Data.flats,Bool.and_eq_true] at h
  intro x hx
  rcases List.mem_cons.1 hx with e | e
  ·rw [e]; exact h.1
  ·exact flats_mem h.2 x e
theorem callE_goes (hgl : W0Ok P w0) (hr : Rel n base w0 G st a w) {f : FuncId} {xs : List AVal} {ys : List Value} (hv : VRels w G st.heap xs ys) (hnd : ∀ c, o.op ≠ .defer c)
  (hrun:∀ fn,P.funcs[f]?=some fn→fn.body.isSome=true→(fn.name == "runtime.NumGoroutine")=false→(execOp a.eval o).run P w=.ok (.enter f ys.toArray) w)
  (he:ERun (callE P f xs) st.heap v ws rs):Goes P n base w0 w st a o r v ws:=by
 simp only [callE] at he
 obtain ⟨xs',fws,rs',⟨res,hcall,he⟩,h1,h2⟩:=pvL_rel hr hv he
 obtain ⟨⟨fn,hf1,hf2,hf3⟩,hcall⟩:=hcall
 obtain ⟨G1,hr1,hS,hval,hsl,hnone,hext⟩:=freeze_rel hr h1
 have h3:=hcall w G1.S ys (h2 G1.S hS (by rw [← hval]; exact hsl) _) hr1.lim (hgl.gl ▸ hr1.glob)
 intro K Q hK
 refine ⟨fun _ _=>trivial,?_⟩
 rw [Oper.semAt_eq _ _ _ hnd,hrun fn hf1 hf2 hf3]
 refine ⟨fun h=>by simp [Fw,Fence.wide] at h,?_⟩
 have h4:=(callsIn_wide (n:=0)).2 h3
 refine CallsIn.mono (show CallsIn (Fw r) 0 P f ys.toArray w _ from h4) ?_
 rintro e w' ⟨x,S',rfl,hb,hS1,hnew,hlim,hx⟩
 show K (a.put o.dst x) w'
 have flatcase:∀ fr,Data.flats res=true→v=resV res→ws=fr→fr=[]→K (a.put o.dst x) w':=by
  rintro fr hfl rfl rfl rfl
  have hr2:=after_call (S':=G.S) hr hb (fun _ _ h=>h) (fun _ _ h=>.inl h) (fun b o h=>Nat.lt_of_lt_of_le (hr.lim b o h) hb.size)
  exact hK x w' _ hr2 (resV_rel (fun d hd y hy=>flat_DRel (flats_mem hfl d hd) hy) hx)
 have fullcase:v=resV res→ws=fws→K (a.put o.dst x) w':=by
  rintro rfl rfl
  have hr2:=after_call (S':=S') hr1 hb hS1 hnew hlim
  exact hK x w' _ hr2 (resV_rel (fun _ _ _ h=>h) hx)
 split at he
 ·obtain ⟨rfl,rfl,rfl⟩:=he
  exact fullcase rfl rfl
 ·split at he
  ·rename_i hfl
   obtain ⟨rfl,rfl,rfl⟩:=he
   exact flatcase [] hfl rfl rfl rfl
  ·obtain ⟨rfl,rfl,rfl⟩:=he
   exact fullcase rfl rfl
theorem setAll_eq:∀ (ws:List (Nat × AObj)) (h:List AObj),setAll h ws=applyW h ws
 | [],h=>rfl
 | (i,o)::r,h=>by simp only [setAll,applyW]; exact setAll_eq r _
theorem callIE_goes (hgl : W0Ok P w0) (hr : Rel n base w0 G st a w) {f : FuncId} {xs : List AVal} {ys : List Value} (hv : VRels w G st.heap xs ys) (hnd : ∀ c, o.op ≠ .defer c)
  (hrun:∀ fn,P.funcs[f]?=some fn→fn.body.isSome=true→(fn.name == "runtime.NumGoroutine")=false→(execOp a.eval o).run P w=.ok (.enter f ys.toArray) w)
  (he:ERun (callIE P f xs) st.heap v ws rs):Goes P n base w0 w st a o r v ws:=by
 simp only [callIE] at he
 obtain ⟨rs',rfl,v',h',hc,rfl,rfl,rfl⟩:=he
 obtain ⟨⟨fn,hf1,hf2,hf3⟩,hlen,hcall⟩:=hc
 intro K Q hK
 refine ⟨fun _ _=>trivial,?_⟩
 rw [Oper.semAt_eq _ _ _ hnd,hrun fn hf1 hf2 hf3]
 refine ⟨fun h=>by simp [Fw,Fence.wide] at h,?_⟩
 have h4:=(callsIn_wide (n:=0)).2 (hcall n base w0 G st.slots a w ys hgl hr hv)
 refine CallsIn.mono (show CallsIn (Fw r) 0 P f ys.toArray w _ from h4) ?_
 rintro e w' ⟨x,G',rfl,_,hr',hx⟩
 rw [setAll_eq] at hr' hx
 exact hK x w' G' hr' hx
theorem after_row (hr : Rel n base w0 G st a w) {S' : Nat → Nat → Prop} {id t sz : Nat} {es : List Data} {x : Value} {xs : List Value} (hn : st.heap[id]? = some .none) (hb : Below w.heap.size w w') (hS : ∀ b o, G.S b o → S' b o) (hnew : ∀ b o, S' b o → G.S b o ∨ w.heap.size ≤ b) (hlim : ∀ b o, S' b o → b < w'.heap.size)
  (hsz:0 < sz) (hrow:w'.ownsRow w.heap.size t sz x es.length xs) (hxs:DXs w' S' es sz xs) (hfree:∀ b o,blockOf x=some b→¬ S' b o) :
  Rel n base w0 ⟨S',upd G.val id x⟩ ⟨st.slots,st.heap.set id (.row t sz es false)⟩ a w'∧VRel w' ⟨S',upd G.val id x⟩ (st.heap.set id (.row t sz es false)) (.sl id es.length) x:=by
 have hlt:id < st.heap.length:=(List.getElem?_eq_some_iff.1 hn).1
 have hoth:∀ j o,j≠id→((st.heap.set id (.row t sz es false))[j]?=some o↔st.heap[j]?=some o):=fun j o hj=>by rw [List.getElem?_set_ne (Ne.symm hj)]
 have hsame:(st.heap.set id (.row t sz es false))[id]?=some (.row t sz es false):=by simp [hlt]
 have hvo:∀ j,j≠id→upd G.val id x j=G.val j:=fun j hj=>by simp [upd,hj]
 have hvs:upd G.val id x id=x:=by simp [upd]
 have hne:∀ j o,st.heap[j]?=some o→o≠.none→j≠id:=fun j o h1 h2 e=>by subst e; rw [hn] at h1; cases h1; exact h2 rfl
 have hblk:∀ b,blockOf x=some b→w.heap.size≤b:=fun b h=>by
  have h1:ORel w' ⟨S',upd G.val id x⟩ (st.heap.set id (.row t sz es false)) w.heap.size id (.row t sz es false):=⟨hsz,xs,by rw [show (⟨S',upd G.val id x⟩:Gh).val id=x from hvs]; exact hrow,hxs⟩
  exact (ORel_lt h1 (by simp) b (by rw [show (⟨S',upd G.val id x⟩:Gh).val id=x from hvs]; exact h)).1
 have hx:Ext w G st.heap w' ⟨S',upd G.val id x⟩ (st.heap.set id (.row t sz es false)):=by
  refine ⟨hS,fun b o h=>hb.cell (p:=⟨b,o,none⟩) (hr.lim b o h),?_,?_,?_,?_,?_,?_,?_,?_,?_,?_⟩
  ·intro j t' sz' es' fz h
   have e:=hne j _ h (by simp)
   exact ⟨es',fz,(hoth j _ e).2 h,Nat.le_refl _,fun _=>hvo j e⟩
  ·intro j cs h
   have e:=hne j _ h (by simp)
   exact ⟨.inl ⟨cs,(hoth j _ e).2 h⟩,hvo j e⟩
  ·intro j ds h
   have e:=hne j _ h (by simp)
   exact ⟨(hoth j _ e).2 h,hvo j e⟩
  ·intro j m h
   have e:=hne j _ h (by simp)
   exact ⟨m,.inl ((hoth j _ e).2 h),hvo j e⟩
  ·intro j l p h
   have e:=hne j _ h (by simp)
   exact ⟨l,p,(hoth j _ e).2 h,hvo j e⟩
  ·intro j s p m sl ps xa xb ck h
   have e:=hne j _ h (by simp)
   exact ⟨s,p,(hoth j _ e).2 h,hvo j e⟩
  ·intro j t' cs h
   have e:=hne j _ h (by simp)
   exact ⟨cs,(hoth j _ e).2 h,hvo j e⟩
  ·intro j t' bs h
   have e:=hne j _ h (by simp)
   exact ⟨bs,(hoth j _ e).2 h,Nat.le_refl _,fun _=>hvo j e⟩
  ·intro j m h
   have e:=hne j _ h (by simp)
   exact ⟨(hoth j _ e).2 h,hvo j e,fun c hc=>hb.block c (ORel_lt (hr.objs j _ h) (by simp) c (by rw [hc]; rfl)).2⟩
  ·intro j m c l h
   have e:=hne j _ h (by simp)
   exact ⟨c,l,(hoth j _ e).2 h,hvo j e⟩
 refine ⟨?_,?_⟩
 ·constructor
  ·exact hr.size
  ·exact hr.defers
  ·exact fun i=>VRel_mono hx _ (hr.slots i)
  ·intro j o ho
   by_cases e:j=id
   ·subst e
    rw [hsame] at ho; cases ho
    refine ⟨hsz,xs,?_,hxs⟩
    rw [show (⟨S',upd G.val j x⟩:Gh).val j=x from hvs]
    obtain ⟨h1,h2⟩:=hrow
    refine ⟨h1,h2.imp (fun h=>h) ?_⟩
    rintro ⟨b,cap,arr,h3,h4,h5⟩
    exact ⟨b,cap,arr,h3,Nat.le_trans hr.old h4,h5⟩
   ·have ho:=(hoth j o e).1 ho
    by_cases hl:o=.none
    ·subst hl; trivial
    ·exact ORel_mono hx (hvo j e) (fun b hbb=>hb.block b (ORel_lt (hr.objs j o ho) hl b hbb).2) (hr.objs j o ho)
  ·intro j o b off ho hbb hown hs
   by_cases e:j=id
   ·subst e
    rw [show (⟨S',upd G.val j x⟩:Gh).val j=x from hvs] at hbb
    exact hfree b off hbb hs
   ·have ho:=(hoth j o e).1 ho
    rw [show (⟨S',upd G.val id x⟩:Gh).val j=G.val j from hvo j e] at hbb
    have hl:o≠.none:=fun h=>by subst h; exact hown
    rcases hnew b off hs with h | h
    ·exact hr.free j o b off ho hbb hown h
    ·have:=(ORel_lt (hr.objs j o ho) hl b hbb).2
     omega
  ·intro i j oi oj b hij hi hj h1 h2 h3 h4
   by_cases ei:i=id
   ·subst ei
    have hj2:=(hoth j oj (Ne.symm hij)).1 hj
    rw [show (⟨S',upd G.val i x⟩:Gh).val i=x from hvs] at h3
    rw [show (⟨S',upd G.val i x⟩:Gh).val j=G.val j from hvo j (Ne.symm hij)] at h4
    have:=(ORel_lt (hr.objs j oj hj2) h2 b h4).2
    have:=hblk b h3
    omega
   ·have hi2:=(hoth i oi ei).1 hi
    rw [show (⟨S',upd G.val id x⟩:Gh).val i=G.val i from hvo i ei] at h3
    by_cases ej:j=id
    ·subst ej
     rw [show (⟨S',upd G.val j x⟩:Gh).val j=x from hvs] at h4
     have:=(ORel_lt (hr.objs i oi hi2) h1 b h3).2
     have:=hblk b h4
     omega
    ·have hj2:=(hoth j oj ej).1 hj
     rw [show (⟨S',upd G.val id x⟩:Gh).val j=G.val j from hvo j ej] at h4
     exact hr.apart i j oi oj b hij hi2 hj2 h1 h2 h3 h4
  ·exact hlim
  ·exact hr.below.trans (hb.mono hr.old)
  ·exact fun b o h=>hS b o (hr.sub b o h)
  ·exact fun b o h=>(hnew b o h).elim (hr.sup b o) fun h=>.inr (Nat.le_trans hr.old h)
  ·exact Nat.le_trans hr.old hb.size
  ·intro b hd
   have h1:=hr.dead b hd
   rw [hb.block b (Array.getElem?_eq_some_iff.1 h1).1]
   exact h1
  ·exact hr.ext.trans hx
  ·exact fun p hp=>DCs_mono hx.keeps hx.seals _ (hr.glob p hp)
  ·intro j s pd m sl ps xa xb ck h
   have e:j≠id:=fun e=>by subst e; rw [hsame] at h; cases h
   exact hr.lps j s pd m sl ps xa xb ck ((hoth j _ e).1 h)
 ·simp only [VRel]
  exact ⟨t,sz,es,false,hsame,Nat.le_refl _,fun _=>hvs.symm⟩
theorem applyW_snoc (ws:List (Nat × AObj)) (h:List AObj) (i:Nat) (o:AObj):applyW h (ws++[(i,o)])=(applyW h ws).set i o:=by
 induction ws generalizing h with
 | nil=>rfl
 | cons x r ih=>obtain ⟨j,p⟩:=x; exact ih _
theorem callNE_goes (hgl : W0Ok P w0) (hr : Rel n base w0 G st a w) {id t sz : Nat} {f : FuncId} {xs : List AVal} {ys : List Value} (hv : VRels w G st.heap xs ys) (hnd : ∀ c, o.op ≠ .defer c)
  (hrun:∀ fn,P.funcs[f]?=some fn→fn.body.isSome=true→(fn.name == "runtime.NumGoroutine")=false→(execOp a.eval o).run P w=.ok (.enter f ys.toArray) w)
  (he:ERun (callNE P id t sz f xs) st.heap v ws rs):Goes P n base w0 w st a o r v ws:=by
 simp only [callNE] at he
 obtain ⟨xs',fws,rs',⟨ob,rs2,hob,rfl,he⟩,h1,h2⟩:=pvL_rel hr hv he
 cases ob <;> try exact he.elim
 obtain ⟨es,hcall,rfl,rfl,rfl⟩:=he
 obtain ⟨⟨fn,hf1,hf2,hf3⟩,hcall⟩:=hcall
 obtain ⟨G1,hr1,hS,hval,hsl,hnone,hext⟩:=freeze_rel hr h1
 have h3:=hcall w G1.S ys (h2 G1.S hS (by rw [← hval]; exact hsl) _) hr1.lim (hgl.gl ▸ hr1.glob)
 intro K Q hK
 refine ⟨fun _ _=>trivial,?_⟩
 rw [Oper.semAt_eq _ _ _ hnd,hrun fn hf1 hf2 hf3]
 refine ⟨fun h=>by simp [Fw,Fence.wide] at h,?_⟩
 have h4:=(callsIn_wide (n:=0)).2 h3
 refine CallsIn.mono (show CallsIn (Fw r) 0 P f ys.toArray w _ from h4) ?_
 rintro e w' ⟨x,S',rfl,hb,hS1,hnew,hlim,hsz,⟨zs,hrow,hzs⟩,hfree⟩
 show K (a.put o.dst x) w'
 have hr2:=after_row (id:=id) hr1 (hnone id _ hob rfl) hb hS1 hnew hlim hsz hrow hzs hfree
 rw [show (applyW st.heap fws).set id (.row t sz es false)=applyW st.heap (fws++[(id,.row t sz es false)]) from (applyW_snoc _ _ _ _).symm] at hr2
 exact hK x w' _ hr2.1 hr2.2
theorem callP_goes (hgl : W0Ok P w0) (hr : Rel n base w0 G st a w) {f : FuncId} {xs : List AVal} {ys : List Value} (hv : VRels w G st.heap xs ys) (hnd : ∀ c, o.op ≠ .defer c)
  (hrun:∀ fn,P.funcs[f]?=some fn→fn.body.isSome=true→(fn.name == "runtime.NumGoroutine")=false→(execOp a.eval o).run P w=.ok (.enter f ys.toArray) w)
  (he:ERun (callP P f xs) st.heap v ws rs):Goes P n base w0 w st a o r v ws:=by
 unfold callP at he
 split at he
 ·exact callE_goes hgl hr hv hnd hrun he
 ·exact callIE_goes hgl hr hv hnd hrun he
theorem go_call (hgl : W0Ok P w0) (hr : Rel n base w0 G st a w) {c : Call} {fo : Operand} {f : FuncId} {args' : List Opd} (ho : o.op = .call c) (hcal : c.callee = .value fo) (hf : chkOpd fo (.cst (.d (.fn (.func f) []))) = true) (hargs : chkOpds c.args.toList args' = true)
  (he:ERun (eff P (getL st.slots) (.call f args')) st.heap v ws rs):Goes P n base w0 w st a o r v ws:=by
 have h1:=chkOpd_rel hr hf
 have h2:=chkOpds_rel hr hargs
 simp only [ev,VRel,DRel,DCaps] at h1
 obtain ⟨cv,h3,rfl⟩:=h1
 simp only [eff] at he
 refine callP_goes hgl hr h2 (by simp [ho]) (fun fn hf1 hf2 hf3=>?_) he
 have h5:¬ fn.body=none:=fun h=>by simp [h] at hf2
 have h6:¬ fn.name = "runtime.NumGoroutine" := by simpa using hf3
 simp [execOp,ho,resolve,hcal,h3,Deferred.ofValue,invoke,callFunc,hf1,h5,h6,← Array.toList_map]
theorem capCells_rel {h:List AObj}:∀ {caps:List Data} {cv:List Value},DCaps w G.S caps cv→VRels w G h (capCells caps) cv
 | [],cv,hc=>by simpa [DCaps,capCells,VRels] using hc
 | d::ds,cv,hc=>by
  obtain ⟨b,off,r,rfl,h1,h2⟩:=DCaps_cons.1 hc
  simp only [capCells]
  exact VRels_cons.2 ⟨by simp only [VRel]; exact ⟨b,off,rfl,h1⟩,capCells_rel h2⟩
theorem go_callv (hgl : W0Ok P w0) (hr : Rel n base w0 G st a w) {c : Call} {fo : Operand} {fo' : Opd} {args' : List Opd} (ho : o.op = .call c) (hcal : c.callee = .value fo) (hf : chkOpd fo fo' = true) (hargs : chkOpds c.args.toList args' = true)
  (he:ERun (eff P (getL st.slots) (.callv fo' args')) st.heap v ws rs):Goes P n base w0 w st a o r v ws:=by
 have h1:=chkOpd_rel hr hf
 have h2:=chkOpds_rel hr hargs
 simp only [eff] at he
 split at he
 ·rename_i f caps e1
  rw [e1] at h1
  simp only [VRel,DRel] at h1
  obtain ⟨cv,h3,h4⟩:=h1
  refine callP_goes hgl hr (VRels_append h2 (capCells_rel h4)) (by simp [ho]) (fun fn hf1 hf2 hf3=>?_) he
  have h5:¬ fn.body=none:=fun h=>by simp [h] at hf2
  have h6:¬ fn.name = "runtime.NumGoroutine" := by simpa using hf3
  simp [execOp,ho,resolve,hcal,h3,Deferred.ofValue,invoke,callFunc,hf1,h5,h6]
 ·rename_i f first caps e1
  rw [e1] at h1
  simp only [VRel] at h1
  obtain ⟨fv,cv,h3,h4,h5⟩:=h1
  refine callIE_goes hgl hr (VRels_append (VRels_append h4 h2) h5) (by simp [ho]) (fun fn hf1 hf2 hf3=>?_) he
  have h6:¬ fn.body=none:=fun h=>by simp [h] at hf2
  have h7:¬ fn.name = "runtime.NumGoroutine" := by simpa using hf3
  simp [execOp,ho,resolve,hcal,h3,Deferred.ofValue,invoke,callFunc,hf1,h6,h7]
 ·rename_i id e1
  rw [e1] at h1
  simp only [VRel] at h1
  obtain ⟨b,st',pd,m,sl,ps,xa,xb,ck,hh,hval,h3⟩:=h1
  obtain ⟨rs',rfl,v',h',⟨hlen,hy⟩,rfl,rfl,rfl⟩:=he
  obtain ⟨fn,tmps,ca,cb,hrun,hround⟩:=hy n base w0 G st.slots a w _ b hgl hr hval h2
  intro K Q hK
  refine ⟨fun _ _=>trivial,?_⟩
  have hex:(execOp a.eval o).run P w=.ok (.round b fn tmps ca cb) w:=by
   simp only [execOp,ho,resolve,hcal,h3,Deferred.ofValue,invoke,Sem.run_bind,Sem.run_pure,Result.andThen_ok]
   have:#[]++Array.map a.eval c.args=(List.map a.eval c.args.toList).toArray:=by simp [← Array.toList_map]
   rw [this]
   exact hrun
  rw [Oper.semAt_eq _ _ _ (by simp [ho]),hex]
  refine ⟨fun h=>by simp [Fw,Fence.wide] at h,?_⟩
  refine RoundIn.mono (show RoundIn (Fw r) 0 P b fn tmps ca cb w _ from hround) ?_
  rintro e w' ⟨x,G',rfl,_,hr',hx⟩
  rw [setAll_eq] at hr' hx
  exact hK x w' G' hr' hx
 ·exact he.elim
theorem go_calli (hgl : W0Ok P w0) (hr : Rel n base w0 G st a w) {c : Call} {fo : Operand} {f : FuncId} {args' : List Opd} (ho : o.op = .call c) (hcal : c.callee = .value fo) (hf : chkOpd fo (.cst (.d (.fn (.func f) []))) = true) (hargs : chkOpds c.args.toList args' = true)
  (he:ERun (eff P (getL st.slots) (.calli f args')) st.heap v ws rs):Goes P n base w0 w st a o r v ws:=by
 have h1:=chkOpd_rel hr hf
 have h2:=chkOpds_rel hr hargs
 simp only [ev,VRel,DRel,DCaps] at h1
 obtain ⟨cv,h3,rfl⟩:=h1
 simp only [eff] at he
 refine callIE_goes hgl hr h2 (by simp [ho]) (fun fn hf1 hf2 hf3=>?_) he
 have h5:¬ fn.body=none:=fun h=>by simp [h] at hf2
 have h6:¬ fn.name = "runtime.NumGoroutine" := by simpa using hf3
 simp [execOp,ho,resolve,hcal,h3,Deferred.ofValue,invoke,callFunc,hf1,h5,h6,← Array.toList_map]
theorem go_calln (hgl : W0Ok P w0) (hr : Rel n base w0 G st a w) {c : Call} {fo : Operand} {rid t sz : Nat} {f : FuncId} {args' : List Opd} (ho : o.op = .call c) (hcal : c.callee = .value fo) (hf : chkOpd fo (.cst (.d (.fn (.func f) []))) = true) (hargs : chkOpds c.args.toList args' = true)
  (he:ERun (eff P (getL st.slots) (.calln rid t sz f args')) st.heap v ws rs):Goes P n base w0 w st a o r v ws:=by
 have h1:=chkOpd_rel hr hf
 have h2:=chkOpds_rel hr hargs
 simp only [ev,VRel,DRel,DCaps] at h1
 obtain ⟨cv,h3,rfl⟩:=h1
 simp only [eff] at he
 refine callNE_goes hgl hr h2 (by simp [ho]) (fun fn hf1 hf2 hf3=>?_) he
 have h5:¬ fn.body=none:=fun h=>by simp [h] at hf2
 have h6:¬ fn.name = "runtime.NumGoroutine" := by simpa using hf3
 simp [execOp,ho,resolve,hcal,h3,Deferred.ofValue,invoke,callFunc,hf1,h5,h6,← Array.toList_map]
theorem go_callvi (hgl : W0Ok P w0) (hr : Rel n base w0 G st a w) {c : Call} {fo : Operand} {fo' : Opd} {args' : List Opd} (ho : o.op = .call c) (hcal : c.callee = .value fo) (hf : chkOpd fo fo' = true) (hargs : chkOpds c.args.toList args' = true)
  (he:ERun (eff P (getL st.slots) (.callvi fo' args')) st.heap v ws rs):Goes P n base w0 w st a o r v ws:=by
 have h1:=chkOpd_rel hr hf
 have h2:=chkOpds_rel hr hargs
 simp only [eff] at he
 split at he
 ·rename_i f caps e1
  rw [e1] at h1
  simp only [VRel,DRel] at h1
  obtain ⟨cv,h3,h4⟩:=h1
  refine callIE_goes hgl hr (VRels_append h2 (capCells_rel h4)) (by simp [ho]) (fun fn hf1 hf2 hf3=>?_) he
  have h5:¬ fn.body=none:=fun h=>by simp [h] at hf2
  have h6:¬ fn.name = "runtime.NumGoroutine" := by simpa using hf3
  simp [execOp,ho,resolve,hcal,h3,Deferred.ofValue,invoke,callFunc,hf1,h5,h6]
 ·rename_i f first caps e1
  rw [e1] at h1
  simp only [VRel] at h1
  obtain ⟨fv,cv,h3,h4,h5⟩:=h1
  refine callIE_goes hgl hr (VRels_append (VRels_append h4 h2) h5) (by simp [ho]) (fun fn hf1 hf2 hf3=>?_) he
  have h6:¬ fn.body=none:=fun h=>by simp [h] at hf2
  have h7:¬ fn.name = "runtime.NumGoroutine" := by simpa using hf3
  simp [execOp,ho,resolve,hcal,h3,Deferred.ofValue,invoke,callFunc,hf1,h6,h7]
 ·rename_i id e1
  rw [e1] at h1
  simp only [VRel] at h1
  obtain ⟨b,st',pd,m,sl,ps,xa,xb,ck,hh,hval,h3⟩:=h1
  obtain ⟨rs',rfl,v',h',⟨hlen,hy⟩,rfl,rfl,rfl⟩:=he
  obtain ⟨fn,tmps,ca,cb,hrun,hround⟩:=hy n base w0 G st.slots a w _ b hgl hr hval h2
  intro K Q hK
  refine ⟨fun _ _=>trivial,?_⟩
  have hex:(execOp a.eval o).run P w=.ok (.round b fn tmps ca cb) w:=by
   simp only [execOp,ho,resolve,hcal,h3,Deferred.ofValue,invoke,Sem.run_bind,Sem.run_pure,Result.andThen_ok]
   have:#[]++Array.map a.eval c.args=(List.map a.eval c.args.toList).toArray:=by simp [← Array.toList_map]
   rw [this]
   exact hrun
  rw [Oper.semAt_eq _ _ _ (by simp [ho]),hex]
  refine ⟨fun h=>by simp [Fw,Fence.wide] at h,?_⟩
  refine RoundIn.mono (show RoundIn (Fw r) 0 P b fn tmps ca cb w _ from hround) ?_
  rintro e w' ⟨x,G',rfl,_,hr',hx⟩
  rw [setAll_eq] at hr' hx
  exact hK x w' G' hr' hx
 ·exact he.elim
theorem go_mkr (hr : Rel n base w0 G st a w) {f : Fn} {first caps : Array Operand} {first' caps' : List Opd} (ho : o.op = .makeFunc f first caps) (hfi : chkOpds first.toList first' = true) (hc : chkOpds caps.toList caps' = true)
  (he:ERun (eff P (getL st.slots) (.mkr f first' caps')) st.heap v ws rs):Goes P n base w0 w st a o r v ws:=by
 have h1:=chkOpds_rel hr hfi
 have h2:=chkOpds_rel hr hc
 simp only [eff] at he
 obtain ⟨rfl,rfl,rfl⟩:=he
 refine goes_value (by simp [ho]) (x:=.func f (first.toList.map a.eval).toArray (caps.toList.map a.eval).toArray) (w':=w) (G':=G) ?_ hr (by simp only [VRel]; exact ⟨_,_,rfl,h1,h2⟩)
 simp only [execOp,ho,Instr.makeFunc,Sem.run_bind,Sem.run_pure,Result.andThen_ok,List.map_toArray,← Array.toList_map,Array.toArray_toList]
end
end Vc
set_option linter.unusedSimpArgs false
set_option linter.unusedVariables false
namespace Vc
open Go Go.RowKit
theorem DRels_DCs {w:World} {S:Nat→Nat→Prop} {b:Nat}:∀ {ds:List Data} {vs:List Value} {off:Nat},DRels w S ds vs→(∀ j u,vs[j]?=some u→w.cell? ⟨b,off+j,none⟩=some u)→(∀ j,j < ds.length→S b (off+j))→DCs w S ds b off
 | [],vs,off,_,_,_=>by simp [DCs]
 | d::ds,vs,off,h,hc,hS=>by
  simp only [DRels] at h
  obtain ⟨v,r,rfl,h1,h2,h3⟩:=h
  simp only [DCs]
  refine ⟨h1,by simpa using hS 0 (by simp),⟨v,by simpa using hc 0 v rfl,h2⟩,DRels_DCs h3 (fun j u hj=>?_) (fun j hj=>?_)⟩
  ·have:=hc (j+1) u (by simpa using hj)
   rwa [show off+(j+1)=off+1+j by omega] at this
  ·have:=hS (j+1) (by simpa using hj)
   rwa [show off+(j+1)=off+1+j by omega] at this
theorem dcells_inj:∀ {x y:List Data},dcells x=dcells y→x=y
 | [],[],_=>rfl
 | [],_::_,h=>by simp [dcells] at h
 | _::_,[],h=>by simp [dcells] at h
 | a::x,b::y,h=>by
  simp only [dcells,List.map_cons,List.cons.injEq,AVal.d.injEq] at h
  rw [h.1,dcells_inj (x:=x) (y:=y) h.2]
def Bfz (h:List AObj) (ws:List (Nat × AObj)):Prop:=∀ id o,(id,o)∈ws→∃ ds,o=.cbox ds∧(h[id]?=some (.box (dcells ds))∨h[id]?=some (.cbox ds))∧∀ d∈ds,d.isAgg=false
section
variable {P : Program} [Laid P] {n base : Nat} {w0 : W0} {w w' : World} {G : Gh} {st : St} {a : Act} {o : Oper} {r : Option Nat} {v : AVal} {ws : List (Nat × AObj)} {rs : List Nat}
theorem cfreeze_one (hr : Rel n base w0 G st a w) {id : Nat} {ds : List Data} (hh : st.heap[id]? = some (.box (dcells ds))) (hag : ∀ d ∈ ds, d.isAgg = false) :
  ∃ G1,Rel n base w0 G1 ⟨st.slots,st.heap.set id (.cbox ds)⟩ a w∧(∀ b o,G.S b o→G1.S b o)∧G1.val=G.val:=by
 have hlt:id < st.heap.length:=(List.getElem?_eq_some_iff.1 hh).1
 obtain ⟨b,arr,t,h1,h2,h3,h4,h5⟩:=hr.objs id _ hh
 let S':Nat→Nat→Prop:=fun b' j=>G.S b' j∨(b'=b∧j < ds.length)
 have hlt2:b < w.heap.size:=(Array.getElem?_eq_some_iff.1 h3).1
 have h:=hr.upd (o':=.cbox ds) (v':=G.val id) (S':=S') (row:=none) (w':=w) hh (.inl rfl) (fun _ _ h=>.inl h)
  (fun b' off h=>h.elim .inl fun h=>.inr (by rw [h1,h.1]; rfl)) ⟨rfl,rfl,rfl,Nat.le_refl _,fun _ _ _=>rfl⟩ (fun _ _ _ h=>by cases h) (fun b hb=>.inl ⟨by simp,hb⟩) rfl
  (fun hx=>⟨b,arr,t,(upd_same _ _ _).trans h1,h2,h3,by
   have hd:=DRels_of (G:=G) (h:=st.heap) hag h4
   refine DRels_DCs (DRels_mono (fun _ _ _=>rfl) (fun _ _ h=>.inl h) ds hd) (fun j u hj=>?_) (fun j hj=>.inr ⟨rfl,by simpa using hj⟩)
   rw [Nat.zero_add]
   exact heap_cell h3 hj⟩)
  (fun b' off hb hown hs=>by exact hown) (fun b' off hs=>hs.elim (hr.lim b' off) fun h=>h.1 ▸ hlt2)
 have hval:upd G.val id (G.val id)=G.val:=by funext j; unfold upd; split <;> simp_all
 rw [hval] at h
 exact ⟨_,h.2,fun _ _ h=>.inl h,rfl⟩
theorem cfreeze_rel : ∀ {ws : List (Nat × AObj)} {st : St} {G : Gh}, Rel n base w0 G st a w → Bfz st.heap ws →
  ∃ G1,Rel n base w0 G1 ⟨st.slots,applyW st.heap ws⟩ a w∧(∀ b o,G.S b o→G1.S b o)∧G1.val=G.val∧(∀ (id:Nat) (ds:List Data),st.heap[id]?=some (AObj.cbox ds)→(applyW st.heap ws)[id]?=some (AObj.cbox ds)) ∧
   ∀ (id:Nat) (ds:List Data),(id,AObj.cbox ds)∈ws→(applyW st.heap ws)[id]?=some (AObj.cbox ds)
 | [],st,G,hr,_=>⟨G,hr,fun _ _ h=>h,rfl,fun _ _ h=>h,fun _ _ h=>by cases h⟩
 | (i,ob)::ws,st,G,hr,hf=>by
  obtain ⟨ds,rfl,hh,hag⟩:=hf i ob List.mem_cons_self
  have step:∃ G1,Rel n base w0 G1 ⟨st.slots,st.heap.set i (.cbox ds)⟩ a w∧(∀ b o,G.S b o→G1.S b o)∧G1.val=G.val:=by
   rcases hh with hh | hh
   ·exact cfreeze_one hr hh hag
   ·have : st.heap.set i (.cbox ds) = st.heap := by
     apply List.ext_getElem?
     intro j
     by_cases e:i=j
     ·subst e
      have hlt:i < st.heap.length:=(List.getElem?_eq_some_iff.1 hh).1
      simp [hlt,hh]
      exact (List.getElem?_eq_some_iff.1 hh).2.symm
     ·rw [List.getElem?_set_ne e]
    rw [this]
    exact ⟨G,hr,fun _ _ h=>h,rfl⟩
  obtain ⟨G1,hr1,hS1,hv1⟩:=step
  have hlt:i < st.heap.length:=by rcases hh with hh | hh <;> exact (List.getElem?_eq_some_iff.1 hh).1
  have hf':Bfz (st.heap.set i (.cbox ds)) ws:=by
   intro id o hm
   obtain ⟨ds2,e,h2,h3⟩:=hf id o (List.mem_cons_of_mem _ hm)
   by_cases e2:id=i
   ·subst e2
    refine ⟨ds2,e,.inr ?_,h3⟩
    have:ds2=ds:=by
     rcases hh with hh | hh <;> rcases h2 with h2 | h2 <;> rw [hh] at h2 <;> simp at h2
     ·exact (dcells_inj h2).symm
     ·exact h2.symm
    subst this
    simp [hlt]
   ·refine ⟨ds2,e,?_,h3⟩
    rwa [List.getElem?_set_ne (Ne.symm e2)]
  obtain ⟨G2,hr2,hS2,hv2,hk,hm2⟩:=cfreeze_rel hr1 hf'
  refine ⟨G2,hr2,fun b o h=>hS2 b o (hS1 b o h),hv2.trans hv1,fun id ds' h=>?_,fun id ds' hm=>?_⟩
  ·refine hk id ds' ?_
   by_cases e2:id=i
   ·subst e2
    rcases hh with hh | hh <;> rw [hh] at h <;> simp at h
    subst h
    simp [hlt]
   ·rw [List.getElem?_set_ne (Ne.symm e2)]; exact h
  ·rcases List.mem_cons.1 hm with e | hm
   ·cases e
    exact hk i ds (by simp [hlt])
   ·exact hm2 id ds' hm
theorem capE_rel (hr : Rel n base w0 G st a w) : ∀ {xs : List AVal} {ys : List Value} {k : List Data → List (Nat × AObj) → Eff} {rs : List Nat}, VRels w G st.heap xs ys → ERun (capE xs k) st.heap v ws rs →
  ∃ cs fws rs',ERun (k cs fws) st.heap v ws rs'∧Bfz st.heap fws ∧
   ∀ (G1:Gh) (h1:List AObj),(∀ b o,G.S b o→G1.S b o)→G1.val=G.val→(∀ (id:Nat) (o:AObj),h1[id]?=some o→ORel w G1 h1 base id o)→(∀ (id:Nat) (ds:List Data),st.heap[id]?=some (AObj.cbox ds)→h1[id]?=some (AObj.cbox ds)) →
    (∀ (id:Nat) (ds:List Data),(id,AObj.cbox ds)∈fws→h1[id]?=some (AObj.cbox ds))→DCaps w G1.S cs ys
 | [],ys,k,rs,hv,he=>by
  simp only [VRels] at hv
  subst hv
  exact ⟨_,_,rs,he,(fun _ _ h=>by cases h),(fun _ _ _ _ _ _ _=>by simp [DCaps])⟩
 | .ptr id 0::xs,ys,k,rs,hv,he=>by
  simp only [VRels] at hv
  obtain ⟨y,r,rfl,h1,h2⟩:=hv
  have fromBox:∀ {ds:List Data} {b:Nat} {G1:Gh} {h1:List AObj},G1.val id=.pointer (some ⟨b,0,none⟩)→ORel w G1 h1 base id (.cbox ds)→DCs w G1.S ds b 0:=by
   intro ds b G1 h1 hv ho
   obtain ⟨b',arr,t,h3,_,_,h4⟩:=ho
   rw [hv] at h3; cases h3
   exact h4
  simp only [VRel] at h1
  obtain ⟨b,_,h3,h4⟩:=h1
  simp only [capE] at he
  obtain ⟨ob,rs',hob,rfl,he⟩:=he
  dsimp only at he
  split at he
  ·rename_i cs
   split at he
   ·rename_i ds hds
    obtain ⟨hcs,hag⟩:=allD_some hds
    subst hcs
    obtain ⟨cs',fws,rs2,he,h5,h6⟩:=capE_rel hr h2 he
    refine ⟨_,_,rs2,he,?_,fun G1 h1 hS hv ho hk hw=>?_⟩
    ·intro i o hm
     rcases List.mem_cons.1 hm with e | hm
     ·cases e; exact ⟨ds,rfl,.inl hob,hag⟩
     ·exact h5 i o hm
    ·refine DCaps_cons.2 ⟨b,0,r,by rw [h4],?_,h6 G1 h1 hS hv ho hk (fun i d hm=>hw i d (List.mem_cons_of_mem _ hm))⟩
     exact fromBox (by rw [hv]; exact h3) (ho id _ (hw id ds List.mem_cons_self))
   ·exact he.elim
  ·rename_i ds
   obtain ⟨cs',fws,rs2,he,h5,h6⟩:=capE_rel hr h2 he
   refine ⟨_,_,rs2,he,h5,fun G1 h1 hS hv ho hk hw=>?_⟩
   refine DCaps_cons.2 ⟨b,0,r,by rw [h4],?_,h6 G1 h1 hS hv ho hk hw⟩
   exact fromBox (by rw [hv]; exact h3) (ho id _ (hk id ds hob))
  ·exact he.elim
 | .cp ds 0::xs,ys,k,rs,hv,he=>by
  simp only [VRels] at hv
  obtain ⟨y,r,rfl,h1,h2⟩:=hv
  simp only [VRel] at h1
  obtain ⟨b,b0,h3,h4⟩:=h1
  simp only [capE] at he
  obtain ⟨cs',fws,rs2,he,h5,h6⟩:=capE_rel hr h2 he
  refine ⟨_,_,rs2,he,h5,fun G1 h1 hS hv ho hk hw=>?_⟩
  exact DCaps_cons.2 ⟨b,b0,r,by rw [h3]; rfl,DCs_mono (fun _ _ _=>rfl) hS ds h4,h6 G1 h1 hS hv ho hk hw⟩
 | .ptr _ (_+1)::_,_,_,_,_,he=>by simp [capE,ERun] at he
 | .cp _ (_+1)::_,_,_,_,_,he=>by simp [capE,ERun] at he
 | .d _::_,_,_,_,_,he=>by simp [capE,ERun] at he
 | .nils _::_,_,_,_,_,he=>by simp [capE,ERun] at he
 | .sl _ _::_,_,_,_,_,he=>by simp [capE,ERun] at he
 | .ep _ _ _ _::_,_,_,_,_,he=>by simp [capE,ERun] at he
 | .rv _ _ _ _::_,_,_,_,_,he=>by simp [capE,ERun] at he
 | .mp _::_,_,_,_,_,he=>by simp [capE,ERun] at he
 | .it _::_,_,_,_,_,he=>by simp [capE,ERun] at he
 | .fn _ _ _::_,_,_,_,_,he=>by simp [capE,ERun] at he
 | .agg _::_,_,_,_,_,he=>by simp [capE,ERun] at he
 | .tup _::_,_,_,_,_,he=>by simp [capE,ERun] at he
 | .undef::_,_,_,_,_,he=>by simp [capE,ERun] at he
 | .gone::_,_,_,_,_,he=>by simp [capE,ERun] at he
theorem go_mkf (hr : Rel n base w0 G st a w) {f : Fn} {first caps : Array Operand} {first' caps' : List Opd} (ho : o.op = .makeFunc f first caps) (hfi : chkOpds first.toList first' = true) (hc : chkOpds caps.toList caps' = true)
  (he:ERun (eff P (getL st.slots) (.mkf f first' caps')) st.heap v ws rs):Goes P n base w0 w st a o r v ws:=by
 have h1:=chkOpds_rel hr hc
 simp only [eff] at he
 split at he
 ·have hfe : first = #[] := by
   cases hl:first.toList with
   | nil=>simpa using hl
   | cons x xs=>rw [hl] at hfi; simp [chkOpds] at hfi
  obtain ⟨cs,fws,rs',⟨rfl,rfl,rfl⟩,h2,h3⟩:=capE_rel hr h1 he
  obtain ⟨G1,hr1,hS,hval,hk,hw⟩:=cfreeze_rel hr h2
  have h4:=h3 G1 _ hS hval hr1.objs hk hw
  refine goes_value (by simp [ho]) (x:=.func f #[] (caps.toList.map a.eval).toArray) (w':=w) (G':=G1) ?_ hr1 (by simp only [VRel,DRel]; exact ⟨_,rfl,h4⟩)
  simp only [execOp,ho,hfe,Instr.makeFunc,Sem.run_bind,Sem.run_pure,Result.andThen_ok,List.map_toArray,List.map_nil,← Array.toList_map,Array.toArray_toList]
 ·exact he.elim
end
end Vc
