import Derived.Lib.FrozenHead
import Derived.Below
import Derived.OrdersIn
import Derived.Laws.AppendOwn
import Derived.Laws.IdiomRangeMap
import Derived.RangeFuncSeq
set_option linter.unusedSectionVars false
set_option linter.unusedVariables false
set_option linter.unusedSimpArgs false
namespace Vc
open Go
inductive Data where
 | int (k:IntKind) (n:Int)
 | bool (b:Bool)
 | str (l:List UInt8)
 | agg (cs:List Data)
 | slice (sz:Nat) (es:List Data)
 | fn (f:Fn) (caps:List Data)
 deriving Inhabited
def Data.cells:Data→List Data
 | .agg cs=>cs
 | d=>[d]
def Data.isAgg:Data→Bool
 | .agg _=>true
 | _=>false
def str (l:List UInt8):Value:=.string ⟨l.toArray⟩
mutual
def DRel (w:World) (S:Nat→Nat→Prop):Data→Value→Prop
 | .int k n,v=>v=.int k n
 | .bool b,v=>v=.bool b
 | .str l,v=>v=str l
 | .agg cs,v=>∃ vs:List Value,v=.agg vs.toArray∧DRels w S cs vs
 | .slice sz es,v=>∃ a cap,v=.slice a es.length cap∧es.length≤cap∧(es=[]∨∃ b off,a=some ⟨b,off,none⟩∧DRows w S es b off sz)
 | .fn f caps,v=>∃ cv:List Value,v=.func f #[] cv.toArray∧DCaps w S caps cv
def DRels (w:World) (S:Nat→Nat→Prop):List Data→List Value→Prop
 | [],vs=>vs=[]
 | d::ds,vs=>∃ v r,vs=v::r∧d.isAgg=false∧DRel w S d v∧DRels w S ds r
def DRows (w:World) (S:Nat→Nat→Prop):List Data→Nat→Nat→Nat→Prop
 | [],_,_,_=>True
 | d :: ds, b, off, sz => (match d with
   | .agg cs=>cs.length=sz∧DCs w S cs b off
   | d=>sz=1∧S b off∧∃ v,w.cell? ⟨b,off,none⟩=some v∧DRel w S d v)∧DRows w S ds b (off+sz) sz
def DCs (w:World) (S:Nat→Nat→Prop):List Data→Nat→Nat→Prop
 | [],_,_=>True
 | d::ds,b,off=>d.isAgg=false∧S b off∧(∃ v,w.cell? ⟨b,off,none⟩=some v∧DRel w S d v)∧DCs w S ds b (off+1)
def DCaps (w:World) (S:Nat→Nat→Prop):List Data→List Value→Prop
 | [],vs=>vs=[]
 | d :: ds, vs => (∃ b off r, vs = .pointer (some ⟨b, off, none⟩) :: r ∧ (match d with
   | .agg cs=>DCs w S cs b off
   | d=>S b off∧∃ v,w.cell? ⟨b,off,none⟩=some v∧DRel w S d v)∧DCaps w S ds r)
end
def DCells (w:World) (S:Nat→Nat→Prop) (d:Data) (b off sz:Nat):Prop:=d.cells.length=sz∧DCs w S d.cells b off
theorem DRows_cons {w : World} {S : Nat → Nat → Prop} {d : Data} {ds : List Data} {b off sz : Nat} :
  DRows w S (d::ds) b off sz↔DCells w S d b off sz∧DRows w S ds b (off+sz) sz:=by
 cases d <;> simp [DRows,DCells,Data.cells,DCs,Data.isAgg,eq_comm]
theorem DCaps_cons {w : World} {S : Nat → Nat → Prop} {d : Data} {ds : List Data} {vs : List Value} :
  DCaps w S (d::ds) vs↔∃ b off r,vs=.pointer (some ⟨b,off,none⟩)::r∧DCs w S d.cells b off∧DCaps w S ds r:=by
 cases d <;> simp [DCaps,Data.cells,DCs,Data.isAgg]
def Keeps (S:Nat→Nat→Prop) (w w':World):Prop:=∀ b o,S b o→w'.cell? ⟨b,o,none⟩=w.cell? ⟨b,o,none⟩
section
variable {w w' : World} {S S' : Nat → Nat → Prop} (hk : Keeps S w w') (hS : ∀ b o, S b o → S' b o)
include hk hS
set_option linter.unusedSectionVars false
mutual
theorem DRel_mono:∀ (d:Data) {v:Value},DRel w S d v→DRel w' S' d v
 | .int _ _,_,h=>by simpa [DRel] using h
 | .bool _,_,h=>by simpa [DRel] using h
 | .str _,_,h=>by simpa [DRel] using h
 | .agg cs,_,h=>by
  simp only [DRel] at h ⊢
  obtain ⟨vs,e,h⟩:=h
  exact ⟨vs,e,DRels_mono cs h⟩
 | .slice sz es,_,h=>by
  simp only [DRel] at h ⊢
  obtain ⟨a,cap,e,hc,h⟩:=h
  exact ⟨a,cap,e,hc,h.imp id fun ⟨b,off,ea,h⟩=>⟨b,off,ea,DRows_mono es h⟩⟩
 | .fn f caps,_,h=>by
  simp only [DRel] at h ⊢
  obtain ⟨cv,e,h⟩:=h
  exact ⟨cv,e,DCaps_mono caps h⟩
theorem DRels_mono:∀ (ds:List Data) {vs:List Value},DRels w S ds vs→DRels w' S' ds vs
 | [],_,h=>by simpa [DRels] using h
 | d::ds,_,h=>by
  simp only [DRels] at h ⊢
  obtain ⟨v,r,e,ha,hd,hr⟩:=h
  exact ⟨v,r,e,ha,DRel_mono d hd,DRels_mono ds hr⟩
theorem DRows_mono:∀ (ds:List Data) {b off sz:Nat},DRows w S ds b off sz→DRows w' S' ds b off sz
 | [],_,_,_,_=>by simp [DRows]
 | .agg cs::ds,_,_,_,h=>by
  simp only [DRows] at h ⊢
  exact ⟨⟨h.1.1,DCs_mono cs h.1.2⟩,DRows_mono ds h.2⟩
 | .int k n::ds,_,_,_,h=>by
  simp only [DRows] at h ⊢
  obtain ⟨⟨h1,h2,v,h3,h4⟩,h5⟩:=h
  exact ⟨⟨h1,hS _ _ h2,v,(hk _ _ h2).trans h3,DRel_mono _ h4⟩,DRows_mono ds h5⟩
 | .bool k::ds,_,_,_,h=>by
  simp only [DRows] at h ⊢
  obtain ⟨⟨h1,h2,v,h3,h4⟩,h5⟩:=h
  exact ⟨⟨h1,hS _ _ h2,v,(hk _ _ h2).trans h3,DRel_mono _ h4⟩,DRows_mono ds h5⟩
 | .str k::ds,_,_,_,h=>by
  simp only [DRows] at h ⊢
  obtain ⟨⟨h1,h2,v,h3,h4⟩,h5⟩:=h
  exact ⟨⟨h1,hS _ _ h2,v,(hk _ _ h2).trans h3,DRel_mono _ h4⟩,DRows_mono ds h5⟩
 | .slice z k::ds,_,_,_,h=>by
  simp only [DRows] at h ⊢
  obtain ⟨⟨h1,h2,v,h3,h4⟩,h5⟩:=h
  exact ⟨⟨h1,hS _ _ h2,v,(hk _ _ h2).trans h3,DRel_mono _ h4⟩,DRows_mono ds h5⟩
 | .fn k c::ds,_,_,_,h=>by
  simp only [DRows] at h ⊢
  obtain ⟨⟨h1,h2,v,h3,h4⟩,h5⟩:=h
  exact ⟨⟨h1,hS _ _ h2,v,(hk _ _ h2).trans h3,DRel_mono _ h4⟩,DRows_mono ds h5⟩
theorem DCs_mono:∀ (ds:List Data) {b off:Nat},DCs w S ds b off→DCs w' S' ds b off
 | [],_,_,_=>by simp [DCs]
 | d::ds,_,_,h=>by
  simp only [DCs] at h ⊢
  obtain ⟨ha,h2,⟨v,h3,h4⟩,h5⟩:=h
  exact ⟨ha,hS _ _ h2,⟨v,(hk _ _ h2).trans h3,DRel_mono d h4⟩,DCs_mono ds h5⟩
theorem DCaps_mono:∀ (ds:List Data) {vs:List Value},DCaps w S ds vs→DCaps w' S' ds vs
 | [],_,h=>by simpa [DCaps] using h
 | .agg cs::ds,_,h=>by
  simp only [DCaps] at h ⊢
  obtain ⟨b,off,r,e,h1,h2⟩:=h
  exact ⟨b,off,r,e,DCs_mono cs h1,DCaps_mono ds h2⟩
 | .int k n::ds,_,h=>by
  simp only [DCaps] at h ⊢
  obtain ⟨b,off,r,e,⟨h1,v,h2,h3⟩,h4⟩:=h
  exact ⟨b,off,r,e,⟨hS _ _ h1,v,(hk _ _ h1).trans h2,DRel_mono _ h3⟩,DCaps_mono ds h4⟩
 | .bool k::ds,_,h=>by
  simp only [DCaps] at h ⊢
  obtain ⟨b,off,r,e,⟨h1,v,h2,h3⟩,h4⟩:=h
  exact ⟨b,off,r,e,⟨hS _ _ h1,v,(hk _ _ h1).trans h2,DRel_mono _ h3⟩,DCaps_mono ds h4⟩
 | .str k::ds,_,h=>by
  simp only [DCaps] at h ⊢
  obtain ⟨b,off,r,e,⟨h1,v,h2,h3⟩,h4⟩:=h
  exact ⟨b,off,r,e,⟨hS _ _ h1,v,(hk _ _ h1).trans h2,DRel_mono _ h3⟩,DCaps_mono ds h4⟩
 | .slice z k::ds,_,h=>by
  simp only [DCaps] at h ⊢
  obtain ⟨b,off,r,e,⟨h1,v,h2,h3⟩,h4⟩:=h
  exact ⟨b,off,r,e,⟨hS _ _ h1,v,(hk _ _ h1).trans h2,DRel_mono _ h3⟩,DCaps_mono ds h4⟩
 | .fn k c::ds,_,h=>by
  simp only [DCaps] at h ⊢
  obtain ⟨b,off,r,e,⟨h1,v,h2,h3⟩,h4⟩:=h
  exact ⟨b,off,r,e,⟨hS _ _ h1,v,(hk _ _ h1).trans h2,DRel_mono _ h3⟩,DCaps_mono ds h4⟩
end
end
inductive AVal where
 | d (x:Data)
 | nils (sz:Nat)
 | sl (id n:Nat)
 | ptr (id off:Nat)
 | ep (id n i off:Nat)
 | cp (cs:List Data) (off:Nat)
 | mp (id:Nat)
 | it (id:Nat)
 | fn (f:Fn) (first caps:List AVal)
 | agg (vs:List AVal)
 | tup (vs:List AVal)
 | undef
 | gone
 | anyn (neg:Bool) (es:List Data)
 | bv (id off n:Nat)
 | yld (id:Nat)
 | gp (g off:Nat)
 | tp (id off:Nat)
 | bs (id n:Nat)
 | bp (id n:Nat)
 | bw (id n:Nat)
 | nilp
 | rv (id n i j:Nat)
 | mi (id:Nat)
 | dc (sz:Nat) (es:List Data)
 deriving Inhabited
inductive Opd where
 | tmp (t:Nat)
 | cst (v:AVal)
 deriving Inhabited
inductive AOp where
 | mov (x:Opd)
 | pick (c a b:Opd)
 | alloc (r:Nat) (cs:List AVal)
 | box (r n:Nat) (x:Opd)
 | ld (ag:Bool) (n:Nat) (x:Opd)
 | st (n:Nat) (x v:Opd)
 | arith (op:BinOp) (k:IntKind) (x y:Opd)
 | cmp (op:BinOp) (x y:Opd)
 | beq (neg:Bool) (x y:Opd)
 | seq (neg:Bool) (x y:Opd)
 | slt (op:BinOp) (x y:Opd)
 | cat (x y:Opd)
 | not (x:Opd)
 | conv (k:IntKind) (x:Opd)
 | fad (off:Nat) (x:Opd)
 | fld (ag:Bool) (off n:Nat) (x:Opd)
 | ixa (sz:Nat) (x i:Opd)
 | ixp (len sz:Nat) (x i:Opd)
 | ixv (ag:Bool) (len sz:Nat) (x i:Opd)
 | ixs (x i:Opd)
 | build (zero:List AVal) (parts:List (Nat × Nat × Opd))
 | bsl (r t sz n:Nat) (zero:List Data) (parts:List (Nat × Opd))
 | msl (r t sz:Nat) (bytes:Nat) (zero:Data) (n:Opd)
 | len (x:Opd)
 | lens (x:Opd)
 | app (r t sz bytes:Nat) (s x:Opd)
 | mini (x y:Opd)
 | maxi (x y:Opd)
 | mkf (f:Fn) (first caps:List Opd)
 | ext (i:Nat) (x:Opd)
 | call (f:FuncId) (args:List Opd)
 | calli (f:FuncId) (args:List Opd)
 | callvi (x:Opd) (args:List Opd)
 | mkr (f:Fn) (first caps:List Opd)
 | callv (x:Opd) (args:List Opd)
 | slc (sz:Nat) (x:Opd) (lo hi:Option Opd)
 | slcs (x:Opd) (lo hi:Option Opd)
 | nck (x:Opd)
 | aeq (neg:Bool) (ks:List Nat) (x y:Opd)
 | bit (op:BinOp) (k:IntKind) (x y:Opd)
 | shf (op:BinOp) (k:IntKind) (x y:Opd)
 | neg (k:IntKind) (x:Opd)
 | isnil (neg:Bool) (x:Opd)
 | b2s (x:Opd)
 | copy (sz:Nat) (x y:Opd)
 | cbx (r n:Nat) (x:Opd)
 | rng (r:Nat) (x:Opd)
 | mkm (r:Nat)
 | alt (r t:Nat) (cs:List AVal)
 | s2a (n:Nat) (x:Opd)
 | aps (r t:Nat) (x y:Opd)
 | usd (x:Opd)
 | ust (t:Nat) (x n:Opd)
 | lkp (ck:Option IntKind) (zero:Data) (comma:Bool) (x k:Opd)
 | mpu (ck:Option IntKind) (x k v:Opd)
 | lenm (x:Opd)
 | nxt (x:Opd)
 | i2s (x:Opd)
 | sla (len:Nat) (x:Opd) (lo hi:Option Opd)
 | slv (len:Nat) (x:Opd) (lo hi:Option Opd)
 | calln (r t sz:Nat) (f:FuncId) (args:List Opd)
 | slw (sz:Nat) (x:Opd) (lo hi:Option Opd)
 | copyw (sz:Nat) (x y:Opd)
 | slm (sz:Nat) (x lo hi mx:Opd)
 | lenw (x:Opd)
 | appw (sz:Nat) (x y:Opd)
 | clrw (sz:Nat) (zero:Data) (x:Opd)
 | callx (ids:List Nat) (f:FuncId) (args:List Opd)
 | appz (r t sz bytes:Nat) (zero:Data) (x y:Opd)
 | mkb (r t n bytes:Nat) (z:AVal) (x:Opd)
 | mk0 (r t sz bytes c:Nat)
 | lkps (ks:List Nat) (zero:Data) (comma:Bool) (x k:Opd)
 | mpus (ks:List Nat) (x k v:Opd)
 | rngm (r:Nat) (x:Opd)
 | nxm (x:Opd)
 | ent (x:Opd)
 | sln (sz:Nat) (x hi mx:Opd)
 deriving Inhabited
structure AOper where
 dst:Option Nat
 op:AOp
 guard:Option (Nat × Bool):=none
 deriving Inhabited
inductive ACode where
 | skip
 | reg (clr:List Nat) (ops:List AOper)
 | regd (clr:List Nat) (ops:List AOper) (un:List (Nat × Nat))
 | seq (a b:ACode)
 | cond (c:Opd) (a b:ACode)
 | block (id:Nat) (c:ACode)
 | loop (c:ACode)
 | exit (id:Nat)
 | scope (c:ACode)
 | ret
 | keep (ks:List Nat) (gs:List Nat) (c:ACode)
 | post (ks:List Nat) (gs:List Nat) (c:ACode)
 | asrow (r t sz s:Nat) (c:ACode)
 | asdat (s:Nat) (c:ACode)
 | rfor (r:Nat) (f:Opd) (ps:List Nat) (a b:ACode)
 | dead
 | pick (id:Nat) (c:ACode)
 | mvr (a b s:Nat) (c:ACode)
 deriving Inhabited
inductive AJump where
 | ret
 | exit (id:Nat)
 deriving Inhabited
inductive MCur where
 | start
 | pend
 | here (k v:Data)
 deriving Inhabited
inductive AObj where
 | none
 | row (t:TypeId) (sz:Nat) (es:List Data) (fz:Bool)
 | box (cs:List AVal)
 | cbox (ds:List Data)
 | mapo (es:List (Data × Data))
 | sit (l:List UInt8) (pos:Nat)
 | tbox (t:Nat) (cs:List AVal)
 | brow (t:Nat) (bs:List UInt8)
 | lp (state:LoopState) (pend:Option AJump) (n:Nat) (slots:List (Nat × AVal)) (ps:List Nat) (a b:ACode) (ck:Code→Code→Bool)
 | mapf (es:List (Data × Data))
 | mit (mid:Nat) (cur:MCur) (left:List (Data × Data))
 deriving Inhabited
structure St where
 slots:List (Nat × AVal)
 heap:List AObj
structure Gh where
 S:Nat→Nat→Prop
 val:Nat→Value
mutual
def VRel (w:World) (G:Gh) (h:List AObj):AVal→Value→Prop
 | .d x,v=>DRel w G.S x v
 | .nils _,v=>v=.slice none 0 0
 | .sl id n,v=>∃ t sz es fz,h[id]?=some (.row t sz es fz)∧n≤es.length∧(es.length=n→v=G.val id)
 | .ptr id off,v=>∃ b,((∃ cs,h[id]?=some (.box cs))∨(∃ ds,h[id]?=some (.cbox ds)))∧G.val id=.pointer (some ⟨b,0,none⟩)∧v=.pointer (some ⟨b,off,none⟩)
 | .ep id n i off,v=>∃ t sz es fz,h[id]?=some (.row t sz es fz)∧n≤es.length∧(es.length=n→∃ b cap,G.val id=.slice (some ⟨b,0,none⟩) n cap∧v=.pointer (some ⟨b,i * sz+off,none⟩))
 | .cp cs off,v=>∃ b o,v=.pointer (some ⟨b,o+off,none⟩)∧DCs w G.S cs b o
 | .mp id,v=>∃ es,(h[id]?=some (.mapo es)∨h[id]?=some (.mapf es))∧v=G.val id
 | .mi id,v=>∃ m c l,h[id]?=some (.mit m c l)∧v=G.val id
 | .dc sz es,v=>∃ a,v=.slice a es.length es.length∧(es=[]∨∃ b off,a=some ⟨b,off,none⟩∧DRows w G.S es b off sz)
 | .it id,v=>∃ l p,h[id]?=some (.sit l p)∧v=G.val id
 | .fn f first caps,v=>∃ fv cv:List Value,v=.func f fv.toArray cv.toArray∧VRels w G h first fv∧VRels w G h caps cv
 | .agg xs,v=>∃ vs:List Value,v=.agg vs.toArray∧VRels w G h xs vs∧∀ u∈vs,u.oneCell'=true
 | .tup xs,v=>∃ vs:List Value,v=.tuple vs.toArray∧VRels w G h xs vs
 | .undef,_=>True
 | .gone,v=>v=Go.undef
 | .bv id off n,v=>∃ b cap,((∃ cs,h[id]?=some (.box cs))∨(∃ ds,h[id]?=some (.cbox ds)))∧G.val id=.pointer (some ⟨b,0,none⟩)∧v=.slice (some ⟨b,off,none⟩) n (n+cap)
 | .anyn neg es,v=>∃ b,v=.bool (cond neg (!b) b)∧(b=true→es=[])
 | .yld id,v=>∃ b st pend n sl ps xa xb ck,h[id]?=some (.lp st pend n sl ps xa xb ck)∧G.val id=.pointer (some ⟨b,0,none⟩)∧v=.func (.yield b) #[] #[]
 | .gp g off,v=>v=.pointer (some ⟨g,off,none⟩)
 | .nilp,v=>v=.pointer none
 | .tp id off,v=>∃ b t cs,h[id]?=some (.tbox t cs)∧G.val id=.pointer (some ⟨b,0,none⟩)∧v=.pointer (some ⟨b,off,none⟩)
 | .bs id n,v=>∃ t bs,h[id]?=some (.brow t bs)∧n≤bs.length∧(bs.length=n→v=G.val id)
 | .bw id n,v=>∃ b,((∃ cs,h[id]?=some (.box cs))∨(∃ ds,h[id]?=some (.cbox ds)))∧G.val id=.pointer (some ⟨b,0,none⟩)∧v=.slice (some ⟨b,0,none⟩) n n
 | .bp id n,v=>∃ t bs,h[id]?=some (.brow t bs)∧n≤bs.length∧(bs.length=n→∃ b cap,G.val id=.slice (some ⟨b,0,none⟩) n cap∧v=.pointer (some ⟨b,0,none⟩))
 | .rv id n i j,v=>∃ t sz es fz,h[id]?=some (.row t sz es fz)∧n≤es.length∧(es.length=n→∃ b cap,G.val id=.slice (some ⟨b,0,none⟩) n cap∧∃ p,i≤j∧j≤n∧(i < n→p=some ⟨b,i * sz,none⟩)∧v=.slice p (j - i) (cap - i))
def VRels (w:World) (G:Gh) (h:List AObj):List AVal→List Value→Prop
 | [],vs=>vs=[]
 | x::xs,vs=>∃ v r,vs=v::r∧VRel w G h x v∧VRels w G h xs r
end
structure Ext (w:World) (G:Gh) (h:List AObj) (w':World) (G':Gh) (h':List AObj):Prop where
 seals:∀ b o,G.S b o→G'.S b o
 keeps:Keeps G.S w w'
 row:∀ id t sz es fz,h[id]?=some (.row t sz es fz)→∃ es' fz',h'[id]?=some (.row t sz es' fz')∧es.length≤es'.length∧(es'.length=es.length→G'.val id=G.val id)
 box:∀ id cs,h[id]?=some (.box cs)→((∃ cs',h'[id]?=some (.box cs'))∨(∃ ds,h'[id]?=some (.cbox ds)))∧G'.val id=G.val id
 cbox:∀ id ds,h[id]?=some (.cbox ds)→h'[id]?=some (.cbox ds)∧G'.val id=G.val id
 mapo:∀ id es,h[id]?=some (.mapo es)→∃ es',(h'[id]?=some (.mapo es')∨h'[id]?=some (.mapf es'))∧G'.val id=G.val id
 sit:∀ id l p,h[id]?=some (.sit l p)→∃ l' p',h'[id]?=some (.sit l' p')∧G'.val id=G.val id
 lp:∀ id st pend n sl ps xa xb ck,h[id]?=some (.lp st pend n sl ps xa xb ck)→∃ st' pend',h'[id]?=some (.lp st' pend' n sl ps xa xb ck)∧G'.val id=G.val id
 tbox:∀ id t cs,h[id]?=some (.tbox t cs)→∃ cs',h'[id]?=some (.tbox t cs')∧G'.val id=G.val id
 brow:∀ id t bs,h[id]?=some (.brow t bs)→∃ bs',h'[id]?=some (.brow t bs')∧bs.length≤bs'.length∧(bs'.length=bs.length→G'.val id=G.val id)
 mapf:∀ id es,h[id]?=some (.mapf es)→h'[id]?=some (.mapf es)∧G'.val id=G.val id∧∀ b,G.val id=.map (some b)→w'.heap[b]?=w.heap[b]?
 mit:∀ id m c l,h[id]?=some (.mit m c l)→∃ c' l',h'[id]?=some (.mit m c' l')∧G'.val id=G.val id
theorem Ext.refl (w:World) (G:Gh) (h:List AObj):Ext w G h w G h :=
 ⟨fun _ _ h=>h,fun _ _ _=>rfl,fun _ _ _ es fz h=>⟨es,fz,h,Nat.le_refl _,fun _=>rfl⟩,fun _ cs h=>⟨.inl ⟨cs,h⟩,rfl⟩,fun _ _ h=>⟨h,rfl⟩,fun _ es h=>⟨es,.inl h,rfl⟩,fun _ l p h=>⟨l,p,h,rfl⟩,fun _ s p _ _ _ _ _ _ h=>⟨s,p,h,rfl⟩,fun _ _ cs h=>⟨cs,h,rfl⟩,fun _ _ bs h=>⟨bs,h,Nat.le_refl _,fun _=>rfl⟩,fun _ _ h=>⟨h,rfl,fun _ _=>rfl⟩,fun _ _ c l h=>⟨c,l,h,rfl⟩⟩
theorem Ext.trans {w w' w'':World} {G G' G'':Gh} {h h' h'':List AObj} (p:Ext w G h w' G' h') (q:Ext w' G' h' w'' G'' h''):Ext w G h w'' G'' h'' where
 seals:=fun b o hs=>q.seals b o (p.seals b o hs)
 keeps:=fun b o hs=>(q.keeps b o (p.seals b o hs)).trans (p.keeps b o hs)
 row:=fun id t sz es fz hh=>by
  obtain ⟨es1,fz1,h1,l1,v1⟩:=p.row id t sz es fz hh
  obtain ⟨es2,fz2,h2,l2,v2⟩:=q.row id t sz es1 fz1 h1
  exact ⟨es2,fz2,h2,by omega,fun e=>(v2 (by omega)).trans (v1 (by omega))⟩
 box:=fun id cs hh=>by
  obtain ⟨h1,v1⟩:=p.box id cs hh
  rcases h1 with ⟨cs1,h1⟩ | ⟨ds,h1⟩
  ·obtain ⟨h2,v2⟩:=q.box id cs1 h1
   exact ⟨h2,v2.trans v1⟩
  ·obtain ⟨h2,v2⟩:=q.cbox id ds h1
   exact ⟨.inr ⟨ds,h2⟩,v2.trans v1⟩
 cbox:=fun id ds hh=>by
  obtain ⟨h1,v1⟩:=p.cbox id ds hh
  obtain ⟨h2,v2⟩:=q.cbox id ds h1
  exact ⟨h2,v2.trans v1⟩
 mapo:=fun id es hh=>by
  obtain ⟨es1,h1,v1⟩:=p.mapo id es hh
  rcases h1 with h1 | h1
  ·obtain ⟨es2,h2,v2⟩:=q.mapo id es1 h1
   exact ⟨es2,h2,v2.trans v1⟩
  ·obtain ⟨h2,v2,_⟩:=q.mapf id es1 h1
   exact ⟨es1,.inr h2,v2.trans v1⟩
 sit:=fun id l pos hh=>by
  obtain ⟨l1,p1,h1,v1⟩:=p.sit id l pos hh
  obtain ⟨l2,p2,h2,v2⟩:=q.sit id l1 p1 h1
  exact ⟨l2,p2,h2,v2.trans v1⟩
 lp:=fun id s pd n sl ps xa xb ck hh=>by
  obtain ⟨s1,p1,h1,v1⟩:=p.lp id s pd n sl ps xa xb ck hh
  obtain ⟨s2,p2,h2,v2⟩:=q.lp id s1 p1 n sl ps xa xb ck h1
  exact ⟨s2,p2,h2,v2.trans v1⟩
 tbox:=fun id t cs hh=>by
  obtain ⟨c1,h1,v1⟩:=p.tbox id t cs hh
  obtain ⟨c2,h2,v2⟩:=q.tbox id t c1 h1
  exact ⟨c2,h2,v2.trans v1⟩
 brow:=fun id t bs hh=>by
  obtain ⟨b1,h1,l1,v1⟩:=p.brow id t bs hh
  obtain ⟨b2,h2,l2,v2⟩:=q.brow id t b1 h1
  exact ⟨b2,h2,by omega,fun e=>(v2 (by omega)).trans (v1 (by omega))⟩
 mapf:=fun id es hh=>by
  obtain ⟨h1,v1,k1⟩:=p.mapf id es hh
  obtain ⟨h2,v2,k2⟩:=q.mapf id es h1
  exact ⟨h2,v2.trans v1,fun b hb=>(k2 b (v1.trans hb)).trans (k1 b hb)⟩
 mit:=fun id m c l hh=>by
  obtain ⟨c1,l1,h1,v1⟩:=p.mit id m c l hh
  obtain ⟨c2,l2,h2,v2⟩:=q.mit id m c1 l1 h1
  exact ⟨c2,l2,h2,v2.trans v1⟩
section
variable {w w' : World} {G G' : Gh} {h h' : List AObj} (hx : Ext w G h w' G' h')
include hx
set_option linter.unusedSectionVars false
mutual
theorem VRel_mono:∀ (x:AVal) {v:Value},VRel w G h x v→VRel w' G' h' x v
 | .d x,_,hv=>by simp only [VRel] at hv ⊢; exact DRel_mono hx.keeps hx.seals x hv
 | .nils _,_,hv=>by simpa [VRel] using hv
 | .sl id n,_,hv=>by
  simp only [VRel] at hv ⊢
  obtain ⟨t,sz,es,fz,hh,hn,hv⟩:=hv
  obtain ⟨es',fz',hh',hle,hval⟩:=hx.row _ _ _ _ _ hh
  exact ⟨t,sz,es',fz',hh',by omega,fun e=>(hv (by omega)).trans (hval (by omega)).symm⟩
 | .ptr id off,_,hv=>by
  simp only [VRel] at hv ⊢
  obtain ⟨b,hb | hb,hval,e⟩:=hv
  ·obtain ⟨cs,hb⟩:=hb
   obtain ⟨h1,h2⟩:=hx.box _ _ hb
   exact ⟨b,h1,h2.trans hval,e⟩
  ·obtain ⟨cs,hb⟩:=hb
   obtain ⟨h1,h2⟩:=hx.cbox _ _ hb
   exact ⟨b,.inr ⟨_,h1⟩,h2.trans hval,e⟩
 | .ep id n i off,_,hv=>by
  simp only [VRel] at hv ⊢
  obtain ⟨t,sz,es,fz,hh,hn,hv⟩:=hv
  obtain ⟨es',fz',hh',hle,hval⟩:=hx.row _ _ _ _ _ hh
  refine ⟨t,sz,es',fz',hh',by omega,fun e=>?_⟩
  obtain ⟨b,cap,h1,h2⟩:=hv (by omega)
  exact ⟨b,cap,(hval (by omega)).trans h1,h2⟩
 | .cp cs off,_,hv=>by
  simp only [VRel] at hv ⊢
  obtain ⟨b,o,e,hc⟩:=hv
  exact ⟨b,o,e,DCs_mono hx.keeps hx.seals cs hc⟩
 | .mp id,_,hv=>by
  simp only [VRel] at hv ⊢
  obtain ⟨es,hh,e⟩:=hv
  rcases hh with hh | hh
  ·obtain ⟨es',h1,h2⟩:=hx.mapo _ _ hh
   exact ⟨es',h1,e.trans h2.symm⟩
  ·obtain ⟨h1,h2,_⟩:=hx.mapf _ _ hh
   exact ⟨es,.inr h1,e.trans h2.symm⟩
 | .mi id,_,hv=>by
  simp only [VRel] at hv ⊢
  obtain ⟨m,c,l,hh,e⟩:=hv
  obtain ⟨c',l',h1,h2⟩:=hx.mit _ _ _ _ hh
  exact ⟨m,c',l',h1,e.trans h2.symm⟩
 | .dc sz es,_,hv=>by
  simp only [VRel] at hv ⊢
  obtain ⟨a,e,hv⟩:=hv
  exact ⟨a,e,hv.imp id fun ⟨b,off,ea,h⟩=>⟨b,off,ea,DRows_mono hx.keeps hx.seals es h⟩⟩
 | .it id,_,hv=>by
  simp only [VRel] at hv ⊢
  obtain ⟨l,p,hh,e⟩:=hv
  obtain ⟨l',p',h1,h2⟩:=hx.sit _ _ _ hh
  exact ⟨l',p',h1,e.trans h2.symm⟩
 | .fn f first caps,_,hv=>by
  simp only [VRel] at hv ⊢
  obtain ⟨fv,cv,e,h1,h2⟩:=hv
  exact ⟨fv,cv,e,VRels_mono first h1,VRels_mono caps h2⟩
 | .agg xs,_,hv=>by
  simp only [VRel] at hv ⊢
  obtain ⟨vs,e,h1,h2⟩:=hv
  exact ⟨vs,e,VRels_mono xs h1,h2⟩
 | .tup xs,_,hv=>by
  simp only [VRel] at hv ⊢
  obtain ⟨vs,e,h1⟩:=hv
  exact ⟨vs,e,VRels_mono xs h1⟩
 | .undef,_,_=>by simp [VRel]
 | .gone,_,hv=>by simpa [VRel] using hv
 | .anyn neg es,_,hv=>by simpa only [VRel] using hv
 | .gp g off,_,hv=>by simpa only [VRel] using hv
 | .nilp,_,hv=>by simpa only [VRel] using hv
 | .tp id off,_,hv=>by
  simp only [VRel] at hv ⊢
  obtain ⟨b,t,cs,hh,e,e2⟩:=hv
  obtain ⟨cs',h1,h2⟩:=hx.tbox _ _ _ hh
  exact ⟨b,t,cs',h1,h2.trans e,e2⟩
 | .bs id n,_,hv=>by
  simp only [VRel] at hv ⊢
  obtain ⟨t,bs,hh,hn,hv⟩:=hv
  obtain ⟨bs',hh',hle,hval⟩:=hx.brow _ _ _ hh
  exact ⟨t,bs',hh',by omega,fun e=>(hv (by omega)).trans (hval (by omega)).symm⟩
 | .bp id n,_,hv=>by
  simp only [VRel] at hv ⊢
  obtain ⟨t,bs,hh,hn,hv⟩:=hv
  obtain ⟨bs',hh',hle,hval⟩:=hx.brow _ _ _ hh
  refine ⟨t,bs',hh',by omega,fun e=>?_⟩
  obtain ⟨b,cap,h1,h2⟩:=hv (by omega)
  exact ⟨b,cap,(hval (by omega)).trans h1,h2⟩
 | .rv id n i j,_,hv=>by
  simp only [VRel] at hv ⊢
  obtain ⟨t,sz,es,fz,hh,hn,hv⟩:=hv
  obtain ⟨es',fz',hh',hle,hval⟩:=hx.row _ _ _ _ _ hh
  refine ⟨t,sz,es',fz',hh',by omega,fun e=>?_⟩
  obtain ⟨b,cap,h1,h2⟩:=hv (by omega)
  exact ⟨b,cap,(hval (by omega)).trans h1,h2⟩
 | .yld id,_,hv=>by
  simp only [VRel] at hv ⊢
  obtain ⟨b,s,p,n,sl,ps,xa,xb,ck,hh,hval,e⟩:=hv
  obtain ⟨s',p',h1,h2⟩:=hx.lp _ _ _ _ _ _ _ _ _ hh
  exact ⟨b,s',p',n,sl,ps,xa,xb,ck,h1,h2.trans hval,e⟩
 | .bw id n,_,hv=>by
  simp only [VRel] at hv ⊢
  obtain ⟨b,hb | hb,hval,e⟩:=hv
  ·obtain ⟨cs,hb⟩:=hb
   obtain ⟨h1,h2⟩:=hx.box _ _ hb
   exact ⟨b,h1,h2.trans hval,e⟩
  ·obtain ⟨cs,hb⟩:=hb
   obtain ⟨h1,h2⟩:=hx.cbox _ _ hb
   exact ⟨b,.inr ⟨_,h1⟩,h2.trans hval,e⟩
 | .bv id off n,_,hv=>by
  simp only [VRel] at hv ⊢
  obtain ⟨b,cap,hb | hb,hval,e⟩:=hv
  ·obtain ⟨cs,hb⟩:=hb
   obtain ⟨h1,h2⟩:=hx.box _ _ hb
   exact ⟨b,cap,h1,h2.trans hval,e⟩
  ·obtain ⟨cs,hb⟩:=hb
   obtain ⟨h1,h2⟩:=hx.cbox _ _ hb
   exact ⟨b,cap,.inr ⟨_,h1⟩,h2.trans hval,e⟩
theorem VRels_mono:∀ (xs:List AVal) {vs:List Value},VRels w G h xs vs→VRels w' G' h' xs vs
 | [],_,hv=>by simpa [VRels] using hv
 | x::xs,_,hv=>by
  simp only [VRels] at hv ⊢
  obtain ⟨v,r,e,h1,h2⟩:=hv
  exact ⟨v,r,e,VRel_mono x h1,VRels_mono xs h2⟩
end
end
end Vc
set_option linter.unusedVariables false
namespace Vc
open Go Go.RowKit
def dcells (cs:List Data):List AVal:=cs.map .d
def constOk:Value→AVal→Bool
 | .int k n,.d (.int k' n')=>k==k'&&n==n'
 | .bool b,.d (.bool b')=>b==b'
 | .string s,.d (.str l)=>s.data.toList==l
 | .slice none 0 0,.nils _=>true
 | .slice none 0 0,.d (.slice _ [])=>true
 | .func f first caps,.d (.fn f' [])=>f==f'&&first.isEmpty&&caps.isEmpty
 | .nilFunc,.undef=>true
 | .nilIface,.undef=>true
 | .map none,.undef=>true
 | .pointer none,.undef=>true
 | .pointer none,.nilp=>true
 | _,_=>false
def constsOk:List Value→List AVal→Bool
 | [],[]=>true
 | v::vs,x::xs=>constOk v x&&constsOk vs xs
 | _,_=>false
def chkOpd:Operand→Opd→Bool
 | .tmp t,.tmp t'=>Nat.beq t t'
 | .const v,.cst x=>constOk v x
 | .func f,.cst (.d (.fn (.func f') []))=>Nat.beq f f'
 | .global g,.cst (.gp g' 0)=>Nat.beq g g'
 | _,_=>false
def chkOpds:List Operand→List Opd→Bool
 | [],[]=>true
 | x::xs,y::ys=>chkOpd x y&&chkOpds xs ys
 | _,_=>false
def chkOpt:Option Operand→Option Opd→Bool
 | none,none=>true
 | some x,some y=>chkOpd x y
 | _,_=>false
def isAggT (P:Program) (t:TypeId):Bool :=
 match P.underlying t with
 | some (.struct _) | some (.array _ _)=>true
 | _=>false
def boolT (P:Program) (t:TypeId):Bool :=
 match P.underlying t with
 | some .bool=>true
 | _=>false
def zeroOk (P:Program) (t:TypeId) (cs:List AVal):Bool :=
 match P.info? t with
 | some i=>match i.zero with
  | some v=>constsOk v.cells.toList cs&&Nat.beq v.cells.size i.size
  | none=>false
 | none=>false
def sizeIs (P:Program) (t:TypeId) (n:Nat):Bool :=
 match P.info? t with
 | some i=>Nat.beq i.size n&&(P.underlying t).isSome
 | none=>false
def bytesIs (P:Program) (t:TypeId) (n:Nat):Bool :=
 match P.info? t with
 | some i=>Nat.beq i.bytes n
 | none=>false
def partOk (P:Program) (t:TypeId) (i off n:Nat):Bool :=
 match P.underlying t with
 | some (.struct fs)=>match fs[i]? with
  | some f=>Nat.beq f.offset off&&sizeIs P f.type n
  | none=>false
 | some (.array _ e)=>sizeIs P e n&&Nat.beq off (i * n)
 | _=>false
def chkParts (P:Program) (t:TypeId):List (Nat × Operand)→List (Nat × Nat × Opd)→Bool
 | [],[]=>true
 | (i,x)::xs,(off,n,y)::ys=>chkOpd x y&&partOk P t i off n&&chkParts P t xs ys
 | _,_=>false
def fieldsOk (P:Program) (t:TypeId):Bool :=
 match P.underlying t with
 | some (.struct fs)=>fs.toList.all fun f=>(P.info? f.type).isSome
 | some (.array _ e)=>(P.info? e).isSome
 | _=>false
def chkElems (n:Nat):List (Nat × Operand)→List (Nat × Opd)→Bool
 | [],[]=>true
 | (i,x)::xs,(j,y)::ys=>Nat.beq i j&&Nat.blt i n&&chkOpd x y&&chkElems n xs ys
 | _,_=>false
def zerosOk (P:Program) (e:TypeId) (sz:Nat):List Data→Bool
 | []=>true
 | d::ds=>zeroOk P e (dcells d.cells)&&Nat.beq d.cells.length sz&&(match isAggT P e,d.isAgg with | true,true=>true | false,false=>true | _,_=>false)&&zerosOk P e sz ds
def arithOk (op op':BinOp):Bool :=
 match op,op' with
 | .add,.add | .sub,.sub | .mul,.mul | .quo,.quo | .rem,.rem=>true
 | _,_=>false
def cmpOk (op op':BinOp):Bool :=
 match op,op' with
 | .eql,.eql | .neq,.neq | .lss,.lss | .leq,.leq | .gtr,.gtr | .geq,.geq=>true
 | _,_=>false
def negOk (op:BinOp) (neg:Bool):Bool :=
 match op,neg with
 | .eql,false | .neq,true=>true
 | _,_=>false
def sltOk (op op':BinOp):Bool :=
 match op,op' with
 | .lss,.lss | .leq,.leq | .gtr,.gtr | .geq,.geq=>true
 | _,_=>false
def fadOk (P:Program) (t i off:Nat):Bool :=
 match P.underlying t with
 | some (.struct fs)=>match fs[i]? with
  | some f=>Nat.beq f.offset off&&(match P.info? f.type with | some i=>!Nat.beq i.size 0 | none=>false)
  | none=>false
 | _=>false
def fldOk (P:Program) (t i:Nat) (ag:Bool) (off n:Nat):Bool :=
 match P.underlying t with
 | some (.struct fs)=>match fs[i]? with
  | some f=>Nat.beq f.offset off&&sizeIs P f.type n&&(isAggT P f.type==ag)
  | none=>false
 | _=>false
def isLen (c:Call) (p:TypeId→Bool) (b:Opd):Bool :=
 match c.callee,c.args.toList with
 | .builtin .len,[a]=>(match c.argTypes[0]? with
  | some t=>p t
  | none=>false)&&chkOpd a b
 | _,_=>false
def isTwo (c:Call) (bl:Builtin→Bool) (x y:Opd):Bool :=
 match c.callee,c.args.toList with
 | .builtin b,[a,b']=>bl b&&chkOpd a x&&chkOpd b' y
 | _,_=>false
def sliceT (P:Program) (t:TypeId):Bool :=
 match P.underlying t with
 | some (.slice _)=>true
 | _=>false
def stringT (P:Program) (t:TypeId):Bool :=
 match P.underlying t with
 | some .string=>true
 | _=>false
def zeroSize (P:Program) (e sz:Nat):Bool :=
 match P.info? e with
 | some i=>match i.zero with
  | some v=>Nat.beq v.cells.size sz
  | none=>false
 | none=>false
def appT (P:Program) (e sz bytes:Nat) (ts:List TypeId):Bool :=
 match ts with
 | [t,t']=>Nat.beq t t'&&(match P.underlying t with
  | some (.slice e')=>Nat.beq e' e&&sizeIs P e sz&&bytesIs P e bytes&&!Nat.beq sz 0&&zeroSize P e sz
  | _=>false)
 | _=>false
def basicT (P:Program) (t k:Nat):Bool :=
 match P.underlying t,k with
 | some (.int _),0=>true
 | some .bool,1=>true
 | some .string,2=>true
 | _,_=>false
def fieldsEq (P:Program):List Field→List Nat→Nat→Bool
 | [],[],_=>true
 | f::fs,k::ks,i=>!(f.name == "_")&&Nat.beq f.offset i&&basicT P f.type k&&fieldsEq P fs ks (i+1)
 | _,_,_=>false
def fieldsEq2 (P:Program):List Field→List Nat→Nat→Bool
 | [],[],_=>true
 | [],_::_,_=>false
 | f::fs,ks,i=>!(f.name == "_")&&Nat.beq f.offset i&&match P.underlying f.type with
  | some (.struct gs)=>Nat.ble gs.size ks.length&&fieldsEq P gs.toList (ks.take gs.size) 0&&!P.stoodInHeld f.type&&sizeIs P f.type gs.size&&isAggT P f.type&&fieldsEq2 P fs (ks.drop gs.size) (i+gs.size)
  | some (.array len e)=>Nat.ble len ks.length&&(ks.take len).all (basicT P e)&&sizeIs P e 1&&sizeIs P f.type len&&isAggT P f.type&&fieldsEq2 P fs (ks.drop len) (i+len)
  | _=>match ks with
   | k::ks=>basicT P f.type k&&fieldsEq2 P fs ks (i+1)
   | []=>false
def eqOk (P:Program) (t:Nat) (ks:List Nat):Bool :=
 !P.eqGuardType P.depth t&&match P.underlying t with
 | some (.struct fs)=>fieldsEq2 P fs.toList ks 0&&!P.stoodInHeld t
 | some (.array len e)=>Nat.beq ks.length len&&ks.all (basicT P e)&&sizeIs P e 1
 | _=>false
def isCopy (P:Program) (c:Call) (sz:Nat) (x y:Opd):Bool :=
 match c.callee,c.args.toList,c.argTypes[0]? with
 | .builtin .copy,[a,b],some t=>chkOpd a x&&chkOpd b y&&(match P.underlying t with
  | some (.slice e)=>sizeIs P e sz&&!Nat.beq sz 0
  | _=>false)
 | _,_,_=>false
def shfOk (op op':BinOp):Bool :=
 match op,op' with
 | .shl,.shl | .shr,.shr=>true
 | _,_=>false
def mapT (P:Program) (t:Nat):Bool :=
 match P.underlying t with
 | some (.map _ _)=>true
 | _=>false
def zform (P:Program) (t:Nat) (d:Data):Bool :=
 match P.info? t with
 | some i=>match i.zero with
  | some (.agg _)=>d.isAgg
  | some _=>!d.isAgg
  | none=>false
 | none=>false
def keyST (P:Program) (kt:Nat) (ks:List Nat):Bool :=
 match P.underlying kt with
 | some (.struct fs)=>fieldsEq P fs.toList ks 0&&!P.stoodInHeld kt
 | _=>false
def lkpsOk (P:Program) (t:Nat) (ks:List Nat) (zero:Data):Bool :=
 match P.underlying t with
 | some (.map kt et)=>keyST P kt ks&&(zeroOk P et (dcells zero.cells)&&zform P et zero)
 | _=>false
def mpusOk (P:Program) (t:Nat) (ks:List Nat):Bool :=
 match P.underlying t with
 | some (.map kt _)=>keyST P kt ks
 | _=>false
def isNilC:Operand→Bool
 | .const (.slice none 0 0)=>true
 | _=>false
def arr1 (P:Program) (t len:Nat):Bool :=
 match P.underlying t with
 | some (.array l e)=>Nat.beq l len&&sizeIs P e 1
 | _=>false
def byteSliceT (P:Program) (t:Nat):Bool :=
 match P.underlying t with
 | some (.slice e)=>match P.underlying e with
  | some (.int .u8)=>true
  | _=>false
 | _=>false
def chkCall (P:Program) (c:Call) (x:AOp):Bool :=
 match x with
 | .len b=>isLen c (sliceT P) b
 | .app _ e sz bytes a b=>isTwo c (fun b=>match b with | .append=>true | _=>false) a b&&appT P e sz bytes c.argTypes.toList
 | .mini a b=>isTwo c (fun b=>match b with | .min=>true | _=>false) a b
 | .maxi a b=>isTwo c (fun b=>match b with | .max=>true | _=>false) a b
 | .call g args=>match c.callee with
  | .value f=>chkOpd f (.cst (.d (.fn (.func g) [])))&&chkOpds c.args.toList args
  | _=>false
 | .callv g args=>match c.callee with
  | .value f=>chkOpd f g&&chkOpds c.args.toList args
  | _=>false
 | .calli g args=>match c.callee with
  | .value f=>chkOpd f (.cst (.d (.fn (.func g) [])))&&chkOpds c.args.toList args
  | _=>false
 | .calln _ _ _ g args=>match c.callee with
  | .value f=>chkOpd f (.cst (.d (.fn (.func g) [])))&&chkOpds c.args.toList args
  | _=>false
 | .callvi g args=>match c.callee with
  | .value f=>chkOpd f g&&chkOpds c.args.toList args
  | _=>false
 | .copy sz a b=>isCopy P c sz a b
 | _=>false
def one0:List (Nat × Opd)→Bool
 | [(0,_)]=>true
 | _=>false
def zeroSz (P:Program) (e:TypeId) (sz:Nat):Bool:=match P.info? e with
 | some i=>match i.zero with
  | some z=>Nat.beq z.cells.size sz
  | none=>false
 | none=>false
def chkOp (P:Program) (o:Op) (x:AOp):Bool :=
 match o,x with
 | .move a,.mov b=>chkOpd a b
 | .assign a,.mov b=>chkOpd a b
 | .pick c a b,.pick c' a' b'=>chkOpd c c'&&chkOpd a a'&&chkOpd b b'
 | .alloc t,.alloc _ cs=>zeroOk P t cs
 | .box t a,.box _ n b=>sizeIs P t n&&chkOpd a b
 | .load t a,.ld ag n b=>sizeIs P t n&&(isAggT P t==ag)&&chkOpd a b
 | .store t a v,.st n b u=>sizeIs P t n&&chkOpd a b&&chkOpd v u
 | .binOp op t a b _,.arith op' k a' b'=>arithOk op op'&&(match P.underlying t with | some (.int k')=>k==k' | _=>false)&&chkOpd a a'&&chkOpd b b'
 | .binOp op t a b _,.cmp op' a' b'=>cmpOk op op'&&(match P.underlying t with | some (.int _)=>true | _=>false)&&chkOpd a a'&&chkOpd b b'
 | .binOp op t a b _,.beq neg a' b'=>negOk op neg&&boolT P t&&chkOpd a a'&&chkOpd b b'
 | .binOp op _ a b _,.seq neg a' b'=>negOk op neg&&chkOpd a a'&&chkOpd b b'
 | .binOp .add t a b _,.cat a' b'=>(match P.underlying t with | some .string=>true | _=>false)&&chkOpd a a'&&chkOpd b b'
 | .unOp .not _ a,.not b=>chkOpd a b
 | .convert s t a,.conv k b=>(match P.underlying s with | some (.int _)=>true | _=>false)&&(match P.underlying t with | some (.int k')=>k==k' | _=>false)&&chkOpd a b
 | .fieldAddr t a i,.fad off b=>fadOk P t i off&&chkOpd a b
 | .field t a i,.fld ag off n b=>fldOk P t i ag off n&&chkOpd a b
 | .indexAddr t a i, .ixa sz b j => (match P.underlying t with
   | some (.slice e)=>sizeIs P e sz
   | _=>false)&&chkOpd a b&&chkOpd i j
 | .indexAddr t a i, .ixp len sz b j => (match P.underlying t with
   | some (.array l e)=>Nat.beq l len&&sizeIs P e sz
   | _=>false)&&chkOpd a b&&chkOpd i j
 | .index t a i, .ixs b j => (match P.underlying t with
   | some .string=>true
   | _=>false)&&chkOpd a b&&chkOpd i j
 | .build t ps,.build zero qs=>zeroOk P t zero&&isAggT P t&&fieldsOk P t&&chkParts P t ps.toList qs
 | .buildSlice t len ps, .bsl _ e sz n zero qs => (match P.underlying t with
   | some (.slice e')=>Nat.beq e' e&&sizeIs P e sz&&!Nat.beq sz 0
   | _=>false)&&Nat.beq len n&&Nat.beq zero.length n&&Nat.ble (n * sz) 16777216&&(zerosOk P e sz zero||(Nat.beq n 1&&one0 qs&&zeroSz P e sz))&&chkElems n ps.toList qs
 | .makeSlice t a b, .msl _ e sz bytes zero n => (match P.underlying t with
   | some (.slice e')=>Nat.beq e' e&&sizeIs P e sz&&bytesIs P e bytes&&!Nat.beq sz 0
   | _=>false)&&zerosOk P e sz [zero]&&chkOpd a n&&chkOpd b n
 | .call c,x=>chkCall P c x
 | .makeFunc f first caps,.mkf f' first' caps'=>f==f'&&chkOpds first.toList first'&&chkOpds caps.toList caps'
 | .makeFunc f first caps,.mkr f' first' caps'=>f==f'&&chkOpds first.toList first'&&chkOpds caps.toList caps'
 | .extract a i,.ext j b=>Nat.beq i j&&chkOpd a b
 | .slice t a lo hi none, .slcs b lo' hi' => (match P.underlying t with
   | some .string=>true
   | _=>false)&&chkOpd a b&&chkOpt lo lo'&&chkOpt hi hi'
 | .binOp op t a b _,.aeq neg ks a' b'=>negOk op neg&&eqOk P t ks&&chkOpd a a'&&chkOpd b b'
 | .binOp op t a b t',.shf op' k a' b'=>shfOk op op'&&(match P.underlying t with | some (.int k')=>k==k' | _=>false)&&(match P.underlying t' with | some (.int _)=>true | _=>false)&&chkOpd a a'&&chkOpd b b'
 | .unOp .neg t a,.neg k b=>(match P.underlying t with | some (.int k')=>k==k' | _=>false)&&chkOpd a b
 | .binOp op t a b _,.isnil neg a'=>negOk op neg&&sliceT P t&&chkOpd a a'&&isNilC b
 | .box t a,.cbx _ n b=>sizeIs P t n&&chkOpd a b
 | .slice t a lo hi none,.sla len b lo' hi'=>arr1 P t len&&chkOpd a b&&chkOpt lo lo'&&chkOpt hi hi'
 | .slice t a lo hi none,.slv len b lo' hi'=>arr1 P t len&&chkOpd a b&&chkOpt lo lo'&&chkOpt hi hi'
 | .makeMap _ none,.mkm _=>true
 | .lookup t a k comma,.lkps ks zero comma' b k'=>lkpsOk P t ks zero&&(comma==comma')&&chkOpd a b&&chkOpd k k'
 | .mapUpdate t a k v,.mpus ks b k' v'=>mpusOk P t ks&&chkOpd a b&&chkOpd k k'&&chkOpd v v'
 | .range t a,.rngm _ b=>mapT P t&&chkOpd a b
 | .next a false,.nxm b=>chkOpd a b
 | .entry a,.ent b=>chkOpd a b
 | .range t a,.rng _ b=>stringT P t&&chkOpd a b
 | .convert s t a,.b2s b=>byteSliceT P s&&stringT P t&&chkOpd a b
 | _,_=>false
def dstOk (n:Nat):Option Nat→Bool
 | none=>true
 | some d=>Nat.blt d n
def chkOper (P:Program) (n:Nat) (ops:Array Oper) (o:Oper) (x:AOper):Bool :=
 chkOp P o.op x.op&&(o.dst==x.dst)&&dstOk n o.dst&&(match o.guard,x.guard with
  | none,none=>true
  | some (j,b),some (g,b')=>(b==b')&&(match ops[j]? with | some oj=>oj.dst==some g | none=>false)&&Nat.blt g n
  | _,_=>false)
def chkOpers (P:Program) (n:Nat) (ops:Array Oper):List Oper→List AOper→Bool
 | [],[]=>true
 | o::os,x::xs=>chkOper P n ops o x&&chkOpers P n ops os xs
 | _,_=>false
def tmpsOf:List Opd→List Nat
 | []=>[]
 | .tmp t::r=>t::tmpsOf r
 | .cst _::r=>tmpsOf r
def optL (x:Option Opd):List Opd :=
 match x with
 | none=>[]
 | some y=>[y]
def AOp.opds:AOp→List Opd
 | .mov x | .box _ _ x | .ld _ _ x | .not x | .conv _ x | .fad _ x | .fld _ _ _ x | .msl _ _ _ _ _ x | .len x | .lens x | .ext _ x | .nck x=>[x]
 | .pick c a b=>[c,a,b]
 | .alloc _ _ | .mkm _ | .alt _ _ _ | .mk0 _ _ _ _ _=>[]
 | .lkp _ _ _ x y | .lkps _ _ _ x y=>[x,y]
 | .mpus _ x y z | .sln _ x y z=>[x,y,z]
 | .rngm _ x | .nxm x | .ent x=>[x]
 | .mpu _ x y z=>[x,y,z]
 | .lenm x=>[x]
 | .st _ x y | .arith _ _ x y | .cmp _ x y | .beq _ x y | .seq _ x y | .slt _ x y | .cat x y | .ixa _ x y | .ixp _ _ x y | .ixv _ _ _ x y | .ixs x y | .app _ _ _ _ x y | .mini x y | .maxi x y=>[x,y]
 | .build _ ps=>ps.map fun p=>p.2.2
 | .bsl _ _ _ _ _ ps=>ps.map fun p=>p.2
 | .mkf _ f c | .mkr _ f c=>f++c
 | .neg _ x | .isnil _ x | .b2s x | .cbx _ _ x | .rng _ x | .nxt x | .i2s x=>[x]
 | .aeq _ _ x y | .bit _ _ x y | .shf _ _ x y | .copy _ x y | .copyw _ x y | .appw _ x y | .appz _ _ _ _ _ x y=>[x,y]
 | .lenw x | .clrw _ _ x | .mkb _ _ _ _ _ x | .s2a _ x | .usd x=>[x]
 | .aps _ _ x y | .ust _ x y=>[x,y]
 | .slm _ x lo hi mx=>[x,lo,hi,mx]
 | .call _ args | .calli _ args | .callx _ _ args | .calln _ _ _ _ args=>args
 | .callv x args | .callvi x args=>x::args
 | .slc _ x lo hi | .slw _ x lo hi | .slcs x lo hi | .sla _ x lo hi | .slv _ x lo hi=>x::(optL lo++optL hi)
def AOper.reads (o:AOper):List Nat :=
 tmpsOf o.op.opds++(match o.guard with | some (g,_)=>[g] | none=>[])
def hasN (l:List Nat) (x:Nat):Bool:=l.any (Nat.beq x)
def apartA (x y:AOper):Bool :=
 match x.dst with
 | none=>true
 | some d=>!hasN y.reads d&&(match y.dst with | some e=>!Nat.beq e d | none=>true)
def befT:List Oper→List Nat→List Nat
 | [],acc=>acc
 | o::r,acc=>befT r (acc++[o.after.toList.foldl (fun s e=>if Region.binds .any e then s ||| 2 ^ e.on ||| acc.getD e.on 0 else s) 0])
def chkUn (ops:Array Oper) (xs:List AOper) (un:List (Nat × Nat)):Bool :=
 let b:=befT ops.toList []
 (List.range ops.size).all fun j=>(List.range j).all fun i =>
  (b.getD j 0).testBit i||(un.any (fun p=>Nat.beq p.1 i&&Nat.beq p.2 j) &&
   (match xs[i]?,xs[j]? with
    | some x,some y=>apartA x y&&apartA y x
    | _,_=>false))
def edgesBack (ops:Array Oper):Bool :=
 (List.range ops.size).all fun j=>match ops[j]? with
  | some o=>o.after.all fun e=>!Region.binds .any e||Nat.blt e.on j
  | none=>true
def chk (P:Program) (n:Nat):Code→ACode→Bool
 | c,.keep _ _ x=>chk P n c x
 | c,.post _ _ x=>chk P n c x
 | c,.asrow _ _ sz _ x=>!Nat.beq sz 0&&chk P n c x
 | c,.asdat _ x=>chk P n c x
 | c,.pick _ x=>chk P n c x
 | c,.mvr _ _ _ x=>chk P n c x
 | _,.dead=>true
 | .skip,.skip=>true
 | .label _,.skip=>true
 | .region _ ops false,.reg _ xs=>chkOpers P n ops ops.toList xs
 | .region _ ops true,.regd _ xs un=>chkOpers P n ops ops.toList xs&&chkUn ops xs un&&edgesBack ops&&P.follows .mixedOrders
 | .seq a b,.seq x y=>chk P n a x&&chk P n b y
 | .cond c a b,.cond d x y=>chkOpd c d&&chk P n a x&&chk P n b y
 | .block i c,.block j x=>Nat.beq i j&&chk P n c x
 | .scope c,.scope x=>chk P n c x
 | .loop c,.loop x=>chk P n c x
 | .exit i,.exit j=>Nat.beq i j
 | .ret,.ret=>true
 | .rangeFunc g ps ca cb,.rfor _ f ps' xa xb=>chkOpd g f&&(ps.toList==ps')&&ps'.all (fun p=>Nat.blt p n)&&chk P n ca xa&&chk P n cb xb
 | _,_=>false
def ckP (P:Program) (n:Nat) (xa xb:ACode):Code→Code→Bool:=fun ca cb=>chk P n ca xa&&chk P n cb xb
end Vc
namespace Vc
open Go Go.RowKit
def getL:List (Nat × AVal)→Nat→AVal
 | [],_=>.undef
 | (j,u)::r,i=>bif Nat.beq i j then u else getL r i
def dropL:List (Nat × AVal)→Nat→List (Nat × AVal)
 | [],_=>[]
 | (j,u)::r,i=>bif Nat.beq i j then dropL r i else (j,u)::dropL r i
def setL:List (Nat × AVal)→Nat→AVal→List (Nat × AVal)
 | [],i,v=>[(i,v)]
 | (j,u)::r,i,v=>bif Nat.blt i j then (i,v)::(j,u)::dropL r i else bif Nat.beq i j then (i,v)::dropL r i else (j,u)::setL r i v
theorem getL_dropL (l:List (Nat × AVal)) (i j:Nat) (h:j≠i):getL (dropL l i) j=getL l j:=by
 induction l with
 | nil=>rfl
 | cons x r ih =>
  obtain ⟨k,y⟩:=x
  simp only [dropL]
  cases hb:Nat.beq i k with
  | true =>
   have:=Nat.eq_of_beq_eq_true hb
   subst this
   have hj:Nat.beq j i=false:=by
    cases hj:Nat.beq j i
    ·rfl
    ·exact absurd (Nat.eq_of_beq_eq_true hj) h
   simp only [cond_true,getL,hj,cond_false,ih]
  | false =>
   simp only [cond_false,getL,ih]
theorem getL_setL (l:List (Nat × AVal)) (i j:Nat) (v:AVal):getL (setL l i v) j=if j=i then v else getL l j:=by
 have bq:∀ {a b:Nat},a≠b→Nat.beq a b=false:=by
  intro a b h
  cases hj:Nat.beq a b
  ·rfl
  ·exact absurd (Nat.eq_of_beq_eq_true hj) h
 induction l with
 | nil =>
  simp only [setL,getL]
  by_cases e:j=i
  ·subst e; simp [Nat.beq_refl]
  ·simp [bq e,e]
 | cons x r ih =>
  obtain ⟨k,y⟩:=x
  simp only [setL]
  cases hb:Nat.blt i k with
  | true =>
   simp only [cond_true,getL]
   by_cases e:j=i
   ·subst e; simp [Nat.beq_refl]
   ·simp only [bq e,cond_false,if_neg e]
    cases hc:Nat.beq j k
    ·simp [getL_dropL r i j e]
    ·simp
  | false =>
   simp only [cond_false]
   cases hc:Nat.beq i k with
   | true =>
    have:=Nat.eq_of_beq_eq_true hc
    subst this
    simp only [cond_true,getL]
    by_cases e:j=i
    ·subst e; simp [Nat.beq_refl]
    ·simp only [bq e,cond_false,if_neg e,getL_dropL r i j e]
   | false =>
    simp only [cond_false,getL,ih]
    by_cases e:j=i
    ·subst e; simp [hc]
    ·simp [e]
def blockOf:Value→Option Nat
 | .pointer (some a)=>some a.block
 | .slice (some a) _ _=>some a.block
 | .map (some r)=>some r
 | _=>none
def DXs (w:World) (S:Nat→Nat→Prop):List Data→Nat→List Value→Prop
 | [],_,xs=>xs=[]
 | d::ds,sz,xs=>∃ x r,xs=x++r∧x.length=sz∧DRels w S d.cells x∧DXs w S ds sz r
def MRel (w:World) (S:Nat→Nat→Prop):List (Data × Data)→List MapEntry→Prop
 | [],ms=>ms=[]
 | (k,v)::es,ms=>∃ m r,ms=m::r∧DRel w S k m.key∧DRel w S v m.val∧MRel w S es r
def Born (mes:Array MapEntry) (clock:Nat):Prop:=(∀ x∈mes.toList,x.born < clock)∧(mes.toList.map (·.born)).Nodup
def ItRel (w:World) (S:Nat→Nat→Prop) (mes:Array MapEntry) (seen:Array Nat) (left:List (Data × Data)):MCur→Prop
 | .start=>∃ ms:List MapEntry,ms.Perm (leftOf mes seen).toList∧MRel w S left ms
 | .pend=>∃ (e:MapEntry) (s:Array Nat) (ms:List MapEntry),seen=s.push e.born∧e∈(leftOf mes s).toList∧ms.Perm (leftOf mes s).toList∧MRel w S left ms
 | .here k v=>∃ (e:MapEntry) (s:Array Nat) (ms:List MapEntry),seen=s.push e.born∧e∈mes.toList∧DRel w S k e.key∧DRel w S v e.val∧ms.Perm (leftOf mes seen).toList∧MRel w S left ms
def AJump.code:AJump→Code
 | .ret=>.ret
 | .exit id=>.exit id
def ORel (w:World) (G:Gh) (h:List AObj) (base:Nat) (id:Nat):AObj→Prop
 | .none=>True
 | .box cs=>∃ b arr t,G.val id=.pointer (some ⟨b,0,none⟩)∧base≤b∧w.heap[b]?=some (.cells arr t (0,0))∧VRels w G h cs arr.toList∧∀ u∈arr.toList,u.oneCell'=true
 | .cbox ds=>∃ b arr t,G.val id=.pointer (some ⟨b,0,none⟩)∧base≤b∧w.heap[b]?=some (.cells arr t (0,0))∧DCs w G.S ds b 0
 | .row t sz es _=>0 < sz∧∃ xs,w.ownsRow base t sz (G.val id) es.length xs∧DXs w G.S es sz xs
 | .mapo es=>∃ b mes clock,G.val id=.map (some b)∧base≤b∧w.heap[b]?=some (.map mes clock)∧MRel w G.S es mes.toList∧Born mes clock
 | .mapf es=>∃ b mes clock,G.val id=.map (some b)∧base≤b∧w.heap[b]?=some (.map mes clock)∧MRel w G.S es mes.toList∧Born mes clock
 | .mit m cur left=>∃ b bm mes clock seen es,G.val id=.pointer (some ⟨b,0,none⟩)∧base≤b∧w.heap[b]?=some (.mapIter (some bm) clock seen clock)∧h[m]?=some (.mapf es)∧G.val m=.map (some bm)∧w.heap[bm]?=some (.map mes clock)∧Born mes clock∧ItRel w G.S mes seen left cur
 | .sit l pos=>∃ b,G.val id=.pointer (some ⟨b,0,none⟩)∧base≤b∧w.heap[b]?=some (.stringIter ⟨l.toArray⟩ pos)
 | .tbox t cs=>∃ b arr,G.val id=.pointer (some ⟨b,0,none⟩)∧base≤b∧w.heap[b]?=some (.cells arr t (0,0))∧VRels w G h cs arr.toList∧∀ u∈arr.toList,u.oneCell'=true
 | .brow t bs=>w.ownsRowF base t 1 (G.val id) bs.length (Go.Lib.byteCells bs)
 | .lp st pend n sl ps _ _ ck => ∃ b fn arr ca cb df, G.val id = .pointer (some ⟨b, 0, none⟩) ∧ base ≤ b ∧ w.heap[b]? = some (.loop { state := st, pending := pend.map AJump.code, fn := fn, tmps := arr, params := ps.toArray, assign := ca, body := cb, defers := df }) ∧
   arr.size=n∧(∀ i,VRel w G h (getL sl i) (arr.getD i undef))∧ck ca cb=true
def owns:AObj→Nat→Prop
 | .none,_=>False
 | .box _,_=>True
 | .cbox _,_=>False
 | .row _ sz es fz,o=>fz=true→es.length * sz≤o
 | .mapo _,_=>True
 | .mapf _,_=>True
 | .mit _ _ _,_=>True
 | .sit _ _,_=>True
 | .tbox _ _,_=>True
 | .brow _ _,_=>True
 | .lp ..,_=>True
structure W0 where
 w:World
 S:Nat→Nat→Prop
 gl:List (Nat × List Data)
 w1:World
 G1:Gh
 h1:List AObj
 D:Nat→Prop
 ckf:Nat→ACode→ACode→Code→Code→Bool
def mark (b:Nat):Deferred:={ target:=.collected b,args:=#[] }
structure Rel (n base:Nat) (w0:W0) (G:Gh) (st:St) (a:Act) (w:World):Prop where
 size:a.tmps.size=n
 defers:a.defers.Nodup∧∀ d∈a.defers,∃ b,d=mark b∧base≤b∧¬ w0.D b
 slots:∀ i,VRel w G st.heap (getL st.slots i) (a.tmps.getD i undef)
 objs:∀ id o,st.heap[id]?=some o→ORel w G st.heap base id o
 free:∀ id o b off,st.heap[id]?=some o→blockOf (G.val id)=some b→owns o off→¬ G.S b off
 apart:∀ i j oi oj b,i≠j→st.heap[i]?=some oi→st.heap[j]?=some oj→oi≠.none→oj≠.none→blockOf (G.val i)=some b→blockOf (G.val j)≠some b
 lim:∀ b o,G.S b o→b < w.heap.size
 below:Below base w0.w w
 sub:∀ b o,w0.S b o→G.S b o
 sup:∀ b o,G.S b o→w0.S b o∨base≤b
 old:base≤w.heap.size
 dead:∀ b,(w0.D b∨mark b∈a.defers)→w.heap[b]?=some (.deferred (some []))
 ext:Ext w0.w1 w0.G1 w0.h1 w G st.heap
 glob:∀ p∈w0.gl,DCs w G.S p.2 p.1 0
 lps:∀ (id:Nat) s pd m sl ps xa xb ck,st.heap[id]?=some (AObj.lp s pd m sl ps xa xb ck)→ck=w0.ckf m xa xb
section
variable {n base : Nat} {w0 : W0} {w w' : World} {G G' : Gh} {st : St} {a : Act}
theorem DXs_mono {S S':Nat→Nat→Prop} (hk:Keeps S w w') (hS:∀ b o,S b o→S' b o):∀ (ds:List Data) {sz:Nat} {xs:List Value},DXs w S ds sz xs→DXs w' S' ds sz xs
 | [],_,_,h=>by simpa [DXs] using h
 | d::ds,_,_,h=>by
  simp only [DXs] at h ⊢
  obtain ⟨x,r,e,hl,hd,hr⟩:=h
  exact ⟨x,r,e,hl,DRels_mono hk hS _ hd,DXs_mono hk hS ds hr⟩
theorem MRel_mono {S S':Nat→Nat→Prop} (hk:Keeps S w w') (hS:∀ b o,S b o→S' b o):∀ (es:List (Data × Data)) {ms:List MapEntry},MRel w S es ms→MRel w' S' es ms
 | [],_,h=>by simpa [MRel] using h
 | (k,v)::es,_,h=>by
  simp only [MRel] at h ⊢
  obtain ⟨m,r,e,h1,h2,h3⟩:=h
  exact ⟨m,r,e,DRel_mono hk hS k h1,DRel_mono hk hS v h2,MRel_mono hk hS es h3⟩
theorem ItRel_mono {S S':Nat→Nat→Prop} (hk:Keeps S w w') (hS:∀ b o,S b o→S' b o) {mes:Array MapEntry} {seen:Array Nat} {left:List (Data × Data)}:∀ (c:MCur),ItRel w S mes seen left c→ItRel w' S' mes seen left c
 | .start,⟨ms,h1,h2⟩=>⟨ms,h1,MRel_mono hk hS _ h2⟩
 | .pend,⟨e,s,ms,h1,h2,h3,h4⟩=>⟨e,s,ms,h1,h2,h3,MRel_mono hk hS _ h4⟩
 | .here k v,⟨e,s,ms,h1,h2,h3,h4,h5,h6⟩=>⟨e,s,ms,h1,h2,DRel_mono hk hS k h3,DRel_mono hk hS v h4,h5,MRel_mono hk hS _ h6⟩
theorem Rel.get (hr:Rel n base w0 G st a w) (i:Nat):VRel w G st.heap (getL st.slots i) (a.tmps.getD i undef):=hr.slots i
theorem Rel.look (hr:Rel n base w0 G st a w) {l:List (Nat × AVal)} (hl:∀ i,getL l i=getL st.slots i):Rel n base w0 G { st with slots:=l } a w :=
 { hr with slots:=fun i=>by rw [hl]; exact hr.slots i }
theorem Rel.put (hr : Rel n base w0 G st a w) {d : Nat} {v : AVal} {x : Value} (hd : d < n) (hv : VRel w G st.heap v x) :
  Rel n base w0 G { st with slots:=setL st.slots d v } (a.put (some d) x) w where
 size:=by simp [Act.put,hr.size]
 defers:=hr.defers
 slots:=fun i=>by
  simp only [Act.put,getL_setL]
  by_cases e:i=d
  ·subst e
   rw [if_pos rfl]
   simpa [Array.getD_eq_getD_getElem?,hr.size,hd] using hv
  ·rw [if_neg e]
   have:=hr.slots i
   simpa [Array.getD_eq_getD_getElem?,Array.getElem?_setIfInBounds_ne (Ne.symm e)] using this
 objs:=hr.objs
 free:=hr.free
 apart:=hr.apart
 lim:=hr.lim
 below:=hr.below
 sub:=hr.sub
 sup:=hr.sup
 old:=hr.old
 dead:=hr.dead
 ext:=hr.ext
 glob:=hr.glob
 lps:=hr.lps
theorem Rel.drop (hr : Rel n base w0 G st a w) {l : List (Nat × AVal)} (hl : ∀ i, getL l i = .undef ∨ getL l i = getL st.slots i) :
  Rel n base w0 G { st with slots:=l } a w :=
 { hr with slots:=fun i=>(hl i).elim (fun h=>by rw [h]; simp [VRel]) (fun h=>by rw [h]; exact hr.slots i) }
end
section
variable {n base : Nat} {w0 : W0} {w w' : World} {G G' : Gh} {st : St} {a : Act} {h h' : List AObj}
theorem ownsRow_block {b sz k:Nat} {t:TypeId} {v:Value} {xs:List Value} (ho:w.ownsRow b t sz v k xs) (hb:∀ g,blockOf v=some g→w'.heap[g]?=w.heap[g]?):w'.ownsRow b t sz v k xs:=by
 refine ⟨ho.1,?_⟩
 rcases ho.2 with hn | ⟨g,cap,cur,rfl,h1,h2,h3⟩
 ·exact .inl hn
 ·exact .inr ⟨g,cap,cur,rfl,h1,(hb g rfl).trans h2,h3⟩
theorem ORel_mono (hx : Ext w G h w' G' h') {id : Nat} {o : AObj} (hval : G'.val id = G.val id) (hb : ∀ b, blockOf (G.val id) = some b → w'.heap[b]? = w.heap[b]?)
  (ho:ORel w G h base id o):ORel w' G' h' base id o:=by
 cases o with
 | none=>trivial
 | box cs =>
  obtain ⟨b,arr,t,h1,h2,h3,h4,h5⟩:=ho
  exact ⟨b,arr,t,hval.trans h1,h2,(hb b (by rw [h1]; rfl)).trans h3,VRels_mono hx cs h4,h5⟩
 | cbox ds =>
  obtain ⟨b,arr,t,h1,h2,h3,h4⟩:=ho
  exact ⟨b,arr,t,hval.trans h1,h2,(hb b (by rw [h1]; rfl)).trans h3,DCs_mono hx.keeps hx.seals ds h4⟩
 | row t sz es fz =>
  obtain ⟨h0,xs,h1,h2⟩:=ho
  refine ⟨h0,xs,?_,DXs_mono hx.keeps hx.seals es h2⟩
  rw [hval]
  exact ownsRow_block h1 hb
 | mapo es =>
  obtain ⟨b,mes,clock,h1,h2,h3,h4,h5⟩:=ho
  exact ⟨b,mes,clock,hval.trans h1,h2,(hb b (by rw [h1]; rfl)).trans h3,MRel_mono hx.keeps hx.seals es h4,h5⟩
 | mapf es =>
  obtain ⟨b,mes,clock,h1,h2,h3,h4,h5⟩:=ho
  exact ⟨b,mes,clock,hval.trans h1,h2,(hb b (by rw [h1]; rfl)).trans h3,MRel_mono hx.keeps hx.seals es h4,h5⟩
 | mit m cur left =>
  obtain ⟨b,bm,mes,clock,seen,es,h1,h2,h3,h4,h5,h6,h7,h8⟩:=ho
  obtain ⟨k1,k2,k3⟩:=hx.mapf m es h4
  exact ⟨b,bm,mes,clock,seen,es,hval.trans h1,h2,(hb b (by rw [h1]; rfl)).trans h3,k1,k2.trans h5,(k3 bm h5).trans h6,h7,ItRel_mono hx.keeps hx.seals cur h8⟩
 | sit l pos =>
  obtain ⟨b,h1,h2,h3⟩:=ho
  exact ⟨b,hval.trans h1,h2,(hb b (by rw [h1]; rfl)).trans h3⟩
 | brow t bs =>
  refine ⟨ho.1,?_⟩
  rw [hval]
  rcases ho.2 with hn | ⟨g,cap,cur,fz,e,h1,h2,h3⟩
  ·exact .inl hn
  ·exact .inr ⟨g,cap,cur,fz,e,h1,(hb g (by rw [e]; rfl)).trans h2,h3⟩
 | tbox t cs =>
  obtain ⟨b,arr,h1,h2,h3,h4,h5⟩:=ho
  exact ⟨b,arr,hval.trans h1,h2,(hb b (by rw [h1]; rfl)).trans h3,VRels_mono hx cs h4,h5⟩
 | lp st pend n sl ps xa xb ck =>
  obtain ⟨b,fn,arr,ca,cb,df,h1,h2,h3,h4,h5,h6⟩:=ho
  exact ⟨b,fn,arr,ca,cb,df,hval.trans h1,h2,(hb b (by rw [h1]; rfl)).trans h3,h4,fun i=>VRel_mono hx _ (h5 i),h6⟩
theorem ORel_lt {id:Nat} {o:AObj} (ho:ORel w G h base id o) (hl:o≠.none):∀ b,blockOf (G.val id)=some b→base≤b∧b < w.heap.size:=by
 intro b hb
 have lt:∀ {g:Nat} {x:Obj},w.heap[g]?=some x→g < w.heap.size:=fun hg=>(Array.getElem?_eq_some_iff.1 hg).1
 cases o with
 | none=>exact absurd rfl hl
 | box cs =>
  obtain ⟨b',arr,t,h1,h2,h3,h4⟩:=ho
  rw [h1] at hb; cases hb; exact ⟨h2,lt h3⟩
 | cbox ds =>
  obtain ⟨b',arr,t,h1,h2,h3,h4⟩:=ho
  rw [h1] at hb; cases hb; exact ⟨h2,lt h3⟩
 | row t sz es fz =>
  obtain ⟨h0,xs,h1,h2⟩:=ho
  rcases h1.2 with ⟨h4,_⟩ | ⟨g,cap,cur,h4,h5,h6,h7⟩
  ·rw [h4] at hb; cases hb
  ·rw [h4] at hb; cases hb; exact ⟨h5,lt h6⟩
 | mapo es =>
  obtain ⟨b',mes,clock,h1,h2,h3,_⟩:=ho
  rw [h1] at hb; cases hb; exact ⟨h2,lt h3⟩
 | mapf es =>
  obtain ⟨b',mes,clock,h1,h2,h3,_⟩:=ho
  rw [h1] at hb; cases hb; exact ⟨h2,lt h3⟩
 | mit m cur left =>
  obtain ⟨b',bm,mes,clock,seen,es,h1,h2,h3,_⟩:=ho
  rw [h1] at hb; cases hb; exact ⟨h2,lt h3⟩
 | sit l pos =>
  obtain ⟨b',h1,h2,h3⟩:=ho
  rw [h1] at hb; cases hb; exact ⟨h2,lt h3⟩
 | brow t bs =>
  rcases ho.2 with ⟨h4,_⟩ | ⟨g,cap,cur,fz,h4,h5,h6,h7⟩
  ·rw [h4] at hb; cases hb
  ·rw [h4] at hb; cases hb; exact ⟨h5,lt h6⟩
 | tbox t cs =>
  obtain ⟨b',arr,h1,h2,h3,_⟩:=ho
  rw [h1] at hb; cases hb; exact ⟨h2,lt h3⟩
 | lp st pend n sl ps xa xb ck =>
  obtain ⟨b',fn,arr,ca,cb,df,h1,h2,h3,_⟩:=ho
  rw [h1] at hb; cases hb; exact ⟨h2,lt h3⟩
theorem ORel_live {id:Nat} {o:AObj} (ho:ORel w G h base id o) (hl:o≠.none):∀ b,blockOf (G.val id)=some b→∀ ds,w.heap[b]?≠some (.deferred ds):=by
 intro b hb ds he
 cases o with
 | none=>exact absurd rfl hl
 | box cs =>
  obtain ⟨b',arr,t,h1,h2,h3,h4⟩:=ho
  rw [h1] at hb; cases hb; rw [he] at h3; cases h3
 | cbox ds =>
  obtain ⟨b',arr,t,h1,h2,h3,h4⟩:=ho
  rw [h1] at hb; cases hb; rw [he] at h3; cases h3
 | row t sz es fz =>
  obtain ⟨h0,xs,h1,h2⟩:=ho
  rcases h1.2 with ⟨h4,_⟩ | ⟨g,cap,cur,h4,h5,h6,h7⟩
  ·rw [h4] at hb; cases hb
  ·rw [h4] at hb; cases hb; rw [he] at h6; cases h6
 | mapo es =>
  obtain ⟨b',mes,clock,h1,h2,h3,_⟩:=ho
  rw [h1] at hb; cases hb; rw [he] at h3; cases h3
 | mapf es =>
  obtain ⟨b',mes,clock,h1,h2,h3,_⟩:=ho
  rw [h1] at hb; cases hb; rw [he] at h3; cases h3
 | mit m cur left =>
  obtain ⟨b',bm,mes,clock,seen,es,h1,h2,h3,_⟩:=ho
  rw [h1] at hb; cases hb; rw [he] at h3; cases h3
 | sit l pos =>
  obtain ⟨b',h1,h2,h3⟩:=ho
  rw [h1] at hb; cases hb; rw [he] at h3; cases h3
 | brow t bs =>
  rcases ho.2 with ⟨h4,_⟩ | ⟨g,cap,cur,fz,h4,h5,h6,h7⟩
  ·rw [h4] at hb; cases hb
  ·rw [h4] at hb; cases hb; rw [he] at h6; cases h6
 | tbox t cs =>
  obtain ⟨b',arr,h1,h2,h3,_⟩:=ho
  rw [h1] at hb; cases hb; rw [he] at h3; cases h3
 | lp st pend n sl ps xa xb ck =>
  obtain ⟨b',fn,arr,ca,cb,df,h1,h2,h3,_⟩:=ho
  rw [h1] at hb; cases hb; rw [he] at h3; cases h3
def KindOk (o o':AObj) (v v':Value):Prop :=
 match o,o' with
 | .none,_=>True
 | .row t sz es _,.row t' sz' es' _=>t'=t∧sz'=sz∧es.length≤es'.length∧(es'.length=es.length→v'=v)
 | .box _,.box _ | .box _,.cbox _=>v'=v
 | .sit _ _,.sit _ _=>v'=v
 | .mapo _,.mapo _ | .mapo _,.mapf _=>v'=v
 | .mit m _ _,.mit m' _ _=>m'=m∧v'=v
 | .tbox t _,.tbox t' _=>t'=t∧v'=v
 | .brow t bs,.brow t' bs'=>t'=t∧bs.length≤bs'.length∧(bs'.length=bs.length→v'=v)
 | .lp _ _ n sl ps xa xb ck,.lp _ _ n' sl' ps' xa' xb' ck'=>n'=n∧sl'=sl∧ps'=ps∧xa'=xa∧xb'=xb∧ck'=ck∧v'=v
 | _,_=>False
def upd (f:Nat→Value) (i:Nat) (v:Value):Nat→Value:=fun j=>if j=i then v else f j
theorem Rel.upd (hr : Rel n base w0 G st a w) {id : Nat} {o o' : AObj} {v' : Value} {S' : Nat → Nat → Prop} {row : Option Nat}
  (ho:st.heap[id]?=some o) (hrow:row=none∨(o≠.none∧row=blockOf (G.val id)))
  (hS:∀ b off,G.S b off→S' b off) (hSnew:∀ b off,S' b off→G.S b off∨blockOf v'=some b)
  (hw:w.grownBy w' row)
  (hkeep:∀ b off,G.S b off→row=some b→w'.cell? ⟨b,off,none⟩=w.cell? ⟨b,off,none⟩)
  (hv:∀ b,blockOf v'=some b→(o≠.none∧blockOf (G.val id)=some b)∨w.heap.size≤b)
  (hkind:KindOk o o' (G.val id) v')
  (hobj:Ext w G st.heap w' ⟨S',Vc.upd G.val id v'⟩ (st.heap.set id o')→ORel w' ⟨S',Vc.upd G.val id v'⟩ (st.heap.set id o') base id o')
  (hfree:∀ b off,blockOf v'=some b→owns o' off→¬ S' b off)
  (hlim:∀ b off,S' b off→b < w'.heap.size)
  (hlp:∀ s pd m sl ps xa xb ck,o'=AObj.lp s pd m sl ps xa xb ck→ck=w0.ckf m xa xb:=by intro _ _ _ _ _ _ _ _ h; cases h) :
  Ext w G st.heap w' ⟨S',Vc.upd G.val id v'⟩ (st.heap.set id o')∧Rel n base w0 ⟨S',Vc.upd G.val id v'⟩ { st with heap:=st.heap.set id o' } a w':=by
 have hlt:id < st.heap.length:=(List.getElem?_eq_some_iff.1 ho).1
 have hother:∀ j x,j≠id→((st.heap.set id o')[j]?=some x↔st.heap[j]?=some x):=fun j x hj=>by rw [List.getElem?_set_ne (Ne.symm hj)]
 have hsame:(st.heap.set id o')[id]?=some o':=by simp [hlt]
 have hvo:∀ j,j≠id→Vc.upd G.val id v' j=G.val j:=fun j hj=>by simp [Vc.upd,hj]
 have hvs:Vc.upd G.val id v' id=v':=by simp [Vc.upd]
 have hext:Ext w G st.heap w' ⟨S',Vc.upd G.val id v'⟩ (st.heap.set id o'):=by
  refine ⟨hS,?_,?_,?_,?_,?_,?_,?_,?_,?_,?_,?_⟩
  ·intro b off hs
   by_cases hb:row=some b
   ·exact hkeep b off hs hb
   ·exact World.cell?_of_block (w:=w) (hw.block b (hr.lim b off hs) (fun e=>hb e.symm))
  ·intro j t sz es fz hj
   by_cases e:j=id
   ·subst e
    rw [ho] at hj; cases hj
    cases o' <;> simp only [KindOk] at hkind
    obtain ⟨rfl,rfl,h1,h2⟩:=hkind
    exact ⟨_,_,hsame,h1,fun h=>hvs.trans (h2 h)⟩
   ·exact ⟨es,fz,(hother j _ e).2 hj,Nat.le_refl _,fun _=>hvo j e⟩
  ·intro j cs hj
   by_cases e:j=id
   ·subst e
    rw [ho] at hj; cases hj
    cases o' <;> simp only [KindOk] at hkind
    ·exact ⟨.inl ⟨_,hsame⟩,hvs.trans hkind⟩
    ·exact ⟨.inr ⟨_,hsame⟩,hvs.trans hkind⟩
   ·exact ⟨.inl ⟨cs,(hother j _ e).2 hj⟩,hvo j e⟩
  ·intro j ds hj
   by_cases e:j=id
   ·subst e
    rw [ho] at hj; cases hj
    cases o' <;> simp only [KindOk] at hkind
   ·exact ⟨(hother j _ e).2 hj,hvo j e⟩
  ·intro j es hj
   by_cases e:j=id
   ·subst e
    rw [ho] at hj; cases hj
    cases o' <;> simp only [KindOk] at hkind
    ·exact ⟨_,.inl hsame,hvs.trans hkind⟩
    ·exact ⟨_,.inr hsame,hvs.trans hkind⟩
   ·exact ⟨es,.inl ((hother j _ e).2 hj),hvo j e⟩
  ·intro j l p hj
   by_cases e:j=id
   ·subst e
    rw [ho] at hj; cases hj
    cases o' <;> simp only [KindOk] at hkind
    exact ⟨_,_,hsame,hvs.trans hkind⟩
   ·exact ⟨l,p,(hother j _ e).2 hj,hvo j e⟩
  ·intro j st pend n sl ps xa xb ck hj
   by_cases e:j=id
   ·subst e
    rw [ho] at hj; cases hj
    cases o' <;> simp only [KindOk] at hkind
    obtain ⟨rfl,rfl,rfl,rfl,rfl,rfl,hkind⟩:=hkind
    exact ⟨_,_,hsame,hvs.trans hkind⟩
   ·exact ⟨st,pend,(hother j _ e).2 hj,hvo j e⟩
  ·intro j t cs hj
   by_cases e:j=id
   ·subst e
    rw [ho] at hj; cases hj
    cases o' <;> simp only [KindOk] at hkind
    obtain ⟨rfl,hkind⟩:=hkind
    exact ⟨_,hsame,hvs.trans hkind⟩
   ·exact ⟨cs,(hother j _ e).2 hj,hvo j e⟩
  ·intro j t bs hj
   by_cases e:j=id
   ·subst e
    rw [ho] at hj; cases hj
    cases o' <;> simp only [KindOk] at hkind
    obtain ⟨rfl,h1,h2⟩:=hkind
    exact ⟨_,hsame,h1,fun h=>hvs.trans (h2 h)⟩
   ·exact ⟨bs,(hother j _ e).2 hj,Nat.le_refl _,fun _=>hvo j e⟩
  ·intro j es hj
   by_cases e:j=id
   ·subst e
    rw [ho] at hj; cases hj
    cases o' <;> simp only [KindOk] at hkind
   ·refine ⟨(hother j _ e).2 hj,hvo j e,fun b hb=>?_⟩
    have hb':blockOf (G.val j)=some b:=by rw [hb]; rfl
    obtain ⟨h1,h2⟩:=ORel_lt (hr.objs j _ hj) (by simp) b hb'
    refine hw.block b h2 (fun h3=>?_)
    rcases hrow with h4 | ⟨h4,h5⟩
    ·rw [h4] at h3; cases h3
    ·exact hr.apart j id _ o b e hj ho (by simp) h4 hb' (h5 ▸ h3.symm)
  ·intro j m c l hj
   by_cases e:j=id
   ·subst e
    rw [ho] at hj; cases hj
    cases o' <;> simp only [KindOk] at hkind
    obtain ⟨rfl,hkind⟩:=hkind
    exact ⟨_,_,hsame,hvs.trans hkind⟩
   ·exact ⟨c,l,(hother j _ e).2 hj,hvo j e⟩
 have hblk:∀ j x b,j≠id→st.heap[j]?=some x→x≠.none→blockOf (G.val j)=some b→base≤b∧b < w.heap.size∧row≠some b∧blockOf v'≠some b:=by
  intro j x b e hj hl hb
  obtain ⟨h1,h2⟩:=ORel_lt (hr.objs j x hj) hl b hb
  refine ⟨h1,h2,fun h3=>?_,fun h3=>?_⟩
  ·rcases hrow with h4 | ⟨h4,h5⟩
   ·rw [h4] at h3; cases h3
   ·exact hr.apart j id x o b e hj ho hl h4 hb (h5 ▸ h3)
  ·rcases hv b h3 with ⟨h4,h5⟩ | h4
   ·exact hr.apart j id x o b e hj ho hl h4 hb h5
   ·omega
 refine ⟨hext,?_⟩
 constructor
 ·exact hr.size
 ·exact hr.defers
 ·exact fun i=>VRel_mono hext _ (hr.slots i)
 ·intro j x hj
  by_cases e:j=id
  ·subst e
   rw [hsame] at hj; cases hj
   exact hobj hext
  ·have hj':=(hother j x e).1 hj
   by_cases hl:x=.none
   ·subst hl; trivial
   ·exact ORel_mono hext (hvo j e) (fun b hb=>let ⟨_,h2,h3,_⟩:=hblk j x b e hj' hl hb; hw.block b h2 (fun h4=>h3 h4.symm)) (hr.objs j x hj')
 ·intro j x b off hj hb hown hs
  by_cases e:j=id
  ·subst e
   rw [hsame] at hj; cases hj
   simp only [hvs] at hb
   exact hfree b off hb hown hs
  ·have hj':=(hother j x e).1 hj
   have hl:x≠.none:=fun h=>by subst h; exact hown
   simp only [hvo j e] at hb
   rcases hSnew b off hs with h1 | h1
   ·exact hr.free j x b off hj' hb hown h1
   ·exact (hblk j x b e hj' hl hb).2.2.2 h1
 ·intro i j oi oj b hij hi hj hli hlj hbi hbj
  by_cases ei:i=id
  ·subst ei
   have ej:j≠i:=Ne.symm hij
   simp only [hvs] at hbi
   simp only [hvo j ej] at hbj
   exact (hblk j oj b ej ((hother j _ ej).1 hj) hlj hbj).2.2.2 hbi
  ·by_cases ej:j=id
   ·subst ej
    simp only [hvs] at hbj
    simp only [hvo i ei] at hbi
    exact (hblk i oi b ei ((hother i _ ei).1 hi) hli hbi).2.2.2 hbj
   ·simp only [hvo i ei] at hbi
    simp only [hvo j ej] at hbj
    exact hr.apart i j oi oj b hij ((hother i _ ei).1 hi) ((hother j _ ej).1 hj) hli hlj hbi hbj
 ·exact hlim
 ·refine hr.below.grown hw hr.old fun k hk=>?_
  rcases hrow with h1 | ⟨h1,h2⟩
  ·rw [h1] at hk; cases hk
  ·exact (ORel_lt (hr.objs id o ho) h1 k (h2 ▸ hk)).1
 ·exact fun b o h=>hS b o (hr.sub b o h)
 ·intro b off h
  rcases hSnew b off h with h1 | h1
  ·exact hr.sup b off h1
  ·right
   rcases hv b h1 with ⟨h2,h3⟩ | h2
   ·exact (ORel_lt (hr.objs id o ho) h2 b h3).1
   ·exact Nat.le_trans hr.old h2
 ·exact Nat.le_trans hr.old hw.size
 ·intro b hd
  have h1:=hr.dead b hd
  rw [hw.block b (Array.getElem?_eq_some_iff.1 h1).1 (fun e=>?_)]
  ·exact h1
  ·rcases hrow with h2 | ⟨h2,h3⟩
   ·rw [h2] at e; cases e
   ·exact ORel_live (hr.objs id o ho) h2 b (h3 ▸ e.symm) _ h1
 ·exact hr.ext.trans hext
 ·exact fun p hp=>DCs_mono hext.keeps hext.seals _ (hr.glob p hp)
 ·intro j s pd m sl ps xa xb ck hj
  by_cases e:j=id
  ·subst e
   rw [hsame] at hj
   exact hlp s pd m sl ps xa xb ck (Option.some.inj hj)
  ·exact hr.lps j s pd m sl ps xa xb ck ((hother j _ e).1 hj)
theorem Rel.drew (hr:Rel n base w0 G st a w):Rel n base w0 G st a { w with drawn:=w.drawn+1 }:=by
 have hx:Ext w G st.heap { w with drawn:=w.drawn+1 } G st.heap:=by
  refine ⟨fun _ _ h=>h,fun _ _ _=>rfl,fun _ _ _ es fz h=>⟨es,fz,h,Nat.le_refl _,fun _=>rfl⟩,fun _ cs h=>⟨.inl ⟨cs,h⟩,rfl⟩,fun _ _ h=>⟨h,rfl⟩,fun _ es h=>⟨es,.inl h,rfl⟩,fun _ l p h=>⟨l,p,h,rfl⟩,fun _ s p _ _ _ _ _ _ h=>⟨s,p,h,rfl⟩,fun _ _ cs h=>⟨cs,h,rfl⟩,fun _ _ bs h=>⟨bs,h,Nat.le_refl _,fun _=>rfl⟩,fun _ _ h=>⟨h,rfl,fun _ _=>rfl⟩,fun _ _ c l h=>⟨c,l,h,rfl⟩⟩
 exact { size:=hr.size,defers:=hr.defers,slots:=fun i=>VRel_mono hx _ (hr.slots i),objs:=fun id o h=>ORel_mono hx rfl (fun _ _=>rfl) (hr.objs id o h),free:=hr.free,apart:=hr.apart,lim:=hr.lim,below:=hr.below.drew,sub:=hr.sub,sup:=hr.sup,old:=hr.old,dead:=hr.dead,ext:=hr.ext.trans hx,glob:=fun p hp=>DCs_mono hx.keeps hx.seals _ (hr.glob p hp),lps:=hr.lps }
end
end Vc
set_option linter.unusedVariables false
namespace Vc
open Go Go.RowKit
inductive Eff:Type where
 | ret (v:AVal) (ws:List (Nat × AObj))
 | rd (id:Nat) (k:AObj→Eff)
 | side (p:Prop) (k:Eff)
 | exD (k:Data→Eff)
 | exI (k:Int→Eff)
 | exL (k:List Data→Eff)
 | all (k:List AObj→Eff)
 | exA (k:AVal→List (Nat × AObj)→Eff)
 | fail
 | allx (ids:List Nat) (p:List AObj→AVal→List (Nat × AObj)→Prop)
def inN (ids:List Nat) (i:Nat):Bool:=ids.any (Nat.beq i)
def Agree (ids:List Nat) (h h':List AObj):Prop:=h'.length=h.length∧∀ i,inN ids i=false→h'[i]?=h[i]?
def offN (ids:List Nat):List Nat→List Nat
 | []=>[]
 | i::r=>match inN ids i with
  | true=>offN ids r
  | false=>i::offN ids r
theorem mem_offN {ids:List Nat} {i:Nat} (hi:inN ids i=false):∀ {l:List Nat},i∈l→i∈offN ids l
 | [],h=>absurd h List.not_mem_nil
 | j::r,h=>by
  simp only [offN]
  rcases List.mem_cons.1 h with rfl | h
  ·rw [hi]; exact List.mem_cons_self
  ·cases inN ids j
   ·exact List.mem_cons_of_mem _ (mem_offN hi h)
   ·exact mem_offN hi h
def runE:Eff→List AObj→(AVal→List (Nat × AObj)→List Nat→Prop)→Prop
 | .ret v ws,_,K=>K v ws []
 | .rd id k,h,K=>match h[id]? with
  | some o=>runE (k o) h fun v ws rs=>K v ws (id::rs)
  | none=>False
 | .side p k,h,K=>p∧runE k h K
 | .exD k,h,K=>∃ x,runE (k x) h K
 | .exI k,h,K=>∃ x,runE (k x) h K
 | .exL k,h,K=>∃ x,runE (k x) h K
 | .all k,h,K=>runE (k h) h fun v ws rs=>K v ws (List.range h.length++rs)
 | .exA k,h,K=>∃ x y,runE (k x y) h K
 | .fail,_,_=>False
 | .allx ids p,h,K=>∃ v ws,(∀ h',Agree ids h h'→p h' v ws)∧K v ws (offN ids (List.range h.length))
def ERun:Eff→List AObj→AVal→List (Nat × AObj)→List Nat→Prop
 | .ret v ws,_,v',ws',rs=>v'=v∧ws'=ws∧rs=[]
 | .rd id k,h,v',ws',rs=>∃ o rs',h[id]?=some o∧rs=id::rs'∧ERun (k o) h v' ws' rs'
 | .side p k,h,v',ws',rs=>p∧ERun k h v' ws' rs
 | .exD k,h,v',ws',rs=>∃ x,ERun (k x) h v' ws' rs
 | .exI k,h,v',ws',rs=>∃ x,ERun (k x) h v' ws' rs
 | .exL k,h,v',ws',rs=>∃ x,ERun (k x) h v' ws' rs
 | .all k,h,v',ws',rs=>∃ rs',rs=List.range h.length++rs'∧ERun (k h) h v' ws' rs'
 | .exA k,h,v',ws',rs=>∃ x y,ERun (k x y) h v' ws' rs
 | .fail,_,_,_,_=>False
 | .allx ids p,h,v,ws,rs=>(∀ h',Agree ids h h'→p h' v ws)∧rs=offN ids (List.range h.length)
theorem runE_run {h:List AObj}:∀ {e:Eff} {K:AVal→List (Nat × AObj)→List Nat→Prop},runE e h K→∃ v ws rs,ERun e h v ws rs∧K v ws rs
 | .ret v ws,K,hk=>⟨v,ws,[],⟨rfl,rfl,rfl⟩,hk⟩
 | .rd id k,K,hk=>by
  simp only [runE] at hk
  split at hk
  ·rename_i o ho
   obtain ⟨v,ws,rs,h1,h2⟩:=runE_run hk
   exact ⟨v,ws,id::rs,⟨o,rs,ho,rfl,h1⟩,h2⟩
  ·exact hk.elim
 | .side p k,K,hk=>by
  obtain ⟨v,ws,rs,h1,h2⟩:=runE_run hk.2
  exact ⟨v,ws,rs,⟨hk.1,h1⟩,h2⟩
 | .exD k,K,hk=>by
  obtain ⟨x,hk⟩:=hk
  obtain ⟨v,ws,rs,h1,h2⟩:=runE_run hk
  exact ⟨v,ws,rs,⟨x,h1⟩,h2⟩
 | .exI k,K,hk=>by
  obtain ⟨x,hk⟩:=hk
  obtain ⟨v,ws,rs,h1,h2⟩:=runE_run hk
  exact ⟨v,ws,rs,⟨x,h1⟩,h2⟩
 | .exL k,K,hk=>by
  obtain ⟨x,hk⟩:=hk
  obtain ⟨v,ws,rs,h1,h2⟩:=runE_run hk
  exact ⟨v,ws,rs,⟨x,h1⟩,h2⟩
 | .all k,K,hk=>by
  simp only [runE] at hk
  obtain ⟨v,ws,rs,h1,h2⟩:=runE_run hk
  exact ⟨v,ws,_,⟨rs,rfl,h1⟩,h2⟩
 | .exA k,K,hk=>by
  obtain ⟨x,y,hk⟩:=hk
  obtain ⟨v,ws,rs,h1,h2⟩:=runE_run hk
  exact ⟨v,ws,rs,⟨x,y,h1⟩,h2⟩
 | .fail,K,hk=>hk.elim
 | .allx ids p,K,hk=>by
  obtain ⟨v,ws,h1,h2⟩:=hk
  exact ⟨v,ws,_,⟨h1,rfl⟩,h2⟩
theorem ERun_local {h h':List AObj} (hlen:h'.length=h.length):∀ {e:Eff} {v:AVal} {ws:List (Nat × AObj)} {rs:List Nat},ERun e h v ws rs→(∀ id∈rs,h'[id]?=h[id]?)→ERun e h' v ws rs
 | .ret v ws,_,_,_,hk,_=>hk
 | .rd id k,v,ws,rs,hk,hl=>by
  obtain ⟨o,rs',ho,rfl,hk⟩:=hk
  exact ⟨o,rs',(hl id List.mem_cons_self).trans ho,rfl,ERun_local hlen hk fun i hi=>hl i (List.mem_cons_of_mem _ hi)⟩
 | .side p k,_,_,_,hk,hl=>⟨hk.1,ERun_local hlen hk.2 hl⟩
 | .exD k,_,_,_,hk,hl=>let ⟨x,hk⟩:=hk; ⟨x,ERun_local hlen hk hl⟩
 | .exI k,_,_,_,hk,hl=>let ⟨x,hk⟩:=hk; ⟨x,ERun_local hlen hk hl⟩
 | .exL k,_,_,_,hk,hl=>let ⟨x,hk⟩:=hk; ⟨x,ERun_local hlen hk hl⟩
 | .all k,v,ws,rs,hk,hl=>by
  obtain ⟨rs',rfl,hk⟩:=hk
  have e:h'=h:=by
   apply List.ext_getElem?
   intro id
   rcases Nat.lt_or_ge id h.length with h1 | h1
   ·exact hl id (List.mem_append_left _ (by simpa using h1))
   ·rw [List.getElem?_eq_none h1,List.getElem?_eq_none (by omega)]
  subst e
  exact ⟨rs',rfl,hk⟩
 | .exA k,_,_,_,hk,hl=>let ⟨x,y,hk⟩:=hk; ⟨x,y,ERun_local hlen hk hl⟩
 | .fail,_,_,_,hk,_=>hk.elim
 | .allx ids p,v,ws,rs,hk,hl=>by
  obtain ⟨h1,rfl⟩:=hk
  refine ⟨fun h'' ha=>h1 h'' ⟨ha.1.trans hlen,fun i hi=>(ha.2 i hi).trans ?_⟩,by rw [hlen]⟩
  rcases Nat.lt_or_ge i h.length with h2 | h2
  ·exact hl i (mem_offN hi (List.mem_range.2 h2))
  ·rw [List.getElem?_eq_none h2,List.getElem?_eq_none (by omega)]
def resV:List Data→AVal
 | [d]=>.d d
 | ds=>.tup (ds.map .d)
class Laid (P:Program) where
 vars:List (Nat × List Data)
structure W0Ok (P:Program) [Laid P] (w0:W0):Prop where
 gl:w0.gl=Laid.vars P
 ck:w0.ckf=ckP P
def HasFn (P:Program) (f:FuncId):Prop:=∃ fn,P.funcs[f]?=some fn∧fn.body.isSome=true∧(fn.name == "runtime.NumGoroutine")=false
def CallDet (P:Program) [Laid P] (f:FuncId) (args:List AVal) (rs:List Data):Prop :=
 HasFn P f ∧
 ∀ (w:World) (S:Nat→Nat→Prop) (vs:List Value),VRels w ⟨S,fun _=>undef⟩ [] args vs→(∀ b o,S b o→b < w.heap.size)→(∀ p∈Laid.vars P,DCs w S p.2 p.1 0) →
  Calls P f vs.toArray w fun e w'=>∃ v S',e=.returned v∧Below w.heap.size w w'∧(∀ b o,S b o→S' b o)∧(∀ b o,S' b o→S b o∨w.heap.size≤b) ∧
   (∀ b o,S' b o→b < w'.heap.size)∧VRel w' ⟨S',fun _=>undef⟩ [] (resV rs) v
def CallRow (P:Program) [Laid P] (f:FuncId) (args:List AVal) (t sz:Nat) (es:List Data):Prop :=
 HasFn P f ∧
 ∀ (w:World) (S:Nat→Nat→Prop) (vs:List Value),VRels w ⟨S,fun _=>undef⟩ [] args vs→(∀ b o,S b o→b < w.heap.size)→(∀ p∈Laid.vars P,DCs w S p.2 p.1 0) →
  Calls P f vs.toArray w fun e w'=>∃ v S',e=.returned v∧Below w.heap.size w w'∧(∀ b o,S b o→S' b o)∧(∀ b o,S' b o→S b o∨w.heap.size≤b) ∧
   (∀ b o,S' b o→b < w'.heap.size)∧0 < sz∧(∃ xs,w'.ownsRow w.heap.size t sz v es.length xs∧DXs w' S' es sz xs)∧∀ b o,blockOf v=some b→¬ S' b o
def CallIn (P:Program) [Laid P] (f:FuncId) (args:List AVal) (h:List AObj) (v:AVal) (h':List AObj):Prop :=
 HasFn P f∧h'.length=h.length ∧
 ∀ (n base:Nat) (w0:W0) (G:Gh) (slots:List (Nat × AVal)) (a:Act) (w:World) (vs:List Value),W0Ok P w0→Rel n base w0 G ⟨slots,h⟩ a w→VRels w G h args vs →
  Calls P f vs.toArray w fun e w'=>∃ x G',e=.returned x∧Ext w G h w' G' h'∧Rel n base w0 G' ⟨slots,h'⟩ a w'∧VRel w' G' h' v x
def YieldIn (P:Program) [Laid P] (id:Nat) (args:List AVal) (h:List AObj) (v:AVal) (h':List AObj):Prop :=
 h'.length=h.length ∧
 ∀ (n base:Nat) (w0:W0) (G:Gh) (slots:List (Nat × AVal)) (a:Act) (w:World) (vs:List Value) (b:Nat),W0Ok P w0→Rel n base w0 G ⟨slots,h⟩ a w→G.val id=.pointer (some ⟨b,0,none⟩)→VRels w G h args vs →
  YieldAt Fence.wide 0 P b vs.toArray w fun e w'=>∃ x G',e=.returned x∧Ext w G h w' G' h'∧Rel n base w0 G' ⟨slots,h'⟩ a w'∧VRel w' G' h' v x
def setAll:List AObj→List (Nat × AObj)→List AObj
 | h,[]=>h
 | h,(i,o)::r=>setAll (h.set i o) r
mutual
def Data.flat:Data→Bool
 | .int _ _ | .bool _ | .str _=>true
 | .agg cs=>Data.flats cs
 | .slice _ _=>false
 | .fn _ caps=>match caps with | []=>true | _=>false
def Data.flats:List Data→Bool
 | []=>true
 | d::ds=>d.flat&&Data.flats ds
end
def ev (s:Nat→AVal):Opd→AVal
 | .tmp t=>s t
 | .cst v=>v
mutual
def pv:AVal→(AVal→List (Nat × AObj)→Eff)→Eff
 | .sl id m,k=>.rd id fun o=>match o with
  | .row t sz es _=>.side (es.length=m) (k (.d (.slice sz es)) [(id,.row t sz es true)])
  | _=>.fail
 | .nils sz,k=>k (.d (.slice sz [])) []
 | .agg vs,k=>pvs vs fun ds ws=>k (.d (.agg ds)) ws
 | .d x,k=>k (.d x) []
 | .cp cs o,k=>k (.cp cs o) []
 | .anyn neg es,k=>.side (es≠[]) (k (.d (.bool neg)) [])
 | _,_=>.fail
def pvs:List AVal→(List Data→List (Nat × AObj)→Eff)→Eff
 | [],k=>k [] []
 | v::vs,k=>pv v fun x ws=>match x with
  | .d d=>pvs vs fun ds ws'=>k (d::ds) (ws++ws')
  | _=>.fail
end
def pvL:List AVal→(List AVal→List (Nat × AObj)→Eff)→Eff
 | [],k=>k [] []
 | v::vs,k=>pv v fun x ws=>pvL vs fun xs ws'=>k (x::xs) (ws++ws')
def cellsE (v:AVal) (k:List AVal→Eff):Eff :=
 match v with
 | .d (.agg cs)=>k (dcells cs)
 | .agg vs=>k vs
 | .d x=>k [.d x]
 | .nils sz=>k [.nils sz]
 | .ptr id off=>k [.ptr id off]
 | .cp cs off=>k [.cp cs off]
 | .fn f a b=>k [.fn f a b]
 | .mp id=>k [.mp id]
 | .sl id m=>.rd id fun o=>match o with
  | .row _ _ es _=>.side (es.length=m) (k [.sl id m])
  | _=>.fail
 | .bs id m=>.rd id fun o=>match o with
  | .brow _ bs=>.side (bs.length=m) (k [.bs id m])
  | _=>.fail
 | _=>.fail
def aggCells:AVal→Option (List AVal)
 | .d (.agg cs)=>some (dcells cs)
 | .agg vs=>some vs
 | _=>none
def allD:List AVal→Option (List Data)
 | []=>some []
 | .d x::r=>match x.isAgg with
  | true=>none
  | false=>match allD r with
   | some ds=>some (x::ds)
   | none=>none
 | _::_=>none
def ofCells (cs:List AVal):AVal :=
 match allD cs with
 | some ds=>.d (.agg ds)
 | none=>.agg cs
def cut {α:Type} (cs:List α) (off n:Nat):Option (List α) :=
 match off,cs with
 | 0,cs=>take? n cs
 | off+1,_::r=>cut r off n
 | _+1,[]=>none
where
 take?:Nat→List α→Option (List α)
  | 0,_=>some []
  | n+1,x::r=>match take? n r with
   | some l=>some (x::l)
   | none=>none
  | _+1,[]=>none
def lay {α:Type} (cs:List α) (off:Nat) (news:List α):List α :=
 match off,cs with
 | 0,cs=>over cs news
 | off+1,c::r=>c::lay r off news
 | _+1,[]=>[]
where
 over:List α→List α→List α
  | cs,[]=>cs
  | [],_::_=>[]
  | _::r,x::xs=>x::over r xs
def loadE (ag:Bool) (n:Nat) (off:Nat) (cs:List AVal):Eff :=
 match cut cs off n with
 | some l=>match ag,l with
  | true,l=>.ret (ofCells l) []
  | false,[v]=>.ret v []
  | _,_=>.fail
 | none=>.fail
def loadD (ag:Bool) (n:Nat) (off:Nat) (cs:List Data):Eff :=
 match cut cs off n with
 | some l=>match ag,l with
  | true,l=>.ret (.d (.agg l)) []
  | false,[d]=>.ret (.d d) []
  | _,_=>.fail
 | none=>.fail
def arithF (op:BinOp) (k:IntKind) (a b:Int):Option Int :=
 match op with
 | .add=>some (k.wrap (a+b))
 | .sub=>some (k.wrap (a - b))
 | .mul=>some (k.wrap (a * b))
 | .quo=>if b=0 then none else some (k.wrap (a.tdiv b))
 | .rem=>if b=0 then none else some (a.tmod b)
 | _=>none
def bitF (op:BinOp) (k:IntKind) (a b:Int):Option Int :=
 match op with
 | .and=>some (k.wrap (BitVec.ofInt k.bits a &&& BitVec.ofInt k.bits b).toNat)
 | .or=>some (k.wrap (BitVec.ofInt k.bits a ||| BitVec.ofInt k.bits b).toNat)
 | .xor=>some (k.wrap (BitVec.ofInt k.bits a ^^^ BitVec.ofInt k.bits b).toNat)
 | .andNot=>some (k.wrap (BitVec.ofInt k.bits a &&& ~~~BitVec.ofInt k.bits b).toNat)
 | _=>none
def shfF (op:BinOp) (k:IntKind) (a b:Int):Option Int :=
 match op with
 | .shl=>if b < 0 then none else some (k.wrap (a * 2 ^ (min b.toNat k.bits)))
 | .shr=>if b < 0 then none else some (a.fdiv (2 ^ (min b.toNat k.bits)))
 | _=>none
def eqCells:List Nat→List AVal→List AVal→Option Bool
 | [],[],[]=>some true
 | 0::ks,.d (.int k a)::xs,.d (.int k' b)::ys=>match decide (k=k'),eqCells ks xs ys with
  | true,some r=>some (a==b&&r)
  | _,_=>none
 | 1::ks,.d (.bool a)::xs,.d (.bool b)::ys=>match eqCells ks xs ys with
  | some r=>some (a==b&&r)
  | none=>none
 | 2::ks,.d (.str a)::xs,.d (.str b)::ys=>match eqCells ks xs ys with
  | some r=>some (a==b&&r)
  | none=>none
 | _,_,_=>none
def keyD:Option IntKind→Data→Bool
 | some k,.int k' _=>decide (k'=k)
 | none,.str _=>true
 | _,_=>false
def dEq1:Data→Data→Bool
 | .int _ a,.int _ b=>a==b
 | .bool a,.bool b=>a==b
 | .str a,.str b=>a==b
 | _,_=>false
def dEqL:List Data→List Data→Bool
 | [],[]=>true
 | a::as,b::bs=>dEq1 a b&&dEqL as bs
 | _,_=>false
def dEq:Data→Data→Bool
 | .int _ a,.int _ b=>a==b
 | .str a,.str b=>a==b
 | .agg a,.agg b=>dEqL a b
 | _,_=>false
def findM (k:Data):List (Data × Data)→Option Data
 | []=>none
 | (k',v)::r=>match dEq k k' with
  | true=>some v
  | false=>findM k r
def putM (k v:Data):List (Data × Data)→List (Data × Data)
 | []=>[(k,v)]
 | (k',v')::r=>match dEq k k' with
  | true=>(k,v)::r
  | false=>(k',v')::putM k v r
def keysOk (ck:Option IntKind):List (Data × Data)→Bool
 | []=>true
 | (k,_)::r=>keyD ck k&&keysOk ck r
def keyC:Nat→Data→Bool
 | 0,.int .i64 _=>true
 | 1,.bool _=>true
 | 2,.str _=>true
 | _,_=>false
def keyCs:List Nat→List Data→Bool
 | [],[]=>true
 | k::ks,d::ds=>keyC k d&&keyCs ks ds
 | _,_=>false
def keyS (ks:List Nat):Data→Bool
 | .agg cs=>keyCs ks cs
 | _=>false
def keysOkS (ks:List Nat):List (Data × Data)→Bool
 | []=>true
 | (k,_)::r=>keyS ks k&&keysOkS ks r
def mapE:AObj→Option (List (Data × Data))
 | .mapo es=>some es
 | .mapf es=>some es
 | _=>none
def keyV (v:AVal):Option Data :=
 match aggCells v with
 | some vs=>match allD vs with
  | some ds=>some (.agg ds)
  | none=>none
 | none=>none
def decA (l:List UInt8) (pos:Nat):Nat × Nat:=Utf8.decode ⟨l.toArray⟩ pos
def bytesOf:List Data→Option (List UInt8)
 | []=>some []
 | .int .u8 n::r=>match bytesOf r with
  | some l=>some (UInt8.ofNat n.toNat::l)
  | none=>none
 | _::_=>none
def cmpF (op:BinOp) (a b:Int):Bool :=
 match op with
 | .eql=>a==b
 | .neq=>a != b
 | .lss=>decide (a < b)
 | .leq=>decide (a≤b)
 | .gtr=>decide (b < a)
 | _=>decide (b≤a)
def sltF (op:BinOp) (a b:List UInt8):Bool :=
 match op with
 | .lss=>Op.bytesLess a b
 | .leq=>Op.bytesLess a b||a==b
 | .gtr=>!(Op.bytesLess a b||a==b)
 | _=>!Op.bytesLess a b
def partsE:List AVal→List (Nat × Nat × AVal)→Eff
 | cells,[]=>.ret (ofCells cells) []
 | cells,(off,n,v)::r=>cellsE v fun cs=>match cut cells off n with
  | some _=>match Nat.beq cs.length n with
   | true=>partsE (lay cells off cs) r
   | false=>.fail
  | none=>.fail
def evParts (s:Nat→AVal):List (Nat × Nat × Opd)→List (Nat × Nat × AVal)
 | []=>[]
 | (o,n,x)::r=>(o,n,ev s x)::evParts s r
def elemsE (sz:Nat) (es:List Data):List (Nat × AVal)→(List Data→List (Nat × AObj)→Eff)→Eff
 | [],k=>k es []
 | (i,v)::r,k=>pv v fun x ws=>match x with
  | .d d=>match Nat.beq d.cells.length sz with
   | true=>elemsE sz (es.set i d) r fun es' ws'=>k es' (ws++ws')
   | false=>.fail
  | _=>.fail
def evElems (s:Nat→AVal):List (Nat × Opd)→List (Nat × AVal)
 | []=>[]
 | (i,x)::r=>(i,ev s x)::evElems s r
def evs (s:Nat→AVal):List Opd→List AVal
 | []=>[]
 | x::r=>ev s x::evs s r
def capCells:List Data→List AVal
 | []=>[]
 | c::r=>.cp c.cells 0::capCells r
def callE (P:Program) [Laid P] (f:FuncId) (args:List AVal):Eff :=
 pvL args fun xs ws=>.exL fun rs=>.side (CallDet P f xs rs)
  (match ws with
   | []=>.ret (resV rs) []
   | _=>match Data.flats rs with
    | true=>.ret (resV rs) []
    | false=>.ret (resV rs) ws)
def callNE (P:Program) [Laid P] (r t sz:Nat) (f:FuncId) (args:List AVal):Eff :=
 pvL args fun xs ws=>.rd r fun o=>match o with
  | .none=>.exL fun es=>.side (CallRow P f xs t sz es) (.ret (.sl r es.length) (ws++[(r,.row t sz es false)]))
  | _=>.fail
def readE (v:AVal) (k:Nat→List Data→Eff):Eff :=
 match v with
 | .d (.slice sz es)=>k sz es
 | .nils sz=>k sz []
 | .sl id m=>.rd id fun o=>match o with
  | .row _ sz es _=>.side (es.length=m) (k sz es)
  | _=>.fail
 | .bw id m=>.rd id fun o=>match o with
  | .box cs=>match allD cs with
   | some ds=>.side (ds.length=m) (k 1 ds)
   | none=>.fail
  | _=>.fail
 | _=>.fail
def capE:List AVal→(List Data→List (Nat × AObj)→Eff)→Eff
 | [],k=>k [] []
 | .ptr id 0::r,k=>.rd id fun o=>match o with
  | .box cs=>match allD cs with
   | some ds=>capE r fun cs' ws'=>k (.agg ds::cs') ((id,.cbox ds)::ws')
   | none=>.fail
  | .cbox ds=>capE r fun cs' ws'=>k (.agg ds::cs') ws'
  | _=>.fail
 | .cp ds 0::r,k=>capE r fun cs' ws'=>k (.agg ds::cs') ws'
 | _::_,_=>.fail
def boundE (v:Option AVal) (k:Int→Eff) (dflt:Int):Eff :=
 match v with
 | none=>k dflt
 | some (.d (.int _ i))=>k i
 | _=>.fail
def funOf:AVal→Option (FuncId × List AVal × List AVal)
 | .d (.fn (.func g) caps)=>some (g,[],capCells caps)
 | .fn (.func g) first caps=>some (g,first,caps)
 | _=>none
def notW (id:Nat):List (Nat × AObj)→Bool
 | []=>true
 | (i,_)::r=>!Nat.beq i id&&notW id r
def callIE (P:Program) [Laid P] (f:FuncId) (args:List AVal):Eff :=
 .all fun h=>.exA fun v ws=>.side (CallIn P f args h v (setAll h ws)) (.ret v ws)
def callXE (P:Program) [Laid P] (ids:List Nat) (f:FuncId) (args:List AVal):Eff :=
 .allx ids fun h v ws=>CallIn P f args h v (setAll h ws)
mutual
def pureV:AVal→Bool
 | .d _ | .nils _ | .sl _ _ | .cp _ _=>true
 | .agg vs=>pureL vs
 | _=>false
def pureL:List AVal→Bool
 | []=>true
 | v::vs=>pureV v&&pureL vs
end
def callP (P:Program) [Laid P] (f:FuncId) (args:List AVal):Eff :=
 match pureL args with
 | true=>callE P f args
 | false=>callIE P f args
def gfind (g:Nat):List (Nat × List Data)→Option (List Data)
 | []=>none
 | (g',ds)::r=>match Nat.beq g g' with
  | true=>some ds
  | false=>gfind g r
theorem gfind_mem {g:Nat} {ds:List Data}:∀ {l:List (Nat × List Data)},gfind g l=some ds→(g,ds)∈l
 | [],h=>by cases h
 | (g',ds')::r,h=>by
  simp only [gfind] at h
  split at h
  ·rename_i e
   have:=Nat.eq_of_beq_eq_true e
   subst this; cases h
   exact List.mem_cons_self
  ·exact List.mem_cons_of_mem _ (gfind_mem h)
def flatC:List Data→List Data
 | []=>[]
 | d::r=>d.cells++flatC r
def eff (P:Program) [Laid P] (s:Nat→AVal):AOp→Eff
 | .mov x=>.ret (ev s x) []
 | .pick c a b=>match ev s c with
  | .d (.bool c)=>match ev s a,ev s b with
   | .d (.bool x),.d (.bool y)=>.ret (.d (.bool (cond c x y))) []
   | .d (.bool x),.gone=>.side (c=true) (.ret (.d (.bool x)) [])
   | .gone,.d (.bool y)=>.side (c=false) (.ret (.d (.bool y)) [])
   | _,_=>.fail
  | _=>.fail
 | .alloc r cs=>.rd r fun o=>match o with
  | .none=>.ret (.ptr r 0) [(r,.box cs)]
  | _=>.fail
 | .box r n x=>.rd r fun o=>match o with
  | .none=>cellsE (ev s x) fun cs=>.ret (.ptr r 0) [(r,.box cs)]
  | _=>.fail
 | .ld ag n x=>match ev s x with
  | .ptr id off=>.rd id fun o=>match o with
   | .box cs=>loadE ag n off cs
   | .cbox ds=>loadD ag n off ds
   | _=>.fail
  | .cp cs off=>loadD ag n off cs
  | .ep id m i off=>.rd id fun o=>match o with
   | .row _ _ es _=>.side (es.length=m) (.exD fun d=>.side (es[i]?=some d) (loadD ag n off d.cells))
   | _=>.fail
  | .gp g off=>match gfind g (Laid.vars P) with
   | some ds=>loadD ag n off ds
   | none=>.fail
  | .tp id off=>.rd id fun o=>match o with
   | .tbox _ cs=>loadE ag n off cs
   | _=>.fail
  | _=>.fail
 | .st n x v=>match ev s x with
  | .ptr id off=>.rd id fun o=>match o with
   | .box cs=>cellsE (ev s v) fun vs=>match cut cs off n,Nat.beq vs.length n with
    | some _,true=>.ret .undef [(id,.box (lay cs off vs))]
    | _,_=>.fail
   | _=>.fail
  | .ep id m i off=>pv (ev s v) fun x ws=>match x,notW id ws with
   | .d y,true=>.rd id fun o=>match o with
    | .row t sz es false=>.exD fun d=>.exD fun d'=>.side (es.length=m∧es[i]?=some d∧y.cells.length=n∧off+n≤d.cells.length∧d'.isAgg=d.isAgg∧d'.cells=d.cells.take off++y.cells++d.cells.drop (off+n))
     (.ret .undef (ws++[(id,.row t sz (es.set i d') false)]))
    | _=>.fail
   | _,_=>.fail
  | .tp id off=>.rd id fun o=>match o with
   | .tbox t cs=>cellsE (ev s v) fun vs=>match cut cs off n,Nat.beq vs.length n with
    | some _,true=>.ret .undef [(id,.tbox t (lay cs off vs))]
    | _,_=>.fail
   | _=>.fail
  | _=>.fail
 | .arith op k x y=>match ev s x,ev s y with
  | .d (.int k1 a),.d (.int k2 b)=>.exI fun r=>.side (k1=k∧k2=k∧arithF op k a b=some r) (.ret (.d (.int k r)) [])
  | _,_=>.fail
 | .cmp op x y=>match ev s x,ev s y with
  | .d (.int k1 a),.d (.int k2 b)=>.side (k1=k2) (.ret (.d (.bool (cmpF op a b))) [])
  | _,_=>.fail
 | .beq neg x y=>match ev s x,ev s y with
  | .d (.bool a),.d (.bool b)=>.ret (.d (.bool (cond neg (a != b) (a==b)))) []
  | _,_=>.fail
 | .seq neg x y=>match ev s x,ev s y with
  | .d (.str a),.d (.str b)=>.ret (.d (.bool (cond neg (a != b) (a==b)))) []
  | _,_=>.fail
 | .slt op x y=>match ev s x,ev s y with
  | .d (.str a),.d (.str b)=>.ret (.d (.bool (sltF op a b))) []
  | _,_=>.fail
 | .cat x y=>match ev s x,ev s y with
  | .d (.str a),.d (.str b)=>.side (a.length+b.length≤9223372036854775807) (.ret (.d (.str (a++b))) [])
  | _,_=>.fail
 | .not x=>match ev s x with
  | .d (.bool b)=>.ret (.d (.bool (!b))) []
  | _=>.fail
 | .conv k x=>match ev s x with
  | .d (.int _ n)=>.exI fun r=>.side (k.wrap n=r) (.ret (.d (.int k r)) [])
  | _=>.fail
 | .fad off x=>match ev s x with
  | .ptr id o=>.ret (.ptr id (o+off)) []
  | .cp cs o=>.ret (.cp cs (o+off)) []
  | .ep id m i q=>.rd id fun o=>match o with
   | .row _ _ es _=>.side (es.length=m) (.ret (.ep id m i (q+off)) [])
   | _=>.fail
  | .gp g o=>.ret (.gp g (o+off)) []
  | .tp id o=>.ret (.tp id (o+off)) []
  | _=>.fail
 | .fld ag off n x=>match aggCells (ev s x) with
  | some cs=>loadE ag n off cs
  | none=>.fail
 | .ixa sz x i=>match ev s i with
  | .d (.int _ n)=>match ev s x with
   | .d (.slice sz' es)=>.exD fun d=>.side (sz'=sz∧0≤n∧es[n.toNat]?=some d) (.ret (.cp d.cells 0) [])
   | .sl id m=>.rd id fun o=>match o with
    | .row _ sz' es _=>.side (sz'=sz∧es.length=m∧0≤n∧n < m) (.ret (.ep id m n.toNat 0) [])
    | _=>.fail
   | .bv id off m=>.side (0≤n∧n < m) (.ret (.ptr id (off+n.toNat * sz)) [])
   | _=>.fail
  | _=>.fail
 | .ixp len sz x i=>match ev s i with
  | .d (.int _ n)=>match ev s x with
   | .ptr id off=>.side (0≤n∧n < len) (.ret (.ptr id (off+n.toNat * sz)) [])
   | .cp cs off=>.side (0≤n∧n < len) (.ret (.cp cs (off+n.toNat * sz)) [])
   | .gp g off=>.side (0≤n∧n < len) (.ret (.gp g (off+n.toNat * sz)) [])
   | _=>.fail
  | _=>.fail
 | .ixv ag len sz x i=>match ev s i with
  | .d (.int _ n)=>match aggCells (ev s x) with
   | some cs=>.side (0≤n∧n < len) (loadE ag sz (n.toNat * sz) cs)
   | none=>.fail
  | _=>.fail
 | .ixs x i=>match ev s x,ev s i with
  | .d (.str l),.d (.int _ n)=>.exI fun r=>.side (0≤n∧(l[n.toNat]?).map (fun c=>(c.toNat:Int))=some r) (.ret (.d (.int .u8 r)) [])
  | _,_=>.fail
 | .build zero parts=>partsE zero (evParts s parts)
 | .bsl r t sz n zero parts=>.rd r fun o=>match o with
  | .none=>elemsE sz zero (evElems s parts) fun es ws=>.side (es.length=n) (.ret (.sl r n) (ws++[(r,.row t sz es false)]))
  | _=>.fail
 | .mk0 r t sz bytes c => .rd r fun o => match o with
   | .none=>.side (c * bytes≤2 ^ 47∧c≤2 ^ 47) (.ret (.sl r 0) [(r,.row t sz [] false)])
   | _=>.fail
 | .mkb r t n bytes z x=>match ev s x with
  | .d (.int _ k)=>.rd r fun o=>match o with
   | .none=>.side (k=(n:Int)∧n * bytes≤2 ^ 47∧n≤2 ^ 47) (.ret (.bv r 0 n) [(r,.box (List.replicate n z))])
   | _=>.fail
  | _=>.fail
 | .msl r t sz bytes zero n=>match ev s n with
  | .d (.int _ k)=>.rd r fun o=>match o with
   | .none=>.side (0≤k∧k * (bytes:Int)≤2 ^ 47∧k≤2 ^ 47) (.ret (.sl r k.toNat) [(r,.row t sz (List.replicate k.toNat zero) false)])
   | _=>.fail
  | _=>.fail
 | .len x=>match ev s x with
  | .bv _ _ n=>.ret (.d (.int .i64 n)) []
  | .bs id n=>.rd id fun o=>match o with
   | .brow _ bs=>.side (bs.length=n) (.ret (.d (.int .i64 n)) [])
   | _=>.fail
  | v=>readE v fun _ es=>.ret (.d (.int .i64 es.length)) []
 | .lens x=>match ev s x with
  | .d (.str l)=>.ret (.d (.int .i64 l.length)) []
  | _=>.fail
 | .app r t sz bytes a x=>readE (ev s x) fun sz' ys=>.side (sz'=sz) (match ev s a with
  | .nils _=>.rd r fun o=>match o with
   | .none=>.side (ys.length * bytes≤2 ^ 47∧ys.length≤2 ^ 47) (.ret (.sl r ys.length) [(r,.row t sz ys false)])
   | _=>.fail
  | .sl id m=>.rd id fun o=>match o with
   | .row t' sz'' es fz=>.side (t'=t∧sz''=sz∧es.length=m∧(es.length+ys.length) * bytes≤2 ^ 47∧es.length+ys.length≤2 ^ 47)
    (.ret (.sl id (es++ys).length) [(id,.row t sz (es++ys) fz)])
   | _=>.fail
  | .dc sz'' es=>.rd r fun o=>match o with
   | .none=>.side (sz''=sz∧0 < ys.length∧(es.length+ys.length) * bytes≤2 ^ 47∧es.length+ys.length≤2 ^ 47)
    (.ret (.sl r (es++ys).length) [(r,.row t sz (es++ys) false)])
   | _=>.fail
  | .bw id m=>.rd id fun o=>match o with
   | .box cs=>match allD cs with
    | some ds=>.rd r fun o=>match o with
     | .none=>.side (sz=1∧ds.length=m∧0 < ys.length∧(ds.length+ys.length) * bytes≤2 ^ 47∧ds.length+ys.length≤2 ^ 47)
      (.ret (.sl r (ds++ys).length) [(r,.row t sz (ds++ys) false)])
     | _=>.fail
    | none=>.fail
   | _=>.fail
  | _=>.fail)
 | .mini x y=>match ev s x,ev s y with
  | .d (.int k a),.d (.int k' b)=>.side (k=k') (.ret (.d (.int k (min a b))) [])
  | _,_=>.fail
 | .maxi x y=>match ev s x,ev s y with
  | .d (.int k a),.d (.int k' b)=>.side (k=k') (.ret (.d (.int k (max a b))) [])
  | _,_=>.fail
 | .mkf f first caps=>match first with
  | []=>capE (evs s caps) fun cs ws=>.ret (.d (.fn f cs)) ws
  | _=>.fail
 | .ext i x=>match ev s x with
  | .tup vs=>match vs[i]? with
   | some v=>.ret v []
   | none=>.fail
  | _=>.fail
 | .call f args=>callP P f (evs s args)
 | .callv x args=>match ev s x with
  | .d (.fn (.func f) caps)=>callP P f (evs s args++capCells caps)
  | .fn (.func f) first caps=>callIE P f (first++evs s args++caps)
  | .yld id=>.all fun h=>.exA fun v ws=>.side (YieldIn P id (evs s args) h v (setAll h ws)) (.ret v ws)
  | _=>.fail
 | .calli f args=>callIE P f (evs s args)
 | .calln r t sz f args=>callNE P r t sz f (evs s args)
 | .callx ids f args=>callXE P ids f (evs s args)
 | .callvi x args=>match ev s x with
  | .d (.fn (.func f) caps)=>callIE P f (evs s args++capCells caps)
  | .fn (.func f) first caps=>callIE P f (first++evs s args++caps)
  | .yld id=>.all fun h=>.exA fun v ws=>.side (YieldIn P id (evs s args) h v (setAll h ws)) (.ret v ws)
  | _=>.fail
 | .mkr f first caps=>.ret (.fn f (evs s first) (evs s caps)) []
 | .slcs x lo hi=>match ev s x with
  | .d (.str l)=>boundE (hi.map (ev s)) (fun h=>boundE (lo.map (ev s)) (fun i=>.side (0≤i∧i≤h∧h≤l.length) (.ret (.d (.str ((l.take h.toNat).drop i.toNat))) [])) 0) l.length
  | _=>.fail
 | .slc sz x lo hi=>match ev s x with
  | .d (.slice sz' es)=>boundE (hi.map (ev s)) (fun h=>boundE (lo.map (ev s)) (fun i=>.side (sz'=sz∧0≤i∧i≤h∧h≤es.length) (.ret (.d (.slice sz' ((es.take h.toNat).drop i.toNat))) [])) 0) es.length
  | .sl id m=>.rd id fun o=>match o with
   | .row t sz' es _ => boundE (hi.map (ev s)) (fun h => boundE (lo.map (ev s)) (fun i => .side (sz' = sz ∧ es.length = m ∧ 0 ≤ i ∧ i ≤ h ∧ h ≤ es.length)
     (.ret (.d (.slice sz' ((es.take h.toNat).drop i.toNat))) [(id,.row t sz' es true)])) 0) es.length
   | _=>.fail
  | _=>.fail
 | .nck x=>match ev s x with
  | .ptr id o=>.ret (.ptr id o) []
  | .cp cs o=>.ret (.cp cs o) []
  | .ep id m i q=>.rd id fun o=>match o with
   | .row _ _ es _=>.side (es.length=m) (.ret (.ep id m i q) [])
   | _=>.fail
  | .d (.fn f caps)=>.ret (.d (.fn f caps)) []
  | .tp id o=>.ret (.tp id o) []
  | _=>.fail
 | .aeq neg ks x y=>match aggCells (ev s x),aggCells (ev s y) with
  | some xs,some ys=>.exD fun d=>.side (∃ b,eqCells ks xs ys=some b∧d=.bool (cond neg (!b) b)) (.ret (.d d) [])
  | _,_=>.fail
 | .bit op k x y=>match ev s x,ev s y with
  | .d (.int k1 a),.d (.int k2 b)=>.exI fun r=>.side (k1=k∧k2=k∧bitF op k a b=some r) (.ret (.d (.int k r)) [])
  | _,_=>.fail
 | .shf op k x y=>match ev s x,ev s y with
  | .d (.int k1 a),.d (.int _ b)=>.exI fun r=>.side (k1=k∧shfF op k a b=some r) (.ret (.d (.int k r)) [])
  | _,_=>.fail
 | .neg k x=>match ev s x with
  | .d (.int k1 a)=>.exI fun r=>.side (k1=k∧k.wrap (0 - a)=r) (.ret (.d (.int k r)) [])
  | _=>.fail
 | .isnil neg x=>match ev s x with
  | .nils _=>.ret (.d (.bool (!neg))) []
  | v=>readE v fun _ es=>.ret (.anyn neg es) []
 | .b2s x=>readE (ev s x) fun sz es=>.exL fun l=>.side (sz=1∧∃ b,bytesOf es=some b∧l=[.str b]) (match l with
  | [d]=>.ret (.d d) []
  | _=>.fail)
 | .slw sz x lo hi=>match ev s x with
  | .sl id m=>.rd id fun o=>match o with
   | .row t sz' es _ => boundE (hi.map (ev s)) (fun h => boundE (lo.map (ev s)) (fun i => .side (sz' = sz ∧ es.length = m ∧ 0 ≤ i ∧ i ≤ h ∧ h ≤ es.length ∧ 0 < es.length)
     (.ret (.rv id m i.toNat h.toNat) [])) 0) es.length
   | _=>.fail
  | .rv id m i0 j0=>.rd id fun o=>match o with
   | .row t sz' es _ => boundE (hi.map (ev s)) (fun h => boundE (lo.map (ev s)) (fun i => .side (sz' = sz ∧ es.length = m ∧ i0 = 0 ∧ 0 ≤ i ∧ i ≤ h ∧ h ≤ es.length ∧ 0 < es.length)
     (.ret (.rv id m i.toNat h.toNat) [])) 0) j0
   | _=>.fail
  | _=>.fail
 | .slm sz x lo hi mx=>match ev s x with
  | .sl id m=>.rd id fun o=>match o with
   | .row t sz' es _=>match ev s lo,ev s hi,ev s mx with
    | .d (.int _ i),.d (.int _ h),.d (.int _ u)=>.side (sz'=sz∧es.length=m∧0≤i∧i≤h∧h≤u∧u≤es.length) (.ret .undef [])
    | _,_,_=>.fail
   | _=>.fail
  | _=>.fail
 | .lenw x=>match ev s x with
  | .rv id m i j=>.rd id fun o=>match o with
   | .row t sz' es _=>.side (es.length=m) (.ret (.d (.int .i64 ((j - i:Nat):Int))) [])
   | _=>.fail
  | _=>.fail
 | .appw sz x y=>match ev s x,ev s y with
  | .rv id m i j,.rv id' m' i' j'=>match Nat.beq id id' with
   | true=>.rd id fun o=>match o with
    | .row t sz' es false=>.side (sz'=sz∧es.length=m∧m=m'∧i < m∧j+(j' - i')≤m)
     (.ret (.rv id m i (j+(j' - i'))) [(id,.row t sz' (es.take j++(es.drop i').take (j' - i')++es.drop (j+(j' - i'))) false)])
    | _=>.fail
   | false=>.fail
  | _,_=>.fail
 | .appz r t sz bytes zero a x=>match ev s x with
  | .d (.int _ k)=>.side (0≤k) (match ev s a with
   | .nils _=>.rd r fun o=>match o with
    | .none=>.side (k.toNat * bytes≤2 ^ 47∧k.toNat≤2 ^ 47) (.ret (.sl r k.toNat) [(r,.row t sz (List.replicate k.toNat zero) false)])
    | _=>.fail
   | .sl id m=>.rd id fun o=>match o with
    | .row t' sz'' es fz=>.side (t'=t∧sz''=sz∧es.length=m∧(es.length+k.toNat) * bytes≤2 ^ 47∧es.length+k.toNat≤2 ^ 47)
     (.ret (.sl id (es++List.replicate k.toNat zero).length) [(id,.row t sz (es++List.replicate k.toNat zero) fz)])
    | _=>.fail
   | _=>.fail)
  | _=>.fail
 | .clrw sz zero x=>match ev s x with
  | .rv id m i j=>.rd id fun o=>match o with
   | .row t sz' es false=>.side (sz'=sz∧es.length=m∧i < j)
    (.ret (.tup []) [(id,.row t sz' (es.take i++List.replicate (j - i) zero++es.drop j) false)])
   | _=>.fail
  | _=>.fail
 | .copyw sz x y=>match ev s x,ev s y with
  | .rv id m i j,.rv id' m' i' j'=>match Nat.beq id id' with
   | true=>.rd id fun o=>match o with
    | .row t sz' es false=>.side (sz'=sz∧es.length=m∧m=m'∧i < m∧i' < m)
     (.ret (.d (.int .i64 ((min (j' - i') (j - i):Nat):Int))) [(id,.row t sz' (es.take i++(es.drop i').take (min (j' - i') (j - i))++es.drop (i+min (j' - i') (j - i))) false)])
    | _=>.fail
   | false=>.fail
  | _,_=>.fail
 | .copy sz x y=>readE (ev s y) fun sz' ys=>match ev s x with
  | .sl id m=>.rd id fun o=>match o with
   | .row t sz'' es false=>.exI fun k=>.side (sz'=sz∧sz''=sz∧es.length=m∧k=(min ys.length m:Nat)) (.ret (.d (.int .i64 k)) [(id,.row t sz (ys.take m++es.drop ys.length) false)])
   | _=>.fail
  | .bv id off m=>.rd id fun o=>match o with
   | .box cs=>.exI fun k=>.exL fun ds=>.side (sz'=sz∧sz=1∧k=(min ys.length m:Nat)∧ds=ys.take m∧(∀ d∈ds,d.isAgg=false)) (match cut cs off m with
    | some _=>.ret (.d (.int .i64 k)) [(id,.box (lay cs off (dcells ds)))]
    | none=>.fail)
   | _=>.fail
  | _=>.fail
 | .cbx r n x=>.rd r fun o=>match o with
  | .none=>cellsE (ev s x) fun cs=>match allD cs with
   | some ds=>.ret (.ptr r 0) [(r,.cbox ds)]
   | none=>.fail
  | _=>.fail
 | .sla len x lo hi=>match ev s x with
  | .ptr id off=>.rd id fun o=>match o with
   | .box cs=>match lo,hi with
    | none,none=>.side (off=0∧0 < len∧cs.length=len) (.ret (.bw id len) [])
    | _,_=>.fail
   | .cbox ds=>boundE (hi.map (ev s)) (fun h=>boundE (lo.map (ev s)) (fun i=>.side (0≤i∧i≤h∧h≤len∧off+len≤ds.length) (.ret (.d (.slice 1 ((ds.drop (off+i.toNat)).take (h.toNat - i.toNat)))) [])) 0) len
   | _=>.fail
  | .cp ds off=>boundE (hi.map (ev s)) (fun h=>boundE (lo.map (ev s)) (fun i=>.side (0≤i∧i≤h∧h≤len∧off+len≤ds.length) (.ret (.d (.slice 1 ((ds.drop (off+i.toNat)).take (h.toNat - i.toNat)))) [])) 0) len
  | .gp g off=>match gfind g (Laid.vars P) with
   | some ds=>boundE (hi.map (ev s)) (fun h=>boundE (lo.map (ev s)) (fun i=>.side (0≤i∧i≤h∧h≤len∧off+len≤ds.length) (.ret (.d (.slice 1 ((ds.drop (off+i.toNat)).take (h.toNat - i.toNat)))) [])) 0) len
   | none=>.fail
  | _=>.fail
 | .slv len x lo hi=>match ev s x with
  | .ptr id off=>boundE (hi.map (ev s)) (fun h=>boundE (lo.map (ev s)) (fun i=>.side (0≤i∧i < len∧i≤h∧h≤len) (.ret (.bv id (off+i.toNat) (h.toNat - i.toNat)) [])) 0) len
  | _=>.fail
 | .rng r x=>.rd r fun o=>match o with
  | .none=>match ev s x with
   | .d (.str l)=>.ret (.it r) [(r,.sit l 0)]
   | _=>.fail
  | _=>.fail
 | .nxt x=>match ev s x with
  | .it id=>.rd id fun o=>match o with
   | .sit l pos=>.exL fun ds=>.exI fun p=>.side ((pos < l.length∧ds=[.bool true,.int .i64 pos,.int .i32 (decA l pos).1]∧p=(pos+(decA l pos).2:Nat))∨(l.length≤pos∧ds=[.bool false]∧p=(pos:Nat)))
    (.ret (.tup (dcells ds)) [(id,.sit l p.toNat)])
   | _=>.fail
  | _=>.fail
 | .i2s x=>match ev s x with
  | .d (.int _ k)=>.exD fun d=>.side (d=.str (Utf8.encode k).data.toList) (.ret (.d d) [])
  | _=>.fail
 | .alt r t cs=>.rd r fun o=>match o with
  | .none=>.ret (.tp r 0) [(r,.tbox t cs)]
  | _=>.fail
 | .aps r t x y=>match ev s y with
  | .d (.str l)=>match ev s x with
   | .nils _=>.rd r fun o=>match o with
    | .none=>.side (l.length≤140737488355328) (.ret (.bs r l.length) [(r,.brow t l)])
    | _=>.fail
   | .bs id n=>.rd id fun o=>match o with
    | .brow t' bs=>.side (t'=t∧bs.length=n∧n+l.length≤140737488355328) (.ret (.bs id (bs++l).length) [(id,.brow t' (bs++l))])
    | _=>.fail
   | _=>.fail
  | _=>.fail
 | .usd x=>match ev s x with
  | .bs id n=>.rd id fun o=>match o with
   | .brow _ bs=>.side (bs.length=n∧0 < n) (.ret (.bp id n) [])
   | _=>.fail
  | _=>.fail
 | .ust t x m=>match ev s x,ev s m with
  | .bp id n,.d (.int .i64 k)=>.rd id fun o=>match o with
   | .brow t' bs=>.side (t'=t∧bs.length=n∧k=(n:Int)∧0 < n∧n≤140737488355328) (.ret (.d (.str bs)) [(id,.brow t' bs)])
   | _=>.fail
  | _,_=>.fail
 | .s2a n x=>match ev s x with
  | .bv id off m=>.side (n≤m) (.ret (.ptr id off) [])
  | v=>pv v fun y ws=>match y with
  | .d (.slice 1 es)=>.side (n≤es.length) (.ret (.cp (flatC (es.take n)) 0) ws)
  | _=>.fail
 | .mkm r=>.rd r fun o=>match o with
  | .none=>.ret (.mp r) [(r,.mapo [])]
  | _=>.fail
 | .lkp ck zero comma x k=>match ev s k with
  | .d kd=>match ev s x with
   | .mp id=>.rd id fun o=>match o with
    | .mapo es=>.exL fun ds=>.side (keyD ck kd=true∧keysOk ck es=true∧((∃ y,findM kd es=some y∧ds=[y,.bool true])∨(findM kd es=none∧ds=[zero,.bool false])))
     (match comma,ds with
     | true,ds=>.ret (.tup (dcells ds)) []
     | false,[y,_]=>.ret (.d y) []
     | _,_=>.fail)
    | _=>.fail
   | _=>.fail
  | _=>.fail
 | .mpu ck x k v=>match ev s k with
  | .d kd=>pv (ev s v) fun u ws=>match u with
   | .d vd=>match ev s x with
    | .mp id=>.rd id fun o=>match o with
     | .mapo es=>.side (keyD ck kd=true∧keysOk ck es=true) (.ret .undef (ws++[(id,.mapo (putM kd vd es))]))
     | _=>.fail
    | _=>.fail
   | _=>.fail
  | _=>.fail
 | .lkps ks zero comma x k=>match keyV (ev s k) with
  | some kd=>match ev s x with
   | .mp id=>.rd id fun o=>match mapE o with
    | some es=>.exL fun ds=>.side (keyS ks kd=true∧keysOkS ks es=true∧((∃ y,findM kd es=some y∧ds=[y,.bool true])∨(findM kd es=none∧ds=[zero,.bool false])))
     (match comma,ds with
     | true,ds=>.ret (.tup (dcells ds)) []
     | false,[y,_]=>.ret (.d y) []
     | _,_=>.fail)
    | none=>.fail
   | _=>.fail
  | none=>.fail
 | .mpus ks x k v=>match keyV (ev s k) with
  | some kd=>pv (ev s v) fun u ws=>match u with
   | .d vd=>match ev s x with
    | .mp id=>.rd id fun o=>match o with
     | .mapo es=>.side (keyS ks kd=true∧keysOkS ks es=true) (.ret .undef (ws++[(id,.mapo (putM kd vd es))]))
     | _=>.fail
    | _=>.fail
   | _=>.fail
  | none=>.fail
 | .rngm r x=>.rd r fun o=>match o with
  | .none=>match ev s x with
   | .mp id=>.rd id fun o=>match o with
    | .mapo es=>.ret (.mi r) [(id,.mapf es),(r,.mit id .start es)]
    | .mapf es=>.ret (.mi r) [(r,.mit id .start es)]
    | _=>.fail
   | _=>.fail
  | _=>.fail
 | .nxm x=>match ev s x with
  | .mi id=>.rd id fun o=>match o with
   | .mit m cur left=>match cur,left with
    | .pend,_=>.fail
    | _,[]=>.ret (.tup [.d (.bool false)]) []
    | _,p::l=>.ret (.tup [.d (.bool true),.undef,.undef]) [(id,.mit m .pend (p::l))]
   | _=>.fail
  | _=>.fail
 | .ent x=>match ev s x with
  | .mi id=>.rd id fun o=>match o with
   | .mit _ (.here k v) _=>.ret (.tup [.d k,.d v]) []
   | _=>.fail
  | _=>.fail
 | .sln sz x hi mx=>match ev s hi,ev s mx with
  | .d (.int _ h),.d (.int _ u)=>match ev s x with
   | .d (.slice sz' es)=>.side (sz'=sz∧0≤h∧u=h∧h≤es.length) (.ret (.dc sz (es.take h.toNat)) [])
   | .nils sz'=>.side (sz'=sz∧h=0∧u=0) (.ret (.dc sz []) [])
   | _=>.fail
  | _,_=>.fail
 | .lenm x=>match ev s x with
  | .mp id=>.rd id fun o=>match o with
   | .mapo es=>.ret (.d (.int .i64 es.length)) []
   | _=>.fail
  | _=>.fail
end Vc
namespace Vc
open Go Go.RowKit
inductive AExit where
 | normal
 | exit (id:Nat)
 | ret
def forceV (v:AVal) (K:AVal→Prop):Prop :=
 match v with
 | .d (.int k n)=>K (.d (.int k n))
 | .d (.bool b)=>K (.d (.bool b))
 | .d (.str l)=>K (.d (.str l))
 | .d (.agg cs)=>K (.d (.agg cs))
 | .d (.slice sz es)=>K (.d (.slice sz es))
 | .d (.fn f cs)=>K (.d (.fn f cs))
 | .nils sz=>K (.nils sz)
 | .sl id n=>K (.sl id n)
 | .ptr id off=>K (.ptr id off)
 | .ep id n i off=>K (.ep id n i off)
 | .cp cs off=>K (.cp cs off)
 | .mp id=>K (.mp id)
 | .it id=>K (.it id)
 | .fn f a b=>K (.fn f a b)
 | .agg vs=>K (.agg vs)
 | .tup vs=>K (.tup vs)
 | .undef=>K .undef
 | .gone=>K .gone
 | .anyn neg es=>K (.anyn neg es)
 | .bv id off n=>K (.bv id off n)
 | .yld id=>K (.yld id)
 | .gp g off=>K (.gp g off)
 | .nilp=>K .nilp
 | .tp id off=>K (.tp id off)
 | .bs id n=>K (.bs id n)
 | .bp id n=>K (.bp id n)
 | .bw id n=>K (.bw id n)
 | .rv id n i j=>K (.rv id n i j)
 | .mi id=>K (.mi id)
 | .dc sz es=>K (.dc sz es)
theorem forceV_eq (v:AVal) (K:AVal→Prop):forceV v K=K v:=by
 unfold forceV
 split <;> rfl
def forceL:List (Nat × AVal)→(List (Nat × AVal)→Prop)→Prop
 | [],K=>K []
 | (i,v)::r,K=>forceL r fun r'=>K ((i,v)::r')
theorem forceL_eq:∀ (l:List (Nat × AVal)) (K:List (Nat × AVal)→Prop),forceL l K=K l
 | [],_=>rfl
 | (i,v)::r,K=>by simp only [forceL]; exact forceL_eq r _
def forceH:List AObj→(List AObj→Prop)→Prop
 | [],K=>K []
 | .none::r,K=>forceH r fun r'=>K (.none::r')
 | .row t sz es fz::r,K=>forceH r fun r'=>K (.row t sz es fz::r')
 | .box cs::r,K=>forceH r fun r'=>K (.box cs::r')
 | .cbox ds::r,K=>forceH r fun r'=>K (.cbox ds::r')
 | .mapo es::r,K=>forceH r fun r'=>K (.mapo es::r')
 | .sit l p::r,K=>forceH r fun r'=>K (.sit l p::r')
 | .tbox t cs::r,K=>forceH r fun r'=>K (.tbox t cs::r')
 | .brow t bs::r,K=>forceH r fun r'=>K (.brow t bs::r')
 | .lp s p n sl ps a b ck::r,K=>forceH r fun r'=>K (.lp s p n sl ps a b ck::r')
 | .mapf es::r,K=>forceH r fun r'=>K (.mapf es::r')
 | .mit m c l::r,K=>forceH r fun r'=>K (.mit m c l::r')
theorem forceH_eq:∀ (l:List AObj) (K:List AObj→Prop),forceH l K=K l
 | [],_=>rfl
 | o::r,K=>by cases o <;> (simp only [forceH]; exact forceH_eq r _)
def applyW:List AObj→List (Nat × AObj)→List AObj
 | h,[]=>h
 | h,(i,o)::r=>applyW (h.set i o) r
def putL (s:List (Nat × AVal)) (d:Option Nat) (v:AVal):List (Nat × AVal) :=
 match d with
 | none=>s
 | some d=>setL s d v
def brk (b:Bool) (x y:Prop):Prop :=
 match b with
 | true=>x
 | false=>y
theorem b_intro {b:Bool} {x y:Prop} (h1:b=true→x) (h2:b=false→y):brk b x y:=by
 cases b
 ·exact h2 rfl
 ·exact h1 rfl
theorem b_t {b:Bool} {x y:Prop} (h:b=true) (hx:x):brk b x y:=by subst h; exact hx
theorem b_f {b:Bool} {x y:Prop} (h:b=false) (hy:y):brk b x y:=by subst h; exact hy
structure Acc where
 rs:List Nat
 ws:List Nat
def wids:List (Nat × AObj)→List Nat
 | []=>[]
 | (i,_)::r=>i::wids r
def vdo (P:Program) [Laid P] (o:AOper) (st:St) (K:St→Acc→Prop):Prop :=
 runE (eff P (getL st.slots) o.op) st.heap fun v ws rs=>forceV v fun v=>forceL (putL st.slots o.dst v) fun sl=>forceH (applyW st.heap ws) fun h=>K ⟨sl,h⟩ ⟨rs,wids ws⟩
def vskip (o:AOper) (st:St) (K:St→Acc→Prop):Prop :=
 forceL (putL st.slots o.dst .gone) fun sl=>K ⟨sl,st.heap⟩ ⟨[],[]⟩
def vop (P:Program) [Laid P] (o:AOper) (st:St) (K:St→Acc→Prop):Prop :=
 match o.guard with
 | none=>vdo P o st K
 | some (g,want)=>match getL st.slots g with
  | .d (.bool b) => brk b
    (forceL (setL st.slots g (.d (.bool true))) fun sl=>match want with
     | true=>vdo P o ⟨sl,st.heap⟩ K
     | false=>vskip o ⟨sl,st.heap⟩ K)
    (forceL (setL st.slots g (.d (.bool false))) fun sl=>match want with
     | true=>vskip o ⟨sl,st.heap⟩ K
     | false=>vdo P o ⟨sl,st.heap⟩ K)
  | .gone=>vskip o st K
  | _=>False
def vops (P:Program) [Laid P]:List AOper→St→List Acc→(St→List Acc→Prop)→Prop
 | [],st,acc,K=>K st acc
 | o::r,st,acc,K=>vop P o st fun st' a=>vops P r st' (a::acc) K
mutual
def noRefV (id:Nat):AVal→Bool
 | .d _ | .nils _ | .cp _ _ | .undef | .gone | .anyn _ _ | .gp _ _ | .nilp | .dc _ _=>true
 | .rv i _ _ _ | .sl i _ | .ptr i _ | .ep i _ _ _ | .mp i | .it i | .bv i _ _ | .yld i | .tp i _ | .bs i _ | .bp i _ | .bw i _ | .mi i=>!Nat.beq i id
 | .fn _ a b=>noRefVs id a&&noRefVs id b
 | .agg vs | .tup vs=>noRefVs id vs
def noRefVs (id:Nat):List AVal→Bool
 | []=>true
 | v::vs=>noRefV id v&&noRefVs id vs
end
def noRefS (id:Nat):List (Nat × AVal)→Bool
 | []=>true
 | (_,v)::r=>noRefV id v&&noRefS id r
def noRefO (id:Nat):AObj→Bool
 | .box cs=>noRefVs id cs
 | .tbox _ cs=>noRefVs id cs
 | .lp _ _ _ sl _ _ _ _=>noRefS id sl
 | .mit m _ _=>!Nat.beq m id
 | _=>true
def noRefH (id:Nat):List AObj→Bool
 | []=>true
 | o::r=>noRefO id o&&noRefH id r
def clear:List Nat→St→(St→Prop)→Prop
 | [],st,K=>K st
 | r::rs,st,K=>match noRefS r st.slots&&noRefH r st.heap with
  | true=>forceH (st.heap.set r .none) fun h=>clear rs ⟨st.slots,h⟩ K
  | false=>clear rs st K
def keepL (ks:List Nat):List (Nat × AVal)→List (Nat × AVal)
 | []=>[]
 | (i,v)::r=>bif ks.any (Nat.beq i) then (i,v)::keepL ks r else keepL ks r
def meets (a b:List Nat):Bool:=a.any fun x=>b.any (Nat.beq x)
def accOk2 (x y:Option Acc):Bool :=
 match x,y with
 | some x,some y=>!(meets x.ws y.rs||meets x.ws y.ws||meets x.rs y.ws)
 | _,_=>true
def accOk (un:List (Nat × Nat)) (acc:List Acc):Bool:=un.all fun (i,j)=>accOk2 acc[i]? acc[j]?
def Fw (r:Option Nat):Fence:={ Fence.wide with round:=r }
def postA (n base:Nat) (w0:W0) (Q:AExit→St→Prop):Exit→Act→World→Prop:=fun e a w =>
 ∃ G st,Rel n base w0 G st a w∧match e with
  | .normal=>Q .normal st
  | .exit i=>Q (.exit i) st
  | .ret=>Q .ret st
  | _=>False
def T (P:Program) [Laid P] (n:Nat) (C:Nat→Prop) (r:Option Nat) (c:Code) (st:St) (Q:AExit→St→Prop):Prop :=
 ∀ base w0 G a w,W0Ok P w0→(∀ id,C id→w0.h1[id]?=none∨w0.h1[id]?=some .none)→Rel n base w0 G st a w→c.wpIn (Fw r) 0 P (postA n base w0 Q) a w
def clrsIn (C:Nat→Prop):ACode→Prop
 | .keep _ gs c | .post _ gs c=>(∀ g∈gs,C g)∧clrsIn C c
 | .asrow _ _ _ _ c=>clrsIn C c
 | .asdat _ c=>clrsIn C c
 | .pick _ c=>clrsIn C c
 | .mvr a _ _ c=>C a∧clrsIn C c
 | .reg cl _ | .regd cl _ _=>∀ g∈cl,C g
 | .seq a b | .cond _ a b=>clrsIn C a∧clrsIn C b
 | .block _ c | .loop c | .scope c=>clrsIn C c
 | .rfor r _ _ a b=>C r∧clrsIn C a∧clrsIn C b
 | .skip | .exit _ | .ret | .dead=>True
def noRfor:ACode→Bool
 | .keep _ _ c | .post _ _ c | .asrow _ _ _ _ c | .asdat _ c | .pick _ c | .mvr _ _ _ c | .block _ c | .loop c | .scope c=>noRfor c
 | .seq a b | .cond _ a b=>noRfor a&&noRfor b
 | .rfor ..=>false
 | .reg .. | .regd .. | .skip | .exit _ | .ret | .dead=>true
def TA (P:Program) [Laid P] (n:Nat) (x:ACode) (st:St) (Q:AExit→St→Prop):Prop :=
 ∀ C r c,chk P n c x=true→clrsIn C x→(r=none∨noRfor x=true)→T P n C r c st Q
def rforEnd (r:Nat) (h':List AObj) (sl:List (Nat × AVal)) (Q:AExit→St→Prop):Prop :=
 match h'[r]? with
 | some (.lp s pend m sl' ps xa xb ck)=>s≠.busy∧clear [r] ⟨sl,h'.set r (.lp .exhausted pend m sl' ps xa xb ck)⟩ fun st=>match pend with
  | none=>Q .normal st
  | some .ret=>Q .ret st
  | some (.exit i)=>Q (.exit i) st
 | _=>False
def vc (P:Program) [Laid P] (n:Nat):ACode→St→(AExit→St→Prop)→Prop
 | .skip,st,Q=>Q .normal st
 | .reg clr ops,st,Q=>clear clr st fun st=>vops P ops st [] fun st _=>Q .normal st
 | .regd clr ops un,st,Q=>clear clr st fun st=>vops P ops st [] fun st acc=>match accOk un acc.reverse with
  | true=>Q .normal st
  | false=>False
 | .seq a b,st,Q=>vc P n a st fun e st'=>match e with
  | .normal=>vc P n b st' Q
  | .exit i=>Q (.exit i) st'
  | .ret=>Q .ret st'
 | .cond c a b,st,Q=>match ev (getL st.slots) c with
  | .d (.bool x)=>brk x (vc P n a st Q) (vc P n b st Q)
  | .anyn false es=>(es=[]→vc P n a st Q)∧vc P n b st Q
  | .anyn true es=>(es=[]→vc P n b st Q)∧vc P n a st Q
  | _=>False
 | .block id c,st,Q=>vc P n c st fun e st'=>match e with
  | .exit i=>bif Nat.beq i id then Q .normal st' else Q (.exit i) st'
  | .normal=>Q .normal st'
  | .ret=>Q .ret st'
 | .loop c,st,Q=>TA P n (.loop c) st Q
 | .exit i,st,Q=>Q (.exit i) st
 | .scope c,st,Q=>vc P n c st Q
 | .ret,st,Q=>Q .ret st
 | .dead,_,_=>False
 | .keep ks gs c,st,Q=>forceL (keepL ks st.slots) fun sl=>clear gs ⟨sl,st.heap⟩ fun st=>vc P n c st Q
 | .post ks gs c,st,Q=>vc P n c st fun e st'=>match e with
  | .normal=>forceL (keepL ks st'.slots) fun sl=>clear gs ⟨sl,st'.heap⟩ fun st=>Q .normal st
  | .exit i=>Q (.exit i) st'
  | .ret=>Q .ret st'
 | .asrow r t sz s c,st,Q=>match getL st.slots s,st.heap[r]? with
  | .nils _,some .none=>forceL (setL st.slots s (.sl r 0)) fun sl=>forceH (st.heap.set r (.row t sz [] false)) fun h=>vc P n c ⟨sl,h⟩ Q
  | _,_=>vc P n c st Q
 | .asdat s c,st,Q=>match getL st.slots s with
  | .sl id m=>match st.heap[id]? with
   | some (.row t sz es _)=>match Nat.beq es.length m with
    | true=>forceL (setL st.slots s (.d (.slice sz es))) fun sl=>forceH (st.heap.set id (.row t sz es true)) fun h=>vc P n c ⟨sl,h⟩ Q
    | false=>vc P n c st Q
   | _=>vc P n c st Q
  | .ptr id off=>match st.heap[id]? with
   | some (.box cs)=>match cs[off]? with
    | some (.sl r m)=>match st.heap[r]? with
     | some (.row t sz es _)=>match Nat.beq es.length m with
      | true=>forceH ((st.heap.set r (.row t sz es true)).set id (.box (cs.set off (.d (.slice sz es))))) fun h=>vc P n c ⟨st.slots,h⟩ Q
      | false=>vc P n c st Q
     | _=>vc P n c st Q
    | some (.nils sz)=>forceH (st.heap.set id (.box (cs.set off (.d (.slice sz []))))) fun h=>vc P n c ⟨st.slots,h⟩ Q
    | _=>match allD cs with
     | some ds=>forceH (st.heap.set id (.cbox ds)) fun h=>vc P n c ⟨st.slots,h⟩ Q
     | none=>vc P n c st Q
   | _=>vc P n c st Q
  | .bv id 0 m=>match st.heap[id]? with
   | some (.box cs)=>match allD cs with
    | some ds=>match Nat.beq ds.length m with
     | true=>forceL (setL st.slots s (.d (.slice 1 ds))) fun sl=>forceH (st.heap.set id (.cbox ds)) fun h=>vc P n c ⟨sl,h⟩ Q
     | false=>vc P n c st Q
    | none=>vc P n c st Q
   | _=>vc P n c st Q
  | _=>vc P n c st Q
 | .pick id c,st,Q=>match st.heap[id]? with
  | some (.mit m .pend left)=>∀ l1 k v l2,left=l1++(k,v)::l2→forceH (st.heap.set id (.mit m (.here k v) (l1++l2))) fun h=>vc P n c ⟨st.slots,h⟩ Q
  | _=>vc P n c st Q
 | .mvr x y s c,st,Q=>match getL st.slots s,st.heap[x]?,st.heap[y]? with
  | .sl x' m,some (.row t sz es fz),some .none=>match Nat.beq x' x&&!Nat.beq x y&&noRefS x (setL st.slots s .undef)&&noRefH x st.heap with
   | true=>forceL (setL st.slots s (.sl y m)) fun sl=>forceH ((st.heap.set x .none).set y (.row t sz es fz)) fun h=>vc P n c ⟨sl,h⟩ Q
   | false=>vc P n c st Q
  | _,_,_=>vc P n c st Q
 | .rfor r f ps xa xb,st,Q=>match funOf (ev (getL st.slots) f),st.heap[r]? with
  | some (g,first,caps),some .none=>∃ v h',CallIn P g (first++.yld r::caps) (st.heap.set r (.lp .ready none n st.slots ps xa xb (ckP P n xa xb))) v h'∧rforEnd r h' st.slots Q
  | _,_=>False
end Vc
