import Derived.Test.YthociffnlhdenaaGreatDoorG07
import Derived.Test.YthociffnlhdenaaGreatDoorG21
import Derived.Test.YthociffnlhdenaaGreatDoorCards
import Derived.Test.YthociffnlhdenaaGreatDoorTie
import Derived.WalkKit
import Derived.ProofKit
import Derived.Deep.DeepHandedRow
import Derived.Lib.LaidTab
import Derived.Lib.LaidU8
import Derived.LaidHandle
import Derived.LaidMore
set_option linter.unusedSectionVars false
set_option linter.unusedVariables false
set_option linter.unusedSimpArgs false
set_option maxRecDepth 100000
namespace Go.Proofs.YthociffnlhdenaaGreatDoor
open Go.ChangeShapes Go.WideShapes Go.ChangeAt Go.RowKit Vc
def msC:List CT:=[.sl false [.str],.sl true [.int .i64,.int .i64,.int .i64]]
def stC:List CT:=[.int .i64,.int .i64,.sl true [.int .i64,.int .i64,.int .i64]]
theorem own:ownKnob Tryz.prog.godebug=none:=by kernel_rfl
mutual
theorem bulk_le {H:Type}:∀ (d:DataW H),bulk d≤Rows.uptoBulk d
 | .lit l=>by cases l <;> simp [bulk,Rows.uptoBulk]
 | .nil=>by simp [bulk,Rows.uptoBulk]
 | .ptr d=>by have:=bulk_le d; simp only [bulk,Rows.uptoBulk]; omega
 | .slice a b=>by have:=bulks_le a; have:=bulks_le b; simp only [bulk,Rows.uptoBulk]; omega
 | .agg a=>by have:=bulks_le a; simp only [bulk,Rows.uptoBulk]; omega
 | .iface _ d=>by have:=bulk_le d; simp only [bulk,Rows.uptoBulk]; omega
 | .map _=>by simp [bulk]
 | .held _=>by simp [bulk,Rows.uptoBulk]
theorem bulks_le {H:Type}:∀ (l:List (DataW H)),bulks l≤Rows.uptoBulkAll l
 | []=>by simp [bulks]
 | d::r=>by have:=bulk_le d; have:=bulks_le r; simp only [bulks,Rows.uptoBulkAll]; omega
end
def laidCells:Nat→DataW Unit→List Value
 | _,.lit (.int k n)=>[.int k n]
 | _,.lit (.bool b)=>[.bool b]
 | n+1,.agg l=>l.flatMap (laidCells n)
 | _,_=>[]
noncomputable def layRow (g:Nat) (cs:List Value) (w:World):World :=
 { w with heap := w.heap.modify g fun
   | .cells _ t frozen=>.cells cs.toArray t frozen
   | o=>o }
noncomputable def layAt (g:Nat) (d:DataW Unit) (w:World):World:=layRow g (laidCells 5 d) w
noncomputable def laidWorld (os:Os):World :=
 layAt 6 Rows.laid_math_bits_deBruijn32tab (layAt 7 Rows.laid_math_bits_deBruijn64tab (layAt 2 Rows.laid_internal_strconv_uint64pow10 (layAt 0 Rows.laid_kilovar_mesh_bare
  (layRow 1 [.string ⟨#[110,111,100,101]⟩,.func (.func 218) #[] #[],.string ⟨#[108,105,110,107]⟩,.func (.func 219) #[] #[]] (World.holding Tryz.prog os ⟨#[],#[],[]⟩)))))
theorem laidOut:laidOutB Tryz.prog=true:=by kernel_rfl
theorem may0:Tryz.pinned.checked.prog.mayEnter=true:=by kernel_rfl
theorem out0:laidOutB Tryz.pinned.checked.prog=true:=by kernel_rfl
theorem lift0:(Rows.meshStatesUptoRow.lifted==Tryz.pinned.checked.prog.liftsFinal)=true:=by kernel_rfl
theorem reads_plain {P:Program} {L:List (String × DataW Unit)} {W:World} (h:laidMetH P L W) {n:String} {d:DataW Unit} (hm:(n,d)∈L) (hd:d.handleName?.isNone=true):Go.Lib.VarReads P W n d:=by
 unfold laidMetH at h
 split at h
 ·exact Go.Lib.laidMet.reads h hm
 ·exact Go.Lib.laidMet.reads h.1 (List.mem_filter.2 ⟨hm,hd⟩)
theorem bare_cells {L:List (String × DataW Unit)} {W:World} (h:laidMetH Tryz.prog L W) (hm:("kilovar/mesh.bare",Rows.laid_kilovar_mesh_bare)∈L):∀ off,W.cell? ⟨0,off,none⟩=[Value.int .i64 0,.int .i64 0,.int .i64 (-1)][off]?:=by
 obtain ⟨g,t,cs,fuel,p,h1,h2,h3,h4⟩:=reads_plain h hm rfl
 have eg:g=0:=Option.some.inj (h1.symm.trans (show Tryz.prog.globalNamed "kilovar/mesh.bare" = some 0 by kernel_rfl))
 subst eg
 have et:t=105:=Option.some.inj (h2.symm.trans (show (Tryz.prog.globals[0]?).map (·.type)=some 105 by kernel_rfl))
 subst et
 have hc:cs.toList=[Value.int .i64 0,.int .i64 0,.int .i64 (-1)]:=Go.Lib.ints_of_struct (zs:=[0,0,-1]) Tryz.underlying105 (fun i f hf=>by
  match i,hf with
  | 0,hf=>cases hf; exact ⟨Tryz.underlying3,rfl,by kernel_rfl⟩
  | 1,hf=>cases hf; exact ⟨Tryz.underlying3,rfl,by kernel_rfl⟩
  | 2,hf=>cases hf; exact ⟨Tryz.underlying3,rfl,by kernel_rfl⟩
  | _+3,hf=>cases hf) (by kernel_rfl) h4
 intro off
 rw [World.var?_cell h1 h3 off,← hc]
 simp
theorem arr_two {W : World} {fuel : Nat} {t e : TypeId} {cs : List Value} {x : DataW (List UInt8) × List MemPlace} (ht : Tryz.prog.underlying t = some (.array 2 e))
  (h:DataW.trod (funcToken Tryz.prog) Tryz.prog W 0 (fun _=>true) true fuel t cs=some x) :
  ∃ (xs:List (DataW (List UInt8) × List MemPlace)) (m:Nat),fuel=m+1∧x=(.agg (xs.map (·.1)),xs.flatMap (·.2))∧cs.length=Tryz.prog.cellsOf t∧xs.length=2 ∧
   ∀ (i:Nat),i < 2→DataW.trod (funcToken Tryz.prog) Tryz.prog W 0 (fun _=>true) true m e ((cs.drop (i * Tryz.prog.cellsOf e)).take (Tryz.prog.cellsOf e))=xs[i]?:=by
 cases fuel with
 | zero=>simp [DataW.trod] at h
 | succ m =>
  simp only [DataW.trod,ht] at h
  split at h
  ·rename_i hl
   obtain ⟨xs,hm,hx⟩:=Option.map_eq_some_iff.1 h
   refine ⟨xs,m,rfl,hx.symm,hl,?_,fun i hi=>?_⟩
   ·rw [Go.Lib.mapM_length hm,List.length_range]
   ·obtain ⟨b,hb,hf⟩:=Go.Lib.mapM_at hm i i (by rw [List.getElem?_range hi])
    rw [hb]; exact hf
  ·cases h
theorem form_cells {W : World} {fuel : Nat} {cs : List Value} {w : List UInt8} {b : UInt8} {r : List UInt8} {f0 : FuncId} {q : List MemPlace}
  (hone:((List.range Tryz.prog.funcs.size).filter fun f=>(Tryz.prog.funcs[f]?).any (·.name.toUTF8.data.toList==b::r))=[f0])
  (h:DataW.trod (funcToken Tryz.prog) Tryz.prog W 0 (fun _=>true) true fuel 196 cs=some (.agg [.lit (.string w),.held (b::r)],q)):cs=[.string ⟨w.toArray⟩,.func (.func f0) #[] #[]]:=by
 obtain ⟨xs,n,rfl,hx,hl,hxl,hall⟩:=DataW.trod_struct Tryz.underlying196 h
 have hl:cs.length=2:=hl.trans (by kernel_rfl)
 have hxl:xs.length=2:=hxl
 match cs,hl,xs,hxl,hx,hall with
 | [c0,c1],_,[x0,x1],_,hx,hall =>
  simp only [List.map_cons,List.map_nil,Prod.mk.injEq,DataW.agg.injEq,List.cons.injEq,and_true] at hx
  obtain ⟨⟨e0,e1⟩,_⟩:=hx
  have h0:=hall 0 _ rfl
  have h1:=hall 1 _ rfl
  have h0:DataW.trod (funcToken Tryz.prog) Tryz.prog W 0 (fun _=>true) true n 9 [c0]=some x0:=h0
  have h1:DataW.trod (funcToken Tryz.prog) Tryz.prog W 0 (fun _=>true) true n 194 [c1]=some x1:=h1
  obtain ⟨s,hs,rfl,_⟩:=DataW.trod_string Tryz.underlying9 h0
  simp only [DataW.lit.injEq,Lit.string.injEq] at e0
  have e2:x1=(.held (b::r),x1.2):=by rw [e1]
  rw [e2] at h1
  have hf:=Go.func_of_trod Tryz.underlying194 hone h1
  rw [hf,(List.cons.inj hs).1,e0]
theorem forms_cells {L : List (String × DataW Unit)} {W : World} (h : laidMetH Tryz.prog L W) (hm : ("kilovar/mesh.forms", Rows.laid_kilovar_mesh_forms) ∈ L) :
  ∀ off,W.cell? ⟨1,off,none⟩=[Value.string ⟨#[110,111,100,101]⟩,.func (.func 218) #[] #[],.string ⟨#[108,105,110,107]⟩,.func (.func 219) #[] #[]][off]?:=by
 obtain ⟨g,t,cs,fuel,p,h1,h2,h3,h4⟩:=laidMetH.funcs h hm
 have eg:g=1:=Option.some.inj (h1.symm.trans (show Tryz.prog.globalNamed "kilovar/mesh.forms" = some 1 by kernel_rfl))
 subst eg
 have et:t=197:=Option.some.inj (h2.symm.trans (show (Tryz.prog.globals[1]?).map (·.type)=some 197 by kernel_rfl))
 subst et
 obtain ⟨xs,n,rfl,hx,hl,hxl,hall⟩:=arr_two Tryz.underlying197 h4
 have hl:cs.toList.length=4:=hl.trans (by kernel_rfl)
 have hc:∀ i,i < 2→DataW.trod (funcToken Tryz.prog) Tryz.prog W 0 (fun _=>true) true n 196 ((cs.toList.drop (i * 2)).take 2)=xs[i]?:=fun i hi=>by
  have h:=hall i hi
  rwa [show Tryz.prog.cellsOf 196=2 by kernel_rfl] at h
 generalize hcs:cs.toList=l at hl hc
 match l,hl,xs,hxl,hx,hc with
 | [c0,c1,c2,c3],_,[x0,x1],_,hx,hc =>
  have hx:=congrArg Prod.fst hx
  have hx:(DataW.agg [.agg [.lit (.string [110,111,100,101]),.held [107,105,108,111,118,97,114,47,109,101,115,104,46,114,101,97,100,78,111,100,101]],.agg [.lit (.string [108,105,110,107]),.held [107,105,108,111,118,97,114,47,109,101,115,104,46,114,101,97,100,76,105,110,107]]]:DataW (List UInt8))=.agg [x0.1,x1.1]:=hx
  simp only [DataW.agg.injEq,List.cons.injEq,and_true] at hx
  obtain ⟨e0,e1⟩:=hx
  have k0:DataW.trod (funcToken Tryz.prog) Tryz.prog W 0 (fun _=>true) true n 196 [c0,c1]=some (.agg [.lit (.string [110,111,100,101]),.held [107,105,108,111,118,97,114,47,109,101,115,104,46,114,101,97,100,78,111,100,101]],x0.2):=by rw [e0]; exact hc 0 (by decide)
  have k1:DataW.trod (funcToken Tryz.prog) Tryz.prog W 0 (fun _=>true) true n 196 [c2,c3]=some (.agg [.lit (.string [108,105,110,107]),.held [107,105,108,111,118,97,114,47,109,101,115,104,46,114,101,97,100,76,105,110,107]],x1.2):=by rw [e1]; exact hc 1 (by decide)
  have f0:=form_cells (f0:=218) (by kernel_rfl) k0
  have f1:=form_cells (f0:=219) (by kernel_rfl) k1
  intro off
  rw [World.var?_cell h1 h3 off]
  obtain ⟨a0,a1,_⟩:=List.cons.inj f0
  cases f0
  cases f1
  rw [← Array.getElem?_toList,hcs]
theorem glob {L : List (String × DataW Unit)} {W : World} (h : laidMetH Tryz.prog L W) (hb : ("kilovar/mesh.bare", Rows.laid_kilovar_mesh_bare) ∈ L) (hf : ("kilovar/mesh.forms", Rows.laid_kilovar_mesh_forms) ∈ L) :
  ∀ p∈Vc.Laid.vars Tryz.prog,DCs W (Old W) p.2 p.1 0:=by
 have cb:=bare_cells h hb
 have cf:=forms_cells h hf
 have s0:0 < W.heap.size:=by
  have h0:=cb 0
  exact Classical.byContradiction fun hn=>by
   unfold World.cell? at h0
   rw [Array.getElem?_eq_none (show W.heap.size≤0 by omega)] at h0
   cases h0
 have s1:1 < W.heap.size:=by
  have h0:=cf 0
  exact Classical.byContradiction fun hn=>by
   unfold World.cell? at h0
   rw [Array.getElem?_eq_none (show W.heap.size≤1 by omega)] at h0
   cases h0
 intro p hp
 rcases List.mem_cons.1 hp with rfl | hp
 ·show DCs W (Old W) bareD 0 0
  unfold bareD
  simp only [DCs,DRel]
  exact ⟨rfl,s0,⟨_,cb 0,rfl⟩,rfl,s0,⟨_,cb 1,rfl⟩,rfl,s0,⟨_,cb 2,rfl⟩,trivial⟩
 ·rcases List.mem_cons.1 hp with rfl | hp
  ·show DCs W (Old W) formsD 1 0
   unfold formsD
   simp only [DCs,DRel,DCaps]
   exact ⟨rfl,s1,⟨_,cf 0,rfl⟩,rfl,s1,⟨_,cf 1,[],rfl,rfl⟩,rfl,s1,⟨_,cf 2,rfl⟩,rfl,s1,⟨_,cf 3,[],rfl,rfl⟩,trivial⟩
  ·cases hp
end Go.Proofs.YthociffnlhdenaaGreatDoor
