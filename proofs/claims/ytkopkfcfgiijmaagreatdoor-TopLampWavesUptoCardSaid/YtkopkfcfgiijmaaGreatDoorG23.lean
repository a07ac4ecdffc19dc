import Derived.Test.YtkopkfcfgiijmaaGreatDoorG06
import Derived.Test.YtkopkfcfgiijmaaGreatDoorG22
import Derived.Test.YtkopkfcfgiijmaaGreatDoorCards
import Derived.Test.YtkopkfcfgiijmaaGreatDoorTie
import Derived.WalkKit
import Derived.ProofKit
import Derived.Deep.DeepHandedRow
import Derived.Lib.LaidTab
import Derived.Lib.LaidU8
import Derived.LaidHandle
import Derived.LaidMore
set_option linter.unusedSectionVars false
set_option linter.unusedVariables false
set_option linter.unusedSimpArgs false
set_option maxRecDepth 100000
namespace Go.Proofs.YtkopkfcfgiijmaaGreatDoor
open Go.ChangeShapes Go.WideShapes Go.ChangeAt Go.RowKit Vc
def msC:List CT:=[.sl false [.str],.sl true [.int .i64,.int .i64,.int .i64]]
theorem own:ownKnob Tryz.prog.godebug=none:=by kernel_rfl
mutual
theorem bulk_le {H:Type}:∀ (d:DataW H),bulk d≤Rows.uptoBulk d
 | .lit l=>by cases l <;> simp [bulk,Rows.uptoBulk]
 | .nil=>by simp [bulk,Rows.uptoBulk]
 | .ptr d=>by have:=bulk_le d; simp only [bulk,Rows.uptoBulk]; omega
 | .slice a b=>by have:=bulks_le a; have:=bulks_le b; simp only [bulk,Rows.uptoBulk]; omega
 | .agg a=>by have:=bulks_le a; simp only [bulk,Rows.uptoBulk]; omega
 | .iface _ d=>by have:=bulk_le d; simp only [bulk,Rows.uptoBulk]; omega
 | .map _=>by simp [bulk]
 | .held _=>by simp [bulk,Rows.uptoBulk]
theorem bulks_le {H:Type}:∀ (l:List (DataW H)),bulks l≤Rows.uptoBulkAll l
 | []=>by simp [bulks]
 | d::r=>by have:=bulk_le d; have:=bulks_le r; simp only [bulks,Rows.uptoBulkAll]; omega
end
def laidCells:Nat→DataW Unit→List Value
 | _,.lit (.int k n)=>[.int k n]
 | _,.lit (.bool b)=>[.bool b]
 | n+1,.agg l=>l.flatMap (laidCells n)
 | _,_=>[]
noncomputable def layRow (g:Nat) (cs:List Value) (w:World):World :=
 { w with heap := w.heap.modify g fun
   | .cells _ t frozen=>.cells cs.toArray t frozen
   | o=>o }
noncomputable def layAt (g:Nat) (d:DataW Unit) (w:World):World:=layRow g (laidCells 5 d) w
noncomputable def laidWorld (os:Os):World:=layAt 0 Rows.laid_kilovar_mesh_bare (World.holding Tryz.prog os ⟨#[],#[],[]⟩)
theorem laidOut:laidOutB Tryz.prog=true:=by kernel_rfl
theorem may0:Tryz.pinned.checked.prog.mayEnter=true:=by kernel_rfl
theorem out0:laidOutB Tryz.pinned.checked.prog=true:=by kernel_rfl
theorem lift0:(Rows.topLampWavesUptoRow.lifted==Tryz.pinned.checked.prog.liftsFinal)=true:=by kernel_rfl
theorem reads_plain {P:Program} {L:List (String × DataW Unit)} {W:World} (h:laidMetH P L W) {n:String} {d:DataW Unit} (hm:(n,d)∈L) (hd:d.handleName?.isNone=true):Go.Lib.VarReads P W n d:=by
 unfold laidMetH at h
 split at h
 ·exact Go.Lib.laidMet.reads h hm
 ·exact Go.Lib.laidMet.reads h.1 (List.mem_filter.2 ⟨hm,hd⟩)
theorem bare_cells {L:List (String × DataW Unit)} {W:World} (h:laidMetH Tryz.prog L W) (hm:("kilovar/mesh.bare",Rows.laid_kilovar_mesh_bare)∈L):∀ off,W.cell? ⟨0,off,none⟩=[Value.int .i64 0,.int .i64 0,.int .i64 (-1)][off]?:=by
 obtain ⟨g,t,cs,fuel,p,h1,h2,h3,h4⟩:=reads_plain h hm rfl
 have eg:g=0:=Option.some.inj (h1.symm.trans (show Tryz.prog.globalNamed "kilovar/mesh.bare" = some 0 by kernel_rfl))
 subst eg
 have et:t=52:=Option.some.inj (h2.symm.trans (show (Tryz.prog.globals[0]?).map (·.type)=some 52 by kernel_rfl))
 subst et
 have hc:cs.toList=[Value.int .i64 0,.int .i64 0,.int .i64 (-1)]:=Go.Lib.ints_of_struct (zs:=[0,0,-1]) Tryz.underlying52 (fun i f hf=>by
  match i,hf with
  | 0,hf=>cases hf; exact ⟨Tryz.underlying3,rfl,by kernel_rfl⟩
  | 1,hf=>cases hf; exact ⟨Tryz.underlying3,rfl,by kernel_rfl⟩
  | 2,hf=>cases hf; exact ⟨Tryz.underlying3,rfl,by kernel_rfl⟩
  | _+3,hf=>cases hf) (by kernel_rfl) h4
 intro off
 rw [World.var?_cell h1 h3 off,← hc]
 simp
theorem glob {L : List (String × DataW Unit)} {W : World} (h : laidMetH Tryz.prog L W) (hb : ("kilovar/mesh.bare", Rows.laid_kilovar_mesh_bare) ∈ L) :
  ∀ p∈Vc.Laid.vars Tryz.prog,DCs W (Old W) p.2 p.1 0:=by
 have cb:=bare_cells h hb
 have s0:0 < W.heap.size:=by
  have h0:=cb 0
  exact Classical.byContradiction fun hn=>by
   unfold World.cell? at h0
   rw [Array.getElem?_eq_none (show W.heap.size≤0 by omega)] at h0
   cases h0
 intro p hp
 rcases List.mem_cons.1 hp with rfl | hp
 ·show DCs W (Old W) bareD 0 0
  unfold bareD
  simp only [DCs,DRel]
  exact ⟨rfl,s0,⟨_,cb 0,rfl⟩,rfl,s0,⟨_,cb 1,rfl⟩,rfl,s0,⟨_,cb 2,rfl⟩,trivial⟩
 ·cases hp
end Go.Proofs.YtkopkfcfgiijmaaGreatDoor
