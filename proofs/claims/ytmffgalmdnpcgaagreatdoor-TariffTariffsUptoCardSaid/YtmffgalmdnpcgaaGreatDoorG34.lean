import Derived.Test.YtmffgalmdnpcgaaGreatDoorG07
import Derived.Test.YtmffgalmdnpcgaaGreatDoorG33
import Derived.Test.YtmffgalmdnpcgaaGreatDoorCards
import Derived.Test.YtmffgalmdnpcgaaGreatDoorTie
import Derived.WalkKit
import Derived.ProofKit
import Derived.Deep.DeepHandedRow
import Derived.Lib.LaidTab
import Derived.Lib.LaidU8
import Derived.LaidHandle
import Derived.LaidMore
set_option linter.unusedSectionVars false
set_option linter.unusedVariables false
set_option linter.unusedSimpArgs false
set_option maxRecDepth 100000
namespace Go.Proofs.YtmffgalmdnpcgaaGreatDoor
open Go.ChangeShapes Go.WideShapes Go.ChangeAt Go.RowKit Vc
theorem own:ownKnob Tryz.prog.godebug=none:=by kernel_rfl
mutual
theorem bulk_le {H:Type}:∀ (d:DataW H),bulk d≤Rows.uptoBulk d
 | .lit l=>by cases l <;> simp [bulk,Rows.uptoBulk]
 | .nil=>by simp [bulk,Rows.uptoBulk]
 | .ptr d=>by have:=bulk_le d; simp only [bulk,Rows.uptoBulk]; omega
 | .slice a b=>by have:=bulks_le a; have:=bulks_le b; simp only [bulk,Rows.uptoBulk]; omega
 | .agg a=>by have:=bulks_le a; simp only [bulk,Rows.uptoBulk]; omega
 | .iface _ d=>by have:=bulk_le d; simp only [bulk,Rows.uptoBulk]; omega
 | .map _=>by simp [bulk]
 | .held _=>by simp [bulk,Rows.uptoBulk]
theorem bulks_le {H:Type}:∀ (l:List (DataW H)),bulks l≤Rows.uptoBulkAll l
 | []=>by simp [bulks]
 | d::r=>by have:=bulk_le d; have:=bulks_le r; simp only [bulks,Rows.uptoBulkAll]; omega
end
def laidCells:Nat→DataW Unit→List Value
 | _,.lit (.int k n)=>[.int k n]
 | _,.lit (.bool b)=>[.bool b]
 | n+1,.agg l=>l.flatMap (laidCells n)
 | _,_=>[]
noncomputable def layRow (g:Nat) (cs:List Value) (w:World):World :=
 { w with heap := w.heap.modify g fun
   | .cells _ t frozen=>.cells cs.toArray t frozen
   | o=>o }
noncomputable def layAt (g:Nat) (d:DataW Unit) (w:World):World:=layRow g (laidCells 5 d) w
noncomputable def laidWorld (os:Os):World :=
 layAt 5 Rows.laid_math_bits_deBruijn32tab (layAt 6 Rows.laid_math_bits_deBruijn64tab (layAt 2 Rows.laid_internal_strconv_uint64pow10 (layAt 0 Rows.laid_kilovar_tariff_steps (World.holding Tryz.prog os ⟨#[],#[],[]⟩))))
theorem laidOut:laidOutB Tryz.prog=true:=by kernel_rfl
theorem may0:Tryz.pinned.checked.prog.mayEnter=true:=by kernel_rfl
theorem out0:laidOutB Tryz.pinned.checked.prog=true:=by kernel_rfl
theorem lift0:(Rows.tariffTariffsUptoRow.lifted==Tryz.pinned.checked.prog.liftsFinal)=true:=by kernel_rfl
theorem reads_plain {P:Program} {L:List (String × DataW Unit)} {W:World} (h:laidMetH P L W) {n:String} {d:DataW Unit} (hm:(n,d)∈L) (hd:d.handleName?.isNone=true):Go.Lib.VarReads P W n d:=by
 unfold laidMetH at h
 split at h
 ·exact Go.Lib.laidMet.reads h hm
 ·exact Go.Lib.laidMet.reads h.1 (List.mem_filter.2 ⟨hm,hd⟩)
theorem pow_cells {L : List (String × DataW Unit)} {W : World} (h : laidMetH Tryz.prog L W) (hm : ("internal/strconv.uint64pow10", Rows.laid_internal_strconv_uint64pow10) ∈ L) :
  ∀ off,W.cell? ⟨2,off,none⟩=(([1,10,100,1000,10000,100000,1000000,10000000,100000000,1000000000,10000000000,100000000000,1000000000000,10000000000000,100000000000000,1000000000000000,10000000000000000,100000000000000000,1000000000000000000,10000000000000000000]:List Int).map fun z=>Value.int .u64 z)[off]?:=by
 obtain ⟨g,t,cs,fuel,p,h1,h2,h3,h4⟩:=reads_plain h hm rfl
 have eg:g=2:=Option.some.inj (h1.symm.trans (show Tryz.prog.globalNamed "internal/strconv.uint64pow10" = some 2 by kernel_rfl))
 subst eg
 have et:t=363:=Option.some.inj (h2.symm.trans (show (Tryz.prog.globals[2]?).map (·.type)=some 363 by kernel_rfl))
 subst et
 have hc:cs.toList=([1,10,100,1000,10000,100000,1000000,10000000,100000000,1000000000,10000000000,100000000000,1000000000000,10000000000000,100000000000000,1000000000000000,10000000000000000,100000000000000000,1000000000000000000,10000000000000000000]:List Int).map fun z=>Value.int .u64 z:=Go.Lib.cells_of_tab Tryz.underlying363 Tryz.underlying319 (by kernel_rfl) (by kernel_rfl) h4
 intro off
 rw [World.var?_cell h1 h3 off,← hc]
 simp
theorem step_cells {L : List (String × DataW Unit)} {W : World} (h : laidMetH Tryz.prog L W) (hm : ("kilovar/tariff.steps", Rows.laid_kilovar_tariff_steps) ∈ L) :
  ∀ off,W.cell? ⟨0,off,none⟩=(([900,1800,3600]:List Int).map fun z=>Value.int .i64 z)[off]?:=by
 obtain ⟨g,t,cs,fuel,p,h1,h2,h3,h4⟩:=reads_plain h hm rfl
 have eg:g=0:=Option.some.inj (h1.symm.trans (show Tryz.prog.globalNamed "kilovar/tariff.steps" = some 0 by kernel_rfl))
 subst eg
 have et:t=123:=Option.some.inj (h2.symm.trans (show (Tryz.prog.globals[0]?).map (·.type)=some 123 by kernel_rfl))
 subst et
 have hc:cs.toList=([900,1800,3600]:List Int).map fun z=>Value.int .i64 z:=Go.Lib.cells_of_tab Tryz.underlying123 Tryz.underlying3 (by kernel_rfl) (by kernel_rfl) h4
 intro off
 rw [World.var?_cell h1 h3 off,← hc]
 simp
theorem glob {L : List (String × DataW Unit)} {W : World} (h : laidMetH Tryz.prog L W) (hf : ("internal/strconv.uint64pow10", Rows.laid_internal_strconv_uint64pow10) ∈ L) (hg : ("kilovar/tariff.steps", Rows.laid_kilovar_tariff_steps) ∈ L) :
  ∀ p∈Vc.Laid.vars Tryz.prog,DCs W (Old W) p.2 p.1 0:=by
 have cf:=pow_cells h hf
 have cg:=step_cells h hg
 have s2:2 < W.heap.size:=by
  have h0:=cf 0
  exact Classical.byContradiction fun hn=>by
   unfold World.cell? at h0
   rw [Array.getElem?_eq_none (show W.heap.size≤2 by omega)] at h0
   cases h0
 have s0:0 < W.heap.size:=by
  have h0:=cg 0
  exact Classical.byContradiction fun hn=>by
   unfold World.cell? at h0
   rw [Array.getElem?_eq_none (show W.heap.size≤0 by omega)] at h0
   cases h0
 intro p hp
 rcases List.mem_cons.1 hp with rfl | hp
 ·show DCs W (Old W) stepsD 0 0
  have key:∀ (l:List Int) (off:Nat),(∀ j,W.cell? ⟨0,off+j,none⟩=(l.map fun z=>Value.int .i64 z)[j]?)→DCs W (Old W) (l.map (Vc.Data.int .i64)) 0 off:=by
   intro l
   induction l with
   | nil=>intro off _; simp [DCs]
   | cons z r ih =>
    intro off hl
    simp only [List.map_cons,DCs,DRel]
    refine ⟨rfl,s0,⟨_,hl 0,rfl⟩,ih (off+1) fun j=>?_⟩
    have h2:=hl (j+1)
    rw [show off+(j+1)=off+1+j by omega] at h2
    exact h2
  exact key [900,1800,3600] 0 fun j=>by rw [Nat.zero_add]; exact cg j
 ·rcases List.mem_cons.1 hp with rfl | hp
  ·show DCs W (Old W) pow10D 2 0
   have key:∀ (l:List Int) (off:Nat),(∀ j,W.cell? ⟨2,off+j,none⟩=(l.map fun z=>Value.int .u64 z)[j]?)→DCs W (Old W) (l.map (Vc.Data.int .u64)) 2 off:=by
    intro l
    induction l with
    | nil=>intro off _; simp [DCs]
    | cons z r ih =>
     intro off hl
     simp only [List.map_cons,DCs,DRel]
     refine ⟨rfl,s2,⟨_,hl 0,rfl⟩,ih (off+1) fun j=>?_⟩
     have h2:=hl (j+1)
     rw [show off+(j+1)=off+1+j by omega] at h2
     exact h2
   exact key _ 0 fun j=>by rw [Nat.zero_add]; exact cf j
  ·cases hp
end Go.Proofs.YtmffgalmdnpcgaaGreatDoor
