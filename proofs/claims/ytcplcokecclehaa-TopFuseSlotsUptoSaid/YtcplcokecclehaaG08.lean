import Derived.Test.YtcplcokecclehaaProg
import Derived.Test.YtcplcokecclehaaG05
import Derived.Test.YtcplcokecclehaaG07
import Derived.Test.YtcplcokecclehaaRows
import Derived.WalkKit
import Derived.ProofKit
import Derived.Deep.DeepHandedRow
import Derived.Lib.LaidTab
set_option linter.unusedSectionVars false
set_option linter.unusedVariables false
set_option linter.unusedSimpArgs false
set_option maxRecDepth 10000
namespace Vc
open Go Go.Proofs Go.RowKit
instance : Laid Try.prog := ⟨[]⟩
end Vc
namespace Go.Proofs.Ytcplcokecclehaa
open Go.ChangeShapes Go.WideShapes Go.ChangeAt Go.RowKit Vc
theorem own:ownKnob Try.prog.godebug=none:=by kernel_rfl
mutual
theorem bulk_le {H:Type}:∀ (d:DataW H),bulk d≤Rows.uptoBulk d
 | .lit l=>by cases l <;> simp [bulk,Rows.uptoBulk]
 | .nil=>by simp [bulk,Rows.uptoBulk]
 | .ptr d=>by have:=bulk_le d; simp only [bulk,Rows.uptoBulk]; omega
 | .slice a b=>by have:=bulks_le a; have:=bulks_le b; simp only [bulk,Rows.uptoBulk]; omega
 | .agg a=>by have:=bulks_le a; simp only [bulk,Rows.uptoBulk]; omega
 | .iface _ d=>by have:=bulk_le d; simp only [bulk,Rows.uptoBulk]; omega
 | .map _=>by simp [bulk]
 | .held _=>by simp [bulk,Rows.uptoBulk]
theorem bulks_le {H:Type}:∀ (l:List (DataW H)),bulks l≤Rows.uptoBulkAll l
 | []=>by simp [bulks]
 | d::r=>by have:=bulk_le d; have:=bulks_le r; simp only [bulks,Rows.uptoBulkAll]; omega
end
noncomputable def laidWorld (os:Os):World:=World.holding Try.prog os ⟨#[],#[],[]⟩
theorem laidOut:laidOutB Try.prog=true:=by kernel_rfl
end Go.Proofs.Ytcplcokecclehaa
