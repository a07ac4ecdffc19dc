/-
  NARROWER THAN 'FOR EVERY INPUT', by the rows' own cells (each row's printed sentence says how): TopLampWaves: laid · TopLampFollowed: laid.
  DERIVED. THE GIVEN ROWS OF THIS SEAT. 2 by the template 'for every input the law returns true; each argument reads behind the call as it read before'; 0 by the template 'total and deterministic' (their statements: YtkopkfcfgiijmaaGreatDoorTotals.lean).
  GIVEN WITH THE SEED: the statements are not yours to turn. If you find one false, say at which input.
  Laid BY PROGRAM, IN A SANDBOX (cutbox-rows.mjs): the forced cells as the released guide's own fill.sh prints them over the translation 14989290d778ad37… (all of the seat's roots in one cut). By AI agents, Wed Nov 11 2026. No macro, syntax, notation, axiom, sorry.
-/
import Derived.Test.YtkopkfcfgiijmaaGreatDoorChecked
import GoSem.Claim
import GoSem.ClaimJoined
import GoSem.ClaimMapViews
import Derived.JoinedTies
import Derived.KernelRfl
namespace Go.Proofs.YtkopkfcfgiijmaaGreatDoor
/- THE CELL 'sum', in the pinned program and in every row, IS THE sha256 OF THE DUMP (.gsa) THAT YtkopkfcfgiijmaaGreatDoorProg.lean LOADS. Nothing in Lean hashes anything: it is a label: what it is worth is what the hold of that sum in a sandbox is worth. -/
noncomputable def Tryz.pinned : Pinned := { name := "ytkopkfcfgiijmaagreatdoor", sum := "14989290d778ad37964437443a8045ec791bc63e23f82997d440f61b486a5c64", checked := Tryz.checked }
namespace Rows
def none {H : Type} : Left H := { results := [], args := [] }

/- WHAT THE LISTED PACKAGE-LEVEL VARIABLES READ AS WHEN THE CALL BEGINS. Each datum BY PROGRAM (the guide's laid-datum.mjs) off the statement by which the dump's own 'gosem.cut.vars' lays the variable. In a bare row this is a premise. The card (YtkopkfcfgiijmaaGreatDoorCards.lean) ties it to the program's text. -/
def laid_kilovar_mesh_bare {H : Type} : DataW H := .agg [.lit (.int .i64 0), .lit (.int .i64 0), .lit (.int .i64 (-1))]

/-- 'kilovartop.TopLampWaves': WHATEVER THE INPUT: true; the input reads as it did. -/
def topLampWavesSpec : ChangeSpec := { name := "topLampWaves", fn := fun _ => fun
  | [d1, d2, d3] => { results := [.lit (.bool true)], args := [d1, d2, d3] }
  | _ => none }
def topLampWavesRow : OpenClaim := { program := "ytkopkfcfgiijmaagreatdoor", sum := "14989290d778ad37964437443a8045ec791bc63e23f82997d440f61b486a5c64", func := "kilovar/kilovartop.TopLampWaves", spec := "topLampWaves", unfollowed := true, recurses := true, named := ["kilovar/mesh.bare"], apart := false, laid := [("kilovar/mesh.bare", laid_kilovar_mesh_bare)] }
def TopLampWavesSaid : Prop := topLampWavesRow.holds Tryz.pinned (OpenSpec.ofChange topLampWavesSpec)

/-- ITS FALSE NEIGHBOUR: 'it returns false'. Refute it at one input. -/
def topLampWavesWrong : ChangeSpec := { name := "topLampWaves", fn := fun _ => fun
  | [d1, d2, d3] => { results := [.lit (.bool false)], args := [d1, d2, d3] }
  | _ => none }
def TopLampWavesWrongFalsely : Prop := topLampWavesRow.holds Tryz.pinned (OpenSpec.ofChange topLampWavesWrong)

/-- 'kilovartop.TopLampFollowed': WHATEVER THE INPUT: true; the input reads as it did. -/
def topLampFollowedSpec : ChangeSpec := { name := "topLampFollowed", fn := fun _ => fun
  | [d1, d2, d3] => { results := [.lit (.bool true)], args := [d1, d2, d3] }
  | _ => none }
def topLampFollowedRow : OpenClaim := { program := "ytkopkfcfgiijmaagreatdoor", sum := "14989290d778ad37964437443a8045ec791bc63e23f82997d440f61b486a5c64", func := "kilovar/kilovartop.TopLampFollowed", spec := "topLampFollowed", unfollowed := true, recurses := true, named := ["kilovar/mesh.bare"], apart := false, laid := [("kilovar/mesh.bare", laid_kilovar_mesh_bare)] }
def TopLampFollowedSaid : Prop := topLampFollowedRow.holds Tryz.pinned (OpenSpec.ofChange topLampFollowedSpec)

/-- ITS FALSE NEIGHBOUR: 'it returns false'. Refute it at one input. -/
def topLampFollowedWrong : ChangeSpec := { name := "topLampFollowed", fn := fun _ => fun
  | [d1, d2, d3] => { results := [.lit (.bool false)], args := [d1, d2, d3] }
  | _ => none }
def TopLampFollowedWrongFalsely : Prop := topLampFollowedRow.holds Tryz.pinned (OpenSpec.ofChange topLampFollowedWrong)

/- THE SECOND FORM. 'bulk': how many values and letters a reading holds, each counted each time it is reached (what is shared counts as often as it is met; a slice's spare places count too). A statement '..UptoSaid' is the law's where the arguments, and the package variables that the reading takes, are together of bulk at most 1048576: NARROWER than '..Said'. Prove '..Said' where nothing that the law and all that it calls make is longer than what came in: it says more and counts as full. Else prove '..UptoSaid'. A law counts once. -/
mutual
def uptoBulk {H : Type} : DataW H → Nat
  | .lit (.string bytes) => bytes.length + 1
  | .lit _ => 1
  | .nil => 1
  | .ptr d => uptoBulk d + 1
  | .slice elems spare => uptoBulkAll elems + uptoBulkAll spare + 1
  | .agg parts => uptoBulkAll parts + 1
  | .iface _ d => uptoBulk d + 1
  | .map entries => uptoBulkEntries entries + 1
  | .held _ => 1
def uptoBulkAll {H : Type} : List (DataW H) → Nat
  | [] => 0
  | d :: r => uptoBulk d + uptoBulkAll r
def uptoBulkEntries {H : Type} : List (Lit × DataW H) → Nat
  | [] => 0
  | x :: r => uptoBulkEntry x + uptoBulkEntries r
def uptoBulkEntry {H : Type} : Lit × DataW H → Nat
  | (.string bytes, d) => bytes.length + uptoBulk d + 1
  | (_, d) => uptoBulk d + 1
 end
def uptoSmall : (H : Type) → List (DataW H) → Bool := fun _ ds => decide (uptoBulkAll ds ≤ 1048576)
def OpenSpec.upto (s : _root_.Go.ChangeSpec) : _root_.Go.OpenSpec := { _root_.Go.OpenSpec.ofChange s with cond := some uptoSmall }

/-- 'kilovartop.TopLampWaves', WHERE WHAT IT READS IS OF BULK AT MOST 1048576: true; the input reads as it did. -/
def topLampWavesUptoRow : OpenClaim := { program := "ytkopkfcfgiijmaagreatdoor", sum := "14989290d778ad37964437443a8045ec791bc63e23f82997d440f61b486a5c64", func := "kilovar/kilovartop.TopLampWaves", spec := "topLampWaves", unfollowed := true, recurses := true, named := ["kilovar/mesh.bare"], apart := false, laid := [("kilovar/mesh.bare", laid_kilovar_mesh_bare)], narrowed := true }
def TopLampWavesUptoSaid : Prop := topLampWavesUptoRow.holds Tryz.pinned (OpenSpec.upto topLampWavesSpec)

/-- 'kilovartop.TopLampFollowed', WHERE WHAT IT READS IS OF BULK AT MOST 1048576: true; the input reads as it did. -/
def topLampFollowedUptoRow : OpenClaim := { program := "ytkopkfcfgiijmaagreatdoor", sum := "14989290d778ad37964437443a8045ec791bc63e23f82997d440f61b486a5c64", func := "kilovar/kilovartop.TopLampFollowed", spec := "topLampFollowed", unfollowed := true, recurses := true, named := ["kilovar/mesh.bare"], apart := false, laid := [("kilovar/mesh.bare", laid_kilovar_mesh_bare)], narrowed := true }
def TopLampFollowedUptoSaid : Prop := topLampFollowedUptoRow.holds Tryz.pinned (OpenSpec.upto topLampFollowedSpec)

end Rows
end Go.Proofs.YtkopkfcfgiijmaaGreatDoor
