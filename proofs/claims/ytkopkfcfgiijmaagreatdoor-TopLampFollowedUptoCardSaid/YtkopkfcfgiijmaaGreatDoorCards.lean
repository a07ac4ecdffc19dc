/-
  DERIVED. GIVEN WITH THE SEED: THE CARDS: each row of YtkopkfcfgiijmaaGreatDoorRows.lean that lists a variable, with what it lists TIED to the program's text (the seventh form; the later family's looks); each row that meets fmt, with fmt's text TOLD by the authors' own Lean function (tested against real Go, not proved from fmt's source: count such statements apart). THE CARD IS WHAT COUNTS. Prove the row's statement (the work); the ties are given (YtkopkfcfgiijmaaGreatDoorTie.lean); close each card by the builder's one call (the guide's Derived/Test/ToyasCard.lean, 'card_holds'). Laid BY PROGRAM, IN A SANDBOX (cutbox-door.mjs). By AI agents, Wed Nov 11 2026. No macro, syntax, notation, axiom, sorry.
-/
import Derived.Test.YtkopkfcfgiijmaaGreatDoorRows
import GoSem.ClaimSeven
namespace Go.Proofs.YtkopkfcfgiijmaaGreatDoor
namespace Rows

/-- THE TIED CARD OF 'kilovartop.TopLampWaves'. -/
def topLampWavesCard : Claim7 := { stood := { row := topLampWavesRow, standIns := [], harness := (true, "45c25c05215839c201b8ab39007fd4956f414fce555aac22338eb7f6512f6429"), looks := false }, kinds := [], alts := [], laidByText := true, laidKinds := [.data], laidTests := true, laidLooks := .later }
def TopLampWavesCardSaid : Prop := Claim7.holds Tryz.pinned (.plain (OpenSpec.ofChange topLampWavesSpec)) topLampWavesCard

/-- THE TIED CARD OF 'kilovartop.TopLampFollowed'. -/
def topLampFollowedCard : Claim7 := { stood := { row := topLampFollowedRow, standIns := [], harness := (true, "45c25c05215839c201b8ab39007fd4956f414fce555aac22338eb7f6512f6429"), looks := false }, kinds := [], alts := [], laidByText := true, laidKinds := [.data], laidTests := true, laidLooks := .later }
def TopLampFollowedCardSaid : Prop := Claim7.holds Tryz.pinned (.plain (OpenSpec.ofChange topLampFollowedSpec)) topLampFollowedCard

/-- THE SECOND FORM's CARD OF 'kilovartop.TopLampWaves'. -/
def topLampWavesUptoCard : Claim7 := { stood := { row := topLampWavesUptoRow, standIns := [], harness := (true, "45c25c05215839c201b8ab39007fd4956f414fce555aac22338eb7f6512f6429"), looks := false }, kinds := [], alts := [], laidByText := true, laidKinds := [.data], laidTests := true, laidLooks := .later }
def TopLampWavesUptoCardSaid : Prop := Claim7.holds Tryz.pinned (.plain (OpenSpec.upto topLampWavesSpec)) topLampWavesUptoCard

/-- THE SECOND FORM's CARD OF 'kilovartop.TopLampFollowed'. -/
def topLampFollowedUptoCard : Claim7 := { stood := { row := topLampFollowedUptoRow, standIns := [], harness := (true, "45c25c05215839c201b8ab39007fd4956f414fce555aac22338eb7f6512f6429"), looks := false }, kinds := [], alts := [], laidByText := true, laidKinds := [.data], laidTests := true, laidLooks := .later }
def TopLampFollowedUptoCardSaid : Prop := Claim7.holds Tryz.pinned (.plain (OpenSpec.upto topLampFollowedSpec)) topLampFollowedUptoCard
end Rows
end Go.Proofs.YtkopkfcfgiijmaaGreatDoor
