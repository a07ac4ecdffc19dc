/-
  DERIVED. GIVEN WITH THE SEED: THE CARDS: each row of YthociffnlhdenaaGreatDoorRows.lean that lists a variable, with what it lists TIED to the program's text (the seventh form; the later family's looks); each row that meets fmt, with fmt's text TOLD by the authors' own Lean function (tested against real Go, not proved from fmt's source: count such statements apart). THE CARD IS WHAT COUNTS. Prove the row's statement (the work); the ties are given (YthociffnlhdenaaGreatDoorTie.lean); close each card by the builder's one call (the guide's Derived/Test/ToyasCard.lean, 'card_holds'). Laid BY PROGRAM, IN A SANDBOX (cutbox-door.mjs). By AI agents, Wed Nov 11 2026. No macro, syntax, notation, axiom, sorry.
-/
import Derived.Test.YthociffnlhdenaaGreatDoorRows
import GoSem.ClaimSeven
namespace Go.Proofs.YthociffnlhdenaaGreatDoor
namespace Rows

/-- THE TIED CARD OF 'kilovarlaw05.MeshCosts'. -/
def meshCostsCard : Claim7 := { stood := { row := meshCostsRow, standIns := [], harness := (true, "19eeb5d9e773a10c28541d56922d1dc38a55972070457ffde4db528dd101b5da"), looks := false }, kinds := [], alts := [], laidByText := true, laidKinds := [.data, .data, .data, .funcsDeep, .data], laidTests := true, laidLooks := .later }
def MeshCostsCardSaid : Prop := Claim7.holds Tryz.pinned (.plain (OpenSpec.ofChange meshCostsSpec)) meshCostsCard

/-- THE TIED CARD OF 'kilovarlaw05.MeshStates'. -/
def meshStatesCard : Claim7 := { stood := { row := meshStatesRow, standIns := [], harness := (true, "19eeb5d9e773a10c28541d56922d1dc38a55972070457ffde4db528dd101b5da"), looks := false }, kinds := [], alts := [], laidByText := true, laidKinds := [.data, .data, .data, .funcsDeep, .data], laidTests := true, laidLooks := .later }
def MeshStatesCardSaid : Prop := Claim7.holds Tryz.pinned (.plain (OpenSpec.ofChange meshStatesSpec)) meshStatesCard

/-- THE TIED CARD OF 'kilovarlaw05.MeshFloods'. -/
def meshFloodsCard : Claim7 := { stood := { row := meshFloodsRow, standIns := [], harness := (true, "19eeb5d9e773a10c28541d56922d1dc38a55972070457ffde4db528dd101b5da"), looks := false }, kinds := [], alts := [], laidByText := true, laidKinds := [.data, .data, .data, .funcsDeep, .data], laidTests := true, laidLooks := .later }
def MeshFloodsCardSaid : Prop := Claim7.holds Tryz.pinned (.plain (OpenSpec.ofChange meshFloodsSpec)) meshFloodsCard

/-- THE TIED CARD OF 'kilovarlaw05.MeshBarriers'. -/
def meshBarriersCard : Claim7 := { stood := { row := meshBarriersRow, standIns := [], harness := (true, "19eeb5d9e773a10c28541d56922d1dc38a55972070457ffde4db528dd101b5da"), looks := false }, kinds := [], alts := [], laidByText := true, laidKinds := [.data, .data, .data, .funcsDeep, .data], laidTests := true, laidLooks := .later }
def MeshBarriersCardSaid : Prop := Claim7.holds Tryz.pinned (.plain (OpenSpec.ofChange meshBarriersSpec)) meshBarriersCard

/-- THE TIED CARD OF 'kilovarlaw05.MeshRounds'. -/
def meshRoundsCard : Claim7 := { stood := { row := meshRoundsRow, standIns := [], harness := (true, "19eeb5d9e773a10c28541d56922d1dc38a55972070457ffde4db528dd101b5da"), looks := false }, kinds := [], alts := [], laidByText := true, laidKinds := [.data, .data, .data, .funcsDeep, .data], laidTests := true, laidLooks := .later }
def MeshRoundsCardSaid : Prop := Claim7.holds Tryz.pinned (.plain (OpenSpec.ofChange meshRoundsSpec)) meshRoundsCard

/-- THE TIED CARD OF 'kilovarlaw05.MeshLoops'. -/
def meshLoopsCard : Claim7 := { stood := { row := meshLoopsRow, standIns := [], harness := (true, "19eeb5d9e773a10c28541d56922d1dc38a55972070457ffde4db528dd101b5da"), looks := false }, kinds := [], alts := [], laidByText := true, laidKinds := [.data, .data, .data, .funcsDeep, .data], laidTests := true, laidLooks := .later }
def MeshLoopsCardSaid : Prop := Claim7.holds Tryz.pinned (.plain (OpenSpec.ofChange meshLoopsSpec)) meshLoopsCard

/-- THE TIED CARD OF 'kilovarlaw05.MeshRoutes'. -/
def meshRoutesCard : Claim7 := { stood := { row := meshRoutesRow, standIns := [], harness := (true, "19eeb5d9e773a10c28541d56922d1dc38a55972070457ffde4db528dd101b5da"), looks := false }, kinds := [], alts := [], laidByText := true, laidKinds := [.data, .data, .data, .funcsDeep, .data], laidTests := true, laidLooks := .later }
def MeshRoutesCardSaid : Prop := Claim7.holds Tryz.pinned (.plain (OpenSpec.ofChange meshRoutesSpec)) meshRoutesCard

/-- THE TIED CARD OF 'kilovarlaw05.MeshFlooded'. -/
def meshFloodedCard : Claim7 := { stood := { row := meshFloodedRow, standIns := [], harness := (true, "19eeb5d9e773a10c28541d56922d1dc38a55972070457ffde4db528dd101b5da"), looks := false }, kinds := [], alts := [], laidByText := true, laidKinds := [.data, .data, .data, .funcsDeep, .data], laidTests := true, laidLooks := .later }
def MeshFloodedCardSaid : Prop := Claim7.holds Tryz.pinned (.plain (OpenSpec.ofChange meshFloodedSpec)) meshFloodedCard

/-- THE TIED CARD OF 'kilovarlaw05.MeshCalm'. -/
def meshCalmCard : Claim7 := { stood := { row := meshCalmRow, standIns := [], harness := (true, "19eeb5d9e773a10c28541d56922d1dc38a55972070457ffde4db528dd101b5da"), looks := false }, kinds := [], alts := [], laidByText := true, laidKinds := [.data, .data, .data, .funcsDeep, .data], laidTests := true, laidLooks := .later }
def MeshCalmCardSaid : Prop := Claim7.holds Tryz.pinned (.plain (OpenSpec.ofChange meshCalmSpec)) meshCalmCard

/-- THE TIED CARD OF 'kilovarlaw05.MeshChanges'. -/
def meshChangesCard : Claim7 := { stood := { row := meshChangesRow, standIns := [], harness := (true, "19eeb5d9e773a10c28541d56922d1dc38a55972070457ffde4db528dd101b5da"), looks := false }, kinds := [], alts := [], laidByText := true, laidKinds := [.data, .data, .data, .funcsDeep, .data], laidTests := true, laidLooks := .later }
def MeshChangesCardSaid : Prop := Claim7.holds Tryz.pinned (.plain (OpenSpec.ofChange meshChangesSpec)) meshChangesCard

/-- THE TIED CARD OF 'kilovarlaw05.MeshStrings'. -/
def meshStringsCard : Claim7 := { stood := { row := meshStringsRow, standIns := [], harness := (true, "19eeb5d9e773a10c28541d56922d1dc38a55972070457ffde4db528dd101b5da"), looks := false }, kinds := [], alts := [], laidByText := true, laidKinds := [.data, .data, .data, .data, .funcsDeep, .data, .pinned], laidTests := true, laidLooks := .later }
def MeshStringsCardSaid : Prop := Claim7.holds Tryz.pinned (.plain (OpenSpec.ofChange meshStringsSpec)) meshStringsCard

/-- THE TIED CARD OF 'kilovarlaw05.MeshBack'. -/
def meshBackCard : Claim7 := { stood := { row := meshBackRow, standIns := [], harness := (true, "19eeb5d9e773a10c28541d56922d1dc38a55972070457ffde4db528dd101b5da"), looks := false }, kinds := [], alts := [], laidByText := true, laidKinds := [.data, .data, .data, .data, .funcsDeep, .data, .pinned], laidTests := true, laidLooks := .later }
def MeshBackCardSaid : Prop := Claim7.holds Tryz.pinned (.plain (OpenSpec.ofChange meshBackSpec)) meshBackCard

/-- THE SECOND FORM's CARD OF 'kilovarlaw05.MeshCosts'. -/
def meshCostsUptoCard : Claim7 := { stood := { row := meshCostsUptoRow, standIns := [], harness := (true, "19eeb5d9e773a10c28541d56922d1dc38a55972070457ffde4db528dd101b5da"), looks := false }, kinds := [], alts := [], laidByText := true, laidKinds := [.data, .data, .data, .funcsDeep, .data], laidTests := true, laidLooks := .later }
def MeshCostsUptoCardSaid : Prop := Claim7.holds Tryz.pinned (.plain (OpenSpec.upto meshCostsSpec)) meshCostsUptoCard

/-- THE SECOND FORM's CARD OF 'kilovarlaw05.MeshStates'. -/
def meshStatesUptoCard : Claim7 := { stood := { row := meshStatesUptoRow, standIns := [], harness := (true, "19eeb5d9e773a10c28541d56922d1dc38a55972070457ffde4db528dd101b5da"), looks := false }, kinds := [], alts := [], laidByText := true, laidKinds := [.data, .data, .data, .funcsDeep, .data], laidTests := true, laidLooks := .later }
def MeshStatesUptoCardSaid : Prop := Claim7.holds Tryz.pinned (.plain (OpenSpec.upto meshStatesSpec)) meshStatesUptoCard

/-- THE SECOND FORM's CARD OF 'kilovarlaw05.MeshFloods'. -/
def meshFloodsUptoCard : Claim7 := { stood := { row := meshFloodsUptoRow, standIns := [], harness := (true, "19eeb5d9e773a10c28541d56922d1dc38a55972070457ffde4db528dd101b5da"), looks := false }, kinds := [], alts := [], laidByText := true, laidKinds := [.data, .data, .data, .funcsDeep, .data], laidTests := true, laidLooks := .later }
def MeshFloodsUptoCardSaid : Prop := Claim7.holds Tryz.pinned (.plain (OpenSpec.upto meshFloodsSpec)) meshFloodsUptoCard

/-- THE SECOND FORM's CARD OF 'kilovarlaw05.MeshBarriers'. -/
def meshBarriersUptoCard : Claim7 := { stood := { row := meshBarriersUptoRow, standIns := [], harness := (true, "19eeb5d9e773a10c28541d56922d1dc38a55972070457ffde4db528dd101b5da"), looks := false }, kinds := [], alts := [], laidByText := true, laidKinds := [.data, .data, .data, .funcsDeep, .data], laidTests := true, laidLooks := .later }
def MeshBarriersUptoCardSaid : Prop := Claim7.holds Tryz.pinned (.plain (OpenSpec.upto meshBarriersSpec)) meshBarriersUptoCard

/-- THE SECOND FORM's CARD OF 'kilovarlaw05.MeshRounds'. -/
def meshRoundsUptoCard : Claim7 := { stood := { row := meshRoundsUptoRow, standIns := [], harness := (true, "19eeb5d9e773a10c28541d56922d1dc38a55972070457ffde4db528dd101b5da"), looks := false }, kinds := [], alts := [], laidByText := true, laidKinds := [.data, .data, .data, .funcsDeep, .data], laidTests := true, laidLooks := .later }
def MeshRoundsUptoCardSaid : Prop := Claim7.holds Tryz.pinned (.plain (OpenSpec.upto meshRoundsSpec)) meshRoundsUptoCard

/-- THE SECOND FORM's CARD OF 'kilovarlaw05.MeshLoops'. -/
def meshLoopsUptoCard : Claim7 := { stood := { row := meshLoopsUptoRow, standIns := [], harness := (true, "19eeb5d9e773a10c28541d56922d1dc38a55972070457ffde4db528dd101b5da"), looks := false }, kinds := [], alts := [], laidByText := true, laidKinds := [.data, .data, .data, .funcsDeep, .data], laidTests := true, laidLooks := .later }
def MeshLoopsUptoCardSaid : Prop := Claim7.holds Tryz.pinned (.plain (OpenSpec.upto meshLoopsSpec)) meshLoopsUptoCard

/-- THE SECOND FORM's CARD OF 'kilovarlaw05.MeshRoutes'. -/
def meshRoutesUptoCard : Claim7 := { stood := { row := meshRoutesUptoRow, standIns := [], harness := (true, "19eeb5d9e773a10c28541d56922d1dc38a55972070457ffde4db528dd101b5da"), looks := false }, kinds := [], alts := [], laidByText := true, laidKinds := [.data, .data, .data, .funcsDeep, .data], laidTests := true, laidLooks := .later }
def MeshRoutesUptoCardSaid : Prop := Claim7.holds Tryz.pinned (.plain (OpenSpec.upto meshRoutesSpec)) meshRoutesUptoCard

/-- THE SECOND FORM's CARD OF 'kilovarlaw05.MeshFlooded'. -/
def meshFloodedUptoCard : Claim7 := { stood := { row := meshFloodedUptoRow, standIns := [], harness := (true, "19eeb5d9e773a10c28541d56922d1dc38a55972070457ffde4db528dd101b5da"), looks := false }, kinds := [], alts := [], laidByText := true, laidKinds := [.data, .data, .data, .funcsDeep, .data], laidTests := true, laidLooks := .later }
def MeshFloodedUptoCardSaid : Prop := Claim7.holds Tryz.pinned (.plain (OpenSpec.upto meshFloodedSpec)) meshFloodedUptoCard

/-- THE SECOND FORM's CARD OF 'kilovarlaw05.MeshCalm'. -/
def meshCalmUptoCard : Claim7 := { stood := { row := meshCalmUptoRow, standIns := [], harness := (true, "19eeb5d9e773a10c28541d56922d1dc38a55972070457ffde4db528dd101b5da"), looks := false }, kinds := [], alts := [], laidByText := true, laidKinds := [.data, .data, .data, .funcsDeep, .data], laidTests := true, laidLooks := .later }
def MeshCalmUptoCardSaid : Prop := Claim7.holds Tryz.pinned (.plain (OpenSpec.upto meshCalmSpec)) meshCalmUptoCard

/-- THE SECOND FORM's CARD OF 'kilovarlaw05.MeshChanges'. -/
def meshChangesUptoCard : Claim7 := { stood := { row := meshChangesUptoRow, standIns := [], harness := (true, "19eeb5d9e773a10c28541d56922d1dc38a55972070457ffde4db528dd101b5da"), looks := false }, kinds := [], alts := [], laidByText := true, laidKinds := [.data, .data, .data, .funcsDeep, .data], laidTests := true, laidLooks := .later }
def MeshChangesUptoCardSaid : Prop := Claim7.holds Tryz.pinned (.plain (OpenSpec.upto meshChangesSpec)) meshChangesUptoCard

/-- THE SECOND FORM's CARD OF 'kilovarlaw05.MeshStrings'. -/
def meshStringsUptoCard : Claim7 := { stood := { row := meshStringsUptoRow, standIns := [], harness := (true, "19eeb5d9e773a10c28541d56922d1dc38a55972070457ffde4db528dd101b5da"), looks := false }, kinds := [], alts := [], laidByText := true, laidKinds := [.data, .data, .data, .data, .funcsDeep, .data, .pinned], laidTests := true, laidLooks := .later }
def MeshStringsUptoCardSaid : Prop := Claim7.holds Tryz.pinned (.plain (OpenSpec.upto meshStringsSpec)) meshStringsUptoCard

/-- THE SECOND FORM's CARD OF 'kilovarlaw05.MeshBack'. -/
def meshBackUptoCard : Claim7 := { stood := { row := meshBackUptoRow, standIns := [], harness := (true, "19eeb5d9e773a10c28541d56922d1dc38a55972070457ffde4db528dd101b5da"), looks := false }, kinds := [], alts := [], laidByText := true, laidKinds := [.data, .data, .data, .data, .funcsDeep, .data, .pinned], laidTests := true, laidLooks := .later }
def MeshBackUptoCardSaid : Prop := Claim7.holds Tryz.pinned (.plain (OpenSpec.upto meshBackSpec)) meshBackUptoCard
end Rows
end Go.Proofs.YthociffnlhdenaaGreatDoor
