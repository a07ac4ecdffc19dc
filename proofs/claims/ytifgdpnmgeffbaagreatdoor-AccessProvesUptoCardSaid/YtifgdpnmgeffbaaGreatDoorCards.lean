/-
  DERIVED. GIVEN WITH THE SEED: THE CARDS: each row of YtifgdpnmgeffbaaGreatDoorRows.lean that lists a variable, with what it lists TIED to the program's text (the seventh form; the later family's looks); each row that meets fmt, with fmt's text TOLD by the authors' own Lean function (tested against real Go, not proved from fmt's source: count such statements apart). THE CARD IS WHAT COUNTS. Prove the row's statement (the work); the ties are given (YtifgdpnmgeffbaaGreatDoorTie.lean); close each card by the builder's one call (the guide's Derived/Test/ToyasCard.lean, 'card_holds'). Laid BY PROGRAM, IN A SANDBOX (cutbox-door.mjs). By AI agents, Wed Nov 11 2026. No macro, syntax, notation, axiom, sorry.
-/
import Derived.Test.YtifgdpnmgeffbaaGreatDoorRows
import GoSem.ClaimSeven
namespace Go.Proofs.YtifgdpnmgeffbaaGreatDoor
namespace Rows

/-- THE TIED CARD OF 'kilovarlaw09.AccessRights'. -/
def accessRightsCard : Claim7 := { stood := { row := accessRightsRow, standIns := [], harness := (true, "30ad9682167d0f9660c43818cb68e511e7f9caf8634858d982430c270904bdb7"), looks := false }, kinds := [], alts := [], laidByText := true, laidKinds := [.data, .data, .data, .funcs], laidTests := true, laidLooks := .later }
def AccessRightsCardSaid : Prop := Claim7.holds Tryz.pinned (.plain (OpenSpec.ofChange accessRightsSpec)) accessRightsCard

/-- THE TIED CARD OF 'kilovarlaw09.AccessDays'. -/
def accessDaysCard : Claim7 := { stood := { row := accessDaysRow, standIns := [], harness := (true, "30ad9682167d0f9660c43818cb68e511e7f9caf8634858d982430c270904bdb7"), looks := false }, kinds := [], alts := [], laidByText := true, laidKinds := [.data, .data, .data, .funcs], laidTests := true, laidLooks := .later }
def AccessDaysCardSaid : Prop := Claim7.holds Tryz.pinned (.plain (OpenSpec.ofChange accessDaysSpec)) accessDaysCard

/-- THE TIED CARD OF 'kilovarlaw09.AccessSets'. -/
def accessSetsCard : Claim7 := { stood := { row := accessSetsRow, standIns := [], harness := (true, "30ad9682167d0f9660c43818cb68e511e7f9caf8634858d982430c270904bdb7"), looks := false }, kinds := [], alts := [], laidByText := true, laidKinds := [.data, .data, .data, .funcs], laidTests := true, laidLooks := .later }
def AccessSetsCardSaid : Prop := Claim7.holds Tryz.pinned (.plain (OpenSpec.ofChange accessSetsSpec)) accessSetsCard

/-- THE TIED CARD OF 'kilovarlaw09.AccessKnown'. -/
def accessKnownCard : Claim7 := { stood := { row := accessKnownRow, standIns := [], harness := (true, "30ad9682167d0f9660c43818cb68e511e7f9caf8634858d982430c270904bdb7"), looks := false }, kinds := [], alts := [], laidByText := true, laidKinds := [.data, .data, .data, .funcs], laidTests := true, laidLooks := .later }
def AccessKnownCardSaid : Prop := Claim7.holds Tryz.pinned (.plain (OpenSpec.ofChange accessKnownSpec)) accessKnownCard

/-- THE TIED CARD OF 'kilovarlaw09.AccessStores'. -/
def accessStoresCard : Claim7 := { stood := { row := accessStoresRow, standIns := [], harness := (true, "30ad9682167d0f9660c43818cb68e511e7f9caf8634858d982430c270904bdb7"), looks := false }, kinds := [], alts := [], laidByText := true, laidKinds := [.data, .data, .data, .funcs], laidTests := true, laidLooks := .later }
def AccessStoresCardSaid : Prop := Claim7.holds Tryz.pinned (.plain (OpenSpec.ofChange accessStoresSpec)) accessStoresCard

/-- THE TIED CARD OF 'kilovarlaw09.AccessTurns'. -/
def accessTurnsCard : Claim7 := { stood := { row := accessTurnsRow, standIns := [], harness := (true, "30ad9682167d0f9660c43818cb68e511e7f9caf8634858d982430c270904bdb7"), looks := false }, kinds := [], alts := [], laidByText := true, laidKinds := [.data, .data, .data, .funcs], laidTests := true, laidLooks := .later }
def AccessTurnsCardSaid : Prop := Claim7.holds Tryz.pinned (.plain (OpenSpec.ofChange accessTurnsSpec)) accessTurnsCard

/-- THE TIED CARD OF 'kilovarlaw09.AccessProves'. -/
def accessProvesCard : Claim7 := { stood := { row := accessProvesRow, standIns := [], harness := (true, "30ad9682167d0f9660c43818cb68e511e7f9caf8634858d982430c270904bdb7"), looks := false }, kinds := [], alts := [], laidByText := true, laidKinds := [.data, .data, .data, .funcs], laidTests := true, laidLooks := .later }
def AccessProvesCardSaid : Prop := Claim7.holds Tryz.pinned (.plain (OpenSpec.ofChange accessProvesSpec)) accessProvesCard

/-- THE TIED CARD OF 'kilovarlaw09.AccessHides'. -/
def accessHidesCard : Claim7 := { stood := { row := accessHidesRow, standIns := [], harness := (true, "30ad9682167d0f9660c43818cb68e511e7f9caf8634858d982430c270904bdb7"), looks := false }, kinds := [], alts := [], laidByText := true, laidKinds := [.data, .data, .data, .funcs], laidTests := true, laidLooks := .later }
def AccessHidesCardSaid : Prop := Claim7.holds Tryz.pinned (.plain (OpenSpec.ofChange accessHidesSpec)) accessHidesCard

/-- THE SECOND FORM's CARD OF 'kilovarlaw09.AccessRights'. -/
def accessRightsUptoCard : Claim7 := { stood := { row := accessRightsUptoRow, standIns := [], harness := (true, "30ad9682167d0f9660c43818cb68e511e7f9caf8634858d982430c270904bdb7"), looks := false }, kinds := [], alts := [], laidByText := true, laidKinds := [.data, .data, .data, .funcs], laidTests := true, laidLooks := .later }
def AccessRightsUptoCardSaid : Prop := Claim7.holds Tryz.pinned (.plain (OpenSpec.upto accessRightsSpec)) accessRightsUptoCard

/-- THE SECOND FORM's CARD OF 'kilovarlaw09.AccessDays'. -/
def accessDaysUptoCard : Claim7 := { stood := { row := accessDaysUptoRow, standIns := [], harness := (true, "30ad9682167d0f9660c43818cb68e511e7f9caf8634858d982430c270904bdb7"), looks := false }, kinds := [], alts := [], laidByText := true, laidKinds := [.data, .data, .data, .funcs], laidTests := true, laidLooks := .later }
def AccessDaysUptoCardSaid : Prop := Claim7.holds Tryz.pinned (.plain (OpenSpec.upto accessDaysSpec)) accessDaysUptoCard

/-- THE SECOND FORM's CARD OF 'kilovarlaw09.AccessSets'. -/
def accessSetsUptoCard : Claim7 := { stood := { row := accessSetsUptoRow, standIns := [], harness := (true, "30ad9682167d0f9660c43818cb68e511e7f9caf8634858d982430c270904bdb7"), looks := false }, kinds := [], alts := [], laidByText := true, laidKinds := [.data, .data, .data, .funcs], laidTests := true, laidLooks := .later }
def AccessSetsUptoCardSaid : Prop := Claim7.holds Tryz.pinned (.plain (OpenSpec.upto accessSetsSpec)) accessSetsUptoCard

/-- THE SECOND FORM's CARD OF 'kilovarlaw09.AccessKnown'. -/
def accessKnownUptoCard : Claim7 := { stood := { row := accessKnownUptoRow, standIns := [], harness := (true, "30ad9682167d0f9660c43818cb68e511e7f9caf8634858d982430c270904bdb7"), looks := false }, kinds := [], alts := [], laidByText := true, laidKinds := [.data, .data, .data, .funcs], laidTests := true, laidLooks := .later }
def AccessKnownUptoCardSaid : Prop := Claim7.holds Tryz.pinned (.plain (OpenSpec.upto accessKnownSpec)) accessKnownUptoCard

/-- THE SECOND FORM's CARD OF 'kilovarlaw09.AccessStores'. -/
def accessStoresUptoCard : Claim7 := { stood := { row := accessStoresUptoRow, standIns := [], harness := (true, "30ad9682167d0f9660c43818cb68e511e7f9caf8634858d982430c270904bdb7"), looks := false }, kinds := [], alts := [], laidByText := true, laidKinds := [.data, .data, .data, .funcs], laidTests := true, laidLooks := .later }
def AccessStoresUptoCardSaid : Prop := Claim7.holds Tryz.pinned (.plain (OpenSpec.upto accessStoresSpec)) accessStoresUptoCard

/-- THE SECOND FORM's CARD OF 'kilovarlaw09.AccessTurns'. -/
def accessTurnsUptoCard : Claim7 := { stood := { row := accessTurnsUptoRow, standIns := [], harness := (true, "30ad9682167d0f9660c43818cb68e511e7f9caf8634858d982430c270904bdb7"), looks := false }, kinds := [], alts := [], laidByText := true, laidKinds := [.data, .data, .data, .funcs], laidTests := true, laidLooks := .later }
def AccessTurnsUptoCardSaid : Prop := Claim7.holds Tryz.pinned (.plain (OpenSpec.upto accessTurnsSpec)) accessTurnsUptoCard

/-- THE SECOND FORM's CARD OF 'kilovarlaw09.AccessProves'. -/
def accessProvesUptoCard : Claim7 := { stood := { row := accessProvesUptoRow, standIns := [], harness := (true, "30ad9682167d0f9660c43818cb68e511e7f9caf8634858d982430c270904bdb7"), looks := false }, kinds := [], alts := [], laidByText := true, laidKinds := [.data, .data, .data, .funcs], laidTests := true, laidLooks := .later }
def AccessProvesUptoCardSaid : Prop := Claim7.holds Tryz.pinned (.plain (OpenSpec.upto accessProvesSpec)) accessProvesUptoCard

/-- THE SECOND FORM's CARD OF 'kilovarlaw09.AccessHides'. -/
def accessHidesUptoCard : Claim7 := { stood := { row := accessHidesUptoRow, standIns := [], harness := (true, "30ad9682167d0f9660c43818cb68e511e7f9caf8634858d982430c270904bdb7"), looks := false }, kinds := [], alts := [], laidByText := true, laidKinds := [.data, .data, .data, .funcs], laidTests := true, laidLooks := .later }
def AccessHidesUptoCardSaid : Prop := Claim7.holds Tryz.pinned (.plain (OpenSpec.upto accessHidesSpec)) accessHidesUptoCard
end Rows
end Go.Proofs.YtifgdpnmgeffbaaGreatDoor
