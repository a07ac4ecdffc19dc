/-
  DERIVED. GIVEN WITH THE SEED: THE CARDS: each row of YtmjbifmndhianaaGreatDoorRows.lean that lists a variable, with what it lists TIED to the program's text (the seventh form; the later family's looks); each row that meets fmt, with fmt's text TOLD by the authors' own Lean function (tested against real Go, not proved from fmt's source: count such statements apart). THE CARD IS WHAT COUNTS. Prove the row's statement (the work); the ties are given (YtmjbifmndhianaaGreatDoorTie.lean); close each card by the builder's one call (the guide's Derived/Test/ToyasCard.lean, 'card_holds'). Laid BY PROGRAM, IN A SANDBOX (cutbox-door.mjs). By AI agents, Wed Nov 11 2026. No macro, syntax, notation, axiom, sorry.
-/
import Derived.Test.YtmjbifmndhianaaGreatDoorRows
import GoSem.ClaimSeven
namespace Go.Proofs.YtmjbifmndhianaaGreatDoor
namespace Rows

/-- THE TIED CARD OF 'kilovarlaw08.CreditAccounts'. -/
def creditAccountsCard : Claim7 := { stood := { row := creditAccountsRow, standIns := [], harness := (true, "b900335e6691ecb91640a4443962597f61762a56724ba933637628efe9d6f9da"), looks := false }, kinds := [], alts := [], laidByText := true, laidKinds := [.data, .data, .data], laidTests := true, laidLooks := .later }
def CreditAccountsCardSaid : Prop := Claim7.holds Tryz.pinned (.plain (OpenSpec.ofChange creditAccountsSpec)) creditAccountsCard

/-- THE TIED CARD OF 'kilovarlaw08.CreditTokens'. -/
def creditTokensCard : Claim7 := { stood := { row := creditTokensRow, standIns := [], harness := (true, "b900335e6691ecb91640a4443962597f61762a56724ba933637628efe9d6f9da"), looks := false }, kinds := [], alts := [], laidByText := true, laidKinds := [.data, .data, .data], laidTests := true, laidLooks := .later }
def CreditTokensCardSaid : Prop := Claim7.holds Tryz.pinned (.plain (OpenSpec.ofChange creditTokensSpec)) creditTokensCard

/-- THE TIED CARD OF 'kilovarlaw08.CreditKeys'. -/
def creditKeysCard : Claim7 := { stood := { row := creditKeysRow, standIns := [], harness := (true, "b900335e6691ecb91640a4443962597f61762a56724ba933637628efe9d6f9da"), looks := false }, kinds := [], alts := [], laidByText := true, laidKinds := [.data, .data, .data], laidTests := true, laidLooks := .later }
def CreditKeysCardSaid : Prop := Claim7.holds Tryz.pinned (.plain (OpenSpec.ofChange creditKeysSpec)) creditKeysCard

/-- THE TIED CARD OF 'kilovarlaw08.CreditHours'. -/
def creditHoursCard : Claim7 := { stood := { row := creditHoursRow, standIns := [], harness := (true, "b900335e6691ecb91640a4443962597f61762a56724ba933637628efe9d6f9da"), looks := false }, kinds := [], alts := [], laidByText := true, laidKinds := [.data, .data, .data], laidTests := true, laidLooks := .later }
def CreditHoursCardSaid : Prop := Claim7.holds Tryz.pinned (.plain (OpenSpec.ofChange creditHoursSpec)) creditHoursCard

/-- THE TIED CARD OF 'kilovarlaw08.CreditBarriers'. -/
def creditBarriersCard : Claim7 := { stood := { row := creditBarriersRow, standIns := [], harness := (true, "b900335e6691ecb91640a4443962597f61762a56724ba933637628efe9d6f9da"), looks := false }, kinds := [], alts := [], laidByText := true, laidKinds := [.data, .data, .data], laidTests := true, laidLooks := .later }
def CreditBarriersCardSaid : Prop := Claim7.holds Tryz.pinned (.plain (OpenSpec.ofChange creditBarriersSpec)) creditBarriersCard

/-- THE TIED CARD OF 'kilovarlaw08.CreditOnce'. -/
def creditOnceCard : Claim7 := { stood := { row := creditOnceRow, standIns := [], harness := (true, "b900335e6691ecb91640a4443962597f61762a56724ba933637628efe9d6f9da"), looks := false }, kinds := [], alts := [], laidByText := true, laidKinds := [.data, .data, .data], laidTests := true, laidLooks := .later }
def CreditOnceCardSaid : Prop := Claim7.holds Tryz.pinned (.plain (OpenSpec.ofChange creditOnceSpec)) creditOnceCard

/-- THE TIED CARD OF 'kilovarlaw08.CreditPhases'. -/
def creditPhasesCard : Claim7 := { stood := { row := creditPhasesRow, standIns := [], harness := (true, "b900335e6691ecb91640a4443962597f61762a56724ba933637628efe9d6f9da"), looks := false }, kinds := [], alts := [], laidByText := true, laidKinds := [.data, .data, .data], laidTests := true, laidLooks := .later }
def CreditPhasesCardSaid : Prop := Claim7.holds Tryz.pinned (.plain (OpenSpec.ofChange creditPhasesSpec)) creditPhasesCard

/-- THE TIED CARD OF 'kilovarlaw08.CreditGuarded'. -/
def creditGuardedCard : Claim7 := { stood := { row := creditGuardedRow, standIns := [], harness := (true, "b900335e6691ecb91640a4443962597f61762a56724ba933637628efe9d6f9da"), looks := false }, kinds := [], alts := [], laidByText := true, laidKinds := [.data, .data, .data], laidTests := true, laidLooks := .later }
def CreditGuardedCardSaid : Prop := Claim7.holds Tryz.pinned (.plain (OpenSpec.ofChange creditGuardedSpec)) creditGuardedCard

/-- THE TIED CARD OF 'kilovarlaw08.CreditOrders'. -/
def creditOrdersCard : Claim7 := { stood := { row := creditOrdersRow, standIns := [], harness := (true, "b900335e6691ecb91640a4443962597f61762a56724ba933637628efe9d6f9da"), looks := false }, kinds := [], alts := [], laidByText := true, laidKinds := [.data, .data, .data], laidTests := true, laidLooks := .later }
def CreditOrdersCardSaid : Prop := Claim7.holds Tryz.pinned (.plain (OpenSpec.ofChange creditOrdersSpec)) creditOrdersCard

/-- THE TIED CARD OF 'kilovarlaw08.CreditStrings'. -/
def creditStringsCard : Claim7 := { stood := { row := creditStringsRow, standIns := [], harness := (true, "b900335e6691ecb91640a4443962597f61762a56724ba933637628efe9d6f9da"), looks := false }, kinds := [], alts := [], laidByText := true, laidKinds := [.data, .data, .data, .data, .pinned], laidTests := true, laidLooks := .later }
def CreditStringsCardSaid : Prop := Claim7.holds Tryz.pinned (.plain (OpenSpec.ofChange creditStringsSpec)) creditStringsCard

/-- THE TIED CARD OF 'kilovarlaw08.CreditBack'. -/
def creditBackCard : Claim7 := { stood := { row := creditBackRow, standIns := [], harness := (true, "b900335e6691ecb91640a4443962597f61762a56724ba933637628efe9d6f9da"), looks := false }, kinds := [], alts := [], laidByText := true, laidKinds := [.data, .data, .data, .data, .pinned], laidTests := true, laidLooks := .later }
def CreditBackCardSaid : Prop := Claim7.holds Tryz.pinned (.plain (OpenSpec.ofChange creditBackSpec)) creditBackCard

/-- THE SECOND FORM's CARD OF 'kilovarlaw08.CreditAccounts'. -/
def creditAccountsUptoCard : Claim7 := { stood := { row := creditAccountsUptoRow, standIns := [], harness := (true, "b900335e6691ecb91640a4443962597f61762a56724ba933637628efe9d6f9da"), looks := false }, kinds := [], alts := [], laidByText := true, laidKinds := [.data, .data, .data], laidTests := true, laidLooks := .later }
def CreditAccountsUptoCardSaid : Prop := Claim7.holds Tryz.pinned (.plain (OpenSpec.upto creditAccountsSpec)) creditAccountsUptoCard

/-- THE SECOND FORM's CARD OF 'kilovarlaw08.CreditTokens'. -/
def creditTokensUptoCard : Claim7 := { stood := { row := creditTokensUptoRow, standIns := [], harness := (true, "b900335e6691ecb91640a4443962597f61762a56724ba933637628efe9d6f9da"), looks := false }, kinds := [], alts := [], laidByText := true, laidKinds := [.data, .data, .data], laidTests := true, laidLooks := .later }
def CreditTokensUptoCardSaid : Prop := Claim7.holds Tryz.pinned (.plain (OpenSpec.upto creditTokensSpec)) creditTokensUptoCard

/-- THE SECOND FORM's CARD OF 'kilovarlaw08.CreditKeys'. -/
def creditKeysUptoCard : Claim7 := { stood := { row := creditKeysUptoRow, standIns := [], harness := (true, "b900335e6691ecb91640a4443962597f61762a56724ba933637628efe9d6f9da"), looks := false }, kinds := [], alts := [], laidByText := true, laidKinds := [.data, .data, .data], laidTests := true, laidLooks := .later }
def CreditKeysUptoCardSaid : Prop := Claim7.holds Tryz.pinned (.plain (OpenSpec.upto creditKeysSpec)) creditKeysUptoCard

/-- THE SECOND FORM's CARD OF 'kilovarlaw08.CreditHours'. -/
def creditHoursUptoCard : Claim7 := { stood := { row := creditHoursUptoRow, standIns := [], harness := (true, "b900335e6691ecb91640a4443962597f61762a56724ba933637628efe9d6f9da"), looks := false }, kinds := [], alts := [], laidByText := true, laidKinds := [.data, .data, .data], laidTests := true, laidLooks := .later }
def CreditHoursUptoCardSaid : Prop := Claim7.holds Tryz.pinned (.plain (OpenSpec.upto creditHoursSpec)) creditHoursUptoCard

/-- THE SECOND FORM's CARD OF 'kilovarlaw08.CreditBarriers'. -/
def creditBarriersUptoCard : Claim7 := { stood := { row := creditBarriersUptoRow, standIns := [], harness := (true, "b900335e6691ecb91640a4443962597f61762a56724ba933637628efe9d6f9da"), looks := false }, kinds := [], alts := [], laidByText := true, laidKinds := [.data, .data, .data], laidTests := true, laidLooks := .later }
def CreditBarriersUptoCardSaid : Prop := Claim7.holds Tryz.pinned (.plain (OpenSpec.upto creditBarriersSpec)) creditBarriersUptoCard

/-- THE SECOND FORM's CARD OF 'kilovarlaw08.CreditOnce'. -/
def creditOnceUptoCard : Claim7 := { stood := { row := creditOnceUptoRow, standIns := [], harness := (true, "b900335e6691ecb91640a4443962597f61762a56724ba933637628efe9d6f9da"), looks := false }, kinds := [], alts := [], laidByText := true, laidKinds := [.data, .data, .data], laidTests := true, laidLooks := .later }
def CreditOnceUptoCardSaid : Prop := Claim7.holds Tryz.pinned (.plain (OpenSpec.upto creditOnceSpec)) creditOnceUptoCard

/-- THE SECOND FORM's CARD OF 'kilovarlaw08.CreditPhases'. -/
def creditPhasesUptoCard : Claim7 := { stood := { row := creditPhasesUptoRow, standIns := [], harness := (true, "b900335e6691ecb91640a4443962597f61762a56724ba933637628efe9d6f9da"), looks := false }, kinds := [], alts := [], laidByText := true, laidKinds := [.data, .data, .data], laidTests := true, laidLooks := .later }
def CreditPhasesUptoCardSaid : Prop := Claim7.holds Tryz.pinned (.plain (OpenSpec.upto creditPhasesSpec)) creditPhasesUptoCard

/-- THE SECOND FORM's CARD OF 'kilovarlaw08.CreditGuarded'. -/
def creditGuardedUptoCard : Claim7 := { stood := { row := creditGuardedUptoRow, standIns := [], harness := (true, "b900335e6691ecb91640a4443962597f61762a56724ba933637628efe9d6f9da"), looks := false }, kinds := [], alts := [], laidByText := true, laidKinds := [.data, .data, .data], laidTests := true, laidLooks := .later }
def CreditGuardedUptoCardSaid : Prop := Claim7.holds Tryz.pinned (.plain (OpenSpec.upto creditGuardedSpec)) creditGuardedUptoCard

/-- THE SECOND FORM's CARD OF 'kilovarlaw08.CreditOrders'. -/
def creditOrdersUptoCard : Claim7 := { stood := { row := creditOrdersUptoRow, standIns := [], harness := (true, "b900335e6691ecb91640a4443962597f61762a56724ba933637628efe9d6f9da"), looks := false }, kinds := [], alts := [], laidByText := true, laidKinds := [.data, .data, .data], laidTests := true, laidLooks := .later }
def CreditOrdersUptoCardSaid : Prop := Claim7.holds Tryz.pinned (.plain (OpenSpec.upto creditOrdersSpec)) creditOrdersUptoCard

/-- THE SECOND FORM's CARD OF 'kilovarlaw08.CreditStrings'. -/
def creditStringsUptoCard : Claim7 := { stood := { row := creditStringsUptoRow, standIns := [], harness := (true, "b900335e6691ecb91640a4443962597f61762a56724ba933637628efe9d6f9da"), looks := false }, kinds := [], alts := [], laidByText := true, laidKinds := [.data, .data, .data, .data, .pinned], laidTests := true, laidLooks := .later }
def CreditStringsUptoCardSaid : Prop := Claim7.holds Tryz.pinned (.plain (OpenSpec.upto creditStringsSpec)) creditStringsUptoCard

/-- THE SECOND FORM's CARD OF 'kilovarlaw08.CreditBack'. -/
def creditBackUptoCard : Claim7 := { stood := { row := creditBackUptoRow, standIns := [], harness := (true, "b900335e6691ecb91640a4443962597f61762a56724ba933637628efe9d6f9da"), looks := false }, kinds := [], alts := [], laidByText := true, laidKinds := [.data, .data, .data, .data, .pinned], laidTests := true, laidLooks := .later }
def CreditBackUptoCardSaid : Prop := Claim7.holds Tryz.pinned (.plain (OpenSpec.upto creditBackSpec)) creditBackUptoCard
end Rows
end Go.Proofs.YtmjbifmndhianaaGreatDoor
