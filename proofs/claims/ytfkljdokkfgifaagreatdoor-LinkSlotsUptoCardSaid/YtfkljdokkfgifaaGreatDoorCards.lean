/-
  DERIVED. GIVEN WITH THE SEED: THE CARDS: each row of YtfkljdokkfgifaaGreatDoorRows.lean that lists a variable, with what it lists TIED to the program's text (the seventh form; the later family's looks); each row that meets fmt, with fmt's text TOLD by the authors' own Lean function (tested against real Go, not proved from fmt's source: count such statements apart). THE CARD IS WHAT COUNTS. Prove the row's statement (the work); the ties are given (YtfkljdokkfgifaaGreatDoorTie.lean); close each card by the builder's one call (the guide's Derived/Test/ToyasCard.lean, 'card_holds'). Laid BY PROGRAM, IN A SANDBOX (cutbox-door.mjs). By AI agents, Wed Nov 11 2026. No macro, syntax, notation, axiom, sorry.
-/
import Derived.Test.YtfkljdokkfgifaaGreatDoorRows
import GoSem.ClaimSeven
namespace Go.Proofs.YtfkljdokkfgifaaGreatDoor
namespace Rows

/-- THE TIED CARD OF 'kilovarlaw04.LinkMessages'. -/
def linkMessagesCard : Claim7 := { stood := { row := linkMessagesRow, standIns := [], harness := (true, "15e93217e1ea6a1382b88c07f7a1c6b083aedb0479f7512c7890cd4b20f15e50"), looks := false }, kinds := [], alts := [], laidByText := true, laidKinds := [.data, .data, .data], laidTests := true, laidLooks := .later }
def LinkMessagesCardSaid : Prop := Claim7.holds Tryz.pinned (.plain (OpenSpec.ofChange linkMessagesSpec)) linkMessagesCard

/-- THE TIED CARD OF 'kilovarlaw04.LinkSteps'. -/
def linkStepsCard : Claim7 := { stood := { row := linkStepsRow, standIns := [], harness := (true, "15e93217e1ea6a1382b88c07f7a1c6b083aedb0479f7512c7890cd4b20f15e50"), looks := false }, kinds := [], alts := [], laidByText := true, laidKinds := [.data, .data, .data], laidTests := true, laidLooks := .later }
def LinkStepsCardSaid : Prop := Claim7.holds Tryz.pinned (.plain (OpenSpec.ofChange linkStepsSpec)) linkStepsCard

/-- THE TIED CARD OF 'kilovarlaw04.LinkRounds'. -/
def linkRoundsCard : Claim7 := { stood := { row := linkRoundsRow, standIns := [], harness := (true, "15e93217e1ea6a1382b88c07f7a1c6b083aedb0479f7512c7890cd4b20f15e50"), looks := false }, kinds := [], alts := [], laidByText := true, laidKinds := [.data, .data, .data], laidTests := true, laidLooks := .later }
def LinkRoundsCardSaid : Prop := Claim7.holds Tryz.pinned (.plain (OpenSpec.ofChange linkRoundsSpec)) linkRoundsCard

/-- THE TIED CARD OF 'kilovarlaw04.LinkSlots'. -/
def linkSlotsCard : Claim7 := { stood := { row := linkSlotsRow, standIns := [], harness := (true, "15e93217e1ea6a1382b88c07f7a1c6b083aedb0479f7512c7890cd4b20f15e50"), looks := false }, kinds := [], alts := [], laidByText := true, laidKinds := [.data, .data, .data], laidTests := true, laidLooks := .later }
def LinkSlotsCardSaid : Prop := Claim7.holds Tryz.pinned (.plain (OpenSpec.ofChange linkSlotsSpec)) linkSlotsCard

/-- THE TIED CARD OF 'kilovarlaw04.LinkWhole'. -/
def linkWholeCard : Claim7 := { stood := { row := linkWholeRow, standIns := [], harness := (true, "15e93217e1ea6a1382b88c07f7a1c6b083aedb0479f7512c7890cd4b20f15e50"), looks := false }, kinds := [], alts := [], laidByText := true, laidKinds := [.data, .data, .data], laidTests := true, laidLooks := .later }
def LinkWholeCardSaid : Prop := Claim7.holds Tryz.pinned (.plain (OpenSpec.ofChange linkWholeSpec)) linkWholeCard

/-- THE TIED CARD OF 'kilovarlaw04.LinkOnce'. -/
def linkOnceCard : Claim7 := { stood := { row := linkOnceRow, standIns := [], harness := (true, "15e93217e1ea6a1382b88c07f7a1c6b083aedb0479f7512c7890cd4b20f15e50"), looks := false }, kinds := [], alts := [], laidByText := true, laidKinds := [.data, .data, .data], laidTests := true, laidLooks := .later }
def LinkOnceCardSaid : Prop := Claim7.holds Tryz.pinned (.plain (OpenSpec.ofChange linkOnceSpec)) linkOnceCard

/-- THE TIED CARD OF 'kilovarlaw04.LinkTexts'. -/
def linkTextsCard : Claim7 := { stood := { row := linkTextsRow, standIns := [], harness := (true, "15e93217e1ea6a1382b88c07f7a1c6b083aedb0479f7512c7890cd4b20f15e50"), looks := false }, kinds := [], alts := [], laidByText := true, laidKinds := [.data, .data, .data, .data, .pinned], laidTests := true, laidLooks := .later }
def LinkTextsCardSaid : Prop := Claim7.holds Tryz.pinned (.plain (OpenSpec.ofChange linkTextsSpec)) linkTextsCard

/-- THE TIED CARD OF 'kilovarlaw04.LinkFair'. -/
def linkFairCard : Claim7 := { stood := { row := linkFairRow, standIns := [], harness := (true, "15e93217e1ea6a1382b88c07f7a1c6b083aedb0479f7512c7890cd4b20f15e50"), looks := false }, kinds := [], alts := [], laidByText := true, laidKinds := [.data, .data, .data, .data, .pinned], laidTests := true, laidLooks := .later }
def LinkFairCardSaid : Prop := Claim7.holds Tryz.pinned (.plain (OpenSpec.ofChange linkFairSpec)) linkFairCard

/-- THE SECOND FORM's CARD OF 'kilovarlaw04.LinkMessages'. -/
def linkMessagesUptoCard : Claim7 := { stood := { row := linkMessagesUptoRow, standIns := [], harness := (true, "15e93217e1ea6a1382b88c07f7a1c6b083aedb0479f7512c7890cd4b20f15e50"), looks := false }, kinds := [], alts := [], laidByText := true, laidKinds := [.data, .data, .data], laidTests := true, laidLooks := .later }
def LinkMessagesUptoCardSaid : Prop := Claim7.holds Tryz.pinned (.plain (OpenSpec.upto linkMessagesSpec)) linkMessagesUptoCard

/-- THE SECOND FORM's CARD OF 'kilovarlaw04.LinkSteps'. -/
def linkStepsUptoCard : Claim7 := { stood := { row := linkStepsUptoRow, standIns := [], harness := (true, "15e93217e1ea6a1382b88c07f7a1c6b083aedb0479f7512c7890cd4b20f15e50"), looks := false }, kinds := [], alts := [], laidByText := true, laidKinds := [.data, .data, .data], laidTests := true, laidLooks := .later }
def LinkStepsUptoCardSaid : Prop := Claim7.holds Tryz.pinned (.plain (OpenSpec.upto linkStepsSpec)) linkStepsUptoCard

/-- THE SECOND FORM's CARD OF 'kilovarlaw04.LinkRounds'. -/
def linkRoundsUptoCard : Claim7 := { stood := { row := linkRoundsUptoRow, standIns := [], harness := (true, "15e93217e1ea6a1382b88c07f7a1c6b083aedb0479f7512c7890cd4b20f15e50"), looks := false }, kinds := [], alts := [], laidByText := true, laidKinds := [.data, .data, .data], laidTests := true, laidLooks := .later }
def LinkRoundsUptoCardSaid : Prop := Claim7.holds Tryz.pinned (.plain (OpenSpec.upto linkRoundsSpec)) linkRoundsUptoCard

/-- THE SECOND FORM's CARD OF 'kilovarlaw04.LinkSlots'. -/
def linkSlotsUptoCard : Claim7 := { stood := { row := linkSlotsUptoRow, standIns := [], harness := (true, "15e93217e1ea6a1382b88c07f7a1c6b083aedb0479f7512c7890cd4b20f15e50"), looks := false }, kinds := [], alts := [], laidByText := true, laidKinds := [.data, .data, .data], laidTests := true, laidLooks := .later }
def LinkSlotsUptoCardSaid : Prop := Claim7.holds Tryz.pinned (.plain (OpenSpec.upto linkSlotsSpec)) linkSlotsUptoCard

/-- THE SECOND FORM's CARD OF 'kilovarlaw04.LinkWhole'. -/
def linkWholeUptoCard : Claim7 := { stood := { row := linkWholeUptoRow, standIns := [], harness := (true, "15e93217e1ea6a1382b88c07f7a1c6b083aedb0479f7512c7890cd4b20f15e50"), looks := false }, kinds := [], alts := [], laidByText := true, laidKinds := [.data, .data, .data], laidTests := true, laidLooks := .later }
def LinkWholeUptoCardSaid : Prop := Claim7.holds Tryz.pinned (.plain (OpenSpec.upto linkWholeSpec)) linkWholeUptoCard

/-- THE SECOND FORM's CARD OF 'kilovarlaw04.LinkOnce'. -/
def linkOnceUptoCard : Claim7 := { stood := { row := linkOnceUptoRow, standIns := [], harness := (true, "15e93217e1ea6a1382b88c07f7a1c6b083aedb0479f7512c7890cd4b20f15e50"), looks := false }, kinds := [], alts := [], laidByText := true, laidKinds := [.data, .data, .data], laidTests := true, laidLooks := .later }
def LinkOnceUptoCardSaid : Prop := Claim7.holds Tryz.pinned (.plain (OpenSpec.upto linkOnceSpec)) linkOnceUptoCard

/-- THE SECOND FORM's CARD OF 'kilovarlaw04.LinkTexts'. -/
def linkTextsUptoCard : Claim7 := { stood := { row := linkTextsUptoRow, standIns := [], harness := (true, "15e93217e1ea6a1382b88c07f7a1c6b083aedb0479f7512c7890cd4b20f15e50"), looks := false }, kinds := [], alts := [], laidByText := true, laidKinds := [.data, .data, .data, .data, .pinned], laidTests := true, laidLooks := .later }
def LinkTextsUptoCardSaid : Prop := Claim7.holds Tryz.pinned (.plain (OpenSpec.upto linkTextsSpec)) linkTextsUptoCard

/-- THE SECOND FORM's CARD OF 'kilovarlaw04.LinkFair'. -/
def linkFairUptoCard : Claim7 := { stood := { row := linkFairUptoRow, standIns := [], harness := (true, "15e93217e1ea6a1382b88c07f7a1c6b083aedb0479f7512c7890cd4b20f15e50"), looks := false }, kinds := [], alts := [], laidByText := true, laidKinds := [.data, .data, .data, .data, .pinned], laidTests := true, laidLooks := .later }
def LinkFairUptoCardSaid : Prop := Claim7.holds Tryz.pinned (.plain (OpenSpec.upto linkFairSpec)) linkFairUptoCard
end Rows
end Go.Proofs.YtfkljdokkfgifaaGreatDoor
