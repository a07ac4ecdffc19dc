/-
  DERIVED. GIVEN WITH THE SEED: THE CARDS: each row of YtmffgalmdnpcgaaGreatDoorRows.lean that lists a variable, with what it lists TIED to the program's text (the seventh form; the later family's looks); each row that meets fmt, with fmt's text TOLD by the authors' own Lean function (tested against real Go, not proved from fmt's source: count such statements apart). THE CARD IS WHAT COUNTS. Prove the row's statement (the work); the ties are given (YtmffgalmdnpcgaaGreatDoorTie.lean); close each card by the builder's one call (the guide's Derived/Test/ToyasCard.lean, 'card_holds'). Laid BY PROGRAM, IN A SANDBOX (cutbox-door.mjs). By AI agents, Wed Nov 11 2026. No macro, syntax, notation, axiom, sorry.
-/
import Derived.Test.YtmffgalmdnpcgaaGreatDoorRows
import GoSem.ClaimSeven
namespace Go.Proofs.YtmffgalmdnpcgaaGreatDoor
namespace Rows

/-- THE TIED CARD OF 'kilovarlaw07.TariffTariffs'. -/
def tariffTariffsCard : Claim7 := { stood := { row := tariffTariffsRow, standIns := [], harness := (true, "d87acec7a963abd4a738eebefd7350e5f7504370e7fb3c6a8a93001dc0e43843"), looks := false }, kinds := [], alts := [], laidByText := true, laidKinds := [.data, .data, .data, .widerDeep], laidTests := true, laidLooks := .later }
def TariffTariffsCardSaid : Prop := Claim7.holds Tryz.pinned (.plain (OpenSpec.ofChange tariffTariffsSpec)) tariffTariffsCard

/-- THE TIED CARD OF 'kilovarlaw07.TariffRates'. -/
def tariffRatesCard : Claim7 := { stood := { row := tariffRatesRow, standIns := [], harness := (true, "d87acec7a963abd4a738eebefd7350e5f7504370e7fb3c6a8a93001dc0e43843"), looks := false }, kinds := [], alts := [], laidByText := true, laidKinds := [.data, .data, .data, .widerDeep], laidTests := true, laidLooks := .later }
def TariffRatesCardSaid : Prop := Claim7.holds Tryz.pinned (.plain (OpenSpec.ofChange tariffRatesSpec)) tariffRatesCard

/-- THE TIED CARD OF 'kilovarlaw07.TariffVersions'. -/
def tariffVersionsCard : Claim7 := { stood := { row := tariffVersionsRow, standIns := [], harness := (true, "d87acec7a963abd4a738eebefd7350e5f7504370e7fb3c6a8a93001dc0e43843"), looks := false }, kinds := [], alts := [], laidByText := true, laidKinds := [.data, .data, .data, .widerDeep], laidTests := true, laidLooks := .later }
def TariffVersionsCardSaid : Prop := Claim7.holds Tryz.pinned (.plain (OpenSpec.ofChange tariffVersionsSpec)) tariffVersionsCard

/-- THE TIED CARD OF 'kilovarlaw07.TariffBills'. -/
def tariffBillsCard : Claim7 := { stood := { row := tariffBillsRow, standIns := [], harness := (true, "d87acec7a963abd4a738eebefd7350e5f7504370e7fb3c6a8a93001dc0e43843"), looks := false }, kinds := [], alts := [], laidByText := true, laidKinds := [.data, .data, .data, .widerDeep], laidTests := true, laidLooks := .later }
def TariffBillsCardSaid : Prop := Claim7.holds Tryz.pinned (.plain (OpenSpec.ofChange tariffBillsSpec)) tariffBillsCard

/-- THE TIED CARD OF 'kilovarlaw07.TariffCorrects'. -/
def tariffCorrectsCard : Claim7 := { stood := { row := tariffCorrectsRow, standIns := [], harness := (true, "d87acec7a963abd4a738eebefd7350e5f7504370e7fb3c6a8a93001dc0e43843"), looks := false }, kinds := [], alts := [], laidByText := true, laidKinds := [.data, .data, .data, .widerDeep], laidTests := true, laidLooks := .later }
def TariffCorrectsCardSaid : Prop := Claim7.holds Tryz.pinned (.plain (OpenSpec.ofChange tariffCorrectsSpec)) tariffCorrectsCard

/-- THE TIED CARD OF 'kilovarlaw07.TariffCompares'. -/
def tariffComparesCard : Claim7 := { stood := { row := tariffComparesRow, standIns := [], harness := (true, "d87acec7a963abd4a738eebefd7350e5f7504370e7fb3c6a8a93001dc0e43843"), looks := false }, kinds := [], alts := [], laidByText := true, laidKinds := [.data, .data, .data, .widerDeep], laidTests := true, laidLooks := .later }
def TariffComparesCardSaid : Prop := Claim7.holds Tryz.pinned (.plain (OpenSpec.ofChange tariffComparesSpec)) tariffComparesCard

/-- THE TIED CARD OF 'kilovarlaw07.TariffCheapest'. -/
def tariffCheapestCard : Claim7 := { stood := { row := tariffCheapestRow, standIns := [], harness := (true, "d87acec7a963abd4a738eebefd7350e5f7504370e7fb3c6a8a93001dc0e43843"), looks := false }, kinds := [], alts := [], laidByText := true, laidKinds := [.data, .data, .data, .widerDeep], laidTests := true, laidLooks := .later }
def TariffCheapestCardSaid : Prop := Claim7.holds Tryz.pinned (.plain (OpenSpec.ofChange tariffCheapestSpec)) tariffCheapestCard

/-- THE TIED CARD OF 'kilovarlaw07.TariffYears'. -/
def tariffYearsCard : Claim7 := { stood := { row := tariffYearsRow, standIns := [], harness := (true, "d87acec7a963abd4a738eebefd7350e5f7504370e7fb3c6a8a93001dc0e43843"), looks := false }, kinds := [], alts := [], laidByText := true, laidKinds := [.data, .data, .data, .widerDeep], laidTests := true, laidLooks := .later }
def TariffYearsCardSaid : Prop := Claim7.holds Tryz.pinned (.plain (OpenSpec.ofChange tariffYearsSpec)) tariffYearsCard

/-- THE TIED CARD OF 'kilovarlaw07.TariffProfiles'. -/
def tariffProfilesCard : Claim7 := { stood := { row := tariffProfilesRow, standIns := [], harness := (true, "d87acec7a963abd4a738eebefd7350e5f7504370e7fb3c6a8a93001dc0e43843"), looks := false }, kinds := [], alts := [], laidByText := true, laidKinds := [.data, .data, .data, .widerDeep], laidTests := true, laidLooks := .later }
def TariffProfilesCardSaid : Prop := Claim7.holds Tryz.pinned (.plain (OpenSpec.ofChange tariffProfilesSpec)) tariffProfilesCard

/-- THE TIED CARD OF 'kilovarlaw07.TariffLoads'. -/
def tariffLoadsCard : Claim7 := { stood := { row := tariffLoadsRow, standIns := [], harness := (true, "d87acec7a963abd4a738eebefd7350e5f7504370e7fb3c6a8a93001dc0e43843"), looks := false }, kinds := [], alts := [], laidByText := true, laidKinds := [.data, .data, .data, .widerDeep], laidTests := true, laidLooks := .later }
def TariffLoadsCardSaid : Prop := Claim7.holds Tryz.pinned (.plain (OpenSpec.ofChange tariffLoadsSpec)) tariffLoadsCard

/-- THE TIED CARD OF 'kilovarlaw07.TariffGreedy'. -/
def tariffGreedyCard : Claim7 := { stood := { row := tariffGreedyRow, standIns := [], harness := (true, "d87acec7a963abd4a738eebefd7350e5f7504370e7fb3c6a8a93001dc0e43843"), looks := false }, kinds := [], alts := [], laidByText := true, laidKinds := [.data, .data, .data, .widerDeep], laidTests := true, laidLooks := .later }
def TariffGreedyCardSaid : Prop := Claim7.holds Tryz.pinned (.plain (OpenSpec.ofChange tariffGreedySpec)) tariffGreedyCard

/-- THE TIED CARD OF 'kilovarlaw07.TariffJoins'. -/
def tariffJoinsCard : Claim7 := { stood := { row := tariffJoinsRow, standIns := [], harness := (true, "d87acec7a963abd4a738eebefd7350e5f7504370e7fb3c6a8a93001dc0e43843"), looks := false }, kinds := [], alts := [], laidByText := true, laidKinds := [.data, .data, .data, .widerDeep], laidTests := true, laidLooks := .later }
def TariffJoinsCardSaid : Prop := Claim7.holds Tryz.pinned (.plain (OpenSpec.ofChange tariffJoinsSpec)) tariffJoinsCard

/-- THE TIED CARD OF 'kilovarlaw07.TariffParts'. -/
def tariffPartsCard : Claim7 := { stood := { row := tariffPartsRow, standIns := [], harness := (true, "d87acec7a963abd4a738eebefd7350e5f7504370e7fb3c6a8a93001dc0e43843"), looks := false }, kinds := [], alts := [], laidByText := true, laidKinds := [.data, .data, .data, .widerDeep], laidTests := true, laidLooks := .later }
def TariffPartsCardSaid : Prop := Claim7.holds Tryz.pinned (.plain (OpenSpec.ofChange tariffPartsSpec)) tariffPartsCard

/-- THE TIED CARD OF 'kilovarlaw07.TariffTexts'. -/
def tariffTextsCard : Claim7 := { stood := { row := tariffTextsRow, standIns := [], harness := (true, "d87acec7a963abd4a738eebefd7350e5f7504370e7fb3c6a8a93001dc0e43843"), looks := false }, kinds := [], alts := [], laidByText := true, laidKinds := [.data, .data, .data, .data, .widerDeep, .pinned], laidTests := true, laidLooks := .later }
def TariffTextsCardSaid : Prop := Claim7.holds Tryz.pinned (.plain (OpenSpec.ofChange tariffTextsSpec)) tariffTextsCard

/-- THE TIED CARD OF 'kilovarlaw07.TariffBack'. -/
def tariffBackCard : Claim7 := { stood := { row := tariffBackRow, standIns := [], harness := (true, "d87acec7a963abd4a738eebefd7350e5f7504370e7fb3c6a8a93001dc0e43843"), looks := false }, kinds := [], alts := [], laidByText := true, laidKinds := [.data, .data, .data, .data, .widerDeep, .pinned], laidTests := true, laidLooks := .later }
def TariffBackCardSaid : Prop := Claim7.holds Tryz.pinned (.plain (OpenSpec.ofChange tariffBackSpec)) tariffBackCard

/-- THE SECOND FORM's CARD OF 'kilovarlaw07.TariffTariffs'. -/
def tariffTariffsUptoCard : Claim7 := { stood := { row := tariffTariffsUptoRow, standIns := [], harness := (true, "d87acec7a963abd4a738eebefd7350e5f7504370e7fb3c6a8a93001dc0e43843"), looks := false }, kinds := [], alts := [], laidByText := true, laidKinds := [.data, .data, .data, .widerDeep], laidTests := true, laidLooks := .later }
def TariffTariffsUptoCardSaid : Prop := Claim7.holds Tryz.pinned (.plain (OpenSpec.upto tariffTariffsSpec)) tariffTariffsUptoCard

/-- THE SECOND FORM's CARD OF 'kilovarlaw07.TariffRates'. -/
def tariffRatesUptoCard : Claim7 := { stood := { row := tariffRatesUptoRow, standIns := [], harness := (true, "d87acec7a963abd4a738eebefd7350e5f7504370e7fb3c6a8a93001dc0e43843"), looks := false }, kinds := [], alts := [], laidByText := true, laidKinds := [.data, .data, .data, .widerDeep], laidTests := true, laidLooks := .later }
def TariffRatesUptoCardSaid : Prop := Claim7.holds Tryz.pinned (.plain (OpenSpec.upto tariffRatesSpec)) tariffRatesUptoCard

/-- THE SECOND FORM's CARD OF 'kilovarlaw07.TariffVersions'. -/
def tariffVersionsUptoCard : Claim7 := { stood := { row := tariffVersionsUptoRow, standIns := [], harness := (true, "d87acec7a963abd4a738eebefd7350e5f7504370e7fb3c6a8a93001dc0e43843"), looks := false }, kinds := [], alts := [], laidByText := true, laidKinds := [.data, .data, .data, .widerDeep], laidTests := true, laidLooks := .later }
def TariffVersionsUptoCardSaid : Prop := Claim7.holds Tryz.pinned (.plain (OpenSpec.upto tariffVersionsSpec)) tariffVersionsUptoCard

/-- THE SECOND FORM's CARD OF 'kilovarlaw07.TariffBills'. -/
def tariffBillsUptoCard : Claim7 := { stood := { row := tariffBillsUptoRow, standIns := [], harness := (true, "d87acec7a963abd4a738eebefd7350e5f7504370e7fb3c6a8a93001dc0e43843"), looks := false }, kinds := [], alts := [], laidByText := true, laidKinds := [.data, .data, .data, .widerDeep], laidTests := true, laidLooks := .later }
def TariffBillsUptoCardSaid : Prop := Claim7.holds Tryz.pinned (.plain (OpenSpec.upto tariffBillsSpec)) tariffBillsUptoCard

/-- THE SECOND FORM's CARD OF 'kilovarlaw07.TariffCorrects'. -/
def tariffCorrectsUptoCard : Claim7 := { stood := { row := tariffCorrectsUptoRow, standIns := [], harness := (true, "d87acec7a963abd4a738eebefd7350e5f7504370e7fb3c6a8a93001dc0e43843"), looks := false }, kinds := [], alts := [], laidByText := true, laidKinds := [.data, .data, .data, .widerDeep], laidTests := true, laidLooks := .later }
def TariffCorrectsUptoCardSaid : Prop := Claim7.holds Tryz.pinned (.plain (OpenSpec.upto tariffCorrectsSpec)) tariffCorrectsUptoCard

/-- THE SECOND FORM's CARD OF 'kilovarlaw07.TariffCompares'. -/
def tariffComparesUptoCard : Claim7 := { stood := { row := tariffComparesUptoRow, standIns := [], harness := (true, "d87acec7a963abd4a738eebefd7350e5f7504370e7fb3c6a8a93001dc0e43843"), looks := false }, kinds := [], alts := [], laidByText := true, laidKinds := [.data, .data, .data, .widerDeep], laidTests := true, laidLooks := .later }
def TariffComparesUptoCardSaid : Prop := Claim7.holds Tryz.pinned (.plain (OpenSpec.upto tariffComparesSpec)) tariffComparesUptoCard

/-- THE SECOND FORM's CARD OF 'kilovarlaw07.TariffCheapest'. -/
def tariffCheapestUptoCard : Claim7 := { stood := { row := tariffCheapestUptoRow, standIns := [], harness := (true, "d87acec7a963abd4a738eebefd7350e5f7504370e7fb3c6a8a93001dc0e43843"), looks := false }, kinds := [], alts := [], laidByText := true, laidKinds := [.data, .data, .data, .widerDeep], laidTests := true, laidLooks := .later }
def TariffCheapestUptoCardSaid : Prop := Claim7.holds Tryz.pinned (.plain (OpenSpec.upto tariffCheapestSpec)) tariffCheapestUptoCard

/-- THE SECOND FORM's CARD OF 'kilovarlaw07.TariffYears'. -/
def tariffYearsUptoCard : Claim7 := { stood := { row := tariffYearsUptoRow, standIns := [], harness := (true, "d87acec7a963abd4a738eebefd7350e5f7504370e7fb3c6a8a93001dc0e43843"), looks := false }, kinds := [], alts := [], laidByText := true, laidKinds := [.data, .data, .data, .widerDeep], laidTests := true, laidLooks := .later }
def TariffYearsUptoCardSaid : Prop := Claim7.holds Tryz.pinned (.plain (OpenSpec.upto tariffYearsSpec)) tariffYearsUptoCard

/-- THE SECOND FORM's CARD OF 'kilovarlaw07.TariffProfiles'. -/
def tariffProfilesUptoCard : Claim7 := { stood := { row := tariffProfilesUptoRow, standIns := [], harness := (true, "d87acec7a963abd4a738eebefd7350e5f7504370e7fb3c6a8a93001dc0e43843"), looks := false }, kinds := [], alts := [], laidByText := true, laidKinds := [.data, .data, .data, .widerDeep], laidTests := true, laidLooks := .later }
def TariffProfilesUptoCardSaid : Prop := Claim7.holds Tryz.pinned (.plain (OpenSpec.upto tariffProfilesSpec)) tariffProfilesUptoCard

/-- THE SECOND FORM's CARD OF 'kilovarlaw07.TariffLoads'. -/
def tariffLoadsUptoCard : Claim7 := { stood := { row := tariffLoadsUptoRow, standIns := [], harness := (true, "d87acec7a963abd4a738eebefd7350e5f7504370e7fb3c6a8a93001dc0e43843"), looks := false }, kinds := [], alts := [], laidByText := true, laidKinds := [.data, .data, .data, .widerDeep], laidTests := true, laidLooks := .later }
def TariffLoadsUptoCardSaid : Prop := Claim7.holds Tryz.pinned (.plain (OpenSpec.upto tariffLoadsSpec)) tariffLoadsUptoCard

/-- THE SECOND FORM's CARD OF 'kilovarlaw07.TariffGreedy'. -/
def tariffGreedyUptoCard : Claim7 := { stood := { row := tariffGreedyUptoRow, standIns := [], harness := (true, "d87acec7a963abd4a738eebefd7350e5f7504370e7fb3c6a8a93001dc0e43843"), looks := false }, kinds := [], alts := [], laidByText := true, laidKinds := [.data, .data, .data, .widerDeep], laidTests := true, laidLooks := .later }
def TariffGreedyUptoCardSaid : Prop := Claim7.holds Tryz.pinned (.plain (OpenSpec.upto tariffGreedySpec)) tariffGreedyUptoCard

/-- THE SECOND FORM's CARD OF 'kilovarlaw07.TariffJoins'. -/
def tariffJoinsUptoCard : Claim7 := { stood := { row := tariffJoinsUptoRow, standIns := [], harness := (true, "d87acec7a963abd4a738eebefd7350e5f7504370e7fb3c6a8a93001dc0e43843"), looks := false }, kinds := [], alts := [], laidByText := true, laidKinds := [.data, .data, .data, .widerDeep], laidTests := true, laidLooks := .later }
def TariffJoinsUptoCardSaid : Prop := Claim7.holds Tryz.pinned (.plain (OpenSpec.upto tariffJoinsSpec)) tariffJoinsUptoCard

/-- THE SECOND FORM's CARD OF 'kilovarlaw07.TariffParts'. -/
def tariffPartsUptoCard : Claim7 := { stood := { row := tariffPartsUptoRow, standIns := [], harness := (true, "d87acec7a963abd4a738eebefd7350e5f7504370e7fb3c6a8a93001dc0e43843"), looks := false }, kinds := [], alts := [], laidByText := true, laidKinds := [.data, .data, .data, .widerDeep], laidTests := true, laidLooks := .later }
def TariffPartsUptoCardSaid : Prop := Claim7.holds Tryz.pinned (.plain (OpenSpec.upto tariffPartsSpec)) tariffPartsUptoCard

/-- THE SECOND FORM's CARD OF 'kilovarlaw07.TariffTexts'. -/
def tariffTextsUptoCard : Claim7 := { stood := { row := tariffTextsUptoRow, standIns := [], harness := (true, "d87acec7a963abd4a738eebefd7350e5f7504370e7fb3c6a8a93001dc0e43843"), looks := false }, kinds := [], alts := [], laidByText := true, laidKinds := [.data, .data, .data, .data, .widerDeep, .pinned], laidTests := true, laidLooks := .later }
def TariffTextsUptoCardSaid : Prop := Claim7.holds Tryz.pinned (.plain (OpenSpec.upto tariffTextsSpec)) tariffTextsUptoCard

/-- THE SECOND FORM's CARD OF 'kilovarlaw07.TariffBack'. -/
def tariffBackUptoCard : Claim7 := { stood := { row := tariffBackUptoRow, standIns := [], harness := (true, "d87acec7a963abd4a738eebefd7350e5f7504370e7fb3c6a8a93001dc0e43843"), looks := false }, kinds := [], alts := [], laidByText := true, laidKinds := [.data, .data, .data, .data, .widerDeep, .pinned], laidTests := true, laidLooks := .later }
def TariffBackUptoCardSaid : Prop := Claim7.holds Tryz.pinned (.plain (OpenSpec.upto tariffBackSpec)) tariffBackUptoCard
end Rows
end Go.Proofs.YtmffgalmdnpcgaaGreatDoor
