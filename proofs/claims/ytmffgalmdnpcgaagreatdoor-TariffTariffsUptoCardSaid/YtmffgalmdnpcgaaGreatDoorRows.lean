/-
  NARROWER THAN 'FOR EVERY INPUT', by the rows' own cells (each row's printed sentence says how): TariffTariffs: laid · TariffRates: laid · TariffVersions: laid · TariffBills: laid · TariffCorrects: laid · TariffCompares: laid · TariffCheapest: laid · TariffYears: laid · TariffProfiles: laid · TariffLoads: laid · TariffGreedy: laid · TariffJoins: laid · TariffParts: laid · TariffTexts: laid · TariffBack: laid.
  DERIVED. THE GIVEN ROWS OF THIS SEAT. 15 by the template 'for every input the law returns true; each argument reads behind the call as it read before'; 0 by the template 'total and deterministic' (their statements: YtmffgalmdnpcgaaGreatDoorTotals.lean).
  GIVEN WITH THE SEED: the statements are not yours to turn. If you find one false, say at which input.
  Laid BY PROGRAM, IN A SANDBOX (cutbox-rows.mjs): the forced cells as the released guide's own fill.sh prints them over the translation 2705c813a7e519a5… (all of the seat's roots in one cut). By AI agents, Wed Nov 11 2026. No macro, syntax, notation, axiom, sorry.
-/
import Derived.Test.YtmffgalmdnpcgaaGreatDoorChecked
import GoSem.PinnedTables
import GoSem.Claim
import GoSem.ClaimJoined
import GoSem.ClaimMapViews
import Derived.JoinedTies
import Derived.KernelRfl
namespace Go.Proofs.YtmffgalmdnpcgaaGreatDoor
/- THE CELL 'sum', in the pinned program and in every row, IS THE sha256 OF THE DUMP (.gsa) THAT YtmffgalmdnpcgaaGreatDoorProg.lean LOADS. Nothing in Lean hashes anything: it is a label: what it is worth is what the hold of that sum in a sandbox is worth. -/
noncomputable def Tryz.pinned : Pinned := { name := "ytmffgalmdnpcgaagreatdoor", sum := "2705c813a7e519a5b86192210f2704f3fa7769392a4011ffc6264d51de3f5da3", checked := Tryz.checked }
namespace Rows
def none {H : Type} : Left H := { results := [], args := [] }

/- WHAT THE LISTED PACKAGE-LEVEL VARIABLES READ AS WHEN THE CALL BEGINS. Each datum BY PROGRAM (the guide's laid-datum.mjs) off the statement by which the dump's own 'gosem.cut.vars' lays the variable. In a bare row this is a premise. The card (YtmffgalmdnpcgaaGreatDoorCards.lean) ties it to the program's text. -/
def laid_math_bits_deBruijn32tab {H : Type} : DataW H := .agg [.lit (.int .u8 0), .lit (.int .u8 1), .lit (.int .u8 28), .lit (.int .u8 2), .lit (.int .u8 29), .lit (.int .u8 14), .lit (.int .u8 24), .lit (.int .u8 3), .lit (.int .u8 30), .lit (.int .u8 22), .lit (.int .u8 20), .lit (.int .u8 15), .lit (.int .u8 25), .lit (.int .u8 17), .lit (.int .u8 4), .lit (.int .u8 8), .lit (.int .u8 31), .lit (.int .u8 27), .lit (.int .u8 13), .lit (.int .u8 23), .lit (.int .u8 21), .lit (.int .u8 19), .lit (.int .u8 16), .lit (.int .u8 7), .lit (.int .u8 26), .lit (.int .u8 12), .lit (.int .u8 18), .lit (.int .u8 6), .lit (.int .u8 11), .lit (.int .u8 5), .lit (.int .u8 10), .lit (.int .u8 9)]
def laid_math_bits_deBruijn64tab {H : Type} : DataW H := .agg [.lit (.int .u8 0), .lit (.int .u8 1), .lit (.int .u8 56), .lit (.int .u8 2), .lit (.int .u8 57), .lit (.int .u8 49), .lit (.int .u8 28), .lit (.int .u8 3), .lit (.int .u8 61), .lit (.int .u8 58), .lit (.int .u8 42), .lit (.int .u8 50), .lit (.int .u8 38), .lit (.int .u8 29), .lit (.int .u8 17), .lit (.int .u8 4), .lit (.int .u8 62), .lit (.int .u8 47), .lit (.int .u8 59), .lit (.int .u8 36), .lit (.int .u8 45), .lit (.int .u8 43), .lit (.int .u8 51), .lit (.int .u8 22), .lit (.int .u8 53), .lit (.int .u8 39), .lit (.int .u8 33), .lit (.int .u8 30), .lit (.int .u8 24), .lit (.int .u8 18), .lit (.int .u8 12), .lit (.int .u8 5), .lit (.int .u8 63), .lit (.int .u8 55), .lit (.int .u8 48), .lit (.int .u8 27), .lit (.int .u8 60), .lit (.int .u8 41), .lit (.int .u8 37), .lit (.int .u8 16), .lit (.int .u8 46), .lit (.int .u8 35), .lit (.int .u8 44), .lit (.int .u8 21), .lit (.int .u8 52), .lit (.int .u8 32), .lit (.int .u8 23), .lit (.int .u8 11), .lit (.int .u8 54), .lit (.int .u8 26), .lit (.int .u8 40), .lit (.int .u8 15), .lit (.int .u8 34), .lit (.int .u8 20), .lit (.int .u8 31), .lit (.int .u8 10), .lit (.int .u8 25), .lit (.int .u8 14), .lit (.int .u8 19), .lit (.int .u8 9), .lit (.int .u8 13), .lit (.int .u8 8), .lit (.int .u8 7), .lit (.int .u8 6)]
def laid_internal_strconv_uint64pow10 {H : Type} : DataW H := .agg [.lit (.int .u64 1), .lit (.int .u64 10), .lit (.int .u64 100), .lit (.int .u64 1000), .lit (.int .u64 10000), .lit (.int .u64 100000), .lit (.int .u64 1000000), .lit (.int .u64 10000000), .lit (.int .u64 100000000), .lit (.int .u64 1000000000), .lit (.int .u64 10000000000), .lit (.int .u64 100000000000), .lit (.int .u64 1000000000000), .lit (.int .u64 10000000000000), .lit (.int .u64 100000000000000), .lit (.int .u64 1000000000000000), .lit (.int .u64 10000000000000000), .lit (.int .u64 100000000000000000), .lit (.int .u64 1000000000000000000), .lit (.int .u64 10000000000000000000)]
def laid_kilovar_tariff_steps {H : Type} : DataW H := .agg [.lit (.int .i64 900), .lit (.int .i64 1800), .lit (.int .i64 3600)]
def laid_unicode_utf8_acceptRanges {H : Type} : DataW H := .agg [.agg [.lit (.int .u8 128), .lit (.int .u8 191)], .agg [.lit (.int .u8 160), .lit (.int .u8 191)], .agg [.lit (.int .u8 128), .lit (.int .u8 159)], .agg [.lit (.int .u8 144), .lit (.int .u8 191)], .agg [.lit (.int .u8 128), .lit (.int .u8 143)], .agg [.lit (.int .u8 0), .lit (.int .u8 0)], .agg [.lit (.int .u8 0), .lit (.int .u8 0)], .agg [.lit (.int .u8 0), .lit (.int .u8 0)], .agg [.lit (.int .u8 0), .lit (.int .u8 0)], .agg [.lit (.int .u8 0), .lit (.int .u8 0)], .agg [.lit (.int .u8 0), .lit (.int .u8 0)], .agg [.lit (.int .u8 0), .lit (.int .u8 0)], .agg [.lit (.int .u8 0), .lit (.int .u8 0)], .agg [.lit (.int .u8 0), .lit (.int .u8 0)], .agg [.lit (.int .u8 0), .lit (.int .u8 0)], .agg [.lit (.int .u8 0), .lit (.int .u8 0)]]
/-- One of Go's own tables, pinned by name: the form's constant. -/
def laid_unicode_utf8_first : DataW Unit := Go.Pinned.utf8First

/-- 'kilovarlaw07.TariffTariffs': WHATEVER THE INPUT: true; the input reads as it did. -/
def tariffTariffsSpec : ChangeSpec := { name := "tariffTariffs", fn := fun _ => fun
  | [d1, d2, d3] => { results := [.lit (.bool true)], args := [d1, d2, d3] }
  | _ => none }
def tariffTariffsRow : OpenClaim := { program := "ytmffgalmdnpcgaagreatdoor", sum := "2705c813a7e519a5b86192210f2704f3fa7769392a4011ffc6264d51de3f5da3", func := "kilovar/kilovarlaw07.TariffTariffs", spec := "tariffTariffs", inPlace := ["internal/abi.NoEscape", "internal/bytealg.MakeNoZero"], unfollowed := true, recurses := true, named := ["kilovar/tariff.steps", "internal/strconv.uint64pow10", "math/bits.deBruijn32tab", "math/bits.deBruijn64tab"], plainKeys := false, apart := false, laid := [("math/bits.deBruijn32tab", laid_math_bits_deBruijn32tab), ("math/bits.deBruijn64tab", laid_math_bits_deBruijn64tab), ("internal/strconv.uint64pow10", laid_internal_strconv_uint64pow10), ("kilovar/tariff.steps", laid_kilovar_tariff_steps)] }
def TariffTariffsSaid : Prop := tariffTariffsRow.holds Tryz.pinned (OpenSpec.ofChange tariffTariffsSpec)

/-- ITS FALSE NEIGHBOUR: 'it returns false'. Refute it at one input. -/
def tariffTariffsWrong : ChangeSpec := { name := "tariffTariffs", fn := fun _ => fun
  | [d1, d2, d3] => { results := [.lit (.bool false)], args := [d1, d2, d3] }
  | _ => none }
def TariffTariffsWrongFalsely : Prop := tariffTariffsRow.holds Tryz.pinned (OpenSpec.ofChange tariffTariffsWrong)

/-- 'kilovarlaw07.TariffRates': WHATEVER THE INPUT: true; the input reads as it did. -/
def tariffRatesSpec : ChangeSpec := { name := "tariffRates", fn := fun _ => fun
  | [d1, d2] => { results := [.lit (.bool true)], args := [d1, d2] }
  | _ => none }
def tariffRatesRow : OpenClaim := { program := "ytmffgalmdnpcgaagreatdoor", sum := "2705c813a7e519a5b86192210f2704f3fa7769392a4011ffc6264d51de3f5da3", func := "kilovar/kilovarlaw07.TariffRates", spec := "tariffRates", inPlace := ["internal/abi.NoEscape", "internal/bytealg.MakeNoZero"], unfollowed := true, recurses := true, named := ["kilovar/tariff.steps", "internal/strconv.uint64pow10", "math/bits.deBruijn32tab", "math/bits.deBruijn64tab"], plainKeys := false, apart := false, laid := [("math/bits.deBruijn32tab", laid_math_bits_deBruijn32tab), ("math/bits.deBruijn64tab", laid_math_bits_deBruijn64tab), ("internal/strconv.uint64pow10", laid_internal_strconv_uint64pow10), ("kilovar/tariff.steps", laid_kilovar_tariff_steps)] }
def TariffRatesSaid : Prop := tariffRatesRow.holds Tryz.pinned (OpenSpec.ofChange tariffRatesSpec)

/-- ITS FALSE NEIGHBOUR: 'it returns false'. Refute it at one input. -/
def tariffRatesWrong : ChangeSpec := { name := "tariffRates", fn := fun _ => fun
  | [d1, d2] => { results := [.lit (.bool false)], args := [d1, d2] }
  | _ => none }
def TariffRatesWrongFalsely : Prop := tariffRatesRow.holds Tryz.pinned (OpenSpec.ofChange tariffRatesWrong)

/-- 'kilovarlaw07.TariffVersions': WHATEVER THE INPUT: true; the input reads as it did. -/
def tariffVersionsSpec : ChangeSpec := { name := "tariffVersions", fn := fun _ => fun
  | [d1, d2, d3] => { results := [.lit (.bool true)], args := [d1, d2, d3] }
  | _ => none }
def tariffVersionsRow : OpenClaim := { program := "ytmffgalmdnpcgaagreatdoor", sum := "2705c813a7e519a5b86192210f2704f3fa7769392a4011ffc6264d51de3f5da3", func := "kilovar/kilovarlaw07.TariffVersions", spec := "tariffVersions", inPlace := ["internal/abi.NoEscape", "internal/bytealg.MakeNoZero"], unfollowed := true, recurses := true, named := ["kilovar/tariff.steps", "internal/strconv.uint64pow10", "math/bits.deBruijn32tab", "math/bits.deBruijn64tab"], plainKeys := false, apart := false, laid := [("math/bits.deBruijn32tab", laid_math_bits_deBruijn32tab), ("math/bits.deBruijn64tab", laid_math_bits_deBruijn64tab), ("internal/strconv.uint64pow10", laid_internal_strconv_uint64pow10), ("kilovar/tariff.steps", laid_kilovar_tariff_steps)] }
def TariffVersionsSaid : Prop := tariffVersionsRow.holds Tryz.pinned (OpenSpec.ofChange tariffVersionsSpec)

/-- ITS FALSE NEIGHBOUR: 'it returns false'. Refute it at one input. -/
def tariffVersionsWrong : ChangeSpec := { name := "tariffVersions", fn := fun _ => fun
  | [d1, d2, d3] => { results := [.lit (.bool false)], args := [d1, d2, d3] }
  | _ => none }
def TariffVersionsWrongFalsely : Prop := tariffVersionsRow.holds Tryz.pinned (OpenSpec.ofChange tariffVersionsWrong)

/-- 'kilovarlaw07.TariffBills': WHATEVER THE INPUT: true; the input reads as it did. -/
def tariffBillsSpec : ChangeSpec := { name := "tariffBills", fn := fun _ => fun
  | [d1, d2, d3] => { results := [.lit (.bool true)], args := [d1, d2, d3] }
  | _ => none }
def tariffBillsRow : OpenClaim := { program := "ytmffgalmdnpcgaagreatdoor", sum := "2705c813a7e519a5b86192210f2704f3fa7769392a4011ffc6264d51de3f5da3", func := "kilovar/kilovarlaw07.TariffBills", spec := "tariffBills", inPlace := ["internal/abi.NoEscape", "internal/bytealg.MakeNoZero"], unfollowed := true, recurses := true, named := ["kilovar/tariff.steps", "internal/strconv.uint64pow10", "math/bits.deBruijn32tab", "math/bits.deBruijn64tab"], plainKeys := false, apart := false, laid := [("math/bits.deBruijn32tab", laid_math_bits_deBruijn32tab), ("math/bits.deBruijn64tab", laid_math_bits_deBruijn64tab), ("internal/strconv.uint64pow10", laid_internal_strconv_uint64pow10), ("kilovar/tariff.steps", laid_kilovar_tariff_steps)] }
def TariffBillsSaid : Prop := tariffBillsRow.holds Tryz.pinned (OpenSpec.ofChange tariffBillsSpec)

/-- ITS FALSE NEIGHBOUR: 'it returns false'. Refute it at one input. -/
def tariffBillsWrong : ChangeSpec := { name := "tariffBills", fn := fun _ => fun
  | [d1, d2, d3] => { results := [.lit (.bool false)], args := [d1, d2, d3] }
  | _ => none }
def TariffBillsWrongFalsely : Prop := tariffBillsRow.holds Tryz.pinned (OpenSpec.ofChange tariffBillsWrong)

/-- 'kilovarlaw07.TariffCorrects': WHATEVER THE INPUT: true; the input reads as it did. -/
def tariffCorrectsSpec : ChangeSpec := { name := "tariffCorrects", fn := fun _ => fun
  | [d1, d2, d3] => { results := [.lit (.bool true)], args := [d1, d2, d3] }
  | _ => none }
def tariffCorrectsRow : OpenClaim := { program := "ytmffgalmdnpcgaagreatdoor", sum := "2705c813a7e519a5b86192210f2704f3fa7769392a4011ffc6264d51de3f5da3", func := "kilovar/kilovarlaw07.TariffCorrects", spec := "tariffCorrects", inPlace := ["internal/abi.NoEscape", "internal/bytealg.MakeNoZero"], unfollowed := true, recurses := true, named := ["kilovar/tariff.steps", "internal/strconv.uint64pow10", "math/bits.deBruijn32tab", "math/bits.deBruijn64tab"], plainKeys := false, apart := false, laid := [("math/bits.deBruijn32tab", laid_math_bits_deBruijn32tab), ("math/bits.deBruijn64tab", laid_math_bits_deBruijn64tab), ("internal/strconv.uint64pow10", laid_internal_strconv_uint64pow10), ("kilovar/tariff.steps", laid_kilovar_tariff_steps)] }
def TariffCorrectsSaid : Prop := tariffCorrectsRow.holds Tryz.pinned (OpenSpec.ofChange tariffCorrectsSpec)

/-- ITS FALSE NEIGHBOUR: 'it returns false'. Refute it at one input. -/
def tariffCorrectsWrong : ChangeSpec := { name := "tariffCorrects", fn := fun _ => fun
  | [d1, d2, d3] => { results := [.lit (.bool false)], args := [d1, d2, d3] }
  | _ => none }
def TariffCorrectsWrongFalsely : Prop := tariffCorrectsRow.holds Tryz.pinned (OpenSpec.ofChange tariffCorrectsWrong)

/-- 'kilovarlaw07.TariffCompares': WHATEVER THE INPUT: true; the input reads as it did. -/
def tariffComparesSpec : ChangeSpec := { name := "tariffCompares", fn := fun _ => fun
  | [d1, d2, d3] => { results := [.lit (.bool true)], args := [d1, d2, d3] }
  | _ => none }
def tariffComparesRow : OpenClaim := { program := "ytmffgalmdnpcgaagreatdoor", sum := "2705c813a7e519a5b86192210f2704f3fa7769392a4011ffc6264d51de3f5da3", func := "kilovar/kilovarlaw07.TariffCompares", spec := "tariffCompares", inPlace := ["internal/abi.NoEscape", "internal/bytealg.MakeNoZero"], unfollowed := true, recurses := true, named := ["kilovar/tariff.steps", "internal/strconv.uint64pow10", "math/bits.deBruijn32tab", "math/bits.deBruijn64tab"], plainKeys := false, apart := false, laid := [("math/bits.deBruijn32tab", laid_math_bits_deBruijn32tab), ("math/bits.deBruijn64tab", laid_math_bits_deBruijn64tab), ("internal/strconv.uint64pow10", laid_internal_strconv_uint64pow10), ("kilovar/tariff.steps", laid_kilovar_tariff_steps)] }
def TariffComparesSaid : Prop := tariffComparesRow.holds Tryz.pinned (OpenSpec.ofChange tariffComparesSpec)

/-- ITS FALSE NEIGHBOUR: 'it returns false'. Refute it at one input. -/
def tariffComparesWrong : ChangeSpec := { name := "tariffCompares", fn := fun _ => fun
  | [d1, d2, d3] => { results := [.lit (.bool false)], args := [d1, d2, d3] }
  | _ => none }
def TariffComparesWrongFalsely : Prop := tariffComparesRow.holds Tryz.pinned (OpenSpec.ofChange tariffComparesWrong)

/-- 'kilovarlaw07.TariffCheapest': WHATEVER THE INPUT: true; the input reads as it did. -/
def tariffCheapestSpec : ChangeSpec := { name := "tariffCheapest", fn := fun _ => fun
  | [d1, d2] => { results := [.lit (.bool true)], args := [d1, d2] }
  | _ => none }
def tariffCheapestRow : OpenClaim := { program := "ytmffgalmdnpcgaagreatdoor", sum := "2705c813a7e519a5b86192210f2704f3fa7769392a4011ffc6264d51de3f5da3", func := "kilovar/kilovarlaw07.TariffCheapest", spec := "tariffCheapest", inPlace := ["internal/abi.NoEscape", "internal/bytealg.MakeNoZero"], unfollowed := true, recurses := true, named := ["kilovar/tariff.steps", "internal/strconv.uint64pow10", "math/bits.deBruijn32tab", "math/bits.deBruijn64tab"], plainKeys := false, apart := false, laid := [("math/bits.deBruijn32tab", laid_math_bits_deBruijn32tab), ("math/bits.deBruijn64tab", laid_math_bits_deBruijn64tab), ("internal/strconv.uint64pow10", laid_internal_strconv_uint64pow10), ("kilovar/tariff.steps", laid_kilovar_tariff_steps)] }
def TariffCheapestSaid : Prop := tariffCheapestRow.holds Tryz.pinned (OpenSpec.ofChange tariffCheapestSpec)

/-- ITS FALSE NEIGHBOUR: 'it returns false'. Refute it at one input. -/
def tariffCheapestWrong : ChangeSpec := { name := "tariffCheapest", fn := fun _ => fun
  | [d1, d2] => { results := [.lit (.bool false)], args := [d1, d2] }
  | _ => none }
def TariffCheapestWrongFalsely : Prop := tariffCheapestRow.holds Tryz.pinned (OpenSpec.ofChange tariffCheapestWrong)

/-- 'kilovarlaw07.TariffYears': WHATEVER THE INPUT: true; the input reads as it did. -/
def tariffYearsSpec : ChangeSpec := { name := "tariffYears", fn := fun _ => fun
  | [d1, d2, d3] => { results := [.lit (.bool true)], args := [d1, d2, d3] }
  | _ => none }
def tariffYearsRow : OpenClaim := { program := "ytmffgalmdnpcgaagreatdoor", sum := "2705c813a7e519a5b86192210f2704f3fa7769392a4011ffc6264d51de3f5da3", func := "kilovar/kilovarlaw07.TariffYears", spec := "tariffYears", inPlace := ["internal/abi.NoEscape", "internal/bytealg.MakeNoZero"], unfollowed := true, recurses := true, named := ["kilovar/tariff.steps", "internal/strconv.uint64pow10", "math/bits.deBruijn32tab", "math/bits.deBruijn64tab"], plainKeys := false, apart := false, laid := [("math/bits.deBruijn32tab", laid_math_bits_deBruijn32tab), ("math/bits.deBruijn64tab", laid_math_bits_deBruijn64tab), ("internal/strconv.uint64pow10", laid_internal_strconv_uint64pow10), ("kilovar/tariff.steps", laid_kilovar_tariff_steps)] }
def TariffYearsSaid : Prop := tariffYearsRow.holds Tryz.pinned (OpenSpec.ofChange tariffYearsSpec)

/-- ITS FALSE NEIGHBOUR: 'it returns false'. Refute it at one input. -/
def tariffYearsWrong : ChangeSpec := { name := "tariffYears", fn := fun _ => fun
  | [d1, d2, d3] => { results := [.lit (.bool false)], args := [d1, d2, d3] }
  | _ => none }
def TariffYearsWrongFalsely : Prop := tariffYearsRow.holds Tryz.pinned (OpenSpec.ofChange tariffYearsWrong)

/-- 'kilovarlaw07.TariffProfiles': WHATEVER THE INPUT: true; the input reads as it did. -/
def tariffProfilesSpec : ChangeSpec := { name := "tariffProfiles", fn := fun _ => fun
  | [d1, d2] => { results := [.lit (.bool true)], args := [d1, d2] }
  | _ => none }
def tariffProfilesRow : OpenClaim := { program := "ytmffgalmdnpcgaagreatdoor", sum := "2705c813a7e519a5b86192210f2704f3fa7769392a4011ffc6264d51de3f5da3", func := "kilovar/kilovarlaw07.TariffProfiles", spec := "tariffProfiles", inPlace := ["internal/abi.NoEscape", "internal/bytealg.MakeNoZero"], unfollowed := true, recurses := true, named := ["kilovar/tariff.steps", "internal/strconv.uint64pow10", "math/bits.deBruijn32tab", "math/bits.deBruijn64tab"], plainKeys := false, apart := false, laid := [("math/bits.deBruijn32tab", laid_math_bits_deBruijn32tab), ("math/bits.deBruijn64tab", laid_math_bits_deBruijn64tab), ("internal/strconv.uint64pow10", laid_internal_strconv_uint64pow10), ("kilovar/tariff.steps", laid_kilovar_tariff_steps)] }
def TariffProfilesSaid : Prop := tariffProfilesRow.holds Tryz.pinned (OpenSpec.ofChange tariffProfilesSpec)

/-- ITS FALSE NEIGHBOUR: 'it returns false'. Refute it at one input. -/
def tariffProfilesWrong : ChangeSpec := { name := "tariffProfiles", fn := fun _ => fun
  | [d1, d2] => { results := [.lit (.bool false)], args := [d1, d2] }
  | _ => none }
def TariffProfilesWrongFalsely : Prop := tariffProfilesRow.holds Tryz.pinned (OpenSpec.ofChange tariffProfilesWrong)

/-- 'kilovarlaw07.TariffLoads': WHATEVER THE INPUT: true; the input reads as it did. -/
def tariffLoadsSpec : ChangeSpec := { name := "tariffLoads", fn := fun _ => fun
  | [d1, d2, d3] => { results := [.lit (.bool true)], args := [d1, d2, d3] }
  | _ => none }
def tariffLoadsRow : OpenClaim := { program := "ytmffgalmdnpcgaagreatdoor", sum := "2705c813a7e519a5b86192210f2704f3fa7769392a4011ffc6264d51de3f5da3", func := "kilovar/kilovarlaw07.TariffLoads", spec := "tariffLoads", inPlace := ["internal/abi.NoEscape", "internal/bytealg.MakeNoZero"], unfollowed := true, recurses := true, named := ["kilovar/tariff.steps", "internal/strconv.uint64pow10", "math/bits.deBruijn32tab", "math/bits.deBruijn64tab"], plainKeys := false, apart := false, laid := [("math/bits.deBruijn32tab", laid_math_bits_deBruijn32tab), ("math/bits.deBruijn64tab", laid_math_bits_deBruijn64tab), ("internal/strconv.uint64pow10", laid_internal_strconv_uint64pow10), ("kilovar/tariff.steps", laid_kilovar_tariff_steps)] }
def TariffLoadsSaid : Prop := tariffLoadsRow.holds Tryz.pinned (OpenSpec.ofChange tariffLoadsSpec)

/-- ITS FALSE NEIGHBOUR: 'it returns false'. Refute it at one input. -/
def tariffLoadsWrong : ChangeSpec := { name := "tariffLoads", fn := fun _ => fun
  | [d1, d2, d3] => { results := [.lit (.bool false)], args := [d1, d2, d3] }
  | _ => none }
def TariffLoadsWrongFalsely : Prop := tariffLoadsRow.holds Tryz.pinned (OpenSpec.ofChange tariffLoadsWrong)

/-- 'kilovarlaw07.TariffGreedy': WHATEVER THE INPUT: true; the input reads as it did. -/
def tariffGreedySpec : ChangeSpec := { name := "tariffGreedy", fn := fun _ => fun
  | [d1, d2, d3] => { results := [.lit (.bool true)], args := [d1, d2, d3] }
  | _ => none }
def tariffGreedyRow : OpenClaim := { program := "ytmffgalmdnpcgaagreatdoor", sum := "2705c813a7e519a5b86192210f2704f3fa7769392a4011ffc6264d51de3f5da3", func := "kilovar/kilovarlaw07.TariffGreedy", spec := "tariffGreedy", inPlace := ["internal/abi.NoEscape", "internal/bytealg.MakeNoZero"], unfollowed := true, recurses := true, named := ["kilovar/tariff.steps", "internal/strconv.uint64pow10", "math/bits.deBruijn32tab", "math/bits.deBruijn64tab"], plainKeys := false, apart := false, laid := [("math/bits.deBruijn32tab", laid_math_bits_deBruijn32tab), ("math/bits.deBruijn64tab", laid_math_bits_deBruijn64tab), ("internal/strconv.uint64pow10", laid_internal_strconv_uint64pow10), ("kilovar/tariff.steps", laid_kilovar_tariff_steps)] }
def TariffGreedySaid : Prop := tariffGreedyRow.holds Tryz.pinned (OpenSpec.ofChange tariffGreedySpec)

/-- ITS FALSE NEIGHBOUR: 'it returns false'. Refute it at one input. -/
def tariffGreedyWrong : ChangeSpec := { name := "tariffGreedy", fn := fun _ => fun
  | [d1, d2, d3] => { results := [.lit (.bool false)], args := [d1, d2, d3] }
  | _ => none }
def TariffGreedyWrongFalsely : Prop := tariffGreedyRow.holds Tryz.pinned (OpenSpec.ofChange tariffGreedyWrong)

/-- 'kilovarlaw07.TariffJoins': WHATEVER THE INPUT: true; the input reads as it did. -/
def tariffJoinsSpec : ChangeSpec := { name := "tariffJoins", fn := fun _ => fun
  | [d1, d2, d3] => { results := [.lit (.bool true)], args := [d1, d2, d3] }
  | _ => none }
def tariffJoinsRow : OpenClaim := { program := "ytmffgalmdnpcgaagreatdoor", sum := "2705c813a7e519a5b86192210f2704f3fa7769392a4011ffc6264d51de3f5da3", func := "kilovar/kilovarlaw07.TariffJoins", spec := "tariffJoins", inPlace := ["internal/abi.NoEscape", "internal/bytealg.MakeNoZero"], unfollowed := true, recurses := true, named := ["kilovar/tariff.steps", "internal/strconv.uint64pow10", "math/bits.deBruijn32tab", "math/bits.deBruijn64tab"], plainKeys := false, apart := false, laid := [("math/bits.deBruijn32tab", laid_math_bits_deBruijn32tab), ("math/bits.deBruijn64tab", laid_math_bits_deBruijn64tab), ("internal/strconv.uint64pow10", laid_internal_strconv_uint64pow10), ("kilovar/tariff.steps", laid_kilovar_tariff_steps)] }
def TariffJoinsSaid : Prop := tariffJoinsRow.holds Tryz.pinned (OpenSpec.ofChange tariffJoinsSpec)

/-- ITS FALSE NEIGHBOUR: 'it returns false'. Refute it at one input. -/
def tariffJoinsWrong : ChangeSpec := { name := "tariffJoins", fn := fun _ => fun
  | [d1, d2, d3] => { results := [.lit (.bool false)], args := [d1, d2, d3] }
  | _ => none }
def TariffJoinsWrongFalsely : Prop := tariffJoinsRow.holds Tryz.pinned (OpenSpec.ofChange tariffJoinsWrong)

/-- 'kilovarlaw07.TariffParts': WHATEVER THE INPUT: true; the input reads as it did. -/
def tariffPartsSpec : ChangeSpec := { name := "tariffParts", fn := fun _ => fun
  | [d1, d2, d3] => { results := [.lit (.bool true)], args := [d1, d2, d3] }
  | _ => none }
def tariffPartsRow : OpenClaim := { program := "ytmffgalmdnpcgaagreatdoor", sum := "2705c813a7e519a5b86192210f2704f3fa7769392a4011ffc6264d51de3f5da3", func := "kilovar/kilovarlaw07.TariffParts", spec := "tariffParts", inPlace := ["internal/abi.NoEscape", "internal/bytealg.MakeNoZero"], unfollowed := true, recurses := true, named := ["kilovar/tariff.steps", "internal/strconv.uint64pow10", "math/bits.deBruijn32tab", "math/bits.deBruijn64tab"], plainKeys := false, apart := false, laid := [("math/bits.deBruijn32tab", laid_math_bits_deBruijn32tab), ("math/bits.deBruijn64tab", laid_math_bits_deBruijn64tab), ("internal/strconv.uint64pow10", laid_internal_strconv_uint64pow10), ("kilovar/tariff.steps", laid_kilovar_tariff_steps)] }
def TariffPartsSaid : Prop := tariffPartsRow.holds Tryz.pinned (OpenSpec.ofChange tariffPartsSpec)

/-- ITS FALSE NEIGHBOUR: 'it returns false'. Refute it at one input. -/
def tariffPartsWrong : ChangeSpec := { name := "tariffParts", fn := fun _ => fun
  | [d1, d2, d3] => { results := [.lit (.bool false)], args := [d1, d2, d3] }
  | _ => none }
def TariffPartsWrongFalsely : Prop := tariffPartsRow.holds Tryz.pinned (OpenSpec.ofChange tariffPartsWrong)

/-- 'kilovarlaw07.TariffTexts': WHATEVER THE INPUT: true; the input reads as it did. -/
def tariffTextsSpec : ChangeSpec := { name := "tariffTexts", fn := fun _ => fun
  | [d1, d2] => { results := [.lit (.bool true)], args := [d1, d2] }
  | _ => none }
def tariffTextsRow : OpenClaim := { program := "ytmffgalmdnpcgaagreatdoor", sum := "2705c813a7e519a5b86192210f2704f3fa7769392a4011ffc6264d51de3f5da3", func := "kilovar/kilovarlaw07.TariffTexts", spec := "tariffTexts", inPlace := ["internal/abi.NoEscape", "internal/bytealg.MakeNoZero", "internal/bytealg.IndexByteString", "internal/bytealg.CountString", "internal/bytealg.IndexString"], unfollowed := true, recurses := true, named := ["kilovar/tariff.steps", "internal/strconv.uint64pow10", "math/bits.deBruijn32tab", "math/bits.deBruijn64tab", "unicode/utf8.first", "unicode/utf8.acceptRanges", "internal/bytealg.MaxLen"], plainKeys := false, apart := false, laid := [("math/bits.deBruijn32tab", laid_math_bits_deBruijn32tab), ("math/bits.deBruijn64tab", laid_math_bits_deBruijn64tab), ("internal/strconv.uint64pow10", laid_internal_strconv_uint64pow10), ("unicode/utf8.acceptRanges", laid_unicode_utf8_acceptRanges), ("kilovar/tariff.steps", laid_kilovar_tariff_steps), ("unicode/utf8.first", laid_unicode_utf8_first)] }
def TariffTextsSaid : Prop := tariffTextsRow.holds Tryz.pinned (OpenSpec.ofChange tariffTextsSpec)

/-- ITS FALSE NEIGHBOUR: 'it returns false'. Refute it at one input. -/
def tariffTextsWrong : ChangeSpec := { name := "tariffTexts", fn := fun _ => fun
  | [d1, d2] => { results := [.lit (.bool false)], args := [d1, d2] }
  | _ => none }
def TariffTextsWrongFalsely : Prop := tariffTextsRow.holds Tryz.pinned (OpenSpec.ofChange tariffTextsWrong)

/-- 'kilovarlaw07.TariffBack': WHATEVER THE INPUT: true; the input reads as it did. -/
def tariffBackSpec : ChangeSpec := { name := "tariffBack", fn := fun _ => fun
  | [d1, d2] => { results := [.lit (.bool true)], args := [d1, d2] }
  | _ => none }
def tariffBackRow : OpenClaim := { program := "ytmffgalmdnpcgaagreatdoor", sum := "2705c813a7e519a5b86192210f2704f3fa7769392a4011ffc6264d51de3f5da3", func := "kilovar/kilovarlaw07.TariffBack", spec := "tariffBack", inPlace := ["internal/abi.NoEscape", "internal/bytealg.MakeNoZero", "internal/bytealg.IndexByteString", "internal/bytealg.CountString", "internal/bytealg.IndexString"], unfollowed := true, recurses := true, named := ["kilovar/tariff.steps", "internal/strconv.uint64pow10", "math/bits.deBruijn32tab", "math/bits.deBruijn64tab", "unicode/utf8.first", "unicode/utf8.acceptRanges", "internal/bytealg.MaxLen"], plainKeys := false, apart := false, laid := [("math/bits.deBruijn32tab", laid_math_bits_deBruijn32tab), ("math/bits.deBruijn64tab", laid_math_bits_deBruijn64tab), ("internal/strconv.uint64pow10", laid_internal_strconv_uint64pow10), ("unicode/utf8.acceptRanges", laid_unicode_utf8_acceptRanges), ("kilovar/tariff.steps", laid_kilovar_tariff_steps), ("unicode/utf8.first", laid_unicode_utf8_first)] }
def TariffBackSaid : Prop := tariffBackRow.holds Tryz.pinned (OpenSpec.ofChange tariffBackSpec)

/-- ITS FALSE NEIGHBOUR: 'it returns false'. Refute it at one input. -/
def tariffBackWrong : ChangeSpec := { name := "tariffBack", fn := fun _ => fun
  | [d1, d2] => { results := [.lit (.bool false)], args := [d1, d2] }
  | _ => none }
def TariffBackWrongFalsely : Prop := tariffBackRow.holds Tryz.pinned (OpenSpec.ofChange tariffBackWrong)

/- THE SECOND FORM. 'bulk': how many values and letters a reading holds, each counted each time it is reached (what is shared counts as often as it is met; a slice's spare places count too). A statement '..UptoSaid' is the law's where the arguments, and the package variables that the reading takes, are together of bulk at most 1048576: NARROWER than '..Said'. Prove '..Said' where nothing that the law and all that it calls make is longer than what came in: it says more and counts as full. Else prove '..UptoSaid'. A law counts once. -/
mutual
def uptoBulk {H : Type} : DataW H → Nat
  | .lit (.string bytes) => bytes.length + 1
  | .lit _ => 1
  | .nil => 1
  | .ptr d => uptoBulk d + 1
  | .slice elems spare => uptoBulkAll elems + uptoBulkAll spare + 1
  | .agg parts => uptoBulkAll parts + 1
  | .iface _ d => uptoBulk d + 1
  | .map entries => uptoBulkEntries entries + 1
  | .held _ => 1
def uptoBulkAll {H : Type} : List (DataW H) → Nat
  | [] => 0
  | d :: r => uptoBulk d + uptoBulkAll r
def uptoBulkEntries {H : Type} : List (Lit × DataW H) → Nat
  | [] => 0
  | x :: r => uptoBulkEntry x + uptoBulkEntries r
def uptoBulkEntry {H : Type} : Lit × DataW H → Nat
  | (.string bytes, d) => bytes.length + uptoBulk d + 1
  | (_, d) => uptoBulk d + 1
 end
def uptoSmall : (H : Type) → List (DataW H) → Bool := fun _ ds => decide (uptoBulkAll ds ≤ 1048576)
def OpenSpec.upto (s : _root_.Go.ChangeSpec) : _root_.Go.OpenSpec := { _root_.Go.OpenSpec.ofChange s with cond := some uptoSmall }

/-- 'kilovarlaw07.TariffTariffs', WHERE WHAT IT READS IS OF BULK AT MOST 1048576: true; the input reads as it did. -/
def tariffTariffsUptoRow : OpenClaim := { program := "ytmffgalmdnpcgaagreatdoor", sum := "2705c813a7e519a5b86192210f2704f3fa7769392a4011ffc6264d51de3f5da3", func := "kilovar/kilovarlaw07.TariffTariffs", spec := "tariffTariffs", inPlace := ["internal/abi.NoEscape", "internal/bytealg.MakeNoZero"], unfollowed := true, recurses := true, named := ["kilovar/tariff.steps", "internal/strconv.uint64pow10", "math/bits.deBruijn32tab", "math/bits.deBruijn64tab"], plainKeys := false, apart := false, laid := [("math/bits.deBruijn32tab", laid_math_bits_deBruijn32tab), ("math/bits.deBruijn64tab", laid_math_bits_deBruijn64tab), ("internal/strconv.uint64pow10", laid_internal_strconv_uint64pow10), ("kilovar/tariff.steps", laid_kilovar_tariff_steps)], narrowed := true }
def TariffTariffsUptoSaid : Prop := tariffTariffsUptoRow.holds Tryz.pinned (OpenSpec.upto tariffTariffsSpec)

/-- 'kilovarlaw07.TariffRates', WHERE WHAT IT READS IS OF BULK AT MOST 1048576: true; the input reads as it did. -/
def tariffRatesUptoRow : OpenClaim := { program := "ytmffgalmdnpcgaagreatdoor", sum := "2705c813a7e519a5b86192210f2704f3fa7769392a4011ffc6264d51de3f5da3", func := "kilovar/kilovarlaw07.TariffRates", spec := "tariffRates", inPlace := ["internal/abi.NoEscape", "internal/bytealg.MakeNoZero"], unfollowed := true, recurses := true, named := ["kilovar/tariff.steps", "internal/strconv.uint64pow10", "math/bits.deBruijn32tab", "math/bits.deBruijn64tab"], plainKeys := false, apart := false, laid := [("math/bits.deBruijn32tab", laid_math_bits_deBruijn32tab), ("math/bits.deBruijn64tab", laid_math_bits_deBruijn64tab), ("internal/strconv.uint64pow10", laid_internal_strconv_uint64pow10), ("kilovar/tariff.steps", laid_kilovar_tariff_steps)], narrowed := true }
def TariffRatesUptoSaid : Prop := tariffRatesUptoRow.holds Tryz.pinned (OpenSpec.upto tariffRatesSpec)

/-- 'kilovarlaw07.TariffVersions', WHERE WHAT IT READS IS OF BULK AT MOST 1048576: true; the input reads as it did. -/
def tariffVersionsUptoRow : OpenClaim := { program := "ytmffgalmdnpcgaagreatdoor", sum := "2705c813a7e519a5b86192210f2704f3fa7769392a4011ffc6264d51de3f5da3", func := "kilovar/kilovarlaw07.TariffVersions", spec := "tariffVersions", inPlace := ["internal/abi.NoEscape", "internal/bytealg.MakeNoZero"], unfollowed := true, recurses := true, named := ["kilovar/tariff.steps", "internal/strconv.uint64pow10", "math/bits.deBruijn32tab", "math/bits.deBruijn64tab"], plainKeys := false, apart := false, laid := [("math/bits.deBruijn32tab", laid_math_bits_deBruijn32tab), ("math/bits.deBruijn64tab", laid_math_bits_deBruijn64tab), ("internal/strconv.uint64pow10", laid_internal_strconv_uint64pow10), ("kilovar/tariff.steps", laid_kilovar_tariff_steps)], narrowed := true }
def TariffVersionsUptoSaid : Prop := tariffVersionsUptoRow.holds Tryz.pinned (OpenSpec.upto tariffVersionsSpec)

/-- 'kilovarlaw07.TariffBills', WHERE WHAT IT READS IS OF BULK AT MOST 1048576: true; the input reads as it did. -/
def tariffBillsUptoRow : OpenClaim := { program := "ytmffgalmdnpcgaagreatdoor", sum := "2705c813a7e519a5b86192210f2704f3fa7769392a4011ffc6264d51de3f5da3", func := "kilovar/kilovarlaw07.TariffBills", spec := "tariffBills", inPlace := ["internal/abi.NoEscape", "internal/bytealg.MakeNoZero"], unfollowed := true, recurses := true, named := ["kilovar/tariff.steps", "internal/strconv.uint64pow10", "math/bits.deBruijn32tab", "math/bits.deBruijn64tab"], plainKeys := false, apart := false, laid := [("math/bits.deBruijn32tab", laid_math_bits_deBruijn32tab), ("math/bits.deBruijn64tab", laid_math_bits_deBruijn64tab), ("internal/strconv.uint64pow10", laid_internal_strconv_uint64pow10), ("kilovar/tariff.steps", laid_kilovar_tariff_steps)], narrowed := true }
def TariffBillsUptoSaid : Prop := tariffBillsUptoRow.holds Tryz.pinned (OpenSpec.upto tariffBillsSpec)

/-- 'kilovarlaw07.TariffCorrects', WHERE WHAT IT READS IS OF BULK AT MOST 1048576: true; the input reads as it did. -/
def tariffCorrectsUptoRow : OpenClaim := { program := "ytmffgalmdnpcgaagreatdoor", sum := "2705c813a7e519a5b86192210f2704f3fa7769392a4011ffc6264d51de3f5da3", func := "kilovar/kilovarlaw07.TariffCorrects", spec := "tariffCorrects", inPlace := ["internal/abi.NoEscape", "internal/bytealg.MakeNoZero"], unfollowed := true, recurses := true, named := ["kilovar/tariff.steps", "internal/strconv.uint64pow10", "math/bits.deBruijn32tab", "math/bits.deBruijn64tab"], plainKeys := false, apart := false, laid := [("math/bits.deBruijn32tab", laid_math_bits_deBruijn32tab), ("math/bits.deBruijn64tab", laid_math_bits_deBruijn64tab), ("internal/strconv.uint64pow10", laid_internal_strconv_uint64pow10), ("kilovar/tariff.steps", laid_kilovar_tariff_steps)], narrowed := true }
def TariffCorrectsUptoSaid : Prop := tariffCorrectsUptoRow.holds Tryz.pinned (OpenSpec.upto tariffCorrectsSpec)

/-- 'kilovarlaw07.TariffCompares', WHERE WHAT IT READS IS OF BULK AT MOST 1048576: true; the input reads as it did. -/
def tariffComparesUptoRow : OpenClaim := { program := "ytmffgalmdnpcgaagreatdoor", sum := "2705c813a7e519a5b86192210f2704f3fa7769392a4011ffc6264d51de3f5da3", func := "kilovar/kilovarlaw07.TariffCompares", spec := "tariffCompares", inPlace := ["internal/abi.NoEscape", "internal/bytealg.MakeNoZero"], unfollowed := true, recurses := true, named := ["kilovar/tariff.steps", "internal/strconv.uint64pow10", "math/bits.deBruijn32tab", "math/bits.deBruijn64tab"], plainKeys := false, apart := false, laid := [("math/bits.deBruijn32tab", laid_math_bits_deBruijn32tab), ("math/bits.deBruijn64tab", laid_math_bits_deBruijn64tab), ("internal/strconv.uint64pow10", laid_internal_strconv_uint64pow10), ("kilovar/tariff.steps", laid_kilovar_tariff_steps)], narrowed := true }
def TariffComparesUptoSaid : Prop := tariffComparesUptoRow.holds Tryz.pinned (OpenSpec.upto tariffComparesSpec)

/-- 'kilovarlaw07.TariffCheapest', WHERE WHAT IT READS IS OF BULK AT MOST 1048576: true; the input reads as it did. -/
def tariffCheapestUptoRow : OpenClaim := { program := "ytmffgalmdnpcgaagreatdoor", sum := "2705c813a7e519a5b86192210f2704f3fa7769392a4011ffc6264d51de3f5da3", func := "kilovar/kilovarlaw07.TariffCheapest", spec := "tariffCheapest", inPlace := ["internal/abi.NoEscape", "internal/bytealg.MakeNoZero"], unfollowed := true, recurses := true, named := ["kilovar/tariff.steps", "internal/strconv.uint64pow10", "math/bits.deBruijn32tab", "math/bits.deBruijn64tab"], plainKeys := false, apart := false, laid := [("math/bits.deBruijn32tab", laid_math_bits_deBruijn32tab), ("math/bits.deBruijn64tab", laid_math_bits_deBruijn64tab), ("internal/strconv.uint64pow10", laid_internal_strconv_uint64pow10), ("kilovar/tariff.steps", laid_kilovar_tariff_steps)], narrowed := true }
def TariffCheapestUptoSaid : Prop := tariffCheapestUptoRow.holds Tryz.pinned (OpenSpec.upto tariffCheapestSpec)

/-- 'kilovarlaw07.TariffYears', WHERE WHAT IT READS IS OF BULK AT MOST 1048576: true; the input reads as it did. -/
def tariffYearsUptoRow : OpenClaim := { program := "ytmffgalmdnpcgaagreatdoor", sum := "2705c813a7e519a5b86192210f2704f3fa7769392a4011ffc6264d51de3f5da3", func := "kilovar/kilovarlaw07.TariffYears", spec := "tariffYears", inPlace := ["internal/abi.NoEscape", "internal/bytealg.MakeNoZero"], unfollowed := true, recurses := true, named := ["kilovar/tariff.steps", "internal/strconv.uint64pow10", "math/bits.deBruijn32tab", "math/bits.deBruijn64tab"], plainKeys := false, apart := false, laid := [("math/bits.deBruijn32tab", laid_math_bits_deBruijn32tab), ("math/bits.deBruijn64tab", laid_math_bits_deBruijn64tab), ("internal/strconv.uint64pow10", laid_internal_strconv_uint64pow10), ("kilovar/tariff.steps", laid_kilovar_tariff_steps)], narrowed := true }
def TariffYearsUptoSaid : Prop := tariffYearsUptoRow.holds Tryz.pinned (OpenSpec.upto tariffYearsSpec)

/-- 'kilovarlaw07.TariffProfiles', WHERE WHAT IT READS IS OF BULK AT MOST 1048576: true; the input reads as it did. -/
def tariffProfilesUptoRow : OpenClaim := { program := "ytmffgalmdnpcgaagreatdoor", sum := "2705c813a7e519a5b86192210f2704f3fa7769392a4011ffc6264d51de3f5da3", func := "kilovar/kilovarlaw07.TariffProfiles", spec := "tariffProfiles", inPlace := ["internal/abi.NoEscape", "internal/bytealg.MakeNoZero"], unfollowed := true, recurses := true, named := ["kilovar/tariff.steps", "internal/strconv.uint64pow10", "math/bits.deBruijn32tab", "math/bits.deBruijn64tab"], plainKeys := false, apart := false, laid := [("math/bits.deBruijn32tab", laid_math_bits_deBruijn32tab), ("math/bits.deBruijn64tab", laid_math_bits_deBruijn64tab), ("internal/strconv.uint64pow10", laid_internal_strconv_uint64pow10), ("kilovar/tariff.steps", laid_kilovar_tariff_steps)], narrowed := true }
def TariffProfilesUptoSaid : Prop := tariffProfilesUptoRow.holds Tryz.pinned (OpenSpec.upto tariffProfilesSpec)

/-- 'kilovarlaw07.TariffLoads', WHERE WHAT IT READS IS OF BULK AT MOST 1048576: true; the input reads as it did. -/
def tariffLoadsUptoRow : OpenClaim := { program := "ytmffgalmdnpcgaagreatdoor", sum := "2705c813a7e519a5b86192210f2704f3fa7769392a4011ffc6264d51de3f5da3", func := "kilovar/kilovarlaw07.TariffLoads", spec := "tariffLoads", inPlace := ["internal/abi.NoEscape", "internal/bytealg.MakeNoZero"], unfollowed := true, recurses := true, named := ["kilovar/tariff.steps", "internal/strconv.uint64pow10", "math/bits.deBruijn32tab", "math/bits.deBruijn64tab"], plainKeys := false, apart := false, laid := [("math/bits.deBruijn32tab", laid_math_bits_deBruijn32tab), ("math/bits.deBruijn64tab", laid_math_bits_deBruijn64tab), ("internal/strconv.uint64pow10", laid_internal_strconv_uint64pow10), ("kilovar/tariff.steps", laid_kilovar_tariff_steps)], narrowed := true }
def TariffLoadsUptoSaid : Prop := tariffLoadsUptoRow.holds Tryz.pinned (OpenSpec.upto tariffLoadsSpec)

/-- 'kilovarlaw07.TariffGreedy', WHERE WHAT IT READS IS OF BULK AT MOST 1048576: true; the input reads as it did. -/
def tariffGreedyUptoRow : OpenClaim := { program := "ytmffgalmdnpcgaagreatdoor", sum := "2705c813a7e519a5b86192210f2704f3fa7769392a4011ffc6264d51de3f5da3", func := "kilovar/kilovarlaw07.TariffGreedy", spec := "tariffGreedy", inPlace := ["internal/abi.NoEscape", "internal/bytealg.MakeNoZero"], unfollowed := true, recurses := true, named := ["kilovar/tariff.steps", "internal/strconv.uint64pow10", "math/bits.deBruijn32tab", "math/bits.deBruijn64tab"], plainKeys := false, apart := false, laid := [("math/bits.deBruijn32tab", laid_math_bits_deBruijn32tab), ("math/bits.deBruijn64tab", laid_math_bits_deBruijn64tab), ("internal/strconv.uint64pow10", laid_internal_strconv_uint64pow10), ("kilovar/tariff.steps", laid_kilovar_tariff_steps)], narrowed := true }
def TariffGreedyUptoSaid : Prop := tariffGreedyUptoRow.holds Tryz.pinned (OpenSpec.upto tariffGreedySpec)

/-- 'kilovarlaw07.TariffJoins', WHERE WHAT IT READS IS OF BULK AT MOST 1048576: true; the input reads as it did. -/
def tariffJoinsUptoRow : OpenClaim := { program := "ytmffgalmdnpcgaagreatdoor", sum := "2705c813a7e519a5b86192210f2704f3fa7769392a4011ffc6264d51de3f5da3", func := "kilovar/kilovarlaw07.TariffJoins", spec := "tariffJoins", inPlace := ["internal/abi.NoEscape", "internal/bytealg.MakeNoZero"], unfollowed := true, recurses := true, named := ["kilovar/tariff.steps", "internal/strconv.uint64pow10", "math/bits.deBruijn32tab", "math/bits.deBruijn64tab"], plainKeys := false, apart := false, laid := [("math/bits.deBruijn32tab", laid_math_bits_deBruijn32tab), ("math/bits.deBruijn64tab", laid_math_bits_deBruijn64tab), ("internal/strconv.uint64pow10", laid_internal_strconv_uint64pow10), ("kilovar/tariff.steps", laid_kilovar_tariff_steps)], narrowed := true }
def TariffJoinsUptoSaid : Prop := tariffJoinsUptoRow.holds Tryz.pinned (OpenSpec.upto tariffJoinsSpec)

/-- 'kilovarlaw07.TariffParts', WHERE WHAT IT READS IS OF BULK AT MOST 1048576: true; the input reads as it did. -/
def tariffPartsUptoRow : OpenClaim := { program := "ytmffgalmdnpcgaagreatdoor", sum := "2705c813a7e519a5b86192210f2704f3fa7769392a4011ffc6264d51de3f5da3", func := "kilovar/kilovarlaw07.TariffParts", spec := "tariffParts", inPlace := ["internal/abi.NoEscape", "internal/bytealg.MakeNoZero"], unfollowed := true, recurses := true, named := ["kilovar/tariff.steps", "internal/strconv.uint64pow10", "math/bits.deBruijn32tab", "math/bits.deBruijn64tab"], plainKeys := false, apart := false, laid := [("math/bits.deBruijn32tab", laid_math_bits_deBruijn32tab), ("math/bits.deBruijn64tab", laid_math_bits_deBruijn64tab), ("internal/strconv.uint64pow10", laid_internal_strconv_uint64pow10), ("kilovar/tariff.steps", laid_kilovar_tariff_steps)], narrowed := true }
def TariffPartsUptoSaid : Prop := tariffPartsUptoRow.holds Tryz.pinned (OpenSpec.upto tariffPartsSpec)

/-- 'kilovarlaw07.TariffTexts', WHERE WHAT IT READS IS OF BULK AT MOST 1048576: true; the input reads as it did. -/
def tariffTextsUptoRow : OpenClaim := { program := "ytmffgalmdnpcgaagreatdoor", sum := "2705c813a7e519a5b86192210f2704f3fa7769392a4011ffc6264d51de3f5da3", func := "kilovar/kilovarlaw07.TariffTexts", spec := "tariffTexts", inPlace := ["internal/abi.NoEscape", "internal/bytealg.MakeNoZero", "internal/bytealg.IndexByteString", "internal/bytealg.CountString", "internal/bytealg.IndexString"], unfollowed := true, recurses := true, named := ["kilovar/tariff.steps", "internal/strconv.uint64pow10", "math/bits.deBruijn32tab", "math/bits.deBruijn64tab", "unicode/utf8.first", "unicode/utf8.acceptRanges", "internal/bytealg.MaxLen"], plainKeys := false, apart := false, laid := [("math/bits.deBruijn32tab", laid_math_bits_deBruijn32tab), ("math/bits.deBruijn64tab", laid_math_bits_deBruijn64tab), ("internal/strconv.uint64pow10", laid_internal_strconv_uint64pow10), ("unicode/utf8.acceptRanges", laid_unicode_utf8_acceptRanges), ("kilovar/tariff.steps", laid_kilovar_tariff_steps), ("unicode/utf8.first", laid_unicode_utf8_first)], narrowed := true }
def TariffTextsUptoSaid : Prop := tariffTextsUptoRow.holds Tryz.pinned (OpenSpec.upto tariffTextsSpec)

/-- 'kilovarlaw07.TariffBack', WHERE WHAT IT READS IS OF BULK AT MOST 1048576: true; the input reads as it did. -/
def tariffBackUptoRow : OpenClaim := { program := "ytmffgalmdnpcgaagreatdoor", sum := "2705c813a7e519a5b86192210f2704f3fa7769392a4011ffc6264d51de3f5da3", func := "kilovar/kilovarlaw07.TariffBack", spec := "tariffBack", inPlace := ["internal/abi.NoEscape", "internal/bytealg.MakeNoZero", "internal/bytealg.IndexByteString", "internal/bytealg.CountString", "internal/bytealg.IndexString"], unfollowed := true, recurses := true, named := ["kilovar/tariff.steps", "internal/strconv.uint64pow10", "math/bits.deBruijn32tab", "math/bits.deBruijn64tab", "unicode/utf8.first", "unicode/utf8.acceptRanges", "internal/bytealg.MaxLen"], plainKeys := false, apart := false, laid := [("math/bits.deBruijn32tab", laid_math_bits_deBruijn32tab), ("math/bits.deBruijn64tab", laid_math_bits_deBruijn64tab), ("internal/strconv.uint64pow10", laid_internal_strconv_uint64pow10), ("unicode/utf8.acceptRanges", laid_unicode_utf8_acceptRanges), ("kilovar/tariff.steps", laid_kilovar_tariff_steps), ("unicode/utf8.first", laid_unicode_utf8_first)], narrowed := true }
def TariffBackUptoSaid : Prop := tariffBackUptoRow.holds Tryz.pinned (OpenSpec.upto tariffBackSpec)

end Rows
end Go.Proofs.YtmffgalmdnpcgaaGreatDoor
