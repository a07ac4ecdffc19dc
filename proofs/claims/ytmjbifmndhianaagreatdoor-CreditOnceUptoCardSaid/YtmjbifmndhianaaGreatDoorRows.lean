/-
  NARROWER THAN 'FOR EVERY INPUT', by the rows' own cells (each row's printed sentence says how): CreditAccounts: laid · CreditTokens: laid · CreditKeys: laid · CreditHours: laid · CreditBarriers: laid · CreditOnce: laid · CreditPhases: laid · CreditGuarded: laid · CreditOrders: laid · CreditStrings: laid · CreditBack: laid.
  DERIVED. THE GIVEN ROWS OF THIS SEAT. 11 by the template 'for every input the law returns true; each argument reads behind the call as it read before'; 0 by the template 'total and deterministic' (their statements: YtmjbifmndhianaaGreatDoorTotals.lean).
  GIVEN WITH THE SEED: the statements are not yours to turn. If you find one false, say at which input.
  Laid BY PROGRAM, IN A SANDBOX (cutbox-rows.mjs): the forced cells as the released guide's own fill.sh prints them over the translation 7f4f34f906547635… (all of the seat's roots in one cut). By AI agents, Wed Nov 11 2026. No macro, syntax, notation, axiom, sorry.
-/
import Derived.Test.YtmjbifmndhianaaGreatDoorChecked
import GoSem.PinnedTables
import GoSem.Claim
import GoSem.ClaimJoined
import GoSem.ClaimMapViews
import Derived.JoinedTies
import Derived.KernelRfl
namespace Go.Proofs.YtmjbifmndhianaaGreatDoor
/- THE CELL 'sum', in the pinned program and in every row, IS THE sha256 OF THE DUMP (.gsa) THAT YtmjbifmndhianaaGreatDoorProg.lean LOADS. Nothing in Lean hashes anything: it is a label: what it is worth is what the hold of that sum in a sandbox is worth. -/
noncomputable def Tryz.pinned : Pinned := { name := "ytmjbifmndhianaagreatdoor", sum := "7f4f34f906547635ba1069f943412a95ac155eb09bfe10d1b49c4f041ec09028", checked := Tryz.checked }
namespace Rows
def none {H : Type} : Left H := { results := [], args := [] }

/- WHAT THE LISTED PACKAGE-LEVEL VARIABLES READ AS WHEN THE CALL BEGINS. Each datum BY PROGRAM (the guide's laid-datum.mjs) off the statement by which the dump's own 'gosem.cut.vars' lays the variable. In a bare row this is a premise. The card (YtmjbifmndhianaaGreatDoorCards.lean) ties it to the program's text. -/
def laid_math_bits_deBruijn32tab {H : Type} : DataW H := .agg [.lit (.int .u8 0), .lit (.int .u8 1), .lit (.int .u8 28), .lit (.int .u8 2), .lit (.int .u8 29), .lit (.int .u8 14), .lit (.int .u8 24), .lit (.int .u8 3), .lit (.int .u8 30), .lit (.int .u8 22), .lit (.int .u8 20), .lit (.int .u8 15), .lit (.int .u8 25), .lit (.int .u8 17), .lit (.int .u8 4), .lit (.int .u8 8), .lit (.int .u8 31), .lit (.int .u8 27), .lit (.int .u8 13), .lit (.int .u8 23), .lit (.int .u8 21), .lit (.int .u8 19), .lit (.int .u8 16), .lit (.int .u8 7), .lit (.int .u8 26), .lit (.int .u8 12), .lit (.int .u8 18), .lit (.int .u8 6), .lit (.int .u8 11), .lit (.int .u8 5), .lit (.int .u8 10), .lit (.int .u8 9)]
def laid_math_bits_deBruijn64tab {H : Type} : DataW H := .agg [.lit (.int .u8 0), .lit (.int .u8 1), .lit (.int .u8 56), .lit (.int .u8 2), .lit (.int .u8 57), .lit (.int .u8 49), .lit (.int .u8 28), .lit (.int .u8 3), .lit (.int .u8 61), .lit (.int .u8 58), .lit (.int .u8 42), .lit (.int .u8 50), .lit (.int .u8 38), .lit (.int .u8 29), .lit (.int .u8 17), .lit (.int .u8 4), .lit (.int .u8 62), .lit (.int .u8 47), .lit (.int .u8 59), .lit (.int .u8 36), .lit (.int .u8 45), .lit (.int .u8 43), .lit (.int .u8 51), .lit (.int .u8 22), .lit (.int .u8 53), .lit (.int .u8 39), .lit (.int .u8 33), .lit (.int .u8 30), .lit (.int .u8 24), .lit (.int .u8 18), .lit (.int .u8 12), .lit (.int .u8 5), .lit (.int .u8 63), .lit (.int .u8 55), .lit (.int .u8 48), .lit (.int .u8 27), .lit (.int .u8 60), .lit (.int .u8 41), .lit (.int .u8 37), .lit (.int .u8 16), .lit (.int .u8 46), .lit (.int .u8 35), .lit (.int .u8 44), .lit (.int .u8 21), .lit (.int .u8 52), .lit (.int .u8 32), .lit (.int .u8 23), .lit (.int .u8 11), .lit (.int .u8 54), .lit (.int .u8 26), .lit (.int .u8 40), .lit (.int .u8 15), .lit (.int .u8 34), .lit (.int .u8 20), .lit (.int .u8 31), .lit (.int .u8 10), .lit (.int .u8 25), .lit (.int .u8 14), .lit (.int .u8 19), .lit (.int .u8 9), .lit (.int .u8 13), .lit (.int .u8 8), .lit (.int .u8 7), .lit (.int .u8 6)]
def laid_internal_strconv_uint64pow10 {H : Type} : DataW H := .agg [.lit (.int .u64 1), .lit (.int .u64 10), .lit (.int .u64 100), .lit (.int .u64 1000), .lit (.int .u64 10000), .lit (.int .u64 100000), .lit (.int .u64 1000000), .lit (.int .u64 10000000), .lit (.int .u64 100000000), .lit (.int .u64 1000000000), .lit (.int .u64 10000000000), .lit (.int .u64 100000000000), .lit (.int .u64 1000000000000), .lit (.int .u64 10000000000000), .lit (.int .u64 100000000000000), .lit (.int .u64 1000000000000000), .lit (.int .u64 10000000000000000), .lit (.int .u64 100000000000000000), .lit (.int .u64 1000000000000000000), .lit (.int .u64 10000000000000000000)]
def laid_unicode_utf8_acceptRanges {H : Type} : DataW H := .agg [.agg [.lit (.int .u8 128), .lit (.int .u8 191)], .agg [.lit (.int .u8 160), .lit (.int .u8 191)], .agg [.lit (.int .u8 128), .lit (.int .u8 159)], .agg [.lit (.int .u8 144), .lit (.int .u8 191)], .agg [.lit (.int .u8 128), .lit (.int .u8 143)], .agg [.lit (.int .u8 0), .lit (.int .u8 0)], .agg [.lit (.int .u8 0), .lit (.int .u8 0)], .agg [.lit (.int .u8 0), .lit (.int .u8 0)], .agg [.lit (.int .u8 0), .lit (.int .u8 0)], .agg [.lit (.int .u8 0), .lit (.int .u8 0)], .agg [.lit (.int .u8 0), .lit (.int .u8 0)], .agg [.lit (.int .u8 0), .lit (.int .u8 0)], .agg [.lit (.int .u8 0), .lit (.int .u8 0)], .agg [.lit (.int .u8 0), .lit (.int .u8 0)], .agg [.lit (.int .u8 0), .lit (.int .u8 0)], .agg [.lit (.int .u8 0), .lit (.int .u8 0)]]
/-- One of Go's own tables, pinned by name: the form's constant. -/
def laid_unicode_utf8_first : DataW Unit := Go.Pinned.utf8First

/-- 'kilovarlaw08.CreditAccounts': WHATEVER THE INPUT: true; the input reads as it did. -/
def creditAccountsSpec : ChangeSpec := { name := "creditAccounts", fn := fun _ => fun
  | [d1, d2] => { results := [.lit (.bool true)], args := [d1, d2] }
  | _ => none }
def creditAccountsRow : OpenClaim := { program := "ytmjbifmndhianaagreatdoor", sum := "7f4f34f906547635ba1069f943412a95ac155eb09bfe10d1b49c4f041ec09028", func := "kilovar/kilovarlaw08.CreditAccounts", spec := "creditAccounts", inPlace := ["internal/abi.NoEscape", "internal/bytealg.MakeNoZero"], unfollowed := true, recurses := true, named := ["internal/strconv.uint64pow10", "math/bits.deBruijn32tab", "math/bits.deBruijn64tab"], apart := false, laid := [("math/bits.deBruijn32tab", laid_math_bits_deBruijn32tab), ("math/bits.deBruijn64tab", laid_math_bits_deBruijn64tab), ("internal/strconv.uint64pow10", laid_internal_strconv_uint64pow10)] }
def CreditAccountsSaid : Prop := creditAccountsRow.holds Tryz.pinned (OpenSpec.ofChange creditAccountsSpec)

/-- ITS FALSE NEIGHBOUR: 'it returns false'. Refute it at one input. -/
def creditAccountsWrong : ChangeSpec := { name := "creditAccounts", fn := fun _ => fun
  | [d1, d2] => { results := [.lit (.bool false)], args := [d1, d2] }
  | _ => none }
def CreditAccountsWrongFalsely : Prop := creditAccountsRow.holds Tryz.pinned (OpenSpec.ofChange creditAccountsWrong)

/-- 'kilovarlaw08.CreditTokens': WHATEVER THE INPUT: true; the input reads as it did. -/
def creditTokensSpec : ChangeSpec := { name := "creditTokens", fn := fun _ => fun
  | [d1, d2, d3] => { results := [.lit (.bool true)], args := [d1, d2, d3] }
  | _ => none }
def creditTokensRow : OpenClaim := { program := "ytmjbifmndhianaagreatdoor", sum := "7f4f34f906547635ba1069f943412a95ac155eb09bfe10d1b49c4f041ec09028", func := "kilovar/kilovarlaw08.CreditTokens", spec := "creditTokens", inPlace := ["internal/abi.NoEscape", "internal/bytealg.MakeNoZero"], unfollowed := true, recurses := true, named := ["internal/strconv.uint64pow10", "math/bits.deBruijn32tab", "math/bits.deBruijn64tab"], apart := false, laid := [("math/bits.deBruijn32tab", laid_math_bits_deBruijn32tab), ("math/bits.deBruijn64tab", laid_math_bits_deBruijn64tab), ("internal/strconv.uint64pow10", laid_internal_strconv_uint64pow10)] }
def CreditTokensSaid : Prop := creditTokensRow.holds Tryz.pinned (OpenSpec.ofChange creditTokensSpec)

/-- ITS FALSE NEIGHBOUR: 'it returns false'. Refute it at one input. -/
def creditTokensWrong : ChangeSpec := { name := "creditTokens", fn := fun _ => fun
  | [d1, d2, d3] => { results := [.lit (.bool false)], args := [d1, d2, d3] }
  | _ => none }
def CreditTokensWrongFalsely : Prop := creditTokensRow.holds Tryz.pinned (OpenSpec.ofChange creditTokensWrong)

/-- 'kilovarlaw08.CreditKeys': WHATEVER THE INPUT: true; the input reads as it did. -/
def creditKeysSpec : ChangeSpec := { name := "creditKeys", fn := fun _ => fun
  | [d1, d2, d3] => { results := [.lit (.bool true)], args := [d1, d2, d3] }
  | _ => none }
def creditKeysRow : OpenClaim := { program := "ytmjbifmndhianaagreatdoor", sum := "7f4f34f906547635ba1069f943412a95ac155eb09bfe10d1b49c4f041ec09028", func := "kilovar/kilovarlaw08.CreditKeys", spec := "creditKeys", inPlace := ["internal/abi.NoEscape", "internal/bytealg.MakeNoZero"], unfollowed := true, recurses := true, named := ["internal/strconv.uint64pow10", "math/bits.deBruijn32tab", "math/bits.deBruijn64tab"], apart := false, laid := [("math/bits.deBruijn32tab", laid_math_bits_deBruijn32tab), ("math/bits.deBruijn64tab", laid_math_bits_deBruijn64tab), ("internal/strconv.uint64pow10", laid_internal_strconv_uint64pow10)] }
def CreditKeysSaid : Prop := creditKeysRow.holds Tryz.pinned (OpenSpec.ofChange creditKeysSpec)

/-- ITS FALSE NEIGHBOUR: 'it returns false'. Refute it at one input. -/
def creditKeysWrong : ChangeSpec := { name := "creditKeys", fn := fun _ => fun
  | [d1, d2, d3] => { results := [.lit (.bool false)], args := [d1, d2, d3] }
  | _ => none }
def CreditKeysWrongFalsely : Prop := creditKeysRow.holds Tryz.pinned (OpenSpec.ofChange creditKeysWrong)

/-- 'kilovarlaw08.CreditHours': WHATEVER THE INPUT: true; the input reads as it did. -/
def creditHoursSpec : ChangeSpec := { name := "creditHours", fn := fun _ => fun
  | [d1, d2, d3] => { results := [.lit (.bool true)], args := [d1, d2, d3] }
  | _ => none }
def creditHoursRow : OpenClaim := { program := "ytmjbifmndhianaagreatdoor", sum := "7f4f34f906547635ba1069f943412a95ac155eb09bfe10d1b49c4f041ec09028", func := "kilovar/kilovarlaw08.CreditHours", spec := "creditHours", inPlace := ["internal/abi.NoEscape", "internal/bytealg.MakeNoZero"], unfollowed := true, recurses := true, named := ["internal/strconv.uint64pow10", "math/bits.deBruijn32tab", "math/bits.deBruijn64tab"], apart := false, laid := [("math/bits.deBruijn32tab", laid_math_bits_deBruijn32tab), ("math/bits.deBruijn64tab", laid_math_bits_deBruijn64tab), ("internal/strconv.uint64pow10", laid_internal_strconv_uint64pow10)] }
def CreditHoursSaid : Prop := creditHoursRow.holds Tryz.pinned (OpenSpec.ofChange creditHoursSpec)

/-- ITS FALSE NEIGHBOUR: 'it returns false'. Refute it at one input. -/
def creditHoursWrong : ChangeSpec := { name := "creditHours", fn := fun _ => fun
  | [d1, d2, d3] => { results := [.lit (.bool false)], args := [d1, d2, d3] }
  | _ => none }
def CreditHoursWrongFalsely : Prop := creditHoursRow.holds Tryz.pinned (OpenSpec.ofChange creditHoursWrong)

/-- 'kilovarlaw08.CreditBarriers': WHATEVER THE INPUT: true; the input reads as it did. -/
def creditBarriersSpec : ChangeSpec := { name := "creditBarriers", fn := fun _ => fun
  | [d1, d2, d3] => { results := [.lit (.bool true)], args := [d1, d2, d3] }
  | _ => none }
def creditBarriersRow : OpenClaim := { program := "ytmjbifmndhianaagreatdoor", sum := "7f4f34f906547635ba1069f943412a95ac155eb09bfe10d1b49c4f041ec09028", func := "kilovar/kilovarlaw08.CreditBarriers", spec := "creditBarriers", inPlace := ["internal/abi.NoEscape", "internal/bytealg.MakeNoZero"], unfollowed := true, recurses := true, named := ["internal/strconv.uint64pow10", "math/bits.deBruijn32tab", "math/bits.deBruijn64tab"], apart := false, laid := [("math/bits.deBruijn32tab", laid_math_bits_deBruijn32tab), ("math/bits.deBruijn64tab", laid_math_bits_deBruijn64tab), ("internal/strconv.uint64pow10", laid_internal_strconv_uint64pow10)] }
def CreditBarriersSaid : Prop := creditBarriersRow.holds Tryz.pinned (OpenSpec.ofChange creditBarriersSpec)

/-- ITS FALSE NEIGHBOUR: 'it returns false'. Refute it at one input. -/
def creditBarriersWrong : ChangeSpec := { name := "creditBarriers", fn := fun _ => fun
  | [d1, d2, d3] => { results := [.lit (.bool false)], args := [d1, d2, d3] }
  | _ => none }
def CreditBarriersWrongFalsely : Prop := creditBarriersRow.holds Tryz.pinned (OpenSpec.ofChange creditBarriersWrong)

/-- 'kilovarlaw08.CreditOnce': WHATEVER THE INPUT: true; the input reads as it did. -/
def creditOnceSpec : ChangeSpec := { name := "creditOnce", fn := fun _ => fun
  | [d1, d2, d3] => { results := [.lit (.bool true)], args := [d1, d2, d3] }
  | _ => none }
def creditOnceRow : OpenClaim := { program := "ytmjbifmndhianaagreatdoor", sum := "7f4f34f906547635ba1069f943412a95ac155eb09bfe10d1b49c4f041ec09028", func := "kilovar/kilovarlaw08.CreditOnce", spec := "creditOnce", inPlace := ["internal/abi.NoEscape", "internal/bytealg.MakeNoZero"], unfollowed := true, recurses := true, named := ["internal/strconv.uint64pow10", "math/bits.deBruijn32tab", "math/bits.deBruijn64tab"], apart := false, laid := [("math/bits.deBruijn32tab", laid_math_bits_deBruijn32tab), ("math/bits.deBruijn64tab", laid_math_bits_deBruijn64tab), ("internal/strconv.uint64pow10", laid_internal_strconv_uint64pow10)] }
def CreditOnceSaid : Prop := creditOnceRow.holds Tryz.pinned (OpenSpec.ofChange creditOnceSpec)

/-- ITS FALSE NEIGHBOUR: 'it returns false'. Refute it at one input. -/
def creditOnceWrong : ChangeSpec := { name := "creditOnce", fn := fun _ => fun
  | [d1, d2, d3] => { results := [.lit (.bool false)], args := [d1, d2, d3] }
  | _ => none }
def CreditOnceWrongFalsely : Prop := creditOnceRow.holds Tryz.pinned (OpenSpec.ofChange creditOnceWrong)

/-- 'kilovarlaw08.CreditPhases': WHATEVER THE INPUT: true; the input reads as it did. -/
def creditPhasesSpec : ChangeSpec := { name := "creditPhases", fn := fun _ => fun
  | [d1, d2, d3] => { results := [.lit (.bool true)], args := [d1, d2, d3] }
  | _ => none }
def creditPhasesRow : OpenClaim := { program := "ytmjbifmndhianaagreatdoor", sum := "7f4f34f906547635ba1069f943412a95ac155eb09bfe10d1b49c4f041ec09028", func := "kilovar/kilovarlaw08.CreditPhases", spec := "creditPhases", inPlace := ["internal/abi.NoEscape", "internal/bytealg.MakeNoZero"], unfollowed := true, recurses := true, named := ["internal/strconv.uint64pow10", "math/bits.deBruijn32tab", "math/bits.deBruijn64tab"], apart := false, laid := [("math/bits.deBruijn32tab", laid_math_bits_deBruijn32tab), ("math/bits.deBruijn64tab", laid_math_bits_deBruijn64tab), ("internal/strconv.uint64pow10", laid_internal_strconv_uint64pow10)] }
def CreditPhasesSaid : Prop := creditPhasesRow.holds Tryz.pinned (OpenSpec.ofChange creditPhasesSpec)

/-- ITS FALSE NEIGHBOUR: 'it returns false'. Refute it at one input. -/
def creditPhasesWrong : ChangeSpec := { name := "creditPhases", fn := fun _ => fun
  | [d1, d2, d3] => { results := [.lit (.bool false)], args := [d1, d2, d3] }
  | _ => none }
def CreditPhasesWrongFalsely : Prop := creditPhasesRow.holds Tryz.pinned (OpenSpec.ofChange creditPhasesWrong)

/-- 'kilovarlaw08.CreditGuarded': WHATEVER THE INPUT: true; the input reads as it did. -/
def creditGuardedSpec : ChangeSpec := { name := "creditGuarded", fn := fun _ => fun
  | [d1, d2, d3] => { results := [.lit (.bool true)], args := [d1, d2, d3] }
  | _ => none }
def creditGuardedRow : OpenClaim := { program := "ytmjbifmndhianaagreatdoor", sum := "7f4f34f906547635ba1069f943412a95ac155eb09bfe10d1b49c4f041ec09028", func := "kilovar/kilovarlaw08.CreditGuarded", spec := "creditGuarded", inPlace := ["internal/abi.NoEscape", "internal/bytealg.MakeNoZero"], unfollowed := true, recurses := true, named := ["internal/strconv.uint64pow10", "math/bits.deBruijn32tab", "math/bits.deBruijn64tab"], apart := false, laid := [("math/bits.deBruijn32tab", laid_math_bits_deBruijn32tab), ("math/bits.deBruijn64tab", laid_math_bits_deBruijn64tab), ("internal/strconv.uint64pow10", laid_internal_strconv_uint64pow10)] }
def CreditGuardedSaid : Prop := creditGuardedRow.holds Tryz.pinned (OpenSpec.ofChange creditGuardedSpec)

/-- ITS FALSE NEIGHBOUR: 'it returns false'. Refute it at one input. -/
def creditGuardedWrong : ChangeSpec := { name := "creditGuarded", fn := fun _ => fun
  | [d1, d2, d3] => { results := [.lit (.bool false)], args := [d1, d2, d3] }
  | _ => none }
def CreditGuardedWrongFalsely : Prop := creditGuardedRow.holds Tryz.pinned (OpenSpec.ofChange creditGuardedWrong)

/-- 'kilovarlaw08.CreditOrders': WHATEVER THE INPUT: true; the input reads as it did. -/
def creditOrdersSpec : ChangeSpec := { name := "creditOrders", fn := fun _ => fun
  | [d1, d2, d3] => { results := [.lit (.bool true)], args := [d1, d2, d3] }
  | _ => none }
def creditOrdersRow : OpenClaim := { program := "ytmjbifmndhianaagreatdoor", sum := "7f4f34f906547635ba1069f943412a95ac155eb09bfe10d1b49c4f041ec09028", func := "kilovar/kilovarlaw08.CreditOrders", spec := "creditOrders", inPlace := ["internal/abi.NoEscape", "internal/bytealg.MakeNoZero"], unfollowed := true, recurses := true, named := ["internal/strconv.uint64pow10", "math/bits.deBruijn32tab", "math/bits.deBruijn64tab"], apart := false, laid := [("math/bits.deBruijn32tab", laid_math_bits_deBruijn32tab), ("math/bits.deBruijn64tab", laid_math_bits_deBruijn64tab), ("internal/strconv.uint64pow10", laid_internal_strconv_uint64pow10)] }
def CreditOrdersSaid : Prop := creditOrdersRow.holds Tryz.pinned (OpenSpec.ofChange creditOrdersSpec)

/-- ITS FALSE NEIGHBOUR: 'it returns false'. Refute it at one input. -/
def creditOrdersWrong : ChangeSpec := { name := "creditOrders", fn := fun _ => fun
  | [d1, d2, d3] => { results := [.lit (.bool false)], args := [d1, d2, d3] }
  | _ => none }
def CreditOrdersWrongFalsely : Prop := creditOrdersRow.holds Tryz.pinned (OpenSpec.ofChange creditOrdersWrong)

/-- 'kilovarlaw08.CreditStrings': WHATEVER THE INPUT: true; the input reads as it did. -/
def creditStringsSpec : ChangeSpec := { name := "creditStrings", fn := fun _ => fun
  | [d1, d2] => { results := [.lit (.bool true)], args := [d1, d2] }
  | _ => none }
def creditStringsRow : OpenClaim := { program := "ytmjbifmndhianaagreatdoor", sum := "7f4f34f906547635ba1069f943412a95ac155eb09bfe10d1b49c4f041ec09028", func := "kilovar/kilovarlaw08.CreditStrings", spec := "creditStrings", inPlace := ["internal/abi.NoEscape", "internal/bytealg.MakeNoZero", "internal/bytealg.IndexByteString", "internal/bytealg.CountString", "internal/bytealg.IndexString"], unfollowed := true, recurses := true, named := ["internal/strconv.uint64pow10", "math/bits.deBruijn32tab", "math/bits.deBruijn64tab", "unicode/utf8.first", "unicode/utf8.acceptRanges", "internal/bytealg.MaxLen"], apart := false, laid := [("math/bits.deBruijn32tab", laid_math_bits_deBruijn32tab), ("math/bits.deBruijn64tab", laid_math_bits_deBruijn64tab), ("internal/strconv.uint64pow10", laid_internal_strconv_uint64pow10), ("unicode/utf8.acceptRanges", laid_unicode_utf8_acceptRanges), ("unicode/utf8.first", laid_unicode_utf8_first)] }
def CreditStringsSaid : Prop := creditStringsRow.holds Tryz.pinned (OpenSpec.ofChange creditStringsSpec)

/-- ITS FALSE NEIGHBOUR: 'it returns false'. Refute it at one input. -/
def creditStringsWrong : ChangeSpec := { name := "creditStrings", fn := fun _ => fun
  | [d1, d2] => { results := [.lit (.bool false)], args := [d1, d2] }
  | _ => none }
def CreditStringsWrongFalsely : Prop := creditStringsRow.holds Tryz.pinned (OpenSpec.ofChange creditStringsWrong)

/-- 'kilovarlaw08.CreditBack': WHATEVER THE INPUT: true; the input reads as it did. -/
def creditBackSpec : ChangeSpec := { name := "creditBack", fn := fun _ => fun
  | [d1, d2] => { results := [.lit (.bool true)], args := [d1, d2] }
  | _ => none }
def creditBackRow : OpenClaim := { program := "ytmjbifmndhianaagreatdoor", sum := "7f4f34f906547635ba1069f943412a95ac155eb09bfe10d1b49c4f041ec09028", func := "kilovar/kilovarlaw08.CreditBack", spec := "creditBack", inPlace := ["internal/abi.NoEscape", "internal/bytealg.MakeNoZero", "internal/bytealg.IndexByteString", "internal/bytealg.CountString", "internal/bytealg.IndexString"], unfollowed := true, recurses := true, named := ["internal/strconv.uint64pow10", "math/bits.deBruijn32tab", "math/bits.deBruijn64tab", "unicode/utf8.first", "unicode/utf8.acceptRanges", "internal/bytealg.MaxLen"], apart := false, laid := [("math/bits.deBruijn32tab", laid_math_bits_deBruijn32tab), ("math/bits.deBruijn64tab", laid_math_bits_deBruijn64tab), ("internal/strconv.uint64pow10", laid_internal_strconv_uint64pow10), ("unicode/utf8.acceptRanges", laid_unicode_utf8_acceptRanges), ("unicode/utf8.first", laid_unicode_utf8_first)] }
def CreditBackSaid : Prop := creditBackRow.holds Tryz.pinned (OpenSpec.ofChange creditBackSpec)

/-- ITS FALSE NEIGHBOUR: 'it returns false'. Refute it at one input. -/
def creditBackWrong : ChangeSpec := { name := "creditBack", fn := fun _ => fun
  | [d1, d2] => { results := [.lit (.bool false)], args := [d1, d2] }
  | _ => none }
def CreditBackWrongFalsely : Prop := creditBackRow.holds Tryz.pinned (OpenSpec.ofChange creditBackWrong)

/- THE SECOND FORM. 'bulk': how many values and letters a reading holds, each counted each time it is reached (what is shared counts as often as it is met; a slice's spare places count too). A statement '..UptoSaid' is the law's where the arguments, and the package variables that the reading takes, are together of bulk at most 1048576: NARROWER than '..Said'. Prove '..Said' where nothing that the law and all that it calls make is longer than what came in: it says more and counts as full. Else prove '..UptoSaid'. A law counts once. -/
mutual
def uptoBulk {H : Type} : DataW H → Nat
  | .lit (.string bytes) => bytes.length + 1
  | .lit _ => 1
  | .nil => 1
  | .ptr d => uptoBulk d + 1
  | .slice elems spare => uptoBulkAll elems + uptoBulkAll spare + 1
  | .agg parts => uptoBulkAll parts + 1
  | .iface _ d => uptoBulk d + 1
  | .map entries => uptoBulkEntries entries + 1
  | .held _ => 1
def uptoBulkAll {H : Type} : List (DataW H) → Nat
  | [] => 0
  | d :: r => uptoBulk d + uptoBulkAll r
def uptoBulkEntries {H : Type} : List (Lit × DataW H) → Nat
  | [] => 0
  | x :: r => uptoBulkEntry x + uptoBulkEntries r
def uptoBulkEntry {H : Type} : Lit × DataW H → Nat
  | (.string bytes, d) => bytes.length + uptoBulk d + 1
  | (_, d) => uptoBulk d + 1
 end
def uptoSmall : (H : Type) → List (DataW H) → Bool := fun _ ds => decide (uptoBulkAll ds ≤ 1048576)
def OpenSpec.upto (s : _root_.Go.ChangeSpec) : _root_.Go.OpenSpec := { _root_.Go.OpenSpec.ofChange s with cond := some uptoSmall }

/-- 'kilovarlaw08.CreditAccounts', WHERE WHAT IT READS IS OF BULK AT MOST 1048576: true; the input reads as it did. -/
def creditAccountsUptoRow : OpenClaim := { program := "ytmjbifmndhianaagreatdoor", sum := "7f4f34f906547635ba1069f943412a95ac155eb09bfe10d1b49c4f041ec09028", func := "kilovar/kilovarlaw08.CreditAccounts", spec := "creditAccounts", inPlace := ["internal/abi.NoEscape", "internal/bytealg.MakeNoZero"], unfollowed := true, recurses := true, named := ["internal/strconv.uint64pow10", "math/bits.deBruijn32tab", "math/bits.deBruijn64tab"], apart := false, laid := [("math/bits.deBruijn32tab", laid_math_bits_deBruijn32tab), ("math/bits.deBruijn64tab", laid_math_bits_deBruijn64tab), ("internal/strconv.uint64pow10", laid_internal_strconv_uint64pow10)], narrowed := true }
def CreditAccountsUptoSaid : Prop := creditAccountsUptoRow.holds Tryz.pinned (OpenSpec.upto creditAccountsSpec)

/-- 'kilovarlaw08.CreditTokens', WHERE WHAT IT READS IS OF BULK AT MOST 1048576: true; the input reads as it did. -/
def creditTokensUptoRow : OpenClaim := { program := "ytmjbifmndhianaagreatdoor", sum := "7f4f34f906547635ba1069f943412a95ac155eb09bfe10d1b49c4f041ec09028", func := "kilovar/kilovarlaw08.CreditTokens", spec := "creditTokens", inPlace := ["internal/abi.NoEscape", "internal/bytealg.MakeNoZero"], unfollowed := true, recurses := true, named := ["internal/strconv.uint64pow10", "math/bits.deBruijn32tab", "math/bits.deBruijn64tab"], apart := false, laid := [("math/bits.deBruijn32tab", laid_math_bits_deBruijn32tab), ("math/bits.deBruijn64tab", laid_math_bits_deBruijn64tab), ("internal/strconv.uint64pow10", laid_internal_strconv_uint64pow10)], narrowed := true }
def CreditTokensUptoSaid : Prop := creditTokensUptoRow.holds Tryz.pinned (OpenSpec.upto creditTokensSpec)

/-- 'kilovarlaw08.CreditKeys', WHERE WHAT IT READS IS OF BULK AT MOST 1048576: true; the input reads as it did. -/
def creditKeysUptoRow : OpenClaim := { program := "ytmjbifmndhianaagreatdoor", sum := "7f4f34f906547635ba1069f943412a95ac155eb09bfe10d1b49c4f041ec09028", func := "kilovar/kilovarlaw08.CreditKeys", spec := "creditKeys", inPlace := ["internal/abi.NoEscape", "internal/bytealg.MakeNoZero"], unfollowed := true, recurses := true, named := ["internal/strconv.uint64pow10", "math/bits.deBruijn32tab", "math/bits.deBruijn64tab"], apart := false, laid := [("math/bits.deBruijn32tab", laid_math_bits_deBruijn32tab), ("math/bits.deBruijn64tab", laid_math_bits_deBruijn64tab), ("internal/strconv.uint64pow10", laid_internal_strconv_uint64pow10)], narrowed := true }
def CreditKeysUptoSaid : Prop := creditKeysUptoRow.holds Tryz.pinned (OpenSpec.upto creditKeysSpec)

/-- 'kilovarlaw08.CreditHours', WHERE WHAT IT READS IS OF BULK AT MOST 1048576: true; the input reads as it did. -/
def creditHoursUptoRow : OpenClaim := { program := "ytmjbifmndhianaagreatdoor", sum := "7f4f34f906547635ba1069f943412a95ac155eb09bfe10d1b49c4f041ec09028", func := "kilovar/kilovarlaw08.CreditHours", spec := "creditHours", inPlace := ["internal/abi.NoEscape", "internal/bytealg.MakeNoZero"], unfollowed := true, recurses := true, named := ["internal/strconv.uint64pow10", "math/bits.deBruijn32tab", "math/bits.deBruijn64tab"], apart := false, laid := [("math/bits.deBruijn32tab", laid_math_bits_deBruijn32tab), ("math/bits.deBruijn64tab", laid_math_bits_deBruijn64tab), ("internal/strconv.uint64pow10", laid_internal_strconv_uint64pow10)], narrowed := true }
def CreditHoursUptoSaid : Prop := creditHoursUptoRow.holds Tryz.pinned (OpenSpec.upto creditHoursSpec)

/-- 'kilovarlaw08.CreditBarriers', WHERE WHAT IT READS IS OF BULK AT MOST 1048576: true; the input reads as it did. -/
def creditBarriersUptoRow : OpenClaim := { program := "ytmjbifmndhianaagreatdoor", sum := "7f4f34f906547635ba1069f943412a95ac155eb09bfe10d1b49c4f041ec09028", func := "kilovar/kilovarlaw08.CreditBarriers", spec := "creditBarriers", inPlace := ["internal/abi.NoEscape", "internal/bytealg.MakeNoZero"], unfollowed := true, recurses := true, named := ["internal/strconv.uint64pow10", "math/bits.deBruijn32tab", "math/bits.deBruijn64tab"], apart := false, laid := [("math/bits.deBruijn32tab", laid_math_bits_deBruijn32tab), ("math/bits.deBruijn64tab", laid_math_bits_deBruijn64tab), ("internal/strconv.uint64pow10", laid_internal_strconv_uint64pow10)], narrowed := true }
def CreditBarriersUptoSaid : Prop := creditBarriersUptoRow.holds Tryz.pinned (OpenSpec.upto creditBarriersSpec)

/-- 'kilovarlaw08.CreditOnce', WHERE WHAT IT READS IS OF BULK AT MOST 1048576: true; the input reads as it did. -/
def creditOnceUptoRow : OpenClaim := { program := "ytmjbifmndhianaagreatdoor", sum := "7f4f34f906547635ba1069f943412a95ac155eb09bfe10d1b49c4f041ec09028", func := "kilovar/kilovarlaw08.CreditOnce", spec := "creditOnce", inPlace := ["internal/abi.NoEscape", "internal/bytealg.MakeNoZero"], unfollowed := true, recurses := true, named := ["internal/strconv.uint64pow10", "math/bits.deBruijn32tab", "math/bits.deBruijn64tab"], apart := false, laid := [("math/bits.deBruijn32tab", laid_math_bits_deBruijn32tab), ("math/bits.deBruijn64tab", laid_math_bits_deBruijn64tab), ("internal/strconv.uint64pow10", laid_internal_strconv_uint64pow10)], narrowed := true }
def CreditOnceUptoSaid : Prop := creditOnceUptoRow.holds Tryz.pinned (OpenSpec.upto creditOnceSpec)

/-- 'kilovarlaw08.CreditPhases', WHERE WHAT IT READS IS OF BULK AT MOST 1048576: true; the input reads as it did. -/
def creditPhasesUptoRow : OpenClaim := { program := "ytmjbifmndhianaagreatdoor", sum := "7f4f34f906547635ba1069f943412a95ac155eb09bfe10d1b49c4f041ec09028", func := "kilovar/kilovarlaw08.CreditPhases", spec := "creditPhases", inPlace := ["internal/abi.NoEscape", "internal/bytealg.MakeNoZero"], unfollowed := true, recurses := true, named := ["internal/strconv.uint64pow10", "math/bits.deBruijn32tab", "math/bits.deBruijn64tab"], apart := false, laid := [("math/bits.deBruijn32tab", laid_math_bits_deBruijn32tab), ("math/bits.deBruijn64tab", laid_math_bits_deBruijn64tab), ("internal/strconv.uint64pow10", laid_internal_strconv_uint64pow10)], narrowed := true }
def CreditPhasesUptoSaid : Prop := creditPhasesUptoRow.holds Tryz.pinned (OpenSpec.upto creditPhasesSpec)

/-- 'kilovarlaw08.CreditGuarded', WHERE WHAT IT READS IS OF BULK AT MOST 1048576: true; the input reads as it did. -/
def creditGuardedUptoRow : OpenClaim := { program := "ytmjbifmndhianaagreatdoor", sum := "7f4f34f906547635ba1069f943412a95ac155eb09bfe10d1b49c4f041ec09028", func := "kilovar/kilovarlaw08.CreditGuarded", spec := "creditGuarded", inPlace := ["internal/abi.NoEscape", "internal/bytealg.MakeNoZero"], unfollowed := true, recurses := true, named := ["internal/strconv.uint64pow10", "math/bits.deBruijn32tab", "math/bits.deBruijn64tab"], apart := false, laid := [("math/bits.deBruijn32tab", laid_math_bits_deBruijn32tab), ("math/bits.deBruijn64tab", laid_math_bits_deBruijn64tab), ("internal/strconv.uint64pow10", laid_internal_strconv_uint64pow10)], narrowed := true }
def CreditGuardedUptoSaid : Prop := creditGuardedUptoRow.holds Tryz.pinned (OpenSpec.upto creditGuardedSpec)

/-- 'kilovarlaw08.CreditOrders', WHERE WHAT IT READS IS OF BULK AT MOST 1048576: true; the input reads as it did. -/
def creditOrdersUptoRow : OpenClaim := { program := "ytmjbifmndhianaagreatdoor", sum := "7f4f34f906547635ba1069f943412a95ac155eb09bfe10d1b49c4f041ec09028", func := "kilovar/kilovarlaw08.CreditOrders", spec := "creditOrders", inPlace := ["internal/abi.NoEscape", "internal/bytealg.MakeNoZero"], unfollowed := true, recurses := true, named := ["internal/strconv.uint64pow10", "math/bits.deBruijn32tab", "math/bits.deBruijn64tab"], apart := false, laid := [("math/bits.deBruijn32tab", laid_math_bits_deBruijn32tab), ("math/bits.deBruijn64tab", laid_math_bits_deBruijn64tab), ("internal/strconv.uint64pow10", laid_internal_strconv_uint64pow10)], narrowed := true }
def CreditOrdersUptoSaid : Prop := creditOrdersUptoRow.holds Tryz.pinned (OpenSpec.upto creditOrdersSpec)

/-- 'kilovarlaw08.CreditStrings', WHERE WHAT IT READS IS OF BULK AT MOST 1048576: true; the input reads as it did. -/
def creditStringsUptoRow : OpenClaim := { program := "ytmjbifmndhianaagreatdoor", sum := "7f4f34f906547635ba1069f943412a95ac155eb09bfe10d1b49c4f041ec09028", func := "kilovar/kilovarlaw08.CreditStrings", spec := "creditStrings", inPlace := ["internal/abi.NoEscape", "internal/bytealg.MakeNoZero", "internal/bytealg.IndexByteString", "internal/bytealg.CountString", "internal/bytealg.IndexString"], unfollowed := true, recurses := true, named := ["internal/strconv.uint64pow10", "math/bits.deBruijn32tab", "math/bits.deBruijn64tab", "unicode/utf8.first", "unicode/utf8.acceptRanges", "internal/bytealg.MaxLen"], apart := false, laid := [("math/bits.deBruijn32tab", laid_math_bits_deBruijn32tab), ("math/bits.deBruijn64tab", laid_math_bits_deBruijn64tab), ("internal/strconv.uint64pow10", laid_internal_strconv_uint64pow10), ("unicode/utf8.acceptRanges", laid_unicode_utf8_acceptRanges), ("unicode/utf8.first", laid_unicode_utf8_first)], narrowed := true }
def CreditStringsUptoSaid : Prop := creditStringsUptoRow.holds Tryz.pinned (OpenSpec.upto creditStringsSpec)

/-- 'kilovarlaw08.CreditBack', WHERE WHAT IT READS IS OF BULK AT MOST 1048576: true; the input reads as it did. -/
def creditBackUptoRow : OpenClaim := { program := "ytmjbifmndhianaagreatdoor", sum := "7f4f34f906547635ba1069f943412a95ac155eb09bfe10d1b49c4f041ec09028", func := "kilovar/kilovarlaw08.CreditBack", spec := "creditBack", inPlace := ["internal/abi.NoEscape", "internal/bytealg.MakeNoZero", "internal/bytealg.IndexByteString", "internal/bytealg.CountString", "internal/bytealg.IndexString"], unfollowed := true, recurses := true, named := ["internal/strconv.uint64pow10", "math/bits.deBruijn32tab", "math/bits.deBruijn64tab", "unicode/utf8.first", "unicode/utf8.acceptRanges", "internal/bytealg.MaxLen"], apart := false, laid := [("math/bits.deBruijn32tab", laid_math_bits_deBruijn32tab), ("math/bits.deBruijn64tab", laid_math_bits_deBruijn64tab), ("internal/strconv.uint64pow10", laid_internal_strconv_uint64pow10), ("unicode/utf8.acceptRanges", laid_unicode_utf8_acceptRanges), ("unicode/utf8.first", laid_unicode_utf8_first)], narrowed := true }
def CreditBackUptoSaid : Prop := creditBackUptoRow.holds Tryz.pinned (OpenSpec.upto creditBackSpec)

end Rows
end Go.Proofs.YtmjbifmndhianaaGreatDoor
