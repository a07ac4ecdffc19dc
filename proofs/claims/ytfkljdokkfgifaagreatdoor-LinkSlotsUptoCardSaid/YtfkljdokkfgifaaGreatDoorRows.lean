/-
  NARROWER THAN 'FOR EVERY INPUT', by the rows' own cells (each row's printed sentence says how): LinkMessages: laid · LinkSteps: laid · LinkRounds: laid · LinkSlots: laid · LinkWhole: laid · LinkOnce: laid · LinkTexts: laid · LinkFair: laid.
  DERIVED. THE GIVEN ROWS OF THIS SEAT. 8 by the template 'for every input the law returns true; each argument reads behind the call as it read before'; 0 by the template 'total and deterministic' (their statements: YtfkljdokkfgifaaGreatDoorTotals.lean).
  GIVEN WITH THE SEED: the statements are not yours to turn. If you find one false, say at which input.
  Laid BY PROGRAM, IN A SANDBOX (cutbox-rows.mjs): the forced cells as the released guide's own fill.sh prints them over the translation 991222818f5282e3… (all of the seat's roots in one cut). By AI agents, Wed Nov 11 2026. No macro, syntax, notation, axiom, sorry.
-/
import Derived.Test.YtfkljdokkfgifaaGreatDoorChecked
import GoSem.PinnedTables
import GoSem.Claim
import GoSem.ClaimJoined
import GoSem.ClaimMapViews
import Derived.JoinedTies
import Derived.KernelRfl
namespace Go.Proofs.YtfkljdokkfgifaaGreatDoor
/- THE CELL 'sum', in the pinned program and in every row, IS THE sha256 OF THE DUMP (.gsa) THAT YtfkljdokkfgifaaGreatDoorProg.lean LOADS. Nothing in Lean hashes anything: it is a label: what it is worth is what the hold of that sum in a sandbox is worth. -/
noncomputable def Tryz.pinned : Pinned := { name := "ytfkljdokkfgifaagreatdoor", sum := "991222818f5282e34fc0f6024557e7bf6326cc2f1cc39364c8acb4583cd0bf26", checked := Tryz.checked }
namespace Rows
def none {H : Type} : Left H := { results := [], args := [] }

/- WHAT THE LISTED PACKAGE-LEVEL VARIABLES READ AS WHEN THE CALL BEGINS. Each datum BY PROGRAM (the guide's laid-datum.mjs) off the statement by which the dump's own 'gosem.cut.vars' lays the variable. In a bare row this is a premise. The card (YtfkljdokkfgifaaGreatDoorCards.lean) ties it to the program's text. -/
def laid_math_bits_deBruijn32tab {H : Type} : DataW H := .agg [.lit (.int .u8 0), .lit (.int .u8 1), .lit (.int .u8 28), .lit (.int .u8 2), .lit (.int .u8 29), .lit (.int .u8 14), .lit (.int .u8 24), .lit (.int .u8 3), .lit (.int .u8 30), .lit (.int .u8 22), .lit (.int .u8 20), .lit (.int .u8 15), .lit (.int .u8 25), .lit (.int .u8 17), .lit (.int .u8 4), .lit (.int .u8 8), .lit (.int .u8 31), .lit (.int .u8 27), .lit (.int .u8 13), .lit (.int .u8 23), .lit (.int .u8 21), .lit (.int .u8 19), .lit (.int .u8 16), .lit (.int .u8 7), .lit (.int .u8 26), .lit (.int .u8 12), .lit (.int .u8 18), .lit (.int .u8 6), .lit (.int .u8 11), .lit (.int .u8 5), .lit (.int .u8 10), .lit (.int .u8 9)]
def laid_math_bits_deBruijn64tab {H : Type} : DataW H := .agg [.lit (.int .u8 0), .lit (.int .u8 1), .lit (.int .u8 56), .lit (.int .u8 2), .lit (.int .u8 57), .lit (.int .u8 49), .lit (.int .u8 28), .lit (.int .u8 3), .lit (.int .u8 61), .lit (.int .u8 58), .lit (.int .u8 42), .lit (.int .u8 50), .lit (.int .u8 38), .lit (.int .u8 29), .lit (.int .u8 17), .lit (.int .u8 4), .lit (.int .u8 62), .lit (.int .u8 47), .lit (.int .u8 59), .lit (.int .u8 36), .lit (.int .u8 45), .lit (.int .u8 43), .lit (.int .u8 51), .lit (.int .u8 22), .lit (.int .u8 53), .lit (.int .u8 39), .lit (.int .u8 33), .lit (.int .u8 30), .lit (.int .u8 24), .lit (.int .u8 18), .lit (.int .u8 12), .lit (.int .u8 5), .lit (.int .u8 63), .lit (.int .u8 55), .lit (.int .u8 48), .lit (.int .u8 27), .lit (.int .u8 60), .lit (.int .u8 41), .lit (.int .u8 37), .lit (.int .u8 16), .lit (.int .u8 46), .lit (.int .u8 35), .lit (.int .u8 44), .lit (.int .u8 21), .lit (.int .u8 52), .lit (.int .u8 32), .lit (.int .u8 23), .lit (.int .u8 11), .lit (.int .u8 54), .lit (.int .u8 26), .lit (.int .u8 40), .lit (.int .u8 15), .lit (.int .u8 34), .lit (.int .u8 20), .lit (.int .u8 31), .lit (.int .u8 10), .lit (.int .u8 25), .lit (.int .u8 14), .lit (.int .u8 19), .lit (.int .u8 9), .lit (.int .u8 13), .lit (.int .u8 8), .lit (.int .u8 7), .lit (.int .u8 6)]
def laid_internal_strconv_uint64pow10 {H : Type} : DataW H := .agg [.lit (.int .u64 1), .lit (.int .u64 10), .lit (.int .u64 100), .lit (.int .u64 1000), .lit (.int .u64 10000), .lit (.int .u64 100000), .lit (.int .u64 1000000), .lit (.int .u64 10000000), .lit (.int .u64 100000000), .lit (.int .u64 1000000000), .lit (.int .u64 10000000000), .lit (.int .u64 100000000000), .lit (.int .u64 1000000000000), .lit (.int .u64 10000000000000), .lit (.int .u64 100000000000000), .lit (.int .u64 1000000000000000), .lit (.int .u64 10000000000000000), .lit (.int .u64 100000000000000000), .lit (.int .u64 1000000000000000000), .lit (.int .u64 10000000000000000000)]
def laid_unicode_utf8_acceptRanges {H : Type} : DataW H := .agg [.agg [.lit (.int .u8 128), .lit (.int .u8 191)], .agg [.lit (.int .u8 160), .lit (.int .u8 191)], .agg [.lit (.int .u8 128), .lit (.int .u8 159)], .agg [.lit (.int .u8 144), .lit (.int .u8 191)], .agg [.lit (.int .u8 128), .lit (.int .u8 143)], .agg [.lit (.int .u8 0), .lit (.int .u8 0)], .agg [.lit (.int .u8 0), .lit (.int .u8 0)], .agg [.lit (.int .u8 0), .lit (.int .u8 0)], .agg [.lit (.int .u8 0), .lit (.int .u8 0)], .agg [.lit (.int .u8 0), .lit (.int .u8 0)], .agg [.lit (.int .u8 0), .lit (.int .u8 0)], .agg [.lit (.int .u8 0), .lit (.int .u8 0)], .agg [.lit (.int .u8 0), .lit (.int .u8 0)], .agg [.lit (.int .u8 0), .lit (.int .u8 0)], .agg [.lit (.int .u8 0), .lit (.int .u8 0)], .agg [.lit (.int .u8 0), .lit (.int .u8 0)]]
/-- One of Go's own tables, pinned by name: the form's constant. -/
def laid_unicode_utf8_first : DataW Unit := Go.Pinned.utf8First

/-- 'kilovarlaw04.LinkMessages': WHATEVER THE INPUT: true; the input reads as it did. -/
def linkMessagesSpec : ChangeSpec := { name := "linkMessages", fn := fun _ => fun
  | [d1, d2, d3] => { results := [.lit (.bool true)], args := [d1, d2, d3] }
  | _ => none }
def linkMessagesRow : OpenClaim := { program := "ytfkljdokkfgifaagreatdoor", sum := "991222818f5282e34fc0f6024557e7bf6326cc2f1cc39364c8acb4583cd0bf26", func := "kilovar/kilovarlaw04.LinkMessages", spec := "linkMessages", inPlace := ["internal/abi.NoEscape", "internal/bytealg.MakeNoZero"], unfollowed := true, recurses := true, named := ["internal/strconv.uint64pow10", "math/bits.deBruijn32tab", "math/bits.deBruijn64tab"], apart := false, laid := [("math/bits.deBruijn32tab", laid_math_bits_deBruijn32tab), ("math/bits.deBruijn64tab", laid_math_bits_deBruijn64tab), ("internal/strconv.uint64pow10", laid_internal_strconv_uint64pow10)] }
def LinkMessagesSaid : Prop := linkMessagesRow.holds Tryz.pinned (OpenSpec.ofChange linkMessagesSpec)

/-- ITS FALSE NEIGHBOUR: 'it returns false'. Refute it at one input. -/
def linkMessagesWrong : ChangeSpec := { name := "linkMessages", fn := fun _ => fun
  | [d1, d2, d3] => { results := [.lit (.bool false)], args := [d1, d2, d3] }
  | _ => none }
def LinkMessagesWrongFalsely : Prop := linkMessagesRow.holds Tryz.pinned (OpenSpec.ofChange linkMessagesWrong)

/-- 'kilovarlaw04.LinkSteps': WHATEVER THE INPUT: true; the input reads as it did. -/
def linkStepsSpec : ChangeSpec := { name := "linkSteps", fn := fun _ => fun
  | [d1, d2, d3] => { results := [.lit (.bool true)], args := [d1, d2, d3] }
  | _ => none }
def linkStepsRow : OpenClaim := { program := "ytfkljdokkfgifaagreatdoor", sum := "991222818f5282e34fc0f6024557e7bf6326cc2f1cc39364c8acb4583cd0bf26", func := "kilovar/kilovarlaw04.LinkSteps", spec := "linkSteps", inPlace := ["internal/abi.NoEscape", "internal/bytealg.MakeNoZero"], unfollowed := true, recurses := true, named := ["internal/strconv.uint64pow10", "math/bits.deBruijn32tab", "math/bits.deBruijn64tab"], apart := false, laid := [("math/bits.deBruijn32tab", laid_math_bits_deBruijn32tab), ("math/bits.deBruijn64tab", laid_math_bits_deBruijn64tab), ("internal/strconv.uint64pow10", laid_internal_strconv_uint64pow10)] }
def LinkStepsSaid : Prop := linkStepsRow.holds Tryz.pinned (OpenSpec.ofChange linkStepsSpec)

/-- ITS FALSE NEIGHBOUR: 'it returns false'. Refute it at one input. -/
def linkStepsWrong : ChangeSpec := { name := "linkSteps", fn := fun _ => fun
  | [d1, d2, d3] => { results := [.lit (.bool false)], args := [d1, d2, d3] }
  | _ => none }
def LinkStepsWrongFalsely : Prop := linkStepsRow.holds Tryz.pinned (OpenSpec.ofChange linkStepsWrong)

/-- 'kilovarlaw04.LinkRounds': WHATEVER THE INPUT: true; the input reads as it did. -/
def linkRoundsSpec : ChangeSpec := { name := "linkRounds", fn := fun _ => fun
  | [d1, d2, d3] => { results := [.lit (.bool true)], args := [d1, d2, d3] }
  | _ => none }
def linkRoundsRow : OpenClaim := { program := "ytfkljdokkfgifaagreatdoor", sum := "991222818f5282e34fc0f6024557e7bf6326cc2f1cc39364c8acb4583cd0bf26", func := "kilovar/kilovarlaw04.LinkRounds", spec := "linkRounds", inPlace := ["internal/abi.NoEscape", "internal/bytealg.MakeNoZero"], unfollowed := true, recurses := true, named := ["internal/strconv.uint64pow10", "math/bits.deBruijn32tab", "math/bits.deBruijn64tab"], apart := false, laid := [("math/bits.deBruijn32tab", laid_math_bits_deBruijn32tab), ("math/bits.deBruijn64tab", laid_math_bits_deBruijn64tab), ("internal/strconv.uint64pow10", laid_internal_strconv_uint64pow10)] }
def LinkRoundsSaid : Prop := linkRoundsRow.holds Tryz.pinned (OpenSpec.ofChange linkRoundsSpec)

/-- ITS FALSE NEIGHBOUR: 'it returns false'. Refute it at one input. -/
def linkRoundsWrong : ChangeSpec := { name := "linkRounds", fn := fun _ => fun
  | [d1, d2, d3] => { results := [.lit (.bool false)], args := [d1, d2, d3] }
  | _ => none }
def LinkRoundsWrongFalsely : Prop := linkRoundsRow.holds Tryz.pinned (OpenSpec.ofChange linkRoundsWrong)

/-- 'kilovarlaw04.LinkSlots': WHATEVER THE INPUT: true; the input reads as it did. -/
def linkSlotsSpec : ChangeSpec := { name := "linkSlots", fn := fun _ => fun
  | [d1, d2, d3] => { results := [.lit (.bool true)], args := [d1, d2, d3] }
  | _ => none }
def linkSlotsRow : OpenClaim := { program := "ytfkljdokkfgifaagreatdoor", sum := "991222818f5282e34fc0f6024557e7bf6326cc2f1cc39364c8acb4583cd0bf26", func := "kilovar/kilovarlaw04.LinkSlots", spec := "linkSlots", inPlace := ["internal/abi.NoEscape", "internal/bytealg.MakeNoZero"], unfollowed := true, recurses := true, named := ["internal/strconv.uint64pow10", "math/bits.deBruijn32tab", "math/bits.deBruijn64tab"], apart := false, laid := [("math/bits.deBruijn32tab", laid_math_bits_deBruijn32tab), ("math/bits.deBruijn64tab", laid_math_bits_deBruijn64tab), ("internal/strconv.uint64pow10", laid_internal_strconv_uint64pow10)] }
def LinkSlotsSaid : Prop := linkSlotsRow.holds Tryz.pinned (OpenSpec.ofChange linkSlotsSpec)

/-- ITS FALSE NEIGHBOUR: 'it returns false'. Refute it at one input. -/
def linkSlotsWrong : ChangeSpec := { name := "linkSlots", fn := fun _ => fun
  | [d1, d2, d3] => { results := [.lit (.bool false)], args := [d1, d2, d3] }
  | _ => none }
def LinkSlotsWrongFalsely : Prop := linkSlotsRow.holds Tryz.pinned (OpenSpec.ofChange linkSlotsWrong)

/-- 'kilovarlaw04.LinkWhole': WHATEVER THE INPUT: true; the input reads as it did. -/
def linkWholeSpec : ChangeSpec := { name := "linkWhole", fn := fun _ => fun
  | [d1, d2] => { results := [.lit (.bool true)], args := [d1, d2] }
  | _ => none }
def linkWholeRow : OpenClaim := { program := "ytfkljdokkfgifaagreatdoor", sum := "991222818f5282e34fc0f6024557e7bf6326cc2f1cc39364c8acb4583cd0bf26", func := "kilovar/kilovarlaw04.LinkWhole", spec := "linkWhole", inPlace := ["internal/abi.NoEscape", "internal/bytealg.MakeNoZero"], unfollowed := true, recurses := true, named := ["internal/strconv.uint64pow10", "math/bits.deBruijn32tab", "math/bits.deBruijn64tab"], apart := false, laid := [("math/bits.deBruijn32tab", laid_math_bits_deBruijn32tab), ("math/bits.deBruijn64tab", laid_math_bits_deBruijn64tab), ("internal/strconv.uint64pow10", laid_internal_strconv_uint64pow10)] }
def LinkWholeSaid : Prop := linkWholeRow.holds Tryz.pinned (OpenSpec.ofChange linkWholeSpec)

/-- ITS FALSE NEIGHBOUR: 'it returns false'. Refute it at one input. -/
def linkWholeWrong : ChangeSpec := { name := "linkWhole", fn := fun _ => fun
  | [d1, d2] => { results := [.lit (.bool false)], args := [d1, d2] }
  | _ => none }
def LinkWholeWrongFalsely : Prop := linkWholeRow.holds Tryz.pinned (OpenSpec.ofChange linkWholeWrong)

/-- 'kilovarlaw04.LinkOnce': WHATEVER THE INPUT: true; the input reads as it did. -/
def linkOnceSpec : ChangeSpec := { name := "linkOnce", fn := fun _ => fun
  | [d1, d2, d3] => { results := [.lit (.bool true)], args := [d1, d2, d3] }
  | _ => none }
def linkOnceRow : OpenClaim := { program := "ytfkljdokkfgifaagreatdoor", sum := "991222818f5282e34fc0f6024557e7bf6326cc2f1cc39364c8acb4583cd0bf26", func := "kilovar/kilovarlaw04.LinkOnce", spec := "linkOnce", inPlace := ["internal/abi.NoEscape", "internal/bytealg.MakeNoZero"], unfollowed := true, recurses := true, named := ["internal/strconv.uint64pow10", "math/bits.deBruijn32tab", "math/bits.deBruijn64tab"], apart := false, laid := [("math/bits.deBruijn32tab", laid_math_bits_deBruijn32tab), ("math/bits.deBruijn64tab", laid_math_bits_deBruijn64tab), ("internal/strconv.uint64pow10", laid_internal_strconv_uint64pow10)] }
def LinkOnceSaid : Prop := linkOnceRow.holds Tryz.pinned (OpenSpec.ofChange linkOnceSpec)

/-- ITS FALSE NEIGHBOUR: 'it returns false'. Refute it at one input. -/
def linkOnceWrong : ChangeSpec := { name := "linkOnce", fn := fun _ => fun
  | [d1, d2, d3] => { results := [.lit (.bool false)], args := [d1, d2, d3] }
  | _ => none }
def LinkOnceWrongFalsely : Prop := linkOnceRow.holds Tryz.pinned (OpenSpec.ofChange linkOnceWrong)

/-- 'kilovarlaw04.LinkTexts': WHATEVER THE INPUT: true; the input reads as it did. -/
def linkTextsSpec : ChangeSpec := { name := "linkTexts", fn := fun _ => fun
  | [d1, d2] => { results := [.lit (.bool true)], args := [d1, d2] }
  | _ => none }
def linkTextsRow : OpenClaim := { program := "ytfkljdokkfgifaagreatdoor", sum := "991222818f5282e34fc0f6024557e7bf6326cc2f1cc39364c8acb4583cd0bf26", func := "kilovar/kilovarlaw04.LinkTexts", spec := "linkTexts", inPlace := ["internal/abi.NoEscape", "internal/bytealg.MakeNoZero", "internal/bytealg.IndexByteString", "internal/bytealg.CountString", "internal/bytealg.IndexString"], unfollowed := true, recurses := true, named := ["internal/strconv.uint64pow10", "math/bits.deBruijn32tab", "math/bits.deBruijn64tab", "unicode/utf8.first", "unicode/utf8.acceptRanges", "internal/bytealg.MaxLen"], apart := false, laid := [("math/bits.deBruijn32tab", laid_math_bits_deBruijn32tab), ("math/bits.deBruijn64tab", laid_math_bits_deBruijn64tab), ("internal/strconv.uint64pow10", laid_internal_strconv_uint64pow10), ("unicode/utf8.acceptRanges", laid_unicode_utf8_acceptRanges), ("unicode/utf8.first", laid_unicode_utf8_first)] }
def LinkTextsSaid : Prop := linkTextsRow.holds Tryz.pinned (OpenSpec.ofChange linkTextsSpec)

/-- ITS FALSE NEIGHBOUR: 'it returns false'. Refute it at one input. -/
def linkTextsWrong : ChangeSpec := { name := "linkTexts", fn := fun _ => fun
  | [d1, d2] => { results := [.lit (.bool false)], args := [d1, d2] }
  | _ => none }
def LinkTextsWrongFalsely : Prop := linkTextsRow.holds Tryz.pinned (OpenSpec.ofChange linkTextsWrong)

/-- 'kilovarlaw04.LinkFair': WHATEVER THE INPUT: true; the input reads as it did. -/
def linkFairSpec : ChangeSpec := { name := "linkFair", fn := fun _ => fun
  | [d1, d2, d3] => { results := [.lit (.bool true)], args := [d1, d2, d3] }
  | _ => none }
def linkFairRow : OpenClaim := { program := "ytfkljdokkfgifaagreatdoor", sum := "991222818f5282e34fc0f6024557e7bf6326cc2f1cc39364c8acb4583cd0bf26", func := "kilovar/kilovarlaw04.LinkFair", spec := "linkFair", inPlace := ["internal/abi.NoEscape", "internal/bytealg.MakeNoZero", "internal/bytealg.IndexByteString", "internal/bytealg.CountString", "internal/bytealg.IndexString"], unfollowed := true, recurses := true, named := ["internal/strconv.uint64pow10", "math/bits.deBruijn32tab", "math/bits.deBruijn64tab", "unicode/utf8.first", "unicode/utf8.acceptRanges", "internal/bytealg.MaxLen"], apart := false, laid := [("math/bits.deBruijn32tab", laid_math_bits_deBruijn32tab), ("math/bits.deBruijn64tab", laid_math_bits_deBruijn64tab), ("internal/strconv.uint64pow10", laid_internal_strconv_uint64pow10), ("unicode/utf8.acceptRanges", laid_unicode_utf8_acceptRanges), ("unicode/utf8.first", laid_unicode_utf8_first)] }
def LinkFairSaid : Prop := linkFairRow.holds Tryz.pinned (OpenSpec.ofChange linkFairSpec)

/-- ITS FALSE NEIGHBOUR: 'it returns false'. Refute it at one input. -/
def linkFairWrong : ChangeSpec := { name := "linkFair", fn := fun _ => fun
  | [d1, d2, d3] => { results := [.lit (.bool false)], args := [d1, d2, d3] }
  | _ => none }
def LinkFairWrongFalsely : Prop := linkFairRow.holds Tryz.pinned (OpenSpec.ofChange linkFairWrong)

/- THE SECOND FORM. 'bulk': how many values and letters a reading holds, each counted each time it is reached (what is shared counts as often as it is met; a slice's spare places count too). A statement '..UptoSaid' is the law's where the arguments, and the package variables that the reading takes, are together of bulk at most 1048576: NARROWER than '..Said'. Prove '..Said' where nothing that the law and all that it calls make is longer than what came in: it says more and counts as full. Else prove '..UptoSaid'. A law counts once. -/
mutual
def uptoBulk {H : Type} : DataW H → Nat
  | .lit (.string bytes) => bytes.length + 1
  | .lit _ => 1
  | .nil => 1
  | .ptr d => uptoBulk d + 1
  | .slice elems spare => uptoBulkAll elems + uptoBulkAll spare + 1
  | .agg parts => uptoBulkAll parts + 1
  | .iface _ d => uptoBulk d + 1
  | .map entries => uptoBulkEntries entries + 1
  | .held _ => 1
def uptoBulkAll {H : Type} : List (DataW H) → Nat
  | [] => 0
  | d :: r => uptoBulk d + uptoBulkAll r
def uptoBulkEntries {H : Type} : List (Lit × DataW H) → Nat
  | [] => 0
  | x :: r => uptoBulkEntry x + uptoBulkEntries r
def uptoBulkEntry {H : Type} : Lit × DataW H → Nat
  | (.string bytes, d) => bytes.length + uptoBulk d + 1
  | (_, d) => uptoBulk d + 1
 end
def uptoSmall : (H : Type) → List (DataW H) → Bool := fun _ ds => decide (uptoBulkAll ds ≤ 1048576)
def OpenSpec.upto (s : _root_.Go.ChangeSpec) : _root_.Go.OpenSpec := { _root_.Go.OpenSpec.ofChange s with cond := some uptoSmall }

/-- 'kilovarlaw04.LinkMessages', WHERE WHAT IT READS IS OF BULK AT MOST 1048576: true; the input reads as it did. -/
def linkMessagesUptoRow : OpenClaim := { program := "ytfkljdokkfgifaagreatdoor", sum := "991222818f5282e34fc0f6024557e7bf6326cc2f1cc39364c8acb4583cd0bf26", func := "kilovar/kilovarlaw04.LinkMessages", spec := "linkMessages", inPlace := ["internal/abi.NoEscape", "internal/bytealg.MakeNoZero"], unfollowed := true, recurses := true, named := ["internal/strconv.uint64pow10", "math/bits.deBruijn32tab", "math/bits.deBruijn64tab"], apart := false, laid := [("math/bits.deBruijn32tab", laid_math_bits_deBruijn32tab), ("math/bits.deBruijn64tab", laid_math_bits_deBruijn64tab), ("internal/strconv.uint64pow10", laid_internal_strconv_uint64pow10)], narrowed := true }
def LinkMessagesUptoSaid : Prop := linkMessagesUptoRow.holds Tryz.pinned (OpenSpec.upto linkMessagesSpec)

/-- 'kilovarlaw04.LinkSteps', WHERE WHAT IT READS IS OF BULK AT MOST 1048576: true; the input reads as it did. -/
def linkStepsUptoRow : OpenClaim := { program := "ytfkljdokkfgifaagreatdoor", sum := "991222818f5282e34fc0f6024557e7bf6326cc2f1cc39364c8acb4583cd0bf26", func := "kilovar/kilovarlaw04.LinkSteps", spec := "linkSteps", inPlace := ["internal/abi.NoEscape", "internal/bytealg.MakeNoZero"], unfollowed := true, recurses := true, named := ["internal/strconv.uint64pow10", "math/bits.deBruijn32tab", "math/bits.deBruijn64tab"], apart := false, laid := [("math/bits.deBruijn32tab", laid_math_bits_deBruijn32tab), ("math/bits.deBruijn64tab", laid_math_bits_deBruijn64tab), ("internal/strconv.uint64pow10", laid_internal_strconv_uint64pow10)], narrowed := true }
def LinkStepsUptoSaid : Prop := linkStepsUptoRow.holds Tryz.pinned (OpenSpec.upto linkStepsSpec)

/-- 'kilovarlaw04.LinkRounds', WHERE WHAT IT READS IS OF BULK AT MOST 1048576: true; the input reads as it did. -/
def linkRoundsUptoRow : OpenClaim := { program := "ytfkljdokkfgifaagreatdoor", sum := "991222818f5282e34fc0f6024557e7bf6326cc2f1cc39364c8acb4583cd0bf26", func := "kilovar/kilovarlaw04.LinkRounds", spec := "linkRounds", inPlace := ["internal/abi.NoEscape", "internal/bytealg.MakeNoZero"], unfollowed := true, recurses := true, named := ["internal/strconv.uint64pow10", "math/bits.deBruijn32tab", "math/bits.deBruijn64tab"], apart := false, laid := [("math/bits.deBruijn32tab", laid_math_bits_deBruijn32tab), ("math/bits.deBruijn64tab", laid_math_bits_deBruijn64tab), ("internal/strconv.uint64pow10", laid_internal_strconv_uint64pow10)], narrowed := true }
def LinkRoundsUptoSaid : Prop := linkRoundsUptoRow.holds Tryz.pinned (OpenSpec.upto linkRoundsSpec)

/-- 'kilovarlaw04.LinkSlots', WHERE WHAT IT READS IS OF BULK AT MOST 1048576: true; the input reads as it did. -/
def linkSlotsUptoRow : OpenClaim := { program := "ytfkljdokkfgifaagreatdoor", sum := "991222818f5282e34fc0f6024557e7bf6326cc2f1cc39364c8acb4583cd0bf26", func := "kilovar/kilovarlaw04.LinkSlots", spec := "linkSlots", inPlace := ["internal/abi.NoEscape", "internal/bytealg.MakeNoZero"], unfollowed := true, recurses := true, named := ["internal/strconv.uint64pow10", "math/bits.deBruijn32tab", "math/bits.deBruijn64tab"], apart := false, laid := [("math/bits.deBruijn32tab", laid_math_bits_deBruijn32tab), ("math/bits.deBruijn64tab", laid_math_bits_deBruijn64tab), ("internal/strconv.uint64pow10", laid_internal_strconv_uint64pow10)], narrowed := true }
def LinkSlotsUptoSaid : Prop := linkSlotsUptoRow.holds Tryz.pinned (OpenSpec.upto linkSlotsSpec)

/-- 'kilovarlaw04.LinkWhole', WHERE WHAT IT READS IS OF BULK AT MOST 1048576: true; the input reads as it did. -/
def linkWholeUptoRow : OpenClaim := { program := "ytfkljdokkfgifaagreatdoor", sum := "991222818f5282e34fc0f6024557e7bf6326cc2f1cc39364c8acb4583cd0bf26", func := "kilovar/kilovarlaw04.LinkWhole", spec := "linkWhole", inPlace := ["internal/abi.NoEscape", "internal/bytealg.MakeNoZero"], unfollowed := true, recurses := true, named := ["internal/strconv.uint64pow10", "math/bits.deBruijn32tab", "math/bits.deBruijn64tab"], apart := false, laid := [("math/bits.deBruijn32tab", laid_math_bits_deBruijn32tab), ("math/bits.deBruijn64tab", laid_math_bits_deBruijn64tab), ("internal/strconv.uint64pow10", laid_internal_strconv_uint64pow10)], narrowed := true }
def LinkWholeUptoSaid : Prop := linkWholeUptoRow.holds Tryz.pinned (OpenSpec.upto linkWholeSpec)

/-- 'kilovarlaw04.LinkOnce', WHERE WHAT IT READS IS OF BULK AT MOST 1048576: true; the input reads as it did. -/
def linkOnceUptoRow : OpenClaim := { program := "ytfkljdokkfgifaagreatdoor", sum := "991222818f5282e34fc0f6024557e7bf6326cc2f1cc39364c8acb4583cd0bf26", func := "kilovar/kilovarlaw04.LinkOnce", spec := "linkOnce", inPlace := ["internal/abi.NoEscape", "internal/bytealg.MakeNoZero"], unfollowed := true, recurses := true, named := ["internal/strconv.uint64pow10", "math/bits.deBruijn32tab", "math/bits.deBruijn64tab"], apart := false, laid := [("math/bits.deBruijn32tab", laid_math_bits_deBruijn32tab), ("math/bits.deBruijn64tab", laid_math_bits_deBruijn64tab), ("internal/strconv.uint64pow10", laid_internal_strconv_uint64pow10)], narrowed := true }
def LinkOnceUptoSaid : Prop := linkOnceUptoRow.holds Tryz.pinned (OpenSpec.upto linkOnceSpec)

/-- 'kilovarlaw04.LinkTexts', WHERE WHAT IT READS IS OF BULK AT MOST 1048576: true; the input reads as it did. -/
def linkTextsUptoRow : OpenClaim := { program := "ytfkljdokkfgifaagreatdoor", sum := "991222818f5282e34fc0f6024557e7bf6326cc2f1cc39364c8acb4583cd0bf26", func := "kilovar/kilovarlaw04.LinkTexts", spec := "linkTexts", inPlace := ["internal/abi.NoEscape", "internal/bytealg.MakeNoZero", "internal/bytealg.IndexByteString", "internal/bytealg.CountString", "internal/bytealg.IndexString"], unfollowed := true, recurses := true, named := ["internal/strconv.uint64pow10", "math/bits.deBruijn32tab", "math/bits.deBruijn64tab", "unicode/utf8.first", "unicode/utf8.acceptRanges", "internal/bytealg.MaxLen"], apart := false, laid := [("math/bits.deBruijn32tab", laid_math_bits_deBruijn32tab), ("math/bits.deBruijn64tab", laid_math_bits_deBruijn64tab), ("internal/strconv.uint64pow10", laid_internal_strconv_uint64pow10), ("unicode/utf8.acceptRanges", laid_unicode_utf8_acceptRanges), ("unicode/utf8.first", laid_unicode_utf8_first)], narrowed := true }
def LinkTextsUptoSaid : Prop := linkTextsUptoRow.holds Tryz.pinned (OpenSpec.upto linkTextsSpec)

/-- 'kilovarlaw04.LinkFair', WHERE WHAT IT READS IS OF BULK AT MOST 1048576: true; the input reads as it did. -/
def linkFairUptoRow : OpenClaim := { program := "ytfkljdokkfgifaagreatdoor", sum := "991222818f5282e34fc0f6024557e7bf6326cc2f1cc39364c8acb4583cd0bf26", func := "kilovar/kilovarlaw04.LinkFair", spec := "linkFair", inPlace := ["internal/abi.NoEscape", "internal/bytealg.MakeNoZero", "internal/bytealg.IndexByteString", "internal/bytealg.CountString", "internal/bytealg.IndexString"], unfollowed := true, recurses := true, named := ["internal/strconv.uint64pow10", "math/bits.deBruijn32tab", "math/bits.deBruijn64tab", "unicode/utf8.first", "unicode/utf8.acceptRanges", "internal/bytealg.MaxLen"], apart := false, laid := [("math/bits.deBruijn32tab", laid_math_bits_deBruijn32tab), ("math/bits.deBruijn64tab", laid_math_bits_deBruijn64tab), ("internal/strconv.uint64pow10", laid_internal_strconv_uint64pow10), ("unicode/utf8.acceptRanges", laid_unicode_utf8_acceptRanges), ("unicode/utf8.first", laid_unicode_utf8_first)], narrowed := true }
def LinkFairUptoSaid : Prop := linkFairUptoRow.holds Tryz.pinned (OpenSpec.upto linkFairSpec)

end Rows
end Go.Proofs.YtfkljdokkfgifaaGreatDoor
