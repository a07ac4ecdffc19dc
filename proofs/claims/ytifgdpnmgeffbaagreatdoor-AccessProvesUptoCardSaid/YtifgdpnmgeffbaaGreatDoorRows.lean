/-
  NARROWER THAN 'FOR EVERY INPUT', by the rows' own cells (each row's printed sentence says how): AccessRights: laid · AccessDays: laid · AccessSets: laid · AccessKnown: laid · AccessStores: laid · AccessTurns: laid · AccessProves: laid · AccessHides: laid.
  DERIVED. THE GIVEN ROWS OF THIS SEAT. 8 by the template 'for every input the law returns true; each argument reads behind the call as it read before'; 0 by the template 'total and deterministic' (their statements: YtifgdpnmgeffbaaGreatDoorTotals.lean).
  GIVEN WITH THE SEED: the statements are not yours to turn. If you find one false, say at which input.
  Laid BY PROGRAM, IN A SANDBOX (cutbox-rows.mjs): the forced cells as the released guide's own fill.sh prints them over the translation 7a3002bd46f53dd5… (all of the seat's roots in one cut). By AI agents, Wed Nov 11 2026. No macro, syntax, notation, axiom, sorry.
-/
import Derived.Test.YtifgdpnmgeffbaaGreatDoorChecked
import GoSem.Claim
import GoSem.ClaimJoined
import GoSem.ClaimMapViews
import Derived.JoinedTies
import Derived.KernelRfl
namespace Go.Proofs.YtifgdpnmgeffbaaGreatDoor
/- THE CELL 'sum', in the pinned program and in every row, IS THE sha256 OF THE DUMP (.gsa) THAT YtifgdpnmgeffbaaGreatDoorProg.lean LOADS. Nothing in Lean hashes anything: it is a label: what it is worth is what the hold of that sum in a sandbox is worth. -/
noncomputable def Tryz.pinned : Pinned := { name := "ytifgdpnmgeffbaagreatdoor", sum := "7a3002bd46f53dd5d3d8d97be18eb400c6f920405d70e765fff49813775a1052", checked := Tryz.checked }
namespace Rows
def none {H : Type} : Left H := { results := [], args := [] }

/- WHAT THE LISTED PACKAGE-LEVEL VARIABLES READ AS WHEN THE CALL BEGINS. Each datum BY PROGRAM (the guide's laid-datum.mjs) off the statement by which the dump's own 'gosem.cut.vars' lays the variable. In a bare row this is a premise. The card (YtifgdpnmgeffbaaGreatDoorCards.lean) ties it to the program's text. -/
def laid_math_bits_deBruijn32tab {H : Type} : DataW H := .agg [.lit (.int .u8 0), .lit (.int .u8 1), .lit (.int .u8 28), .lit (.int .u8 2), .lit (.int .u8 29), .lit (.int .u8 14), .lit (.int .u8 24), .lit (.int .u8 3), .lit (.int .u8 30), .lit (.int .u8 22), .lit (.int .u8 20), .lit (.int .u8 15), .lit (.int .u8 25), .lit (.int .u8 17), .lit (.int .u8 4), .lit (.int .u8 8), .lit (.int .u8 31), .lit (.int .u8 27), .lit (.int .u8 13), .lit (.int .u8 23), .lit (.int .u8 21), .lit (.int .u8 19), .lit (.int .u8 16), .lit (.int .u8 7), .lit (.int .u8 26), .lit (.int .u8 12), .lit (.int .u8 18), .lit (.int .u8 6), .lit (.int .u8 11), .lit (.int .u8 5), .lit (.int .u8 10), .lit (.int .u8 9)]
def laid_math_bits_deBruijn64tab {H : Type} : DataW H := .agg [.lit (.int .u8 0), .lit (.int .u8 1), .lit (.int .u8 56), .lit (.int .u8 2), .lit (.int .u8 57), .lit (.int .u8 49), .lit (.int .u8 28), .lit (.int .u8 3), .lit (.int .u8 61), .lit (.int .u8 58), .lit (.int .u8 42), .lit (.int .u8 50), .lit (.int .u8 38), .lit (.int .u8 29), .lit (.int .u8 17), .lit (.int .u8 4), .lit (.int .u8 62), .lit (.int .u8 47), .lit (.int .u8 59), .lit (.int .u8 36), .lit (.int .u8 45), .lit (.int .u8 43), .lit (.int .u8 51), .lit (.int .u8 22), .lit (.int .u8 53), .lit (.int .u8 39), .lit (.int .u8 33), .lit (.int .u8 30), .lit (.int .u8 24), .lit (.int .u8 18), .lit (.int .u8 12), .lit (.int .u8 5), .lit (.int .u8 63), .lit (.int .u8 55), .lit (.int .u8 48), .lit (.int .u8 27), .lit (.int .u8 60), .lit (.int .u8 41), .lit (.int .u8 37), .lit (.int .u8 16), .lit (.int .u8 46), .lit (.int .u8 35), .lit (.int .u8 44), .lit (.int .u8 21), .lit (.int .u8 52), .lit (.int .u8 32), .lit (.int .u8 23), .lit (.int .u8 11), .lit (.int .u8 54), .lit (.int .u8 26), .lit (.int .u8 40), .lit (.int .u8 15), .lit (.int .u8 34), .lit (.int .u8 20), .lit (.int .u8 31), .lit (.int .u8 10), .lit (.int .u8 25), .lit (.int .u8 14), .lit (.int .u8 19), .lit (.int .u8 9), .lit (.int .u8 13), .lit (.int .u8 8), .lit (.int .u8 7), .lit (.int .u8 6)]
def laid_internal_strconv_uint64pow10 {H : Type} : DataW H := .agg [.lit (.int .u64 1), .lit (.int .u64 10), .lit (.int .u64 100), .lit (.int .u64 1000), .lit (.int .u64 10000), .lit (.int .u64 100000), .lit (.int .u64 1000000), .lit (.int .u64 10000000), .lit (.int .u64 100000000), .lit (.int .u64 1000000000), .lit (.int .u64 10000000000), .lit (.int .u64 100000000000), .lit (.int .u64 1000000000000), .lit (.int .u64 10000000000000), .lit (.int .u64 100000000000000), .lit (.int .u64 1000000000000000), .lit (.int .u64 10000000000000000), .lit (.int .u64 100000000000000000), .lit (.int .u64 1000000000000000000), .lit (.int .u64 10000000000000000000)]
def laid_kilovar_access_parts {H : Type} : DataW H := .iface "func table" (.agg [.agg [.iface "func" (.lit (.string [107, 105, 108, 111, 118, 97, 114, 47, 97, 99, 99, 101, 115, 115, 46, 112, 97, 114, 116, 115, 36, 49]))], .agg [.iface "func" (.lit (.string [107, 105, 108, 111, 118, 97, 114, 47, 97, 99, 99, 101, 115, 115, 46, 112, 97, 114, 116, 115, 36, 50]))], .agg [.iface "func" (.lit (.string [107, 105, 108, 111, 118, 97, 114, 47, 97, 99, 99, 101, 115, 115, 46, 112, 97, 114, 116, 115, 36, 51]))], .agg [.iface "func" (.lit (.string [107, 105, 108, 111, 118, 97, 114, 47, 97, 99, 99, 101, 115, 115, 46, 112, 97, 114, 116, 115, 36, 52]))]])

/-- 'kilovarlaw09.AccessRights': WHATEVER THE INPUT: true; the input reads as it did. -/
def accessRightsSpec : ChangeSpec := { name := "accessRights", fn := fun _ => fun
  | [d1, d2, d3] => { results := [.lit (.bool true)], args := [d1, d2, d3] }
  | _ => none }
def accessRightsRow : OpenClaim := { program := "ytifgdpnmgeffbaagreatdoor", sum := "7a3002bd46f53dd5d3d8d97be18eb400c6f920405d70e765fff49813775a1052", func := "kilovar/kilovarlaw09.AccessRights", spec := "accessRights", inPlace := ["internal/abi.NoEscape", "internal/bytealg.MakeNoZero"], unfollowed := true, recurses := true, named := ["kilovar/access.parts", "internal/strconv.uint64pow10", "math/bits.deBruijn32tab", "math/bits.deBruijn64tab"], apart := false, laid := [("math/bits.deBruijn32tab", laid_math_bits_deBruijn32tab), ("math/bits.deBruijn64tab", laid_math_bits_deBruijn64tab), ("internal/strconv.uint64pow10", laid_internal_strconv_uint64pow10), ("kilovar/access.parts", laid_kilovar_access_parts)] }
def AccessRightsSaid : Prop := accessRightsRow.holds Tryz.pinned (OpenSpec.ofChange accessRightsSpec)

/-- ITS FALSE NEIGHBOUR: 'it returns false'. Refute it at one input. -/
def accessRightsWrong : ChangeSpec := { name := "accessRights", fn := fun _ => fun
  | [d1, d2, d3] => { results := [.lit (.bool false)], args := [d1, d2, d3] }
  | _ => none }
def AccessRightsWrongFalsely : Prop := accessRightsRow.holds Tryz.pinned (OpenSpec.ofChange accessRightsWrong)

/-- 'kilovarlaw09.AccessDays': WHATEVER THE INPUT: true; the input reads as it did. -/
def accessDaysSpec : ChangeSpec := { name := "accessDays", fn := fun _ => fun
  | [d1, d2] => { results := [.lit (.bool true)], args := [d1, d2] }
  | _ => none }
def accessDaysRow : OpenClaim := { program := "ytifgdpnmgeffbaagreatdoor", sum := "7a3002bd46f53dd5d3d8d97be18eb400c6f920405d70e765fff49813775a1052", func := "kilovar/kilovarlaw09.AccessDays", spec := "accessDays", inPlace := ["internal/abi.NoEscape", "internal/bytealg.MakeNoZero"], unfollowed := true, recurses := true, named := ["kilovar/access.parts", "internal/strconv.uint64pow10", "math/bits.deBruijn32tab", "math/bits.deBruijn64tab"], apart := false, laid := [("math/bits.deBruijn32tab", laid_math_bits_deBruijn32tab), ("math/bits.deBruijn64tab", laid_math_bits_deBruijn64tab), ("internal/strconv.uint64pow10", laid_internal_strconv_uint64pow10), ("kilovar/access.parts", laid_kilovar_access_parts)] }
def AccessDaysSaid : Prop := accessDaysRow.holds Tryz.pinned (OpenSpec.ofChange accessDaysSpec)

/-- ITS FALSE NEIGHBOUR: 'it returns false'. Refute it at one input. -/
def accessDaysWrong : ChangeSpec := { name := "accessDays", fn := fun _ => fun
  | [d1, d2] => { results := [.lit (.bool false)], args := [d1, d2] }
  | _ => none }
def AccessDaysWrongFalsely : Prop := accessDaysRow.holds Tryz.pinned (OpenSpec.ofChange accessDaysWrong)

/-- 'kilovarlaw09.AccessSets': WHATEVER THE INPUT: true; the input reads as it did. -/
def accessSetsSpec : ChangeSpec := { name := "accessSets", fn := fun _ => fun
  | [d1, d2, d3] => { results := [.lit (.bool true)], args := [d1, d2, d3] }
  | _ => none }
def accessSetsRow : OpenClaim := { program := "ytifgdpnmgeffbaagreatdoor", sum := "7a3002bd46f53dd5d3d8d97be18eb400c6f920405d70e765fff49813775a1052", func := "kilovar/kilovarlaw09.AccessSets", spec := "accessSets", inPlace := ["internal/abi.NoEscape", "internal/bytealg.MakeNoZero"], unfollowed := true, recurses := true, named := ["kilovar/access.parts", "internal/strconv.uint64pow10", "math/bits.deBruijn32tab", "math/bits.deBruijn64tab"], apart := false, laid := [("math/bits.deBruijn32tab", laid_math_bits_deBruijn32tab), ("math/bits.deBruijn64tab", laid_math_bits_deBruijn64tab), ("internal/strconv.uint64pow10", laid_internal_strconv_uint64pow10), ("kilovar/access.parts", laid_kilovar_access_parts)] }
def AccessSetsSaid : Prop := accessSetsRow.holds Tryz.pinned (OpenSpec.ofChange accessSetsSpec)

/-- ITS FALSE NEIGHBOUR: 'it returns false'. Refute it at one input. -/
def accessSetsWrong : ChangeSpec := { name := "accessSets", fn := fun _ => fun
  | [d1, d2, d3] => { results := [.lit (.bool false)], args := [d1, d2, d3] }
  | _ => none }
def AccessSetsWrongFalsely : Prop := accessSetsRow.holds Tryz.pinned (OpenSpec.ofChange accessSetsWrong)

/-- 'kilovarlaw09.AccessKnown': WHATEVER THE INPUT: true; the input reads as it did. -/
def accessKnownSpec : ChangeSpec := { name := "accessKnown", fn := fun _ => fun
  | [d1, d2, d3] => { results := [.lit (.bool true)], args := [d1, d2, d3] }
  | _ => none }
def accessKnownRow : OpenClaim := { program := "ytifgdpnmgeffbaagreatdoor", sum := "7a3002bd46f53dd5d3d8d97be18eb400c6f920405d70e765fff49813775a1052", func := "kilovar/kilovarlaw09.AccessKnown", spec := "accessKnown", inPlace := ["internal/abi.NoEscape", "internal/bytealg.MakeNoZero"], unfollowed := true, recurses := true, named := ["kilovar/access.parts", "internal/strconv.uint64pow10", "math/bits.deBruijn32tab", "math/bits.deBruijn64tab"], apart := false, laid := [("math/bits.deBruijn32tab", laid_math_bits_deBruijn32tab), ("math/bits.deBruijn64tab", laid_math_bits_deBruijn64tab), ("internal/strconv.uint64pow10", laid_internal_strconv_uint64pow10), ("kilovar/access.parts", laid_kilovar_access_parts)] }
def AccessKnownSaid : Prop := accessKnownRow.holds Tryz.pinned (OpenSpec.ofChange accessKnownSpec)

/-- ITS FALSE NEIGHBOUR: 'it returns false'. Refute it at one input. -/
def accessKnownWrong : ChangeSpec := { name := "accessKnown", fn := fun _ => fun
  | [d1, d2, d3] => { results := [.lit (.bool false)], args := [d1, d2, d3] }
  | _ => none }
def AccessKnownWrongFalsely : Prop := accessKnownRow.holds Tryz.pinned (OpenSpec.ofChange accessKnownWrong)

/-- 'kilovarlaw09.AccessStores': WHATEVER THE INPUT: true; the input reads as it did. -/
def accessStoresSpec : ChangeSpec := { name := "accessStores", fn := fun _ => fun
  | [d1, d2] => { results := [.lit (.bool true)], args := [d1, d2] }
  | _ => none }
def accessStoresRow : OpenClaim := { program := "ytifgdpnmgeffbaagreatdoor", sum := "7a3002bd46f53dd5d3d8d97be18eb400c6f920405d70e765fff49813775a1052", func := "kilovar/kilovarlaw09.AccessStores", spec := "accessStores", inPlace := ["internal/abi.NoEscape", "internal/bytealg.MakeNoZero"], unfollowed := true, recurses := true, named := ["kilovar/access.parts", "internal/strconv.uint64pow10", "math/bits.deBruijn32tab", "math/bits.deBruijn64tab"], apart := false, laid := [("math/bits.deBruijn32tab", laid_math_bits_deBruijn32tab), ("math/bits.deBruijn64tab", laid_math_bits_deBruijn64tab), ("internal/strconv.uint64pow10", laid_internal_strconv_uint64pow10), ("kilovar/access.parts", laid_kilovar_access_parts)] }
def AccessStoresSaid : Prop := accessStoresRow.holds Tryz.pinned (OpenSpec.ofChange accessStoresSpec)

/-- ITS FALSE NEIGHBOUR: 'it returns false'. Refute it at one input. -/
def accessStoresWrong : ChangeSpec := { name := "accessStores", fn := fun _ => fun
  | [d1, d2] => { results := [.lit (.bool false)], args := [d1, d2] }
  | _ => none }
def AccessStoresWrongFalsely : Prop := accessStoresRow.holds Tryz.pinned (OpenSpec.ofChange accessStoresWrong)

/-- 'kilovarlaw09.AccessTurns': WHATEVER THE INPUT: true; the input reads as it did. -/
def accessTurnsSpec : ChangeSpec := { name := "accessTurns", fn := fun _ => fun
  | [d1, d2, d3] => { results := [.lit (.bool true)], args := [d1, d2, d3] }
  | _ => none }
def accessTurnsRow : OpenClaim := { program := "ytifgdpnmgeffbaagreatdoor", sum := "7a3002bd46f53dd5d3d8d97be18eb400c6f920405d70e765fff49813775a1052", func := "kilovar/kilovarlaw09.AccessTurns", spec := "accessTurns", inPlace := ["internal/abi.NoEscape", "internal/bytealg.MakeNoZero"], unfollowed := true, recurses := true, named := ["kilovar/access.parts", "internal/strconv.uint64pow10", "math/bits.deBruijn32tab", "math/bits.deBruijn64tab"], apart := false, laid := [("math/bits.deBruijn32tab", laid_math_bits_deBruijn32tab), ("math/bits.deBruijn64tab", laid_math_bits_deBruijn64tab), ("internal/strconv.uint64pow10", laid_internal_strconv_uint64pow10), ("kilovar/access.parts", laid_kilovar_access_parts)] }
def AccessTurnsSaid : Prop := accessTurnsRow.holds Tryz.pinned (OpenSpec.ofChange accessTurnsSpec)

/-- ITS FALSE NEIGHBOUR: 'it returns false'. Refute it at one input. -/
def accessTurnsWrong : ChangeSpec := { name := "accessTurns", fn := fun _ => fun
  | [d1, d2, d3] => { results := [.lit (.bool false)], args := [d1, d2, d3] }
  | _ => none }
def AccessTurnsWrongFalsely : Prop := accessTurnsRow.holds Tryz.pinned (OpenSpec.ofChange accessTurnsWrong)

/-- 'kilovarlaw09.AccessProves': WHATEVER THE INPUT: true; the input reads as it did. -/
def accessProvesSpec : ChangeSpec := { name := "accessProves", fn := fun _ => fun
  | [d1, d2, d3] => { results := [.lit (.bool true)], args := [d1, d2, d3] }
  | _ => none }
def accessProvesRow : OpenClaim := { program := "ytifgdpnmgeffbaagreatdoor", sum := "7a3002bd46f53dd5d3d8d97be18eb400c6f920405d70e765fff49813775a1052", func := "kilovar/kilovarlaw09.AccessProves", spec := "accessProves", inPlace := ["internal/abi.NoEscape", "internal/bytealg.MakeNoZero"], unfollowed := true, recurses := true, named := ["kilovar/access.parts", "internal/strconv.uint64pow10", "math/bits.deBruijn32tab", "math/bits.deBruijn64tab"], apart := false, laid := [("math/bits.deBruijn32tab", laid_math_bits_deBruijn32tab), ("math/bits.deBruijn64tab", laid_math_bits_deBruijn64tab), ("internal/strconv.uint64pow10", laid_internal_strconv_uint64pow10), ("kilovar/access.parts", laid_kilovar_access_parts)] }
def AccessProvesSaid : Prop := accessProvesRow.holds Tryz.pinned (OpenSpec.ofChange accessProvesSpec)

/-- ITS FALSE NEIGHBOUR: 'it returns false'. Refute it at one input. -/
def accessProvesWrong : ChangeSpec := { name := "accessProves", fn := fun _ => fun
  | [d1, d2, d3] => { results := [.lit (.bool false)], args := [d1, d2, d3] }
  | _ => none }
def AccessProvesWrongFalsely : Prop := accessProvesRow.holds Tryz.pinned (OpenSpec.ofChange accessProvesWrong)

/-- 'kilovarlaw09.AccessHides': WHATEVER THE INPUT: true; the input reads as it did. -/
def accessHidesSpec : ChangeSpec := { name := "accessHides", fn := fun _ => fun
  | [d1, d2, d3] => { results := [.lit (.bool true)], args := [d1, d2, d3] }
  | _ => none }
def accessHidesRow : OpenClaim := { program := "ytifgdpnmgeffbaagreatdoor", sum := "7a3002bd46f53dd5d3d8d97be18eb400c6f920405d70e765fff49813775a1052", func := "kilovar/kilovarlaw09.AccessHides", spec := "accessHides", inPlace := ["internal/abi.NoEscape", "internal/bytealg.MakeNoZero"], unfollowed := true, recurses := true, named := ["kilovar/access.parts", "internal/strconv.uint64pow10", "math/bits.deBruijn32tab", "math/bits.deBruijn64tab"], apart := false, laid := [("math/bits.deBruijn32tab", laid_math_bits_deBruijn32tab), ("math/bits.deBruijn64tab", laid_math_bits_deBruijn64tab), ("internal/strconv.uint64pow10", laid_internal_strconv_uint64pow10), ("kilovar/access.parts", laid_kilovar_access_parts)] }
def AccessHidesSaid : Prop := accessHidesRow.holds Tryz.pinned (OpenSpec.ofChange accessHidesSpec)

/-- ITS FALSE NEIGHBOUR: 'it returns false'. Refute it at one input. -/
def accessHidesWrong : ChangeSpec := { name := "accessHides", fn := fun _ => fun
  | [d1, d2, d3] => { results := [.lit (.bool false)], args := [d1, d2, d3] }
  | _ => none }
def AccessHidesWrongFalsely : Prop := accessHidesRow.holds Tryz.pinned (OpenSpec.ofChange accessHidesWrong)

/- THE SECOND FORM. 'bulk': how many values and letters a reading holds, each counted each time it is reached (what is shared counts as often as it is met; a slice's spare places count too). A statement '..UptoSaid' is the law's where the arguments, and the package variables that the reading takes, are together of bulk at most 1048576: NARROWER than '..Said'. Prove '..Said' where nothing that the law and all that it calls make is longer than what came in: it says more and counts as full. Else prove '..UptoSaid'. A law counts once. -/
mutual
def uptoBulk {H : Type} : DataW H → Nat
  | .lit (.string bytes) => bytes.length + 1
  | .lit _ => 1
  | .nil => 1
  | .ptr d => uptoBulk d + 1
  | .slice elems spare => uptoBulkAll elems + uptoBulkAll spare + 1
  | .agg parts => uptoBulkAll parts + 1
  | .iface _ d => uptoBulk d + 1
  | .map entries => uptoBulkEntries entries + 1
  | .held _ => 1
def uptoBulkAll {H : Type} : List (DataW H) → Nat
  | [] => 0
  | d :: r => uptoBulk d + uptoBulkAll r
def uptoBulkEntries {H : Type} : List (Lit × DataW H) → Nat
  | [] => 0
  | x :: r => uptoBulkEntry x + uptoBulkEntries r
def uptoBulkEntry {H : Type} : Lit × DataW H → Nat
  | (.string bytes, d) => bytes.length + uptoBulk d + 1
  | (_, d) => uptoBulk d + 1
 end
def uptoSmall : (H : Type) → List (DataW H) → Bool := fun _ ds => decide (uptoBulkAll ds ≤ 1048576)
def OpenSpec.upto (s : _root_.Go.ChangeSpec) : _root_.Go.OpenSpec := { _root_.Go.OpenSpec.ofChange s with cond := some uptoSmall }

/-- 'kilovarlaw09.AccessRights', WHERE WHAT IT READS IS OF BULK AT MOST 1048576: true; the input reads as it did. -/
def accessRightsUptoRow : OpenClaim := { program := "ytifgdpnmgeffbaagreatdoor", sum := "7a3002bd46f53dd5d3d8d97be18eb400c6f920405d70e765fff49813775a1052", func := "kilovar/kilovarlaw09.AccessRights", spec := "accessRights", inPlace := ["internal/abi.NoEscape", "internal/bytealg.MakeNoZero"], unfollowed := true, recurses := true, named := ["kilovar/access.parts", "internal/strconv.uint64pow10", "math/bits.deBruijn32tab", "math/bits.deBruijn64tab"], apart := false, laid := [("math/bits.deBruijn32tab", laid_math_bits_deBruijn32tab), ("math/bits.deBruijn64tab", laid_math_bits_deBruijn64tab), ("internal/strconv.uint64pow10", laid_internal_strconv_uint64pow10), ("kilovar/access.parts", laid_kilovar_access_parts)], narrowed := true }
def AccessRightsUptoSaid : Prop := accessRightsUptoRow.holds Tryz.pinned (OpenSpec.upto accessRightsSpec)

/-- 'kilovarlaw09.AccessDays', WHERE WHAT IT READS IS OF BULK AT MOST 1048576: true; the input reads as it did. -/
def accessDaysUptoRow : OpenClaim := { program := "ytifgdpnmgeffbaagreatdoor", sum := "7a3002bd46f53dd5d3d8d97be18eb400c6f920405d70e765fff49813775a1052", func := "kilovar/kilovarlaw09.AccessDays", spec := "accessDays", inPlace := ["internal/abi.NoEscape", "internal/bytealg.MakeNoZero"], unfollowed := true, recurses := true, named := ["kilovar/access.parts", "internal/strconv.uint64pow10", "math/bits.deBruijn32tab", "math/bits.deBruijn64tab"], apart := false, laid := [("math/bits.deBruijn32tab", laid_math_bits_deBruijn32tab), ("math/bits.deBruijn64tab", laid_math_bits_deBruijn64tab), ("internal/strconv.uint64pow10", laid_internal_strconv_uint64pow10), ("kilovar/access.parts", laid_kilovar_access_parts)], narrowed := true }
def AccessDaysUptoSaid : Prop := accessDaysUptoRow.holds Tryz.pinned (OpenSpec.upto accessDaysSpec)

/-- 'kilovarlaw09.AccessSets', WHERE WHAT IT READS IS OF BULK AT MOST 1048576: true; the input reads as it did. -/
def accessSetsUptoRow : OpenClaim := { program := "ytifgdpnmgeffbaagreatdoor", sum := "7a3002bd46f53dd5d3d8d97be18eb400c6f920405d70e765fff49813775a1052", func := "kilovar/kilovarlaw09.AccessSets", spec := "accessSets", inPlace := ["internal/abi.NoEscape", "internal/bytealg.MakeNoZero"], unfollowed := true, recurses := true, named := ["kilovar/access.parts", "internal/strconv.uint64pow10", "math/bits.deBruijn32tab", "math/bits.deBruijn64tab"], apart := false, laid := [("math/bits.deBruijn32tab", laid_math_bits_deBruijn32tab), ("math/bits.deBruijn64tab", laid_math_bits_deBruijn64tab), ("internal/strconv.uint64pow10", laid_internal_strconv_uint64pow10), ("kilovar/access.parts", laid_kilovar_access_parts)], narrowed := true }
def AccessSetsUptoSaid : Prop := accessSetsUptoRow.holds Tryz.pinned (OpenSpec.upto accessSetsSpec)

/-- 'kilovarlaw09.AccessKnown', WHERE WHAT IT READS IS OF BULK AT MOST 1048576: true; the input reads as it did. -/
def accessKnownUptoRow : OpenClaim := { program := "ytifgdpnmgeffbaagreatdoor", sum := "7a3002bd46f53dd5d3d8d97be18eb400c6f920405d70e765fff49813775a1052", func := "kilovar/kilovarlaw09.AccessKnown", spec := "accessKnown", inPlace := ["internal/abi.NoEscape", "internal/bytealg.MakeNoZero"], unfollowed := true, recurses := true, named := ["kilovar/access.parts", "internal/strconv.uint64pow10", "math/bits.deBruijn32tab", "math/bits.deBruijn64tab"], apart := false, laid := [("math/bits.deBruijn32tab", laid_math_bits_deBruijn32tab), ("math/bits.deBruijn64tab", laid_math_bits_deBruijn64tab), ("internal/strconv.uint64pow10", laid_internal_strconv_uint64pow10), ("kilovar/access.parts", laid_kilovar_access_parts)], narrowed := true }
def AccessKnownUptoSaid : Prop := accessKnownUptoRow.holds Tryz.pinned (OpenSpec.upto accessKnownSpec)

/-- 'kilovarlaw09.AccessStores', WHERE WHAT IT READS IS OF BULK AT MOST 1048576: true; the input reads as it did. -/
def accessStoresUptoRow : OpenClaim := { program := "ytifgdpnmgeffbaagreatdoor", sum := "7a3002bd46f53dd5d3d8d97be18eb400c6f920405d70e765fff49813775a1052", func := "kilovar/kilovarlaw09.AccessStores", spec := "accessStores", inPlace := ["internal/abi.NoEscape", "internal/bytealg.MakeNoZero"], unfollowed := true, recurses := true, named := ["kilovar/access.parts", "internal/strconv.uint64pow10", "math/bits.deBruijn32tab", "math/bits.deBruijn64tab"], apart := false, laid := [("math/bits.deBruijn32tab", laid_math_bits_deBruijn32tab), ("math/bits.deBruijn64tab", laid_math_bits_deBruijn64tab), ("internal/strconv.uint64pow10", laid_internal_strconv_uint64pow10), ("kilovar/access.parts", laid_kilovar_access_parts)], narrowed := true }
def AccessStoresUptoSaid : Prop := accessStoresUptoRow.holds Tryz.pinned (OpenSpec.upto accessStoresSpec)

/-- 'kilovarlaw09.AccessTurns', WHERE WHAT IT READS IS OF BULK AT MOST 1048576: true; the input reads as it did. -/
def accessTurnsUptoRow : OpenClaim := { program := "ytifgdpnmgeffbaagreatdoor", sum := "7a3002bd46f53dd5d3d8d97be18eb400c6f920405d70e765fff49813775a1052", func := "kilovar/kilovarlaw09.AccessTurns", spec := "accessTurns", inPlace := ["internal/abi.NoEscape", "internal/bytealg.MakeNoZero"], unfollowed := true, recurses := true, named := ["kilovar/access.parts", "internal/strconv.uint64pow10", "math/bits.deBruijn32tab", "math/bits.deBruijn64tab"], apart := false, laid := [("math/bits.deBruijn32tab", laid_math_bits_deBruijn32tab), ("math/bits.deBruijn64tab", laid_math_bits_deBruijn64tab), ("internal/strconv.uint64pow10", laid_internal_strconv_uint64pow10), ("kilovar/access.parts", laid_kilovar_access_parts)], narrowed := true }
def AccessTurnsUptoSaid : Prop := accessTurnsUptoRow.holds Tryz.pinned (OpenSpec.upto accessTurnsSpec)

/-- 'kilovarlaw09.AccessProves', WHERE WHAT IT READS IS OF BULK AT MOST 1048576: true; the input reads as it did. -/
def accessProvesUptoRow : OpenClaim := { program := "ytifgdpnmgeffbaagreatdoor", sum := "7a3002bd46f53dd5d3d8d97be18eb400c6f920405d70e765fff49813775a1052", func := "kilovar/kilovarlaw09.AccessProves", spec := "accessProves", inPlace := ["internal/abi.NoEscape", "internal/bytealg.MakeNoZero"], unfollowed := true, recurses := true, named := ["kilovar/access.parts", "internal/strconv.uint64pow10", "math/bits.deBruijn32tab", "math/bits.deBruijn64tab"], apart := false, laid := [("math/bits.deBruijn32tab", laid_math_bits_deBruijn32tab), ("math/bits.deBruijn64tab", laid_math_bits_deBruijn64tab), ("internal/strconv.uint64pow10", laid_internal_strconv_uint64pow10), ("kilovar/access.parts", laid_kilovar_access_parts)], narrowed := true }
def AccessProvesUptoSaid : Prop := accessProvesUptoRow.holds Tryz.pinned (OpenSpec.upto accessProvesSpec)

/-- 'kilovarlaw09.AccessHides', WHERE WHAT IT READS IS OF BULK AT MOST 1048576: true; the input reads as it did. -/
def accessHidesUptoRow : OpenClaim := { program := "ytifgdpnmgeffbaagreatdoor", sum := "7a3002bd46f53dd5d3d8d97be18eb400c6f920405d70e765fff49813775a1052", func := "kilovar/kilovarlaw09.AccessHides", spec := "accessHides", inPlace := ["internal/abi.NoEscape", "internal/bytealg.MakeNoZero"], unfollowed := true, recurses := true, named := ["kilovar/access.parts", "internal/strconv.uint64pow10", "math/bits.deBruijn32tab", "math/bits.deBruijn64tab"], apart := false, laid := [("math/bits.deBruijn32tab", laid_math_bits_deBruijn32tab), ("math/bits.deBruijn64tab", laid_math_bits_deBruijn64tab), ("internal/strconv.uint64pow10", laid_internal_strconv_uint64pow10), ("kilovar/access.parts", laid_kilovar_access_parts)], narrowed := true }
def AccessHidesUptoSaid : Prop := accessHidesUptoRow.holds Tryz.pinned (OpenSpec.upto accessHidesSpec)

end Rows
end Go.Proofs.YtifgdpnmgeffbaaGreatDoor
