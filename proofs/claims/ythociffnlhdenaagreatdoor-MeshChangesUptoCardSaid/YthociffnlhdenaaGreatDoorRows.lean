/-
  NARROWER THAN 'FOR EVERY INPUT', by the rows' own cells (each row's printed sentence says how): MeshCosts: laid · MeshStates: laid · MeshFloods: laid · MeshBarriers: laid · MeshRounds: laid · MeshLoops: laid · MeshRoutes: laid · MeshFlooded: laid · MeshCalm: laid · MeshChanges: laid · MeshStrings: laid · MeshBack: laid.
  DERIVED. THE GIVEN ROWS OF THIS SEAT. 12 by the template 'for every input the law returns true; each argument reads behind the call as it read before'; 0 by the template 'total and deterministic' (their statements: YthociffnlhdenaaGreatDoorTotals.lean).
  GIVEN WITH THE SEED: the statements are not yours to turn. If you find one false, say at which input.
  Laid BY PROGRAM, IN A SANDBOX (cutbox-rows.mjs): the forced cells as the released guide's own fill.sh prints them over the translation 827a44bb48ace5a5… (all of the seat's roots in one cut). By AI agents, Wed Nov 11 2026. No macro, syntax, notation, axiom, sorry.
-/
import Derived.Test.YthociffnlhdenaaGreatDoorChecked
import GoSem.PinnedTables
import GoSem.Claim
import GoSem.ClaimJoined
import GoSem.ClaimMapViews
import Derived.JoinedTies
import Derived.KernelRfl
namespace Go.Proofs.YthociffnlhdenaaGreatDoor
/- THE CELL 'sum', in the pinned program and in every row, IS THE sha256 OF THE DUMP (.gsa) THAT YthociffnlhdenaaGreatDoorProg.lean LOADS. Nothing in Lean hashes anything: it is a label: what it is worth is what the hold of that sum in a sandbox is worth. -/
noncomputable def Tryz.pinned : Pinned := { name := "ythociffnlhdenaagreatdoor", sum := "827a44bb48ace5a5c95f7e8af33e89a3c1fd0bf53403716c7bbe0f35d6941e51", checked := Tryz.checked }
namespace Rows
def none {H : Type} : Left H := { results := [], args := [] }

/- WHAT THE LISTED PACKAGE-LEVEL VARIABLES READ AS WHEN THE CALL BEGINS. Each datum BY PROGRAM (the guide's laid-datum.mjs) off the statement by which the dump's own 'gosem.cut.vars' lays the variable. In a bare row this is a premise. The card (YthociffnlhdenaaGreatDoorCards.lean) ties it to the program's text. -/
def laid_math_bits_deBruijn32tab {H : Type} : DataW H := .agg [.lit (.int .u8 0), .lit (.int .u8 1), .lit (.int .u8 28), .lit (.int .u8 2), .lit (.int .u8 29), .lit (.int .u8 14), .lit (.int .u8 24), .lit (.int .u8 3), .lit (.int .u8 30), .lit (.int .u8 22), .lit (.int .u8 20), .lit (.int .u8 15), .lit (.int .u8 25), .lit (.int .u8 17), .lit (.int .u8 4), .lit (.int .u8 8), .lit (.int .u8 31), .lit (.int .u8 27), .lit (.int .u8 13), .lit (.int .u8 23), .lit (.int .u8 21), .lit (.int .u8 19), .lit (.int .u8 16), .lit (.int .u8 7), .lit (.int .u8 26), .lit (.int .u8 12), .lit (.int .u8 18), .lit (.int .u8 6), .lit (.int .u8 11), .lit (.int .u8 5), .lit (.int .u8 10), .lit (.int .u8 9)]
def laid_math_bits_deBruijn64tab {H : Type} : DataW H := .agg [.lit (.int .u8 0), .lit (.int .u8 1), .lit (.int .u8 56), .lit (.int .u8 2), .lit (.int .u8 57), .lit (.int .u8 49), .lit (.int .u8 28), .lit (.int .u8 3), .lit (.int .u8 61), .lit (.int .u8 58), .lit (.int .u8 42), .lit (.int .u8 50), .lit (.int .u8 38), .lit (.int .u8 29), .lit (.int .u8 17), .lit (.int .u8 4), .lit (.int .u8 62), .lit (.int .u8 47), .lit (.int .u8 59), .lit (.int .u8 36), .lit (.int .u8 45), .lit (.int .u8 43), .lit (.int .u8 51), .lit (.int .u8 22), .lit (.int .u8 53), .lit (.int .u8 39), .lit (.int .u8 33), .lit (.int .u8 30), .lit (.int .u8 24), .lit (.int .u8 18), .lit (.int .u8 12), .lit (.int .u8 5), .lit (.int .u8 63), .lit (.int .u8 55), .lit (.int .u8 48), .lit (.int .u8 27), .lit (.int .u8 60), .lit (.int .u8 41), .lit (.int .u8 37), .lit (.int .u8 16), .lit (.int .u8 46), .lit (.int .u8 35), .lit (.int .u8 44), .lit (.int .u8 21), .lit (.int .u8 52), .lit (.int .u8 32), .lit (.int .u8 23), .lit (.int .u8 11), .lit (.int .u8 54), .lit (.int .u8 26), .lit (.int .u8 40), .lit (.int .u8 15), .lit (.int .u8 34), .lit (.int .u8 20), .lit (.int .u8 31), .lit (.int .u8 10), .lit (.int .u8 25), .lit (.int .u8 14), .lit (.int .u8 19), .lit (.int .u8 9), .lit (.int .u8 13), .lit (.int .u8 8), .lit (.int .u8 7), .lit (.int .u8 6)]
def laid_internal_strconv_uint64pow10 {H : Type} : DataW H := .agg [.lit (.int .u64 1), .lit (.int .u64 10), .lit (.int .u64 100), .lit (.int .u64 1000), .lit (.int .u64 10000), .lit (.int .u64 100000), .lit (.int .u64 1000000), .lit (.int .u64 10000000), .lit (.int .u64 100000000), .lit (.int .u64 1000000000), .lit (.int .u64 10000000000), .lit (.int .u64 100000000000), .lit (.int .u64 1000000000000), .lit (.int .u64 10000000000000), .lit (.int .u64 100000000000000), .lit (.int .u64 1000000000000000), .lit (.int .u64 10000000000000000), .lit (.int .u64 100000000000000000), .lit (.int .u64 1000000000000000000), .lit (.int .u64 10000000000000000000)]
def laid_kilovar_mesh_forms {H : Type} : DataW H := .iface "func table" (.agg [.agg [.lit (.string [110, 111, 100, 101]), .iface "func" (.lit (.string [107, 105, 108, 111, 118, 97, 114, 47, 109, 101, 115, 104, 46, 114, 101, 97, 100, 78, 111, 100, 101]))], .agg [.lit (.string [108, 105, 110, 107]), .iface "func" (.lit (.string [107, 105, 108, 111, 118, 97, 114, 47, 109, 101, 115, 104, 46, 114, 101, 97, 100, 76, 105, 110, 107]))]])
def laid_kilovar_mesh_bare {H : Type} : DataW H := .agg [.lit (.int .i64 0), .lit (.int .i64 0), .lit (.int .i64 (-1))]
def laid_unicode_utf8_acceptRanges {H : Type} : DataW H := .agg [.agg [.lit (.int .u8 128), .lit (.int .u8 191)], .agg [.lit (.int .u8 160), .lit (.int .u8 191)], .agg [.lit (.int .u8 128), .lit (.int .u8 159)], .agg [.lit (.int .u8 144), .lit (.int .u8 191)], .agg [.lit (.int .u8 128), .lit (.int .u8 143)], .agg [.lit (.int .u8 0), .lit (.int .u8 0)], .agg [.lit (.int .u8 0), .lit (.int .u8 0)], .agg [.lit (.int .u8 0), .lit (.int .u8 0)], .agg [.lit (.int .u8 0), .lit (.int .u8 0)], .agg [.lit (.int .u8 0), .lit (.int .u8 0)], .agg [.lit (.int .u8 0), .lit (.int .u8 0)], .agg [.lit (.int .u8 0), .lit (.int .u8 0)], .agg [.lit (.int .u8 0), .lit (.int .u8 0)], .agg [.lit (.int .u8 0), .lit (.int .u8 0)], .agg [.lit (.int .u8 0), .lit (.int .u8 0)], .agg [.lit (.int .u8 0), .lit (.int .u8 0)]]
/-- One of Go's own tables, pinned by name: the form's constant. -/
def laid_unicode_utf8_first : DataW Unit := Go.Pinned.utf8First

/-- 'kilovarlaw05.MeshCosts': WHATEVER THE INPUT: true; the input reads as it did. -/
def meshCostsSpec : ChangeSpec := { name := "meshCosts", fn := fun _ => fun
  | [d1, d2, d3] => { results := [.lit (.bool true)], args := [d1, d2, d3] }
  | _ => none }
def meshCostsRow : OpenClaim := { program := "ythociffnlhdenaagreatdoor", sum := "827a44bb48ace5a5c95f7e8af33e89a3c1fd0bf53403716c7bbe0f35d6941e51", func := "kilovar/kilovarlaw05.MeshCosts", spec := "meshCosts", inPlace := ["internal/abi.NoEscape", "internal/bytealg.MakeNoZero"], unfollowed := true, recurses := true, named := ["kilovar/mesh.bare", "kilovar/mesh.forms", "internal/strconv.uint64pow10", "math/bits.deBruijn32tab", "math/bits.deBruijn64tab"], apart := false, laid := [("math/bits.deBruijn32tab", laid_math_bits_deBruijn32tab), ("math/bits.deBruijn64tab", laid_math_bits_deBruijn64tab), ("internal/strconv.uint64pow10", laid_internal_strconv_uint64pow10), ("kilovar/mesh.forms", laid_kilovar_mesh_forms), ("kilovar/mesh.bare", laid_kilovar_mesh_bare)] }
def MeshCostsSaid : Prop := meshCostsRow.holds Tryz.pinned (OpenSpec.ofChange meshCostsSpec)

/-- ITS FALSE NEIGHBOUR: 'it returns false'. Refute it at one input. -/
def meshCostsWrong : ChangeSpec := { name := "meshCosts", fn := fun _ => fun
  | [d1, d2, d3] => { results := [.lit (.bool false)], args := [d1, d2, d3] }
  | _ => none }
def MeshCostsWrongFalsely : Prop := meshCostsRow.holds Tryz.pinned (OpenSpec.ofChange meshCostsWrong)

/-- 'kilovarlaw05.MeshStates': WHATEVER THE INPUT: true; the input reads as it did. -/
def meshStatesSpec : ChangeSpec := { name := "meshStates", fn := fun _ => fun
  | [d1, d2, d3] => { results := [.lit (.bool true)], args := [d1, d2, d3] }
  | _ => none }
def meshStatesRow : OpenClaim := { program := "ythociffnlhdenaagreatdoor", sum := "827a44bb48ace5a5c95f7e8af33e89a3c1fd0bf53403716c7bbe0f35d6941e51", func := "kilovar/kilovarlaw05.MeshStates", spec := "meshStates", inPlace := ["internal/abi.NoEscape", "internal/bytealg.MakeNoZero"], unfollowed := true, recurses := true, named := ["kilovar/mesh.bare", "kilovar/mesh.forms", "internal/strconv.uint64pow10", "math/bits.deBruijn32tab", "math/bits.deBruijn64tab"], apart := false, laid := [("math/bits.deBruijn32tab", laid_math_bits_deBruijn32tab), ("math/bits.deBruijn64tab", laid_math_bits_deBruijn64tab), ("internal/strconv.uint64pow10", laid_internal_strconv_uint64pow10), ("kilovar/mesh.forms", laid_kilovar_mesh_forms), ("kilovar/mesh.bare", laid_kilovar_mesh_bare)] }
def MeshStatesSaid : Prop := meshStatesRow.holds Tryz.pinned (OpenSpec.ofChange meshStatesSpec)

/-- ITS FALSE NEIGHBOUR: 'it returns false'. Refute it at one input. -/
def meshStatesWrong : ChangeSpec := { name := "meshStates", fn := fun _ => fun
  | [d1, d2, d3] => { results := [.lit (.bool false)], args := [d1, d2, d3] }
  | _ => none }
def MeshStatesWrongFalsely : Prop := meshStatesRow.holds Tryz.pinned (OpenSpec.ofChange meshStatesWrong)

/-- 'kilovarlaw05.MeshFloods': WHATEVER THE INPUT: true; the input reads as it did. -/
def meshFloodsSpec : ChangeSpec := { name := "meshFloods", fn := fun _ => fun
  | [d1, d2, d3] => { results := [.lit (.bool true)], args := [d1, d2, d3] }
  | _ => none }
def meshFloodsRow : OpenClaim := { program := "ythociffnlhdenaagreatdoor", sum := "827a44bb48ace5a5c95f7e8af33e89a3c1fd0bf53403716c7bbe0f35d6941e51", func := "kilovar/kilovarlaw05.MeshFloods", spec := "meshFloods", inPlace := ["internal/abi.NoEscape", "internal/bytealg.MakeNoZero"], unfollowed := true, recurses := true, named := ["kilovar/mesh.bare", "kilovar/mesh.forms", "internal/strconv.uint64pow10", "math/bits.deBruijn32tab", "math/bits.deBruijn64tab"], apart := false, laid := [("math/bits.deBruijn32tab", laid_math_bits_deBruijn32tab), ("math/bits.deBruijn64tab", laid_math_bits_deBruijn64tab), ("internal/strconv.uint64pow10", laid_internal_strconv_uint64pow10), ("kilovar/mesh.forms", laid_kilovar_mesh_forms), ("kilovar/mesh.bare", laid_kilovar_mesh_bare)] }
def MeshFloodsSaid : Prop := meshFloodsRow.holds Tryz.pinned (OpenSpec.ofChange meshFloodsSpec)

/-- ITS FALSE NEIGHBOUR: 'it returns false'. Refute it at one input. -/
def meshFloodsWrong : ChangeSpec := { name := "meshFloods", fn := fun _ => fun
  | [d1, d2, d3] => { results := [.lit (.bool false)], args := [d1, d2, d3] }
  | _ => none }
def MeshFloodsWrongFalsely : Prop := meshFloodsRow.holds Tryz.pinned (OpenSpec.ofChange meshFloodsWrong)

/-- 'kilovarlaw05.MeshBarriers': WHATEVER THE INPUT: true; the input reads as it did. -/
def meshBarriersSpec : ChangeSpec := { name := "meshBarriers", fn := fun _ => fun
  | [d1, d2, d3] => { results := [.lit (.bool true)], args := [d1, d2, d3] }
  | _ => none }
def meshBarriersRow : OpenClaim := { program := "ythociffnlhdenaagreatdoor", sum := "827a44bb48ace5a5c95f7e8af33e89a3c1fd0bf53403716c7bbe0f35d6941e51", func := "kilovar/kilovarlaw05.MeshBarriers", spec := "meshBarriers", inPlace := ["internal/abi.NoEscape", "internal/bytealg.MakeNoZero"], unfollowed := true, recurses := true, named := ["kilovar/mesh.bare", "kilovar/mesh.forms", "internal/strconv.uint64pow10", "math/bits.deBruijn32tab", "math/bits.deBruijn64tab"], apart := false, laid := [("math/bits.deBruijn32tab", laid_math_bits_deBruijn32tab), ("math/bits.deBruijn64tab", laid_math_bits_deBruijn64tab), ("internal/strconv.uint64pow10", laid_internal_strconv_uint64pow10), ("kilovar/mesh.forms", laid_kilovar_mesh_forms), ("kilovar/mesh.bare", laid_kilovar_mesh_bare)] }
def MeshBarriersSaid : Prop := meshBarriersRow.holds Tryz.pinned (OpenSpec.ofChange meshBarriersSpec)

/-- ITS FALSE NEIGHBOUR: 'it returns false'. Refute it at one input. -/
def meshBarriersWrong : ChangeSpec := { name := "meshBarriers", fn := fun _ => fun
  | [d1, d2, d3] => { results := [.lit (.bool false)], args := [d1, d2, d3] }
  | _ => none }
def MeshBarriersWrongFalsely : Prop := meshBarriersRow.holds Tryz.pinned (OpenSpec.ofChange meshBarriersWrong)

/-- 'kilovarlaw05.MeshRounds': WHATEVER THE INPUT: true; the input reads as it did. -/
def meshRoundsSpec : ChangeSpec := { name := "meshRounds", fn := fun _ => fun
  | [d1, d2, d3] => { results := [.lit (.bool true)], args := [d1, d2, d3] }
  | _ => none }
def meshRoundsRow : OpenClaim := { program := "ythociffnlhdenaagreatdoor", sum := "827a44bb48ace5a5c95f7e8af33e89a3c1fd0bf53403716c7bbe0f35d6941e51", func := "kilovar/kilovarlaw05.MeshRounds", spec := "meshRounds", inPlace := ["internal/abi.NoEscape", "internal/bytealg.MakeNoZero"], unfollowed := true, recurses := true, named := ["kilovar/mesh.bare", "kilovar/mesh.forms", "internal/strconv.uint64pow10", "math/bits.deBruijn32tab", "math/bits.deBruijn64tab"], apart := false, laid := [("math/bits.deBruijn32tab", laid_math_bits_deBruijn32tab), ("math/bits.deBruijn64tab", laid_math_bits_deBruijn64tab), ("internal/strconv.uint64pow10", laid_internal_strconv_uint64pow10), ("kilovar/mesh.forms", laid_kilovar_mesh_forms), ("kilovar/mesh.bare", laid_kilovar_mesh_bare)] }
def MeshRoundsSaid : Prop := meshRoundsRow.holds Tryz.pinned (OpenSpec.ofChange meshRoundsSpec)

/-- ITS FALSE NEIGHBOUR: 'it returns false'. Refute it at one input. -/
def meshRoundsWrong : ChangeSpec := { name := "meshRounds", fn := fun _ => fun
  | [d1, d2, d3] => { results := [.lit (.bool false)], args := [d1, d2, d3] }
  | _ => none }
def MeshRoundsWrongFalsely : Prop := meshRoundsRow.holds Tryz.pinned (OpenSpec.ofChange meshRoundsWrong)

/-- 'kilovarlaw05.MeshLoops': WHATEVER THE INPUT: true; the input reads as it did. -/
def meshLoopsSpec : ChangeSpec := { name := "meshLoops", fn := fun _ => fun
  | [d1, d2, d3] => { results := [.lit (.bool true)], args := [d1, d2, d3] }
  | _ => none }
def meshLoopsRow : OpenClaim := { program := "ythociffnlhdenaagreatdoor", sum := "827a44bb48ace5a5c95f7e8af33e89a3c1fd0bf53403716c7bbe0f35d6941e51", func := "kilovar/kilovarlaw05.MeshLoops", spec := "meshLoops", inPlace := ["internal/abi.NoEscape", "internal/bytealg.MakeNoZero"], unfollowed := true, recurses := true, named := ["kilovar/mesh.bare", "kilovar/mesh.forms", "internal/strconv.uint64pow10", "math/bits.deBruijn32tab", "math/bits.deBruijn64tab"], apart := false, laid := [("math/bits.deBruijn32tab", laid_math_bits_deBruijn32tab), ("math/bits.deBruijn64tab", laid_math_bits_deBruijn64tab), ("internal/strconv.uint64pow10", laid_internal_strconv_uint64pow10), ("kilovar/mesh.forms", laid_kilovar_mesh_forms), ("kilovar/mesh.bare", laid_kilovar_mesh_bare)] }
def MeshLoopsSaid : Prop := meshLoopsRow.holds Tryz.pinned (OpenSpec.ofChange meshLoopsSpec)

/-- ITS FALSE NEIGHBOUR: 'it returns false'. Refute it at one input. -/
def meshLoopsWrong : ChangeSpec := { name := "meshLoops", fn := fun _ => fun
  | [d1, d2, d3] => { results := [.lit (.bool false)], args := [d1, d2, d3] }
  | _ => none }
def MeshLoopsWrongFalsely : Prop := meshLoopsRow.holds Tryz.pinned (OpenSpec.ofChange meshLoopsWrong)

/-- 'kilovarlaw05.MeshRoutes': WHATEVER THE INPUT: true; the input reads as it did. -/
def meshRoutesSpec : ChangeSpec := { name := "meshRoutes", fn := fun _ => fun
  | [d1, d2, d3] => { results := [.lit (.bool true)], args := [d1, d2, d3] }
  | _ => none }
def meshRoutesRow : OpenClaim := { program := "ythociffnlhdenaagreatdoor", sum := "827a44bb48ace5a5c95f7e8af33e89a3c1fd0bf53403716c7bbe0f35d6941e51", func := "kilovar/kilovarlaw05.MeshRoutes", spec := "meshRoutes", inPlace := ["internal/abi.NoEscape", "internal/bytealg.MakeNoZero"], unfollowed := true, recurses := true, named := ["kilovar/mesh.bare", "kilovar/mesh.forms", "internal/strconv.uint64pow10", "math/bits.deBruijn32tab", "math/bits.deBruijn64tab"], apart := false, laid := [("math/bits.deBruijn32tab", laid_math_bits_deBruijn32tab), ("math/bits.deBruijn64tab", laid_math_bits_deBruijn64tab), ("internal/strconv.uint64pow10", laid_internal_strconv_uint64pow10), ("kilovar/mesh.forms", laid_kilovar_mesh_forms), ("kilovar/mesh.bare", laid_kilovar_mesh_bare)] }
def MeshRoutesSaid : Prop := meshRoutesRow.holds Tryz.pinned (OpenSpec.ofChange meshRoutesSpec)

/-- ITS FALSE NEIGHBOUR: 'it returns false'. Refute it at one input. -/
def meshRoutesWrong : ChangeSpec := { name := "meshRoutes", fn := fun _ => fun
  | [d1, d2, d3] => { results := [.lit (.bool false)], args := [d1, d2, d3] }
  | _ => none }
def MeshRoutesWrongFalsely : Prop := meshRoutesRow.holds Tryz.pinned (OpenSpec.ofChange meshRoutesWrong)

/-- 'kilovarlaw05.MeshFlooded': WHATEVER THE INPUT: true; the input reads as it did. -/
def meshFloodedSpec : ChangeSpec := { name := "meshFlooded", fn := fun _ => fun
  | [d1, d2, d3] => { results := [.lit (.bool true)], args := [d1, d2, d3] }
  | _ => none }
def meshFloodedRow : OpenClaim := { program := "ythociffnlhdenaagreatdoor", sum := "827a44bb48ace5a5c95f7e8af33e89a3c1fd0bf53403716c7bbe0f35d6941e51", func := "kilovar/kilovarlaw05.MeshFlooded", spec := "meshFlooded", inPlace := ["internal/abi.NoEscape", "internal/bytealg.MakeNoZero"], unfollowed := true, recurses := true, named := ["kilovar/mesh.bare", "kilovar/mesh.forms", "internal/strconv.uint64pow10", "math/bits.deBruijn32tab", "math/bits.deBruijn64tab"], apart := false, laid := [("math/bits.deBruijn32tab", laid_math_bits_deBruijn32tab), ("math/bits.deBruijn64tab", laid_math_bits_deBruijn64tab), ("internal/strconv.uint64pow10", laid_internal_strconv_uint64pow10), ("kilovar/mesh.forms", laid_kilovar_mesh_forms), ("kilovar/mesh.bare", laid_kilovar_mesh_bare)] }
def MeshFloodedSaid : Prop := meshFloodedRow.holds Tryz.pinned (OpenSpec.ofChange meshFloodedSpec)

/-- ITS FALSE NEIGHBOUR: 'it returns false'. Refute it at one input. -/
def meshFloodedWrong : ChangeSpec := { name := "meshFlooded", fn := fun _ => fun
  | [d1, d2, d3] => { results := [.lit (.bool false)], args := [d1, d2, d3] }
  | _ => none }
def MeshFloodedWrongFalsely : Prop := meshFloodedRow.holds Tryz.pinned (OpenSpec.ofChange meshFloodedWrong)

/-- 'kilovarlaw05.MeshCalm': WHATEVER THE INPUT: true; the input reads as it did. -/
def meshCalmSpec : ChangeSpec := { name := "meshCalm", fn := fun _ => fun
  | [d1, d2, d3] => { results := [.lit (.bool true)], args := [d1, d2, d3] }
  | _ => none }
def meshCalmRow : OpenClaim := { program := "ythociffnlhdenaagreatdoor", sum := "827a44bb48ace5a5c95f7e8af33e89a3c1fd0bf53403716c7bbe0f35d6941e51", func := "kilovar/kilovarlaw05.MeshCalm", spec := "meshCalm", inPlace := ["internal/abi.NoEscape", "internal/bytealg.MakeNoZero"], unfollowed := true, recurses := true, named := ["kilovar/mesh.bare", "kilovar/mesh.forms", "internal/strconv.uint64pow10", "math/bits.deBruijn32tab", "math/bits.deBruijn64tab"], apart := false, laid := [("math/bits.deBruijn32tab", laid_math_bits_deBruijn32tab), ("math/bits.deBruijn64tab", laid_math_bits_deBruijn64tab), ("internal/strconv.uint64pow10", laid_internal_strconv_uint64pow10), ("kilovar/mesh.forms", laid_kilovar_mesh_forms), ("kilovar/mesh.bare", laid_kilovar_mesh_bare)] }
def MeshCalmSaid : Prop := meshCalmRow.holds Tryz.pinned (OpenSpec.ofChange meshCalmSpec)

/-- ITS FALSE NEIGHBOUR: 'it returns false'. Refute it at one input. -/
def meshCalmWrong : ChangeSpec := { name := "meshCalm", fn := fun _ => fun
  | [d1, d2, d3] => { results := [.lit (.bool false)], args := [d1, d2, d3] }
  | _ => none }
def MeshCalmWrongFalsely : Prop := meshCalmRow.holds Tryz.pinned (OpenSpec.ofChange meshCalmWrong)

/-- 'kilovarlaw05.MeshChanges': WHATEVER THE INPUT: true; the input reads as it did. -/
def meshChangesSpec : ChangeSpec := { name := "meshChanges", fn := fun _ => fun
  | [d1, d2, d3] => { results := [.lit (.bool true)], args := [d1, d2, d3] }
  | _ => none }
def meshChangesRow : OpenClaim := { program := "ythociffnlhdenaagreatdoor", sum := "827a44bb48ace5a5c95f7e8af33e89a3c1fd0bf53403716c7bbe0f35d6941e51", func := "kilovar/kilovarlaw05.MeshChanges", spec := "meshChanges", inPlace := ["internal/abi.NoEscape", "internal/bytealg.MakeNoZero"], unfollowed := true, recurses := true, named := ["kilovar/mesh.bare", "kilovar/mesh.forms", "internal/strconv.uint64pow10", "math/bits.deBruijn32tab", "math/bits.deBruijn64tab"], apart := false, laid := [("math/bits.deBruijn32tab", laid_math_bits_deBruijn32tab), ("math/bits.deBruijn64tab", laid_math_bits_deBruijn64tab), ("internal/strconv.uint64pow10", laid_internal_strconv_uint64pow10), ("kilovar/mesh.forms", laid_kilovar_mesh_forms), ("kilovar/mesh.bare", laid_kilovar_mesh_bare)] }
def MeshChangesSaid : Prop := meshChangesRow.holds Tryz.pinned (OpenSpec.ofChange meshChangesSpec)

/-- ITS FALSE NEIGHBOUR: 'it returns false'. Refute it at one input. -/
def meshChangesWrong : ChangeSpec := { name := "meshChanges", fn := fun _ => fun
  | [d1, d2, d3] => { results := [.lit (.bool false)], args := [d1, d2, d3] }
  | _ => none }
def MeshChangesWrongFalsely : Prop := meshChangesRow.holds Tryz.pinned (OpenSpec.ofChange meshChangesWrong)

/-- 'kilovarlaw05.MeshStrings': WHATEVER THE INPUT: true; the input reads as it did. -/
def meshStringsSpec : ChangeSpec := { name := "meshStrings", fn := fun _ => fun
  | [d1, d2] => { results := [.lit (.bool true)], args := [d1, d2] }
  | _ => none }
def meshStringsRow : OpenClaim := { program := "ythociffnlhdenaagreatdoor", sum := "827a44bb48ace5a5c95f7e8af33e89a3c1fd0bf53403716c7bbe0f35d6941e51", func := "kilovar/kilovarlaw05.MeshStrings", spec := "meshStrings", inPlace := ["internal/abi.NoEscape", "internal/bytealg.MakeNoZero", "internal/bytealg.IndexByteString", "internal/bytealg.CountString", "internal/bytealg.IndexString"], unfollowed := true, recurses := true, named := ["kilovar/mesh.bare", "kilovar/mesh.forms", "internal/strconv.uint64pow10", "math/bits.deBruijn32tab", "math/bits.deBruijn64tab", "unicode/utf8.first", "unicode/utf8.acceptRanges", "internal/bytealg.MaxLen"], apart := false, laid := [("math/bits.deBruijn32tab", laid_math_bits_deBruijn32tab), ("math/bits.deBruijn64tab", laid_math_bits_deBruijn64tab), ("internal/strconv.uint64pow10", laid_internal_strconv_uint64pow10), ("unicode/utf8.acceptRanges", laid_unicode_utf8_acceptRanges), ("kilovar/mesh.forms", laid_kilovar_mesh_forms), ("kilovar/mesh.bare", laid_kilovar_mesh_bare), ("unicode/utf8.first", laid_unicode_utf8_first)] }
def MeshStringsSaid : Prop := meshStringsRow.holds Tryz.pinned (OpenSpec.ofChange meshStringsSpec)

/-- ITS FALSE NEIGHBOUR: 'it returns false'. Refute it at one input. -/
def meshStringsWrong : ChangeSpec := { name := "meshStrings", fn := fun _ => fun
  | [d1, d2] => { results := [.lit (.bool false)], args := [d1, d2] }
  | _ => none }
def MeshStringsWrongFalsely : Prop := meshStringsRow.holds Tryz.pinned (OpenSpec.ofChange meshStringsWrong)

/-- 'kilovarlaw05.MeshBack': WHATEVER THE INPUT: true; the input reads as it did. -/
def meshBackSpec : ChangeSpec := { name := "meshBack", fn := fun _ => fun
  | [d1, d2, d3] => { results := [.lit (.bool true)], args := [d1, d2, d3] }
  | _ => none }
def meshBackRow : OpenClaim := { program := "ythociffnlhdenaagreatdoor", sum := "827a44bb48ace5a5c95f7e8af33e89a3c1fd0bf53403716c7bbe0f35d6941e51", func := "kilovar/kilovarlaw05.MeshBack", spec := "meshBack", inPlace := ["internal/abi.NoEscape", "internal/bytealg.MakeNoZero", "internal/bytealg.IndexByteString", "internal/bytealg.CountString", "internal/bytealg.IndexString"], unfollowed := true, recurses := true, named := ["kilovar/mesh.bare", "kilovar/mesh.forms", "internal/strconv.uint64pow10", "math/bits.deBruijn32tab", "math/bits.deBruijn64tab", "unicode/utf8.first", "unicode/utf8.acceptRanges", "internal/bytealg.MaxLen"], apart := false, laid := [("math/bits.deBruijn32tab", laid_math_bits_deBruijn32tab), ("math/bits.deBruijn64tab", laid_math_bits_deBruijn64tab), ("internal/strconv.uint64pow10", laid_internal_strconv_uint64pow10), ("unicode/utf8.acceptRanges", laid_unicode_utf8_acceptRanges), ("kilovar/mesh.forms", laid_kilovar_mesh_forms), ("kilovar/mesh.bare", laid_kilovar_mesh_bare), ("unicode/utf8.first", laid_unicode_utf8_first)] }
def MeshBackSaid : Prop := meshBackRow.holds Tryz.pinned (OpenSpec.ofChange meshBackSpec)

/-- ITS FALSE NEIGHBOUR: 'it returns false'. Refute it at one input. -/
def meshBackWrong : ChangeSpec := { name := "meshBack", fn := fun _ => fun
  | [d1, d2, d3] => { results := [.lit (.bool false)], args := [d1, d2, d3] }
  | _ => none }
def MeshBackWrongFalsely : Prop := meshBackRow.holds Tryz.pinned (OpenSpec.ofChange meshBackWrong)

/- THE SECOND FORM. 'bulk': how many values and letters a reading holds, each counted each time it is reached (what is shared counts as often as it is met; a slice's spare places count too). A statement '..UptoSaid' is the law's where the arguments, and the package variables that the reading takes, are together of bulk at most 1048576: NARROWER than '..Said'. Prove '..Said' where nothing that the law and all that it calls make is longer than what came in: it says more and counts as full. Else prove '..UptoSaid'. A law counts once. -/
mutual
def uptoBulk {H : Type} : DataW H → Nat
  | .lit (.string bytes) => bytes.length + 1
  | .lit _ => 1
  | .nil => 1
  | .ptr d => uptoBulk d + 1
  | .slice elems spare => uptoBulkAll elems + uptoBulkAll spare + 1
  | .agg parts => uptoBulkAll parts + 1
  | .iface _ d => uptoBulk d + 1
  | .map entries => uptoBulkEntries entries + 1
  | .held _ => 1
def uptoBulkAll {H : Type} : List (DataW H) → Nat
  | [] => 0
  | d :: r => uptoBulk d + uptoBulkAll r
def uptoBulkEntries {H : Type} : List (Lit × DataW H) → Nat
  | [] => 0
  | x :: r => uptoBulkEntry x + uptoBulkEntries r
def uptoBulkEntry {H : Type} : Lit × DataW H → Nat
  | (.string bytes, d) => bytes.length + uptoBulk d + 1
  | (_, d) => uptoBulk d + 1
 end
def uptoSmall : (H : Type) → List (DataW H) → Bool := fun _ ds => decide (uptoBulkAll ds ≤ 1048576)
def OpenSpec.upto (s : _root_.Go.ChangeSpec) : _root_.Go.OpenSpec := { _root_.Go.OpenSpec.ofChange s with cond := some uptoSmall }

/-- 'kilovarlaw05.MeshCosts', WHERE WHAT IT READS IS OF BULK AT MOST 1048576: true; the input reads as it did. -/
def meshCostsUptoRow : OpenClaim := { program := "ythociffnlhdenaagreatdoor", sum := "827a44bb48ace5a5c95f7e8af33e89a3c1fd0bf53403716c7bbe0f35d6941e51", func := "kilovar/kilovarlaw05.MeshCosts", spec := "meshCosts", inPlace := ["internal/abi.NoEscape", "internal/bytealg.MakeNoZero"], unfollowed := true, recurses := true, named := ["kilovar/mesh.bare", "kilovar/mesh.forms", "internal/strconv.uint64pow10", "math/bits.deBruijn32tab", "math/bits.deBruijn64tab"], apart := false, laid := [("math/bits.deBruijn32tab", laid_math_bits_deBruijn32tab), ("math/bits.deBruijn64tab", laid_math_bits_deBruijn64tab), ("internal/strconv.uint64pow10", laid_internal_strconv_uint64pow10), ("kilovar/mesh.forms", laid_kilovar_mesh_forms), ("kilovar/mesh.bare", laid_kilovar_mesh_bare)], narrowed := true }
def MeshCostsUptoSaid : Prop := meshCostsUptoRow.holds Tryz.pinned (OpenSpec.upto meshCostsSpec)

/-- 'kilovarlaw05.MeshStates', WHERE WHAT IT READS IS OF BULK AT MOST 1048576: true; the input reads as it did. -/
def meshStatesUptoRow : OpenClaim := { program := "ythociffnlhdenaagreatdoor", sum := "827a44bb48ace5a5c95f7e8af33e89a3c1fd0bf53403716c7bbe0f35d6941e51", func := "kilovar/kilovarlaw05.MeshStates", spec := "meshStates", inPlace := ["internal/abi.NoEscape", "internal/bytealg.MakeNoZero"], unfollowed := true, recurses := true, named := ["kilovar/mesh.bare", "kilovar/mesh.forms", "internal/strconv.uint64pow10", "math/bits.deBruijn32tab", "math/bits.deBruijn64tab"], apart := false, laid := [("math/bits.deBruijn32tab", laid_math_bits_deBruijn32tab), ("math/bits.deBruijn64tab", laid_math_bits_deBruijn64tab), ("internal/strconv.uint64pow10", laid_internal_strconv_uint64pow10), ("kilovar/mesh.forms", laid_kilovar_mesh_forms), ("kilovar/mesh.bare", laid_kilovar_mesh_bare)], narrowed := true }
def MeshStatesUptoSaid : Prop := meshStatesUptoRow.holds Tryz.pinned (OpenSpec.upto meshStatesSpec)

/-- 'kilovarlaw05.MeshFloods', WHERE WHAT IT READS IS OF BULK AT MOST 1048576: true; the input reads as it did. -/
def meshFloodsUptoRow : OpenClaim := { program := "ythociffnlhdenaagreatdoor", sum := "827a44bb48ace5a5c95f7e8af33e89a3c1fd0bf53403716c7bbe0f35d6941e51", func := "kilovar/kilovarlaw05.MeshFloods", spec := "meshFloods", inPlace := ["internal/abi.NoEscape", "internal/bytealg.MakeNoZero"], unfollowed := true, recurses := true, named := ["kilovar/mesh.bare", "kilovar/mesh.forms", "internal/strconv.uint64pow10", "math/bits.deBruijn32tab", "math/bits.deBruijn64tab"], apart := false, laid := [("math/bits.deBruijn32tab", laid_math_bits_deBruijn32tab), ("math/bits.deBruijn64tab", laid_math_bits_deBruijn64tab), ("internal/strconv.uint64pow10", laid_internal_strconv_uint64pow10), ("kilovar/mesh.forms", laid_kilovar_mesh_forms), ("kilovar/mesh.bare", laid_kilovar_mesh_bare)], narrowed := true }
def MeshFloodsUptoSaid : Prop := meshFloodsUptoRow.holds Tryz.pinned (OpenSpec.upto meshFloodsSpec)

/-- 'kilovarlaw05.MeshBarriers', WHERE WHAT IT READS IS OF BULK AT MOST 1048576: true; the input reads as it did. -/
def meshBarriersUptoRow : OpenClaim := { program := "ythociffnlhdenaagreatdoor", sum := "827a44bb48ace5a5c95f7e8af33e89a3c1fd0bf53403716c7bbe0f35d6941e51", func := "kilovar/kilovarlaw05.MeshBarriers", spec := "meshBarriers", inPlace := ["internal/abi.NoEscape", "internal/bytealg.MakeNoZero"], unfollowed := true, recurses := true, named := ["kilovar/mesh.bare", "kilovar/mesh.forms", "internal/strconv.uint64pow10", "math/bits.deBruijn32tab", "math/bits.deBruijn64tab"], apart := false, laid := [("math/bits.deBruijn32tab", laid_math_bits_deBruijn32tab), ("math/bits.deBruijn64tab", laid_math_bits_deBruijn64tab), ("internal/strconv.uint64pow10", laid_internal_strconv_uint64pow10), ("kilovar/mesh.forms", laid_kilovar_mesh_forms), ("kilovar/mesh.bare", laid_kilovar_mesh_bare)], narrowed := true }
def MeshBarriersUptoSaid : Prop := meshBarriersUptoRow.holds Tryz.pinned (OpenSpec.upto meshBarriersSpec)

/-- 'kilovarlaw05.MeshRounds', WHERE WHAT IT READS IS OF BULK AT MOST 1048576: true; the input reads as it did. -/
def meshRoundsUptoRow : OpenClaim := { program := "ythociffnlhdenaagreatdoor", sum := "827a44bb48ace5a5c95f7e8af33e89a3c1fd0bf53403716c7bbe0f35d6941e51", func := "kilovar/kilovarlaw05.MeshRounds", spec := "meshRounds", inPlace := ["internal/abi.NoEscape", "internal/bytealg.MakeNoZero"], unfollowed := true, recurses := true, named := ["kilovar/mesh.bare", "kilovar/mesh.forms", "internal/strconv.uint64pow10", "math/bits.deBruijn32tab", "math/bits.deBruijn64tab"], apart := false, laid := [("math/bits.deBruijn32tab", laid_math_bits_deBruijn32tab), ("math/bits.deBruijn64tab", laid_math_bits_deBruijn64tab), ("internal/strconv.uint64pow10", laid_internal_strconv_uint64pow10), ("kilovar/mesh.forms", laid_kilovar_mesh_forms), ("kilovar/mesh.bare", laid_kilovar_mesh_bare)], narrowed := true }
def MeshRoundsUptoSaid : Prop := meshRoundsUptoRow.holds Tryz.pinned (OpenSpec.upto meshRoundsSpec)

/-- 'kilovarlaw05.MeshLoops', WHERE WHAT IT READS IS OF BULK AT MOST 1048576: true; the input reads as it did. -/
def meshLoopsUptoRow : OpenClaim := { program := "ythociffnlhdenaagreatdoor", sum := "827a44bb48ace5a5c95f7e8af33e89a3c1fd0bf53403716c7bbe0f35d6941e51", func := "kilovar/kilovarlaw05.MeshLoops", spec := "meshLoops", inPlace := ["internal/abi.NoEscape", "internal/bytealg.MakeNoZero"], unfollowed := true, recurses := true, named := ["kilovar/mesh.bare", "kilovar/mesh.forms", "internal/strconv.uint64pow10", "math/bits.deBruijn32tab", "math/bits.deBruijn64tab"], apart := false, laid := [("math/bits.deBruijn32tab", laid_math_bits_deBruijn32tab), ("math/bits.deBruijn64tab", laid_math_bits_deBruijn64tab), ("internal/strconv.uint64pow10", laid_internal_strconv_uint64pow10), ("kilovar/mesh.forms", laid_kilovar_mesh_forms), ("kilovar/mesh.bare", laid_kilovar_mesh_bare)], narrowed := true }
def MeshLoopsUptoSaid : Prop := meshLoopsUptoRow.holds Tryz.pinned (OpenSpec.upto meshLoopsSpec)

/-- 'kilovarlaw05.MeshRoutes', WHERE WHAT IT READS IS OF BULK AT MOST 1048576: true; the input reads as it did. -/
def meshRoutesUptoRow : OpenClaim := { program := "ythociffnlhdenaagreatdoor", sum := "827a44bb48ace5a5c95f7e8af33e89a3c1fd0bf53403716c7bbe0f35d6941e51", func := "kilovar/kilovarlaw05.MeshRoutes", spec := "meshRoutes", inPlace := ["internal/abi.NoEscape", "internal/bytealg.MakeNoZero"], unfollowed := true, recurses := true, named := ["kilovar/mesh.bare", "kilovar/mesh.forms", "internal/strconv.uint64pow10", "math/bits.deBruijn32tab", "math/bits.deBruijn64tab"], apart := false, laid := [("math/bits.deBruijn32tab", laid_math_bits_deBruijn32tab), ("math/bits.deBruijn64tab", laid_math_bits_deBruijn64tab), ("internal/strconv.uint64pow10", laid_internal_strconv_uint64pow10), ("kilovar/mesh.forms", laid_kilovar_mesh_forms), ("kilovar/mesh.bare", laid_kilovar_mesh_bare)], narrowed := true }
def MeshRoutesUptoSaid : Prop := meshRoutesUptoRow.holds Tryz.pinned (OpenSpec.upto meshRoutesSpec)

/-- 'kilovarlaw05.MeshFlooded', WHERE WHAT IT READS IS OF BULK AT MOST 1048576: true; the input reads as it did. -/
def meshFloodedUptoRow : OpenClaim := { program := "ythociffnlhdenaagreatdoor", sum := "827a44bb48ace5a5c95f7e8af33e89a3c1fd0bf53403716c7bbe0f35d6941e51", func := "kilovar/kilovarlaw05.MeshFlooded", spec := "meshFlooded", inPlace := ["internal/abi.NoEscape", "internal/bytealg.MakeNoZero"], unfollowed := true, recurses := true, named := ["kilovar/mesh.bare", "kilovar/mesh.forms", "internal/strconv.uint64pow10", "math/bits.deBruijn32tab", "math/bits.deBruijn64tab"], apart := false, laid := [("math/bits.deBruijn32tab", laid_math_bits_deBruijn32tab), ("math/bits.deBruijn64tab", laid_math_bits_deBruijn64tab), ("internal/strconv.uint64pow10", laid_internal_strconv_uint64pow10), ("kilovar/mesh.forms", laid_kilovar_mesh_forms), ("kilovar/mesh.bare", laid_kilovar_mesh_bare)], narrowed := true }
def MeshFloodedUptoSaid : Prop := meshFloodedUptoRow.holds Tryz.pinned (OpenSpec.upto meshFloodedSpec)

/-- 'kilovarlaw05.MeshCalm', WHERE WHAT IT READS IS OF BULK AT MOST 1048576: true; the input reads as it did. -/
def meshCalmUptoRow : OpenClaim := { program := "ythociffnlhdenaagreatdoor", sum := "827a44bb48ace5a5c95f7e8af33e89a3c1fd0bf53403716c7bbe0f35d6941e51", func := "kilovar/kilovarlaw05.MeshCalm", spec := "meshCalm", inPlace := ["internal/abi.NoEscape", "internal/bytealg.MakeNoZero"], unfollowed := true, recurses := true, named := ["kilovar/mesh.bare", "kilovar/mesh.forms", "internal/strconv.uint64pow10", "math/bits.deBruijn32tab", "math/bits.deBruijn64tab"], apart := false, laid := [("math/bits.deBruijn32tab", laid_math_bits_deBruijn32tab), ("math/bits.deBruijn64tab", laid_math_bits_deBruijn64tab), ("internal/strconv.uint64pow10", laid_internal_strconv_uint64pow10), ("kilovar/mesh.forms", laid_kilovar_mesh_forms), ("kilovar/mesh.bare", laid_kilovar_mesh_bare)], narrowed := true }
def MeshCalmUptoSaid : Prop := meshCalmUptoRow.holds Tryz.pinned (OpenSpec.upto meshCalmSpec)

/-- 'kilovarlaw05.MeshChanges', WHERE WHAT IT READS IS OF BULK AT MOST 1048576: true; the input reads as it did. -/
def meshChangesUptoRow : OpenClaim := { program := "ythociffnlhdenaagreatdoor", sum := "827a44bb48ace5a5c95f7e8af33e89a3c1fd0bf53403716c7bbe0f35d6941e51", func := "kilovar/kilovarlaw05.MeshChanges", spec := "meshChanges", inPlace := ["internal/abi.NoEscape", "internal/bytealg.MakeNoZero"], unfollowed := true, recurses := true, named := ["kilovar/mesh.bare", "kilovar/mesh.forms", "internal/strconv.uint64pow10", "math/bits.deBruijn32tab", "math/bits.deBruijn64tab"], apart := false, laid := [("math/bits.deBruijn32tab", laid_math_bits_deBruijn32tab), ("math/bits.deBruijn64tab", laid_math_bits_deBruijn64tab), ("internal/strconv.uint64pow10", laid_internal_strconv_uint64pow10), ("kilovar/mesh.forms", laid_kilovar_mesh_forms), ("kilovar/mesh.bare", laid_kilovar_mesh_bare)], narrowed := true }
def MeshChangesUptoSaid : Prop := meshChangesUptoRow.holds Tryz.pinned (OpenSpec.upto meshChangesSpec)

/-- 'kilovarlaw05.MeshStrings', WHERE WHAT IT READS IS OF BULK AT MOST 1048576: true; the input reads as it did. -/
def meshStringsUptoRow : OpenClaim := { program := "ythociffnlhdenaagreatdoor", sum := "827a44bb48ace5a5c95f7e8af33e89a3c1fd0bf53403716c7bbe0f35d6941e51", func := "kilovar/kilovarlaw05.MeshStrings", spec := "meshStrings", inPlace := ["internal/abi.NoEscape", "internal/bytealg.MakeNoZero", "internal/bytealg.IndexByteString", "internal/bytealg.CountString", "internal/bytealg.IndexString"], unfollowed := true, recurses := true, named := ["kilovar/mesh.bare", "kilovar/mesh.forms", "internal/strconv.uint64pow10", "math/bits.deBruijn32tab", "math/bits.deBruijn64tab", "unicode/utf8.first", "unicode/utf8.acceptRanges", "internal/bytealg.MaxLen"], apart := false, laid := [("math/bits.deBruijn32tab", laid_math_bits_deBruijn32tab), ("math/bits.deBruijn64tab", laid_math_bits_deBruijn64tab), ("internal/strconv.uint64pow10", laid_internal_strconv_uint64pow10), ("unicode/utf8.acceptRanges", laid_unicode_utf8_acceptRanges), ("kilovar/mesh.forms", laid_kilovar_mesh_forms), ("kilovar/mesh.bare", laid_kilovar_mesh_bare), ("unicode/utf8.first", laid_unicode_utf8_first)], narrowed := true }
def MeshStringsUptoSaid : Prop := meshStringsUptoRow.holds Tryz.pinned (OpenSpec.upto meshStringsSpec)

/-- 'kilovarlaw05.MeshBack', WHERE WHAT IT READS IS OF BULK AT MOST 1048576: true; the input reads as it did. -/
def meshBackUptoRow : OpenClaim := { program := "ythociffnlhdenaagreatdoor", sum := "827a44bb48ace5a5c95f7e8af33e89a3c1fd0bf53403716c7bbe0f35d6941e51", func := "kilovar/kilovarlaw05.MeshBack", spec := "meshBack", inPlace := ["internal/abi.NoEscape", "internal/bytealg.MakeNoZero", "internal/bytealg.IndexByteString", "internal/bytealg.CountString", "internal/bytealg.IndexString"], unfollowed := true, recurses := true, named := ["kilovar/mesh.bare", "kilovar/mesh.forms", "internal/strconv.uint64pow10", "math/bits.deBruijn32tab", "math/bits.deBruijn64tab", "unicode/utf8.first", "unicode/utf8.acceptRanges", "internal/bytealg.MaxLen"], apart := false, laid := [("math/bits.deBruijn32tab", laid_math_bits_deBruijn32tab), ("math/bits.deBruijn64tab", laid_math_bits_deBruijn64tab), ("internal/strconv.uint64pow10", laid_internal_strconv_uint64pow10), ("unicode/utf8.acceptRanges", laid_unicode_utf8_acceptRanges), ("kilovar/mesh.forms", laid_kilovar_mesh_forms), ("kilovar/mesh.bare", laid_kilovar_mesh_bare), ("unicode/utf8.first", laid_unicode_utf8_first)], narrowed := true }
def MeshBackUptoSaid : Prop := meshBackUptoRow.holds Tryz.pinned (OpenSpec.upto meshBackSpec)

end Rows
end Go.Proofs.YthociffnlhdenaaGreatDoor
