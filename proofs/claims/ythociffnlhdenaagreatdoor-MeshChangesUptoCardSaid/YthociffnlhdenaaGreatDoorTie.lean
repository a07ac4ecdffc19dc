/-
  DERIVED. GIVEN WITH THE SEED: THE PROGRAM's TIES (one call each: nine closed facts by the kernel) AND EACH ROW's TIE, after the 31st guide's Derived/Test/Toyas{Tie, Card}.lean. No idea stands in it: it is a product of the set-up. Laid BY PROGRAM, IN A SANDBOX (cutbox-door.mjs). By AI agents, Wed Nov 11 2026. No macro, syntax, notation, axiom, sorry.
-/
import Derived.Test.YthociffnlhdenaaGreatDoorRows
import Derived.LaidByTextLater
import Derived.SevenTiedAt
import Derived.LaidSub
import Derived.LaidOnce
namespace Go.Proofs.YthociffnlhdenaaGreatDoor
open Go
set_option maxRecDepth 100000
theorem seatTie1 : Tryz.prog.laidByTextLater [("math/bits.deBruijn32tab", Rows.laid_math_bits_deBruijn32tab), ("math/bits.deBruijn64tab", Rows.laid_math_bits_deBruijn64tab), ("internal/strconv.uint64pow10", Rows.laid_internal_strconv_uint64pow10), ("unicode/utf8.acceptRanges", Rows.laid_unicode_utf8_acceptRanges), ("kilovar/mesh.forms", Rows.laid_kilovar_mesh_forms), ("kilovar/mesh.bare", Rows.laid_kilovar_mesh_bare)] [.data, .data, .data, .data, .funcsDeep, .data] true :=
  Program.laidByTextLater_by_one 46 8 65 (by kernel_rfl) (by kernel_rfl) (by kernel_rfl) (by kernel_rfl) (by kernel_rfl) (by kernel_rfl) (fun _ _ => by kernel_rfl)
theorem pin_laid_unicode_utf8_first : Tryz.pinned.checked.prog.pinnedFits "unicode/utf8.first" = true := by kernel_rfl
theorem noOwnUnsafe : Tryz.pinned.checked.prog.headLifts.contains "ownunsafe" = false := by kernel_rfl
theorem tie : Tryz.prog.laidByTextLater [("math/bits.deBruijn32tab", Rows.laid_math_bits_deBruijn32tab), ("math/bits.deBruijn64tab", Rows.laid_math_bits_deBruijn64tab), ("internal/strconv.uint64pow10", Rows.laid_internal_strconv_uint64pow10), ("kilovar/mesh.forms", Rows.laid_kilovar_mesh_forms), ("kilovar/mesh.bare", Rows.laid_kilovar_mesh_bare)] [.data, .data, .data, .funcsDeep, .data] true :=
  Program.laidByTextLater.sub seatTie1 ["math/bits.deBruijn32tab", "math/bits.deBruijn64tab", "internal/strconv.uint64pow10", "kilovar/mesh.forms", "kilovar/mesh.bare"] (by kernel_rfl) (by kernel_rfl)
theorem meshCosts_row_tie : Rows.meshCostsRow.laidByTextAt .later Tryz.pinned [.data, .data, .data, .funcsDeep, .data] true :=
  OpenClaim.laidByTextAt_later rfl rfl tie noOwnUnsafe
theorem meshStates_row_tie : Rows.meshStatesRow.laidByTextAt .later Tryz.pinned [.data, .data, .data, .funcsDeep, .data] true :=
  OpenClaim.laidByTextAt_later rfl rfl tie noOwnUnsafe
theorem meshFloods_row_tie : Rows.meshFloodsRow.laidByTextAt .later Tryz.pinned [.data, .data, .data, .funcsDeep, .data] true :=
  OpenClaim.laidByTextAt_later rfl rfl tie noOwnUnsafe
theorem meshBarriers_row_tie : Rows.meshBarriersRow.laidByTextAt .later Tryz.pinned [.data, .data, .data, .funcsDeep, .data] true :=
  OpenClaim.laidByTextAt_later rfl rfl tie noOwnUnsafe
theorem meshRounds_row_tie : Rows.meshRoundsRow.laidByTextAt .later Tryz.pinned [.data, .data, .data, .funcsDeep, .data] true :=
  OpenClaim.laidByTextAt_later rfl rfl tie noOwnUnsafe
theorem meshLoops_row_tie : Rows.meshLoopsRow.laidByTextAt .later Tryz.pinned [.data, .data, .data, .funcsDeep, .data] true :=
  OpenClaim.laidByTextAt_later rfl rfl tie noOwnUnsafe
theorem meshRoutes_row_tie : Rows.meshRoutesRow.laidByTextAt .later Tryz.pinned [.data, .data, .data, .funcsDeep, .data] true :=
  OpenClaim.laidByTextAt_later rfl rfl tie noOwnUnsafe
theorem meshFlooded_row_tie : Rows.meshFloodedRow.laidByTextAt .later Tryz.pinned [.data, .data, .data, .funcsDeep, .data] true :=
  OpenClaim.laidByTextAt_later rfl rfl tie noOwnUnsafe
theorem meshCalm_row_tie : Rows.meshCalmRow.laidByTextAt .later Tryz.pinned [.data, .data, .data, .funcsDeep, .data] true :=
  OpenClaim.laidByTextAt_later rfl rfl tie noOwnUnsafe
theorem meshChanges_row_tie : Rows.meshChangesRow.laidByTextAt .later Tryz.pinned [.data, .data, .data, .funcsDeep, .data] true :=
  OpenClaim.laidByTextAt_later rfl rfl tie noOwnUnsafe
theorem fits2 : Tryz.pinned.checked.prog.listedFits [("math/bits.deBruijn32tab", Rows.laid_math_bits_deBruijn32tab), ("math/bits.deBruijn64tab", Rows.laid_math_bits_deBruijn64tab), ("internal/strconv.uint64pow10", Rows.laid_internal_strconv_uint64pow10), ("unicode/utf8.acceptRanges", Rows.laid_unicode_utf8_acceptRanges), ("kilovar/mesh.forms", Rows.laid_kilovar_mesh_forms), ("kilovar/mesh.bare", Rows.laid_kilovar_mesh_bare), ("unicode/utf8.first", Rows.laid_unicode_utf8_first)] = true := by
  unfold Program.listedFits
  rw [noOwnUnsafe]
  kernel_rfl
theorem tie2 : Tryz.prog.laidByTextLater [("math/bits.deBruijn32tab", Rows.laid_math_bits_deBruijn32tab), ("math/bits.deBruijn64tab", Rows.laid_math_bits_deBruijn64tab), ("internal/strconv.uint64pow10", Rows.laid_internal_strconv_uint64pow10), ("unicode/utf8.acceptRanges", Rows.laid_unicode_utf8_acceptRanges), ("kilovar/mesh.forms", Rows.laid_kilovar_mesh_forms), ("kilovar/mesh.bare", Rows.laid_kilovar_mesh_bare)] [.data, .data, .data, .data, .funcsDeep, .data] true :=
  Program.laidByTextLater.sub seatTie1 ["math/bits.deBruijn32tab", "math/bits.deBruijn64tab", "internal/strconv.uint64pow10", "unicode/utf8.acceptRanges", "kilovar/mesh.forms", "kilovar/mesh.bare"] (by kernel_rfl) (by kernel_rfl)
theorem meshStrings_row_tie : Rows.meshStringsRow.laidByTextAt .later Tryz.pinned [.data, .data, .data, .data, .funcsDeep, .data, .pinned] true :=
  OpenClaim.laidByTextAt_pinned rfl rfl tie2 rfl rfl rfl rfl (fun y hy _e => by
    simp only [Rows.meshStringsRow, List.zip_cons_cons, List.zip_nil_right, List.mem_cons, List.mem_nil_iff, or_false] at hy
    rcases hy with rfl | rfl | rfl | rfl | rfl | rfl | rfl
    · cases _e
    · cases _e
    · cases _e
    · cases _e
    · cases _e
    · cases _e
    · exact ⟨pin_laid_unicode_utf8_first, by kernel_rfl⟩) fits2
theorem meshBack_row_tie : Rows.meshBackRow.laidByTextAt .later Tryz.pinned [.data, .data, .data, .data, .funcsDeep, .data, .pinned] true :=
  OpenClaim.laidByTextAt_pinned rfl rfl tie2 rfl rfl rfl rfl (fun y hy _e => by
    simp only [Rows.meshBackRow, List.zip_cons_cons, List.zip_nil_right, List.mem_cons, List.mem_nil_iff, or_false] at hy
    rcases hy with rfl | rfl | rfl | rfl | rfl | rfl | rfl
    · cases _e
    · cases _e
    · cases _e
    · cases _e
    · cases _e
    · cases _e
    · exact ⟨pin_laid_unicode_utf8_first, by kernel_rfl⟩) fits2
theorem meshCostsUpto_row_tie : Rows.meshCostsUptoRow.laidByTextAt .later Tryz.pinned [.data, .data, .data, .funcsDeep, .data] true :=
  OpenClaim.laidByTextAt_later rfl rfl tie noOwnUnsafe
theorem meshStatesUpto_row_tie : Rows.meshStatesUptoRow.laidByTextAt .later Tryz.pinned [.data, .data, .data, .funcsDeep, .data] true :=
  OpenClaim.laidByTextAt_later rfl rfl tie noOwnUnsafe
theorem meshFloodsUpto_row_tie : Rows.meshFloodsUptoRow.laidByTextAt .later Tryz.pinned [.data, .data, .data, .funcsDeep, .data] true :=
  OpenClaim.laidByTextAt_later rfl rfl tie noOwnUnsafe
theorem meshBarriersUpto_row_tie : Rows.meshBarriersUptoRow.laidByTextAt .later Tryz.pinned [.data, .data, .data, .funcsDeep, .data] true :=
  OpenClaim.laidByTextAt_later rfl rfl tie noOwnUnsafe
theorem meshRoundsUpto_row_tie : Rows.meshRoundsUptoRow.laidByTextAt .later Tryz.pinned [.data, .data, .data, .funcsDeep, .data] true :=
  OpenClaim.laidByTextAt_later rfl rfl tie noOwnUnsafe
theorem meshLoopsUpto_row_tie : Rows.meshLoopsUptoRow.laidByTextAt .later Tryz.pinned [.data, .data, .data, .funcsDeep, .data] true :=
  OpenClaim.laidByTextAt_later rfl rfl tie noOwnUnsafe
theorem meshRoutesUpto_row_tie : Rows.meshRoutesUptoRow.laidByTextAt .later Tryz.pinned [.data, .data, .data, .funcsDeep, .data] true :=
  OpenClaim.laidByTextAt_later rfl rfl tie noOwnUnsafe
theorem meshFloodedUpto_row_tie : Rows.meshFloodedUptoRow.laidByTextAt .later Tryz.pinned [.data, .data, .data, .funcsDeep, .data] true :=
  OpenClaim.laidByTextAt_later rfl rfl tie noOwnUnsafe
theorem meshCalmUpto_row_tie : Rows.meshCalmUptoRow.laidByTextAt .later Tryz.pinned [.data, .data, .data, .funcsDeep, .data] true :=
  OpenClaim.laidByTextAt_later rfl rfl tie noOwnUnsafe
theorem meshChangesUpto_row_tie : Rows.meshChangesUptoRow.laidByTextAt .later Tryz.pinned [.data, .data, .data, .funcsDeep, .data] true :=
  OpenClaim.laidByTextAt_later rfl rfl tie noOwnUnsafe
theorem meshStringsUpto_row_tie : Rows.meshStringsUptoRow.laidByTextAt .later Tryz.pinned [.data, .data, .data, .data, .funcsDeep, .data, .pinned] true :=
  OpenClaim.laidByTextAt_pinned rfl rfl tie2 rfl rfl rfl rfl (fun y hy _e => by
    simp only [Rows.meshStringsUptoRow, List.zip_cons_cons, List.zip_nil_right, List.mem_cons, List.mem_nil_iff, or_false] at hy
    rcases hy with rfl | rfl | rfl | rfl | rfl | rfl | rfl
    · cases _e
    · cases _e
    · cases _e
    · cases _e
    · cases _e
    · cases _e
    · exact ⟨pin_laid_unicode_utf8_first, by kernel_rfl⟩) fits2
theorem meshBackUpto_row_tie : Rows.meshBackUptoRow.laidByTextAt .later Tryz.pinned [.data, .data, .data, .data, .funcsDeep, .data, .pinned] true :=
  OpenClaim.laidByTextAt_pinned rfl rfl tie2 rfl rfl rfl rfl (fun y hy _e => by
    simp only [Rows.meshBackUptoRow, List.zip_cons_cons, List.zip_nil_right, List.mem_cons, List.mem_nil_iff, or_false] at hy
    rcases hy with rfl | rfl | rfl | rfl | rfl | rfl | rfl
    · cases _e
    · cases _e
    · cases _e
    · cases _e
    · cases _e
    · cases _e
    · exact ⟨pin_laid_unicode_utf8_first, by kernel_rfl⟩) fits2
end Go.Proofs.YthociffnlhdenaaGreatDoor
