import Derived.Test.YtfkljdokkfgifaaGreatDoorVi
import Derived.Test.YtfkljdokkfgifaaGreatDoorWa
import Derived.Test.YtfkljdokkfgifaaGreatDoorCards
import Derived.Test.YtfkljdokkfgifaaGreatDoorTie
import Derived.WalkKit
import Derived.ProofKit
import Derived.Deep.DeepHandedRow
import Derived.Lib.LaidTab
set_option linter.unusedSectionVars false
set_option linter.unusedVariables false
set_option linter.unusedSimpArgs false
/- The laws' cards of chapter 04 out of the contracts of their calls. -/
namespace Go.Proofs.YtfkljdokkfgifaaGreatDoor
open Go.ChangeShapes Go.WideShapes Go.ChangeAt Go.RowKit Vc

theorem own : ownKnob Tryz.prog.godebug = none := by kernel_rfl

mutual
theorem bulk_le {H : Type} : ∀ (d : DataW H), bulk d ≤ Rows.uptoBulk d
  | .lit l => by cases l <;> simp [bulk, Rows.uptoBulk]
  | .nil => by simp [bulk, Rows.uptoBulk]
  | .ptr d => by have := bulk_le d; simp only [bulk, Rows.uptoBulk]; omega
  | .slice a b => by have := bulks_le a; have := bulks_le b; simp only [bulk, Rows.uptoBulk]; omega
  | .agg a => by have := bulks_le a; simp only [bulk, Rows.uptoBulk]; omega
  | .iface _ d => by have := bulk_le d; simp only [bulk, Rows.uptoBulk]; omega
  | .map _ => by simp [bulk]
  | .held _ => by simp [bulk, Rows.uptoBulk]
theorem bulks_le {H : Type} : ∀ (l : List (DataW H)), bulks l ≤ Rows.uptoBulkAll l
  | [] => by simp [bulks]
  | d :: r => by have := bulk_le d; have := bulks_le r; simp only [bulks, Rows.uptoBulkAll]; omega
end

def laidCells : Nat → DataW Unit → List Value
  | _, .lit (.int k n) => [.int k n]
  | _, .lit (.bool b) => [.bool b]
  | n + 1, .agg l => l.flatMap (laidCells n)
  | _, _ => []

noncomputable def layAt (g : Nat) (d : DataW Unit) (w : World) : World :=
  { w with heap := w.heap.modify g fun
      | .cells _ t frozen => .cells (laidCells 5 d).toArray t frozen
      | o => o }

noncomputable def laidWorld (os : Os) : World :=
  layAt 4 Rows.laid_math_bits_deBruijn32tab (layAt 5 Rows.laid_math_bits_deBruijn64tab (layAt 1 Rows.laid_internal_strconv_uint64pow10 (World.holding Tryz.prog os ⟨#[], #[], []⟩)))

def wit3 : Array Value := #[.slice none 0 0, .agg #[.int .i64 0, .slice none 0 0, .int .i64 0], .agg (Array.replicate 16 (.int .u8 0))]

theorem laid_met3 (os : Os) : laidMet Tryz.prog Rows.linkMessagesUptoRow.laid ((laidWorld os).forCall (fun _ _ => 0) ⟨#[], wit3, []⟩).memory :=
  laidMet_of_run' 8 (by kernel_rfl) (by kernel_rfl)

noncomputable def rd3 {H : Type} : List (DataW H) := [.nil, .agg [.lit (.int .i64 0), .nil, .lit (.int .i64 0)], .agg (List.replicate 16 (.lit (.int .u8 0)))]
theorem reads3 (os : Os) {H : Type} (enc : TypeId × Value → H) : ∃ places, DataW.whole enc Tryz.prog ((laidWorld os).forCall (fun _ _ => 0) ⟨#[], wit3, []⟩).memory Tryz.f3.params.toList Rows.linkMessagesSpec.vars false wit3.toList 8 = some (rd3, [], places) :=
  ⟨[], by kernel_rfl⟩

def at3 : List AT := [(false, [.sl true [.int .i64, .int .i64, .int .i64, .sl false [.int .u8]]]), (true, [.int .i64, .sl false [.int .u8], .int .i64]), (true, List.replicate 16 (.int .u8))]
theorem chk3 : chkAs Tryz.prog Tryz.f3.params.toList at3 = true := by kernel_rfl
theorem laidOut : laidOutB Tryz.prog = true := by kernel_rfl
theorem rt3 : Tryz.f3.resultTypes = #[4] := by kernel_rfl

section
variable (hlaw : ∀ xs, FitAs at3 xs → wgts xs ≤ 1048576 → CallDet Tryz.prog 3 (xs.map .d) [.bool true])
include hlaw

set_option maxRecDepth 100000 in
theorem lifted3 (os : Os) (started : os.Started) (H : Type) (enc : TypeId × Value → H) (F : Stop.Interp) :
    ReturnsInHanded {} Tryz.checked os 3 .any ((Rows.OpenSpec.upto Rows.linkMessagesSpec).preRow enc Tryz.prog Tryz.f3 Rows.linkMessagesUptoRow.domain false Rows.linkMessagesUptoRow.laid) (((Rows.OpenSpec.upto Rows.linkMessagesSpec).at F).post enc Tryz.prog Tryz.f3 false true false false) := by
  obtain ⟨places, hx⟩ := reads3 os enc
  refine returnsInHanded_of_row (C := Tryz.checked) (s := Rows.OpenSpec.upto Rows.linkMessagesSpec) own started (by kernel_rfl) Tryz.func3
    (witness_row_at (enc := enc) (C := Tryz.checked) false (laidWorld os) wit3 rfl (by kernel_rfl) (by kernel_rfl) (by kernel_rfl)
      (OpenSpec.preRow_of_cond 8 hx (by kernel_rfl) (fun k hk => by cases hk; kernel_rfl) (by kernel_rfl) (laid_met3 os))) ?_
  intro W base args ds gs before hval hW _ hcond _ hL _ _
  refine law_calls (s := Rows.linkMessagesSpec) laidOut chk3 rt3 Tryz.underlying4 rfl (fun ds hds => ?_) hlaw hval hW ?_ (fun p hp => by cases hp)
  · match ds, hds with
    | [d1, d2, d3], _ => rfl
    | [], h | [_], h | [_, _], h | _ :: _ :: _ :: _ :: _, h => simp [Tryz.params3] at h
  · have h := hcond _ rfl
    have h2 := bulks_le (ds ++ gs)
    simp only [Rows.uptoSmall, decide_eq_true_eq] at h
    omega

theorem said3 : Rows.LinkMessagesUptoSaid :=
  OpenClaim.holds_of_cond 3 Tryz.f3 rfl rfl rfl rfl rfl rfl rfl ⟨rfl, rfl, rfl, rfl, rfl⟩ rfl rfl rfl rfl rfl (by kernel_rfl) Tryz.func3 (by kernel_rfl)
    (of_decide_eq_true (by kernel_rfl)) (by unfold Func.isWrapper; first | (rw [if_pos (by decide +kernel)]; kernel_rfl) | (rw [if_neg (by decide +kernel)]; exact ⟨rfl, rfl⟩))
    (fun os started H enc _ F => by rw [OpenClaim.pre_eq_preRow]; exact lifted3 hlaw os started H enc F)

theorem plain3 (f : FuncId) (fn : Func) (hf : Tryz.pinned.checked.prog.funcNamed Tryz.f3.name = some f) (hfn : Tryz.pinned.checked.prog.funcs[f]? = some fn) :
    false = Tryz.pinned.checked.prog.looks [] ∧ ∀ (j : Nat) t, fn.params[j]? = some t → Tryz.pinned.checked.prog.wantsStandIn t = false := by
  obtain rfl : f = 3 := Option.some.inj ((show Tryz.prog.funcNamed Tryz.f3.name = some 3 by kernel_rfl).symm.trans hf) |>.symm
  obtain rfl : fn = Tryz.f3 := (Option.some.inj (Tryz.func3.symm.trans hfn)).symm
  refine ⟨by kernel_rfl, fun j t ht => ?_⟩
  rw [Tryz.params3] at ht
  match j, ht with
  | 0, ht => cases ht; exact (show Tryz.prog.wantsStandIn 22 = false by kernel_rfl)
  | 1, ht => cases ht; exact (show Tryz.prog.wantsStandIn 25 = false by kernel_rfl)
  | 2, ht => cases ht; exact (show Tryz.prog.wantsStandIn 27 = false by kernel_rfl)

theorem card3 : Rows.LinkMessagesUptoCardSaid :=
  Claim7.holds_tied_plain_at .later [] _ _ _ _ (said3 hlaw) (fun _ h => by cases h) (by kernel_rfl) (fun _ h => by cases h) linkMessagesUpto_row_tie rfl ⟨rfl, rfl⟩ (by kernel_rfl) rfl (plain3 hlaw) (by kernel_rfl)
end
end Go.Proofs.YtfkljdokkfgifaaGreatDoor

