import Derived.Test.YtfkljdokkfgifaaGreatDoorShelf
import Derived.Test.YtfkljdokkfgifaaGreatDoorVg
set_option linter.unusedSectionVars false
set_option linter.unusedVariables false
set_option linter.unusedSimpArgs false
/- Library functions as contracts of pure calls. -/
set_option maxRecDepth 10000
namespace Vc
open Go Go.Proofs Go.RowKit

instance : Laid Tryz.prog := ⟨[]⟩

def hasFnB (P : Program) (f : FuncId) : Bool :=
  match P.funcs[f]? with
  | some fn => fn.body.isSome && !(fn.name == "runtime.NumGoroutine")
  | none => false
theorem hasFnB_spec {P : Program} {f : FuncId} (h : hasFnB P f = true) : HasFn P f := by
  unfold hasFnB at h
  split at h
  · rename_i fn hf
    simp only [Bool.and_eq_true, Bool.not_eq_true'] at h
    exact ⟨fn, hf, h.1, h.2⟩
  · cases h

theorem rows_str {w : World} {S : Nat → Nat → Prop} : ∀ {l : List (List UInt8)} {b off : Nat}, DRows w S (l.map .str) b off 1 → ∀ (j : Nat) x, l[j]? = some x → w.cell? ⟨b, off + j, none⟩ = some (str x) ∧ S b (off + j)
  | [], b, off, _, j, x, hx => by simp at hx
  | s :: l, b, off, h, 0, x, hx => by
    simp only [List.map_cons, DRows] at h
    simp at hx
    subst hx
    obtain ⟨⟨_, h1, v, h2, h3⟩, _⟩ := h
    simp only [DRel] at h3
    subst h3
    exact ⟨h2, h1⟩
  | s :: l, b, off, h, j + 1, x, hx => by
    simp only [List.map_cons, DRows] at h
    have := rows_str h.2 j x (by simpa using hx)
    rwa [show off + (j + 1) = off + 1 + j by omega]

theorem join_det (l : List (List UInt8)) (sep : List UInt8) (h1 : l.length ≤ 140737488355328) (h2 : (Lib.join l sep).length ≤ 140737488355328) :
    CallDet Tryz.prog 116 [.d (.slice 1 (l.map .str)), .d (.str sep)] [.str (Lib.join l sep)] := by
  refine ⟨hasFnB_spec (by kernel_rfl), fun w S vs hv hS _ => ?_⟩
  simp only [VRels, VRel, DRel] at hv
  obtain ⟨v1, r, rfl, ⟨a, cap, rfl, hcap, hrow⟩, v2, r2, rfl, rfl, rfl⟩ := hv
  have fin : ∀ (w' : World), Below w.heap.size w w' → ∀ v, v = str (Lib.join l sep) → ∃ v' S', (Ending.returned v : Ending) = .returned v' ∧ Below w.heap.size w w' ∧ (∀ b o, S b o → S' b o) ∧ (∀ b o, S' b o → S b o ∨ w.heap.size ≤ b) ∧
      (∀ b o, S' b o → b < w'.heap.size) ∧ VRel w' ⟨S', fun _ => undef⟩ [] (resV [.str (Lib.join l sep)]) v' :=
    fun w' hb v hv => ⟨v, S, rfl, hb, fun _ _ h => h, fun _ _ h => .inl h, fun b o h => Nat.lt_of_lt_of_le (hS b o h) hb.size, by simp only [resV, VRel, DRel]; exact hv⟩
  rcases hrow with he | ⟨b, off, rfl, hrow⟩
  · have hl : l = [] := by simpa using he
    subst hl
    refine (Tryz.strings_Join_none a cap ⟨sep.toArray⟩ w).mono ?_
    rintro e w' ⟨rfl, rfl⟩
    exact fin _ (Below.refl _ _) _ rfl
  · cases l with
    | nil =>
      refine (Tryz.strings_Join_none _ cap ⟨sep.toArray⟩ w).mono ?_
      rintro e w' ⟨rfl, rfl⟩
      exact fin _ (Below.refl _ _) _ rfl
    | cons s l =>
      have hb : b < w.heap.size := hS _ _ (rows_str hrow 0 s rfl).2
      have e1 : (((s :: l).map fun x => (⟨x.toArray⟩ : ByteArray)).map (·.data.toList)) = s :: l := by simp [List.map_map, Function.comp_def]
      have h := Tryz.strings_Join b off cap ((s :: l).map fun x => ⟨x.toArray⟩) ⟨sep.toArray⟩ w (fun j x hx => by
        rw [List.getElem?_map] at hx
        cases hj : (s :: l)[j]? with
        | none => rw [hj] at hx; cases hx
        | some y =>
          rw [hj] at hx
          cases hx
          exact (rows_str hrow j y hj).1) hb (by simpa using h1) (by simpa using hcap) (by rw [e1]; simpa using h2)
      rw [e1] at h
      simp only [List.length_map] at h ⊢
      refine h.mono ?_
      rintro e w' ⟨rfl, hb⟩
      exact fin _ hb _ rfl

def strsOf : List Data → Option (List (List UInt8))
  | [] => some []
  | .str s :: r => match strsOf r with
    | some l => some (s :: l)
    | none => none
  | _ :: _ => none
theorem strsOf_map : ∀ {es : List Data} {l : List (List UInt8)}, strsOf es = some l → es = l.map .str
  | [], l, h => by simp [strsOf] at h; subst h; rfl
  | d :: r, l, h => by
    cases d <;> simp only [strsOf] at h <;> try (cases h; done)
    split at h
    · rename_i l' h'
      cases h
      rw [strsOf_map h']; rfl
    · cases h

/-- the library's functions that are known -/
def lib04 (f : FuncId) (xs : List AVal) : Option (List Data) :=
  match Nat.beq f 116, xs with
  | true, [.d (.slice 1 es), .d (.str sep)] => match strsOf es with
    | some l => match Nat.ble l.length 140737488355328 && Nat.ble (Lib.join l sep).length 140737488355328 with
      | true => forceLs (Lib.join l sep) fun s => some [.str s]
      | false => none
    | none => none
  | _, _ => none
theorem lib04_good (f : FuncId) (xs : List AVal) (rs : List Data) (h : lib04 f xs = some rs) : CallDet Tryz.prog f xs rs := by
  unfold lib04 at h
  split at h
  · rename_i es sep hf
    have := Nat.eq_of_beq_eq_true hf
    subst this
    split at h
    · rename_i l hl
      split at h
      · rename_i hb
        simp only [Bool.and_eq_true] at hb
        rw [forceLs_eq] at h
        cases h
        rw [strsOf_map hl]
        exact join_det l sep (Nat.le_of_ble_eq_true hb.1) (Nat.le_of_ble_eq_true hb.2)
      · cases h
    · cases h
  · cases h
end Vc

