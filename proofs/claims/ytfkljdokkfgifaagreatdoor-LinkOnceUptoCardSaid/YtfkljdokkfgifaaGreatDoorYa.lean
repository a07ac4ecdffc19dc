import Derived.Test.YtfkljdokkfgifaaGreatDoorWg
import Derived.Test.YtfkljdokkfgifaaGreatDoorXb
set_option linter.unusedSectionVars false
set_option linter.unusedVariables false
set_option linter.unusedSimpArgs false
set_option maxRecDepth 10000
namespace Vc
open Go Go.Proofs
/-! LinkWhole, in plain Lean: what is cut, turned and joined. -/
theorem parts_fact (len S : Nat) (hS : 1 ≤ S) : ∃ P : Nat, partsI len S = (P : Int) ∧ 1 ≤ P ∧ len ≤ P * S ∧ (0 < len → (P - 1) * S < len) ∧ (len = 0 → P = 1) := by
  have e : ((len : Int) + (S : Int) - 1) / (S : Int) = (((len + S - 1) / S : Nat) : Int) := by
    rw [show ((len : Int) + (S : Int) - 1) = ((len + S - 1 : Nat) : Int) by omega]; rfl
  have h1 := Nat.div_add_mod (len + S - 1) S
  have h2 := Nat.mod_lt (len + S - 1) (show 0 < S by omega)
  refine ⟨max 1 ((len + S - 1) / S), by unfold partsI; rw [e]; omega, by omega, ?_, ?_, ?_⟩
  · generalize (len + S - 1) / S = q at *
    have h3 : q * S ≤ max 1 q * S := Nat.mul_le_mul_right _ (by omega)
    rw [Nat.mul_comm] at h1
    omega
  · intro h
    generalize (len + S - 1) / S = q at *
    by_cases hq : q = 0
    · subst hq; simp; omega
    · rw [show max 1 q = q by omega]
      obtain ⟨r, rfl⟩ : ∃ r, q = r + 1 := ⟨q - 1, by omega⟩
      rw [Nat.mul_add, Nat.mul_comm S r] at h1
      simp only [Nat.add_sub_cancel]
      omega
  · rintro rfl
    rw [Nat.div_eq_of_lt (by omega)]
    rfl
theorem parts_30 {len S P : Nat} (hS : 2 ≤ S) (hl : len ≤ 60) (h1 : 1 ≤ P) (h2 : 0 < len → (P - 1) * S < len) (h3 : len = 0 → P = 1) : P ≤ 30 := by
  by_cases h0 : len = 0
  · have := h3 h0; omega
  · have := h2 (by omega)
    have h4 : (P - 1) * 2 ≤ (P - 1) * S := Nat.mul_le_mul_left _ hS
    omega
theorem piece_nat (b : List UInt8) (S k : Nat) : piece b S k = (b.take (min b.length ((k + 1) * S))).drop (k * S) := by
  unfold piece
  rw [show ((k : Int) * (S : Int)).toNat = k * S by rw [← Int.natCast_mul]; rfl,
    show (min (b.length : Int) (((k : Int) + 1) * (S : Int))).toNat = min b.length ((k + 1) * S) by
      rw [show ((k : Int) + 1) * (S : Int) = (((k + 1) * S : Nat) : Int) by rw [Int.natCast_mul]; rfl]; omega]
theorem piece_len (b : List UInt8) (S k : Nat) : (piece b S k).length = min b.length ((k + 1) * S) - k * S := by
  rw [piece_nat, List.length_drop, List.length_take]; omega
theorem piece_le (b : List UInt8) (S k : Nat) : (piece b S k).length ≤ S := by
  rw [piece_len, Nat.add_mul]; omega
theorem take_piece (b : List UInt8) (S k : Nat) : b.take (k * S) ++ piece b S k = b.take ((k + 1) * S) := by
  rw [piece_nat]
  have h : k * S ≤ (k + 1) * S := Nat.mul_le_mul_right _ (by omega)
  by_cases hb : k * S ≤ b.length
  · have e : b.take (min b.length ((k + 1) * S)) = b.take ((k + 1) * S) := by
      by_cases h2 : (k + 1) * S ≤ b.length
      · rw [Nat.min_eq_right h2]
      · rw [Nat.min_eq_left (by omega), List.take_length, List.take_of_length_le (by omega)]
    have e2 : b.take (k * S) = (b.take ((k + 1) * S)).take (k * S) := by rw [List.take_take, Nat.min_eq_left h]
    rw [e, e2, List.take_append_drop]
  · rw [List.take_of_length_le (by omega), List.drop_eq_nil_of_le (by rw [List.length_take]; omega), List.append_nil, List.take_of_length_le (by omega)]
theorem sum_step {b : List UInt8} {S k sum : Nat} (h : sum = (b.take (k * S)).length) : sum + (piece b S k).length = (b.take ((k + 1) * S)).length := by
  rw [← take_piece, List.length_append, h]

/-- a frame that is one of those which were cut -/
def IsCut (n : Int) (b : List UInt8) (S : Nat) (f : Fr) : Prop := ∃ k : Nat, f = cutFr n b S k
theorem cut_clean {n : Int} {b : List UInt8} {S : Nat} {l : List Fr} (h : ∀ f ∈ l, IsCut n b S f) : clean l := by
  intro x hx y hy
  obtain ⟨k, rfl⟩ := h x hx
  obtain ⟨j, rfl⟩ := h y hy
  refine clash_iff.2 ⟨rfl, rfl, fun e => ?_⟩
  have e : (k : Int) = (j : Int) := e
  rw [show k = j by omega]
theorem cut_find {n : Int} {b : List UInt8} {S q : Nat} {l : List Fr} (h : ∀ f ∈ l, IsCut n b S f) (hq : ∃ f ∈ l, f.p = q) : findP l q = some (cutFr n b S q) := by
  cases hf : findP l q with
  | none => obtain ⟨f, h1, h2⟩ := hq; exact absurd h2 (findP_none hf f h1)
  | some g =>
    obtain ⟨h1, h2⟩ := findP_mem hf
    obtain ⟨k, rfl⟩ := h g h1
    have h2 : (k : Int) = (q : Int) := h2
    rw [show k = q by omega]
theorem cut_join {n : Int} {b : List UInt8} {S : Nat} {l : List Fr} (h : ∀ f ∈ l, IsCut n b S f) : ∀ {P : Nat}, (∀ q : Nat, q < P → ∃ f ∈ l, f.p = q) → joinUpto l P = some (b.take (P * S))
  | 0, _ => by simp [joinUpto]
  | P + 1, hP => by
    rw [joinUpto, cut_join h fun q hq => hP q (by omega), cut_find h (hP P (by omega))]
    show some (b.take (P * S) ++ piece b S P) = _
    rw [take_piece]
theorem cut_check {n : Int} {b : List UInt8} {S k P : Nat} (hn : 0 ≤ n ∧ n ≤ 255) (hS : S ≤ 12) (hP : partsI b.length S = (P : Int)) (h64 : P ≤ 64) (hk : k < P) : (cutFr n b S k).check = 0 := by
  have h1 := piece_le b S k
  show checkFrame n k (partsI b.length S) (piece b S k).length = 0
  have e1 : within3 n 0 255 = 0 := by unfold within3; rw [decide_eq_false (by omega), decide_eq_false (by omega)]; rfl
  have e2 : within3 (P : Int) 1 64 = 0 := by unfold within3; rw [decide_eq_false (by omega), decide_eq_false (by omega)]; rfl
  have e3 : within3 (k : Int) 0 ((P : Int) - 1) = 0 := by unfold within3; rw [decide_eq_false (by omega), decide_eq_false (by omega)]; rfl
  have e4 : decide ((12 : Int) < ((piece b S k).length : Int)) = false := decide_eq_false (by omega)
  rw [hP]
  simp [checkFrame, e1, e2, e3, e4]
theorem first_zeros : ∀ {l : List Int}, (∀ e ∈ l, e = 0) → firstOf l = 0
  | [], _ => rfl
  | x :: r, h => by
    have h1 := h x List.mem_cons_self
    subst h1
    show firstOf r = 0
    exact first_zeros fun e he => h e (List.mem_cons_of_mem _ he)
theorem checks_ok {l : List Fr} (hl : l.length ≤ 64) (h : ∀ f ∈ l, f.check = 0) : checkFrames l = 0 := by
  unfold checkFrames
  rw [decide_eq_false (by omega)]
  refine first_zeros fun e he => ?_
  obtain ⟨f, hf, rfl⟩ := List.mem_map.1 he
  exact h f hf
theorem joinL_ok {l : List Fr} (hl : l.length ≤ 64) (h : ∀ f ∈ l, f.check = 0) : joinL l = joinR l := by
  unfold joinL
  rw [checks_ok hl h]; rfl
/-- joined, in any order and with any doubles -/
theorem join_whole {n : Int} {b : List UInt8} {S P : Nat} {l : List Fr} (hn : 0 ≤ n ∧ n ≤ 255) (hS : S ≤ 12) (hP : partsI b.length S = (P : Int)) (h1 : 1 ≤ P) (h64 : P ≤ 64) (hl : l.length ≤ 64)
    (hc : ∀ f ∈ l, ∃ k, k < P ∧ f = cutFr n b S k) (hq : ∀ q : Nat, q < P → ∃ f ∈ l, f.p = q) (hb : b.length ≤ P * S) : joinL l = (b, 0) := by
  have hi : ∀ f ∈ l, IsCut n b S f := fun f hf => by obtain ⟨k, _, e⟩ := hc f hf; exact ⟨k, e⟩
  rw [joinL_ok hl fun f hf => by obtain ⟨k, hk, rfl⟩ := hc f hf; exact cut_check hn hS hP h64 hk]
  obtain ⟨f, hf, _⟩ := hq 0 (by omega)
  cases l with
  | nil => exact absurd hf List.not_mem_nil
  | cons g r =>
    obtain ⟨k, hk, e⟩ := hc g List.mem_cons_self
    have e2 : g.n.toNat = P := by rw [e]; show (partsI b.length S).toNat = P; omega
    rw [joinR_some (f := g) rfl (cut_clean hi) (by rw [e2]; exact cut_join hi hq), List.take_of_length_le hb]
/-- a part that is missing -/
theorem join_short {n : Int} {b : List UInt8} {S P q : Nat} {l : List Fr} (hn : 0 ≤ n ∧ n ≤ 255) (hS : S ≤ 12) (hP : partsI b.length S = (P : Int)) (h64 : P ≤ 64) (hl : l.length ≤ 64) (h0 : 0 < l.length)
    (hc : ∀ f ∈ l, ∃ k, k < P ∧ f = cutFr n b S k) (hq : q < P) (hm : ∀ f ∈ l, f.p ≠ q) : joinL l = ([], 16) := by
  have hi : ∀ f ∈ l, IsCut n b S f := fun f hf => by obtain ⟨k, _, e⟩ := hc f hf; exact ⟨k, e⟩
  rw [joinL_ok hl fun f hf => by obtain ⟨k, hk, rfl⟩ := hc f hf; exact cut_check hn hS hP h64 hk]
  cases l with
  | nil => exact absurd h0 (by simp)
  | cons g r =>
    obtain ⟨k, hk, e⟩ := hc g List.mem_cons_self
    have e2 : g.n.toNat = P := by rw [e]; show (partsI b.length S).toNat = P; omega
    refine joinR_none (f := g) rfl (cut_clean hi) (joinUpto_none (q := q) ?_ (by omega))
    refine List.find?_eq_none.2 fun f hf => ?_
    simpa using hm f hf
/-- a part that comes twice, with other bytes -/
theorem join_clash {n : Int} {b : List UInt8} {S P k : Nat} {t : List Fr} {o : List UInt8} (hn : 0 ≤ n ∧ n ≤ 255) (hS : S ≤ 12) (hP : partsI b.length S = (P : Int)) (h64 : P ≤ 63) (hl : t.length ≤ 63)
    (hc : ∀ f ∈ t, ∃ k, k < P ∧ f = cutFr n b S k) (hk : k < P) (ht : cutFr n b S k ∈ t) (ho : o.length = (piece b S k).length) (hne : o ≠ piece b S k) :
    joinL (t ++ [⟨n, k, partsI b.length S, o⟩]) = ([], 24) := by
  rw [joinL_ok (by simp; omega) fun f hf => ?_]
  · refine joinR_clash fun h => ?_
    have := h _ (List.mem_append_left _ ht) _ (List.mem_append_right _ (List.mem_singleton.2 rfl))
    exact hne ((clash_iff.1 this).2.2 rfl).symm
  · rcases List.mem_append.1 hf with h | h
    · obtain ⟨j, hj, rfl⟩ := hc f h
      exact cut_check hn hS hP (by omega) hj
    · rw [List.mem_singleton.1 h]
      have h2 := cut_check (b := b) hn hS hP (by omega) hk
      show checkFrame n k (partsI b.length S) o.length = 0
      rw [ho]; exact h2

/-- which frame comes at a place, when they are turned -/
def tix (P k i : Nat) : Nat := (P - 1 - i + k) % P
theorem tix_eq {P k i : Nat} (hk : k < P) (hi : i < P) : tix P k i = if i + 1 ≤ k then k - 1 - i else P + k - 1 - i := by
  unfold tix
  by_cases h : i + 1 ≤ k
  · rw [if_pos h, Nat.mod_eq_sub_mod (by omega), Nat.mod_eq_of_lt (by omega)]; omega
  · rw [if_neg h, Nat.mod_eq_of_lt (by omega)]; omega
theorem tix_lt {P k i : Nat} (hk : k < P) : tix P k i < P := Nat.mod_lt _ (by omega)
theorem tix_all {P k q : Nat} (hk : k < P) (hq : q < P) : ∃ i, i < P ∧ tix P k i = q := by
  by_cases h : q < k
  · exact ⟨k - 1 - q, by omega, by rw [tix_eq hk (by omega), if_pos (by omega)]; omega⟩
  · exact ⟨P + k - 1 - q, by omega, by rw [tix_eq hk (by omega), if_neg (by omega)]; omega⟩
theorem tix_ne {P k i : Nat} (hk : k < P) (hi : i < P) (h0 : 0 < i) : tix P k i ≠ tix P k 0 := by
  rw [tix_eq hk hi, tix_eq hk (by omega)]
  split <;> split <;> omega
def turnedF (n : Int) (b : List UInt8) (S P k : Nat) : List Fr := (List.range P).map fun i => cutFr n b S (tix P k i)
theorem turned_cut {n : Int} {b : List UInt8} {S P k : Nat} (hk : k < P) : ∀ f ∈ turnedF n b S P k, ∃ j, j < P ∧ f = cutFr n b S j := fun f hf => by
  obtain ⟨i, _, rfl⟩ := List.mem_map.1 hf
  exact ⟨_, tix_lt hk, rfl⟩
theorem turned_all {n : Int} {b : List UInt8} {S P k q : Nat} (hk : k < P) (hq : q < P) : ∃ f ∈ turnedF n b S P k, f.p = q := by
  obtain ⟨i, h1, h2⟩ := tix_all hk hq
  exact ⟨_, List.mem_map.2 ⟨i, List.mem_range.2 h1, rfl⟩, by rw [h2]; rfl⟩
theorem turned_len (n : Int) (b : List UInt8) (S P k : Nat) : (turnedF n b S P k).length = P := by simp [turnedF]
theorem turned_tail {n : Int} {b : List UInt8} {S P k : Nat} (hk : k < P) : ∀ f ∈ (turnedF n b S P k).drop 1, (∃ j, j < P ∧ f = cutFr n b S j) ∧ f.p ≠ tix P k 0 := fun f hf => by
  refine ⟨turned_cut hk f (List.mem_of_mem_drop hf), ?_⟩
  obtain ⟨j, hj⟩ := List.getElem?_of_mem hf
  rw [List.getElem?_drop, turnedF, List.getElem?_map] at hj
  by_cases h : 1 + j < P
  · rw [List.getElem?_range h] at hj
    cases hj
    have := tix_ne hk h (by omega)
    show ((tix P k (1 + j) : Nat) : Int) ≠ _
    omega
  · rw [List.getElem?_eq_none (by simp; omega)] at hj; cases hj
theorem xor_ne (x n : UInt8) : x ^^^ (1 + n % 127) ≠ x := by
  intro h
  have h2 : (1 + n % 127) = 0 := by
    have : x ^^^ (x ^^^ (1 + n % 127)) = x ^^^ x := by rw [h]
    rw [← UInt8.xor_assoc, UInt8.xor_self, UInt8.zero_xor] at this
    exact this
  have h3 := congrArg UInt8.toNat h2
  rw [UInt8.toNat_add, UInt8.toNat_mod] at h3
  have := n.toNat_lt
  have h4 : n.toNat % 127 < 127 := Nat.mod_lt _ (by omega)
  change (1 + n.toNat % 127) % 256 = 0 at h3
  omega
end Vc

set_option maxRecDepth 10000
namespace Vc
open Go Go.Proofs
/-- kilovar/link.checkRounds -/
def ir101 : AFun := ⟨11, 1, [.tmp 2],
 (.seq
 (.reg [] [⟨some 2, .mov (.cst (.d (.int .i64 0))), none⟩])
 (.seq
 (.seq
 (.reg [] [⟨some 4, .mov (.tmp 0), none⟩,
 ⟨some 5, .len (.tmp 4), none⟩,
 ⟨some 6, .cmp .gtr (.tmp 5) (.cst (.d (.int .i64 64))), none⟩])
 (.cond (.tmp 6)
 (.seq
 (.reg [] [⟨some 2, .mov (.cst (.d (.int .i64 5))), none⟩])
 .ret)
 .skip))
 (.seq
 (.reg [0] [⟨some 3, .alloc 0 [.undef], none⟩,
 ⟨none, .st 1 (.tmp 3) (.cst (.d (.fn (.func 134) []))), none⟩])
 (.seq
 (.reg [] [⟨some 7, .mov (.tmp 0), none⟩,
 ⟨some 8, .mkf (.func 136) [] [(.tmp 3)], none⟩,
 ⟨some 9, .call 135 [(.tmp 7), (.tmp 8)], none⟩,
 ⟨some 10, .call 81 [(.tmp 9)], none⟩,
 ⟨some 2, .mov (.tmp 10), none⟩])
 .ret))))⟩

/-- kilovar/link.checkRounds$1 -/
def ir134 : AFun := ⟨5, 0, [.tmp 2],
 (.seq
 (.reg [] [⟨some 2, .mov (.cst (.d (.int .i64 0))), none⟩])
 (.seq
 (.reg [] [⟨some 3, .mov (.tmp 0), none⟩,
 ⟨some 4, .call 82 [(.tmp 3), (.cst (.d (.int .i64 0))), (.cst (.d (.int .i64 7)))], none⟩,
 ⟨some 2, .mov (.tmp 4), none⟩])
 .ret))⟩

/-- kilovar/link.mapped[kilovar/link.Round,kilovar/api.Errno] -/
def ir135 : AFun := ⟨22, 3, [.tmp 4],
 (.seq
 (.reg [] [⟨some 4, .mov (.cst (.nils 1)), none⟩])
 (.seq
 (.reg [] [⟨some 5, .mov (.cst (.nils 1)), none⟩])
 (.seq
 (.seq
 (.reg [] [⟨some 8, .mov (.tmp 0), none⟩,
 ⟨some 9, .len (.tmp 8), none⟩,
 ⟨some 10, .mov (.cst (.d (.int .i64 0))), none⟩])
 (.post [5] [0, 1, 2]
 (.block 0
 (.asrow 2 31 1 5
 (.keep [1, 5, 8, 9, 10] []
 (.loop
 (.post [1, 5, 8, 9, 10] [0, 1, 2]
 (.seq
 (.reg [] [⟨some 11, .cmp .lss (.tmp 10) (.tmp 9), none⟩])
 (.seq
 (.cond (.tmp 11)
 .skip
 (.exit 0))
 (.seq
 (.block 1
 (.seq
 (.reg [0] [⟨some 12, .ixa 3 (.tmp 8) (.tmp 10), none⟩,
 ⟨some 13, .ld true 3 (.tmp 12), none⟩,
 ⟨some 7, .alloc 0 [(.nils 1), (.nils 1), (.d (.bool false))], none⟩,
 ⟨none, .st 3 (.tmp 7) (.tmp 13), none⟩])
 (.reg [1, 2] [⟨some 14, .mov (.tmp 5), none⟩,
 ⟨some 15, .mov (.tmp 1), none⟩,
 ⟨some 16, .ld true 3 (.tmp 7), none⟩,
 ⟨some 17, .callv (.tmp 15) [(.tmp 16)], none⟩,
 ⟨some 18, .bsl 1 31 1 1 [(.int .i64 0)] [(0, (.tmp 17))], none⟩,
 ⟨some 19, .app 2 31 1 8 (.tmp 14) (.tmp 18), none⟩,
 ⟨some 5, .mov (.tmp 19), none⟩])))
 (.reg [] [⟨some 20, .arith .add .i64 (.tmp 10) (.cst (.d (.int .i64 1))), none⟩,
 ⟨some 10, .mov (.tmp 20), none⟩])))))))))))
 (.seq
 (.reg [] [⟨some 21, .mov (.tmp 5), none⟩,
 ⟨some 4, .mov (.tmp 21), none⟩])
 .ret))))⟩

/-- kilovar/link.checkRounds$2 -/
def ir136 : AFun := ⟨16, 2, [.tmp 3],
 (.seq
 (.reg [0] [⟨some 2, .cbx 0 3 (.tmp 0), none⟩,
 ⟨some 3, .mov (.cst (.d (.int .i64 0))), none⟩])
 (.seq
 (.regd [1] [⟨some 4, .fad 0 (.tmp 2), none⟩,
 ⟨some 5, .ld false 1 (.tmp 4), none⟩,
 ⟨some 6, .ld false 1 (.tmp 1), none⟩,
 ⟨some 7, .call 137 [(.tmp 5), (.tmp 6)], none⟩,
 ⟨some 8, .call 81 [(.tmp 7)], none⟩,
 ⟨some 9, .fad 1 (.tmp 2), none⟩,
 ⟨some 10, .ld false 1 (.tmp 9), none⟩,
 ⟨some 11, .ld false 1 (.tmp 1), none⟩,
 ⟨some 12, .call 137 [(.tmp 10), (.tmp 11)], none⟩,
 ⟨some 13, .call 81 [(.tmp 12)], none⟩,
 ⟨some 14, .bsl 1 31 1 2 [(.int .i64 0), (.int .i64 0)] [(0, (.tmp 8)), (1, (.tmp 13))], none⟩,
 ⟨some 15, .call 81 [(.tmp 14)], none⟩,
 ⟨some 3, .mov (.tmp 15), none⟩] [(0, 2), (1, 2), (0, 5), (1, 5), (2, 5), (3, 5), (4, 5), (0, 6), (1, 6), (2, 6), (3, 6), (4, 6), (0, 7), (1, 7), (2, 7), (3, 7), (4, 7), (5, 7), (6, 7)])
 .ret))⟩

/-- kilovar/link.mapped[int,kilovar/api.Errno] -/
def ir137 : AFun := ⟨22, 2, [.tmp 4],
 (.seq
 (.reg [] [⟨some 4, .mov (.cst (.nils 1)), none⟩])
 (.seq
 (.reg [] [⟨some 5, .mov (.cst (.nils 1)), none⟩])
 (.seq
 (.seq
 (.reg [] [⟨some 8, .mov (.tmp 0), none⟩,
 ⟨some 9, .len (.tmp 8), none⟩,
 ⟨some 10, .mov (.cst (.d (.int .i64 0))), none⟩])
 (.post [5] [0, 1]
 (.block 0
 (.asrow 1 31 1 5
 (.keep [1, 5, 8, 9, 10] []
 (.loop
 (.post [1, 5, 8, 9, 10] [0, 1]
 (.seq
 (.reg [] [⟨some 11, .cmp .lss (.tmp 10) (.tmp 9), none⟩])
 (.seq
 (.cond (.tmp 11)
 .skip
 (.exit 0))
 (.seq
 (.block 1
 (.seq
 (.reg [] [⟨some 12, .ixa 1 (.tmp 8) (.tmp 10), none⟩,
 ⟨some 13, .ld false 1 (.tmp 12), none⟩,
 ⟨some 7, .mov (.tmp 13), none⟩])
 (.reg [0, 1] [⟨some 14, .mov (.tmp 5), none⟩,
 ⟨some 15, .mov (.tmp 1), none⟩,
 ⟨some 16, .mov (.tmp 7), none⟩,
 ⟨some 17, .callv (.tmp 15) [(.tmp 16)], none⟩,
 ⟨some 18, .bsl 0 31 1 1 [(.int .i64 0)] [(0, (.tmp 17))], none⟩,
 ⟨some 19, .app 1 31 1 8 (.tmp 14) (.tmp 18), none⟩,
 ⟨some 5, .mov (.tmp 19), none⟩])))
 (.reg [] [⟨some 20, .arith .add .i64 (.tmp 10) (.cst (.d (.int .i64 1))), none⟩,
 ⟨some 10, .mov (.tmp 20), none⟩])))))))))))
 (.seq
 (.reg [] [⟨some 21, .mov (.tmp 5), none⟩,
 ⟨some 4, .mov (.tmp 21), none⟩])
 .ret))))⟩

/-- kilovar/link.same -/
def ir139 : AFun := ⟨31, 2, [.tmp 4],
 (.seq
 (.reg [0, 1] [⟨some 2, .cbx 0 4 (.tmp 0), none⟩,
 ⟨some 3, .cbx 1 4 (.tmp 1), none⟩,
 ⟨some 4, .mov (.cst (.d (.bool false))), none⟩])
 (.seq
 (.reg [] [⟨some 5, .fad 0 (.tmp 2), none⟩,
 ⟨some 6, .ld false 1 (.tmp 5), none⟩,
 ⟨some 7, .fad 0 (.tmp 3), none⟩,
 ⟨some 8, .ld false 1 (.tmp 7), none⟩,
 ⟨some 9, .cmp .eql (.tmp 6) (.tmp 8), none⟩,
 ⟨some 10, .mov (.tmp 9), none⟩,
 ⟨some 11, .fad 1 (.tmp 2), some (10, true)⟩,
 ⟨some 12, .ld false 1 (.tmp 11), some (10, true)⟩,
 ⟨some 13, .fad 1 (.tmp 3), some (10, true)⟩,
 ⟨some 14, .ld false 1 (.tmp 13), some (10, true)⟩,
 ⟨some 15, .cmp .eql (.tmp 12) (.tmp 14), some (10, true)⟩,
 ⟨some 16, .pick (.tmp 10) (.tmp 15) (.cst (.d (.bool false))), none⟩,
 ⟨some 17, .mov (.tmp 16), none⟩,
 ⟨some 18, .fad 2 (.tmp 2), some (17, true)⟩,
 ⟨some 19, .ld false 1 (.tmp 18), some (17, true)⟩,
 ⟨some 20, .fad 2 (.tmp 3), some (17, true)⟩,
 ⟨some 21, .ld false 1 (.tmp 20), some (17, true)⟩,
 ⟨some 22, .cmp .eql (.tmp 19) (.tmp 21), some (17, true)⟩,
 ⟨some 23, .pick (.tmp 17) (.tmp 22) (.cst (.d (.bool false))), none⟩,
 ⟨some 24, .mov (.tmp 23), none⟩,
 ⟨some 25, .fad 3 (.tmp 2), some (24, true)⟩,
 ⟨some 26, .ld false 1 (.tmp 25), some (24, true)⟩,
 ⟨some 27, .fad 3 (.tmp 3), some (24, true)⟩,
 ⟨some 28, .ld false 1 (.tmp 27), some (24, true)⟩,
 ⟨some 29, .call 86 [(.tmp 26), (.tmp 28)], some (24, true)⟩,
 ⟨some 30, .pick (.tmp 24) (.tmp 29) (.cst (.d (.bool false))), none⟩,
 ⟨some 4, .mov (.tmp 30), none⟩])
 .ret))⟩

/-- slices.EqualFunc[[]kilovar/link.Frame,[]kilovar/link.Frame,kilovar/link.Frame,kilovar/link.Frame] -/
def ir138 : AFun := ⟨32, 2, [.tmp 6],
 (.seq
 (.reg [] [⟨some 6, .mov (.cst (.d (.bool false))), none⟩])
 (.seq
 (.seq
 (.reg [] [⟨some 10, .mov (.tmp 0), none⟩,
 ⟨some 11, .len (.tmp 10), none⟩,
 ⟨some 12, .mov (.tmp 1), none⟩,
 ⟨some 13, .len (.tmp 12), none⟩,
 ⟨some 14, .cmp .neq (.tmp 11) (.tmp 13), none⟩])
 (.cond (.tmp 14)
 (.seq
 (.reg [] [⟨some 6, .mov (.cst (.d (.bool false))), none⟩])
 .ret)
 .skip))
 (.seq
 (.seq
 (.reg [] [⟨some 15, .mov (.tmp 0), none⟩,
 ⟨some 16, .len (.tmp 15), none⟩,
 ⟨some 17, .mov (.cst (.d (.int .i64 0))), none⟩])
 (.post [] [0, 1]
 (.block 0
 (.keep [1, 2, 15, 16, 17] []
 (.loop
 (.post [1, 2, 15, 16, 17] [0, 1]
 (.seq
 (.reg [] [⟨some 18, .cmp .lss (.tmp 17) (.tmp 16), none⟩])
 (.seq
 (.cond (.tmp 18)
 .skip
 (.exit 0))
 (.seq
 (.block 1
 (.seq
 (.reg [0] [⟨some 19, .mov (.tmp 17), none⟩,
 ⟨some 20, .ixa 4 (.tmp 15) (.tmp 17), none⟩,
 ⟨some 21, .ld true 4 (.tmp 20), none⟩,
 ⟨some 8, .alloc 0 [(.d (.int .i64 0)), (.d (.int .i64 0)), (.d (.int .i64 0)), (.nils 1)], none⟩,
 ⟨some 7, .mov (.tmp 19), none⟩,
 ⟨none, .st 4 (.tmp 8) (.tmp 21), none⟩])
 (.seq
 (.reg [1] [⟨some 22, .mov (.tmp 1), none⟩,
 ⟨some 23, .mov (.tmp 7), none⟩,
 ⟨some 24, .ixa 4 (.tmp 22) (.tmp 23), none⟩,
 ⟨some 25, .ld true 4 (.tmp 24), none⟩,
 ⟨some 9, .alloc 1 [(.d (.int .i64 0)), (.d (.int .i64 0)), (.d (.int .i64 0)), (.nils 1)], none⟩,
 ⟨none, .st 4 (.tmp 9) (.tmp 25), none⟩])
 (.seq
 (.reg [] [⟨some 26, .mov (.tmp 2), none⟩,
 ⟨some 27, .ld true 4 (.tmp 8), none⟩,
 ⟨some 28, .ld true 4 (.tmp 9), none⟩,
 ⟨some 29, .callv (.tmp 26) [(.tmp 27), (.tmp 28)], none⟩,
 ⟨some 30, .not (.tmp 29), none⟩])
 (.cond (.tmp 30)
 (.seq
 (.reg [] [⟨some 6, .mov (.cst (.d (.bool false))), none⟩])
 .ret)
 .skip)))))
 (.reg [] [⟨some 31, .arith .add .i64 (.tmp 17) (.cst (.d (.int .i64 1))), none⟩,
 ⟨some 17, .mov (.tmp 31), none⟩]))))))))))
 (.seq
 (.reg [] [⟨some 6, .mov (.cst (.d (.bool true))), none⟩])
 .ret))))⟩

/-- slices.Index[[]int,int] -/
def ir140 : AFun := ⟨19, 0, [.tmp 4],
 (.seq
 (.reg [] [⟨some 4, .mov (.cst (.d (.int .i64 0))), none⟩])
 (.seq
 (.seq
 (.reg [] [⟨some 6, .mov (.tmp 0), none⟩,
 ⟨some 7, .len (.tmp 6), none⟩,
 ⟨some 8, .mov (.cst (.d (.int .i64 0))), none⟩])
 (.post [] []
 (.block 0
 (.keep [0, 1, 7, 8] []
 (.loop
 (.post [0, 1, 7, 8] []
 (.seq
 (.reg [] [⟨some 9, .cmp .lss (.tmp 8) (.tmp 7), none⟩])
 (.seq
 (.cond (.tmp 9)
 .skip
 (.exit 0))
 (.seq
 (.block 1
 (.seq
 (.reg [] [⟨some 10, .mov (.tmp 8), none⟩,
 ⟨some 5, .mov (.tmp 10), none⟩])
 (.seq
 (.reg [] [⟨some 11, .mov (.tmp 1), none⟩,
 ⟨some 12, .mov (.tmp 0), none⟩,
 ⟨some 13, .mov (.tmp 5), none⟩,
 ⟨some 14, .ixa 1 (.tmp 12) (.tmp 13), none⟩,
 ⟨some 15, .ld false 1 (.tmp 14), none⟩,
 ⟨some 16, .cmp .eql (.tmp 11) (.tmp 15), none⟩])
 (.cond (.tmp 16)
 (.seq
 (.reg [] [⟨some 17, .mov (.tmp 5), none⟩,
 ⟨some 4, .mov (.tmp 17), none⟩])
 .ret)
 .skip))))
 (.reg [] [⟨some 18, .arith .add .i64 (.tmp 8) (.cst (.d (.int .i64 1))), none⟩,
 ⟨some 8, .mov (.tmp 18), none⟩]))))))))))
 (.seq
 (.reg [] [⟨some 4, .mov (.cst (.d (.int .i64 (-1)))), none⟩])
 .ret)))⟩

/-- slices.Contains[[]int,int] -/
def ir104 : AFun := ⟨9, 0, [.tmp 4],
 (.seq
 (.reg [] [⟨some 4, .mov (.cst (.d (.bool false))), none⟩])
 (.seq
 (.reg [] [⟨some 5, .mov (.tmp 0), none⟩,
 ⟨some 6, .mov (.tmp 1), none⟩,
 ⟨some 7, .call 140 [(.tmp 5), (.tmp 6)], none⟩,
 ⟨some 8, .cmp .geq (.tmp 7) (.cst (.d (.int .i64 0))), none⟩,
 ⟨some 4, .mov (.tmp 8), none⟩])
 .ret))⟩

/-- kilovar/kilovarref01.HasInt -/
def ir106 : AFun := ⟨18, 0, [.tmp 4],
 (.seq
 (.reg [] [⟨some 4, .mov (.cst (.d (.bool false))), none⟩])
 (.seq
 (.seq
 (.reg [] [⟨some 5, .mov (.cst (.d (.int .i64 0))), none⟩])
 (.post [] []
 (.block 0
 (.keep [0, 1, 5] []
 (.loop
 (.post [0, 1, 5] []
 (.seq
 (.seq
 (.reg [] [⟨some 6, .mov (.tmp 5), none⟩,
 ⟨some 7, .mov (.tmp 0), none⟩,
 ⟨some 8, .len (.tmp 7), none⟩,
 ⟨some 9, .cmp .lss (.tmp 6) (.tmp 8), none⟩])
 (.cond (.tmp 9)
 .skip
 (.exit 0)))
 (.seq
 (.block 1
 (.seq
 (.reg [] [⟨some 12, .mov (.tmp 0), none⟩,
 ⟨some 13, .mov (.tmp 5), none⟩,
 ⟨some 14, .ixa 1 (.tmp 12) (.tmp 13), none⟩,
 ⟨some 15, .ld false 1 (.tmp 14), none⟩,
 ⟨some 16, .mov (.tmp 1), none⟩,
 ⟨some 17, .cmp .eql (.tmp 15) (.tmp 16), none⟩])
 (.cond (.tmp 17)
 (.seq
 (.reg [] [⟨some 4, .mov (.cst (.d (.bool true))), none⟩])
 .ret)
 .skip)))
 (.reg [] [⟨some 10, .mov (.tmp 5), none⟩,
 ⟨some 11, .arith .add .i64 (.tmp 10) (.cst (.d (.int .i64 1))), none⟩,
 ⟨some 5, .mov (.tmp 11), none⟩])))))))))
 (.seq
 (.reg [] [⟨some 4, .mov (.cst (.d (.bool false))), none⟩])
 .ret)))⟩

/-- (kilovar/link.Sender).fits -/
def ir102 : AFun := ⟨34, 2, [.tmp 4],
 (.seq
 (.reg [0, 1] [⟨some 2, .cbx 0 3 (.tmp 0), none⟩,
 ⟨some 3, .cbx 1 2 (.tmp 1), none⟩,
 ⟨some 4, .mov (.cst (.d (.bool false))), none⟩])
 (.seq
 (.regd [] [⟨some 5, .fad 0 (.tmp 3), none⟩,
 ⟨some 6, .ld false 1 (.tmp 5), none⟩,
 ⟨some 7, .fad 1 (.tmp 2), none⟩,
 ⟨some 8, .ld false 1 (.tmp 7), none⟩,
 ⟨some 9, .cmp .geq (.tmp 6) (.tmp 8), none⟩,
 ⟨some 10, .mov (.tmp 9), none⟩,
 ⟨some 11, .fad 0 (.tmp 3), some (10, true)⟩,
 ⟨some 12, .ld false 1 (.tmp 11), some (10, true)⟩,
 ⟨some 13, .fad 0 (.tmp 2), some (10, true)⟩,
 ⟨some 14, .ld false 1 (.tmp 13), some (10, true)⟩,
 ⟨some 15, .len (.tmp 14), some (10, true)⟩,
 ⟨some 16, .fad 1 (.tmp 2), some (10, true)⟩,
 ⟨some 17, .ld false 1 (.tmp 16), some (10, true)⟩,
 ⟨some 18, .fad 2 (.tmp 2), some (10, true)⟩,
 ⟨some 19, .ld false 1 (.tmp 18), some (10, true)⟩,
 ⟨some 20, .arith .add .i64 (.tmp 17) (.tmp 19), some (10, true)⟩,
 ⟨some 21, .mini (.tmp 15) (.tmp 20), some (10, true)⟩,
 ⟨some 22, .cmp .leq (.tmp 12) (.tmp 21), some (10, true)⟩,
 ⟨some 23, .pick (.tmp 10) (.tmp 22) (.cst (.d (.bool false))), none⟩,
 ⟨some 24, .mov (.tmp 23), none⟩,
 ⟨some 25, .fad 1 (.tmp 3), some (24, true)⟩,
 ⟨some 26, .ld false 1 (.tmp 25), some (24, true)⟩,
 ⟨some 27, .fad 0 (.tmp 2), some (24, true)⟩,
 ⟨some 28, .ld false 1 (.tmp 27), some (24, true)⟩,
 ⟨some 29, .fad 0 (.tmp 3), some (24, true)⟩,
 ⟨some 30, .ld false 1 (.tmp 29), some (24, true)⟩,
 ⟨some 31, .slc 4 (.tmp 28) none (some (.tmp 30)), some (24, true)⟩,
 ⟨some 32, .call 138 [(.tmp 26), (.tmp 31), (.cst (.d (.fn (.func 139) [])))], some (24, true)⟩,
 ⟨some 33, .pick (.tmp 24) (.tmp 32) (.cst (.d (.bool false))), none⟩,
 ⟨some 4, .mov (.tmp 33), none⟩] [(0, 2), (1, 2), (0, 3), (1, 3), (6, 8), (7, 8), (6, 9), (7, 9), (6, 10), (7, 10), (6, 11), (7, 11), (8, 11), (9, 11), (10, 11), (6, 12), (7, 12), (8, 12), (9, 12), (10, 12), (6, 13), (7, 13), (8, 13), (9, 13), (10, 13), (11, 13), (12, 13), (6, 14), (7, 14), (8, 14), (9, 14), (10, 14), (11, 14), (12, 14), (6, 15), (7, 15), (8, 15), (9, 15), (10, 15), (6, 16), (7, 16), (20, 22), (21, 22), (20, 23), (21, 23), (20, 24), (21, 24), (22, 24), (23, 24), (20, 25), (21, 25), (22, 25), (23, 25), (20, 26), (21, 26)])
 .ret))⟩


structure Rd where
  lost : List Int
  dbl : List Int
  deaf : Bool
def Rd.d (x : Rd) : Data := .agg [.slice 1 (ints x.lost), .slice 1 (ints x.dbl), .bool x.deaf]
def rds (l : List Rd) : List Data := l.map Rd.d
def in7 (i : Int) : Int := within3 i 0 7
def chkIx (l : List Int) : Int := firstOf (l.map in7)
def Rd.chk (x : Rd) : Int := firstOf [chkIx x.lost, chkIx x.dbl]
def chkRds (l : List Rd) : Int := bif decide ((64 : Int) < (l.length : Int)) then 5 else firstOf (l.map Rd.chk)
def Rd.small (x : Rd) : Prop := x.lost.length ≤ 1048576 ∧ x.dbl.length ≤ 1048576
theorem c134 (i : Int) : CallDet Tryz.prog 134 [.d (.int .i64 i)] [.int .i64 (in7 i)] := by
  refine call_of_vc (x := ir134) (by kernel_rfl) rfl ?_
  refine Exists.intro _ (And.intro (c82 _ _ _) ?_)
  exact rfl

theorem c137 (l : List Int) (hl : l.length ≤ 1048576) :
    CallDet Tryz.prog 137 [.d (.slice 1 (ints l)), .d (.fn (.func 134) [])] [.slice 1 (ints (l.map in7))] := by
  refine call_of_vc (x := ir137) (by kernel_rfl) rfl ?_
  have hlen : (ints l).length = l.length := by simp [ints]
  refine loop_st (fun a : Nat × List Data => ⟨[(1, .d (.fn (.func 134) [])), (5, .sl 1 a.2.length), (8, .d (.slice 1 (ints l))), (9, .d (.int .i64 (ints l).length)), (10, .d (.int .i64 a.1))], [.none, .row 31 1 a.2 false]⟩)
    (fun a => a.2 = (l.take a.1).map fun x => .int .i64 (in7 x)) (fun a => l.length - a.1) (0, []) rfl rfl ?_
  rintro ⟨k, acc⟩ hk
  refine And.intro rfl ?_
  refine brk_intro ?_ ?_
  · intro h
    have h : (k : Int) < (ints l).length := of_decide_eq_true h
    obtain ⟨x, hx⟩ : ∃ x, l[k]? = some x := ⟨_, List.getElem?_eq_getElem (by omega)⟩
    have hd : (ints l)[(k : Int).toNat]? = some (.int .i64 x) := by simp [ints, hx]
    have hacc : acc.length = k := by have := congrArg List.length hk; simp at this; omega
    refine ix_at hd (by omega) ?_
    refine Exists.intro _ (And.intro (c134 x) ?_)
    refine And.intro rfl ?_
    refine And.intro rfl ?_
    refine And.intro rfl ?_
    refine And.intro ⟨rfl, rfl, rfl, ?_, ?_⟩ ?_
    · show (acc.length + 1) * 8 ≤ 2 ^ 47
      omega
    · show acc.length + 1 ≤ 2 ^ 47
      omega
    refine ar_add (by omega) ?_
    refine ⟨(k + 1, acc ++ [.int .i64 (in7 x)]), ⟨?_, by show l.length - (k + 1) < l.length - k; omega⟩, rfl⟩
    show acc ++ [.int .i64 (in7 x)] = (l.take (k + 1)).map fun x => Data.int .i64 (in7 x)
    rw [take_map_succ _ hx]
    exact congrArg (· ++ [Data.int .i64 (in7 x)]) hk
  · intro h
    have h : ¬ (k : Int) < (ints l).length := of_decide_eq_false h
    refine And.intro rfl ?_
    have e : ints (l.map in7) = acc := by
      have hk : acc = (l.take k).map fun x => Data.int .i64 (in7 x) := hk
      rw [hk, List.take_of_length_le (by omega)]
      simp [ints]
    rw [e]
    exact rfl

theorem c136 (x : Rd) (hx : x.small) : CallDet Tryz.prog 136 [.d x.d, .cp [.fn (.func 134) []] 0] [.int .i64 x.chk] := by
  have h1 : (x.lost.map in7).length < 9223372036854775807 := by rw [List.length_map]; have := hx.1; omega
  have h2 : (x.dbl.map in7).length < 9223372036854775807 := by rw [List.length_map]; have := hx.2; omega
  refine call_of_vc (x := ir136) (by kernel_rfl) rfl ?_
  refine Exists.intro _ (And.intro (c137 x.lost hx.1) ?_)
  refine Exists.intro _ (And.intro (c81 _ h1) ?_)
  refine Exists.intro _ (And.intro (c137 x.dbl hx.2) ?_)
  refine Exists.intro _ (And.intro (c81 _ h2) ?_)
  repeat refine And.intro rfl ?_
  refine Exists.intro _ (And.intro (c81 [chkIx x.lost, chkIx x.dbl] (by simp)) ?_)
  exact rfl

theorem c135 (l : List Rd) (hl : l.length ≤ 1048576) (hs : ∀ x ∈ l, x.small) :
    CallDet Tryz.prog 135 [.d (.slice 3 (rds l)), .d (.fn (.func 136) [.agg [.fn (.func 134) []]])] [.slice 1 (ints (l.map Rd.chk))] := by
  refine call_of_vc (x := ir135) (by kernel_rfl) rfl ?_
  have hlen : (rds l).length = l.length := by simp [rds]
  refine loop_st (fun a : Nat × List Data => ⟨[(1, .d (.fn (.func 136) [.agg [.fn (.func 134) []]])), (5, .sl 2 a.2.length), (8, .d (.slice 3 (rds l))), (9, .d (.int .i64 (rds l).length)), (10, .d (.int .i64 a.1))], [.none, .none, .row 31 1 a.2 false]⟩)
    (fun a => a.2 = (l.take a.1).map fun x => .int .i64 (Rd.chk x)) (fun a => l.length - a.1) (0, []) rfl rfl ?_
  rintro ⟨k, acc⟩ hk
  refine And.intro rfl ?_
  refine brk_intro ?_ ?_
  · intro h
    have h : (k : Int) < (rds l).length := of_decide_eq_true h
    obtain ⟨x, hx⟩ : ∃ x, l[k]? = some x := ⟨_, List.getElem?_eq_getElem (by omega)⟩
    have hd : (rds l)[(k : Int).toNat]? = some (x.d) := by simp [rds, hx]
    have hacc : acc.length = k := by have := congrArg List.length hk; simp at this; omega
    refine ix_at hd (by omega) ?_
    refine Exists.intro _ (And.intro (c136 x (hs x (List.mem_of_getElem? hx))) ?_)
    refine And.intro rfl ?_
    refine And.intro rfl ?_
    refine And.intro rfl ?_
    refine And.intro ⟨rfl, rfl, rfl, ?_, ?_⟩ ?_
    · show (acc.length + 1) * 8 ≤ 2 ^ 47
      omega
    · show acc.length + 1 ≤ 2 ^ 47
      omega
    refine ar_add (by omega) ?_
    refine ⟨(k + 1, acc ++ [.int .i64 (Rd.chk x)]), ⟨?_, by show l.length - (k + 1) < l.length - k; omega⟩, rfl⟩
    show acc ++ [.int .i64 (Rd.chk x)] = (l.take (k + 1)).map fun x => Data.int .i64 (Rd.chk x)
    rw [take_map_succ _ hx]
    exact congrArg (· ++ [Data.int .i64 (Rd.chk x)]) hk
  · intro h
    have h : ¬ (k : Int) < (rds l).length := of_decide_eq_false h
    refine And.intro rfl ?_
    have e : ints (l.map Rd.chk) = acc := by
      have hk : acc = (l.take k).map fun x => Data.int .i64 (Rd.chk x) := hk
      rw [hk, List.take_of_length_le (by omega)]
      simp [ints]
    rw [e]
    exact rfl

theorem c101 (l : List Rd) (hl : l.length ≤ 1048576) (hs : ∀ x ∈ l, x.small) : CallDet Tryz.prog 101 [.d (.slice 3 (rds l))] [.int .i64 (chkRds l)] := by
  have hlen : (rds l).length = l.length := by simp [rds]
  refine call_of_vc (x := ir101) (by kernel_rfl) rfl ?_
  refine And.intro rfl ?_
  refine brk_intro ?_ ?_
  · intro h
    have h : decide ((64 : Int) < ((rds l).length : Int)) = true := h
    rw [hlen] at h
    rw [chkRds, h]
    exact rfl
  · intro h
    have h : decide ((64 : Int) < ((rds l).length : Int)) = false := h
    rw [hlen] at h
    refine Exists.intro _ (And.intro (c135 l hl hs) ?_)
    refine Exists.intro _ (And.intro (c81 _ (by rw [List.length_map]; omega)) ?_)
    rw [chkRds, h]
    exact rfl
theorem c139 (f g : Fr) (hf : f.b.length ≤ 1048576) : CallDet Tryz.prog 139 [.d f.d, .d g.d] [.bool (f.same g)] := by
  refine call_of_vc (x := ir139) (by kernel_rfl) rfl ?_
  refine And.intro rfl ?_
  refine brk_intro ?_ ?_
  · intro h1
    have h1 : (f.m == g.m) = true := h1
    refine And.intro rfl ?_
    refine brk_intro ?_ ?_
    · intro h2
      have h2 : (f.p == g.p) = true := h2
      refine And.intro rfl ?_
      refine brk_intro ?_ ?_
      · intro h3
        have h3 : (f.n == g.n) = true := h3
        refine Exists.intro _ (And.intro (c86 f.b g.b hf) ?_)
        repeat refine And.intro rfl ?_
        rw [Fr.same, h1, h2, h3]
        exact rfl
      · intro h3
        have h3 : (f.n == g.n) = false := h3
        repeat refine And.intro rfl ?_
        rw [Fr.same, h1, h2, h3]
        exact rfl
    · intro h2
      have h2 : (f.p == g.p) = false := h2
      repeat refine And.intro rfl ?_
      rw [Fr.same, h1, h2]
      exact rfl
  · intro h1
    have h1 : (f.m == g.m) = false := h1
    repeat refine And.intro rfl ?_
    rw [Fr.same, h1]
    exact rfl
theorem c138 (a b : List Fr) (ha : a.length ≤ 1048576) (hb : ∀ f ∈ a, f.b.length ≤ 1048576) : CallDet Tryz.prog 138 [.d (.slice 4 (frs a)), .d (.slice 4 (frs b)), .d (.fn (.func 139) [])] [.bool (sameFrames a b)] := by
  refine call_of_vc (x := ir138) (by kernel_rfl) rfl ?_
  have hla := frs_len a
  have hlb := frs_len b
  refine And.intro rfl ?_
  refine brk_intro ?_ ?_
  · intro h
    have h : (((frs a).length : Int) != ((frs b).length : Int)) = true := h
    rw [sameFrames_len (a := a) (b := b) (by simp at h; omega)]
    exact rfl
  · intro h
    have h : (((frs a).length : Int) != ((frs b).length : Int)) = false := h
    have hl : a.length = b.length := by simp at h; omega
    refine loop_st (fun k : Nat => ⟨[(1, .d (.slice 4 (frs b))), (2, .d (.fn (.func 139) [])), (15, .d (.slice 4 (frs a))), (16, .d (.int .i64 (frs a).length)), (17, .d (.int .i64 k))], [.none, .none]⟩)
      (fun k => sameFrames a b = sameFrames (a.drop k) (b.drop k)) (fun k => a.length - k) 0 rfl rfl ?_
    intro k hk
    refine And.intro rfl ?_
    refine brk_intro ?_ ?_
    · intro h
      have h : (k : Int) < (frs a).length := of_decide_eq_true h
      obtain ⟨x, hx⟩ : ∃ x, a[k]? = some x := ⟨_, List.getElem?_eq_getElem (by omega)⟩
      obtain ⟨y, hy⟩ : ∃ y, b[k]? = some y := ⟨_, List.getElem?_eq_getElem (by omega)⟩
      refine ix_at (frs_get hx) (by omega) ?_
      refine ix_at (frs_get hy) (by omega) ?_
      refine Exists.intro _ (And.intro (c139 x y (hb x (List.mem_of_getElem? hx))) ?_)
      refine brk_intro ?_ ?_
      · intro h2
        have h2 : (!x.same y) = true := h2
        have e : sameFrames a b = false := by
          rw [hk, drop_at hx, drop_at hy]
          simp only [sameFrames, show x.same y = false by simpa using h2, Bool.false_and]
        rw [e]
        exact rfl
      · intro h2
        have h2 : (!x.same y) = false := h2
        refine ar_add (by omega) ?_
        refine ⟨k + 1, ⟨?_, by omega⟩, rfl⟩
        have e : sameFrames a b = sameFrames (a.drop (k + 1)) (b.drop (k + 1)) := by
          rw [hk, drop_at hx, drop_at hy]
          simp only [sameFrames, show x.same y = true by simpa using h2, Bool.true_and]
        exact e
    · intro h
      have h : ¬ ((k : Int) < (frs a).length) := of_decide_eq_false h
      have e : sameFrames a b = true := by
        rw [hk, List.drop_eq_nil_of_le (by omega), List.drop_eq_nil_of_le (by omega)]
        rfl
      rw [e]
      exact rfl
def ixI (x : Int) : List Int → Int → Int
  | [], _ => -1
  | y :: r, k => bif x == y then k else ixI x r (k + 1)
theorem ixI_ge (x : Int) : ∀ (l : List Int) (k : Int), 0 ≤ k → decide (0 ≤ ixI x l k) = l.contains x
  | [], k, _ => rfl
  | y :: r, k, hk => by
    simp only [ixI, List.contains_cons]
    rcases Bool.eq_false_or_eq_true (x == y) with h | h
    · simp [h, hk]
    · simp only [h, cond_false, Bool.false_or]; exact ixI_ge x r (k + 1) (by omega)
theorem c140 (l : List Int) (x : Int) (hl : l.length ≤ 1048576) : CallDet Tryz.prog 140 [.d (.slice 1 (ints l)), .d (.int .i64 x)] [.int .i64 (ixI x l 0)] := by
  have hlen : (ints l).length = l.length := by simp [ints]
  refine call_of_vc (x := ir140) (by kernel_rfl) rfl ?_
  refine loop_st (fun k : Nat => ⟨[(0, .d (.slice 1 (ints l))), (1, .d (.int .i64 x)), (7, .d (.int .i64 (ints l).length)), (8, .d (.int .i64 k))], []⟩)
    (fun k => ixI x l 0 = ixI x (l.drop k) k) (fun k => l.length - k) 0 rfl rfl ?_
  intro k hk
  refine And.intro rfl ?_
  refine brk_intro ?_ ?_
  · intro h
    have h : (k : Int) < (ints l).length := of_decide_eq_true h
    refine Exists.elim (⟨_, List.getElem?_eq_getElem (by omega)⟩ : ∃ y, l[k]? = some y) fun y hy => ?_
    refine ix_at (ints_get hy) (by omega) ?_
    refine And.intro rfl ?_
    refine brk_intro ?_ ?_
    · intro h2
      have h2 : (x == y) = true := h2
      have e : ixI x l 0 = k := by rw [hk, drop_at hy, ixI, h2]; rfl
      rw [e]
      exact rfl
    · intro h2
      have h2 : (x == y) = false := h2
      refine ar_add (by omega) ?_
      refine ⟨k + 1, ⟨?_, by omega⟩, rfl⟩
      rw [hk, drop_at hy, ixI, h2]
      rfl
  · intro h
    have h : ¬ ((k : Int) < (ints l).length) := of_decide_eq_false h
    have e : ixI x l 0 = -1 := by rw [hk, List.drop_eq_nil_of_le (by omega)]; rfl
    rw [e]
    exact rfl
theorem c104 (l : List Int) (x : Int) (hl : l.length ≤ 1048576) : CallDet Tryz.prog 104 [.d (.slice 1 (ints l)), .d (.int .i64 x)] [.bool (l.contains x)] := by
  refine call_of_vc (x := ir104) (by kernel_rfl) rfl ?_
  refine Exists.intro _ (And.intro (c140 l x hl) ?_)
  refine And.intro rfl ?_
  rw [← ixI_ge x l 0 (by omega)]
  exact rfl
theorem c106 (l : List Int) (x : Int) (hl : l.length ≤ 1048576) : CallDet Tryz.prog 106 [.d (.slice 1 (ints l)), .d (.int .i64 x)] [.bool (l.contains x)] := by
  have hlen : (ints l).length = l.length := by simp [ints]
  refine call_of_vc (x := ir106) (by kernel_rfl) rfl ?_
  refine loop_st (fun k : Nat => ⟨[(0, .d (.slice 1 (ints l))), (1, .d (.int .i64 x)), (5, .d (.int .i64 k))], []⟩)
    (fun k => l.contains x = (l.drop k).contains x) (fun k => l.length - k) 0 rfl rfl ?_
  intro k hk
  refine And.intro rfl ?_
  refine brk_intro ?_ ?_
  · intro h
    have h : (k : Int) < (ints l).length := of_decide_eq_true h
    refine Exists.elim (⟨_, List.getElem?_eq_getElem (by omega)⟩ : ∃ y, l[k]? = some y) fun y hy => ?_
    refine ix_at (ints_get hy) (by omega) ?_
    refine And.intro rfl ?_
    refine brk_intro ?_ ?_
    · intro h2
      have h2 : (y == x) = true := h2
      have e : l.contains x = true := by
        rw [hk, drop_at hy, List.contains_cons, show (x == y) = true by rw [eq_of_beq h2]; simp]; rfl
      rw [e]
      exact rfl
    · intro h2
      have h2 : (y == x) = false := h2
      refine ar_add (by omega) ?_
      refine ⟨k + 1, ⟨?_, by omega⟩, rfl⟩
      have e : l.contains x = (l.drop (k + 1)).contains x := by
        rw [hk, drop_at hy, List.contains_cons, show (x == y) = false by simpa using fun e => ne_of_beq_false h2 e.symm]; rfl
      exact e
  · intro h
    have h : ¬ ((k : Int) < (ints l).length) := of_decide_eq_false h
    have e : l.contains x = false := by rw [hk, List.drop_eq_nil_of_le (by omega)]; rfl
    rw [e]
    exact rfl
def fitsB (s : Sn) (r : Rc) : Bool := decide (s.a ≤ r.t) && (decide (r.t ≤ min ((frs s.q).length : Int) (s.a + s.w)) && sameFrames r.l (s.q.take r.t.toNat))
theorem c102 (s : Sn) (r : Rc) (hs : chkSn s = 0) (hr : r.l.length ≤ 1048576) (hrb : ∀ f ∈ r.l, f.b.length ≤ 1048576) : CallDet Tryz.prog 102 [.d s.d, .d r.d] [.bool (fitsB s r)] := by
  obtain ⟨_, h1, h2, h3⟩ := chkSn_zero hs
  have hlen := frs_len s.q
  refine call_of_vc (x := ir102) (by kernel_rfl) rfl ?_
  refine And.intro rfl ?_
  refine brk_intro ?_ ?_
  · intro k1
    have k1 : decide (s.a ≤ r.t) = true := k1
    refine ar_add (by omega) ?_
    repeat refine And.intro rfl ?_
    refine brk_intro ?_ ?_
    · intro k2
      have k2 : decide (r.t ≤ min ((frs s.q).length : Int) (s.a + s.w)) = true := k2
      have k1' := of_decide_eq_true k1
      have k2' := of_decide_eq_true k2
      have hA : 0 ≤ (0 : Int) ∧ (0 : Int) ≤ r.t ∧ r.t ≤ (frs s.q).length := by omega
      refine And.intro ⟨rfl, hA⟩ ?_
      have e : ((frs s.q).take r.t.toNat).drop (0 : Int).toNat = frs (s.q.take r.t.toNat) := by simp [frs, List.map_take]
      refine Exists.intro [.bool (sameFrames r.l (s.q.take r.t.toNat))] (And.intro ?_ ?_)
      · show CallDet Tryz.prog 138 [.d (.slice 4 (frs r.l)), .d (.slice 4 (((frs s.q).take r.t.toNat).drop (0 : Int).toNat)), .d (.fn (.func 139) [])] _
        rw [e]
        exact c138 _ _ hr hrb
      repeat refine And.intro rfl ?_
      rw [fitsB, k1, k2]
      exact rfl
    · intro k2
      have k2 : decide (r.t ≤ min ((frs s.q).length : Int) (s.a + s.w)) = false := k2
      repeat refine And.intro rfl ?_
      rw [fitsB, k1, k2]
      exact rfl
  · intro k1
    have k1 : decide (s.a ≤ r.t) = false := k1
    repeat refine And.intro rfl ?_
    rw [fitsB, k1]
    exact rfl
end Vc

set_option maxRecDepth 10000
namespace Vc
open Go Go.Proofs
/-! Rounds, in plain Lean: how many frames are acknowledged, and how many are taken. -/
def stepJ (x : Rd) (a t j : Nat) : Nat := bif x.lost.contains (j : Int) then t else bif a + j == t then t + 1 else t
def rT (x : Rd) (a t : Nat) : Nat → Nat
  | 0 => t
  | j + 1 => stepJ x a (rT x a t j) j
def lim (s : Sn) (a : Nat) : Nat := min s.q.length (a + s.w.toNat)
def rnd (s : Sn) (p : Nat × Nat) (x : Rd) : Nat × Nat := (bif x.deaf then p.1 else rT x p.1 p.2 (lim s p.1 - p.1), rT x p.1 p.2 (lim s p.1 - p.1))
def inW (s : Sn) (p : Nat × Nat) : Prop := p.1 ≤ p.2 ∧ p.2 ≤ lim s p.1
def sAt (s : Sn) (a : Nat) : Sn := ⟨s.q, a, s.w⟩
def rAt (s : Sn) (t : Nat) : Rc := ⟨t, s.q.take t⟩

theorem rT_in {s : Sn} {x : Rd} {a t : Nat} (h : inW s (a, t)) : ∀ {j : Nat}, j ≤ lim s a - a → t ≤ rT x a t j ∧ inW s (a, rT x a t j)
  | 0, _ => ⟨Nat.le_refl _, h⟩
  | j + 1, hj => by
    obtain ⟨h0, h1, h2⟩ := rT_in (x := x) h (j := j) (by omega)
    have h1 : a ≤ rT x a t j := h1
    have h2 : rT x a t j ≤ lim s a := h2
    show t ≤ stepJ x a (rT x a t j) j ∧ a ≤ stepJ x a (rT x a t j) j ∧ stepJ x a (rT x a t j) j ≤ lim s a
    unfold stepJ
    cases x.lost.contains (j : Int)
    · rcases Bool.eq_false_or_eq_true (a + j == rT x a t j) with e | e
      · rw [e]
        have := eq_of_beq e
        show t ≤ rT x a t j + 1 ∧ a ≤ rT x a t j + 1 ∧ rT x a t j + 1 ≤ lim s a
        omega
      · rw [e]; exact ⟨h0, h1, h2⟩
    · exact ⟨h0, h1, h2⟩
theorem rnd_in {s : Sn} {x : Rd} {p : Nat × Nat} (h : inW s p) : inW s (rnd s p x) ∧ p.1 ≤ (rnd s p x).1 ∧ p.2 ≤ (rnd s p x).2 := by
  obtain ⟨a, t⟩ := p
  obtain ⟨h0, h1, h2⟩ := rT_in (x := x) h (j := lim s a - a) (Nat.le_refl _)
  have h1 : a ≤ rT x a t (lim s a - a) := h1
  have h2 : rT x a t (lim s a - a) ≤ lim s a := h2
  have hm : lim s a ≤ lim s (rT x a t (lim s a - a)) := by unfold lim at *; omega
  unfold rnd
  cases x.deaf
  · exact ⟨⟨Nat.le_refl _, Nat.le_trans h2 hm⟩, h1, h0⟩
  · exact ⟨⟨h1, h2⟩, Nat.le_refl _, h0⟩
theorem fold_in {s : Sn} : ∀ (l : List Rd) {p : Nat × Nat}, inW s p → inW s (l.foldl (rnd s) p)
  | [], _, h => h
  | x :: r, p, h => fold_in r (rnd_in (x := x) h).1
theorem fold_take {s : Sn} {l : List Rd} {k : Nat} {x : Rd} (p : Nat × Nat) (h : l[k]? = some x) : (l.take (k + 1)).foldl (rnd s) p = rnd s ((l.take k).foldl (rnd s) p) x := by
  rw [take_one h, List.foldl_append]; rfl

theorem chkSn_at {s : Sn} (hs : chkSn s = 0) {a : Nat} (ha : a ≤ s.q.length) : chkSn (sAt s a) = 0 := by
  have h1 := firstOf_zero hs (checkFrames s.q) (by simp)
  have h2 := firstOf_zero hs (within3 s.w 1 8) (by simp)
  refine first_zeros fun e he => ?_
  simp only [List.mem_cons, List.not_mem_nil, or_false] at he
  rcases he with rfl | rfl | rfl
  · exact h1
  · show within3 (a : Int) 0 (frs s.q).length = 0
    rw [frs_len]
    unfold within3; rw [decide_eq_false (by omega), decide_eq_false (by omega)]; rfl
  · exact h2
theorem checks_take {l : List Fr} (h : checkFrames l = 0) (t : Nat) : checkFrames (l.take t) = 0 := by
  obtain ⟨h1, h2⟩ := checks_zero h
  exact checks_ok (by rw [List.length_take]; omega) fun f hf => h2 f (List.mem_of_mem_take hf)
theorem chkRc_at {s : Sn} (hs : chkSn s = 0) {t : Nat} (ht : t ≤ s.q.length) : chkRc (rAt s t) = 0 := by
  have h1 := firstOf_zero hs (checkFrames s.q) (by simp)
  refine first_zeros fun e he => ?_
  simp only [List.mem_cons, List.not_mem_nil, or_false] at he
  rcases he with rfl | rfl
  · exact checks_take h1 t
  · show (bif ((t : Int) != ((frs (s.q.take t)).length : Int)) then (2 : Int) else 0) = 0
    rw [frs_len, List.length_take, Nat.min_eq_left ht]
    simp
theorem lim_at {s : Sn} (hs : chkSn s = 0) {a : Nat} (ha : a ≤ s.q.length) : (sentF (sAt s a)).length = lim s a - a ∧ lim s a ≤ a + 8 ∧ lim s a ≤ s.q.length ∧ s.q.length ≤ 64 := by
  have h := sentF_len (chkSn_at hs ha)
  obtain ⟨h1, h2, h3, h4⟩ := chkSn_zero (chkSn_at hs ha)
  rw [frs_len] at h
  have h : ((sentF (sAt s a)).length : Int) = min (s.q.length : Int) ((a : Int) + s.w) - a := h
  have h3 : 1 ≤ s.w ∧ s.w ≤ 8 := h3
  have h4 : s.q.length ≤ 64 := h4
  unfold lim
  omega
theorem sent_at {s : Sn} (hs : chkSn s = 0) {a j : Nat} (ha : a ≤ s.q.length) (hj : j < lim s a - a) : ∃ f, (sentF (sAt s a))[j]? = some f ∧ s.q[a + j]? = some f := by
  obtain ⟨h1, h2, h3, h4⟩ := lim_at hs ha
  refine ⟨_, List.getElem?_eq_getElem (by omega), ?_⟩
  rw [← List.getElem?_eq_getElem, sentF_get (by omega)]
  rfl
theorem num_at {s : Sn} (hs : chkSn s = 0) {a t j : Nat} (h : inW s (a, t)) (hj : j < lim s a - a) : (((a : Int) + (j : Int)) % 16 == ((t : Int)).tmod 16) = (a + j == t) := by
  have h1 : a ≤ t := h.1
  have h2 : t ≤ lim s a := h.2
  have h3 : lim s a ≤ s.q.length := Nat.min_le_left ..
  obtain ⟨_, h4, _, _⟩ := lim_at hs (a := a) (by omega)
  rw [Int.tmod_eq_emod_of_nonneg (by omega)]
  rcases Bool.eq_false_or_eq_true (a + j == t) with e | e
  · rw [e]
    have := eq_of_beq e
    rw [← this]
    simp
  · rw [e]
    have := ne_of_beq_false e
    rw [beq_eq_false_iff_ne]
    omega
theorem ack_at {s : Sn} (hs : chkSn s = 0) {a t : Nat} (h : inW s (a, t)) : acked (sAt s a) ((t : Int) % 16) = t := by
  have h1 : a ≤ t := h.1
  have h2 : t ≤ lim s a := h.2
  have h3 : lim s a ≤ s.q.length := Nat.min_le_left ..
  obtain ⟨h5, h4, _, _⟩ := lim_at hs (a := a) (by omega)
  have hw : (lim s a : Int) ≤ (a : Int) + s.w := by
    obtain ⟨_, _, h6, _⟩ := chkSn_zero hs
    unfold lim; omega
  have e : ackN (sAt s a) ((t : Int) % 16) = (t : Int) - a := by
    show (((t : Int) % 16) - (a : Int) % 16 + 16) % 16 = _
    omega
  unfold acked
  rw [e]
  have hd : decide ((t : Int) - a ≤ min (sAt s a).w (((frs (sAt s a).q).length : Int) - (sAt s a).a)) = true := by
    refine decide_eq_true ?_
    show (t : Int) - a ≤ min s.w (((frs s.q).length : Int) - a)
    rw [frs_len]; omega
  rw [hd]
  show (a : Int) + ((t : Int) - a) = t
  omega
theorem fr_eq {f g : Fr} (h : f.same g = true) : f = g := by
  obtain ⟨m, p, n, b⟩ := f
  obtain ⟨m', p', n', b'⟩ := g
  simp only [Fr.same, Bool.and_eq_true, beq_iff_eq] at h
  obtain ⟨rfl, rfl, rfl, rfl⟩ := h
  rfl
theorem frs_eq : ∀ {a b : List Fr}, sameFrames a b = true → a = b
  | [], [], _ => rfl
  | [], _ :: _, h => by cases h
  | _ :: _, [], h => by cases h
  | f :: a, g :: b, h => by
    simp only [sameFrames, Bool.and_eq_true] at h
    rw [fr_eq h.1, frs_eq h.2]
/-- what fits -/
theorem fits_at {s : Sn} {r : Rc} (hs : chkSn s = 0) (h : fitsB s r = true) : s = sAt s s.a.toNat ∧ r = rAt s r.t.toNat ∧ inW s (s.a.toNat, r.t.toNat) := by
  simp only [fitsB, Bool.and_eq_true, decide_eq_true_eq] at h
  obtain ⟨h1, h2, h3⟩ := h
  obtain ⟨_, h4, h5, h6⟩ := chkSn_zero hs
  rw [frs_len] at h2
  have h3 := frs_eq h3
  refine ⟨?_, ?_, ?_, ?_⟩
  · obtain ⟨q, a, w⟩ := s
    show (⟨q, a, w⟩ : Sn) = ⟨q, (a.toNat : Int), w⟩
    have h4 : 0 ≤ a := by have : 0 ≤ a ∧ _ := h4; exact this.1
    rw [show (a.toNat : Int) = a by omega]
  · obtain ⟨t, l⟩ := r
    have h3 : l = s.q.take t.toNat := h3
    have h1 : s.a ≤ t := h1
    show (⟨t, l⟩ : Rc) = ⟨(t.toNat : Int), s.q.take t.toNat⟩
    rw [← h3, show (t.toNat : Int) = t by omega]
  · show s.a.toNat ≤ r.t.toNat; omega
  · show r.t.toNat ≤ min s.q.length (s.a.toNat + s.w.toNat); omega
end Vc

