import Derived.Test.YtfkljdokkfgifaaGreatDoorWg
set_option linter.unusedSectionVars false
set_option linter.unusedVariables false
set_option linter.unusedSimpArgs false
set_option maxRecDepth 10000
namespace Vc
open Go Go.Proofs
/-! LinkWhole, in plain Lean: what is cut, turned and joined. -/
theorem parts_fact (len S : Nat) (hS : 1 ≤ S) : ∃ P : Nat, partsI len S = (P : Int) ∧ 1 ≤ P ∧ len ≤ P * S ∧ (0 < len → (P - 1) * S < len) ∧ (len = 0 → P = 1) := by
  have e : ((len : Int) + (S : Int) - 1) / (S : Int) = (((len + S - 1) / S : Nat) : Int) := by
    rw [show ((len : Int) + (S : Int) - 1) = ((len + S - 1 : Nat) : Int) by omega]; rfl
  have h1 := Nat.div_add_mod (len + S - 1) S
  have h2 := Nat.mod_lt (len + S - 1) (show 0 < S by omega)
  refine ⟨max 1 ((len + S - 1) / S), by unfold partsI; rw [e]; omega, by omega, ?_, ?_, ?_⟩
  · generalize (len + S - 1) / S = q at *
    have h3 : q * S ≤ max 1 q * S := Nat.mul_le_mul_right _ (by omega)
    rw [Nat.mul_comm] at h1
    omega
  · intro h
    generalize (len + S - 1) / S = q at *
    by_cases hq : q = 0
    · subst hq; simp; omega
    · rw [show max 1 q = q by omega]
      obtain ⟨r, rfl⟩ : ∃ r, q = r + 1 := ⟨q - 1, by omega⟩
      rw [Nat.mul_add, Nat.mul_comm S r] at h1
      simp only [Nat.add_sub_cancel]
      omega
  · rintro rfl
    rw [Nat.div_eq_of_lt (by omega)]
    rfl
theorem parts_30 {len S P : Nat} (hS : 2 ≤ S) (hl : len ≤ 60) (h1 : 1 ≤ P) (h2 : 0 < len → (P - 1) * S < len) (h3 : len = 0 → P = 1) : P ≤ 30 := by
  by_cases h0 : len = 0
  · have := h3 h0; omega
  · have := h2 (by omega)
    have h4 : (P - 1) * 2 ≤ (P - 1) * S := Nat.mul_le_mul_left _ hS
    omega
theorem piece_nat (b : List UInt8) (S k : Nat) : piece b S k = (b.take (min b.length ((k + 1) * S))).drop (k * S) := by
  unfold piece
  rw [show ((k : Int) * (S : Int)).toNat = k * S by rw [← Int.natCast_mul]; rfl,
    show (min (b.length : Int) (((k : Int) + 1) * (S : Int))).toNat = min b.length ((k + 1) * S) by
      rw [show ((k : Int) + 1) * (S : Int) = (((k + 1) * S : Nat) : Int) by rw [Int.natCast_mul]; rfl]; omega]
theorem piece_len (b : List UInt8) (S k : Nat) : (piece b S k).length = min b.length ((k + 1) * S) - k * S := by
  rw [piece_nat, List.length_drop, List.length_take]; omega
theorem piece_le (b : List UInt8) (S k : Nat) : (piece b S k).length ≤ S := by
  rw [piece_len, Nat.add_mul]; omega
theorem take_piece (b : List UInt8) (S k : Nat) : b.take (k * S) ++ piece b S k = b.take ((k + 1) * S) := by
  rw [piece_nat]
  have h : k * S ≤ (k + 1) * S := Nat.mul_le_mul_right _ (by omega)
  by_cases hb : k * S ≤ b.length
  · have e : b.take (min b.length ((k + 1) * S)) = b.take ((k + 1) * S) := by
      by_cases h2 : (k + 1) * S ≤ b.length
      · rw [Nat.min_eq_right h2]
      · rw [Nat.min_eq_left (by omega), List.take_length, List.take_of_length_le (by omega)]
    have e2 : b.take (k * S) = (b.take ((k + 1) * S)).take (k * S) := by rw [List.take_take, Nat.min_eq_left h]
    rw [e, e2, List.take_append_drop]
  · rw [List.take_of_length_le (by omega), List.drop_eq_nil_of_le (by rw [List.length_take]; omega), List.append_nil, List.take_of_length_le (by omega)]
theorem sum_step {b : List UInt8} {S k sum : Nat} (h : sum = (b.take (k * S)).length) : sum + (piece b S k).length = (b.take ((k + 1) * S)).length := by
  rw [← take_piece, List.length_append, h]

/-- a frame that is one of those which were cut -/
def IsCut (n : Int) (b : List UInt8) (S : Nat) (f : Fr) : Prop := ∃ k : Nat, f = cutFr n b S k
theorem cut_clean {n : Int} {b : List UInt8} {S : Nat} {l : List Fr} (h : ∀ f ∈ l, IsCut n b S f) : clean l := by
  intro x hx y hy
  obtain ⟨k, rfl⟩ := h x hx
  obtain ⟨j, rfl⟩ := h y hy
  refine clash_iff.2 ⟨rfl, rfl, fun e => ?_⟩
  have e : (k : Int) = (j : Int) := e
  rw [show k = j by omega]
theorem cut_find {n : Int} {b : List UInt8} {S q : Nat} {l : List Fr} (h : ∀ f ∈ l, IsCut n b S f) (hq : ∃ f ∈ l, f.p = q) : findP l q = some (cutFr n b S q) := by
  cases hf : findP l q with
  | none => obtain ⟨f, h1, h2⟩ := hq; exact absurd h2 (findP_none hf f h1)
  | some g =>
    obtain ⟨h1, h2⟩ := findP_mem hf
    obtain ⟨k, rfl⟩ := h g h1
    have h2 : (k : Int) = (q : Int) := h2
    rw [show k = q by omega]
theorem cut_join {n : Int} {b : List UInt8} {S : Nat} {l : List Fr} (h : ∀ f ∈ l, IsCut n b S f) : ∀ {P : Nat}, (∀ q : Nat, q < P → ∃ f ∈ l, f.p = q) → joinUpto l P = some (b.take (P * S))
  | 0, _ => by simp [joinUpto]
  | P + 1, hP => by
    rw [joinUpto, cut_join h fun q hq => hP q (by omega), cut_find h (hP P (by omega))]
    show some (b.take (P * S) ++ piece b S P) = _
    rw [take_piece]
theorem cut_check {n : Int} {b : List UInt8} {S k P : Nat} (hn : 0 ≤ n ∧ n ≤ 255) (hS : S ≤ 12) (hP : partsI b.length S = (P : Int)) (h64 : P ≤ 64) (hk : k < P) : (cutFr n b S k).check = 0 := by
  have h1 := piece_le b S k
  show checkFrame n k (partsI b.length S) (piece b S k).length = 0
  have e1 : within3 n 0 255 = 0 := by unfold within3; rw [decide_eq_false (by omega), decide_eq_false (by omega)]; rfl
  have e2 : within3 (P : Int) 1 64 = 0 := by unfold within3; rw [decide_eq_false (by omega), decide_eq_false (by omega)]; rfl
  have e3 : within3 (k : Int) 0 ((P : Int) - 1) = 0 := by unfold within3; rw [decide_eq_false (by omega), decide_eq_false (by omega)]; rfl
  have e4 : decide ((12 : Int) < ((piece b S k).length : Int)) = false := decide_eq_false (by omega)
  rw [hP]
  simp [checkFrame, e1, e2, e3, e4]
theorem first_zeros : ∀ {l : List Int}, (∀ e ∈ l, e = 0) → firstOf l = 0
  | [], _ => rfl
  | x :: r, h => by
    have h1 := h x List.mem_cons_self
    subst h1
    show firstOf r = 0
    exact first_zeros fun e he => h e (List.mem_cons_of_mem _ he)
theorem checks_ok {l : List Fr} (hl : l.length ≤ 64) (h : ∀ f ∈ l, f.check = 0) : checkFrames l = 0 := by
  unfold checkFrames
  rw [decide_eq_false (by omega)]
  refine first_zeros fun e he => ?_
  obtain ⟨f, hf, rfl⟩ := List.mem_map.1 he
  exact h f hf
theorem joinL_ok {l : List Fr} (hl : l.length ≤ 64) (h : ∀ f ∈ l, f.check = 0) : joinL l = joinR l := by
  unfold joinL
  rw [checks_ok hl h]; rfl
/-- joined, in any order and with any doubles -/
theorem join_whole {n : Int} {b : List UInt8} {S P : Nat} {l : List Fr} (hn : 0 ≤ n ∧ n ≤ 255) (hS : S ≤ 12) (hP : partsI b.length S = (P : Int)) (h1 : 1 ≤ P) (h64 : P ≤ 64) (hl : l.length ≤ 64)
    (hc : ∀ f ∈ l, ∃ k, k < P ∧ f = cutFr n b S k) (hq : ∀ q : Nat, q < P → ∃ f ∈ l, f.p = q) (hb : b.length ≤ P * S) : joinL l = (b, 0) := by
  have hi : ∀ f ∈ l, IsCut n b S f := fun f hf => by obtain ⟨k, _, e⟩ := hc f hf; exact ⟨k, e⟩
  rw [joinL_ok hl fun f hf => by obtain ⟨k, hk, rfl⟩ := hc f hf; exact cut_check hn hS hP h64 hk]
  obtain ⟨f, hf, _⟩ := hq 0 (by omega)
  cases l with
  | nil => exact absurd hf List.not_mem_nil
  | cons g r =>
    obtain ⟨k, hk, e⟩ := hc g List.mem_cons_self
    have e2 : g.n.toNat = P := by rw [e]; show (partsI b.length S).toNat = P; omega
    rw [joinR_some (f := g) rfl (cut_clean hi) (by rw [e2]; exact cut_join hi hq), List.take_of_length_le hb]
/-- a part that is missing -/
theorem join_short {n : Int} {b : List UInt8} {S P q : Nat} {l : List Fr} (hn : 0 ≤ n ∧ n ≤ 255) (hS : S ≤ 12) (hP : partsI b.length S = (P : Int)) (h64 : P ≤ 64) (hl : l.length ≤ 64) (h0 : 0 < l.length)
    (hc : ∀ f ∈ l, ∃ k, k < P ∧ f = cutFr n b S k) (hq : q < P) (hm : ∀ f ∈ l, f.p ≠ q) : joinL l = ([], 16) := by
  have hi : ∀ f ∈ l, IsCut n b S f := fun f hf => by obtain ⟨k, _, e⟩ := hc f hf; exact ⟨k, e⟩
  rw [joinL_ok hl fun f hf => by obtain ⟨k, hk, rfl⟩ := hc f hf; exact cut_check hn hS hP h64 hk]
  cases l with
  | nil => exact absurd h0 (by simp)
  | cons g r =>
    obtain ⟨k, hk, e⟩ := hc g List.mem_cons_self
    have e2 : g.n.toNat = P := by rw [e]; show (partsI b.length S).toNat = P; omega
    refine joinR_none (f := g) rfl (cut_clean hi) (joinUpto_none (q := q) ?_ (by omega))
    refine List.find?_eq_none.2 fun f hf => ?_
    simpa using hm f hf
/-- a part that comes twice, with other bytes -/
theorem join_clash {n : Int} {b : List UInt8} {S P k : Nat} {t : List Fr} {o : List UInt8} (hn : 0 ≤ n ∧ n ≤ 255) (hS : S ≤ 12) (hP : partsI b.length S = (P : Int)) (h64 : P ≤ 63) (hl : t.length ≤ 63)
    (hc : ∀ f ∈ t, ∃ k, k < P ∧ f = cutFr n b S k) (hk : k < P) (ht : cutFr n b S k ∈ t) (ho : o.length = (piece b S k).length) (hne : o ≠ piece b S k) :
    joinL (t ++ [⟨n, k, partsI b.length S, o⟩]) = ([], 24) := by
  rw [joinL_ok (by simp; omega) fun f hf => ?_]
  · refine joinR_clash fun h => ?_
    have := h _ (List.mem_append_left _ ht) _ (List.mem_append_right _ (List.mem_singleton.2 rfl))
    exact hne ((clash_iff.1 this).2.2 rfl).symm
  · rcases List.mem_append.1 hf with h | h
    · obtain ⟨j, hj, rfl⟩ := hc f h
      exact cut_check hn hS hP (by omega) hj
    · rw [List.mem_singleton.1 h]
      have h2 := cut_check (b := b) hn hS hP (by omega) hk
      show checkFrame n k (partsI b.length S) o.length = 0
      rw [ho]; exact h2

/-- which frame comes at a place, when they are turned -/
def tix (P k i : Nat) : Nat := (P - 1 - i + k) % P
theorem tix_eq {P k i : Nat} (hk : k < P) (hi : i < P) : tix P k i = if i + 1 ≤ k then k - 1 - i else P + k - 1 - i := by
  unfold tix
  by_cases h : i + 1 ≤ k
  · rw [if_pos h, Nat.mod_eq_sub_mod (by omega), Nat.mod_eq_of_lt (by omega)]; omega
  · rw [if_neg h, Nat.mod_eq_of_lt (by omega)]; omega
theorem tix_lt {P k i : Nat} (hk : k < P) : tix P k i < P := Nat.mod_lt _ (by omega)
theorem tix_all {P k q : Nat} (hk : k < P) (hq : q < P) : ∃ i, i < P ∧ tix P k i = q := by
  by_cases h : q < k
  · exact ⟨k - 1 - q, by omega, by rw [tix_eq hk (by omega), if_pos (by omega)]; omega⟩
  · exact ⟨P + k - 1 - q, by omega, by rw [tix_eq hk (by omega), if_neg (by omega)]; omega⟩
theorem tix_ne {P k i : Nat} (hk : k < P) (hi : i < P) (h0 : 0 < i) : tix P k i ≠ tix P k 0 := by
  rw [tix_eq hk hi, tix_eq hk (by omega)]
  split <;> split <;> omega
def turnedF (n : Int) (b : List UInt8) (S P k : Nat) : List Fr := (List.range P).map fun i => cutFr n b S (tix P k i)
theorem turned_cut {n : Int} {b : List UInt8} {S P k : Nat} (hk : k < P) : ∀ f ∈ turnedF n b S P k, ∃ j, j < P ∧ f = cutFr n b S j := fun f hf => by
  obtain ⟨i, _, rfl⟩ := List.mem_map.1 hf
  exact ⟨_, tix_lt hk, rfl⟩
theorem turned_all {n : Int} {b : List UInt8} {S P k q : Nat} (hk : k < P) (hq : q < P) : ∃ f ∈ turnedF n b S P k, f.p = q := by
  obtain ⟨i, h1, h2⟩ := tix_all hk hq
  exact ⟨_, List.mem_map.2 ⟨i, List.mem_range.2 h1, rfl⟩, by rw [h2]; rfl⟩
theorem turned_len (n : Int) (b : List UInt8) (S P k : Nat) : (turnedF n b S P k).length = P := by simp [turnedF]
theorem turned_tail {n : Int} {b : List UInt8} {S P k : Nat} (hk : k < P) : ∀ f ∈ (turnedF n b S P k).drop 1, (∃ j, j < P ∧ f = cutFr n b S j) ∧ f.p ≠ tix P k 0 := fun f hf => by
  refine ⟨turned_cut hk f (List.mem_of_mem_drop hf), ?_⟩
  obtain ⟨j, hj⟩ := List.getElem?_of_mem hf
  rw [List.getElem?_drop, turnedF, List.getElem?_map] at hj
  by_cases h : 1 + j < P
  · rw [List.getElem?_range h] at hj
    cases hj
    have := tix_ne hk h (by omega)
    show ((tix P k (1 + j) : Nat) : Int) ≠ _
    omega
  · rw [List.getElem?_eq_none (by simp; omega)] at hj; cases hj
theorem xor_ne (x n : UInt8) : x ^^^ (1 + n % 127) ≠ x := by
  intro h
  have h2 : (1 + n % 127) = 0 := by
    have : x ^^^ (x ^^^ (1 + n % 127)) = x ^^^ x := by rw [h]
    rw [← UInt8.xor_assoc, UInt8.xor_self, UInt8.zero_xor] at this
    exact this
  have h3 := congrArg UInt8.toNat h2
  rw [UInt8.toNat_add, UInt8.toNat_mod] at h3
  have := n.toNat_lt
  have h4 : n.toNat % 127 < 127 := Nat.mod_lt _ (by omega)
  change (1 + n.toNat % 127) % 256 = 0 at h3
  omega
end Vc

set_option maxRecDepth 10000
namespace Vc
open Go Go.Proofs
/-! A frame comes back from its block. -/
def ub (n : Int) : UInt8 := UInt8.ofNat n.toNat
theorem ub_nat {n : Int} (h : 0 ≤ n ∧ n ≤ 255) : ((ub n).toNat : Int) = n := by
  unfold ub
  rw [UInt8.toNat_ofNat']; omega
def at8 (b : List UInt8) (i : Nat) : UInt8 := (b[i]?).getD 0
theorem at8_byte (b : List UInt8) (i : Nat) : ((at8 b i).toNat : Int) = byteAt b i := by
  unfold at8 byteAt
  cases b[i]? <;> rfl
def blkU (f : Fr) : List UInt8 := [ub f.m, ub f.p, ub f.n, ub f.b.length, at8 f.b 0, at8 f.b 1, at8 f.b 2, at8 f.b 3, at8 f.b 4, at8 f.b 5, at8 f.b 6, at8 f.b 7, at8 f.b 8, at8 f.b 9, at8 f.b 10, at8 f.b 11]
theorem blk_byt {f : Fr} (h : f.check = 0) : blkC f = (blkU f).map byt := by
  obtain ⟨m, p, n, b⟩ := f
  obtain ⟨hm, hn, hp, hb⟩ := check_zero (m := m) (p := p) (n := n) (len := b.length) h
  simp only [blkC, blkU, List.map_cons, List.map_nil, byt, at8_byte, ub_nat hm, ub_nat (n := n) (by omega), ub_nat (n := p) (by omega), ub_nat (n := (b.length : Int)) (by omega)]
theorem take_at8 {b : List UInt8} (h : b.length ≤ 12) : ([at8 b 0, at8 b 1, at8 b 2, at8 b 3, at8 b 4, at8 b 5, at8 b 6, at8 b 7, at8 b 8, at8 b 9, at8 b 10, at8 b 11] : List UInt8).take b.length = b := by
  show ((List.range 12).map (at8 b)).take b.length = b
  refine List.ext_getElem? fun i => ?_
  rw [List.getElem?_take]
  by_cases hi : i < b.length
  · rw [if_pos hi, List.getElem?_map, List.getElem?_range (by omega), List.getElem?_eq_getElem hi]
    show some (at8 b i) = _
    rw [at8, List.getElem?_eq_getElem hi]; rfl
  · rw [if_neg hi, List.getElem?_eq_none (by omega)]
theorem unpF_blk {f : Fr} (h : f.check = 0) : unpF (blkU f) = f := by
  obtain ⟨m, p, n, b⟩ := f
  obtain ⟨hm, hn, hp, hb⟩ := check_zero (m := m) (p := p) (n := n) (len := b.length) h
  have e : (ub (b.length : Int)).toNat = b.length := by have := ub_nat (n := (b.length : Int)) (by omega); omega
  simp only [unpF, blkU, ub_nat hm, ub_nat (n := n) (by omega), ub_nat (n := p) (by omega), e, take_at8 hb]
theorem unpBad_blk {f : Fr} (h : f.check = 0) : unpBad (blkU f) = false := by
  have e1 := unpF_blk h
  have e2 := blk_byt h
  obtain ⟨m, p, n, b⟩ := f
  obtain ⟨hm, hn, hp, hb⟩ := check_zero (m := m) (p := p) (n := n) (len := b.length) h
  have e3 : ((ub (b.length : Int)).toNat : Int) = b.length := ub_nat (by omega)
  have e4 : blkEq ⟨m, p, n, b⟩ (blkU ⟨m, p, n, b⟩) = true := by rw [blkEq, ← e2, eqC_refl]; rfl
  have e5 : decide ((12 : Int) < ((ub (b.length : Int)).toNat : Int)) = false := decide_eq_false (by omega)
  show (decide ((12 : Int) < ((ub (b.length : Int)).toNat : Int)) || ((unpF (blkU ⟨m, p, n, b⟩)).check != 0 || !blkEq (unpF (blkU ⟨m, p, n, b⟩)) (blkU ⟨m, p, n, b⟩))) = false
  rw [e1, e4, e5, h]; rfl
theorem unp_blk {f : Fr} (h : f.check = 0) : unp (blkU f) = f ∧ unpE (blkU f) = 0 := by
  rw [unp, unpE, unpBad_blk h]
  exact ⟨unpF_blk h, rfl⟩
theorem c16b (f : Fr) (h : f.check = 0) : CallDet Tryz.prog 16 [.d (.agg (blkC f))] [f.d, .int .i64 0] := by
  have h2 := c16 (ub f.m) (ub f.p) (ub f.n) (ub f.b.length) (at8 f.b 0) (at8 f.b 1) (at8 f.b 2) (at8 f.b 3) (at8 f.b 4) (at8 f.b 5) (at8 f.b 6) (at8 f.b 7) (at8 f.b 8) (at8 f.b 9) (at8 f.b 10) (at8 f.b 11)
  rw [blk_byt h]
  obtain ⟨e1, e2⟩ := unp_blk h
  have h3 : CallDet Tryz.prog 16 [.d (.agg ((blkU f).map byt))] [(unp (blkU f)).d, .int .i64 (unpE (blkU f))] := h2
  rw [e1, e2] at h3
  exact h3
theorem c26z (f : Fr) (h : f.check = 0) : CallDet Tryz.prog 26 [.d f.d] [.agg (blkC f), .int .i64 0] := by
  have h2 := c26 f
  rw [packC, h] at h2
  exact h2
end Vc

