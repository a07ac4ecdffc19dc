import Derived.Test.YtfkljdokkfgifaaGreatDoorYb
set_option linter.unusedSectionVars false
set_option linter.unusedVariables false
set_option linter.unusedSimpArgs false
set_option maxRecDepth 10000
namespace Vc
open Go Go.Proofs
/-! Slots, in plain Lean. -/
theorem within_ok {n a b : Int} (h : within3 n a b = 0) : a ≤ n ∧ n ≤ b := by
  unfold within3 at h
  rcases Bool.eq_false_or_eq_true (decide (n < a) || decide (b < n)) with e | e
  · rw [e] at h; cases h
  · rw [Bool.or_eq_false_iff] at e
    have := of_decide_eq_false e.1
    have := of_decide_eq_false e.2
    omega
theorem chkSt_ok {names : List (List UInt8)} {x : Stn} (h : chkSt names x = 0) : x.ok :=
  ⟨within_ok (firstOf_zero h _ (by simp)), within_ok (firstOf_zero h (within3 x.fr 0 64) (by simp)), within_ok (firstOf_zero h (within3 x.wt 0 1000) (by simp))⟩
theorem chkGo_ok : ∀ (l : List Stn) (names : List (List UInt8)), chkGo names l = 0 → ∀ x ∈ l, x.ok
  | [], _, _ => fun _ h => absurd h List.not_mem_nil
  | y :: r, names, h => by
    have h : (bif chkSt names y != 0 then chkSt names y else chkGo (names ++ [y.nm]) r) = 0 := h
    rcases Bool.eq_false_or_eq_true (chkSt names y != 0) with e | e
    · rw [e] at h
      have h : chkSt names y = 0 := h
      rw [h] at e; cases e
    · rw [e] at h
      intro x hx
      rcases List.mem_cons.1 hx with rfl | hx
      · exact chkSt_ok (names := names) (by simpa using e)
      · exact chkGo_ok r _ h x hx
theorem chkStns_ok {l : List Stn} (h : chkStns l = 0) : (∀ x ∈ l, x.ok) ∧ l.length ≤ 8 := by
  unfold chkStns at h
  rcases Bool.eq_false_or_eq_true (decide ((8 : Int) < (l.length : Int))) with e | e
  · rw [e] at h; cases h
  · rw [e] at h
    exact ⟨chkGo_ok l [] h, by have := of_decide_eq_false e; omega⟩
theorem win_go {l : List Stn} : ∀ (n k : Nat) (out : Int) (b : Stn), k + n = l.length → wI l (k, out, b) → winF l = -1 ∨ (0 ≤ winF l ∧ ∃ x, l[(winF l).toNat]? = some x ∧ 0 < x.fr)
  | 0, k, out, b, hk, hi => by
    obtain ⟨h1, h2⟩ := hi
    have h1 : winF l = wGo out b k (l.drop k) := h1
    rw [List.drop_eq_nil_of_le (by omega)] at h1
    have h1 : winF l = out := h1
    rw [h1]
    rcases h2 with h2 | ⟨h2, _, h3, h4⟩
    · exact .inl h2
    · exact .inr ⟨h2, b, h3, h4⟩
  | n + 1, k, out, b, hk, hi => by
    obtain ⟨x, hx⟩ : ∃ x, l[k]? = some x := ⟨_, List.getElem?_eq_getElem (by omega)⟩
    rcases Bool.eq_false_or_eq_true (better out b x) with e | e
    · exact win_go n (k + 1) _ _ (by omega) (wI_yes hx hi e)
    · exact win_go n (k + 1) _ _ (by omega) (wI_no hx hi e)
theorem win_fr (l : List Stn) : winF l = -1 ∨ (0 ≤ winF l ∧ ∃ x, l[(winF l).toNat]? = some x ∧ 0 < x.fr) := win_go l.length 0 _ _ (by omega) (wI_start l)
theorem aft_ok {l : List Stn} (ho : ∀ x ∈ l, x.ok) : ∀ y ∈ aftF l (winF l), y.ok := by
  intro y hy
  obtain ⟨k, hk⟩ := List.getElem?_of_mem hy
  obtain ⟨hkl, _⟩ := List.getElem?_eq_some_iff.1 hk
  rw [aft_len] at hkl
  obtain ⟨x, hx⟩ : ∃ x, l[k]? = some x := ⟨_, List.getElem?_eq_getElem hkl⟩
  rw [aft_at hx] at hk
  obtain ⟨h1, ⟨h2, h3⟩, h4, h5⟩ := ho x (List.mem_of_getElem? hx)
  have hk := Option.some.inj hk
  subst hk
  rcases Bool.eq_false_or_eq_true ((k : Int) == winF l) with e | e
  · rw [aft1 e]
    have e := eq_of_beq e
    rcases win_fr l with h | ⟨_, z, hz, hf⟩
    · omega
    · rw [← e, show (k : Int).toNat = k from rfl, hx] at hz
      have hz := Option.some.inj hz
      subst hz
      exact ⟨h1, ⟨by show 0 ≤ x.fr - 1; omega, by show x.fr - 1 ≤ 64; omega⟩, by show (0 : Int) ≤ 0; omega, by show (0 : Int) ≤ 1000; omega⟩
  · by_cases hf : 0 < x.fr
    · rw [aft3 e hf]
      exact ⟨h1, ⟨h2, h3⟩, by show 0 ≤ min 1000 (x.wt + 1); omega, by show min 1000 (x.wt + 1) ≤ 1000; omega⟩
    · rw [aft2 e hf]
      exact ⟨h1, ⟨h2, h3⟩, by show (0 : Int) ≤ 0; omega, by show (0 : Int) ≤ 1000; omega⟩
/-- the winners of n slots, and what stands then -/
def srvGo : Nat → List Stn → List Int × List Stn
  | 0, l => ([], l)
  | n + 1, l => bif decide (winF l < 0) then ([], l) else (winF l :: (srvGo n (aftF l (winF l))).1, (srvGo n (aftF l (winF l))).2)
def srvI (l : List Stn) (n : Nat) (a : Nat × List Int × List Stn) : Prop :=
  srvGo n l = (a.2.1 ++ (srvGo (n - a.1) a.2.2).1, (srvGo (n - a.1) a.2.2).2) ∧ (∀ x ∈ a.2.2, x.ok) ∧ a.2.2.length = l.length ∧ a.2.1.length ≤ a.1 ∧ a.1 ≤ n
theorem srvI_start {l : List Stn} {n : Nat} (ho : ∀ x ∈ l, x.ok) : srvI l n (0, [], l) := ⟨rfl, ho, rfl, Nat.le_refl _, Nat.zero_le _⟩
theorem srvI_step {l : List Stn} {n i : Nat} {acc : List Int} {now : List Stn} (hi : srvI l n (i, acc, now)) (h : i < n) (hw : ¬ winF now < 0) : srvI l n (i + 1, acc ++ [winF now], aftF now (winF now)) := by
  obtain ⟨h1, h2, h3, h4, h5⟩ := hi
  have h1 : srvGo n l = (acc ++ (srvGo (n - i) now).1, (srvGo (n - i) now).2) := h1
  have h3 : now.length = l.length := h3
  have h4 : acc.length ≤ i := h4
  refine ⟨?_, aft_ok h2, by show (aftF now (winF now)).length = _; rw [aft_len]; exact h3, by show (acc ++ [winF now]).length ≤ i + 1; rw [List.length_append]; simp only [List.length_singleton]; omega, by show i + 1 ≤ n; omega⟩
  obtain ⟨m, hm⟩ : ∃ m, n - i = m + 1 := ⟨n - i - 1, by omega⟩
  rw [h1, hm, show n - (i + 1) = m by omega, srvGo, decide_eq_false hw]
  show (acc ++ (winF now :: _), _) = ((acc ++ [winF now]) ++ _, _)
  rw [List.append_assoc]; rfl
theorem srvI_stop {l : List Stn} {n i : Nat} {acc : List Int} {now : List Stn} (hi : srvI l n (i, acc, now)) (hw : winF now < 0) : srvGo n l = (acc, now) := by
  have h1 : srvGo n l = (acc ++ (srvGo (n - i) now).1, (srvGo (n - i) now).2) := hi.1
  rw [h1]
  cases n - i with
  | zero => simp [srvGo]
  | succ m => rw [srvGo, decide_eq_true hw]; simp
theorem srvI_end {l : List Stn} {n i : Nat} {acc : List Int} {now : List Stn} (hi : srvI l n (i, acc, now)) (h : n ≤ i) : srvGo n l = (acc, now) := by
  have h1 : srvGo n l = (acc ++ (srvGo (n - i) now).1, (srvGo (n - i) now).2) := hi.1
  rw [h1, show n - i = 0 by omega]
  simp [srvGo]
/-- the open slots -/
def cAt (c : List Bool) (i : Nat) : Bool := (c[i % c.length]?).getD false
def opnTo (c : List Bool) (f : Nat) : Nat → List Int
  | 0 => []
  | k + 1 => bif cAt c (f + k) then opnTo c f k ++ [((f + k : Nat) : Int)] else opnTo c f k
theorem opn_mono (c : List Bool) (f k : Nat) : ∀ j : Nat, (opnTo c f k).length ≤ (opnTo c f (k + j)).length
  | 0 => Nat.le_refl _
  | j + 1 => by
    have := opn_mono c f k j
    rw [show k + (j + 1) = (k + j) + 1 by omega, opnTo]
    cases cAt c (f + (k + j))
    · exact this
    · show _ ≤ (opnTo c f (k + j) ++ [_]).length
      rw [List.length_append]; omega
theorem mod_hit {n p f : Nat} (hp : p < n) : ∃ j, j < n ∧ (f + j) % n = p := by
  have h1 := Nat.div_add_mod f n
  have h2 := Nat.mod_lt f (show 0 < n by omega)
  by_cases h : f % n ≤ p
  · refine ⟨p - f % n, by omega, ?_⟩
    rw [show f + (p - f % n) = n * (f / n) + p by omega, Nat.mul_add_mod, Nat.mod_eq_of_lt hp]
  · refine ⟨n - f % n + p, by omega, ?_⟩
    rw [show f + (n - f % n + p) = n * (f / n + 1) + p by rw [Nat.mul_add, Nat.mul_one]; omega, Nat.mul_add_mod, Nat.mod_eq_of_lt hp]
theorem opn_more {c : List Bool} (hc : c.contains true = true) (f k : Nat) : (opnTo c f k).length + 1 ≤ (opnTo c f (k + c.length)).length := by
  have hm : true ∈ c := by simpa using hc
  obtain ⟨p, hp⟩ := List.getElem?_of_mem hm
  obtain ⟨hpl, _⟩ := List.getElem?_eq_some_iff.1 hp
  obtain ⟨j, hj, e⟩ := mod_hit (f := f + k) hpl
  have h1 := opn_mono c f k j
  have h2 := opn_mono c f (k + j + 1) (c.length - j - 1)
  rw [show k + j + 1 + (c.length - j - 1) = k + c.length by omega] at h2
  have e2 : cAt c (f + (k + j)) = true := by unfold cAt; rw [← Nat.add_assoc, e, hp]; rfl
  rw [opnTo, e2] at h2
  have h2 : (opnTo c f (k + j) ++ [((f + (k + j) : Nat) : Int)]).length ≤ _ := h2
  rw [List.length_append] at h2
  simp only [List.length_singleton] at h2
  omega
theorem opn_count {c : List Bool} (hc : c.contains true = true) (f : Nat) : ∀ m : Nat, m ≤ (opnTo c f (m * c.length)).length
  | 0 => Nat.zero_le _
  | m + 1 => by
    have h1 := opn_count hc f m
    have h2 := opn_more hc f (m * c.length)
    rw [Nat.add_mul, Nat.one_mul]; omega
theorem opn_lt {c : List Bool} (hc : c.contains true = true) {f k n : Nat} (h : (opnTo c f k).length < n) : k < n * c.length := by
  rcases Nat.lt_or_ge k (n * c.length) with e | e
  · exact e
  · exfalso
    have h1 := opn_count hc f n
    have h2 := opn_mono c f (n * c.length) (k - n * c.length)
    rw [show n * c.length + (k - n * c.length) = k by omega] at h2
    omega
def opnGo (c : List Bool) (f n : Nat) : Nat → Nat → List Int → List Int
  | 0, _, acc => acc
  | m + 1, k, acc => bif decide ((acc.length : Int) < (n : Int)) then opnGo c f n m (k + 1) (bif cAt c (f + k) then acc ++ [((f + k : Nat) : Int)] else acc) else acc
def opnF (c : List Bool) (f n : Nat) : List Int := opnGo c f n (n * c.length) 0 []
def opnI (c : List Bool) (f n : Nat) (a : Nat × List Int) : Prop := a.2 = opnTo c f a.1 ∧ a.1 ≤ n * c.length ∧ opnF c f n = opnGo c f n (n * c.length - a.1) a.1 a.2
theorem opnI_start (c : List Bool) (f n : Nat) : opnI c f n (0, []) := ⟨rfl, Nat.zero_le _, rfl⟩
theorem opnI_step {c : List Bool} {f n k : Nat} {acc : List Int} (hc : c.contains true = true) (hi : opnI c f n (k, acc)) (h : (acc.length : Int) < (n : Int)) :
    k < n * c.length ∧ opnI c f n (k + 1, bif cAt c (f + k) then acc ++ [((f + k : Nat) : Int)] else acc) := by
  obtain ⟨h1, h2, h3⟩ := hi
  have h1 : acc = opnTo c f k := h1
  have h3 : opnF c f n = opnGo c f n (n * c.length - k) k acc := h3
  have hk : k < n * c.length := opn_lt hc (f := f) (by rw [← h1]; omega)
  refine ⟨hk, ?_, by show k + 1 ≤ _; omega, ?_⟩
  · show (bif cAt c (f + k) then acc ++ [((f + k : Nat) : Int)] else acc) = opnTo c f (k + 1)
    rw [opnTo, h1]
  · obtain ⟨m, hm⟩ : ∃ m, n * c.length - k = m + 1 := ⟨n * c.length - k - 1, by omega⟩
    rw [h3, hm, opnGo, decide_eq_true h]
    show opnGo c f n m (k + 1) _ = opnGo c f n (n * c.length - (k + 1)) (k + 1) _
    rw [show n * c.length - (k + 1) = m by omega]
theorem opnI_end {c : List Bool} {f n k : Nat} {acc : List Int} (hi : opnI c f n (k, acc)) (h : ¬ (acc.length : Int) < (n : Int)) : opnF c f n = acc := by
  have h3 : opnF c f n = opnGo c f n (n * c.length - k) k acc := hi.2.2
  rw [h3]
  cases n * c.length - k with
  | zero => rfl
  | succ m => rw [opnGo, decide_eq_false h]; rfl
theorem opn_len_le (c : List Bool) (f k : Nat) : (opnTo c f k).length ≤ k := by
  induction k with
  | zero => exact Nat.le_refl _
  | succ k ih =>
    rw [opnTo]
    cases cAt c (f + k)
    · show (opnTo c f k).length ≤ _; omega
    · show (opnTo c f k ++ [_]).length ≤ _; rw [List.length_append]; simp only [List.length_singleton]; omega
/-- the winners of slots, some of which are not open -/
def accW (c : List Bool) (i : Nat) (l : List Stn) : Int := bif cAt c i then winF l else -1
def accN (w : Int) (l : List Stn) : List Stn := bif decide (0 ≤ w) then aftF l w else l
def accGo (c : List Bool) : Nat → Nat → List Stn → List Int
  | 0, _, _ => []
  | m + 1, i, l => accW c i l :: accGo c m (i + 1) (accN (accW c i l) l)
def accI (c : List Bool) (l : List Stn) (n : Nat) (a : Nat × List Int × List Stn) : Prop :=
  accGo c n 0 l = a.2.1 ++ accGo c (n - a.1) a.1 a.2.2 ∧ (∀ x ∈ a.2.2, x.ok) ∧ a.2.2.length = l.length ∧ a.2.1.length = a.1 ∧ a.1 ≤ n
theorem accI_start {c : List Bool} {l : List Stn} {n : Nat} (ho : ∀ x ∈ l, x.ok) : accI c l n (0, [], l) := ⟨rfl, ho, rfl, rfl, Nat.zero_le _⟩
theorem accN_ok {c : List Bool} {i : Nat} {l : List Stn} (ho : ∀ x ∈ l, x.ok) : (∀ x ∈ accN (accW c i l) l, x.ok) ∧ (accN (accW c i l) l).length = l.length := by
  unfold accN accW
  cases cAt c i
  · exact ⟨ho, rfl⟩
  · show (∀ x ∈ bif decide (0 ≤ winF l) then aftF l (winF l) else l, x.ok) ∧ (bif decide (0 ≤ winF l) then aftF l (winF l) else l).length = l.length
    cases decide (0 ≤ winF l)
    · exact ⟨ho, rfl⟩
    · exact ⟨aft_ok ho, aft_len _ _⟩
theorem accI_step {c : List Bool} {l : List Stn} {n i : Nat} {acc : List Int} {now : List Stn} (hi : accI c l n (i, acc, now)) (h : i < n) {w : Int} (hw : w = accW c i now) : accI c l n (i + 1, acc ++ [w], accN w now) := by
  subst hw
  obtain ⟨h1, h2, h3, h4, h5⟩ := hi
  have h1 : accGo c n 0 l = acc ++ accGo c (n - i) i now := h1
  have h3 : now.length = l.length := h3
  have h4 : acc.length = i := h4
  refine ⟨?_, (accN_ok h2).1, (accN_ok h2).2.trans h3, by show (acc ++ [accW c i now]).length = i + 1; rw [List.length_append, h4]; rfl, by show i + 1 ≤ n; omega⟩
  obtain ⟨m, hm⟩ : ∃ m, n - i = m + 1 := ⟨n - i - 1, by omega⟩
  rw [h1, hm, accGo]
  show _ = (acc ++ [accW c i now]) ++ accGo c (n - (i + 1)) (i + 1) _
  rw [show n - (i + 1) = m by omega, List.append_assoc]; rfl
theorem accI_end {c : List Bool} {l : List Stn} {n i : Nat} {acc : List Int} {now : List Stn} (hi : accI c l n (i, acc, now)) (h : n ≤ i) : accGo c n 0 l = acc := by
  have h1 : accGo c n 0 l = acc ++ accGo c (n - i) i now := hi.1
  rw [h1, show n - i = 0 by omega]
  simp [accGo]
end Vc

set_option maxRecDepth 10000
namespace Vc
open Go Go.Proofs
def blsD (c : List Bool) : List Data := c.map .bool
theorem bls_len (c : List Bool) : (blsD c).length = c.length := List.length_map _
def chkCyc (c : List Bool) : Int := firstOf [bif ((c.length : Int) == 0) then 12 else 0, bif decide ((16 : Int) < (c.length : Int)) then 5 else 0]
def shortS (l : List Stn) : Bool := l.all (fun x => decide ((x.nm.length : Int) ≤ 40)) && decide ((l.length : Int) ≤ 9)
def winE (l : List Stn) : Int := bif chkStns l != 0 then chkStns l else bif decide (winF l < 0) then 7 else 0
def winP (l : List Stn) : Int := bif chkStns l != 0 then 0 else bif decide (winF l < 0) then 0 else winF l
def bndE (n : Int) : Int := within3 n 1 8
def bndP (n : Int) : Int := bif within3 n 1 8 != 0 then 0 else n + 3
def sameSt (x y : Stn) : Bool := x.nm == y.nm && (x.pri == y.pri && (x.fr == y.fr && (x.wt == y.wt && true)))
def sameSts : List Stn → List Stn → Bool
  | [], [] => true
  | x :: a, y :: b => sameSt x y && sameSts a b
  | _, _ => false
theorem sameSt_refl (x : Stn) : sameSt x x = true := by simp [sameSt]
theorem sameSts_refl : ∀ l : List Stn, sameSts l l = true
  | [] => rfl
  | x :: r => by rw [sameSts, sameSt_refl, sameSts_refl r]; rfl
theorem sameSts_len : ∀ {a b : List Stn}, a.length ≠ b.length → sameSts a b = false
  | [], [], h => absurd rfl h
  | [], _ :: _, _ => rfl
  | _ :: _, [], _ => rfl
  | x :: a, y :: b, h => by rw [sameSts, sameSts_len (a := a) (b := b) (by simpa using h), Bool.and_false]
/-- kilovar/kilovarref04.ShortStations -/
def ir53 : AFun := ⟨20, 0, [.tmp 2],
 (.seq
 (.reg [] [⟨some 2, .mov (.cst (.d (.bool false))), none⟩])
 (.seq
 (.seq
 (.reg [] [⟨some 3, .mov (.cst (.d (.int .i64 0))), none⟩])
 (.post [0] []
 (.block 0
 (.keep [0, 3] []
 (.loop
 (.post [0, 3] []
 (.seq
 (.seq
 (.reg [] [⟨some 4, .mov (.tmp 3), none⟩,
 ⟨some 5, .mov (.tmp 0), none⟩,
 ⟨some 6, .len (.tmp 5), none⟩,
 ⟨some 7, .cmp .lss (.tmp 4) (.tmp 6), none⟩])
 (.cond (.tmp 7)
 .skip
 (.exit 0)))
 (.seq
 (.block 1
 (.seq
 (.reg [] [⟨some 10, .mov (.tmp 0), none⟩,
 ⟨some 11, .mov (.tmp 3), none⟩,
 ⟨some 12, .ixa 4 (.tmp 10) (.tmp 11), none⟩,
 ⟨some 13, .fad 0 (.tmp 12), none⟩,
 ⟨some 14, .ld false 1 (.tmp 13), none⟩,
 ⟨some 15, .lens (.tmp 14), none⟩,
 ⟨some 16, .cmp .gtr (.tmp 15) (.cst (.d (.int .i64 40))), none⟩])
 (.cond (.tmp 16)
 (.seq
 (.reg [] [⟨some 2, .mov (.cst (.d (.bool false))), none⟩])
 .ret)
 .skip)))
 (.reg [] [⟨some 8, .mov (.tmp 3), none⟩,
 ⟨some 9, .arith .add .i64 (.tmp 8) (.cst (.d (.int .i64 1))), none⟩,
 ⟨some 3, .mov (.tmp 9), none⟩])))))))))
 (.seq
 (.reg [] [⟨some 17, .mov (.tmp 0), none⟩,
 ⟨some 18, .len (.tmp 17), none⟩,
 ⟨some 19, .cmp .leq (.tmp 18) (.cst (.d (.int .i64 9))), none⟩,
 ⟨some 2, .mov (.tmp 19), none⟩])
 .ret)))⟩

/-- kilovar/link.Winner -/
def ir54 : AFun := ⟨16, 0, [.tmp 2, .tmp 3],
 (.seq
 (.reg [] [⟨some 2, .mov (.cst (.d (.int .i64 0))), none⟩,
 ⟨some 3, .mov (.cst (.d (.int .i64 0))), none⟩])
 (.seq
 (.seq
 (.reg [] [⟨some 6, .mov (.tmp 0), none⟩,
 ⟨some 7, .call 70 [(.tmp 6)], none⟩,
 ⟨some 4, .mov (.tmp 7), none⟩])
 (.seq
 (.reg [] [⟨some 8, .mov (.tmp 4), none⟩,
 ⟨some 9, .cmp .neq (.tmp 8) (.cst (.d (.int .i64 0))), none⟩])
 (.cond (.tmp 9)
 (.seq
 (.reg [] [⟨some 10, .mov (.tmp 4), none⟩,
 ⟨some 2, .mov (.cst (.d (.int .i64 0))), none⟩,
 ⟨some 3, .mov (.tmp 10), none⟩])
 .ret)
 .skip)))
 (.seq
 (.reg [] [⟨some 11, .mov (.tmp 0), none⟩,
 ⟨some 12, .call 107 [(.tmp 11)], none⟩,
 ⟨some 5, .mov (.tmp 12), none⟩])
 (.seq
 (.seq
 (.reg [] [⟨some 13, .mov (.tmp 5), none⟩,
 ⟨some 14, .cmp .lss (.tmp 13) (.cst (.d (.int .i64 0))), none⟩])
 (.cond (.tmp 14)
 (.seq
 (.reg [] [⟨some 2, .mov (.cst (.d (.int .i64 0))), none⟩,
 ⟨some 3, .mov (.cst (.d (.int .i64 7))), none⟩])
 .ret)
 .skip))
 (.seq
 (.reg [] [⟨some 15, .mov (.tmp 5), none⟩,
 ⟨some 2, .mov (.tmp 15), none⟩,
 ⟨some 3, .mov (.cst (.d (.int .i64 0))), none⟩])
 .ret)))))⟩

/-- kilovar/kilovarlaw04.given -/
def ir55 : AFun := ⟨18, 3, [.tmp 2],
 (.seq
 (.reg [] [⟨some 2, .mov (.cst (.nils 4)), none⟩])
 (.seq
 (.reg [] [⟨some 3, .mov (.cst (.nils 4)), none⟩])
 (.seq
 (.seq
 (.reg [] [⟨some 6, .mov (.tmp 0), none⟩,
 ⟨some 7, .len (.tmp 6), none⟩,
 ⟨some 8, .mov (.cst (.d (.int .i64 0))), none⟩])
 (.post [3] [0, 1, 2]
 (.block 0
 (.asrow 2 146 4 3
 (.keep [3, 6, 7, 8] []
 (.loop
 (.post [3, 6, 7, 8] [0, 1, 2]
 (.seq
 (.reg [] [⟨some 9, .cmp .lss (.tmp 8) (.tmp 7), none⟩])
 (.seq
 (.cond (.tmp 9)
 .skip
 (.exit 0))
 (.seq
 (.block 1
 (.seq
 (.reg [0] [⟨some 10, .ixa 4 (.tmp 6) (.tmp 8), none⟩,
 ⟨some 11, .ld true 4 (.tmp 10), none⟩,
 ⟨some 5, .alloc 0 [(.d (.str [])), (.d (.int .i64 0)), (.d (.int .i64 0)), (.d (.int .i64 0))], none⟩,
 ⟨none, .st 4 (.tmp 5) (.tmp 11), none⟩])
 (.reg [1, 2] [⟨some 12, .mov (.tmp 3), none⟩,
 ⟨some 13, .ld true 4 (.tmp 5), none⟩,
 ⟨some 14, .bsl 1 146 4 1 [(.agg [(.str []), (.int .i64 0), (.int .i64 0), (.int .i64 0)])] [(0, (.tmp 13))], none⟩,
 ⟨some 15, .app 2 146 4 40 (.tmp 12) (.tmp 14), none⟩,
 ⟨some 3, .mov (.tmp 15), none⟩])))
 (.reg [] [⟨some 16, .arith .add .i64 (.tmp 8) (.cst (.d (.int .i64 1))), none⟩,
 ⟨some 8, .mov (.tmp 16), none⟩])))))))))))
 (.seq
 (.reg [] [⟨some 17, .mov (.tmp 3), none⟩,
 ⟨some 2, .mov (.tmp 17), none⟩])
 .ret))))⟩

/-- kilovar/link.Bound -/
def ir57 : AFun := ⟨12, 0, [.tmp 2, .tmp 3],
 (.seq
 (.reg [] [⟨some 2, .mov (.cst (.d (.int .i64 0))), none⟩,
 ⟨some 3, .mov (.cst (.d (.int .i64 0))), none⟩])
 (.seq
 (.seq
 (.reg [] [⟨some 5, .mov (.tmp 0), none⟩,
 ⟨some 6, .call 82 [(.tmp 5), (.cst (.d (.int .i64 1))), (.cst (.d (.int .i64 8)))], none⟩,
 ⟨some 4, .mov (.tmp 6), none⟩])
 (.seq
 (.reg [] [⟨some 7, .mov (.tmp 4), none⟩,
 ⟨some 8, .cmp .neq (.tmp 7) (.cst (.d (.int .i64 0))), none⟩])
 (.cond (.tmp 8)
 (.seq
 (.reg [] [⟨some 9, .mov (.tmp 4), none⟩,
 ⟨some 2, .mov (.cst (.d (.int .i64 0))), none⟩,
 ⟨some 3, .mov (.tmp 9), none⟩])
 .ret)
 .skip)))
 (.seq
 (.reg [] [⟨some 10, .mov (.tmp 0), none⟩,
 ⟨some 11, .arith .add .i64 (.tmp 10) (.cst (.d (.int .i64 3))), none⟩,
 ⟨some 2, .mov (.tmp 11), none⟩,
 ⟨some 3, .mov (.cst (.d (.int .i64 0))), none⟩])
 .ret)))⟩

/-- kilovar/kilovarref04.CheckSlots -/
def ir61 : AFun := ⟨5, 0, [.tmp 2],
 (.seq
 (.reg [] [⟨some 2, .mov (.cst (.d (.int .i64 0))), none⟩])
 (.seq
 (.reg [] [⟨some 3, .mov (.tmp 0), none⟩,
 ⟨some 4, .call 62 [(.tmp 3), (.cst (.d (.int .i64 0))), (.cst (.d (.int .i64 256)))], none⟩,
 ⟨some 2, .mov (.tmp 4), none⟩])
 .ret))⟩

/-- kilovar/kilovarref04.CheckCycle -/
def ir63 : AFun := ⟨13, 1, [.tmp 2],
 (.seq
 (.reg [] [⟨some 2, .mov (.cst (.d (.int .i64 0))), none⟩])
 (.seq
 (.reg [0] [⟨some 3, .mov (.tmp 0), none⟩,
 ⟨some 4, .len (.tmp 3), none⟩,
 ⟨some 5, .cmp .eql (.tmp 4) (.cst (.d (.int .i64 0))), none⟩,
 ⟨some 6, .call 66 [(.tmp 5), (.cst (.d (.int .i64 12)))], none⟩,
 ⟨some 7, .mov (.tmp 0), none⟩,
 ⟨some 8, .len (.tmp 7), none⟩,
 ⟨some 9, .cmp .gtr (.tmp 8) (.cst (.d (.int .i64 16))), none⟩,
 ⟨some 10, .call 66 [(.tmp 9), (.cst (.d (.int .i64 5)))], none⟩,
 ⟨some 11, .bsl 0 3 1 2 [(.int .i64 0), (.int .i64 0)] [(0, (.tmp 6)), (1, (.tmp 10))], none⟩,
 ⟨some 12, .call 89 [(.tmp 11)], none⟩,
 ⟨some 2, .mov (.tmp 12), none⟩])
 .ret))⟩

/-- kilovar/kilovarref04.HasOpen -/
def ir67 : AFun := ⟨14, 0, [.tmp 2],
 (.seq
 (.reg [] [⟨some 2, .mov (.cst (.d (.bool false))), none⟩])
 (.seq
 (.seq
 (.reg [] [⟨some 3, .mov (.cst (.d (.int .i64 0))), none⟩])
 (.post [] []
 (.block 0
 (.keep [0, 3] []
 (.loop
 (.post [0, 3] []
 (.seq
 (.seq
 (.reg [] [⟨some 4, .mov (.tmp 3), none⟩,
 ⟨some 5, .mov (.tmp 0), none⟩,
 ⟨some 6, .len (.tmp 5), none⟩,
 ⟨some 7, .cmp .lss (.tmp 4) (.tmp 6), none⟩])
 (.cond (.tmp 7)
 .skip
 (.exit 0)))
 (.seq
 (.block 1
 (.seq
 (.reg [] [⟨some 10, .mov (.tmp 0), none⟩,
 ⟨some 11, .mov (.tmp 3), none⟩,
 ⟨some 12, .ixa 1 (.tmp 10) (.tmp 11), none⟩,
 ⟨some 13, .ld false 1 (.tmp 12), none⟩])
 (.cond (.tmp 13)
 (.seq
 (.reg [] [⟨some 2, .mov (.cst (.d (.bool true))), none⟩])
 .ret)
 .skip)))
 (.reg [] [⟨some 8, .mov (.tmp 3), none⟩,
 ⟨some 9, .arith .add .i64 (.tmp 8) (.cst (.d (.int .i64 1))), none⟩,
 ⟨some 3, .mov (.tmp 9), none⟩])))))))))
 (.seq
 (.reg [] [⟨some 2, .mov (.cst (.d (.bool false))), none⟩])
 .ret)))⟩

/-- kilovar/kilovarlaw04.standing -/
def ir71 : AFun := ⟨22, 3, [.tmp 4],
 (.seq
 (.reg [] [⟨some 4, .mov (.cst (.d (.bool false))), none⟩])
 (.seq
 (.reg [] [⟨some 5, .mov (.cst (.nils 4)), none⟩])
 (.seq
 (.seq
 (.reg [] [⟨some 8, .mov (.tmp 0), none⟩,
 ⟨some 9, .len (.tmp 8), none⟩,
 ⟨some 10, .mov (.cst (.d (.int .i64 0))), none⟩])
 (.post [1, 5] [0, 1, 2]
 (.block 0
 (.asrow 2 144 4 5
 (.keep [1, 5, 8, 9, 10] []
 (.loop
 (.post [1, 5, 8, 9, 10] [0, 1, 2]
 (.seq
 (.reg [] [⟨some 11, .cmp .lss (.tmp 10) (.tmp 9), none⟩])
 (.seq
 (.cond (.tmp 11)
 .skip
 (.exit 0))
 (.seq
 (.block 1
 (.seq
 (.reg [0] [⟨some 12, .ixa 4 (.tmp 8) (.tmp 10), none⟩,
 ⟨some 13, .ld true 4 (.tmp 12), none⟩,
 ⟨some 7, .alloc 0 [(.d (.str [])), (.d (.int .i64 0)), (.d (.int .i64 0)), (.d (.int .i64 0))], none⟩,
 ⟨none, .st 4 (.tmp 7) (.tmp 13), none⟩])
 (.reg [1, 2] [⟨some 14, .mov (.tmp 5), none⟩,
 ⟨some 15, .ld true 4 (.tmp 7), none⟩,
 ⟨some 16, .bsl 1 144 4 1 [(.agg [(.str []), (.int .i64 0), (.int .i64 0), (.int .i64 0)])] [(0, (.tmp 15))], none⟩,
 ⟨some 17, .app 2 144 4 40 (.tmp 14) (.tmp 16), none⟩,
 ⟨some 5, .mov (.tmp 17), none⟩])))
 (.reg [] [⟨some 18, .arith .add .i64 (.tmp 10) (.cst (.d (.int .i64 1))), none⟩,
 ⟨some 10, .mov (.tmp 18), none⟩])))))))))))
 (.seq
 (.reg [] [⟨some 19, .mov (.tmp 5), none⟩,
 ⟨some 20, .mov (.tmp 1), none⟩,
 ⟨some 21, .call 115 [(.tmp 19), (.tmp 20)], none⟩,
 ⟨some 4, .mov (.tmp 21), none⟩])
 .ret))))⟩

/-- kilovar/link.checkCycle -/
def ir110 : AFun := ⟨13, 1, [.tmp 2],
 (.seq
 (.reg [] [⟨some 2, .mov (.cst (.d (.int .i64 0))), none⟩])
 (.seq
 (.reg [0] [⟨some 3, .mov (.tmp 0), none⟩,
 ⟨some 4, .len (.tmp 3), none⟩,
 ⟨some 5, .cmp .eql (.tmp 4) (.cst (.d (.int .i64 0))), none⟩,
 ⟨some 6, .call 83 [(.tmp 5), (.cst (.d (.int .i64 12)))], none⟩,
 ⟨some 7, .mov (.tmp 0), none⟩,
 ⟨some 8, .len (.tmp 7), none⟩,
 ⟨some 9, .cmp .gtr (.tmp 8) (.cst (.d (.int .i64 16))), none⟩,
 ⟨some 10, .call 83 [(.tmp 9), (.cst (.d (.int .i64 5)))], none⟩,
 ⟨some 11, .bsl 0 31 1 2 [(.int .i64 0), (.int .i64 0)] [(0, (.tmp 6)), (1, (.tmp 10))], none⟩,
 ⟨some 12, .call 81 [(.tmp 11)], none⟩,
 ⟨some 2, .mov (.tmp 12), none⟩])
 .ret))⟩

/-- slices.Contains[[]bool,bool] -/
def ir111 : AFun := ⟨9, 0, [.tmp 4],
 (.seq
 (.reg [] [⟨some 4, .mov (.cst (.d (.bool false))), none⟩])
 (.seq
 (.reg [] [⟨some 5, .mov (.tmp 0), none⟩,
 ⟨some 6, .mov (.tmp 1), none⟩,
 ⟨some 7, .call 142 [(.tmp 5), (.tmp 6)], none⟩,
 ⟨some 8, .cmp .geq (.tmp 7) (.cst (.d (.int .i64 0))), none⟩,
 ⟨some 4, .mov (.tmp 8), none⟩])
 .ret))⟩

/-- kilovar/kilovarref04.SameStations -/
def ir115 : AFun := ⟨26, 0, [.tmp 4],
 (.seq
 (.reg [] [⟨some 4, .mov (.cst (.d (.bool false))), none⟩])
 (.seq
 (.seq
 (.reg [] [⟨some 6, .mov (.tmp 0), none⟩,
 ⟨some 7, .len (.tmp 6), none⟩,
 ⟨some 8, .mov (.tmp 1), none⟩,
 ⟨some 9, .len (.tmp 8), none⟩,
 ⟨some 10, .cmp .neq (.tmp 7) (.tmp 9), none⟩])
 (.cond (.tmp 10)
 (.seq
 (.reg [] [⟨some 4, .mov (.cst (.d (.bool false))), none⟩])
 .ret)
 .skip))
 (.seq
 (.seq
 (.reg [] [⟨some 5, .mov (.cst (.d (.int .i64 0))), none⟩])
 (.post [] []
 (.block 0
 (.keep [0, 1, 5] []
 (.loop
 (.post [0, 1, 5] []
 (.seq
 (.seq
 (.reg [] [⟨some 11, .mov (.tmp 5), none⟩,
 ⟨some 12, .mov (.tmp 0), none⟩,
 ⟨some 13, .len (.tmp 12), none⟩,
 ⟨some 14, .cmp .lss (.tmp 11) (.tmp 13), none⟩])
 (.cond (.tmp 14)
 .skip
 (.exit 0)))
 (.seq
 (.block 1
 (.seq
 (.regd [] [⟨some 17, .mov (.tmp 0), none⟩,
 ⟨some 18, .mov (.tmp 5), none⟩,
 ⟨some 19, .ixa 4 (.tmp 17) (.tmp 18), none⟩,
 ⟨some 20, .ld true 4 (.tmp 19), none⟩,
 ⟨some 21, .mov (.tmp 1), none⟩,
 ⟨some 22, .mov (.tmp 5), none⟩,
 ⟨some 23, .ixa 4 (.tmp 21) (.tmp 22), none⟩,
 ⟨some 24, .ld true 4 (.tmp 23), none⟩,
 ⟨some 25, .aeq true [2, 0, 0, 0] (.tmp 20) (.tmp 24), none⟩] [(0, 1), (0, 4), (1, 4), (2, 4), (3, 4), (0, 5), (1, 5), (2, 5), (3, 5), (4, 5), (0, 6), (1, 6), (2, 6), (3, 6), (0, 7), (1, 7), (2, 7), (3, 7)])
 (.cond (.tmp 25)
 (.seq
 (.reg [] [⟨some 4, .mov (.cst (.d (.bool false))), none⟩])
 .ret)
 .skip)))
 (.reg [] [⟨some 15, .mov (.tmp 5), none⟩,
 ⟨some 16, .arith .add .i64 (.tmp 15) (.cst (.d (.int .i64 1))), none⟩,
 ⟨some 5, .mov (.tmp 16), none⟩])))))))))
 (.seq
 (.reg [] [⟨some 4, .mov (.cst (.d (.bool true))), none⟩])
 .ret))))⟩

/-- slices.Index[[]bool,bool] -/
def ir142 : AFun := ⟨19, 0, [.tmp 4],
 (.seq
 (.reg [] [⟨some 4, .mov (.cst (.d (.int .i64 0))), none⟩])
 (.seq
 (.seq
 (.reg [] [⟨some 6, .mov (.tmp 0), none⟩,
 ⟨some 7, .len (.tmp 6), none⟩,
 ⟨some 8, .mov (.cst (.d (.int .i64 0))), none⟩])
 (.post [] []
 (.block 0
 (.keep [0, 1, 7, 8] []
 (.loop
 (.post [0, 1, 7, 8] []
 (.seq
 (.reg [] [⟨some 9, .cmp .lss (.tmp 8) (.tmp 7), none⟩])
 (.seq
 (.cond (.tmp 9)
 .skip
 (.exit 0))
 (.seq
 (.block 1
 (.seq
 (.reg [] [⟨some 10, .mov (.tmp 8), none⟩,
 ⟨some 5, .mov (.tmp 10), none⟩])
 (.seq
 (.reg [] [⟨some 11, .mov (.tmp 1), none⟩,
 ⟨some 12, .mov (.tmp 0), none⟩,
 ⟨some 13, .mov (.tmp 5), none⟩,
 ⟨some 14, .ixa 1 (.tmp 12) (.tmp 13), none⟩,
 ⟨some 15, .ld false 1 (.tmp 14), none⟩,
 ⟨some 16, .beq false (.tmp 11) (.tmp 15), none⟩])
 (.cond (.tmp 16)
 (.seq
 (.reg [] [⟨some 17, .mov (.tmp 5), none⟩,
 ⟨some 4, .mov (.tmp 17), none⟩])
 .ret)
 .skip))))
 (.reg [] [⟨some 18, .arith .add .i64 (.tmp 8) (.cst (.d (.int .i64 1))), none⟩,
 ⟨some 8, .mov (.tmp 18), none⟩]))))))))))
 (.seq
 (.reg [] [⟨some 4, .mov (.cst (.d (.int .i64 (-1)))), none⟩])
 .ret)))⟩


theorem c53 (l : List Stn) (hl : l.length ≤ 1048576) : CallDet Tryz.prog 53 [.d (.slice 4 (stns l))] [.bool (shortS l)] := by
  have hlen := stns_len l
  refine call_of_vc (x := ir53) (by kernel_rfl) rfl ?_
  refine loop_st (fun k : Nat => ⟨[(0, .d (.slice 4 (stns l))), (3, .d (.int .i64 k))], []⟩)
    (fun k => l.all (fun x => decide ((x.nm.length : Int) ≤ 40)) = (l.drop k).all (fun x => decide ((x.nm.length : Int) ≤ 40))) (fun k => l.length - k) 0 rfl rfl ?_
  intro k hi
  refine And.intro rfl ?_
  refine brk_lt (fun h => ?_) (fun h => ?_)
  · have h : (k : Int) < ((stns l).length : Int) := h
    refine Exists.elim (⟨_, List.getElem?_eq_getElem (by omega)⟩ : ∃ x, l[k]? = some x) fun x hx => ?_
    have hd : (stns l)[(k : Int).toNat]? = some x.d := by simp [stns, hx]
    obtain ⟨hl2, e⟩ := List.getElem?_eq_some_iff.1 hx
    rw [List.drop_eq_getElem_cons hl2, e, List.all_cons] at hi
    refine ix_at hd (by omega) ?_
    refine And.intro rfl ?_
    refine brk_lt (fun h1 => ?_) (fun h1 => ?_)
    · have h1 : (40 : Int) < (x.nm.length : Int) := h1
      have : shortS l = false := by unfold shortS; rw [hi, decide_eq_false (by omega)]; rfl
      exact (congrArg (fun b => resV [.bool b]) this).symm
    · have h1 : ¬ (40 : Int) < (x.nm.length : Int) := h1
      refine ar_add (by omega) ?_
      refine ⟨k + 1, ⟨?_, by show l.length - (k + 1) < l.length - k; omega⟩, rfl⟩
      rw [hi, decide_eq_true (by omega)]; rfl
  · have h : ¬ (k : Int) < ((stns l).length : Int) := h
    refine And.intro rfl ?_
    have : shortS l = decide (((stns l).length : Int) ≤ 9) := by unfold shortS; rw [hi, List.drop_eq_nil_of_le (by omega), hlen]; rfl
    exact (congrArg (fun b => resV [.bool b]) this).symm
theorem c54 (l : List Stn) : CallDet Tryz.prog 54 [.d (.slice 4 (stns l))] [.int .i64 (winP l), .int .i64 (winE l)] := by
  refine call_of_vc (x := ir54) (by kernel_rfl) rfl ?_
  have fin : ∀ a b : Int, winP l = a → winE l = b → resV [.int .i64 a, .int .i64 b] = resV [.int .i64 (winP l), .int .i64 (winE l)] := fun a b h1 h2 => by rw [h1, h2]
  refine Exists.intro _ (And.intro (c70 l) ?_)
  refine And.intro rfl ?_
  refine brk_intro ?_ ?_
  · intro h
    have h : (chkStns l != 0) = true := h
    exact fin _ _ (by unfold winP; rw [h]; rfl) (by unfold winE; rw [h]; rfl)
  intro h
  have h : (chkStns l != 0) = false := h
  obtain ⟨ho, h8⟩ := chkStns_ok (show chkStns l = 0 by simpa using h)
  refine Exists.intro _ (And.intro (c107 l (by omega) ho) ?_)
  refine And.intro rfl ?_
  refine brk_intro ?_ ?_
  · intro h2
    have h2 : decide (winF l < 0) = true := h2
    exact fin _ _ (by unfold winP; rw [h, h2]; rfl) (by unfold winE; rw [h, h2]; rfl)
  · intro h2
    have h2 : decide (winF l < 0) = false := h2
    exact fin _ _ (by unfold winP; rw [h, h2]; rfl) (by unfold winE; rw [h, h2]; rfl)
theorem take_stns {l : List Stn} {k : Nat} {x : Stn} (h : l[k]? = some x) : stns (l.take (k + 1)) = stns (l.take k) ++ [x.d] := by
  rw [take_one h]; simp [stns]
theorem c55 (l : List Stn) (hl : l.length ≤ 1048576) : CallDet Tryz.prog 55 [.d (.slice 4 (stns l))] [.slice 4 (stns l)] := by
  have hlen := stns_len l
  refine call_of_vc (x := ir55) (by kernel_rfl) rfl ?_
  refine loop_st (fun k : Nat => ⟨[(3, .sl 2 (stns (l.take k)).length), (6, .d (.slice 4 (stns l))), (7, .d (.int .i64 ((stns l).length : Int))), (8, .d (.int .i64 k))], [.none, .none, .row 146 4 (stns (l.take k)) false]⟩)
    (fun k => k ≤ l.length) (fun k => l.length - k) 0 rfl (Nat.zero_le _) ?_
  intro k hk
  have hal : (stns (l.take k)).length = k := by rw [stns_len, List.length_take]; omega
  refine And.intro rfl ?_
  refine brk_lt (fun h => ?_) (fun h => ?_)
  · have h : (k : Int) < ((stns l).length : Int) := h
    refine Exists.elim (⟨_, List.getElem?_eq_getElem (by omega)⟩ : ∃ x, l[k]? = some x) fun x hx => ?_
    have hd : (stns l)[(k : Int).toNat]? = some x.d := by simp [stns, hx]
    refine ix_at hd (by omega) ?_
    repeat refine And.intro rfl ?_
    refine And.intro ⟨rfl, rfl, rfl, ?_, ?_⟩ ?_
    · show ((stns (l.take k)).length + 1) * 40 ≤ 2 ^ 47
      omega
    · show (stns (l.take k)).length + 1 ≤ 2 ^ 47
      omega
    refine ar_add (by omega) ?_
    refine ⟨k + 1, ⟨by omega, by omega⟩, ?_⟩
    rw [take_stns hx]; rfl
  · have h : ¬ (k : Int) < ((stns l).length : Int) := h
    have e : stns l = stns (l.take k) := by rw [List.take_of_length_le (by omega)]
    refine And.intro rfl ?_
    exact (congrArg (fun d => resV [.slice 4 d]) e).symm
theorem c57 (n : Int) : CallDet Tryz.prog 57 [.d (.int .i64 n)] [.int .i64 (bndP n), .int .i64 (bndE n)] := by
  refine call_of_vc (x := ir57) (by kernel_rfl) rfl ?_
  have fin : ∀ a b : Int, bndP n = a → bndE n = b → resV [.int .i64 a, .int .i64 b] = resV [.int .i64 (bndP n), .int .i64 (bndE n)] := fun a b h1 h2 => by rw [h1, h2]
  refine Exists.intro _ (And.intro (c82 _ _ _) ?_)
  refine And.intro rfl ?_
  refine brk_intro ?_ ?_
  · intro h
    have h : (within3 n 1 8 != 0) = true := h
    exact fin _ _ (by unfold bndP; rw [h]; rfl) rfl
  · intro h
    have h : (within3 n 1 8 != 0) = false := h
    have h0 : within3 n 1 8 = 0 := by simpa using h
    have hr := within_ok h0
    refine ar_add (by omega) ?_
    exact fin _ _ (by unfold bndP; rw [h]; rfl) (by unfold bndE; rw [h0])
theorem c61 (n : Int) : CallDet Tryz.prog 61 [.d (.int .i64 n)] [.int .i64 (within3 n 0 256)] := by
  refine call_of_vc (x := ir61) (by kernel_rfl) rfl ?_
  refine Exists.intro _ (And.intro (c62 _ _ _) ?_)
  exact rfl
theorem c63 (c : List Bool) : CallDet Tryz.prog 63 [.d (.slice 1 (blsD c))] [.int .i64 (chkCyc c)] := by
  refine call_of_vc (x := ir63) (by kernel_rfl) rfl ?_
  have e : chkCyc c = firstOf [bif (((blsD c).length : Int) == 0) then 12 else 0, bif decide ((16 : Int) < ((blsD c).length : Int)) then 5 else 0] := by rw [bls_len]; rfl
  refine And.intro rfl ?_
  refine Exists.intro _ (And.intro (c66 _ _) ?_)
  refine And.intro rfl ?_
  refine Exists.intro _ (And.intro (c66 _ _) ?_)
  repeat refine And.intro rfl ?_
  refine Exists.intro _ (And.intro (c89 [bif (((blsD c).length : Int) == 0) then 12 else 0, bif decide ((16 : Int) < ((blsD c).length : Int)) then 5 else 0] (by simp)) ?_)
  exact (congrArg (fun d => resV [.int .i64 d]) e).symm
theorem c110 (c : List Bool) : CallDet Tryz.prog 110 [.d (.slice 1 (blsD c))] [.int .i64 (chkCyc c)] := by
  refine call_of_vc (x := ir110) (by kernel_rfl) rfl ?_
  have e : chkCyc c = firstOf [bif (((blsD c).length : Int) == 0) then 12 else 0, bif decide ((16 : Int) < ((blsD c).length : Int)) then 5 else 0] := by rw [bls_len]; rfl
  refine And.intro rfl ?_
  refine Exists.intro _ (And.intro (c83 _ _) ?_)
  refine And.intro rfl ?_
  refine Exists.intro _ (And.intro (c83 _ _) ?_)
  repeat refine And.intro rfl ?_
  refine Exists.intro _ (And.intro (c81 [bif (((blsD c).length : Int) == 0) then 12 else 0, bif decide ((16 : Int) < ((blsD c).length : Int)) then 5 else 0] (by simp)) ?_)
  exact (congrArg (fun d => resV [.int .i64 d]) e).symm
theorem c67 (c : List Bool) (hl : c.length ≤ 1048576) : CallDet Tryz.prog 67 [.d (.slice 1 (blsD c))] [.bool (c.contains true)] := by
  have hlen := bls_len c
  refine call_of_vc (x := ir67) (by kernel_rfl) rfl ?_
  refine loop_st (fun k : Nat => ⟨[(0, .d (.slice 1 (blsD c))), (3, .d (.int .i64 k))], []⟩)
    (fun k => c.contains true = (c.drop k).contains true) (fun k => c.length - k) 0 rfl rfl ?_
  intro k hi
  refine And.intro rfl ?_
  refine brk_lt (fun h => ?_) (fun h => ?_)
  · have h : (k : Int) < ((blsD c).length : Int) := h
    refine Exists.elim (⟨_, List.getElem?_eq_getElem (by omega)⟩ : ∃ x, c[k]? = some x) fun x hx => ?_
    have hd : (blsD c)[(k : Int).toNat]? = some (.bool x) := by simp [blsD, hx]
    obtain ⟨hl2, e⟩ := List.getElem?_eq_some_iff.1 hx
    rw [List.drop_eq_getElem_cons hl2, e, List.contains_cons] at hi
    refine ix_at hd (by omega) ?_
    refine brk_intro ?_ ?_
    · intro hb
      have hb : x = true := hb
      have : c.contains true = true := by rw [hi, hb]; rfl
      exact (congrArg (fun b => resV [.bool b]) this).symm
    · intro hb
      have hb : x = false := hb
      refine ar_add (by omega) ?_
      refine ⟨k + 1, ⟨?_, by show c.length - (k + 1) < c.length - k; omega⟩, rfl⟩
      rw [hi, hb]; rfl
  · have h : ¬ (k : Int) < ((blsD c).length : Int) := h
    have : c.contains true = false := by rw [hi, List.drop_eq_nil_of_le (by omega)]; rfl
    exact (congrArg (fun b => resV [.bool b]) this).symm
def ixB (x : Bool) : List Bool → Int → Int
  | [], _ => -1
  | y :: r, k => bif x == y then k else ixB x r (k + 1)
theorem ixB_ge (x : Bool) : ∀ (l : List Bool) (k : Int), 0 ≤ k → decide (0 ≤ ixB x l k) = l.contains x
  | [], _, _ => rfl
  | y :: r, k, h => by
    rw [List.contains_cons, ixB]
    cases x == y
    · exact ixB_ge x r (k + 1) (by omega)
    · exact decide_eq_true h
theorem c142 (l : List Bool) (x : Bool) (hl : l.length ≤ 1048576) : CallDet Tryz.prog 142 [.d (.slice 1 (blsD l)), .d (.bool x)] [.int .i64 (ixB x l 0)] := by
  have hlen := bls_len l
  refine call_of_vc (x := ir142) (by kernel_rfl) rfl ?_
  refine loop_st (fun k : Nat => ⟨[(0, .d (.slice 1 (blsD l))), (1, .d (.bool x)), (7, .d (.int .i64 ((blsD l).length : Int))), (8, .d (.int .i64 k))], []⟩)
    (fun k => ixB x l 0 = ixB x (l.drop k) k) (fun k => l.length - k) 0 rfl rfl ?_
  intro k hi
  refine And.intro rfl ?_
  refine brk_lt (fun h => ?_) (fun h => ?_)
  · have h : (k : Int) < ((blsD l).length : Int) := h
    refine Exists.elim (⟨_, List.getElem?_eq_getElem (by omega)⟩ : ∃ y, l[k]? = some y) fun y hy => ?_
    have hd : (blsD l)[(k : Int).toNat]? = some (.bool y) := by simp [blsD, hy]
    obtain ⟨hl2, e⟩ := List.getElem?_eq_some_iff.1 hy
    rw [List.drop_eq_getElem_cons hl2, e, ixB] at hi
    refine ix_at hd (by omega) ?_
    refine brk_intro ?_ ?_
    · intro hb
      have hb : (x == y) = true := hb
      have : ixB x l 0 = k := by rw [hi, hb]; rfl
      exact (congrArg (fun b => resV [.int .i64 b]) this).symm
    · intro hb
      have hb : (x == y) = false := hb
      refine ar_add (by omega) ?_
      refine ⟨k + 1, ⟨?_, by show l.length - (k + 1) < l.length - k; omega⟩, rfl⟩
      rw [hi, hb]; rfl
  · have h : ¬ (k : Int) < ((blsD l).length : Int) := h
    have : ixB x l 0 = -1 := by rw [hi, List.drop_eq_nil_of_le (by omega)]; rfl
    exact (congrArg (fun b => resV [.int .i64 b]) this).symm
theorem c111 (l : List Bool) (x : Bool) (hl : l.length ≤ 1048576) : CallDet Tryz.prog 111 [.d (.slice 1 (blsD l)), .d (.bool x)] [.bool (l.contains x)] := by
  refine call_of_vc (x := ir111) (by kernel_rfl) rfl ?_
  refine Exists.intro _ (And.intro (c142 l x hl) ?_)
  refine And.intro rfl ?_
  exact congrArg (fun b => resV [.bool b]) (ixB_ge x l 0 (Int.le_refl _))
theorem c115 (a b : List Stn) (ha : a.length ≤ 1048576) : CallDet Tryz.prog 115 [.d (.slice 4 (stns a)), .d (.slice 4 (stns b))] [.bool (sameSts a b)] := by
  have hla := stns_len a
  have hlb := stns_len b
  refine call_of_vc (x := ir115) (by kernel_rfl) rfl ?_
  refine And.intro rfl ?_
  refine brk_ne (fun h => ?_) (fun h => ?_)
  · have h : ¬ ((stns a).length : Int) = ((stns b).length : Int) := h
    have : sameSts a b = false := sameSts_len (by omega)
    exact (congrArg (fun v => resV [.bool v]) this).symm
  have h : ((stns a).length : Int) = ((stns b).length : Int) := h
  refine loop_st (fun k : Nat => ⟨[(0, .d (.slice 4 (stns a))), (1, .d (.slice 4 (stns b))), (5, .d (.int .i64 k))], []⟩)
    (fun k => sameSts a b = sameSts (a.drop k) (b.drop k)) (fun k => a.length - k) 0 rfl rfl ?_
  intro k hi
  refine And.intro rfl ?_
  refine brk_lt (fun h1 => ?_) (fun h1 => ?_)
  · have h1 : (k : Int) < ((stns a).length : Int) := h1
    refine Exists.elim (⟨_, List.getElem?_eq_getElem (by omega)⟩ : ∃ x, a[k]? = some x) fun x hx => ?_
    refine Exists.elim (⟨_, List.getElem?_eq_getElem (by omega)⟩ : ∃ y, b[k]? = some y) fun y hy => ?_
    have hdx : (stns a)[(k : Int).toNat]? = some x.d := by simp [stns, hx]
    have hdy : (stns b)[(k : Int).toNat]? = some y.d := by simp [stns, hy]
    obtain ⟨hl2, e⟩ := List.getElem?_eq_some_iff.1 hx
    obtain ⟨hl3, e3⟩ := List.getElem?_eq_some_iff.1 hy
    rw [List.drop_eq_getElem_cons hl2, e, List.drop_eq_getElem_cons hl3, e3, sameSts] at hi
    refine ix_at hdx (by omega) ?_
    refine ix_at hdy (by omega) ?_
    refine Exists.intro (.bool (!(sameSt x y))) (And.intro ⟨sameSt x y, rfl, rfl⟩ ?_)
    refine brk_intro ?_ ?_
    · intro hb
      have hb : (!(sameSt x y)) = true := hb
      have : sameSts a b = false := by rw [hi, show sameSt x y = false by simpa using hb]; rfl
      exact (congrArg (fun v => resV [.bool v]) this).symm
    · intro hb
      have hb : (!(sameSt x y)) = false := hb
      refine ar_add (by omega) ?_
      refine ⟨k + 1, ⟨?_, by show a.length - (k + 1) < a.length - k; omega⟩, rfl⟩
      rw [hi, show sameSt x y = true by simpa using hb]; rfl
  · have h1 : ¬ (k : Int) < ((stns a).length : Int) := h1
    have : sameSts a b = true := by rw [hi, List.drop_eq_nil_of_le (by omega), List.drop_eq_nil_of_le (by omega)]; rfl
    exact (congrArg (fun v => resV [.bool v]) this).symm
theorem c71 (l r : List Stn) (hl : l.length ≤ 1048576) : CallDet Tryz.prog 71 [.d (.slice 4 (stns l)), .d (.slice 4 (stns r))] [.bool (sameSts l r)] := by
  have hlen := stns_len l
  refine call_of_vc (x := ir71) (by kernel_rfl) rfl ?_
  refine loop_st (fun k : Nat => ⟨[(1, .d (.slice 4 (stns r))), (5, .sl 2 (stns (l.take k)).length), (8, .d (.slice 4 (stns l))), (9, .d (.int .i64 ((stns l).length : Int))), (10, .d (.int .i64 k))], [.none, .none, .row 144 4 (stns (l.take k)) false]⟩)
    (fun k => k ≤ l.length) (fun k => l.length - k) 0 rfl (Nat.zero_le _) ?_
  intro k hk
  have hal : (stns (l.take k)).length = k := by rw [stns_len, List.length_take]; omega
  refine And.intro rfl ?_
  refine brk_lt (fun h => ?_) (fun h => ?_)
  · have h : (k : Int) < ((stns l).length : Int) := h
    refine Exists.elim (⟨_, List.getElem?_eq_getElem (by omega)⟩ : ∃ x, l[k]? = some x) fun x hx => ?_
    have hd : (stns l)[(k : Int).toNat]? = some x.d := by simp [stns, hx]
    refine ix_at hd (by omega) ?_
    repeat refine And.intro rfl ?_
    refine And.intro ⟨rfl, rfl, rfl, ?_, ?_⟩ ?_
    · show ((stns (l.take k)).length + 1) * 40 ≤ 2 ^ 47
      omega
    · show (stns (l.take k)).length + 1 ≤ 2 ^ 47
      omega
    refine ar_add (by omega) ?_
    refine ⟨k + 1, ⟨by omega, by omega⟩, ?_⟩
    rw [take_stns hx]; rfl
  · have h : ¬ (k : Int) < ((stns l).length : Int) := h
    have e : l.take k = l := List.take_of_length_le (by omega)
    rw [e]
    refine And.intro rfl ?_
    refine Exists.intro _ (And.intro (c115 l r hl) ?_)
    exact rfl
end Vc

set_option maxRecDepth 10000
namespace Vc
open Go Go.Proofs
def srvE (l : List Stn) (n : Int) : Int := firstOf [chkStns l, within3 n 0 256]
def srvP (l : List Stn) (n : Int) : List Int × List Stn := bif srvE l n != 0 then ([], []) else srvGo n.toNat l
def opnE (c : List Bool) (f n : Int) : Int := firstOf [chkCyc c, within3 f 0 999999999, within3 n 0 256, bif !(c.contains true) then 7 else 0]
def opnP (c : List Bool) (f n : Int) : List Int := bif opnE c f n != 0 then [] else opnF c f.toNat n.toNat
def accE (l : List Stn) (c : List Bool) (n : Int) : Int := firstOf [chkStns l, chkCyc c, within3 n 0 256, bif !(c.contains true) then 7 else 0]
def accP (l : List Stn) (c : List Bool) (n : Int) : List Int := bif accE l c n != 0 then [] else accGo c n.toNat 0 l
theorem has_zero {b : Bool} (h : (bif !b then (7 : Int) else 0) = 0) : b = true := by cases b <;> simp_all
theorem cyc_ok {c : List Bool} (h : chkCyc c = 0) : 1 ≤ c.length ∧ c.length ≤ 16 := by
  have h1 := firstOf_zero h (bif ((c.length : Int) == 0) then 12 else 0) (by simp)
  have h2 := firstOf_zero h (bif decide ((16 : Int) < (c.length : Int)) then 5 else 0) (by simp)
  rcases Bool.eq_false_or_eq_true ((c.length : Int) == 0) with e | e
  · rw [e] at h1; cases h1
  · rcases Bool.eq_false_or_eq_true (decide ((16 : Int) < (c.length : Int))) with e2 | e2
    · rw [e2] at h2; cases h2
    · have := ne_of_beq_false e
      have := of_decide_eq_false e2
      omega
theorem sg {l : List Stn} {n : Nat} {p : List Int × List Stn} (h : srvGo n l = p) : resV [.slice 1 (ints p.1), .slice 4 (stns p.2)] = resV [.slice 1 (ints (srvGo n l).1), .slice 4 (stns (srvGo n l).2)] := by rw [h]
theorem sp' {l : List Stn} {n : Int} {p : List Int × List Stn} {e : Int} (h : srvP l n = p) (he : srvE l n = e) : resV [.slice 1 (ints p.1), .slice 4 (stns p.2), .int .i64 e] = resV [.slice 1 (ints (srvP l n).1), .slice 4 (stns (srvP l n).2), .int .i64 (srvE l n)] := by rw [h, he]
theorem ints_snoc (l : List Int) (x : Int) : ints (l ++ [x]) = ints l ++ [.int .i64 x] := by simp [ints]
theorem ints_len (l : List Int) : (ints l).length = l.length := by simp [ints]
/-- kilovar/kilovarref04.Served -/
def ir65 : AFun := ⟨29, 2, [.tmp 4, .tmp 5],
 (.seq
 (.reg [] [⟨some 4, .mov (.cst (.nils 1)), none⟩,
 ⟨some 5, .mov (.cst (.nils 4)), none⟩])
 (.seq
 (.reg [] [⟨some 6, .mov (.cst (.nils 1)), none⟩])
 (.seq
 (.seq
 (.reg [] [⟨some 7, .mov (.cst (.d (.int .i64 0))), none⟩])
 (.post [0, 6] [0, 1]
 (.block 0
 (.asrow 1 3 1 6
 (.keep [0, 1, 6, 7] []
 (.loop
 (.post [0, 1, 6, 7] [0, 1]
 (.seq
 (.seq
 (.reg [] [⟨some 9, .mov (.tmp 7), none⟩,
 ⟨some 10, .mov (.tmp 1), none⟩,
 ⟨some 11, .cmp .lss (.tmp 9) (.tmp 10), none⟩])
 (.cond (.tmp 11)
 .skip
 (.exit 0)))
 (.seq
 (.block 1
 (.seq
 (.reg [] [⟨some 14, .mov (.tmp 0), none⟩,
 ⟨some 15, .call 64 [(.tmp 14)], none⟩,
 ⟨some 8, .mov (.tmp 15), none⟩])
 (.seq
 (.seq
 (.reg [] [⟨some 16, .mov (.tmp 8), none⟩,
 ⟨some 17, .cmp .lss (.tmp 16) (.cst (.d (.int .i64 0))), none⟩])
 (.cond (.tmp 17)
 (.seq
 (.reg [] [⟨some 18, .mov (.tmp 6), none⟩,
 ⟨some 19, .mov (.tmp 0), none⟩,
 ⟨some 4, .mov (.tmp 18), none⟩,
 ⟨some 5, .mov (.tmp 19), none⟩])
 .ret)
 .skip))
 (.reg [0, 1] [⟨some 20, .mov (.tmp 6), none⟩,
 ⟨some 21, .mov (.tmp 8), none⟩,
 ⟨some 22, .bsl 0 3 1 1 [(.int .i64 0)] [(0, (.tmp 21))], none⟩,
 ⟨some 23, .app 1 3 1 8 (.tmp 20) (.tmp 22), none⟩,
 ⟨some 24, .mov (.tmp 0), none⟩,
 ⟨some 25, .mov (.tmp 8), none⟩,
 ⟨some 26, .call 76 [(.tmp 24), (.tmp 25)], none⟩,
 ⟨some 6, .mov (.tmp 23), none⟩,
 ⟨some 0, .mov (.tmp 26), none⟩]))))
 (.reg [] [⟨some 12, .mov (.tmp 7), none⟩,
 ⟨some 13, .arith .add .i64 (.tmp 12) (.cst (.d (.int .i64 1))), none⟩,
 ⟨some 7, .mov (.tmp 13), none⟩]))))))))))
 (.seq
 (.reg [] [⟨some 27, .mov (.tmp 6), none⟩,
 ⟨some 28, .mov (.tmp 0), none⟩,
 ⟨some 4, .mov (.tmp 27), none⟩,
 ⟨some 5, .mov (.tmp 28), none⟩])
 .ret))))⟩

/-- kilovar/link.Served -/
def ir56 : AFun := ⟨39, 3, [.tmp 4, .tmp 5, .tmp 6],
 (.seq
 (.reg [] [⟨some 4, .mov (.cst (.nils 1)), none⟩,
 ⟨some 5, .mov (.cst (.nils 4)), none⟩,
 ⟨some 6, .mov (.cst (.d (.int .i64 0))), none⟩])
 (.seq
 (.seq
 (.reg [0] [⟨some 11, .mov (.tmp 0), none⟩,
 ⟨some 12, .call 70 [(.tmp 11)], none⟩,
 ⟨some 13, .mov (.tmp 1), none⟩,
 ⟨some 14, .call 82 [(.tmp 13), (.cst (.d (.int .i64 0))), (.cst (.d (.int .i64 256)))], none⟩,
 ⟨some 15, .bsl 0 31 1 2 [(.int .i64 0), (.int .i64 0)] [(0, (.tmp 12)), (1, (.tmp 14))], none⟩,
 ⟨some 16, .call 81 [(.tmp 15)], none⟩,
 ⟨some 7, .mov (.tmp 16), none⟩])
 (.seq
 (.reg [] [⟨some 17, .mov (.tmp 7), none⟩,
 ⟨some 18, .cmp .neq (.tmp 17) (.cst (.d (.int .i64 0))), none⟩])
 (.cond (.tmp 18)
 (.seq
 (.reg [] [⟨some 19, .mov (.tmp 7), none⟩,
 ⟨some 4, .mov (.cst (.nils 1)), none⟩,
 ⟨some 5, .mov (.cst (.nils 4)), none⟩,
 ⟨some 6, .mov (.tmp 19), none⟩])
 .ret)
 .skip)))
 (.seq
 (.reg [] [⟨some 8, .mov (.cst (.nils 1)), none⟩])
 (.seq
 (.reg [] [⟨some 20, .mov (.tmp 0), none⟩,
 ⟨some 21, .call 108 [(.tmp 20)], none⟩,
 ⟨some 9, .mov (.tmp 21), none⟩])
 (.seq
 (.seq
 (.reg [] [⟨some 22, .mov (.tmp 1), none⟩,
 ⟨some 23, .mov (.cst (.d (.int .i64 0))), none⟩])
 (.post [8, 9] [0, 1, 2]
 (.block 0
 (.asrow 2 3 1 8
 (.keep [8, 9, 22, 23] [0]
 (.loop
 (.post [8, 9, 22, 23] [1, 2]
 (.seq
 (.reg [] [⟨some 24, .cmp .lss (.tmp 23) (.tmp 22), none⟩])
 (.seq
 (.cond (.tmp 24)
 .skip
 (.exit 0))
 (.seq
 (.block 1
 (.seq
 (.reg [] [⟨some 25, .mov (.tmp 9), none⟩,
 ⟨some 26, .call 107 [(.tmp 25)], none⟩,
 ⟨some 10, .mov (.tmp 26), none⟩])
 (.seq
 (.seq
 (.reg [] [⟨some 27, .mov (.tmp 10), none⟩,
 ⟨some 28, .cmp .lss (.tmp 27) (.cst (.d (.int .i64 0))), none⟩])
 (.cond (.tmp 28)
 (.exit 0)
 .skip))
 (.seq
 (.reg [1, 2] [⟨some 29, .mov (.tmp 8), none⟩,
 ⟨some 30, .mov (.tmp 10), none⟩,
 ⟨some 31, .bsl 1 3 1 1 [(.int .i64 0)] [(0, (.tmp 30))], none⟩,
 ⟨some 32, .app 2 3 1 8 (.tmp 29) (.tmp 31), none⟩,
 ⟨some 8, .mov (.tmp 32), none⟩])
 (.reg [] [⟨some 33, .mov (.tmp 9), none⟩,
 ⟨some 34, .mov (.tmp 10), none⟩,
 ⟨some 35, .call 109 [(.tmp 33), (.tmp 34)], none⟩,
 ⟨some 9, .mov (.tmp 35), none⟩])))))
 (.reg [] [⟨some 36, .arith .add .i64 (.tmp 23) (.cst (.d (.int .i64 1))), none⟩,
 ⟨some 23, .mov (.tmp 36), none⟩])))))))))))
 (.seq
 (.reg [] [⟨some 37, .mov (.tmp 8), none⟩,
 ⟨some 38, .mov (.tmp 9), none⟩,
 ⟨some 4, .mov (.tmp 37), none⟩,
 ⟨some 5, .mov (.tmp 38), none⟩,
 ⟨some 6, .mov (.cst (.d (.int .i64 0))), none⟩])
 .ret))))))⟩


set_option maxHeartbeats 4000000 in
theorem c65 (l : List Stn) (n : Nat) (hn : n ≤ 256) (hl : l.length ≤ 1048576) (ho : ∀ x ∈ l, x.ok) : CallDet Tryz.prog 65 [.d (.slice 4 (stns l)), .d (.int .i64 n)] [.slice 1 (ints (srvGo n l).1), .slice 4 (stns (srvGo n l).2)] := by
  refine call_of_vc (x := ir65) (by kernel_rfl) rfl ?_
  refine loop_st (fun a : Nat × List Int × List Stn => ⟨[(0, .d (.slice 4 (stns a.2.2))), (1, .d (.int .i64 n)), (6, .sl 1 (ints a.2.1).length), (7, .d (.int .i64 a.1))], [.none, .row 3 1 (ints a.2.1) false]⟩)
    (srvI l n) (fun a => n - a.1) (0, [], l) rfl (srvI_start ho) ?_
  rintro ⟨i, acc, now⟩ hi
  have ho2 : ∀ x ∈ now, x.ok := hi.2.1
  have hnl : now.length = l.length := hi.2.2.1
  have hal : acc.length ≤ i := hi.2.2.2.1
  have hin : i ≤ n := hi.2.2.2.2
  have hil := ints_len acc
  refine And.intro rfl ?_
  refine brk_lt (fun h => ?_) (fun h => ?_)
  · have h : (i : Int) < (n : Int) := h
    refine Exists.intro _ (And.intro (c64 now (by omega) ho2) ?_)
    refine And.intro rfl ?_
    refine brk_lt (fun hw => ?_) (fun hw => ?_)
    · have hw : winF now < 0 := hw
      refine And.intro rfl ?_
      exact sg (srvI_stop hi hw)
    · have hw : ¬ winF now < 0 := hw
      repeat refine And.intro rfl ?_
      refine And.intro ⟨rfl, rfl, rfl, ?_, ?_⟩ ?_
      · show ((ints acc).length + 1) * 8 ≤ 2 ^ 47
        omega
      · show (ints acc).length + 1 ≤ 2 ^ 47
        omega
      refine Exists.intro _ (And.intro (c76 now (winF now) (by omega) ho2) ?_)
      refine ar_add (by omega) ?_
      refine ⟨(i + 1, acc ++ [winF now], aftF now (winF now)), ⟨srvI_step hi (by omega) hw, by show n - (i + 1) < n - i; omega⟩, ?_⟩
      rw [ints_snoc]; rfl
  · have h : ¬ (i : Int) < (n : Int) := h
    refine And.intro rfl ?_
    exact sg (srvI_end hi (by omega))
set_option maxHeartbeats 4000000 in
theorem c56 (l : List Stn) (n : Int) : CallDet Tryz.prog 56 [.d (.slice 4 (stns l)), .d (.int .i64 n)] [.slice 1 (ints (srvP l n).1), .slice 4 (stns (srvP l n).2), .int .i64 (srvE l n)] := by
  refine call_of_vc (x := ir56) (by kernel_rfl) rfl ?_
  refine Exists.intro _ (And.intro (c70 l) ?_)
  refine Exists.intro _ (And.intro (c82 _ _ _) ?_)
  repeat refine And.intro rfl ?_
  refine Exists.intro _ (And.intro (c81 [chkStns l, within3 n 0 256] (by simp)) ?_)
  repeat refine And.intro rfl ?_
  refine brk_intro ?_ ?_
  · intro h
    have h : (srvE l n != 0) = true := h
    exact sp' (p := ([], [])) (by unfold srvP; rw [h]; rfl) rfl
  intro h
  have h : (srvE l n != 0) = false := h
  have h0 : srvE l n = 0 := by simpa using h
  obtain ⟨ho, h8⟩ := chkStns_ok (firstOf_zero h0 (chkStns l) (by simp))
  have hn := within_ok (firstOf_zero h0 (within3 n 0 256) (by simp))
  have hP : srvP l n = srvGo n.toNat l := by unfold srvP; rw [h]; rfl
  obtain ⟨m, rfl⟩ : ∃ m : Nat, n = m := ⟨n.toNat, by omega⟩
  have hP : srvP l m = srvGo m l := hP
  have hlen := stns_len l
  refine Exists.intro _ (And.intro (c108 (stns l) (by omega)) ?_)
  refine loop_st (fun a : Nat × List Int × List Stn => ⟨[(8, .sl 2 (ints a.2.1).length), (9, .d (.slice 4 (stns a.2.2))), (22, .d (.int .i64 m)), (23, .d (.int .i64 a.1))], [.none, .none, .row 3 1 (ints a.2.1) false]⟩)
    (srvI l m) (fun a => m - a.1) (0, [], l) rfl (srvI_start ho) ?_
  rintro ⟨i, acc, now⟩ hi
  have ho2 : ∀ x ∈ now, x.ok := hi.2.1
  have hnl : now.length = l.length := hi.2.2.1
  have hal : acc.length ≤ i := hi.2.2.2.1
  have hin : i ≤ m := hi.2.2.2.2
  have hil := ints_len acc
  refine And.intro rfl ?_
  refine brk_lt (fun h => ?_) (fun h => ?_)
  · have h : (i : Int) < (m : Int) := h
    refine Exists.intro _ (And.intro (c107 now (by omega) ho2) ?_)
    refine And.intro rfl ?_
    refine brk_lt (fun hw => ?_) (fun hw => ?_)
    · have hw : winF now < 0 := hw
      repeat refine And.intro rfl ?_
      exact sp' (p := (acc, now)) (hP.trans (srvI_stop hi hw)) h0
    · have hw : ¬ winF now < 0 := hw
      repeat refine And.intro rfl ?_
      refine And.intro ⟨rfl, rfl, rfl, ?_, ?_⟩ ?_
      · show ((ints acc).length + 1) * 8 ≤ 2 ^ 47
        omega
      · show (ints acc).length + 1 ≤ 2 ^ 47
        omega
      refine Exists.intro _ (And.intro (c109 now (winF now) (by omega) ho2) ?_)
      refine ar_add (by omega) ?_
      refine ⟨(i + 1, acc ++ [winF now], aftF now (winF now)), ⟨srvI_step hi (by omega) hw, by show m - (i + 1) < m - i; omega⟩, ?_⟩
      rw [ints_snoc]; rfl
  · have h : ¬ (i : Int) < (m : Int) := h
    repeat refine And.intro rfl ?_
    exact sp' (p := (acc, now)) (hP.trans (srvI_end hi (by omega))) h0
end Vc

