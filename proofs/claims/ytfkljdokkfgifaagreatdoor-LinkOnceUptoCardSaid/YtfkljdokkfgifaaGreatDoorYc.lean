import Derived.Test.YtfkljdokkfgifaaGreatDoorYb
import Derived.Test.YtfkljdokkfgifaaGreatDoorXc
set_option linter.unusedSectionVars false
set_option linter.unusedVariables false
set_option linter.unusedSimpArgs false
set_option maxRecDepth 10000
namespace Vc
open Go Go.Proofs
/-! LinkOnce, in plain Lean. -/
def sW (q : List Fr) (w : Nat) : Sn := ⟨q, 0, w⟩
theorem sf_self (l : List Fr) : sameFrames l l = true := by
  induction l with
  | nil => rfl
  | cons f r ih => simp [sameFrames, ih, Fr.same]
theorem sW_chk {q : List Fr} {w : Nat} (hq : checkFrames q = 0) (hw : 1 ≤ w ∧ w ≤ 8) : chkSn (sW q w) = 0 := by
  refine first_zeros fun e he => ?_
  simp only [List.mem_cons, List.not_mem_nil, or_false] at he
  rcases he with rfl | rfl | rfl
  · exact hq
  · show within3 (0 : Int) 0 (frs q).length = 0
    rw [frs_len]
    unfold within3; rw [decide_eq_false (by omega), decide_eq_false (by omega)]; rfl
  · show within3 (w : Int) 1 8 = 0
    unfold within3; rw [decide_eq_false (by omega), decide_eq_false (by omega)]; rfl
theorem inW_zero (s : Sn) : inW s (0, 0) := ⟨Nat.le_refl _, Nat.zero_le _⟩
theorem fits_in {q : List Fr} {w a t : Nat} (h : inW (sW q w) (a, t)) : fitsB (sAt (sW q w) a) (rAt (sW q w) t) = true := by
  obtain ⟨h1, h2⟩ := h
  have h1 : a ≤ t := h1
  have h2 : t ≤ min q.length (a + (w : Int).toNat) := h2
  have e : fitsB (sAt (sW q w) a) (rAt (sW q w) t) = (decide ((a : Int) ≤ (t : Int)) && (decide ((t : Int) ≤ min ((frs q).length : Int) ((a : Int) + (w : Int))) && sameFrames (q.take t) (q.take (t : Int).toNat))) := rfl
  rw [e, frs_len, decide_eq_true (by omega), decide_eq_true (by omega), show (t : Int).toNat = t from rfl, sf_self]; rfl
theorem lim_w (q : List Fr) (w a : Nat) : lim (sW q w) a = min q.length (a + w) := rfl
theorem rT_none {x : Rd} (hx : x.lost = []) (a t : Nat) (h : a ≤ t) : ∀ j : Nat, rT x a t j = max t (a + j)
  | 0 => by show t = _; omega
  | j + 1 => by
    show stepJ x a (rT x a t j) j = _
    rw [rT_none hx a t h j]
    unfold stepJ
    rw [hx]
    show (bif a + j == max t (a + j) then max t (a + j) + 1 else max t (a + j)) = _
    rcases Bool.eq_false_or_eq_true (a + j == max t (a + j)) with e | e
    · rw [e]; have := eq_of_beq e; show max t (a + j) + 1 = _; omega
    · rw [e]
      have e : a + j ≠ max t (a + j) := ne_of_beq_false e
      show max t (a + j) = _; omega
theorem rnd_calm {q : List Fr} {w : Nat} {p : Nat × Nat} {x : Rd} (h : inW (sW q w) p) (hx : x.lost = []) : (rnd (sW q w) p x).2 = min q.length (p.1 + w) := by
  obtain ⟨a, t⟩ := p
  obtain ⟨h1, h2⟩ := h
  have h1 : a ≤ t := h1
  have h2 : t ≤ min q.length (a + w) := h2
  show rT x a t (lim (sW q w) a - a) = min q.length (a + w)
  rw [rT_none hx a t h1, lim_w]
  omega
theorem rnd_deaf {s : Sn} {p : Nat × Nat} {x : Rd} (hx : x.deaf = false) : (rnd s p x).1 = (rnd s p x).2 := by
  unfold rnd; rw [hx]; rfl
theorem rnd_low {s : Sn} {p : Nat × Nat} {x : Rd} (h : inW s p) : (rnd s p x).2 ≤ lim s p.1 := by
  obtain ⟨a, t⟩ := p
  exact (rT_in (x := x) h (j := lim s a - a) (Nat.le_refl _)).2.2
def calmR : Rd := ⟨[], [], false⟩
theorem rnd_calm2 {q : List Fr} {w : Nat} {p : Nat × Nat} (h : inW (sW q w) p) : rnd (sW q w) p calmR = (min q.length (p.1 + w), min q.length (p.1 + w)) := by
  have h1 := rnd_calm (x := calmR) h rfl
  have h2 := rnd_deaf (s := sW q w) (p := p) (x := calmR) rfl
  rw [← Prod.eta (rnd (sW q w) p calmR), h2, h1]
theorem calm_fold {q : List Fr} {w : Nat} : ∀ (m : Nat) {p : Nat × Nat}, inW (sW q w) p → 1 ≤ m → (List.replicate m calmR).foldl (rnd (sW q w)) p = (min q.length (p.1 + m * w), min q.length (p.1 + m * w))
  | 0, _, _, h => by omega
  | m + 1, p, h, _ => by
    rw [List.replicate_succ, List.foldl_cons, rnd_calm2 h]
    rcases Nat.eq_zero_or_pos m with e | e
    · subst e; simp
    · have hi : inW (sW q w) (min q.length (p.1 + w), min q.length (p.1 + w)) := by rw [← rnd_calm2 h]; exact (rnd_in h).1
      rw [calm_fold m hi e, Nat.add_mul]
      show (min q.length (min q.length (p.1 + w) + m * w), _) = _
      have : min q.length (min q.length (p.1 + w) + m * w) = min q.length (p.1 + (m * w + 1 * w)) := by omega
      rw [this]
theorem calm_end {q : List Fr} {w : Nat} {p : Nat × Nat} (hw : 1 ≤ w) (h : inW (sW q w) p) : (List.replicate ((q.length + w - 1) / w) calmR).foldl (rnd (sW q w)) p = (q.length, q.length) := by
  have h1 := Nat.div_add_mod (q.length + w - 1) w
  have h2 := Nat.mod_lt (q.length + w - 1) (show 0 < w by omega)
  generalize (q.length + w - 1) / w = m at *
  rcases Nat.eq_zero_or_pos m with e | e
  · subst e
    obtain ⟨a, t⟩ := p
    obtain ⟨h3, h4⟩ := h
    have h3 : a ≤ t := h3
    have h4 : t ≤ min q.length (a + w) := h4
    have : q.length = 0 := by simp at h1; omega
    show (a, t) = _
    rw [this]
    have : a = 0 := by omega
    have : t = 0 := by omega
    subst a t; rfl
  · rw [calm_fold m h e]
    rw [Nat.mul_comm] at h1
    rw [show min q.length (p.1 + m * w) = q.length by omega]
theorem rds_calm (m : Nat) : List.replicate m (Data.agg [.slice 1 [], .slice 1 [], .bool false]) = rds (List.replicate m calmR) := by
  simp [rds, calmR, Rd.d, ints]
end Vc

set_option maxRecDepth 10000
namespace Vc
open Go Go.Proofs
/-- kilovar/kilovarlaw04.LinkOnce -/
def ir8a (rest : ACode) : ACode :=
 (.seq
 (.reg [] [⟨some 6, .mov (.cst (.d (.bool false))), none⟩])
 (.seq
 (.seq
 (.reg [] [⟨some 22, .mov (.tmp 0), none⟩,
 ⟨some 23, .call 11 [(.tmp 22)], none⟩,
 ⟨some 24, .not (.tmp 23), none⟩,
 ⟨some 25, .mov (.tmp 24), none⟩,
 ⟨some 26, .mov (.tmp 0), some (25, false)⟩,
 ⟨some 27, .call 18 [(.tmp 26)], some (25, false)⟩,
 ⟨some 28, .cmp .neq (.tmp 27) (.cst (.d (.int .i64 0))), some (25, false)⟩,
 ⟨some 29, .pick (.tmp 25) (.cst (.d (.bool true))) (.tmp 28), none⟩,
 ⟨some 30, .mov (.tmp 29), none⟩,
 ⟨some 31, .mov (.tmp 0), some (30, false)⟩,
 ⟨some 32, .len (.tmp 31), some (30, false)⟩,
 ⟨some 33, .cmp .gtr (.tmp 32) (.cst (.d (.int .i64 24))), some (30, false)⟩,
 ⟨some 34, .pick (.tmp 30) (.cst (.d (.bool true))) (.tmp 33), none⟩,
 ⟨some 35, .mov (.tmp 34), none⟩,
 ⟨some 36, .mov (.tmp 2), some (35, false)⟩,
 ⟨some 37, .call 48 [(.tmp 36)], some (35, false)⟩,
 ⟨some 38, .not (.tmp 37), some (35, false)⟩,
 ⟨some 39, .pick (.tmp 35) (.cst (.d (.bool true))) (.tmp 38), none⟩,
 ⟨some 40, .mov (.tmp 39), none⟩,
 ⟨some 41, .mov (.tmp 2), some (40, false)⟩,
 ⟨some 42, .call 51 [(.tmp 41)], some (40, false)⟩,
 ⟨some 43, .cmp .neq (.tmp 42) (.cst (.d (.int .i64 0))), some (40, false)⟩,
 ⟨some 44, .pick (.tmp 40) (.cst (.d (.bool true))) (.tmp 43), none⟩,
 ⟨some 45, .mov (.tmp 44), none⟩,
 ⟨some 46, .mov (.tmp 2), some (45, false)⟩,
 ⟨some 47, .len (.tmp 46), some (45, false)⟩,
 ⟨some 48, .cmp .gtr (.tmp 47) (.cst (.d (.int .i64 12))), some (45, false)⟩,
 ⟨some 49, .pick (.tmp 45) (.cst (.d (.bool true))) (.tmp 48), none⟩])
 (.cond (.tmp 49)
 (.seq
 (.reg [] [⟨some 50, .call 12 [], none⟩,
 ⟨some 6, .mov (.tmp 50), none⟩])
 .ret)
 .skip))
 (.seq
 (.reg [] [⟨some 51, .mov (.tmp 1), none⟩,
 ⟨some 52, .conv .i64 (.tmp 51), none⟩,
 ⟨some 53, .arith .rem .i64 (.tmp 52) (.cst (.d (.int .i64 8))), none⟩,
 ⟨some 54, .arith .add .i64 (.cst (.d (.int .i64 1))) (.tmp 53), none⟩,
 ⟨some 7, .mov (.tmp 54), none⟩])
 (.seq
 (.reg [0, 1] [⟨some 55, .mov (.tmp 0), none⟩,
 ⟨some 56, .call 15 [(.tmp 55)], none⟩,
 ⟨some 57, .mov (.tmp 7), none⟩,
 ⟨some 58, .build [(.d (.slice 4 [])), (.d (.int .i64 0)), (.d (.int .i64 0))] [(0, 1, (.tmp 56)), (2, 1, (.tmp 57))], none⟩,
 ⟨some 59, .build [(.d (.int .i64 0)), (.d (.slice 4 []))] [], none⟩,
 ⟨some 8, .alloc 0 [(.d (.slice 4 [])), (.d (.int .i64 0)), (.d (.int .i64 0))], none⟩,
 ⟨some 9, .alloc 1 [(.d (.int .i64 0)), (.d (.slice 4 []))], none⟩,
 ⟨none, .st 3 (.tmp 8) (.tmp 58), none⟩,
 ⟨none, .st 2 (.tmp 9) (.tmp 59), none⟩])
 rest))))

def ir8b (rest : ACode) : ACode :=
 (.seq
 (.seq
 (.reg [] [⟨some 60, .mov (.tmp 2), none⟩,
 ⟨some 61, .len (.tmp 60), none⟩,
 ⟨some 62, .mov (.cst (.d (.int .i64 0))), none⟩])
 (.post [0, 2, 7, 8, 9] [0, 1, 2, 3, 4, 5]
 (.block 0
 (.keep [0, 2, 7, 8, 9, 60, 61, 62] [0, 1]
 (.loop
 (.post [0, 2, 7, 8, 9, 60, 61, 62] [2, 3, 4, 5]
 (.seq
 (.reg [] [⟨some 63, .cmp .lss (.tmp 62) (.tmp 61), none⟩])
 (.seq
 (.cond (.tmp 63)
 .skip
 (.exit 0))
 (.seq
 (.block 1
 (.seq
 (.reg [2] [⟨some 64, .ixa 3 (.tmp 60) (.tmp 62), none⟩,
 ⟨some 65, .ld true 3 (.tmp 64), none⟩,
 ⟨some 11, .alloc 2 [(.d (.slice 1 [])), (.d (.slice 1 [])), (.d (.bool false))], none⟩,
 ⟨none, .st 3 (.tmp 11) (.tmp 65), none⟩])
 (.seq
 (.regd [3, 4, 5] [⟨some 67, .ld true 3 (.tmp 8), none⟩,
 ⟨some 68, .ld true 2 (.tmp 9), none⟩,
 ⟨some 69, .ld true 3 (.tmp 11), none⟩,
 ⟨some 70, .bsl 3 133 3 1 [(.agg [(.slice 1 []), (.slice 1 []), (.bool false)])] [(0, (.tmp 69))], none⟩,
 ⟨some 71, .call 50 [(.tmp 70)], none⟩,
 ⟨some 72, .call 49 [(.tmp 67), (.tmp 68), (.tmp 71)], none⟩,
 ⟨some 66, .mov (.tmp 72), none⟩,
 ⟨some 73, .ext 0 (.tmp 66), none⟩,
 ⟨some 74, .ext 1 (.tmp 66), none⟩,
 ⟨some 75, .ext 2 (.tmp 66), none⟩,
 ⟨some 12, .alloc 4 [(.d (.slice 4 [])), (.d (.int .i64 0)), (.d (.int .i64 0))], none⟩,
 ⟨some 13, .alloc 5 [(.d (.int .i64 0)), (.d (.slice 4 []))], none⟩,
 ⟨none, .st 3 (.tmp 12) (.tmp 73), none⟩,
 ⟨none, .st 2 (.tmp 13) (.tmp 74), none⟩,
 ⟨some 14, .mov (.tmp 75), none⟩] [(0, 1), (0, 2), (1, 2), (0, 3), (1, 3), (0, 4), (1, 4), (7, 8), (7, 9), (8, 9), (0, 10), (1, 10), (2, 10), (3, 10), (4, 10), (5, 10), (6, 10), (7, 10), (8, 10), (9, 10), (0, 11), (1, 11), (2, 11), (3, 11), (4, 11), (5, 11), (6, 11), (7, 11), (8, 11), (9, 11), (10, 11), (8, 12), (9, 12), (9, 13)])
 (.seq
 (.seq
 (.regd [] [⟨some 76, .mov (.tmp 14), none⟩,
 ⟨some 77, .cmp .neq (.tmp 76) (.cst (.d (.int .i64 0))), none⟩,
 ⟨some 78, .mov (.tmp 77), none⟩,
 ⟨some 79, .fad 0 (.tmp 13), some (78, false)⟩,
 ⟨some 80, .ld false 1 (.tmp 79), some (78, false)⟩,
 ⟨some 81, .fad 0 (.tmp 9), some (78, false)⟩,
 ⟨some 82, .ld false 1 (.tmp 81), some (78, false)⟩,
 ⟨some 83, .cmp .lss (.tmp 80) (.tmp 82), some (78, false)⟩,
 ⟨some 84, .pick (.tmp 78) (.cst (.d (.bool true))) (.tmp 83), none⟩,
 ⟨some 85, .mov (.tmp 84), none⟩,
 ⟨some 86, .fad 1 (.tmp 12), some (85, false)⟩,
 ⟨some 87, .ld false 1 (.tmp 86), some (85, false)⟩,
 ⟨some 88, .fad 1 (.tmp 8), some (85, false)⟩,
 ⟨some 89, .ld false 1 (.tmp 88), some (85, false)⟩,
 ⟨some 90, .cmp .lss (.tmp 87) (.tmp 89), some (85, false)⟩,
 ⟨some 91, .pick (.tmp 85) (.cst (.d (.bool true))) (.tmp 90), none⟩,
 ⟨some 92, .mov (.tmp 91), none⟩,
 ⟨some 93, .fad 0 (.tmp 13), some (92, false)⟩,
 ⟨some 94, .ld false 1 (.tmp 93), some (92, false)⟩,
 ⟨some 95, .mov (.tmp 0), some (92, false)⟩,
 ⟨some 96, .len (.tmp 95), some (92, false)⟩,
 ⟨some 97, .cmp .gtr (.tmp 94) (.tmp 96), some (92, false)⟩,
 ⟨some 98, .pick (.tmp 92) (.cst (.d (.bool true))) (.tmp 97), none⟩,
 ⟨some 99, .mov (.tmp 98), none⟩,
 ⟨some 100, .fad 1 (.tmp 12), some (99, false)⟩,
 ⟨some 101, .ld false 1 (.tmp 100), some (99, false)⟩,
 ⟨some 102, .fad 0 (.tmp 13), some (99, false)⟩,
 ⟨some 103, .ld false 1 (.tmp 102), some (99, false)⟩,
 ⟨some 104, .cmp .gtr (.tmp 101) (.tmp 103), some (99, false)⟩,
 ⟨some 105, .pick (.tmp 99) (.cst (.d (.bool true))) (.tmp 104), none⟩,
 ⟨some 106, .mov (.tmp 105), none⟩,
 ⟨some 107, .fad 0 (.tmp 13), some (106, false)⟩,
 ⟨some 108, .ld false 1 (.tmp 107), some (106, false)⟩,
 ⟨some 109, .fad 1 (.tmp 8), some (106, false)⟩,
 ⟨some 110, .ld false 1 (.tmp 109), some (106, false)⟩,
 ⟨some 111, .mov (.tmp 7), some (106, false)⟩,
 ⟨some 112, .arith .add .i64 (.tmp 110) (.tmp 111), some (106, false)⟩,
 ⟨some 113, .cmp .gtr (.tmp 108) (.tmp 112), some (106, false)⟩,
 ⟨some 114, .pick (.tmp 106) (.cst (.d (.bool true))) (.tmp 113), none⟩,
 ⟨some 115, .mov (.tmp 114), none⟩,
 ⟨some 116, .fad 1 (.tmp 12), some (115, false)⟩,
 ⟨some 117, .ld false 1 (.tmp 116), some (115, false)⟩,
 ⟨some 118, .fad 0 (.tmp 13), some (115, false)⟩,
 ⟨some 119, .ld false 1 (.tmp 118), some (115, false)⟩,
 ⟨some 120, .mov (.tmp 7), some (115, false)⟩,
 ⟨some 121, .arith .sub .i64 (.tmp 119) (.tmp 120), some (115, false)⟩,
 ⟨some 122, .cmp .lss (.tmp 117) (.tmp 121), some (115, false)⟩,
 ⟨some 123, .pick (.tmp 115) (.cst (.d (.bool true))) (.tmp 122), none⟩,
 ⟨some 124, .mov (.tmp 123), none⟩,
 ⟨some 125, .fad 1 (.tmp 13), some (124, false)⟩,
 ⟨some 126, .ld false 1 (.tmp 125), some (124, false)⟩,
 ⟨some 127, .call 23 [(.tmp 126)], some (124, false)⟩,
 ⟨some 128, .mov (.tmp 0), some (124, false)⟩,
 ⟨some 129, .fad 0 (.tmp 13), some (124, false)⟩,
 ⟨some 130, .ld false 1 (.tmp 129), some (124, false)⟩,
 ⟨some 131, .slc 4 (.tmp 128) none (some (.tmp 130)), some (124, false)⟩,
 ⟨some 132, .call 22 [(.tmp 127), (.tmp 131)], some (124, false)⟩,
 ⟨some 133, .not (.tmp 132), some (124, false)⟩,
 ⟨some 134, .pick (.tmp 124) (.cst (.d (.bool true))) (.tmp 133), none⟩,
 ⟨some 135, .mov (.tmp 134), none⟩,
 ⟨some 136, .fad 0 (.tmp 12), some (135, false)⟩,
 ⟨some 137, .ld false 1 (.tmp 136), some (135, false)⟩,
 ⟨some 138, .call 23 [(.tmp 137)], some (135, false)⟩,
 ⟨some 139, .mov (.tmp 0), some (135, false)⟩,
 ⟨some 140, .call 22 [(.tmp 138), (.tmp 139)], some (135, false)⟩,
 ⟨some 141, .not (.tmp 140), some (135, false)⟩,
 ⟨some 142, .pick (.tmp 135) (.cst (.d (.bool true))) (.tmp 141), none⟩,
 ⟨some 143, .mov (.tmp 142), none⟩,
 ⟨some 144, .fad 2 (.tmp 12), some (143, false)⟩,
 ⟨some 145, .ld false 1 (.tmp 144), some (143, false)⟩,
 ⟨some 146, .mov (.tmp 7), some (143, false)⟩,
 ⟨some 147, .cmp .neq (.tmp 145) (.tmp 146), some (143, false)⟩,
 ⟨some 148, .pick (.tmp 143) (.cst (.d (.bool true))) (.tmp 147), none⟩] [(3, 5), (4, 5), (3, 6), (4, 6), (10, 12), (11, 12), (10, 13), (11, 13), (17, 19), (18, 19), (17, 20), (18, 20), (24, 26), (25, 26), (24, 27), (25, 27), (31, 33), (32, 33), (31, 34), (32, 34), (31, 35), (32, 35), (33, 35), (34, 35), (31, 36), (32, 36), (40, 42), (41, 42), (40, 43), (41, 43), (40, 44), (41, 44), (42, 44), (43, 44), (40, 45), (41, 45), (49, 52), (50, 52), (51, 52), (49, 53), (50, 53), (51, 53), (52, 53), (49, 54), (50, 54), (51, 54), (52, 54), (49, 55), (50, 55), (51, 55), (60, 63), (61, 63), (62, 63), (68, 70), (69, 70)])
 (.cond (.tmp 148)
 (.seq
 (.reg [] [⟨some 6, .mov (.cst (.d (.bool false))), none⟩])
 .ret)
 .skip))
 (.seq
 (.seq
 (.reg [] [⟨some 149, .fad 2 (.tmp 11), none⟩,
 ⟨some 150, .ld false 1 (.tmp 149), none⟩,
 ⟨some 151, .not (.tmp 150), none⟩,
 ⟨some 152, .mov (.tmp 151), none⟩,
 ⟨some 153, .fad 1 (.tmp 12), some (152, true)⟩,
 ⟨some 154, .ld false 1 (.tmp 153), some (152, true)⟩,
 ⟨some 155, .fad 0 (.tmp 13), some (152, true)⟩,
 ⟨some 156, .ld false 1 (.tmp 155), some (152, true)⟩,
 ⟨some 157, .cmp .neq (.tmp 154) (.tmp 156), some (152, true)⟩,
 ⟨some 158, .pick (.tmp 152) (.tmp 157) (.cst (.d (.bool false))), none⟩,
 ⟨some 159, .mov (.tmp 158), none⟩,
 ⟨some 160, .fad 0 (.tmp 11), some (159, false)⟩,
 ⟨some 161, .ld false 1 (.tmp 160), some (159, false)⟩,
 ⟨some 162, .len (.tmp 161), some (159, false)⟩,
 ⟨some 163, .cmp .eql (.tmp 162) (.cst (.d (.int .i64 0))), some (159, false)⟩,
 ⟨some 164, .mov (.tmp 163), some (159, false)⟩,
 ⟨some 165, .fad 0 (.tmp 13), some (164, true)⟩,
 ⟨some 166, .ld false 1 (.tmp 165), some (164, true)⟩,
 ⟨some 167, .mov (.tmp 0), some (164, true)⟩,
 ⟨some 168, .len (.tmp 167), some (164, true)⟩,
 ⟨some 169, .fad 1 (.tmp 8), some (164, true)⟩,
 ⟨some 170, .ld false 1 (.tmp 169), some (164, true)⟩,
 ⟨some 171, .mov (.tmp 7), some (164, true)⟩,
 ⟨some 172, .arith .add .i64 (.tmp 170) (.tmp 171), some (164, true)⟩,
 ⟨some 173, .mini (.tmp 168) (.tmp 172), some (164, true)⟩,
 ⟨some 174, .cmp .neq (.tmp 166) (.tmp 173), some (164, true)⟩,
 ⟨some 175, .pick (.tmp 164) (.tmp 174) (.cst (.d (.bool false))), some (159, false)⟩,
 ⟨some 176, .pick (.tmp 159) (.cst (.d (.bool true))) (.tmp 175), none⟩])
 (.cond (.tmp 176)
 (.seq
 (.reg [] [⟨some 6, .mov (.cst (.d (.bool false))), none⟩])
 .ret)
 .skip))
 (.seq
 (.seq
 (.reg [] [⟨some 177, .fad 0 (.tmp 11), none⟩,
 ⟨some 178, .ld false 1 (.tmp 177), none⟩,
 ⟨some 179, .len (.tmp 178), none⟩,
 ⟨some 180, .cmp .eql (.tmp 179) (.cst (.d (.int .i64 0))), none⟩,
 ⟨some 181, .mov (.tmp 180), none⟩,
 ⟨some 182, .fad 2 (.tmp 11), some (181, true)⟩,
 ⟨some 183, .ld false 1 (.tmp 182), some (181, true)⟩,
 ⟨some 184, .not (.tmp 183), some (181, true)⟩,
 ⟨some 185, .pick (.tmp 181) (.tmp 184) (.cst (.d (.bool false))), none⟩,
 ⟨some 186, .mov (.tmp 185), none⟩,
 ⟨some 187, .fad 1 (.tmp 12), some (186, true)⟩,
 ⟨some 188, .ld false 1 (.tmp 187), some (186, true)⟩,
 ⟨some 189, .mov (.tmp 0), some (186, true)⟩,
 ⟨some 190, .len (.tmp 189), some (186, true)⟩,
 ⟨some 191, .fad 1 (.tmp 8), some (186, true)⟩,
 ⟨some 192, .ld false 1 (.tmp 191), some (186, true)⟩,
 ⟨some 193, .mov (.tmp 7), some (186, true)⟩,
 ⟨some 194, .arith .add .i64 (.tmp 192) (.tmp 193), some (186, true)⟩,
 ⟨some 195, .mini (.tmp 190) (.tmp 194), some (186, true)⟩,
 ⟨some 196, .cmp .neq (.tmp 188) (.tmp 195), some (186, true)⟩,
 ⟨some 197, .pick (.tmp 186) (.tmp 196) (.cst (.d (.bool false))), none⟩])
 (.cond (.tmp 197)
 (.seq
 (.reg [] [⟨some 6, .mov (.cst (.d (.bool false))), none⟩])
 .ret)
 .skip))
 (.regd [] [⟨some 198, .ld true 3 (.tmp 12), none⟩,
 ⟨some 199, .ld true 2 (.tmp 13), none⟩,
 ⟨none, .st 3 (.tmp 8) (.tmp 198), none⟩,
 ⟨none, .st 2 (.tmp 9) (.tmp 199), none⟩] [(0, 1), (1, 2)])))))))
 (.reg [] [⟨some 200, .arith .add .i64 (.tmp 62) (.cst (.d (.int .i64 1))), none⟩,
 ⟨some 62, .mov (.tmp 200), none⟩]))))))))))
 rest)

def ir8c (rest : ACode) : ACode :=
 (.seq
 (.reg [6, 7] [⟨some 202, .mov (.tmp 0), none⟩,
 ⟨some 203, .call 15 [(.tmp 202)], none⟩,
 ⟨some 204, .mov (.tmp 7), none⟩,
 ⟨some 205, .build [(.d (.slice 4 [])), (.d (.int .i64 0)), (.d (.int .i64 0))] [(0, 1, (.tmp 203)), (2, 1, (.tmp 204))], none⟩,
 ⟨some 206, .build [(.d (.int .i64 0)), (.d (.slice 4 []))] [], none⟩,
 ⟨some 207, .mov (.tmp 2), none⟩,
 ⟨some 208, .call 50 [(.tmp 207)], none⟩,
 ⟨some 209, .call 49 [(.tmp 205), (.tmp 206), (.tmp 208)], none⟩,
 ⟨some 201, .mov (.tmp 209), none⟩,
 ⟨some 210, .ext 0 (.tmp 201), none⟩,
 ⟨some 211, .ext 1 (.tmp 201), none⟩,
 ⟨some 212, .ext 2 (.tmp 201), none⟩,
 ⟨some 15, .alloc 6 [(.d (.slice 4 [])), (.d (.int .i64 0)), (.d (.int .i64 0))], none⟩,
 ⟨some 16, .alloc 7 [(.d (.int .i64 0)), (.d (.slice 4 []))], none⟩,
 ⟨none, .st 3 (.tmp 15) (.tmp 210), none⟩,
 ⟨none, .st 2 (.tmp 16) (.tmp 211), none⟩,
 ⟨some 17, .mov (.tmp 212), none⟩])
 (.seq
 (.seq
 (.reg [] [⟨some 213, .mov (.tmp 17), none⟩,
 ⟨some 214, .cmp .neq (.tmp 213) (.cst (.d (.int .i64 0))), none⟩,
 ⟨some 215, .mov (.tmp 214), none⟩,
 ⟨some 216, .fad 1 (.tmp 15), some (215, false)⟩,
 ⟨some 217, .ld false 1 (.tmp 216), some (215, false)⟩,
 ⟨some 218, .fad 1 (.tmp 8), some (215, false)⟩,
 ⟨some 219, .ld false 1 (.tmp 218), some (215, false)⟩,
 ⟨some 220, .cmp .neq (.tmp 217) (.tmp 219), some (215, false)⟩,
 ⟨some 221, .pick (.tmp 215) (.cst (.d (.bool true))) (.tmp 220), none⟩,
 ⟨some 222, .mov (.tmp 221), none⟩,
 ⟨some 223, .fad 0 (.tmp 16), some (222, false)⟩,
 ⟨some 224, .ld false 1 (.tmp 223), some (222, false)⟩,
 ⟨some 225, .fad 0 (.tmp 9), some (222, false)⟩,
 ⟨some 226, .ld false 1 (.tmp 225), some (222, false)⟩,
 ⟨some 227, .cmp .neq (.tmp 224) (.tmp 226), some (222, false)⟩,
 ⟨some 228, .pick (.tmp 222) (.cst (.d (.bool true))) (.tmp 227), none⟩])
 (.cond (.tmp 228)
 (.seq
 (.reg [] [⟨some 6, .mov (.cst (.d (.bool false))), none⟩])
 .ret)
 .skip))
 rest))

def ir8d (rest : ACode) : ACode :=
 (.seq
 (.reg [8] [⟨some 229, .mov (.tmp 0), none⟩,
 ⟨some 230, .len (.tmp 229), none⟩,
 ⟨some 231, .mov (.tmp 7), none⟩,
 ⟨some 232, .arith .add .i64 (.tmp 230) (.tmp 231), none⟩,
 ⟨some 233, .arith .sub .i64 (.tmp 232) (.cst (.d (.int .i64 1))), none⟩,
 ⟨some 234, .mov (.tmp 7), none⟩,
 ⟨some 235, .arith .quo .i64 (.tmp 233) (.tmp 234), none⟩,
 ⟨some 236, .msl 8 151 3 56 (.agg [(.slice 1 []), (.slice 1 []), (.bool false)]) (.tmp 235), none⟩,
 ⟨some 18, .mov (.tmp 236), none⟩])
 (.seq
 (.reg [9, 10] [⟨some 238, .ld true 3 (.tmp 15), none⟩,
 ⟨some 239, .ld true 2 (.tmp 16), none⟩,
 ⟨some 240, .mov (.tmp 18), none⟩,
 ⟨some 241, .call 49 [(.tmp 238), (.tmp 239), (.tmp 240)], none⟩,
 ⟨some 237, .mov (.tmp 241), none⟩,
 ⟨some 242, .ext 0 (.tmp 237), none⟩,
 ⟨some 243, .ext 1 (.tmp 237), none⟩,
 ⟨some 244, .ext 2 (.tmp 237), none⟩,
 ⟨some 19, .alloc 9 [(.d (.slice 4 [])), (.d (.int .i64 0)), (.d (.int .i64 0))], none⟩,
 ⟨some 20, .alloc 10 [(.d (.int .i64 0)), (.d (.slice 4 []))], none⟩,
 ⟨none, .st 3 (.tmp 19) (.tmp 242), none⟩,
 ⟨none, .st 2 (.tmp 20) (.tmp 243), none⟩,
 ⟨some 21, .mov (.tmp 244), none⟩])
 rest))

def ir8e : ACode :=
 (.seq
 (.reg [] [⟨some 245, .mov (.tmp 21), none⟩,
 ⟨some 246, .cmp .eql (.tmp 245) (.cst (.d (.int .i64 0))), none⟩,
 ⟨some 247, .mov (.tmp 246), none⟩,
 ⟨some 248, .fad 1 (.tmp 19), some (247, true)⟩,
 ⟨some 249, .ld false 1 (.tmp 248), some (247, true)⟩,
 ⟨some 250, .mov (.tmp 0), some (247, true)⟩,
 ⟨some 251, .len (.tmp 250), some (247, true)⟩,
 ⟨some 252, .cmp .eql (.tmp 249) (.tmp 251), some (247, true)⟩,
 ⟨some 253, .pick (.tmp 247) (.tmp 252) (.cst (.d (.bool false))), none⟩,
 ⟨some 254, .mov (.tmp 253), none⟩,
 ⟨some 255, .fad 1 (.tmp 20), some (254, true)⟩,
 ⟨some 256, .ld false 1 (.tmp 255), some (254, true)⟩,
 ⟨some 257, .call 23 [(.tmp 256)], some (254, true)⟩,
 ⟨some 258, .mov (.tmp 0), some (254, true)⟩,
 ⟨some 259, .call 22 [(.tmp 257), (.tmp 258)], some (254, true)⟩,
 ⟨some 260, .pick (.tmp 254) (.tmp 259) (.cst (.d (.bool false))), none⟩,
 ⟨some 261, .mov (.tmp 260), none⟩,
 ⟨some 262, .call 12 [], some (261, true)⟩,
 ⟨some 263, .pick (.tmp 261) (.tmp 262) (.cst (.d (.bool false))), none⟩,
 ⟨some 6, .mov (.tmp 263), none⟩])
 .ret)

def ir8 : AFun := ⟨264, 11, [.tmp 6], (ir8a (.keep [0, 2, 7, 8, 9] [] (ir8b (.keep [0, 2, 7, 8, 9] [2, 3, 4, 5] (ir8c (.keep [0, 7, 15, 16] [0, 1] (ir8d (.keep [0, 19, 20, 21] [6, 7, 8] ir8e))))))))⟩

theorem c49w (q : List Fr) (w : Nat) (l : List Rd) (hq : checkFrames q = 0) (hw : 1 ≤ w ∧ w ≤ 8) (hqb : ∀ f ∈ q, f.b.length ≤ 1048576) (hll : l.length ≤ 1048576) (hls : ∀ x ∈ l, x.small) (hlc : chkRds l = 0) {p : Nat × Nat} (hp : inW (sW q w) p) :
    CallDet Tryz.prog 49 [.d (sAt (sW q w) p.1).d, .d (rAt (sW q w) p.2).d, .d (.slice 3 (rds l))] [(sAt (sW q w) (l.foldl (rnd (sW q w)) p).1).d, (rAt (sW q w) (l.foldl (rnd (sW q w)) p).2).d, .int .i64 0] := by
  obtain ⟨a, t⟩ := p
  exact c49g (sW q w) a t l (sW_chk hq hw) hp (fits_in hp) hlc hqb hls hll

theorem chk_one {l : List Rd} {x : Rd} (h : chkRds l = 0) (hx : x ∈ l) : chkRds [x] = 0 := by
  unfold chkRds at h
  have h1 : x.chk = 0 := by
    rcases Bool.eq_false_or_eq_true (decide ((64 : Int) < (l.length : Int))) with e | e
    · rw [e] at h; cases h
    · rw [e] at h
      exact firstOf_zero h _ (List.mem_map.2 ⟨x, hx, rfl⟩)
  show (bif decide ((64 : Int) < (([x] : List Rd).length : Int)) then 5 else firstOf [x.chk]) = 0
  rw [h1]; rfl
theorem ints_nil {l : List Int} (h : (((ints l).length : Int) == 0) = true) : l = [] := by
  have h := eq_of_beq h
  have e : (ints l).length = l.length := by simp [ints]
  exact List.eq_nil_of_length_eq_zero (by omega)
theorem c22s (q : List Fr) (h : q.length ≤ 1048576) : CallDet Tryz.prog 22 [.d (.slice 4 (frs q)), .d (.slice 4 (frs q))] [.bool true] := by
  have := c22 q q h
  rw [sf_self] at this
  exact this
theorem c22t (q : List Fr) (t : Nat) (h : q.length ≤ 1048576) : CallDet Tryz.prog 22 [.d (.slice 4 (frs (q.take t))), .d (.slice 4 (((frs q).take (t : Int).toNat).drop (0 : Int).toNat))] [.bool true] := by
  have e : ((frs q).take (t : Int).toNat).drop (0 : Int).toNat = frs (q.take t) := by
    show (q.map Fr.d).take t = (q.take t).map Fr.d
    rw [List.map_take]
  rw [e]
  exact c22s (q.take t) (by rw [List.length_take]; omega)

set_option maxHeartbeats 4000000 in
theorem a8 (q : List Fr) (n : UInt8) (l : List Rd) (hq0 : q.length ≤ 1048576) (hqo : ∀ f ∈ q, f.ok) (hqb : ∀ f ∈ q, f.b.length ≤ 1048576) (hl0 : l.length ≤ 1048576) (hls : ∀ x ∈ l, x.small)
    (c : ACode) (hc : ∀ w : Nat, 1 ≤ w ∧ w ≤ 8 → checkFrames q = 0 → q.length ≤ 24 → l.length ≤ 12 → chkRds l = 0 → vc Tryz.prog 264 c ⟨[(0, .d (.slice 4 (frs q))), (2, .d (.slice 3 (rds l))), (7, .d (.int .i64 (w : Int))), (8, .ptr 0 0), (9, .ptr 1 0)], [.box [.d (.slice 4 (frs q)), .d (.int .i64 0), .d (.int .i64 (w : Int))], .box [.d (.int .i64 0), .d (.slice 4 [])], .none, .none, .none, .none, .none, .none, .none, .none, .none]⟩ (postF ir8 [.bool true])) :
    vc Tryz.prog 264 (ir8a (.keep [0, 2, 7, 8, 9] [] c)) (startS ir8 [.d (.slice 4 (frs q)), .d (byt n), .d (.slice 3 (rds l))]) (postF ir8 [.bool true]) := by
  have hlq := frs_len q
  have hlr : (rds l).length = l.length := by simp [rds]
  have hn := n.toNat_lt
  have hw : 1 ≤ 1 + n.toNat % 8 ∧ 1 + n.toNat % 8 ≤ 8 := by omega
  refine Exists.intro _ (And.intro (c11 q hq0) ?_)
  repeat refine And.intro rfl ?_
  refine brk_intro ?_ ?_
  · intro _
    repeat refine And.intro rfl ?_
    refine Exists.intro _ (And.intro c12 ?_)
    exact rfl
  intro h1
  have h1 : (!(short q)) = false := h1
  repeat refine And.intro rfl ?_
  refine Exists.intro _ (And.intro (c18 q hq0 hqo) ?_)
  repeat refine And.intro rfl ?_
  refine brk_intro ?_ ?_
  · intro _
    repeat refine And.intro rfl ?_
    refine Exists.intro _ (And.intro c12 ?_)
    exact rfl
  intro h2
  have h2 : (checkFrames q != 0) = false := h2
  repeat refine And.intro rfl ?_
  refine brk_intro ?_ ?_
  · intro _
    repeat refine And.intro rfl ?_
    refine Exists.intro _ (And.intro c12 ?_)
    exact rfl
  intro h3
  have h3 : decide ((24 : Int) < ((frs q).length : Int)) = false := h3
  repeat refine And.intro rfl ?_
  refine Exists.intro _ (And.intro (c48 l hl0) ?_)
  repeat refine And.intro rfl ?_
  refine brk_intro ?_ ?_
  · intro _
    repeat refine And.intro rfl ?_
    refine Exists.intro _ (And.intro c12 ?_)
    exact rfl
  intro h4
  have h4 : (!(shortR l)) = false := h4
  repeat refine And.intro rfl ?_
  refine Exists.intro _ (And.intro (c51 l hls) ?_)
  repeat refine And.intro rfl ?_
  refine brk_intro ?_ ?_
  · intro _
    repeat refine And.intro rfl ?_
    refine Exists.intro _ (And.intro c12 ?_)
    exact rfl
  intro h5
  have h5 : (chkRds l != 0) = false := h5
  repeat refine And.intro rfl ?_
  refine brk_intro ?_ ?_
  · intro _
    repeat refine And.intro rfl ?_
    refine Exists.intro _ (And.intro c12 ?_)
    exact rfl
  intro h6
  have h6 : decide ((12 : Int) < ((rds l).length : Int)) = false := h6
  have k2 : checkFrames q = 0 := by simpa using h2
  have k3 : q.length ≤ 24 := by have := of_decide_eq_false h3; omega
  have k5 : chkRds l = 0 := by simpa using h5
  have k6 : l.length ≤ 12 := by have := of_decide_eq_false h6; omega
  repeat refine And.intro rfl ?_
  refine Exists.intro _ (And.intro (i64_u8 n) ?_)
  repeat refine And.intro rfl ?_
  refine ar_rem (by omega) ?_
  repeat refine And.intro rfl ?_
  refine ar_is (r := ((1 + n.toNat % 8 : Nat) : Int)) (by simp only [arithF]; rw [IntWalk.i64_in _ (by omega)]; rfl) ?_
  refine Exists.intro _ (And.intro (c15 q hq0 hqb) ?_)
  repeat refine And.intro rfl ?_
  exact hc (1 + n.toNat % 8) hw k2 k3 k6 k5

set_option maxHeartbeats 8000000 in
theorem b8 (q : List Fr) (w : Nat) (l : List Rd) (hq : checkFrames q = 0) (hw : 1 ≤ w ∧ w ≤ 8) (hql : q.length ≤ 24) (hqb : ∀ f ∈ q, f.b.length ≤ 1048576) (hll : l.length ≤ 12) (hls : ∀ x ∈ l, x.small) (hlc : chkRds l = 0) (c : ACode) (hc : vc Tryz.prog 264 c ⟨[(0, .d (.slice 4 (frs q))), (2, .d (.slice 3 (rds l))), (7, .d (.int .i64 (w : Int))), (8, .ptr 0 0), (9, .ptr 1 0)], [.box [.d (.slice 4 (frs q)), .d (.int .i64 ((l.foldl (rnd (sW q w)) (0, 0)).1 : Int)), .d (.int .i64 (w : Int))], .box [.d (.int .i64 ((l.foldl (rnd (sW q w)) (0, 0)).2 : Int)), .d (.slice 4 (frs (q.take (l.foldl (rnd (sW q w)) (0, 0)).2)))], .none, .none, .none, .none, .none, .none, .none, .none, .none]⟩ (postF ir8 [.bool true])) :
    vc Tryz.prog 264 (ir8b (.keep [0, 2, 7, 8, 9] [2, 3, 4, 5] c)) ⟨[(0, .d (.slice 4 (frs q))), (2, .d (.slice 3 (rds l))), (7, .d (.int .i64 (w : Int))), (8, .ptr 0 0), (9, .ptr 1 0)], [.box [.d (.slice 4 (frs q)), .d (.int .i64 0), .d (.int .i64 (w : Int))], .box [.d (.int .i64 0), .d (.slice 4 [])], .none, .none, .none, .none, .none, .none, .none, .none, .none]⟩ (postF ir8 [.bool true]) := by
  have hlq := frs_len q
  have hlr : (rds l).length = l.length := by simp [rds]
  refine loop_st (fun a : Nat × (Nat × Nat) => ⟨[(0, .d (.slice 4 (frs q))), (2, .d (.slice 3 (rds l))), (7, .d (.int .i64 (w : Int))), (8, .ptr 0 0), (9, .ptr 1 0), (60, .d (.slice 3 (rds l))), (61, .d (.int .i64 ((rds l).length : Int))), (62, .d (.int .i64 (a.1 : Int)))], [.box [.d (.slice 4 (frs q)), .d (.int .i64 (a.2.1 : Int)), .d (.int .i64 (w : Int))], .box [.d (.int .i64 (a.2.2 : Int)), .d (.slice 4 (frs (q.take a.2.2)))], .none, .none, .none, .none, .none, .none, .none, .none, .none]⟩)
    (fun a => a.2 = (l.take a.1).foldl (rnd (sW q w)) (0, 0)) (fun a => l.length - a.1) (0, (0, 0)) rfl rfl ?_
  rintro ⟨k, p⟩ hk
  have hk : p = (l.take k).foldl (rnd (sW q w)) (0, 0) := hk
  have hp : inW (sW q w) p := by rw [hk]; exact fold_in _ (inW_zero _)
  refine And.intro rfl ?_
  refine brk_intro ?_ ?_
  · intro h
    have h : (k : Int) < ((rds l).length : Int) := of_decide_eq_true h
    refine Exists.elim (⟨_, List.getElem?_eq_getElem (by omega)⟩ : ∃ x, l[k]? = some x) fun x hx => ?_
    have hd : (rds l)[(k : Int).toNat]? = some x.d := by simp [rds, hx]
    have hxm := List.mem_of_getElem? hx
    have hnext : rnd (sW q w) p x = (l.take (k + 1)).foldl (rnd (sW q w)) (0, 0) := by rw [fold_take _ hx, ← hk]
    have hr := rnd_in (x := x) hp
    have hlow := rnd_low (x := x) hp
    have hx1 : ∀ y ∈ [x], y.small := fun y hy => by rw [List.mem_singleton.1 hy]; exact hls x hxm
    have h49 : CallDet Tryz.prog 49 [.d (sAt (sW q w) p.1).d, .d (rAt (sW q w) p.2).d, .d (.slice 3 (rds [x]))] [(sAt (sW q w) (rnd (sW q w) p x).1).d, (rAt (sW q w) (rnd (sW q w) p x).2).d, .int .i64 0] := c49w q w [x] hq hw hqb (by simp) hx1 (chk_one hlc hxm) hp
    have hcalm := fun h => rnd_calm (x := x) hp h
    have hdeaf := fun h => rnd_deaf (s := sW q w) (p := p) (x := x) h
    have h22 := c22t q (rnd (sW q w) p x).2 (by omega)
    rw [lim_w] at hlow
    obtain ⟨⟨hr1, hr2⟩, hr3, hr4⟩ := hr
    have hp2 : p.2 ≤ min q.length (p.1 + w) := hp.2
    have hp1 : p.1 ≤ p.2 := hp.1
    have f1 : decide (((rnd (sW q w) p x).2 : Int) < (p.2 : Int)) = false := decide_eq_false (by omega)
    have f2 : decide (((rnd (sW q w) p x).1 : Int) < (p.1 : Int)) = false := decide_eq_false (by omega)
    have f3 : decide (((frs q).length : Int) < ((rnd (sW q w) p x).2 : Int)) = false := decide_eq_false (by omega)
    have f4 : decide (((rnd (sW q w) p x).2 : Int) < ((rnd (sW q w) p x).1 : Int)) = false := decide_eq_false (by omega)
    have f5 : decide ((p.1 : Int) + (w : Int) < ((rnd (sW q w) p x).2 : Int)) = false := decide_eq_false (by omega)
    have f6 : decide (((rnd (sW q w) p x).1 : Int) < ((rnd (sW q w) p x).2 : Int) - (w : Int)) = false := decide_eq_false (by have : (rnd (sW q w) p x).2 ≤ min q.length ((rnd (sW q w) p x).1 + w) := hr2; omega)
    have f9 : ((w : Int) != (w : Int)) = false := by simp
    have hbd : (rnd (sW q w) p x).1 ≤ 24 ∧ (rnd (sW q w) p x).2 ≤ 24 ∧ p.1 ≤ 24 := by omega
    have hcl : (((ints x.lost).length : Int) == 0) = true → (((rnd (sW q w) p x).2 : Int) != min ((frs q).length : Int) ((p.1 : Int) + (w : Int))) = false := fun e => by
      rw [hcalm (ints_nil e), hlq, bne_eq_false_iff_eq]; omega
    have hdf : (!x.deaf) = true → (((rnd (sW q w) p x).1 : Int) != ((rnd (sW q w) p x).2 : Int)) = false := fun e => by
      rw [hdeaf (by simpa using e)]; simp
    have hcl2 : (!x.deaf) = true → (((ints x.lost).length : Int) == 0) = true → (((rnd (sW q w) p x).1 : Int) != min ((frs q).length : Int) ((p.1 : Int) + (w : Int))) = false := fun e e2 => by
      rw [hdeaf (by simpa using e)]; exact hcl e2
    generalize rnd (sW q w) p x = p' at *
    have hs0 : 0 ≤ (p'.2 : Int) := by omega
    have hs1 : (p'.2 : Int) ≤ ((frs q).length : Int) := by omega
    have hAk : -9223372036854775808 ≤ (k : Int) + 1 ∧ (k : Int) + 1 ≤ 9223372036854775807 := by omega
    have hA5 : -9223372036854775808 ≤ (p.1 : Int) + (w : Int) ∧ (p.1 : Int) + (w : Int) ≤ 9223372036854775807 := by omega
    have hA6 : -9223372036854775808 ≤ (p'.2 : Int) - (w : Int) ∧ (p'.2 : Int) - (w : Int) ≤ 9223372036854775807 := by omega
    refine ix_at hd (by omega) ?_
    repeat refine And.intro rfl ?_
    refine Exists.intro _ (And.intro (c50 [x] (by simp) hx1) ?_)
    refine Exists.intro _ (And.intro h49 ?_)
    repeat refine And.intro rfl ?_
    refine brk_f f1 ?_
    repeat refine And.intro rfl ?_
    refine brk_f f2 ?_
    repeat refine And.intro rfl ?_
    refine brk_f f3 ?_
    repeat refine And.intro rfl ?_
    refine brk_f f4 ?_
    repeat refine And.intro rfl ?_
    refine ar_add hA5 ?_
    repeat refine And.intro rfl ?_
    refine brk_f f5 ?_
    repeat refine And.intro rfl ?_
    refine ar_sub hA6 ?_
    repeat refine And.intro rfl ?_
    refine brk_f f6 ?_
    repeat refine And.intro rfl ?_
    refine Exists.intro _ (And.intro (c23 (q.take p'.2) (by rw [List.length_take]; omega)) ?_)
    repeat refine And.intro rfl ?_
    refine And.intro ⟨rfl, by decide, hs0, hs1⟩ ?_
    refine Exists.intro _ (And.intro h22 ?_)
    repeat refine And.intro rfl ?_
    refine Exists.intro _ (And.intro (c23 q (by omega)) ?_)
    refine Exists.intro _ (And.intro (c22s q (by omega)) ?_)
    repeat refine And.intro rfl ?_
    refine brk_f f9 ?_
    repeat refine And.intro rfl ?_
    refine brk_intro ?_ ?_
    · intro e1
      have e1 : (!x.deaf) = true := e1
      repeat refine And.intro rfl ?_
      refine brk_f (hdf e1) ?_
      repeat refine And.intro rfl ?_
      refine brk_intro ?_ ?_
      · intro e2
        have e2 : (((ints x.lost).length : Int) == 0) = true := e2
        repeat refine And.intro rfl ?_
        refine ar_add hA5 ?_
        repeat refine And.intro rfl ?_
        refine brk_f (hcl e2) ?_
        repeat refine And.intro rfl ?_
        refine brk_t e2 ?_
        repeat refine And.intro rfl ?_
        refine brk_t e1 ?_
        repeat refine And.intro rfl ?_
        refine ar_add hA5 ?_
        repeat refine And.intro rfl ?_
        refine brk_f (hcl2 e1 e2) ?_
        repeat refine And.intro rfl ?_
        refine ar_add hAk ?_
        exact ⟨(k + 1, p'), ⟨hnext, by show l.length - (k + 1) < l.length - k; omega⟩, rfl⟩
      · intro e2
        have e2 : (((ints x.lost).length : Int) == 0) = false := e2
        repeat refine And.intro rfl ?_
        repeat refine And.intro rfl ?_
        refine brk_f e2 ?_
        repeat refine And.intro rfl ?_
        refine ar_add hAk ?_
        exact ⟨(k + 1, p'), ⟨hnext, by show l.length - (k + 1) < l.length - k; omega⟩, rfl⟩
    · intro e1
      have e1 : (!x.deaf) = false := e1
      repeat refine And.intro rfl ?_
      refine brk_intro ?_ ?_
      · intro e2
        have e2 : (((ints x.lost).length : Int) == 0) = true := e2
        repeat refine And.intro rfl ?_
        refine ar_add hA5 ?_
        repeat refine And.intro rfl ?_
        refine brk_f (hcl e2) ?_
        repeat refine And.intro rfl ?_
        refine brk_t e2 ?_
        repeat refine And.intro rfl ?_
        refine brk_f e1 ?_
        repeat refine And.intro rfl ?_
        refine ar_add hAk ?_
        exact ⟨(k + 1, p'), ⟨hnext, by show l.length - (k + 1) < l.length - k; omega⟩, rfl⟩
      · intro e2
        have e2 : (((ints x.lost).length : Int) == 0) = false := e2
        repeat refine And.intro rfl ?_
        repeat refine And.intro rfl ?_
        refine brk_f e2 ?_
        repeat refine And.intro rfl ?_
        refine ar_add hAk ?_
        exact ⟨(k + 1, p'), ⟨hnext, by show l.length - (k + 1) < l.length - k; omega⟩, rfl⟩
  · intro h
    have h : ¬ (k : Int) < ((rds l).length : Int) := of_decide_eq_false h
    have e : l.take k = l := List.take_of_length_le (by omega)
    rw [e] at hk
    subst hk
    exact hc

set_option maxHeartbeats 4000000 in
theorem k8 (q : List Fr) (w : Nat) (l : List Rd) (hq : checkFrames q = 0) (hw : 1 ≤ w ∧ w ≤ 8) (hql : q.length ≤ 24) (hqb : ∀ f ∈ q, f.b.length ≤ 1048576) (hll : l.length ≤ 12) (hls : ∀ x ∈ l, x.small) (hlc : chkRds l = 0) (c : ACode) (hc : vc Tryz.prog 264 c ⟨[(0, .d (.slice 4 (frs q))), (7, .d (.int .i64 (w : Int))), (15, .ptr 6 0), (16, .ptr 7 0)], [.none, .none, .none, .none, .none, .none, .box [.d (.slice 4 (frs q)), .d (.int .i64 ((l.foldl (rnd (sW q w)) (0, 0)).1 : Int)), .d (.int .i64 (w : Int))], .box [.d (.int .i64 ((l.foldl (rnd (sW q w)) (0, 0)).2 : Int)), .d (.slice 4 (frs (q.take (l.foldl (rnd (sW q w)) (0, 0)).2)))], .none, .none, .none]⟩ (postF ir8 [.bool true])) :
    vc Tryz.prog 264 (ir8c (.keep [0, 7, 15, 16] [0, 1] c)) ⟨[(0, .d (.slice 4 (frs q))), (2, .d (.slice 3 (rds l))), (7, .d (.int .i64 (w : Int))), (8, .ptr 0 0), (9, .ptr 1 0)], [.box [.d (.slice 4 (frs q)), .d (.int .i64 ((l.foldl (rnd (sW q w)) (0, 0)).1 : Int)), .d (.int .i64 (w : Int))], .box [.d (.int .i64 ((l.foldl (rnd (sW q w)) (0, 0)).2 : Int)), .d (.slice 4 (frs (q.take (l.foldl (rnd (sW q w)) (0, 0)).2)))], .none, .none, .none, .none, .none, .none, .none, .none, .none]⟩ (postF ir8 [.bool true]) := by
  have g1 : (((l.foldl (rnd (sW q w)) (0, 0)).1 : Int) != ((l.foldl (rnd (sW q w)) (0, 0)).1 : Int)) = false := by simp
  have g2 : (((l.foldl (rnd (sW q w)) (0, 0)).2 : Int) != ((l.foldl (rnd (sW q w)) (0, 0)).2 : Int)) = false := by simp
  refine Exists.intro _ (And.intro (c15 q (by omega) hqb) ?_)
  repeat refine And.intro rfl ?_
  refine Exists.intro _ (And.intro (c50 l (by omega) hls) ?_)
  refine Exists.intro _ (And.intro (c49w q w l hq hw hqb (by omega) hls hlc (inW_zero _)) ?_)
  repeat refine And.intro rfl ?_
  refine brk_f g1 ?_
  repeat refine And.intro rfl ?_
  refine brk_f g2 ?_
  exact hc

theorem calm_chk (m : Nat) (h : m ≤ 24) : chkRds (List.replicate m calmR) = 0 := by
  unfold chkRds
  rw [decide_eq_false (by rw [List.length_replicate]; omega)]
  refine first_zeros fun e he => ?_
  obtain ⟨x, hx, rfl⟩ := List.mem_map.1 he
  rw [List.eq_of_mem_replicate hx]; rfl
theorem c49c (q : List Fr) (w : Nat) (hq : checkFrames q = 0) (hw : 1 ≤ w ∧ w ≤ 8) (hql : q.length ≤ 24) (hqb : ∀ f ∈ q, f.b.length ≤ 1048576) {p : Nat × Nat} (hp : inW (sW q w) p) :
    CallDet Tryz.prog 49 [.d (sAt (sW q w) p.1).d, .d (rAt (sW q w) p.2).d, .d (.slice 3 (List.replicate ((((frs q).length : Int) + (w : Int) - 1) / (w : Int)).toNat (.agg [.slice 1 [], .slice 1 [], .bool false])))] [(sAt (sW q w) q.length).d, (rAt (sW q w) q.length).d, .int .i64 0] := by
  have e : ((((frs q).length : Int) + (w : Int) - 1) / (w : Int)).toNat = (q.length + w - 1) / w := by
    rw [frs_len, show ((q.length : Int) + (w : Int) - 1) = ((q.length + w - 1 : Nat) : Int) by omega]; rfl
  have hm : (q.length + w - 1) / w ≤ 24 := by
    refine Nat.le_trans (Nat.div_le_div_right (show q.length + w - 1 ≤ 23 + w by omega)) ?_
    refine Nat.le_of_lt_succ ((Nat.div_lt_iff_lt_mul (by omega)).2 ?_)
    have : 25 * 1 ≤ 25 * w := Nat.mul_le_mul_left _ hw.1
    omega
  rw [e, rds_calm]
  have h := c49w q w (List.replicate ((q.length + w - 1) / w) calmR) hq hw hqb (by rw [List.length_replicate]; omega) (fun x hx => by rw [List.eq_of_mem_replicate hx]; exact ⟨Nat.zero_le _, Nat.zero_le _⟩) (calm_chk _ hm) hp
  rw [calm_end hw.1 hp] at h
  exact h
set_option maxHeartbeats 4000000 in
theorem d8 (q : List Fr) (w : Nat) (l : List Rd) (hq : checkFrames q = 0) (hw : 1 ≤ w ∧ w ≤ 8) (hql : q.length ≤ 24) (hqb : ∀ f ∈ q, f.b.length ≤ 1048576) (hll : l.length ≤ 12) (hls : ∀ x ∈ l, x.small) (hlc : chkRds l = 0) (c : ACode) (hc : vc Tryz.prog 264 c ⟨[(0, .d (.slice 4 (frs q))), (19, .ptr 9 0), (20, .ptr 10 0), (21, .d (.int .i64 0))], [.none, .none, .none, .none, .none, .none, .none, .none, .none, .box [.d (.slice 4 (frs q)), .d (.int .i64 (q.length : Int)), .d (.int .i64 (w : Int))], .box [.d (.int .i64 (q.length : Int)), .d (.slice 4 (frs (q.take q.length)))]]⟩ (postF ir8 [.bool true])) :
    vc Tryz.prog 264 (ir8d (.keep [0, 19, 20, 21] [6, 7, 8] c)) ⟨[(0, .d (.slice 4 (frs q))), (7, .d (.int .i64 (w : Int))), (15, .ptr 6 0), (16, .ptr 7 0)], [.none, .none, .none, .none, .none, .none, .box [.d (.slice 4 (frs q)), .d (.int .i64 ((l.foldl (rnd (sW q w)) (0, 0)).1 : Int)), .d (.int .i64 (w : Int))], .box [.d (.int .i64 ((l.foldl (rnd (sW q w)) (0, 0)).2 : Int)), .d (.slice 4 (frs (q.take (l.foldl (rnd (sW q w)) (0, 0)).2)))], .none, .none, .none]⟩ (postF ir8 [.bool true]) := by
  have hlq := frs_len q
  have hp : inW (sW q w) (l.foldl (rnd (sW q w)) (0, 0)) := fold_in _ (inW_zero _)
  have hdv : 0 ≤ (((frs q).length : Int) + (w : Int) - 1) / (w : Int) := Int.ediv_nonneg (by omega) (by omega)
  have hdl : (((frs q).length : Int) + (w : Int) - 1) / (w : Int) ≤ ((frs q).length : Int) + (w : Int) - 1 := Int.ediv_le_self _ (by omega)
  repeat refine And.intro rfl ?_
  refine ar_add (by omega) ?_
  repeat refine And.intro rfl ?_
  refine ar_sub (by omega) ?_
  repeat refine And.intro rfl ?_
  refine ar_quo (by omega) ?_
  repeat refine And.intro rfl ?_
  refine And.intro ⟨hdv, ?_, ?_⟩ ?_
  · show (((frs q).length : Int) + (w : Int) - 1) / (w : Int) * 56 ≤ 2 ^ 47
    omega
  · show (((frs q).length : Int) + (w : Int) - 1) / (w : Int) ≤ 2 ^ 47
    omega
  repeat refine And.intro rfl ?_
  refine And.intro (List.length_replicate ..) ?_
  refine Exists.intro _ (And.intro (c49c q w hq hw hql hqb hp) ?_)
  repeat refine And.intro rfl ?_
  exact hc
theorem e8 (q : List Fr) (w : Nat) (l : List Rd) (hq : checkFrames q = 0) (hw : 1 ≤ w ∧ w ≤ 8) (hql : q.length ≤ 24) (hqb : ∀ f ∈ q, f.b.length ≤ 1048576) (hll : l.length ≤ 12) (hls : ∀ x ∈ l, x.small) (hlc : chkRds l = 0) : vc Tryz.prog 264 ir8e ⟨[(0, .d (.slice 4 (frs q))), (19, .ptr 9 0), (20, .ptr 10 0), (21, .d (.int .i64 0))], [.none, .none, .none, .none, .none, .none, .none, .none, .none, .box [.d (.slice 4 (frs q)), .d (.int .i64 (q.length : Int)), .d (.int .i64 (w : Int))], .box [.d (.int .i64 (q.length : Int)), .d (.slice 4 (frs (q.take q.length)))]]⟩ (postF ir8 [.bool true]) := by
  have hlq := frs_len q
  have g1 : ((q.length : Int) == ((frs q).length : Int)) = true := by rw [hlq]; simp
  repeat refine And.intro rfl ?_
  refine brk_t g1 ?_
  repeat refine And.intro rfl ?_
  refine Exists.intro _ (And.intro (c23 (q.take q.length) (by rw [List.length_take]; omega)) ?_)
  have h22 := c22s q (by omega)
  rw [← List.take_length (l := q)] at h22
  refine Exists.intro _ (And.intro (by rw [List.take_length]; exact c22s q (by omega)) ?_)
  repeat refine And.intro rfl ?_
  refine Exists.intro _ (And.intro c12 ?_)
  repeat refine And.intro rfl ?_
  exact rfl
theorem c8 (q : List Fr) (n : UInt8) (l : List Rd) (hq0 : q.length ≤ 1048576) (hqo : ∀ f ∈ q, f.ok) (hqb : ∀ f ∈ q, f.b.length ≤ 1048576) (hl0 : l.length ≤ 1048576) (hls : ∀ x ∈ l, x.small) :
    CallDet Tryz.prog 8 [.d (.slice 4 (frs q)), .d (byt n), .d (.slice 3 (rds l))] [.bool true] := by
  refine call_of_vc (x := ir8) (by kernel_rfl) rfl ?_
  refine a8 q n l hq0 hqo hqb hl0 hls _ (fun w hw hq hql hll hlc => b8 q w l hq hw hql hqb hll hls hlc _ (k8 q w l hq hw hql hqb hll hls hlc _ (d8 q w l hq hw hql hqb hll hls hlc _ (e8 q w l hq hw hql hqb hll hls hlc))))
end Vc

