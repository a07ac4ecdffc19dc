import Derived.Test.YtfkljdokkfgifaaGreatDoorYa
set_option linter.unusedSectionVars false
set_option linter.unusedVariables false
set_option linter.unusedSimpArgs false
set_option maxRecDepth 10000
namespace Vc
open Go Go.Proofs
/-! Stations: the winner of a slot, and what stands after it. -/
def Stn.sum (x : Stn) : Int := x.pri + x.wt
def Stn.ok (x : Stn) : Prop := (0 ≤ x.pri ∧ x.pri ≤ 3) ∧ (0 ≤ x.fr ∧ x.fr ≤ 64) ∧ (0 ≤ x.wt ∧ x.wt ≤ 1000)
def better (out : Int) (b x : Stn) : Bool := decide (0 < x.fr) && (decide (out < 0) || decide (b.sum < x.sum))
def wGo : Int → Stn → Nat → List Stn → Int
  | out, _, _, [] => out
  | out, b, k, x :: r => bif better out b x then wGo k x (k + 1) r else wGo out b (k + 1) r
def winF (l : List Stn) : Int := wGo (-1) ⟨[], 0, 0, 0⟩ 0 l
def aheadB (b x : Stn) : Bool := (x.fr == 0) || (decide (0 < b.fr) && decide (x.sum ≤ b.sum))
def wI (l : List Stn) (a : Nat × Int × Stn) : Prop := winF l = wGo a.2.1 a.2.2 a.1 (l.drop a.1) ∧ (a.2.1 = -1 ∨ (0 ≤ a.2.1 ∧ a.2.1 < a.1 ∧ l[a.2.1.toNat]? = some a.2.2 ∧ 0 < a.2.2.fr))
theorem wGo_at {l : List Stn} {k : Nat} {x : Stn} (h : l[k]? = some x) (out : Int) (b : Stn) : wGo out b k (l.drop k) = bif better out b x then wGo k x (k + 1) (l.drop (k + 1)) else wGo out b (k + 1) (l.drop (k + 1)) := by
  obtain ⟨hl, e⟩ := List.getElem?_eq_some_iff.1 h
  rw [List.drop_eq_getElem_cons hl, e]; rfl
theorem wI_yes {l : List Stn} {k : Nat} {out : Int} {b x : Stn} (h : l[k]? = some x) (hi : wI l (k, out, b)) (hb : better out b x = true) : wI l (k + 1, (k : Int), x) := by
  obtain ⟨h1, _⟩ := hi
  have h1 : winF l = wGo out b k (l.drop k) := h1
  refine ⟨by rw [h1, wGo_at h, hb]; rfl, .inr ⟨by show 0 ≤ (k : Int); omega, by show (k : Int) < ((k + 1 : Nat) : Int); omega, h, ?_⟩⟩
  unfold better at hb
  rw [Bool.and_eq_true] at hb
  exact of_decide_eq_true hb.1
theorem wI_no {l : List Stn} {k : Nat} {out : Int} {b x : Stn} (h : l[k]? = some x) (hi : wI l (k, out, b)) (hb : better out b x = false) : wI l (k + 1, out, b) := by
  obtain ⟨h1, h2⟩ := hi
  have h1 : winF l = wGo out b k (l.drop k) := h1
  refine ⟨by rw [h1, wGo_at h, hb]; rfl, ?_⟩
  rcases h2 with h2 | ⟨h2, h3, h4, h5⟩
  · exact .inl h2
  · have h3 : out < (k : Int) := h3
    exact .inr ⟨h2, by show out < ((k + 1 : Nat) : Int); omega, h4, h5⟩
theorem wI_end {l : List Stn} {k : Nat} {out : Int} {b : Stn} (hk : l.length ≤ k) (hi : wI l (k, out, b)) : resV [.int .i64 out] = resV [.int .i64 (winF l)] := by
  obtain ⟨h1, _⟩ := hi
  have h1 : winF l = wGo out b k (l.drop k) := h1
  rw [h1, List.drop_eq_nil_of_le hk]; rfl
theorem wI_start (l : List Stn) : wI l (0, -1, ⟨[], 0, 0, 0⟩) := ⟨rfl, .inl rfl⟩
/-- (kilovar/link.Station).ahead -/
def ir141 : AFun := ⟨26, 2, [.tmp 4],
 (.seq
 (.reg [0, 1] [⟨some 2, .cbx 0 4 (.tmp 0), none⟩,
 ⟨some 3, .cbx 1 4 (.tmp 1), none⟩,
 ⟨some 4, .mov (.cst (.d (.bool false))), none⟩])
 (.seq
 (.reg [] [⟨some 5, .fad 2 (.tmp 3), none⟩,
 ⟨some 6, .ld false 1 (.tmp 5), none⟩,
 ⟨some 7, .cmp .eql (.tmp 6) (.cst (.d (.int .i64 0))), none⟩,
 ⟨some 8, .mov (.tmp 7), none⟩,
 ⟨some 9, .fad 2 (.tmp 2), some (8, false)⟩,
 ⟨some 10, .ld false 1 (.tmp 9), some (8, false)⟩,
 ⟨some 11, .cmp .gtr (.tmp 10) (.cst (.d (.int .i64 0))), some (8, false)⟩,
 ⟨some 12, .mov (.tmp 11), some (8, false)⟩,
 ⟨some 13, .fad 1 (.tmp 2), some (12, true)⟩,
 ⟨some 14, .ld false 1 (.tmp 13), some (12, true)⟩,
 ⟨some 15, .fad 3 (.tmp 2), some (12, true)⟩,
 ⟨some 16, .ld false 1 (.tmp 15), some (12, true)⟩,
 ⟨some 17, .arith .add .i64 (.tmp 14) (.tmp 16), some (12, true)⟩,
 ⟨some 18, .fad 1 (.tmp 3), some (12, true)⟩,
 ⟨some 19, .ld false 1 (.tmp 18), some (12, true)⟩,
 ⟨some 20, .fad 3 (.tmp 3), some (12, true)⟩,
 ⟨some 21, .ld false 1 (.tmp 20), some (12, true)⟩,
 ⟨some 22, .arith .add .i64 (.tmp 19) (.tmp 21), some (12, true)⟩,
 ⟨some 23, .cmp .geq (.tmp 17) (.tmp 22), some (12, true)⟩,
 ⟨some 24, .pick (.tmp 12) (.tmp 23) (.cst (.d (.bool false))), some (8, false)⟩,
 ⟨some 25, .pick (.tmp 8) (.cst (.d (.bool true))) (.tmp 24), none⟩,
 ⟨some 4, .mov (.tmp 25), none⟩])
 .ret))⟩

/-- kilovar/link.winner -/
def ir107 : AFun := ⟨34, 1, [.tmp 2],
 (.seq
 (.reg [] [⟨some 2, .mov (.cst (.d (.int .i64 0))), none⟩])
 (.seq
 (.reg [] [⟨some 3, .mov (.cst (.d (.fn (.func 141) []))), none⟩])
 (.seq
 (.reg [] [⟨some 4, .mov (.cst (.d (.int .i64 (-1)))), none⟩])
 (.seq
 (.seq
 (.reg [] [⟨some 7, .mov (.tmp 0), none⟩,
 ⟨some 8, .len (.tmp 7), none⟩,
 ⟨some 9, .mov (.cst (.d (.int .i64 0))), none⟩])
 (.post [4] [0]
 (.block 0
 (.keep [0, 3, 4, 7, 8, 9] []
 (.loop
 (.post [0, 3, 4, 7, 8, 9] [0]
 (.seq
 (.reg [] [⟨some 10, .cmp .lss (.tmp 9) (.tmp 8), none⟩])
 (.seq
 (.cond (.tmp 10)
 .skip
 (.exit 0))
 (.seq
 (.block 1
 (.seq
 (.reg [0] [⟨some 11, .mov (.tmp 9), none⟩,
 ⟨some 12, .ixa 4 (.tmp 7) (.tmp 9), none⟩,
 ⟨some 13, .ld true 4 (.tmp 12), none⟩,
 ⟨some 6, .alloc 0 [(.d (.str [])), (.d (.int .i64 0)), (.d (.int .i64 0)), (.d (.int .i64 0))], none⟩,
 ⟨some 5, .mov (.tmp 11), none⟩,
 ⟨none, .st 4 (.tmp 6) (.tmp 13), none⟩])
 (.seq
 (.regd [] [⟨some 14, .fad 2 (.tmp 6), none⟩,
 ⟨some 15, .ld false 1 (.tmp 14), none⟩,
 ⟨some 16, .cmp .gtr (.tmp 15) (.cst (.d (.int .i64 0))), none⟩,
 ⟨some 17, .mov (.tmp 16), none⟩,
 ⟨some 18, .mov (.tmp 4), some (17, true)⟩,
 ⟨some 19, .cmp .lss (.tmp 18) (.cst (.d (.int .i64 0))), some (17, true)⟩,
 ⟨some 20, .mov (.tmp 19), some (17, true)⟩,
 ⟨some 21, .mov (.tmp 3), some (20, false)⟩,
 ⟨some 22, .mov (.tmp 0), some (20, false)⟩,
 ⟨some 23, .mov (.tmp 4), some (20, false)⟩,
 ⟨some 24, .ixa 4 (.tmp 22) (.tmp 23), some (20, false)⟩,
 ⟨some 25, .ld true 4 (.tmp 24), some (20, false)⟩,
 ⟨some 26, .ld true 4 (.tmp 6), some (20, false)⟩,
 ⟨some 27, .callv (.tmp 21) [(.tmp 25), (.tmp 26)], some (20, false)⟩,
 ⟨some 28, .not (.tmp 27), some (20, false)⟩,
 ⟨some 29, .pick (.tmp 20) (.cst (.d (.bool true))) (.tmp 28), some (17, true)⟩,
 ⟨some 30, .pick (.tmp 17) (.tmp 29) (.cst (.d (.bool false))), none⟩] [(7, 8), (7, 9), (8, 9), (7, 10), (7, 11), (7, 12), (8, 12), (9, 12), (10, 12), (11, 12)])
 (.cond (.tmp 30)
 (.reg [] [⟨some 31, .mov (.tmp 5), none⟩,
 ⟨some 4, .mov (.tmp 31), none⟩])
 .skip))))
 (.reg [] [⟨some 32, .arith .add .i64 (.tmp 9) (.cst (.d (.int .i64 1))), none⟩,
 ⟨some 9, .mov (.tmp 32), none⟩]))))))))))
 (.seq
 (.reg [] [⟨some 33, .mov (.tmp 4), none⟩,
 ⟨some 2, .mov (.tmp 33), none⟩])
 .ret)))))⟩

/-- kilovar/kilovarref04.Winner -/
def ir64 : AFun := ⟨50, 0, [.tmp 2],
 (.seq
 (.reg [] [⟨some 2, .mov (.cst (.d (.int .i64 0))), none⟩])
 (.seq
 (.reg [] [⟨some 3, .mov (.cst (.d (.int .i64 (-1)))), none⟩])
 (.seq
 (.seq
 (.reg [] [⟨some 4, .mov (.cst (.d (.int .i64 0))), none⟩])
 (.post [3] []
 (.block 0
 (.keep [0, 3, 4] []
 (.loop
 (.post [0, 3, 4] []
 (.seq
 (.seq
 (.reg [] [⟨some 5, .mov (.tmp 4), none⟩,
 ⟨some 6, .mov (.tmp 0), none⟩,
 ⟨some 7, .len (.tmp 6), none⟩,
 ⟨some 8, .cmp .lss (.tmp 5) (.tmp 7), none⟩])
 (.cond (.tmp 8)
 .skip
 (.exit 0)))
 (.seq
 (.block 1
 (.seq
 (.regd [] [⟨some 11, .mov (.tmp 0), none⟩,
 ⟨some 12, .mov (.tmp 4), none⟩,
 ⟨some 13, .ixa 4 (.tmp 11) (.tmp 12), none⟩,
 ⟨some 14, .fad 2 (.tmp 13), none⟩,
 ⟨some 15, .ld false 1 (.tmp 14), none⟩,
 ⟨some 16, .cmp .gtr (.tmp 15) (.cst (.d (.int .i64 0))), none⟩,
 ⟨some 17, .mov (.tmp 16), none⟩,
 ⟨some 18, .mov (.tmp 3), some (17, true)⟩,
 ⟨some 19, .cmp .lss (.tmp 18) (.cst (.d (.int .i64 0))), some (17, true)⟩,
 ⟨some 20, .mov (.tmp 19), some (17, true)⟩,
 ⟨some 21, .mov (.tmp 0), some (20, false)⟩,
 ⟨some 22, .mov (.tmp 4), some (20, false)⟩,
 ⟨some 23, .ixa 4 (.tmp 21) (.tmp 22), some (20, false)⟩,
 ⟨some 24, .fad 1 (.tmp 23), some (20, false)⟩,
 ⟨some 25, .ld false 1 (.tmp 24), some (20, false)⟩,
 ⟨some 26, .mov (.tmp 0), some (20, false)⟩,
 ⟨some 27, .mov (.tmp 4), some (20, false)⟩,
 ⟨some 28, .ixa 4 (.tmp 26) (.tmp 27), some (20, false)⟩,
 ⟨some 29, .fad 3 (.tmp 28), some (20, false)⟩,
 ⟨some 30, .ld false 1 (.tmp 29), some (20, false)⟩,
 ⟨some 31, .arith .add .i64 (.tmp 25) (.tmp 30), some (20, false)⟩,
 ⟨some 32, .mov (.tmp 0), some (20, false)⟩,
 ⟨some 33, .mov (.tmp 3), some (20, false)⟩,
 ⟨some 34, .maxi (.cst (.d (.int .i64 0))) (.tmp 33), some (20, false)⟩,
 ⟨some 35, .ixa 4 (.tmp 32) (.tmp 34), some (20, false)⟩,
 ⟨some 36, .fad 1 (.tmp 35), some (20, false)⟩,
 ⟨some 37, .ld false 1 (.tmp 36), some (20, false)⟩,
 ⟨some 38, .mov (.tmp 0), some (20, false)⟩,
 ⟨some 39, .mov (.tmp 3), some (20, false)⟩,
 ⟨some 40, .maxi (.cst (.d (.int .i64 0))) (.tmp 39), some (20, false)⟩,
 ⟨some 41, .ixa 4 (.tmp 38) (.tmp 40), some (20, false)⟩,
 ⟨some 42, .fad 3 (.tmp 41), some (20, false)⟩,
 ⟨some 43, .ld false 1 (.tmp 42), some (20, false)⟩,
 ⟨some 44, .arith .add .i64 (.tmp 37) (.tmp 43), some (20, false)⟩,
 ⟨some 45, .cmp .gtr (.tmp 31) (.tmp 44), some (20, false)⟩,
 ⟨some 46, .pick (.tmp 20) (.cst (.d (.bool true))) (.tmp 45), some (17, true)⟩,
 ⟨some 47, .pick (.tmp 17) (.tmp 46) (.cst (.d (.bool false))), none⟩] [(0, 1), (10, 11), (10, 15), (11, 15), (12, 15), (13, 15), (14, 15), (10, 16), (11, 16), (12, 16), (13, 16), (14, 16), (15, 16), (10, 17), (11, 17), (12, 17), (13, 17), (14, 17), (10, 18), (11, 18), (12, 18), (13, 18), (14, 18), (10, 19), (11, 19), (12, 19), (13, 19), (14, 19), (10, 21), (11, 21), (12, 21), (13, 21), (14, 21), (15, 21), (16, 21), (17, 21), (18, 21), (19, 21), (20, 21), (10, 22), (11, 22), (12, 22), (13, 22), (14, 22), (15, 22), (16, 22), (17, 22), (18, 22), (19, 22), (20, 22), (21, 22), (10, 23), (11, 23), (12, 23), (13, 23), (14, 23), (15, 23), (16, 23), (17, 23), (18, 23), (19, 23), (20, 23), (21, 23), (10, 24), (11, 24), (12, 24), (13, 24), (14, 24), (15, 24), (16, 24), (17, 24), (18, 24), (19, 24), (20, 24), (10, 25), (11, 25), (12, 25), (13, 25), (14, 25), (15, 25), (16, 25), (17, 25), (18, 25), (19, 25), (20, 25), (10, 26), (11, 26), (12, 26), (13, 26), (14, 26), (15, 26), (16, 26), (17, 26), (18, 26), (19, 26), (20, 26), (10, 27), (11, 27), (12, 27), (13, 27), (14, 27), (15, 27), (16, 27), (17, 27), (18, 27), (19, 27), (20, 27), (21, 27), (22, 27), (23, 27), (24, 27), (25, 27), (26, 27), (10, 28), (11, 28), (12, 28), (13, 28), (14, 28), (15, 28), (16, 28), (17, 28), (18, 28), (19, 28), (20, 28), (21, 28), (22, 28), (23, 28), (24, 28), (25, 28), (26, 28), (27, 28), (10, 29), (11, 29), (12, 29), (13, 29), (14, 29), (15, 29), (16, 29), (17, 29), (18, 29), (19, 29), (20, 29), (21, 29), (22, 29), (23, 29), (24, 29), (25, 29), (26, 29), (27, 29), (10, 30), (11, 30), (12, 30), (13, 30), (14, 30), (15, 30), (16, 30), (17, 30), (18, 30), (19, 30), (20, 30), (21, 30), (22, 30), (23, 30), (24, 30), (25, 30), (26, 30), (10, 31), (11, 31), (12, 31), (13, 31), (14, 31), (15, 31), (16, 31), (17, 31), (18, 31), (19, 31), (20, 31), (21, 31), (22, 31), (23, 31), (24, 31), (25, 31), (26, 31), (10, 32), (11, 32), (12, 32), (13, 32), (14, 32), (15, 32), (16, 32), (17, 32), (18, 32), (19, 32), (20, 32), (21, 32), (22, 32), (23, 32), (24, 32), (25, 32), (26, 32), (10, 33), (11, 33), (12, 33), (13, 33), (14, 33), (15, 33), (16, 33), (17, 33), (18, 33), (19, 33), (20, 33)])
 (.cond (.tmp 47)
 (.reg [] [⟨some 48, .mov (.tmp 4), none⟩,
 ⟨some 3, .mov (.tmp 48), none⟩])
 .skip)))
 (.reg [] [⟨some 9, .mov (.tmp 4), none⟩,
 ⟨some 10, .arith .add .i64 (.tmp 9) (.cst (.d (.int .i64 1))), none⟩,
 ⟨some 4, .mov (.tmp 10), none⟩])))))))))
 (.seq
 (.reg [] [⟨some 49, .mov (.tmp 3), none⟩,
 ⟨some 2, .mov (.tmp 49), none⟩])
 .ret))))⟩


theorem c141 (b x : Stn) (hb : b.ok) (hx : x.ok) : CallDet Tryz.prog 141 [.d b.d, .d x.d] [.bool (aheadB b x)] := by
  obtain ⟨⟨b1, b2⟩, _, b3, b4⟩ := hb
  obtain ⟨⟨x1, x2⟩, _, x3, x4⟩ := hx
  have fin : ∀ v : Bool, aheadB b x = v → resV [.bool v] = resV [.bool (aheadB b x)] := fun v h => by rw [h]
  refine call_of_vc (x := ir141) (by kernel_rfl) rfl ?_
  refine And.intro rfl ?_
  refine brk_intro ?_ ?_
  · intro h
    have h : (x.fr == 0) = true := h
    repeat refine And.intro rfl ?_
    exact fin true (by unfold aheadB; rw [h]; rfl)
  intro h
  have h : (x.fr == 0) = false := h
  refine And.intro rfl ?_
  refine brk_intro ?_ ?_
  · intro h2
    have h2 : decide (0 < b.fr) = true := h2
    refine ar_add (by omega) ?_
    refine ar_add (by omega) ?_
    repeat refine And.intro rfl ?_
    exact fin _ (by unfold aheadB; rw [h, h2]; rfl)
  · intro h2
    have h2 : decide (0 < b.fr) = false := h2
    repeat refine And.intro rfl ?_
    exact fin false (by unfold aheadB; rw [h, h2]; rfl)
set_option maxHeartbeats 4000000 in
theorem c107 (l : List Stn) (hl : l.length ≤ 1048576) (ho : ∀ x ∈ l, x.ok) : CallDet Tryz.prog 107 [.d (.slice 4 (stns l))] [.int .i64 (winF l)] := by
  have hlen := stns_len l
  refine call_of_vc (x := ir107) (by kernel_rfl) rfl ?_
  refine loop_st (fun a : Nat × Int × Stn => ⟨[(0, .d (.slice 4 (stns l))), (3, .d (.fn (.func 141) [])), (4, .d (.int .i64 a.2.1)), (7, .d (.slice 4 (stns l))), (8, .d (.int .i64 ((stns l).length : Int))), (9, .d (.int .i64 a.1))], [.none]⟩)
    (wI l) (fun a => l.length - a.1) (0, -1, ⟨[], 0, 0, 0⟩) rfl (wI_start l) ?_
  rintro ⟨k, out, b⟩ hi
  refine And.intro rfl ?_
  refine brk_lt (fun h => ?_) (fun h => ?_)
  · have h : (k : Int) < ((stns l).length : Int) := h
    refine Exists.elim (⟨_, List.getElem?_eq_getElem (by omega)⟩ : ∃ x, l[k]? = some x) fun x hx => ?_
    have hd : (stns l)[(k : Int).toNat]? = some x.d := by simp [stns, hx]
    have hxo := ho x (List.mem_of_getElem? hx)
    have hb1 : -9223372036854775808 ≤ (k : Int) + 1 ∧ (k : Int) + 1 ≤ 9223372036854775807 := by omega
    have yes : better out b x = true → ∃ a' : Nat × Int × Stn, (wI l a' ∧ l.length - a'.1 < l.length - k) ∧ (⟨[(0, .d (.slice 4 (stns l))), (3, .d (.fn (.func 141) [])), (4, .d (.int .i64 (k : Int))), (7, .d (.slice 4 (stns l))), (8, .d (.int .i64 ((stns l).length : Int))), (9, .d (.int .i64 ((k : Int) + 1)))], [.none]⟩ : St) = ⟨[(0, .d (.slice 4 (stns l))), (3, .d (.fn (.func 141) [])), (4, .d (.int .i64 a'.2.1)), (7, .d (.slice 4 (stns l))), (8, .d (.int .i64 ((stns l).length : Int))), (9, .d (.int .i64 a'.1))], [.none]⟩ := fun e =>
      ⟨(k + 1, (k : Int), x), ⟨wI_yes hx hi e, by show l.length - (k + 1) < l.length - k; omega⟩, rfl⟩
    have no : better out b x = false → ∃ a' : Nat × Int × Stn, (wI l a' ∧ l.length - a'.1 < l.length - k) ∧ (⟨[(0, .d (.slice 4 (stns l))), (3, .d (.fn (.func 141) [])), (4, .d (.int .i64 out)), (7, .d (.slice 4 (stns l))), (8, .d (.int .i64 ((stns l).length : Int))), (9, .d (.int .i64 ((k : Int) + 1)))], [.none]⟩ : St) = ⟨[(0, .d (.slice 4 (stns l))), (3, .d (.fn (.func 141) [])), (4, .d (.int .i64 a'.2.1)), (7, .d (.slice 4 (stns l))), (8, .d (.int .i64 ((stns l).length : Int))), (9, .d (.int .i64 a'.1))], [.none]⟩ := fun e =>
      ⟨(k + 1, out, b), ⟨wI_no hx hi e, by show l.length - (k + 1) < l.length - k; omega⟩, rfl⟩
    refine ix_at hd (by omega) ?_
    refine And.intro rfl ?_
    refine brk_lt (fun h1 => ?_) (fun h1 => ?_)
    · have h1 : 0 < x.fr := h1
      refine And.intro rfl ?_
      refine brk_lt (fun h2 => ?_) (fun h2 => ?_)
      · have h2 : out < 0 := h2
        repeat refine And.intro rfl ?_
        refine ar_add hb1 ?_
        exact yes (by unfold better; rw [decide_eq_true h1, decide_eq_true h2]; rfl)
      · have h2 : ¬ out < 0 := h2
        refine Exists.elim (show ∃ u : Unit, 0 ≤ out ∧ l[out.toNat]? = some b ∧ 0 < b.fr from ⟨(), by obtain ⟨_, h3 | ⟨h3, _, h4, h5⟩⟩ := hi; exact absurd h3 (by show ¬ out = -1; omega); exact ⟨h3, h4, h5⟩⟩) fun _ h3 => ?_
        have hdo : (stns l)[out.toNat]? = some b.d := by simp [stns, h3.2.1]
        refine ix_at hdo h3.1 ?_
        refine Exists.intro _ (And.intro (c141 b x (ho b (List.mem_of_getElem? h3.2.1)) hxo) ?_)
        have hbt : better out b x = !(aheadB b x) := by
          unfold better aheadB
          rw [decide_eq_true h1, decide_eq_false h2, decide_eq_true h3.2.2, show (x.fr == 0) = false by rw [beq_eq_false_iff_ne]; omega]
          show decide (b.sum < x.sum) = !decide (x.sum ≤ b.sum)
          rcases Int.lt_or_le b.sum x.sum with e | e
          · rw [decide_eq_true e, decide_eq_false (by omega)]; rfl
          · rw [decide_eq_false (by omega), decide_eq_true (by omega)]; rfl
        repeat refine And.intro rfl ?_
        refine brk_intro ?_ ?_
        · intro e
          refine ar_add hb1 ?_
          exact yes (hbt.trans e)
        · intro e
          refine ar_add hb1 ?_
          exact no (hbt.trans e)
    · have h1 : ¬ 0 < x.fr := h1
      repeat refine And.intro rfl ?_
      refine ar_add hb1 ?_
      exact no (by unfold better; rw [decide_eq_false h1]; rfl)
  · have h : ¬ (k : Int) < ((stns l).length : Int) := h
    exact wI_end (by omega) hi
set_option maxHeartbeats 4000000 in
theorem c64 (l : List Stn) (hl : l.length ≤ 1048576) (ho : ∀ x ∈ l, x.ok) : CallDet Tryz.prog 64 [.d (.slice 4 (stns l))] [.int .i64 (winF l)] := by
  have hlen := stns_len l
  refine call_of_vc (x := ir64) (by kernel_rfl) rfl ?_
  refine loop_st (fun a : Nat × Int × Stn => ⟨[(0, .d (.slice 4 (stns l))), (3, .d (.int .i64 a.2.1)), (4, .d (.int .i64 a.1))], []⟩)
    (wI l) (fun a => l.length - a.1) (0, -1, ⟨[], 0, 0, 0⟩) rfl (wI_start l) ?_
  rintro ⟨k, out, b⟩ hi
  refine And.intro rfl ?_
  refine brk_lt (fun h => ?_) (fun h => ?_)
  · have h : (k : Int) < ((stns l).length : Int) := h
    refine Exists.elim (⟨_, List.getElem?_eq_getElem (by omega)⟩ : ∃ x, l[k]? = some x) fun x hx => ?_
    have hd : (stns l)[(k : Int).toNat]? = some x.d := by simp [stns, hx]
    have hxo := ho x (List.mem_of_getElem? hx)
    have hb1 : -9223372036854775808 ≤ (k : Int) + 1 ∧ (k : Int) + 1 ≤ 9223372036854775807 := by omega
    refine ix_at hd (by omega) ?_
    refine And.intro rfl ?_
    refine brk_lt (fun h1 => ?_) (fun h1 => ?_)
    · have h1 : 0 < x.fr := h1
      refine And.intro rfl ?_
      refine brk_lt (fun h2 => ?_) (fun h2 => ?_)
      · have h2 : out < 0 := h2
        repeat refine And.intro rfl ?_
        refine ar_add hb1 ?_
        exact ⟨(k + 1, (k : Int), x), ⟨wI_yes hx hi (by unfold better; rw [decide_eq_true h1, decide_eq_true h2]; rfl), by show l.length - (k + 1) < l.length - k; omega⟩, rfl⟩
      · have h2 : ¬ out < 0 := h2
        refine Exists.elim (show ∃ u : Unit, 0 ≤ out ∧ l[out.toNat]? = some b ∧ 0 < b.fr from ⟨(), by obtain ⟨_, h3 | ⟨h3, _, h4, h5⟩⟩ := hi; exact absurd h3 (by show ¬ out = -1; omega); exact ⟨h3, h4, h5⟩⟩) fun _ h3 => ?_
        have hdo : (stns l)[(max (0 : Int) out).toNat]? = some b.d := by rw [Int.max_eq_right h3.1]; simp [stns, h3.2.1]
        have hbo := ho b (List.mem_of_getElem? h3.2.1)
        have hA1 : -9223372036854775808 ≤ x.pri + x.wt ∧ x.pri + x.wt ≤ 9223372036854775807 := by obtain ⟨⟨_, _⟩, _, _, _⟩ := hxo; omega
        have hA2 : -9223372036854775808 ≤ b.pri + b.wt ∧ b.pri + b.wt ≤ 9223372036854775807 := by obtain ⟨⟨_, _⟩, _, _, _⟩ := hbo; omega
        have hm0 : 0 ≤ max (0 : Int) out := by omega
        refine ix_at hd (by omega) ?_
        refine ix_at hd (by omega) ?_
        refine ar_add hA1 ?_
        repeat refine And.intro rfl ?_
        refine ix_at hdo hm0 ?_
        repeat refine And.intro rfl ?_
        refine ix_at hdo hm0 ?_
        refine ar_add hA2 ?_
        repeat refine And.intro rfl ?_
        refine brk_intro ?_ ?_
        · intro e
          have e : decide (b.sum < x.sum) = true := e
          refine ar_add hb1 ?_
          exact ⟨(k + 1, (k : Int), x), ⟨wI_yes hx hi (by unfold better; rw [decide_eq_true h1, decide_eq_false h2, e]; rfl), by show l.length - (k + 1) < l.length - k; omega⟩, rfl⟩
        · intro e
          have e : decide (b.sum < x.sum) = false := e
          refine ar_add hb1 ?_
          exact ⟨(k + 1, out, b), ⟨wI_no hx hi (by unfold better; rw [decide_eq_true h1, decide_eq_false h2, e]; rfl), by show l.length - (k + 1) < l.length - k; omega⟩, rfl⟩
    · have h1 : ¬ 0 < x.fr := h1
      repeat refine And.intro rfl ?_
      refine ar_add hb1 ?_
      exact ⟨(k + 1, out, b), ⟨wI_no hx hi (by unfold better; rw [decide_eq_false h1]; rfl), by show l.length - (k + 1) < l.length - k; omega⟩, rfl⟩
  · have h : ¬ (k : Int) < ((stns l).length : Int) := h
    exact wI_end (by omega) hi
end Vc

set_option maxRecDepth 10000
namespace Vc
open Go Go.Proofs
/-! Stations after a slot. -/
def stnAft (k w : Int) (x : Stn) : Stn := bif k == w then ⟨x.nm, x.pri, x.fr - 1, 0⟩ else bif decide (0 < x.fr) then ⟨x.nm, x.pri, x.fr, min 1000 (x.wt + 1)⟩ else ⟨x.nm, x.pri, x.fr, 0⟩
def aftGo (w : Int) : Nat → List Stn → List Stn
  | _, [] => []
  | k, x :: r => stnAft k w x :: aftGo w (k + 1) r
def aftF (l : List Stn) (w : Int) : List Stn := aftGo w 0 l
theorem aftGo_len (w : Int) : ∀ (l : List Stn) (k : Nat), (aftGo w k l).length = l.length
  | [], _ => rfl
  | x :: r, k => by simp [aftGo, aftGo_len w r (k + 1)]
theorem aftGo_at (w : Int) : ∀ (l : List Stn) (j k : Nat) {x : Stn}, l[k]? = some x → (aftGo w j l)[k]? = some (stnAft ((j + k : Nat) : Int) w x)
  | [], _, _, _, h => by simp at h
  | y :: r, j, 0, x, h => by
    simp only [List.getElem?_cons_zero, Option.some.injEq] at h
    subst h
    rfl
  | y :: r, j, k + 1, x, h => by
    simp only [List.getElem?_cons_succ] at h
    show (aftGo w (j + 1) r)[k]? = _
    rw [aftGo_at w r (j + 1) k h, show j + 1 + k = j + (k + 1) by omega]
def mixF (l : List Stn) (w : Int) (k : Nat) : List Stn := (aftF l w).take k ++ l.drop k
theorem aft_at {l : List Stn} {w : Int} {k : Nat} {x : Stn} (h : l[k]? = some x) : (aftF l w)[k]? = some (stnAft k w x) := by
  rw [aftF, aftGo_at w l 0 k h, Nat.zero_add]
theorem aft_len (l : List Stn) (w : Int) : (aftF l w).length = l.length := aftGo_len w l 0
theorem mix_len {l : List Stn} {w : Int} {k : Nat} (h : k ≤ l.length) : (mixF l w k).length = l.length := by
  rw [mixF, List.length_append, List.length_take, List.length_drop, aft_len]; omega
theorem mix_at {l : List Stn} {w : Int} {k : Nat} {x : Stn} (h : l[k]? = some x) : (mixF l w k)[k]? = some x := by
  obtain ⟨hl, _⟩ := List.getElem?_eq_some_iff.1 h
  rw [mixF, List.getElem?_append_right (by rw [List.length_take]; omega), List.length_take, aft_len, show k - min k l.length = 0 by omega, List.getElem?_drop]; exact h
theorem mix_step {l : List Stn} {w : Int} {k : Nat} {x : Stn} (h : l[k]? = some x) : (mixF l w k).set k (stnAft k w x) = mixF l w (k + 1) := by
  obtain ⟨hl, _⟩ := List.getElem?_eq_some_iff.1 h
  apply List.ext_getElem?
  intro j
  have hlm : (mixF l w k).length = l.length := mix_len (by omega)
  by_cases e : k = j
  · subst e
    rw [List.getElem?_set_self (by omega), mixF, List.getElem?_append_left (by rw [List.length_take, aft_len]; omega), List.getElem?_take, if_pos (by omega), aft_at h]
  · rw [List.getElem?_set_ne e]
    rcases Nat.lt_or_ge j k with h1 | h1
    · rw [mixF, mixF, List.getElem?_append_left (by rw [List.length_take, aft_len]; omega), List.getElem?_append_left (by rw [List.length_take, aft_len]; omega), List.getElem?_take, List.getElem?_take, if_pos (by omega), if_pos (by omega)]
    · rw [mixF, mixF, List.getElem?_append_right (by rw [List.length_take]; omega), List.getElem?_append_right (by rw [List.length_take]; omega), List.length_take, List.length_take, aft_len, List.getElem?_drop, List.getElem?_drop]
      congr 1; omega
theorem mixd_step {l : List Stn} {w : Int} {k : Nat} {x : Stn} (h : l[k]? = some x) : (stns (mixF l w k)).set k (stnAft k w x).d = stns (mixF l w (k + 1)) := by
  rw [← mix_step h]; simp [stns, List.map_set]
theorem mix_end {l : List Stn} {w : Int} {k : Nat} (hk : l.length ≤ k) : mixF l w k = aftF l w := by
  rw [mixF, List.drop_eq_nil_of_le hk, List.append_nil, List.take_of_length_le (by rw [aft_len]; exact hk)]
theorem aft1 {k : Nat} {w : Int} {x : Stn} (h : ((k : Int) == w) = true) : stnAft k w x = ⟨x.nm, x.pri, x.fr - 1, 0⟩ := by unfold stnAft; rw [h]; rfl
theorem aft2 {k : Nat} {w : Int} {x : Stn} (h : ((k : Int) == w) = false) (h2 : ¬ 0 < x.fr) : stnAft k w x = ⟨x.nm, x.pri, x.fr, 0⟩ := by unfold stnAft; rw [h, decide_eq_false h2]; rfl
theorem aft3 {k : Nat} {w : Int} {x : Stn} (h : ((k : Int) == w) = false) (h2 : 0 < x.fr) : stnAft k w x = ⟨x.nm, x.pri, x.fr, min 1000 (x.wt + 1)⟩ := by unfold stnAft; rw [h, decide_eq_true h2]; rfl
/-- slices.Clone[[]kilovar/link.Station,kilovar/link.Station] -/
def ir108 : AFun := ⟨8, 2, [.tmp 2],
 (.seq
 (.reg [] [⟨some 2, .mov (.cst (.nils 4)), none⟩])
 (.seq
 (.seq
 (.reg [] [⟨some 3, .mov (.tmp 0), none⟩,
 ⟨some 4, .isnil false (.tmp 3), none⟩])
 (.cond (.tmp 4)
 (.seq
 (.reg [] [⟨some 2, .mov (.cst (.nils 4)), none⟩])
 .ret)
 .skip))
 (.seq
 (.reg [0, 1] [⟨some 5, .bsl 0 146 4 0 [] [], none⟩,
 ⟨some 6, .mov (.tmp 0), none⟩,
 ⟨some 7, .app 1 146 4 40 (.tmp 5) (.tmp 6), none⟩,
 ⟨some 2, .mov (.tmp 7), none⟩])
 .ret)))⟩

/-- kilovar/link.served -/
def ir109 : AFun := ⟨48, 2, [.tmp 4],
 (.seq
 (.reg [] [⟨some 4, .mov (.cst (.nils 4)), none⟩])
 (.seq
 (.reg [] [⟨some 8, .mov (.tmp 0), none⟩,
 ⟨some 9, .calln 1 146 4 108 [(.tmp 8)], none⟩,
 ⟨some 5, .mov (.tmp 9), none⟩])
 (.seq
 (.seq
 (.reg [] [⟨some 10, .mov (.tmp 0), none⟩,
 ⟨some 11, .len (.tmp 10), none⟩,
 ⟨some 12, .mov (.cst (.d (.int .i64 0))), none⟩])
 (.post [5] [0]
 (.block 0
 (.keep [1, 5, 10, 11, 12] []
 (.loop
 (.post [1, 5, 10, 11, 12] [0]
 (.seq
 (.reg [] [⟨some 13, .cmp .lss (.tmp 12) (.tmp 11), none⟩])
 (.seq
 (.cond (.tmp 13)
 .skip
 (.exit 0))
 (.seq
 (.block 1
 (.seq
 (.reg [0] [⟨some 14, .mov (.tmp 12), none⟩,
 ⟨some 15, .ixa 4 (.tmp 10) (.tmp 12), none⟩,
 ⟨some 16, .ld true 4 (.tmp 15), none⟩,
 ⟨some 7, .alloc 0 [(.d (.str [])), (.d (.int .i64 0)), (.d (.int .i64 0)), (.d (.int .i64 0))], none⟩,
 ⟨some 6, .mov (.tmp 14), none⟩,
 ⟨none, .st 4 (.tmp 7) (.tmp 16), none⟩])
 (.seq
 (.block 2
 (.seq
 (.reg [] [⟨some 23, .mov (.tmp 6), none⟩,
 ⟨some 24, .mov (.tmp 1), none⟩,
 ⟨some 25, .cmp .eql (.tmp 23) (.tmp 24), none⟩,
 ⟨some 22, .mov (.tmp 25), none⟩])
 (.cond (.tmp 22)
 (.reg [] [⟨some 26, .fad 2 (.tmp 7), none⟩,
 ⟨some 27, .ld false 1 (.tmp 26), none⟩,
 ⟨some 28, .arith .sub .i64 (.tmp 27) (.cst (.d (.int .i64 1))), none⟩,
 ⟨some 29, .fad 2 (.tmp 7), none⟩,
 ⟨none, .st 1 (.tmp 29) (.tmp 28), none⟩,
 ⟨some 30, .fad 3 (.tmp 7), none⟩,
 ⟨none, .st 1 (.tmp 30) (.cst (.d (.int .i64 0))), none⟩])
 (.seq
 (.reg [] [⟨some 32, .ld true 4 (.tmp 7), none⟩,
 ⟨some 33, .fad 0 (.tmp 7), none⟩,
 ⟨some 34, .ld false 1 (.tmp 33), none⟩,
 ⟨some 35, .fad 1 (.tmp 7), none⟩,
 ⟨some 36, .ld false 1 (.tmp 35), none⟩,
 ⟨some 37, .fad 3 (.tmp 7), none⟩,
 ⟨some 38, .ld false 1 (.tmp 37), none⟩,
 ⟨some 39, .build [(.d (.str [])), (.d (.int .i64 0)), (.d (.int .i64 0)), (.d (.int .i64 0))] [(0, 1, (.tmp 34)), (1, 1, (.tmp 36)), (2, 1, (.cst (.d (.int .i64 0)))), (3, 1, (.tmp 38))], none⟩,
 ⟨some 40, .aeq false [2, 0, 0, 0] (.tmp 32) (.tmp 39), none⟩,
 ⟨some 31, .mov (.tmp 40), none⟩])
 (.cond (.tmp 31)
 (.reg [] [⟨some 41, .fad 3 (.tmp 7), none⟩,
 ⟨none, .st 1 (.tmp 41) (.cst (.d (.int .i64 0))), none⟩])
 (.reg [] [⟨some 17, .fad 3 (.tmp 7), none⟩,
 ⟨some 18, .ld false 1 (.tmp 17), none⟩,
 ⟨some 19, .arith .add .i64 (.tmp 18) (.cst (.d (.int .i64 1))), none⟩,
 ⟨some 20, .mini (.cst (.d (.int .i64 1000))) (.tmp 19), none⟩,
 ⟨some 21, .fad 3 (.tmp 7), none⟩,
 ⟨none, .st 1 (.tmp 21) (.tmp 20), none⟩]))))))
 (.reg [] [⟨some 42, .mov (.tmp 5), none⟩,
 ⟨some 43, .mov (.tmp 6), none⟩,
 ⟨some 44, .ld true 4 (.tmp 7), none⟩,
 ⟨some 45, .ixa 4 (.tmp 42) (.tmp 43), none⟩,
 ⟨none, .st 4 (.tmp 45) (.tmp 44), none⟩]))))
 (.reg [] [⟨some 46, .arith .add .i64 (.tmp 12) (.cst (.d (.int .i64 1))), none⟩,
 ⟨some 12, .mov (.tmp 46), none⟩]))))))))))
 (.seq
 (.reg [] [⟨some 47, .mov (.tmp 5), none⟩,
 ⟨some 4, .mov (.tmp 47), none⟩])
 .ret))))⟩

/-- kilovar/kilovarref04.After -/
def ir76 : AFun := ⟨53, 2, [.tmp 4],
 (.seq
 (.reg [] [⟨some 4, .mov (.cst (.nils 4)), none⟩])
 (.seq
 (.reg [0, 1] [⟨some 7, .bsl 0 144 4 0 [] [], none⟩,
 ⟨some 8, .mov (.tmp 0), none⟩,
 ⟨some 9, .app 1 144 4 40 (.tmp 7) (.tmp 8), none⟩,
 ⟨some 5, .mov (.tmp 9), none⟩])
 (.seq
 (.seq
 (.reg [] [⟨some 6, .mov (.cst (.d (.int .i64 0))), none⟩])
 (.post [5] [0, 1]
 (.block 0
 (.keep [1, 5, 6] [0, 1]
 (.loop
 (.post [1, 5, 6] []
 (.seq
 (.seq
 (.reg [] [⟨some 10, .mov (.tmp 6), none⟩,
 ⟨some 11, .mov (.tmp 5), none⟩,
 ⟨some 12, .len (.tmp 11), none⟩,
 ⟨some 13, .cmp .lss (.tmp 10) (.tmp 12), none⟩])
 (.cond (.tmp 13)
 .skip
 (.exit 0)))
 (.seq
 (.block 1
 (.seq
 (.reg [] [⟨some 16, .mov (.tmp 6), none⟩,
 ⟨some 17, .mov (.tmp 1), none⟩,
 ⟨some 18, .cmp .eql (.tmp 16) (.tmp 17), none⟩])
 (.cond (.tmp 18)
 (.seq
 (.reg [] [⟨some 19, .mov (.tmp 5), none⟩,
 ⟨some 20, .mov (.tmp 6), none⟩,
 ⟨some 21, .ixa 4 (.tmp 19) (.tmp 20), none⟩,
 ⟨some 22, .fad 2 (.tmp 21), none⟩,
 ⟨some 23, .ld false 1 (.tmp 22), none⟩,
 ⟨some 24, .arith .sub .i64 (.tmp 23) (.cst (.d (.int .i64 1))), none⟩,
 ⟨some 25, .ixa 4 (.tmp 19) (.tmp 20), none⟩,
 ⟨some 26, .fad 2 (.tmp 25), none⟩,
 ⟨none, .st 1 (.tmp 26) (.tmp 24), none⟩])
 (.reg [] [⟨some 27, .mov (.tmp 5), none⟩,
 ⟨some 28, .mov (.tmp 6), none⟩,
 ⟨some 29, .ixa 4 (.tmp 27) (.tmp 28), none⟩,
 ⟨some 30, .fad 3 (.tmp 29), none⟩,
 ⟨none, .st 1 (.tmp 30) (.cst (.d (.int .i64 0))), none⟩]))
 (.seq
 (.reg [] [⟨some 31, .mov (.tmp 5), none⟩,
 ⟨some 32, .mov (.tmp 6), none⟩,
 ⟨some 33, .ixa 4 (.tmp 31) (.tmp 32), none⟩,
 ⟨some 34, .fad 2 (.tmp 33), none⟩,
 ⟨some 35, .ld false 1 (.tmp 34), none⟩,
 ⟨some 36, .cmp .gtr (.tmp 35) (.cst (.d (.int .i64 0))), none⟩])
 (.cond (.tmp 36)
 (.reg [] [⟨some 37, .mov (.tmp 5), none⟩,
 ⟨some 38, .mov (.tmp 6), none⟩,
 ⟨some 39, .mov (.tmp 5), none⟩,
 ⟨some 40, .mov (.tmp 6), none⟩,
 ⟨some 41, .ixa 4 (.tmp 39) (.tmp 40), none⟩,
 ⟨some 42, .fad 3 (.tmp 41), none⟩,
 ⟨some 43, .ld false 1 (.tmp 42), none⟩,
 ⟨some 44, .arith .add .i64 (.tmp 43) (.cst (.d (.int .i64 1))), none⟩,
 ⟨some 45, .mini (.cst (.d (.int .i64 1000))) (.tmp 44), none⟩,
 ⟨some 46, .ixa 4 (.tmp 37) (.tmp 38), none⟩,
 ⟨some 47, .fad 3 (.tmp 46), none⟩,
 ⟨none, .st 1 (.tmp 47) (.tmp 45), none⟩])
 (.reg [] [⟨some 48, .mov (.tmp 5), none⟩,
 ⟨some 49, .mov (.tmp 6), none⟩,
 ⟨some 50, .ixa 4 (.tmp 48) (.tmp 49), none⟩,
 ⟨some 51, .fad 3 (.tmp 50), none⟩,
 ⟨none, .st 1 (.tmp 51) (.cst (.d (.int .i64 0))), none⟩]))))))
 (.reg [] [⟨some 14, .mov (.tmp 6), none⟩,
 ⟨some 15, .arith .add .i64 (.tmp 14) (.cst (.d (.int .i64 1))), none⟩,
 ⟨some 6, .mov (.tmp 15), none⟩])))))))))
 (.seq
 (.reg [] [⟨some 52, .mov (.tmp 5), none⟩,
 ⟨some 4, .mov (.tmp 52), none⟩])
 .ret))))⟩


theorem c108 (l : List Data) (hl : l.length ≤ 1048576) : CallDet Tryz.prog 108 [.d (.slice 4 l)] [.slice 4 l] := by
  refine call_of_vc (x := ir108) (by kernel_rfl) rfl ?_
  refine And.intro ?_ ?_
  · intro h
    subst h
    exact rfl
  · refine And.intro rfl ?_
    refine And.intro rfl ?_
    refine And.intro ⟨rfl, rfl, rfl, ?_, ?_⟩ ?_
    · show (0 + l.length) * 40 ≤ 2 ^ 47
      omega
    · show 0 + l.length ≤ 2 ^ 47
      omega
    refine And.intro ?_ ?_
    · rfl
    · exact rfl
theorem c108r (l : List Data) (hl : l.length ≤ 1048576) : CallRow Tryz.prog 108 [.d (.slice 4 l)] 146 4 l := by
  refine callRow_of_vc (x := ir108) (by kernel_rfl) rfl ?_
  refine And.intro ?_ ?_
  · intro h
    subst h
    exact .inr ⟨by decide, rfl, 4, ⟨rfl, rfl⟩⟩
  · refine And.intro rfl ?_
    refine And.intro rfl ?_
    refine And.intro ⟨rfl, rfl, rfl, ?_, ?_⟩ ?_
    · show (0 + l.length) * 40 ≤ 2 ^ 47
      omega
    · show 0 + l.length ≤ 2 ^ 47
      omega
    exact .inl ⟨0, ⟨rfl, rfl⟩, rfl⟩
theorem le3 : 3 ≤ 4 := by decide
theorem le4 : 4 ≤ 4 := by decide
theorem ag {l : List Stn} {w : Int} {p : List Stn} (h : p = aftF l w) : resV [.slice 4 (stns p)] = resV [.slice 4 (stns (aftF l w))] := by rw [h]
set_option maxHeartbeats 4000000 in
theorem c109 (l : List Stn) (w : Int) (hl : l.length ≤ 1048576) (ho : ∀ x ∈ l, x.ok) : CallDet Tryz.prog 109 [.d (.slice 4 (stns l)), .d (.int .i64 w)] [.slice 4 (stns (aftF l w))] := by
  have hlen := stns_len l
  refine call_of_vc (x := ir109) (by kernel_rfl) rfl ?_
  refine Exists.intro _ (And.intro (c108r (stns l) (by omega)) ?_)
  refine loop_st (fun k : Nat => ⟨[(1, .d (.int .i64 w)), (5, .sl 1 (stns l).length), (10, .d (.slice 4 (stns l))), (11, .d (.int .i64 ((stns l).length : Int))), (12, .d (.int .i64 k))], [.none, .row 146 4 (stns (mixF l w k)) false]⟩)
    (fun k => k ≤ l.length) (fun k => l.length - k) 0 rfl (Nat.zero_le _) ?_
  intro k hk
  have hml : (stns (mixF l w k)).length = (stns l).length := by rw [stns_len, stns_len, mix_len hk]
  refine And.intro rfl ?_
  refine brk_lt (fun h => ?_) (fun h => ?_)
  · have h : (k : Int) < ((stns l).length : Int) := h
    refine Exists.elim (⟨_, List.getElem?_eq_getElem (by omega)⟩ : ∃ x, l[k]? = some x) fun x hx => ?_
    have hd : (stns l)[(k : Int).toNat]? = some x.d := by simp [stns, hx]
    have hdm : (stns (mixF l w k))[(k : Int).toNat]? = some x.d := by
      show ((mixF l w k).map Stn.d)[k]? = _
      rw [List.getElem?_map, mix_at hx]; rfl
    obtain ⟨_, ⟨hf1, hf2⟩, hw1, hw2⟩ := ho x (List.mem_of_getElem? hx)
    have hb1 : -9223372036854775808 ≤ (k : Int) + 1 ∧ (k : Int) + 1 ≤ 9223372036854775807 := by omega
    have fin : ∀ y : Stn, stnAft k w x = y → ∃ a' : Nat, (a' ≤ l.length ∧ l.length - a' < l.length - k) ∧ (⟨[(1, .d (.int .i64 w)), (5, .sl 1 (stns l).length), (10, .d (.slice 4 (stns l))), (11, .d (.int .i64 ((stns l).length : Int))), (12, .d (.int .i64 ((k : Int) + 1)))], [.none, .row 146 4 ((stns (mixF l w k)).set (k : Int).toNat y.d) false]⟩ : St) = ⟨[(1, .d (.int .i64 w)), (5, .sl 1 (stns l).length), (10, .d (.slice 4 (stns l))), (11, .d (.int .i64 ((stns l).length : Int))), (12, .d (.int .i64 a'))], [.none, .row 146 4 (stns (mixF l w a')) false]⟩ := fun y e => by
      refine ⟨k + 1, ⟨by omega, by omega⟩, ?_⟩
      rw [← e, ← mixd_step hx]; rfl
    refine ix_at hd (by omega) ?_
    repeat refine And.intro rfl ?_
    refine brk_intro ?_ ?_
    · intro e
      have e : ((k : Int) == w) = true := e
      refine ar_sub (by omega) ?_
      repeat refine And.intro rfl ?_
      refine And.intro ⟨rfl, hml, by omega, h⟩ ?_
      refine Exists.intro _ (Exists.intro (⟨x.nm, x.pri, x.fr - 1, 0⟩ : Stn).d (And.intro ⟨hml, hdm, rfl, Nat.le_refl 4, rfl, rfl⟩ ?_))
      refine ar_add hb1 ?_
      exact fin _ (aft1 e)
    · intro e
      have e : ((k : Int) == w) = false := e
      have heq : eqCells [2, 0, 0, 0] [.d (.str x.nm), .d (.int .i64 x.pri), .d (.int .i64 x.fr), .d (.int .i64 x.wt)] [.d (.str x.nm), .d (.int .i64 x.pri), .d (.int .i64 0), .d (.int .i64 x.wt)] = some (x.fr == 0) := by simp [eqCells]
      refine Exists.intro (.bool (x.fr == 0)) (And.intro ⟨x.fr == 0, heq, rfl⟩ ?_)
      refine brk_eq (fun e2 => ?_) (fun e2 => ?_)
      · have e2 : x.fr = 0 := e2
        refine And.intro ⟨rfl, hml, by omega, h⟩ ?_
        refine Exists.intro _ (Exists.intro (⟨x.nm, x.pri, x.fr, 0⟩ : Stn).d (And.intro ⟨hml, hdm, rfl, Nat.le_refl 4, rfl, rfl⟩ ?_))
        refine ar_add hb1 ?_
        exact fin _ (aft2 e (by omega))
      · have e2 : ¬ x.fr = 0 := e2
        refine ar_add (by omega) ?_
        repeat refine And.intro rfl ?_
        refine And.intro ⟨rfl, hml, by omega, h⟩ ?_
        refine Exists.intro _ (Exists.intro (⟨x.nm, x.pri, x.fr, min 1000 (x.wt + 1)⟩ : Stn).d (And.intro ⟨hml, hdm, rfl, Nat.le_refl 4, rfl, rfl⟩ ?_))
        refine ar_add hb1 ?_
        exact fin _ (aft3 e (by omega))
  · have h : ¬ (k : Int) < ((stns l).length : Int) := h
    refine And.intro hml ?_
    exact ag (mix_end (by omega))
set_option maxHeartbeats 4000000 in
theorem c76 (l : List Stn) (w : Int) (hl : l.length ≤ 1048576) (ho : ∀ x ∈ l, x.ok) : CallDet Tryz.prog 76 [.d (.slice 4 (stns l)), .d (.int .i64 w)] [.slice 4 (stns (aftF l w))] := by
  have hlen := stns_len l
  refine call_of_vc (x := ir76) (by kernel_rfl) rfl ?_
  refine And.intro rfl ?_
  refine And.intro rfl ?_
  refine And.intro ⟨rfl, rfl, rfl, ?_, ?_⟩ ?_
  · show (0 + (stns l).length) * 40 ≤ 2 ^ 47
    omega
  · show 0 + (stns l).length ≤ 2 ^ 47
    omega
  refine loop_st (fun k : Nat => ⟨[(1, .d (.int .i64 w)), (5, .sl 0 (stns l).length), (6, .d (.int .i64 k))], [.row 144 4 (stns (mixF l w k)) false, .none]⟩)
    (fun k => k ≤ l.length) (fun k => l.length - k) 0 rfl (Nat.zero_le _) ?_
  intro k hk
  have hml : (stns (mixF l w k)).length = (stns l).length := by rw [stns_len, stns_len, mix_len hk]
  refine And.intro hml ?_
  refine And.intro rfl ?_
  refine brk_lt (fun h => ?_) (fun h => ?_)
  · have h0 : (k : Int) < ((stns (mixF l w k)).length : Int) := h
    have h : (k : Int) < ((stns l).length : Int) := by omega
    refine Exists.elim (⟨_, List.getElem?_eq_getElem (by omega)⟩ : ∃ x, l[k]? = some x) fun x hx => ?_
    have hdm : (stns (mixF l w k))[(k : Int).toNat]? = some x.d := by
      show ((mixF l w k).map Stn.d)[k]? = _
      rw [List.getElem?_map, mix_at hx]; rfl
    obtain ⟨_, ⟨hf1, hf2⟩, hw1, hw2⟩ := ho x (List.mem_of_getElem? hx)
    have hb1 : -9223372036854775808 ≤ (k : Int) + 1 ∧ (k : Int) + 1 ≤ 9223372036854775807 := by omega
    have fin : ∀ (y : Stn) (es : List Data), stnAft k w x = y → es = (stns (mixF l w k)).set k y.d → ∃ a' : Nat, (a' ≤ l.length ∧ l.length - a' < l.length - k) ∧ (⟨[(1, .d (.int .i64 w)), (5, .sl 0 (stns l).length), (6, .d (.int .i64 ((k : Int) + 1)))], [.row 144 4 es false, .none]⟩ : St) = ⟨[(1, .d (.int .i64 w)), (5, .sl 0 (stns l).length), (6, .d (.int .i64 a'))], [.row 144 4 (stns (mixF l w a')) false, .none]⟩ := fun y es e e2 => by
      refine ⟨k + 1, ⟨by omega, by omega⟩, ?_⟩
      rw [e2, ← e, ← mixd_step hx]; rfl
    refine And.intro rfl ?_
    refine brk_intro ?_ ?_
    · intro e
      have e : ((k : Int) == w) = true := e
      refine And.intro ⟨rfl, hml, by omega, h⟩ ?_
      refine And.intro hml ?_
      refine And.intro hml ?_
      refine Exists.intro _ (And.intro hdm ?_)
      refine ar_sub (by omega) ?_
      refine And.intro ⟨rfl, hml, by omega, h⟩ ?_
      refine And.intro hml ?_
      refine Exists.intro _ (Exists.intro (⟨x.nm, x.pri, x.fr - 1, x.wt⟩ : Stn).d (And.intro ⟨hml, hdm, rfl, le3, rfl, rfl⟩ ?_))
      have hml2 : ((stns (mixF l w k)).set (k : Int).toNat (⟨x.nm, x.pri, x.fr - 1, x.wt⟩ : Stn).d).length = (stns l).length := by rw [List.length_set]; exact hml
      have hdm2 : ((stns (mixF l w k)).set (k : Int).toNat (⟨x.nm, x.pri, x.fr - 1, x.wt⟩ : Stn).d)[(k : Int).toNat]? = some (⟨x.nm, x.pri, x.fr - 1, x.wt⟩ : Stn).d := List.getElem?_set_self (by show k < _; omega)
      refine And.intro ⟨rfl, hml2, by omega, h⟩ ?_
      refine And.intro hml2 ?_
      refine Exists.intro _ (Exists.intro (⟨x.nm, x.pri, x.fr - 1, 0⟩ : Stn).d (And.intro ⟨hml2, hdm2, rfl, le4, rfl, rfl⟩ ?_))
      refine ar_add hb1 ?_
      exact fin _ _ (aft1 e) (List.set_set ..)
    · intro e
      have e : ((k : Int) == w) = false := e
      refine And.intro ⟨rfl, hml, by omega, h⟩ ?_
      refine And.intro hml ?_
      refine And.intro hml ?_
      refine Exists.intro _ (And.intro hdm ?_)
      refine And.intro rfl ?_
      refine brk_lt (fun e2 => ?_) (fun e2 => ?_)
      · have e2 : 0 < x.fr := e2
        refine And.intro ⟨rfl, hml, by omega, h⟩ ?_
        refine And.intro hml ?_
        refine And.intro hml ?_
        refine Exists.intro _ (And.intro hdm ?_)
        refine ar_add (by omega) ?_
        refine And.intro rfl ?_
        refine And.intro ⟨rfl, hml, by omega, h⟩ ?_
        refine And.intro hml ?_
        refine Exists.intro _ (Exists.intro (⟨x.nm, x.pri, x.fr, min 1000 (x.wt + 1)⟩ : Stn).d (And.intro ⟨hml, hdm, rfl, le4, rfl, rfl⟩ ?_))
        refine ar_add hb1 ?_
        exact fin _ _ (aft3 e e2) rfl
      · have e2 : ¬ 0 < x.fr := e2
        refine And.intro ⟨rfl, hml, by omega, h⟩ ?_
        refine And.intro hml ?_
        refine Exists.intro _ (Exists.intro (⟨x.nm, x.pri, x.fr, 0⟩ : Stn).d (And.intro ⟨hml, hdm, rfl, le4, rfl, rfl⟩ ?_))
        refine ar_add hb1 ?_
        exact fin _ _ (aft2 e e2) rfl
  · have h : ¬ (k : Int) < ((stns (mixF l w k)).length : Int) := h
    refine And.intro hml ?_
    exact ag (mix_end (by omega))
end Vc

