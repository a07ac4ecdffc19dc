import Derived.Test.YtfkljdokkfgifaaGreatDoorWd
set_option linter.unusedSectionVars false
set_option linter.unusedVariables false
set_option linter.unusedSimpArgs false
set_option maxRecDepth 10000
namespace Vc
open Go Go.Proofs
/-- kilovar/kilovarlaw04.frames -/
def ir15 : AFun := ⟨19, 3, [.tmp 2],
 (.seq
 (.reg [] [⟨some 2, .mov (.cst (.nils 4)), none⟩])
 (.seq
 (.reg [] [⟨some 3, .mov (.cst (.nils 4)), none⟩])
 (.seq
 (.seq
 (.reg [] [⟨some 6, .mov (.tmp 0), none⟩,
 ⟨some 7, .len (.tmp 6), none⟩,
 ⟨some 8, .mov (.cst (.d (.int .i64 0))), none⟩])
 (.post [3] [0, 1, 2]
 (.block 0
 (.asrow 2 38 4 3
 (.keep [3, 6, 7, 8] []
 (.loop
 (.post [3, 6, 7, 8] [0, 1, 2]
 (.seq
 (.reg [] [⟨some 9, .cmp .lss (.tmp 8) (.tmp 7), none⟩])
 (.seq
 (.cond (.tmp 9)
 .skip
 (.exit 0))
 (.seq
 (.block 1
 (.seq
 (.reg [0] [⟨some 10, .ixa 4 (.tmp 6) (.tmp 8), none⟩,
 ⟨some 11, .ld true 4 (.tmp 10), none⟩,
 ⟨some 5, .alloc 0 [(.d (.int .i64 0)), (.d (.int .i64 0)), (.d (.int .i64 0)), (.nils 1)], none⟩,
 ⟨none, .st 4 (.tmp 5) (.tmp 11), none⟩])
 (.reg [1, 2] [⟨some 12, .mov (.tmp 3), none⟩,
 ⟨some 13, .ld true 4 (.tmp 5), none⟩,
 ⟨some 14, .call 27 [(.tmp 13)], none⟩,
 ⟨some 15, .bsl 1 38 4 1 [(.agg [(.int .i64 0), (.int .i64 0), (.int .i64 0), (.slice 1 [])])] [(0, (.tmp 14))], none⟩,
 ⟨some 16, .app 2 38 4 48 (.tmp 12) (.tmp 15), none⟩,
 ⟨some 3, .mov (.tmp 16), none⟩])))
 (.reg [] [⟨some 17, .arith .add .i64 (.tmp 8) (.cst (.d (.int .i64 1))), none⟩,
 ⟨some 8, .mov (.tmp 17), none⟩])))))))))))
 (.seq
 (.reg [] [⟨some 18, .mov (.tmp 3), none⟩,
 ⟨some 2, .mov (.tmp 18), none⟩])
 .ret))))⟩

/-- kilovar/kilovarlaw04.told -/
def ir23 : AFun := ⟨18, 3, [.tmp 2],
 (.seq
 (.reg [] [⟨some 2, .mov (.cst (.nils 4)), none⟩])
 (.seq
 (.reg [] [⟨some 3, .mov (.cst (.nils 4)), none⟩])
 (.seq
 (.seq
 (.reg [] [⟨some 6, .mov (.tmp 0), none⟩,
 ⟨some 7, .len (.tmp 6), none⟩,
 ⟨some 8, .mov (.cst (.d (.int .i64 0))), none⟩])
 (.post [3] [0, 1, 2]
 (.block 0
 (.asrow 2 46 4 3
 (.keep [3, 6, 7, 8] []
 (.loop
 (.post [3, 6, 7, 8] [0, 1, 2]
 (.seq
 (.reg [] [⟨some 9, .cmp .lss (.tmp 8) (.tmp 7), none⟩])
 (.seq
 (.cond (.tmp 9)
 .skip
 (.exit 0))
 (.seq
 (.block 1
 (.seq
 (.reg [0] [⟨some 10, .ixa 4 (.tmp 6) (.tmp 8), none⟩,
 ⟨some 11, .ld true 4 (.tmp 10), none⟩,
 ⟨some 5, .alloc 0 [(.d (.int .i64 0)), (.d (.int .i64 0)), (.d (.int .i64 0)), (.nils 1)], none⟩,
 ⟨none, .st 4 (.tmp 5) (.tmp 11), none⟩])
 (.reg [1, 2] [⟨some 12, .mov (.tmp 3), none⟩,
 ⟨some 13, .ld true 4 (.tmp 5), none⟩,
 ⟨some 14, .bsl 1 46 4 1 [(.agg [(.int .i64 0), (.int .i64 0), (.int .i64 0), (.slice 1 [])])] [(0, (.tmp 13))], none⟩,
 ⟨some 15, .app 2 46 4 48 (.tmp 12) (.tmp 14), none⟩,
 ⟨some 3, .mov (.tmp 15), none⟩])))
 (.reg [] [⟨some 16, .arith .add .i64 (.tmp 8) (.cst (.d (.int .i64 1))), none⟩,
 ⟨some 8, .mov (.tmp 16), none⟩])))))))))))
 (.seq
 (.reg [] [⟨some 17, .mov (.tmp 3), none⟩,
 ⟨some 2, .mov (.tmp 17), none⟩])
 .ret))))⟩

/-- kilovar/kilovarref04.Short -/
def ir11 : AFun := ⟨30, 0, [.tmp 2],
 (.seq
 (.reg [] [⟨some 2, .mov (.cst (.d (.bool false))), none⟩])
 (.seq
 (.seq
 (.reg [] [⟨some 3, .mov (.cst (.d (.int .i64 0))), none⟩])
 (.post [0] []
 (.block 0
 (.keep [0, 3] []
 (.loop
 (.post [0, 3] []
 (.seq
 (.seq
 (.reg [] [⟨some 4, .mov (.tmp 3), none⟩,
 ⟨some 5, .mov (.tmp 0), none⟩,
 ⟨some 6, .len (.tmp 5), none⟩,
 ⟨some 7, .cmp .lss (.tmp 4) (.tmp 6), none⟩])
 (.cond (.tmp 7)
 .skip
 (.exit 0)))
 (.seq
 (.block 1
 (.seq
 (.reg [] [⟨some 10, .mov (.tmp 0), none⟩,
 ⟨some 11, .mov (.tmp 3), none⟩,
 ⟨some 12, .ixa 4 (.tmp 10) (.tmp 11), none⟩,
 ⟨some 13, .fad 3 (.tmp 12), none⟩,
 ⟨some 14, .ld false 1 (.tmp 13), none⟩,
 ⟨some 15, .len (.tmp 14), none⟩,
 ⟨some 16, .cmp .gtr (.tmp 15) (.cst (.d (.int .i64 13))), none⟩])
 (.cond (.tmp 16)
 (.seq
 (.reg [] [⟨some 2, .mov (.cst (.d (.bool false))), none⟩])
 .ret)
 .skip)))
 (.reg [] [⟨some 8, .mov (.tmp 3), none⟩,
 ⟨some 9, .arith .add .i64 (.tmp 8) (.cst (.d (.int .i64 1))), none⟩,
 ⟨some 3, .mov (.tmp 9), none⟩])))))))))
 (.seq
 (.reg [] [⟨some 17, .mov (.tmp 0), none⟩,
 ⟨some 18, .len (.tmp 17), none⟩,
 ⟨some 19, .cmp .leq (.tmp 18) (.cst (.d (.int .i64 24))), none⟩,
 ⟨some 20, .mov (.tmp 19), none⟩,
 ⟨some 21, .mov (.tmp 0), some (20, false)⟩,
 ⟨some 22, .len (.tmp 21), some (20, false)⟩,
 ⟨some 23, .cmp .eql (.tmp 22) (.cst (.d (.int .i64 64))), some (20, false)⟩,
 ⟨some 24, .pick (.tmp 20) (.cst (.d (.bool true))) (.tmp 23), none⟩,
 ⟨some 25, .mov (.tmp 24), none⟩,
 ⟨some 26, .mov (.tmp 0), some (25, false)⟩,
 ⟨some 27, .len (.tmp 26), some (25, false)⟩,
 ⟨some 28, .cmp .eql (.tmp 27) (.cst (.d (.int .i64 65))), some (25, false)⟩,
 ⟨some 29, .pick (.tmp 25) (.cst (.d (.bool true))) (.tmp 28), none⟩,
 ⟨some 2, .mov (.tmp 29), none⟩])
 .ret)))⟩

/-- kilovar/kilovarref04.CheckCut -/
def ir17 : AFun := ⟨27, 1, [.tmp 6],
 (.seq
 (.reg [] [⟨some 6, .mov (.cst (.d (.int .i64 0))), none⟩])
 (.seq
 (.seq
 (.reg [0] [⟨some 8, .mov (.tmp 0), none⟩,
 ⟨some 9, .call 62 [(.tmp 8), (.cst (.d (.int .i64 0))), (.cst (.d (.int .i64 255)))], none⟩,
 ⟨some 10, .mov (.tmp 1), none⟩,
 ⟨some 11, .len (.tmp 10), none⟩,
 ⟨some 12, .cmp .gtr (.tmp 11) (.cst (.d (.int .i64 256))), none⟩,
 ⟨some 13, .call 66 [(.tmp 12), (.cst (.d (.int .i64 5)))], none⟩,
 ⟨some 14, .mov (.tmp 2), none⟩,
 ⟨some 15, .call 62 [(.tmp 14), (.cst (.d (.int .i64 1))), (.cst (.d (.int .i64 12)))], none⟩,
 ⟨some 16, .bsl 0 3 1 3 [(.int .i64 0), (.int .i64 0), (.int .i64 0)] [(0, (.tmp 9)), (1, (.tmp 13)), (2, (.tmp 15))], none⟩,
 ⟨some 17, .call 89 [(.tmp 16)], none⟩,
 ⟨some 7, .mov (.tmp 17), none⟩])
 (.seq
 (.reg [] [⟨some 18, .mov (.tmp 7), none⟩,
 ⟨some 19, .cmp .neq (.tmp 18) (.cst (.d (.int .i64 0))), none⟩])
 (.cond (.tmp 19)
 (.seq
 (.reg [] [⟨some 20, .mov (.tmp 7), none⟩,
 ⟨some 6, .mov (.tmp 20), none⟩])
 .ret)
 .skip)))
 (.seq
 (.reg [] [⟨some 21, .mov (.tmp 1), none⟩,
 ⟨some 22, .len (.tmp 21), none⟩,
 ⟨some 23, .mov (.tmp 2), none⟩,
 ⟨some 24, .arith .mul .i64 (.tmp 23) (.cst (.d (.int .i64 64))), none⟩,
 ⟨some 25, .cmp .gtr (.tmp 22) (.tmp 24), none⟩,
 ⟨some 26, .call 66 [(.tmp 25), (.cst (.d (.int .i64 5)))], none⟩,
 ⟨some 6, .mov (.tmp 26), none⟩])
 .ret)))⟩


theorem c15 (l : List Fr) (hl : l.length ≤ 1048576) (hb : ∀ f ∈ l, f.b.length ≤ 1048576) :
    CallDet Tryz.prog 15 [.d (.slice 4 (frs l))] [.slice 4 (frs l)] := by
  refine call_of_vc (x := ir15) (by kernel_rfl) rfl ?_
  refine loop_st (fun a : Nat × List Data => ⟨[(3, .sl 2 a.2.length), (6, .d (.slice 4 (frs l))), (7, .d (.int .i64 (frs l).length)), (8, .d (.int .i64 a.1))], [.none, .none, .row 38 4 a.2 false]⟩)
    (fun a => a.2 = (l.take a.1).map Fr.d) (fun a => l.length - a.1) (0, []) rfl rfl ?_
  rintro ⟨k, acc⟩ hk
  have hlen : (frs l).length = l.length := by simp [frs]
  refine And.intro rfl ?_
  refine brk_intro ?_ ?_
  · intro h
    have h : (k : Int) < (frs l).length := of_decide_eq_true h
    obtain ⟨x, hx⟩ : ∃ x, l[k]? = some x := ⟨_, List.getElem?_eq_getElem (by omega)⟩
    have hd : (frs l)[(k : Int).toNat]? = some x.d := by simp [frs, hx]
    have hacc : acc.length = k := by have := congrArg List.length hk; simp at this; omega
    refine ix_at hd (by omega) ?_
    refine Exists.intro _ (And.intro (c27 x (hb x (List.mem_of_getElem? hx))) ?_)
    refine And.intro rfl ?_
    refine And.intro rfl ?_
    refine And.intro rfl ?_
    refine And.intro ⟨rfl, rfl, rfl, ?_, ?_⟩ ?_
    · show (acc.length + 1) * 48 ≤ 2 ^ 47
      omega
    · show acc.length + 1 ≤ 2 ^ 47
      omega
    refine ar_add (by omega) ?_
    refine ⟨(k + 1, acc ++ [x.d]), ⟨?_, by show l.length - (k + 1) < l.length - k; omega⟩, rfl⟩
    show acc ++ [x.d] = (l.take (k + 1)).map Fr.d
    rw [take_map_succ _ hx]
    exact congrArg (· ++ [x.d]) hk
  · intro h
    have h : ¬ (k : Int) < (frs l).length := of_decide_eq_false h
    refine And.intro rfl ?_
    have e : frs l = acc := by
      have hk : acc = (l.take k).map Fr.d := hk
      rw [hk, List.take_of_length_le (by omega)]
      rfl
    rw [e]
    exact rfl

theorem c23 (l : List Fr) (hl : l.length ≤ 1048576) :
    CallDet Tryz.prog 23 [.d (.slice 4 (frs l))] [.slice 4 (frs l)] := by
  refine call_of_vc (x := ir23) (by kernel_rfl) rfl ?_
  refine loop_st (fun a : Nat × List Data => ⟨[(3, .sl 2 a.2.length), (6, .d (.slice 4 (frs l))), (7, .d (.int .i64 (frs l).length)), (8, .d (.int .i64 a.1))], [.none, .none, .row 46 4 a.2 false]⟩)
    (fun a => a.2 = (l.take a.1).map Fr.d) (fun a => l.length - a.1) (0, []) rfl rfl ?_
  rintro ⟨k, acc⟩ hk
  have hlen : (frs l).length = l.length := by simp [frs]
  refine And.intro rfl ?_
  refine brk_intro ?_ ?_
  · intro h
    have h : (k : Int) < (frs l).length := of_decide_eq_true h
    obtain ⟨x, hx⟩ : ∃ x, l[k]? = some x := ⟨_, List.getElem?_eq_getElem (by omega)⟩
    have hd : (frs l)[(k : Int).toNat]? = some x.d := by simp [frs, hx]
    have hacc : acc.length = k := by have := congrArg List.length hk; simp at this; omega
    refine ix_at hd (by omega) ?_
    refine And.intro rfl ?_
    refine And.intro rfl ?_
    refine And.intro rfl ?_
    refine And.intro ⟨rfl, rfl, rfl, ?_, ?_⟩ ?_
    · show (acc.length + 1) * 48 ≤ 2 ^ 47
      omega
    · show acc.length + 1 ≤ 2 ^ 47
      omega
    refine ar_add (by omega) ?_
    refine ⟨(k + 1, acc ++ [x.d]), ⟨?_, by show l.length - (k + 1) < l.length - k; omega⟩, rfl⟩
    show acc ++ [x.d] = (l.take (k + 1)).map Fr.d
    rw [take_map_succ _ hx]
    exact congrArg (· ++ [x.d]) hk
  · intro h
    have h : ¬ (k : Int) < (frs l).length := of_decide_eq_false h
    refine And.intro rfl ?_
    have e : frs l = acc := by
      have hk : acc = (l.take k).map Fr.d := hk
      rw [hk, List.take_of_length_le (by omega)]
      rfl
    rw [e]
    exact rfl

def short (l : List Fr) : Bool := (l.all fun f => decide (f.b.length ≤ 13)) && (decide (l.length ≤ 24) || (l.length == 64 || l.length == 65))
theorem c11 (l : List Fr) (hl : l.length ≤ 1048576) : CallDet Tryz.prog 11 [.d (.slice 4 (frs l))] [.bool (short l)] := by
  refine call_of_vc (x := ir11) (by kernel_rfl) rfl ?_
  have hlen := frs_len l
  refine loop_st (fun k : Nat => ⟨[(0, .d (.slice 4 (frs l))), (3, .d (.int .i64 k))], []⟩)
    (fun k => (l.all fun f => decide (f.b.length ≤ 13)) = ((l.drop k).all fun f => decide (f.b.length ≤ 13))) (fun k => l.length - k) 0 rfl rfl ?_
  intro k hk
  refine And.intro rfl ?_
  refine brk_intro ?_ ?_
  · intro h
    have h : (k : Int) < (frs l).length := of_decide_eq_true h
    obtain ⟨x, hx⟩ : ∃ x, l[k]? = some x := ⟨_, List.getElem?_eq_getElem (by omega)⟩
    refine ix_at (frs_get hx) (by omega) ?_
    refine And.intro rfl ?_
    refine brk_intro ?_ ?_
    · intro h2
      have h2 : decide ((13 : Int) < (x.b.map byt).length) = true := h2
      have e : short l = false := by
        have h3 : ¬ x.b.length ≤ 13 := by simp at h2; omega
        rw [short, hk, drop_at hx]
        simp [h3]
      rw [e]
      exact rfl
    · intro h2
      have h2 : decide ((13 : Int) < (x.b.map byt).length) = false := h2
      refine ar_add (by omega) ?_
      refine ⟨k + 1, ⟨?_, by omega⟩, rfl⟩
      have h3 : x.b.length ≤ 13 := by simp at h2; omega
      rw [hk, drop_at hx]
      simp [h3]
  · intro h
    have h : ¬ ((k : Int) < (frs l).length) := of_decide_eq_false h
    have e : (l.all fun f => decide (f.b.length ≤ 13)) = true := by
      rw [hk, List.drop_eq_nil_of_le (by omega)]; rfl
    refine And.intro rfl ?_
    refine brk_intro ?_ ?_
    · intro h1
      have h1 : decide (((frs l).length : Int) ≤ 24) = true := h1
      have h3 : l.length ≤ 24 := by simp at h1; omega
      refine And.intro rfl ?_
      refine And.intro rfl ?_
      have e : short l = true := by rw [short, e]; simp [h3]
      rw [e]
      exact rfl
    · intro h1
      have h1 : decide (((frs l).length : Int) ≤ 24) = false := h1
      have h3 : ¬ l.length ≤ 24 := by simp at h1; omega
      refine And.intro rfl ?_
      refine brk_intro ?_ ?_
      · intro h4
        have h4 : (((frs l).length : Int) == 64) = true := h4
        have h5 : l.length = 64 := by simp at h4; omega
        refine And.intro rfl ?_
        have e : short l = true := by rw [short, e]; simp [h5]
        rw [e]
        exact rfl
      · intro h4
        have h4 : (((frs l).length : Int) == 64) = false := h4
        refine And.intro rfl ?_
        have h5 : ¬ l.length = 64 := by simp at h4; omega
        have e : short l = (((frs l).length : Int) == 65) := by
          rw [short, e, hlen]
          simp [h3, h5]
          rw [Bool.eq_iff_iff]
          simp
          omega
        rw [e]
        exact rfl

def checkCut (n : Int) (len : Nat) (s : Int) : Int :=
  bif within3 n 0 255 != 0 then 3 else bif decide ((256 : Int) < len) then 5 else bif within3 s 1 12 != 0 then 3 else bif decide (s * 64 < len) then 5 else 0
def cutHead (n : Int) (len : Nat) (s : Int) : Int := firstOf [within3 n 0 255, bif decide ((256 : Int) < len) then 5 else 0, within3 s 1 12]
theorem cutHead_check {n : Int} {len : Nat} {s : Int} (h : (cutHead n len s != 0) = true) : checkCut n len s = cutHead n len s := by
  unfold cutHead checkCut at *
  simp only [firstOf] at *
  rcases within3_or n 0 255 with h1 | h1 <;> rcases within3_or s 1 12 with h3 | h3 <;> cases h4 : decide ((256 : Int) < (len : Int)) <;> simp [h1, h3, h4] at h ⊢
theorem cutHead_zero {n : Int} {len : Nat} {s : Int} (h : (cutHead n len s != 0) = false) : within3 n 0 255 = 0 ∧ len ≤ 256 ∧ 1 ≤ s ∧ s ≤ 12 ∧ checkCut n len s = bif decide (s * 64 < len) then 5 else 0 := by
  unfold cutHead checkCut at *
  simp only [firstOf] at h
  rcases within3_or n 0 255 with h1 | h1 <;> rcases within3_or s 1 12 with h3 | h3 <;> cases h4 : decide ((256 : Int) < (len : Int)) <;> simp [h1, h3, h4] at h ⊢
  have := within3_zero h3
  simp at h4
  omega

theorem c17 (n s : Int) (b : List UInt8) : CallDet Tryz.prog 17 [.d (.int .i64 n), .d (.slice 1 (b.map byt)), .d (.int .i64 s)] [.int .i64 (checkCut n b.length s)] := by
  refine call_of_vc (x := ir17) (by kernel_rfl) rfl ?_
  refine Exists.intro _ (And.intro (c62 n 0 255) ?_)
  refine And.intro rfl ?_
  refine Exists.intro _ (And.intro (c66 _ _) ?_)
  refine Exists.intro _ (And.intro (c62 s 1 12) ?_)
  refine And.intro rfl ?_
  refine And.intro rfl ?_
  refine Exists.intro _ (And.intro (c89 [within3 n 0 255, bif decide ((256 : Int) < (b.map byt).length) then 5 else 0, within3 s 1 12] (by simp)) ?_)
  have hlen : (b.map byt).length = b.length := by simp
  have e : firstOf [within3 n 0 255, bif decide ((256 : Int) < (b.map byt).length) then 5 else 0, within3 s 1 12] = cutHead n b.length s := by rw [hlen]; rfl
  rw [e]
  refine And.intro rfl ?_
  refine brk_intro ?_ ?_
  · intro h
    have h : (cutHead n b.length s != 0) = true := h
    rw [cutHead_check h]
    exact rfl
  · intro h
    have h : (cutHead n b.length s != 0) = false := h
    obtain ⟨h1, h2, h3, h4, h5⟩ := cutHead_zero h
    refine ar_mul (by omega) ?_
    refine And.intro rfl ?_
    refine Exists.intro _ (And.intro (c66 _ _) ?_)
    rw [h5, ← hlen]
    exact rfl
end Vc

set_option maxRecDepth 10000
namespace Vc
open Go Go.Proofs
/-- kilovar/kilovarref04.Cut -/
def ir19 : AFun := ⟨45, 4, [.tmp 6],
 (.seq
 (.reg [] [⟨some 6, .mov (.cst (.nils 4)), none⟩])
 (.seq
 (.reg [] [⟨some 10, .mov (.tmp 1), none⟩,
 ⟨some 11, .len (.tmp 10), none⟩,
 ⟨some 12, .mov (.tmp 2), none⟩,
 ⟨some 13, .arith .add .i64 (.tmp 11) (.tmp 12), none⟩,
 ⟨some 14, .arith .sub .i64 (.tmp 13) (.cst (.d (.int .i64 1))), none⟩,
 ⟨some 15, .mov (.tmp 2), none⟩,
 ⟨some 16, .arith .quo .i64 (.tmp 14) (.tmp 15), none⟩,
 ⟨some 17, .maxi (.cst (.d (.int .i64 1))) (.tmp 16), none⟩,
 ⟨some 7, .mov (.tmp 17), none⟩])
 (.seq
 (.reg [] [⟨some 8, .mov (.cst (.nils 4)), none⟩])
 (.seq
 (.seq
 (.reg [] [⟨some 9, .mov (.cst (.d (.int .i64 0))), none⟩])
 (.post [8] [0, 1, 2, 3]
 (.block 0
 (.asrow 3 46 4 8
 (.keep [0, 1, 2, 7, 8, 9] []
 (.loop
 (.post [0, 1, 2, 7, 8, 9] [0, 1, 2, 3]
 (.seq
 (.seq
 (.reg [] [⟨some 18, .mov (.tmp 9), none⟩,
 ⟨some 19, .mov (.tmp 7), none⟩,
 ⟨some 20, .cmp .lss (.tmp 18) (.tmp 19), none⟩])
 (.cond (.tmp 20)
 .skip
 (.exit 0)))
 (.seq
 (.block 1
 (.reg [0, 1, 2, 3] [⟨some 23, .mov (.tmp 8), none⟩,
 ⟨some 24, .mov (.tmp 0), none⟩,
 ⟨some 25, .mov (.tmp 9), none⟩,
 ⟨some 26, .mov (.tmp 7), none⟩,
 ⟨some 27, .bsl 0 5 1 0 [] [], none⟩,
 ⟨some 28, .mov (.tmp 1), none⟩,
 ⟨some 29, .mov (.tmp 9), none⟩,
 ⟨some 30, .mov (.tmp 2), none⟩,
 ⟨some 31, .arith .mul .i64 (.tmp 29) (.tmp 30), none⟩,
 ⟨some 32, .mov (.tmp 1), none⟩,
 ⟨some 33, .len (.tmp 32), none⟩,
 ⟨some 34, .mov (.tmp 9), none⟩,
 ⟨some 35, .arith .add .i64 (.tmp 34) (.cst (.d (.int .i64 1))), none⟩,
 ⟨some 36, .mov (.tmp 2), none⟩,
 ⟨some 37, .arith .mul .i64 (.tmp 35) (.tmp 36), none⟩,
 ⟨some 38, .mini (.tmp 33) (.tmp 37), none⟩,
 ⟨some 39, .slc 1 (.tmp 28) (some (.tmp 31)) (some (.tmp 38)), none⟩,
 ⟨some 40, .app 1 5 1 1 (.tmp 27) (.tmp 39), none⟩,
 ⟨some 41, .build [(.d (.int .i64 0)), (.d (.int .i64 0)), (.d (.int .i64 0)), (.nils 1)] [(0, 1, (.tmp 24)), (1, 1, (.tmp 25)), (2, 1, (.tmp 26)), (3, 1, (.tmp 40))], none⟩,
 ⟨some 42, .bsl 2 46 4 1 [(.agg [(.int .i64 0), (.int .i64 0), (.int .i64 0), (.slice 1 [])])] [(0, (.tmp 41))], none⟩,
 ⟨some 43, .app 3 46 4 48 (.tmp 23) (.tmp 42), none⟩,
 ⟨some 8, .mov (.tmp 43), none⟩]))
 (.reg [] [⟨some 21, .mov (.tmp 9), none⟩,
 ⟨some 22, .arith .add .i64 (.tmp 21) (.cst (.d (.int .i64 1))), none⟩,
 ⟨some 9, .mov (.tmp 22), none⟩]))))))))))
 (.seq
 (.reg [] [⟨some 44, .mov (.tmp 8), none⟩,
 ⟨some 6, .mov (.tmp 44), none⟩])
 .ret)))))⟩

/-- kilovar/link.Cut -/
def ir13 : AFun := ⟨63, 4, [.tmp 6, .tmp 7],
 (.seq
 (.reg [] [⟨some 6, .mov (.cst (.nils 4)), none⟩,
 ⟨some 7, .mov (.cst (.d (.int .i64 0))), none⟩])
 (.seq
 (.seq
 (.reg [0] [⟨some 13, .mov (.tmp 0), none⟩,
 ⟨some 14, .call 82 [(.tmp 13), (.cst (.d (.int .i64 0))), (.cst (.d (.int .i64 255)))], none⟩,
 ⟨some 15, .mov (.tmp 1), none⟩,
 ⟨some 16, .len (.tmp 15), none⟩,
 ⟨some 17, .cmp .gtr (.tmp 16) (.cst (.d (.int .i64 256))), none⟩,
 ⟨some 18, .call 83 [(.tmp 17), (.cst (.d (.int .i64 5)))], none⟩,
 ⟨some 19, .mov (.tmp 2), none⟩,
 ⟨some 20, .call 82 [(.tmp 19), (.cst (.d (.int .i64 1))), (.cst (.d (.int .i64 12)))], none⟩,
 ⟨some 21, .bsl 0 31 1 3 [(.int .i64 0), (.int .i64 0), (.int .i64 0)] [(0, (.tmp 14)), (1, (.tmp 18)), (2, (.tmp 20))], none⟩,
 ⟨some 22, .call 81 [(.tmp 21)], none⟩,
 ⟨some 8, .mov (.tmp 22), none⟩])
 (.seq
 (.reg [] [⟨some 23, .mov (.tmp 8), none⟩,
 ⟨some 24, .cmp .neq (.tmp 23) (.cst (.d (.int .i64 0))), none⟩])
 (.cond (.tmp 24)
 (.seq
 (.reg [] [⟨some 25, .mov (.tmp 8), none⟩,
 ⟨some 6, .mov (.cst (.nils 4)), none⟩,
 ⟨some 7, .mov (.tmp 25), none⟩])
 .ret)
 .skip)))
 (.seq
 (.reg [] [⟨some 26, .mov (.tmp 1), none⟩,
 ⟨some 27, .len (.tmp 26), none⟩,
 ⟨some 28, .mov (.tmp 2), none⟩,
 ⟨some 29, .arith .add .i64 (.tmp 27) (.tmp 28), none⟩,
 ⟨some 30, .arith .sub .i64 (.tmp 29) (.cst (.d (.int .i64 1))), none⟩,
 ⟨some 31, .mov (.tmp 2), none⟩,
 ⟨some 32, .arith .quo .i64 (.tmp 30) (.tmp 31), none⟩,
 ⟨some 33, .maxi (.cst (.d (.int .i64 1))) (.tmp 32), none⟩,
 ⟨some 9, .mov (.tmp 33), none⟩])
 (.seq
 (.seq
 (.reg [] [⟨some 34, .mov (.tmp 9), none⟩,
 ⟨some 35, .cmp .gtr (.tmp 34) (.cst (.d (.int .i64 64))), none⟩])
 (.cond (.tmp 35)
 (.seq
 (.reg [] [⟨some 6, .mov (.cst (.nils 4)), none⟩,
 ⟨some 7, .mov (.cst (.d (.int .i64 5))), none⟩])
 .ret)
 .skip))
 (.seq
 (.reg [] [⟨some 10, .mov (.cst (.nils 4)), none⟩])
 (.seq
 (.seq
 (.reg [] [⟨some 36, .mov (.tmp 9), none⟩,
 ⟨some 37, .mov (.cst (.d (.int .i64 0))), none⟩])
 (.post [10] [0, 1, 2, 3]
 (.block 0
 (.asrow 3 38 4 10
 (.keep [0, 1, 2, 9, 10, 36, 37] [0]
 (.loop
 (.post [0, 1, 2, 9, 10, 36, 37] [1, 2, 3]
 (.seq
 (.reg [] [⟨some 38, .cmp .lss (.tmp 37) (.tmp 36), none⟩])
 (.seq
 (.cond (.tmp 38)
 .skip
 (.exit 0))
 (.seq
 (.block 1
 (.seq
 (.reg [] [⟨some 39, .mov (.tmp 37), none⟩,
 ⟨some 11, .mov (.tmp 39), none⟩])
 (.seq
 (.reg [1] [⟨some 40, .mov (.tmp 0), none⟩,
 ⟨some 41, .mov (.tmp 11), none⟩,
 ⟨some 42, .mov (.tmp 9), none⟩,
 ⟨some 43, .mov (.tmp 1), none⟩,
 ⟨some 44, .mov (.tmp 11), none⟩,
 ⟨some 45, .mov (.tmp 2), none⟩,
 ⟨some 46, .arith .mul .i64 (.tmp 44) (.tmp 45), none⟩,
 ⟨some 47, .mov (.tmp 1), none⟩,
 ⟨some 48, .len (.tmp 47), none⟩,
 ⟨some 49, .mov (.tmp 11), none⟩,
 ⟨some 50, .arith .add .i64 (.tmp 49) (.cst (.d (.int .i64 1))), none⟩,
 ⟨some 51, .mov (.tmp 2), none⟩,
 ⟨some 52, .arith .mul .i64 (.tmp 50) (.tmp 51), none⟩,
 ⟨some 53, .mini (.tmp 48) (.tmp 52), none⟩,
 ⟨some 54, .slc 1 (.tmp 43) (some (.tmp 46)) (some (.tmp 53)), none⟩,
 ⟨some 55, .build [(.d (.int .i64 0)), (.d (.int .i64 0)), (.d (.int .i64 0)), (.nils 1)] [(0, 1, (.tmp 40)), (1, 1, (.tmp 41)), (2, 1, (.tmp 42)), (3, 1, (.tmp 54))], none⟩,
 ⟨some 12, .alloc 1 [(.d (.int .i64 0)), (.d (.int .i64 0)), (.d (.int .i64 0)), (.nils 1)], none⟩,
 ⟨none, .st 4 (.tmp 12) (.tmp 55), none⟩])
 (.reg [2, 3] [⟨some 56, .mov (.tmp 10), none⟩,
 ⟨some 57, .ld true 4 (.tmp 12), none⟩,
 ⟨some 58, .call 84 [(.tmp 57)], none⟩,
 ⟨some 59, .bsl 2 38 4 1 [(.agg [(.int .i64 0), (.int .i64 0), (.int .i64 0), (.slice 1 [])])] [(0, (.tmp 58))], none⟩,
 ⟨some 60, .app 3 38 4 48 (.tmp 56) (.tmp 59), none⟩,
 ⟨some 10, .mov (.tmp 60), none⟩]))))
 (.reg [] [⟨some 61, .arith .add .i64 (.tmp 37) (.cst (.d (.int .i64 1))), none⟩,
 ⟨some 37, .mov (.tmp 61), none⟩])))))))))))
 (.seq
 (.reg [] [⟨some 62, .mov (.tmp 10), none⟩,
 ⟨some 6, .mov (.tmp 62), none⟩,
 ⟨some 7, .mov (.cst (.d (.int .i64 0))), none⟩])
 .ret)))))))⟩


def partsI (len : Nat) (s : Int) : Int := max 1 ((len + s - 1) / s)
def piece (b : List UInt8) (s : Int) (k : Nat) : List UInt8 := (b.take (min (b.length : Int) (((k : Int) + 1) * s)).toNat).drop ((k : Int) * s).toNat
def cutFr (n : Int) (b : List UInt8) (s : Int) (k : Nat) : Fr := ⟨n, k, partsI b.length s, piece b s k⟩
def cutFrs (n : Int) (b : List UInt8) (s : Int) : List Fr := (List.range (partsI b.length s).toNat).map (cutFr n b s)
def pieceD (b : List UInt8) (s : Int) (k : Nat) : List Data := ((b.map byt).take (min ((b.map byt).length : Int) (((k : Int) + 1) * s)).toNat).drop ((k : Int) * s).toNat
def cutD (n : Int) (b : List UInt8) (s : Int) (k : Nat) : Data := .agg [.int .i64 n, .int .i64 k, .int .i64 (partsI (b.map byt).length s), .slice 1 (pieceD b s k)]
theorem cutD_eq (n : Int) (b : List UInt8) (s : Int) (k : Nat) : cutD n b s k = (cutFr n b s k).d := by
  simp only [cutD, pieceD, List.length_map, ← List.map_take, ← List.map_drop, cutFr, Fr.d, fr, piece]
theorem parts_pos (len : Nat) (s : Int) : 1 ≤ partsI len s := Int.le_max_left ..
theorem parts_le {len : Nat} {s : Int} (hs : 1 ≤ s) : partsI len s ≤ len + s := by
  have := Int.ediv_le_self s (show 0 ≤ (len : Int) + s - 1 by omega)
  unfold partsI
  omega
theorem parts_mul {len : Nat} {s : Int} {k : Nat} (hs : 1 ≤ s) (hk : (k : Int) < partsI len s) : 0 ≤ (k : Int) * s ∧ (k : Int) * s ≤ len := by
  refine ⟨Int.mul_nonneg (by omega) (by omega), ?_⟩
  by_cases h0 : k = 0
  · subst h0; simp
  · have h1 : (k : Int) + 1 ≤ ((len : Int) + s - 1) / s := by unfold partsI at hk; omega
    have h2 := (Int.le_ediv_iff_mul_le (by omega)).1 h1
    rw [Int.add_mul] at h2
    omega

theorem cut_acc (n : Int) (b : List UInt8) (s : Int) {k : Nat} {acc : List Data} (h : acc = (List.range k).map (cutD n b s)) : acc ++ [cutD n b s k] = (List.range (k + 1)).map (cutD n b s) := by
  rw [List.range_succ, List.map_append, h]; rfl

theorem cut_end (n : Int) (b : List UInt8) (s : Int) {k : Nat} {acc : List Data} (h : acc = (List.range k).map (cutD n b s)) (hk : (k : Int) ≤ partsI b.length s) (h' : ¬ (k : Int) < partsI b.length s) : frs (cutFrs n b s) = acc := by
  have e : (partsI b.length s).toNat = k := by omega
  rw [frs, cutFrs, e, h, List.map_map]
  exact List.map_congr_left fun x _ => (cutD_eq n b s x).symm

theorem c19 (n s : Int) (b : List UInt8) (hs : 1 ≤ s ∧ s ≤ 12) (hb : b.length ≤ 1048576) : CallDet Tryz.prog 19 [.d (.int .i64 n), .d (.slice 1 (b.map byt)), .d (.int .i64 s)] [.slice 4 (frs (cutFrs n b s))] := by
  have hlen : (b.map byt).length = b.length := by simp
  have hp := parts_le (len := b.length) hs.1
  refine call_of_vc (x := ir19) (by kernel_rfl) rfl ?_
  refine ar_add (by omega) ?_
  refine ar_sub (by omega) ?_
  refine ar_quo (by omega) ?_
  refine And.intro rfl ?_
  refine loop_st (fun a : Nat × List Data => ⟨[(0, .d (.int .i64 n)), (1, .d (.slice 1 (b.map byt))), (2, .d (.int .i64 s)), (7, .d (.int .i64 (partsI (b.map byt).length s))), (8, .sl 3 a.2.length), (9, .d (.int .i64 a.1))], [.none, .none, .none, .row 46 4 a.2 false]⟩)
    (fun a => a.2 = (List.range a.1).map (cutD n b s) ∧ (a.1 : Int) ≤ partsI b.length s) (fun a => (partsI b.length s).toNat - a.1) (0, []) rfl ⟨rfl, by have := parts_pos b.length s; show ((0 : Nat) : Int) ≤ _; omega⟩ ?_
  rintro ⟨k, acc⟩ ⟨hk, hkp⟩
  have hk : acc = (List.range k).map (cutD n b s) := hk
  have hkp : (k : Int) ≤ partsI b.length s := hkp
  have hacc : acc.length = k := by rw [hk]; simp
  refine And.intro rfl ?_
  refine brk_intro ?_ ?_
  · intro h
    have h : (k : Int) < partsI (b.map byt).length s := of_decide_eq_true h
    rw [hlen] at h
    have hm := parts_mul hs.1 h
    have hm2 : ((k : Int) + 1) * s = (k : Int) * s + s := by rw [Int.add_mul]; omega
    repeat refine And.intro rfl ?_
    have hA : -9223372036854775808 ≤ (k : Int) * s ∧ (k : Int) * s ≤ 9223372036854775807 := by omega
    have hB : -9223372036854775808 ≤ ((k : Int) + 1) * s ∧ ((k : Int) + 1) * s ≤ 9223372036854775807 := by omega
    have hC : 0 ≤ (k : Int) * s ∧ (k : Int) * s ≤ min ((b.map byt).length : Int) (((k : Int) + 1) * s) ∧ min ((b.map byt).length : Int) (((k : Int) + 1) * s) ≤ (b.map byt).length := by omega
    refine ar_mul hA ?_
    refine ar_add (by omega) ?_
    refine ar_mul hB ?_
    refine And.intro rfl ?_
    refine And.intro ⟨rfl, hC⟩ ?_
    repeat refine And.intro rfl ?_
    refine And.intro ⟨rfl, rfl, rfl, ?_, ?_⟩ ?_
    · show (0 + (pieceD b s k).length) * 1 ≤ 2 ^ 47
      simp only [pieceD, List.length_drop, List.length_take]; omega
    · show 0 + (pieceD b s k).length ≤ 2 ^ 47
      simp only [pieceD, List.length_drop, List.length_take]; omega
    repeat refine And.intro rfl ?_
    refine And.intro ⟨rfl, rfl, rfl, ?_, ?_⟩ ?_
    · show (acc.length + 1) * 48 ≤ 2 ^ 47
      omega
    · show acc.length + 1 ≤ 2 ^ 47
      omega
    refine ar_add (by omega) ?_
    refine ⟨(k + 1, acc ++ [cutD n b s k]), ⟨⟨cut_acc n b s hk, by show ((k + 1 : Nat) : Int) ≤ _; omega⟩, by show (partsI b.length s).toNat - (k + 1) < (partsI b.length s).toNat - k; omega⟩, rfl⟩
  · intro h
    have h : ¬ (k : Int) < partsI (b.map byt).length s := of_decide_eq_false h
    rw [hlen] at h
    rw [cut_end n b s hk hkp h]
    repeat refine And.intro rfl ?_
    exact rfl

def cutL (n : Int) (b : List UInt8) (s : Int) : List Fr := bif checkCut n b.length s == 0 then cutFrs n b s else []
theorem c84' (f : Fr) (x : Data) (h : x = f.d) (hl : f.b.length ≤ 1048576) : CallDet Tryz.prog 84 [.d x] [x] := h ▸ c84 f hl
theorem many_iff {len : Nat} {s : Int} (hs : 1 ≤ s) : decide (64 < partsI len s) = decide (s * 64 < len) := by
  have h1 : (65 : Int) ≤ ((len : Int) + s - 1) / s ↔ 65 * s ≤ (len : Int) + s - 1 := Int.le_ediv_iff_mul_le (by omega)
  have h2 : 64 < partsI len s ↔ s * 64 < len := by
    have h3 : 64 < partsI len s ↔ 65 ≤ ((len : Int) + s - 1) / s := by unfold partsI; omega
    rw [h3, h1]
    omega
  simp only [h2]

theorem c13 (n s : Int) (b : List UInt8) : CallDet Tryz.prog 13 [.d (.int .i64 n), .d (.slice 1 (b.map byt)), .d (.int .i64 s)] [.slice 4 (frs (cutL n b s)), .int .i64 (checkCut n b.length s)] := by
  have hlen : (b.map byt).length = b.length := by simp
  refine call_of_vc (x := ir13) (by kernel_rfl) rfl ?_
  refine Exists.intro _ (And.intro (c82 n 0 255) ?_)
  refine And.intro rfl ?_
  refine Exists.intro _ (And.intro (c83 _ _) ?_)
  refine Exists.intro _ (And.intro (c82 s 1 12) ?_)
  refine And.intro rfl ?_
  refine And.intro rfl ?_
  refine Exists.intro _ (And.intro (c81 [within3 n 0 255, bif decide ((256 : Int) < (b.map byt).length) then 5 else 0, within3 s 1 12] (by simp)) ?_)
  have e : firstOf [within3 n 0 255, bif decide ((256 : Int) < (b.map byt).length) then 5 else 0, within3 s 1 12] = cutHead n b.length s := by rw [hlen]; rfl
  rw [e]
  refine And.intro rfl ?_
  refine brk_intro ?_ ?_
  · intro h
    have h : (cutHead n b.length s != 0) = true := h
    have e2 : cutL n b s = [] := by
      rw [cutL, cutHead_check h, show (cutHead n b.length s == 0) = false by simpa using h]; rfl
    rw [e2, cutHead_check h]
    exact rfl
  · intro h
    have h : (cutHead n b.length s != 0) = false := h
    obtain ⟨h1, h2, h3, h4, h5⟩ := cutHead_zero h
    have hp := parts_le (len := b.length) h3
    refine ar_add (by omega) ?_
    refine ar_sub (by omega) ?_
    refine ar_quo (by omega) ?_
    refine And.intro rfl ?_
    refine And.intro rfl ?_
    refine brk_intro ?_ ?_
    · intro h6
      have h6 : decide (64 < partsI (b.map byt).length s) = true := h6
      rw [hlen, many_iff h3] at h6
      rw [h6] at h5
      have h5 : checkCut n b.length s = 5 := h5
      have e2 : cutL n b s = [] := by rw [cutL, h5]; rfl
      rw [e2, h5]
      exact rfl
    · intro h6
      have h6 : decide (64 < partsI (b.map byt).length s) = false := h6
      rw [hlen, many_iff h3] at h6
      rw [h6] at h5
      have h5 : checkCut n b.length s = 0 := h5
      have e2 : cutL n b s = cutFrs n b s := by rw [cutL, h5]; rfl
      rw [e2, h5]
      refine loop_st (fun a : Nat × List Data => ⟨[(0, .d (.int .i64 n)), (1, .d (.slice 1 (b.map byt))), (2, .d (.int .i64 s)), (9, .d (.int .i64 (partsI (b.map byt).length s))), (10, .sl 3 a.2.length), (36, .d (.int .i64 (partsI (b.map byt).length s))), (37, .d (.int .i64 a.1))], [.none, .none, .none, .row 38 4 a.2 false]⟩)
        (fun a => a.2 = (List.range a.1).map (cutD n b s) ∧ (a.1 : Int) ≤ partsI b.length s) (fun a => (partsI b.length s).toNat - a.1) (0, []) rfl ⟨rfl, by have := parts_pos b.length s; show ((0 : Nat) : Int) ≤ _; omega⟩ ?_
      rintro ⟨k, acc⟩ ⟨hk, hkp⟩
      have hk : acc = (List.range k).map (cutD n b s) := hk
      have hkp : (k : Int) ≤ partsI b.length s := hkp
      have hacc : acc.length = k := by rw [hk]; simp
      refine And.intro rfl ?_
      refine brk_intro ?_ ?_
      · intro h
        have h : (k : Int) < partsI (b.map byt).length s := of_decide_eq_true h
        rw [hlen] at h
        have hm := parts_mul h3 h
        have hm2 : ((k : Int) + 1) * s = (k : Int) * s + s := by rw [Int.add_mul]; omega
        have hA : -9223372036854775808 ≤ (k : Int) * s ∧ (k : Int) * s ≤ 9223372036854775807 := by omega
        have hB : -9223372036854775808 ≤ ((k : Int) + 1) * s ∧ ((k : Int) + 1) * s ≤ 9223372036854775807 := by omega
        have hC : 0 ≤ (k : Int) * s ∧ (k : Int) * s ≤ min ((b.map byt).length : Int) (((k : Int) + 1) * s) ∧ min ((b.map byt).length : Int) (((k : Int) + 1) * s) ≤ (b.map byt).length := by omega
        refine ar_mul hA ?_
        refine ar_add (by omega) ?_
        refine ar_mul hB ?_
        refine And.intro rfl ?_
        refine And.intro ⟨rfl, hC⟩ ?_
        repeat refine And.intro rfl ?_
        refine Exists.intro _ (And.intro (c84' (cutFr n b s k) (cutD n b s k) (cutD_eq n b s k) (by simp only [cutFr, piece, List.length_drop, List.length_take]; omega)) ?_)
        repeat refine And.intro rfl ?_
        refine And.intro ⟨rfl, rfl, rfl, ?_, ?_⟩ ?_
        · show (acc.length + 1) * 48 ≤ 2 ^ 47
          omega
        · show acc.length + 1 ≤ 2 ^ 47
          omega
        refine ar_add (by omega) ?_
        refine ⟨(k + 1, acc ++ [cutD n b s k]), ⟨⟨cut_acc n b s hk, by show ((k + 1 : Nat) : Int) ≤ _; omega⟩, by show (partsI b.length s).toNat - (k + 1) < (partsI b.length s).toNat - k; omega⟩, rfl⟩
      · intro h
        have h : ¬ (k : Int) < partsI (b.map byt).length s := of_decide_eq_false h
        rw [hlen] at h
        rw [cut_end n b s hk hkp h]
        repeat refine And.intro rfl ?_
        exact rfl
end Vc

set_option maxRecDepth 10000
namespace Vc
open Go Go.Proofs
/-- slices.Equal[[]byte,byte] -/
def ir86 : AFun := ⟨26, 0, [.tmp 4],
 (.seq
 (.reg [] [⟨some 4, .mov (.cst (.d (.bool false))), none⟩])
 (.seq
 (.seq
 (.reg [] [⟨some 6, .mov (.tmp 0), none⟩,
 ⟨some 7, .len (.tmp 6), none⟩,
 ⟨some 8, .mov (.tmp 1), none⟩,
 ⟨some 9, .len (.tmp 8), none⟩,
 ⟨some 10, .cmp .neq (.tmp 7) (.tmp 9), none⟩])
 (.cond (.tmp 10)
 (.seq
 (.reg [] [⟨some 4, .mov (.cst (.d (.bool false))), none⟩])
 .ret)
 .skip))
 (.seq
 (.seq
 (.reg [] [⟨some 11, .mov (.tmp 0), none⟩,
 ⟨some 12, .len (.tmp 11), none⟩,
 ⟨some 13, .mov (.cst (.d (.int .i64 0))), none⟩])
 (.post [] []
 (.block 0
 (.keep [0, 1, 12, 13] []
 (.loop
 (.post [0, 1, 12, 13] []
 (.seq
 (.reg [] [⟨some 14, .cmp .lss (.tmp 13) (.tmp 12), none⟩])
 (.seq
 (.cond (.tmp 14)
 .skip
 (.exit 0))
 (.seq
 (.block 1
 (.seq
 (.reg [] [⟨some 15, .mov (.tmp 13), none⟩,
 ⟨some 5, .mov (.tmp 15), none⟩])
 (.seq
 (.regd [] [⟨some 16, .mov (.tmp 0), none⟩,
 ⟨some 17, .mov (.tmp 5), none⟩,
 ⟨some 18, .ixa 1 (.tmp 16) (.tmp 17), none⟩,
 ⟨some 19, .ld false 1 (.tmp 18), none⟩,
 ⟨some 20, .mov (.tmp 1), none⟩,
 ⟨some 21, .mov (.tmp 5), none⟩,
 ⟨some 22, .ixa 1 (.tmp 20) (.tmp 21), none⟩,
 ⟨some 23, .ld false 1 (.tmp 22), none⟩,
 ⟨some 24, .cmp .neq (.tmp 19) (.tmp 23), none⟩] [(0, 1), (0, 4), (1, 4), (2, 4), (3, 4), (0, 5), (1, 5), (2, 5), (3, 5), (4, 5), (0, 6), (1, 6), (2, 6), (3, 6), (0, 7), (1, 7), (2, 7), (3, 7)])
 (.cond (.tmp 24)
 (.seq
 (.reg [] [⟨some 4, .mov (.cst (.d (.bool false))), none⟩])
 .ret)
 .skip))))
 (.reg [] [⟨some 25, .arith .add .i64 (.tmp 13) (.cst (.d (.int .i64 1))), none⟩,
 ⟨some 13, .mov (.tmp 25), none⟩]))))))))))
 (.seq
 (.reg [] [⟨some 4, .mov (.cst (.d (.bool true))), none⟩])
 .ret))))⟩

/-- (kilovar/link.Frame).packed -/
def ir88 : AFun := ⟨23, 3, [.cell 2 16 true],
 (.seq
 (.reg [0, 1] [⟨some 1, .cbx 0 4 (.tmp 0), none⟩,
 ⟨some 2, .alloc 1 [(.d (.int .u8 0)), (.d (.int .u8 0)), (.d (.int .u8 0)), (.d (.int .u8 0)), (.d (.int .u8 0)), (.d (.int .u8 0)), (.d (.int .u8 0)), (.d (.int .u8 0)), (.d (.int .u8 0)), (.d (.int .u8 0)), (.d (.int .u8 0)), (.d (.int .u8 0)), (.d (.int .u8 0)), (.d (.int .u8 0)), (.d (.int .u8 0)), (.d (.int .u8 0))], none⟩])
 (.seq
 (.reg [2] [⟨some 4, .fad 0 (.tmp 1), none⟩,
 ⟨some 5, .ld false 1 (.tmp 4), none⟩,
 ⟨some 6, .conv .u8 (.tmp 5), none⟩,
 ⟨some 7, .fad 1 (.tmp 1), none⟩,
 ⟨some 8, .ld false 1 (.tmp 7), none⟩,
 ⟨some 9, .conv .u8 (.tmp 8), none⟩,
 ⟨some 10, .fad 2 (.tmp 1), none⟩,
 ⟨some 11, .ld false 1 (.tmp 10), none⟩,
 ⟨some 12, .conv .u8 (.tmp 11), none⟩,
 ⟨some 13, .fad 3 (.tmp 1), none⟩,
 ⟨some 14, .ld false 1 (.tmp 13), none⟩,
 ⟨some 15, .len (.tmp 14), none⟩,
 ⟨some 16, .conv .u8 (.tmp 15), none⟩,
 ⟨some 17, .build [(.d (.int .u8 0)), (.d (.int .u8 0)), (.d (.int .u8 0)), (.d (.int .u8 0)), (.d (.int .u8 0)), (.d (.int .u8 0)), (.d (.int .u8 0)), (.d (.int .u8 0)), (.d (.int .u8 0)), (.d (.int .u8 0)), (.d (.int .u8 0)), (.d (.int .u8 0)), (.d (.int .u8 0)), (.d (.int .u8 0)), (.d (.int .u8 0)), (.d (.int .u8 0))] [(0, 1, (.tmp 6)), (1, 1, (.tmp 9)), (2, 1, (.tmp 12)), (3, 1, (.tmp 16))], none⟩,
 ⟨some 3, .alloc 2 [(.d (.int .u8 0)), (.d (.int .u8 0)), (.d (.int .u8 0)), (.d (.int .u8 0)), (.d (.int .u8 0)), (.d (.int .u8 0)), (.d (.int .u8 0)), (.d (.int .u8 0)), (.d (.int .u8 0)), (.d (.int .u8 0)), (.d (.int .u8 0)), (.d (.int .u8 0)), (.d (.int .u8 0)), (.d (.int .u8 0)), (.d (.int .u8 0)), (.d (.int .u8 0))], none⟩,
 ⟨none, .st 16 (.tmp 3) (.tmp 17), none⟩])
 (.seq
 (.regd [] [⟨some 18, .slv 16 (.tmp 3) (some (.cst (.d (.int .i64 4)))) none, none⟩,
 ⟨some 19, .fad 3 (.tmp 1), none⟩,
 ⟨some 20, .ld false 1 (.tmp 19), none⟩,
 ⟨some 21, .copy 1 (.tmp 18) (.tmp 20), none⟩] [(0, 1), (0, 2)])
 (.seq
 (.reg [] [⟨some 22, .ld true 16 (.tmp 3), none⟩,
 ⟨none, .st 16 (.tmp 2) (.tmp 22), none⟩])
 .ret))))⟩

/-- kilovar/link.Packed -/
def ir26 : AFun := ⟨13, 2, [.cell 2 16 true, .tmp 3],
 (.seq
 (.reg [0, 1] [⟨some 1, .cbx 0 4 (.tmp 0), none⟩,
 ⟨some 2, .alloc 1 [(.d (.int .u8 0)), (.d (.int .u8 0)), (.d (.int .u8 0)), (.d (.int .u8 0)), (.d (.int .u8 0)), (.d (.int .u8 0)), (.d (.int .u8 0)), (.d (.int .u8 0)), (.d (.int .u8 0)), (.d (.int .u8 0)), (.d (.int .u8 0)), (.d (.int .u8 0)), (.d (.int .u8 0)), (.d (.int .u8 0)), (.d (.int .u8 0)), (.d (.int .u8 0))], none⟩,
 ⟨some 3, .mov (.cst (.d (.int .i64 0))), none⟩])
 (.seq
 (.seq
 (.reg [] [⟨some 5, .ld true 4 (.tmp 1), none⟩,
 ⟨some 6, .call 30 [(.tmp 5)], none⟩,
 ⟨some 4, .mov (.tmp 6), none⟩])
 (.seq
 (.reg [] [⟨some 7, .mov (.tmp 4), none⟩,
 ⟨some 8, .cmp .neq (.tmp 7) (.cst (.d (.int .i64 0))), none⟩])
 (.cond (.tmp 8)
 (.seq
 (.reg [] [⟨some 9, .build [(.d (.int .u8 0)), (.d (.int .u8 0)), (.d (.int .u8 0)), (.d (.int .u8 0)), (.d (.int .u8 0)), (.d (.int .u8 0)), (.d (.int .u8 0)), (.d (.int .u8 0)), (.d (.int .u8 0)), (.d (.int .u8 0)), (.d (.int .u8 0)), (.d (.int .u8 0)), (.d (.int .u8 0)), (.d (.int .u8 0)), (.d (.int .u8 0)), (.d (.int .u8 0))] [], none⟩,
 ⟨some 10, .mov (.tmp 4), none⟩,
 ⟨none, .st 16 (.tmp 2) (.tmp 9), none⟩,
 ⟨some 3, .mov (.tmp 10), none⟩])
 .ret)
 .skip)))
 (.seq
 (.reg [] [⟨some 11, .ld true 4 (.tmp 1), none⟩,
 ⟨some 12, .call 88 [(.tmp 11)], none⟩,
 ⟨none, .st 16 (.tmp 2) (.tmp 12), none⟩,
 ⟨some 3, .mov (.cst (.d (.int .i64 0))), none⟩])
 .ret)))⟩

/-- kilovar/kilovarref04.Packed -/
def ir29 : AFun := ⟨38, 3, [.cell 2 16 true],
 (.seq
 (.reg [0, 1] [⟨some 1, .cbx 0 4 (.tmp 0), none⟩,
 ⟨some 2, .alloc 1 [(.d (.int .u8 0)), (.d (.int .u8 0)), (.d (.int .u8 0)), (.d (.int .u8 0)), (.d (.int .u8 0)), (.d (.int .u8 0)), (.d (.int .u8 0)), (.d (.int .u8 0)), (.d (.int .u8 0)), (.d (.int .u8 0)), (.d (.int .u8 0)), (.d (.int .u8 0)), (.d (.int .u8 0)), (.d (.int .u8 0)), (.d (.int .u8 0)), (.d (.int .u8 0))], none⟩])
 (.seq
 (.reg [2] [⟨some 3, .alloc 2 [(.d (.int .u8 0)), (.d (.int .u8 0)), (.d (.int .u8 0)), (.d (.int .u8 0)), (.d (.int .u8 0)), (.d (.int .u8 0)), (.d (.int .u8 0)), (.d (.int .u8 0)), (.d (.int .u8 0)), (.d (.int .u8 0)), (.d (.int .u8 0)), (.d (.int .u8 0)), (.d (.int .u8 0)), (.d (.int .u8 0)), (.d (.int .u8 0)), (.d (.int .u8 0))], none⟩])
 (.seq
 (.regd [] [⟨some 5, .fad 0 (.tmp 1), none⟩,
 ⟨some 6, .ld false 1 (.tmp 5), none⟩,
 ⟨some 7, .conv .u8 (.tmp 6), none⟩,
 ⟨some 8, .fad 1 (.tmp 1), none⟩,
 ⟨some 9, .ld false 1 (.tmp 8), none⟩,
 ⟨some 10, .conv .u8 (.tmp 9), none⟩,
 ⟨some 11, .fad 2 (.tmp 1), none⟩,
 ⟨some 12, .ld false 1 (.tmp 11), none⟩,
 ⟨some 13, .conv .u8 (.tmp 12), none⟩,
 ⟨some 14, .fad 3 (.tmp 1), none⟩,
 ⟨some 15, .ld false 1 (.tmp 14), none⟩,
 ⟨some 16, .len (.tmp 15), none⟩,
 ⟨some 17, .conv .u8 (.tmp 16), none⟩,
 ⟨some 18, .ixp 16 1 (.tmp 3) (.cst (.d (.int .i64 0))), none⟩,
 ⟨none, .st 1 (.tmp 18) (.tmp 7), none⟩,
 ⟨some 19, .ixp 16 1 (.tmp 3) (.cst (.d (.int .i64 1))), none⟩,
 ⟨none, .st 1 (.tmp 19) (.tmp 10), none⟩,
 ⟨some 20, .ixp 16 1 (.tmp 3) (.cst (.d (.int .i64 2))), none⟩,
 ⟨none, .st 1 (.tmp 20) (.tmp 13), none⟩,
 ⟨some 21, .ixp 16 1 (.tmp 3) (.cst (.d (.int .i64 3))), none⟩,
 ⟨none, .st 1 (.tmp 21) (.tmp 17), none⟩] [(0, 3), (1, 3), (2, 3), (0, 4), (1, 4), (2, 4), (0, 5), (1, 5), (2, 5), (0, 6), (1, 6), (2, 6), (3, 6), (4, 6), (5, 6), (0, 7), (1, 7), (2, 7), (3, 7), (4, 7), (5, 7), (0, 8), (1, 8), (2, 8), (3, 8), (4, 8), (5, 8), (0, 9), (1, 9), (2, 9), (3, 9), (4, 9), (5, 9), (6, 9), (7, 9), (8, 9), (0, 10), (1, 10), (2, 10), (3, 10), (4, 10), (5, 10), (6, 10), (7, 10), (8, 10), (0, 11), (1, 11), (2, 11), (3, 11), (4, 11), (5, 11), (6, 11), (7, 11), (8, 11), (0, 12), (1, 12), (2, 12), (3, 12), (4, 12), (5, 12), (6, 12), (7, 12), (8, 12), (3, 13), (4, 13), (5, 13), (6, 13), (7, 13), (8, 13), (9, 13), (10, 13), (11, 13), (12, 13), (3, 14), (4, 14), (5, 14), (6, 14), (7, 14), (8, 14), (9, 14), (10, 14), (11, 14), (12, 14), (6, 15), (7, 15), (8, 15), (9, 15), (10, 15), (11, 15), (12, 15), (6, 16), (7, 16), (8, 16), (9, 16), (10, 16), (11, 16), (12, 16), (9, 17), (10, 17), (11, 17), (12, 17), (9, 18), (10, 18), (11, 18), (12, 18)])
 (.seq
 (.seq
 (.reg [] [⟨some 4, .mov (.cst (.d (.int .i64 0))), none⟩])
 (.post [2, 3] [0, 1, 2]
 (.block 0
 (.keep [1, 2, 3, 4] [0, 1, 2]
 (.loop
 (.post [1, 2, 3, 4] []
 (.seq
 (.seq
 (.reg [] [⟨some 22, .mov (.tmp 4), none⟩,
 ⟨some 23, .fad 3 (.tmp 1), none⟩,
 ⟨some 24, .ld false 1 (.tmp 23), none⟩,
 ⟨some 25, .len (.tmp 24), none⟩,
 ⟨some 26, .cmp .lss (.tmp 22) (.tmp 25), none⟩])
 (.cond (.tmp 26)
 .skip
 (.exit 0)))
 (.seq
 (.block 1
 (.reg [] [⟨some 29, .mov (.tmp 4), none⟩,
 ⟨some 30, .arith .add .i64 (.cst (.d (.int .i64 4))) (.tmp 29), none⟩,
 ⟨some 31, .fad 3 (.tmp 1), none⟩,
 ⟨some 32, .ld false 1 (.tmp 31), none⟩,
 ⟨some 33, .mov (.tmp 4), none⟩,
 ⟨some 34, .ixa 1 (.tmp 32) (.tmp 33), none⟩,
 ⟨some 35, .ld false 1 (.tmp 34), none⟩,
 ⟨some 36, .ixp 16 1 (.tmp 3) (.tmp 30), none⟩,
 ⟨none, .st 1 (.tmp 36) (.tmp 35), none⟩]))
 (.reg [] [⟨some 27, .mov (.tmp 4), none⟩,
 ⟨some 28, .arith .add .i64 (.tmp 27) (.cst (.d (.int .i64 1))), none⟩,
 ⟨some 4, .mov (.tmp 28), none⟩])))))))))
 (.seq
 (.reg [] [⟨some 37, .ld true 16 (.tmp 3), none⟩,
 ⟨none, .st 16 (.tmp 2) (.tmp 37), none⟩])
 .ret)))))⟩


theorem byt_get {a : List UInt8} {k : Nat} {x : UInt8} (h : a[k]? = some x) : (a.map byt)[(k : Int).toNat]? = some (byt x) := by simp [h]
theorem beq_len {a b : List UInt8} (h : a.length ≠ b.length) : (a == b) = false := by
  simp only [beq_eq_false_iff_ne, ne_eq]
  exact fun e => h (congrArg _ e)
theorem c86 (a b : List UInt8) (ha : a.length ≤ 1048576) : CallDet Tryz.prog 86 [.d (.slice 1 (a.map byt)), .d (.slice 1 (b.map byt))] [.bool (a == b)] := by
  refine call_of_vc (x := ir86) (by kernel_rfl) rfl ?_
  have hla : (a.map byt).length = a.length := by simp
  have hlb : (b.map byt).length = b.length := by simp
  refine And.intro rfl ?_
  refine brk_intro ?_ ?_
  · intro h
    have h : (((a.map byt).length : Int) != ((b.map byt).length : Int)) = true := h
    rw [beq_len (a := a) (b := b) (by simp at h; omega)]
    exact rfl
  · intro h
    have h : (((a.map byt).length : Int) != ((b.map byt).length : Int)) = false := h
    have hl : a.length = b.length := by simp at h; omega
    refine loop_st (fun k : Nat => ⟨[(0, .d (.slice 1 (a.map byt))), (1, .d (.slice 1 (b.map byt))), (12, .d (.int .i64 (a.map byt).length)), (13, .d (.int .i64 k))], []⟩)
      (fun k => (a == b) = (a.drop k == b.drop k)) (fun k => a.length - k) 0 rfl rfl ?_
    intro k hk
    refine And.intro rfl ?_
    refine brk_intro ?_ ?_
    · intro h
      have h : (k : Int) < (a.map byt).length := of_decide_eq_true h
      obtain ⟨x, hx⟩ : ∃ x, a[k]? = some x := ⟨_, List.getElem?_eq_getElem (by omega)⟩
      obtain ⟨y, hy⟩ : ∃ y, b[k]? = some y := ⟨_, List.getElem?_eq_getElem (by omega)⟩
      refine ix_at (byt_get hx) (by omega) ?_
      refine ix_at (byt_get hy) (by omega) ?_
      refine And.intro rfl ?_
      refine brk_intro ?_ ?_
      · intro h2
        have h2 : (((x.toNat : Nat) : Int) != ((y.toNat : Nat) : Int)) = true := h2
        have hne : x ≠ y := fun e => by subst e; simp at h2
        have e : (a == b) = false := by
          rw [hk, drop_at hx, drop_at hy]
          simp [hne]
        rw [e]
        exact rfl
      · intro h2
        have h2 : (((x.toNat : Nat) : Int) != ((y.toNat : Nat) : Int)) = false := h2
        have he : x = y := by simp at h2; exact UInt8.toNat_inj.1 (by omega)
        refine ar_add (by omega) ?_
        refine ⟨k + 1, ⟨?_, by omega⟩, rfl⟩
        rw [hk, drop_at hx, drop_at hy]
        simp [he]
    · intro h
      have h : ¬ ((k : Int) < (a.map byt).length) := of_decide_eq_false h
      have e : (a == b) = true := by
        rw [hk, List.drop_eq_nil_of_le (by omega), List.drop_eq_nil_of_le (by omega)]
        rfl
      rw [e]
      exact rfl

def byteAt (b : List UInt8) (i : Nat) : Int := match b[i]? with | some c => (c.toNat : Int) | none => 0
def blkC (f : Fr) : List Data := [.int .u8 f.m, .int .u8 f.p, .int .u8 f.n, .int .u8 f.b.length, .int .u8 (byteAt f.b 0), .int .u8 (byteAt f.b 1), .int .u8 (byteAt f.b 2), .int .u8 (byteAt f.b 3), .int .u8 (byteAt f.b 4), .int .u8 (byteAt f.b 5), .int .u8 (byteAt f.b 6), .int .u8 (byteAt f.b 7), .int .u8 (byteAt f.b 8), .int .u8 (byteAt f.b 9), .int .u8 (byteAt f.b 10), .int .u8 (byteAt f.b 11)]
theorem check_zero {m p n : Int} {len : Nat} (h : checkFrame m p n len = 0) : (0 ≤ m ∧ m ≤ 255) ∧ (1 ≤ n ∧ n ≤ 64) ∧ (0 ≤ p ∧ p ≤ n - 1) ∧ len ≤ 12 := by
  unfold checkFrame at h
  rcases within3_or m 0 255 with h1 | h1 <;> rcases within3_or n 1 64 with h2 | h2 <;> rcases within3_or p 0 (n - 1) with h3 | h3 <;> cases h4 : decide ((12 : Int) < (len : Int)) <;> simp [h1, h2, h3, h4] at h
  simp at h4
  exact ⟨within3_zero h1, within3_zero h2, within3_zero h3, by omega⟩
theorem byt_agg (b : List UInt8) : ∀ d ∈ b.map byt, d.isAgg = false := by
  intro d hd
  obtain ⟨c, _, rfl⟩ := List.mem_map.1 hd
  rfl

theorem c88_0 (m p n : Int) (hm : 0 ≤ m ∧ m ≤ 255) (hp : 0 ≤ p ∧ p ≤ 255) (hn : 0 ≤ n ∧ n ≤ 255) : CallDet Tryz.prog 88 [.d (fr m p n [])] [.agg (blkC ⟨m, p, n, []⟩)] := by
  refine call_of_vc (x := ir88) (by kernel_rfl) rfl ?_
  refine Exists.intro _ (And.intro (IntWalk.u8_in _ hm) ?_)
  refine Exists.intro _ (And.intro (IntWalk.u8_in _ hp) ?_)
  refine Exists.intro _ (And.intro (IntWalk.u8_in _ hn) ?_)
  refine Exists.intro _ (And.intro rfl ?_)
  refine And.intro ⟨by decide, by decide, by decide, by decide⟩ ?_
  refine Exists.intro 0 (Exists.intro ([].map byt) (And.intro ⟨rfl, rfl, rfl, rfl, byt_agg _⟩ ?_))
  exact rfl

theorem c88_1 (m p n : Int) (b0 : UInt8) (hm : 0 ≤ m ∧ m ≤ 255) (hp : 0 ≤ p ∧ p ≤ 255) (hn : 0 ≤ n ∧ n ≤ 255) : CallDet Tryz.prog 88 [.d (fr m p n [b0])] [.agg (blkC ⟨m, p, n, [b0]⟩)] := by
  refine call_of_vc (x := ir88) (by kernel_rfl) rfl ?_
  refine Exists.intro _ (And.intro (IntWalk.u8_in _ hm) ?_)
  refine Exists.intro _ (And.intro (IntWalk.u8_in _ hp) ?_)
  refine Exists.intro _ (And.intro (IntWalk.u8_in _ hn) ?_)
  refine Exists.intro _ (And.intro rfl ?_)
  refine And.intro ⟨by decide, by decide, by decide, by decide⟩ ?_
  refine Exists.intro 1 (Exists.intro ([b0].map byt) (And.intro ⟨rfl, rfl, rfl, rfl, byt_agg _⟩ ?_))
  exact rfl

theorem c88_2 (m p n : Int) (b0 b1 : UInt8) (hm : 0 ≤ m ∧ m ≤ 255) (hp : 0 ≤ p ∧ p ≤ 255) (hn : 0 ≤ n ∧ n ≤ 255) : CallDet Tryz.prog 88 [.d (fr m p n [b0, b1])] [.agg (blkC ⟨m, p, n, [b0, b1]⟩)] := by
  refine call_of_vc (x := ir88) (by kernel_rfl) rfl ?_
  refine Exists.intro _ (And.intro (IntWalk.u8_in _ hm) ?_)
  refine Exists.intro _ (And.intro (IntWalk.u8_in _ hp) ?_)
  refine Exists.intro _ (And.intro (IntWalk.u8_in _ hn) ?_)
  refine Exists.intro _ (And.intro rfl ?_)
  refine And.intro ⟨by decide, by decide, by decide, by decide⟩ ?_
  refine Exists.intro 2 (Exists.intro ([b0, b1].map byt) (And.intro ⟨rfl, rfl, rfl, rfl, byt_agg _⟩ ?_))
  exact rfl

theorem c88_3 (m p n : Int) (b0 b1 b2 : UInt8) (hm : 0 ≤ m ∧ m ≤ 255) (hp : 0 ≤ p ∧ p ≤ 255) (hn : 0 ≤ n ∧ n ≤ 255) : CallDet Tryz.prog 88 [.d (fr m p n [b0, b1, b2])] [.agg (blkC ⟨m, p, n, [b0, b1, b2]⟩)] := by
  refine call_of_vc (x := ir88) (by kernel_rfl) rfl ?_
  refine Exists.intro _ (And.intro (IntWalk.u8_in _ hm) ?_)
  refine Exists.intro _ (And.intro (IntWalk.u8_in _ hp) ?_)
  refine Exists.intro _ (And.intro (IntWalk.u8_in _ hn) ?_)
  refine Exists.intro _ (And.intro rfl ?_)
  refine And.intro ⟨by decide, by decide, by decide, by decide⟩ ?_
  refine Exists.intro 3 (Exists.intro ([b0, b1, b2].map byt) (And.intro ⟨rfl, rfl, rfl, rfl, byt_agg _⟩ ?_))
  exact rfl

theorem c88_4 (m p n : Int) (b0 b1 b2 b3 : UInt8) (hm : 0 ≤ m ∧ m ≤ 255) (hp : 0 ≤ p ∧ p ≤ 255) (hn : 0 ≤ n ∧ n ≤ 255) : CallDet Tryz.prog 88 [.d (fr m p n [b0, b1, b2, b3])] [.agg (blkC ⟨m, p, n, [b0, b1, b2, b3]⟩)] := by
  refine call_of_vc (x := ir88) (by kernel_rfl) rfl ?_
  refine Exists.intro _ (And.intro (IntWalk.u8_in _ hm) ?_)
  refine Exists.intro _ (And.intro (IntWalk.u8_in _ hp) ?_)
  refine Exists.intro _ (And.intro (IntWalk.u8_in _ hn) ?_)
  refine Exists.intro _ (And.intro rfl ?_)
  refine And.intro ⟨by decide, by decide, by decide, by decide⟩ ?_
  refine Exists.intro 4 (Exists.intro ([b0, b1, b2, b3].map byt) (And.intro ⟨rfl, rfl, rfl, rfl, byt_agg _⟩ ?_))
  exact rfl

theorem c88_5 (m p n : Int) (b0 b1 b2 b3 b4 : UInt8) (hm : 0 ≤ m ∧ m ≤ 255) (hp : 0 ≤ p ∧ p ≤ 255) (hn : 0 ≤ n ∧ n ≤ 255) : CallDet Tryz.prog 88 [.d (fr m p n [b0, b1, b2, b3, b4])] [.agg (blkC ⟨m, p, n, [b0, b1, b2, b3, b4]⟩)] := by
  refine call_of_vc (x := ir88) (by kernel_rfl) rfl ?_
  refine Exists.intro _ (And.intro (IntWalk.u8_in _ hm) ?_)
  refine Exists.intro _ (And.intro (IntWalk.u8_in _ hp) ?_)
  refine Exists.intro _ (And.intro (IntWalk.u8_in _ hn) ?_)
  refine Exists.intro _ (And.intro rfl ?_)
  refine And.intro ⟨by decide, by decide, by decide, by decide⟩ ?_
  refine Exists.intro 5 (Exists.intro ([b0, b1, b2, b3, b4].map byt) (And.intro ⟨rfl, rfl, rfl, rfl, byt_agg _⟩ ?_))
  exact rfl

theorem c88_6 (m p n : Int) (b0 b1 b2 b3 b4 b5 : UInt8) (hm : 0 ≤ m ∧ m ≤ 255) (hp : 0 ≤ p ∧ p ≤ 255) (hn : 0 ≤ n ∧ n ≤ 255) : CallDet Tryz.prog 88 [.d (fr m p n [b0, b1, b2, b3, b4, b5])] [.agg (blkC ⟨m, p, n, [b0, b1, b2, b3, b4, b5]⟩)] := by
  refine call_of_vc (x := ir88) (by kernel_rfl) rfl ?_
  refine Exists.intro _ (And.intro (IntWalk.u8_in _ hm) ?_)
  refine Exists.intro _ (And.intro (IntWalk.u8_in _ hp) ?_)
  refine Exists.intro _ (And.intro (IntWalk.u8_in _ hn) ?_)
  refine Exists.intro _ (And.intro rfl ?_)
  refine And.intro ⟨by decide, by decide, by decide, by decide⟩ ?_
  refine Exists.intro 6 (Exists.intro ([b0, b1, b2, b3, b4, b5].map byt) (And.intro ⟨rfl, rfl, rfl, rfl, byt_agg _⟩ ?_))
  exact rfl

theorem c88_7 (m p n : Int) (b0 b1 b2 b3 b4 b5 b6 : UInt8) (hm : 0 ≤ m ∧ m ≤ 255) (hp : 0 ≤ p ∧ p ≤ 255) (hn : 0 ≤ n ∧ n ≤ 255) : CallDet Tryz.prog 88 [.d (fr m p n [b0, b1, b2, b3, b4, b5, b6])] [.agg (blkC ⟨m, p, n, [b0, b1, b2, b3, b4, b5, b6]⟩)] := by
  refine call_of_vc (x := ir88) (by kernel_rfl) rfl ?_
  refine Exists.intro _ (And.intro (IntWalk.u8_in _ hm) ?_)
  refine Exists.intro _ (And.intro (IntWalk.u8_in _ hp) ?_)
  refine Exists.intro _ (And.intro (IntWalk.u8_in _ hn) ?_)
  refine Exists.intro _ (And.intro rfl ?_)
  refine And.intro ⟨by decide, by decide, by decide, by decide⟩ ?_
  refine Exists.intro 7 (Exists.intro ([b0, b1, b2, b3, b4, b5, b6].map byt) (And.intro ⟨rfl, rfl, rfl, rfl, byt_agg _⟩ ?_))
  exact rfl

theorem c88_8 (m p n : Int) (b0 b1 b2 b3 b4 b5 b6 b7 : UInt8) (hm : 0 ≤ m ∧ m ≤ 255) (hp : 0 ≤ p ∧ p ≤ 255) (hn : 0 ≤ n ∧ n ≤ 255) : CallDet Tryz.prog 88 [.d (fr m p n [b0, b1, b2, b3, b4, b5, b6, b7])] [.agg (blkC ⟨m, p, n, [b0, b1, b2, b3, b4, b5, b6, b7]⟩)] := by
  refine call_of_vc (x := ir88) (by kernel_rfl) rfl ?_
  refine Exists.intro _ (And.intro (IntWalk.u8_in _ hm) ?_)
  refine Exists.intro _ (And.intro (IntWalk.u8_in _ hp) ?_)
  refine Exists.intro _ (And.intro (IntWalk.u8_in _ hn) ?_)
  refine Exists.intro _ (And.intro rfl ?_)
  refine And.intro ⟨by decide, by decide, by decide, by decide⟩ ?_
  refine Exists.intro 8 (Exists.intro ([b0, b1, b2, b3, b4, b5, b6, b7].map byt) (And.intro ⟨rfl, rfl, rfl, rfl, byt_agg _⟩ ?_))
  exact rfl

theorem c88_9 (m p n : Int) (b0 b1 b2 b3 b4 b5 b6 b7 b8 : UInt8) (hm : 0 ≤ m ∧ m ≤ 255) (hp : 0 ≤ p ∧ p ≤ 255) (hn : 0 ≤ n ∧ n ≤ 255) : CallDet Tryz.prog 88 [.d (fr m p n [b0, b1, b2, b3, b4, b5, b6, b7, b8])] [.agg (blkC ⟨m, p, n, [b0, b1, b2, b3, b4, b5, b6, b7, b8]⟩)] := by
  refine call_of_vc (x := ir88) (by kernel_rfl) rfl ?_
  refine Exists.intro _ (And.intro (IntWalk.u8_in _ hm) ?_)
  refine Exists.intro _ (And.intro (IntWalk.u8_in _ hp) ?_)
  refine Exists.intro _ (And.intro (IntWalk.u8_in _ hn) ?_)
  refine Exists.intro _ (And.intro rfl ?_)
  refine And.intro ⟨by decide, by decide, by decide, by decide⟩ ?_
  refine Exists.intro 9 (Exists.intro ([b0, b1, b2, b3, b4, b5, b6, b7, b8].map byt) (And.intro ⟨rfl, rfl, rfl, rfl, byt_agg _⟩ ?_))
  exact rfl

theorem c88_10 (m p n : Int) (b0 b1 b2 b3 b4 b5 b6 b7 b8 b9 : UInt8) (hm : 0 ≤ m ∧ m ≤ 255) (hp : 0 ≤ p ∧ p ≤ 255) (hn : 0 ≤ n ∧ n ≤ 255) : CallDet Tryz.prog 88 [.d (fr m p n [b0, b1, b2, b3, b4, b5, b6, b7, b8, b9])] [.agg (blkC ⟨m, p, n, [b0, b1, b2, b3, b4, b5, b6, b7, b8, b9]⟩)] := by
  refine call_of_vc (x := ir88) (by kernel_rfl) rfl ?_
  refine Exists.intro _ (And.intro (IntWalk.u8_in _ hm) ?_)
  refine Exists.intro _ (And.intro (IntWalk.u8_in _ hp) ?_)
  refine Exists.intro _ (And.intro (IntWalk.u8_in _ hn) ?_)
  refine Exists.intro _ (And.intro rfl ?_)
  refine And.intro ⟨by decide, by decide, by decide, by decide⟩ ?_
  refine Exists.intro 10 (Exists.intro ([b0, b1, b2, b3, b4, b5, b6, b7, b8, b9].map byt) (And.intro ⟨rfl, rfl, rfl, rfl, byt_agg _⟩ ?_))
  exact rfl

theorem c88_11 (m p n : Int) (b0 b1 b2 b3 b4 b5 b6 b7 b8 b9 b10 : UInt8) (hm : 0 ≤ m ∧ m ≤ 255) (hp : 0 ≤ p ∧ p ≤ 255) (hn : 0 ≤ n ∧ n ≤ 255) : CallDet Tryz.prog 88 [.d (fr m p n [b0, b1, b2, b3, b4, b5, b6, b7, b8, b9, b10])] [.agg (blkC ⟨m, p, n, [b0, b1, b2, b3, b4, b5, b6, b7, b8, b9, b10]⟩)] := by
  refine call_of_vc (x := ir88) (by kernel_rfl) rfl ?_
  refine Exists.intro _ (And.intro (IntWalk.u8_in _ hm) ?_)
  refine Exists.intro _ (And.intro (IntWalk.u8_in _ hp) ?_)
  refine Exists.intro _ (And.intro (IntWalk.u8_in _ hn) ?_)
  refine Exists.intro _ (And.intro rfl ?_)
  refine And.intro ⟨by decide, by decide, by decide, by decide⟩ ?_
  refine Exists.intro 11 (Exists.intro ([b0, b1, b2, b3, b4, b5, b6, b7, b8, b9, b10].map byt) (And.intro ⟨rfl, rfl, rfl, rfl, byt_agg _⟩ ?_))
  exact rfl

theorem c88_12 (m p n : Int) (b0 b1 b2 b3 b4 b5 b6 b7 b8 b9 b10 b11 : UInt8) (hm : 0 ≤ m ∧ m ≤ 255) (hp : 0 ≤ p ∧ p ≤ 255) (hn : 0 ≤ n ∧ n ≤ 255) : CallDet Tryz.prog 88 [.d (fr m p n [b0, b1, b2, b3, b4, b5, b6, b7, b8, b9, b10, b11])] [.agg (blkC ⟨m, p, n, [b0, b1, b2, b3, b4, b5, b6, b7, b8, b9, b10, b11]⟩)] := by
  refine call_of_vc (x := ir88) (by kernel_rfl) rfl ?_
  refine Exists.intro _ (And.intro (IntWalk.u8_in _ hm) ?_)
  refine Exists.intro _ (And.intro (IntWalk.u8_in _ hp) ?_)
  refine Exists.intro _ (And.intro (IntWalk.u8_in _ hn) ?_)
  refine Exists.intro _ (And.intro rfl ?_)
  refine And.intro ⟨by decide, by decide, by decide, by decide⟩ ?_
  refine Exists.intro 12 (Exists.intro ([b0, b1, b2, b3, b4, b5, b6, b7, b8, b9, b10, b11].map byt) (And.intro ⟨rfl, rfl, rfl, rfl, byt_agg _⟩ ?_))
  exact rfl

theorem c29_0 (m p n : Int) (hm : 0 ≤ m ∧ m ≤ 255) (hp : 0 ≤ p ∧ p ≤ 255) (hn : 0 ≤ n ∧ n ≤ 255) : CallDet Tryz.prog 29 [.d (fr m p n [])] [.agg (blkC ⟨m, p, n, []⟩)] := by
  refine call_of_vc (x := ir29) (by kernel_rfl) rfl ?_
  refine Exists.intro _ (And.intro (IntWalk.u8_in _ hm) ?_)
  refine Exists.intro _ (And.intro (IntWalk.u8_in _ hp) ?_)
  refine Exists.intro _ (And.intro (IntWalk.u8_in _ hn) ?_)
  refine Exists.intro _ (And.intro rfl ?_)
  refine And.intro ⟨by decide, by decide⟩ ?_
  refine And.intro ⟨by decide, by decide⟩ ?_
  refine And.intro ⟨by decide, by decide⟩ ?_
  refine And.intro ⟨by decide, by decide⟩ ?_
  refine loop_up (fun k => ⟨[(1, .ptr 0 0), (2, .ptr 1 0), (3, .ptr 2 0), (4, .d (.int .i64 k))], [.cbox [.int .i64 m, .int .i64 p, .int .i64 n, .slice 1 ([].map byt)], .box (List.replicate 16 (.d (.int .u8 0))), .box (dcells ((.int .u8 m : Data) :: .int .u8 p :: .int .u8 n :: .int .u8 0 :: ((([].map byt).take k) ++ List.replicate 12 (Data.int .u8 0)).take 12))]⟩) 0 rfl ?_
  intro k hk
  match k, hk with
  | 0, _ =>
    refine And.intro rfl ?_
    exact rfl
  | _ + 1, h => exact absurd h (by omega)

theorem c29_1 (m p n : Int) (b0 : UInt8) (hm : 0 ≤ m ∧ m ≤ 255) (hp : 0 ≤ p ∧ p ≤ 255) (hn : 0 ≤ n ∧ n ≤ 255) : CallDet Tryz.prog 29 [.d (fr m p n [b0])] [.agg (blkC ⟨m, p, n, [b0]⟩)] := by
  refine call_of_vc (x := ir29) (by kernel_rfl) rfl ?_
  refine Exists.intro _ (And.intro (IntWalk.u8_in _ hm) ?_)
  refine Exists.intro _ (And.intro (IntWalk.u8_in _ hp) ?_)
  refine Exists.intro _ (And.intro (IntWalk.u8_in _ hn) ?_)
  refine Exists.intro _ (And.intro rfl ?_)
  refine And.intro ⟨by decide, by decide⟩ ?_
  refine And.intro ⟨by decide, by decide⟩ ?_
  refine And.intro ⟨by decide, by decide⟩ ?_
  refine And.intro ⟨by decide, by decide⟩ ?_
  refine loop_up (fun k => ⟨[(1, .ptr 0 0), (2, .ptr 1 0), (3, .ptr 2 0), (4, .d (.int .i64 k))], [.cbox [.int .i64 m, .int .i64 p, .int .i64 n, .slice 1 ([b0].map byt)], .box (List.replicate 16 (.d (.int .u8 0))), .box (dcells ((.int .u8 m : Data) :: .int .u8 p :: .int .u8 n :: .int .u8 1 :: ((([b0].map byt).take k) ++ List.replicate 12 (Data.int .u8 0)).take 12))]⟩) 1 rfl ?_
  intro k hk
  match k, hk with
  | 0, _ =>
    refine And.intro rfl ?_
    refine ar_add (by decide) ?_
    refine Exists.intro (byt b0) (And.intro ⟨rfl, by decide, rfl⟩ ?_)
    refine And.intro ⟨by decide, by decide⟩ ?_
    refine ar_add (by decide) ?_
    exact ⟨by decide, rfl⟩
  | 1, _ =>
    refine And.intro rfl ?_
    exact rfl
  | _ + 2, h => exact absurd h (by omega)

theorem c29_2 (m p n : Int) (b0 b1 : UInt8) (hm : 0 ≤ m ∧ m ≤ 255) (hp : 0 ≤ p ∧ p ≤ 255) (hn : 0 ≤ n ∧ n ≤ 255) : CallDet Tryz.prog 29 [.d (fr m p n [b0, b1])] [.agg (blkC ⟨m, p, n, [b0, b1]⟩)] := by
  refine call_of_vc (x := ir29) (by kernel_rfl) rfl ?_
  refine Exists.intro _ (And.intro (IntWalk.u8_in _ hm) ?_)
  refine Exists.intro _ (And.intro (IntWalk.u8_in _ hp) ?_)
  refine Exists.intro _ (And.intro (IntWalk.u8_in _ hn) ?_)
  refine Exists.intro _ (And.intro rfl ?_)
  refine And.intro ⟨by decide, by decide⟩ ?_
  refine And.intro ⟨by decide, by decide⟩ ?_
  refine And.intro ⟨by decide, by decide⟩ ?_
  refine And.intro ⟨by decide, by decide⟩ ?_
  refine loop_up (fun k => ⟨[(1, .ptr 0 0), (2, .ptr 1 0), (3, .ptr 2 0), (4, .d (.int .i64 k))], [.cbox [.int .i64 m, .int .i64 p, .int .i64 n, .slice 1 ([b0, b1].map byt)], .box (List.replicate 16 (.d (.int .u8 0))), .box (dcells ((.int .u8 m : Data) :: .int .u8 p :: .int .u8 n :: .int .u8 2 :: ((([b0, b1].map byt).take k) ++ List.replicate 12 (Data.int .u8 0)).take 12))]⟩) 2 rfl ?_
  intro k hk
  match k, hk with
  | 0, _ =>
    refine And.intro rfl ?_
    refine ar_add (by decide) ?_
    refine Exists.intro (byt b0) (And.intro ⟨rfl, by decide, rfl⟩ ?_)
    refine And.intro ⟨by decide, by decide⟩ ?_
    refine ar_add (by decide) ?_
    exact ⟨by decide, rfl⟩
  | 1, _ =>
    refine And.intro rfl ?_
    refine ar_add (by decide) ?_
    refine Exists.intro (byt b1) (And.intro ⟨rfl, by decide, rfl⟩ ?_)
    refine And.intro ⟨by decide, by decide⟩ ?_
    refine ar_add (by decide) ?_
    exact ⟨by decide, rfl⟩
  | 2, _ =>
    refine And.intro rfl ?_
    exact rfl
  | _ + 3, h => exact absurd h (by omega)

theorem c29_3 (m p n : Int) (b0 b1 b2 : UInt8) (hm : 0 ≤ m ∧ m ≤ 255) (hp : 0 ≤ p ∧ p ≤ 255) (hn : 0 ≤ n ∧ n ≤ 255) : CallDet Tryz.prog 29 [.d (fr m p n [b0, b1, b2])] [.agg (blkC ⟨m, p, n, [b0, b1, b2]⟩)] := by
  refine call_of_vc (x := ir29) (by kernel_rfl) rfl ?_
  refine Exists.intro _ (And.intro (IntWalk.u8_in _ hm) ?_)
  refine Exists.intro _ (And.intro (IntWalk.u8_in _ hp) ?_)
  refine Exists.intro _ (And.intro (IntWalk.u8_in _ hn) ?_)
  refine Exists.intro _ (And.intro rfl ?_)
  refine And.intro ⟨by decide, by decide⟩ ?_
  refine And.intro ⟨by decide, by decide⟩ ?_
  refine And.intro ⟨by decide, by decide⟩ ?_
  refine And.intro ⟨by decide, by decide⟩ ?_
  refine loop_up (fun k => ⟨[(1, .ptr 0 0), (2, .ptr 1 0), (3, .ptr 2 0), (4, .d (.int .i64 k))], [.cbox [.int .i64 m, .int .i64 p, .int .i64 n, .slice 1 ([b0, b1, b2].map byt)], .box (List.replicate 16 (.d (.int .u8 0))), .box (dcells ((.int .u8 m : Data) :: .int .u8 p :: .int .u8 n :: .int .u8 3 :: ((([b0, b1, b2].map byt).take k) ++ List.replicate 12 (Data.int .u8 0)).take 12))]⟩) 3 rfl ?_
  intro k hk
  match k, hk with
  | 0, _ =>
    refine And.intro rfl ?_
    refine ar_add (by decide) ?_
    refine Exists.intro (byt b0) (And.intro ⟨rfl, by decide, rfl⟩ ?_)
    refine And.intro ⟨by decide, by decide⟩ ?_
    refine ar_add (by decide) ?_
    exact ⟨by decide, rfl⟩
  | 1, _ =>
    refine And.intro rfl ?_
    refine ar_add (by decide) ?_
    refine Exists.intro (byt b1) (And.intro ⟨rfl, by decide, rfl⟩ ?_)
    refine And.intro ⟨by decide, by decide⟩ ?_
    refine ar_add (by decide) ?_
    exact ⟨by decide, rfl⟩
  | 2, _ =>
    refine And.intro rfl ?_
    refine ar_add (by decide) ?_
    refine Exists.intro (byt b2) (And.intro ⟨rfl, by decide, rfl⟩ ?_)
    refine And.intro ⟨by decide, by decide⟩ ?_
    refine ar_add (by decide) ?_
    exact ⟨by decide, rfl⟩
  | 3, _ =>
    refine And.intro rfl ?_
    exact rfl
  | _ + 4, h => exact absurd h (by omega)

theorem c29_4 (m p n : Int) (b0 b1 b2 b3 : UInt8) (hm : 0 ≤ m ∧ m ≤ 255) (hp : 0 ≤ p ∧ p ≤ 255) (hn : 0 ≤ n ∧ n ≤ 255) : CallDet Tryz.prog 29 [.d (fr m p n [b0, b1, b2, b3])] [.agg (blkC ⟨m, p, n, [b0, b1, b2, b3]⟩)] := by
  refine call_of_vc (x := ir29) (by kernel_rfl) rfl ?_
  refine Exists.intro _ (And.intro (IntWalk.u8_in _ hm) ?_)
  refine Exists.intro _ (And.intro (IntWalk.u8_in _ hp) ?_)
  refine Exists.intro _ (And.intro (IntWalk.u8_in _ hn) ?_)
  refine Exists.intro _ (And.intro rfl ?_)
  refine And.intro ⟨by decide, by decide⟩ ?_
  refine And.intro ⟨by decide, by decide⟩ ?_
  refine And.intro ⟨by decide, by decide⟩ ?_
  refine And.intro ⟨by decide, by decide⟩ ?_
  refine loop_up (fun k => ⟨[(1, .ptr 0 0), (2, .ptr 1 0), (3, .ptr 2 0), (4, .d (.int .i64 k))], [.cbox [.int .i64 m, .int .i64 p, .int .i64 n, .slice 1 ([b0, b1, b2, b3].map byt)], .box (List.replicate 16 (.d (.int .u8 0))), .box (dcells ((.int .u8 m : Data) :: .int .u8 p :: .int .u8 n :: .int .u8 4 :: ((([b0, b1, b2, b3].map byt).take k) ++ List.replicate 12 (Data.int .u8 0)).take 12))]⟩) 4 rfl ?_
  intro k hk
  match k, hk with
  | 0, _ =>
    refine And.intro rfl ?_
    refine ar_add (by decide) ?_
    refine Exists.intro (byt b0) (And.intro ⟨rfl, by decide, rfl⟩ ?_)
    refine And.intro ⟨by decide, by decide⟩ ?_
    refine ar_add (by decide) ?_
    exact ⟨by decide, rfl⟩
  | 1, _ =>
    refine And.intro rfl ?_
    refine ar_add (by decide) ?_
    refine Exists.intro (byt b1) (And.intro ⟨rfl, by decide, rfl⟩ ?_)
    refine And.intro ⟨by decide, by decide⟩ ?_
    refine ar_add (by decide) ?_
    exact ⟨by decide, rfl⟩
  | 2, _ =>
    refine And.intro rfl ?_
    refine ar_add (by decide) ?_
    refine Exists.intro (byt b2) (And.intro ⟨rfl, by decide, rfl⟩ ?_)
    refine And.intro ⟨by decide, by decide⟩ ?_
    refine ar_add (by decide) ?_
    exact ⟨by decide, rfl⟩
  | 3, _ =>
    refine And.intro rfl ?_
    refine ar_add (by decide) ?_
    refine Exists.intro (byt b3) (And.intro ⟨rfl, by decide, rfl⟩ ?_)
    refine And.intro ⟨by decide, by decide⟩ ?_
    refine ar_add (by decide) ?_
    exact ⟨by decide, rfl⟩
  | 4, _ =>
    refine And.intro rfl ?_
    exact rfl
  | _ + 5, h => exact absurd h (by omega)

theorem c29_5 (m p n : Int) (b0 b1 b2 b3 b4 : UInt8) (hm : 0 ≤ m ∧ m ≤ 255) (hp : 0 ≤ p ∧ p ≤ 255) (hn : 0 ≤ n ∧ n ≤ 255) : CallDet Tryz.prog 29 [.d (fr m p n [b0, b1, b2, b3, b4])] [.agg (blkC ⟨m, p, n, [b0, b1, b2, b3, b4]⟩)] := by
  refine call_of_vc (x := ir29) (by kernel_rfl) rfl ?_
  refine Exists.intro _ (And.intro (IntWalk.u8_in _ hm) ?_)
  refine Exists.intro _ (And.intro (IntWalk.u8_in _ hp) ?_)
  refine Exists.intro _ (And.intro (IntWalk.u8_in _ hn) ?_)
  refine Exists.intro _ (And.intro rfl ?_)
  refine And.intro ⟨by decide, by decide⟩ ?_
  refine And.intro ⟨by decide, by decide⟩ ?_
  refine And.intro ⟨by decide, by decide⟩ ?_
  refine And.intro ⟨by decide, by decide⟩ ?_
  refine loop_up (fun k => ⟨[(1, .ptr 0 0), (2, .ptr 1 0), (3, .ptr 2 0), (4, .d (.int .i64 k))], [.cbox [.int .i64 m, .int .i64 p, .int .i64 n, .slice 1 ([b0, b1, b2, b3, b4].map byt)], .box (List.replicate 16 (.d (.int .u8 0))), .box (dcells ((.int .u8 m : Data) :: .int .u8 p :: .int .u8 n :: .int .u8 5 :: ((([b0, b1, b2, b3, b4].map byt).take k) ++ List.replicate 12 (Data.int .u8 0)).take 12))]⟩) 5 rfl ?_
  intro k hk
  match k, hk with
  | 0, _ =>
    refine And.intro rfl ?_
    refine ar_add (by decide) ?_
    refine Exists.intro (byt b0) (And.intro ⟨rfl, by decide, rfl⟩ ?_)
    refine And.intro ⟨by decide, by decide⟩ ?_
    refine ar_add (by decide) ?_
    exact ⟨by decide, rfl⟩
  | 1, _ =>
    refine And.intro rfl ?_
    refine ar_add (by decide) ?_
    refine Exists.intro (byt b1) (And.intro ⟨rfl, by decide, rfl⟩ ?_)
    refine And.intro ⟨by decide, by decide⟩ ?_
    refine ar_add (by decide) ?_
    exact ⟨by decide, rfl⟩
  | 2, _ =>
    refine And.intro rfl ?_
    refine ar_add (by decide) ?_
    refine Exists.intro (byt b2) (And.intro ⟨rfl, by decide, rfl⟩ ?_)
    refine And.intro ⟨by decide, by decide⟩ ?_
    refine ar_add (by decide) ?_
    exact ⟨by decide, rfl⟩
  | 3, _ =>
    refine And.intro rfl ?_
    refine ar_add (by decide) ?_
    refine Exists.intro (byt b3) (And.intro ⟨rfl, by decide, rfl⟩ ?_)
    refine And.intro ⟨by decide, by decide⟩ ?_
    refine ar_add (by decide) ?_
    exact ⟨by decide, rfl⟩
  | 4, _ =>
    refine And.intro rfl ?_
    refine ar_add (by decide) ?_
    refine Exists.intro (byt b4) (And.intro ⟨rfl, by decide, rfl⟩ ?_)
    refine And.intro ⟨by decide, by decide⟩ ?_
    refine ar_add (by decide) ?_
    exact ⟨by decide, rfl⟩
  | 5, _ =>
    refine And.intro rfl ?_
    exact rfl
  | _ + 6, h => exact absurd h (by omega)

theorem c29_6 (m p n : Int) (b0 b1 b2 b3 b4 b5 : UInt8) (hm : 0 ≤ m ∧ m ≤ 255) (hp : 0 ≤ p ∧ p ≤ 255) (hn : 0 ≤ n ∧ n ≤ 255) : CallDet Tryz.prog 29 [.d (fr m p n [b0, b1, b2, b3, b4, b5])] [.agg (blkC ⟨m, p, n, [b0, b1, b2, b3, b4, b5]⟩)] := by
  refine call_of_vc (x := ir29) (by kernel_rfl) rfl ?_
  refine Exists.intro _ (And.intro (IntWalk.u8_in _ hm) ?_)
  refine Exists.intro _ (And.intro (IntWalk.u8_in _ hp) ?_)
  refine Exists.intro _ (And.intro (IntWalk.u8_in _ hn) ?_)
  refine Exists.intro _ (And.intro rfl ?_)
  refine And.intro ⟨by decide, by decide⟩ ?_
  refine And.intro ⟨by decide, by decide⟩ ?_
  refine And.intro ⟨by decide, by decide⟩ ?_
  refine And.intro ⟨by decide, by decide⟩ ?_
  refine loop_up (fun k => ⟨[(1, .ptr 0 0), (2, .ptr 1 0), (3, .ptr 2 0), (4, .d (.int .i64 k))], [.cbox [.int .i64 m, .int .i64 p, .int .i64 n, .slice 1 ([b0, b1, b2, b3, b4, b5].map byt)], .box (List.replicate 16 (.d (.int .u8 0))), .box (dcells ((.int .u8 m : Data) :: .int .u8 p :: .int .u8 n :: .int .u8 6 :: ((([b0, b1, b2, b3, b4, b5].map byt).take k) ++ List.replicate 12 (Data.int .u8 0)).take 12))]⟩) 6 rfl ?_
  intro k hk
  match k, hk with
  | 0, _ =>
    refine And.intro rfl ?_
    refine ar_add (by decide) ?_
    refine Exists.intro (byt b0) (And.intro ⟨rfl, by decide, rfl⟩ ?_)
    refine And.intro ⟨by decide, by decide⟩ ?_
    refine ar_add (by decide) ?_
    exact ⟨by decide, rfl⟩
  | 1, _ =>
    refine And.intro rfl ?_
    refine ar_add (by decide) ?_
    refine Exists.intro (byt b1) (And.intro ⟨rfl, by decide, rfl⟩ ?_)
    refine And.intro ⟨by decide, by decide⟩ ?_
    refine ar_add (by decide) ?_
    exact ⟨by decide, rfl⟩
  | 2, _ =>
    refine And.intro rfl ?_
    refine ar_add (by decide) ?_
    refine Exists.intro (byt b2) (And.intro ⟨rfl, by decide, rfl⟩ ?_)
    refine And.intro ⟨by decide, by decide⟩ ?_
    refine ar_add (by decide) ?_
    exact ⟨by decide, rfl⟩
  | 3, _ =>
    refine And.intro rfl ?_
    refine ar_add (by decide) ?_
    refine Exists.intro (byt b3) (And.intro ⟨rfl, by decide, rfl⟩ ?_)
    refine And.intro ⟨by decide, by decide⟩ ?_
    refine ar_add (by decide) ?_
    exact ⟨by decide, rfl⟩
  | 4, _ =>
    refine And.intro rfl ?_
    refine ar_add (by decide) ?_
    refine Exists.intro (byt b4) (And.intro ⟨rfl, by decide, rfl⟩ ?_)
    refine And.intro ⟨by decide, by decide⟩ ?_
    refine ar_add (by decide) ?_
    exact ⟨by decide, rfl⟩
  | 5, _ =>
    refine And.intro rfl ?_
    refine ar_add (by decide) ?_
    refine Exists.intro (byt b5) (And.intro ⟨rfl, by decide, rfl⟩ ?_)
    refine And.intro ⟨by decide, by decide⟩ ?_
    refine ar_add (by decide) ?_
    exact ⟨by decide, rfl⟩
  | 6, _ =>
    refine And.intro rfl ?_
    exact rfl
  | _ + 7, h => exact absurd h (by omega)

theorem c29_7 (m p n : Int) (b0 b1 b2 b3 b4 b5 b6 : UInt8) (hm : 0 ≤ m ∧ m ≤ 255) (hp : 0 ≤ p ∧ p ≤ 255) (hn : 0 ≤ n ∧ n ≤ 255) : CallDet Tryz.prog 29 [.d (fr m p n [b0, b1, b2, b3, b4, b5, b6])] [.agg (blkC ⟨m, p, n, [b0, b1, b2, b3, b4, b5, b6]⟩)] := by
  refine call_of_vc (x := ir29) (by kernel_rfl) rfl ?_
  refine Exists.intro _ (And.intro (IntWalk.u8_in _ hm) ?_)
  refine Exists.intro _ (And.intro (IntWalk.u8_in _ hp) ?_)
  refine Exists.intro _ (And.intro (IntWalk.u8_in _ hn) ?_)
  refine Exists.intro _ (And.intro rfl ?_)
  refine And.intro ⟨by decide, by decide⟩ ?_
  refine And.intro ⟨by decide, by decide⟩ ?_
  refine And.intro ⟨by decide, by decide⟩ ?_
  refine And.intro ⟨by decide, by decide⟩ ?_
  refine loop_up (fun k => ⟨[(1, .ptr 0 0), (2, .ptr 1 0), (3, .ptr 2 0), (4, .d (.int .i64 k))], [.cbox [.int .i64 m, .int .i64 p, .int .i64 n, .slice 1 ([b0, b1, b2, b3, b4, b5, b6].map byt)], .box (List.replicate 16 (.d (.int .u8 0))), .box (dcells ((.int .u8 m : Data) :: .int .u8 p :: .int .u8 n :: .int .u8 7 :: ((([b0, b1, b2, b3, b4, b5, b6].map byt).take k) ++ List.replicate 12 (Data.int .u8 0)).take 12))]⟩) 7 rfl ?_
  intro k hk
  match k, hk with
  | 0, _ =>
    refine And.intro rfl ?_
    refine ar_add (by decide) ?_
    refine Exists.intro (byt b0) (And.intro ⟨rfl, by decide, rfl⟩ ?_)
    refine And.intro ⟨by decide, by decide⟩ ?_
    refine ar_add (by decide) ?_
    exact ⟨by decide, rfl⟩
  | 1, _ =>
    refine And.intro rfl ?_
    refine ar_add (by decide) ?_
    refine Exists.intro (byt b1) (And.intro ⟨rfl, by decide, rfl⟩ ?_)
    refine And.intro ⟨by decide, by decide⟩ ?_
    refine ar_add (by decide) ?_
    exact ⟨by decide, rfl⟩
  | 2, _ =>
    refine And.intro rfl ?_
    refine ar_add (by decide) ?_
    refine Exists.intro (byt b2) (And.intro ⟨rfl, by decide, rfl⟩ ?_)
    refine And.intro ⟨by decide, by decide⟩ ?_
    refine ar_add (by decide) ?_
    exact ⟨by decide, rfl⟩
  | 3, _ =>
    refine And.intro rfl ?_
    refine ar_add (by decide) ?_
    refine Exists.intro (byt b3) (And.intro ⟨rfl, by decide, rfl⟩ ?_)
    refine And.intro ⟨by decide, by decide⟩ ?_
    refine ar_add (by decide) ?_
    exact ⟨by decide, rfl⟩
  | 4, _ =>
    refine And.intro rfl ?_
    refine ar_add (by decide) ?_
    refine Exists.intro (byt b4) (And.intro ⟨rfl, by decide, rfl⟩ ?_)
    refine And.intro ⟨by decide, by decide⟩ ?_
    refine ar_add (by decide) ?_
    exact ⟨by decide, rfl⟩
  | 5, _ =>
    refine And.intro rfl ?_
    refine ar_add (by decide) ?_
    refine Exists.intro (byt b5) (And.intro ⟨rfl, by decide, rfl⟩ ?_)
    refine And.intro ⟨by decide, by decide⟩ ?_
    refine ar_add (by decide) ?_
    exact ⟨by decide, rfl⟩
  | 6, _ =>
    refine And.intro rfl ?_
    refine ar_add (by decide) ?_
    refine Exists.intro (byt b6) (And.intro ⟨rfl, by decide, rfl⟩ ?_)
    refine And.intro ⟨by decide, by decide⟩ ?_
    refine ar_add (by decide) ?_
    exact ⟨by decide, rfl⟩
  | 7, _ =>
    refine And.intro rfl ?_
    exact rfl
  | _ + 8, h => exact absurd h (by omega)

theorem c29_8 (m p n : Int) (b0 b1 b2 b3 b4 b5 b6 b7 : UInt8) (hm : 0 ≤ m ∧ m ≤ 255) (hp : 0 ≤ p ∧ p ≤ 255) (hn : 0 ≤ n ∧ n ≤ 255) : CallDet Tryz.prog 29 [.d (fr m p n [b0, b1, b2, b3, b4, b5, b6, b7])] [.agg (blkC ⟨m, p, n, [b0, b1, b2, b3, b4, b5, b6, b7]⟩)] := by
  refine call_of_vc (x := ir29) (by kernel_rfl) rfl ?_
  refine Exists.intro _ (And.intro (IntWalk.u8_in _ hm) ?_)
  refine Exists.intro _ (And.intro (IntWalk.u8_in _ hp) ?_)
  refine Exists.intro _ (And.intro (IntWalk.u8_in _ hn) ?_)
  refine Exists.intro _ (And.intro rfl ?_)
  refine And.intro ⟨by decide, by decide⟩ ?_
  refine And.intro ⟨by decide, by decide⟩ ?_
  refine And.intro ⟨by decide, by decide⟩ ?_
  refine And.intro ⟨by decide, by decide⟩ ?_
  refine loop_up (fun k => ⟨[(1, .ptr 0 0), (2, .ptr 1 0), (3, .ptr 2 0), (4, .d (.int .i64 k))], [.cbox [.int .i64 m, .int .i64 p, .int .i64 n, .slice 1 ([b0, b1, b2, b3, b4, b5, b6, b7].map byt)], .box (List.replicate 16 (.d (.int .u8 0))), .box (dcells ((.int .u8 m : Data) :: .int .u8 p :: .int .u8 n :: .int .u8 8 :: ((([b0, b1, b2, b3, b4, b5, b6, b7].map byt).take k) ++ List.replicate 12 (Data.int .u8 0)).take 12))]⟩) 8 rfl ?_
  intro k hk
  match k, hk with
  | 0, _ =>
    refine And.intro rfl ?_
    refine ar_add (by decide) ?_
    refine Exists.intro (byt b0) (And.intro ⟨rfl, by decide, rfl⟩ ?_)
    refine And.intro ⟨by decide, by decide⟩ ?_
    refine ar_add (by decide) ?_
    exact ⟨by decide, rfl⟩
  | 1, _ =>
    refine And.intro rfl ?_
    refine ar_add (by decide) ?_
    refine Exists.intro (byt b1) (And.intro ⟨rfl, by decide, rfl⟩ ?_)
    refine And.intro ⟨by decide, by decide⟩ ?_
    refine ar_add (by decide) ?_
    exact ⟨by decide, rfl⟩
  | 2, _ =>
    refine And.intro rfl ?_
    refine ar_add (by decide) ?_
    refine Exists.intro (byt b2) (And.intro ⟨rfl, by decide, rfl⟩ ?_)
    refine And.intro ⟨by decide, by decide⟩ ?_
    refine ar_add (by decide) ?_
    exact ⟨by decide, rfl⟩
  | 3, _ =>
    refine And.intro rfl ?_
    refine ar_add (by decide) ?_
    refine Exists.intro (byt b3) (And.intro ⟨rfl, by decide, rfl⟩ ?_)
    refine And.intro ⟨by decide, by decide⟩ ?_
    refine ar_add (by decide) ?_
    exact ⟨by decide, rfl⟩
  | 4, _ =>
    refine And.intro rfl ?_
    refine ar_add (by decide) ?_
    refine Exists.intro (byt b4) (And.intro ⟨rfl, by decide, rfl⟩ ?_)
    refine And.intro ⟨by decide, by decide⟩ ?_
    refine ar_add (by decide) ?_
    exact ⟨by decide, rfl⟩
  | 5, _ =>
    refine And.intro rfl ?_
    refine ar_add (by decide) ?_
    refine Exists.intro (byt b5) (And.intro ⟨rfl, by decide, rfl⟩ ?_)
    refine And.intro ⟨by decide, by decide⟩ ?_
    refine ar_add (by decide) ?_
    exact ⟨by decide, rfl⟩
  | 6, _ =>
    refine And.intro rfl ?_
    refine ar_add (by decide) ?_
    refine Exists.intro (byt b6) (And.intro ⟨rfl, by decide, rfl⟩ ?_)
    refine And.intro ⟨by decide, by decide⟩ ?_
    refine ar_add (by decide) ?_
    exact ⟨by decide, rfl⟩
  | 7, _ =>
    refine And.intro rfl ?_
    refine ar_add (by decide) ?_
    refine Exists.intro (byt b7) (And.intro ⟨rfl, by decide, rfl⟩ ?_)
    refine And.intro ⟨by decide, by decide⟩ ?_
    refine ar_add (by decide) ?_
    exact ⟨by decide, rfl⟩
  | 8, _ =>
    refine And.intro rfl ?_
    exact rfl
  | _ + 9, h => exact absurd h (by omega)

theorem c29_9 (m p n : Int) (b0 b1 b2 b3 b4 b5 b6 b7 b8 : UInt8) (hm : 0 ≤ m ∧ m ≤ 255) (hp : 0 ≤ p ∧ p ≤ 255) (hn : 0 ≤ n ∧ n ≤ 255) : CallDet Tryz.prog 29 [.d (fr m p n [b0, b1, b2, b3, b4, b5, b6, b7, b8])] [.agg (blkC ⟨m, p, n, [b0, b1, b2, b3, b4, b5, b6, b7, b8]⟩)] := by
  refine call_of_vc (x := ir29) (by kernel_rfl) rfl ?_
  refine Exists.intro _ (And.intro (IntWalk.u8_in _ hm) ?_)
  refine Exists.intro _ (And.intro (IntWalk.u8_in _ hp) ?_)
  refine Exists.intro _ (And.intro (IntWalk.u8_in _ hn) ?_)
  refine Exists.intro _ (And.intro rfl ?_)
  refine And.intro ⟨by decide, by decide⟩ ?_
  refine And.intro ⟨by decide, by decide⟩ ?_
  refine And.intro ⟨by decide, by decide⟩ ?_
  refine And.intro ⟨by decide, by decide⟩ ?_
  refine loop_up (fun k => ⟨[(1, .ptr 0 0), (2, .ptr 1 0), (3, .ptr 2 0), (4, .d (.int .i64 k))], [.cbox [.int .i64 m, .int .i64 p, .int .i64 n, .slice 1 ([b0, b1, b2, b3, b4, b5, b6, b7, b8].map byt)], .box (List.replicate 16 (.d (.int .u8 0))), .box (dcells ((.int .u8 m : Data) :: .int .u8 p :: .int .u8 n :: .int .u8 9 :: ((([b0, b1, b2, b3, b4, b5, b6, b7, b8].map byt).take k) ++ List.replicate 12 (Data.int .u8 0)).take 12))]⟩) 9 rfl ?_
  intro k hk
  match k, hk with
  | 0, _ =>
    refine And.intro rfl ?_
    refine ar_add (by decide) ?_
    refine Exists.intro (byt b0) (And.intro ⟨rfl, by decide, rfl⟩ ?_)
    refine And.intro ⟨by decide, by decide⟩ ?_
    refine ar_add (by decide) ?_
    exact ⟨by decide, rfl⟩
  | 1, _ =>
    refine And.intro rfl ?_
    refine ar_add (by decide) ?_
    refine Exists.intro (byt b1) (And.intro ⟨rfl, by decide, rfl⟩ ?_)
    refine And.intro ⟨by decide, by decide⟩ ?_
    refine ar_add (by decide) ?_
    exact ⟨by decide, rfl⟩
  | 2, _ =>
    refine And.intro rfl ?_
    refine ar_add (by decide) ?_
    refine Exists.intro (byt b2) (And.intro ⟨rfl, by decide, rfl⟩ ?_)
    refine And.intro ⟨by decide, by decide⟩ ?_
    refine ar_add (by decide) ?_
    exact ⟨by decide, rfl⟩
  | 3, _ =>
    refine And.intro rfl ?_
    refine ar_add (by decide) ?_
    refine Exists.intro (byt b3) (And.intro ⟨rfl, by decide, rfl⟩ ?_)
    refine And.intro ⟨by decide, by decide⟩ ?_
    refine ar_add (by decide) ?_
    exact ⟨by decide, rfl⟩
  | 4, _ =>
    refine And.intro rfl ?_
    refine ar_add (by decide) ?_
    refine Exists.intro (byt b4) (And.intro ⟨rfl, by decide, rfl⟩ ?_)
    refine And.intro ⟨by decide, by decide⟩ ?_
    refine ar_add (by decide) ?_
    exact ⟨by decide, rfl⟩
  | 5, _ =>
    refine And.intro rfl ?_
    refine ar_add (by decide) ?_
    refine Exists.intro (byt b5) (And.intro ⟨rfl, by decide, rfl⟩ ?_)
    refine And.intro ⟨by decide, by decide⟩ ?_
    refine ar_add (by decide) ?_
    exact ⟨by decide, rfl⟩
  | 6, _ =>
    refine And.intro rfl ?_
    refine ar_add (by decide) ?_
    refine Exists.intro (byt b6) (And.intro ⟨rfl, by decide, rfl⟩ ?_)
    refine And.intro ⟨by decide, by decide⟩ ?_
    refine ar_add (by decide) ?_
    exact ⟨by decide, rfl⟩
  | 7, _ =>
    refine And.intro rfl ?_
    refine ar_add (by decide) ?_
    refine Exists.intro (byt b7) (And.intro ⟨rfl, by decide, rfl⟩ ?_)
    refine And.intro ⟨by decide, by decide⟩ ?_
    refine ar_add (by decide) ?_
    exact ⟨by decide, rfl⟩
  | 8, _ =>
    refine And.intro rfl ?_
    refine ar_add (by decide) ?_
    refine Exists.intro (byt b8) (And.intro ⟨rfl, by decide, rfl⟩ ?_)
    refine And.intro ⟨by decide, by decide⟩ ?_
    refine ar_add (by decide) ?_
    exact ⟨by decide, rfl⟩
  | 9, _ =>
    refine And.intro rfl ?_
    exact rfl
  | _ + 10, h => exact absurd h (by omega)

theorem c29_10 (m p n : Int) (b0 b1 b2 b3 b4 b5 b6 b7 b8 b9 : UInt8) (hm : 0 ≤ m ∧ m ≤ 255) (hp : 0 ≤ p ∧ p ≤ 255) (hn : 0 ≤ n ∧ n ≤ 255) : CallDet Tryz.prog 29 [.d (fr m p n [b0, b1, b2, b3, b4, b5, b6, b7, b8, b9])] [.agg (blkC ⟨m, p, n, [b0, b1, b2, b3, b4, b5, b6, b7, b8, b9]⟩)] := by
  refine call_of_vc (x := ir29) (by kernel_rfl) rfl ?_
  refine Exists.intro _ (And.intro (IntWalk.u8_in _ hm) ?_)
  refine Exists.intro _ (And.intro (IntWalk.u8_in _ hp) ?_)
  refine Exists.intro _ (And.intro (IntWalk.u8_in _ hn) ?_)
  refine Exists.intro _ (And.intro rfl ?_)
  refine And.intro ⟨by decide, by decide⟩ ?_
  refine And.intro ⟨by decide, by decide⟩ ?_
  refine And.intro ⟨by decide, by decide⟩ ?_
  refine And.intro ⟨by decide, by decide⟩ ?_
  refine loop_up (fun k => ⟨[(1, .ptr 0 0), (2, .ptr 1 0), (3, .ptr 2 0), (4, .d (.int .i64 k))], [.cbox [.int .i64 m, .int .i64 p, .int .i64 n, .slice 1 ([b0, b1, b2, b3, b4, b5, b6, b7, b8, b9].map byt)], .box (List.replicate 16 (.d (.int .u8 0))), .box (dcells ((.int .u8 m : Data) :: .int .u8 p :: .int .u8 n :: .int .u8 10 :: ((([b0, b1, b2, b3, b4, b5, b6, b7, b8, b9].map byt).take k) ++ List.replicate 12 (Data.int .u8 0)).take 12))]⟩) 10 rfl ?_
  intro k hk
  match k, hk with
  | 0, _ =>
    refine And.intro rfl ?_
    refine ar_add (by decide) ?_
    refine Exists.intro (byt b0) (And.intro ⟨rfl, by decide, rfl⟩ ?_)
    refine And.intro ⟨by decide, by decide⟩ ?_
    refine ar_add (by decide) ?_
    exact ⟨by decide, rfl⟩
  | 1, _ =>
    refine And.intro rfl ?_
    refine ar_add (by decide) ?_
    refine Exists.intro (byt b1) (And.intro ⟨rfl, by decide, rfl⟩ ?_)
    refine And.intro ⟨by decide, by decide⟩ ?_
    refine ar_add (by decide) ?_
    exact ⟨by decide, rfl⟩
  | 2, _ =>
    refine And.intro rfl ?_
    refine ar_add (by decide) ?_
    refine Exists.intro (byt b2) (And.intro ⟨rfl, by decide, rfl⟩ ?_)
    refine And.intro ⟨by decide, by decide⟩ ?_
    refine ar_add (by decide) ?_
    exact ⟨by decide, rfl⟩
  | 3, _ =>
    refine And.intro rfl ?_
    refine ar_add (by decide) ?_
    refine Exists.intro (byt b3) (And.intro ⟨rfl, by decide, rfl⟩ ?_)
    refine And.intro ⟨by decide, by decide⟩ ?_
    refine ar_add (by decide) ?_
    exact ⟨by decide, rfl⟩
  | 4, _ =>
    refine And.intro rfl ?_
    refine ar_add (by decide) ?_
    refine Exists.intro (byt b4) (And.intro ⟨rfl, by decide, rfl⟩ ?_)
    refine And.intro ⟨by decide, by decide⟩ ?_
    refine ar_add (by decide) ?_
    exact ⟨by decide, rfl⟩
  | 5, _ =>
    refine And.intro rfl ?_
    refine ar_add (by decide) ?_
    refine Exists.intro (byt b5) (And.intro ⟨rfl, by decide, rfl⟩ ?_)
    refine And.intro ⟨by decide, by decide⟩ ?_
    refine ar_add (by decide) ?_
    exact ⟨by decide, rfl⟩
  | 6, _ =>
    refine And.intro rfl ?_
    refine ar_add (by decide) ?_
    refine Exists.intro (byt b6) (And.intro ⟨rfl, by decide, rfl⟩ ?_)
    refine And.intro ⟨by decide, by decide⟩ ?_
    refine ar_add (by decide) ?_
    exact ⟨by decide, rfl⟩
  | 7, _ =>
    refine And.intro rfl ?_
    refine ar_add (by decide) ?_
    refine Exists.intro (byt b7) (And.intro ⟨rfl, by decide, rfl⟩ ?_)
    refine And.intro ⟨by decide, by decide⟩ ?_
    refine ar_add (by decide) ?_
    exact ⟨by decide, rfl⟩
  | 8, _ =>
    refine And.intro rfl ?_
    refine ar_add (by decide) ?_
    refine Exists.intro (byt b8) (And.intro ⟨rfl, by decide, rfl⟩ ?_)
    refine And.intro ⟨by decide, by decide⟩ ?_
    refine ar_add (by decide) ?_
    exact ⟨by decide, rfl⟩
  | 9, _ =>
    refine And.intro rfl ?_
    refine ar_add (by decide) ?_
    refine Exists.intro (byt b9) (And.intro ⟨rfl, by decide, rfl⟩ ?_)
    refine And.intro ⟨by decide, by decide⟩ ?_
    refine ar_add (by decide) ?_
    exact ⟨by decide, rfl⟩
  | 10, _ =>
    refine And.intro rfl ?_
    exact rfl
  | _ + 11, h => exact absurd h (by omega)

theorem c29_11 (m p n : Int) (b0 b1 b2 b3 b4 b5 b6 b7 b8 b9 b10 : UInt8) (hm : 0 ≤ m ∧ m ≤ 255) (hp : 0 ≤ p ∧ p ≤ 255) (hn : 0 ≤ n ∧ n ≤ 255) : CallDet Tryz.prog 29 [.d (fr m p n [b0, b1, b2, b3, b4, b5, b6, b7, b8, b9, b10])] [.agg (blkC ⟨m, p, n, [b0, b1, b2, b3, b4, b5, b6, b7, b8, b9, b10]⟩)] := by
  refine call_of_vc (x := ir29) (by kernel_rfl) rfl ?_
  refine Exists.intro _ (And.intro (IntWalk.u8_in _ hm) ?_)
  refine Exists.intro _ (And.intro (IntWalk.u8_in _ hp) ?_)
  refine Exists.intro _ (And.intro (IntWalk.u8_in _ hn) ?_)
  refine Exists.intro _ (And.intro rfl ?_)
  refine And.intro ⟨by decide, by decide⟩ ?_
  refine And.intro ⟨by decide, by decide⟩ ?_
  refine And.intro ⟨by decide, by decide⟩ ?_
  refine And.intro ⟨by decide, by decide⟩ ?_
  refine loop_up (fun k => ⟨[(1, .ptr 0 0), (2, .ptr 1 0), (3, .ptr 2 0), (4, .d (.int .i64 k))], [.cbox [.int .i64 m, .int .i64 p, .int .i64 n, .slice 1 ([b0, b1, b2, b3, b4, b5, b6, b7, b8, b9, b10].map byt)], .box (List.replicate 16 (.d (.int .u8 0))), .box (dcells ((.int .u8 m : Data) :: .int .u8 p :: .int .u8 n :: .int .u8 11 :: ((([b0, b1, b2, b3, b4, b5, b6, b7, b8, b9, b10].map byt).take k) ++ List.replicate 12 (Data.int .u8 0)).take 12))]⟩) 11 rfl ?_
  intro k hk
  match k, hk with
  | 0, _ =>
    refine And.intro rfl ?_
    refine ar_add (by decide) ?_
    refine Exists.intro (byt b0) (And.intro ⟨rfl, by decide, rfl⟩ ?_)
    refine And.intro ⟨by decide, by decide⟩ ?_
    refine ar_add (by decide) ?_
    exact ⟨by decide, rfl⟩
  | 1, _ =>
    refine And.intro rfl ?_
    refine ar_add (by decide) ?_
    refine Exists.intro (byt b1) (And.intro ⟨rfl, by decide, rfl⟩ ?_)
    refine And.intro ⟨by decide, by decide⟩ ?_
    refine ar_add (by decide) ?_
    exact ⟨by decide, rfl⟩
  | 2, _ =>
    refine And.intro rfl ?_
    refine ar_add (by decide) ?_
    refine Exists.intro (byt b2) (And.intro ⟨rfl, by decide, rfl⟩ ?_)
    refine And.intro ⟨by decide, by decide⟩ ?_
    refine ar_add (by decide) ?_
    exact ⟨by decide, rfl⟩
  | 3, _ =>
    refine And.intro rfl ?_
    refine ar_add (by decide) ?_
    refine Exists.intro (byt b3) (And.intro ⟨rfl, by decide, rfl⟩ ?_)
    refine And.intro ⟨by decide, by decide⟩ ?_
    refine ar_add (by decide) ?_
    exact ⟨by decide, rfl⟩
  | 4, _ =>
    refine And.intro rfl ?_
    refine ar_add (by decide) ?_
    refine Exists.intro (byt b4) (And.intro ⟨rfl, by decide, rfl⟩ ?_)
    refine And.intro ⟨by decide, by decide⟩ ?_
    refine ar_add (by decide) ?_
    exact ⟨by decide, rfl⟩
  | 5, _ =>
    refine And.intro rfl ?_
    refine ar_add (by decide) ?_
    refine Exists.intro (byt b5) (And.intro ⟨rfl, by decide, rfl⟩ ?_)
    refine And.intro ⟨by decide, by decide⟩ ?_
    refine ar_add (by decide) ?_
    exact ⟨by decide, rfl⟩
  | 6, _ =>
    refine And.intro rfl ?_
    refine ar_add (by decide) ?_
    refine Exists.intro (byt b6) (And.intro ⟨rfl, by decide, rfl⟩ ?_)
    refine And.intro ⟨by decide, by decide⟩ ?_
    refine ar_add (by decide) ?_
    exact ⟨by decide, rfl⟩
  | 7, _ =>
    refine And.intro rfl ?_
    refine ar_add (by decide) ?_
    refine Exists.intro (byt b7) (And.intro ⟨rfl, by decide, rfl⟩ ?_)
    refine And.intro ⟨by decide, by decide⟩ ?_
    refine ar_add (by decide) ?_
    exact ⟨by decide, rfl⟩
  | 8, _ =>
    refine And.intro rfl ?_
    refine ar_add (by decide) ?_
    refine Exists.intro (byt b8) (And.intro ⟨rfl, by decide, rfl⟩ ?_)
    refine And.intro ⟨by decide, by decide⟩ ?_
    refine ar_add (by decide) ?_
    exact ⟨by decide, rfl⟩
  | 9, _ =>
    refine And.intro rfl ?_
    refine ar_add (by decide) ?_
    refine Exists.intro (byt b9) (And.intro ⟨rfl, by decide, rfl⟩ ?_)
    refine And.intro ⟨by decide, by decide⟩ ?_
    refine ar_add (by decide) ?_
    exact ⟨by decide, rfl⟩
  | 10, _ =>
    refine And.intro rfl ?_
    refine ar_add (by decide) ?_
    refine Exists.intro (byt b10) (And.intro ⟨rfl, by decide, rfl⟩ ?_)
    refine And.intro ⟨by decide, by decide⟩ ?_
    refine ar_add (by decide) ?_
    exact ⟨by decide, rfl⟩
  | 11, _ =>
    refine And.intro rfl ?_
    exact rfl
  | _ + 12, h => exact absurd h (by omega)

theorem c29_12 (m p n : Int) (b0 b1 b2 b3 b4 b5 b6 b7 b8 b9 b10 b11 : UInt8) (hm : 0 ≤ m ∧ m ≤ 255) (hp : 0 ≤ p ∧ p ≤ 255) (hn : 0 ≤ n ∧ n ≤ 255) : CallDet Tryz.prog 29 [.d (fr m p n [b0, b1, b2, b3, b4, b5, b6, b7, b8, b9, b10, b11])] [.agg (blkC ⟨m, p, n, [b0, b1, b2, b3, b4, b5, b6, b7, b8, b9, b10, b11]⟩)] := by
  refine call_of_vc (x := ir29) (by kernel_rfl) rfl ?_
  refine Exists.intro _ (And.intro (IntWalk.u8_in _ hm) ?_)
  refine Exists.intro _ (And.intro (IntWalk.u8_in _ hp) ?_)
  refine Exists.intro _ (And.intro (IntWalk.u8_in _ hn) ?_)
  refine Exists.intro _ (And.intro rfl ?_)
  refine And.intro ⟨by decide, by decide⟩ ?_
  refine And.intro ⟨by decide, by decide⟩ ?_
  refine And.intro ⟨by decide, by decide⟩ ?_
  refine And.intro ⟨by decide, by decide⟩ ?_
  refine loop_up (fun k => ⟨[(1, .ptr 0 0), (2, .ptr 1 0), (3, .ptr 2 0), (4, .d (.int .i64 k))], [.cbox [.int .i64 m, .int .i64 p, .int .i64 n, .slice 1 ([b0, b1, b2, b3, b4, b5, b6, b7, b8, b9, b10, b11].map byt)], .box (List.replicate 16 (.d (.int .u8 0))), .box (dcells ((.int .u8 m : Data) :: .int .u8 p :: .int .u8 n :: .int .u8 12 :: ((([b0, b1, b2, b3, b4, b5, b6, b7, b8, b9, b10, b11].map byt).take k) ++ List.replicate 12 (Data.int .u8 0)).take 12))]⟩) 12 rfl ?_
  intro k hk
  match k, hk with
  | 0, _ =>
    refine And.intro rfl ?_
    refine ar_add (by decide) ?_
    refine Exists.intro (byt b0) (And.intro ⟨rfl, by decide, rfl⟩ ?_)
    refine And.intro ⟨by decide, by decide⟩ ?_
    refine ar_add (by decide) ?_
    exact ⟨by decide, rfl⟩
  | 1, _ =>
    refine And.intro rfl ?_
    refine ar_add (by decide) ?_
    refine Exists.intro (byt b1) (And.intro ⟨rfl, by decide, rfl⟩ ?_)
    refine And.intro ⟨by decide, by decide⟩ ?_
    refine ar_add (by decide) ?_
    exact ⟨by decide, rfl⟩
  | 2, _ =>
    refine And.intro rfl ?_
    refine ar_add (by decide) ?_
    refine Exists.intro (byt b2) (And.intro ⟨rfl, by decide, rfl⟩ ?_)
    refine And.intro ⟨by decide, by decide⟩ ?_
    refine ar_add (by decide) ?_
    exact ⟨by decide, rfl⟩
  | 3, _ =>
    refine And.intro rfl ?_
    refine ar_add (by decide) ?_
    refine Exists.intro (byt b3) (And.intro ⟨rfl, by decide, rfl⟩ ?_)
    refine And.intro ⟨by decide, by decide⟩ ?_
    refine ar_add (by decide) ?_
    exact ⟨by decide, rfl⟩
  | 4, _ =>
    refine And.intro rfl ?_
    refine ar_add (by decide) ?_
    refine Exists.intro (byt b4) (And.intro ⟨rfl, by decide, rfl⟩ ?_)
    refine And.intro ⟨by decide, by decide⟩ ?_
    refine ar_add (by decide) ?_
    exact ⟨by decide, rfl⟩
  | 5, _ =>
    refine And.intro rfl ?_
    refine ar_add (by decide) ?_
    refine Exists.intro (byt b5) (And.intro ⟨rfl, by decide, rfl⟩ ?_)
    refine And.intro ⟨by decide, by decide⟩ ?_
    refine ar_add (by decide) ?_
    exact ⟨by decide, rfl⟩
  | 6, _ =>
    refine And.intro rfl ?_
    refine ar_add (by decide) ?_
    refine Exists.intro (byt b6) (And.intro ⟨rfl, by decide, rfl⟩ ?_)
    refine And.intro ⟨by decide, by decide⟩ ?_
    refine ar_add (by decide) ?_
    exact ⟨by decide, rfl⟩
  | 7, _ =>
    refine And.intro rfl ?_
    refine ar_add (by decide) ?_
    refine Exists.intro (byt b7) (And.intro ⟨rfl, by decide, rfl⟩ ?_)
    refine And.intro ⟨by decide, by decide⟩ ?_
    refine ar_add (by decide) ?_
    exact ⟨by decide, rfl⟩
  | 8, _ =>
    refine And.intro rfl ?_
    refine ar_add (by decide) ?_
    refine Exists.intro (byt b8) (And.intro ⟨rfl, by decide, rfl⟩ ?_)
    refine And.intro ⟨by decide, by decide⟩ ?_
    refine ar_add (by decide) ?_
    exact ⟨by decide, rfl⟩
  | 9, _ =>
    refine And.intro rfl ?_
    refine ar_add (by decide) ?_
    refine Exists.intro (byt b9) (And.intro ⟨rfl, by decide, rfl⟩ ?_)
    refine And.intro ⟨by decide, by decide⟩ ?_
    refine ar_add (by decide) ?_
    exact ⟨by decide, rfl⟩
  | 10, _ =>
    refine And.intro rfl ?_
    refine ar_add (by decide) ?_
    refine Exists.intro (byt b10) (And.intro ⟨rfl, by decide, rfl⟩ ?_)
    refine And.intro ⟨by decide, by decide⟩ ?_
    refine ar_add (by decide) ?_
    exact ⟨by decide, rfl⟩
  | 11, _ =>
    refine And.intro rfl ?_
    refine ar_add (by decide) ?_
    refine Exists.intro (byt b11) (And.intro ⟨rfl, by decide, rfl⟩ ?_)
    refine And.intro ⟨by decide, by decide⟩ ?_
    refine ar_add (by decide) ?_
    exact ⟨by decide, rfl⟩
  | 12, _ =>
    refine And.intro rfl ?_
    exact rfl
  | _ + 13, h => exact absurd h (by omega)

theorem c88 (f : Fr) (h : f.check = 0) : CallDet Tryz.prog 88 [.d f.d] [.agg (blkC f)] := by
  obtain ⟨m, p, n, b⟩ := f
  obtain ⟨hm, hn, hp, hb⟩ := check_zero (m := m) (p := p) (n := n) (len := b.length) h
  have hn' : 0 ≤ n ∧ n ≤ 255 := by omega
  have hp' : 0 ≤ p ∧ p ≤ 255 := by omega
  match b, hb with
  | [], _ => exact c88_0 m p n  hm hp' hn'
  | [b0], _ => exact c88_1 m p n b0 hm hp' hn'
  | [b0, b1], _ => exact c88_2 m p n b0 b1 hm hp' hn'
  | [b0, b1, b2], _ => exact c88_3 m p n b0 b1 b2 hm hp' hn'
  | [b0, b1, b2, b3], _ => exact c88_4 m p n b0 b1 b2 b3 hm hp' hn'
  | [b0, b1, b2, b3, b4], _ => exact c88_5 m p n b0 b1 b2 b3 b4 hm hp' hn'
  | [b0, b1, b2, b3, b4, b5], _ => exact c88_6 m p n b0 b1 b2 b3 b4 b5 hm hp' hn'
  | [b0, b1, b2, b3, b4, b5, b6], _ => exact c88_7 m p n b0 b1 b2 b3 b4 b5 b6 hm hp' hn'
  | [b0, b1, b2, b3, b4, b5, b6, b7], _ => exact c88_8 m p n b0 b1 b2 b3 b4 b5 b6 b7 hm hp' hn'
  | [b0, b1, b2, b3, b4, b5, b6, b7, b8], _ => exact c88_9 m p n b0 b1 b2 b3 b4 b5 b6 b7 b8 hm hp' hn'
  | [b0, b1, b2, b3, b4, b5, b6, b7, b8, b9], _ => exact c88_10 m p n b0 b1 b2 b3 b4 b5 b6 b7 b8 b9 hm hp' hn'
  | [b0, b1, b2, b3, b4, b5, b6, b7, b8, b9, b10], _ => exact c88_11 m p n b0 b1 b2 b3 b4 b5 b6 b7 b8 b9 b10 hm hp' hn'
  | [b0, b1, b2, b3, b4, b5, b6, b7, b8, b9, b10, b11], _ => exact c88_12 m p n b0 b1 b2 b3 b4 b5 b6 b7 b8 b9 b10 b11 hm hp' hn'
  | _ :: _ :: _ :: _ :: _ :: _ :: _ :: _ :: _ :: _ :: _ :: _ :: _ :: _, h => simp at h

theorem c29 (f : Fr) (h : f.check = 0) : CallDet Tryz.prog 29 [.d f.d] [.agg (blkC f)] := by
  obtain ⟨m, p, n, b⟩ := f
  obtain ⟨hm, hn, hp, hb⟩ := check_zero (m := m) (p := p) (n := n) (len := b.length) h
  have hn' : 0 ≤ n ∧ n ≤ 255 := by omega
  have hp' : 0 ≤ p ∧ p ≤ 255 := by omega
  match b, hb with
  | [], _ => exact c29_0 m p n  hm hp' hn'
  | [b0], _ => exact c29_1 m p n b0 hm hp' hn'
  | [b0, b1], _ => exact c29_2 m p n b0 b1 hm hp' hn'
  | [b0, b1, b2], _ => exact c29_3 m p n b0 b1 b2 hm hp' hn'
  | [b0, b1, b2, b3], _ => exact c29_4 m p n b0 b1 b2 b3 hm hp' hn'
  | [b0, b1, b2, b3, b4], _ => exact c29_5 m p n b0 b1 b2 b3 b4 hm hp' hn'
  | [b0, b1, b2, b3, b4, b5], _ => exact c29_6 m p n b0 b1 b2 b3 b4 b5 hm hp' hn'
  | [b0, b1, b2, b3, b4, b5, b6], _ => exact c29_7 m p n b0 b1 b2 b3 b4 b5 b6 hm hp' hn'
  | [b0, b1, b2, b3, b4, b5, b6, b7], _ => exact c29_8 m p n b0 b1 b2 b3 b4 b5 b6 b7 hm hp' hn'
  | [b0, b1, b2, b3, b4, b5, b6, b7, b8], _ => exact c29_9 m p n b0 b1 b2 b3 b4 b5 b6 b7 b8 hm hp' hn'
  | [b0, b1, b2, b3, b4, b5, b6, b7, b8, b9], _ => exact c29_10 m p n b0 b1 b2 b3 b4 b5 b6 b7 b8 b9 hm hp' hn'
  | [b0, b1, b2, b3, b4, b5, b6, b7, b8, b9, b10], _ => exact c29_11 m p n b0 b1 b2 b3 b4 b5 b6 b7 b8 b9 b10 hm hp' hn'
  | [b0, b1, b2, b3, b4, b5, b6, b7, b8, b9, b10, b11], _ => exact c29_12 m p n b0 b1 b2 b3 b4 b5 b6 b7 b8 b9 b10 b11 hm hp' hn'
  | _ :: _ :: _ :: _ :: _ :: _ :: _ :: _ :: _ :: _ :: _ :: _ :: _ :: _, h => simp at h

def packC (f : Fr) : List Data := match f.check != 0 with
  | true => List.replicate 16 (.int .u8 0)
  | false => blkC f
theorem c26 (f : Fr) : CallDet Tryz.prog 26 [.d f.d] [.agg (packC f), .int .i64 f.check] := by
  refine call_of_vc (x := ir26) (by kernel_rfl) rfl ?_
  refine Exists.intro _ (And.intro (c30 f.m f.p f.n f.b) ?_)
  refine And.intro rfl ?_
  refine brk_intro ?_ ?_
  · intro h
    have h : (f.check != 0) = true := h
    rw [packC, h]
    exact rfl
  · intro h
    have h : (f.check != 0) = false := h
    have h0 : f.check = 0 := by simpa using h
    refine Exists.intro _ (And.intro (c88 f h0) ?_)
    rw [packC, h, h0]
    exact rfl
end Vc

