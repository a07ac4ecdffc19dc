import Derived.Test.YtfkljdokkfgifaaGreatDoorXa
import Derived.Laws.RangeAny
set_option linter.unusedSectionVars false
set_option linter.unusedVariables false
set_option linter.unusedSimpArgs false
set_option maxRecDepth 10000
namespace Vc
open Go Go.Proofs
/-! Stations: names. -/
theorem brk_le {a b : Int} {x y : Prop} (h1 : a ≤ b → x) (h2 : ¬ a ≤ b → y) : brk (decide (a ≤ b)) x y :=
  brk_intro (fun h => h1 (of_decide_eq_true h)) (fun h => h2 (of_decide_eq_false h))
theorem brk_lt {a b : Int} {x y : Prop} (h1 : a < b → x) (h2 : ¬ a < b → y) : brk (decide (a < b)) x y :=
  brk_intro (fun h => h1 (of_decide_eq_true h)) (fun h => h2 (of_decide_eq_false h))
theorem brk_eq {a b : Int} {x y : Prop} (h1 : a = b → x) (h2 : ¬ a = b → y) : brk (a == b) x y :=
  brk_intro (fun h => h1 (eq_of_beq h)) (fun h => h2 (ne_of_beq_false h))
theorem brk_ne {a b : Int} {x y : Prop} (h1 : ¬ a = b → x) (h2 : a = b → y) : brk (a != b) x y :=
  brk_intro (fun h => h1 (by simpa using h)) (fun h => h2 (by simpa using h))
theorem brk_nle {a b : Int} {x y : Prop} (h1 : ¬ a ≤ b → x) (h2 : a ≤ b → y) : brk (!(decide (a ≤ b))) x y :=
  brk_intro (fun h => h1 (by simpa using h)) (fun h => h2 (by simpa using h))
theorem brk_nlt {a b : Int} {x y : Prop} (h1 : ¬ a < b → x) (h2 : a < b → y) : brk (!(decide (a < b))) x y :=
  brk_intro (fun h => h1 (by simpa using h)) (fun h => h2 (by simpa using h))
structure Stn where
  nm : List UInt8
  pri : Int
  fr : Int
  wt : Int
def Stn.d (x : Stn) : Data := .agg [.str x.nm, .int .i64 x.pri, .int .i64 x.fr, .int .i64 x.wt]
def stns (l : List Stn) : List Data := l.map Stn.d
theorem stns_len (l : List Stn) : (stns l).length = l.length := List.length_map _
def okP (k : Nat) (c : Int) : Prop := (97 ≤ c ∧ c ≤ 122) ∨ (65 ≤ c ∧ c ≤ 90) ∨ (k ≠ 0 ∧ ((48 ≤ c ∧ c ≤ 57) ∨ c = 95))
instance (k : Nat) (c : Int) : Decidable (okP k c) := by unfold okP; infer_instance
def nmGo : Nat → List UInt8 → Bool
  | _, [] => true
  | k, c :: r => decide (okP k c.toNat) && nmGo (k + 1) r
def isNm (l : List UInt8) : Bool := (l != []) && (decide ((l.length : Int) ≤ 24) && nmGo 0 l)
theorem decA_ascii {l : List UInt8} {pos : Nat} {c : UInt8} (h : l[pos]? = some c) (hc : c.toNat < 128) : decA l pos = (c.toNat, 1) := by
  obtain ⟨hl, e⟩ := List.getElem?_eq_some_iff.1 h
  have e2 : ((⟨l.toArray⟩ : ByteArray)[pos]'hl) = c := e
  have := decode_ascii (⟨l.toArray⟩ : ByteArray) pos hl (by rw [e2]; exact hc)
  rw [e2] at this
  exact this
theorem decA_high {l : List UInt8} {pos : Nat} {c : UInt8} (h : l[pos]? = some c) (hc : 128 ≤ c.toNat) : 128 ≤ (decA l pos).1 ∧ 1 ≤ (decA l pos).2 := by
  obtain ⟨hl, e⟩ := List.getElem?_eq_some_iff.1 h
  have e2 : ((⟨l.toArray⟩ : ByteArray)[pos]'hl) = c := e
  exact decode_high (⟨l.toArray⟩ : ByteArray) pos hl (by rw [e2]; exact hc)
theorem nmGo_at {l : List UInt8} {k : Nat} {c : UInt8} (h : l[k]? = some c) : nmGo k (l.drop k) = (decide (okP k c.toNat) && nmGo (k + 1) (l.drop (k + 1))) := by
  obtain ⟨hl, e⟩ := List.getElem?_eq_some_iff.1 h
  rw [List.drop_eq_getElem_cons hl, e]; rfl
theorem nm_bad {l : List UInt8} {k : Nat} {c : UInt8} (h : l[k]? = some c) (hi : nmGo 0 l = nmGo k (l.drop k)) (hn : ¬ okP k c.toNat) : resV [.bool false] = resV [.bool (isNm l)] := by
  unfold isNm
  rw [hi, nmGo_at h, decide_eq_false hn]; simp
theorem nm_step {l : List UInt8} {k : Nat} {c : UInt8} (h : l[k]? = some c) (hi : nmGo 0 l = nmGo k (l.drop k)) (hn : okP k c.toNat) : nmGo 0 l = nmGo (k + 1) (l.drop (k + 1)) := by
  rw [hi, nmGo_at h, decide_eq_true hn]; rfl
theorem nm_end {l : List UInt8} {k : Nat} (hk : l.length ≤ k) (hi : nmGo 0 l = nmGo k (l.drop k)) : isNm l = ((l != []) && decide ((l.length : Int) ≤ 24)) := by
  unfold isNm
  rw [hi, List.drop_eq_nil_of_le hk]; simp [nmGo]
/-- kilovar/carrier.IsName -/
def ir114 : AFun := ⟨51, 1, [.tmp 2],
 (.seq
 (.reg [] [⟨some 2, .mov (.cst (.d (.bool false))), none⟩])
 (.seq
 (.seq
 (.reg [0] [⟨some 6, .mov (.tmp 0), none⟩,
 ⟨some 7, .rng 0 (.tmp 6), none⟩])
 (.post [0] [0]
 (.block 0
 (.keep [0, 7] [0]
 (.loop
 (.post [0, 7] []
 (.seq
 (.reg [] [⟨some 8, .nxt (.tmp 7), none⟩,
 ⟨some 9, .ext 0 (.tmp 8), none⟩])
 (.seq
 (.cond (.tmp 9)
 .skip
 (.exit 0))
 (.block 1
 (.seq
 (.reg [] [⟨some 10, .ext 1 (.tmp 8), none⟩,
 ⟨some 11, .ext 2 (.tmp 8), none⟩,
 ⟨some 3, .mov (.tmp 10), none⟩,
 ⟨some 4, .mov (.tmp 11), none⟩])
 (.seq
 (.reg [] [⟨some 12, .mov (.tmp 4), none⟩,
 ⟨some 13, .cmp .geq (.tmp 12) (.cst (.d (.int .i32 97))), none⟩,
 ⟨some 14, .mov (.tmp 13), none⟩,
 ⟨some 15, .mov (.tmp 4), some (14, true)⟩,
 ⟨some 16, .cmp .leq (.tmp 15) (.cst (.d (.int .i32 122))), some (14, true)⟩,
 ⟨some 17, .pick (.tmp 14) (.tmp 16) (.cst (.d (.bool false))), none⟩,
 ⟨some 18, .mov (.tmp 17), none⟩,
 ⟨some 19, .mov (.tmp 4), some (18, false)⟩,
 ⟨some 20, .cmp .geq (.tmp 19) (.cst (.d (.int .i32 65))), some (18, false)⟩,
 ⟨some 21, .mov (.tmp 20), some (18, false)⟩,
 ⟨some 22, .mov (.tmp 4), some (21, true)⟩,
 ⟨some 23, .cmp .leq (.tmp 22) (.cst (.d (.int .i32 90))), some (21, true)⟩,
 ⟨some 24, .pick (.tmp 21) (.tmp 23) (.cst (.d (.bool false))), some (18, false)⟩,
 ⟨some 25, .pick (.tmp 18) (.cst (.d (.bool true))) (.tmp 24), none⟩,
 ⟨some 5, .mov (.tmp 25), none⟩])
 (.seq
 (.reg [] [⟨some 26, .mov (.tmp 5), none⟩,
 ⟨some 27, .not (.tmp 26), none⟩,
 ⟨some 28, .mov (.tmp 27), none⟩,
 ⟨some 29, .mov (.tmp 3), some (28, true)⟩,
 ⟨some 30, .cmp .eql (.tmp 29) (.cst (.d (.int .i64 0))), some (28, true)⟩,
 ⟨some 31, .mov (.tmp 30), some (28, true)⟩,
 ⟨some 32, .mov (.tmp 4), some (31, false)⟩,
 ⟨some 33, .cmp .neq (.tmp 32) (.cst (.d (.int .i32 95))), some (31, false)⟩,
 ⟨some 34, .mov (.tmp 33), some (31, false)⟩,
 ⟨some 35, .mov (.tmp 4), some (34, true)⟩,
 ⟨some 36, .cmp .lss (.tmp 35) (.cst (.d (.int .i32 48))), some (34, true)⟩,
 ⟨some 37, .mov (.tmp 36), some (34, true)⟩,
 ⟨some 38, .mov (.tmp 4), some (37, false)⟩,
 ⟨some 39, .cmp .gtr (.tmp 38) (.cst (.d (.int .i32 57))), some (37, false)⟩,
 ⟨some 40, .pick (.tmp 37) (.cst (.d (.bool true))) (.tmp 39), some (34, true)⟩,
 ⟨some 41, .pick (.tmp 34) (.tmp 40) (.cst (.d (.bool false))), some (31, false)⟩,
 ⟨some 42, .pick (.tmp 31) (.cst (.d (.bool true))) (.tmp 41), some (28, true)⟩,
 ⟨some 43, .pick (.tmp 28) (.tmp 42) (.cst (.d (.bool false))), none⟩])
 (.cond (.tmp 43)
 (.seq
 (.reg [] [⟨some 2, .mov (.cst (.d (.bool false))), none⟩])
 .ret)
 .skip)))))))))))))
 (.seq
 (.reg [] [⟨some 44, .mov (.tmp 0), none⟩,
 ⟨some 45, .seq true (.tmp 44) (.cst (.d (.str []))), none⟩,
 ⟨some 46, .mov (.tmp 45), none⟩,
 ⟨some 47, .mov (.tmp 0), some (46, true)⟩,
 ⟨some 48, .lens (.tmp 47), some (46, true)⟩,
 ⟨some 49, .cmp .leq (.tmp 48) (.cst (.d (.int .i64 24))), some (46, true)⟩,
 ⟨some 50, .pick (.tmp 46) (.tmp 49) (.cst (.d (.bool false))), none⟩,
 ⟨some 2, .mov (.tmp 50), none⟩])
 .ret)))⟩

/-- kilovar/kilovarref01.IsName -/
def ir143 : AFun := ⟨67, 0, [.tmp 2],
 (.seq
 (.reg [] [⟨some 2, .mov (.cst (.d (.bool false))), none⟩])
 (.seq
 (.seq
 (.reg [] [⟨some 6, .mov (.tmp 0), none⟩,
 ⟨some 7, .seq false (.tmp 6) (.cst (.d (.str []))), none⟩,
 ⟨some 8, .mov (.tmp 7), none⟩,
 ⟨some 9, .mov (.tmp 0), some (8, false)⟩,
 ⟨some 10, .lens (.tmp 9), some (8, false)⟩,
 ⟨some 11, .cmp .gtr (.tmp 10) (.cst (.d (.int .i64 24))), some (8, false)⟩,
 ⟨some 12, .pick (.tmp 8) (.cst (.d (.bool true))) (.tmp 11), none⟩])
 (.cond (.tmp 12)
 (.seq
 (.reg [] [⟨some 2, .mov (.cst (.d (.bool false))), none⟩])
 .ret)
 .skip))
 (.seq
 (.seq
 (.reg [] [⟨some 3, .mov (.cst (.d (.int .i64 0))), none⟩])
 (.post [] []
 (.block 0
 (.keep [0, 3] []
 (.loop
 (.post [0, 3] []
 (.seq
 (.seq
 (.reg [] [⟨some 13, .mov (.tmp 3), none⟩,
 ⟨some 14, .mov (.tmp 0), none⟩,
 ⟨some 15, .lens (.tmp 14), none⟩,
 ⟨some 16, .cmp .lss (.tmp 13) (.tmp 15), none⟩])
 (.cond (.tmp 16)
 .skip
 (.exit 0)))
 (.seq
 (.block 1
 (.seq
 (.reg [] [⟨some 19, .mov (.tmp 0), none⟩,
 ⟨some 20, .mov (.tmp 3), none⟩,
 ⟨some 21, .ixs (.tmp 19) (.tmp 20), none⟩,
 ⟨some 22, .cmp .geq (.tmp 21) (.cst (.d (.int .u8 97))), none⟩,
 ⟨some 23, .mov (.tmp 22), none⟩,
 ⟨some 24, .mov (.tmp 0), some (23, true)⟩,
 ⟨some 25, .mov (.tmp 3), some (23, true)⟩,
 ⟨some 26, .ixs (.tmp 24) (.tmp 25), some (23, true)⟩,
 ⟨some 27, .cmp .leq (.tmp 26) (.cst (.d (.int .u8 122))), some (23, true)⟩,
 ⟨some 28, .pick (.tmp 23) (.tmp 27) (.cst (.d (.bool false))), none⟩,
 ⟨some 29, .mov (.tmp 28), none⟩,
 ⟨some 30, .mov (.tmp 0), some (29, false)⟩,
 ⟨some 31, .mov (.tmp 3), some (29, false)⟩,
 ⟨some 32, .ixs (.tmp 30) (.tmp 31), some (29, false)⟩,
 ⟨some 33, .cmp .geq (.tmp 32) (.cst (.d (.int .u8 65))), some (29, false)⟩,
 ⟨some 34, .mov (.tmp 33), some (29, false)⟩,
 ⟨some 35, .mov (.tmp 0), some (34, true)⟩,
 ⟨some 36, .mov (.tmp 3), some (34, true)⟩,
 ⟨some 37, .ixs (.tmp 35) (.tmp 36), some (34, true)⟩,
 ⟨some 38, .cmp .leq (.tmp 37) (.cst (.d (.int .u8 90))), some (34, true)⟩,
 ⟨some 39, .pick (.tmp 34) (.tmp 38) (.cst (.d (.bool false))), some (29, false)⟩,
 ⟨some 40, .pick (.tmp 29) (.cst (.d (.bool true))) (.tmp 39), none⟩,
 ⟨some 4, .mov (.tmp 40), none⟩])
 (.seq
 (.reg [] [⟨some 41, .mov (.tmp 0), none⟩,
 ⟨some 42, .mov (.tmp 3), none⟩,
 ⟨some 43, .ixs (.tmp 41) (.tmp 42), none⟩,
 ⟨some 44, .cmp .geq (.tmp 43) (.cst (.d (.int .u8 48))), none⟩,
 ⟨some 45, .mov (.tmp 44), none⟩,
 ⟨some 46, .mov (.tmp 0), some (45, true)⟩,
 ⟨some 47, .mov (.tmp 3), some (45, true)⟩,
 ⟨some 48, .ixs (.tmp 46) (.tmp 47), some (45, true)⟩,
 ⟨some 49, .cmp .leq (.tmp 48) (.cst (.d (.int .u8 57))), some (45, true)⟩,
 ⟨some 50, .pick (.tmp 45) (.tmp 49) (.cst (.d (.bool false))), none⟩,
 ⟨some 51, .mov (.tmp 50), none⟩,
 ⟨some 52, .mov (.tmp 0), some (51, false)⟩,
 ⟨some 53, .mov (.tmp 3), some (51, false)⟩,
 ⟨some 54, .ixs (.tmp 52) (.tmp 53), some (51, false)⟩,
 ⟨some 55, .cmp .eql (.tmp 54) (.cst (.d (.int .u8 95))), some (51, false)⟩,
 ⟨some 56, .pick (.tmp 51) (.cst (.d (.bool true))) (.tmp 55), none⟩,
 ⟨some 5, .mov (.tmp 56), none⟩])
 (.seq
 (.reg [] [⟨some 57, .mov (.tmp 4), none⟩,
 ⟨some 58, .not (.tmp 57), none⟩,
 ⟨some 59, .mov (.tmp 58), none⟩,
 ⟨some 60, .mov (.tmp 3), some (59, true)⟩,
 ⟨some 61, .cmp .eql (.tmp 60) (.cst (.d (.int .i64 0))), some (59, true)⟩,
 ⟨some 62, .mov (.tmp 61), some (59, true)⟩,
 ⟨some 63, .mov (.tmp 5), some (62, false)⟩,
 ⟨some 64, .not (.tmp 63), some (62, false)⟩,
 ⟨some 65, .pick (.tmp 62) (.cst (.d (.bool true))) (.tmp 64), some (59, true)⟩,
 ⟨some 66, .pick (.tmp 59) (.tmp 65) (.cst (.d (.bool false))), none⟩])
 (.cond (.tmp 66)
 (.seq
 (.reg [] [⟨some 2, .mov (.cst (.d (.bool false))), none⟩])
 .ret)
 .skip)))))
 (.reg [] [⟨some 17, .mov (.tmp 3), none⟩,
 ⟨some 18, .arith .add .i64 (.tmp 17) (.cst (.d (.int .i64 1))), none⟩,
 ⟨some 3, .mov (.tmp 18), none⟩])))))))))
 (.seq
 (.reg [] [⟨some 2, .mov (.cst (.d (.bool true))), none⟩])
 .ret))))⟩

/-- kilovar/kilovarref01.CheckName -/
def ir112 : AFun := ⟨7, 0, [.tmp 2],
 (.seq
 (.reg [] [⟨some 2, .mov (.cst (.d (.int .i64 0))), none⟩])
 (.seq
 (.reg [] [⟨some 3, .mov (.tmp 0), none⟩,
 ⟨some 4, .call 143 [(.tmp 3)], none⟩,
 ⟨some 5, .not (.tmp 4), none⟩,
 ⟨some 6, .call 66 [(.tmp 5), (.cst (.d (.int .i64 8)))], none⟩,
 ⟨some 2, .mov (.tmp 6), none⟩])
 .ret))⟩


set_option maxHeartbeats 4000000 in
theorem c114 (l : List UInt8) : CallDet Tryz.prog 114 [.d (.str l)] [.bool (isNm l)] := by
  refine call_of_vc (x := ir114) (by kernel_rfl) rfl ?_
  refine loop_st (fun pos : Nat => ⟨[(0, .d (.str l)), (7, .it 0)], [.sit l pos]⟩)
    (fun pos => nmGo 0 l = nmGo pos (l.drop pos)) (fun pos => l.length - pos) 0 rfl rfl ?_
  intro pos hi
  rcases Nat.lt_or_ge pos l.length with hl | hl
  · refine Exists.elim (⟨_, List.getElem?_eq_getElem hl⟩ : ∃ x, l[pos]? = some x) fun c hc => ?_
    refine Exists.intro _ (Exists.intro _ (And.intro (Or.inl ⟨hl, rfl, rfl⟩) ?_))
    have hdec : (((decA l pos).1 : Int) = (c.toNat : Int) ∧ (decA l pos).2 = 1) ∨ ((128 : Int) ≤ ((decA l pos).1 : Int) ∧ (128 : Int) ≤ (c.toNat : Int)) := by
      rcases Nat.lt_or_ge c.toNat 128 with h | h
      · exact .inl (by rw [decA_ascii hc h]; exact ⟨rfl, rfl⟩)
      · exact .inr (by have := (decA_high hc h).1; omega)
    have bad : ¬ okP pos ((decA l pos).1 : Int) → resV [.bool false] = resV [.bool (isNm l)] := fun h => nm_bad hc hi (by unfold okP at *; omega)
    have good : okP pos ((decA l pos).1 : Int) → ∃ a', (nmGo 0 l = nmGo a' (l.drop a') ∧ l.length - a' < l.length - pos) ∧ (⟨[(0, .d (.str l)), (7, .it 0)], [.sit l (((pos + (decA l pos).2 : Nat) : Int)).toNat]⟩ : St) = ⟨[(0, .d (.str l)), (7, .it 0)], [.sit l a']⟩ := fun h => by
      have h2 : ((decA l pos).1 : Int) = (c.toNat : Int) ∧ (decA l pos).2 = 1 := by
        rcases hdec with h3 | h3
        · exact h3
        · unfold okP at h; omega
      rw [h2.2]
      rw [h2.1] at h
      exact ⟨pos + 1, ⟨nm_step hc hi h, by omega⟩, rfl⟩
    generalize hr : ((decA l pos).1 : Int) = r at *
    clear hdec
    refine And.intro rfl ?_
    refine brk_le (fun t1 => ?_) (fun t1 => ?_)
    · refine And.intro rfl ?_
      refine brk_le (fun t2 => ?_) (fun t2 => ?_)
      · refine And.intro rfl ?_
        refine And.intro rfl ?_
        exact good (by unfold okP; omega)
      · refine And.intro rfl ?_
        refine brk_le (fun t3 => ?_) (fun t3 => ?_)
        · refine And.intro rfl ?_
          refine brk_nle (fun t4 => ?_) (fun t4 => ?_)
          · refine And.intro rfl ?_
            refine brk_eq (fun t5 => ?_) (fun t5 => ?_)
            · refine And.intro rfl ?_
              exact bad (by unfold okP; omega)
            · refine And.intro rfl ?_
              refine brk_ne (fun t6 => ?_) (fun t6 => ?_)
              · refine And.intro rfl ?_
                refine brk_lt (fun t7 => ?_) (fun t7 => ?_)
                · refine And.intro rfl ?_
                  exact bad (by unfold okP; omega)
                · refine And.intro rfl ?_
                  refine brk_lt (fun t8 => ?_) (fun t8 => ?_)
                  · exact bad (by unfold okP; omega)
                  · exact good (by unfold okP; omega)
              · refine And.intro rfl ?_
                exact good (by unfold okP; omega)
          · refine And.intro rfl ?_
            exact good (by unfold okP; omega)
        · refine And.intro rfl ?_
          refine And.intro rfl ?_
          refine brk_eq (fun t9 => ?_) (fun t9 => ?_)
          · refine And.intro rfl ?_
            exact bad (by unfold okP; omega)
          · refine And.intro rfl ?_
            refine brk_ne (fun t10 => ?_) (fun t10 => ?_)
            · refine And.intro rfl ?_
              refine brk_lt (fun t11 => ?_) (fun t11 => ?_)
              · refine And.intro rfl ?_
                exact bad (by unfold okP; omega)
              · refine And.intro rfl ?_
                refine brk_lt (fun t12 => ?_) (fun t12 => ?_)
                · exact bad (by unfold okP; omega)
                · exact good (by unfold okP; omega)
            · refine And.intro rfl ?_
              exact good (by unfold okP; omega)
    · refine And.intro rfl ?_
      refine And.intro rfl ?_
      refine brk_le (fun t13 => ?_) (fun t13 => ?_)
      · refine And.intro rfl ?_
        refine brk_nle (fun t14 => ?_) (fun t14 => ?_)
        · refine And.intro rfl ?_
          refine brk_eq (fun t15 => ?_) (fun t15 => ?_)
          · refine And.intro rfl ?_
            exact bad (by unfold okP; omega)
          · refine And.intro rfl ?_
            refine brk_ne (fun t16 => ?_) (fun t16 => ?_)
            · refine And.intro rfl ?_
              refine brk_lt (fun t17 => ?_) (fun t17 => ?_)
              · refine And.intro rfl ?_
                exact bad (by unfold okP; omega)
              · refine And.intro rfl ?_
                refine brk_lt (fun t18 => ?_) (fun t18 => ?_)
                · exact bad (by unfold okP; omega)
                · exact good (by unfold okP; omega)
            · refine And.intro rfl ?_
              exact good (by unfold okP; omega)
        · refine And.intro rfl ?_
          exact good (by unfold okP; omega)
      · refine And.intro rfl ?_
        refine And.intro rfl ?_
        refine brk_eq (fun t19 => ?_) (fun t19 => ?_)
        · refine And.intro rfl ?_
          exact bad (by unfold okP; omega)
        · refine And.intro rfl ?_
          refine brk_ne (fun t20 => ?_) (fun t20 => ?_)
          · refine And.intro rfl ?_
            refine brk_lt (fun t21 => ?_) (fun t21 => ?_)
            · refine And.intro rfl ?_
              exact bad (by unfold okP; omega)
            · refine And.intro rfl ?_
              refine brk_lt (fun t22 => ?_) (fun t22 => ?_)
              · exact bad (by unfold okP; omega)
              · exact good (by unfold okP; omega)
          · refine And.intro rfl ?_
            exact good (by unfold okP; omega)
  · refine Exists.intro _ (Exists.intro _ (And.intro (Or.inr ⟨hl, rfl, rfl⟩) ?_))
    have e := nm_end hl hi
    have fin : ∀ b : Bool, isNm l = b → resV [.bool b] = resV [.bool (isNm l)] := fun b h => by rw [h]
    refine brk_intro ?_ ?_
    · intro h
      have h : (l != []) = true := h
      refine And.intro rfl ?_
      exact fin _ (by rw [e, h]; rfl)
    · intro h
      have h : (l != []) = false := h
      refine And.intro rfl ?_
      exact fin _ (by rw [e, h]; rfl)

theorem nm_long {l : List UInt8} (h : (24 : Int) < (l.length : Int)) : isNm l = false := by
  unfold isNm; rw [decide_eq_false (by omega)]; simp
set_option maxHeartbeats 4000000 in
theorem c143 (l : List UInt8) : CallDet Tryz.prog 143 [.d (.str l)] [.bool (isNm l)] := by
  refine call_of_vc (x := ir143) (by kernel_rfl) rfl ?_
  have fin : ∀ b : Bool, isNm l = b → resV [.bool b] = resV [.bool (isNm l)] := fun b h => by rw [h]
  refine brk_intro ?_ ?_
  · intro h
    have h : (l == []) = true := h
    have e : l = [] := by simpa using h
    repeat refine And.intro rfl ?_
    exact fin false (by rw [e]; rfl)
  intro h0
  have h0 : (l == []) = false := h0
  refine And.intro rfl ?_
  refine brk_lt (fun h => ?_) (fun h => ?_)
  · exact fin _ (nm_long h)
  refine loop_st (fun k : Nat => ⟨[(0, .d (.str l)), (3, .d (.int .i64 k))], []⟩)
    (fun k => nmGo 0 l = nmGo k (l.drop k)) (fun k => l.length - k) 0 rfl rfl ?_
  intro k hi
  refine And.intro rfl ?_
  refine brk_lt (fun hl => ?_) (fun hl => ?_)
  · have hl : (k : Int) < (l.length : Int) := hl
    refine Exists.elim (⟨_, List.getElem?_eq_getElem (by omega)⟩ : ∃ x, l[k]? = some x) fun c hc => ?_
    have hx : 0 ≤ (k : Int) ∧ (l[(k : Int).toNat]?).map (fun c => (c.toNat : Int)) = some (c.toNat : Int) := ⟨by omega, by rw [show (k : Int).toNat = k from rfl, hc]; rfl⟩
    have bad : ¬ okP k (c.toNat : Int) → resV [.bool false] = resV [.bool (isNm l)] := fun h => nm_bad hc hi h
    have good : okP k (c.toNat : Int) → ∃ a', (nmGo 0 l = nmGo a' (l.drop a') ∧ l.length - a' < l.length - k) ∧ (⟨[(0, .d (.str l)), (3, .d (.int .i64 ((k : Int) + 1)))], []⟩ : St) = ⟨[(0, .d (.str l)), (3, .d (.int .i64 a'))], []⟩ := fun h =>
      ⟨k + 1, ⟨nm_step hc hi h, by omega⟩, rfl⟩
    have hb : -9223372036854775808 ≤ (k : Int) + 1 ∧ (k : Int) + 1 ≤ 9223372036854775807 := by omega
    generalize hr : (c.toNat : Int) = r at *
    refine Exists.intro _ (And.intro hx ?_)
    refine And.intro rfl ?_
    refine brk_le (fun t1 => ?_) (fun t1 => ?_)
    · refine Exists.intro _ (And.intro hx ?_)
      refine And.intro rfl ?_
      refine brk_le (fun t2 => ?_) (fun t2 => ?_)
      · refine And.intro rfl ?_
        refine Exists.intro _ (And.intro hx ?_)
        refine And.intro rfl ?_
        refine brk_le (fun t3 => ?_) (fun t3 => ?_)
        · refine Exists.intro _ (And.intro hx ?_)
          refine And.intro rfl ?_
          refine brk_le (fun t4 => ?_) (fun t4 => ?_)
          · refine And.intro rfl ?_
            refine And.intro rfl ?_
            refine ar_add hb ?_
            exact good (by unfold okP; omega)
          · refine Exists.intro _ (And.intro hx ?_)
            refine And.intro rfl ?_
            refine And.intro rfl ?_
            refine ar_add hb ?_
            exact good (by unfold okP; omega)
        · refine And.intro rfl ?_
          refine Exists.intro _ (And.intro hx ?_)
          refine And.intro rfl ?_
          refine And.intro rfl ?_
          refine ar_add hb ?_
          exact good (by unfold okP; omega)
      · refine Exists.intro _ (And.intro hx ?_)
        refine And.intro rfl ?_
        refine brk_le (fun t5 => ?_) (fun t5 => ?_)
        · refine Exists.intro _ (And.intro hx ?_)
          refine And.intro rfl ?_
          refine Exists.intro _ (And.intro hx ?_)
          refine And.intro rfl ?_
          refine brk_le (fun t6 => ?_) (fun t6 => ?_)
          · refine Exists.intro _ (And.intro hx ?_)
            refine And.intro rfl ?_
            refine brk_le (fun t7 => ?_) (fun t7 => ?_)
            · refine And.intro rfl ?_
              refine brk_nle (fun t8 => ?_) (fun t8 => ?_)
              · refine And.intro rfl ?_
                refine brk_eq (fun t9 => ?_) (fun t9 => ?_)
                · refine And.intro rfl ?_
                  exact bad (by unfold okP; omega)
                · refine ar_add hb ?_
                  exact good (by unfold okP; omega)
              · refine And.intro rfl ?_
                refine ar_add hb ?_
                exact good (by unfold okP; omega)
            · refine Exists.intro _ (And.intro hx ?_)
              refine And.intro rfl ?_
              refine brk_nle (fun t10 => ?_) (fun t10 => ?_)
              · refine And.intro rfl ?_
                refine brk_eq (fun t11 => ?_) (fun t11 => ?_)
                · refine And.intro rfl ?_
                  exact bad (by unfold okP; omega)
                · refine brk_ne (fun t12 => ?_) (fun t12 => ?_)
                  · exact bad (by unfold okP; omega)
                  · refine ar_add hb ?_
                    exact good (by unfold okP; omega)
              · refine And.intro rfl ?_
                refine ar_add hb ?_
                exact good (by unfold okP; omega)
          · refine And.intro rfl ?_
            refine Exists.intro _ (And.intro hx ?_)
            refine And.intro rfl ?_
            refine brk_nle (fun t13 => ?_) (fun t13 => ?_)
            · refine And.intro rfl ?_
              refine brk_eq (fun t14 => ?_) (fun t14 => ?_)
              · refine And.intro rfl ?_
                exact bad (by unfold okP; omega)
              · refine brk_ne (fun t15 => ?_) (fun t15 => ?_)
                · exact bad (by unfold okP; omega)
                · refine ar_add hb ?_
                  exact good (by unfold okP; omega)
            · refine And.intro rfl ?_
              refine ar_add hb ?_
              exact good (by unfold okP; omega)
        · refine And.intro rfl ?_
          refine Exists.intro _ (And.intro hx ?_)
          refine And.intro rfl ?_
          refine brk_le (fun t16 => ?_) (fun t16 => ?_)
          · refine Exists.intro _ (And.intro hx ?_)
            refine And.intro rfl ?_
            refine brk_le (fun t17 => ?_) (fun t17 => ?_)
            · refine And.intro rfl ?_
              refine And.intro rfl ?_
              refine brk_eq (fun t18 => ?_) (fun t18 => ?_)
              · refine And.intro rfl ?_
                exact bad (by unfold okP; omega)
              · refine ar_add hb ?_
                exact good (by unfold okP; omega)
            · refine Exists.intro _ (And.intro hx ?_)
              refine And.intro rfl ?_
              refine And.intro rfl ?_
              refine brk_eq (fun t19 => ?_) (fun t19 => ?_)
              · refine And.intro rfl ?_
                exact bad (by unfold okP; omega)
              · refine brk_ne (fun t20 => ?_) (fun t20 => ?_)
                · exact bad (by unfold okP; omega)
                · refine ar_add hb ?_
                  exact good (by unfold okP; omega)
          · refine And.intro rfl ?_
            refine Exists.intro _ (And.intro hx ?_)
            refine And.intro rfl ?_
            refine And.intro rfl ?_
            refine brk_eq (fun t21 => ?_) (fun t21 => ?_)
            · refine And.intro rfl ?_
              exact bad (by unfold okP; omega)
            · refine brk_ne (fun t22 => ?_) (fun t22 => ?_)
              · exact bad (by unfold okP; omega)
              · refine ar_add hb ?_
                exact good (by unfold okP; omega)
    · refine And.intro rfl ?_
      refine Exists.intro _ (And.intro hx ?_)
      refine And.intro rfl ?_
      refine brk_le (fun t23 => ?_) (fun t23 => ?_)
      · refine Exists.intro _ (And.intro hx ?_)
        refine And.intro rfl ?_
        refine Exists.intro _ (And.intro hx ?_)
        refine And.intro rfl ?_
        refine brk_le (fun t24 => ?_) (fun t24 => ?_)
        · refine Exists.intro _ (And.intro hx ?_)
          refine And.intro rfl ?_
          refine brk_le (fun t25 => ?_) (fun t25 => ?_)
          · refine And.intro rfl ?_
            refine brk_nle (fun t26 => ?_) (fun t26 => ?_)
            · refine And.intro rfl ?_
              refine brk_eq (fun t27 => ?_) (fun t27 => ?_)
              · refine And.intro rfl ?_
                exact bad (by unfold okP; omega)
              · refine ar_add hb ?_
                exact good (by unfold okP; omega)
            · refine And.intro rfl ?_
              refine ar_add hb ?_
              exact good (by unfold okP; omega)
          · refine Exists.intro _ (And.intro hx ?_)
            refine And.intro rfl ?_
            refine brk_nle (fun t28 => ?_) (fun t28 => ?_)
            · refine And.intro rfl ?_
              refine brk_eq (fun t29 => ?_) (fun t29 => ?_)
              · refine And.intro rfl ?_
                exact bad (by unfold okP; omega)
              · refine brk_ne (fun t30 => ?_) (fun t30 => ?_)
                · exact bad (by unfold okP; omega)
                · refine ar_add hb ?_
                  exact good (by unfold okP; omega)
            · refine And.intro rfl ?_
              refine ar_add hb ?_
              exact good (by unfold okP; omega)
        · refine And.intro rfl ?_
          refine Exists.intro _ (And.intro hx ?_)
          refine And.intro rfl ?_
          refine brk_nle (fun t31 => ?_) (fun t31 => ?_)
          · refine And.intro rfl ?_
            refine brk_eq (fun t32 => ?_) (fun t32 => ?_)
            · refine And.intro rfl ?_
              exact bad (by unfold okP; omega)
            · refine brk_ne (fun t33 => ?_) (fun t33 => ?_)
              · exact bad (by unfold okP; omega)
              · refine ar_add hb ?_
                exact good (by unfold okP; omega)
          · refine And.intro rfl ?_
            refine ar_add hb ?_
            exact good (by unfold okP; omega)
      · refine And.intro rfl ?_
        refine Exists.intro _ (And.intro hx ?_)
        refine And.intro rfl ?_
        refine brk_le (fun t34 => ?_) (fun t34 => ?_)
        · refine Exists.intro _ (And.intro hx ?_)
          refine And.intro rfl ?_
          refine brk_le (fun t35 => ?_) (fun t35 => ?_)
          · refine And.intro rfl ?_
            refine And.intro rfl ?_
            refine brk_eq (fun t36 => ?_) (fun t36 => ?_)
            · refine And.intro rfl ?_
              exact bad (by unfold okP; omega)
            · refine ar_add hb ?_
              exact good (by unfold okP; omega)
          · refine Exists.intro _ (And.intro hx ?_)
            refine And.intro rfl ?_
            refine And.intro rfl ?_
            refine brk_eq (fun t37 => ?_) (fun t37 => ?_)
            · refine And.intro rfl ?_
              exact bad (by unfold okP; omega)
            · refine brk_ne (fun t38 => ?_) (fun t38 => ?_)
              · exact bad (by unfold okP; omega)
              · refine ar_add hb ?_
                exact good (by unfold okP; omega)
        · refine And.intro rfl ?_
          refine Exists.intro _ (And.intro hx ?_)
          refine And.intro rfl ?_
          refine And.intro rfl ?_
          refine brk_eq (fun t39 => ?_) (fun t39 => ?_)
          · refine And.intro rfl ?_
            exact bad (by unfold okP; omega)
          · refine brk_ne (fun t40 => ?_) (fun t40 => ?_)
            · exact bad (by unfold okP; omega)
            · refine ar_add hb ?_
              exact good (by unfold okP; omega)
  · have hl : ¬ (k : Int) < (l.length : Int) := hl
    refine fin true ?_
    rw [nm_end (by omega) hi, decide_eq_true (by omega), bne, h0]; rfl
theorem c112 (l : List UInt8) : CallDet Tryz.prog 112 [.d (.str l)] [.int .i64 (bif !(isNm l) then 8 else 0)] := by
  refine call_of_vc (x := ir112) (by kernel_rfl) rfl ?_
  refine Exists.intro _ (And.intro (c143 l) ?_)
  refine Exists.intro _ (And.intro (c66 _ _) ?_)
  exact rfl
end Vc

set_option maxRecDepth 10000
namespace Vc
open Go Go.Proofs
/-! Stations: their checks. -/
def chkSt (names : List (List UInt8)) (x : Stn) : Int := firstOf [bif !(isNm x.nm) then 8 else 0, bif names.contains x.nm then 9 else 0, within3 x.pri 0 3, within3 x.fr 0 64, within3 x.wt 0 1000]
def chkGo : List (List UInt8) → List Stn → Int
  | _, [] => 0
  | names, x :: r => bif chkSt names x != 0 then chkSt names x else chkGo (names ++ [x.nm]) r
def chkStns (l : List Stn) : Int := bif decide ((8 : Int) < (l.length : Int)) then 5 else chkGo [] l
def nmsTo (l : List Stn) (k : Nat) : List (List UInt8) := (l.take k).map Stn.nm
theorem nmsTo_succ {l : List Stn} {k : Nat} {x : Stn} (h : l[k]? = some x) : nmsTo l (k + 1) = nmsTo l k ++ [x.nm] := by
  rw [nmsTo, take_one h, List.map_append]; rfl
theorem chkGo_at {l : List Stn} {k : Nat} {x : Stn} (h : l[k]? = some x) : chkGo (nmsTo l k) (l.drop k) = bif chkSt (nmsTo l k) x != 0 then chkSt (nmsTo l k) x else chkGo (nmsTo l (k + 1)) (l.drop (k + 1)) := by
  obtain ⟨hl, e⟩ := List.getElem?_eq_some_iff.1 h
  rw [List.drop_eq_getElem_cons hl, e, nmsTo_succ h]; rfl
theorem st_big {l : List Stn} (h : decide ((8 : Int) < (l.length : Int)) = true) : resV [.int .i64 5] = resV [.int .i64 (chkStns l)] := by unfold chkStns; rw [h]; rfl
theorem st_small {l : List Stn} (h : decide ((8 : Int) < (l.length : Int)) = false) : chkStns l = chkGo (nmsTo l 0) (l.drop 0) := by unfold chkStns; rw [h]; rfl
theorem st_bad {l : List Stn} {k : Nat} {x : Stn} (h : l[k]? = some x) (hi : chkStns l = chkGo (nmsTo l k) (l.drop k)) (hb : (chkSt (nmsTo l k) x != 0) = true) : resV [.int .i64 (chkSt (nmsTo l k) x)] = resV [.int .i64 (chkStns l)] := by
  rw [hi, chkGo_at h, hb]; rfl
theorem st_ok {l : List Stn} {k : Nat} {x : Stn} (h : l[k]? = some x) (hi : chkStns l = chkGo (nmsTo l k) (l.drop k)) (hb : (chkSt (nmsTo l k) x != 0) = false) : chkStns l = chkGo (nmsTo l (k + 1)) (l.drop (k + 1)) := by
  rw [hi, chkGo_at h, hb]; rfl
theorem st_end {l : List Stn} {k : Nat} (hk : l.length ≤ k) (hi : chkStns l = chkGo (nmsTo l k) (l.drop k)) : resV [.int .i64 0] = resV [.int .i64 (chkStns l)] := by
  rw [hi, List.drop_eq_nil_of_le hk]; rfl
def strs (l : List (List UInt8)) : List Data := l.map .str
/-- kilovar/kilovarref01.HasWord -/
def ir113 : AFun := ⟨18, 0, [.tmp 4],
 (.seq
 (.reg [] [⟨some 4, .mov (.cst (.d (.bool false))), none⟩])
 (.seq
 (.seq
 (.reg [] [⟨some 5, .mov (.cst (.d (.int .i64 0))), none⟩])
 (.post [] []
 (.block 0
 (.keep [0, 1, 5] []
 (.loop
 (.post [0, 1, 5] []
 (.seq
 (.seq
 (.reg [] [⟨some 6, .mov (.tmp 5), none⟩,
 ⟨some 7, .mov (.tmp 0), none⟩,
 ⟨some 8, .len (.tmp 7), none⟩,
 ⟨some 9, .cmp .lss (.tmp 6) (.tmp 8), none⟩])
 (.cond (.tmp 9)
 .skip
 (.exit 0)))
 (.seq
 (.block 1
 (.seq
 (.reg [] [⟨some 12, .mov (.tmp 0), none⟩,
 ⟨some 13, .mov (.tmp 5), none⟩,
 ⟨some 14, .ixa 1 (.tmp 12) (.tmp 13), none⟩,
 ⟨some 15, .ld false 1 (.tmp 14), none⟩,
 ⟨some 16, .mov (.tmp 1), none⟩,
 ⟨some 17, .seq false (.tmp 15) (.tmp 16), none⟩])
 (.cond (.tmp 17)
 (.seq
 (.reg [] [⟨some 4, .mov (.cst (.d (.bool true))), none⟩])
 .ret)
 .skip)))
 (.reg [] [⟨some 10, .mov (.tmp 5), none⟩,
 ⟨some 11, .arith .add .i64 (.tmp 10) (.cst (.d (.int .i64 1))), none⟩,
 ⟨some 5, .mov (.tmp 11), none⟩])))))))))
 (.seq
 (.reg [] [⟨some 4, .mov (.cst (.d (.bool false))), none⟩])
 .ret)))⟩

/-- kilovar/kilovarref04.CheckStations -/
def ir60 : AFun := ⟨47, 4, [.tmp 2],
 (.seq
 (.reg [] [⟨some 2, .mov (.cst (.d (.int .i64 0))), none⟩])
 (.seq
 (.seq
 (.reg [] [⟨some 7, .mov (.tmp 0), none⟩,
 ⟨some 8, .len (.tmp 7), none⟩,
 ⟨some 9, .cmp .gtr (.tmp 8) (.cst (.d (.int .i64 8))), none⟩])
 (.cond (.tmp 9)
 (.seq
 (.reg [] [⟨some 2, .mov (.cst (.d (.int .i64 5))), none⟩])
 .ret)
 .skip))
 (.seq
 (.reg [] [⟨some 3, .mov (.cst (.nils 1)), none⟩])
 (.seq
 (.seq
 (.reg [] [⟨some 4, .mov (.cst (.d (.int .i64 0))), none⟩])
 (.post [] [0, 1, 2, 3]
 (.block 0
 (.asrow 3 9 1 3
 (.keep [0, 3, 4] []
 (.loop
 (.post [0, 3, 4] [0, 1, 2, 3]
 (.seq
 (.seq
 (.reg [] [⟨some 10, .mov (.tmp 4), none⟩,
 ⟨some 11, .mov (.tmp 0), none⟩,
 ⟨some 12, .len (.tmp 11), none⟩,
 ⟨some 13, .cmp .lss (.tmp 10) (.tmp 12), none⟩])
 (.cond (.tmp 13)
 .skip
 (.exit 0)))
 (.seq
 (.block 1
 (.seq
 (.reg [0] [⟨some 16, .mov (.tmp 0), none⟩,
 ⟨some 17, .mov (.tmp 4), none⟩,
 ⟨some 18, .ixa 4 (.tmp 16) (.tmp 17), none⟩,
 ⟨some 19, .ld true 4 (.tmp 18), none⟩,
 ⟨some 5, .alloc 0 [(.d (.str [])), (.d (.int .i64 0)), (.d (.int .i64 0)), (.d (.int .i64 0))], none⟩,
 ⟨none, .st 4 (.tmp 5) (.tmp 19), none⟩])
 (.seq
 (.seq
 (.regd [1] [⟨some 20, .fad 0 (.tmp 5), none⟩,
 ⟨some 21, .ld false 1 (.tmp 20), none⟩,
 ⟨some 22, .call 112 [(.tmp 21)], none⟩,
 ⟨some 23, .mov (.tmp 3), none⟩,
 ⟨some 24, .fad 0 (.tmp 5), none⟩,
 ⟨some 25, .ld false 1 (.tmp 24), none⟩,
 ⟨some 26, .call 113 [(.tmp 23), (.tmp 25)], none⟩,
 ⟨some 27, .call 66 [(.tmp 26), (.cst (.d (.int .i64 9)))], none⟩,
 ⟨some 28, .fad 1 (.tmp 5), none⟩,
 ⟨some 29, .ld false 1 (.tmp 28), none⟩,
 ⟨some 30, .call 62 [(.tmp 29), (.cst (.d (.int .i64 0))), (.cst (.d (.int .i64 3)))], none⟩,
 ⟨some 31, .fad 2 (.tmp 5), none⟩,
 ⟨some 32, .ld false 1 (.tmp 31), none⟩,
 ⟨some 33, .call 62 [(.tmp 32), (.cst (.d (.int .i64 0))), (.cst (.d (.int .i64 64)))], none⟩,
 ⟨some 34, .fad 3 (.tmp 5), none⟩,
 ⟨some 35, .ld false 1 (.tmp 34), none⟩,
 ⟨some 36, .call 62 [(.tmp 35), (.cst (.d (.int .i64 0))), (.cst (.d (.int .i64 1000)))], none⟩,
 ⟨some 37, .bsl 1 3 1 5 [(.int .i64 0), (.int .i64 0), (.int .i64 0), (.int .i64 0), (.int .i64 0)] [(0, (.tmp 22)), (1, (.tmp 27)), (2, (.tmp 30)), (3, (.tmp 33)), (4, (.tmp 36))], none⟩,
 ⟨some 38, .call 89 [(.tmp 37)], none⟩,
 ⟨some 6, .mov (.tmp 38), none⟩] [(0, 3), (1, 3), (2, 3), (0, 4), (1, 4), (2, 4), (3, 4), (0, 5), (1, 5), (2, 5), (3, 5), (0, 8), (1, 8), (2, 8), (3, 8), (4, 8), (5, 8), (6, 8), (7, 8), (0, 9), (1, 9), (2, 9), (3, 9), (4, 9), (5, 9), (6, 9), (7, 9), (0, 11), (1, 11), (2, 11), (3, 11), (4, 11), (5, 11), (6, 11), (7, 11), (8, 11), (9, 11), (10, 11), (0, 12), (1, 12), (2, 12), (3, 12), (4, 12), (5, 12), (6, 12), (7, 12), (8, 12), (9, 12), (10, 12), (0, 14), (1, 14), (2, 14), (3, 14), (4, 14), (5, 14), (6, 14), (7, 14), (8, 14), (9, 14), (10, 14), (11, 14), (12, 14), (13, 14), (0, 15), (1, 15), (2, 15), (3, 15), (4, 15), (5, 15), (6, 15), (7, 15), (8, 15), (9, 15), (10, 15), (11, 15), (12, 15), (13, 15)])
 (.seq
 (.reg [] [⟨some 39, .mov (.tmp 6), none⟩,
 ⟨some 40, .cmp .neq (.tmp 39) (.cst (.d (.int .i64 0))), none⟩])
 (.cond (.tmp 40)
 (.seq
 (.reg [] [⟨some 41, .mov (.tmp 6), none⟩,
 ⟨some 2, .mov (.tmp 41), none⟩])
 .ret)
 .skip)))
 (.reg [2, 3] [⟨some 42, .mov (.tmp 3), none⟩,
 ⟨some 43, .fad 0 (.tmp 5), none⟩,
 ⟨some 44, .ld false 1 (.tmp 43), none⟩,
 ⟨some 45, .bsl 2 9 1 1 [(.str [])] [(0, (.tmp 44))], none⟩,
 ⟨some 46, .app 3 9 1 16 (.tmp 42) (.tmp 45), none⟩,
 ⟨some 3, .mov (.tmp 46), none⟩]))))
 (.reg [] [⟨some 14, .mov (.tmp 4), none⟩,
 ⟨some 15, .arith .add .i64 (.tmp 14) (.cst (.d (.int .i64 1))), none⟩,
 ⟨some 4, .mov (.tmp 15), none⟩]))))))))))
 (.seq
 (.reg [] [⟨some 2, .mov (.cst (.d (.int .i64 0))), none⟩])
 .ret)))))⟩


theorem c113 (l : List (List UInt8)) (s : List UInt8) (hl : l.length ≤ 1048576) : CallDet Tryz.prog 113 [.d (.slice 1 (strs l)), .d (.str s)] [.bool (l.contains s)] := by
  have hlen : (strs l).length = l.length := List.length_map _
  refine call_of_vc (x := ir113) (by kernel_rfl) rfl ?_
  refine loop_st (fun k : Nat => ⟨[(0, .d (.slice 1 (strs l))), (1, .d (.str s)), (5, .d (.int .i64 k))], []⟩)
    (fun k => l.contains s = (l.drop k).contains s) (fun k => l.length - k) 0 rfl rfl ?_
  intro k hi
  refine And.intro rfl ?_
  refine brk_lt (fun h => ?_) (fun h => ?_)
  · have h : (k : Int) < ((strs l).length : Int) := h
    refine Exists.elim (⟨_, List.getElem?_eq_getElem (by omega)⟩ : ∃ x, l[k]? = some x) fun x hx => ?_
    have hd : (strs l)[(k : Int).toNat]? = some (.str x) := by simp [strs, hx]
    obtain ⟨hl2, e⟩ := List.getElem?_eq_some_iff.1 hx
    rw [List.drop_eq_getElem_cons hl2, e] at hi
    refine ix_at hd (by omega) ?_
    refine brk_intro ?_ ?_
    · intro hb
      have hb : (x == s) = true := hb
      have : l.contains s = true := by rw [hi]; simp [eq_of_beq hb]
      exact (congrArg (fun b => resV [.bool b]) this).symm
    · intro hb
      have hb : (x == s) = false := hb
      refine ar_add (by omega) ?_
      refine ⟨k + 1, ⟨?_, by show l.length - (k + 1) < l.length - k; omega⟩, rfl⟩
      show l.contains s = (l.drop (k + 1)).contains s
      rw [hi, List.contains_cons, show (s == x) = false by rw [beq_eq_false_iff_ne]; exact fun e => (ne_of_beq_false hb) e.symm]; simp
  · have h : ¬ (k : Int) < ((strs l).length : Int) := h
    have : l.contains s = false := by rw [hi, List.drop_eq_nil_of_le (by omega)]; rfl
    exact (congrArg (fun b => resV [.bool b]) this).symm
set_option maxHeartbeats 4000000 in
theorem c60 (l : List Stn) : CallDet Tryz.prog 60 [.d (.slice 4 (stns l))] [.int .i64 (chkStns l)] := by
  have hlen := stns_len l
  refine call_of_vc (x := ir60) (by kernel_rfl) rfl ?_
  refine And.intro rfl ?_
  refine brk_intro ?_ ?_
  · intro h
    exact st_big (by rw [← hlen]; exact h)
  intro h
  have h : decide ((8 : Int) < ((stns l).length : Int)) = false := h
  have h8 : l.length ≤ 8 := by have := of_decide_eq_false h; omega
  rw [hlen] at h
  refine loop_st (fun a : Nat × List Data => ⟨[(0, .d (.slice 4 (stns l))), (3, .sl 3 a.2.length), (4, .d (.int .i64 a.1))], [.none, .none, .none, .row 9 1 a.2 false]⟩)
    (fun a => a.2 = strs (nmsTo l a.1) ∧ a.1 ≤ l.length ∧ chkStns l = chkGo (nmsTo l a.1) (l.drop a.1)) (fun a => l.length - a.1) (0, []) rfl ⟨rfl, Nat.zero_le _, st_small h⟩ ?_
  rintro ⟨k, acc⟩ ⟨hk, hkl, hi⟩
  have hk : acc = strs (nmsTo l k) := hk
  have hkl : k ≤ l.length := hkl
  have hi : chkStns l = chkGo (nmsTo l k) (l.drop k) := hi
  have hnl : (nmsTo l k).length = k := by rw [nmsTo, List.length_map, List.length_take]; omega
  have hal : acc.length = k := by rw [hk]; unfold strs; rw [List.length_map, hnl]
  subst hk
  refine And.intro rfl ?_
  refine brk_lt (fun h => ?_) (fun h => ?_)
  · have h : (k : Int) < ((stns l).length : Int) := h
    refine Exists.elim (⟨_, List.getElem?_eq_getElem (by omega)⟩ : ∃ x, l[k]? = some x) fun x hx => ?_
    have hd : (stns l)[(k : Int).toNat]? = some x.d := by simp [stns, hx]
    refine ix_at hd (by omega) ?_
    refine Exists.intro _ (And.intro (c112 x.nm) ?_)
    repeat refine And.intro rfl ?_
    refine Exists.intro _ (And.intro (c113 (nmsTo l k) x.nm (by omega)) ?_)
    repeat refine And.intro rfl ?_
    refine Exists.intro _ (And.intro (c66 _ _) ?_)
    refine Exists.intro _ (And.intro (c62 _ _ _) ?_)
    refine Exists.intro _ (And.intro (c62 _ _ _) ?_)
    refine Exists.intro _ (And.intro (c62 _ _ _) ?_)
    repeat refine And.intro rfl ?_
    refine Exists.intro _ (And.intro (c89 [bif !(isNm x.nm) then 8 else 0, bif (nmsTo l k).contains x.nm then 9 else 0, within3 x.pri 0 3, within3 x.fr 0 64, within3 x.wt 0 1000] (by simp)) ?_)
    repeat refine And.intro rfl ?_
    refine brk_intro ?_ ?_
    · intro hb
      exact st_bad hx hi hb
    · intro hb
      repeat refine And.intro rfl ?_
      refine And.intro ⟨rfl, rfl, rfl, ?_, ?_⟩ ?_
      · show ((strs (nmsTo l k)).length + 1) * 16 ≤ 2 ^ 47
        omega
      · show (strs (nmsTo l k)).length + 1 ≤ 2 ^ 47
        omega
      refine ar_add (by omega) ?_
      refine ⟨(k + 1, strs (nmsTo l k) ++ [.str x.nm]), ⟨⟨?_, by show k + 1 ≤ l.length; omega, st_ok hx hi hb⟩, by show l.length - (k + 1) < l.length - k; omega⟩, rfl⟩
      show strs (nmsTo l k) ++ [.str x.nm] = strs (nmsTo l (k + 1))
      rw [nmsTo_succ hx]; simp [strs]
  · have h : ¬ (k : Int) < ((stns l).length : Int) := h
    exact st_end (by omega) hi
/-- kilovar/link.CheckStations -/
def ir70 : AFun := ⟨45, 3, [.tmp 2],
 (.seq
 (.reg [] [⟨some 2, .mov (.cst (.d (.int .i64 0))), none⟩])
 (.seq
 (.seq
 (.reg [] [⟨some 7, .mov (.tmp 0), none⟩,
 ⟨some 8, .len (.tmp 7), none⟩,
 ⟨some 9, .cmp .gtr (.tmp 8) (.cst (.d (.int .i64 8))), none⟩])
 (.cond (.tmp 9)
 (.seq
 (.reg [] [⟨some 2, .mov (.cst (.d (.int .i64 5))), none⟩])
 .ret)
 .skip))
 (.seq
 (.reg [0] [⟨some 10, .mkm 0, none⟩,
 ⟨some 3, .mov (.tmp 10), none⟩])
 (.seq
 (.seq
 (.reg [] [⟨some 11, .mov (.tmp 0), none⟩,
 ⟨some 12, .len (.tmp 11), none⟩,
 ⟨some 13, .mov (.cst (.d (.int .i64 0))), none⟩])
 (.post [] [0, 1, 2]
 (.block 0
 (.keep [3, 11, 12, 13] [0]
 (.loop
 (.post [3, 11, 12, 13] [1, 2]
 (.seq
 (.reg [] [⟨some 14, .cmp .lss (.tmp 13) (.tmp 12), none⟩])
 (.seq
 (.cond (.tmp 14)
 .skip
 (.exit 0))
 (.seq
 (.block 1
 (.seq
 (.reg [1] [⟨some 15, .ixa 4 (.tmp 11) (.tmp 13), none⟩,
 ⟨some 16, .ld true 4 (.tmp 15), none⟩,
 ⟨some 5, .alloc 1 [(.d (.str [])), (.d (.int .i64 0)), (.d (.int .i64 0)), (.d (.int .i64 0))], none⟩,
 ⟨none, .st 4 (.tmp 5) (.tmp 16), none⟩])
 (.seq
 (.seq
 (.regd [2] [⟨some 17, .fad 0 (.tmp 5), none⟩,
 ⟨some 18, .ld false 1 (.tmp 17), none⟩,
 ⟨some 19, .call 114 [(.tmp 18)], none⟩,
 ⟨some 20, .not (.tmp 19), none⟩,
 ⟨some 21, .call 83 [(.tmp 20), (.cst (.d (.int .i64 8)))], none⟩,
 ⟨some 22, .mov (.tmp 3), none⟩,
 ⟨some 23, .fad 0 (.tmp 5), none⟩,
 ⟨some 24, .ld false 1 (.tmp 23), none⟩,
 ⟨some 25, .lkp none (.bool false) false (.tmp 22) (.tmp 24), none⟩,
 ⟨some 26, .call 83 [(.tmp 25), (.cst (.d (.int .i64 9)))], none⟩,
 ⟨some 27, .fad 1 (.tmp 5), none⟩,
 ⟨some 28, .ld false 1 (.tmp 27), none⟩,
 ⟨some 29, .call 82 [(.tmp 28), (.cst (.d (.int .i64 0))), (.cst (.d (.int .i64 3)))], none⟩,
 ⟨some 30, .fad 2 (.tmp 5), none⟩,
 ⟨some 31, .ld false 1 (.tmp 30), none⟩,
 ⟨some 32, .call 82 [(.tmp 31), (.cst (.d (.int .i64 0))), (.cst (.d (.int .i64 64)))], none⟩,
 ⟨some 33, .fad 3 (.tmp 5), none⟩,
 ⟨some 34, .ld false 1 (.tmp 33), none⟩,
 ⟨some 35, .call 82 [(.tmp 34), (.cst (.d (.int .i64 0))), (.cst (.d (.int .i64 1000)))], none⟩,
 ⟨some 36, .bsl 2 31 1 5 [(.int .i64 0), (.int .i64 0), (.int .i64 0), (.int .i64 0), (.int .i64 0)] [(0, (.tmp 21)), (1, (.tmp 26)), (2, (.tmp 29)), (3, (.tmp 32)), (4, (.tmp 35))], none⟩,
 ⟨some 37, .call 81 [(.tmp 36)], none⟩,
 ⟨some 6, .mov (.tmp 37), none⟩] [(0, 5), (1, 5), (2, 5), (3, 5), (4, 5), (0, 6), (1, 6), (2, 6), (3, 6), (4, 6), (5, 6), (0, 7), (1, 7), (2, 7), (3, 7), (4, 7), (5, 7), (0, 8), (1, 8), (2, 8), (3, 8), (4, 8), (0, 10), (1, 10), (2, 10), (3, 10), (4, 10), (5, 10), (6, 10), (7, 10), (8, 10), (9, 10), (0, 11), (1, 11), (2, 11), (3, 11), (4, 11), (5, 11), (6, 11), (7, 11), (8, 11), (9, 11), (0, 13), (1, 13), (2, 13), (3, 13), (4, 13), (5, 13), (6, 13), (7, 13), (8, 13), (9, 13), (10, 13), (11, 13), (12, 13), (0, 14), (1, 14), (2, 14), (3, 14), (4, 14), (5, 14), (6, 14), (7, 14), (8, 14), (9, 14), (10, 14), (11, 14), (12, 14), (0, 16), (1, 16), (2, 16), (3, 16), (4, 16), (5, 16), (6, 16), (7, 16), (8, 16), (9, 16), (10, 16), (11, 16), (12, 16), (13, 16), (14, 16), (15, 16), (0, 17), (1, 17), (2, 17), (3, 17), (4, 17), (5, 17), (6, 17), (7, 17), (8, 17), (9, 17), (10, 17), (11, 17), (12, 17), (13, 17), (14, 17), (15, 17)])
 (.seq
 (.reg [] [⟨some 38, .mov (.tmp 6), none⟩,
 ⟨some 39, .cmp .neq (.tmp 38) (.cst (.d (.int .i64 0))), none⟩])
 (.cond (.tmp 39)
 (.seq
 (.reg [] [⟨some 40, .mov (.tmp 6), none⟩,
 ⟨some 2, .mov (.tmp 40), none⟩])
 .ret)
 .skip)))
 (.reg [] [⟨some 41, .mov (.tmp 3), none⟩,
 ⟨some 42, .fad 0 (.tmp 5), none⟩,
 ⟨some 43, .ld false 1 (.tmp 42), none⟩,
 ⟨none, .mpu none (.tmp 41) (.tmp 43) (.cst (.d (.bool true))), none⟩]))))
 (.reg [] [⟨some 44, .arith .add .i64 (.tmp 13) (.cst (.d (.int .i64 1))), none⟩,
 ⟨some 13, .mov (.tmp 44), none⟩]))))))))))
 (.seq
 (.reg [] [⟨some 2, .mov (.cst (.d (.int .i64 0))), none⟩])
 .ret)))))⟩


def kmap (l : List Stn) (k : Nat) : List (Data × Data) := (nmsTo l k).map fun n => (.str n, .bool true)
theorem findM_names (s : List UInt8) : ∀ l : List (List UInt8), findM (.str s) (l.map fun n => (.str n, .bool true)) = if l.contains s then some (.bool true) else none
  | [] => rfl
  | n :: r => by
    show (match dEq (.str s) (.str n) with | true => some (Data.bool true) | false => findM (.str s) (r.map fun n => (.str n, .bool true))) = _
    rw [List.contains_cons, findM_names s r]
    show (match (s == n) with | true => _ | false => _) = _
    cases (s == n) <;> simp
theorem putM_names (s : List UInt8) : ∀ l : List (List UInt8), l.contains s = false → putM (.str s) (.bool true) (l.map fun n => (.str n, .bool true)) = (l ++ [s]).map fun n => (.str n, .bool true)
  | [], _ => rfl
  | n :: r, h => by
    rw [List.contains_cons, Bool.or_eq_false_iff] at h
    show (match (s == n) with | true => _ | false => _) = _
    rw [h.1]
    show (Data.str n, Data.bool true) :: putM (.str s) (.bool true) (r.map fun n => (.str n, .bool true)) = _
    rw [putM_names s r h.2]; rfl
theorem keys_names : ∀ l : List (List UInt8), keysOk none (l.map fun n => (.str n, .bool true)) = true
  | [] => rfl
  | n :: r => keys_names r
theorem st_new {l : List Stn} {k : Nat} {x : Stn} (h : (chkSt (nmsTo l k) x != 0) = false) : (nmsTo l k).contains x.nm = false := by
  have h : chkSt (nmsTo l k) x = 0 := by simpa using h
  have h2 := firstOf_zero h (bif (nmsTo l k).contains x.nm then 9 else 0) (by simp)
  rcases Bool.eq_false_or_eq_true ((nmsTo l k).contains x.nm) with e | e
  · rw [e] at h2; cases h2
  · exact e
set_option maxHeartbeats 4000000 in
theorem c70 (l : List Stn) : CallDet Tryz.prog 70 [.d (.slice 4 (stns l))] [.int .i64 (chkStns l)] := by
  have hlen := stns_len l
  refine call_of_vc (x := ir70) (by kernel_rfl) rfl ?_
  refine And.intro rfl ?_
  refine brk_intro ?_ ?_
  · intro h
    exact st_big (by rw [← hlen]; exact h)
  intro h
  have h : decide ((8 : Int) < ((stns l).length : Int)) = false := h
  have h8 : l.length ≤ 8 := by have := of_decide_eq_false h; omega
  rw [hlen] at h
  refine loop_st (fun k : Nat => ⟨[(3, .mp 0), (11, .d (.slice 4 (stns l))), (12, .d (.int .i64 ((stns l).length : Int))), (13, .d (.int .i64 k))], [.mapo (kmap l k), .none, .none]⟩)
    (fun k => chkStns l = chkGo (nmsTo l k) (l.drop k)) (fun k => l.length - k) 0 rfl (st_small h) ?_
  intro k hi
  refine And.intro rfl ?_
  refine brk_lt (fun h => ?_) (fun h => ?_)
  · have h : (k : Int) < ((stns l).length : Int) := h
    refine Exists.elim (⟨_, List.getElem?_eq_getElem (by omega)⟩ : ∃ x, l[k]? = some x) fun x hx => ?_
    have hd : (stns l)[(k : Int).toNat]? = some x.d := by simp [stns, hx]
    have hf : findM (.str x.nm) (kmap l k) = if (nmsTo l k).contains x.nm then some (Data.bool true) else none := findM_names _ _
    have hlk : (∃ y, findM (.str x.nm) (kmap l k) = some y ∧ [Data.bool ((nmsTo l k).contains x.nm), Data.bool ((nmsTo l k).contains x.nm)] = [y, .bool true]) ∨ (findM (.str x.nm) (kmap l k) = none ∧ [Data.bool ((nmsTo l k).contains x.nm), Data.bool ((nmsTo l k).contains x.nm)] = [.bool false, .bool false]) := by
      rw [hf]
      rcases Bool.eq_false_or_eq_true ((nmsTo l k).contains x.nm) with e | e
      · rw [e]; exact .inl ⟨_, rfl, rfl⟩
      · rw [e]; exact .inr ⟨rfl, rfl⟩
    refine ix_at hd (by omega) ?_
    refine Exists.intro _ (And.intro (c114 x.nm) ?_)
    refine Exists.intro _ (And.intro (c83 _ _) ?_)
    refine Exists.intro [Data.bool ((nmsTo l k).contains x.nm), Data.bool ((nmsTo l k).contains x.nm)] (And.intro ⟨rfl, keys_names _, hlk⟩ ?_)
    refine Exists.intro _ (And.intro (c83 _ _) ?_)
    refine Exists.intro _ (And.intro (c82 _ _ _) ?_)
    refine Exists.intro _ (And.intro (c82 _ _ _) ?_)
    refine Exists.intro _ (And.intro (c82 _ _ _) ?_)
    repeat refine And.intro rfl ?_
    refine Exists.intro _ (And.intro (c81 [bif !(isNm x.nm) then 8 else 0, bif (nmsTo l k).contains x.nm then 9 else 0, within3 x.pri 0 3, within3 x.fr 0 64, within3 x.wt 0 1000] (by simp)) ?_)
    repeat refine And.intro rfl ?_
    refine brk_intro ?_ ?_
    · intro hb
      exact st_bad hx hi hb
    · intro hb
      refine And.intro ⟨rfl, keys_names _⟩ ?_
      refine ar_add (by omega) ?_
      have hp : putM (.str x.nm) (.bool true) (kmap l k) = kmap l (k + 1) := by
        unfold kmap
        rw [putM_names _ _ (st_new hb), nmsTo_succ hx]
      refine ⟨k + 1, ⟨st_ok hx hi hb, by show l.length - (k + 1) < l.length - k; omega⟩, ?_⟩
      exact congrArg (fun m => St.mk [(3, .mp 0), (11, .d (.slice 4 (stns l))), (12, .d (.int .i64 ((stns l).length : Int))), (13, .d (.int .i64 ((k : Int) + 1)))] [.mapo m, .none, .none]) hp
  · have h : ¬ (k : Int) < ((stns l).length : Int) := h
    exact st_end (by omega) hi
end Vc

