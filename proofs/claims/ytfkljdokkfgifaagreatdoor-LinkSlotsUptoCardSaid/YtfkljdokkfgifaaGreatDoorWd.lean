import Derived.Test.YtfkljdokkfgifaaGreatDoorVf
import Derived.Test.YtfkljdokkfgifaaGreatDoorWa
import Derived.Test.YtfkljdokkfgifaaGreatDoorRows
set_option linter.unusedSectionVars false
set_option linter.unusedVariables false
set_option linter.unusedSimpArgs false
set_option maxRecDepth 10000
namespace Vc
open Go Go.Proofs
/-- kilovar/link.when -/
def ir83 : AFun := ⟨7, 0, [.tmp 4],
 (.seq
 (.reg [] [⟨some 4, .mov (.cst (.d (.int .i64 0))), none⟩])
 (.seq
 (.seq
 (.reg [] [⟨some 5, .mov (.tmp 0), none⟩])
 (.cond (.tmp 5)
 (.seq
 (.reg [] [⟨some 6, .mov (.tmp 1), none⟩,
 ⟨some 4, .mov (.tmp 6), none⟩])
 .ret)
 .skip))
 (.seq
 (.reg [] [⟨some 4, .mov (.cst (.d (.int .i64 0))), none⟩])
 .ret)))⟩

/-- kilovar/link.within -/
def ir82 : AFun := ⟨16, 0, [.tmp 6],
 (.seq
 (.reg [] [⟨some 6, .mov (.cst (.d (.int .i64 0))), none⟩])
 (.seq
 (.reg [] [⟨some 7, .mov (.tmp 0), none⟩,
 ⟨some 8, .mov (.tmp 1), none⟩,
 ⟨some 9, .cmp .lss (.tmp 7) (.tmp 8), none⟩,
 ⟨some 10, .mov (.tmp 9), none⟩,
 ⟨some 11, .mov (.tmp 0), some (10, false)⟩,
 ⟨some 12, .mov (.tmp 2), some (10, false)⟩,
 ⟨some 13, .cmp .gtr (.tmp 11) (.tmp 12), some (10, false)⟩,
 ⟨some 14, .pick (.tmp 10) (.cst (.d (.bool true))) (.tmp 13), none⟩,
 ⟨some 15, .call 83 [(.tmp 14), (.cst (.d (.int .i64 3)))], none⟩,
 ⟨some 6, .mov (.tmp 15), none⟩])
 .ret))⟩

/-- kilovar/link.first -/
def ir81 : AFun := ⟨15, 0, [.tmp 2],
 (.seq
 (.reg [] [⟨some 2, .mov (.cst (.d (.int .i64 0))), none⟩])
 (.seq
 (.seq
 (.reg [] [⟨some 5, .mov (.tmp 0), none⟩,
 ⟨some 6, .len (.tmp 5), none⟩,
 ⟨some 7, .mov (.cst (.d (.int .i64 0))), none⟩])
 (.post [] []
 (.block 0
 (.keep [5, 6, 7] []
 (.loop
 (.post [5, 6, 7] []
 (.seq
 (.reg [] [⟨some 8, .cmp .lss (.tmp 7) (.tmp 6), none⟩])
 (.seq
 (.cond (.tmp 8)
 .skip
 (.exit 0))
 (.seq
 (.block 1
 (.seq
 (.reg [] [⟨some 9, .ixa 1 (.tmp 5) (.tmp 7), none⟩,
 ⟨some 10, .ld false 1 (.tmp 9), none⟩,
 ⟨some 4, .mov (.tmp 10), none⟩])
 (.seq
 (.reg [] [⟨some 11, .mov (.tmp 4), none⟩,
 ⟨some 12, .cmp .neq (.tmp 11) (.cst (.d (.int .i64 0))), none⟩])
 (.cond (.tmp 12)
 (.seq
 (.reg [] [⟨some 13, .mov (.tmp 4), none⟩,
 ⟨some 2, .mov (.tmp 13), none⟩])
 .ret)
 .skip))))
 (.reg [] [⟨some 14, .arith .add .i64 (.tmp 7) (.cst (.d (.int .i64 1))), none⟩,
 ⟨some 7, .mov (.tmp 14), none⟩]))))))))))
 (.seq
 (.reg [] [⟨some 2, .mov (.cst (.d (.int .i64 0))), none⟩])
 .ret)))⟩

/-- kilovar/kilovarlaw04.first -/
def ir37 : AFun := ⟨5, 0, [.tmp 2],
 (.seq
 (.reg [] [⟨some 2, .mov (.cst (.d (.int .i64 0))), none⟩])
 (.seq
 (.reg [] [⟨some 3, .mov (.tmp 0), none⟩,
 ⟨some 4, .call 89 [(.tmp 3)], none⟩,
 ⟨some 2, .mov (.tmp 4), none⟩])
 .ret))⟩

/-- kilovar/kilovarref01.First -/
def ir89 : AFun := ⟨19, 0, [.tmp 2],
 (.seq
 (.reg [] [⟨some 2, .mov (.cst (.d (.int .i64 0))), none⟩])
 (.seq
 (.seq
 (.reg [] [⟨some 3, .mov (.cst (.d (.int .i64 0))), none⟩])
 (.post [] []
 (.block 0
 (.keep [0, 3] []
 (.loop
 (.post [0, 3] []
 (.seq
 (.seq
 (.reg [] [⟨some 4, .mov (.tmp 3), none⟩,
 ⟨some 5, .mov (.tmp 0), none⟩,
 ⟨some 6, .len (.tmp 5), none⟩,
 ⟨some 7, .cmp .lss (.tmp 4) (.tmp 6), none⟩])
 (.cond (.tmp 7)
 .skip
 (.exit 0)))
 (.seq
 (.block 1
 (.seq
 (.reg [] [⟨some 10, .mov (.tmp 0), none⟩,
 ⟨some 11, .mov (.tmp 3), none⟩,
 ⟨some 12, .ixa 1 (.tmp 10) (.tmp 11), none⟩,
 ⟨some 13, .ld false 1 (.tmp 12), none⟩,
 ⟨some 14, .cmp .neq (.tmp 13) (.cst (.d (.int .i64 0))), none⟩])
 (.cond (.tmp 14)
 (.seq
 (.reg [] [⟨some 15, .mov (.tmp 0), none⟩,
 ⟨some 16, .mov (.tmp 3), none⟩,
 ⟨some 17, .ixa 1 (.tmp 15) (.tmp 16), none⟩,
 ⟨some 18, .ld false 1 (.tmp 17), none⟩,
 ⟨some 2, .mov (.tmp 18), none⟩])
 .ret)
 .skip)))
 (.reg [] [⟨some 8, .mov (.tmp 3), none⟩,
 ⟨some 9, .arith .add .i64 (.tmp 8) (.cst (.d (.int .i64 1))), none⟩,
 ⟨some 3, .mov (.tmp 9), none⟩])))))))))
 (.seq
 (.reg [] [⟨some 2, .mov (.cst (.d (.int .i64 0))), none⟩])
 .ret)))⟩

theorem c83 (c : Bool) (e : Int) : CallDet Tryz.prog 83 [.d (.bool c), .d (.int .i64 e)] [.int .i64 (bif c then e else 0)] := by
  refine call_of_vc (x := ir83) (by kernel_rfl) rfl ?_
  refine brk_intro ?_ ?_
  · intro h; subst h
    exact rfl
  · intro h; subst h
    exact rfl

theorem c82 (x lo hi : Int) : CallDet Tryz.prog 82 [.d (.int .i64 x), .d (.int .i64 lo), .d (.int .i64 hi)] [.int .i64 (bif decide (x < lo) || decide (hi < x) then 3 else 0)] := by
  refine call_of_vc (x := ir82) (by kernel_rfl) rfl ?_
  refine And.intro rfl ?_
  refine brk_intro ?_ ?_
  · intro h
    refine And.intro rfl ?_
    refine Exists.intro _ (And.intro (c83 _ _) ?_)
    have h : decide (x < lo) = true := h
    rw [h]
    exact rfl
  · intro h
    refine And.intro rfl ?_
    refine Exists.intro _ (And.intro (c83 _ _) ?_)
    have h : decide (x < lo) = false := h
    rw [h]
    exact rfl

def ints (es : List Int) : List Data := es.map (.int .i64)
def firstOf : List Int → Int
  | [] => 0
  | e :: r => bif e != 0 then e else firstOf r

theorem ints_get {es : List Int} {k : Nat} {e : Int} (h : es[k]? = some e) : (ints es)[(k : Int).toNat]? = some (.int .i64 e) := by
  simp [ints, h]
theorem drop_get {es : List Int} {k : Nat} {e : Int} (h : es[k]? = some e) : es.drop k = e :: es.drop (k + 1) := by
  obtain ⟨h1, rfl⟩ := List.getElem?_eq_some_iff.1 h
  exact List.drop_eq_getElem_cons h1

theorem c81 (es : List Int) (hl : es.length < 9223372036854775807) : CallDet Tryz.prog 81 [.d (.slice 1 (ints es))] [.int .i64 (firstOf es)] := by
  refine call_of_vc (x := ir81) (by kernel_rfl) rfl ?_
  refine loop_st (fun k : Nat => ⟨[(5, .d (.slice 1 (ints es))), (6, .d (.int .i64 (ints es).length)), (7, .d (.int .i64 k))], []⟩)
    (fun k => firstOf es = firstOf (es.drop k)) (fun k => es.length - k) 0 rfl rfl ?_
  intro k hk
  refine And.intro rfl ?_
  refine brk_intro ?_ ?_
  · intro h
    have h : (k : Int) < (ints es).length := of_decide_eq_true h
    have h1 : k < es.length := by simp [ints] at h; exact h
    obtain ⟨e, he⟩ : ∃ e, es[k]? = some e := ⟨_, List.getElem?_eq_getElem h1⟩
    refine ix_at (ints_get he) (by omega) ?_
    refine And.intro rfl ?_
    refine brk_intro ?_ ?_
    · intro h2
      have h2 : (e != 0) = true := h2
      rw [hk, drop_get he, firstOf, h2]
      exact rfl
    · intro h2
      have h2 : (e != 0) = false := h2
      refine ar_add (by omega) ?_
      refine ⟨k + 1, ⟨?_, by omega⟩, rfl⟩
      rw [hk, drop_get he, firstOf, h2]
      rfl
  · intro h
    have h : ¬ ((k : Int) < (ints es).length) := of_decide_eq_false h
    have h1 : es.length ≤ k := by simp [ints] at h; exact h
    rw [hk, List.drop_eq_nil_of_le h1]
    exact rfl
end Vc

set_option maxRecDepth 10000
namespace Vc
open Go Go.Proofs
/-- kilovar/link.limits -/
def ir90 : AFun := ⟨5, 1, [.cell 0 9 true],
 (.seq
 (.reg [0] [⟨some 0, .alloc 0 [.undef, (.d (.int .i64 0)), .undef, .undef, (.d (.int .i64 0)), .undef, .undef, (.d (.int .i64 0)), .undef], none⟩])
 (.seq
 (.reg [] [⟨some 1, .build [.undef, (.d (.int .i64 0)), .undef] [(0, 1, (.cst (.d (.fn (.func 125) [])))), (1, 1, (.cst (.d (.int .i64 0)))), (2, 1, (.cst (.d (.fn (.func 126) []))))], none⟩,
 ⟨some 2, .build [.undef, (.d (.int .i64 0)), .undef] [(0, 1, (.cst (.d (.fn (.func 127) [])))), (1, 1, (.cst (.d (.int .i64 1)))), (2, 1, (.cst (.d (.fn (.func 128) []))))], none⟩,
 ⟨some 3, .build [.undef, (.d (.int .i64 0)), .undef] [(0, 1, (.cst (.d (.fn (.func 129) [])))), (1, 1, (.cst (.d (.int .i64 0)))), (2, 1, (.cst (.d (.fn (.func 130) []))))], none⟩,
 ⟨some 4, .build [.undef, (.d (.int .i64 0)), .undef, .undef, (.d (.int .i64 0)), .undef, .undef, (.d (.int .i64 0)), .undef] [(0, 3, (.tmp 1)), (3, 3, (.tmp 2)), (6, 3, (.tmp 3))], none⟩,
 ⟨none, .st 9 (.tmp 0) (.tmp 4), none⟩])
 .ret))⟩

/-- kilovar/link.limits$1 -/
def ir125 : AFun := ⟨5, 1, [.tmp 2],
 (.seq
 (.reg [0] [⟨some 1, .cbx 0 4 (.tmp 0), none⟩,
 ⟨some 2, .mov (.cst (.d (.int .i64 0))), none⟩])
 (.seq
 (.reg [] [⟨some 3, .fad 0 (.tmp 1), none⟩,
 ⟨some 4, .ld false 1 (.tmp 3), none⟩,
 ⟨some 2, .mov (.tmp 4), none⟩])
 .ret))⟩

/-- kilovar/link.limits$2 -/
def ir126 : AFun := ⟨3, 1, [.tmp 2],
 (.seq
 (.reg [0] [⟨some 1, .cbx 0 4 (.tmp 0), none⟩,
 ⟨some 2, .mov (.cst (.d (.int .i64 0))), none⟩])
 (.seq
 (.reg [] [⟨some 2, .mov (.cst (.d (.int .i64 255))), none⟩])
 .ret))⟩

/-- kilovar/link.limits$3 -/
def ir127 : AFun := ⟨5, 1, [.tmp 2],
 (.seq
 (.reg [0] [⟨some 1, .cbx 0 4 (.tmp 0), none⟩,
 ⟨some 2, .mov (.cst (.d (.int .i64 0))), none⟩])
 (.seq
 (.reg [] [⟨some 3, .fad 2 (.tmp 1), none⟩,
 ⟨some 4, .ld false 1 (.tmp 3), none⟩,
 ⟨some 2, .mov (.tmp 4), none⟩])
 .ret))⟩

/-- kilovar/link.limits$4 -/
def ir128 : AFun := ⟨3, 1, [.tmp 2],
 (.seq
 (.reg [0] [⟨some 1, .cbx 0 4 (.tmp 0), none⟩,
 ⟨some 2, .mov (.cst (.d (.int .i64 0))), none⟩])
 (.seq
 (.reg [] [⟨some 2, .mov (.cst (.d (.int .i64 64))), none⟩])
 .ret))⟩

/-- kilovar/link.limits$5 -/
def ir129 : AFun := ⟨5, 1, [.tmp 2],
 (.seq
 (.reg [0] [⟨some 1, .cbx 0 4 (.tmp 0), none⟩,
 ⟨some 2, .mov (.cst (.d (.int .i64 0))), none⟩])
 (.seq
 (.reg [] [⟨some 3, .fad 1 (.tmp 1), none⟩,
 ⟨some 4, .ld false 1 (.tmp 3), none⟩,
 ⟨some 2, .mov (.tmp 4), none⟩])
 .ret))⟩

/-- kilovar/link.limits$6 -/
def ir130 : AFun := ⟨6, 1, [.tmp 2],
 (.seq
 (.reg [0] [⟨some 1, .cbx 0 4 (.tmp 0), none⟩,
 ⟨some 2, .mov (.cst (.d (.int .i64 0))), none⟩])
 (.seq
 (.reg [] [⟨some 3, .fad 2 (.tmp 1), none⟩,
 ⟨some 4, .ld false 1 (.tmp 3), none⟩,
 ⟨some 5, .arith .sub .i64 (.tmp 4) (.cst (.d (.int .i64 1))), none⟩,
 ⟨some 2, .mov (.tmp 5), none⟩])
 .ret))⟩

/-- kilovar/link.CheckFrame -/
def ir30 : AFun := ⟨30, 2, [.tmp 2],
 (.seq
 (.reg [0] [⟨some 1, .cbx 0 4 (.tmp 0), none⟩,
 ⟨some 2, .mov (.cst (.d (.int .i64 0))), none⟩])
 (.seq
 (.seq
 (.reg [] [⟨some 6, .call 90 [], none⟩,
 ⟨some 7, .mov (.cst (.d (.int .i64 0))), none⟩])
 (.post [1] [0, 1]
 (.block 0
 (.keep [1, 6, 7] [0]
 (.loop
 (.post [1, 6, 7] [1]
 (.seq
 (.reg [] [⟨some 8, .cmp .lss (.tmp 7) (.cst (.d (.int .i64 3))), none⟩])
 (.seq
 (.cond (.tmp 8)
 .skip
 (.exit 0))
 (.seq
 (.block 1
 (.seq
 (.reg [1] [⟨some 9, .ixv true 3 3 (.tmp 6) (.tmp 7), none⟩,
 ⟨some 4, .alloc 1 [.undef, (.d (.int .i64 0)), .undef], none⟩,
 ⟨none, .st 3 (.tmp 4) (.tmp 9), none⟩])
 (.seq
 (.regd [] [⟨some 10, .fad 0 (.tmp 4), none⟩,
 ⟨some 11, .ld false 1 (.tmp 10), none⟩,
 ⟨some 12, .ld true 4 (.tmp 1), none⟩,
 ⟨some 13, .callv (.tmp 11) [(.tmp 12)], none⟩,
 ⟨some 14, .fad 1 (.tmp 4), none⟩,
 ⟨some 15, .ld false 1 (.tmp 14), none⟩,
 ⟨some 16, .fad 2 (.tmp 4), none⟩,
 ⟨some 17, .ld false 1 (.tmp 16), none⟩,
 ⟨some 18, .ld true 4 (.tmp 1), none⟩,
 ⟨some 19, .callv (.tmp 17) [(.tmp 18)], none⟩,
 ⟨some 20, .call 82 [(.tmp 13), (.tmp 15), (.tmp 19)], none⟩,
 ⟨some 5, .mov (.tmp 20), none⟩] [(0, 2), (1, 2), (0, 4), (1, 4), (2, 4), (3, 4), (0, 5), (1, 5), (2, 5), (3, 5), (0, 6), (1, 6), (2, 6), (3, 6), (4, 6), (5, 6), (0, 7), (1, 7), (2, 7), (3, 7), (4, 7), (5, 7), (0, 8), (1, 8), (2, 8), (3, 8), (4, 8), (5, 8), (6, 8), (7, 8), (4, 9), (5, 9)])
 (.seq
 (.reg [] [⟨some 21, .mov (.tmp 5), none⟩,
 ⟨some 22, .cmp .neq (.tmp 21) (.cst (.d (.int .i64 0))), none⟩])
 (.cond (.tmp 22)
 (.seq
 (.reg [] [⟨some 23, .mov (.tmp 5), none⟩,
 ⟨some 2, .mov (.tmp 23), none⟩])
 .ret)
 .skip)))))
 (.reg [] [⟨some 24, .arith .add .i64 (.tmp 7) (.cst (.d (.int .i64 1))), none⟩,
 ⟨some 7, .mov (.tmp 24), none⟩]))))))))))
 (.seq
 (.reg [] [⟨some 25, .fad 3 (.tmp 1), none⟩,
 ⟨some 26, .ld false 1 (.tmp 25), none⟩,
 ⟨some 27, .len (.tmp 26), none⟩,
 ⟨some 28, .cmp .gtr (.tmp 27) (.cst (.d (.int .i64 12))), none⟩,
 ⟨some 29, .call 83 [(.tmp 28), (.cst (.d (.int .i64 5)))], none⟩,
 ⟨some 2, .mov (.tmp 29), none⟩])
 .ret)))⟩

def byt (c : UInt8) : Data := .int .u8 c.toNat
def fr (m p n : Int) (bs : List UInt8) : Data := .agg [.int .i64 m, .int .i64 p, .int .i64 n, .slice 1 (bs.map byt)]

theorem c90 : CallDet Tryz.prog 90 [] [.agg [.fn (.func 125) [], .int .i64 0, .fn (.func 126) [], .fn (.func 127) [], .int .i64 1, .fn (.func 128) [], .fn (.func 129) [], .int .i64 0, .fn (.func 130) []]] := by
  refine call_of_vc (x := ir90) (by kernel_rfl) rfl ?_
  exact rfl
theorem c125 (m p n : Int) (bs : List UInt8) : CallDet Tryz.prog 125 [.d (fr m p n bs)] [.int .i64 m] := by
  refine call_of_vc (x := ir125) (by kernel_rfl) rfl ?_
  exact rfl
theorem c126 (m p n : Int) (bs : List UInt8) : CallDet Tryz.prog 126 [.d (fr m p n bs)] [.int .i64 255] := by
  refine call_of_vc (x := ir126) (by kernel_rfl) rfl ?_
  exact rfl
theorem c127 (m p n : Int) (bs : List UInt8) : CallDet Tryz.prog 127 [.d (fr m p n bs)] [.int .i64 n] := by
  refine call_of_vc (x := ir127) (by kernel_rfl) rfl ?_
  exact rfl
theorem c128 (m p n : Int) (bs : List UInt8) : CallDet Tryz.prog 128 [.d (fr m p n bs)] [.int .i64 64] := by
  refine call_of_vc (x := ir128) (by kernel_rfl) rfl ?_
  exact rfl
theorem c129 (m p n : Int) (bs : List UInt8) : CallDet Tryz.prog 129 [.d (fr m p n bs)] [.int .i64 p] := by
  refine call_of_vc (x := ir129) (by kernel_rfl) rfl ?_
  exact rfl
theorem c130 (m p n : Int) (bs : List UInt8) (hn : -9223372036854775807 ≤ n ∧ n ≤ 9223372036854775807) : CallDet Tryz.prog 130 [.d (fr m p n bs)] [.int .i64 (n - 1)] := by
  refine call_of_vc (x := ir130) (by kernel_rfl) rfl ?_
  refine ar_sub (by omega) ?_
  exact rfl

def within3 (x lo hi : Int) : Int := bif decide (x < lo) || decide (hi < x) then 3 else 0
def checkFrame (m p n : Int) (len : Nat) : Int :=
  bif within3 m 0 255 != 0 then 3 else bif within3 n 1 64 != 0 then 3 else bif within3 p 0 (n - 1) != 0 then 3 else bif decide ((12 : Int) < len) then 5 else 0
def limD : Data := .agg [.fn (.func 125) [], .int .i64 0, .fn (.func 126) [], .fn (.func 127) [], .int .i64 1, .fn (.func 128) [], .fn (.func 129) [], .int .i64 0, .fn (.func 130) []]

theorem within3_or (x lo hi : Int) : within3 x lo hi = 0 ∨ within3 x lo hi = 3 := by
  unfold within3
  cases decide (x < lo) || decide (hi < x) <;> simp

theorem within3_zero {x lo hi : Int} (h : within3 x lo hi = 0) : lo ≤ x ∧ x ≤ hi := by
  unfold within3 at h
  cases h1 : decide (x < lo) <;> cases h2 : decide (hi < x) <;> rw [h1, h2] at h <;> simp at h h1 h2
  omega

theorem c30 (m p n : Int) (bs : List UInt8) : CallDet Tryz.prog 30 [.d (fr m p n bs)] [.int .i64 (checkFrame m p n bs.length)] := by
  refine call_of_vc (x := ir30) (by kernel_rfl) rfl ?_
  refine Exists.intro _ (And.intro c90 ?_)
  refine loop_st (fun k : Nat => ⟨[(1, .ptr 0 0), (6, .d limD), (7, .d (.int .i64 k))], [.cbox [.int .i64 m, .int .i64 p, .int .i64 n, .slice 1 (bs.map byt)], .none]⟩)
    (fun k => k ≤ 3 ∧ (0 < k → within3 m 0 255 = 0) ∧ (1 < k → within3 n 1 64 = 0) ∧ (2 < k → within3 p 0 (n - 1) = 0)) (fun k => 3 - k) 0 rfl ⟨by omega, by omega, by omega, by omega⟩ ?_
  rintro k ⟨hk, h0, h1, h2⟩
  rcases k with _ | _ | _ | _ | k
  · refine And.intro rfl ?_
    refine And.intro ⟨by decide, by decide⟩ ?_
    refine Exists.intro _ (And.intro (c125 m p n bs) ?_)
    refine Exists.intro _ (And.intro (c126 m p n bs) ?_)
    refine Exists.intro _ (And.intro (c82 _ _ _) ?_)
    refine And.intro rfl ?_
    refine brk_intro ?_ ?_
    · intro h
      have h : (within3 m 0 255 != 0) = true := h
      have e : checkFrame m p n bs.length = within3 m 0 255 := by
        rcases within3_or m 0 255 with e | e <;> rw [e] at h <;> simp [checkFrame, e] at h ⊢
      rw [e]
      exact rfl
    · intro h
      have h : (within3 m 0 255 != 0) = false := h
      refine ar_add (by omega) ?_
      exact ⟨1, ⟨⟨by omega, fun _ => by simpa using h, by omega, by omega⟩, by omega⟩, rfl⟩
  · refine And.intro rfl ?_
    refine And.intro ⟨by decide, by decide⟩ ?_
    refine Exists.intro _ (And.intro (c127 m p n bs) ?_)
    refine Exists.intro _ (And.intro (c128 m p n bs) ?_)
    refine Exists.intro _ (And.intro (c82 _ _ _) ?_)
    refine And.intro rfl ?_
    refine brk_intro ?_ ?_
    · intro h
      have h : (within3 n 1 64 != 0) = true := h
      have e : checkFrame m p n bs.length = within3 n 1 64 := by
        rcases within3_or n 1 64 with e | e <;> rw [e] at h <;> simp [checkFrame, e, h0] at h ⊢
      rw [e]
      exact rfl
    · intro h
      have h : (within3 n 1 64 != 0) = false := h
      refine ar_add (by omega) ?_
      exact ⟨2, ⟨⟨by omega, fun _ => h0 (by omega), fun _ => by simpa using h, by omega⟩, by omega⟩, rfl⟩
  · refine And.intro rfl ?_
    refine And.intro ⟨by decide, by decide⟩ ?_
    refine Exists.intro _ (And.intro (c129 m p n bs) ?_)
    refine Exists.intro _ (And.intro (c130 m p n bs (by have := within3_zero (h1 (by omega)); omega)) ?_)
    refine Exists.intro _ (And.intro (c82 _ _ _) ?_)
    refine And.intro rfl ?_
    refine brk_intro ?_ ?_
    · intro h
      have h : (within3 p 0 (n - 1) != 0) = true := h
      have e : checkFrame m p n bs.length = within3 p 0 (n - 1) := by
        rcases within3_or p 0 (n - 1) with e | e <;> rw [e] at h <;> simp [checkFrame, e, h0, h1] at h ⊢
      rw [e]
      exact rfl
    · intro h
      have h : (within3 p 0 (n - 1) != 0) = false := h
      refine ar_add (by omega) ?_
      exact ⟨3, ⟨⟨by omega, fun _ => h0 (by omega), fun _ => h1 (by omega), fun _ => by simpa using h⟩, by omega⟩, rfl⟩
  · refine And.intro rfl ?_
    refine And.intro rfl ?_
    refine Exists.intro _ (And.intro (c83 _ _) ?_)
    have e : checkFrame m p n bs.length = bif decide ((12 : Int) < (bs.map byt).length) then 5 else 0 := by
      simp [checkFrame, h0, h1, h2]
    rw [e]
    exact rfl
  · omega
end Vc

set_option maxRecDepth 10000
namespace Vc
open Go Go.Proofs
/-- kilovar/link.mapped[kilovar/link.Frame,kilovar/api.Errno] -/
def ir124 : AFun := ⟨22, 3, [.tmp 4],
 (.seq
 (.reg [] [⟨some 4, .mov (.cst (.nils 1)), none⟩])
 (.seq
 (.reg [] [⟨some 5, .mov (.cst (.nils 1)), none⟩])
 (.seq
 (.seq
 (.reg [] [⟨some 8, .mov (.tmp 0), none⟩,
 ⟨some 9, .len (.tmp 8), none⟩,
 ⟨some 10, .mov (.cst (.d (.int .i64 0))), none⟩])
 (.post [5] [0, 1, 2]
 (.block 0
 (.asrow 2 31 1 5
 (.keep [1, 5, 8, 9, 10] []
 (.loop
 (.post [1, 5, 8, 9, 10] [0, 1, 2]
 (.seq
 (.reg [] [⟨some 11, .cmp .lss (.tmp 10) (.tmp 9), none⟩])
 (.seq
 (.cond (.tmp 11)
 .skip
 (.exit 0))
 (.seq
 (.block 1
 (.seq
 (.reg [0] [⟨some 12, .ixa 4 (.tmp 8) (.tmp 10), none⟩,
 ⟨some 13, .ld true 4 (.tmp 12), none⟩,
 ⟨some 7, .alloc 0 [(.d (.int .i64 0)), (.d (.int .i64 0)), (.d (.int .i64 0)), (.nils 1)], none⟩,
 ⟨none, .st 4 (.tmp 7) (.tmp 13), none⟩])
 (.reg [1, 2] [⟨some 14, .mov (.tmp 5), none⟩,
 ⟨some 15, .mov (.tmp 1), none⟩,
 ⟨some 16, .ld true 4 (.tmp 7), none⟩,
 ⟨some 17, .callv (.tmp 15) [(.tmp 16)], none⟩,
 ⟨some 18, .bsl 1 31 1 1 [(.int .i64 0)] [(0, (.tmp 17))], none⟩,
 ⟨some 19, .app 2 31 1 8 (.tmp 14) (.tmp 18), none⟩,
 ⟨some 5, .mov (.tmp 19), none⟩])))
 (.reg [] [⟨some 20, .arith .add .i64 (.tmp 10) (.cst (.d (.int .i64 1))), none⟩,
 ⟨some 10, .mov (.tmp 20), none⟩])))))))))))
 (.seq
 (.reg [] [⟨some 21, .mov (.tmp 5), none⟩,
 ⟨some 4, .mov (.tmp 21), none⟩])
 .ret))))⟩

structure Fr where
  m : Int
  p : Int
  n : Int
  b : List UInt8
def Fr.d (f : Fr) : Data := fr f.m f.p f.n f.b
def frs (l : List Fr) : List Data := l.map Fr.d

theorem take_map_succ {α β : Type} {l : List α} {k : Nat} {x : α} (f : α → β) (h : l[k]? = some x) : (l.take (k + 1)).map f = (l.take k).map f ++ [f x] := by
  rw [List.take_add_one, h]; simp

theorem c124 (l : List Fr) (hl : l.length ≤ 1048576) (f : Nat) (g : Fr → Int) (hg : ∀ x ∈ l, CallDet Tryz.prog f [.d x.d] [.int .i64 (g x)]) :
    CallDet Tryz.prog 124 [.d (.slice 4 (frs l)), .d (.fn (.func f) [])] [.slice 1 (ints (l.map g))] := by
  refine call_of_vc (x := ir124) (by kernel_rfl) rfl ?_
  refine loop_st (fun a : Nat × List Data => ⟨[(1, .d (.fn (.func f) [])), (5, .sl 2 a.2.length), (8, .d (.slice 4 (frs l))), (9, .d (.int .i64 (frs l).length)), (10, .d (.int .i64 a.1))], [.none, .none, .row 31 1 a.2 false]⟩)
    (fun a => a.2 = (l.take a.1).map fun x => .int .i64 (g x)) (fun a => l.length - a.1) (0, []) rfl rfl ?_
  rintro ⟨k, acc⟩ hk
  have hlen : (frs l).length = l.length := by simp [frs]
  refine And.intro rfl ?_
  refine brk_intro ?_ ?_
  · intro h
    have h : (k : Int) < (frs l).length := of_decide_eq_true h
    obtain ⟨x, hx⟩ : ∃ x, l[k]? = some x := ⟨_, List.getElem?_eq_getElem (by omega)⟩
    have hd : (frs l)[(k : Int).toNat]? = some x.d := by simp [frs, hx]
    have hacc : acc.length = k := by have := congrArg List.length hk; simp at this; omega
    refine ix_at hd (by omega) ?_
    refine Exists.intro _ (And.intro (hg x (List.mem_of_getElem? hx)) ?_)
    refine And.intro rfl ?_
    refine And.intro rfl ?_
    refine And.intro rfl ?_
    refine And.intro ⟨rfl, rfl, rfl, ?_, ?_⟩ ?_
    · show (acc.length + 1) * 8 ≤ 2 ^ 47
      omega
    · show acc.length + 1 ≤ 2 ^ 47
      omega
    refine ar_add (by omega) ?_
    refine ⟨(k + 1, acc ++ [.int .i64 (g x)]), ⟨?_, by show l.length - (k + 1) < l.length - k; omega⟩, rfl⟩
    show acc ++ [.int .i64 (g x)] = (l.take (k + 1)).map fun x => Data.int .i64 (g x)
    rw [take_map_succ _ hx]
    exact congrArg (· ++ [Data.int .i64 (g x)]) hk
  · intro h
    have h : ¬ (k : Int) < (frs l).length := of_decide_eq_false h
    refine And.intro rfl ?_
    have e : ints (l.map g) = acc := by
      have hk : acc = (l.take k).map fun x => Data.int .i64 (g x) := hk
      rw [hk, List.take_of_length_le (by omega)]
      simp [ints]
    rw [e]
    exact rfl
/-- kilovar/link.checkFrames -/
def ir85 : AFun := ⟨9, 0, [.tmp 2],
 (.seq
 (.reg [] [⟨some 2, .mov (.cst (.d (.int .i64 0))), none⟩])
 (.seq
 (.seq
 (.reg [] [⟨some 3, .mov (.tmp 0), none⟩,
 ⟨some 4, .len (.tmp 3), none⟩,
 ⟨some 5, .cmp .gtr (.tmp 4) (.cst (.d (.int .i64 64))), none⟩])
 (.cond (.tmp 5)
 (.seq
 (.reg [] [⟨some 2, .mov (.cst (.d (.int .i64 5))), none⟩])
 .ret)
 .skip))
 (.seq
 (.reg [] [⟨some 6, .mov (.tmp 0), none⟩,
 ⟨some 7, .call 124 [(.tmp 6), (.cst (.d (.fn (.func 30) [])))], none⟩,
 ⟨some 8, .call 81 [(.tmp 7)], none⟩,
 ⟨some 2, .mov (.tmp 8), none⟩])
 .ret)))⟩


def Fr.ok (f : Fr) : Prop := -9223372036854775808 ≤ f.n ∧ f.n ≤ 9223372036854775807
def Fr.check (f : Fr) : Int := checkFrame f.m f.p f.n f.b.length
def checkFrames (l : List Fr) : Int := bif decide ((64 : Int) < (l.length : Int)) then 5 else firstOf (l.map Fr.check)

theorem c85 (l : List Fr) (hl : l.length ≤ 1048576) : CallDet Tryz.prog 85 [.d (.slice 4 (frs l))] [.int .i64 (checkFrames l)] := by
  refine call_of_vc (x := ir85) (by kernel_rfl) rfl ?_
  have hlen : (frs l).length = l.length := by simp [frs]
  refine And.intro rfl ?_
  refine brk_intro ?_ ?_
  · intro h
    have h : decide ((64 : Int) < ((frs l).length : Int)) = true := h
    rw [checkFrames, ← hlen, h]
    exact rfl
  · intro h
    have h : decide ((64 : Int) < ((frs l).length : Int)) = false := h
    refine Exists.intro _ (And.intro (c124 l hl 30 Fr.check fun f _ => c30 _ _ _ _) ?_)
    refine Exists.intro _ (And.intro (c81 _ (by simp; omega)) ?_)
    rw [checkFrames, ← hlen, h]
    exact rfl
end Vc

set_option maxRecDepth 10000
namespace Vc
open Go Go.Proofs
/-- slices.Clone[[]byte,byte] -/
def ir87 : AFun := ⟨8, 2, [.tmp 2],
 (.seq
 (.reg [] [⟨some 2, .mov (.cst (.nils 1)), none⟩])
 (.seq
 (.seq
 (.reg [] [⟨some 3, .mov (.tmp 0), none⟩,
 ⟨some 4, .isnil false (.tmp 3), none⟩])
 (.cond (.tmp 4)
 (.seq
 (.reg [] [⟨some 2, .mov (.cst (.nils 1)), none⟩])
 .ret)
 .skip))
 (.seq
 (.reg [0, 1] [⟨some 5, .bsl 0 5 1 0 [] [], none⟩,
 ⟨some 6, .mov (.tmp 0), none⟩,
 ⟨some 7, .app 1 5 1 1 (.tmp 5) (.tmp 6), none⟩,
 ⟨some 2, .mov (.tmp 7), none⟩])
 .ret)))⟩

/-- (kilovar/link.Frame).own -/
def ir84 : AFun := ⟨8, 2, [.cell 2 4 true],
 (.seq
 (.reg [0, 1] [⟨some 1, .box 0 4 (.tmp 0), none⟩,
 ⟨some 2, .alloc 1 [(.d (.int .i64 0)), (.d (.int .i64 0)), (.d (.int .i64 0)), (.nils 1)], none⟩])
 (.seq
 (.reg [] [⟨some 3, .fad 3 (.tmp 1), none⟩,
 ⟨some 4, .ld false 1 (.tmp 3), none⟩,
 ⟨some 5, .call 87 [(.tmp 4)], none⟩,
 ⟨some 6, .fad 3 (.tmp 1), none⟩,
 ⟨none, .st 1 (.tmp 6) (.tmp 5), none⟩])
 (.seq
 (.reg [] [⟨some 7, .ld true 4 (.tmp 1), none⟩,
 ⟨none, .st 4 (.tmp 2) (.tmp 7), none⟩])
 .ret)))⟩

theorem c87 (b : List Data) (hl : b.length ≤ 1048576) : CallDet Tryz.prog 87 [.d (.slice 1 b)] [.slice 1 b] := by
  refine call_of_vc (x := ir87) (by kernel_rfl) rfl ?_
  refine And.intro ?_ ?_
  · intro h
    subst h
    exact rfl
  · refine And.intro rfl ?_
    refine And.intro rfl ?_
    refine And.intro ⟨rfl, rfl, rfl, ?_, ?_⟩ ?_
    · show (0 + b.length) * 1 ≤ 2 ^ 47
      omega
    · show 0 + b.length ≤ 2 ^ 47
      omega
    refine And.intro ?_ ?_
    · rfl
    · exact rfl
theorem c84 (f : Fr) (hl : f.b.length ≤ 1048576) : CallDet Tryz.prog 84 [.d f.d] [f.d] := by
  refine call_of_vc (x := ir84) (by kernel_rfl) rfl ?_
  refine Exists.intro _ (And.intro (c87 (f.b.map byt) (by simpa using hl)) ?_)
  exact rfl
/-- kilovar/link.mapped[kilovar/link.Frame,kilovar/link.Frame] -/
def ir133 : AFun := ⟨22, 3, [.tmp 4],
 (.seq
 (.reg [] [⟨some 4, .mov (.cst (.nils 4)), none⟩])
 (.seq
 (.reg [] [⟨some 5, .mov (.cst (.nils 4)), none⟩])
 (.seq
 (.seq
 (.reg [] [⟨some 8, .mov (.tmp 0), none⟩,
 ⟨some 9, .len (.tmp 8), none⟩,
 ⟨some 10, .mov (.cst (.d (.int .i64 0))), none⟩])
 (.post [5] [0, 1, 2]
 (.block 0
 (.asrow 2 38 4 5
 (.keep [1, 5, 8, 9, 10] []
 (.loop
 (.post [1, 5, 8, 9, 10] [0, 1, 2]
 (.seq
 (.reg [] [⟨some 11, .cmp .lss (.tmp 10) (.tmp 9), none⟩])
 (.seq
 (.cond (.tmp 11)
 .skip
 (.exit 0))
 (.seq
 (.block 1
 (.seq
 (.reg [0] [⟨some 12, .ixa 4 (.tmp 8) (.tmp 10), none⟩,
 ⟨some 13, .ld true 4 (.tmp 12), none⟩,
 ⟨some 7, .alloc 0 [(.d (.int .i64 0)), (.d (.int .i64 0)), (.d (.int .i64 0)), (.nils 1)], none⟩,
 ⟨none, .st 4 (.tmp 7) (.tmp 13), none⟩])
 (.reg [1, 2] [⟨some 14, .mov (.tmp 5), none⟩,
 ⟨some 15, .mov (.tmp 1), none⟩,
 ⟨some 16, .ld true 4 (.tmp 7), none⟩,
 ⟨some 17, .callv (.tmp 15) [(.tmp 16)], none⟩,
 ⟨some 18, .bsl 1 38 4 1 [(.agg [(.int .i64 0), (.int .i64 0), (.int .i64 0), (.slice 1 [])])] [(0, (.tmp 17))], none⟩,
 ⟨some 19, .app 2 38 4 48 (.tmp 14) (.tmp 18), none⟩,
 ⟨some 5, .mov (.tmp 19), none⟩])))
 (.reg [] [⟨some 20, .arith .add .i64 (.tmp 10) (.cst (.d (.int .i64 1))), none⟩,
 ⟨some 10, .mov (.tmp 20), none⟩])))))))))))
 (.seq
 (.reg [] [⟨some 21, .mov (.tmp 5), none⟩,
 ⟨some 4, .mov (.tmp 21), none⟩])
 .ret))))⟩

/-- kilovar/link.owned -/
def ir98 : AFun := ⟨12, 1, [.tmp 2],
 (.seq
 (.reg [] [⟨some 2, .mov (.cst (.nils 4)), none⟩])
 (.seq
 (.reg [0] [⟨some 4, .mov (.tmp 0), none⟩,
 ⟨some 5, .len (.tmp 4), none⟩,
 ⟨some 6, .msl 0 38 4 48 (.agg [(.int .i64 0), (.int .i64 0), (.int .i64 0), (.slice 1 [])]) (.tmp 5), none⟩,
 ⟨some 3, .mov (.tmp 6), none⟩])
 (.seq
 (.reg [] [⟨some 7, .mov (.tmp 3), none⟩,
 ⟨some 8, .mov (.tmp 0), none⟩,
 ⟨some 9, .copy 4 (.tmp 7) (.tmp 8), none⟩])
 (.seq
 (.reg [] [⟨some 10, .mov (.tmp 3), none⟩,
 ⟨some 11, .call 133 [(.tmp 10), (.cst (.d (.fn (.func 84) [])))], none⟩,
 ⟨some 2, .mov (.tmp 11), none⟩])
 .ret))))⟩


theorem c133 (l : List Fr) (hl : l.length ≤ 1048576) (f : Nat) (g : Fr → Fr) (hg : ∀ x ∈ l, CallDet Tryz.prog f [.d x.d] [(g x).d]) :
    CallDet Tryz.prog 133 [.d (.slice 4 (frs l)), .d (.fn (.func f) [])] [.slice 4 (frs (l.map g))] := by
  refine call_of_vc (x := ir133) (by kernel_rfl) rfl ?_
  refine loop_st (fun a : Nat × List Data => ⟨[(1, .d (.fn (.func f) [])), (5, .sl 2 a.2.length), (8, .d (.slice 4 (frs l))), (9, .d (.int .i64 (frs l).length)), (10, .d (.int .i64 a.1))], [.none, .none, .row 38 4 a.2 false]⟩)
    (fun a => a.2 = (l.take a.1).map fun x => (g x).d) (fun a => l.length - a.1) (0, []) rfl rfl ?_
  rintro ⟨k, acc⟩ hk
  have hlen : (frs l).length = l.length := by simp [frs]
  refine And.intro rfl ?_
  refine brk_intro ?_ ?_
  · intro h
    have h : (k : Int) < (frs l).length := of_decide_eq_true h
    obtain ⟨x, hx⟩ : ∃ x, l[k]? = some x := ⟨_, List.getElem?_eq_getElem (by omega)⟩
    have hd : (frs l)[(k : Int).toNat]? = some x.d := by simp [frs, hx]
    have hacc : acc.length = k := by have := congrArg List.length hk; simp at this; omega
    refine ix_at hd (by omega) ?_
    refine Exists.intro _ (And.intro (hg x (List.mem_of_getElem? hx)) ?_)
    refine And.intro rfl ?_
    refine And.intro rfl ?_
    refine And.intro rfl ?_
    refine And.intro ⟨rfl, rfl, rfl, ?_, ?_⟩ ?_
    · show (acc.length + 1) * 48 ≤ 2 ^ 47
      omega
    · show acc.length + 1 ≤ 2 ^ 47
      omega
    refine ar_add (by omega) ?_
    refine ⟨(k + 1, acc ++ [(g x).d]), ⟨?_, by show l.length - (k + 1) < l.length - k; omega⟩, rfl⟩
    show acc ++ [(g x).d] = (l.take (k + 1)).map fun x => (g x).d
    rw [take_map_succ _ hx]
    exact congrArg (· ++ [(g x).d]) hk
  · intro h
    have h : ¬ (k : Int) < (frs l).length := of_decide_eq_false h
    refine And.intro rfl ?_
    have e : frs (l.map g) = acc := by
      have hk : acc = (l.take k).map fun x => (g x).d := hk
      rw [hk, List.take_of_length_le (by omega)]
      simp [frs]
    rw [e]
    exact rfl

theorem c98 (l : List Fr) (hl : l.length ≤ 1048576) (hb : ∀ f ∈ l, f.b.length ≤ 1048576) : CallDet Tryz.prog 98 [.d (.slice 4 (frs l))] [.slice 4 (frs l)] := by
  refine call_of_vc (x := ir98) (by kernel_rfl) rfl ?_
  have hlen : (frs l).length = l.length := by simp [frs]
  refine And.intro ⟨by omega, ?_, ?_⟩ ?_
  · show ((frs l).length : Int) * 48 ≤ 2 ^ 47
    omega
  · show ((frs l).length : Int) ≤ 2 ^ 47
    omega
  refine Exists.intro _ (And.intro ⟨rfl, rfl, List.length_replicate, rfl⟩ ?_)
  have e : (frs l).take ((frs l).length : Int).toNat ++ (List.replicate ((frs l).length : Int).toNat (Data.agg [.int .i64 0, .int .i64 0, .int .i64 0, .slice 1 []])).drop (frs l).length = frs l := by
    simp
  refine And.intro ?_ ?_
  · show ((frs l).take ((frs l).length : Int).toNat ++ (List.replicate ((frs l).length : Int).toNat (Data.agg [.int .i64 0, .int .i64 0, .int .i64 0, .slice 1 []])).drop (frs l).length).length = ((frs l).length : Int).toNat
    rw [e]; simp
  refine Exists.intro [.slice 4 (frs (l.map id))] (And.intro ?_ ?_)
  · show CallDet Tryz.prog 133 [.d (.slice 4 ((frs l).take ((frs l).length : Int).toNat ++ (List.replicate ((frs l).length : Int).toNat (Data.agg [.int .i64 0, .int .i64 0, .int .i64 0, .slice 1 []])).drop (frs l).length)), .d (.fn (.func 84) [])] _
    rw [e]
    exact c133 l hl 84 id fun x hx => c84 x (hb x hx)
  · rw [List.map_id]
    exact rfl
end Vc

set_option maxRecDepth 10000
namespace Vc
open Go Go.Proofs
/-- kilovar/kilovarref01.When -/
def ir66 : AFun := ⟨7, 0, [.tmp 4],
 (.seq
 (.reg [] [⟨some 4, .mov (.cst (.d (.int .i64 0))), none⟩])
 (.seq
 (.seq
 (.reg [] [⟨some 5, .mov (.tmp 0), none⟩])
 (.cond (.tmp 5)
 (.seq
 (.reg [] [⟨some 6, .mov (.tmp 1), none⟩,
 ⟨some 4, .mov (.tmp 6), none⟩])
 .ret)
 .skip))
 (.seq
 (.reg [] [⟨some 4, .mov (.cst (.d (.int .i64 0))), none⟩])
 .ret)))⟩

/-- kilovar/kilovarref01.CheckRange -/
def ir62 : AFun := ⟨16, 0, [.tmp 6],
 (.seq
 (.reg [] [⟨some 6, .mov (.cst (.d (.int .i64 0))), none⟩])
 (.seq
 (.reg [] [⟨some 7, .mov (.tmp 0), none⟩,
 ⟨some 8, .mov (.tmp 1), none⟩,
 ⟨some 9, .cmp .lss (.tmp 7) (.tmp 8), none⟩,
 ⟨some 10, .mov (.tmp 9), none⟩,
 ⟨some 11, .mov (.tmp 0), some (10, false)⟩,
 ⟨some 12, .mov (.tmp 2), some (10, false)⟩,
 ⟨some 13, .cmp .gtr (.tmp 11) (.tmp 12), some (10, false)⟩,
 ⟨some 14, .pick (.tmp 10) (.cst (.d (.bool true))) (.tmp 13), none⟩,
 ⟨some 15, .call 66 [(.tmp 14), (.cst (.d (.int .i64 3)))], none⟩,
 ⟨some 6, .mov (.tmp 15), none⟩])
 .ret))⟩

/-- kilovar/kilovarref04.CheckFrame -/
def ir28 : AFun := ⟨22, 2, [.tmp 2],
 (.seq
 (.reg [0] [⟨some 1, .cbx 0 4 (.tmp 0), none⟩,
 ⟨some 2, .mov (.cst (.d (.int .i64 0))), none⟩])
 (.seq
 (.regd [1] [⟨some 3, .fad 0 (.tmp 1), none⟩,
 ⟨some 4, .ld false 1 (.tmp 3), none⟩,
 ⟨some 5, .call 62 [(.tmp 4), (.cst (.d (.int .i64 0))), (.cst (.d (.int .i64 255)))], none⟩,
 ⟨some 6, .fad 2 (.tmp 1), none⟩,
 ⟨some 7, .ld false 1 (.tmp 6), none⟩,
 ⟨some 8, .call 62 [(.tmp 7), (.cst (.d (.int .i64 1))), (.cst (.d (.int .i64 64)))], none⟩,
 ⟨some 9, .fad 1 (.tmp 1), none⟩,
 ⟨some 10, .ld false 1 (.tmp 9), none⟩,
 ⟨some 11, .fad 2 (.tmp 1), none⟩,
 ⟨some 12, .ld false 1 (.tmp 11), none⟩,
 ⟨some 13, .arith .sub .i64 (.tmp 12) (.cst (.d (.int .i64 1))), none⟩,
 ⟨some 14, .call 62 [(.tmp 10), (.cst (.d (.int .i64 0))), (.tmp 13)], none⟩,
 ⟨some 15, .fad 3 (.tmp 1), none⟩,
 ⟨some 16, .ld false 1 (.tmp 15), none⟩,
 ⟨some 17, .len (.tmp 16), none⟩,
 ⟨some 18, .cmp .gtr (.tmp 17) (.cst (.d (.int .i64 12))), none⟩,
 ⟨some 19, .call 66 [(.tmp 18), (.cst (.d (.int .i64 5)))], none⟩,
 ⟨some 20, .bsl 1 3 1 4 [(.int .i64 0), (.int .i64 0), (.int .i64 0), (.int .i64 0)] [(0, (.tmp 5)), (1, (.tmp 8)), (2, (.tmp 14)), (3, (.tmp 19))], none⟩,
 ⟨some 21, .call 89 [(.tmp 20)], none⟩,
 ⟨some 2, .mov (.tmp 21), none⟩] [(0, 3), (1, 3), (2, 3), (0, 4), (1, 4), (2, 4), (0, 6), (1, 6), (2, 6), (3, 6), (4, 6), (5, 6), (0, 7), (1, 7), (2, 7), (3, 7), (4, 7), (5, 7), (0, 8), (1, 8), (2, 8), (3, 8), (4, 8), (5, 8), (6, 8), (7, 8), (0, 9), (1, 9), (2, 9), (3, 9), (4, 9), (5, 9), (6, 9), (7, 9), (0, 10), (1, 10), (2, 10), (3, 10), (4, 10), (5, 10), (6, 10), (7, 10), (0, 12), (1, 12), (2, 12), (3, 12), (4, 12), (5, 12), (6, 12), (7, 12), (8, 12), (9, 12), (10, 12), (11, 12), (0, 13), (1, 13), (2, 13), (3, 13), (4, 13), (5, 13), (6, 13), (7, 13), (8, 13), (9, 13), (10, 13), (11, 13), (0, 14), (1, 14), (2, 14), (3, 14), (4, 14), (5, 14), (6, 14), (7, 14), (8, 14), (9, 14), (10, 14), (11, 14), (0, 15), (1, 15), (2, 15), (3, 15), (4, 15), (5, 15), (6, 15), (7, 15), (8, 15), (9, 15), (10, 15), (11, 15)])
 .ret))⟩

theorem c89 (es : List Int) (hl : es.length < 9223372036854775807) : CallDet Tryz.prog 89 [.d (.slice 1 (ints es))] [.int .i64 (firstOf es)] := by
  refine call_of_vc (x := ir89) (by kernel_rfl) rfl ?_
  refine loop_st (fun k : Nat => ⟨[(0, .d (.slice 1 (ints es))), (3, .d (.int .i64 k))], []⟩)
    (fun k => firstOf es = firstOf (es.drop k)) (fun k => es.length - k) 0 rfl rfl ?_
  intro k hk
  have hlen : (ints es).length = es.length := by simp [ints]
  refine And.intro rfl ?_
  refine brk_intro ?_ ?_
  · intro h
    have h : (k : Int) < (ints es).length := of_decide_eq_true h
    have h1 : k < es.length := by omega
    obtain ⟨e, he⟩ : ∃ e, es[k]? = some e := ⟨_, List.getElem?_eq_getElem h1⟩
    refine ix_at (ints_get he) (by omega) ?_
    refine And.intro rfl ?_
    refine brk_intro ?_ ?_
    · intro h2
      have h2 : (e != 0) = true := h2
      refine ix_at (ints_get he) (by omega) ?_
      rw [hk, drop_get he, firstOf, h2]
      exact rfl
    · intro h2
      have h2 : (e != 0) = false := h2
      refine ar_add (by omega) ?_
      refine ⟨k + 1, ⟨?_, by omega⟩, rfl⟩
      rw [hk, drop_get he, firstOf, h2]
      rfl
  · intro h
    have h : ¬ ((k : Int) < (ints es).length) := of_decide_eq_false h
    rw [hk, List.drop_eq_nil_of_le (by omega)]
    exact rfl
theorem c66 (c : Bool) (e : Int) : CallDet Tryz.prog 66 [.d (.bool c), .d (.int .i64 e)] [.int .i64 (bif c then e else 0)] := by
  refine call_of_vc (x := ir66) (by kernel_rfl) rfl ?_
  refine brk_intro ?_ ?_
  · intro h; subst h
    exact rfl
  · intro h; subst h
    exact rfl

theorem c62 (x lo hi : Int) : CallDet Tryz.prog 62 [.d (.int .i64 x), .d (.int .i64 lo), .d (.int .i64 hi)] [.int .i64 (within3 x lo hi)] := by
  refine call_of_vc (x := ir62) (by kernel_rfl) rfl ?_
  refine And.intro rfl ?_
  refine brk_intro ?_ ?_
  · intro h
    refine And.intro rfl ?_
    refine Exists.intro _ (And.intro (c66 _ _) ?_)
    have h : decide (x < lo) = true := h
    rw [within3, h]
    exact rfl
  · intro h
    refine And.intro rfl ?_
    refine Exists.intro _ (And.intro (c66 _ _) ?_)
    have h : decide (x < lo) = false := h
    rw [within3, h]
    exact rfl

theorem ar_is {o : BinOp} {a b r : Int} {K : Int → Prop} (h : arithF o .i64 a b = some r) (hK : K r) :
    ∃ r, (IntKind.i64 = IntKind.i64 ∧ IntKind.i64 = IntKind.i64 ∧ arithF o .i64 a b = some r) ∧ K r := ⟨r, ⟨rfl, rfl, h⟩, hK⟩
theorem sub1_i64 {n : Int} (h : -9223372036854775808 ≤ n ∧ n ≤ 9223372036854775807) : ∃ r, arithF .sub .i64 n 1 = some r ∧ (n ≠ -9223372036854775808 → r = n - 1) := by
  by_cases e : n = -9223372036854775808
  · subst e
    exact ⟨9223372036854775807, rfl, fun h => absurd rfl h⟩
  · exact ⟨n - 1, by simp only [arithF, IntWalk.i64_in _ (show -9223372036854775808 ≤ n - 1 ∧ n - 1 ≤ 9223372036854775807 by omega)], fun _ => rfl⟩

theorem c28 (f : Fr) (ho : f.ok) : CallDet Tryz.prog 28 [.d f.d] [.int .i64 f.check] := by
  obtain ⟨r, hr, hr'⟩ := sub1_i64 ho
  refine call_of_vc (x := ir28) (by kernel_rfl) rfl ?_
  refine Exists.intro _ (And.intro (c62 f.m 0 255) ?_)
  refine Exists.intro _ (And.intro (c62 f.n 1 64) ?_)
  refine ar_is hr ?_
  refine Exists.intro _ (And.intro (c62 f.p 0 r) ?_)
  refine And.intro rfl ?_
  refine Exists.intro _ (And.intro (c66 _ _) ?_)
  refine And.intro rfl ?_
  refine And.intro rfl ?_
  refine Exists.intro _ (And.intro (c89 [within3 f.m 0 255, within3 f.n 1 64, within3 f.p 0 r, bif decide ((12 : Int) < (f.b.map byt).length) then 5 else 0] (by simp)) ?_)
  have e : f.check = firstOf [within3 f.m 0 255, within3 f.n 1 64, within3 f.p 0 r, bif decide ((12 : Int) < (f.b.map byt).length) then 5 else 0] := by
    by_cases en : f.n = -9223372036854775808
    · have e1 : within3 f.n 1 64 = 3 := by rw [en]; rfl
      simp only [Fr.check, checkFrame, firstOf, List.length_map, e1]
      rcases within3_or f.m 0 255 with h1 | h1 <;> simp [h1]
    · rw [hr' en]
      simp only [Fr.check, checkFrame, firstOf, List.length_map]
      rcases within3_or f.m 0 255 with h1 | h1 <;> rcases within3_or f.n 1 64 with h2 | h2 <;> rcases within3_or f.p 0 (f.n - 1) with h3 | h3 <;> cases h4 : decide ((12 : Int) < (f.b.length : Int)) <;> simp [h1, h2, h3]
  rw [e]
  exact rfl
end Vc

set_option maxRecDepth 10000
namespace Vc
open Go Go.Proofs
/-- kilovar/kilovarref04.CheckFrames -/
def ir18 : AFun := ⟨22, 0, [.tmp 2],
 (.seq
 (.reg [] [⟨some 2, .mov (.cst (.d (.int .i64 0))), none⟩])
 (.seq
 (.seq
 (.reg [] [⟨some 5, .mov (.tmp 0), none⟩,
 ⟨some 6, .len (.tmp 5), none⟩,
 ⟨some 7, .cmp .gtr (.tmp 6) (.cst (.d (.int .i64 64))), none⟩])
 (.cond (.tmp 7)
 (.seq
 (.reg [] [⟨some 2, .mov (.cst (.d (.int .i64 5))), none⟩])
 .ret)
 .skip))
 (.seq
 (.seq
 (.reg [] [⟨some 3, .mov (.cst (.d (.int .i64 0))), none⟩])
 (.post [] []
 (.block 0
 (.keep [0, 3] []
 (.loop
 (.post [0, 3] []
 (.seq
 (.seq
 (.reg [] [⟨some 8, .mov (.tmp 3), none⟩,
 ⟨some 9, .mov (.tmp 0), none⟩,
 ⟨some 10, .len (.tmp 9), none⟩,
 ⟨some 11, .cmp .lss (.tmp 8) (.tmp 10), none⟩])
 (.cond (.tmp 11)
 .skip
 (.exit 0)))
 (.seq
 (.block 1
 (.seq
 (.reg [] [⟨some 14, .mov (.tmp 0), none⟩,
 ⟨some 15, .mov (.tmp 3), none⟩,
 ⟨some 16, .ixa 4 (.tmp 14) (.tmp 15), none⟩,
 ⟨some 17, .ld true 4 (.tmp 16), none⟩,
 ⟨some 18, .call 28 [(.tmp 17)], none⟩,
 ⟨some 4, .mov (.tmp 18), none⟩])
 (.seq
 (.reg [] [⟨some 19, .mov (.tmp 4), none⟩,
 ⟨some 20, .cmp .neq (.tmp 19) (.cst (.d (.int .i64 0))), none⟩])
 (.cond (.tmp 20)
 (.seq
 (.reg [] [⟨some 21, .mov (.tmp 4), none⟩,
 ⟨some 2, .mov (.tmp 21), none⟩])
 .ret)
 .skip))))
 (.reg [] [⟨some 12, .mov (.tmp 3), none⟩,
 ⟨some 13, .arith .add .i64 (.tmp 12) (.cst (.d (.int .i64 1))), none⟩,
 ⟨some 3, .mov (.tmp 13), none⟩])))))))))
 (.seq
 (.reg [] [⟨some 2, .mov (.cst (.d (.int .i64 0))), none⟩])
 .ret))))⟩

theorem frs_get {l : List Fr} {k : Nat} {x : Fr} (h : l[k]? = some x) : (frs l)[(k : Int).toNat]? = some x.d := by simp [frs, h]
theorem frs_len (l : List Fr) : (frs l).length = l.length := by simp [frs]

theorem c18 (l : List Fr) (hl : l.length ≤ 1048576) (ho : ∀ f ∈ l, f.ok) : CallDet Tryz.prog 18 [.d (.slice 4 (frs l))] [.int .i64 (checkFrames l)] := by
  refine call_of_vc (x := ir18) (by kernel_rfl) rfl ?_
  have hlen := frs_len l
  refine And.intro rfl ?_
  refine brk_intro ?_ ?_
  · intro h
    have h : decide ((64 : Int) < ((frs l).length : Int)) = true := h
    rw [checkFrames, ← hlen, h]
    exact rfl
  · intro h
    have h : decide ((64 : Int) < ((frs l).length : Int)) = false := h
    have e : checkFrames l = firstOf (l.map Fr.check) := by rw [checkFrames, ← hlen, h]; rfl
    rw [e]
    refine loop_st (fun k : Nat => ⟨[(0, .d (.slice 4 (frs l))), (3, .d (.int .i64 k))], []⟩)
      (fun k => firstOf (l.map Fr.check) = firstOf ((l.map Fr.check).drop k)) (fun k => l.length - k) 0 rfl rfl ?_
    intro k hk
    refine And.intro rfl ?_
    refine brk_intro ?_ ?_
    · intro h
      have h : (k : Int) < (frs l).length := of_decide_eq_true h
      obtain ⟨x, hx⟩ : ∃ x, l[k]? = some x := ⟨_, List.getElem?_eq_getElem (by omega)⟩
      have hx' : (l.map Fr.check)[k]? = some x.check := by simp [hx]
      refine ix_at (frs_get hx) (by omega) ?_
      refine Exists.intro _ (And.intro (c28 x (ho x (List.mem_of_getElem? hx))) ?_)
      refine And.intro rfl ?_
      refine brk_intro ?_ ?_
      · intro h2
        have h2 : (x.check != 0) = true := h2
        rw [hk, drop_get hx', firstOf, h2]
        exact rfl
      · intro h2
        have h2 : (x.check != 0) = false := h2
        refine ar_add (by omega) ?_
        refine ⟨k + 1, ⟨?_, by omega⟩, rfl⟩
        rw [hk, drop_get hx', firstOf, h2]
        rfl
    · intro h
      have h : ¬ ((k : Int) < (frs l).length) := of_decide_eq_false h
      rw [hk, List.drop_eq_nil_of_le (by simp; omega)]
      exact rfl
end Vc

set_option maxRecDepth 10000
namespace Vc
open Go Go.Proofs
/-- kilovar/kilovarref01.SameBytes -/
def ir24 : AFun := ⟨10, 0, [.tmp 4],
 (.seq
 (.reg [] [⟨some 4, .mov (.cst (.d (.bool false))), none⟩])
 (.seq
 (.reg [] [⟨some 5, .mov (.tmp 0), none⟩,
 ⟨some 6, .b2s (.tmp 5), none⟩,
 ⟨some 7, .mov (.tmp 1), none⟩,
 ⟨some 8, .b2s (.tmp 7), none⟩,
 ⟨some 9, .seq false (.tmp 6) (.tmp 8), none⟩,
 ⟨some 4, .mov (.tmp 9), none⟩])
 .ret))⟩

theorem bytesOf_byt : ∀ (b : List UInt8), bytesOf (b.map byt) = some b
  | [] => rfl
  | c :: r => by
    show (match bytesOf (r.map byt) with | some l => some (UInt8.ofNat ((c.toNat : Nat) : Int).toNat :: l) | none => none) = _
    rw [bytesOf_byt r]
    simp
theorem c24 (a b : List UInt8) : CallDet Tryz.prog 24 [.d (.slice 1 (a.map byt)), .d (.slice 1 (b.map byt))] [.bool (a == b)] := by
  refine call_of_vc (x := ir24) (by kernel_rfl) rfl ?_
  refine Exists.intro [.str a] (And.intro ⟨rfl, a, bytesOf_byt a, rfl⟩ ?_)
  refine Exists.intro [.str b] (And.intro ⟨rfl, b, bytesOf_byt b, rfl⟩ ?_)
  exact rfl
end Vc

set_option maxRecDepth 10000
namespace Vc
open Go Go.Proofs
/-- kilovar/kilovarref04.SameFrame -/
def ir25 : AFun := ⟨31, 2, [.tmp 4],
 (.seq
 (.reg [0, 1] [⟨some 2, .cbx 0 4 (.tmp 0), none⟩,
 ⟨some 3, .cbx 1 4 (.tmp 1), none⟩,
 ⟨some 4, .mov (.cst (.d (.bool false))), none⟩])
 (.seq
 (.reg [] [⟨some 5, .fad 0 (.tmp 2), none⟩,
 ⟨some 6, .ld false 1 (.tmp 5), none⟩,
 ⟨some 7, .fad 0 (.tmp 3), none⟩,
 ⟨some 8, .ld false 1 (.tmp 7), none⟩,
 ⟨some 9, .cmp .eql (.tmp 6) (.tmp 8), none⟩,
 ⟨some 10, .mov (.tmp 9), none⟩,
 ⟨some 11, .fad 1 (.tmp 2), some (10, true)⟩,
 ⟨some 12, .ld false 1 (.tmp 11), some (10, true)⟩,
 ⟨some 13, .fad 1 (.tmp 3), some (10, true)⟩,
 ⟨some 14, .ld false 1 (.tmp 13), some (10, true)⟩,
 ⟨some 15, .cmp .eql (.tmp 12) (.tmp 14), some (10, true)⟩,
 ⟨some 16, .pick (.tmp 10) (.tmp 15) (.cst (.d (.bool false))), none⟩,
 ⟨some 17, .mov (.tmp 16), none⟩,
 ⟨some 18, .fad 2 (.tmp 2), some (17, true)⟩,
 ⟨some 19, .ld false 1 (.tmp 18), some (17, true)⟩,
 ⟨some 20, .fad 2 (.tmp 3), some (17, true)⟩,
 ⟨some 21, .ld false 1 (.tmp 20), some (17, true)⟩,
 ⟨some 22, .cmp .eql (.tmp 19) (.tmp 21), some (17, true)⟩,
 ⟨some 23, .pick (.tmp 17) (.tmp 22) (.cst (.d (.bool false))), none⟩,
 ⟨some 24, .mov (.tmp 23), none⟩,
 ⟨some 25, .fad 3 (.tmp 2), some (24, true)⟩,
 ⟨some 26, .ld false 1 (.tmp 25), some (24, true)⟩,
 ⟨some 27, .fad 3 (.tmp 3), some (24, true)⟩,
 ⟨some 28, .ld false 1 (.tmp 27), some (24, true)⟩,
 ⟨some 29, .call 24 [(.tmp 26), (.tmp 28)], some (24, true)⟩,
 ⟨some 30, .pick (.tmp 24) (.tmp 29) (.cst (.d (.bool false))), none⟩,
 ⟨some 4, .mov (.tmp 30), none⟩])
 .ret))⟩

def Fr.same (f g : Fr) : Bool := f.m == g.m && (f.p == g.p && (f.n == g.n && f.b == g.b))
theorem c25 (f g : Fr) : CallDet Tryz.prog 25 [.d f.d, .d g.d] [.bool (f.same g)] := by
  refine call_of_vc (x := ir25) (by kernel_rfl) rfl ?_
  refine And.intro rfl ?_
  refine brk_intro ?_ ?_
  · intro h1
    have h1 : (f.m == g.m) = true := h1
    refine And.intro rfl ?_
    refine brk_intro ?_ ?_
    · intro h2
      have h2 : (f.p == g.p) = true := h2
      refine And.intro rfl ?_
      refine brk_intro ?_ ?_
      · intro h3
        have h3 : (f.n == g.n) = true := h3
        refine Exists.intro _ (And.intro (c24 f.b g.b) ?_)
        rw [Fr.same, h1, h2, h3]
        exact rfl
      · intro h3
        have h3 : (f.n == g.n) = false := h3
        refine And.intro rfl ?_
        rw [Fr.same, h1, h2, h3]
        exact rfl
    · intro h2
      have h2 : (f.p == g.p) = false := h2
      refine And.intro rfl ?_
      refine And.intro rfl ?_
      rw [Fr.same, h1, h2]
      exact rfl
  · intro h1
    have h1 : (f.m == g.m) = false := h1
    refine And.intro rfl ?_
    refine And.intro rfl ?_
    refine And.intro rfl ?_
    rw [Fr.same, h1]
    exact rfl
/-- kilovar/kilovarref04.SameFrames -/
def ir22 : AFun := ⟨27, 0, [.tmp 4],
 (.seq
 (.reg [] [⟨some 4, .mov (.cst (.d (.bool false))), none⟩])
 (.seq
 (.seq
 (.reg [] [⟨some 6, .mov (.tmp 0), none⟩,
 ⟨some 7, .len (.tmp 6), none⟩,
 ⟨some 8, .mov (.tmp 1), none⟩,
 ⟨some 9, .len (.tmp 8), none⟩,
 ⟨some 10, .cmp .neq (.tmp 7) (.tmp 9), none⟩])
 (.cond (.tmp 10)
 (.seq
 (.reg [] [⟨some 4, .mov (.cst (.d (.bool false))), none⟩])
 .ret)
 .skip))
 (.seq
 (.seq
 (.reg [] [⟨some 5, .mov (.cst (.d (.int .i64 0))), none⟩])
 (.post [] []
 (.block 0
 (.keep [0, 1, 5] []
 (.loop
 (.post [0, 1, 5] []
 (.seq
 (.seq
 (.reg [] [⟨some 11, .mov (.tmp 5), none⟩,
 ⟨some 12, .mov (.tmp 0), none⟩,
 ⟨some 13, .len (.tmp 12), none⟩,
 ⟨some 14, .cmp .lss (.tmp 11) (.tmp 13), none⟩])
 (.cond (.tmp 14)
 .skip
 (.exit 0)))
 (.seq
 (.block 1
 (.seq
 (.regd [] [⟨some 17, .mov (.tmp 0), none⟩,
 ⟨some 18, .mov (.tmp 5), none⟩,
 ⟨some 19, .ixa 4 (.tmp 17) (.tmp 18), none⟩,
 ⟨some 20, .ld true 4 (.tmp 19), none⟩,
 ⟨some 21, .mov (.tmp 1), none⟩,
 ⟨some 22, .mov (.tmp 5), none⟩,
 ⟨some 23, .ixa 4 (.tmp 21) (.tmp 22), none⟩,
 ⟨some 24, .ld true 4 (.tmp 23), none⟩,
 ⟨some 25, .call 25 [(.tmp 20), (.tmp 24)], none⟩,
 ⟨some 26, .not (.tmp 25), none⟩] [(0, 1), (0, 4), (1, 4), (2, 4), (3, 4), (0, 5), (1, 5), (2, 5), (3, 5), (4, 5), (0, 6), (1, 6), (2, 6), (3, 6), (0, 7), (1, 7), (2, 7), (3, 7)])
 (.cond (.tmp 26)
 (.seq
 (.reg [] [⟨some 4, .mov (.cst (.d (.bool false))), none⟩])
 .ret)
 .skip)))
 (.reg [] [⟨some 15, .mov (.tmp 5), none⟩,
 ⟨some 16, .arith .add .i64 (.tmp 15) (.cst (.d (.int .i64 1))), none⟩,
 ⟨some 5, .mov (.tmp 16), none⟩])))))))))
 (.seq
 (.reg [] [⟨some 4, .mov (.cst (.d (.bool true))), none⟩])
 .ret))))⟩


theorem drop_at {α : Type} {es : List α} {k : Nat} {e : α} (h : es[k]? = some e) : es.drop k = e :: es.drop (k + 1) := by
  obtain ⟨h1, rfl⟩ := List.getElem?_eq_some_iff.1 h
  exact List.drop_eq_getElem_cons h1
def sameFrames : List Fr → List Fr → Bool
  | [], [] => true
  | f :: a, g :: b => f.same g && sameFrames a b
  | _, _ => false
theorem sameFrames_len : ∀ {a b : List Fr}, a.length ≠ b.length → sameFrames a b = false
  | [], [], h => absurd rfl h
  | [], _ :: _, _ => rfl
  | _ :: _, [], _ => rfl
  | f :: a, g :: b, h => by
    simp only [sameFrames, sameFrames_len (a := a) (b := b) (by simpa using h), Bool.and_false]

theorem c22 (a b : List Fr) (ha : a.length ≤ 1048576) : CallDet Tryz.prog 22 [.d (.slice 4 (frs a)), .d (.slice 4 (frs b))] [.bool (sameFrames a b)] := by
  refine call_of_vc (x := ir22) (by kernel_rfl) rfl ?_
  have hla := frs_len a
  have hlb := frs_len b
  refine And.intro rfl ?_
  refine brk_intro ?_ ?_
  · intro h
    have h : (((frs a).length : Int) != ((frs b).length : Int)) = true := h
    rw [sameFrames_len (a := a) (b := b) (by simp at h; omega)]
    exact rfl
  · intro h
    have h : (((frs a).length : Int) != ((frs b).length : Int)) = false := h
    have hl : a.length = b.length := by simp at h; omega
    refine loop_st (fun k : Nat => ⟨[(0, .d (.slice 4 (frs a))), (1, .d (.slice 4 (frs b))), (5, .d (.int .i64 k))], []⟩)
      (fun k => sameFrames a b = sameFrames (a.drop k) (b.drop k)) (fun k => a.length - k) 0 rfl rfl ?_
    intro k hk
    refine And.intro rfl ?_
    refine brk_intro ?_ ?_
    · intro h
      have h : (k : Int) < (frs a).length := of_decide_eq_true h
      obtain ⟨x, hx⟩ : ∃ x, a[k]? = some x := ⟨_, List.getElem?_eq_getElem (by omega)⟩
      obtain ⟨y, hy⟩ : ∃ y, b[k]? = some y := ⟨_, List.getElem?_eq_getElem (by omega)⟩
      refine ix_at (frs_get hx) (by omega) ?_
      refine ix_at (frs_get hy) (by omega) ?_
      refine Exists.intro _ (And.intro (c25 x y) ?_)
      refine brk_intro ?_ ?_
      · intro h2
        have h2 : (!x.same y) = true := h2
        have e : sameFrames a b = false := by
          rw [hk, drop_at hx, drop_at hy]
          simp only [sameFrames, show x.same y = false by simpa using h2, Bool.false_and]
        rw [e]
        exact rfl
      · intro h2
        have h2 : (!x.same y) = false := h2
        refine ar_add (by omega) ?_
        refine ⟨k + 1, ⟨?_, by omega⟩, rfl⟩
        have e : sameFrames a b = sameFrames (a.drop (k + 1)) (b.drop (k + 1)) := by
          rw [hk, drop_at hx, drop_at hy]
          simp only [sameFrames, show x.same y = true by simpa using h2, Bool.true_and]
        exact e
    · intro h
      have h : ¬ ((k : Int) < (frs a).length) := of_decide_eq_false h
      have e : sameFrames a b = true := by
        rw [hk, List.drop_eq_nil_of_le (by omega), List.drop_eq_nil_of_le (by omega)]
        rfl
      rw [e]
      exact rfl
end Vc

set_option maxRecDepth 10000
namespace Vc
open Go Go.Proofs
/-- kilovar/kilovarlaw04.frame -/
def ir27 : AFun := ⟨14, 4, [.cell 2 4 true],
 (.seq
 (.reg [0, 1] [⟨some 1, .cbx 0 4 (.tmp 0), none⟩,
 ⟨some 2, .alloc 1 [(.d (.int .i64 0)), (.d (.int .i64 0)), (.d (.int .i64 0)), (.nils 1)], none⟩])
 (.seq
 (.regd [2, 3] [⟨some 3, .fad 0 (.tmp 1), none⟩,
 ⟨some 4, .ld false 1 (.tmp 3), none⟩,
 ⟨some 5, .fad 1 (.tmp 1), none⟩,
 ⟨some 6, .ld false 1 (.tmp 5), none⟩,
 ⟨some 7, .fad 2 (.tmp 1), none⟩,
 ⟨some 8, .ld false 1 (.tmp 7), none⟩,
 ⟨some 9, .bsl 2 5 1 0 [] [], none⟩,
 ⟨some 10, .fad 3 (.tmp 1), none⟩,
 ⟨some 11, .ld false 1 (.tmp 10), none⟩,
 ⟨some 12, .app 3 5 1 1 (.tmp 9) (.tmp 11), none⟩,
 ⟨some 13, .build [(.d (.int .i64 0)), (.d (.int .i64 0)), (.d (.int .i64 0)), (.nils 1)] [(0, 1, (.tmp 4)), (1, 1, (.tmp 6)), (2, 1, (.tmp 8)), (3, 1, (.tmp 12))], none⟩,
 ⟨none, .st 4 (.tmp 2) (.tmp 13), none⟩] [(0, 2), (1, 2), (0, 3), (1, 3), (0, 4), (1, 4), (2, 4), (3, 4), (0, 5), (1, 5), (2, 5), (3, 5), (0, 6), (1, 6), (2, 6), (3, 6), (4, 6), (5, 6), (0, 7), (1, 7), (2, 7), (3, 7), (4, 7), (5, 7), (6, 7), (0, 8), (1, 8), (2, 8), (3, 8), (4, 8), (5, 8), (6, 8), (0, 9), (1, 9), (2, 9), (3, 9), (4, 9), (5, 9)])
 .ret))⟩

theorem c27 (f : Fr) (hl : f.b.length ≤ 1048576) : CallDet Tryz.prog 27 [.d f.d] [f.d] := by
  refine call_of_vc (x := ir27) (by kernel_rfl) rfl ?_
  refine And.intro rfl ?_
  refine And.intro rfl ?_
  refine And.intro ⟨rfl, rfl, rfl, ?_, ?_⟩ ?_
  · show (0 + (f.b.map byt).length) * 1 ≤ 2 ^ 47
    simp; omega
  · show 0 + (f.b.map byt).length ≤ 2 ^ 47
    simp; omega
  refine And.intro rfl ?_
  refine And.intro rfl ?_
  exact rfl
end Vc

