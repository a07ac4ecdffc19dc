import Derived.Test.YtfkljdokkfgifaaGreatDoorYc
import Derived.Test.YtfkljdokkfgifaaGreatDoorWc
set_option linter.unusedSectionVars false
set_option linter.unusedVariables false
set_option linter.unusedSimpArgs false
set_option maxRecDepth 10000
namespace Vc
open Go Go.Proofs
theorem og {c : List Bool} {f n : Nat} {p : List Int} (h : opnF c f n = p) : resV [.slice 1 (ints p)] = resV [.slice 1 (ints (opnF c f n))] := by rw [h]
theorem op' {c : List Bool} {f n : Int} {p : List Int} {e : Int} (h : opnP c f n = p) (he : opnE c f n = e) : resV [.slice 1 (ints p), .int .i64 e] = resV [.slice 1 (ints (opnP c f n)), .int .i64 (opnE c f n)] := by rw [h, he]
theorem cAt_get {c : List Bool} (i : Nat) (h : 1 ≤ c.length) : (blsD c)[((i : Nat) : Int).toNat % c.length]? = some (.bool (cAt c i)) := by
  have hl : i % c.length < c.length := Nat.mod_lt _ (by omega)
  show (c.map Data.bool)[i % c.length]? = _
  unfold cAt
  rw [List.getElem?_map, List.getElem?_eq_getElem hl]; rfl
theorem cAt_ix {c : List Bool} (i : Nat) (h : 1 ≤ c.length) : (blsD c)[(((i : Nat) : Int) % ((blsD c).length : Int)).toNat]? = some (.bool (cAt c i)) := by
  rw [bls_len, show ((i : Nat) : Int) % (c.length : Int) = ((i % c.length : Nat) : Int) from rfl]
  exact cAt_get i h
/-- kilovar/kilovarref04.Open -/
def ir68 : AFun := ⟨28, 2, [.tmp 6],
 (.seq
 (.reg [] [⟨some 6, .mov (.cst (.nils 1)), none⟩])
 (.seq
 (.reg [] [⟨some 7, .mov (.cst (.nils 1)), none⟩])
 (.seq
 (.seq
 (.reg [] [⟨some 9, .mov (.tmp 1), none⟩,
 ⟨some 8, .mov (.tmp 9), none⟩])
 (.post [7] [0, 1]
 (.block 0
 (.asrow 1 3 1 7
 (.keep [0, 2, 7, 8] []
 (.loop
 (.post [0, 2, 7, 8] [0, 1]
 (.seq
 (.seq
 (.reg [] [⟨some 10, .mov (.tmp 7), none⟩,
 ⟨some 11, .len (.tmp 10), none⟩,
 ⟨some 12, .mov (.tmp 2), none⟩,
 ⟨some 13, .cmp .lss (.tmp 11) (.tmp 12), none⟩])
 (.cond (.tmp 13)
 .skip
 (.exit 0)))
 (.seq
 (.block 1
 (.seq
 (.reg [] [⟨some 16, .mov (.tmp 0), none⟩,
 ⟨some 17, .mov (.tmp 8), none⟩,
 ⟨some 18, .mov (.tmp 0), none⟩,
 ⟨some 19, .len (.tmp 18), none⟩,
 ⟨some 20, .arith .rem .i64 (.tmp 17) (.tmp 19), none⟩,
 ⟨some 21, .ixa 1 (.tmp 16) (.tmp 20), none⟩,
 ⟨some 22, .ld false 1 (.tmp 21), none⟩])
 (.cond (.tmp 22)
 (.reg [0, 1] [⟨some 23, .mov (.tmp 7), none⟩,
 ⟨some 24, .mov (.tmp 8), none⟩,
 ⟨some 25, .bsl 0 3 1 1 [(.int .i64 0)] [(0, (.tmp 24))], none⟩,
 ⟨some 26, .app 1 3 1 8 (.tmp 23) (.tmp 25), none⟩,
 ⟨some 7, .mov (.tmp 26), none⟩])
 .skip)))
 (.reg [] [⟨some 14, .mov (.tmp 8), none⟩,
 ⟨some 15, .arith .add .i64 (.tmp 14) (.cst (.d (.int .i64 1))), none⟩,
 ⟨some 8, .mov (.tmp 15), none⟩]))))))))))
 (.seq
 (.reg [] [⟨some 27, .mov (.tmp 7), none⟩,
 ⟨some 6, .mov (.tmp 27), none⟩])
 .ret))))⟩

/-- kilovar/link.Open -/
def ir58 : AFun := ⟨45, 3, [.tmp 6, .tmp 7],
 (.seq
 (.reg [] [⟨some 6, .mov (.cst (.nils 1)), none⟩,
 ⟨some 7, .mov (.cst (.d (.int .i64 0))), none⟩])
 (.seq
 (.seq
 (.reg [0] [⟨some 11, .mov (.tmp 0), none⟩,
 ⟨some 12, .call 110 [(.tmp 11)], none⟩,
 ⟨some 13, .mov (.tmp 1), none⟩,
 ⟨some 14, .call 82 [(.tmp 13), (.cst (.d (.int .i64 0))), (.cst (.d (.int .i64 999999999)))], none⟩,
 ⟨some 15, .mov (.tmp 2), none⟩,
 ⟨some 16, .call 82 [(.tmp 15), (.cst (.d (.int .i64 0))), (.cst (.d (.int .i64 256)))], none⟩,
 ⟨some 17, .mov (.tmp 0), none⟩,
 ⟨some 18, .call 111 [(.tmp 17), (.cst (.d (.bool true)))], none⟩,
 ⟨some 19, .not (.tmp 18), none⟩,
 ⟨some 20, .call 83 [(.tmp 19), (.cst (.d (.int .i64 7)))], none⟩,
 ⟨some 21, .bsl 0 31 1 4 [(.int .i64 0), (.int .i64 0), (.int .i64 0), (.int .i64 0)] [(0, (.tmp 12)), (1, (.tmp 14)), (2, (.tmp 16)), (3, (.tmp 20))], none⟩,
 ⟨some 22, .call 81 [(.tmp 21)], none⟩,
 ⟨some 8, .mov (.tmp 22), none⟩])
 (.seq
 (.reg [] [⟨some 23, .mov (.tmp 8), none⟩,
 ⟨some 24, .cmp .neq (.tmp 23) (.cst (.d (.int .i64 0))), none⟩])
 (.cond (.tmp 24)
 (.seq
 (.reg [] [⟨some 25, .mov (.tmp 8), none⟩,
 ⟨some 6, .mov (.cst (.nils 1)), none⟩,
 ⟨some 7, .mov (.tmp 25), none⟩])
 .ret)
 .skip)))
 (.seq
 (.reg [] [⟨some 9, .mov (.cst (.nils 1)), none⟩])
 (.seq
 (.seq
 (.reg [] [⟨some 26, .mov (.tmp 1), none⟩,
 ⟨some 10, .mov (.tmp 26), none⟩])
 (.post [9] [0, 1, 2]
 (.block 0
 (.asrow 2 3 1 9
 (.keep [0, 2, 9, 10] [0]
 (.loop
 (.post [0, 2, 9, 10] [1, 2]
 (.seq
 (.seq
 (.reg [] [⟨some 27, .mov (.tmp 9), none⟩,
 ⟨some 28, .len (.tmp 27), none⟩,
 ⟨some 29, .mov (.tmp 2), none⟩,
 ⟨some 30, .cmp .lss (.tmp 28) (.tmp 29), none⟩])
 (.cond (.tmp 30)
 .skip
 (.exit 0)))
 (.seq
 (.block 1
 (.seq
 (.reg [] [⟨some 33, .mov (.tmp 0), none⟩,
 ⟨some 34, .mov (.tmp 10), none⟩,
 ⟨some 35, .mov (.tmp 0), none⟩,
 ⟨some 36, .len (.tmp 35), none⟩,
 ⟨some 37, .arith .rem .i64 (.tmp 34) (.tmp 36), none⟩,
 ⟨some 38, .ixa 1 (.tmp 33) (.tmp 37), none⟩,
 ⟨some 39, .ld false 1 (.tmp 38), none⟩])
 (.cond (.tmp 39)
 (.reg [1, 2] [⟨some 40, .mov (.tmp 9), none⟩,
 ⟨some 41, .mov (.tmp 10), none⟩,
 ⟨some 42, .bsl 1 3 1 1 [(.int .i64 0)] [(0, (.tmp 41))], none⟩,
 ⟨some 43, .app 2 3 1 8 (.tmp 40) (.tmp 42), none⟩,
 ⟨some 9, .mov (.tmp 43), none⟩])
 .skip)))
 (.reg [] [⟨some 31, .mov (.tmp 10), none⟩,
 ⟨some 32, .arith .add .i64 (.tmp 31) (.cst (.d (.int .i64 1))), none⟩,
 ⟨some 10, .mov (.tmp 32), none⟩]))))))))))
 (.seq
 (.reg [] [⟨some 44, .mov (.tmp 9), none⟩,
 ⟨some 6, .mov (.tmp 44), none⟩,
 ⟨some 7, .mov (.cst (.d (.int .i64 0))), none⟩])
 .ret)))))⟩


set_option maxHeartbeats 4000000 in
theorem c68 (c : List Bool) (f n : Nat) (hc : c.contains true = true) (hcl : 1 ≤ c.length ∧ c.length ≤ 16) (hf : f ≤ 999999999) (hn : n ≤ 256) : CallDet Tryz.prog 68 [.d (.slice 1 (blsD c)), .d (.int .i64 f), .d (.int .i64 n)] [.slice 1 (ints (opnF c f n))] := by
  have hlen := bls_len c
  have hN : n * c.length ≤ 256 * 16 := Nat.mul_le_mul hn hcl.2
  refine call_of_vc (x := ir68) (by kernel_rfl) rfl ?_
  refine loop_st (fun a : Nat × List Int => ⟨[(0, .d (.slice 1 (blsD c))), (2, .d (.int .i64 n)), (7, .sl 1 (ints a.2).length), (8, .d (.int .i64 ((f + a.1 : Nat) : Int)))], [.none, .row 3 1 (ints a.2) false]⟩)
    (opnI c f n) (fun a => n * c.length - a.1) (0, []) rfl (opnI_start c f n) ?_
  rintro ⟨k, acc⟩ hi
  have hil := ints_len acc
  refine And.intro rfl ?_
  refine And.intro rfl ?_
  refine brk_lt (fun h => ?_) (fun h => ?_)
  · have h : ((ints acc).length : Int) < (n : Int) := h
    have h2 : (acc.length : Int) < (n : Int) := by omega
    obtain ⟨hk, hs⟩ := opnI_step hc hi h2
    have hA : -9223372036854775808 ≤ ((f + k : Nat) : Int) + 1 ∧ ((f + k : Nat) : Int) + 1 ≤ 9223372036854775807 := by omega
    have hR : 0 ≤ ((f + k : Nat) : Int) ∧ 1 ≤ ((blsD c).length : Int) := by omega
    refine ar_rem hR ?_
    refine ix_at (cAt_ix (f + k) hcl.1) (Int.emod_nonneg _ (by omega)) ?_
    refine brk_intro ?_ ?_
    · intro e
      have e : cAt c (f + k) = true := e
      rw [e] at hs
      repeat refine And.intro rfl ?_
      refine And.intro ⟨rfl, rfl, rfl, ?_, ?_⟩ ?_
      · show ((ints acc).length + 1) * 8 ≤ 2 ^ 47
        omega
      · show (ints acc).length + 1 ≤ 2 ^ 47
        omega
      refine ar_add hA ?_
      refine ⟨(k + 1, acc ++ [((f + k : Nat) : Int)]), ⟨hs, by show n * c.length - (k + 1) < n * c.length - k; omega⟩, ?_⟩
      rw [ints_snoc]; rfl
    · intro e
      have e : cAt c (f + k) = false := e
      rw [e] at hs
      refine ar_add hA ?_
      exact ⟨(k + 1, acc), ⟨hs, by show n * c.length - (k + 1) < n * c.length - k; omega⟩, rfl⟩
  · have h : ¬ ((ints acc).length : Int) < (n : Int) := h
    have h2 : ¬ (acc.length : Int) < (n : Int) := by omega
    refine And.intro rfl ?_
    exact og (opnI_end hi h2)
set_option maxHeartbeats 4000000 in
theorem c58 (c : List Bool) (f n : Int) (hc0 : c.length ≤ 1048576) : CallDet Tryz.prog 58 [.d (.slice 1 (blsD c)), .d (.int .i64 f), .d (.int .i64 n)] [.slice 1 (ints (opnP c f n)), .int .i64 (opnE c f n)] := by
  have hlen := bls_len c
  refine call_of_vc (x := ir58) (by kernel_rfl) rfl ?_
  refine Exists.intro _ (And.intro (c110 c) ?_)
  refine Exists.intro _ (And.intro (c82 _ _ _) ?_)
  refine Exists.intro _ (And.intro (c82 _ _ _) ?_)
  refine Exists.intro _ (And.intro (c111 c true hc0) ?_)
  refine Exists.intro _ (And.intro (c83 _ _) ?_)
  repeat refine And.intro rfl ?_
  refine Exists.intro _ (And.intro (c81 [chkCyc c, within3 f 0 999999999, within3 n 0 256, bif !(c.contains true) then 7 else 0] (by simp)) ?_)
  repeat refine And.intro rfl ?_
  refine brk_intro ?_ ?_
  · intro h
    have h : (opnE c f n != 0) = true := h
    exact op' (p := []) (by unfold opnP; rw [h]; rfl) rfl
  intro h
  have h : (opnE c f n != 0) = false := h
  have h0 : opnE c f n = 0 := by simpa using h
  have hcl := cyc_ok (firstOf_zero h0 (chkCyc c) (by simp))
  have hf := within_ok (firstOf_zero h0 (within3 f 0 999999999) (by simp))
  have hn := within_ok (firstOf_zero h0 (within3 n 0 256) (by simp))
  have hc := has_zero (firstOf_zero h0 (bif !(c.contains true) then 7 else 0) (by simp))
  have hP : opnP c f n = opnF c f.toNat n.toNat := by unfold opnP; rw [h]; rfl
  obtain ⟨g, rfl⟩ : ∃ m : Nat, f = m := ⟨f.toNat, by omega⟩
  obtain ⟨m, rfl⟩ : ∃ m : Nat, n = m := ⟨n.toNat, by omega⟩
  have hP : opnP c g m = opnF c g m := hP
  have hm : m ≤ 256 := by omega
  have hN : m * c.length ≤ 256 * 16 := Nat.mul_le_mul hm hcl.2
  refine loop_st (fun a : Nat × List Int => ⟨[(0, .d (.slice 1 (blsD c))), (2, .d (.int .i64 m)), (9, .sl 2 (ints a.2).length), (10, .d (.int .i64 ((g + a.1 : Nat) : Int)))], [.none, .none, .row 3 1 (ints a.2) false]⟩)
    (opnI c g m) (fun a => m * c.length - a.1) (0, []) rfl (opnI_start c g m) ?_
  rintro ⟨k, acc⟩ hi
  have hil := ints_len acc
  refine And.intro rfl ?_
  refine And.intro rfl ?_
  refine brk_lt (fun h => ?_) (fun h => ?_)
  · have h : ((ints acc).length : Int) < (m : Int) := h
    have h2 : (acc.length : Int) < (m : Int) := by omega
    obtain ⟨hk, hs⟩ := opnI_step hc hi h2
    have hA : -9223372036854775808 ≤ ((g + k : Nat) : Int) + 1 ∧ ((g + k : Nat) : Int) + 1 ≤ 9223372036854775807 := by omega
    have hR : 0 ≤ ((g + k : Nat) : Int) ∧ 1 ≤ ((blsD c).length : Int) := by omega
    refine ar_rem hR ?_
    refine ix_at (cAt_ix (g + k) hcl.1) (Int.emod_nonneg _ (by omega)) ?_
    refine brk_intro ?_ ?_
    · intro e
      have e : cAt c (g + k) = true := e
      rw [e] at hs
      repeat refine And.intro rfl ?_
      refine And.intro ⟨rfl, rfl, rfl, ?_, ?_⟩ ?_
      · show ((ints acc).length + 1) * 8 ≤ 2 ^ 47
        omega
      · show (ints acc).length + 1 ≤ 2 ^ 47
        omega
      refine ar_add hA ?_
      refine ⟨(k + 1, acc ++ [((g + k : Nat) : Int)]), ⟨hs, by show m * c.length - (k + 1) < m * c.length - k; omega⟩, ?_⟩
      rw [ints_snoc]; rfl
    · intro e
      have e : cAt c (g + k) = false := e
      rw [e] at hs
      refine ar_add hA ?_
      exact ⟨(k + 1, acc), ⟨hs, by show m * c.length - (k + 1) < m * c.length - k; omega⟩, rfl⟩
  · have h : ¬ ((ints acc).length : Int) < (m : Int) := h
    have h2 : ¬ (acc.length : Int) < (m : Int) := by omega
    repeat refine And.intro rfl ?_
    exact op' (p := acc) (hP.trans (opnI_end hi h2)) h0
end Vc

set_option maxRecDepth 10000
namespace Vc
open Go Go.Proofs
theorem acg {c : List Bool} {l : List Stn} {n : Nat} {p : List Int} (h : accGo c n 0 l = p) : resV [.slice 1 (ints p)] = resV [.slice 1 (ints (accGo c n 0 l))] := by rw [h]
theorem acp {l : List Stn} {c : List Bool} {n : Int} {p : List Int} {e : Int} (h : accP l c n = p) (he : accE l c n = e) : resV [.slice 1 (ints p), .int .i64 e] = resV [.slice 1 (ints (accP l c n)), .int .i64 (accE l c n)] := by rw [h, he]
/-- kilovar/kilovarref04.Access -/
def ir69 : AFun := ⟨34, 2, [.tmp 6],
 (.seq
 (.reg [] [⟨some 6, .mov (.cst (.nils 1)), none⟩])
 (.seq
 (.reg [] [⟨some 7, .mov (.cst (.nils 1)), none⟩])
 (.seq
 (.seq
 (.reg [] [⟨some 8, .mov (.cst (.d (.int .i64 0))), none⟩])
 (.post [7] [0, 1]
 (.block 0
 (.asrow 1 3 1 7
 (.keep [0, 1, 2, 7, 8] []
 (.loop
 (.post [0, 1, 2, 7, 8] [0, 1]
 (.seq
 (.seq
 (.reg [] [⟨some 10, .mov (.tmp 8), none⟩,
 ⟨some 11, .mov (.tmp 2), none⟩,
 ⟨some 12, .cmp .lss (.tmp 10) (.tmp 11), none⟩])
 (.cond (.tmp 12)
 .skip
 (.exit 0)))
 (.seq
 (.block 1
 (.seq
 (.reg [] [⟨some 9, .mov (.cst (.d (.int .i64 (-1)))), none⟩])
 (.seq
 (.seq
 (.reg [] [⟨some 15, .mov (.tmp 1), none⟩,
 ⟨some 16, .mov (.tmp 8), none⟩,
 ⟨some 17, .mov (.tmp 1), none⟩,
 ⟨some 18, .len (.tmp 17), none⟩,
 ⟨some 19, .arith .rem .i64 (.tmp 16) (.tmp 18), none⟩,
 ⟨some 20, .ixa 1 (.tmp 15) (.tmp 19), none⟩,
 ⟨some 21, .ld false 1 (.tmp 20), none⟩])
 (.cond (.tmp 21)
 (.reg [] [⟨some 22, .mov (.tmp 0), none⟩,
 ⟨some 23, .call 64 [(.tmp 22)], none⟩,
 ⟨some 9, .mov (.tmp 23), none⟩])
 .skip))
 (.seq
 (.seq
 (.reg [] [⟨some 24, .mov (.tmp 9), none⟩,
 ⟨some 25, .cmp .geq (.tmp 24) (.cst (.d (.int .i64 0))), none⟩])
 (.cond (.tmp 25)
 (.reg [] [⟨some 26, .mov (.tmp 0), none⟩,
 ⟨some 27, .mov (.tmp 9), none⟩,
 ⟨some 28, .call 76 [(.tmp 26), (.tmp 27)], none⟩,
 ⟨some 0, .mov (.tmp 28), none⟩])
 .skip))
 (.reg [0, 1] [⟨some 29, .mov (.tmp 7), none⟩,
 ⟨some 30, .mov (.tmp 9), none⟩,
 ⟨some 31, .bsl 0 3 1 1 [(.int .i64 0)] [(0, (.tmp 30))], none⟩,
 ⟨some 32, .app 1 3 1 8 (.tmp 29) (.tmp 31), none⟩,
 ⟨some 7, .mov (.tmp 32), none⟩])))))
 (.reg [] [⟨some 13, .mov (.tmp 8), none⟩,
 ⟨some 14, .arith .add .i64 (.tmp 13) (.cst (.d (.int .i64 1))), none⟩,
 ⟨some 8, .mov (.tmp 14), none⟩]))))))))))
 (.seq
 (.reg [] [⟨some 33, .mov (.tmp 7), none⟩,
 ⟨some 6, .mov (.tmp 33), none⟩])
 .ret))))⟩

/-- kilovar/link.Access -/
def ir59 : AFun := ⟨54, 3, [.tmp 6, .tmp 7],
 (.seq
 (.reg [] [⟨some 6, .mov (.cst (.nils 1)), none⟩,
 ⟨some 7, .mov (.cst (.d (.int .i64 0))), none⟩])
 (.seq
 (.seq
 (.reg [0] [⟨some 13, .mov (.tmp 0), none⟩,
 ⟨some 14, .call 70 [(.tmp 13)], none⟩,
 ⟨some 15, .mov (.tmp 1), none⟩,
 ⟨some 16, .call 110 [(.tmp 15)], none⟩,
 ⟨some 17, .mov (.tmp 2), none⟩,
 ⟨some 18, .call 82 [(.tmp 17), (.cst (.d (.int .i64 0))), (.cst (.d (.int .i64 256)))], none⟩,
 ⟨some 19, .mov (.tmp 1), none⟩,
 ⟨some 20, .call 111 [(.tmp 19), (.cst (.d (.bool true)))], none⟩,
 ⟨some 21, .not (.tmp 20), none⟩,
 ⟨some 22, .call 83 [(.tmp 21), (.cst (.d (.int .i64 7)))], none⟩,
 ⟨some 23, .bsl 0 31 1 4 [(.int .i64 0), (.int .i64 0), (.int .i64 0), (.int .i64 0)] [(0, (.tmp 14)), (1, (.tmp 16)), (2, (.tmp 18)), (3, (.tmp 22))], none⟩,
 ⟨some 24, .call 81 [(.tmp 23)], none⟩,
 ⟨some 8, .mov (.tmp 24), none⟩])
 (.seq
 (.reg [] [⟨some 25, .mov (.tmp 8), none⟩,
 ⟨some 26, .cmp .neq (.tmp 25) (.cst (.d (.int .i64 0))), none⟩])
 (.cond (.tmp 26)
 (.seq
 (.reg [] [⟨some 27, .mov (.tmp 8), none⟩,
 ⟨some 6, .mov (.cst (.nils 1)), none⟩,
 ⟨some 7, .mov (.tmp 27), none⟩])
 .ret)
 .skip)))
 (.seq
 (.reg [] [⟨some 9, .mov (.cst (.nils 1)), none⟩])
 (.seq
 (.reg [] [⟨some 28, .mov (.tmp 0), none⟩,
 ⟨some 29, .call 108 [(.tmp 28)], none⟩,
 ⟨some 10, .mov (.tmp 29), none⟩])
 (.seq
 (.seq
 (.reg [] [⟨some 30, .mov (.tmp 2), none⟩,
 ⟨some 31, .mov (.cst (.d (.int .i64 0))), none⟩])
 (.post [9] [0, 1, 2]
 (.block 0
 (.asrow 2 3 1 9
 (.keep [1, 9, 10, 30, 31] [0]
 (.loop
 (.post [1, 9, 10, 30, 31] [1, 2]
 (.seq
 (.reg [] [⟨some 32, .cmp .lss (.tmp 31) (.tmp 30), none⟩])
 (.seq
 (.cond (.tmp 32)
 .skip
 (.exit 0))
 (.seq
 (.block 1
 (.seq
 (.reg [] [⟨some 33, .mov (.tmp 31), none⟩,
 ⟨some 11, .mov (.tmp 33), none⟩])
 (.seq
 (.reg [] [⟨some 12, .mov (.cst (.d (.int .i64 (-1)))), none⟩])
 (.seq
 (.seq
 (.reg [] [⟨some 34, .mov (.tmp 1), none⟩,
 ⟨some 35, .mov (.tmp 11), none⟩,
 ⟨some 36, .mov (.tmp 1), none⟩,
 ⟨some 37, .len (.tmp 36), none⟩,
 ⟨some 38, .arith .rem .i64 (.tmp 35) (.tmp 37), none⟩,
 ⟨some 39, .ixa 1 (.tmp 34) (.tmp 38), none⟩,
 ⟨some 40, .ld false 1 (.tmp 39), none⟩])
 (.cond (.tmp 40)
 (.reg [] [⟨some 41, .mov (.tmp 10), none⟩,
 ⟨some 42, .call 107 [(.tmp 41)], none⟩,
 ⟨some 12, .mov (.tmp 42), none⟩])
 .skip))
 (.seq
 (.seq
 (.reg [] [⟨some 43, .mov (.tmp 12), none⟩,
 ⟨some 44, .cmp .geq (.tmp 43) (.cst (.d (.int .i64 0))), none⟩])
 (.cond (.tmp 44)
 (.reg [] [⟨some 45, .mov (.tmp 10), none⟩,
 ⟨some 46, .mov (.tmp 12), none⟩,
 ⟨some 47, .call 109 [(.tmp 45), (.tmp 46)], none⟩,
 ⟨some 10, .mov (.tmp 47), none⟩])
 .skip))
 (.reg [1, 2] [⟨some 48, .mov (.tmp 9), none⟩,
 ⟨some 49, .mov (.tmp 12), none⟩,
 ⟨some 50, .bsl 1 3 1 1 [(.int .i64 0)] [(0, (.tmp 49))], none⟩,
 ⟨some 51, .app 2 3 1 8 (.tmp 48) (.tmp 50), none⟩,
 ⟨some 9, .mov (.tmp 51), none⟩]))))))
 (.reg [] [⟨some 52, .arith .add .i64 (.tmp 31) (.cst (.d (.int .i64 1))), none⟩,
 ⟨some 31, .mov (.tmp 52), none⟩])))))))))))
 (.seq
 (.reg [] [⟨some 53, .mov (.tmp 9), none⟩,
 ⟨some 6, .mov (.tmp 53), none⟩,
 ⟨some 7, .mov (.cst (.d (.int .i64 0))), none⟩])
 .ret))))))⟩


set_option maxHeartbeats 4000000 in
theorem c69 (l : List Stn) (c : List Bool) (n : Nat) (hl : l.length ≤ 1048576) (ho : ∀ x ∈ l, x.ok) (hcl : 1 ≤ c.length ∧ c.length ≤ 16) (hn : n ≤ 256) : CallDet Tryz.prog 69 [.d (.slice 4 (stns l)), .d (.slice 1 (blsD c)), .d (.int .i64 n)] [.slice 1 (ints (accGo c n 0 l))] := by
  have hlen := bls_len c
  refine call_of_vc (x := ir69) (by kernel_rfl) rfl ?_
  refine loop_st (fun a : Nat × List Int × List Stn => ⟨[(0, .d (.slice 4 (stns a.2.2))), (1, .d (.slice 1 (blsD c))), (2, .d (.int .i64 n)), (7, .sl 1 (ints a.2.1).length), (8, .d (.int .i64 a.1))], [.none, .row 3 1 (ints a.2.1) false]⟩)
    (accI c l n) (fun a => n - a.1) (0, [], l) rfl (accI_start ho) ?_
  rintro ⟨i, acc, now⟩ hi
  have ho2 : ∀ x ∈ now, x.ok := hi.2.1
  have hnl : now.length = l.length := hi.2.2.1
  have hal : acc.length = i := hi.2.2.2.1
  have hin : i ≤ n := hi.2.2.2.2
  have hil := ints_len acc
  refine And.intro rfl ?_
  refine brk_lt (fun h => ?_) (fun h => ?_)
  · have h : (i : Int) < (n : Int) := h
    have hA : -9223372036854775808 ≤ (i : Int) + 1 ∧ (i : Int) + 1 ≤ 9223372036854775807 := by omega
    have hR : 0 ≤ (i : Int) ∧ 1 ≤ ((blsD c).length : Int) := by omega
    have hs1 : ((ints acc).length + 1) * 8 ≤ 2 ^ 47 := by omega
    have hs2 : (ints acc).length + 1 ≤ 2 ^ 47 := by omega
    have hm : n - (i + 1) < n - i := by omega
    refine ar_rem hR ?_
    refine ix_at (cAt_ix i hcl.1) (Int.emod_nonneg _ (by omega)) ?_
    refine brk_intro ?_ ?_
    · intro e
      have e : cAt c i = true := e
      have ew : winF now = accW c i now := by unfold accW; rw [e]; rfl
      have hst := accI_step hi (by omega) ew
      refine Exists.intro _ (And.intro (c64 now (by omega) ho2) ?_)
      refine And.intro rfl ?_
      refine brk_le (fun hw => ?_) (fun hw => ?_)
      · have hw : 0 ≤ winF now := hw
        have en : accN (winF now) now = aftF now (winF now) := by unfold accN; rw [decide_eq_true hw]; rfl
        rw [en] at hst
        refine Exists.intro _ (And.intro (c76 now (winF now) (by omega) ho2) ?_)
        repeat refine And.intro rfl ?_
        refine And.intro ⟨rfl, rfl, rfl, hs1, hs2⟩ ?_
        refine ar_add hA ?_
        refine ⟨(i + 1, acc ++ [winF now], aftF now (winF now)), ⟨hst, hm⟩, ?_⟩
        rw [ints_snoc]; rfl
      · have hw : ¬ 0 ≤ winF now := hw
        have en : accN (winF now) now = now := by unfold accN; rw [decide_eq_false hw]; rfl
        rw [en] at hst
        repeat refine And.intro rfl ?_
        refine And.intro ⟨rfl, rfl, rfl, hs1, hs2⟩ ?_
        refine ar_add hA ?_
        refine ⟨(i + 1, acc ++ [winF now], now), ⟨hst, hm⟩, ?_⟩
        rw [ints_snoc]; rfl
    · intro e
      have e : cAt c i = false := e
      have ew : (-1 : Int) = accW c i now := by unfold accW; rw [e]; rfl
      have hst := accI_step hi (by omega) ew
      have en : accN (-1) now = now := rfl
      rw [en] at hst
      repeat refine And.intro rfl ?_
      refine And.intro ⟨rfl, rfl, rfl, hs1, hs2⟩ ?_
      refine ar_add hA ?_
      refine ⟨(i + 1, acc ++ [-1], now), ⟨hst, hm⟩, ?_⟩
      rw [ints_snoc]; rfl
  · have h : ¬ (i : Int) < (n : Int) := h
    repeat refine And.intro rfl ?_
    exact acg (accI_end hi (by omega))
set_option maxHeartbeats 4000000 in
theorem c59 (l : List Stn) (c : List Bool) (n : Int) (hc0 : c.length ≤ 1048576) : CallDet Tryz.prog 59 [.d (.slice 4 (stns l)), .d (.slice 1 (blsD c)), .d (.int .i64 n)] [.slice 1 (ints (accP l c n)), .int .i64 (accE l c n)] := by
  have hlen := bls_len c
  have hlen2 := stns_len l
  refine call_of_vc (x := ir59) (by kernel_rfl) rfl ?_
  refine Exists.intro _ (And.intro (c70 l) ?_)
  refine Exists.intro _ (And.intro (c110 c) ?_)
  refine Exists.intro _ (And.intro (c82 _ _ _) ?_)
  refine Exists.intro _ (And.intro (c111 c true hc0) ?_)
  refine Exists.intro _ (And.intro (c83 _ _) ?_)
  repeat refine And.intro rfl ?_
  refine Exists.intro _ (And.intro (c81 [chkStns l, chkCyc c, within3 n 0 256, bif !(c.contains true) then 7 else 0] (by simp)) ?_)
  repeat refine And.intro rfl ?_
  refine brk_intro ?_ ?_
  · intro h
    have h : (accE l c n != 0) = true := h
    exact acp (p := []) (by unfold accP; rw [h]; rfl) rfl
  intro h
  have h : (accE l c n != 0) = false := h
  have h0 : accE l c n = 0 := by simpa using h
  obtain ⟨ho, h8⟩ := chkStns_ok (firstOf_zero h0 (chkStns l) (by simp))
  have hcl := cyc_ok (firstOf_zero h0 (chkCyc c) (by simp))
  have hn := within_ok (firstOf_zero h0 (within3 n 0 256) (by simp))
  have hP : accP l c n = accGo c n.toNat 0 l := by unfold accP; rw [h]; rfl
  obtain ⟨m, rfl⟩ : ∃ m : Nat, n = m := ⟨n.toNat, by omega⟩
  have hP : accP l c m = accGo c m 0 l := hP
  refine Exists.intro _ (And.intro (c108 (stns l) (by omega)) ?_)
  refine loop_st (fun a : Nat × List Int × List Stn => ⟨[(1, .d (.slice 1 (blsD c))), (9, .sl 2 (ints a.2.1).length), (10, .d (.slice 4 (stns a.2.2))), (30, .d (.int .i64 m)), (31, .d (.int .i64 a.1))], [.none, .none, .row 3 1 (ints a.2.1) false]⟩)
    (accI c l m) (fun a => m - a.1) (0, [], l) rfl (accI_start ho) ?_
  rintro ⟨i, acc, now⟩ hi
  have ho2 : ∀ x ∈ now, x.ok := hi.2.1
  have hnl : now.length = l.length := hi.2.2.1
  have hal : acc.length = i := hi.2.2.2.1
  have hin : i ≤ m := hi.2.2.2.2
  have hil := ints_len acc
  refine And.intro rfl ?_
  refine brk_lt (fun h => ?_) (fun h => ?_)
  · have h : (i : Int) < (m : Int) := h
    have hA : -9223372036854775808 ≤ (i : Int) + 1 ∧ (i : Int) + 1 ≤ 9223372036854775807 := by omega
    have hR : 0 ≤ (i : Int) ∧ 1 ≤ ((blsD c).length : Int) := by omega
    have hs1 : ((ints acc).length + 1) * 8 ≤ 2 ^ 47 := by omega
    have hs2 : (ints acc).length + 1 ≤ 2 ^ 47 := by omega
    have hm : m - (i + 1) < m - i := by omega
    refine ar_rem hR ?_
    refine ix_at (cAt_ix i hcl.1) (Int.emod_nonneg _ (by omega)) ?_
    refine brk_intro ?_ ?_
    · intro e
      have e : cAt c i = true := e
      have ew : winF now = accW c i now := by unfold accW; rw [e]; rfl
      have hst := accI_step hi (by omega) ew
      refine Exists.intro _ (And.intro (c107 now (by omega) ho2) ?_)
      refine And.intro rfl ?_
      refine brk_le (fun hw => ?_) (fun hw => ?_)
      · have hw : 0 ≤ winF now := hw
        have en : accN (winF now) now = aftF now (winF now) := by unfold accN; rw [decide_eq_true hw]; rfl
        rw [en] at hst
        refine Exists.intro _ (And.intro (c109 now (winF now) (by omega) ho2) ?_)
        repeat refine And.intro rfl ?_
        refine And.intro ⟨rfl, rfl, rfl, hs1, hs2⟩ ?_
        refine ar_add hA ?_
        refine ⟨(i + 1, acc ++ [winF now], aftF now (winF now)), ⟨hst, hm⟩, ?_⟩
        rw [ints_snoc]; rfl
      · have hw : ¬ 0 ≤ winF now := hw
        have en : accN (winF now) now = now := by unfold accN; rw [decide_eq_false hw]; rfl
        rw [en] at hst
        repeat refine And.intro rfl ?_
        refine And.intro ⟨rfl, rfl, rfl, hs1, hs2⟩ ?_
        refine ar_add hA ?_
        refine ⟨(i + 1, acc ++ [winF now], now), ⟨hst, hm⟩, ?_⟩
        rw [ints_snoc]; rfl
    · intro e
      have e : cAt c i = false := e
      have ew : (-1 : Int) = accW c i now := by unfold accW; rw [e]; rfl
      have hst := accI_step hi (by omega) ew
      have en : accN (-1) now = now := rfl
      rw [en] at hst
      repeat refine And.intro rfl ?_
      refine And.intro ⟨rfl, rfl, rfl, hs1, hs2⟩ ?_
      refine ar_add hA ?_
      refine ⟨(i + 1, acc ++ [-1], now), ⟨hst, hm⟩, ?_⟩
      rw [ints_snoc]; rfl
  · have h : ¬ (i : Int) < (m : Int) := h
    repeat refine And.intro rfl ?_
    exact acp (p := acc) (hP.trans (accI_end hi (by omega))) h0
end Vc

set_option maxRecDepth 10000
namespace Vc
open Go Go.Proofs
def opn0 (c : List Bool) (f n : Int) : Int := firstOf [chkCyc c, within3 f 0 999999999, within3 n 0 256]
def acc0 (l : List Stn) (c : List Bool) (n : Int) : Int := firstOf [chkStns l, chkCyc c, within3 n 0 256]
theorem first_snoc (x : Int) : ∀ l : List Int, firstOf (l ++ [x]) = bif firstOf l == 0 then x else firstOf l
  | [] => by
    show (match x != 0 with | true => x | false => (0 : Int)) = x
    rcases Bool.eq_false_or_eq_true (x != 0) with e | e
    · rw [e]
    · rw [e]; have : x = 0 := by simpa using e
      exact this.symm
  | y :: r => by
    show (match y != 0 with | true => y | false => firstOf (r ++ [x]) : Int) = bif (match y != 0 with | true => y | false => firstOf r : Int) == 0 then x else (match y != 0 with | true => y | false => firstOf r : Int)
    rcases Bool.eq_false_or_eq_true (y != 0) with e | e
    · rw [e]
      have : (y == 0) = false := by simpa [bne] using e
      rw [this]; rfl
    · rw [e]; exact first_snoc x r
theorem opnE_eq (c : List Bool) (f n : Int) : opnE c f n = bif opn0 c f n == 0 then (bif !(c.contains true) then 7 else 0) else opn0 c f n := first_snoc _ [chkCyc c, within3 f 0 999999999, within3 n 0 256]
theorem accE_eq (l : List Stn) (c : List Bool) (n : Int) : accE l c n = bif acc0 l c n == 0 then (bif !(c.contains true) then 7 else 0) else acc0 l c n := first_snoc _ [chkStns l, chkCyc c, within3 n 0 256]
theorem eq_ne {x : Int} (h : (x == 0) = true) : (x != 0) = false := by simpa using h
theorem ne_ne {x : Int} (h : (x == 0) = false) : (x != 0) = true := by simpa using h
theorem c65p (l : List Stn) (n : Int) (h : srvE l n = 0) : CallDet Tryz.prog 65 [.d (.slice 4 (stns l)), .d (.int .i64 n)] [.slice 1 (ints (srvP l n).1), .slice 4 (stns (srvP l n).2)] := by
  obtain ⟨ho, h8⟩ := chkStns_ok (firstOf_zero h (chkStns l) (by simp))
  have hn := within_ok (firstOf_zero h (within3 n 0 256) (by simp))
  have hP : srvP l n = srvGo n.toNat l := by unfold srvP; rw [h]; rfl
  obtain ⟨m, rfl⟩ : ∃ m : Nat, n = m := ⟨n.toNat, by omega⟩
  rw [hP]
  exact c65 l m (by omega) (by omega) ho
theorem c68p (c : List Bool) (f n : Int) (h : opnE c f n = 0) : CallDet Tryz.prog 68 [.d (.slice 1 (blsD c)), .d (.int .i64 f), .d (.int .i64 n)] [.slice 1 (ints (opnP c f n))] := by
  have hcl := cyc_ok (firstOf_zero h (chkCyc c) (by simp))
  have hf := within_ok (firstOf_zero h (within3 f 0 999999999) (by simp))
  have hn := within_ok (firstOf_zero h (within3 n 0 256) (by simp))
  have hc := has_zero (firstOf_zero h (bif !(c.contains true) then 7 else 0) (by simp))
  have hP : opnP c f n = opnF c f.toNat n.toNat := by unfold opnP; rw [h]; rfl
  obtain ⟨g, rfl⟩ : ∃ m : Nat, f = m := ⟨f.toNat, by omega⟩
  obtain ⟨m, rfl⟩ : ∃ m : Nat, n = m := ⟨n.toNat, by omega⟩
  rw [hP]
  exact c68 c g m hc hcl (by omega) (by omega)
theorem c69p (l : List Stn) (c : List Bool) (n : Int) (h : accE l c n = 0) : CallDet Tryz.prog 69 [.d (.slice 4 (stns l)), .d (.slice 1 (blsD c)), .d (.int .i64 n)] [.slice 1 (ints (accP l c n))] := by
  obtain ⟨ho, h8⟩ := chkStns_ok (firstOf_zero h (chkStns l) (by simp))
  have hcl := cyc_ok (firstOf_zero h (chkCyc c) (by simp))
  have hn := within_ok (firstOf_zero h (within3 n 0 256) (by simp))
  have hP : accP l c n = accGo c n.toNat 0 l := by unfold accP; rw [h]; rfl
  obtain ⟨m, rfl⟩ : ∃ m : Nat, n = m := ⟨n.toNat, by omega⟩
  rw [hP]
  exact c69 l c m (by omega) ho hcl (by omega)
/-- kilovar/kilovarlaw04.LinkSlots -/
def ir6a (rest : ACode) : ACode :=
 (.seq
 (.reg [0] [⟨some 5, .cbx 0 3 (.tmp 2), none⟩,
 ⟨some 6, .mov (.cst (.d (.bool false))), none⟩])
 (.seq
 (.seq
 (.reg [] [⟨some 30, .mov (.tmp 0), none⟩,
 ⟨some 31, .call 53 [(.tmp 30)], none⟩,
 ⟨some 32, .not (.tmp 31), none⟩,
 ⟨some 33, .mov (.tmp 32), none⟩,
 ⟨some 34, .mov (.tmp 1), some (33, false)⟩,
 ⟨some 35, .len (.tmp 34), some (33, false)⟩,
 ⟨some 36, .cmp .gtr (.tmp 35) (.cst (.d (.int .i64 17))), some (33, false)⟩,
 ⟨some 37, .pick (.tmp 33) (.cst (.d (.bool true))) (.tmp 36), none⟩,
 ⟨some 38, .mov (.tmp 37), none⟩,
 ⟨some 39, .ixp 3 1 (.tmp 5) (.cst (.d (.int .i64 0))), some (38, false)⟩,
 ⟨some 40, .ld false 1 (.tmp 39), some (38, false)⟩,
 ⟨some 41, .cmp .gtr (.tmp 40) (.cst (.d (.int .i64 40))), some (38, false)⟩,
 ⟨some 42, .mov (.tmp 41), some (38, false)⟩,
 ⟨some 43, .ixp 3 1 (.tmp 5) (.cst (.d (.int .i64 0))), some (42, true)⟩,
 ⟨some 44, .ld false 1 (.tmp 43), some (42, true)⟩,
 ⟨some 45, .cmp .leq (.tmp 44) (.cst (.d (.int .i64 256))), some (42, true)⟩,
 ⟨some 46, .pick (.tmp 42) (.tmp 45) (.cst (.d (.bool false))), some (38, false)⟩,
 ⟨some 47, .pick (.tmp 38) (.cst (.d (.bool true))) (.tmp 46), none⟩])
 (.cond (.tmp 47)
 (.seq
 (.reg [] [⟨some 48, .call 12 [], none⟩,
 ⟨some 6, .mov (.tmp 48), none⟩])
 .ret)
 .skip))
 rest))

def ir6r (rest : ACode) : ACode :=
 (.seq
 (.reg [] [⟨some 50, .mov (.tmp 0), none⟩,
 ⟨some 51, .call 55 [(.tmp 50)], none⟩,
 ⟨some 52, .call 54 [(.tmp 51)], none⟩,
 ⟨some 49, .mov (.tmp 52), none⟩,
 ⟨some 53, .ext 0 (.tmp 49), none⟩,
 ⟨some 54, .ext 1 (.tmp 49), none⟩,
 ⟨some 7, .mov (.tmp 53), none⟩,
 ⟨some 8, .mov (.tmp 54), none⟩])
 (.seq
 (.regd [] [⟨some 56, .mov (.tmp 0), none⟩,
 ⟨some 57, .call 55 [(.tmp 56)], none⟩,
 ⟨some 58, .ixp 3 1 (.tmp 5) (.cst (.d (.int .i64 0))), none⟩,
 ⟨some 59, .ld false 1 (.tmp 58), none⟩,
 ⟨some 60, .call 56 [(.tmp 57), (.tmp 59)], none⟩,
 ⟨some 55, .mov (.tmp 60), none⟩,
 ⟨some 61, .ext 0 (.tmp 55), none⟩,
 ⟨some 62, .ext 1 (.tmp 55), none⟩,
 ⟨some 63, .ext 2 (.tmp 55), none⟩,
 ⟨some 9, .mov (.tmp 61), none⟩,
 ⟨some 10, .mov (.tmp 62), none⟩,
 ⟨some 11, .mov (.tmp 63), none⟩] [(0, 2), (1, 2), (0, 3), (1, 3), (6, 7), (6, 8), (7, 8), (7, 9), (8, 9), (8, 10)])
 (.seq
 (.reg [] [⟨some 65, .ixp 3 1 (.tmp 5) (.cst (.d (.int .i64 2))), none⟩,
 ⟨some 66, .ld false 1 (.tmp 65), none⟩,
 ⟨some 67, .call 57 [(.tmp 66)], none⟩,
 ⟨some 64, .mov (.tmp 67), none⟩,
 ⟨some 68, .ext 0 (.tmp 64), none⟩,
 ⟨some 69, .ext 1 (.tmp 64), none⟩,
 ⟨some 12, .mov (.tmp 68), none⟩,
 ⟨some 13, .mov (.tmp 69), none⟩])
 (.seq
 (.regd [1, 2] [⟨some 71, .bsl 1 4 1 0 [] [], none⟩,
 ⟨some 72, .mov (.tmp 1), none⟩,
 ⟨some 73, .app 2 4 1 1 (.tmp 71) (.tmp 72), none⟩,
 ⟨some 74, .ixp 3 1 (.tmp 5) (.cst (.d (.int .i64 1))), none⟩,
 ⟨some 75, .ld false 1 (.tmp 74), none⟩,
 ⟨some 76, .ixp 3 1 (.tmp 5) (.cst (.d (.int .i64 0))), none⟩,
 ⟨some 77, .ld false 1 (.tmp 76), none⟩,
 ⟨some 78, .call 58 [(.tmp 73), (.tmp 75), (.tmp 77)], none⟩,
 ⟨some 70, .mov (.tmp 78), none⟩,
 ⟨some 79, .ext 0 (.tmp 70), none⟩,
 ⟨some 80, .ext 1 (.tmp 70), none⟩,
 ⟨some 14, .mov (.tmp 79), none⟩,
 ⟨some 15, .mov (.tmp 80), none⟩] [(0, 1), (0, 3), (1, 3), (2, 3), (0, 4), (1, 4), (2, 4), (0, 5), (1, 5), (2, 5), (3, 5), (4, 5), (0, 6), (1, 6), (2, 6), (3, 6), (4, 6), (9, 10), (10, 11)])
 (.seq
 (.regd [3, 4] [⟨some 82, .mov (.tmp 0), none⟩,
 ⟨some 83, .call 55 [(.tmp 82)], none⟩,
 ⟨some 84, .bsl 3 4 1 0 [] [], none⟩,
 ⟨some 85, .mov (.tmp 1), none⟩,
 ⟨some 86, .app 4 4 1 1 (.tmp 84) (.tmp 85), none⟩,
 ⟨some 87, .ixp 3 1 (.tmp 5) (.cst (.d (.int .i64 0))), none⟩,
 ⟨some 88, .ld false 1 (.tmp 87), none⟩,
 ⟨some 89, .call 59 [(.tmp 83), (.tmp 86), (.tmp 88)], none⟩,
 ⟨some 81, .mov (.tmp 89), none⟩,
 ⟨some 90, .ext 0 (.tmp 81), none⟩,
 ⟨some 91, .ext 1 (.tmp 81), none⟩,
 ⟨some 16, .mov (.tmp 90), none⟩,
 ⟨some 17, .mov (.tmp 91), none⟩] [(0, 2), (1, 2), (0, 3), (1, 3), (2, 3), (0, 5), (1, 5), (2, 5), (3, 5), (4, 5), (0, 6), (1, 6), (2, 6), (3, 6), (4, 6), (9, 10), (10, 11)])
 (.seq
 (.reg [] [⟨some 92, .mov (.tmp 0), none⟩,
 ⟨some 93, .call 60 [(.tmp 92)], none⟩,
 ⟨some 18, .mov (.tmp 93), none⟩])
 (.seq
 (.regd [5] [⟨some 94, .mov (.tmp 18), none⟩,
 ⟨some 95, .mov (.tmp 18), none⟩,
 ⟨some 96, .ixp 3 1 (.tmp 5) (.cst (.d (.int .i64 0))), none⟩,
 ⟨some 97, .ld false 1 (.tmp 96), none⟩,
 ⟨some 98, .call 61 [(.tmp 97)], none⟩,
 ⟨some 99, .bsl 5 3 1 2 [(.int .i64 0), (.int .i64 0)] [(0, (.tmp 95)), (1, (.tmp 98))], none⟩,
 ⟨some 100, .call 37 [(.tmp 99)], none⟩,
 ⟨some 101, .ixp 3 1 (.tmp 5) (.cst (.d (.int .i64 2))), none⟩,
 ⟨some 102, .ld false 1 (.tmp 101), none⟩,
 ⟨some 103, .call 62 [(.tmp 102), (.cst (.d (.int .i64 1))), (.cst (.d (.int .i64 8)))], none⟩,
 ⟨some 19, .mov (.tmp 94), none⟩,
 ⟨some 20, .mov (.tmp 100), none⟩,
 ⟨some 21, .mov (.tmp 103), none⟩] [(0, 1), (0, 2), (1, 2), (0, 3), (1, 3), (0, 4), (1, 4), (0, 5), (0, 6), (0, 7), (1, 7), (2, 7), (3, 7), (4, 7), (5, 7), (6, 7), (0, 8), (1, 8), (2, 8), (3, 8), (4, 8), (5, 8), (6, 8), (0, 9)])
 (.seq
 (.regd [6, 7] [⟨some 104, .mov (.tmp 1), none⟩,
 ⟨some 105, .call 63 [(.tmp 104)], none⟩,
 ⟨some 106, .ixp 3 1 (.tmp 5) (.cst (.d (.int .i64 1))), none⟩,
 ⟨some 107, .ld false 1 (.tmp 106), none⟩,
 ⟨some 108, .call 62 [(.tmp 107), (.cst (.d (.int .i64 0))), (.cst (.d (.int .i64 999999999)))], none⟩,
 ⟨some 109, .ixp 3 1 (.tmp 5) (.cst (.d (.int .i64 0))), none⟩,
 ⟨some 110, .ld false 1 (.tmp 109), none⟩,
 ⟨some 111, .call 61 [(.tmp 110)], none⟩,
 ⟨some 112, .bsl 6 3 1 3 [(.int .i64 0), (.int .i64 0), (.int .i64 0)] [(0, (.tmp 105)), (1, (.tmp 108)), (2, (.tmp 111))], none⟩,
 ⟨some 113, .call 37 [(.tmp 112)], none⟩,
 ⟨some 114, .mov (.tmp 18), none⟩,
 ⟨some 115, .mov (.tmp 1), none⟩,
 ⟨some 116, .call 63 [(.tmp 115)], none⟩,
 ⟨some 117, .ixp 3 1 (.tmp 5) (.cst (.d (.int .i64 0))), none⟩,
 ⟨some 118, .ld false 1 (.tmp 117), none⟩,
 ⟨some 119, .call 61 [(.tmp 118)], none⟩,
 ⟨some 120, .bsl 7 3 1 3 [(.int .i64 0), (.int .i64 0), (.int .i64 0)] [(0, (.tmp 114)), (1, (.tmp 116)), (2, (.tmp 119))], none⟩,
 ⟨some 121, .call 37 [(.tmp 120)], none⟩,
 ⟨some 22, .mov (.tmp 113), none⟩,
 ⟨some 23, .mov (.tmp 121), none⟩] [(0, 2), (1, 2), (0, 3), (1, 3), (0, 5), (1, 5), (2, 5), (3, 5), (4, 5), (0, 6), (1, 6), (2, 6), (3, 6), (4, 6), (0, 10), (1, 10), (2, 10), (3, 10), (4, 10), (5, 10), (6, 10), (7, 10), (8, 10), (9, 10), (0, 11), (1, 11), (2, 11), (3, 11), (4, 11), (5, 11), (6, 11), (7, 11), (8, 11), (9, 11), (10, 11), (10, 12), (0, 13), (1, 13), (2, 13), (3, 13), (4, 13), (5, 13), (6, 13), (7, 13), (8, 13), (9, 13), (10, 13), (11, 13), (12, 13), (0, 14), (1, 14), (2, 14), (3, 14), (4, 14), (5, 14), (6, 14), (7, 14), (8, 14), (9, 14), (10, 14), (11, 14), (12, 14), (10, 15)])
 (.seq
 (.reg [] [⟨some 24, .mov (.cst (.d (.int .i64 0))), none⟩,
 ⟨some 25, .mov (.cst (.d (.int .i64 0))), none⟩])
 (.seq
 (.reg [] [⟨some 26, .mov (.cst (.d (.slice 1 []))), none⟩,
 ⟨some 27, .mov (.cst (.d (.slice 1 []))), none⟩,
 ⟨some 28, .mov (.cst (.d (.slice 1 []))), none⟩])
 (.seq
 (.reg [] [⟨some 29, .mov (.cst (.d (.slice 4 []))), none⟩])
 rest)))))))))))

def ir6b (rest : ACode) : ACode :=
 (.seq
 (.seq
 (.reg [] [⟨some 122, .mov (.tmp 19), none⟩,
 ⟨some 123, .cmp .eql (.tmp 122) (.cst (.d (.int .i64 0))), none⟩])
 (.cond (.tmp 123)
 (.seq
 (.reg [] [⟨some 124, .mov (.tmp 0), none⟩,
 ⟨some 125, .call 64 [(.tmp 124)], none⟩,
 ⟨some 24, .mov (.tmp 125), none⟩])
 (.seq
 (.reg [] [⟨some 126, .mov (.tmp 24), none⟩,
 ⟨some 127, .cmp .lss (.tmp 126) (.cst (.d (.int .i64 0))), none⟩])
 (.cond (.tmp 127)
 (.reg [] [⟨some 24, .mov (.cst (.d (.int .i64 0))), none⟩,
 ⟨some 19, .mov (.cst (.d (.int .i64 7))), none⟩])
 .skip)))
 .skip))
 rest)

def ir6c (rest : ACode) : ACode :=
 (.seq
 (.seq
 (.reg [] [⟨some 128, .mov (.tmp 20), none⟩,
 ⟨some 129, .cmp .eql (.tmp 128) (.cst (.d (.int .i64 0))), none⟩])
 (.cond (.tmp 129)
 (.reg [] [⟨some 131, .mov (.tmp 0), none⟩,
 ⟨some 132, .ixp 3 1 (.tmp 5) (.cst (.d (.int .i64 0))), none⟩,
 ⟨some 133, .ld false 1 (.tmp 132), none⟩,
 ⟨some 134, .call 65 [(.tmp 131), (.tmp 133)], none⟩,
 ⟨some 130, .mov (.tmp 134), none⟩,
 ⟨some 135, .ext 0 (.tmp 130), none⟩,
 ⟨some 136, .ext 1 (.tmp 130), none⟩,
 ⟨some 26, .mov (.tmp 135), none⟩,
 ⟨some 29, .mov (.tmp 136), none⟩])
 .skip))
 rest)

def ir6d (rest : ACode) : ACode :=
 (.seq
 (.seq
 (.reg [] [⟨some 137, .mov (.tmp 21), none⟩,
 ⟨some 138, .cmp .eql (.tmp 137) (.cst (.d (.int .i64 0))), none⟩])
 (.cond (.tmp 138)
 (.reg [] [⟨some 139, .ixp 3 1 (.tmp 5) (.cst (.d (.int .i64 2))), none⟩,
 ⟨some 140, .ld false 1 (.tmp 139), none⟩,
 ⟨some 141, .arith .add .i64 (.tmp 140) (.cst (.d (.int .i64 3))), none⟩,
 ⟨some 25, .mov (.tmp 141), none⟩])
 .skip))
 rest)

def ir6e (rest : ACode) : ACode :=
 (.seq
 (.seq
 (.reg [] [⟨some 142, .mov (.tmp 22), none⟩,
 ⟨some 143, .cmp .eql (.tmp 142) (.cst (.d (.int .i64 0))), none⟩])
 (.cond (.tmp 143)
 (.reg [] [⟨some 144, .mov (.tmp 1), none⟩,
 ⟨some 145, .call 67 [(.tmp 144)], none⟩,
 ⟨some 146, .not (.tmp 145), none⟩,
 ⟨some 147, .call 66 [(.tmp 146), (.cst (.d (.int .i64 7)))], none⟩,
 ⟨some 22, .mov (.tmp 147), none⟩])
 .skip))
 rest)

def ir6f (rest : ACode) : ACode :=
 (.seq
 (.seq
 (.reg [] [⟨some 148, .mov (.tmp 22), none⟩,
 ⟨some 149, .cmp .eql (.tmp 148) (.cst (.d (.int .i64 0))), none⟩])
 (.cond (.tmp 149)
 (.reg [] [⟨some 150, .mov (.tmp 1), none⟩,
 ⟨some 151, .ixp 3 1 (.tmp 5) (.cst (.d (.int .i64 1))), none⟩,
 ⟨some 152, .ld false 1 (.tmp 151), none⟩,
 ⟨some 153, .ixp 3 1 (.tmp 5) (.cst (.d (.int .i64 0))), none⟩,
 ⟨some 154, .ld false 1 (.tmp 153), none⟩,
 ⟨some 155, .call 68 [(.tmp 150), (.tmp 152), (.tmp 154)], none⟩,
 ⟨some 27, .mov (.tmp 155), none⟩])
 .skip))
 rest)

def ir6g (rest : ACode) : ACode :=
 (.seq
 (.seq
 (.reg [] [⟨some 156, .mov (.tmp 23), none⟩,
 ⟨some 157, .cmp .eql (.tmp 156) (.cst (.d (.int .i64 0))), none⟩])
 (.cond (.tmp 157)
 (.reg [] [⟨some 158, .mov (.tmp 1), none⟩,
 ⟨some 159, .call 67 [(.tmp 158)], none⟩,
 ⟨some 160, .not (.tmp 159), none⟩,
 ⟨some 161, .call 66 [(.tmp 160), (.cst (.d (.int .i64 7)))], none⟩,
 ⟨some 23, .mov (.tmp 161), none⟩])
 .skip))
 rest)

def ir6h (rest : ACode) : ACode :=
 (.seq
 (.seq
 (.reg [] [⟨some 162, .mov (.tmp 23), none⟩,
 ⟨some 163, .cmp .eql (.tmp 162) (.cst (.d (.int .i64 0))), none⟩])
 (.cond (.tmp 163)
 (.reg [] [⟨some 164, .mov (.tmp 0), none⟩,
 ⟨some 165, .mov (.tmp 1), none⟩,
 ⟨some 166, .ixp 3 1 (.tmp 5) (.cst (.d (.int .i64 0))), none⟩,
 ⟨some 167, .ld false 1 (.tmp 166), none⟩,
 ⟨some 168, .call 69 [(.tmp 164), (.tmp 165), (.tmp 167)], none⟩,
 ⟨some 28, .mov (.tmp 168), none⟩])
 .skip))
 rest)

def ir6i : ACode :=
 (.seq
 (.reg [] [⟨some 169, .mov (.tmp 0), none⟩,
 ⟨some 170, .call 55 [(.tmp 169)], none⟩,
 ⟨some 171, .call 70 [(.tmp 170)], none⟩,
 ⟨some 172, .mov (.tmp 18), none⟩,
 ⟨some 173, .cmp .eql (.tmp 171) (.tmp 172), none⟩,
 ⟨some 174, .mov (.tmp 173), none⟩,
 ⟨some 175, .mov (.tmp 7), some (174, true)⟩,
 ⟨some 176, .mov (.tmp 24), some (174, true)⟩,
 ⟨some 177, .cmp .eql (.tmp 175) (.tmp 176), some (174, true)⟩,
 ⟨some 178, .pick (.tmp 174) (.tmp 177) (.cst (.d (.bool false))), none⟩,
 ⟨some 179, .mov (.tmp 178), none⟩,
 ⟨some 180, .mov (.tmp 8), some (179, true)⟩,
 ⟨some 181, .mov (.tmp 19), some (179, true)⟩,
 ⟨some 182, .cmp .eql (.tmp 180) (.tmp 181), some (179, true)⟩,
 ⟨some 183, .pick (.tmp 179) (.tmp 182) (.cst (.d (.bool false))), none⟩,
 ⟨some 184, .mov (.tmp 183), none⟩,
 ⟨some 185, .mov (.tmp 9), some (184, true)⟩,
 ⟨some 186, .mov (.tmp 26), some (184, true)⟩,
 ⟨some 187, .call 45 [(.tmp 185), (.tmp 186)], some (184, true)⟩,
 ⟨some 188, .pick (.tmp 184) (.tmp 187) (.cst (.d (.bool false))), none⟩,
 ⟨some 189, .mov (.tmp 188), none⟩,
 ⟨some 190, .mov (.tmp 10), some (189, true)⟩,
 ⟨some 191, .mov (.tmp 29), some (189, true)⟩,
 ⟨some 192, .call 71 [(.tmp 190), (.tmp 191)], some (189, true)⟩,
 ⟨some 193, .pick (.tmp 189) (.tmp 192) (.cst (.d (.bool false))), none⟩,
 ⟨some 194, .mov (.tmp 193), none⟩,
 ⟨some 195, .mov (.tmp 11), some (194, true)⟩,
 ⟨some 196, .mov (.tmp 20), some (194, true)⟩,
 ⟨some 197, .cmp .eql (.tmp 195) (.tmp 196), some (194, true)⟩,
 ⟨some 198, .pick (.tmp 194) (.tmp 197) (.cst (.d (.bool false))), none⟩,
 ⟨some 199, .mov (.tmp 198), none⟩,
 ⟨some 200, .mov (.tmp 12), some (199, true)⟩,
 ⟨some 201, .mov (.tmp 25), some (199, true)⟩,
 ⟨some 202, .cmp .eql (.tmp 200) (.tmp 201), some (199, true)⟩,
 ⟨some 203, .pick (.tmp 199) (.tmp 202) (.cst (.d (.bool false))), none⟩,
 ⟨some 204, .mov (.tmp 203), none⟩,
 ⟨some 205, .mov (.tmp 13), some (204, true)⟩,
 ⟨some 206, .mov (.tmp 21), some (204, true)⟩,
 ⟨some 207, .cmp .eql (.tmp 205) (.tmp 206), some (204, true)⟩,
 ⟨some 208, .pick (.tmp 204) (.tmp 207) (.cst (.d (.bool false))), none⟩,
 ⟨some 209, .mov (.tmp 208), none⟩,
 ⟨some 210, .mov (.tmp 14), some (209, true)⟩,
 ⟨some 211, .mov (.tmp 27), some (209, true)⟩,
 ⟨some 212, .call 45 [(.tmp 210), (.tmp 211)], some (209, true)⟩,
 ⟨some 213, .pick (.tmp 209) (.tmp 212) (.cst (.d (.bool false))), none⟩,
 ⟨some 214, .mov (.tmp 213), none⟩,
 ⟨some 215, .mov (.tmp 15), some (214, true)⟩,
 ⟨some 216, .mov (.tmp 22), some (214, true)⟩,
 ⟨some 217, .cmp .eql (.tmp 215) (.tmp 216), some (214, true)⟩,
 ⟨some 218, .pick (.tmp 214) (.tmp 217) (.cst (.d (.bool false))), none⟩,
 ⟨some 219, .mov (.tmp 218), none⟩,
 ⟨some 220, .mov (.tmp 16), some (219, true)⟩,
 ⟨some 221, .mov (.tmp 28), some (219, true)⟩,
 ⟨some 222, .call 45 [(.tmp 220), (.tmp 221)], some (219, true)⟩,
 ⟨some 223, .pick (.tmp 219) (.tmp 222) (.cst (.d (.bool false))), none⟩,
 ⟨some 224, .mov (.tmp 223), none⟩,
 ⟨some 225, .mov (.tmp 17), some (224, true)⟩,
 ⟨some 226, .mov (.tmp 23), some (224, true)⟩,
 ⟨some 227, .cmp .eql (.tmp 225) (.tmp 226), some (224, true)⟩,
 ⟨some 228, .pick (.tmp 224) (.tmp 227) (.cst (.d (.bool false))), none⟩,
 ⟨some 229, .mov (.tmp 228), none⟩,
 ⟨some 230, .call 12 [], some (229, true)⟩,
 ⟨some 231, .pick (.tmp 229) (.tmp 230) (.cst (.d (.bool false))), none⟩,
 ⟨some 6, .mov (.tmp 231), none⟩])
 .ret)

def ir6 : AFun := ⟨232, 8, [.tmp 6], (ir6a (.keep [0, 1, 5] [] (ir6r (.keep [0, 1, 5, 7, 8, 9, 10, 11, 12, 13, 14, 15, 16, 17, 18, 19, 20, 21, 22, 23, 24, 25, 26, 27, 28, 29] [1, 2, 3, 4, 5, 6, 7] (ir6b (.keep [0, 1, 5, 7, 8, 9, 10, 11, 12, 13, 14, 15, 16, 17, 18, 19, 20, 21, 22, 23, 24, 25, 26, 27, 28, 29] [] (ir6c (.keep [0, 1, 5, 7, 8, 9, 10, 11, 12, 13, 14, 15, 16, 17, 18, 19, 20, 21, 22, 23, 24, 25, 26, 27, 28, 29] [] (ir6d (.keep [0, 1, 5, 7, 8, 9, 10, 11, 12, 13, 14, 15, 16, 17, 18, 19, 20, 21, 22, 23, 24, 25, 26, 27, 28, 29] [] (ir6e (.keep [0, 1, 5, 7, 8, 9, 10, 11, 12, 13, 14, 15, 16, 17, 18, 19, 20, 21, 22, 23, 24, 25, 26, 27, 28, 29] [] (ir6f (.keep [0, 1, 5, 7, 8, 9, 10, 11, 12, 13, 14, 15, 16, 17, 18, 19, 20, 21, 22, 23, 24, 25, 26, 27, 28, 29] [] (ir6g (.keep [0, 1, 5, 7, 8, 9, 10, 11, 12, 13, 14, 15, 16, 17, 18, 19, 20, 21, 22, 23, 24, 25, 26, 27, 28, 29] [] (ir6h (.keep [0, 1, 5, 7, 8, 9, 10, 11, 12, 13, 14, 15, 16, 17, 18, 19, 20, 21, 22, 23, 24, 25, 26, 27, 28, 29] [] ir6i))))))))))))))))))⟩

theorem srvGo_len : ∀ (n : Nat) (l : List Stn), (srvGo n l).1.length ≤ n ∧ (srvGo n l).2.length = l.length
  | 0, l => ⟨Nat.le_refl _, rfl⟩
  | n + 1, l => by
    rw [srvGo]
    have h := srvGo_len n (aftF l (winF l))
    rw [aft_len] at h
    cases decide (winF l < 0)
    · exact ⟨Nat.succ_le_succ h.1, h.2⟩
    · exact ⟨Nat.zero_le _, rfl⟩
theorem opnGo_len (c : List Bool) (f n : Nat) : ∀ (m k : Nat) (acc : List Int), (opnGo c f n m k acc).length ≤ acc.length + m
  | 0, k, acc => Nat.le_refl _
  | m + 1, k, acc => by
    rw [opnGo]
    cases decide ((acc.length : Int) < (n : Int))
    · show acc.length ≤ _; omega
    · show (opnGo c f n m (k + 1) (bif cAt c (f + k) then acc ++ [((f + k : Nat) : Int)] else acc)).length ≤ _
      have h := opnGo_len c f n m (k + 1) (bif cAt c (f + k) then acc ++ [((f + k : Nat) : Int)] else acc)
      have h2 : (bif cAt c (f + k) then acc ++ [((f + k : Nat) : Int)] else acc).length ≤ acc.length + 1 := by
        cases cAt c (f + k)
        · exact Nat.le_succ _
        · show (acc ++ [_]).length ≤ _; rw [List.length_append]; exact Nat.le_refl _
      omega
theorem accGo_len (c : List Bool) : ∀ (m i : Nat) (l : List Stn), (accGo c m i l).length = m
  | 0, _, _ => rfl
  | m + 1, i, l => by rw [accGo, List.length_cons, accGo_len c m]

theorem srv_len (l : List Stn) (n : Int) (hl : l.length ≤ 1048576) : (srvP l n).1.length ≤ 1048576 ∧ (srvP l n).2.length ≤ 1048576 := by
  rcases Bool.eq_false_or_eq_true (srvE l n != 0) with h | h
  · have e : srvP l n = ([], []) := by unfold srvP; rw [h]; rfl
    rw [e]; exact ⟨Nat.zero_le _, Nat.zero_le _⟩
  · have h0 : srvE l n = 0 := by simpa using h
    have hn := within_ok (firstOf_zero h0 (within3 n 0 256) (by simp))
    have e : srvP l n = srvGo n.toNat l := by unfold srvP; rw [h]; rfl
    rw [e]
    have := srvGo_len n.toNat l
    omega
theorem opn_len (c : List Bool) (f n : Int) : (opnP c f n).length ≤ 1048576 := by
  rcases Bool.eq_false_or_eq_true (opnE c f n != 0) with h | h
  · have e : opnP c f n = [] := by unfold opnP; rw [h]; rfl
    rw [e]; exact Nat.zero_le _
  · have h0 : opnE c f n = 0 := by simpa using h
    have hcl := cyc_ok (firstOf_zero h0 (chkCyc c) (by simp))
    have hn := within_ok (firstOf_zero h0 (within3 n 0 256) (by simp))
    have e : opnP c f n = opnF c f.toNat n.toNat := by unfold opnP; rw [h]; rfl
    rw [e]
    have h1 : n.toNat * c.length ≤ 256 * 16 := Nat.mul_le_mul (by omega) hcl.2
    have h2 := opnGo_len c f.toNat n.toNat (n.toNat * c.length) 0 []
    unfold opnF
    simp only [List.length_nil] at h2
    omega
theorem acc_len (l : List Stn) (c : List Bool) (n : Int) : (accP l c n).length ≤ 1048576 := by
  rcases Bool.eq_false_or_eq_true (accE l c n != 0) with h | h
  · have e : accP l c n = [] := by unfold accP; rw [h]; rfl
    rw [e]; exact Nat.zero_le _
  · have h0 : accE l c n = 0 := by simpa using h
    have hn := within_ok (firstOf_zero h0 (within3 n 0 256) (by simp))
    have e : accP l c n = accGo c n.toNat 0 l := by unfold accP; rw [h]; rfl
    rw [e, accGo_len]
    omega

set_option maxHeartbeats 4000000 in
theorem key6 (l : List Stn) (c : List Bool) (n0 n1 n2 : Int) (hl : l.length ≤ 1048576) (hc0 : c.length ≤ 1048576)
    (k : ACode) (hc : vc Tryz.prog 232 k ⟨[(0, .d (.slice 4 (stns l))), (1, .d (.slice 1 (blsD c))), (5, .ptr 0 0), (7, .d (.int .i64 (winP l))), (8, .d (.int .i64 (winE l))), (9, .d (.slice 1 (ints (srvP l n0).1))), (10, .d (.slice 4 (stns (srvP l n0).2))), (11, .d (.int .i64 (srvE l n0))), (12, .d (.int .i64 (bndP n2))), (13, .d (.int .i64 (bndE n2))), (14, .d (.slice 1 (ints (opnP c n1 n0)))), (15, .d (.int .i64 (opnE c n1 n0))), (16, .d (.slice 1 (ints (accP l c n0)))), (17, .d (.int .i64 (accE l c n0))), (18, .d (.int .i64 (chkStns l))), (19, .d (.int .i64 (chkStns l))), (20, .d (.int .i64 (srvE l n0))), (21, .d (.int .i64 (bndE n2))), (22, .d (.int .i64 (opn0 c n1 n0))), (23, .d (.int .i64 (acc0 l c n0))), (24, .d (.int .i64 0)), (25, .d (.int .i64 0)), (26, .d (.slice 1 [])), (27, .d (.slice 1 [])), (28, .d (.slice 1 [])), (29, .d (.slice 4 []))], [.cbox [.int .i64 n0, .int .i64 n1, .int .i64 n2], .none, .none, .none, .none, .none, .none, .none]⟩ (postF ir6 [.bool true])) :
    vc Tryz.prog 232 (ir6r (.keep [0, 1, 5, 7, 8, 9, 10, 11, 12, 13, 14, 15, 16, 17, 18, 19, 20, 21, 22, 23, 24, 25, 26, 27, 28, 29] [1, 2, 3, 4, 5, 6, 7] k)) ⟨[(0, .d (.slice 4 (stns l))), (1, .d (.slice 1 (blsD c))), (5, .ptr 0 0)], [.cbox [.int .i64 n0, .int .i64 n1, .int .i64 n2], .none, .none, .none, .none, .none, .none, .none]⟩ (postF ir6 [.bool true]) := by
  have hbl := bls_len c
  have s1 : (0 + (blsD c).length) * 1 ≤ 2 ^ 47 := by omega
  have s2 : 0 + (blsD c).length ≤ 2 ^ 47 := by omega
  have h55 := c55 l hl
  refine Exists.intro _ (And.intro h55 ?_)
  refine Exists.intro _ (And.intro (c54 l) ?_)
  refine Exists.intro _ (And.intro h55 ?_)
  refine And.intro ⟨by decide, by decide⟩ ?_
  refine Exists.intro _ (And.intro (c56 l n0) ?_)
  repeat refine And.intro rfl ?_
  refine And.intro ⟨by decide, by decide⟩ ?_
  refine Exists.intro _ (And.intro (c57 n2) ?_)
  repeat refine And.intro rfl ?_
  refine And.intro ⟨rfl, rfl, rfl, s1, s2⟩ ?_
  refine And.intro ⟨by decide, by decide⟩ ?_
  refine And.intro ⟨by decide, by decide⟩ ?_
  repeat refine And.intro rfl ?_
  refine Exists.intro _ (And.intro (c58 c n1 n0 hc0) ?_)
  refine Exists.intro _ (And.intro h55 ?_)
  repeat refine And.intro rfl ?_
  refine And.intro ⟨rfl, rfl, rfl, s1, s2⟩ ?_
  refine And.intro ⟨by decide, by decide⟩ ?_
  repeat refine And.intro rfl ?_
  refine Exists.intro _ (And.intro (c59 l c n0 hc0) ?_)
  repeat refine And.intro rfl ?_
  refine Exists.intro _ (And.intro (c60 l) ?_)
  refine And.intro ⟨by decide, by decide⟩ ?_
  refine Exists.intro _ (And.intro (c61 n0) ?_)
  repeat refine And.intro rfl ?_
  refine Exists.intro _ (And.intro (c37 [chkStns l, within3 n0 0 256] (by simp)) ?_)
  refine And.intro ⟨by decide, by decide⟩ ?_
  refine Exists.intro _ (And.intro (c62 n2 1 8) ?_)
  repeat refine And.intro rfl ?_
  refine Exists.intro _ (And.intro (c63 c) ?_)
  refine And.intro ⟨by decide, by decide⟩ ?_
  refine Exists.intro _ (And.intro (c62 n1 0 999999999) ?_)
  refine And.intro ⟨by decide, by decide⟩ ?_
  refine Exists.intro _ (And.intro (c61 n0) ?_)
  repeat refine And.intro rfl ?_
  refine Exists.intro _ (And.intro (c37 [chkCyc c, within3 n1 0 999999999, within3 n0 0 256] (by simp)) ?_)
  refine Exists.intro _ (And.intro (c63 c) ?_)
  refine And.intro ⟨by decide, by decide⟩ ?_
  refine Exists.intro _ (And.intro (c61 n0) ?_)
  repeat refine And.intro rfl ?_
  refine Exists.intro _ (And.intro (c37 [chkStns l, chkCyc c, within3 n0 0 256] (by simp)) ?_)
  repeat refine And.intro rfl ?_
  exact hc
set_option maxHeartbeats 4000000 in
theorem a6 (l : List Stn) (c : List Bool) (n0 n1 n2 : Int) (hl : l.length ≤ 1048576) (hc0 : c.length ≤ 1048576)
    (k : ACode) (hc : vc Tryz.prog 232 k ⟨[(0, .d (.slice 4 (stns l))), (1, .d (.slice 1 (blsD c))), (5, .ptr 0 0), (7, .d (.int .i64 (winP l))), (8, .d (.int .i64 (winE l))), (9, .d (.slice 1 (ints (srvP l n0).1))), (10, .d (.slice 4 (stns (srvP l n0).2))), (11, .d (.int .i64 (srvE l n0))), (12, .d (.int .i64 (bndP n2))), (13, .d (.int .i64 (bndE n2))), (14, .d (.slice 1 (ints (opnP c n1 n0)))), (15, .d (.int .i64 (opnE c n1 n0))), (16, .d (.slice 1 (ints (accP l c n0)))), (17, .d (.int .i64 (accE l c n0))), (18, .d (.int .i64 (chkStns l))), (19, .d (.int .i64 (chkStns l))), (20, .d (.int .i64 (srvE l n0))), (21, .d (.int .i64 (bndE n2))), (22, .d (.int .i64 (opn0 c n1 n0))), (23, .d (.int .i64 (acc0 l c n0))), (24, .d (.int .i64 0)), (25, .d (.int .i64 0)), (26, .d (.slice 1 [])), (27, .d (.slice 1 [])), (28, .d (.slice 1 [])), (29, .d (.slice 4 []))], [.cbox [.int .i64 n0, .int .i64 n1, .int .i64 n2], .none, .none, .none, .none, .none, .none, .none]⟩ (postF ir6 [.bool true])) :
    vc Tryz.prog 232 (ir6a (.keep [0, 1, 5] [] (ir6r (.keep [0, 1, 5, 7, 8, 9, 10, 11, 12, 13, 14, 15, 16, 17, 18, 19, 20, 21, 22, 23, 24, 25, 26, 27, 28, 29] [1, 2, 3, 4, 5, 6, 7] k)))) (startS ir6 [.d (.slice 4 (stns l)), .d (.slice 1 (blsD c)), .d (.agg [.int .i64 n0, .int .i64 n1, .int .i64 n2])]) (postF ir6 [.bool true]) := by
  have hbl := bls_len c
  have d3 : ∀ k : Nat, k < 3 → (0 ≤ ((k : Nat) : Int) ∧ ((k : Nat) : Int) < (3 : Nat)) := fun k h => by omega
  refine Exists.intro _ (And.intro (c53 l hl) ?_)
  refine brk_intro ?_ ?_
  · intro _
    repeat refine And.intro rfl ?_
    refine Exists.intro _ (And.intro c12 ?_)
    exact rfl
  intro _
  repeat refine And.intro rfl ?_
  refine brk_intro ?_ ?_
  · intro _
    repeat refine And.intro rfl ?_
    refine Exists.intro _ (And.intro c12 ?_)
    exact rfl
  intro _
  refine And.intro ⟨by decide, by decide⟩ ?_
  repeat refine And.intro rfl ?_
  have key : vc Tryz.prog 232 (ir6r (.keep [0, 1, 5, 7, 8, 9, 10, 11, 12, 13, 14, 15, 16, 17, 18, 19, 20, 21, 22, 23, 24, 25, 26, 27, 28, 29] [1, 2, 3, 4, 5, 6, 7] k)) ⟨[(0, .d (.slice 4 (stns l))), (1, .d (.slice 1 (blsD c))), (5, .ptr 0 0)], [.cbox [.int .i64 n0, .int .i64 n1, .int .i64 n2], .none, .none, .none, .none, .none, .none, .none]⟩ (postF ir6 [.bool true]) := key6 l c n0 n1 n2 hl hc0 k hc
  refine brk_intro ?_ ?_
  · intro _
    refine And.intro ⟨by decide, by decide⟩ ?_
    repeat refine And.intro rfl ?_
    refine brk_intro ?_ ?_
    · intro _
      repeat refine And.intro rfl ?_
      refine Exists.intro _ (And.intro c12 ?_)
      exact rfl
    · intro _
      exact key
  · intro _
    repeat refine And.intro rfl ?_
    exact key

set_option maxHeartbeats 4000000 in
theorem b6 (l : List Stn) (c : List Bool) (n0 n1 n2 : Int) 
    (k : ACode) (hc : vc Tryz.prog 232 k ⟨[(0, .d (.slice 4 (stns l))), (1, .d (.slice 1 (blsD c))), (5, .ptr 0 0), (7, .d (.int .i64 (winP l))), (8, .d (.int .i64 (winE l))), (9, .d (.slice 1 (ints (srvP l n0).1))), (10, .d (.slice 4 (stns (srvP l n0).2))), (11, .d (.int .i64 (srvE l n0))), (12, .d (.int .i64 (bndP n2))), (13, .d (.int .i64 (bndE n2))), (14, .d (.slice 1 (ints (opnP c n1 n0)))), (15, .d (.int .i64 (opnE c n1 n0))), (16, .d (.slice 1 (ints (accP l c n0)))), (17, .d (.int .i64 (accE l c n0))), (18, .d (.int .i64 (chkStns l))), (19, .d (.int .i64 (winE l))), (20, .d (.int .i64 (srvE l n0))), (21, .d (.int .i64 (bndE n2))), (22, .d (.int .i64 (opn0 c n1 n0))), (23, .d (.int .i64 (acc0 l c n0))), (24, .d (.int .i64 (winP l))), (25, .d (.int .i64 0)), (26, .d (.slice 1 [])), (27, .d (.slice 1 [])), (28, .d (.slice 1 [])), (29, .d (.slice 4 []))], [.cbox [.int .i64 n0, .int .i64 n1, .int .i64 n2], .none, .none, .none, .none, .none, .none, .none]⟩ (postF ir6 [.bool true])) :
    vc Tryz.prog 232 (ir6b (.keep [0, 1, 5, 7, 8, 9, 10, 11, 12, 13, 14, 15, 16, 17, 18, 19, 20, 21, 22, 23, 24, 25, 26, 27, 28, 29] [] k)) ⟨[(0, .d (.slice 4 (stns l))), (1, .d (.slice 1 (blsD c))), (5, .ptr 0 0), (7, .d (.int .i64 (winP l))), (8, .d (.int .i64 (winE l))), (9, .d (.slice 1 (ints (srvP l n0).1))), (10, .d (.slice 4 (stns (srvP l n0).2))), (11, .d (.int .i64 (srvE l n0))), (12, .d (.int .i64 (bndP n2))), (13, .d (.int .i64 (bndE n2))), (14, .d (.slice 1 (ints (opnP c n1 n0)))), (15, .d (.int .i64 (opnE c n1 n0))), (16, .d (.slice 1 (ints (accP l c n0)))), (17, .d (.int .i64 (accE l c n0))), (18, .d (.int .i64 (chkStns l))), (19, .d (.int .i64 (chkStns l))), (20, .d (.int .i64 (srvE l n0))), (21, .d (.int .i64 (bndE n2))), (22, .d (.int .i64 (opn0 c n1 n0))), (23, .d (.int .i64 (acc0 l c n0))), (24, .d (.int .i64 0)), (25, .d (.int .i64 0)), (26, .d (.slice 1 [])), (27, .d (.slice 1 [])), (28, .d (.slice 1 [])), (29, .d (.slice 4 []))], [.cbox [.int .i64 n0, .int .i64 n1, .int .i64 n2], .none, .none, .none, .none, .none, .none, .none]⟩ (postF ir6 [.bool true]) := by
  refine And.intro rfl ?_
  refine brk_intro ?_ ?_
  · intro h
    have h : (chkStns l == 0) = true := h
    obtain ⟨ho, h8⟩ := chkStns_ok (eq_of_beq h)
    refine Exists.intro _ (And.intro (c64 l (by omega) ho) ?_)
    refine And.intro rfl ?_
    refine brk_intro ?_ ?_
    · intro h2
      have h2 : decide (winF l < 0) = true := h2
      rw [show winP l = 0 by unfold winP; rw [eq_ne h, h2]; rfl, show winE l = 7 by unfold winE; rw [eq_ne h, h2]; rfl] at hc ⊢
      exact hc
    · intro h2
      have h2 : decide (winF l < 0) = false := h2
      rw [show winP l = winF l by unfold winP; rw [eq_ne h, h2]; rfl, show winE l = 0 by unfold winE; rw [eq_ne h, h2]; rfl] at hc ⊢
      have e0 : chkStns l = 0 := eq_of_beq h
      rw [e0] at hc ⊢
      exact hc
  · intro h
    have h : (chkStns l == 0) = false := h
    rw [show winP l = 0 by unfold winP; rw [ne_ne h]; rfl, show winE l = chkStns l by unfold winE; rw [ne_ne h]; rfl] at hc ⊢
    exact hc

set_option maxHeartbeats 4000000 in
theorem c6s (l : List Stn) (c : List Bool) (n0 n1 n2 : Int) 
    (k : ACode) (hc : vc Tryz.prog 232 k ⟨[(0, .d (.slice 4 (stns l))), (1, .d (.slice 1 (blsD c))), (5, .ptr 0 0), (7, .d (.int .i64 (winP l))), (8, .d (.int .i64 (winE l))), (9, .d (.slice 1 (ints (srvP l n0).1))), (10, .d (.slice 4 (stns (srvP l n0).2))), (11, .d (.int .i64 (srvE l n0))), (12, .d (.int .i64 (bndP n2))), (13, .d (.int .i64 (bndE n2))), (14, .d (.slice 1 (ints (opnP c n1 n0)))), (15, .d (.int .i64 (opnE c n1 n0))), (16, .d (.slice 1 (ints (accP l c n0)))), (17, .d (.int .i64 (accE l c n0))), (18, .d (.int .i64 (chkStns l))), (19, .d (.int .i64 (winE l))), (20, .d (.int .i64 (srvE l n0))), (21, .d (.int .i64 (bndE n2))), (22, .d (.int .i64 (opn0 c n1 n0))), (23, .d (.int .i64 (acc0 l c n0))), (24, .d (.int .i64 (winP l))), (25, .d (.int .i64 0)), (26, .d (.slice 1 (ints (srvP l n0).1))), (27, .d (.slice 1 [])), (28, .d (.slice 1 [])), (29, .d (.slice 4 (stns (srvP l n0).2)))], [.cbox [.int .i64 n0, .int .i64 n1, .int .i64 n2], .none, .none, .none, .none, .none, .none, .none]⟩ (postF ir6 [.bool true])) :
    vc Tryz.prog 232 (ir6c (.keep [0, 1, 5, 7, 8, 9, 10, 11, 12, 13, 14, 15, 16, 17, 18, 19, 20, 21, 22, 23, 24, 25, 26, 27, 28, 29] [] k)) ⟨[(0, .d (.slice 4 (stns l))), (1, .d (.slice 1 (blsD c))), (5, .ptr 0 0), (7, .d (.int .i64 (winP l))), (8, .d (.int .i64 (winE l))), (9, .d (.slice 1 (ints (srvP l n0).1))), (10, .d (.slice 4 (stns (srvP l n0).2))), (11, .d (.int .i64 (srvE l n0))), (12, .d (.int .i64 (bndP n2))), (13, .d (.int .i64 (bndE n2))), (14, .d (.slice 1 (ints (opnP c n1 n0)))), (15, .d (.int .i64 (opnE c n1 n0))), (16, .d (.slice 1 (ints (accP l c n0)))), (17, .d (.int .i64 (accE l c n0))), (18, .d (.int .i64 (chkStns l))), (19, .d (.int .i64 (winE l))), (20, .d (.int .i64 (srvE l n0))), (21, .d (.int .i64 (bndE n2))), (22, .d (.int .i64 (opn0 c n1 n0))), (23, .d (.int .i64 (acc0 l c n0))), (24, .d (.int .i64 (winP l))), (25, .d (.int .i64 0)), (26, .d (.slice 1 [])), (27, .d (.slice 1 [])), (28, .d (.slice 1 [])), (29, .d (.slice 4 []))], [.cbox [.int .i64 n0, .int .i64 n1, .int .i64 n2], .none, .none, .none, .none, .none, .none, .none]⟩ (postF ir6 [.bool true]) := by
  refine And.intro rfl ?_
  refine brk_intro ?_ ?_
  · intro h
    have h : (srvE l n0 == 0) = true := h
    refine And.intro ⟨by decide, by decide⟩ ?_
    refine Exists.intro _ (And.intro (c65p l n0 (eq_of_beq h)) ?_)
    exact hc
  · intro h
    have h : (srvE l n0 == 0) = false := h
    have e : srvP l n0 = ([], []) := by unfold srvP; rw [ne_ne h]; rfl
    rw [e] at hc ⊢
    exact hc

set_option maxHeartbeats 4000000 in
theorem d6 (l : List Stn) (c : List Bool) (n0 n1 n2 : Int) 
    (k : ACode) (hc : vc Tryz.prog 232 k ⟨[(0, .d (.slice 4 (stns l))), (1, .d (.slice 1 (blsD c))), (5, .ptr 0 0), (7, .d (.int .i64 (winP l))), (8, .d (.int .i64 (winE l))), (9, .d (.slice 1 (ints (srvP l n0).1))), (10, .d (.slice 4 (stns (srvP l n0).2))), (11, .d (.int .i64 (srvE l n0))), (12, .d (.int .i64 (bndP n2))), (13, .d (.int .i64 (bndE n2))), (14, .d (.slice 1 (ints (opnP c n1 n0)))), (15, .d (.int .i64 (opnE c n1 n0))), (16, .d (.slice 1 (ints (accP l c n0)))), (17, .d (.int .i64 (accE l c n0))), (18, .d (.int .i64 (chkStns l))), (19, .d (.int .i64 (winE l))), (20, .d (.int .i64 (srvE l n0))), (21, .d (.int .i64 (bndE n2))), (22, .d (.int .i64 (opn0 c n1 n0))), (23, .d (.int .i64 (acc0 l c n0))), (24, .d (.int .i64 (winP l))), (25, .d (.int .i64 (bndP n2))), (26, .d (.slice 1 (ints (srvP l n0).1))), (27, .d (.slice 1 [])), (28, .d (.slice 1 [])), (29, .d (.slice 4 (stns (srvP l n0).2)))], [.cbox [.int .i64 n0, .int .i64 n1, .int .i64 n2], .none, .none, .none, .none, .none, .none, .none]⟩ (postF ir6 [.bool true])) :
    vc Tryz.prog 232 (ir6d (.keep [0, 1, 5, 7, 8, 9, 10, 11, 12, 13, 14, 15, 16, 17, 18, 19, 20, 21, 22, 23, 24, 25, 26, 27, 28, 29] [] k)) ⟨[(0, .d (.slice 4 (stns l))), (1, .d (.slice 1 (blsD c))), (5, .ptr 0 0), (7, .d (.int .i64 (winP l))), (8, .d (.int .i64 (winE l))), (9, .d (.slice 1 (ints (srvP l n0).1))), (10, .d (.slice 4 (stns (srvP l n0).2))), (11, .d (.int .i64 (srvE l n0))), (12, .d (.int .i64 (bndP n2))), (13, .d (.int .i64 (bndE n2))), (14, .d (.slice 1 (ints (opnP c n1 n0)))), (15, .d (.int .i64 (opnE c n1 n0))), (16, .d (.slice 1 (ints (accP l c n0)))), (17, .d (.int .i64 (accE l c n0))), (18, .d (.int .i64 (chkStns l))), (19, .d (.int .i64 (winE l))), (20, .d (.int .i64 (srvE l n0))), (21, .d (.int .i64 (bndE n2))), (22, .d (.int .i64 (opn0 c n1 n0))), (23, .d (.int .i64 (acc0 l c n0))), (24, .d (.int .i64 (winP l))), (25, .d (.int .i64 0)), (26, .d (.slice 1 (ints (srvP l n0).1))), (27, .d (.slice 1 [])), (28, .d (.slice 1 [])), (29, .d (.slice 4 (stns (srvP l n0).2)))], [.cbox [.int .i64 n0, .int .i64 n1, .int .i64 n2], .none, .none, .none, .none, .none, .none, .none]⟩ (postF ir6 [.bool true]) := by
  refine And.intro rfl ?_
  refine brk_intro ?_ ?_
  · intro h
    have h : (bndE n2 == 0) = true := h
    have hr := within_ok (n := n2) (eq_of_beq h)
    refine And.intro ⟨by decide, by decide⟩ ?_
    refine ar_add (by omega) ?_
    have e : bndP n2 = n2 + 3 := by unfold bndP; rw [show (within3 n2 1 8 != 0) = false from eq_ne h]; rfl
    rw [e] at hc ⊢
    exact hc
  · intro h
    have h : (bndE n2 == 0) = false := h
    have e : bndP n2 = 0 := by unfold bndP; rw [show (within3 n2 1 8 != 0) = true from ne_ne h]; rfl
    rw [e] at hc ⊢
    exact hc

set_option maxHeartbeats 4000000 in
theorem e6 (l : List Stn) (c : List Bool) (n0 n1 n2 : Int) (hc0 : c.length ≤ 1048576)
    (k : ACode) (hc : vc Tryz.prog 232 k ⟨[(0, .d (.slice 4 (stns l))), (1, .d (.slice 1 (blsD c))), (5, .ptr 0 0), (7, .d (.int .i64 (winP l))), (8, .d (.int .i64 (winE l))), (9, .d (.slice 1 (ints (srvP l n0).1))), (10, .d (.slice 4 (stns (srvP l n0).2))), (11, .d (.int .i64 (srvE l n0))), (12, .d (.int .i64 (bndP n2))), (13, .d (.int .i64 (bndE n2))), (14, .d (.slice 1 (ints (opnP c n1 n0)))), (15, .d (.int .i64 (opnE c n1 n0))), (16, .d (.slice 1 (ints (accP l c n0)))), (17, .d (.int .i64 (accE l c n0))), (18, .d (.int .i64 (chkStns l))), (19, .d (.int .i64 (winE l))), (20, .d (.int .i64 (srvE l n0))), (21, .d (.int .i64 (bndE n2))), (22, .d (.int .i64 (opnE c n1 n0))), (23, .d (.int .i64 (acc0 l c n0))), (24, .d (.int .i64 (winP l))), (25, .d (.int .i64 (bndP n2))), (26, .d (.slice 1 (ints (srvP l n0).1))), (27, .d (.slice 1 [])), (28, .d (.slice 1 [])), (29, .d (.slice 4 (stns (srvP l n0).2)))], [.cbox [.int .i64 n0, .int .i64 n1, .int .i64 n2], .none, .none, .none, .none, .none, .none, .none]⟩ (postF ir6 [.bool true])) :
    vc Tryz.prog 232 (ir6e (.keep [0, 1, 5, 7, 8, 9, 10, 11, 12, 13, 14, 15, 16, 17, 18, 19, 20, 21, 22, 23, 24, 25, 26, 27, 28, 29] [] k)) ⟨[(0, .d (.slice 4 (stns l))), (1, .d (.slice 1 (blsD c))), (5, .ptr 0 0), (7, .d (.int .i64 (winP l))), (8, .d (.int .i64 (winE l))), (9, .d (.slice 1 (ints (srvP l n0).1))), (10, .d (.slice 4 (stns (srvP l n0).2))), (11, .d (.int .i64 (srvE l n0))), (12, .d (.int .i64 (bndP n2))), (13, .d (.int .i64 (bndE n2))), (14, .d (.slice 1 (ints (opnP c n1 n0)))), (15, .d (.int .i64 (opnE c n1 n0))), (16, .d (.slice 1 (ints (accP l c n0)))), (17, .d (.int .i64 (accE l c n0))), (18, .d (.int .i64 (chkStns l))), (19, .d (.int .i64 (winE l))), (20, .d (.int .i64 (srvE l n0))), (21, .d (.int .i64 (bndE n2))), (22, .d (.int .i64 (opn0 c n1 n0))), (23, .d (.int .i64 (acc0 l c n0))), (24, .d (.int .i64 (winP l))), (25, .d (.int .i64 (bndP n2))), (26, .d (.slice 1 (ints (srvP l n0).1))), (27, .d (.slice 1 [])), (28, .d (.slice 1 [])), (29, .d (.slice 4 (stns (srvP l n0).2)))], [.cbox [.int .i64 n0, .int .i64 n1, .int .i64 n2], .none, .none, .none, .none, .none, .none, .none]⟩ (postF ir6 [.bool true]) := by
  have hE := opnE_eq c n1 n0
  refine And.intro rfl ?_
  refine brk_intro ?_ ?_
  · intro h
    have h : (opn0 c n1 n0 == 0) = true := h
    rw [h] at hE
    have hE : opnE c n1 n0 = (bif !(c.contains true) then 7 else 0) := hE
    refine Exists.intro _ (And.intro (c67 c hc0) ?_)
    refine Exists.intro _ (And.intro (c66 _ _) ?_)
    rw [hE] at hc ⊢
    exact hc
  · intro h
    have h : (opn0 c n1 n0 == 0) = false := h
    rw [h] at hE
    have hE : opnE c n1 n0 = opn0 c n1 n0 := hE
    rw [hE] at hc ⊢
    exact hc

set_option maxHeartbeats 4000000 in
theorem f6 (l : List Stn) (c : List Bool) (n0 n1 n2 : Int) 
    (k : ACode) (hc : vc Tryz.prog 232 k ⟨[(0, .d (.slice 4 (stns l))), (1, .d (.slice 1 (blsD c))), (5, .ptr 0 0), (7, .d (.int .i64 (winP l))), (8, .d (.int .i64 (winE l))), (9, .d (.slice 1 (ints (srvP l n0).1))), (10, .d (.slice 4 (stns (srvP l n0).2))), (11, .d (.int .i64 (srvE l n0))), (12, .d (.int .i64 (bndP n2))), (13, .d (.int .i64 (bndE n2))), (14, .d (.slice 1 (ints (opnP c n1 n0)))), (15, .d (.int .i64 (opnE c n1 n0))), (16, .d (.slice 1 (ints (accP l c n0)))), (17, .d (.int .i64 (accE l c n0))), (18, .d (.int .i64 (chkStns l))), (19, .d (.int .i64 (winE l))), (20, .d (.int .i64 (srvE l n0))), (21, .d (.int .i64 (bndE n2))), (22, .d (.int .i64 (opnE c n1 n0))), (23, .d (.int .i64 (acc0 l c n0))), (24, .d (.int .i64 (winP l))), (25, .d (.int .i64 (bndP n2))), (26, .d (.slice 1 (ints (srvP l n0).1))), (27, .d (.slice 1 (ints (opnP c n1 n0)))), (28, .d (.slice 1 [])), (29, .d (.slice 4 (stns (srvP l n0).2)))], [.cbox [.int .i64 n0, .int .i64 n1, .int .i64 n2], .none, .none, .none, .none, .none, .none, .none]⟩ (postF ir6 [.bool true])) :
    vc Tryz.prog 232 (ir6f (.keep [0, 1, 5, 7, 8, 9, 10, 11, 12, 13, 14, 15, 16, 17, 18, 19, 20, 21, 22, 23, 24, 25, 26, 27, 28, 29] [] k)) ⟨[(0, .d (.slice 4 (stns l))), (1, .d (.slice 1 (blsD c))), (5, .ptr 0 0), (7, .d (.int .i64 (winP l))), (8, .d (.int .i64 (winE l))), (9, .d (.slice 1 (ints (srvP l n0).1))), (10, .d (.slice 4 (stns (srvP l n0).2))), (11, .d (.int .i64 (srvE l n0))), (12, .d (.int .i64 (bndP n2))), (13, .d (.int .i64 (bndE n2))), (14, .d (.slice 1 (ints (opnP c n1 n0)))), (15, .d (.int .i64 (opnE c n1 n0))), (16, .d (.slice 1 (ints (accP l c n0)))), (17, .d (.int .i64 (accE l c n0))), (18, .d (.int .i64 (chkStns l))), (19, .d (.int .i64 (winE l))), (20, .d (.int .i64 (srvE l n0))), (21, .d (.int .i64 (bndE n2))), (22, .d (.int .i64 (opnE c n1 n0))), (23, .d (.int .i64 (acc0 l c n0))), (24, .d (.int .i64 (winP l))), (25, .d (.int .i64 (bndP n2))), (26, .d (.slice 1 (ints (srvP l n0).1))), (27, .d (.slice 1 [])), (28, .d (.slice 1 [])), (29, .d (.slice 4 (stns (srvP l n0).2)))], [.cbox [.int .i64 n0, .int .i64 n1, .int .i64 n2], .none, .none, .none, .none, .none, .none, .none]⟩ (postF ir6 [.bool true]) := by
  refine And.intro rfl ?_
  refine brk_intro ?_ ?_
  · intro h
    have h : (opnE c n1 n0 == 0) = true := h
    refine And.intro ⟨by decide, by decide⟩ ?_
    refine And.intro ⟨by decide, by decide⟩ ?_
    refine Exists.intro _ (And.intro (c68p c n1 n0 (eq_of_beq h)) ?_)
    exact hc
  · intro h
    have h : (opnE c n1 n0 == 0) = false := h
    have e : opnP c n1 n0 = [] := by unfold opnP; rw [ne_ne h]; rfl
    rw [e] at hc ⊢
    exact hc

set_option maxHeartbeats 4000000 in
theorem g6 (l : List Stn) (c : List Bool) (n0 n1 n2 : Int) (hc0 : c.length ≤ 1048576)
    (k : ACode) (hc : vc Tryz.prog 232 k ⟨[(0, .d (.slice 4 (stns l))), (1, .d (.slice 1 (blsD c))), (5, .ptr 0 0), (7, .d (.int .i64 (winP l))), (8, .d (.int .i64 (winE l))), (9, .d (.slice 1 (ints (srvP l n0).1))), (10, .d (.slice 4 (stns (srvP l n0).2))), (11, .d (.int .i64 (srvE l n0))), (12, .d (.int .i64 (bndP n2))), (13, .d (.int .i64 (bndE n2))), (14, .d (.slice 1 (ints (opnP c n1 n0)))), (15, .d (.int .i64 (opnE c n1 n0))), (16, .d (.slice 1 (ints (accP l c n0)))), (17, .d (.int .i64 (accE l c n0))), (18, .d (.int .i64 (chkStns l))), (19, .d (.int .i64 (winE l))), (20, .d (.int .i64 (srvE l n0))), (21, .d (.int .i64 (bndE n2))), (22, .d (.int .i64 (opnE c n1 n0))), (23, .d (.int .i64 (accE l c n0))), (24, .d (.int .i64 (winP l))), (25, .d (.int .i64 (bndP n2))), (26, .d (.slice 1 (ints (srvP l n0).1))), (27, .d (.slice 1 (ints (opnP c n1 n0)))), (28, .d (.slice 1 [])), (29, .d (.slice 4 (stns (srvP l n0).2)))], [.cbox [.int .i64 n0, .int .i64 n1, .int .i64 n2], .none, .none, .none, .none, .none, .none, .none]⟩ (postF ir6 [.bool true])) :
    vc Tryz.prog 232 (ir6g (.keep [0, 1, 5, 7, 8, 9, 10, 11, 12, 13, 14, 15, 16, 17, 18, 19, 20, 21, 22, 23, 24, 25, 26, 27, 28, 29] [] k)) ⟨[(0, .d (.slice 4 (stns l))), (1, .d (.slice 1 (blsD c))), (5, .ptr 0 0), (7, .d (.int .i64 (winP l))), (8, .d (.int .i64 (winE l))), (9, .d (.slice 1 (ints (srvP l n0).1))), (10, .d (.slice 4 (stns (srvP l n0).2))), (11, .d (.int .i64 (srvE l n0))), (12, .d (.int .i64 (bndP n2))), (13, .d (.int .i64 (bndE n2))), (14, .d (.slice 1 (ints (opnP c n1 n0)))), (15, .d (.int .i64 (opnE c n1 n0))), (16, .d (.slice 1 (ints (accP l c n0)))), (17, .d (.int .i64 (accE l c n0))), (18, .d (.int .i64 (chkStns l))), (19, .d (.int .i64 (winE l))), (20, .d (.int .i64 (srvE l n0))), (21, .d (.int .i64 (bndE n2))), (22, .d (.int .i64 (opnE c n1 n0))), (23, .d (.int .i64 (acc0 l c n0))), (24, .d (.int .i64 (winP l))), (25, .d (.int .i64 (bndP n2))), (26, .d (.slice 1 (ints (srvP l n0).1))), (27, .d (.slice 1 (ints (opnP c n1 n0)))), (28, .d (.slice 1 [])), (29, .d (.slice 4 (stns (srvP l n0).2)))], [.cbox [.int .i64 n0, .int .i64 n1, .int .i64 n2], .none, .none, .none, .none, .none, .none, .none]⟩ (postF ir6 [.bool true]) := by
  have hE := accE_eq l c n0
  refine And.intro rfl ?_
  refine brk_intro ?_ ?_
  · intro h
    have h : (acc0 l c n0 == 0) = true := h
    rw [h] at hE
    have hE : accE l c n0 = (bif !(c.contains true) then 7 else 0) := hE
    refine Exists.intro _ (And.intro (c67 c hc0) ?_)
    refine Exists.intro _ (And.intro (c66 _ _) ?_)
    rw [hE] at hc ⊢
    exact hc
  · intro h
    have h : (acc0 l c n0 == 0) = false := h
    rw [h] at hE
    have hE : accE l c n0 = acc0 l c n0 := hE
    rw [hE] at hc ⊢
    exact hc

set_option maxHeartbeats 4000000 in
theorem h6 (l : List Stn) (c : List Bool) (n0 n1 n2 : Int) 
    (k : ACode) (hc : vc Tryz.prog 232 k ⟨[(0, .d (.slice 4 (stns l))), (1, .d (.slice 1 (blsD c))), (5, .ptr 0 0), (7, .d (.int .i64 (winP l))), (8, .d (.int .i64 (winE l))), (9, .d (.slice 1 (ints (srvP l n0).1))), (10, .d (.slice 4 (stns (srvP l n0).2))), (11, .d (.int .i64 (srvE l n0))), (12, .d (.int .i64 (bndP n2))), (13, .d (.int .i64 (bndE n2))), (14, .d (.slice 1 (ints (opnP c n1 n0)))), (15, .d (.int .i64 (opnE c n1 n0))), (16, .d (.slice 1 (ints (accP l c n0)))), (17, .d (.int .i64 (accE l c n0))), (18, .d (.int .i64 (chkStns l))), (19, .d (.int .i64 (winE l))), (20, .d (.int .i64 (srvE l n0))), (21, .d (.int .i64 (bndE n2))), (22, .d (.int .i64 (opnE c n1 n0))), (23, .d (.int .i64 (accE l c n0))), (24, .d (.int .i64 (winP l))), (25, .d (.int .i64 (bndP n2))), (26, .d (.slice 1 (ints (srvP l n0).1))), (27, .d (.slice 1 (ints (opnP c n1 n0)))), (28, .d (.slice 1 (ints (accP l c n0)))), (29, .d (.slice 4 (stns (srvP l n0).2)))], [.cbox [.int .i64 n0, .int .i64 n1, .int .i64 n2], .none, .none, .none, .none, .none, .none, .none]⟩ (postF ir6 [.bool true])) :
    vc Tryz.prog 232 (ir6h (.keep [0, 1, 5, 7, 8, 9, 10, 11, 12, 13, 14, 15, 16, 17, 18, 19, 20, 21, 22, 23, 24, 25, 26, 27, 28, 29] [] k)) ⟨[(0, .d (.slice 4 (stns l))), (1, .d (.slice 1 (blsD c))), (5, .ptr 0 0), (7, .d (.int .i64 (winP l))), (8, .d (.int .i64 (winE l))), (9, .d (.slice 1 (ints (srvP l n0).1))), (10, .d (.slice 4 (stns (srvP l n0).2))), (11, .d (.int .i64 (srvE l n0))), (12, .d (.int .i64 (bndP n2))), (13, .d (.int .i64 (bndE n2))), (14, .d (.slice 1 (ints (opnP c n1 n0)))), (15, .d (.int .i64 (opnE c n1 n0))), (16, .d (.slice 1 (ints (accP l c n0)))), (17, .d (.int .i64 (accE l c n0))), (18, .d (.int .i64 (chkStns l))), (19, .d (.int .i64 (winE l))), (20, .d (.int .i64 (srvE l n0))), (21, .d (.int .i64 (bndE n2))), (22, .d (.int .i64 (opnE c n1 n0))), (23, .d (.int .i64 (accE l c n0))), (24, .d (.int .i64 (winP l))), (25, .d (.int .i64 (bndP n2))), (26, .d (.slice 1 (ints (srvP l n0).1))), (27, .d (.slice 1 (ints (opnP c n1 n0)))), (28, .d (.slice 1 [])), (29, .d (.slice 4 (stns (srvP l n0).2)))], [.cbox [.int .i64 n0, .int .i64 n1, .int .i64 n2], .none, .none, .none, .none, .none, .none, .none]⟩ (postF ir6 [.bool true]) := by
  refine And.intro rfl ?_
  refine brk_intro ?_ ?_
  · intro h
    have h : (accE l c n0 == 0) = true := h
    refine And.intro ⟨by decide, by decide⟩ ?_
    refine Exists.intro _ (And.intro (c69p l c n0 (eq_of_beq h)) ?_)
    exact hc
  · intro h
    have h : (accE l c n0 == 0) = false := h
    have e : accP l c n0 = [] := by unfold accP; rw [ne_ne h]; rfl
    rw [e] at hc ⊢
    exact hc

set_option maxHeartbeats 4000000 in
theorem i6 (l : List Stn) (c : List Bool) (n0 n1 n2 : Int) (hl : l.length ≤ 1048576) (h1 : (srvP l n0).1.length ≤ 1048576) (h2 : (srvP l n0).2.length ≤ 1048576) (h3 : (opnP c n1 n0).length ≤ 1048576) (h4 : (accP l c n0).length ≤ 1048576) : vc Tryz.prog 232 ir6i ⟨[(0, .d (.slice 4 (stns l))), (1, .d (.slice 1 (blsD c))), (5, .ptr 0 0), (7, .d (.int .i64 (winP l))), (8, .d (.int .i64 (winE l))), (9, .d (.slice 1 (ints (srvP l n0).1))), (10, .d (.slice 4 (stns (srvP l n0).2))), (11, .d (.int .i64 (srvE l n0))), (12, .d (.int .i64 (bndP n2))), (13, .d (.int .i64 (bndE n2))), (14, .d (.slice 1 (ints (opnP c n1 n0)))), (15, .d (.int .i64 (opnE c n1 n0))), (16, .d (.slice 1 (ints (accP l c n0)))), (17, .d (.int .i64 (accE l c n0))), (18, .d (.int .i64 (chkStns l))), (19, .d (.int .i64 (winE l))), (20, .d (.int .i64 (srvE l n0))), (21, .d (.int .i64 (bndE n2))), (22, .d (.int .i64 (opnE c n1 n0))), (23, .d (.int .i64 (accE l c n0))), (24, .d (.int .i64 (winP l))), (25, .d (.int .i64 (bndP n2))), (26, .d (.slice 1 (ints (srvP l n0).1))), (27, .d (.slice 1 (ints (opnP c n1 n0)))), (28, .d (.slice 1 (ints (accP l c n0)))), (29, .d (.slice 4 (stns (srvP l n0).2)))], [.cbox [.int .i64 n0, .int .i64 n1, .int .i64 n2], .none, .none, .none, .none, .none, .none, .none]⟩ (postF ir6 [.bool true]) := by
  have e : ∀ x : Int, (x == x) = true := fun x => by simp
  have el : ∀ x : List Int, (x == x) = true := fun x => by simp
  refine Exists.intro _ (And.intro (c55 l hl) ?_)
  refine Exists.intro _ (And.intro (c70 l) ?_)
  refine And.intro rfl ?_
  refine brk_t (e _) ?_
  refine And.intro rfl ?_
  refine brk_t (e _) ?_
  refine And.intro rfl ?_
  refine brk_t (e _) ?_
  refine Exists.intro _ (And.intro (c45 (srvP l n0).1 (srvP l n0).1 h1) ?_)
  refine brk_t (el _) ?_
  refine Exists.intro _ (And.intro (c71 (srvP l n0).2 (srvP l n0).2 h2) ?_)
  refine brk_t (sameSts_refl _) ?_
  refine And.intro rfl ?_
  refine brk_t (e _) ?_
  refine And.intro rfl ?_
  refine brk_t (e _) ?_
  refine And.intro rfl ?_
  refine brk_t (e _) ?_
  refine Exists.intro _ (And.intro (c45 (opnP c n1 n0) (opnP c n1 n0) h3) ?_)
  refine brk_t (el _) ?_
  refine And.intro rfl ?_
  refine brk_t (e _) ?_
  refine Exists.intro _ (And.intro (c45 (accP l c n0) (accP l c n0) h4) ?_)
  refine brk_t (el _) ?_
  refine And.intro rfl ?_
  refine brk_t (e _) ?_
  refine Exists.intro _ (And.intro c12 ?_)
  exact rfl

theorem c6 (l : List Stn) (c : List Bool) (n0 n1 n2 : Int) (hl : l.length ≤ 1048576) (hc0 : c.length ≤ 1048576) :
    CallDet Tryz.prog 6 [.d (.slice 4 (stns l)), .d (.slice 1 (blsD c)), .d (.agg [.int .i64 n0, .int .i64 n1, .int .i64 n2])] [.bool true] := by
  refine call_of_vc (x := ir6) (by kernel_rfl) rfl ?_
  have hs := srv_len l n0 hl
  exact a6 l c n0 n1 n2 hl hc0 _ (b6 l c n0 n1 n2 _ (c6s l c n0 n1 n2 _ (d6 l c n0 n1 n2 _ (e6 l c n0 n1 n2 hc0 _ (f6 l c n0 n1 n2 _ (g6 l c n0 n1 n2 hc0 _ (h6 l c n0 n1 n2 _ (i6 l c n0 n1 n2 hl hs.1 hs.2 (opn_len c n1 n0) (acc_len l c n0)))))))))
end Vc

