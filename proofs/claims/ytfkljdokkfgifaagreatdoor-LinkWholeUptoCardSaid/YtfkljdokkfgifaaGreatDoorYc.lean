import Derived.Test.YtfkljdokkfgifaaGreatDoorYb
set_option linter.unusedSectionVars false
set_option linter.unusedVariables false
set_option linter.unusedSimpArgs false
set_option maxRecDepth 10000
namespace Vc
open Go Go.Proofs
def tk (n : Int) (b : List UInt8) (S P kk k : Nat) : List Data := ((List.range k).map fun i => cutFr n b S (tix P kk i)).map Fr.d
theorem tk_succ (n : Int) (b : List UInt8) (S P kk k : Nat) : tk n b S P kk (k + 1) = tk n b S P kk k ++ [(cutFr n b S (tix P kk k)).d] := by
  simp [tk, List.range_succ]
theorem tk_len (n : Int) (b : List UInt8) (S P kk k : Nat) : (tk n b S P kk k).length = k := by simp [tk]
theorem tix_int {P kk k : Nat} (hP : 1 ≤ P) (hk : k < P) : ((P : Int) - 1 - (k : Int) + (kk : Int)) % (P : Int) = ((tix P kk k : Nat) : Int) := by
  unfold tix
  rw [show ((P : Int) - 1 - (k : Int) + (kk : Int)) = ((P - 1 - k + kk : Nat) : Int) by omega]; rfl
set_option maxHeartbeats 8000000 in
theorem c7w (b : List UInt8) (n0 n1 n2 n3 : UInt8) (hw : Wh n0 n1 b) (c : ACode) (hc : vc Tryz.prog 254 c ⟨[(0, .d (.slice 1 (b.map byt))), (3, .ptr 0 0), (17, .sl 7 (frs (turnedF n0.toNat b (wS n1) (wP n1 b) (n2.toNat % wP n1 b))).length)], [.cbox [byt n0, byt n1, byt n2, byt n3], .none, .none, .none, .none, .none, .none, .row 46 4 (frs (turnedF n0.toNat b (wS n1) (wP n1 b) (n2.toNat % wP n1 b))) false, .none, .none, .none, .none, .none, .none, .none, .none, .none, .none, .none, .none, .none, .none, .none]⟩ (postF ir7 [.bool true])) :
    vc Tryz.prog 254 (ir7c (.keep [0, 3, 4, 17] [] c)) ⟨[(0, .d (.slice 1 (b.map byt))), (3, .ptr 0 0), (7, .d (.slice 4 (frs (wl n0 n1 b))))], [.cbox [byt n0, byt n1, byt n2, byt n3], .none, .none, .none, .none, .none, .none, .none, .none, .none, .none, .none, .none, .none, .none, .none, .none, .none, .none, .none, .none, .none, .none]⟩ (postF ir7 [.bool true]) := by
  have hL : (frs (wl n0 n1 b)).length = wP n1 b := by rw [frs_len, wl_len]
  have h1 := hw.h1
  have h2 := hw.h30
  have h5 := n2.toNat_lt
  have hkk : (n2.toNat : Int) % ((frs (wl n0 n1 b)).length : Int) = ((n2.toNat % wP n1 b : Nat) : Int) := by rw [hL]; rfl
  have hkl : n2.toNat % wP n1 b < wP n1 b := Nat.mod_lt _ (by omega)
  refine And.intro (And.intro (by decide) (by decide)) ?_
  refine Exists.intro _ (And.intro (i64_u8 n2) ?_)
  repeat refine And.intro rfl ?_
  refine ar_rem (by omega) ?_
  refine loop_st (fun a : Nat × List Data => ⟨[(0, .d (.slice 1 (b.map byt))), (3, .ptr 0 0), (7, .d (.slice 4 (frs (wl n0 n1 b)))), (16, .d (.int .i64 ((n2.toNat : Int) % ((frs (wl n0 n1 b)).length : Int)))), (17, .sl 7 a.2.length), (164, .d (.int .i64 ((frs (wl n0 n1 b)).length : Int))), (165, .d (.int .i64 (a.1 : Int)))], [.cbox [byt n0, byt n1, byt n2, byt n3], .none, .none, .none, .none, .none, .none, .row 46 4 a.2 false, .none, .none, .none, .none, .none, .none, .none, .none, .none, .none, .none, .none, .none, .none, .none]⟩)
    (fun a => a.2 = tk n0.toNat b (wS n1) (wP n1 b) (n2.toNat % wP n1 b) a.1 ∧ a.1 ≤ wP n1 b) (fun a => wP n1 b - a.1) (0, []) rfl ⟨rfl, by omega⟩ ?_
  rintro ⟨k, acc⟩ ⟨hI, hle⟩
  have hI : acc = tk n0.toNat b (wS n1) (wP n1 b) (n2.toNat % wP n1 b) k := hI
  have hle : k ≤ wP n1 b := hle
  have hal : acc.length = k := by rw [hI, tk_len]
  refine And.intro rfl ?_
  refine brk_intro ?_ ?_
  · intro h
    have h : (k : Int) < ((frs (wl n0 n1 b)).length : Int) := of_decide_eq_true h
    have hk : k < wP n1 b := by omega
    have hix : (((frs (wl n0 n1 b)).length : Int) - 1 - (k : Int) + ((n2.toNat : Int) % ((frs (wl n0 n1 b)).length : Int))) % ((frs (wl n0 n1 b)).length : Int) = ((tix (wP n1 b) (n2.toNat % wP n1 b) k : Nat) : Int) := by
      rw [hkk, hL]; exact tix_int h1 hk
    have htl : tix (wP n1 b) (n2.toNat % wP n1 b) k < wP n1 b := tix_lt hkl
    have hd : (frs (wl n0 n1 b))[((((frs (wl n0 n1 b)).length : Int) - 1 - (k : Int) + ((n2.toNat : Int) % ((frs (wl n0 n1 b)).length : Int))) % ((frs (wl n0 n1 b)).length : Int)).toNat]? = some (cutFr n0.toNat b (wS n1) (tix (wP n1 b) (n2.toNat % wP n1 b) k)).d := by
      rw [hix]; simp [frs, wl_at htl]
    have hA1 : -9223372036854775808 ≤ ((frs (wl n0 n1 b)).length : Int) - 1 ∧ ((frs (wl n0 n1 b)).length : Int) - 1 ≤ 9223372036854775807 := by omega
    have hA2 : -9223372036854775808 ≤ ((frs (wl n0 n1 b)).length : Int) - 1 - (k : Int) ∧ ((frs (wl n0 n1 b)).length : Int) - 1 - (k : Int) ≤ 9223372036854775807 := by omega
    have hA3 : 0 ≤ ((frs (wl n0 n1 b)).length : Int) - 1 - (k : Int) + ((n2.toNat : Int) % ((frs (wl n0 n1 b)).length : Int)) ∧ ((frs (wl n0 n1 b)).length : Int) - 1 - (k : Int) + ((n2.toNat : Int) % ((frs (wl n0 n1 b)).length : Int)) ≤ 9223372036854775807 := by rw [hkk]; omega
    refine ar_sub hA1 ?_
    repeat refine And.intro rfl ?_
    refine ar_sub hA2 ?_
    repeat refine And.intro rfl ?_
    refine ar_add ⟨by have := hA3.1; exact Int.le_trans (by decide) this, hA3.2⟩ ?_
    repeat refine And.intro rfl ?_
    refine ar_rem ⟨hA3.1, by omega⟩ ?_
    repeat refine And.intro rfl ?_
    refine ix_at hd (by rw [hix]; omega) ?_
    repeat refine And.intro rfl ?_
    refine And.intro ⟨rfl, rfl, rfl, ?_, ?_⟩ ?_
    · show (acc.length + 1) * 48 ≤ 2 ^ 47
      omega
    · show acc.length + 1 ≤ 2 ^ 47
      omega
    repeat refine And.intro rfl ?_
    refine ar_add (by omega) ?_
    refine ⟨(k + 1, acc ++ [(cutFr n0.toNat b (wS n1) (tix (wP n1 b) (n2.toNat % wP n1 b) k)).d]), ⟨⟨?_, by show k + 1 ≤ wP n1 b; omega⟩, by show wP n1 b - (k + 1) < wP n1 b - k; omega⟩, rfl⟩
    show acc ++ [(cutFr n0.toNat b (wS n1) (tix (wP n1 b) (n2.toNat % wP n1 b) k)).d] = tk n0.toNat b (wS n1) (wP n1 b) (n2.toNat % wP n1 b) (k + 1)
    rw [tk_succ, hI]
  · intro h
    have h : ¬ (k : Int) < ((frs (wl n0 n1 b)).length : Int) := of_decide_eq_false h
    have hk : k = wP n1 b := by omega
    have e : acc = frs (turnedF n0.toNat b (wS n1) (wP n1 b) (n2.toNat % wP n1 b)) := by rw [hI, hk]; rfl
    subst e
    exact hc
end Vc

set_option maxRecDepth 10000
namespace Vc
open Go Go.Proofs
theorem wdd (b : List UInt8) (n0 n1 n2 n3 : UInt8) (hw : Wh n0 n1 b) : (cutFr n0.toNat b (wS n1) (tix (wP n1 b) (n2.toNat % wP n1 b) (n3.toNat % wP n1 b))) ∈ (turnedF n0.toNat b (wS n1) (wP n1 b) (n2.toNat % wP n1 b)) :=
  List.mem_map.2 ⟨n3.toNat % wP n1 b, List.mem_range.2 (Nat.mod_lt _ (by have := hw.h1; omega)), rfl⟩
theorem wk2 (b : List UInt8) (n0 n1 n2 n3 : UInt8) (hw : Wh n0 n1 b) : n2.toNat % wP n1 b < wP n1 b := Nat.mod_lt _ (by have := hw.h1; omega)
theorem wtl (b : List UInt8) (n0 n1 n2 n3 : UInt8) (hw : Wh n0 n1 b) : ∀ f ∈ (turnedF n0.toNat b (wS n1) (wP n1 b) (n2.toNat % wP n1 b)), f.b.length ≤ 1048576 := fun f hf => by
  obtain ⟨j, _, rfl⟩ := turned_cut (wk2 b n0 n1 n2 n3 hw) f hf
  have := piece_le b (wS n1) j
  have := hw.hS
  show (piece b (wS n1) j).length ≤ _
  omega
theorem wdj (b : List UInt8) (n0 n1 n2 n3 : UInt8) (hw : Wh n0 n1 b) : joinL ((turnedF n0.toNat b (wS n1) (wP n1 b) (n2.toNat % wP n1 b)) ++ [(cutFr n0.toNat b (wS n1) (tix (wP n1 b) (n2.toNat % wP n1 b) (n3.toNat % wP n1 b)))]) = (b, 0) := by
  have h1 := hw.h1
  have h30 := hw.h30
  have hk := wk2 b n0 n1 n2 n3 hw
  refine join_whole hw.hn hw.hS hw.hP h1 (by omega) (by simp [turned_len]; omega) (fun f hf => ?_) (fun q hq => ?_) hw.hc
  · rcases List.mem_append.1 hf with h | h
    · exact turned_cut hk f h
    · rw [List.mem_singleton.1 h]; exact turned_cut hk _ (wdd b n0 n1 n2 n3 hw)
  · obtain ⟨f, h1, h2⟩ := turned_all (n := n0.toNat) (b := b) (S := wS n1) hk hq
    exact ⟨f, List.mem_append_left _ h1, h2⟩
theorem wd14 (b : List UInt8) (n0 n1 n2 n3 : UInt8) (hw : Wh n0 n1 b) : CallDet Tryz.prog 14 [.d (.slice 4 (frs ((turnedF n0.toNat b (wS n1) (wP n1 b) (n2.toNat % wP n1 b)) ++ [(cutFr n0.toNat b (wS n1) (tix (wP n1 b) (n2.toNat % wP n1 b) (n3.toNat % wP n1 b)))])))] [.slice 1 (b.map byt), .int .i64 0] := by
  have h := c14 ((turnedF n0.toNat b (wS n1) (wP n1 b) (n2.toNat % wP n1 b)) ++ [(cutFr n0.toNat b (wS n1) (tix (wP n1 b) (n2.toNat % wP n1 b) (n3.toNat % wP n1 b)))]) (by have := hw.h30; simp [turned_len]; omega)
  rw [wdj b n0 n1 n2 n3 hw] at h
  exact h
theorem wd15 (b : List UInt8) (n0 n1 n2 n3 : UInt8) (hw : Wh n0 n1 b) : CallDet Tryz.prog 15 [.d (.slice 4 ([] ++ frs (turnedF n0.toNat b (wS n1) (wP n1 b) (n2.toNat % wP n1 b)) ++ [(cutFr n0.toNat b (wS n1) (tix (wP n1 b) (n2.toNat % wP n1 b) (n3.toNat % wP n1 b))).d]))] [.slice 4 (frs ((turnedF n0.toNat b (wS n1) (wP n1 b) (n2.toNat % wP n1 b)) ++ [(cutFr n0.toNat b (wS n1) (tix (wP n1 b) (n2.toNat % wP n1 b) (n3.toNat % wP n1 b)))]))] := by
  have e : [] ++ frs (turnedF n0.toNat b (wS n1) (wP n1 b) (n2.toNat % wP n1 b)) ++ [(cutFr n0.toNat b (wS n1) (tix (wP n1 b) (n2.toNat % wP n1 b) (n3.toNat % wP n1 b))).d] = frs ((turnedF n0.toNat b (wS n1) (wP n1 b) (n2.toNat % wP n1 b)) ++ [(cutFr n0.toNat b (wS n1) (tix (wP n1 b) (n2.toNat % wP n1 b) (n3.toNat % wP n1 b)))]) := by simp [frs]
  rw [e]
  refine c15 _ (by have := hw.h30; simp [turned_len]; omega) (fun f hf => ?_)
  rcases List.mem_append.1 hf with h | h
  · exact wtl b n0 n1 n2 n3 hw f h
  · rw [List.mem_singleton.1 h]; exact wtl b n0 n1 n2 n3 hw _ (wdd b n0 n1 n2 n3 hw)
theorem wdt (b : List UInt8) (n0 n1 n2 n3 : UInt8) (hw : Wh n0 n1 b) : (frs (turnedF n0.toNat b (wS n1) (wP n1 b) (n2.toNat % wP n1 b)))[((n3.toNat : Int) % ((frs (turnedF n0.toNat b (wS n1) (wP n1 b) (n2.toNat % wP n1 b))).length : Int)).toNat]? = some (cutFr n0.toNat b (wS n1) (tix (wP n1 b) (n2.toNat % wP n1 b) (n3.toNat % wP n1 b))).d := by
  have h1 := hw.h1
  have hx : n3.toNat % wP n1 b < wP n1 b := Nat.mod_lt _ (by omega)
  rw [frs_len, turned_len]
  rw [show ((n3.toNat : Int) % (wP n1 b : Int)).toNat = n3.toNat % wP n1 b by rw [show ((n3.toNat : Int) % (wP n1 b : Int)) = ((n3.toNat % wP n1 b : Nat) : Int) from rfl]; rfl]
  simp [frs, turnedF, hx]
set_option maxHeartbeats 8000000 in
theorem d7 (b : List UInt8) (n0 n1 n2 n3 : UInt8) (hw : Wh n0 n1 b) (c : ACode) (hc : vc Tryz.prog 254 c ⟨[(3, .ptr 0 0), (17, .sl 7 (frs (turnedF n0.toNat b (wS n1) (wP n1 b) (n2.toNat % wP n1 b))).length), (19, .ptr 8 0)], [.cbox [byt n0, byt n1, byt n2, byt n3], .none, .none, .none, .none, .none, .none, .row 46 4 (frs (turnedF n0.toNat b (wS n1) (wP n1 b) (n2.toNat % wP n1 b))) false, .box [.d (.int .i64 (cutFr n0.toNat b (wS n1) (tix (wP n1 b) (n2.toNat % wP n1 b) (n3.toNat % wP n1 b))).m), .d (.int .i64 (cutFr n0.toNat b (wS n1) (tix (wP n1 b) (n2.toNat % wP n1 b) (n3.toNat % wP n1 b))).p), .d (.int .i64 (cutFr n0.toNat b (wS n1) (tix (wP n1 b) (n2.toNat % wP n1 b) (n3.toNat % wP n1 b))).n), .d (.slice 1 ((cutFr n0.toNat b (wS n1) (tix (wP n1 b) (n2.toNat % wP n1 b) (n3.toNat % wP n1 b))).b.map byt))], .none, .none, .none, .none, .none, .none, .none, .none, .none, .none, .none, .none, .none, .none]⟩ (postF ir7 [.bool true])) :
    vc Tryz.prog 254 (ir7d (.keep [3, 4, 17, 19] [9, 10, 11, 12] c)) ⟨[(0, .d (.slice 1 (b.map byt))), (3, .ptr 0 0), (17, .sl 7 (frs (turnedF n0.toNat b (wS n1) (wP n1 b) (n2.toNat % wP n1 b))).length)], [.cbox [byt n0, byt n1, byt n2, byt n3], .none, .none, .none, .none, .none, .none, .row 46 4 (frs (turnedF n0.toNat b (wS n1) (wP n1 b) (n2.toNat % wP n1 b))) false, .none, .none, .none, .none, .none, .none, .none, .none, .none, .none, .none, .none, .none, .none, .none]⟩ (postF ir7 [.bool true]) := by
  have hL : (frs (turnedF n0.toNat b (wS n1) (wP n1 b) (n2.toNat % wP n1 b))).length = wP n1 b := by rw [frs_len, turned_len]
  have h1 := hw.h1
  have h2 := hw.h30
  have h5 := n3.toNat_lt
  have hd := wdt b n0 n1 n2 n3 hw
  have hbb : (!(b == b)) = false := by simp
  repeat refine And.intro rfl ?_
  refine And.intro (And.intro (by decide) (by decide)) ?_
  refine Exists.intro _ (And.intro (i64_u8 n3) ?_)
  repeat refine And.intro rfl ?_
  refine ar_rem (by omega) ?_
  repeat refine And.intro rfl ?_
  refine And.intro ⟨rfl, rfl, ?_, ?_⟩ ?_
  · exact Int.emod_nonneg _ (by omega)
  · exact Int.emod_lt_of_pos _ (by omega)
  repeat refine And.intro rfl ?_
  refine Exists.intro _ (And.intro hd ?_)
  repeat refine And.intro rfl ?_
  refine And.intro ⟨rfl, rfl, rfl, ?_, ?_⟩ ?_
  · show (0 + (frs (turnedF n0.toNat b (wS n1) (wP n1 b) (n2.toNat % wP n1 b))).length) * 48 ≤ 2 ^ 47
    omega
  · show 0 + (frs (turnedF n0.toNat b (wS n1) (wP n1 b) (n2.toNat % wP n1 b))).length ≤ 2 ^ 47
    omega
  repeat refine And.intro rfl ?_
  refine And.intro ⟨rfl, rfl, rfl, ?_, ?_⟩ ?_
  · show (([] ++ frs (turnedF n0.toNat b (wS n1) (wP n1 b) (n2.toNat % wP n1 b))).length + 1) * 48 ≤ 2 ^ 47
    rw [List.nil_append]; omega
  · show ([] ++ frs (turnedF n0.toNat b (wS n1) (wP n1 b) (n2.toNat % wP n1 b))).length + 1 ≤ 2 ^ 47
    rw [List.nil_append]; omega
  repeat refine And.intro rfl ?_
  refine Exists.intro _ (And.intro (wd15 b n0 n1 n2 n3 hw) ?_)
  repeat refine And.intro rfl ?_
  refine Exists.intro _ (And.intro (wd14 b n0 n1 n2 n3 hw) ?_)
  repeat refine And.intro rfl ?_
  refine Exists.intro _ (And.intro (c24 b b) ?_)
  repeat refine And.intro rfl ?_
  refine brk_f hbb ?_
  exact hc
end Vc

set_option maxRecDepth 10000
namespace Vc
open Go Go.Proofs
theorem wej (b : List UInt8) (n0 n1 n2 n3 : UInt8) (hw : Wh n0 n1 b) (h : 1 < wP n1 b) : joinL ((turnedF n0.toNat b (wS n1) (wP n1 b) (n2.toNat % wP n1 b)).drop 1) = ([], 16) := by
  have h30 := hw.h30
  have hk := wk2 b n0 n1 n2 n3 hw
  refine join_short (q := tix (wP n1 b) (n2.toNat % wP n1 b) 0) hw.hn hw.hS hw.hP (by omega) (by rw [List.length_drop, turned_len]; omega) (by rw [List.length_drop, turned_len]; omega) (fun f hf => (turned_tail hk f hf).1) (tix_lt hk) (fun f hf => (turned_tail hk f hf).2)
theorem drop_frs (l : List Fr) : ((frs l).take ((frs l).length : Int).toNat).drop (1 : Int).toNat = frs (l.drop 1) := by
  rw [List.take_of_length_le (by omega)]
  show (l.map Fr.d).drop 1 = (l.drop 1).map Fr.d
  rw [List.map_drop]
theorem we15 (b : List UInt8) (n0 n1 n2 n3 : UInt8) (hw : Wh n0 n1 b) : CallDet Tryz.prog 15 [.d (.slice 4 (((frs (turnedF n0.toNat b (wS n1) (wP n1 b) (n2.toNat % wP n1 b))).take ((frs (turnedF n0.toNat b (wS n1) (wP n1 b) (n2.toNat % wP n1 b))).length : Int).toNat).drop (1 : Int).toNat))] [.slice 4 (frs ((turnedF n0.toNat b (wS n1) (wP n1 b) (n2.toNat % wP n1 b)).drop 1))] := by
  rw [drop_frs]
  exact c15 _ (by have := hw.h30; simp [turned_len]; omega) (fun f hf => wtl b n0 n1 n2 n3 hw f (List.mem_of_mem_drop hf))
theorem we14 (b : List UInt8) (n0 n1 n2 n3 : UInt8) (hw : Wh n0 n1 b) (h : 1 < wP n1 b) : CallDet Tryz.prog 14 [.d (.slice 4 (frs ((turnedF n0.toNat b (wS n1) (wP n1 b) (n2.toNat % wP n1 b)).drop 1)))] [.slice 1 [], .int .i64 16] := by
  have h2 := c14 ((turnedF n0.toNat b (wS n1) (wP n1 b) (n2.toNat % wP n1 b)).drop 1) (by have := hw.h30; simp [turned_len]; omega)
  rw [wej b n0 n1 n2 n3 hw h] at h2
  exact h2
set_option maxHeartbeats 8000000 in
theorem e7 (b : List UInt8) (n0 n1 n2 n3 : UInt8) (hw : Wh n0 n1 b) (c : ACode) (hc : ∀ z : Bool, vc Tryz.prog 254 c ⟨[(3, .ptr 0 0), (17, .sl 7 (frs (turnedF n0.toNat b (wS n1) (wP n1 b) (n2.toNat % wP n1 b))).length), (19, .ptr 8 0)], [.cbox [byt n0, byt n1, byt n2, byt n3], .none, .none, .none, .none, .none, .none, .row 46 4 (frs (turnedF n0.toNat b (wS n1) (wP n1 b) (n2.toNat % wP n1 b))) z, .box [.d (.int .i64 (cutFr n0.toNat b (wS n1) (tix (wP n1 b) (n2.toNat % wP n1 b) (n3.toNat % wP n1 b))).m), .d (.int .i64 (cutFr n0.toNat b (wS n1) (tix (wP n1 b) (n2.toNat % wP n1 b) (n3.toNat % wP n1 b))).p), .d (.int .i64 (cutFr n0.toNat b (wS n1) (tix (wP n1 b) (n2.toNat % wP n1 b) (n3.toNat % wP n1 b))).n), .d (.slice 1 ((cutFr n0.toNat b (wS n1) (tix (wP n1 b) (n2.toNat % wP n1 b) (n3.toNat % wP n1 b))).b.map byt))], .none, .none, .none, .none, .none, .none, .none, .none, .none, .none, .none, .none, .none, .none]⟩ (postF ir7 [.bool true])) :
    vc Tryz.prog 254 (ir7e (.keep [3, 4, 17, 19] [9, 10, 11, 12] c)) ⟨[(3, .ptr 0 0), (17, .sl 7 (frs (turnedF n0.toNat b (wS n1) (wP n1 b) (n2.toNat % wP n1 b))).length), (19, .ptr 8 0)], [.cbox [byt n0, byt n1, byt n2, byt n3], .none, .none, .none, .none, .none, .none, .row 46 4 (frs (turnedF n0.toNat b (wS n1) (wP n1 b) (n2.toNat % wP n1 b))) false, .box [.d (.int .i64 (cutFr n0.toNat b (wS n1) (tix (wP n1 b) (n2.toNat % wP n1 b) (n3.toNat % wP n1 b))).m), .d (.int .i64 (cutFr n0.toNat b (wS n1) (tix (wP n1 b) (n2.toNat % wP n1 b) (n3.toNat % wP n1 b))).p), .d (.int .i64 (cutFr n0.toNat b (wS n1) (tix (wP n1 b) (n2.toNat % wP n1 b) (n3.toNat % wP n1 b))).n), .d (.slice 1 ((cutFr n0.toNat b (wS n1) (tix (wP n1 b) (n2.toNat % wP n1 b) (n3.toNat % wP n1 b))).b.map byt))], .none, .none, .none, .none, .none, .none, .none, .none, .none, .none, .none, .none, .none, .none]⟩ (postF ir7 [.bool true]) := by
  have hL : (frs (turnedF n0.toNat b (wS n1) (wP n1 b) (n2.toNat % wP n1 b))).length = wP n1 b := by rw [frs_len, turned_len]
  have h1 := hw.h1
  have h2 := hw.h30
  repeat refine And.intro rfl ?_
  refine brk_intro ?_ ?_
  · intro h
    have h : (1 : Int) < ((frs (turnedF n0.toNat b (wS n1) (wP n1 b) (n2.toNat % wP n1 b))).length : Int) := of_decide_eq_true h
    repeat refine And.intro rfl ?_
    refine And.intro ⟨rfl, rfl, by decide, by omega, by omega⟩ ?_
    refine Exists.intro _ (And.intro (we15 b n0 n1 n2 n3 hw) ?_)
    refine Exists.intro _ (And.intro (we14 b n0 n1 n2 n3 hw (by omega)) ?_)
    repeat refine And.intro rfl ?_
    exact hc true
  · intro h
    exact hc false
end Vc

set_option maxRecDepth 10000
namespace Vc
open Go Go.Proofs
theorem u8_rem127 (n : UInt8) : arithF .rem .u8 (n.toNat : Int) 127 = some ((n % 127).toNat : Int) := by
  simp only [arithF]
  rw [if_neg (by decide), Int.tmod_eq_emod_of_nonneg (by omega), UInt8.toNat_mod]; rfl
theorem u8_add1 (n : UInt8) : arithF .add .u8 1 (n.toNat : Int) = some ((1 + n).toNat : Int) := by
  simp only [arithF]
  rw [IntKind.wrap_u8, UInt8.toNat_add]
  have := n.toNat_lt
  show some ((1 + (n.toNat : Int)) % 256) = some ((((1 : Nat) + n.toNat) % 2 ^ 8 : Nat) : Int)
  congr 1
theorem u8_xorb (x y : UInt8) : bitF .xor .u8 (x.toNat : Int) (y.toNat : Int) = some ((x ^^^ y).toNat : Int) := by
  have h := (x ^^^ y).toNat_lt
  have hx := x.toNat_lt
  have hy := y.toNat_lt
  simp only [bitF]
  rw [IntKind.wrap_u8, UInt8.toNat_xor]
  have e : (BitVec.ofInt IntKind.u8.bits (x.toNat : Int) ^^^ BitVec.ofInt IntKind.u8.bits (y.toNat : Int)).toNat = x.toNat ^^^ y.toNat := by
    rw [BitVec.toNat_xor]
    show (BitVec.ofInt 8 (x.toNat : Int)).toNat ^^^ (BitVec.ofInt 8 (y.toNat : Int)).toNat = _
    rw [show (BitVec.ofInt 8 (x.toNat : Int)).toNat = x.toNat by simp, show (BitVec.ofInt 8 (y.toNat : Int)).toNat = y.toNat by simp]
  rw [e, ← UInt8.toNat_xor]
  congr 1
  omega
theorem wf14 (b : List UInt8) (n0 n1 n2 n3 : UInt8) (hw : Wh n0 n1 b) (h0 : 0 < (piece b (wS n1) (tix (wP n1 b) (n2.toNat % wP n1 b) (n3.toNat % wP n1 b))).length) :
    CallDet Tryz.prog 14 [.d (.slice 4 (frs (turnedF n0.toNat b (wS n1) (wP n1 b) (n2.toNat % wP n1 b)) ++ [.agg [.int .i64 (cutFr n0.toNat b (wS n1) (tix (wP n1 b) (n2.toNat % wP n1 b) (n3.toNat % wP n1 b))).m, .int .i64 (cutFr n0.toNat b (wS n1) (tix (wP n1 b) (n2.toNat % wP n1 b) (n3.toNat % wP n1 b))).p, .int .i64 (cutFr n0.toNat b (wS n1) (tix (wP n1 b) (n2.toNat % wP n1 b) (n3.toNat % wP n1 b))).n, .slice 1 (([] ++ (cutFr n0.toNat b (wS n1) (tix (wP n1 b) (n2.toNat % wP n1 b) (n3.toNat % wP n1 b))).b.map byt).set 0 (byt ((piece b (wS n1) (tix (wP n1 b) (n2.toNat % wP n1 b) (n3.toNat % wP n1 b)))[0]?.getD 0 ^^^ (1 + n3 % 127))))]]))] [.slice 1 [], .int .i64 24] := by
  have h30 := hw.h30
  have hk := wk2 b n0 n1 n2 n3 hw
  have hj : tix (wP n1 b) (n2.toNat % wP n1 b) (n3.toNat % wP n1 b) < wP n1 b := tix_lt hk
  generalize ej : tix (wP n1 b) (n2.toNat % wP n1 b) (n3.toNat % wP n1 b) = j at *
  have hmem := wdd b n0 n1 n2 n3 hw
  rw [ej] at hmem
  have e : frs (turnedF n0.toNat b (wS n1) (wP n1 b) (n2.toNat % wP n1 b)) ++ [.agg [.int .i64 (cutFr n0.toNat b (wS n1) j).m, .int .i64 (cutFr n0.toNat b (wS n1) j).p, .int .i64 (cutFr n0.toNat b (wS n1) j).n, .slice 1 (([] ++ (cutFr n0.toNat b (wS n1) j).b.map byt).set 0 (byt ((piece b (wS n1) j)[0]?.getD 0 ^^^ (1 + n3 % 127))))]] =
      frs ((turnedF n0.toNat b (wS n1) (wP n1 b) (n2.toNat % wP n1 b)) ++ [⟨n0.toNat, j, partsI b.length (wS n1), (piece b (wS n1) j).set 0 ((piece b (wS n1) j)[0]?.getD 0 ^^^ (1 + n3 % 127))⟩]) := by
    simp [frs, Fr.d, fr, cutFr, List.map_set]
  rw [e]
  have hcl := join_clash (n := n0.toNat) (b := b) (S := wS n1) (k := j) (P := wP n1 b) (t := (turnedF n0.toNat b (wS n1) (wP n1 b) (n2.toNat % wP n1 b))) (o := (piece b (wS n1) j).set 0 ((piece b (wS n1) j)[0]?.getD 0 ^^^ (1 + n3 % 127))) hw.hn hw.hS hw.hP (by omega) (by rw [turned_len]; omega) (turned_cut hk) hj hmem (by rw [List.length_set]) ?_
  · have h2 := c14 ((turnedF n0.toNat b (wS n1) (wP n1 b) (n2.toNat % wP n1 b)) ++ [⟨n0.toNat, j, partsI b.length (wS n1), (piece b (wS n1) j).set 0 ((piece b (wS n1) j)[0]?.getD 0 ^^^ (1 + n3 % 127))⟩]) (by simp [turned_len]; omega)
    rw [hcl] at h2
    exact h2
  · intro hh
    have h3 := congrArg (fun l => l[0]?) hh
    simp only [List.getElem?_set_self h0] at h3
    rw [List.getElem?_eq_getElem h0] at h3
    have h4 := Option.some.inj h3
    exact xor_ne _ _ h4

theorem c15r (l : List Fr) (hl : l.length ≤ 1048576) (hb : ∀ f ∈ l, f.b.length ≤ 1048576) :
    CallRow Tryz.prog 15 [.d (.slice 4 (frs l))] 38 4 (frs l) := by
  refine callRow_of_vc (x := ir15) (by kernel_rfl) rfl ?_
  refine loop_st (fun a : Nat × List Data => ⟨[(3, .sl 2 a.2.length), (6, .d (.slice 4 (frs l))), (7, .d (.int .i64 (frs l).length)), (8, .d (.int .i64 a.1))], [.none, .none, .row 38 4 a.2 false]⟩)
    (fun a => a.2 = (l.take a.1).map Fr.d) (fun a => l.length - a.1) (0, []) rfl rfl ?_
  rintro ⟨k, acc⟩ hk
  have hlen : (frs l).length = l.length := by simp [frs]
  refine And.intro rfl ?_
  refine brk_intro ?_ ?_
  · intro h
    have h : (k : Int) < (frs l).length := of_decide_eq_true h
    obtain ⟨x, hx⟩ : ∃ x, l[k]? = some x := ⟨_, List.getElem?_eq_getElem (by omega)⟩
    have hd : (frs l)[(k : Int).toNat]? = some x.d := by simp [frs, hx]
    have hacc : acc.length = k := by have := congrArg List.length hk; simp at this; omega
    refine ix_at hd (by omega) ?_
    refine Exists.intro _ (And.intro (c27 x (hb x (List.mem_of_getElem? hx))) ?_)
    refine And.intro rfl ?_
    refine And.intro rfl ?_
    refine And.intro rfl ?_
    refine And.intro ⟨rfl, rfl, rfl, ?_, ?_⟩ ?_
    · show (acc.length + 1) * 48 ≤ 2 ^ 47
      omega
    · show acc.length + 1 ≤ 2 ^ 47
      omega
    refine ar_add (by omega) ?_
    refine ⟨(k + 1, acc ++ [x.d]), ⟨?_, by show l.length - (k + 1) < l.length - k; omega⟩, rfl⟩
    show acc ++ [x.d] = (l.take (k + 1)).map Fr.d
    rw [take_map_succ _ hx]
    exact congrArg (· ++ [x.d]) hk
  · intro h
    have h : ¬ (k : Int) < (frs l).length := of_decide_eq_false h
    have e : acc = frs l := by
      have hk : acc = (l.take k).map Fr.d := hk
      rw [hk, List.take_of_length_le (by omega)]
      rfl
    subst e
    exact ⟨2, ⟨rfl, rfl⟩, rfl⟩

set_option maxHeartbeats 8000000 in
theorem f7 (b : List UInt8) (n0 n1 n2 n3 : UInt8) (hw : Wh n0 n1 b) (z : Bool) (c : ACode) (hc : vc Tryz.prog 254 c ⟨[], [.none, .none, .none, .none, .none, .none, .none, .none, .none, .none, .none, .none, .none, .none, .none, .none, .none, .none, .none, .none, .none, .none, .none]⟩ (postF ir7 [.bool true])) :
    vc Tryz.prog 254 (ir7f (.keep [4] [0, 7, 8, 13, 14, 15, 16, 17, 18, 19, 20, 21, 22] c)) ⟨[(3, .ptr 0 0), (17, .sl 7 (frs (turnedF n0.toNat b (wS n1) (wP n1 b) (n2.toNat % wP n1 b))).length), (19, .ptr 8 0)], [.cbox [byt n0, byt n1, byt n2, byt n3], .none, .none, .none, .none, .none, .none, .row 46 4 (frs (turnedF n0.toNat b (wS n1) (wP n1 b) (n2.toNat % wP n1 b))) z, .box [.d (.int .i64 (cutFr n0.toNat b (wS n1) (tix (wP n1 b) (n2.toNat % wP n1 b) (n3.toNat % wP n1 b))).m), .d (.int .i64 (cutFr n0.toNat b (wS n1) (tix (wP n1 b) (n2.toNat % wP n1 b) (n3.toNat % wP n1 b))).p), .d (.int .i64 (cutFr n0.toNat b (wS n1) (tix (wP n1 b) (n2.toNat % wP n1 b) (n3.toNat % wP n1 b))).n), .d (.slice 1 ((cutFr n0.toNat b (wS n1) (tix (wP n1 b) (n2.toNat % wP n1 b) (n3.toNat % wP n1 b))).b.map byt))], .none, .none, .none, .none, .none, .none, .none, .none, .none, .none, .none, .none, .none, .none]⟩ (postF ir7 [.bool true]) := by
  have hL : (frs (turnedF n0.toNat b (wS n1) (wP n1 b) (n2.toNat % wP n1 b))).length = wP n1 b := by rw [frs_len, turned_len]
  have h1 := hw.h1
  have h2 := hw.h30
  have h5 := n3.toNat_lt
  have hpl := piece_le b (wS n1) (tix (wP n1 b) (n2.toNat % wP n1 b) (n3.toNat % wP n1 b))
  have hS := hw.hS
  have hlm : ((cutFr n0.toNat b (wS n1) (tix (wP n1 b) (n2.toNat % wP n1 b) (n3.toNat % wP n1 b))).b.map byt).length = (piece b (wS n1) (tix (wP n1 b) (n2.toNat % wP n1 b) (n3.toNat % wP n1 b))).length := List.length_map _
  repeat refine And.intro rfl ?_
  refine brk_intro ?_ ?_
  · intro h
    have h : (0 : Int) < (((cutFr n0.toNat b (wS n1) (tix (wP n1 b) (n2.toNat % wP n1 b) (n3.toNat % wP n1 b))).b.map byt).length : Int) := of_decide_eq_true h
    have h0 : 0 < (piece b (wS n1) (tix (wP n1 b) (n2.toNat % wP n1 b) (n3.toNat % wP n1 b))).length := by omega
    repeat refine And.intro rfl ?_
    refine Exists.intro (.agg [.d (.int .i64 (cutFr n0.toNat b (wS n1) (tix (wP n1 b) (n2.toNat % wP n1 b) (n3.toNat % wP n1 b))).m), .d (.int .i64 (cutFr n0.toNat b (wS n1) (tix (wP n1 b) (n2.toNat % wP n1 b) (n3.toNat % wP n1 b))).p), .d (.int .i64 (cutFr n0.toNat b (wS n1) (tix (wP n1 b) (n2.toNat % wP n1 b) (n3.toNat % wP n1 b))).n), .sl 18 ([] ++ (cutFr n0.toNat b (wS n1) (tix (wP n1 b) (n2.toNat % wP n1 b) (n3.toNat % wP n1 b))).b.map byt).length]) (Exists.intro [(16, .cbox [.int .i64 (cutFr n0.toNat b (wS n1) (tix (wP n1 b) (n2.toNat % wP n1 b) (n3.toNat % wP n1 b))).m, .int .i64 (cutFr n0.toNat b (wS n1) (tix (wP n1 b) (n2.toNat % wP n1 b) (n3.toNat % wP n1 b))).p, .int .i64 (cutFr n0.toNat b (wS n1) (tix (wP n1 b) (n2.toNat % wP n1 b) (n3.toNat % wP n1 b))).n, .slice 1 ((cutFr n0.toNat b (wS n1) (tix (wP n1 b) (n2.toNat % wP n1 b) (n3.toNat % wP n1 b))).b.map byt)]), (17, .box [.d (.int .i64 (cutFr n0.toNat b (wS n1) (tix (wP n1 b) (n2.toNat % wP n1 b) (n3.toNat % wP n1 b))).m), .d (.int .i64 (cutFr n0.toNat b (wS n1) (tix (wP n1 b) (n2.toNat % wP n1 b) (n3.toNat % wP n1 b))).p), .d (.int .i64 (cutFr n0.toNat b (wS n1) (tix (wP n1 b) (n2.toNat % wP n1 b) (n3.toNat % wP n1 b))).n), .sl 18 ([] ++ (cutFr n0.toNat b (wS n1) (tix (wP n1 b) (n2.toNat % wP n1 b) (n3.toNat % wP n1 b))).b.map byt).length]), (18, .row 5 1 ([] ++ (cutFr n0.toNat b (wS n1) (tix (wP n1 b) (n2.toNat % wP n1 b) (n3.toNat % wP n1 b))).b.map byt) false)] (And.intro ?_ ?_))
    · refine callIn_of_vc (x := ir27) 16 (by kernel_rfl) rfl rfl rfl ?_
      repeat refine And.intro rfl ?_
      refine And.intro ⟨rfl, rfl, rfl, ?_, ?_⟩ ?_
      · show (0 + ((cutFr n0.toNat b (wS n1) (tix (wP n1 b) (n2.toNat % wP n1 b) (n3.toNat % wP n1 b))).b.map byt).length) * 1 ≤ 2 ^ 47
        omega
      · show 0 + ((cutFr n0.toNat b (wS n1) (tix (wP n1 b) (n2.toNat % wP n1 b) (n3.toNat % wP n1 b))).b.map byt).length ≤ 2 ^ 47
        omega
      repeat refine And.intro rfl ?_
      exact rfl
    have hd0 : ([] ++ (cutFr n0.toNat b (wS n1) (tix (wP n1 b) (n2.toNat % wP n1 b) (n3.toNat % wP n1 b))).b.map byt)[(0 : Int).toNat]? = some (byt ((piece b (wS n1) (tix (wP n1 b) (n2.toNat % wP n1 b) (n3.toNat % wP n1 b)))[0]?.getD 0)) := by
      show (List.map byt (piece b (wS n1) (tix (wP n1 b) (n2.toNat % wP n1 b) (n3.toNat % wP n1 b))))[0]? = _
      rw [List.getElem?_map, List.getElem?_eq_getElem h0]; rfl
    have hlr : (0 : Int) < ((([] ++ (cutFr n0.toNat b (wS n1) (tix (wP n1 b) (n2.toNat % wP n1 b) (n3.toNat % wP n1 b))).b.map byt).length : Nat) : Int) := h
    repeat refine And.intro rfl ?_
    refine And.intro ⟨rfl, rfl, by decide, hlr⟩ ?_
    repeat refine And.intro rfl ?_
    refine Exists.intro _ (And.intro hd0 ?_)
    refine And.intro (And.intro (by decide) (by decide)) ?_
    refine Exists.intro _ (And.intro ⟨rfl, rfl, u8_rem127 n3⟩ ?_)
    refine Exists.intro _ (And.intro ⟨rfl, rfl, u8_add1 _⟩ ?_)
    refine Exists.intro _ (And.intro ⟨rfl, rfl, u8_xorb _ _⟩ ?_)
    refine And.intro ⟨rfl, rfl, by decide, hlr⟩ ?_
    refine Exists.intro _ (Exists.intro (byt ((piece b (wS n1) (tix (wP n1 b) (n2.toNat % wP n1 b) (n3.toNat % wP n1 b)))[0]?.getD 0 ^^^ (1 + n3 % 127))) (And.intro ⟨rfl, hd0, rfl, Nat.le_refl 1, rfl, rfl⟩ ?_))
    repeat refine And.intro rfl ?_
    refine Exists.intro _ (And.intro (c15r _ (by rw [turned_len]; omega) (wtl b n0 n1 n2 n3 hw)) ?_)
    repeat refine And.intro rfl ?_
    refine And.intro (List.length_set ..) ?_
    repeat refine And.intro rfl ?_
    refine And.intro ⟨rfl, rfl, rfl, ?_, ?_⟩ ?_
    · show ((frs (turnedF n0.toNat b (wS n1) (wP n1 b) (n2.toNat % wP n1 b))).length + 1) * 48 ≤ 2 ^ 47
      omega
    · show (frs (turnedF n0.toNat b (wS n1) (wP n1 b) (n2.toNat % wP n1 b))).length + 1 ≤ 2 ^ 47
      omega
    repeat refine And.intro rfl ?_
    refine Exists.intro _ (And.intro (wf14 b n0 n1 n2 n3 hw h0) ?_)
    repeat refine And.intro rfl ?_
    exact hc
  · intro h
    exact hc
end Vc

set_option maxRecDepth 10000
namespace Vc
open Go Go.Proofs
theorem c7 (b : List UInt8) (n0 n1 n2 n3 : UInt8) : CallDet Tryz.prog 7 [.d (.slice 1 (b.map byt)), .d (.agg [byt n0, byt n1, byt n2, byt n3])] [.bool true] := by
  refine call_of_vc (x := ir7) (by kernel_rfl) rfl ?_
  refine a7 b n0 n1 n2 n3 _ (fun hw => b7 b n0 n1 n2 n3 hw _ (c7w b n0 n1 n2 n3 hw _ (d7 b n0 n1 n2 n3 hw _ (e7 b n0 n1 n2 n3 hw _ (fun z => f7 b n0 n1 n2 n3 hw z _ ?_)))))
  refine Exists.intro _ (And.intro c12 ?_)
  exact rfl
end Vc

