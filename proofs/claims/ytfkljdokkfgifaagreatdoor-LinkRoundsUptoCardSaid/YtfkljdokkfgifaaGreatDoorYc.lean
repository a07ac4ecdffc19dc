import Derived.Test.YtfkljdokkfgifaaGreatDoorYb
import Derived.Test.YtfkljdokkfgifaaGreatDoorXc
set_option linter.unusedSectionVars false
set_option linter.unusedVariables false
set_option linter.unusedSimpArgs false
set_option maxRecDepth 10000
namespace Vc
open Go Go.Proofs
/-- kilovar/kilovarref04.Exchanged -/
def ir52 : AFun := ⟨89, 4, [.cell 6 3 true, .cell 7 2 true, .tmp 8],
 (.seq
  (.reg [0, 1, 2, 3] [⟨some 3, .box 0 3 (.tmp 0), none⟩,
    ⟨some 4, .box 1 2 (.tmp 1), none⟩,
    ⟨some 6, .alloc 2 [(.nils 4), (.d (.int .i64 0)), (.d (.int .i64 0))], none⟩,
    ⟨some 7, .alloc 3 [(.d (.int .i64 0)), (.nils 4)], none⟩,
    ⟨some 8, .mov (.cst (.d (.int .i64 0))), none⟩])
  (.seq
   (.seq
    (.reg [] [⟨some 13, .ld true 3 (.tmp 3), none⟩,
      ⟨some 14, .ld true 2 (.tmp 4), none⟩,
      ⟨some 15, .call 105 [(.tmp 13), (.tmp 14)], none⟩,
      ⟨some 16, .not (.tmp 15), none⟩])
    (.cond (.tmp 16)
     (.seq
      (.reg [] [⟨some 17, .build [(.nils 4), (.d (.int .i64 0)), (.d (.int .i64 0))] [], none⟩,
        ⟨some 18, .build [(.d (.int .i64 0)), (.nils 4)] [], none⟩,
        ⟨none, .st 3 (.tmp 6) (.tmp 17), none⟩,
        ⟨none, .st 2 (.tmp 7) (.tmp 18), none⟩,
        ⟨some 8, .mov (.cst (.d (.int .i64 24))), none⟩])
      .ret)
     .skip))
   (.seq
    (.seq
     (.reg [] [⟨some 9, .mov (.cst (.d (.int .i64 0))), none⟩])
     (.post [3, 4, 6, 7] [0, 1, 2, 3]
      (.block 0
       (.keep [2, 3, 4, 6, 7, 9] [0, 1, 2, 3]
        (.loop
         (.post [2, 3, 4, 6, 7, 9] []
          (.seq
           (.seq
            (.reg [] [⟨some 19, .mov (.tmp 9), none⟩,
              ⟨some 20, .mov (.tmp 2), none⟩,
              ⟨some 21, .len (.tmp 20), none⟩,
              ⟨some 22, .cmp .lss (.tmp 19) (.tmp 21), none⟩])
            (.cond (.tmp 22)
             .skip
             (.exit 0)))
           (.seq
            (.block 1
             (.seq
              (.reg [] [⟨some 26, .ld true 3 (.tmp 3), none⟩,
                ⟨some 27, .call 40 [(.tmp 26)], none⟩,
                ⟨some 25, .mov (.tmp 27), none⟩,
                ⟨some 28, .ext 0 (.tmp 25), none⟩,
                ⟨some 29, .ext 1 (.tmp 25), none⟩,
                ⟨some 10, .mov (.tmp 28), none⟩,
                ⟨some 11, .mov (.tmp 29), none⟩])
              (.seq
               (.seq
                (.reg [] [⟨some 12, .mov (.cst (.d (.int .i64 0))), none⟩])
                (.post [2, 3, 4, 6, 7, 9] [0, 1, 2, 3]
                 (.block 2
                  (.keep [2, 3, 4, 6, 7, 9, 10, 11, 12] [0, 1, 2, 3]
                   (.loop
                    (.post [2, 3, 4, 6, 7, 9, 10, 11, 12] []
                     (.seq
                      (.seq
                       (.reg [] [⟨some 30, .mov (.tmp 12), none⟩,
                         ⟨some 31, .mov (.tmp 10), none⟩,
                         ⟨some 32, .len (.tmp 31), none⟩,
                         ⟨some 33, .cmp .lss (.tmp 30) (.tmp 32), none⟩])
                       (.cond (.tmp 33)
                        .skip
                        (.exit 2)))
                      (.seq
                       (.block 3
                        (.seq
                         (.seq
                          (.reg [] [⟨some 36, .mov (.tmp 2), none⟩,
                            ⟨some 37, .mov (.tmp 9), none⟩,
                            ⟨some 38, .ixa 3 (.tmp 36) (.tmp 37), none⟩,
                            ⟨some 39, .fad 0 (.tmp 38), none⟩,
                            ⟨some 40, .ld false 1 (.tmp 39), none⟩,
                            ⟨some 41, .mov (.tmp 12), none⟩,
                            ⟨some 42, .call 106 [(.tmp 40), (.tmp 41)], none⟩])
                          (.cond (.tmp 42)
                           (.exit 3)
                           .skip))
                         (.seq
                          (.regd [] [⟨some 44, .ld true 2 (.tmp 4), none⟩,
                            ⟨some 45, .mov (.tmp 10), none⟩,
                            ⟨some 46, .mov (.tmp 12), none⟩,
                            ⟨some 47, .ixa 4 (.tmp 45) (.tmp 46), none⟩,
                            ⟨some 48, .ld true 4 (.tmp 47), none⟩,
                            ⟨some 49, .mov (.tmp 11), none⟩,
                            ⟨some 50, .mov (.tmp 12), none⟩,
                            ⟨some 51, .ixa 1 (.tmp 49) (.tmp 50), none⟩,
                            ⟨some 52, .ld false 1 (.tmp 51), none⟩,
                            ⟨some 53, .call 41 [(.tmp 44), (.tmp 48), (.tmp 52)], none⟩,
                            ⟨some 43, .mov (.tmp 53), none⟩,
                            ⟨some 54, .ext 0 (.tmp 43), none⟩,
                            ⟨some 55, .ext 1 (.tmp 43), none⟩,
                            ⟨none, .st 2 (.tmp 4) (.tmp 54), none⟩] [(0, 1), (0, 2), (1, 2), (0, 3), (0, 4), (0, 5), (1, 5), (2, 5), (3, 5), (4, 5), (0, 6), (1, 6), (2, 6), (3, 6), (4, 6), (5, 6), (0, 7), (1, 7), (2, 7), (3, 7), (4, 7), (0, 8), (1, 8), (2, 8), (3, 8), (4, 8), (11, 12), (12, 13)])
                          (.seq
                           (.reg [] [⟨some 56, .mov (.tmp 2), none⟩,
                             ⟨some 57, .mov (.tmp 9), none⟩,
                             ⟨some 58, .ixa 3 (.tmp 56) (.tmp 57), none⟩,
                             ⟨some 59, .fad 1 (.tmp 58), none⟩,
                             ⟨some 60, .ld false 1 (.tmp 59), none⟩,
                             ⟨some 61, .mov (.tmp 12), none⟩,
                             ⟨some 62, .call 106 [(.tmp 60), (.tmp 61)], none⟩])
                           (.cond (.tmp 62)
                            (.regd [] [⟨some 64, .ld true 2 (.tmp 4), none⟩,
                              ⟨some 65, .mov (.tmp 10), none⟩,
                              ⟨some 66, .mov (.tmp 12), none⟩,
                              ⟨some 67, .ixa 4 (.tmp 65) (.tmp 66), none⟩,
                              ⟨some 68, .ld true 4 (.tmp 67), none⟩,
                              ⟨some 69, .mov (.tmp 11), none⟩,
                              ⟨some 70, .mov (.tmp 12), none⟩,
                              ⟨some 71, .ixa 1 (.tmp 69) (.tmp 70), none⟩,
                              ⟨some 72, .ld false 1 (.tmp 71), none⟩,
                              ⟨some 73, .call 41 [(.tmp 64), (.tmp 68), (.tmp 72)], none⟩,
                              ⟨some 63, .mov (.tmp 73), none⟩,
                              ⟨some 74, .ext 0 (.tmp 63), none⟩,
                              ⟨some 75, .ext 1 (.tmp 63), none⟩,
                              ⟨none, .st 2 (.tmp 4) (.tmp 74), none⟩] [(0, 1), (0, 2), (1, 2), (0, 3), (0, 4), (0, 5), (1, 5), (2, 5), (3, 5), (4, 5), (0, 6), (1, 6), (2, 6), (3, 6), (4, 6), (5, 6), (0, 7), (1, 7), (2, 7), (3, 7), (4, 7), (0, 8), (1, 8), (2, 8), (3, 8), (4, 8), (11, 12), (12, 13)])
                            .skip)))))
                       (.reg [] [⟨some 34, .mov (.tmp 12), none⟩,
                         ⟨some 35, .arith .add .i64 (.tmp 34) (.cst (.d (.int .i64 1))), none⟩,
                         ⟨some 12, .mov (.tmp 35), none⟩])))))))))
               (.seq
                (.reg [] [⟨some 76, .mov (.tmp 2), none⟩,
                  ⟨some 77, .mov (.tmp 9), none⟩,
                  ⟨some 78, .ixa 3 (.tmp 76) (.tmp 77), none⟩,
                  ⟨some 79, .fad 2 (.tmp 78), none⟩,
                  ⟨some 80, .ld false 1 (.tmp 79), none⟩,
                  ⟨some 81, .not (.tmp 80), none⟩])
                (.cond (.tmp 81)
                 (.reg [] [⟨some 82, .ld true 3 (.tmp 3), none⟩,
                   ⟨some 83, .fad 0 (.tmp 4), none⟩,
                   ⟨some 84, .ld false 1 (.tmp 83), none⟩,
                   ⟨some 85, .arith .rem .i64 (.tmp 84) (.cst (.d (.int .i64 16))), none⟩,
                   ⟨some 86, .call 42 [(.tmp 82), (.tmp 85)], none⟩,
                   ⟨none, .st 3 (.tmp 3) (.tmp 86), none⟩])
                 .skip)))))
            (.reg [] [⟨some 23, .mov (.tmp 9), none⟩,
              ⟨some 24, .arith .add .i64 (.tmp 23) (.cst (.d (.int .i64 1))), none⟩,
              ⟨some 9, .mov (.tmp 24), none⟩])))))))))
    (.seq
     (.regd [] [⟨some 87, .ld true 3 (.tmp 3), none⟩,
       ⟨some 88, .ld true 2 (.tmp 4), none⟩,
       ⟨none, .st 3 (.tmp 6) (.tmp 87), none⟩,
       ⟨none, .st 2 (.tmp 7) (.tmp 88), none⟩,
       ⟨some 8, .mov (.cst (.d (.int .i64 0))), none⟩] [(0, 1), (1, 2)])
     .ret))))⟩


theorem hear_at {s : Sn} (hs : chkSn s = 0) {a u j : Nat} {f : Fr} (h : inW s (a, u)) (hj : j < lim s a - a) (hf : s.q[a + j]? = some f) :
    hearR (rAt s u) f (((a : Int) + (j : Int)) % 16) = (rAt s (bif a + j == u then u + 1 else u), 0) := by
  have hn := num_at hs h hj
  have h2 : u ≤ lim s a := h.2
  have h3 : lim s a ≤ s.q.length := Nat.min_le_left ..
  have h1 : a ≤ u := h.1
  obtain ⟨_, _, _, h4⟩ := lim_at hs (a := a) (by omega)
  rw [Int.tmod_eq_emod_of_nonneg (by omega)] at hn
  have hm : ((((a : Int) + (j : Int)) % 16) != (rAt s u).t % 16) = !(a + j == u) := by rw [bne]; exact congrArg _ hn
  rw [hearR, hm]
  rcases Bool.eq_false_or_eq_true (a + j == u) with e | e
  · rw [e]
    have he := eq_of_beq e
    have h64 : ((rAt s u).t == 64) = false := by rw [beq_eq_false_iff_ne]; show (u : Int) ≠ 64; omega
    show (match (rAt s u).t == 64 with | true => ((⟨0, []⟩ : Rc), (5 : Int)) | false => (⟨(rAt s u).t + 1, (rAt s u).l ++ [f]⟩, 0)) = _
    rw [h64]
    have hfu : s.q[u]? = some f := he ▸ hf
    show ((⟨(u : Int) + 1, s.q.take u ++ [f]⟩ : Rc), (0 : Int)) = (⟨((u + 1 : Nat) : Int), s.q.take (u + 1)⟩, 0)
    rw [take_one hfu]; rfl
  · rw [e]; rfl
theorem sentI_get {s : Sn} {a j : Nat} (hj : j < (sentF (sAt s a)).length) : (ints (sentI (sAt s a)))[(j : Int).toNat]? = some (.int .i64 (((a : Int) + (j : Int)) % 16)) := by
  rw [show (j : Int).toNat = j by omega, ints, sentI, List.map_map, List.getElem?_map, List.getElem?_range hj]; rfl
def hp52 (s : Sn) (a t : Nat) : List AObj :=
  [.box [.d (.slice 4 (frs s.q)), .d (.int .i64 a), .d (.int .i64 s.w)], .box [.d (.int .i64 t), .d (.slice 4 (frs (s.q.take t)))], .box [.nils 4, .d (.int .i64 0), .d (.int .i64 0)], .box [.d (.int .i64 0), .nils 4]]

set_option maxHeartbeats 4000000 in
theorem c52g (s : Sn) (a0 t0 : Nat) (l : List Rd) (hs : chkSn s = 0) (hin : inW s (a0, t0)) (hf : fitsB (sAt s a0) (rAt s t0) = true) (hls : ∀ x ∈ l, x.small) (hll : l.length ≤ 1048576) :
    CallDet Tryz.prog 52 [.d (sAt s a0).d, .d (rAt s t0).d, .d (.slice 3 (rds l))] [(sAt s (l.foldl (rnd s) (a0, t0)).1).d, (rAt s (l.foldl (rnd s) (a0, t0)).2).d, .int .i64 0] := by
  have hlen : (rds l).length = l.length := by simp [rds]
  have hq : s.q.length ≤ 64 := (chkSn_zero hs).2.2.2
  have ha0 : a0 ≤ s.q.length := Nat.le_trans hin.1 (Nat.le_trans hin.2 (Nat.min_le_left ..))
  have ht0 : t0 ≤ s.q.length := Nat.le_trans hin.2 (Nat.min_le_left ..)
  have hsa := chkSn_at hs ha0
  have hF : (!fitsB (sAt s a0) (rAt s t0)) = false := by rw [hf]; rfl
  have hrl : (rAt s t0).l.length ≤ 1048576 := by show (s.q.take t0).length ≤ _; rw [List.length_take]; omega
  refine call_of_vc (x := ir52) (by kernel_rfl) rfl ?_
  refine Exists.intro _ (And.intro (c105 (sAt s a0) (rAt s t0) hsa hrl) ?_)
  refine brk_intro (fun h => absurd (hF.symm.trans h) Bool.false_ne_true) (fun _ => ?_)
  refine loop_st (fun p : Nat × Nat × Nat => ⟨[(2, .d (.slice 3 (rds l))), (3, .ptr 0 0), (4, .ptr 1 0), (6, .ptr 2 0), (7, .ptr 3 0), (9, .d (.int .i64 p.1))], hp52 s p.2.1 p.2.2⟩)
    (fun p => p.2 = (l.take p.1).foldl (rnd s) (a0, t0) ∧ inW s p.2) (fun p => l.length - p.1) (0, a0, t0) rfl ⟨rfl, hin⟩ ?_
  rintro ⟨k, a, t⟩ ⟨hk, hw⟩
  have hk : (a, t) = (l.take k).foldl (rnd s) (a0, t0) := hk
  have hw : inW s (a, t) := hw
  have ht : t ≤ s.q.length := Nat.le_trans hw.2 (Nat.min_le_left ..)
  have ha : a ≤ s.q.length := Nat.le_trans hw.1 ht
  obtain ⟨hL1, hL2, hL3, hL4⟩ := lim_at hs ha
  refine And.intro rfl ?_
  refine brk_intro ?_ ?_
  · intro h
    have h : (k : Int) < (rds l).length := of_decide_eq_true h
    refine Exists.elim (⟨_, List.getElem?_eq_getElem (by omega)⟩ : ∃ x, l[k]? = some x) fun x hx => ?_
    have hxs := hls x (List.mem_of_getElem? hx)
    refine Exists.intro _ (And.intro (c40 (sAt s a) (chkSn_at hs ha)) ?_)
    refine loop_st (fun p : Nat × Nat => ⟨[(2, .d (.slice 3 (rds l))), (3, .ptr 0 0), (4, .ptr 1 0), (6, .ptr 2 0), (7, .ptr 3 0), (9, .d (.int .i64 k)), (10, .d (.slice 4 (frs (sentF (sAt s a))))), (11, .d (.slice 1 (ints (sentI (sAt s a))))), (12, .d (.int .i64 p.1))], hp52 s a p.2⟩)
      (fun p => p.1 ≤ lim s a - a ∧ p.2 = rT x a t p.1) (fun p => (lim s a - a) - p.1) (0, t) rfl ⟨Nat.zero_le _, rfl⟩ ?_
    rintro ⟨j, u⟩ ⟨hj, hu⟩
    have hj : j ≤ lim s a - a := hj
    have hu : u = rT x a t j := hu
    obtain ⟨hu0, hu1⟩ := rT_in (x := x) hw hj
    rw [← hu] at hu1
    have hfl := frs_len (sentF (sAt s a))
    refine And.intro rfl ?_
    refine brk_intro ?_ ?_
    · intro h
      have h : (j : Int) < (frs (sentF (sAt s a))).length := of_decide_eq_true h
      have hjl : j < lim s a - a := by omega
      refine Exists.elim (sent_at hs ha hjl) fun f hff => ?_
      refine ix_at (rds_get hx) (by omega) ?_
      refine Exists.intro _ (And.intro (c106 x.lost j hxs.1) ?_)
      refine brk_intro ?_ ?_
      · intro hlo
        have hlo : x.lost.contains (j : Int) = true := hlo
        refine ar_add (by omega) ?_
        refine ⟨(j + 1, u), ⟨⟨by show j + 1 ≤ _; omega, ?_⟩, by show lim s a - a - (j + 1) < lim s a - a - j; omega⟩, rfl⟩
        show u = stepJ x a (rT x a t j) j
        rw [stepJ, hlo, hu]; rfl
      · intro hlo
        have hlo : x.lost.contains (j : Int) = false := hlo
        have hst : (bif a + j == u then u + 1 else u) = rT x a t (j + 1) := by
          show _ = stepJ x a (rT x a t j) j
          rw [stepJ, hlo, ← hu]; rfl
        have hu2 := (rT_in (x := x) hw (j := j + 1) (by omega)).2
        rw [← hst] at hu2
        have hul : u ≤ s.q.length := Nat.le_trans hu1.2 (Nat.min_le_left ..)
        have hh1 := c41 (rAt s u) f (((a : Int) + (j : Int)) % 16) (chkRc_at hs hul)
        rw [hear_at hs hu1 hjl hff.2] at hh1
        refine ix_at (frs_get hff.1) (by omega) ?_
        refine ix_at (sentI_get (by omega)) (by omega) ?_
        refine Exists.intro _ (And.intro hh1 ?_)
        refine ix_at (rds_get hx) (by omega) ?_
        refine Exists.intro _ (And.intro (c106 x.dbl j hxs.2) ?_)
        refine brk_intro ?_ ?_
        · intro _
          have hul2 : (bif a + j == u then u + 1 else u) ≤ s.q.length := Nat.le_trans hu2.2 (Nat.min_le_left ..)
          have hh2 := c41 (rAt s (bif a + j == u then u + 1 else u)) f (((a : Int) + (j : Int)) % 16) (chkRc_at hs hul2)
          have hne : (a + j == (bif a + j == u then u + 1 else u)) = false := by
            rcases Bool.eq_false_or_eq_true (a + j == u) with e | e
            · rw [e]; have := eq_of_beq e; rw [beq_eq_false_iff_ne]; show a + j ≠ u + 1; omega
            · rw [e]; exact e
          rw [hear_at hs hu2 hjl hff.2, hne] at hh2
          refine ix_at (frs_get hff.1) (by omega) ?_
          refine ix_at (sentI_get (by omega)) (by omega) ?_
          refine Exists.intro _ (And.intro hh2 ?_)
          refine ar_add (by omega) ?_
          exact ⟨(j + 1, bif a + j == u then u + 1 else u), ⟨⟨by show j + 1 ≤ _; omega, hst⟩, by show lim s a - a - (j + 1) < lim s a - a - j; omega⟩, rfl⟩
        · intro _
          refine ar_add (by omega) ?_
          exact ⟨(j + 1, bif a + j == u then u + 1 else u), ⟨⟨by show j + 1 ≤ _; omega, hst⟩, by show lim s a - a - (j + 1) < lim s a - a - j; omega⟩, rfl⟩
    · intro h
      have h : ¬ (j : Int) < (frs (sentF (sAt s a))).length := of_decide_eq_false h
      have hjE : j = lim s a - a := by omega
      have hnext : ∀ a', a' = (bif x.deaf then a else u) → (a', u) = (l.take (k + 1)).foldl (rnd s) (a0, t0) := fun a' e => by
        rw [fold_take _ hx, ← hk, e, hu, hjE]; rfl
      have hnw : ∀ a', a' = (bif x.deaf then a else u) → inW s (a', u) := fun a' e => by
        rw [hnext a' e]; exact fold_in _ hin
      refine ix_at (rds_get hx) (by omega) ?_
      refine brk_intro ?_ ?_
      · intro hd
        have hd : (!x.deaf) = true := hd
        have hA : 0 ≤ (u : Int) ∧ (1 : Int) ≤ 16 := by omega
        refine ar_rem hA ?_
        have hac := c42 (sAt s a) ((u : Int) % 16) (chkSn_at hs ha) (by omega)
        rw [ack_at hs hu1] at hac
        refine Exists.intro _ (And.intro hac ?_)
        refine ar_add (by omega) ?_
        have hu2 : u = (bif x.deaf then a else u) := by rw [show x.deaf = false by simpa using hd]; rfl
        exact ⟨(k + 1, u, u), ⟨⟨hnext u hu2, hnw u hu2⟩, by show l.length - (k + 1) < l.length - k; omega⟩, rfl⟩
      · intro hd
        have hd : (!x.deaf) = false := hd
        refine ar_add (by omega) ?_
        have hu2 : a = (bif x.deaf then a else u) := by rw [show x.deaf = true by simpa using hd]; rfl
        exact ⟨(k + 1, a, u), ⟨⟨hnext a hu2, hnw a hu2⟩, by show l.length - (k + 1) < l.length - k; omega⟩, rfl⟩
  · intro h
    have h : ¬ (k : Int) < (rds l).length := of_decide_eq_false h
    have e : l.take k = l := List.take_of_length_le (by omega)
    rw [e] at hk
    repeat refine And.intro rfl ?_
    rw [← hk]
    exact rfl
theorem xg {s : Sn} {r : Rc} {l : List Rd} {p : Sn × Rc × Int} (h : exG s r l = p) : resV [p.1.d, p.2.1.d, .int .i64 p.2.2] = resV [(exG s r l).1.d, (exG s r l).2.1.d, .int .i64 (exG s r l).2.2] := by rw [h]
theorem c52 (s : Sn) (r : Rc) (l : List Rd) (hs : chkSn s = 0) (hrl : r.l.length ≤ 1048576) (hll : l.length ≤ 1048576) (hls : ∀ x ∈ l, x.small) :
    CallDet Tryz.prog 52 [.d s.d, .d r.d, .d (.slice 3 (rds l))] [(exG s r l).1.d, (exG s r l).2.1.d, .int .i64 (exG s r l).2.2] := by
  rcases Bool.eq_false_or_eq_true (fitsB s r) with hf | hf
  · obtain ⟨e1, e2, e3⟩ := fits_at hs hf
    have e : exG s r l = (sAt s (exA s r l).1, rAt s (exA s r l).2, 0) := by rw [exG, hf]
    have hg := c52g s s.a.toNat r.t.toNat l hs e3 (by rw [← e2]; exact e1 ▸ hf) hls hll
    rw [e]
    have d1 : s.d = (sAt s s.a.toNat).d := congrArg Sn.d e1
    have d2 : r.d = (rAt s r.t.toNat).d := congrArg Rc.d e2
    rw [d1, d2]
    exact hg
  · have e : exG s r l = (⟨[], 0, 0⟩, ⟨0, []⟩, 24) := by rw [exG, hf]
    have hF : (!fitsB s r) = true := by rw [hf]; rfl
    refine call_of_vc (x := ir52) (by kernel_rfl) rfl ?_
    refine Exists.intro _ (And.intro (c105 s r hs hrl) ?_)
    refine brk_intro (fun _ => ?_) (fun h => absurd (h.symm.trans hF) Bool.false_ne_true)
    repeat refine And.intro rfl ?_
    exact xg e
end Vc

set_option maxRecDepth 10000
namespace Vc
open Go Go.Proofs
/-- kilovar/kilovarlaw04.LinkRounds -/
def ir5a (rest : ACode) : ACode :=
 (.seq
 (.reg [0, 1] [⟨some 3, .cbx 0 3 (.tmp 0), none⟩,
    ⟨some 4, .cbx 1 2 (.tmp 1), none⟩,
    ⟨some 6, .mov (.cst (.d (.bool false))), none⟩])
 (.seq
 (.seq
    (.reg [] [⟨some 13, .fad 0 (.tmp 3), none⟩,
      ⟨some 14, .ld false 1 (.tmp 13), none⟩,
      ⟨some 15, .call 11 [(.tmp 14)], none⟩,
      ⟨some 16, .not (.tmp 15), none⟩,
      ⟨some 17, .mov (.tmp 16), none⟩,
      ⟨some 18, .fad 1 (.tmp 4), some (17, false)⟩,
      ⟨some 19, .ld false 1 (.tmp 18), some (17, false)⟩,
      ⟨some 20, .call 11 [(.tmp 19)], some (17, false)⟩,
      ⟨some 21, .not (.tmp 20), some (17, false)⟩,
      ⟨some 22, .pick (.tmp 17) (.cst (.d (.bool true))) (.tmp 21), none⟩,
      ⟨some 23, .mov (.tmp 22), none⟩,
      ⟨some 24, .mov (.tmp 2), some (23, false)⟩,
      ⟨some 25, .call 48 [(.tmp 24)], some (23, false)⟩,
      ⟨some 26, .not (.tmp 25), some (23, false)⟩,
      ⟨some 27, .pick (.tmp 23) (.cst (.d (.bool true))) (.tmp 26), none⟩])
    (.cond (.tmp 27)
     (.seq
      (.reg [] [⟨some 28, .call 12 [], none⟩,
        ⟨some 6, .mov (.tmp 28), none⟩])
      .ret)
     .skip))
 (.seq
 (.regd [2, 3] [⟨some 30, .ld true 3 (.tmp 3), none⟩,
      ⟨some 31, .call 32 [(.tmp 30)], none⟩,
      ⟨some 32, .ld true 2 (.tmp 4), none⟩,
      ⟨some 33, .call 34 [(.tmp 32)], none⟩,
      ⟨some 34, .mov (.tmp 2), none⟩,
      ⟨some 35, .call 50 [(.tmp 34)], none⟩,
      ⟨some 36, .call 49 [(.tmp 31), (.tmp 33), (.tmp 35)], none⟩,
      ⟨some 29, .mov (.tmp 36), none⟩,
      ⟨some 37, .ext 0 (.tmp 29), none⟩,
      ⟨some 38, .ext 1 (.tmp 29), none⟩,
      ⟨some 39, .ext 2 (.tmp 29), none⟩,
      ⟨some 7, .alloc 2 [(.nils 4), (.d (.int .i64 0)), (.d (.int .i64 0))], none⟩,
      ⟨some 8, .alloc 3 [(.d (.int .i64 0)), (.nils 4)], none⟩,
      ⟨none, .st 3 (.tmp 7) (.tmp 37), none⟩,
      ⟨none, .st 2 (.tmp 8) (.tmp 38), none⟩,
      ⟨some 9, .mov (.tmp 39), none⟩] [(0, 2), (1, 2), (0, 4), (1, 4), (2, 4), (3, 4), (8, 9), (8, 10), (9, 10), (0, 11), (1, 11), (2, 11), (3, 11), (4, 11), (5, 11), (6, 11), (7, 11), (8, 11), (9, 11), (10, 11), (0, 12), (1, 12), (2, 12), (3, 12), (4, 12), (5, 12), (6, 12), (7, 12), (8, 12), (9, 12), (10, 12), (11, 12), (9, 13), (10, 13), (10, 14)])
 (.seq
 (.regd [4] [⟨some 40, .ld true 3 (.tmp 3), none⟩,
       ⟨some 41, .call 36 [(.tmp 40)], none⟩,
       ⟨some 42, .ld true 2 (.tmp 4), none⟩,
       ⟨some 43, .call 38 [(.tmp 42)], none⟩,
       ⟨some 44, .mov (.tmp 2), none⟩,
       ⟨some 45, .call 51 [(.tmp 44)], none⟩,
       ⟨some 46, .bsl 4 3 1 3 [(.int .i64 0), (.int .i64 0), (.int .i64 0)] [(0, (.tmp 41)), (1, (.tmp 43)), (2, (.tmp 45))], none⟩,
       ⟨some 47, .call 37 [(.tmp 46)], none⟩,
       ⟨some 10, .mov (.tmp 47), none⟩] [(0, 2), (1, 2), (0, 4), (1, 4), (2, 4), (3, 4)])
 (.seq
 (.reg [5] [⟨some 11, .alloc 5 [(.d (.slice 4 [])), (.d (.int .i64 0)), (.d (.int .i64 0))], none⟩])
 (.seq
 (.reg [6] [⟨some 12, .alloc 6 [(.d (.int .i64 0)), (.d (.slice 4 []))], none⟩])
 rest))))))

def ir5b (rest : ACode) : ACode :=
 (.seq
 (.seq
         (.reg [] [⟨some 48, .mov (.tmp 10), none⟩,
           ⟨some 49, .cmp .eql (.tmp 48) (.cst (.d (.int .i64 0))), none⟩])
         (.cond (.tmp 49)
          (.reg [] [⟨some 51, .ld true 3 (.tmp 3), none⟩,
            ⟨some 52, .ld true 2 (.tmp 4), none⟩,
            ⟨some 53, .mov (.tmp 2), none⟩,
            ⟨some 54, .call 52 [(.tmp 51), (.tmp 52), (.tmp 53)], none⟩,
            ⟨some 50, .mov (.tmp 54), none⟩,
            ⟨some 55, .ext 0 (.tmp 50), none⟩,
            ⟨some 56, .ext 1 (.tmp 50), none⟩,
            ⟨some 57, .ext 2 (.tmp 50), none⟩,
            ⟨none, .st 3 (.tmp 11) (.tmp 55), none⟩,
            ⟨none, .st 2 (.tmp 12) (.tmp 56), none⟩,
            ⟨some 10, .mov (.tmp 57), none⟩])
          .skip))
 rest)

def ir5c : ACode :=
 (.seq
 (.reg [] [⟨some 58, .ld true 3 (.tmp 7), none⟩,
           ⟨some 59, .ld true 3 (.tmp 11), none⟩,
           ⟨some 60, .call 47 [(.tmp 58), (.tmp 59)], none⟩,
           ⟨some 61, .mov (.tmp 60), none⟩,
           ⟨some 62, .ld true 2 (.tmp 8), some (61, true)⟩,
           ⟨some 63, .ld true 2 (.tmp 12), some (61, true)⟩,
           ⟨some 64, .call 46 [(.tmp 62), (.tmp 63)], some (61, true)⟩,
           ⟨some 65, .pick (.tmp 61) (.tmp 64) (.cst (.d (.bool false))), none⟩,
           ⟨some 66, .mov (.tmp 65), none⟩,
           ⟨some 67, .mov (.tmp 9), some (66, true)⟩,
           ⟨some 68, .mov (.tmp 10), some (66, true)⟩,
           ⟨some 69, .cmp .eql (.tmp 67) (.tmp 68), some (66, true)⟩,
           ⟨some 70, .pick (.tmp 66) (.tmp 69) (.cst (.d (.bool false))), none⟩,
           ⟨some 71, .mov (.tmp 70), none⟩,
           ⟨some 72, .call 12 [], some (71, true)⟩,
           ⟨some 73, .pick (.tmp 71) (.tmp 72) (.cst (.d (.bool false))), none⟩,
           ⟨some 6, .mov (.tmp 73), none⟩])
 .ret)

def ir5 : AFun := ⟨74, 7, [.tmp 6], (ir5a (.keep [2, 3, 4, 6, 7, 8, 9, 10, 11, 12] [4] (ir5b (.keep [6, 7, 8, 9, 10, 11, 12] [] ir5c))))⟩

theorem a5 (s : Sn) (r : Rc) (l : List Rd) (hs : s.q.length ≤ 1048576) (hsb : ∀ f ∈ s.q, f.b.length ≤ 1048576) (hso : ∀ f ∈ s.q, f.ok)
    (hr : r.l.length ≤ 1048576) (hrb : ∀ f ∈ r.l, f.b.length ≤ 1048576) (hro : ∀ f ∈ r.l, f.ok) (hl : l.length ≤ 1048576) (hls : ∀ x ∈ l, x.small)
    (c : ACode) (hc : vc Tryz.prog 74 c ⟨[(2, .d (.slice 3 (rds l))), (3, .ptr 0 0), (4, .ptr 1 0), (6, .d (.bool false)), (7, .ptr 2 0), (8, .ptr 3 0), (9, .d (.int .i64 (exP s r l).2.2)), (10, .d (.int .i64 (exE s r l))), (11, .ptr 5 0), (12, .ptr 6 0)], [.cbox [.slice 4 (frs s.q), .int .i64 s.a, .int .i64 s.w], .cbox [.int .i64 r.t, .slice 4 (frs r.l)], .box [.d (.slice 4 (frs (exP s r l).1.q)), .d (.int .i64 (exP s r l).1.a), .d (.int .i64 (exP s r l).1.w)], .box [.d (.int .i64 (exP s r l).2.1.t), .d (.slice 4 (frs (exP s r l).2.1.l))], .none, .box [.d (.slice 4 []), .d (.int .i64 0), .d (.int .i64 0)], .box [.d (.int .i64 0), .d (.slice 4 [])]]⟩ (postF ir5 [.bool true])) :
    vc Tryz.prog 74 (ir5a (.keep [2, 3, 4, 6, 7, 8, 9, 10, 11, 12] [4] c)) (startS ir5 [.d s.d, .d r.d, .d (.slice 3 (rds l))]) (postF ir5 [.bool true]) := by
  refine Exists.intro _ (And.intro (c11 s.q hs) ?_)
  refine brk_intro ?_ ?_
  · intro _
    repeat refine And.intro rfl ?_
    refine Exists.intro _ (And.intro c12 ?_)
    exact rfl
  intro _
  refine Exists.intro _ (And.intro (c11 r.l hr) ?_)
  repeat refine And.intro rfl ?_
  refine brk_intro ?_ ?_
  · intro _
    repeat refine And.intro rfl ?_
    refine Exists.intro _ (And.intro c12 ?_)
    exact rfl
  intro _
  refine Exists.intro _ (And.intro (c48 l hl) ?_)
  repeat refine And.intro rfl ?_
  refine brk_intro ?_ ?_
  · intro _
    refine Exists.intro _ (And.intro c12 ?_)
    exact rfl
  intro _
  refine Exists.intro _ (And.intro (c32 s hs hsb) ?_)
  refine Exists.intro _ (And.intro (c34 r hr hrb) ?_)
  refine Exists.intro _ (And.intro (c50 l hl hls) ?_)
  refine Exists.intro _ (And.intro (c49 s r l hs hr hl hsb hrb hls) ?_)
  repeat refine And.intro rfl ?_
  refine Exists.intro _ (And.intro (c36 s hs hso) ?_)
  refine Exists.intro _ (And.intro (c38 r hr hro) ?_)
  refine Exists.intro _ (And.intro (c51 l hls) ?_)
  repeat refine And.intro rfl ?_
  refine Exists.intro _ (And.intro (c37 [chkSn s, chkRc r, chkRds l] (by simp)) ?_)
  repeat refine And.intro rfl ?_
  exact hc
theorem b5 (s : Sn) (r : Rc) (l : List Rd) (hs : s.q.length ≤ 1048576) (hsb : ∀ f ∈ s.q, f.b.length ≤ 1048576) (hso : ∀ f ∈ s.q, f.ok)
    (hr : r.l.length ≤ 1048576) (hrb : ∀ f ∈ r.l, f.b.length ≤ 1048576) (hro : ∀ f ∈ r.l, f.ok) (hl : l.length ≤ 1048576) (hls : ∀ x ∈ l, x.small)
    (c : ACode) (hc : ∀ (q9 : List Fr) (a9 w9 t8 : Int) (l8 : List Fr) (n10 : Int), sentB (exP s r l).1 ⟨q9, a9, w9⟩ = true → heardB (exP s r l).2.1 ⟨t8, l8⟩ = true → ((exP s r l).2.2 == n10) = true →  vc Tryz.prog 74 c ⟨[(6, .d (.bool false)), (7, .ptr 2 0), (8, .ptr 3 0), (9, .d (.int .i64 (exP s r l).2.2)), (10, .d (.int .i64 n10)), (11, .ptr 5 0), (12, .ptr 6 0)], [.cbox [.slice 4 (frs s.q), .int .i64 s.a, .int .i64 s.w], .cbox [.int .i64 r.t, .slice 4 (frs r.l)], .box [.d (.slice 4 (frs (exP s r l).1.q)), .d (.int .i64 (exP s r l).1.a), .d (.int .i64 (exP s r l).1.w)], .box [.d (.int .i64 (exP s r l).2.1.t), .d (.slice 4 (frs (exP s r l).2.1.l))], .none, .box [.d (.slice 4 (frs q9)), .d (.int .i64 a9), .d (.int .i64 w9)], .box [.d (.int .i64 t8), .d (.slice 4 (frs l8))]]⟩ (postF ir5 [.bool true])) :
    vc Tryz.prog 74 (ir5b (.keep [6, 7, 8, 9, 10, 11, 12] [] c)) ⟨[(2, .d (.slice 3 (rds l))), (3, .ptr 0 0), (4, .ptr 1 0), (6, .d (.bool false)), (7, .ptr 2 0), (8, .ptr 3 0), (9, .d (.int .i64 (exP s r l).2.2)), (10, .d (.int .i64 (exE s r l))), (11, .ptr 5 0), (12, .ptr 6 0)], [.cbox [.slice 4 (frs s.q), .int .i64 s.a, .int .i64 s.w], .cbox [.int .i64 r.t, .slice 4 (frs r.l)], .box [.d (.slice 4 (frs (exP s r l).1.q)), .d (.int .i64 (exP s r l).1.a), .d (.int .i64 (exP s r l).1.w)], .box [.d (.int .i64 (exP s r l).2.1.t), .d (.slice 4 (frs (exP s r l).2.1.l))], .none, .box [.d (.slice 4 []), .d (.int .i64 0), .d (.int .i64 0)], .box [.d (.int .i64 0), .d (.slice 4 [])]]⟩ (postF ir5 [.bool true]) := by
  refine And.intro rfl ?_
  refine brk_intro ?_ ?_
  · intro h
    have h : (exE s r l == 0) = true := h
    have hE : (exE s r l != 0) = false := by simp only [bne, h]; rfl
    obtain ⟨h1, h2, h3⟩ := exE_zero hE
    have e : exP s r l = exG s r l := by rw [exP, hE]
    refine Exists.intro _ (And.intro (c52 s r l h1 hr hl hls) ?_)
    refine hc _ _ _ _ _ _ ?_ ?_ ?_
    · rw [e]; exact sentB_refl _
    · rw [e]; exact heardB_refl _
    · rw [e]; simp
  · intro h
    have h : (exE s r l == 0) = false := h
    have hE : (exE s r l != 0) = true := by simp only [bne, h]; rfl
    have e : exP s r l = (⟨[], 0, 0⟩, ⟨0, []⟩, exE s r l) := by rw [exP, hE]
    refine hc [] 0 0 0 [] (exE s r l) ?_ ?_ ?_
    · rw [e]; exact sentB_refl _
    · rw [e]; exact heardB_refl _
    · rw [e]; simp
theorem exP_len (s : Sn) (r : Rc) (l : List Rd) (hs : s.q.length ≤ 1048576) : (exP s r l).1.q.length ≤ 1048576 ∧ (exP s r l).2.1.l.length ≤ 1048576 := by
  unfold exP
  cases exE s r l != 0
  · show (exG s r l).1.q.length ≤ 1048576 ∧ (exG s r l).2.1.l.length ≤ 1048576
    unfold exG
    cases fitsB s r
    · exact ⟨Nat.zero_le _, Nat.zero_le _⟩
    · refine ⟨hs, ?_⟩
      show (s.q.take _).length ≤ _
      rw [List.length_take]; omega
  · exact ⟨Nat.zero_le _, Nat.zero_le _⟩
theorem k5 (s : Sn) (r : Rc) (l : List Rd) (hs : s.q.length ≤ 1048576) (hsb : ∀ f ∈ s.q, f.b.length ≤ 1048576) (hso : ∀ f ∈ s.q, f.ok)
    (hr : r.l.length ≤ 1048576) (hrb : ∀ f ∈ r.l, f.b.length ≤ 1048576) (hro : ∀ f ∈ r.l, f.ok) (hl : l.length ≤ 1048576) (hls : ∀ x ∈ l, x.small) (q9 : List Fr) (a9 w9 t8 : Int) (l8 : List Fr) (n10 : Int)
    (e1 : sentB (exP s r l).1 ⟨q9, a9, w9⟩ = true) (e2 : heardB (exP s r l).2.1 ⟨t8, l8⟩ = true) (e3 : ((exP s r l).2.2 == n10) = true) :
    vc Tryz.prog 74 ir5c ⟨[(6, .d (.bool false)), (7, .ptr 2 0), (8, .ptr 3 0), (9, .d (.int .i64 (exP s r l).2.2)), (10, .d (.int .i64 n10)), (11, .ptr 5 0), (12, .ptr 6 0)], [.cbox [.slice 4 (frs s.q), .int .i64 s.a, .int .i64 s.w], .cbox [.int .i64 r.t, .slice 4 (frs r.l)], .box [.d (.slice 4 (frs (exP s r l).1.q)), .d (.int .i64 (exP s r l).1.a), .d (.int .i64 (exP s r l).1.w)], .box [.d (.int .i64 (exP s r l).2.1.t), .d (.slice 4 (frs (exP s r l).2.1.l))], .none, .box [.d (.slice 4 (frs q9)), .d (.int .i64 a9), .d (.int .i64 w9)], .box [.d (.int .i64 t8), .d (.slice 4 (frs l8))]]⟩ (postF ir5 [.bool true]) := by
  obtain ⟨hA, hB⟩ := exP_len s r l hs
  refine Exists.intro _ (And.intro (c47 (exP s r l).1 ⟨q9, a9, w9⟩ hA) ?_)
  repeat refine And.intro rfl ?_
  refine brk_intro (fun _ => ?_) (fun h => absurd (h.symm.trans e1) Bool.false_ne_true)
  refine Exists.intro _ (And.intro (c46 (exP s r l).2.1 ⟨t8, l8⟩ hB) ?_)
  repeat refine And.intro rfl ?_
  refine brk_intro (fun _ => ?_) (fun h => absurd (h.symm.trans e2) Bool.false_ne_true)
  repeat refine And.intro rfl ?_
  refine brk_intro (fun _ => ?_) (fun h => absurd (h.symm.trans e3) Bool.false_ne_true)
  refine Exists.intro _ (And.intro c12 ?_)
  repeat refine And.intro rfl ?_
  exact rfl
theorem c5 (s : Sn) (r : Rc) (l : List Rd) (hs : s.q.length ≤ 1048576) (hsb : ∀ f ∈ s.q, f.b.length ≤ 1048576) (hso : ∀ f ∈ s.q, f.ok)
    (hr : r.l.length ≤ 1048576) (hrb : ∀ f ∈ r.l, f.b.length ≤ 1048576) (hro : ∀ f ∈ r.l, f.ok) (hl : l.length ≤ 1048576) (hls : ∀ x ∈ l, x.small) :
    CallDet Tryz.prog 5 [.d s.d, .d r.d, .d (.slice 3 (rds l))] [.bool true] := by
  refine call_of_vc (x := ir5) (by kernel_rfl) rfl ?_
  refine a5 s r l hs hsb hso hr hrb hro hl hls _ (b5 s r l hs hsb hso hr hrb hro hl hls _ ?_)
  intro q9 a9 w9 t8 l8 n10 e1 e2 e3
  exact k5 s r l hs hsb hso hr hrb hro hl hls q9 a9 w9 t8 l8 n10 e1 e2 e3
end Vc

