import Derived.Test.YtfkljdokkfgifaaGreatDoorWf
import Derived.Test.YtfkljdokkfgifaaGreatDoorWc
set_option linter.unusedSectionVars false
set_option linter.unusedVariables false
set_option linter.unusedSimpArgs false
set_option maxRecDepth 10000
namespace Vc
open Go Go.Proofs
/-- kilovar/kilovarlaw04.LinkMessages -/
def ir3 : AFun := ⟨155, 9, [.tmp 6],
 (.seq
  (.reg [0, 1] [⟨some 4, .cbx 0 3 (.tmp 1), none⟩,
    ⟨some 5, .cbx 1 16 (.tmp 2), none⟩,
    ⟨some 6, .mov (.cst (.d (.bool false))), none⟩])
  (.seq
   (.seq
    (.reg [] [⟨some 25, .mov (.tmp 0), none⟩,
      ⟨some 26, .call 11 [(.tmp 25)], none⟩,
      ⟨some 27, .not (.tmp 26), none⟩,
      ⟨some 28, .mov (.tmp 27), none⟩,
      ⟨some 29, .fad 1 (.tmp 4), some (28, false)⟩,
      ⟨some 30, .ld false 1 (.tmp 29), some (28, false)⟩,
      ⟨some 31, .len (.tmp 30), some (28, false)⟩,
      ⟨some 32, .cmp .gtr (.tmp 31) (.cst (.d (.int .i64 300))), some (28, false)⟩,
      ⟨some 33, .pick (.tmp 28) (.cst (.d (.bool true))) (.tmp 32), none⟩])
    (.cond (.tmp 33)
     (.seq
      (.reg [] [⟨some 34, .call 12 [], none⟩,
        ⟨some 6, .mov (.tmp 34), none⟩])
      .ret)
     .skip))
   (.seq
    (.regd [2, 3] [⟨some 36, .fad 0 (.tmp 4), none⟩,
      ⟨some 37, .ld false 1 (.tmp 36), none⟩,
      ⟨some 38, .bsl 2 5 1 0 [] [], none⟩,
      ⟨some 39, .fad 1 (.tmp 4), none⟩,
      ⟨some 40, .ld false 1 (.tmp 39), none⟩,
      ⟨some 41, .app 3 5 1 1 (.tmp 38) (.tmp 40), none⟩,
      ⟨some 42, .fad 2 (.tmp 4), none⟩,
      ⟨some 43, .ld false 1 (.tmp 42), none⟩,
      ⟨some 44, .call 13 [(.tmp 37), (.tmp 41), (.tmp 43)], none⟩,
      ⟨some 35, .mov (.tmp 44), none⟩,
      ⟨some 45, .ext 0 (.tmp 35), none⟩,
      ⟨some 46, .ext 1 (.tmp 35), none⟩,
      ⟨some 7, .mov (.tmp 45), none⟩,
      ⟨some 8, .mov (.tmp 46), none⟩] [(0, 2), (1, 2), (0, 3), (1, 3), (2, 3), (0, 4), (1, 4), (2, 4), (0, 5), (1, 5), (0, 6), (1, 6), (2, 6), (3, 6), (4, 6), (5, 6), (0, 7), (1, 7), (2, 7), (3, 7), (4, 7), (5, 7), (10, 11), (11, 12)])
    (.seq
     (.reg [] [⟨some 48, .mov (.tmp 0), none⟩,
       ⟨some 49, .call 15 [(.tmp 48)], none⟩,
       ⟨some 50, .call 14 [(.tmp 49)], none⟩,
       ⟨some 47, .mov (.tmp 50), none⟩,
       ⟨some 51, .ext 0 (.tmp 47), none⟩,
       ⟨some 52, .ext 1 (.tmp 47), none⟩,
       ⟨some 9, .mov (.tmp 51), none⟩,
       ⟨some 10, .mov (.tmp 52), none⟩])
     (.seq
      (.reg [4] [⟨some 54, .ld true 16 (.tmp 5), none⟩,
        ⟨some 55, .call 16 [(.tmp 54)], none⟩,
        ⟨some 53, .mov (.tmp 55), none⟩,
        ⟨some 56, .ext 0 (.tmp 53), none⟩,
        ⟨some 57, .ext 1 (.tmp 53), none⟩,
        ⟨some 11, .alloc 4 [(.d (.int .i64 0)), (.d (.int .i64 0)), (.d (.int .i64 0)), (.nils 1)], none⟩,
        ⟨none, .st 4 (.tmp 11) (.tmp 56), none⟩,
        ⟨some 12, .mov (.tmp 57), none⟩])
      (.seq
       (.reg [] [⟨some 58, .fad 0 (.tmp 4), none⟩,
         ⟨some 59, .ld false 1 (.tmp 58), none⟩,
         ⟨some 60, .fad 1 (.tmp 4), none⟩,
         ⟨some 61, .ld false 1 (.tmp 60), none⟩,
         ⟨some 62, .fad 2 (.tmp 4), none⟩,
         ⟨some 63, .ld false 1 (.tmp 62), none⟩,
         ⟨some 64, .call 17 [(.tmp 59), (.tmp 61), (.tmp 63)], none⟩,
         ⟨some 65, .mov (.tmp 0), none⟩,
         ⟨some 66, .call 18 [(.tmp 65)], none⟩,
         ⟨some 13, .mov (.tmp 64), none⟩,
         ⟨some 14, .mov (.tmp 66), none⟩])
       (.seq
        (.reg [] [⟨some 15, .mov (.cst (.nils 4)), none⟩])
        (.seq
         (.reg [] [⟨some 16, .mov (.cst (.nils 1)), none⟩])
         (.seq
          (.seq
           (.reg [] [⟨some 67, .mov (.tmp 13), none⟩,
             ⟨some 68, .cmp .eql (.tmp 67) (.cst (.d (.int .i64 0))), none⟩])
           (.cond (.tmp 68)
            (.reg [] [⟨some 69, .fad 0 (.tmp 4), none⟩,
              ⟨some 70, .ld false 1 (.tmp 69), none⟩,
              ⟨some 71, .fad 1 (.tmp 4), none⟩,
              ⟨some 72, .ld false 1 (.tmp 71), none⟩,
              ⟨some 73, .fad 2 (.tmp 4), none⟩,
              ⟨some 74, .ld false 1 (.tmp 73), none⟩,
              ⟨some 75, .call 19 [(.tmp 70), (.tmp 72), (.tmp 74)], none⟩,
              ⟨some 15, .mov (.tmp 75), none⟩])
            .skip))
          (.seq
           (.seq
            (.reg [] [⟨some 76, .mov (.tmp 14), none⟩,
              ⟨some 77, .cmp .eql (.tmp 76) (.cst (.d (.int .i64 0))), none⟩])
            (.cond (.tmp 77)
             (.reg [] [⟨some 79, .mov (.tmp 0), none⟩,
               ⟨some 80, .call 20 [(.tmp 79)], none⟩,
               ⟨some 78, .mov (.tmp 80), none⟩,
               ⟨some 81, .ext 0 (.tmp 78), none⟩,
               ⟨some 82, .ext 1 (.tmp 78), none⟩,
               ⟨some 16, .mov (.tmp 81), none⟩,
               ⟨some 14, .mov (.tmp 82), none⟩])
             .skip))
           (.seq
            (.reg [5] [⟨some 84, .ld true 16 (.tmp 5), none⟩,
              ⟨some 85, .call 21 [(.tmp 84)], none⟩,
              ⟨some 83, .mov (.tmp 85), none⟩,
              ⟨some 86, .ext 0 (.tmp 83), none⟩,
              ⟨some 87, .ext 1 (.tmp 83), none⟩,
              ⟨some 17, .alloc 5 [(.d (.int .i64 0)), (.d (.int .i64 0)), (.d (.int .i64 0)), (.nils 1)], none⟩,
              ⟨none, .st 4 (.tmp 17) (.tmp 86), none⟩,
              ⟨some 18, .mov (.tmp 87), none⟩])
            (.seq
             (.seq
              (.reg [] [⟨some 88, .mov (.tmp 7), none⟩,
                ⟨some 89, .call 23 [(.tmp 88)], none⟩,
                ⟨some 90, .mov (.tmp 15), none⟩,
                ⟨some 91, .call 22 [(.tmp 89), (.tmp 90)], none⟩,
                ⟨some 92, .not (.tmp 91), none⟩,
                ⟨some 93, .mov (.tmp 92), none⟩,
                ⟨some 94, .mov (.tmp 8), some (93, false)⟩,
                ⟨some 95, .mov (.tmp 13), some (93, false)⟩,
                ⟨some 96, .cmp .neq (.tmp 94) (.tmp 95), some (93, false)⟩,
                ⟨some 97, .pick (.tmp 93) (.cst (.d (.bool true))) (.tmp 96), none⟩,
                ⟨some 98, .mov (.tmp 97), none⟩,
                ⟨some 99, .mov (.tmp 9), some (98, false)⟩,
                ⟨some 100, .mov (.tmp 16), some (98, false)⟩,
                ⟨some 101, .call 24 [(.tmp 99), (.tmp 100)], some (98, false)⟩,
                ⟨some 102, .not (.tmp 101), some (98, false)⟩,
                ⟨some 103, .pick (.tmp 98) (.cst (.d (.bool true))) (.tmp 102), none⟩,
                ⟨some 104, .mov (.tmp 103), none⟩,
                ⟨some 105, .mov (.tmp 10), some (104, false)⟩,
                ⟨some 106, .mov (.tmp 14), some (104, false)⟩,
                ⟨some 107, .cmp .neq (.tmp 105) (.tmp 106), some (104, false)⟩,
                ⟨some 108, .pick (.tmp 104) (.cst (.d (.bool true))) (.tmp 107), none⟩,
                ⟨some 109, .mov (.tmp 108), none⟩,
                ⟨some 110, .ld true 4 (.tmp 11), some (109, false)⟩,
                ⟨some 111, .ld true 4 (.tmp 17), some (109, false)⟩,
                ⟨some 112, .call 25 [(.tmp 110), (.tmp 111)], some (109, false)⟩,
                ⟨some 113, .not (.tmp 112), some (109, false)⟩,
                ⟨some 114, .pick (.tmp 109) (.cst (.d (.bool true))) (.tmp 113), none⟩,
                ⟨some 115, .mov (.tmp 114), none⟩,
                ⟨some 116, .mov (.tmp 12), some (115, false)⟩,
                ⟨some 117, .mov (.tmp 18), some (115, false)⟩,
                ⟨some 118, .cmp .neq (.tmp 116) (.tmp 117), some (115, false)⟩,
                ⟨some 119, .pick (.tmp 115) (.cst (.d (.bool true))) (.tmp 118), none⟩])
              (.cond (.tmp 119)
               (.seq
                (.reg [] [⟨some 6, .mov (.cst (.d (.bool false))), none⟩])
                .ret)
               .skip))
             (.seq
              (.seq
               (.reg [] [⟨some 120, .mov (.tmp 0), none⟩,
                 ⟨some 121, .len (.tmp 120), none⟩,
                 ⟨some 122, .mov (.cst (.d (.int .i64 0))), none⟩])
               (.post [] [0, 1, 2, 3, 4, 5, 6, 7, 8]
                (.block 0
                 (.keep [120, 121, 122] [0, 1, 2, 3, 4, 5]
                  (.loop
                   (.post [120, 121, 122] [6, 7, 8]
                    (.seq
                     (.reg [] [⟨some 123, .cmp .lss (.tmp 122) (.tmp 121), none⟩])
                     (.seq
                      (.cond (.tmp 123)
                       .skip
                       (.exit 0))
                      (.seq
                       (.block 1
                        (.seq
                         (.reg [6] [⟨some 124, .ixa 4 (.tmp 120) (.tmp 122), none⟩,
                           ⟨some 125, .ld true 4 (.tmp 124), none⟩,
                           ⟨some 20, .alloc 6 [(.d (.int .i64 0)), (.d (.int .i64 0)), (.d (.int .i64 0)), (.nils 1)], none⟩,
                           ⟨none, .st 4 (.tmp 20) (.tmp 125), none⟩])
                         (.seq
                          (.reg [7] [⟨some 127, .ld true 4 (.tmp 20), none⟩,
                            ⟨some 128, .call 27 [(.tmp 127)], none⟩,
                            ⟨some 129, .call 26 [(.tmp 128)], none⟩,
                            ⟨some 126, .mov (.tmp 129), none⟩,
                            ⟨some 130, .ext 0 (.tmp 126), none⟩,
                            ⟨some 131, .ext 1 (.tmp 126), none⟩,
                            ⟨some 21, .alloc 7 [(.d (.int .u8 0)), (.d (.int .u8 0)), (.d (.int .u8 0)), (.d (.int .u8 0)), (.d (.int .u8 0)), (.d (.int .u8 0)), (.d (.int .u8 0)), (.d (.int .u8 0)), (.d (.int .u8 0)), (.d (.int .u8 0)), (.d (.int .u8 0)), (.d (.int .u8 0)), (.d (.int .u8 0)), (.d (.int .u8 0)), (.d (.int .u8 0)), (.d (.int .u8 0))], none⟩,
                            ⟨none, .st 16 (.tmp 21) (.tmp 130), none⟩,
                            ⟨some 22, .mov (.tmp 131), none⟩])
                          (.seq
                           (.reg [] [⟨some 132, .ld true 4 (.tmp 20), none⟩,
                             ⟨some 133, .call 28 [(.tmp 132)], none⟩,
                             ⟨some 23, .mov (.tmp 133), none⟩])
                           (.seq
                            (.reg [8] [⟨some 24, .alloc 8 [(.d (.int .u8 0)), (.d (.int .u8 0)), (.d (.int .u8 0)), (.d (.int .u8 0)), (.d (.int .u8 0)), (.d (.int .u8 0)), (.d (.int .u8 0)), (.d (.int .u8 0)), (.d (.int .u8 0)), (.d (.int .u8 0)), (.d (.int .u8 0)), (.d (.int .u8 0)), (.d (.int .u8 0)), (.d (.int .u8 0)), (.d (.int .u8 0)), (.d (.int .u8 0))], none⟩])
                            (.seq
                             (.seq
                              (.reg [] [⟨some 134, .mov (.tmp 23), none⟩,
                                ⟨some 135, .cmp .eql (.tmp 134) (.cst (.d (.int .i64 0))), none⟩])
                              (.cond (.tmp 135)
                               (.reg [] [⟨some 136, .ld true 4 (.tmp 20), none⟩,
                                 ⟨some 137, .call 29 [(.tmp 136)], none⟩,
                                 ⟨none, .st 16 (.tmp 24) (.tmp 137), none⟩])
                               .skip))
                             (.seq
                              (.reg [] [⟨some 138, .ld true 4 (.tmp 20), none⟩,
                                ⟨some 139, .call 27 [(.tmp 138)], none⟩,
                                ⟨some 140, .call 30 [(.tmp 139)], none⟩,
                                ⟨some 141, .mov (.tmp 23), none⟩,
                                ⟨some 142, .cmp .neq (.tmp 140) (.tmp 141), none⟩,
                                ⟨some 143, .mov (.tmp 142), none⟩,
                                ⟨some 144, .ld true 16 (.tmp 21), some (143, false)⟩,
                                ⟨some 145, .ld true 16 (.tmp 24), some (143, false)⟩,
                                ⟨some 146, .aeq true [0, 0, 0, 0, 0, 0, 0, 0, 0, 0, 0, 0, 0, 0, 0, 0] (.tmp 144) (.tmp 145), some (143, false)⟩,
                                ⟨some 147, .pick (.tmp 143) (.cst (.d (.bool true))) (.tmp 146), none⟩,
                                ⟨some 148, .mov (.tmp 147), none⟩,
                                ⟨some 149, .mov (.tmp 22), some (148, false)⟩,
                                ⟨some 150, .mov (.tmp 23), some (148, false)⟩,
                                ⟨some 151, .cmp .neq (.tmp 149) (.tmp 150), some (148, false)⟩,
                                ⟨some 152, .pick (.tmp 148) (.cst (.d (.bool true))) (.tmp 151), none⟩])
                              (.cond (.tmp 152)
                               (.seq
                                (.reg [] [⟨some 6, .mov (.cst (.d (.bool false))), none⟩])
                                .ret)
                               .skip))))))))
                       (.reg [] [⟨some 153, .arith .add .i64 (.tmp 122) (.cst (.d (.int .i64 1))), none⟩,
                         ⟨some 122, .mov (.tmp 153), none⟩]))))))))))
              (.seq
               (.reg [] [⟨some 154, .call 12 [], none⟩,
                 ⟨some 6, .mov (.tmp 154), none⟩])
               .ret))))))))))))))⟩


theorem c26a (x : Data) (f : Fr) (hx : x = f.d) (h : (f.check != 0) = true) : CallDet Tryz.prog 26 [.d x] [.agg (List.replicate 16 (.int .u8 0)), .int .i64 f.check] := by
  have := c26 f
  rw [packC, h] at this
  exact hx ▸ this
theorem c26b (x : Data) (f : Fr) (hx : x = f.d) (h : (f.check != 0) = false) : CallDet Tryz.prog 26 [.d x] [.agg (blkC f), .int .i64 f.check] := by
  have := c26 f
  rw [packC, h] at this
  exact hx ▸ this
theorem fr_same (f : Fr) : f.same f = true := by simp [Fr.same]
theorem frs_same : ∀ (l : List Fr), sameFrames l l = true
  | [] => rfl
  | f :: r => by simp only [sameFrames, fr_same, frs_same r]; rfl
theorem cut_ok {n s : Int} {len : Nat} (h : checkCut n len s = 0) : 1 ≤ s ∧ s ≤ 12 ∧ len ≤ 256 ∧ decide (s * 64 < len) = false := by
  cases h1 : cutHead n len s != 0
  · obtain ⟨_, h2, h3, h4, h5⟩ := cutHead_zero h1
    refine ⟨h3, h4, h2, ?_⟩
    cases h6 : decide (s * 64 < (len : Int))
    · rfl
    · rw [h6] at h5; rw [h5] at h; cases h
  · rw [cutHead_check h1] at h
    rw [h] at h1; cases h1
theorem cutL_len (n s : Int) (b : List UInt8) : (cutL n b s).length ≤ 64 := by
  unfold cutL
  cases h : checkCut n b.length s == 0
  · exact Nat.zero_le _
  · obtain ⟨h1, _, _, h2⟩ := cut_ok (eq_of_beq h)
    rw [← many_iff h1] at h2
    show (cutFrs n b s).length ≤ 64
    simp only [cutFrs, List.length_map, List.length_range]
    simp at h2
    omega
theorem eqC_refl (f : Fr) : eqCells (List.replicate 16 0) (dcells (blkC f)) (dcells (blkC f)) = some true := by
  show some _ = _
  simp
def blk16 (x0 x1 x2 x3 x4 x5 x6 x7 x8 x9 x10 x11 x12 x13 x14 x15 : UInt8) : Data := .agg ([x0, x1, x2, x3, x4, x5, x6, x7, x8, x9, x10, x11, x12, x13, x14, x15].map byt)

set_option maxHeartbeats 20000000 in
theorem c3 (l : List Fr) (n s : Int) (b : List UInt8) (x0 x1 x2 x3 x4 x5 x6 x7 x8 x9 x10 x11 x12 x13 x14 x15 : UInt8) (hl : l.length ≤ 1048576) (hb : ∀ f ∈ l, f.b.length ≤ 1048576) (ho : ∀ f ∈ l, f.ok) :
    CallDet Tryz.prog 3 [.d (.slice 4 (frs l)), .d (.agg [.int .i64 n, .slice 1 (b.map byt), .int .i64 s]), .d (.agg ([x0, x1, x2, x3, x4, x5, x6, x7, x8, x9, x10, x11, x12, x13, x14, x15].map byt))] [.bool true] := by
  have hlen := frs_len l
  have hblen : (b.map byt).length = b.length := by simp
  refine call_of_vc (x := ir3) (by kernel_rfl) rfl ?_
  refine Exists.intro _ (And.intro (c11 l hl) ?_)
  refine brk_intro ?_ ?_
  · intro _
    repeat refine And.intro rfl ?_
    refine Exists.intro _ (And.intro c12 ?_)
    exact rfl
  intro _
  refine And.intro rfl ?_
  repeat refine And.intro rfl ?_
  refine brk_intro ?_ ?_
  · intro _
    refine Exists.intro _ (And.intro c12 ?_)
    exact rfl
  intro h
  have h : decide ((300 : Int) < (b.map byt).length) = false := h
  have h300 : b.length ≤ 300 := by have := of_decide_eq_false h; omega
  repeat refine And.intro rfl ?_
  refine And.intro ⟨rfl, rfl, rfl, ?_, ?_⟩ ?_
  · show (0 + (b.map byt).length) * 1 ≤ 2 ^ 47
    omega
  · show 0 + (b.map byt).length ≤ 2 ^ 47
    omega
  repeat refine And.intro rfl ?_
  refine Exists.intro _ (And.intro (c13 n s b) ?_)
  refine Exists.intro _ (And.intro (c15 l hl hb) ?_)
  refine Exists.intro _ (And.intro (c14 l hl) ?_)
  refine Exists.intro _ (And.intro (c16 x0 x1 x2 x3 x4 x5 x6 x7 x8 x9 x10 x11 x12 x13 x14 x15) ?_)
  refine Exists.intro _ (And.intro (c17 n s b) ?_)
  refine Exists.intro _ (And.intro (c18 l hl ho) ?_)
  refine And.intro rfl ?_
  have hcl : (cutL n b s).length ≤ 1048576 := by have := cutL_len n s b; omega
  have e2 : (checkCut n b.length s != checkCut n b.length s) = false := by simp
  have e5 : (!(unp [x0, x1, x2, x3, x4, x5, x6, x7, x8, x9, x10, x11, x12, x13, x14, x15]).same (unp [x0, x1, x2, x3, x4, x5, x6, x7, x8, x9, x10, x11, x12, x13, x14, x15])) = false := by rw [fr_same]; rfl
  have e6 : (unpE [x0, x1, x2, x3, x4, x5, x6, x7, x8, x9, x10, x11, x12, x13, x14, x15] != unpE [x0, x1, x2, x3, x4, x5, x6, x7, x8, x9, x10, x11, x12, x13, x14, x15]) = false := by simp
  refine brk_intro ?_ ?_
  · intro h
    have h : (checkCut n b.length s == 0) = true := h
    have hok := cut_ok (eq_of_beq h)
    have e1 : (!sameFrames (cutL n b s) (cutFrs n b s)) = false := by rw [show cutL n b s = cutFrs n b s by rw [cutL, h]; rfl, frs_same]; rfl
    refine Exists.intro _ (And.intro (c19 n s b ⟨hok.1, hok.2.1⟩ (by omega)) ?_)
    refine And.intro rfl ?_
    refine brk_intro ?_ ?_
    · intro h
      have h : (checkFrames l == 0) = true := h
      have h0 : checkFrames l = 0 := eq_of_beq h
      have hJ : joinL l = joinR l := by rw [joinL, h0]; rfl
      have e3 : (!((joinL l).1 == (joinR l).1)) = false := by rw [hJ]; simp
      have e4 : ((joinL l).2 != (joinR l).2) = false := by rw [hJ]; simp
      refine Exists.intro _ (And.intro (c20 l h0) ?_)
      refine Exists.intro _ (And.intro (c21 x0 x1 x2 x3 x4 x5 x6 x7 x8 x9 x10 x11 x12 x13 x14 x15) ?_)
      refine Exists.intro _ (And.intro (c23 (cutL n b s) hcl) ?_)
      refine Exists.intro _ (And.intro (c22 (cutL n b s) (cutFrs n b s) hcl) ?_)
      refine brk_intro (fun h => absurd (e1.symm.trans h) Bool.false_ne_true) (fun _ => ?_)
      repeat refine And.intro rfl ?_
      refine brk_intro (fun h => absurd (e2.symm.trans h) Bool.false_ne_true) (fun _ => ?_)
      refine Exists.intro _ (And.intro (c24 (joinL l).1 (joinR l).1) ?_)
      repeat refine And.intro rfl ?_
      refine brk_intro (fun h => absurd (e3.symm.trans h) Bool.false_ne_true) (fun _ => ?_)
      repeat refine And.intro rfl ?_
      refine brk_intro (fun h => absurd (e4.symm.trans h) Bool.false_ne_true) (fun _ => ?_)
      refine Exists.intro _ (And.intro (c25 (unp [x0, x1, x2, x3, x4, x5, x6, x7, x8, x9, x10, x11, x12, x13, x14, x15]) (unp [x0, x1, x2, x3, x4, x5, x6, x7, x8, x9, x10, x11, x12, x13, x14, x15])) ?_)
      repeat refine And.intro rfl ?_
      refine brk_intro (fun h => absurd (e5.symm.trans h) Bool.false_ne_true) (fun _ => ?_)
      repeat refine And.intro rfl ?_
      refine brk_intro (fun h => absurd (e6.symm.trans h) Bool.false_ne_true) (fun _ => ?_)
      refine loop_st (fun k : Nat => ⟨[(120, .d (.slice 4 (frs l))), (121, .d (.int .i64 (frs l).length)), (122, .d (.int .i64 k))], [.none, .none, .none, .none, .none, .none, .none, .none, .none]⟩)
        (fun k => k ≤ l.length) (fun k => l.length - k) 0 rfl (Nat.zero_le _) ?_
      intro k hk
      refine And.intro rfl ?_
      refine brk_intro ?_ ?_
      · intro h
        have h : (k : Int) < (frs l).length := of_decide_eq_true h
        refine Exists.elim (⟨_, List.getElem?_eq_getElem (by omega)⟩ : ∃ x, l[k]? = some x) fun x hx => ?_
        have hdx : (frs l)[(k : Int).toNat]? = some x.d := by simp [frs, hx]
        have hm := List.mem_of_getElem? hx
        have e7 : (x.check != x.check) = false := by simp
        refine ix_at hdx (by omega) ?_
        refine Exists.intro _ (And.intro (c27 x (hb x hm)) ?_)
        refine Or.elim (show (x.check != 0) = true ∨ (x.check != 0) = false by cases (x.check != 0) with | true => exact .inl rfl | false => exact .inr rfl) (fun h1 => ?_) (fun h1 => ?_)
        · refine Exists.intro _ (And.intro (c26a x.d x rfl h1) ?_)
          refine Exists.intro _ (And.intro (c28 x (ho x hm)) ?_)
          refine And.intro rfl ?_
          have h2 : (x.check == 0) = false := by cases h3 : x.check == 0 with | false => rfl | true => simp only [bne, h3] at h1; cases h1
          refine brk_intro (fun h => absurd (h2.symm.trans h) Bool.false_ne_true) (fun _ => ?_)
          refine Exists.intro _ (And.intro (c27 x (hb x hm)) ?_)
          refine Exists.intro _ (And.intro (c30 x.m x.p x.n x.b) ?_)
          repeat refine And.intro rfl ?_
          refine brk_intro (fun h => absurd (e7.symm.trans h) Bool.false_ne_true) (fun _ => ?_)
          refine Exists.intro (.bool false) (And.intro ⟨true, rfl, rfl⟩ ?_)
          repeat refine And.intro rfl ?_
          refine brk_intro (fun h => absurd (e7.symm.trans h) Bool.false_ne_true) (fun _ => ?_)
          refine ar_add (by omega) ?_
          exact ⟨k + 1, ⟨by omega, by omega⟩, rfl⟩
        · refine Exists.intro _ (And.intro (c26b x.d x rfl h1) ?_)
          refine Exists.intro _ (And.intro (c28 x (ho x hm)) ?_)
          refine And.intro rfl ?_
          have h2 : (x.check == 0) = true := by cases h3 : x.check == 0 with | true => rfl | false => simp only [bne, h3] at h1; cases h1
          refine brk_intro (fun _ => ?_) (fun h => absurd (h.symm.trans h2) Bool.false_ne_true)
          refine Exists.intro _ (And.intro (c29 x (eq_of_beq h2)) ?_)
          refine Exists.intro _ (And.intro (c27 x (hb x hm)) ?_)
          refine Exists.intro _ (And.intro (c30 x.m x.p x.n x.b) ?_)
          repeat refine And.intro rfl ?_
          refine brk_intro (fun h => absurd (e7.symm.trans h) Bool.false_ne_true) (fun _ => ?_)
          refine Exists.intro (.bool false) (And.intro ⟨true, eqC_refl x, rfl⟩ ?_)
          repeat refine And.intro rfl ?_
          refine brk_intro (fun h => absurd (e7.symm.trans h) Bool.false_ne_true) (fun _ => ?_)
          refine ar_add (by omega) ?_
          exact ⟨k + 1, ⟨by omega, by omega⟩, rfl⟩
      · intro _
        refine Exists.intro _ (And.intro c12 ?_)
        exact rfl
    · intro h
      have h : (checkFrames l == 0) = false := h
      have hJ : joinL l = ([], checkFrames l) := by rw [joinL, show (checkFrames l != 0) = true by simp only [bne, h]; rfl]
      have e3 : (!((joinL l).1 == [])) = false := by rw [hJ]; rfl
      have e4 : ((joinL l).2 != checkFrames l) = false := by rw [hJ]; simp
      refine Exists.intro _ (And.intro (c21 x0 x1 x2 x3 x4 x5 x6 x7 x8 x9 x10 x11 x12 x13 x14 x15) ?_)
      refine Exists.intro _ (And.intro (c23 (cutL n b s) hcl) ?_)
      refine Exists.intro _ (And.intro (c22 (cutL n b s) (cutFrs n b s) hcl) ?_)
      refine brk_intro (fun h => absurd (e1.symm.trans h) Bool.false_ne_true) (fun _ => ?_)
      repeat refine And.intro rfl ?_
      refine brk_intro (fun h => absurd (e2.symm.trans h) Bool.false_ne_true) (fun _ => ?_)
      refine Exists.intro _ (And.intro (c24 (joinL l).1 []) ?_)
      repeat refine And.intro rfl ?_
      refine brk_intro (fun h => absurd (e3.symm.trans h) Bool.false_ne_true) (fun _ => ?_)
      repeat refine And.intro rfl ?_
      refine brk_intro (fun h => absurd (e4.symm.trans h) Bool.false_ne_true) (fun _ => ?_)
      refine Exists.intro _ (And.intro (c25 (unp [x0, x1, x2, x3, x4, x5, x6, x7, x8, x9, x10, x11, x12, x13, x14, x15]) (unp [x0, x1, x2, x3, x4, x5, x6, x7, x8, x9, x10, x11, x12, x13, x14, x15])) ?_)
      repeat refine And.intro rfl ?_
      refine brk_intro (fun h => absurd (e5.symm.trans h) Bool.false_ne_true) (fun _ => ?_)
      repeat refine And.intro rfl ?_
      refine brk_intro (fun h => absurd (e6.symm.trans h) Bool.false_ne_true) (fun _ => ?_)
      refine loop_st (fun k : Nat => ⟨[(120, .d (.slice 4 (frs l))), (121, .d (.int .i64 (frs l).length)), (122, .d (.int .i64 k))], [.none, .none, .none, .none, .none, .none, .none, .none, .none]⟩)
        (fun k => k ≤ l.length) (fun k => l.length - k) 0 rfl (Nat.zero_le _) ?_
      intro k hk
      refine And.intro rfl ?_
      refine brk_intro ?_ ?_
      · intro h
        have h : (k : Int) < (frs l).length := of_decide_eq_true h
        refine Exists.elim (⟨_, List.getElem?_eq_getElem (by omega)⟩ : ∃ x, l[k]? = some x) fun x hx => ?_
        have hdx : (frs l)[(k : Int).toNat]? = some x.d := by simp [frs, hx]
        have hm := List.mem_of_getElem? hx
        have e7 : (x.check != x.check) = false := by simp
        refine ix_at hdx (by omega) ?_
        refine Exists.intro _ (And.intro (c27 x (hb x hm)) ?_)
        refine Or.elim (show (x.check != 0) = true ∨ (x.check != 0) = false by cases (x.check != 0) with | true => exact .inl rfl | false => exact .inr rfl) (fun h1 => ?_) (fun h1 => ?_)
        · refine Exists.intro _ (And.intro (c26a x.d x rfl h1) ?_)
          refine Exists.intro _ (And.intro (c28 x (ho x hm)) ?_)
          refine And.intro rfl ?_
          have h2 : (x.check == 0) = false := by cases h3 : x.check == 0 with | false => rfl | true => simp only [bne, h3] at h1; cases h1
          refine brk_intro (fun h => absurd (h2.symm.trans h) Bool.false_ne_true) (fun _ => ?_)
          refine Exists.intro _ (And.intro (c27 x (hb x hm)) ?_)
          refine Exists.intro _ (And.intro (c30 x.m x.p x.n x.b) ?_)
          repeat refine And.intro rfl ?_
          refine brk_intro (fun h => absurd (e7.symm.trans h) Bool.false_ne_true) (fun _ => ?_)
          refine Exists.intro (.bool false) (And.intro ⟨true, rfl, rfl⟩ ?_)
          repeat refine And.intro rfl ?_
          refine brk_intro (fun h => absurd (e7.symm.trans h) Bool.false_ne_true) (fun _ => ?_)
          refine ar_add (by omega) ?_
          exact ⟨k + 1, ⟨by omega, by omega⟩, rfl⟩
        · refine Exists.intro _ (And.intro (c26b x.d x rfl h1) ?_)
          refine Exists.intro _ (And.intro (c28 x (ho x hm)) ?_)
          refine And.intro rfl ?_
          have h2 : (x.check == 0) = true := by cases h3 : x.check == 0 with | true => rfl | false => simp only [bne, h3] at h1; cases h1
          refine brk_intro (fun _ => ?_) (fun h => absurd (h.symm.trans h2) Bool.false_ne_true)
          refine Exists.intro _ (And.intro (c29 x (eq_of_beq h2)) ?_)
          refine Exists.intro _ (And.intro (c27 x (hb x hm)) ?_)
          refine Exists.intro _ (And.intro (c30 x.m x.p x.n x.b) ?_)
          repeat refine And.intro rfl ?_
          refine brk_intro (fun h => absurd (e7.symm.trans h) Bool.false_ne_true) (fun _ => ?_)
          refine Exists.intro (.bool false) (And.intro ⟨true, eqC_refl x, rfl⟩ ?_)
          repeat refine And.intro rfl ?_
          refine brk_intro (fun h => absurd (e7.symm.trans h) Bool.false_ne_true) (fun _ => ?_)
          refine ar_add (by omega) ?_
          exact ⟨k + 1, ⟨by omega, by omega⟩, rfl⟩
      · intro _
        refine Exists.intro _ (And.intro c12 ?_)
        exact rfl
  · intro h
    have h : (checkCut n b.length s == 0) = false := h
    have e1 : (!sameFrames (cutL n b s) []) = false := by rw [show cutL n b s = [] by rw [cutL, h]; rfl]; rfl
    refine And.intro rfl ?_
    refine brk_intro ?_ ?_
    · intro h
      have h : (checkFrames l == 0) = true := h
      have h0 : checkFrames l = 0 := eq_of_beq h
      have hJ : joinL l = joinR l := by rw [joinL, h0]; rfl
      have e3 : (!((joinL l).1 == (joinR l).1)) = false := by rw [hJ]; simp
      have e4 : ((joinL l).2 != (joinR l).2) = false := by rw [hJ]; simp
      refine Exists.intro _ (And.intro (c20 l h0) ?_)
      refine Exists.intro _ (And.intro (c21 x0 x1 x2 x3 x4 x5 x6 x7 x8 x9 x10 x11 x12 x13 x14 x15) ?_)
      refine Exists.intro _ (And.intro (c23 (cutL n b s) hcl) ?_)
      refine Exists.intro _ (And.intro (c22 (cutL n b s) [] hcl) ?_)
      refine brk_intro (fun h => absurd (e1.symm.trans h) Bool.false_ne_true) (fun _ => ?_)
      repeat refine And.intro rfl ?_
      refine brk_intro (fun h => absurd (e2.symm.trans h) Bool.false_ne_true) (fun _ => ?_)
      refine Exists.intro _ (And.intro (c24 (joinL l).1 (joinR l).1) ?_)
      repeat refine And.intro rfl ?_
      refine brk_intro (fun h => absurd (e3.symm.trans h) Bool.false_ne_true) (fun _ => ?_)
      repeat refine And.intro rfl ?_
      refine brk_intro (fun h => absurd (e4.symm.trans h) Bool.false_ne_true) (fun _ => ?_)
      refine Exists.intro _ (And.intro (c25 (unp [x0, x1, x2, x3, x4, x5, x6, x7, x8, x9, x10, x11, x12, x13, x14, x15]) (unp [x0, x1, x2, x3, x4, x5, x6, x7, x8, x9, x10, x11, x12, x13, x14, x15])) ?_)
      repeat refine And.intro rfl ?_
      refine brk_intro (fun h => absurd (e5.symm.trans h) Bool.false_ne_true) (fun _ => ?_)
      repeat refine And.intro rfl ?_
      refine brk_intro (fun h => absurd (e6.symm.trans h) Bool.false_ne_true) (fun _ => ?_)
      refine loop_st (fun k : Nat => ⟨[(120, .d (.slice 4 (frs l))), (121, .d (.int .i64 (frs l).length)), (122, .d (.int .i64 k))], [.none, .none, .none, .none, .none, .none, .none, .none, .none]⟩)
        (fun k => k ≤ l.length) (fun k => l.length - k) 0 rfl (Nat.zero_le _) ?_
      intro k hk
      refine And.intro rfl ?_
      refine brk_intro ?_ ?_
      · intro h
        have h : (k : Int) < (frs l).length := of_decide_eq_true h
        refine Exists.elim (⟨_, List.getElem?_eq_getElem (by omega)⟩ : ∃ x, l[k]? = some x) fun x hx => ?_
        have hdx : (frs l)[(k : Int).toNat]? = some x.d := by simp [frs, hx]
        have hm := List.mem_of_getElem? hx
        have e7 : (x.check != x.check) = false := by simp
        refine ix_at hdx (by omega) ?_
        refine Exists.intro _ (And.intro (c27 x (hb x hm)) ?_)
        refine Or.elim (show (x.check != 0) = true ∨ (x.check != 0) = false by cases (x.check != 0) with | true => exact .inl rfl | false => exact .inr rfl) (fun h1 => ?_) (fun h1 => ?_)
        · refine Exists.intro _ (And.intro (c26a x.d x rfl h1) ?_)
          refine Exists.intro _ (And.intro (c28 x (ho x hm)) ?_)
          refine And.intro rfl ?_
          have h2 : (x.check == 0) = false := by cases h3 : x.check == 0 with | false => rfl | true => simp only [bne, h3] at h1; cases h1
          refine brk_intro (fun h => absurd (h2.symm.trans h) Bool.false_ne_true) (fun _ => ?_)
          refine Exists.intro _ (And.intro (c27 x (hb x hm)) ?_)
          refine Exists.intro _ (And.intro (c30 x.m x.p x.n x.b) ?_)
          repeat refine And.intro rfl ?_
          refine brk_intro (fun h => absurd (e7.symm.trans h) Bool.false_ne_true) (fun _ => ?_)
          refine Exists.intro (.bool false) (And.intro ⟨true, rfl, rfl⟩ ?_)
          repeat refine And.intro rfl ?_
          refine brk_intro (fun h => absurd (e7.symm.trans h) Bool.false_ne_true) (fun _ => ?_)
          refine ar_add (by omega) ?_
          exact ⟨k + 1, ⟨by omega, by omega⟩, rfl⟩
        · refine Exists.intro _ (And.intro (c26b x.d x rfl h1) ?_)
          refine Exists.intro _ (And.intro (c28 x (ho x hm)) ?_)
          refine And.intro rfl ?_
          have h2 : (x.check == 0) = true := by cases h3 : x.check == 0 with | true => rfl | false => simp only [bne, h3] at h1; cases h1
          refine brk_intro (fun _ => ?_) (fun h => absurd (h.symm.trans h2) Bool.false_ne_true)
          refine Exists.intro _ (And.intro (c29 x (eq_of_beq h2)) ?_)
          refine Exists.intro _ (And.intro (c27 x (hb x hm)) ?_)
          refine Exists.intro _ (And.intro (c30 x.m x.p x.n x.b) ?_)
          repeat refine And.intro rfl ?_
          refine brk_intro (fun h => absurd (e7.symm.trans h) Bool.false_ne_true) (fun _ => ?_)
          refine Exists.intro (.bool false) (And.intro ⟨true, eqC_refl x, rfl⟩ ?_)
          repeat refine And.intro rfl ?_
          refine brk_intro (fun h => absurd (e7.symm.trans h) Bool.false_ne_true) (fun _ => ?_)
          refine ar_add (by omega) ?_
          exact ⟨k + 1, ⟨by omega, by omega⟩, rfl⟩
      · intro _
        refine Exists.intro _ (And.intro c12 ?_)
        exact rfl
    · intro h
      have h : (checkFrames l == 0) = false := h
      have hJ : joinL l = ([], checkFrames l) := by rw [joinL, show (checkFrames l != 0) = true by simp only [bne, h]; rfl]
      have e3 : (!((joinL l).1 == [])) = false := by rw [hJ]; rfl
      have e4 : ((joinL l).2 != checkFrames l) = false := by rw [hJ]; simp
      refine Exists.intro _ (And.intro (c21 x0 x1 x2 x3 x4 x5 x6 x7 x8 x9 x10 x11 x12 x13 x14 x15) ?_)
      refine Exists.intro _ (And.intro (c23 (cutL n b s) hcl) ?_)
      refine Exists.intro _ (And.intro (c22 (cutL n b s) [] hcl) ?_)
      refine brk_intro (fun h => absurd (e1.symm.trans h) Bool.false_ne_true) (fun _ => ?_)
      repeat refine And.intro rfl ?_
      refine brk_intro (fun h => absurd (e2.symm.trans h) Bool.false_ne_true) (fun _ => ?_)
      refine Exists.intro _ (And.intro (c24 (joinL l).1 []) ?_)
      repeat refine And.intro rfl ?_
      refine brk_intro (fun h => absurd (e3.symm.trans h) Bool.false_ne_true) (fun _ => ?_)
      repeat refine And.intro rfl ?_
      refine brk_intro (fun h => absurd (e4.symm.trans h) Bool.false_ne_true) (fun _ => ?_)
      refine Exists.intro _ (And.intro (c25 (unp [x0, x1, x2, x3, x4, x5, x6, x7, x8, x9, x10, x11, x12, x13, x14, x15]) (unp [x0, x1, x2, x3, x4, x5, x6, x7, x8, x9, x10, x11, x12, x13, x14, x15])) ?_)
      repeat refine And.intro rfl ?_
      refine brk_intro (fun h => absurd (e5.symm.trans h) Bool.false_ne_true) (fun _ => ?_)
      repeat refine And.intro rfl ?_
      refine brk_intro (fun h => absurd (e6.symm.trans h) Bool.false_ne_true) (fun _ => ?_)
      refine loop_st (fun k : Nat => ⟨[(120, .d (.slice 4 (frs l))), (121, .d (.int .i64 (frs l).length)), (122, .d (.int .i64 k))], [.none, .none, .none, .none, .none, .none, .none, .none, .none]⟩)
        (fun k => k ≤ l.length) (fun k => l.length - k) 0 rfl (Nat.zero_le _) ?_
      intro k hk
      refine And.intro rfl ?_
      refine brk_intro ?_ ?_
      · intro h
        have h : (k : Int) < (frs l).length := of_decide_eq_true h
        refine Exists.elim (⟨_, List.getElem?_eq_getElem (by omega)⟩ : ∃ x, l[k]? = some x) fun x hx => ?_
        have hdx : (frs l)[(k : Int).toNat]? = some x.d := by simp [frs, hx]
        have hm := List.mem_of_getElem? hx
        have e7 : (x.check != x.check) = false := by simp
        refine ix_at hdx (by omega) ?_
        refine Exists.intro _ (And.intro (c27 x (hb x hm)) ?_)
        refine Or.elim (show (x.check != 0) = true ∨ (x.check != 0) = false by cases (x.check != 0) with | true => exact .inl rfl | false => exact .inr rfl) (fun h1 => ?_) (fun h1 => ?_)
        · refine Exists.intro _ (And.intro (c26a x.d x rfl h1) ?_)
          refine Exists.intro _ (And.intro (c28 x (ho x hm)) ?_)
          refine And.intro rfl ?_
          have h2 : (x.check == 0) = false := by cases h3 : x.check == 0 with | false => rfl | true => simp only [bne, h3] at h1; cases h1
          refine brk_intro (fun h => absurd (h2.symm.trans h) Bool.false_ne_true) (fun _ => ?_)
          refine Exists.intro _ (And.intro (c27 x (hb x hm)) ?_)
          refine Exists.intro _ (And.intro (c30 x.m x.p x.n x.b) ?_)
          repeat refine And.intro rfl ?_
          refine brk_intro (fun h => absurd (e7.symm.trans h) Bool.false_ne_true) (fun _ => ?_)
          refine Exists.intro (.bool false) (And.intro ⟨true, rfl, rfl⟩ ?_)
          repeat refine And.intro rfl ?_
          refine brk_intro (fun h => absurd (e7.symm.trans h) Bool.false_ne_true) (fun _ => ?_)
          refine ar_add (by omega) ?_
          exact ⟨k + 1, ⟨by omega, by omega⟩, rfl⟩
        · refine Exists.intro _ (And.intro (c26b x.d x rfl h1) ?_)
          refine Exists.intro _ (And.intro (c28 x (ho x hm)) ?_)
          refine And.intro rfl ?_
          have h2 : (x.check == 0) = true := by cases h3 : x.check == 0 with | true => rfl | false => simp only [bne, h3] at h1; cases h1
          refine brk_intro (fun _ => ?_) (fun h => absurd (h.symm.trans h2) Bool.false_ne_true)
          refine Exists.intro _ (And.intro (c29 x (eq_of_beq h2)) ?_)
          refine Exists.intro _ (And.intro (c27 x (hb x hm)) ?_)
          refine Exists.intro _ (And.intro (c30 x.m x.p x.n x.b) ?_)
          repeat refine And.intro rfl ?_
          refine brk_intro (fun h => absurd (e7.symm.trans h) Bool.false_ne_true) (fun _ => ?_)
          refine Exists.intro (.bool false) (And.intro ⟨true, eqC_refl x, rfl⟩ ?_)
          repeat refine And.intro rfl ?_
          refine brk_intro (fun h => absurd (e7.symm.trans h) Bool.false_ne_true) (fun _ => ?_)
          refine ar_add (by omega) ?_
          exact ⟨k + 1, ⟨by omega, by omega⟩, rfl⟩
      · intro _
        refine Exists.intro _ (And.intro c12 ?_)
        exact rfl
end Vc

