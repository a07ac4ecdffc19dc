import Derived.Test.YtfkljdokkfgifaaGreatDoorXb
import Derived.Test.YtfkljdokkfgifaaGreatDoorWg
import Derived.Test.YtfkljdokkfgifaaGreatDoorWc
set_option linter.unusedSectionVars false
set_option linter.unusedVariables false
set_option linter.unusedSimpArgs false
set_option maxRecDepth 10000
namespace Vc
open Go Go.Proofs
/-- kilovar/kilovarlaw04.LinkSteps -/
def ir4a (rest : ACode) : ACode :=
 (.seq
 (.reg [0, 1, 2] [⟨some 3, .cbx 0 3 (.tmp 0), none⟩,
 ⟨some 4, .cbx 1 2 (.tmp 1), none⟩,
 ⟨some 5, .cbx 2 6 (.tmp 2), none⟩,
 ⟨some 6, .mov (.cst (.d (.bool false))), none⟩])
 (.seq
 (.seq
 (.reg [3] [⟨some 23, .fad 0 (.tmp 3), none⟩,
 ⟨some 24, .ld false 1 (.tmp 23), none⟩,
 ⟨some 25, .call 11 [(.tmp 24)], none⟩,
 ⟨some 26, .not (.tmp 25), none⟩,
 ⟨some 27, .mov (.tmp 26), none⟩,
 ⟨some 28, .fad 1 (.tmp 4), some (27, false)⟩,
 ⟨some 29, .ld false 1 (.tmp 28), some (27, false)⟩,
 ⟨some 30, .call 11 [(.tmp 29)], some (27, false)⟩,
 ⟨some 31, .not (.tmp 30), some (27, false)⟩,
 ⟨some 32, .pick (.tmp 27) (.cst (.d (.bool true))) (.tmp 31), none⟩,
 ⟨some 33, .mov (.tmp 32), none⟩,
 ⟨some 34, .fad 0 (.tmp 5), some (33, false)⟩,
 ⟨some 35, .ld true 4 (.tmp 34), some (33, false)⟩,
 ⟨some 36, .bsl 3 46 4 1 [(.agg [(.int .i64 0), (.int .i64 0), (.int .i64 0), (.slice 1 [])])] [(0, (.tmp 35))], some (33, false)⟩,
 ⟨some 37, .call 11 [(.tmp 36)], some (33, false)⟩,
 ⟨some 38, .not (.tmp 37), some (33, false)⟩,
 ⟨some 39, .pick (.tmp 33) (.cst (.d (.bool true))) (.tmp 38), none⟩])
 (.cond (.tmp 39)
 (.seq
 (.reg [] [⟨some 40, .call 12 [], none⟩,
 ⟨some 6, .mov (.tmp 40), none⟩])
 .ret)
 .skip))
 (.seq
 (.reg [] [⟨some 42, .ld true 3 (.tmp 3), none⟩,
 ⟨some 43, .call 32 [(.tmp 42)], none⟩,
 ⟨some 44, .call 31 [(.tmp 43)], none⟩,
 ⟨some 41, .mov (.tmp 44), none⟩,
 ⟨some 45, .ext 0 (.tmp 41), none⟩,
 ⟨some 46, .ext 1 (.tmp 41), none⟩,
 ⟨some 47, .ext 2 (.tmp 41), none⟩,
 ⟨some 7, .mov (.tmp 45), none⟩,
 ⟨some 8, .mov (.tmp 46), none⟩,
 ⟨some 9, .mov (.tmp 47), none⟩])
 (.seq
 (.regd [4] [⟨some 49, .ld true 2 (.tmp 4), none⟩,
 ⟨some 50, .call 34 [(.tmp 49)], none⟩,
 ⟨some 51, .fad 0 (.tmp 5), none⟩,
 ⟨some 52, .ld true 4 (.tmp 51), none⟩,
 ⟨some 53, .call 27 [(.tmp 52)], none⟩,
 ⟨some 54, .fad 4 (.tmp 5), none⟩,
 ⟨some 55, .ld false 1 (.tmp 54), none⟩,
 ⟨some 56, .call 33 [(.tmp 50), (.tmp 53), (.tmp 55)], none⟩,
 ⟨some 48, .mov (.tmp 56), none⟩,
 ⟨some 57, .ext 0 (.tmp 48), none⟩,
 ⟨some 58, .ext 1 (.tmp 48), none⟩,
 ⟨some 59, .ext 2 (.tmp 48), none⟩,
 ⟨some 10, .alloc 4 [(.d (.int .i64 0)), (.nils 4)], none⟩,
 ⟨none, .st 2 (.tmp 10) (.tmp 57), none⟩,
 ⟨some 11, .mov (.tmp 58), none⟩,
 ⟨some 12, .mov (.tmp 59), none⟩] [(0, 2), (1, 2), (0, 3), (1, 3), (0, 5), (1, 5), (2, 5), (3, 5), (4, 5), (0, 6), (1, 6), (2, 6), (3, 6), (4, 6), (9, 10), (9, 11), (10, 11), (0, 12), (1, 12), (2, 12), (3, 12), (4, 12), (5, 12), (6, 12), (7, 12), (8, 12), (9, 12), (10, 12), (11, 12), (10, 13), (11, 13), (11, 14)])
 (.seq
 (.regd [5] [⟨some 61, .ld true 3 (.tmp 3), none⟩,
 ⟨some 62, .call 32 [(.tmp 61)], none⟩,
 ⟨some 63, .fad 5 (.tmp 5), none⟩,
 ⟨some 64, .ld false 1 (.tmp 63), none⟩,
 ⟨some 65, .call 35 [(.tmp 62), (.tmp 64)], none⟩,
 ⟨some 60, .mov (.tmp 65), none⟩,
 ⟨some 66, .ext 0 (.tmp 60), none⟩,
 ⟨some 67, .ext 1 (.tmp 60), none⟩,
 ⟨some 13, .alloc 5 [(.nils 4), (.d (.int .i64 0)), (.d (.int .i64 0))], none⟩,
 ⟨none, .st 3 (.tmp 13) (.tmp 66), none⟩,
 ⟨some 14, .mov (.tmp 67), none⟩] [(0, 2), (1, 2), (0, 3), (1, 3), (6, 7), (0, 8), (1, 8), (2, 8), (3, 8), (4, 8), (5, 8), (6, 8), (7, 8), (7, 9)])
 (.seq
 (.regd [6] [⟨some 68, .ld true 3 (.tmp 3), none⟩,
 ⟨some 69, .call 36 [(.tmp 68)], none⟩,
 ⟨some 70, .ld true 2 (.tmp 4), none⟩,
 ⟨some 71, .call 38 [(.tmp 70)], none⟩,
 ⟨some 72, .fad 0 (.tmp 5), none⟩,
 ⟨some 73, .ld true 4 (.tmp 72), none⟩,
 ⟨some 74, .call 28 [(.tmp 73)], none⟩,
 ⟨some 75, .fad 4 (.tmp 5), none⟩,
 ⟨some 76, .ld false 1 (.tmp 75), none⟩,
 ⟨some 77, .call 39 [(.tmp 76)], none⟩,
 ⟨some 78, .bsl 6 3 1 3 [(.int .i64 0), (.int .i64 0), (.int .i64 0)] [(0, (.tmp 71)), (1, (.tmp 74)), (2, (.tmp 77))], none⟩,
 ⟨some 79, .call 37 [(.tmp 78)], none⟩,
 ⟨some 15, .mov (.tmp 69), none⟩,
 ⟨some 16, .mov (.tmp 79), none⟩] [(0, 2), (1, 2), (0, 4), (1, 4), (2, 4), (3, 4), (0, 5), (1, 5), (2, 5), (3, 5), (0, 7), (1, 7), (2, 7), (3, 7), (4, 7), (5, 7), (6, 7), (0, 8), (1, 8), (2, 8), (3, 8), (4, 8), (5, 8), (6, 8)])
 (.seq
 (.reg [7] [⟨some 80, .mov (.tmp 15), none⟩,
 ⟨some 81, .fad 5 (.tmp 5), none⟩,
 ⟨some 82, .ld false 1 (.tmp 81), none⟩,
 ⟨some 83, .call 39 [(.tmp 82)], none⟩,
 ⟨some 84, .bsl 7 3 1 2 [(.int .i64 0), (.int .i64 0)] [(0, (.tmp 80)), (1, (.tmp 83))], none⟩,
 ⟨some 85, .call 37 [(.tmp 84)], none⟩,
 ⟨some 17, .mov (.tmp 85), none⟩])
 (.seq
 (.reg [] [⟨some 18, .mov (.cst (.d (.slice 4 []))), none⟩])
 (.seq
 (.reg [] [⟨some 19, .mov (.cst (.d (.slice 1 []))), none⟩])
 (.seq
 (.reg [8] [⟨some 20, .alloc 8 [(.d (.int .i64 0)), (.d (.slice 4 []))], none⟩])
 (.seq
 (.reg [9] [⟨some 21, .alloc 9 [(.d (.slice 4 [])), (.d (.int .i64 0)), (.d (.int .i64 0))], none⟩])
 (.seq
 (.reg [] [⟨some 22, .mov (.cst (.d (.int .i64 0))), none⟩])
 rest))))))))))))

def ir4b (rest : ACode) : ACode :=
 (.seq
 (.seq
 (.reg [] [⟨some 86, .mov (.tmp 15), none⟩,
 ⟨some 87, .cmp .eql (.tmp 86) (.cst (.d (.int .i64 0))), none⟩])
 (.cond (.tmp 87)
 (.reg [] [⟨some 89, .ld true 3 (.tmp 3), none⟩,
 ⟨some 90, .call 40 [(.tmp 89)], none⟩,
 ⟨some 88, .mov (.tmp 90), none⟩,
 ⟨some 91, .ext 0 (.tmp 88), none⟩,
 ⟨some 92, .ext 1 (.tmp 88), none⟩,
 ⟨some 18, .mov (.tmp 91), none⟩,
 ⟨some 19, .mov (.tmp 92), none⟩])
 .skip))
 (.seq
 (.seq
 (.reg [] [⟨some 93, .mov (.tmp 16), none⟩,
 ⟨some 94, .cmp .eql (.tmp 93) (.cst (.d (.int .i64 0))), none⟩])
 (.cond (.tmp 94)
 (.seq
 (.reg [] [⟨some 96, .ld true 2 (.tmp 4), none⟩,
 ⟨some 97, .fad 0 (.tmp 5), none⟩,
 ⟨some 98, .ld true 4 (.tmp 97), none⟩,
 ⟨some 99, .fad 4 (.tmp 5), none⟩,
 ⟨some 100, .ld false 1 (.tmp 99), none⟩,
 ⟨some 101, .call 41 [(.tmp 96), (.tmp 98), (.tmp 100)], none⟩,
 ⟨some 95, .mov (.tmp 101), none⟩,
 ⟨some 102, .ext 0 (.tmp 95), none⟩,
 ⟨some 103, .ext 1 (.tmp 95), none⟩,
 ⟨none, .st 2 (.tmp 20) (.tmp 102), none⟩,
 ⟨some 16, .mov (.tmp 103), none⟩])
 (.reg [] [⟨some 104, .fad 0 (.tmp 20), none⟩,
 ⟨some 105, .ld false 1 (.tmp 104), none⟩,
 ⟨some 106, .arith .rem .i64 (.tmp 105) (.cst (.d (.int .i64 16))), none⟩,
 ⟨some 22, .mov (.tmp 106), none⟩]))
 .skip))
 (.seq
 (.seq
 (.reg [] [⟨some 107, .mov (.tmp 17), none⟩,
 ⟨some 108, .cmp .eql (.tmp 107) (.cst (.d (.int .i64 0))), none⟩])
 (.cond (.tmp 108)
 (.reg [] [⟨some 109, .ld true 3 (.tmp 3), none⟩,
 ⟨some 110, .fad 5 (.tmp 5), none⟩,
 ⟨some 111, .ld false 1 (.tmp 110), none⟩,
 ⟨some 112, .call 42 [(.tmp 109), (.tmp 111)], none⟩,
 ⟨none, .st 3 (.tmp 21) (.tmp 112), none⟩])
 .skip))
 rest)))

def ir4c : ACode :=
 (.seq
 (.regd [] [⟨some 113, .ld true 3 (.tmp 3), none⟩,
 ⟨some 114, .call 32 [(.tmp 113)], none⟩,
 ⟨some 115, .call 43 [(.tmp 114)], none⟩,
 ⟨some 116, .mov (.tmp 15), none⟩,
 ⟨some 117, .cmp .eql (.tmp 115) (.tmp 116), none⟩,
 ⟨some 118, .mov (.tmp 117), none⟩,
 ⟨some 119, .ld true 2 (.tmp 4), some (118, true)⟩,
 ⟨some 120, .call 34 [(.tmp 119)], some (118, true)⟩,
 ⟨some 121, .call 44 [(.tmp 120)], some (118, true)⟩,
 ⟨some 122, .ld true 2 (.tmp 4), some (118, true)⟩,
 ⟨some 123, .call 38 [(.tmp 122)], some (118, true)⟩,
 ⟨some 124, .cmp .eql (.tmp 121) (.tmp 123), some (118, true)⟩,
 ⟨some 125, .pick (.tmp 118) (.tmp 124) (.cst (.d (.bool false))), none⟩,
 ⟨some 126, .mov (.tmp 125), none⟩,
 ⟨some 127, .mov (.tmp 7), some (126, true)⟩,
 ⟨some 128, .call 23 [(.tmp 127)], some (126, true)⟩,
 ⟨some 129, .mov (.tmp 18), some (126, true)⟩,
 ⟨some 130, .call 22 [(.tmp 128), (.tmp 129)], some (126, true)⟩,
 ⟨some 131, .pick (.tmp 126) (.tmp 130) (.cst (.d (.bool false))), none⟩,
 ⟨some 132, .mov (.tmp 131), none⟩,
 ⟨some 133, .mov (.tmp 8), some (132, true)⟩,
 ⟨some 134, .mov (.tmp 19), some (132, true)⟩,
 ⟨some 135, .call 45 [(.tmp 133), (.tmp 134)], some (132, true)⟩,
 ⟨some 136, .pick (.tmp 132) (.tmp 135) (.cst (.d (.bool false))), none⟩,
 ⟨some 137, .mov (.tmp 136), none⟩,
 ⟨some 138, .mov (.tmp 9), some (137, true)⟩,
 ⟨some 139, .mov (.tmp 15), some (137, true)⟩,
 ⟨some 140, .cmp .eql (.tmp 138) (.tmp 139), some (137, true)⟩,
 ⟨some 141, .pick (.tmp 137) (.tmp 140) (.cst (.d (.bool false))), none⟩,
 ⟨some 142, .mov (.tmp 141), none⟩,
 ⟨some 143, .ld true 2 (.tmp 10), some (142, true)⟩,
 ⟨some 144, .ld true 2 (.tmp 20), some (142, true)⟩,
 ⟨some 145, .call 46 [(.tmp 143), (.tmp 144)], some (142, true)⟩,
 ⟨some 146, .pick (.tmp 142) (.tmp 145) (.cst (.d (.bool false))), none⟩,
 ⟨some 147, .mov (.tmp 146), none⟩,
 ⟨some 148, .mov (.tmp 11), some (147, true)⟩,
 ⟨some 149, .mov (.tmp 22), some (147, true)⟩,
 ⟨some 150, .cmp .eql (.tmp 148) (.tmp 149), some (147, true)⟩,
 ⟨some 151, .pick (.tmp 147) (.tmp 150) (.cst (.d (.bool false))), none⟩,
 ⟨some 152, .mov (.tmp 151), none⟩,
 ⟨some 153, .mov (.tmp 12), some (152, true)⟩,
 ⟨some 154, .mov (.tmp 16), some (152, true)⟩,
 ⟨some 155, .cmp .eql (.tmp 153) (.tmp 154), some (152, true)⟩,
 ⟨some 156, .pick (.tmp 152) (.tmp 155) (.cst (.d (.bool false))), none⟩,
 ⟨some 157, .mov (.tmp 156), none⟩,
 ⟨some 158, .ld true 3 (.tmp 13), some (157, true)⟩,
 ⟨some 159, .ld true 3 (.tmp 21), some (157, true)⟩,
 ⟨some 160, .call 47 [(.tmp 158), (.tmp 159)], some (157, true)⟩,
 ⟨some 161, .pick (.tmp 157) (.tmp 160) (.cst (.d (.bool false))), none⟩,
 ⟨some 162, .mov (.tmp 161), none⟩,
 ⟨some 163, .mov (.tmp 14), some (162, true)⟩,
 ⟨some 164, .mov (.tmp 17), some (162, true)⟩,
 ⟨some 165, .cmp .eql (.tmp 163) (.tmp 164), some (162, true)⟩,
 ⟨some 166, .pick (.tmp 162) (.tmp 165) (.cst (.d (.bool false))), none⟩,
 ⟨some 167, .mov (.tmp 166), none⟩,
 ⟨some 168, .call 12 [], some (167, true)⟩,
 ⟨some 169, .pick (.tmp 167) (.tmp 168) (.cst (.d (.bool false))), none⟩,
 ⟨some 6, .mov (.tmp 169), none⟩] [(0, 3), (1, 3), (2, 3), (6, 9), (7, 9), (8, 9), (14, 16), (15, 16), (20, 21), (25, 26), (30, 31), (35, 36), (40, 41), (45, 46), (50, 51)])
 .ret)

def ir4 : AFun := ⟨170, 10, [.tmp 6], (ir4a (.keep [3, 4, 5, 6, 7, 8, 9, 10, 11, 12, 13, 14, 15, 16, 17, 18, 19, 20, 21, 22] [3, 6, 7] (ir4b (.keep [3, 4, 6, 7, 8, 9, 10, 11, 12, 13, 14, 15, 16, 17, 18, 19, 20, 21, 22] [] ir4c))))⟩

def twoE (r : Rc) (f : Fr) (n : Int) : Int := firstOf [chkRc r, f.check, within3 n 0 15]
def refH (r : Rc) (f : Fr) (n : Int) : Rc × Int × Int := match twoE r f n == 0 with
  | true => ((hearR r f n).1, (hearR r f n).1.t % 16, (hearR r f n).2)
  | false => (⟨0, []⟩, 0, twoE r f n)
theorem twoE_zero {r : Rc} {f : Fr} {n : Int} (h : twoE r f n = 0) : chkRc r = 0 ∧ f.check = 0 ∧ within3 n 0 15 = 0 :=
  ⟨firstOf_zero h _ (by simp), firstOf_zero h _ (by simp), firstOf_zero h _ (by simp)⟩
theorem hear_ref (r : Rc) (f : Fr) (n : Int) : hearP r f n = refH r f n := by
  cases h : twoE r f n == 0
  · have hE : hearE r f n = twoE r f n := by
      have h' : twoE r f n ≠ 0 := by simpa using h
      unfold hearE twoE at *
      simp only [firstOf] at *
      cases h1 : chkRc r != 0 <;> cases h2 : f.check != 0 <;> cases h3 : within3 n 0 15 != 0 <;> simp [h1, h2, h3] at h' ⊢
    have h2 : (hearE r f n != 0) = true := by rw [hE]; simp only [bne, h]; rfl
    rw [hearP, h2, refH, h, hE]
  · have h0 : twoE r f n = 0 := by simpa using h
    obtain ⟨k1, k2, k3⟩ := twoE_zero h0
    obtain ⟨_, k4, k5⟩ := chkRc_zero k1
    have km : r.t.tmod 16 = r.t % 16 := Int.tmod_eq_emod_of_nonneg (by omega)
    have hE : hearE r f n = bif (n == r.t % 16) && (r.t == 64) then 5 else 0 := by
      unfold hearE
      simp only [firstOf, k1, k2, k3, km]
      cases (n == r.t % 16) <;> cases (r.t == 64) <;> rfl
    rw [refH, h, hearP, hE, km, hearR]
    cases h1 : (n == r.t % 16)
    · simp only [bne, h1]; rfl
    · cases h2 : (r.t == 64)
      · simp only [bne, h1, h2]
        show ((⟨(r.l.length : Int) + 1, r.l ++ [f]⟩ : Rc), ((r.l.length : Int) + 1) % 16, (0 : Int)) = (⟨r.t + 1, r.l ++ [f]⟩, (r.t + 1) % 16, 0)
        rw [k4]
      · simp only [bne, h1, h2]; rfl

theorem hearR_pos {r : Rc} {f : Fr} {n : Int} (h : chkRc r = 0) : 0 ≤ (hearR r f n).1.t := by
  obtain ⟨_, k4, k5⟩ := chkRc_zero h
  unfold hearR
  cases (n != r.t % 16)
  · cases (r.t == 64)
    · show 0 ≤ r.t + 1; omega
    · show (0 : Int) ≤ 0; omega
  · show 0 ≤ r.t; omega
theorem heardB_refl (x : Rc) : heardB x x = true := by simp [heardB, frs_same]
theorem sentB_refl (x : Sn) : sentB x x = true := by simp [sentB, frs_same]

theorem a4 (s : Sn) (r : Rc) (f : Fr) (num ans : Int) (hs : s.q.length ≤ 1048576) (hsb : ∀ f ∈ s.q, f.b.length ≤ 1048576) (hso : ∀ f ∈ s.q, f.ok)
    (hr : r.l.length ≤ 1048576) (hrb : ∀ f ∈ r.l, f.b.length ≤ 1048576) (hro : ∀ f ∈ r.l, f.ok) (hf : f.b.length ≤ 1048576) (hfo : f.ok)
    (c : ACode) (hc : vc Tryz.prog 170 c ⟨[(3, .ptr 0 0), (4, .ptr 1 0), (5, .ptr 2 0), (6, .d (.bool false)), (7, .d (.slice 4 (frs (sentP s).1))), (8, .d (.slice 1 (ints (sentP s).2))), (9, .d (.int .i64 (chkSn s))), (10, .ptr 4 0), (11, .d (.int .i64 (hearP r f num).2.1)), (12, .d (.int .i64 (hearP r f num).2.2)), (13, .ptr 5 0), (14, .d (.int .i64 (ackE s ans))), (15, .d (.int .i64 (chkSn s))), (16, .d (.int .i64 (twoE r f num))), (17, .d (.int .i64 (ackE s ans))), (18, .d (.slice 4 [])), (19, .d (.slice 1 [])), (20, .ptr 8 0), (21, .ptr 9 0), (22, .d (.int .i64 0))], [.cbox [.slice 4 (frs s.q), .int .i64 s.a, .int .i64 s.w], .cbox [.int .i64 r.t, .slice 4 (frs r.l)], .cbox [.int .i64 f.m, .int .i64 f.p, .int .i64 f.n, .slice 1 (f.b.map byt), .int .i64 num, .int .i64 ans], .none, .box [.d (.int .i64 (hearP r f num).1.t), .d (.slice 4 (frs (hearP r f num).1.l))], .box [.d (.slice 4 (frs (ackS s ans).q)), .d (.int .i64 (ackS s ans).a), .d (.int .i64 (ackS s ans).w)], .none, .none, .box [.d (.int .i64 0), .d (.slice 4 [])], .box [.d (.slice 4 []), .d (.int .i64 0), .d (.int .i64 0)]]⟩ (postF ir4 [.bool true])) :
    vc Tryz.prog 170 (ir4a (.keep [3, 4, 5, 6, 7, 8, 9, 10, 11, 12, 13, 14, 15, 16, 17, 18, 19, 20, 21, 22] [3, 6, 7] c)) (startS ir4 [.d s.d, .d r.d, .d (.agg [.int .i64 f.m, .int .i64 f.p, .int .i64 f.n, .slice 1 (f.b.map byt), .int .i64 num, .int .i64 ans])]) (postF ir4 [.bool true]) := by
  refine Exists.intro _ (And.intro (c11 s.q hs) ?_)
  refine brk_intro ?_ ?_
  · intro _
    repeat refine And.intro rfl ?_
    refine Exists.intro _ (And.intro c12 ?_)
    exact rfl
  intro _
  refine Exists.intro _ (And.intro (c11 r.l hr) ?_)
  repeat refine And.intro rfl ?_
  refine brk_intro ?_ ?_
  · intro _
    repeat refine And.intro rfl ?_
    refine Exists.intro _ (And.intro c12 ?_)
    exact rfl
  intro _
  repeat refine And.intro rfl ?_
  refine Exists.intro _ (And.intro (c11 [f] (by simp)) ?_)
  repeat refine And.intro rfl ?_
  refine brk_intro ?_ ?_
  · intro _
    refine Exists.intro _ (And.intro c12 ?_)
    exact rfl
  intro _
  refine Exists.intro _ (And.intro (c32 s hs hsb) ?_)
  refine Exists.intro _ (And.intro (c31 s hs) ?_)
  refine Exists.intro _ (And.intro (c34 r hr hrb) ?_)
  refine Exists.intro _ (And.intro (c27 f hf) ?_)
  refine Exists.intro _ (And.intro (c33 r f num hr) ?_)
  repeat refine And.intro rfl ?_
  refine Exists.intro _ (And.intro (c32 s hs hsb) ?_)
  refine Exists.intro _ (And.intro (c35 s ans hs) ?_)
  repeat refine And.intro rfl ?_
  refine Exists.intro _ (And.intro (c36 s hs hso) ?_)
  refine Exists.intro _ (And.intro (c38 r hr hro) ?_)
  refine Exists.intro _ (And.intro (c28 f hfo) ?_)
  refine Exists.intro _ (And.intro (c39 num) ?_)
  repeat refine And.intro rfl ?_
  refine Exists.intro _ (And.intro (c37 [chkRc r, f.check, within3 num 0 15] (by simp)) ?_)
  refine Exists.intro _ (And.intro (c39 ans) ?_)
  repeat refine And.intro rfl ?_
  refine Exists.intro _ (And.intro (c37 [chkSn s, within3 ans 0 15] (by simp)) ?_)
  repeat refine And.intro rfl ?_
  exact hc
theorem b4 (s : Sn) (r : Rc) (f : Fr) (num ans : Int) (hs : s.q.length ≤ 1048576) (hsb : ∀ f ∈ s.q, f.b.length ≤ 1048576) (hso : ∀ f ∈ s.q, f.ok)
    (hr : r.l.length ≤ 1048576) (hrb : ∀ f ∈ r.l, f.b.length ≤ 1048576) (hro : ∀ f ∈ r.l, f.ok) (hf : f.b.length ≤ 1048576) (hfo : f.ok)
    (c : ACode) (hc : ∀ (X : List Fr) (I : List Int) (t8 : Int) (l8 : List Fr) (t22 n16 : Int) (q9 : List Fr) (a9 w9 : Int), sameFrames (sentP s).1 X = true → ((sentP s).2 == I) = true → heardB (hearP r f num).1 ⟨t8, l8⟩ = true → ((hearP r f num).2.1 == t22) = true → ((hearP r f num).2.2 == n16) = true → sentB (ackS s ans) ⟨q9, a9, w9⟩ = true →  vc Tryz.prog 170 c ⟨[(3, .ptr 0 0), (4, .ptr 1 0), (6, .d (.bool false)), (7, .d (.slice 4 (frs (sentP s).1))), (8, .d (.slice 1 (ints (sentP s).2))), (9, .d (.int .i64 (chkSn s))), (10, .ptr 4 0), (11, .d (.int .i64 (hearP r f num).2.1)), (12, .d (.int .i64 (hearP r f num).2.2)), (13, .ptr 5 0), (14, .d (.int .i64 (ackE s ans))), (15, .d (.int .i64 (chkSn s))), (16, .d (.int .i64 n16)), (17, .d (.int .i64 (ackE s ans))), (18, .d (.slice 4 (frs X))), (19, .d (.slice 1 (ints I))), (20, .ptr 8 0), (21, .ptr 9 0), (22, .d (.int .i64 t22))], [.cbox [.slice 4 (frs s.q), .int .i64 s.a, .int .i64 s.w], .cbox [.int .i64 r.t, .slice 4 (frs r.l)], .cbox [.int .i64 f.m, .int .i64 f.p, .int .i64 f.n, .slice 1 (f.b.map byt), .int .i64 num, .int .i64 ans], .none, .box [.d (.int .i64 (hearP r f num).1.t), .d (.slice 4 (frs (hearP r f num).1.l))], .box [.d (.slice 4 (frs (ackS s ans).q)), .d (.int .i64 (ackS s ans).a), .d (.int .i64 (ackS s ans).w)], .none, .none, .box [.d (.int .i64 t8), .d (.slice 4 (frs l8))], .box [.d (.slice 4 (frs q9)), .d (.int .i64 a9), .d (.int .i64 w9)]]⟩ (postF ir4 [.bool true])) :
    vc Tryz.prog 170 (ir4b (.keep [3, 4, 6, 7, 8, 9, 10, 11, 12, 13, 14, 15, 16, 17, 18, 19, 20, 21, 22] [] c)) ⟨[(3, .ptr 0 0), (4, .ptr 1 0), (5, .ptr 2 0), (6, .d (.bool false)), (7, .d (.slice 4 (frs (sentP s).1))), (8, .d (.slice 1 (ints (sentP s).2))), (9, .d (.int .i64 (chkSn s))), (10, .ptr 4 0), (11, .d (.int .i64 (hearP r f num).2.1)), (12, .d (.int .i64 (hearP r f num).2.2)), (13, .ptr 5 0), (14, .d (.int .i64 (ackE s ans))), (15, .d (.int .i64 (chkSn s))), (16, .d (.int .i64 (twoE r f num))), (17, .d (.int .i64 (ackE s ans))), (18, .d (.slice 4 [])), (19, .d (.slice 1 [])), (20, .ptr 8 0), (21, .ptr 9 0), (22, .d (.int .i64 0))], [.cbox [.slice 4 (frs s.q), .int .i64 s.a, .int .i64 s.w], .cbox [.int .i64 r.t, .slice 4 (frs r.l)], .cbox [.int .i64 f.m, .int .i64 f.p, .int .i64 f.n, .slice 1 (f.b.map byt), .int .i64 num, .int .i64 ans], .none, .box [.d (.int .i64 (hearP r f num).1.t), .d (.slice 4 (frs (hearP r f num).1.l))], .box [.d (.slice 4 (frs (ackS s ans).q)), .d (.int .i64 (ackS s ans).a), .d (.int .i64 (ackS s ans).w)], .none, .none, .box [.d (.int .i64 0), .d (.slice 4 [])], .box [.d (.slice 4 []), .d (.int .i64 0), .d (.int .i64 0)]]⟩ (postF ir4 [.bool true]) := by
  have hh := hear_ref r f num
  refine And.intro rfl ?_
  refine brk_intro ?_ ?_
  · intro h
    have h : (chkSn s == 0) = true := h
    have h0 : chkSn s = 0 := eq_of_beq h
    have hS : sentP s = (sentF s, sentI s) := by rw [sentP, show (chkSn s != 0) = false by simp only [bne, h]; rfl]
    have e2 : sameFrames (sentP s).1 (sentF s) = true := by rw [hS]; exact frs_same _
    have e3 : ((sentP s).2 == sentI s) = true := by rw [hS]; simp
    refine Exists.intro _ (And.intro (c40 s h0) ?_)
    repeat refine And.intro rfl ?_
    refine brk_intro ?_ ?_
    · intro h
      have h : (twoE r f num == 0) = true := h
      have k := twoE_zero (eq_of_beq h)
      have hp0 := hearR_pos (f := f) (n := num) k.1
      have hP : hearP r f num = ((hearR r f num).1, (hearR r f num).1.t % 16, (hearR r f num).2) := by rw [hh, refH, h]
      have e4 : heardB (hearP r f num).1 (hearR r f num).1 = true := by rw [hP]; exact heardB_refl _
      have e5 : ((hearP r f num).2.1 == (hearR r f num).1.t % 16) = true := by rw [hP]; simp
      have e6 : ((hearP r f num).2.2 == (hearR r f num).2) = true := by rw [hP]; simp
      refine Exists.intro _ (And.intro (c41 r f num k.1) ?_)
      have hA : 0 ≤ (hearR r f num).1.t ∧ (1 : Int) ≤ 16 := by omega
      refine ar_rem hA ?_
      repeat refine And.intro rfl ?_
      refine brk_intro ?_ ?_
      · intro h
        have h : (ackE s ans == 0) = true := h
        have k := ackE_zero (eq_of_beq h)
        have hA : ackS s ans = ⟨s.q, acked s ans, s.w⟩ := by rw [ackS, show (ackE s ans != 0) = false by simp only [bne, h]; rfl]
        have e7 : sentB (ackS s ans) ⟨s.q, acked s ans, s.w⟩ = true := by rw [hA]; exact sentB_refl _
        refine Exists.intro _ (And.intro (c42 s ans k.1 k.2) ?_)
        exact hc (sentF s) (sentI s) (hearR r f num).1.t (hearR r f num).1.l ((hearR r f num).1.t % 16) (hearR r f num).2 s.q (acked s ans) s.w e2 e3 e4 e5 e6 e7
      · intro h
        have h : (ackE s ans == 0) = false := h
        have hA : ackS s ans = ⟨[], 0, 0⟩ := by rw [ackS, show (ackE s ans != 0) = true by simp only [bne, h]; rfl]
        have e7 : sentB (ackS s ans) ⟨[], 0, 0⟩ = true := by rw [hA]; exact sentB_refl _
        exact hc (sentF s) (sentI s) (hearR r f num).1.t (hearR r f num).1.l ((hearR r f num).1.t % 16) (hearR r f num).2 [] 0 0 e2 e3 e4 e5 e6 e7
    · intro h
      have h : (twoE r f num == 0) = false := h
      have hP : hearP r f num = (⟨0, []⟩, 0, twoE r f num) := by rw [hh, refH, h]
      have e4 : heardB (hearP r f num).1 ⟨0, []⟩ = true := by rw [hP]; exact heardB_refl _
      have e5 : ((hearP r f num).2.1 == 0) = true := by rw [hP]; rfl
      have e6 : ((hearP r f num).2.2 == twoE r f num) = true := by rw [hP]; simp
      repeat refine And.intro rfl ?_
      refine brk_intro ?_ ?_
      · intro h
        have h : (ackE s ans == 0) = true := h
        have k := ackE_zero (eq_of_beq h)
        have hA : ackS s ans = ⟨s.q, acked s ans, s.w⟩ := by rw [ackS, show (ackE s ans != 0) = false by simp only [bne, h]; rfl]
        have e7 : sentB (ackS s ans) ⟨s.q, acked s ans, s.w⟩ = true := by rw [hA]; exact sentB_refl _
        refine Exists.intro _ (And.intro (c42 s ans k.1 k.2) ?_)
        exact hc (sentF s) (sentI s) 0 [] 0 (twoE r f num) s.q (acked s ans) s.w e2 e3 e4 e5 e6 e7
      · intro h
        have h : (ackE s ans == 0) = false := h
        have hA : ackS s ans = ⟨[], 0, 0⟩ := by rw [ackS, show (ackE s ans != 0) = true by simp only [bne, h]; rfl]
        have e7 : sentB (ackS s ans) ⟨[], 0, 0⟩ = true := by rw [hA]; exact sentB_refl _
        exact hc (sentF s) (sentI s) 0 [] 0 (twoE r f num) [] 0 0 e2 e3 e4 e5 e6 e7
  · intro h
    have h : (chkSn s == 0) = false := h
    have hS : sentP s = ([], []) := by rw [sentP, show (chkSn s != 0) = true by simp only [bne, h]; rfl]
    have e2 : sameFrames (sentP s).1 [] = true := by rw [hS]; rfl
    have e3 : ((sentP s).2 == []) = true := by rw [hS]; rfl
    repeat refine And.intro rfl ?_
    refine brk_intro ?_ ?_
    · intro h
      have h : (twoE r f num == 0) = true := h
      have k := twoE_zero (eq_of_beq h)
      have hp0 := hearR_pos (f := f) (n := num) k.1
      have hP : hearP r f num = ((hearR r f num).1, (hearR r f num).1.t % 16, (hearR r f num).2) := by rw [hh, refH, h]
      have e4 : heardB (hearP r f num).1 (hearR r f num).1 = true := by rw [hP]; exact heardB_refl _
      have e5 : ((hearP r f num).2.1 == (hearR r f num).1.t % 16) = true := by rw [hP]; simp
      have e6 : ((hearP r f num).2.2 == (hearR r f num).2) = true := by rw [hP]; simp
      refine Exists.intro _ (And.intro (c41 r f num k.1) ?_)
      have hA : 0 ≤ (hearR r f num).1.t ∧ (1 : Int) ≤ 16 := by omega
      refine ar_rem hA ?_
      repeat refine And.intro rfl ?_
      refine brk_intro ?_ ?_
      · intro h
        have h : (ackE s ans == 0) = true := h
        have k := ackE_zero (eq_of_beq h)
        have hA : ackS s ans = ⟨s.q, acked s ans, s.w⟩ := by rw [ackS, show (ackE s ans != 0) = false by simp only [bne, h]; rfl]
        have e7 : sentB (ackS s ans) ⟨s.q, acked s ans, s.w⟩ = true := by rw [hA]; exact sentB_refl _
        refine Exists.intro _ (And.intro (c42 s ans k.1 k.2) ?_)
        exact hc [] [] (hearR r f num).1.t (hearR r f num).1.l ((hearR r f num).1.t % 16) (hearR r f num).2 s.q (acked s ans) s.w e2 e3 e4 e5 e6 e7
      · intro h
        have h : (ackE s ans == 0) = false := h
        have hA : ackS s ans = ⟨[], 0, 0⟩ := by rw [ackS, show (ackE s ans != 0) = true by simp only [bne, h]; rfl]
        have e7 : sentB (ackS s ans) ⟨[], 0, 0⟩ = true := by rw [hA]; exact sentB_refl _
        exact hc [] [] (hearR r f num).1.t (hearR r f num).1.l ((hearR r f num).1.t % 16) (hearR r f num).2 [] 0 0 e2 e3 e4 e5 e6 e7
    · intro h
      have h : (twoE r f num == 0) = false := h
      have hP : hearP r f num = (⟨0, []⟩, 0, twoE r f num) := by rw [hh, refH, h]
      have e4 : heardB (hearP r f num).1 ⟨0, []⟩ = true := by rw [hP]; exact heardB_refl _
      have e5 : ((hearP r f num).2.1 == 0) = true := by rw [hP]; rfl
      have e6 : ((hearP r f num).2.2 == twoE r f num) = true := by rw [hP]; simp
      repeat refine And.intro rfl ?_
      refine brk_intro ?_ ?_
      · intro h
        have h : (ackE s ans == 0) = true := h
        have k := ackE_zero (eq_of_beq h)
        have hA : ackS s ans = ⟨s.q, acked s ans, s.w⟩ := by rw [ackS, show (ackE s ans != 0) = false by simp only [bne, h]; rfl]
        have e7 : sentB (ackS s ans) ⟨s.q, acked s ans, s.w⟩ = true := by rw [hA]; exact sentB_refl _
        refine Exists.intro _ (And.intro (c42 s ans k.1 k.2) ?_)
        exact hc [] [] 0 [] 0 (twoE r f num) s.q (acked s ans) s.w e2 e3 e4 e5 e6 e7
      · intro h
        have h : (ackE s ans == 0) = false := h
        have hA : ackS s ans = ⟨[], 0, 0⟩ := by rw [ackS, show (ackE s ans != 0) = true by simp only [bne, h]; rfl]
        have e7 : sentB (ackS s ans) ⟨[], 0, 0⟩ = true := by rw [hA]; exact sentB_refl _
        exact hc [] [] 0 [] 0 (twoE r f num) [] 0 0 e2 e3 e4 e5 e6 e7

theorem k4 (s : Sn) (r : Rc) (f : Fr) (num ans : Int) (hs : s.q.length ≤ 1048576) (hsb : ∀ f ∈ s.q, f.b.length ≤ 1048576) (hso : ∀ f ∈ s.q, f.ok)
    (hr : r.l.length ≤ 1048576) (hrb : ∀ f ∈ r.l, f.b.length ≤ 1048576) (hro : ∀ f ∈ r.l, f.ok) (hf : f.b.length ≤ 1048576) (hfo : f.ok) (X : List Fr) (I : List Int) (t8 : Int) (l8 : List Fr) (t22 n16 : Int) (q9 : List Fr) (a9 w9 : Int)
    (e2 : sameFrames (sentP s).1 X = true) (e3 : ((sentP s).2 == I) = true) (e4 : heardB (hearP r f num).1 ⟨t8, l8⟩ = true) (e5 : ((hearP r f num).2.1 == t22) = true) (e6 : ((hearP r f num).2.2 == n16) = true) (e7 : sentB (ackS s ans) ⟨q9, a9, w9⟩ = true) :
    vc Tryz.prog 170 ir4c ⟨[(3, .ptr 0 0), (4, .ptr 1 0), (6, .d (.bool false)), (7, .d (.slice 4 (frs (sentP s).1))), (8, .d (.slice 1 (ints (sentP s).2))), (9, .d (.int .i64 (chkSn s))), (10, .ptr 4 0), (11, .d (.int .i64 (hearP r f num).2.1)), (12, .d (.int .i64 (hearP r f num).2.2)), (13, .ptr 5 0), (14, .d (.int .i64 (ackE s ans))), (15, .d (.int .i64 (chkSn s))), (16, .d (.int .i64 n16)), (17, .d (.int .i64 (ackE s ans))), (18, .d (.slice 4 (frs X))), (19, .d (.slice 1 (ints I))), (20, .ptr 8 0), (21, .ptr 9 0), (22, .d (.int .i64 t22))], [.cbox [.slice 4 (frs s.q), .int .i64 s.a, .int .i64 s.w], .cbox [.int .i64 r.t, .slice 4 (frs r.l)], .cbox [.int .i64 f.m, .int .i64 f.p, .int .i64 f.n, .slice 1 (f.b.map byt), .int .i64 num, .int .i64 ans], .none, .box [.d (.int .i64 (hearP r f num).1.t), .d (.slice 4 (frs (hearP r f num).1.l))], .box [.d (.slice 4 (frs (ackS s ans).q)), .d (.int .i64 (ackS s ans).a), .d (.int .i64 (ackS s ans).w)], .none, .none, .box [.d (.int .i64 t8), .d (.slice 4 (frs l8))], .box [.d (.slice 4 (frs q9)), .d (.int .i64 a9), .d (.int .i64 w9)]]⟩ (postF ir4 [.bool true]) := by
  have e0 : (chkSn s == chkSn s) = true := by simp
  have e1 : (chkRc r == chkRc r) = true := by simp
  have e8 : (ackE s ans == ackE s ans) = true := by simp
  have hsp : (sentP s).1.length ≤ 1048576 := by
    unfold sentP
    cases chkSn s != 0
    · show (sentF s).length ≤ _
      simp only [sentF, List.length_take, List.length_drop]; omega
    · exact Nat.zero_le _
  have hsi : (sentP s).2.length ≤ 1048576 := by
    unfold sentP
    cases chkSn s != 0
    · show (sentI s).length ≤ _
      simp only [sentI, List.length_map, List.length_range, sentF, List.length_take, List.length_drop]; omega
    · exact Nat.zero_le _
  have hhl : (hearP r f num).1.l.length ≤ 1048576 := by
    have : (hearP r f num).1.l.length ≤ r.l.length + 1 ∧ (hearE r f num = 0 → r.l.length ≤ 64) := by
      refine ⟨?_, fun h => (chkRc_zero (hearE_zero h).1).2.2⟩
      unfold hearP
      cases hearE r f num != 0
      · cases (num == r.t.tmod 16)
        · show r.l.length ≤ _; omega
        · show (r.l ++ [f]).length ≤ _; simp
      · exact Nat.zero_le _
    by_cases h : hearE r f num = 0
    · have := this.2 h; omega
    · have e : hearP r f num = (⟨0, []⟩, 0, hearE r f num) := by rw [hearP, show (hearE r f num != 0) = true by simpa using h]
      rw [e]; exact Nat.zero_le _
  have hal : (ackS s ans).q.length ≤ 1048576 := by
    unfold ackS
    cases ackE s ans != 0
    · exact hs
    · exact Nat.zero_le _
  refine Exists.intro _ (And.intro (c32 s hs hsb) ?_)
  refine Exists.intro _ (And.intro (c43 s hs) ?_)
  repeat refine And.intro rfl ?_
  refine brk_intro (fun _ => ?_) (fun h => absurd (h.symm.trans e0) Bool.false_ne_true)
  refine Exists.intro _ (And.intro (c34 r hr hrb) ?_)
  refine Exists.intro _ (And.intro (c44 r hr) ?_)
  refine Exists.intro _ (And.intro (c38 r hr hro) ?_)
  repeat refine And.intro rfl ?_
  refine brk_intro (fun _ => ?_) (fun h => absurd (h.symm.trans e1) Bool.false_ne_true)
  refine Exists.intro _ (And.intro (c23 (sentP s).1 hsp) ?_)
  refine Exists.intro _ (And.intro (c22 (sentP s).1 X hsp) ?_)
  repeat refine And.intro rfl ?_
  refine brk_intro (fun _ => ?_) (fun h => absurd (h.symm.trans e2) Bool.false_ne_true)
  refine Exists.intro _ (And.intro (c45 (sentP s).2 I hsi) ?_)
  repeat refine And.intro rfl ?_
  refine brk_intro (fun _ => ?_) (fun h => absurd (h.symm.trans e3) Bool.false_ne_true)
  repeat refine And.intro rfl ?_
  refine brk_intro (fun _ => ?_) (fun h => absurd (h.symm.trans e0) Bool.false_ne_true)
  refine Exists.intro _ (And.intro (c46 (hearP r f num).1 ⟨t8, l8⟩ hhl) ?_)
  repeat refine And.intro rfl ?_
  refine brk_intro (fun _ => ?_) (fun h => absurd (h.symm.trans e4) Bool.false_ne_true)
  repeat refine And.intro rfl ?_
  refine brk_intro (fun _ => ?_) (fun h => absurd (h.symm.trans e5) Bool.false_ne_true)
  repeat refine And.intro rfl ?_
  refine brk_intro (fun _ => ?_) (fun h => absurd (h.symm.trans e6) Bool.false_ne_true)
  refine Exists.intro _ (And.intro (c47 (ackS s ans) ⟨q9, a9, w9⟩ hal) ?_)
  repeat refine And.intro rfl ?_
  refine brk_intro (fun _ => ?_) (fun h => absurd (h.symm.trans e7) Bool.false_ne_true)
  repeat refine And.intro rfl ?_
  refine brk_intro (fun _ => ?_) (fun h => absurd (h.symm.trans e8) Bool.false_ne_true)
  refine Exists.intro _ (And.intro c12 ?_)
  repeat refine And.intro rfl ?_
  exact rfl
theorem c4 (s : Sn) (r : Rc) (f : Fr) (num ans : Int) (hs : s.q.length ≤ 1048576) (hsb : ∀ f ∈ s.q, f.b.length ≤ 1048576) (hso : ∀ f ∈ s.q, f.ok)
    (hr : r.l.length ≤ 1048576) (hrb : ∀ f ∈ r.l, f.b.length ≤ 1048576) (hro : ∀ f ∈ r.l, f.ok) (hf : f.b.length ≤ 1048576) (hfo : f.ok) :
    CallDet Tryz.prog 4 [.d s.d, .d r.d, .d (.agg [.int .i64 f.m, .int .i64 f.p, .int .i64 f.n, .slice 1 (f.b.map byt), .int .i64 num, .int .i64 ans])] [.bool true] := by
  refine call_of_vc (x := ir4) (by kernel_rfl) rfl ?_
  refine a4 s r f num ans hs hsb hso hr hrb hro hf hfo _ (b4 s r f num ans hs hsb hso hr hrb hro hf hfo _ ?_)
  intro X I t8 l8 t22 n16 q9 a9 w9 e2 e3 e4 e5 e6 e7
  exact k4 s r f num ans hs hsb hso hr hrb hro hf hfo X I t8 l8 t22 n16 q9 a9 w9 e2 e3 e4 e5 e6 e7
end Vc

