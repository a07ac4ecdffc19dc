import Derived.Test.YtfkljdokkfgifaaGreatDoorXa
set_option linter.unusedSectionVars false
set_option linter.unusedVariables false
set_option linter.unusedSimpArgs false
set_option maxRecDepth 10000
namespace Vc
open Go Go.Proofs
/-- (kilovar/link.Sender).sent -/
def ir92 : AFun := ⟨4, 1, [.tmp 2],
 (.seq
 (.reg [0] [⟨some 1, .cbx 0 3 (.tmp 0), none⟩,
 ⟨some 2, .mov (.cst .undef), none⟩])
 (.seq
 (.reg [] [⟨some 3, .mkf (.func 132) [] [(.tmp 1)], none⟩,
 ⟨some 2, .mov (.tmp 3), none⟩])
 .ret))⟩

/-- kilovar/link.Sent$1 -/
def ir94 : AFun := ⟨6, 2, [.cell 2 4 true],
 (.seq
 (.reg [0, 1] [⟨some 1, .cbx 0 5 (.tmp 0), none⟩,
 ⟨some 2, .alloc 1 [(.d (.int .i64 0)), (.d (.int .i64 0)), (.d (.int .i64 0)), (.nils 1)], none⟩])
 (.seq
 (.reg [] [⟨some 3, .fad 0 (.tmp 1), none⟩,
 ⟨some 4, .ld true 4 (.tmp 3), none⟩,
 ⟨some 5, .call 84 [(.tmp 4)], none⟩,
 ⟨none, .st 4 (.tmp 2) (.tmp 5), none⟩])
 .ret))⟩

/-- kilovar/link.Sent$2 -/
def ir96 : AFun := ⟨5, 1, [.tmp 2],
 (.seq
 (.reg [0] [⟨some 1, .cbx 0 5 (.tmp 0), none⟩,
 ⟨some 2, .mov (.cst (.d (.int .i64 0))), none⟩])
 (.seq
 (.reg [] [⟨some 3, .fad 4 (.tmp 1), none⟩,
 ⟨some 4, .ld false 1 (.tmp 3), none⟩,
 ⟨some 2, .mov (.tmp 4), none⟩])
 .ret))⟩


def Sn.cap (s : Sn) : Data := .agg [.slice 4 (frs s.q), .int .i64 s.a, .int .i64 s.w]
theorem c92 (s : Sn) : CallDet Tryz.prog 92 [.d s.d] [.fn (.func 132) [s.cap]] := by
  refine call_of_vc (x := ir92) (by kernel_rfl) rfl ?_
  exact rfl
/-- a frame with its number -/
def numD (f : Fr) (n : Int) : Data := .agg [.int .i64 f.m, .int .i64 f.p, .int .i64 f.n, .slice 1 (f.b.map byt), .int .i64 n]
theorem c94 (f : Fr) (n : Int) (hl : f.b.length ≤ 1048576) : CallDet Tryz.prog 94 [.d (numD f n)] [f.d] := by
  refine call_of_vc (x := ir94) (by kernel_rfl) rfl ?_
  refine Exists.intro _ (And.intro (c84 f hl) ?_)
  exact rfl
theorem c96 (f : Fr) (n : Int) : CallDet Tryz.prog 96 [.d (numD f n)] [.int .i64 n] := by
  refine call_of_vc (x := ir96) (by kernel_rfl) rfl ?_
  exact rfl
end Vc

set_option maxRecDepth 10000
namespace Vc
open Go Go.Proofs
/-- (kilovar/link.Sender).sent$1 -/
def ir132 : AFun := ⟨30, 0, [],
 (.seq
 (.reg [] [⟨some 4, .fad 1 (.tmp 1), none⟩,
 ⟨some 5, .ld false 1 (.tmp 4), none⟩,
 ⟨some 3, .mov (.tmp 5), none⟩])
 (.post [] []
 (.block 0
 (.keep [0, 1, 3] []
 (.loop
 (.post [0, 1, 3] []
 (.seq
 (.seq
 (.reg [] [⟨some 6, .mov (.tmp 3), none⟩,
 ⟨some 7, .fad 0 (.tmp 1), none⟩,
 ⟨some 8, .ld false 1 (.tmp 7), none⟩,
 ⟨some 9, .len (.tmp 8), none⟩,
 ⟨some 10, .fad 1 (.tmp 1), none⟩,
 ⟨some 11, .ld false 1 (.tmp 10), none⟩,
 ⟨some 12, .fad 2 (.tmp 1), none⟩,
 ⟨some 13, .ld false 1 (.tmp 12), none⟩,
 ⟨some 14, .arith .add .i64 (.tmp 11) (.tmp 13), none⟩,
 ⟨some 15, .mini (.tmp 9) (.tmp 14), none⟩,
 ⟨some 16, .cmp .lss (.tmp 6) (.tmp 15), none⟩])
 (.cond (.tmp 16)
 .skip
 (.exit 0)))
 (.seq
 (.block 1
 (.seq
 (.reg [] [⟨some 19, .mov (.tmp 0), none⟩,
 ⟨some 20, .fad 0 (.tmp 1), none⟩,
 ⟨some 21, .ld false 1 (.tmp 20), none⟩,
 ⟨some 22, .mov (.tmp 3), none⟩,
 ⟨some 23, .ixa 4 (.tmp 21) (.tmp 22), none⟩,
 ⟨some 24, .ld true 4 (.tmp 23), none⟩,
 ⟨some 25, .mov (.tmp 3), none⟩,
 ⟨some 26, .arith .rem .i64 (.tmp 25) (.cst (.d (.int .i64 16))), none⟩,
 ⟨some 27, .build [(.d (.int .i64 0)), (.d (.int .i64 0)), (.d (.int .i64 0)), (.nils 1), (.d (.int .i64 0))] [(0, 4, (.tmp 24)), (4, 1, (.tmp 26))], none⟩,
 ⟨some 28, .callv (.tmp 19) [(.tmp 27)], none⟩,
 ⟨some 29, .not (.tmp 28), none⟩])
 (.cond (.tmp 29)
 .ret
 .skip)))
 (.reg [] [⟨some 17, .mov (.tmp 3), none⟩,
 ⟨some 18, .arith .add .i64 (.tmp 17) (.cst (.d (.int .i64 1))), none⟩,
 ⟨some 3, .mov (.tmp 18), none⟩])))))))))⟩

/-- slices.AppendSeq[[]kilovar/link.numbered,kilovar/link.numbered] -/
def ir131 : AFun := ⟨13, 5, [.tmp 4],
 (.seq
 (.reg [0] [⟨some 2, .box 0 1 (.tmp 0), none⟩,
 ⟨some 4, .mov (.cst (.nils 5)), none⟩])
 (.seq
 (.seq
 (.reg [] [⟨some 6, .mov (.tmp 1), none⟩])
 (.block 0
 (.keep [2, 6] [0]
 (.rfor 1 (.tmp 6) [7]
 (.reg [2] [⟨some 5, .alloc 2 [(.d (.int .i64 0)), (.d (.int .i64 0)), (.d (.int .i64 0)), (.nils 1), (.d (.int .i64 0))], none⟩,
 ⟨none, .st 5 (.tmp 5) (.tmp 7), none⟩])
 (.post [] [2, 3, 4]
 (.block 1
 (.reg [3, 4] [⟨some 8, .ld false 1 (.tmp 2), none⟩,
 ⟨some 9, .ld true 5 (.tmp 5), none⟩,
 ⟨some 10, .bsl 3 172 5 1 [(.agg [(.int .i64 0), (.int .i64 0), (.int .i64 0), (.slice 1 []), (.int .i64 0)])] [(0, (.tmp 9))], none⟩,
 ⟨some 11, .app 4 172 5 56 (.tmp 8) (.tmp 10), none⟩,
 ⟨none, .st 1 (.tmp 2) (.tmp 11), none⟩])))))))
 (.seq
 (.reg [] [⟨some 12, .ld false 1 (.tmp 2), none⟩,
 ⟨some 4, .mov (.tmp 12), none⟩])
 .ret)))⟩

/-- slices.Collect[kilovar/link.numbered] -/
def ir91 : AFun := ⟨5, 6, [.tmp 2],
 (.seq
 (.reg [] [⟨some 2, .mov (.cst (.nils 5)), none⟩])
 (.seq
 (.reg [] [⟨some 3, .mov (.tmp 0), none⟩,
 ⟨some 4, .calli 131 [(.cst (.nils 5)), (.tmp 3)], none⟩,
 ⟨some 2, .mov (.tmp 4), none⟩])
 .ret))⟩


def xa131 : ACode :=
 (.reg [2] [⟨some 5, .alloc 2 [(.d (.int .i64 0)), (.d (.int .i64 0)), (.d (.int .i64 0)), (.nils 1), (.d (.int .i64 0))], none⟩,
         ⟨none, .st 5 (.tmp 5) (.tmp 7), none⟩])
def xb131 : ACode :=
 (.post [] [2, 3, 4]
        (.block 1
         (.reg [3, 4] [⟨some 8, .ld false 1 (.tmp 2), none⟩,
           ⟨some 9, .ld true 5 (.tmp 5), none⟩,
           ⟨some 10, .bsl 3 172 5 1 [(.agg [(.int .i64 0), (.int .i64 0), (.int .i64 0), (.slice 1 []), (.int .i64 0)])] [(0, (.tmp 9))], none⟩,
           ⟨some 11, .app 4 172 5 56 (.tmp 8) (.tmp 10), none⟩,
           ⟨none, .st 1 (.tmp 2) (.tmp 11), none⟩])))

noncomputable def lp131 (s : Sn) : AObj := .lp .ready none 13 [(2, .ptr 0 0), (6, .d (.fn (.func 132) [s.cap]))] [7] xa131 xb131 (ckP Tryz.prog 13 xa131 xb131)
def boxv (acc : List Data) : AVal := match acc with | [] => .nils 5 | _ :: _ => .sl 4 acc.length
def row4 (acc : List Data) : AObj := match acc with | [] => .none | _ :: _ => .row 172 5 acc false
noncomputable def heap131 (s : Sn) (acc : List Data) : List AObj := [.box [boxv acc], lp131 s, .none, .none, row4 acc, .none]
def numsD (s : Sn) : List Data := (List.range (sentF s).length).map fun (k : Nat) => match (sentF s)[k]? with | some f => numD f ((s.a + (k : Int)) % 16) | none => .int .i64 0

theorem yield131 (s : Sn) (f : Fr) (n : Int) (acc : List Data) (hl : acc.length ≤ 64) :
    YieldIn Tryz.prog 1 [.d (numD f n)] (heap131 s acc) (.d (.bool true)) (heap131 s (acc ++ [numD f n])) := by
  cases acc with
  | nil =>
    refine yieldIn_of_vc (m := 13) (ps := [7]) (xa := xa131) (xb := xb131) (sl := [(2, .ptr 0 0), (6, .d (.fn (.func 132) [s.cap]))]) rfl rfl rfl rfl rfl rfl ?_
    repeat refine And.intro rfl ?_
    refine And.intro ⟨by show 1 * 56 ≤ 2 ^ 47; decide, by show 1 ≤ 2 ^ 47; decide⟩ ?_
    repeat refine And.intro rfl ?_
    exact rfl
  | cons y r =>
    refine yieldIn_of_vc (m := 13) (ps := [7]) (xa := xa131) (xb := xb131) (sl := [(2, .ptr 0 0), (6, .d (.fn (.func 132) [s.cap]))]) rfl rfl rfl rfl rfl rfl ?_
    repeat refine And.intro rfl ?_
    refine And.intro ⟨rfl, rfl, rfl, ?_, ?_⟩ ?_
    · show ((y :: r).length + 1) * 56 ≤ 2 ^ 47
      omega
    · show (y :: r).length + 1 ≤ 2 ^ 47
      omega
    repeat refine And.intro rfl ?_
    exact rfl
end Vc

set_option maxRecDepth 10000
namespace Vc
open Go Go.Proofs

def numAt (s : Sn) (k : Nat) : Data := match (sentF s)[k]? with | some f => numD f ((s.a + (k : Int)) % 16) | none => .int .i64 0
theorem numsD_eq (s : Sn) : numsD s = (List.range (sentF s).length).map (numAt s) := rfl
theorem num_next {s : Sn} {k : Nat} {i : Int} {x : Fr} {acc : List Data} (hx : (sentF s)[k]? = some x) (i1 : acc = (List.range k).map (numAt s)) (i4 : i = s.a + (k : Int)) : acc ++ [numD x (i % 16)] = (List.range (k + 1)).map (numAt s) := by
  rw [List.range_succ, List.map_append, i1, i4]
  simp only [List.map_cons, List.map_nil, numAt, hx]
theorem c132 (s : Sn) (hs : chkSn s = 0) : CallIn Tryz.prog 132 [.yld 1, .cp [.slice 4 (frs s.q), .int .i64 s.a, .int .i64 s.w] 0] (heap131 s []) (.tup []) (heap131 s (numsD s)) := by
  obtain ⟨_, h1, h2, h3⟩ := chkSn_zero hs
  have hlen := frs_len s.q
  have hsl := sentF_len hs
  refine callIn_of_vc (P := Tryz.prog) (x := ir132) 5 (by kernel_rfl) rfl rfl rfl ?_
  refine loop_st (fun a : Nat × Int × List Data => ⟨[(0, .yld 1), (1, .cp [.slice 4 (frs s.q), .int .i64 s.a, .int .i64 s.w] 0), (3, .d (.int .i64 a.2.1))], heap131 s a.2.2⟩)
    (fun a => (a.2.2 = (List.range a.1).map (numAt s) ∧ a.1 ≤ (sentF s).length) ∧ a.2.1 = s.a + (a.1 : Int)) (fun a => (sentF s).length - a.1) (0, s.a, []) rfl ⟨⟨rfl, Nat.zero_le _⟩, by show s.a = s.a + ((0 : Nat) : Int); omega⟩ ?_
  rintro ⟨k, i, acc⟩ ⟨⟨i1, i3⟩, i4⟩
  have i1 : acc = (List.range k).map (numAt s) := i1
  have i3 : k ≤ (sentF s).length := i3
  have i4 : i = s.a + (k : Int) := i4
  have l1 : acc.length = k := by rw [i1]; simp
  have hA0 : -9223372036854775808 ≤ s.a + s.w ∧ s.a + s.w ≤ 9223372036854775807 := by omega
  cases acc with
  | nil =>
    refine ar_add hA0 ?_
    repeat refine And.intro rfl ?_
    refine brk_intro ?_ ?_
    · intro h
      have h : i < min ((frs s.q).length : Int) (s.a + s.w) := of_decide_eq_true h
      have hk : k < (sentF s).length := by omega
      refine Exists.elim (⟨_, List.getElem?_eq_getElem hk⟩ : ∃ x, (sentF s)[k]? = some x) fun x hx => ?_
      have hd : (frs s.q)[i.toNat]? = some x.d := by
        rw [show i.toNat = s.a.toNat + k by omega]
        have := hx
        rw [sentF_get hk] at this
        simp [frs, this]
      have h0 : 0 ≤ i := by omega
      refine ix_at hd h0 ?_
      have hr : 0 ≤ i ∧ (1 : Int) ≤ 16 := by omega
      refine ar_rem hr ?_
      repeat refine And.intro rfl ?_
      refine Exists.intro (.d (.bool true)) (Exists.intro [(0, .box [boxv ([] ++ [numD x (i % 16)])]), (4, row4 ([] ++ [numD x (i % 16)]))] (And.intro (yield131 s x (i % 16) [] (by omega)) ?_))
      have hA : -9223372036854775808 ≤ i + 1 ∧ i + 1 ≤ 9223372036854775807 := by omega
      refine ar_add hA ?_
      have e1 : [] ++ [numD x (i % 16)] = (List.range (k + 1)).map (numAt s) := num_next hx i1 i4
      exact ⟨(k + 1, i + 1, [] ++ [numD x (i % 16)]), ⟨⟨⟨e1, hk⟩, by show i + 1 = s.a + ((k + 1 : Nat) : Int); omega⟩, by show (sentF s).length - (k + 1) < (sentF s).length - k; omega⟩, rfl⟩
    · intro h
      have h : ¬ i < min ((frs s.q).length : Int) (s.a + s.w) := of_decide_eq_false h
      have hk : k = (sentF s).length := by omega
      have e1 : [] = numsD s := by rw [i1, hk]; rfl
      have e : heap131 s [] = heap131 s (numsD s) := by rw [e1]
      exact ⟨rfl, e⟩
  | cons y r =>
    refine ar_add hA0 ?_
    repeat refine And.intro rfl ?_
    refine brk_intro ?_ ?_
    · intro h
      have h : i < min ((frs s.q).length : Int) (s.a + s.w) := of_decide_eq_true h
      have hk : k < (sentF s).length := by omega
      refine Exists.elim (⟨_, List.getElem?_eq_getElem hk⟩ : ∃ x, (sentF s)[k]? = some x) fun x hx => ?_
      have hd : (frs s.q)[i.toNat]? = some x.d := by
        rw [show i.toNat = s.a.toNat + k by omega]
        have := hx
        rw [sentF_get hk] at this
        simp [frs, this]
      have h0 : 0 ≤ i := by omega
      refine ix_at hd h0 ?_
      have hr : 0 ≤ i ∧ (1 : Int) ≤ 16 := by omega
      refine ar_rem hr ?_
      repeat refine And.intro rfl ?_
      refine Exists.intro (.d (.bool true)) (Exists.intro [(0, .box [boxv ((y :: r) ++ [numD x (i % 16)])]), (4, row4 ((y :: r) ++ [numD x (i % 16)]))] (And.intro (yield131 s x (i % 16) (y :: r) (by omega)) ?_))
      have hA : -9223372036854775808 ≤ i + 1 ∧ i + 1 ≤ 9223372036854775807 := by omega
      refine ar_add hA ?_
      have e1 : (y :: r) ++ [numD x (i % 16)] = (List.range (k + 1)).map (numAt s) := num_next hx i1 i4
      exact ⟨(k + 1, i + 1, (y :: r) ++ [numD x (i % 16)]), ⟨⟨⟨e1, hk⟩, by show i + 1 = s.a + ((k + 1 : Nat) : Int); omega⟩, by show (sentF s).length - (k + 1) < (sentF s).length - k; omega⟩, rfl⟩
    · intro h
      have h : ¬ i < min ((frs s.q).length : Int) (s.a + s.w) := of_decide_eq_false h
      have hk : k = (sentF s).length := by omega
      have e1 : (y :: r) = numsD s := by rw [i1, hk]; rfl
      have e : heap131 s (y :: r) = heap131 s (numsD s) := by rw [e1]
      exact ⟨rfl, e⟩
end Vc

set_option maxRecDepth 10000
namespace Vc
open Go Go.Proofs

theorem c91 (s : Sn) (hs : chkSn s = 0) : CallDet Tryz.prog 91 [.d (.fn (.func 132) [s.cap])] [.slice 5 (numsD s)] := by
  have hc := c132 s hs
  refine call_of_vc (x := ir91) (by kernel_rfl) rfl ?_
  refine Or.elim (show numsD s = [] ∨ ∃ y r, numsD s = y :: r by cases numsD s with | nil => exact .inl rfl | cons y r => exact .inr ⟨y, r, rfl⟩) (fun hN => ?_) (fun hN => Exists.elim hN fun y hN => Exists.elim hN fun r hN => ?_)
  · rw [hN] at hc ⊢
    refine Exists.intro (.nils 5) (Exists.intro [(0, .box [.nils 5])] (And.intro ?_ ?_))
    · refine callIn_of_vc (P := Tryz.prog) (x := ir131) 0 (by kernel_rfl) rfl rfl rfl ?_
      refine Exists.intro (.tup []) (Exists.intro (heap131 s []) (And.intro hc ?_))
      refine And.intro (by intro h; cases h) ?_
      exact ⟨rfl, rfl⟩
    · exact rfl
  · rw [hN] at hc ⊢
    refine Exists.intro (.sl 4 (y :: r).length) (Exists.intro [(0, .box [.sl 4 (y :: r).length]), (4, .row 172 5 (y :: r) false)] (And.intro ?_ ?_))
    · refine callIn_of_vc (P := Tryz.prog) (x := ir131) 0 (by kernel_rfl) rfl rfl rfl ?_
      refine Exists.intro (.tup []) (Exists.intro (heap131 s (y :: r)) (And.intro hc ?_))
      refine And.intro (by intro h; cases h) ?_
      exact ⟨rfl, rfl⟩
    · repeat refine And.intro rfl ?_
      exact rfl
end Vc

set_option maxRecDepth 10000
namespace Vc
open Go Go.Proofs
/-- kilovar/link.mapped[kilovar/link.numbered,kilovar/link.Frame] -/
def ir93 : AFun := ⟨22, 3, [.tmp 4],
 (.seq
 (.reg [] [⟨some 4, .mov (.cst (.nils 4)), none⟩])
 (.seq
 (.reg [] [⟨some 5, .mov (.cst (.nils 4)), none⟩])
 (.seq
 (.seq
 (.reg [] [⟨some 8, .mov (.tmp 0), none⟩,
 ⟨some 9, .len (.tmp 8), none⟩,
 ⟨some 10, .mov (.cst (.d (.int .i64 0))), none⟩])
 (.post [5] [0, 1, 2]
 (.block 0
 (.asrow 2 38 4 5
 (.keep [1, 5, 8, 9, 10] []
 (.loop
 (.post [1, 5, 8, 9, 10] [0, 1, 2]
 (.seq
 (.reg [] [⟨some 11, .cmp .lss (.tmp 10) (.tmp 9), none⟩])
 (.seq
 (.cond (.tmp 11)
 .skip
 (.exit 0))
 (.seq
 (.block 1
 (.seq
 (.reg [0] [⟨some 12, .ixa 5 (.tmp 8) (.tmp 10), none⟩,
 ⟨some 13, .ld true 5 (.tmp 12), none⟩,
 ⟨some 7, .alloc 0 [(.d (.int .i64 0)), (.d (.int .i64 0)), (.d (.int .i64 0)), (.nils 1), (.d (.int .i64 0))], none⟩,
 ⟨none, .st 5 (.tmp 7) (.tmp 13), none⟩])
 (.reg [1, 2] [⟨some 14, .mov (.tmp 5), none⟩,
 ⟨some 15, .mov (.tmp 1), none⟩,
 ⟨some 16, .ld true 5 (.tmp 7), none⟩,
 ⟨some 17, .callv (.tmp 15) [(.tmp 16)], none⟩,
 ⟨some 18, .bsl 1 38 4 1 [(.agg [(.int .i64 0), (.int .i64 0), (.int .i64 0), (.slice 1 [])])] [(0, (.tmp 17))], none⟩,
 ⟨some 19, .app 2 38 4 48 (.tmp 14) (.tmp 18), none⟩,
 ⟨some 5, .mov (.tmp 19), none⟩])))
 (.reg [] [⟨some 20, .arith .add .i64 (.tmp 10) (.cst (.d (.int .i64 1))), none⟩,
 ⟨some 10, .mov (.tmp 20), none⟩])))))))))))
 (.seq
 (.reg [] [⟨some 21, .mov (.tmp 5), none⟩,
 ⟨some 4, .mov (.tmp 21), none⟩])
 .ret))))⟩

/-- kilovar/link.mapped[kilovar/link.numbered,int] -/
def ir95 : AFun := ⟨22, 3, [.tmp 4],
 (.seq
 (.reg [] [⟨some 4, .mov (.cst (.nils 1)), none⟩])
 (.seq
 (.reg [] [⟨some 5, .mov (.cst (.nils 1)), none⟩])
 (.seq
 (.seq
 (.reg [] [⟨some 8, .mov (.tmp 0), none⟩,
 ⟨some 9, .len (.tmp 8), none⟩,
 ⟨some 10, .mov (.cst (.d (.int .i64 0))), none⟩])
 (.post [5] [0, 1, 2]
 (.block 0
 (.asrow 2 3 1 5
 (.keep [1, 5, 8, 9, 10] []
 (.loop
 (.post [1, 5, 8, 9, 10] [0, 1, 2]
 (.seq
 (.reg [] [⟨some 11, .cmp .lss (.tmp 10) (.tmp 9), none⟩])
 (.seq
 (.cond (.tmp 11)
 .skip
 (.exit 0))
 (.seq
 (.block 1
 (.seq
 (.reg [0] [⟨some 12, .ixa 5 (.tmp 8) (.tmp 10), none⟩,
 ⟨some 13, .ld true 5 (.tmp 12), none⟩,
 ⟨some 7, .alloc 0 [(.d (.int .i64 0)), (.d (.int .i64 0)), (.d (.int .i64 0)), (.nils 1), (.d (.int .i64 0))], none⟩,
 ⟨none, .st 5 (.tmp 7) (.tmp 13), none⟩])
 (.reg [1, 2] [⟨some 14, .mov (.tmp 5), none⟩,
 ⟨some 15, .mov (.tmp 1), none⟩,
 ⟨some 16, .ld true 5 (.tmp 7), none⟩,
 ⟨some 17, .callv (.tmp 15) [(.tmp 16)], none⟩,
 ⟨some 18, .bsl 1 3 1 1 [(.int .i64 0)] [(0, (.tmp 17))], none⟩,
 ⟨some 19, .app 2 3 1 8 (.tmp 14) (.tmp 18), none⟩,
 ⟨some 5, .mov (.tmp 19), none⟩])))
 (.reg [] [⟨some 20, .arith .add .i64 (.tmp 10) (.cst (.d (.int .i64 1))), none⟩,
 ⟨some 10, .mov (.tmp 20), none⟩])))))))))))
 (.seq
 (.reg [] [⟨some 21, .mov (.tmp 5), none⟩,
 ⟨some 4, .mov (.tmp 21), none⟩])
 .ret))))⟩

/-- kilovar/link.Sent -/
def ir31 : AFun := ⟨19, 1, [.tmp 2, .tmp 3, .tmp 4],
 (.seq
 (.reg [0] [⟨some 1, .cbx 0 3 (.tmp 0), none⟩,
 ⟨some 2, .mov (.cst (.nils 4)), none⟩,
 ⟨some 3, .mov (.cst (.nils 1)), none⟩,
 ⟨some 4, .mov (.cst (.d (.int .i64 0))), none⟩])
 (.seq
 (.seq
 (.reg [] [⟨some 7, .ld true 3 (.tmp 1), none⟩,
 ⟨some 8, .call 43 [(.tmp 7)], none⟩,
 ⟨some 5, .mov (.tmp 8), none⟩])
 (.seq
 (.reg [] [⟨some 9, .mov (.tmp 5), none⟩,
 ⟨some 10, .cmp .neq (.tmp 9) (.cst (.d (.int .i64 0))), none⟩])
 (.cond (.tmp 10)
 (.seq
 (.reg [] [⟨some 11, .mov (.tmp 5), none⟩,
 ⟨some 2, .mov (.cst (.nils 4)), none⟩,
 ⟨some 3, .mov (.cst (.nils 1)), none⟩,
 ⟨some 4, .mov (.tmp 11), none⟩])
 .ret)
 .skip)))
 (.seq
 (.reg [] [⟨some 12, .ld true 3 (.tmp 1), none⟩,
 ⟨some 13, .call 92 [(.tmp 12)], none⟩,
 ⟨some 14, .call 91 [(.tmp 13)], none⟩,
 ⟨some 6, .mov (.tmp 14), none⟩])
 (.seq
 (.reg [] [⟨some 15, .mov (.tmp 6), none⟩,
 ⟨some 16, .call 93 [(.tmp 15), (.cst (.d (.fn (.func 94) [])))], none⟩,
 ⟨some 17, .mov (.tmp 6), none⟩,
 ⟨some 18, .call 95 [(.tmp 17), (.cst (.d (.fn (.func 96) [])))], none⟩,
 ⟨some 2, .mov (.tmp 16), none⟩,
 ⟨some 3, .mov (.tmp 18), none⟩,
 ⟨some 4, .mov (.cst (.d (.int .i64 0))), none⟩])
 .ret))))⟩

def pD (p : Fr × Int) : Data := numD p.1 p.2

theorem c93 (l : List (Fr × Int)) (hl : l.length ≤ 1048576) (hb : ∀ p ∈ l, p.1.b.length ≤ 1048576) :
    CallDet Tryz.prog 93 [.d (.slice 5 (l.map pD)), .d (.fn (.func 94) [])] [.slice 4 (l.map fun p => p.1.d)] := by
  refine call_of_vc (x := ir93) (by kernel_rfl) rfl ?_
  refine loop_st (fun a : Nat × List Data => ⟨[(1, .d (.fn (.func 94) [])), (5, .sl 2 a.2.length), (8, .d (.slice 5 (l.map pD))), (9, .d (.int .i64 (l.map pD).length)), (10, .d (.int .i64 a.1))], [.none, .none, .row 38 4 a.2 false]⟩)
    (fun a => a.2 = (l.take a.1).map fun p => p.1.d) (fun a => l.length - a.1) (0, []) rfl rfl ?_
  rintro ⟨k, acc⟩ hk
  have hk : acc = (l.take k).map fun p => p.1.d := hk
  have hlen : (l.map pD).length = l.length := by simp
  refine And.intro rfl ?_
  refine brk_intro ?_ ?_
  · intro h
    have h : (k : Int) < (l.map pD).length := of_decide_eq_true h
    refine Exists.elim (⟨_, List.getElem?_eq_getElem (by omega)⟩ : ∃ p, l[k]? = some p) fun p hp => ?_
    have hd : (l.map pD)[(k : Int).toNat]? = some (pD p) := by simp [hp]
    have hacc : acc.length = k := by have := congrArg List.length hk; simp at this; omega
    refine ix_at hd (by omega) ?_
    refine Exists.intro _ (And.intro (c94 p.1 p.2 (hb p (List.mem_of_getElem? hp))) ?_)
    repeat refine And.intro rfl ?_
    refine And.intro ⟨rfl, rfl, rfl, ?_, ?_⟩ ?_
    · show (acc.length + 1) * 48 ≤ 2 ^ 47
      omega
    · show acc.length + 1 ≤ 2 ^ 47
      omega
    refine ar_add (by omega) ?_
    have e : acc ++ [p.1.d] = (l.take (k + 1)).map fun p => p.1.d := by rw [take_map_succ _ hp, hk]
    exact ⟨(k + 1, acc ++ [p.1.d]), ⟨e, by show l.length - (k + 1) < l.length - k; omega⟩, rfl⟩
  · intro h
    have h : ¬ (k : Int) < (l.map pD).length := of_decide_eq_false h
    have e : (l.map fun p => p.1.d) = acc := by rw [hk, List.take_of_length_le (by omega)]
    repeat refine And.intro rfl ?_
    rw [e]
    exact rfl

theorem c95 (l : List (Fr × Int)) (hl : l.length ≤ 1048576) (hb : ∀ p ∈ l, p.1.b.length ≤ 1048576) :
    CallDet Tryz.prog 95 [.d (.slice 5 (l.map pD)), .d (.fn (.func 96) [])] [.slice 1 (l.map fun p => Data.int .i64 p.2)] := by
  refine call_of_vc (x := ir95) (by kernel_rfl) rfl ?_
  refine loop_st (fun a : Nat × List Data => ⟨[(1, .d (.fn (.func 96) [])), (5, .sl 2 a.2.length), (8, .d (.slice 5 (l.map pD))), (9, .d (.int .i64 (l.map pD).length)), (10, .d (.int .i64 a.1))], [.none, .none, .row 3 1 a.2 false]⟩)
    (fun a => a.2 = (l.take a.1).map fun p => Data.int .i64 p.2) (fun a => l.length - a.1) (0, []) rfl rfl ?_
  rintro ⟨k, acc⟩ hk
  have hk : acc = (l.take k).map fun p => Data.int .i64 p.2 := hk
  have hlen : (l.map pD).length = l.length := by simp
  refine And.intro rfl ?_
  refine brk_intro ?_ ?_
  · intro h
    have h : (k : Int) < (l.map pD).length := of_decide_eq_true h
    refine Exists.elim (⟨_, List.getElem?_eq_getElem (by omega)⟩ : ∃ p, l[k]? = some p) fun p hp => ?_
    have hd : (l.map pD)[(k : Int).toNat]? = some (pD p) := by simp [hp]
    have hacc : acc.length = k := by have := congrArg List.length hk; simp at this; omega
    refine ix_at hd (by omega) ?_
    refine Exists.intro _ (And.intro (c96 p.1 p.2) ?_)
    repeat refine And.intro rfl ?_
    refine And.intro ⟨rfl, rfl, rfl, ?_, ?_⟩ ?_
    · show (acc.length + 1) * 8 ≤ 2 ^ 47
      omega
    · show acc.length + 1 ≤ 2 ^ 47
      omega
    refine ar_add (by omega) ?_
    have e : acc ++ [Data.int .i64 p.2] = (l.take (k + 1)).map fun p => Data.int .i64 p.2 := by rw [take_map_succ _ hp, hk]
    exact ⟨(k + 1, acc ++ [Data.int .i64 p.2]), ⟨e, by show l.length - (k + 1) < l.length - k; omega⟩, rfl⟩
  · intro h
    have h : ¬ (k : Int) < (l.map pD).length := of_decide_eq_false h
    have e : (l.map fun p => Data.int .i64 p.2) = acc := by rw [hk, List.take_of_length_le (by omega)]
    repeat refine And.intro rfl ?_
    rw [e]
    exact rfl

def prs (s : Sn) : List (Fr × Int) := (sentF s).mapIdx fun k f => (f, (s.a + (k : Int)) % 16)
theorem nums_pairs (s : Sn) : numsD s = (prs s).map pD := by
  apply List.ext_getElem?
  intro k
  rw [numsD_eq, List.getElem?_map, List.getElem?_map, prs, List.getElem?_mapIdx]
  by_cases hk : k < (sentF s).length
  · have hx := List.getElem?_eq_getElem hk
    rw [List.getElem?_range hk, hx]
    simp only [Option.map_some, numAt, hx]
    rfl
  · rw [List.getElem?_eq_none (l := List.range (sentF s).length) (by simp; omega), List.getElem?_eq_none (l := sentF s) (by omega)]
    rfl
theorem prs_fst (s : Sn) : (prs s).map (fun p => p.1.d) = frs (sentF s) := by
  apply List.ext_getElem?
  intro k
  rw [List.getElem?_map, prs, List.getElem?_mapIdx, frs, List.getElem?_map]
  cases (sentF s)[k]? <;> rfl
theorem prs_snd (s : Sn) : (prs s).map (fun p => Data.int .i64 p.2) = ints (sentI s) := by
  apply List.ext_getElem?
  intro k
  rw [List.getElem?_map, prs, List.getElem?_mapIdx, ints, List.getElem?_map, sentI, List.getElem?_map]
  by_cases hk : k < (sentF s).length
  · rw [List.getElem?_range hk, List.getElem?_eq_getElem hk]; rfl
  · rw [List.getElem?_eq_none (l := List.range (sentF s).length) (by simp; omega), List.getElem?_eq_none (l := sentF s) (by omega)]; rfl
theorem prs_mem {s : Sn} (hs : chkSn s = 0) : (prs s).length ≤ 64 ∧ ∀ p ∈ prs s, p.1.b.length ≤ 1048576 := by
  obtain ⟨h0, h1, h2, h3⟩ := chkSn_zero hs
  have hl : (sentF s).length ≤ 64 := by simp only [sentF, List.length_take, List.length_drop]; omega
  refine ⟨by simpa [prs] using hl, fun p hp => ?_⟩
  simp only [prs, List.mem_mapIdx] at hp
  obtain ⟨k, hk, rfl⟩ := hp
  have hm : (sentF s)[k] ∈ s.q := List.mem_of_mem_drop (List.mem_of_mem_take (List.getElem_mem hk))
  have := (check_zero ((checks_zero h0).2 _ hm)).2.2.2
  show (sentF s)[k].b.length ≤ 1048576
  omega
def sentP (s : Sn) : List Fr × List Int := match chkSn s != 0 with | true => ([], []) | false => (sentF s, sentI s)
theorem sp {s : Sn} {p : List Fr × List Int} {e : Int} (h : sentP s = p) (he : chkSn s = e) : resV [.slice 4 (frs p.1), .slice 1 (ints p.2), .int .i64 e] = resV [.slice 4 (frs (sentP s).1), .slice 1 (ints (sentP s).2), .int .i64 (chkSn s)] := by rw [h, he]
theorem c31 (s : Sn) (hl : s.q.length ≤ 1048576) : CallDet Tryz.prog 31 [.d s.d] [.slice 4 (frs (sentP s).1), .slice 1 (ints (sentP s).2), .int .i64 (chkSn s)] := by
  refine call_of_vc (x := ir31) (by kernel_rfl) rfl ?_
  refine Exists.intro _ (And.intro (c43 s hl) ?_)
  refine And.intro rfl ?_
  refine brk_intro ?_ ?_
  · intro h
    have h : (chkSn s != 0) = true := h
    exact sp (p := ([], [])) (by rw [sentP, h]) rfl
  · intro h
    have h : (chkSn s != 0) = false := h
    have h0 : chkSn s = 0 := by simpa using h
    have hm := prs_mem h0
    have d1 : CallDet Tryz.prog 93 [.d (.slice 5 (numsD s)), .d (.fn (.func 94) [])] [.slice 4 (frs (sentF s))] := by
      rw [nums_pairs, ← prs_fst]; exact c93 (prs s) (by omega) hm.2
    have d2 : CallDet Tryz.prog 95 [.d (.slice 5 (numsD s)), .d (.fn (.func 96) [])] [.slice 1 (ints (sentI s))] := by
      rw [nums_pairs, ← prs_snd]; exact c95 (prs s) (by omega) hm.2
    refine Exists.intro _ (And.intro (c92 s) ?_)
    refine Exists.intro _ (And.intro (c91 s h0) ?_)
    refine Exists.intro _ (And.intro d1 ?_)
    refine Exists.intro _ (And.intro d2 ?_)
    exact sp (p := (sentF s, sentI s)) (by rw [sentP, h]) h0
end Vc

