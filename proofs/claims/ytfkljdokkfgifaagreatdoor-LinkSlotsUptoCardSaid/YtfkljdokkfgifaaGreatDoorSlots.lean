/- The statement LinkSlots of chapter 04 (its card, up to a size): it answers true for every list of stations, every cycle and all numbers, without a panic. No conditions but those of the card. -/
import Derived.Test.YtfkljdokkfgifaaGreatDoorWf
import Derived.Test.YtfkljdokkfgifaaGreatDoorVi
import Derived.Test.YtfkljdokkfgifaaGreatDoorYc
import Derived.Test.YtfkljdokkfgifaaGreatDoorXe
import Derived.Test.YtfkljdokkfgifaaGreatDoorYd
set_option linter.unusedSectionVars false
set_option linter.unusedVariables false
set_option linter.unusedSimpArgs false
namespace Vc
open Go Go.Proofs
theorem int_fit {k : IntKind} {r : List CT} {ds : List Data} (h : Fits' (.int k :: r) ds) : ∃ n t, ds = .int k n :: t ∧ (Lit.int k n).wf = true ∧ Fits' r t := by
  simp only [Fits', Fit] at h
  obtain ⟨d, t, rfl, ⟨n, rfl, hn⟩, ht⟩ := h
  exact ⟨n, t, rfl, hn, ht⟩
theorem u8_fit {r : List CT} {ds : List Data} (h : Fits' (.int .u8 :: r) ds) : ∃ (c : UInt8) (t : List Data), ds = byt c :: t ∧ Fits' r t := by
  obtain ⟨n, t, rfl, hn, ht⟩ := int_fit h
  have hn : 0 ≤ n ∧ n < 256 := by
    simp [Lit.wf] at hn
    have h1 : IntKind.u8.min = 0 := rfl
    have h2 : IntKind.u8.max = 255 := rfl
    omega
  refine ⟨UInt8.ofNat n.toNat, t, ?_, ht⟩
  rw [byt, show ((UInt8.ofNat n.toNat).toNat : Int) = n by rw [UInt8.toNat_ofNat']; omega]
theorem i64_fit {r : List CT} {ds : List Data} (h : Fits' (.int .i64 :: r) ds) : ∃ (n : Int) (t : List Data), ds = .int .i64 n :: t ∧ (-9223372036854775808 ≤ n ∧ n ≤ 9223372036854775807) ∧ Fits' r t := by
  obtain ⟨n, t, rfl, hn, ht⟩ := int_fit h
  refine ⟨n, t, rfl, ?_, ht⟩
  simp [Lit.wf] at hn
  have h1 : IntKind.i64.min = -9223372036854775808 := rfl
  have h2 : IntKind.i64.max = 9223372036854775807 := rfl
  omega
theorem u8s_fit : ∀ {es : List Data}, (∀ e ∈ es, Fits' [.int .u8] [e]) → ∃ b : List UInt8, es = b.map byt
  | [], _ => ⟨[], rfl⟩
  | e :: r, h => by
    obtain ⟨c, t, h1, _⟩ := u8_fit (h e List.mem_cons_self)
    obtain ⟨b, rfl⟩ := u8s_fit (es := r) fun x hx => h x (List.mem_cons_of_mem _ hx)
    cases h1
    exact ⟨c :: b, rfl⟩
theorem bytes_fit {r : List CT} {ds : List Data} (h : Fits' (.sl false [.int .u8] :: r) ds) : ∃ (b : List UInt8) (t : List Data), ds = .slice 1 (b.map byt) :: t ∧ Fits' r t := by
  simp only [Fits'] at h
  obtain ⟨d, t, rfl, hd, ht⟩ := h
  simp only [Fit] at hd
  obtain ⟨es, rfl, he⟩ := hd
  obtain ⟨b, rfl⟩ := u8s_fit (es := es) he
  exact ⟨b, t, rfl, ht⟩
theorem fr_fit {ds : List Data} (h : Fits' [.int .i64, .int .i64, .int .i64, .sl false [.int .u8]] ds) : ∃ f : Fr, Data.agg ds = f.d ∧ f.ok := by
  obtain ⟨m, t1, rfl, _, h1⟩ := i64_fit h
  obtain ⟨p, t2, rfl, _, h2⟩ := i64_fit h1
  obtain ⟨n, t3, rfl, hn, h3⟩ := i64_fit h2
  obtain ⟨b, t4, rfl, h4⟩ := bytes_fit h3
  have h5 : t4 = [] := by simpa only [Fits'] using h4
  subst h5
  exact ⟨⟨m, p, n, b⟩, rfl, hn⟩
theorem frs_fit : ∀ {es : List Data}, (∀ e ∈ es, ∃ ds, e = .agg ds ∧ Fits' [.int .i64, .int .i64, .int .i64, .sl false [.int .u8]] ds) → ∃ l : List Fr, es = frs l ∧ ∀ f ∈ l, f.ok
  | [], _ => ⟨[], rfl, fun _ h => absurd h List.not_mem_nil⟩
  | e :: r, h => by
    obtain ⟨ds, rfl, hd⟩ := h e List.mem_cons_self
    obtain ⟨f, hf, ho⟩ := fr_fit hd
    obtain ⟨l, rfl, hl⟩ := frs_fit (es := r) fun x hx => h x (List.mem_cons_of_mem _ hx)
    rw [hf]
    refine ⟨f :: l, rfl, fun g hg => ?_⟩
    rcases List.mem_cons.1 hg with rfl | hg
    · exact ho
    · exact hl g hg
theorem frl_fit {r : List CT} {ds : List Data} (h : Fits' (.sl true [.int .i64, .int .i64, .int .i64, .sl false [.int .u8]] :: r) ds) : ∃ (l : List Fr) (t : List Data), ds = .slice 4 (frs l) :: t ∧ (∀ f ∈ l, f.ok) ∧ Fits' r t := by
  simp only [Fits'] at h
  obtain ⟨d, t, rfl, hd, ht⟩ := h
  simp only [Fit] at hd
  obtain ⟨es, rfl, he⟩ := hd
  obtain ⟨l, rfl, hl⟩ := frs_fit (es := es) fun e h => by
    obtain ⟨ds, h1, h2⟩ := he e h
    exact ⟨ds, h1, by simpa only [Fits'] using h2⟩
  exact ⟨l, t, rfl, hl, ht⟩
theorem wgt_pos : ∀ (d : Data), d.isAgg = false → 1 ≤ wgt d := by
  intro d hd
  cases d <;> simp [wgt, Data.isAgg] at hd ⊢
theorem wgts_byt : ∀ (b : List UInt8), wgts (b.map byt) = b.length
  | [] => rfl
  | c :: r => by
    show wgt (byt c) + wgts (r.map byt) = _
    rw [wgts_byt r]
    show 1 + r.length = r.length + 1
    omega
theorem wgt_fr (f : Fr) : wgt f.d = 4 + f.b.length := by
  show 1 + (1 + (1 + ((wgts (f.b.map byt) + 1) + 0))) = _
  rw [wgts_byt]; omega
theorem wgts_frs : ∀ (l : List Fr), l.length ≤ wgts (frs l) ∧ ∀ f ∈ l, f.b.length ≤ wgts (frs l)
  | [] => ⟨Nat.zero_le _, fun _ h => absurd h List.not_mem_nil⟩
  | f :: r => by
    have h := wgt_fr f
    obtain ⟨h1, h2⟩ := wgts_frs r
    have e : wgts (frs (f :: r)) = wgt f.d + wgts (frs r) := rfl
    refine ⟨by simp only [List.length_cons]; omega, fun g hg => ?_⟩
    rcases List.mem_cons.1 hg with rfl | hg
    · omega
    · have := h2 g hg; omega
end Vc

set_option maxRecDepth 10000
namespace Vc
open Go Go.Proofs
/-! Fitting data as stations and as slots. -/
theorem blb_fit {r : List CT} {ds : List Data} (h : Fits' (.bool :: r) ds) : ∃ b t, ds = .bool b :: t ∧ Fits' r t := by
  simp only [Fits', Fit] at h
  obtain ⟨d, t, rfl, ⟨b, rfl⟩, ht⟩ := h
  exact ⟨b, t, rfl, ht⟩
theorem str_fit {r : List CT} {ds : List Data} (h : Fits' (.str :: r) ds) : ∃ b t, ds = .str b :: t ∧ Fits' r t := by
  simp only [Fits', Fit] at h
  obtain ⟨d, t, rfl, ⟨b, rfl⟩, ht⟩ := h
  exact ⟨b, t, rfl, ht⟩
theorem bls_fit : ∀ {es : List Data}, (∀ e ∈ es, Fits' [.bool] [e]) → ∃ b : List Bool, es = blsD b
  | [], _ => ⟨[], rfl⟩
  | e :: r, h => by
    obtain ⟨c, t, h1, _⟩ := blb_fit (h e List.mem_cons_self)
    obtain ⟨b, rfl⟩ := bls_fit (es := r) fun x hx => h x (List.mem_cons_of_mem _ hx)
    cases h1
    exact ⟨c :: b, rfl⟩
theorem bll_fit {r : List CT} {ds : List Data} (h : Fits' (.sl false [.bool] :: r) ds) : ∃ (b : List Bool) (t : List Data), ds = .slice 1 (blsD b) :: t ∧ Fits' r t := by
  simp only [Fits'] at h
  obtain ⟨d, t, rfl, hd, ht⟩ := h
  simp only [Fit] at hd
  obtain ⟨es, rfl, he⟩ := hd
  obtain ⟨b, rfl⟩ := bls_fit (es := es) he
  exact ⟨b, t, rfl, ht⟩
theorem st_fit {ds : List Data} (h : Fits' [.str, .int .i64, .int .i64, .int .i64] ds) : ∃ f : Stn, Data.agg ds = f.d := by
  obtain ⟨m, t1, rfl, h1⟩ := str_fit h
  obtain ⟨p, t2, rfl, _, h2⟩ := i64_fit h1
  obtain ⟨n, t3, rfl, _, h3⟩ := i64_fit h2
  obtain ⟨b, t4, rfl, _, h4⟩ := i64_fit h3
  have h5 : t4 = [] := by simpa only [Fits'] using h4
  subst h5
  exact ⟨⟨m, p, n, b⟩, rfl⟩
theorem stns_fit : ∀ {es : List Data}, (∀ e ∈ es, ∃ ds, e = .agg ds ∧ Fits' [.str, .int .i64, .int .i64, .int .i64] ds) → ∃ l : List Stn, es = stns l
  | [], _ => ⟨[], rfl⟩
  | e :: r, h => by
    obtain ⟨ds, rfl, hd⟩ := h e List.mem_cons_self
    obtain ⟨f, hf⟩ := st_fit hd
    obtain ⟨l, rfl⟩ := stns_fit (es := r) fun x hx => h x (List.mem_cons_of_mem _ hx)
    exact ⟨f :: l, by rw [hf]; rfl⟩
theorem stl_fit {r : List CT} {ds : List Data} (h : Fits' (.sl true [.str, .int .i64, .int .i64, .int .i64] :: r) ds) : ∃ (l : List Stn) (t : List Data), ds = .slice 4 (stns l) :: t ∧ Fits' r t := by
  simp only [Fits'] at h
  obtain ⟨d, t, rfl, hd, ht⟩ := h
  simp only [Fit] at hd
  obtain ⟨es, rfl, he⟩ := hd
  obtain ⟨l, rfl⟩ := stns_fit (es := es) fun e h => by
    obtain ⟨ds, h1, h2⟩ := he e h
    exact ⟨ds, h1, by simpa only [Fits'] using h2⟩
  exact ⟨l, t, rfl, ht⟩
theorem wgts_bls : ∀ (b : List Bool), wgts (blsD b) = b.length
  | [] => rfl
  | c :: r => by
    show 1 + wgts (blsD r) = _
    rw [wgts_bls r]
    show 1 + r.length = r.length + 1
    omega
theorem wgts_stns : ∀ (l : List Stn), l.length ≤ wgts (stns l)
  | [] => Nat.zero_le _
  | f :: r => by
    have h : wgt f.d = (f.nm.length + 1) + (1 + (1 + (1 + 0))) := rfl
    have h1 := wgts_stns r
    have e : wgts (stns (f :: r)) = wgt f.d + wgts (stns r) := rfl
    simp only [List.length_cons]; omega
end Vc

namespace Go.Proofs.YtfkljdokkfgifaaGreatDoor
open Go.ChangeShapes Go.WideShapes Go.ChangeAt Go.RowKit Vc
theorem fits_nil6 {ds : List Vc.Data} (h : Fits' [] ds) : ds = [] := by simpa only [Fits'] using h
theorem law6 (xs : List Vc.Data) (hf : FitAs at6 xs) (hw : wgts xs ≤ 1048576) : CallDet Tryz.prog 6 (xs.map .d) [.bool true] := by
  simp only [at6, FitAs] at hf
  obtain ⟨d0, r0, rfl, h0, d1, r1, rfl, h1, d2, r2, rfl, h2, rfl⟩ := hf
  have h0' : Fits' [stC] [d0] := h0
  obtain ⟨l, t0, hx, k1⟩ := stl_fit h0'
  obtain rfl := fits_nil6 k1
  cases hx
  have h1' : Fits' [.sl false [.bool]] [d1] := h1
  obtain ⟨c, t1, hn, k2⟩ := bll_fit h1'
  obtain rfl := fits_nil6 k2
  cases hn
  have h2' : ∃ ds, d2 = .agg ds ∧ Fits' [.int .i64, .int .i64, .int .i64] ds := h2
  obtain ⟨ds2, rfl, m0⟩ := h2'
  obtain ⟨n0, u0, rfl, _, m1⟩ := i64_fit m0
  obtain ⟨n1, u1, rfl, _, m2⟩ := i64_fit m1
  obtain ⟨n2, u2, rfl, _, m3⟩ := i64_fit m2
  obtain rfl := fits_nil6 m3
  have hw0 : (wgts (stns l) + 1) + ((wgts (blsD c) + 1) + ((1 + (1 + (1 + 0))) + 0)) ≤ 1048576 := hw
  have e1 := wgts_stns l
  have e2 := wgts_bls c
  exact c6 l c n0 n1 n2 (by omega) (by omega)

theorem linkSlotsUpto : Rows.LinkSlotsUptoCardSaid := card6 law6
end Go.Proofs.YtfkljdokkfgifaaGreatDoor

