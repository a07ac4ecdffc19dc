import Derived.Test.YtmffgalmdnpcgaaGreatDoorG21
set_option linter.unusedSectionVars false
set_option linter.unusedVariables false
set_option linter.unusedSimpArgs false
set_option maxRecDepth 10000
set_option maxHeartbeats 4000000
namespace Vc
open Go Go.Proofs
theorem swV_rng {n sec:Int}:∀ {l:List (Int × Int)} {o:Int},(∀ x∈l,0≤x.2∧x.2 < n)→0≤o∧o < n→0≤swV sec l o∧swV sec l o < n
 | [],_,_,ho=>ho
 | x::r,o,h,ho=>by
  rw [swV]
  cases decide (sec < x.1)
  ·exact swV_rng (fun y hy=>h y (List.mem_cons_of_mem _ hy)) (h x List.mem_cons_self)
  ·exact ho
theorem dayT_mem {t:Tf} (h:TfG t) (day:Int):∃ k:Nat,t.t[k]?=some (dayT t day):=by
 unfold dayT
 have hb:=h.ns
 have hr0:0≤day % 364:=Int.emod_nonneg _ (by decide)
 have h7:0≤day % 7∧day % 7 < 7:=⟨Int.emod_nonneg _ (by decide),Int.emod_lt_of_pos _ (by decide)⟩
 have hm:∃ i:Nat,t.s[i]?=some (curS t.s (day % 364) t.s.length):=by
  refine Exists.elim (get_lt t.s hb.1) fun s0 h0=>?_
  have:=curS_mem h0 (by rw [h.s0 s0 h0]; exact hr0) (t.s.length - 1) (by omega)
  rwa [Nat.sub_add_cancel hb.1] at this
 refine Exists.elim hm fun i hi=>?_
 generalize curS t.s (day % 364) t.s.length=s at *
 have hw:∃ d,(wk s)[(day % 7).toNat]?=some d:=get_lt (wk s) (by show _ < 7; omega)
 refine Exists.elim hw fun d hd=>?_
 have hr:=h.wk i s hi d (List.mem_of_getElem? hd)
 refine ⟨d.toNat,?_⟩
 rw [List.getD_eq_getElem?_getD,hd]
 refine Exists.elim (get_lt t.t (k:=d.toNat) (by omega)) fun l hl=>?_
 show t.t[d.toNat]?=some ((t.t[d.toNat]?).getD [])
 rw [hl]; rfl
theorem rateN_rng {t:Tf} (h:TfG t) (day sec:Int):0≤rateN t day sec∧rateN t day sec < t.p.length:=by
 refine Exists.elim (dayT_mem h day) fun k hk=>?_
 have hg:=h.ty k _ hk
 have hp:=h.np
 refine swV_rng (fun x hx=>?_) (by omega)
 refine Exists.elim (List.getElem?_of_mem hx) fun i hi=>?_
 exact (hg.rng i x hi).2
def atO (l:List Vr) (tick:Int):Option (Int × Int × Int):=bif decide (ifI l (tick / 86400) < 0) then none else
 match l[(ifI l (tick / 86400)).toNat]? with
 | some v=>some (ifI l (tick / 86400),rateN v.t (tick / 86400) (tick % 86400),(v.t.p[(rateN v.t (tick / 86400) (tick % 86400)).toNat]?).getD 0)
 | none=>none
def rtD (o:Option (Int × Int × Int)):Data:=.agg [.int .i64 (o.getD (0,0,0)).1,.int .i64 (o.getD (0,0,0)).2.1,.int .i64 (o.getD (0,0,0)).2.2]
def tickE (n:Int):Int:=within3 n 0 100000000
structure VsO (l:List Vr):Prop where
 len:l.length≤1048576
 good:∀ (k:Nat) v,l[k]?=some v→TfG v.t
theorem VsG.o {no:Int} {l:List Vr} (h:VsG no l):VsO l:=⟨by have:=h.len; omega,fun k v hv=>tf_good (h.tf k v hv)⟩
theorem at_cases (l:List Vr) (tick:Int) (h:VsO l):(ifI l (tick / 86400) < 0∧atO l tick=none)∨∃ (i:Nat) (v:Vr) (p:Int),ifI l (tick / 86400)=i∧l[i]?=some v∧v.t.p[(rateN v.t (tick / 86400) (tick % 86400)).toNat]?=some p∧atO l tick=some ((i:Int),rateN v.t (tick / 86400) (tick % 86400),p):=by
 have hlo:=ifN_lo (fromB l (tick / 86400)) l.length
 have hlo:-1≤ifI l (tick / 86400)∧ifI l (tick / 86400) < l.length:=hlo
 unfold atO
 by_cases h0:ifI l (tick / 86400) < 0
 ·left
  exact ⟨h0,by rw [decide_eq_true h0]; rfl⟩
 ·right
  have hi:∃ i:Nat,ifI l (tick / 86400)=(i:Int):=⟨(ifI l (tick / 86400)).toNat,by omega⟩
  refine Exists.elim hi fun i hi=>?_
  rw [hi] at hlo
  refine Exists.elim (get_lt l (k:=i) (by omega)) fun v hv=>?_
  have hr:=rateN_rng (h.good i v hv) (tick / 86400) (tick % 86400)
  refine Exists.elim (get_lt v.t.p (k:=(rateN v.t (tick / 86400) (tick % 86400)).toNat) (by omega)) fun p hp=>?_
  refine ⟨i,v,p,hi,hv,hp,?_⟩
  rw [decide_eq_false h0,hi]
  show (match l[((i:Nat):Int).toNat]? with | some v=>_ | none=>_)=_
  rw [Int.toNat_natCast,hv]
  show some _=some _
  rw [hp]; rfl
def jr113:AFun:=⟨37,3,[.cell 4 3 true,.tmp 5],
 (.seq
 (.reg [0,1] [⟨some 2,.cbx 0 2 (.tmp 0),none⟩,
  ⟨some 4,.alloc 1 [(.d (.int .i64 0)),(.d (.int .i64 0)),(.d (.int .i64 0))],none⟩,
  ⟨some 5,.mov (.cst (.d (.bool false))),none⟩])
 (.seq
  (.reg [] [⟨some 10,.mov (.tmp 1),none⟩,
   ⟨some 11,.arith .quo .i64 (.tmp 10) (.cst (.d (.int .i64 86400))),none⟩,
   ⟨some 6,.mov (.tmp 11),none⟩])
  (.seq
  (.reg [] [⟨some 12,.ld true 2 (.tmp 2),none⟩,
   ⟨some 13,.mov (.tmp 6),none⟩,
   ⟨some 14,.call 98 [(.tmp 12),(.tmp 13)],none⟩,
   ⟨some 7,.mov (.tmp 14),none⟩])
  (.seq
   (.seq
   (.reg [] [⟨some 15,.mov (.tmp 7),none⟩,
    ⟨some 16,.cmp .lss (.tmp 15) (.cst (.d (.int .i64 0))),none⟩])
   (.cond (.tmp 16)
    (.seq
    (.reg [] [⟨some 17,.build [(.d (.int .i64 0)),(.d (.int .i64 0)),(.d (.int .i64 0))] [],none⟩,
     ⟨none,.st 3 (.tmp 4) (.tmp 17),none⟩,
     ⟨some 5,.mov (.cst (.d (.bool false))),none⟩])
    .ret)
    .skip))
   (.seq
   (.reg [2] [⟨some 18,.fad 1 (.tmp 2),none⟩,
    ⟨some 19,.ld false 1 (.tmp 18),none⟩,
    ⟨some 20,.mov (.tmp 7),none⟩,
    ⟨some 21,.ixa 6 (.tmp 19) (.tmp 20),none⟩,
    ⟨some 22,.fad 2 (.tmp 21),none⟩,
    ⟨some 23,.ld true 4 (.tmp 22),none⟩,
    ⟨some 8,.alloc 2 [(.nils 1),(.nils 1),(.nils 8),(.nils 2)],none⟩,
    ⟨none,.st 4 (.tmp 8) (.tmp 23),none⟩])
   (.seq
    (.reg [] [⟨some 24,.ld true 4 (.tmp 8),none⟩,
     ⟨some 25,.mov (.tmp 6),none⟩,
     ⟨some 26,.mov (.tmp 1),none⟩,
     ⟨some 27,.arith .rem .i64 (.tmp 26) (.cst (.d (.int .i64 86400))),none⟩,
     ⟨some 28,.call 166 [(.tmp 24),(.tmp 25),(.tmp 27)],none⟩,
     ⟨some 9,.mov (.tmp 28),none⟩])
    (.seq
    (.reg [] [⟨some 29,.mov (.tmp 7),none⟩,
     ⟨some 30,.mov (.tmp 9),none⟩,
     ⟨some 31,.fad 0 (.tmp 8),none⟩,
     ⟨some 32,.ld false 1 (.tmp 31),none⟩,
     ⟨some 33,.mov (.tmp 9),none⟩,
     ⟨some 34,.ixa 1 (.tmp 32) (.tmp 33),none⟩,
     ⟨some 35,.ld false 1 (.tmp 34),none⟩,
     ⟨some 36,.build [(.d (.int .i64 0)),(.d (.int .i64 0)),(.d (.int .i64 0))] [(0,1,(.tmp 29)),(1,1,(.tmp 30)),(2,1,(.tmp 35))],none⟩,
     ⟨none,.st 3 (.tmp 4) (.tmp 36),none⟩,
     ⟨some 5,.mov (.cst (.d (.bool true))),none⟩])
    .ret)))))))⟩
def jr112:AFun:=⟨5,0,[.tmp 2],
 (.seq
 (.reg [] [⟨some 2,.mov (.cst (.d (.int .i64 0))),none⟩])
 (.seq
  (.reg [] [⟨some 3,.mov (.tmp 0),none⟩,
   ⟨some 4,.call 109 [(.tmp 3),(.cst (.d (.int .i64 0))),(.cst (.d (.int .i64 100000000)))],none⟩,
   ⟨some 2,.mov (.tmp 4),none⟩])
  .ret))⟩
def jr33:AFun:=⟨29,4,[.cell 4 3 true,.tmp 5],
 (.seq
 (.reg [0,1] [⟨some 2,.cbx 0 2 (.tmp 0),none⟩,
  ⟨some 4,.alloc 1 [(.d (.int .i64 0)),(.d (.int .i64 0)),(.d (.int .i64 0))],none⟩,
  ⟨some 5,.mov (.cst (.d (.int .i64 0))),none⟩])
 (.seq
  (.seq
  (.reg [2] [⟨some 9,.ld true 2 (.tmp 2),none⟩,
   ⟨some 10,.call 31 [(.tmp 9)],none⟩,
   ⟨some 11,.mov (.tmp 1),none⟩,
   ⟨some 12,.call 112 [(.tmp 11)],none⟩,
   ⟨some 13,.bsl 2 34 1 2 [(.int .i64 0),(.int .i64 0)] [(0,(.tmp 10)),(1,(.tmp 12))],none⟩,
   ⟨some 14,.call 96 [(.tmp 13)],none⟩,
   ⟨some 6,.mov (.tmp 14),none⟩])
  (.seq
   (.reg [] [⟨some 15,.mov (.tmp 6),none⟩,
    ⟨some 16,.cmp .neq (.tmp 15) (.cst (.d (.int .i64 0))),none⟩])
   (.cond (.tmp 16)
   (.seq
    (.reg [] [⟨some 17,.build [(.d (.int .i64 0)),(.d (.int .i64 0)),(.d (.int .i64 0))] [],none⟩,
     ⟨some 18,.mov (.tmp 6),none⟩,
     ⟨none,.st 3 (.tmp 4) (.tmp 17),none⟩,
     ⟨some 5,.mov (.tmp 18),none⟩])
    .ret)
   .skip)))
  (.seq
  (.reg [3] [⟨some 20,.ld true 2 (.tmp 2),none⟩,
   ⟨some 21,.mov (.tmp 1),none⟩,
   ⟨some 22,.call 113 [(.tmp 20),(.tmp 21)],none⟩,
   ⟨some 19,.mov (.tmp 22),none⟩,
   ⟨some 23,.ext 0 (.tmp 19),none⟩,
   ⟨some 24,.ext 1 (.tmp 19),none⟩,
   ⟨some 7,.alloc 3 [(.d (.int .i64 0)),(.d (.int .i64 0)),(.d (.int .i64 0))],none⟩,
   ⟨none,.st 3 (.tmp 7) (.tmp 23),none⟩,
   ⟨some 8,.mov (.tmp 24),none⟩])
  (.seq
   (.seq
   (.reg [] [⟨some 25,.mov (.tmp 8),none⟩,
    ⟨some 26,.not (.tmp 25),none⟩])
   (.cond (.tmp 26)
    (.seq
    (.reg [] [⟨some 27,.build [(.d (.int .i64 0)),(.d (.int .i64 0)),(.d (.int .i64 0))] [],none⟩,
     ⟨none,.st 3 (.tmp 4) (.tmp 27),none⟩,
     ⟨some 5,.mov (.cst (.d (.int .i64 7))),none⟩])
    .ret)
    .skip))
   (.seq
   (.reg [] [⟨some 28,.ld true 3 (.tmp 7),none⟩,
    ⟨none,.st 3 (.tmp 4) (.tmp 28),none⟩,
    ⟨some 5,.mov (.cst (.d (.int .i64 0))),none⟩])
   .ret)))))⟩
theorem c113' (no:Int) (l:List Vr) (h:VsO l) (tick:Int) (ht:0≤tick) (hm:tick≤9000000000000000000):CallDet Tryz.prog 113 [.d (.agg [.int .i64 no,.slice 6 (vrs l)]),.d (.int .i64 tick)] [rtD (atO l tick),.bool (atO l tick).isSome]:=by
 have c98_:=c98' no l h.len (tick / 86400)
 have hd:0≤tick / 86400:=Int.ediv_nonneg ht (by decide)
 rcases at_cases l tick h with ⟨h0,e⟩ | ⟨i,v,p,hi,hv,hp,e⟩
 ·rw [e]
  refine call_of_vc (x:=jr113) (by kernel_rfl) rfl ?_
  refine ar_quo ?_ ?_
  refine an ?_ ?_
  assumption
  refine an ?_ ?_
  (show tick≤(9223372036854775807:Int); omega)
  (show (1:Int)≤(86400:Int); omega)
  refine ca c98_ ?_
  refine sd ?_
  refine b_lt (fun t1=>?_) (fun t1=>?_)
  exact rfl
  (exfalso; omega)
 ·rw [e]
  rw [hi] at c98_
  have hv1:=vrs_at hv
  have hr:=rateN_rng (h.good i v hv) (tick / 86400) (tick % 86400)
  have c166_:=c166 v.t (h.good i v hv) hd (tick % 86400)
  generalize rateN v.t (tick / 86400) (tick % 86400)=n at *
  have hp1:(ints v.t.p)[n.toNat]?=some (.int .i64 p):=map_at' _ hp
  refine call_of_vc (x:=jr113) (by kernel_rfl) rfl ?_
  refine ar_quo ?_ ?_
  refine an ?_ ?_
  assumption
  refine an ?_ ?_
  (show tick≤(9223372036854775807:Int); omega)
  (show (1:Int)≤(86400:Int); omega)
  refine ca c98_ ?_
  refine sd ?_
  refine ix_at hv1 ?_ ?_
  (show (0:Int)≤(↑i:Int); omega)
  refine ar_rem ?_ ?_
  refine an ?_ ?_
  assumption
  (show (1:Int)≤(86400:Int); omega)
  refine ca c166_ ?_
  refine ix_at hp1 ?_ ?_
  (show (0:Int)≤n; omega)
  exact rfl
theorem c112 (n:Int):CallDet Tryz.prog 112 [.d (.int .i64 n)] [.int .i64 (tickE n)]:=by
 have c109_:=c109 n 0 100000000
 refine call_of_vc (x:=jr112) (by kernel_rfl) rfl ?_
 refine ca c109_ ?_
 exact rfl
end Vc
