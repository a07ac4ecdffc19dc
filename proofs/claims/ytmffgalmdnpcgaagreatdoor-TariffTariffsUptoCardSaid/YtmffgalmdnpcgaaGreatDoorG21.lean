import Derived.Test.YtmffgalmdnpcgaaGreatDoorG20
set_option linter.unusedSectionVars false
set_option linter.unusedVariables false
set_option linter.unusedSimpArgs false
set_option maxRecDepth 10000
set_option maxHeartbeats 4000000
namespace Vc
open Go Go.Proofs
def curS (S:List Sea) (r:Int):Nat→Sea
 | 0=>⟨0,0,0,0,0,0,0,0⟩
 | k+1=>match S[k]? with
  | some s=>bif decide (s.f≤r) then s else curS S r k
  | none=>curS S r k
theorem curS_at {S:List Sea} {k:Nat} {s:Sea} (h:S[k]?=some s) (r:Int):curS S r (k+1)=bif decide (s.f≤r) then s else curS S r k:=by rw [curS,h]
theorem curS_mem {S:List Sea} {r:Int} {s0:Sea} (h0:S[0]?=some s0) (hr:s0.f≤r):∀ k,k < S.length→∃ i:Nat,S[i]?=some (curS S r (k+1))
 | 0,_=>⟨0,by rw [curS_at h0,decide_eq_true hr]; exact h0⟩
 | k+1,hk=>by
  refine Exists.elim (get_lt S hk) fun s hs=>?_
  rw [curS_at hs]
  cases decide (s.f≤r)
  ·exact curS_mem h0 hr k (by omega)
  ·exact ⟨k+1,hs⟩
def swV (sec:Int):List (Int × Int)→Int→Int
 | [],o=>o
 | x::r,o=>bif decide (sec < x.1) then o else swV sec r x.2
def dayT (t:Tf) (day:Int):List (Int × Int):=(t.t[((wk (curS t.s (day % 364) t.s.length)).getD (day % 7).toNat 0).toNat]?).getD []
def rateN (t:Tf) (day sec:Int):Int:=swV sec (dayT t day) 0
theorem rem7 {q c:Int} (h:0≤q) (e:q % 7=c):arithF .rem .i64 q 7=some c:=by
 simp only [arithF]
 rw [if_neg (by omega),Int.tmod_eq_emod_of_nonneg h,e]
theorem map_at' {α:Type} {l:List α} {k:Nat} {x:α} (f:α→Data) (h:l[k]?=some x):(l.map f)[k]?=some (f x):=by rw [List.getElem?_map,h]; rfl
@[irreducible] def seg166b:ACode:=(.post [10] [0,1,2,3]
 (.block 2
 (.keep [2,10,35,36,37] [0,1,2]
 (.loop
 (.post [2,10,35,36,37] [3]
 (.seq
 (.reg [] [⟨some 38,.cmp .lss (.tmp 37) (.tmp 36),none⟩])
 (.seq
 (.cond (.tmp 38)
 .skip
 (.exit 2))
 (.seq
 (.block 3
 (.seq
 (.reg [3] [⟨some 39,.ixa 2 (.tmp 35) (.tmp 37),none⟩,
 ⟨some 40,.ld true 2 (.tmp 39),none⟩,
 ⟨some 12,.alloc 3 [(.d (.int .i64 0)),(.d (.int .i64 0))],none⟩,
 ⟨none,.st 2 (.tmp 12) (.tmp 40),none⟩])
 (.seq
 (.seq
 (.reg [] [⟨some 41,.fad 0 (.tmp 12),none⟩,
 ⟨some 42,.ld false 1 (.tmp 41),none⟩,
 ⟨some 43,.mov (.tmp 2),none⟩,
 ⟨some 44,.cmp .gtr (.tmp 42) (.tmp 43),none⟩])
 (.cond (.tmp 44)
 (.exit 2)
 .skip))
 (.reg [] [⟨some 45,.fad 1 (.tmp 12),none⟩,
 ⟨some 46,.ld false 1 (.tmp 45),none⟩,
 ⟨some 10,.mov (.tmp 46),none⟩]))))
 (.reg [] [⟨some 47,.arith .add .i64 (.tmp 37) (.cst (.d (.int .i64 1))),none⟩,
 ⟨some 37,.mov (.tmp 47),none⟩])))))))))
def jr166:AFun:=⟨49,4,[.tmp 6],
 (.seq
 (.reg [0] [⟨some 3,.cbx 0 4 (.tmp 0),none⟩,
  ⟨some 6,.mov (.cst (.d (.int .i64 0))),none⟩])
 (.scope
  (.seq
  (.reg [1] [⟨some 7,.alloc 1 [(.d (.int .i64 0)),(.d (.int .i64 0)),(.d (.int .i64 0)),(.d (.int .i64 0)),(.d (.int .i64 0)),(.d (.int .i64 0)),(.d (.int .i64 0)),(.d (.int .i64 0))],none⟩])
  (.seq
   (.seq
   (.reg [] [⟨some 13,.fad 2 (.tmp 3),none⟩,
    ⟨some 14,.ld false 1 (.tmp 13),none⟩,
    ⟨some 15,.len (.tmp 14),none⟩,
    ⟨some 16,.mov (.cst (.d (.int .i64 0))),none⟩])
   (.post [1,2,3,7] [0,1,2]
    (.block 0
    (.keep [1,2,3,7,14,15,16] [0,1]
     (.loop
     (.post [1,2,3,7,14,15,16] [2]
      (.seq
      (.reg [] [⟨some 17,.cmp .lss (.tmp 16) (.tmp 15),none⟩])
      (.seq
       (.cond (.tmp 17)
       .skip
       (.exit 0))
       (.seq
       (.block 1
        (.seq
        (.reg [2] [⟨some 18,.ixa 8 (.tmp 14) (.tmp 16),none⟩,
         ⟨some 19,.ld true 8 (.tmp 18),none⟩,
         ⟨some 9,.alloc 2 [(.d (.int .i64 0)),(.d (.int .i64 0)),(.d (.int .i64 0)),(.d (.int .i64 0)),(.d (.int .i64 0)),(.d (.int .i64 0)),(.d (.int .i64 0)),(.d (.int .i64 0))],none⟩,
         ⟨none,.st 8 (.tmp 9) (.tmp 19),none⟩])
        (.seq
         (.reg [] [⟨some 20,.fad 0 (.tmp 9),none⟩,
          ⟨some 21,.ld false 1 (.tmp 20),none⟩,
          ⟨some 22,.mov (.tmp 1),none⟩,
          ⟨some 23,.arith .rem .i64 (.tmp 22) (.cst (.d (.int .i64 364))),none⟩,
          ⟨some 24,.cmp .leq (.tmp 21) (.tmp 23),none⟩])
         (.cond (.tmp 24)
         (.reg [] [⟨some 25,.ld true 8 (.tmp 9),none⟩,
          ⟨none,.st 8 (.tmp 7) (.tmp 25),none⟩])
         .skip))))
       (.reg [] [⟨some 26,.arith .add .i64 (.tmp 16) (.cst (.d (.int .i64 1))),none⟩,
        ⟨some 16,.mov (.tmp 26),none⟩]))))))))))
   (.seq
   (.reg [] [⟨some 10,.mov (.cst (.d (.int .i64 0))),none⟩])
   (.seq
    .skip
    (.seq
    (.seq
     (.regd [] [⟨some 27,.fad 1 (.tmp 3),none⟩,
      ⟨some 28,.ld false 1 (.tmp 27),none⟩,
      ⟨some 29,.mov (.tmp 1),none⟩,
      ⟨some 30,.arith .rem .i64 (.tmp 29) (.cst (.d (.int .i64 7))),none⟩,
      ⟨some 31,.fad 1 (.tmp 7),none⟩,
      ⟨some 32,.ixp 7 1 (.tmp 31) (.tmp 30),none⟩,
      ⟨some 33,.ld false 1 (.tmp 32),none⟩,
      ⟨some 34,.ixa 1 (.tmp 28) (.tmp 33),none⟩,
      ⟨some 35,.ld false 1 (.tmp 34),none⟩,
      ⟨some 36,.len (.tmp 35),none⟩,
      ⟨some 37,.mov (.cst (.d (.int .i64 0))),none⟩] [(0,2),(1,2),(0,3),(1,3),(0,4),(1,4),(2,4),(3,4),(0,5),(1,5),(0,6),(1,6),(0,10),(1,10),(2,10),(3,10),(4,10),(5,10),(6,10),(7,10),(8,10),(9,10)])
     (.keep [2,10,35,36,37] [0,1,2] seg166b))
    (.seq
     (.reg [] [⟨some 48,.mov (.tmp 10),none⟩,
      ⟨some 6,.mov (.tmp 48),none⟩])
     .ret))))))))⟩
theorem v166b {N:Nat} {l:List (Int × Int)} {sec:Int} (hl:l.length≤1048576) {Q:AExit→St→Prop} (hQ:Q .normal ⟨[(10,.d (.int .i64 (swV sec l 0)))],[.none,.none,.none,.none]⟩):vc Tryz.prog N seg166b ⟨[(2,.d (.int .i64 sec)),(10,.d (.int .i64 0)),(35,.d (.slice 2 (sws l))),(36,.d (.int .i64 (((sws l).length:Nat):Int))),(37,.d (.int .i64 0))],[.none,.none,.none,.none]⟩ Q:=by
 unfold seg166b
 have hlen:=sws_len l
 have fin:∀ v,swV sec l 0=v→Q .normal ⟨[(10,.d (.int .i64 v))],[.none,.none,.none,.none]⟩:=fun v e=>e ▸ hQ
 refine loop_st (fun a:Nat × Int=>⟨[(2,.d (.int .i64 sec)),(10,.d (.int .i64 a.2)),(35,.d (.slice 2 (sws l))),(36,.d (.int .i64 (((sws l).length:Nat):Int))),(37,.d (.int .i64 (a.1:Int)))],[.none,.none,.none,.none]⟩) (fun a=>a.1≤l.length∧swV sec l 0=swV sec (l.drop a.1) a.2) (fun a=>l.length - a.1) (0,0) rfl ⟨Nat.zero_le _,rfl⟩ ?_
 rintro ⟨k,o⟩ ⟨hk,hI⟩
 dsimp only at *
 by_cases hkn:k < l.length
 ·refine Exists.elim (get_lt l hkn) fun x hx=>?_
  have hx1:=sws_at hx
  rw [drop_at hx,swV] at hI
  refine sd ?_
  refine b_lt (fun t1=>?_) (fun t1=>?_)
  refine ix_at hx1 ?_ ?_
  (show (0:Int)≤(↑k:Int); omega)
  refine sd ?_
  refine b_lt (fun t2=>?_) (fun t2=>?_)
  rotate_left
  refine ar_add ?_ ?_
  refine an ?_ ?_
  (show (-9223372036854775808:Int)≤(↑k:Int)+(1:Int); omega)
  (show (↑k:Int)+(1:Int)≤(9223372036854775807:Int); omega)
  rotate_left
  (exfalso; omega)
  ·exact fin _ (by rw [hI,decide_eq_true t2]; rfl)
  ·exact ⟨(k+1,x.2),⟨⟨by omega,by rw [hI,decide_eq_false t2]; rfl⟩,by show l.length - (k+1) < _; omega⟩,rfl⟩
 ·have e:k=l.length:=by omega
  subst e
  rw [List.drop_length,swV] at hI
  refine sd ?_
  refine b_lt (fun t1=>?_) (fun t1=>?_)
  (exfalso; omega)
  rotate_left
  exact fin _ hI
theorem c166 (t:Tf) (h:TfG t) {day:Int} (hd:0≤day) (sec:Int):CallDet Tryz.prog 166 [.d (.agg [.slice 1 (ints t.p),.slice 1 (tys t.t),.slice 8 (seas t.s),.slice 2 (sws t.b)]),.d (.int .i64 day),.d (.int .i64 sec)] [.int .i64 (rateN t day sec)]:=by
 have hls:=seas_len t.s
 have hlt:=tys_len t.t
 have hb:=h.ns
 have hr0:0≤day % 364:=Int.emod_nonneg _ (by decide)
 have hm:∃ i:Nat,t.s[i]?=some (curS t.s (day % 364) t.s.length):=by
  refine Exists.elim (get_lt t.s hb.1) fun s0 h0=>?_
  have:=curS_mem h0 (by rw [h.s0 s0 h0]; exact hr0) (t.s.length - 1) (by omega)
  rwa [Nat.sub_add_cancel hb.1] at this
 refine call_of_vc (x:=jr166) (by kernel_rfl) rfl ?_
 refine loop_st (fun k:Nat=>⟨[(1,.d (.int .i64 day)),(2,.d (.int .i64 sec)),(3,.ptr 0 0),(7,.ptr 1 0),(14,.d (.slice 8 (seas t.s))),(15,.d (.int .i64 (((seas t.s).length:Nat):Int))),(16,.d (.int .i64 (k:Int)))],[.cbox [.slice 1 (ints t.p),.slice 1 (tys t.t),.slice 8 (seas t.s),.slice 2 (sws t.b)],.box [.d (.int .i64 (curS t.s (day % 364) k).f),.d (.int .i64 (curS t.s (day % 364) k).a),.d (.int .i64 (curS t.s (day % 364) k).b),.d (.int .i64 (curS t.s (day % 364) k).c),.d (.int .i64 (curS t.s (day % 364) k).d),.d (.int .i64 (curS t.s (day % 364) k).e),.d (.int .i64 (curS t.s (day % 364) k).g),.d (.int .i64 (curS t.s (day % 364) k).h)],.none,.none]⟩) (fun k=>k≤t.s.length) (fun k=>t.s.length - k) 0 rfl (Nat.zero_le _) ?_
 rintro k hk
 have hk:k≤t.s.length:=hk
 dsimp only
 by_cases hkn:k < t.s.length
 ·refine Exists.elim (get_lt t.s hkn) fun x hx=>?_
  have hx1:=seas_at hx
  have hc:=curS_at hx (day % 364)
  have fin:∀ s,curS t.s (day % 364) (k+1)=s→∃ a':Nat,(a'≤t.s.length∧t.s.length - a' < t.s.length - k)∧(⟨[(1,.d (.int .i64 day)),(2,.d (.int .i64 sec)),(3,.ptr 0 0),(7,.ptr 1 0),(14,.d (.slice 8 (seas t.s))),(15,.d (.int .i64 (((seas t.s).length:Nat):Int))),(16,.d (.int .i64 ((k:Int)+1)))],[.cbox [.slice 1 (ints t.p),.slice 1 (tys t.t),.slice 8 (seas t.s),.slice 2 (sws t.b)],.box [.d (.int .i64 (s).f),.d (.int .i64 (s).a),.d (.int .i64 (s).b),.d (.int .i64 (s).c),.d (.int .i64 (s).d),.d (.int .i64 (s).e),.d (.int .i64 (s).g),.d (.int .i64 (s).h)],.none,.none]⟩:St)=⟨[(1,.d (.int .i64 day)),(2,.d (.int .i64 sec)),(3,.ptr 0 0),(7,.ptr 1 0),(14,.d (.slice 8 (seas t.s))),(15,.d (.int .i64 (((seas t.s).length:Nat):Int))),(16,.d (.int .i64 (a':Int)))],[.cbox [.slice 1 (ints t.p),.slice 1 (tys t.t),.slice 8 (seas t.s),.slice 2 (sws t.b)],.box [.d (.int .i64 (curS t.s (day % 364) a').f),.d (.int .i64 (curS t.s (day % 364) a').a),.d (.int .i64 (curS t.s (day % 364) a').b),.d (.int .i64 (curS t.s (day % 364) a').c),.d (.int .i64 (curS t.s (day % 364) a').d),.d (.int .i64 (curS t.s (day % 364) a').e),.d (.int .i64 (curS t.s (day % 364) a').g),.d (.int .i64 (curS t.s (day % 364) a').h)],.none,.none]⟩:=fun s e=>⟨k+1,⟨by omega,by omega⟩,by rw [e]; rfl⟩
  refine sd ?_
  refine b_lt (fun t1=>?_) (fun t1=>?_)
  refine ix_at hx1 ?_ ?_
  (show (0:Int)≤(↑k:Int); omega)
  refine ar_rem ?_ ?_
  refine an ?_ ?_
  assumption
  (show (1:Int)≤(364:Int); omega)
  refine sd ?_
  refine b_le (fun t2=>?_) (fun t2=>?_)
  refine ar_add ?_ ?_
  refine an ?_ ?_
  (show (-9223372036854775808:Int)≤(↑k:Int)+(1:Int); omega)
  (show (↑k:Int)+(1:Int)≤(9223372036854775807:Int); omega)
  rotate_left
  refine ar_add ?_ ?_
  refine an ?_ ?_
  (show (-9223372036854775808:Int)≤(↑k:Int)+(1:Int); omega)
  (show (↑k:Int)+(1:Int)≤(9223372036854775807:Int); omega)
  rotate_left
  (exfalso; omega)
  ·exact fin x (by rw [hc,decide_eq_true t2]; rfl)
  ·exact fin _ (by rw [hc,decide_eq_false t2]; rfl)
 have e:k=t.s.length:=by omega
 subst e
 refine Exists.elim hm fun i hi=>?_
 generalize hs:curS t.s (day % 364) t.s.length=s at *
 have h7:day % 7=0∨day % 7=1∨day % 7=2∨day % 7=3∨day % 7=4∨day % 7=5∨day % 7=6:=by omega
 rcases h7 with e7 | e7 | e7 | e7 | e7 | e7 | e7
 ·have hr7:=rem7 hd e7
  have hw:=h.wk i s hi s.a (by unfold wk; simp)
  refine Exists.elim (get_lt t.t (k:=s.a.toNat) (by omega)) fun l hl=>?_
  have hl1:(tys t.t)[(s.a).toNat]?=some (.slice 2 (sws l)):=map_at' _ hl
  have hlb:l.length≤1048576:=by have:=(h.ty _ l hl).len.2; omega
  have e:rateN t day sec=swV sec l 0:=by unfold rateN dayT; rw [hs,e7]; show swV sec ((t.t[(s.a).toNat]?).getD []) 0=_; rw [hl]; rfl
  have hvb:=fun (Q:AExit→St→Prop)=>v166b (N:=49) (l:=l) (sec:=sec) hlb (Q:=Q)
  rw [e]
  refine sd ?_
  refine b_lt (fun t1=>?_) (fun t1=>?_)
  (exfalso; omega)
  refine ar_is hr7 ?_
  refine an ?_ ?_
  refine an ?_ ?_
  (show (0:Int)≤(0:Int); omega)
  (show (0:Int) < (↑(7:Nat):Int); omega)
  refine ix_at hl1 ?_ ?_
  (show (0:Int)≤Sea.a s; omega)
  refine hvb _ ?_
  exact rfl
 ·have hr7:=rem7 hd e7
  have hw:=h.wk i s hi s.b (by unfold wk; simp)
  refine Exists.elim (get_lt t.t (k:=s.b.toNat) (by omega)) fun l hl=>?_
  have hl1:(tys t.t)[(s.b).toNat]?=some (.slice 2 (sws l)):=map_at' _ hl
  have hlb:l.length≤1048576:=by have:=(h.ty _ l hl).len.2; omega
  have e:rateN t day sec=swV sec l 0:=by unfold rateN dayT; rw [hs,e7]; show swV sec ((t.t[(s.b).toNat]?).getD []) 0=_; rw [hl]; rfl
  have hvb:=fun (Q:AExit→St→Prop)=>v166b (N:=49) (l:=l) (sec:=sec) hlb (Q:=Q)
  rw [e]
  refine sd ?_
  refine b_lt (fun t1=>?_) (fun t1=>?_)
  (exfalso; omega)
  refine ar_is hr7 ?_
  refine an ?_ ?_
  refine an ?_ ?_
  (show (0:Int)≤(1:Int); omega)
  (show (1:Int) < (↑(7:Nat):Int); omega)
  refine ix_at hl1 ?_ ?_
  (show (0:Int)≤Sea.b s; omega)
  refine hvb _ ?_
  exact rfl
 ·have hr7:=rem7 hd e7
  have hw:=h.wk i s hi s.c (by unfold wk; simp)
  refine Exists.elim (get_lt t.t (k:=s.c.toNat) (by omega)) fun l hl=>?_
  have hl1:(tys t.t)[(s.c).toNat]?=some (.slice 2 (sws l)):=map_at' _ hl
  have hlb:l.length≤1048576:=by have:=(h.ty _ l hl).len.2; omega
  have e:rateN t day sec=swV sec l 0:=by unfold rateN dayT; rw [hs,e7]; show swV sec ((t.t[(s.c).toNat]?).getD []) 0=_; rw [hl]; rfl
  have hvb:=fun (Q:AExit→St→Prop)=>v166b (N:=49) (l:=l) (sec:=sec) hlb (Q:=Q)
  rw [e]
  refine sd ?_
  refine b_lt (fun t1=>?_) (fun t1=>?_)
  (exfalso; omega)
  refine ar_is hr7 ?_
  refine an ?_ ?_
  refine an ?_ ?_
  (show (0:Int)≤(2:Int); omega)
  (show (2:Int) < (↑(7:Nat):Int); omega)
  refine ix_at hl1 ?_ ?_
  (show (0:Int)≤Sea.c s; omega)
  refine hvb _ ?_
  exact rfl
 ·have hr7:=rem7 hd e7
  have hw:=h.wk i s hi s.d (by unfold wk; simp)
  refine Exists.elim (get_lt t.t (k:=s.d.toNat) (by omega)) fun l hl=>?_
  have hl1:(tys t.t)[(s.d).toNat]?=some (.slice 2 (sws l)):=map_at' _ hl
  have hlb:l.length≤1048576:=by have:=(h.ty _ l hl).len.2; omega
  have e:rateN t day sec=swV sec l 0:=by unfold rateN dayT; rw [hs,e7]; show swV sec ((t.t[(s.d).toNat]?).getD []) 0=_; rw [hl]; rfl
  have hvb:=fun (Q:AExit→St→Prop)=>v166b (N:=49) (l:=l) (sec:=sec) hlb (Q:=Q)
  rw [e]
  refine sd ?_
  refine b_lt (fun t1=>?_) (fun t1=>?_)
  (exfalso; omega)
  refine ar_is hr7 ?_
  refine an ?_ ?_
  refine an ?_ ?_
  (show (0:Int)≤(3:Int); omega)
  (show (3:Int) < (↑(7:Nat):Int); omega)
  refine ix_at hl1 ?_ ?_
  (show (0:Int)≤Sea.d s; omega)
  refine hvb _ ?_
  exact rfl
 ·have hr7:=rem7 hd e7
  have hw:=h.wk i s hi s.e (by unfold wk; simp)
  refine Exists.elim (get_lt t.t (k:=s.e.toNat) (by omega)) fun l hl=>?_
  have hl1:(tys t.t)[(s.e).toNat]?=some (.slice 2 (sws l)):=map_at' _ hl
  have hlb:l.length≤1048576:=by have:=(h.ty _ l hl).len.2; omega
  have e:rateN t day sec=swV sec l 0:=by unfold rateN dayT; rw [hs,e7]; show swV sec ((t.t[(s.e).toNat]?).getD []) 0=_; rw [hl]; rfl
  have hvb:=fun (Q:AExit→St→Prop)=>v166b (N:=49) (l:=l) (sec:=sec) hlb (Q:=Q)
  rw [e]
  refine sd ?_
  refine b_lt (fun t1=>?_) (fun t1=>?_)
  (exfalso; omega)
  refine ar_is hr7 ?_
  refine an ?_ ?_
  refine an ?_ ?_
  (show (0:Int)≤(4:Int); omega)
  (show (4:Int) < (↑(7:Nat):Int); omega)
  refine ix_at hl1 ?_ ?_
  (show (0:Int)≤Sea.e s; omega)
  refine hvb _ ?_
  exact rfl
 ·have hr7:=rem7 hd e7
  have hw:=h.wk i s hi s.g (by unfold wk; simp)
  refine Exists.elim (get_lt t.t (k:=s.g.toNat) (by omega)) fun l hl=>?_
  have hl1:(tys t.t)[(s.g).toNat]?=some (.slice 2 (sws l)):=map_at' _ hl
  have hlb:l.length≤1048576:=by have:=(h.ty _ l hl).len.2; omega
  have e:rateN t day sec=swV sec l 0:=by unfold rateN dayT; rw [hs,e7]; show swV sec ((t.t[(s.g).toNat]?).getD []) 0=_; rw [hl]; rfl
  have hvb:=fun (Q:AExit→St→Prop)=>v166b (N:=49) (l:=l) (sec:=sec) hlb (Q:=Q)
  rw [e]
  refine sd ?_
  refine b_lt (fun t1=>?_) (fun t1=>?_)
  (exfalso; omega)
  refine ar_is hr7 ?_
  refine an ?_ ?_
  refine an ?_ ?_
  (show (0:Int)≤(5:Int); omega)
  (show (5:Int) < (↑(7:Nat):Int); omega)
  refine ix_at hl1 ?_ ?_
  (show (0:Int)≤Sea.g s; omega)
  refine hvb _ ?_
  exact rfl
 ·have hr7:=rem7 hd e7
  have hw:=h.wk i s hi s.h (by unfold wk; simp)
  refine Exists.elim (get_lt t.t (k:=s.h.toNat) (by omega)) fun l hl=>?_
  have hl1:(tys t.t)[(s.h).toNat]?=some (.slice 2 (sws l)):=map_at' _ hl
  have hlb:l.length≤1048576:=by have:=(h.ty _ l hl).len.2; omega
  have e:rateN t day sec=swV sec l 0:=by unfold rateN dayT; rw [hs,e7]; show swV sec ((t.t[(s.h).toNat]?).getD []) 0=_; rw [hl]; rfl
  have hvb:=fun (Q:AExit→St→Prop)=>v166b (N:=49) (l:=l) (sec:=sec) hlb (Q:=Q)
  rw [e]
  refine sd ?_
  refine b_lt (fun t1=>?_) (fun t1=>?_)
  (exfalso; omega)
  refine ar_is hr7 ?_
  refine an ?_ ?_
  refine an ?_ ?_
  (show (0:Int)≤(6:Int); omega)
  (show (6:Int) < (↑(7:Nat):Int); omega)
  refine ix_at hl1 ?_ ?_
  (show (0:Int)≤Sea.h s; omega)
  refine hvb _ ?_
  exact rfl
end Vc
