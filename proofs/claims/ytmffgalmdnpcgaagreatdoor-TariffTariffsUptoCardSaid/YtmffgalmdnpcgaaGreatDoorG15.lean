import Derived.Test.YtmffgalmdnpcgaaGreatDoorG14
set_option linter.unusedSectionVars false
set_option linter.unusedVariables false
set_option linter.unusedSimpArgs false
set_option maxRecDepth 10000
set_option maxHeartbeats 4000000
namespace Vc
open Go Go.Proofs
def ifN (f:Nat→Bool):Nat→Int
 | 0=>-1
 | k+1=>bif f k then (k:Int) else ifN f k
theorem ifN_lo (f:Nat→Bool):∀ k:Nat,-1≤ifN f k∧ifN f k < k
 | 0=>by unfold ifN; omega
 | k+1=>by
  have:=ifN_lo f k
  unfold ifN
  cases f k
  ·show -1≤ifN f k∧ifN f k < ((k+1:Nat):Int); omega
  ·show -1≤(k:Int)∧(k:Int) < ((k+1:Nat):Int); omega
def fromB (l:List Vr) (day:Int) (k:Nat):Bool:=match l[k]? with
 | some v=>decide (v.fr≤day)
 | none=>false
theorem fromB_at {l:List Vr} {k:Nat} {v:Vr} (h:l[k]?=some v) (day:Int):fromB l day k=decide (v.fr≤day):=by unfold fromB; rw [h]
def ifI (l:List Vr) (day:Int):Int:=ifN (fromB l day) l.length
def jr98:AFun:=⟨23,2,[.tmp 4],
 (.seq
 (.reg [0] [⟨some 2,.cbx 0 2 (.tmp 0),none⟩,
  ⟨some 4,.mov (.cst (.d (.int .i64 0))),none⟩])
 (.seq
  (.reg [] [⟨some 5,.mov (.cst (.d (.int .i64 (-1)))),none⟩])
  (.seq
  (.seq
   (.reg [] [⟨some 8,.fad 1 (.tmp 2),none⟩,
    ⟨some 9,.ld false 1 (.tmp 8),none⟩,
    ⟨some 10,.len (.tmp 9),none⟩,
    ⟨some 11,.mov (.cst (.d (.int .i64 0))),none⟩])
   (.post [5] [0,1]
   (.block 0
    (.keep [1,5,9,10,11] [0]
    (.loop
     (.post [1,5,9,10,11] [1]
     (.seq
      (.reg [] [⟨some 12,.cmp .lss (.tmp 11) (.tmp 10),none⟩])
      (.seq
      (.cond (.tmp 12)
       .skip
       (.exit 0))
      (.seq
       (.block 1
       (.seq
        (.reg [1] [⟨some 13,.mov (.tmp 11),none⟩,
         ⟨some 14,.ixa 6 (.tmp 9) (.tmp 11),none⟩,
         ⟨some 15,.ld true 6 (.tmp 14),none⟩,
         ⟨some 7,.alloc 1 [(.d (.int .i64 0)),(.d (.int .i64 0)),(.nils 1),(.nils 1),(.nils 8),(.nils 2)],none⟩,
         ⟨some 6,.mov (.tmp 13),none⟩,
         ⟨none,.st 6 (.tmp 7) (.tmp 15),none⟩])
        (.seq
        (.reg [] [⟨some 16,.fad 0 (.tmp 7),none⟩,
         ⟨some 17,.ld false 1 (.tmp 16),none⟩,
         ⟨some 18,.mov (.tmp 1),none⟩,
         ⟨some 19,.cmp .leq (.tmp 17) (.tmp 18),none⟩])
        (.cond (.tmp 19)
         (.reg [] [⟨some 20,.mov (.tmp 6),none⟩,
          ⟨some 5,.mov (.tmp 20),none⟩])
         .skip))))
       (.reg [] [⟨some 21,.arith .add .i64 (.tmp 11) (.cst (.d (.int .i64 1))),none⟩,
        ⟨some 11,.mov (.tmp 21),none⟩]))))))))))
  (.seq
   (.reg [] [⟨some 22,.mov (.tmp 5),none⟩,
    ⟨some 4,.mov (.tmp 22),none⟩])
   .ret))))⟩
def jr21:AFun:=⟨23,2,[.tmp 4,.tmp 5],
 (.seq
 (.reg [0] [⟨some 2,.cbx 0 2 (.tmp 0),none⟩,
  ⟨some 4,.mov (.cst (.d (.int .i64 0))),none⟩,
  ⟨some 5,.mov (.cst (.d (.int .i64 0))),none⟩])
 (.seq
  (.seq
  (.reg [1] [⟨some 8,.ld true 2 (.tmp 2),none⟩,
   ⟨some 9,.call 31 [(.tmp 8)],none⟩,
   ⟨some 10,.mov (.tmp 1),none⟩,
   ⟨some 11,.call 97 [(.tmp 10)],none⟩,
   ⟨some 12,.bsl 1 34 1 2 [(.int .i64 0),(.int .i64 0)] [(0,(.tmp 9)),(1,(.tmp 11))],none⟩,
   ⟨some 13,.call 96 [(.tmp 12)],none⟩,
   ⟨some 6,.mov (.tmp 13),none⟩])
  (.seq
   (.reg [] [⟨some 14,.mov (.tmp 6),none⟩,
    ⟨some 15,.cmp .neq (.tmp 14) (.cst (.d (.int .i64 0))),none⟩])
   (.cond (.tmp 15)
   (.seq
    (.reg [] [⟨some 16,.mov (.tmp 6),none⟩,
     ⟨some 4,.mov (.cst (.d (.int .i64 0))),none⟩,
     ⟨some 5,.mov (.tmp 16),none⟩])
    .ret)
   .skip)))
  (.seq
  (.reg [] [⟨some 17,.ld true 2 (.tmp 2),none⟩,
   ⟨some 18,.mov (.tmp 1),none⟩,
   ⟨some 19,.call 98 [(.tmp 17),(.tmp 18)],none⟩,
   ⟨some 7,.mov (.tmp 19),none⟩])
  (.seq
   (.seq
   (.reg [] [⟨some 20,.mov (.tmp 7),none⟩,
    ⟨some 21,.cmp .lss (.tmp 20) (.cst (.d (.int .i64 0))),none⟩])
   (.cond (.tmp 21)
    (.seq
    (.reg [] [⟨some 4,.mov (.cst (.d (.int .i64 0))),none⟩,
     ⟨some 5,.mov (.cst (.d (.int .i64 7))),none⟩])
    .ret)
    .skip))
   (.seq
   (.reg [] [⟨some 22,.mov (.tmp 7),none⟩,
    ⟨some 4,.mov (.tmp 22),none⟩,
    ⟨some 5,.mov (.cst (.d (.int .i64 0))),none⟩])
   .ret)))))⟩
def jr25:AFun:=⟨5,0,[.tmp 2],
 (.seq
 (.reg [] [⟨some 2,.mov (.cst (.d (.int .i64 0))),none⟩])
 (.seq
  (.reg [] [⟨some 3,.mov (.tmp 0),none⟩,
   ⟨some 4,.call 70 [(.tmp 3),(.cst (.d (.int .i64 0))),(.cst (.d (.int .i64 100000)))],none⟩,
   ⟨some 2,.mov (.tmp 4),none⟩])
  .ret))⟩
def jr42:AFun:=⟨5,0,[.tmp 2],
 (.seq
 (.reg [] [⟨some 2,.mov (.cst (.d (.int .i64 0))),none⟩])
 (.seq
  (.reg [] [⟨some 3,.mov (.tmp 0),none⟩,
   ⟨some 4,.call 70 [(.tmp 3),(.cst (.d (.int .i64 (-364)))),(.cst (.d (.int .i64 100000)))],none⟩,
   ⟨some 2,.mov (.tmp 4),none⟩])
  .ret))⟩
def jr26:AFun:=⟨23,1,[.tmp 4],
 (.seq
 (.reg [0] [⟨some 2,.cbx 0 2 (.tmp 0),none⟩,
  ⟨some 4,.mov (.cst (.d (.int .i64 0))),none⟩])
 (.seq
  (.seq
  (.reg [] [⟨some 6,.fad 1 (.tmp 2),none⟩,
   ⟨some 7,.ld false 1 (.tmp 6),none⟩,
   ⟨some 8,.len (.tmp 7),none⟩,
   ⟨some 9,.arith .sub .i64 (.tmp 8) (.cst (.d (.int .i64 1))),none⟩,
   ⟨some 5,.mov (.tmp 9),none⟩])
  (.post [] [0]
   (.block 0
   (.keep [1,2,5] [0]
    (.loop
    (.post [1,2,5] []
     (.seq
     (.seq
      (.reg [] [⟨some 10,.mov (.tmp 5),none⟩,
       ⟨some 11,.cmp .geq (.tmp 10) (.cst (.d (.int .i64 0))),none⟩])
      (.cond (.tmp 11)
      .skip
      (.exit 0)))
     (.seq
      (.block 1
      (.seq
       (.reg [] [⟨some 14,.fad 1 (.tmp 2),none⟩,
        ⟨some 15,.ld false 1 (.tmp 14),none⟩,
        ⟨some 16,.mov (.tmp 5),none⟩,
        ⟨some 17,.ixa 6 (.tmp 15) (.tmp 16),none⟩,
        ⟨some 18,.fad 0 (.tmp 17),none⟩,
        ⟨some 19,.ld false 1 (.tmp 18),none⟩,
        ⟨some 20,.mov (.tmp 1),none⟩,
        ⟨some 21,.cmp .leq (.tmp 19) (.tmp 20),none⟩])
       (.cond (.tmp 21)
       (.seq
        (.reg [] [⟨some 22,.mov (.tmp 5),none⟩,
         ⟨some 4,.mov (.tmp 22),none⟩])
        .ret)
       .skip)))
      (.reg [] [⟨some 12,.mov (.tmp 5),none⟩,
       ⟨some 13,.arith .sub .i64 (.tmp 12) (.cst (.d (.int .i64 1))),none⟩,
       ⟨some 5,.mov (.tmp 13),none⟩])))))))))
  (.seq
  (.reg [] [⟨some 4,.mov (.cst (.d (.int .i64 (-1)))),none⟩])
  .ret)))⟩
theorem c98' (no:Int) (l:List Vr) (hl:l.length≤1048576) (day:Int):CallDet Tryz.prog 98 [.d (.agg [.int .i64 no,.slice 6 (vrs l)]),.d (.int .i64 day)] [.int .i64 (ifI l day)]:=by
 have hlen:=vrs_len l
 refine call_of_vc (x:=jr98) (by kernel_rfl) rfl ?_
 rotate_left
 refine loop_st (fun k:Nat=>⟨[(1,.d (.int .i64 day)),(5,.d (.int .i64 (ifN (fromB l day) k))),(9,.d (.slice 6 (vrs l))),(10,.d (.int .i64 (((vrs l).length:Nat):Int))),(11,.d (.int .i64 (k:Int)))],[.none,.none]⟩) (fun k=>k≤l.length) (fun k=>l.length - k) 0 rfl (Nat.zero_le _) ?_
 rintro k hk
 have hk:k≤l.length:=hk
 dsimp only
 by_cases hkn:k < l.length
 ·refine Exists.elim (get_lt l hkn) fun x hx=>?_
  have hx1:=vrs_at hx
  have hf:=fromB_at hx day
  have fin:∀ v:Int,ifN (fromB l day) (k+1)=v→∃ a':Nat,(a'≤l.length∧l.length - a' < l.length - k)∧(⟨[(1,.d (.int .i64 day)),(5,.d (.int .i64 v)),(9,.d (.slice 6 (vrs l))),(10,.d (.int .i64 (((vrs l).length:Nat):Int))),(11,.d (.int .i64 ((k:Int)+1)))],[.none,.none]⟩:St)=⟨[(1,.d (.int .i64 day)),(5,.d (.int .i64 (ifN (fromB l day) a'))),(9,.d (.slice 6 (vrs l))),(10,.d (.int .i64 (((vrs l).length:Nat):Int))),(11,.d (.int .i64 (a':Int)))],[.none,.none]⟩:=fun v h=>⟨k+1,⟨by omega,by omega⟩,by rw [h]; rfl⟩
  refine sd ?_
  refine b_lt (fun t1=>?_) (fun t1=>?_)
  refine ix_at hx1 ?_ ?_
  (show (0:Int)≤(↑k:Int); omega)
  refine sd ?_
  refine b_le (fun t2=>?_) (fun t2=>?_)
  refine ar_add ?_ ?_
  refine an ?_ ?_
  (show (-9223372036854775808:Int)≤(↑k:Int)+(1:Int); omega)
  (show (↑k:Int)+(1:Int)≤(9223372036854775807:Int); omega)
  rotate_left
  refine ar_add ?_ ?_
  refine an ?_ ?_
  (show (-9223372036854775808:Int)≤(↑k:Int)+(1:Int); omega)
  (show (↑k:Int)+(1:Int)≤(9223372036854775807:Int); omega)
  rotate_left
  (exfalso; omega)
  ·exact fin _ (by rw [ifN]; rw [hf,decide_eq_true t2]; rfl)
  ·exact fin _ (by rw [ifN,hf,decide_eq_false t2]; rfl)
 ·have e:k=l.length:=by omega
  subst e
  refine sd ?_
  refine b_lt (fun t1=>?_) (fun t1=>?_)
  (exfalso; omega)
  exact rfl
theorem c21' (no:Int) (l:List Vr) (hl:l.length≤1048576) (hr:∀ x∈l,x.t.ok) (day:Int) (e:Int) (he:firstOf [calL no l,dayE day]=e):CallDet Tryz.prog 21 [.d (.agg [.int .i64 no,.slice 6 (vrs l)]),.d (.int .i64 day)] [.int .i64 (bif e != 0 then 0 else bif decide (ifI l day < 0) then 0 else ifI l day),.int .i64 (bif e != 0 then e else bif decide (ifI l day < 0) then 7 else 0)]:=by
 have c31_:=c31' no l hl hr
 have c97_:=c97 day
 have c98_:=c98' no l hl day
 have c96_:CallDet Tryz.prog 96 [.d (.slice 1 [.int .i64 (calL no l),.int .i64 (dayE day)])] [.int .i64 (firstOf [calL no l,dayE day])]:=c96 [calL no l,dayE day] (by simp)
 rw [he] at c96_
 refine call_of_vc (x:=jr21) (by kernel_rfl) rfl ?_
 refine ca c31_ ?_
 refine ca c97_ ?_
 refine sd ?_
 refine sd ?_
 refine ca c96_ ?_
 refine sd ?_
 refine b_ne (fun t1=>?_) (fun t1=>?_)
 rotate_left
 refine ca c98_ ?_
 refine sd ?_
 refine b_lt (fun t2=>?_) (fun t2=>?_)
 rotate_left
 rotate_left
 ·rw [bne_t t1]; rfl
 ·rw [t1,decide_eq_true t2]; rfl
 ·rw [t1,decide_eq_false t2]; rfl
theorem c25 (n:Int):CallDet Tryz.prog 25 [.d (.int .i64 n)] [.int .i64 (dayE n)]:=by
 have c70_:=c70 n 0 100000
 refine call_of_vc (x:=jr25) (by kernel_rfl) rfl ?_
 refine ca c70_ ?_
 exact rfl
theorem c42 (n:Int):CallDet Tryz.prog 42 [.d (.int .i64 n)] [.int .i64 (sinE n)]:=by
 have c70_:=c70 n (-364) 100000
 refine call_of_vc (x:=jr42) (by kernel_rfl) rfl ?_
 refine ca c70_ ?_
 exact rfl
theorem c26' (no:Int) (l:List Vr) (hl:l.length≤1048576) (day:Int):CallDet Tryz.prog 26 [.d (.agg [.int .i64 no,.slice 6 (vrs l)]),.d (.int .i64 day)] [.int .i64 (ifI l day)]:=by
 have hlen:=vrs_len l
 refine call_of_vc (x:=jr26) (by kernel_rfl) rfl ?_
 refine ar_sub (by omega) ?_
 refine loop_st (fun k:Nat=>⟨[(1,.d (.int .i64 day)),(2,.ptr 0 0),(5,.d (.int .i64 ((k:Int) - 1)))],[.cbox [.int .i64 no,.slice 6 (vrs l)]]⟩) (fun k=>k≤l.length∧ifI l day=ifN (fromB l day) k) (fun k=>k) l.length (by rw [hlen]) ⟨Nat.le_refl _,rfl⟩ ?_
 rintro k ⟨hk,hI⟩
 dsimp only
 match k,hk,hI with
 | 0,hk,hI =>
  refine sd ?_
  rotate_left
  exact res_c hI.symm
 | k+1,hk,hI =>
  have e1:((k+1:Nat):Int) - 1=(k:Int):=by omega
  rw [e1]
  refine Exists.elim (get_lt l (k:=k) (by omega)) fun x hx=>?_
  have hx1:=vrs_at hx
  have hf:=fromB_at hx day
  rw [ifN,hf] at hI
  have fin:¬ x.fr≤day→∃ a':Nat,((a'≤l.length∧ifI l day=ifN (fromB l day) a')∧a' < k+1)∧(⟨[(1,.d (.int .i64 day)),(2,.ptr 0 0),(5,.d (.int .i64 ((k:Int) - 1)))],[.cbox [.int .i64 no,.slice 6 (vrs l)]]⟩:St)=⟨[(1,.d (.int .i64 day)),(2,.ptr 0 0),(5,.d (.int .i64 ((a':Int) - 1)))],[.cbox [.int .i64 no,.slice 6 (vrs l)]]⟩:=fun t=>⟨k,⟨⟨by omega,by rw [hI,decide_eq_false t]; rfl⟩,by omega⟩,rfl⟩
  refine sd ?_
  refine ix_at hx1 ?_ ?_
  (show (0:Int)≤(↑k:Int); omega)
  refine sd ?_
  refine b_le (fun t1=>?_) (fun t1=>?_)
  rotate_left
  refine ar_sub ?_ ?_
  refine an ?_ ?_
  (show (-9223372036854775808:Int)≤(↑k:Int) - (1:Int); omega)
  (show (↑k:Int) - (1:Int)≤(9223372036854775807:Int); omega)
  rotate_left
  ·exact res_c (by rw [hI,decide_eq_true t1]; rfl)
  ·exact fin t1
end Vc
