import Derived.Test.YtkghjijnlnnfkaaGreatDoorG29
set_option linter.unusedSectionVars false
set_option linter.unusedVariables false
set_option linter.unusedSimpArgs false
set_option maxRecDepth 10000
set_option maxHeartbeats 4000000
namespace Vc
open Go Go.Proofs
def jr10:AFun:=⟨382,13,[.tmp 6],
 (.seq
 (.reg [0,1] [⟨some 3,.cbx 0 22 (.tmp 0),none⟩,
  ⟨some 5,.cbx 1 3 (.tmp 2),none⟩,
  ⟨some 6,.mov (.cst (.d (.bool false))),none⟩])
 (.seq
  (.seq
  (.reg [] [⟨some 47,.ld true 22 (.tmp 3),none⟩,
   ⟨some 48,.call 14 [(.tmp 47)],none⟩,
   ⟨some 49,.not (.tmp 48),none⟩,
   ⟨some 50,.mov (.tmp 49),none⟩,
   ⟨some 51,.ld true 22 (.tmp 3),some (50,false)⟩,
   ⟨some 52,.call 20 [(.tmp 51)],some (50,false)⟩,
   ⟨some 53,.cmp .neq (.tmp 52) (.cst (.d (.int .i64 0))),some (50,false)⟩,
   ⟨some 54,.pick (.tmp 50) (.cst (.d (.bool true))) (.tmp 53),none⟩,
   ⟨some 55,.mov (.tmp 54),none⟩,
   ⟨some 56,.ld true 22 (.tmp 3),some (55,false)⟩,
   ⟨some 57,.call 24 [(.tmp 56)],some (55,false)⟩,
   ⟨some 58,.cmp .gtr (.tmp 57) (.cst (.d (.int .i64 1000000))),some (55,false)⟩,
   ⟨some 59,.pick (.tmp 55) (.cst (.d (.bool true))) (.tmp 58),none⟩,
   ⟨some 60,.mov (.tmp 59),none⟩,
   ⟨some 61,.mov (.tmp 1),some (60,false)⟩,
   ⟨some 62,.len (.tmp 61),some (60,false)⟩,
   ⟨some 63,.cmp .gtr (.tmp 62) (.cst (.d (.int .i64 6))),some (60,false)⟩,
   ⟨some 64,.pick (.tmp 60) (.cst (.d (.bool true))) (.tmp 63),none⟩,
   ⟨some 65,.mov (.tmp 64),none⟩,
   ⟨some 66,.mov (.tmp 1),some (65,false)⟩,
   ⟨some 67,.call 50 [(.tmp 66)],some (65,false)⟩,
   ⟨some 68,.cmp .neq (.tmp 67) (.cst (.d (.int .i64 0))),some (65,false)⟩,
   ⟨some 69,.pick (.tmp 65) (.cst (.d (.bool true))) (.tmp 68),none⟩])
  (.cond (.tmp 69)
   (.seq
   (.reg [] [⟨some 70,.call 15 [],none⟩,
    ⟨some 6,.mov (.tmp 70),none⟩])
   .ret)
   .skip))
  (.seq
  (.regd [] [⟨some 71,.ixp 3 1 (.tmp 5) (.cst (.d (.int .i64 0))),none⟩,
   ⟨some 72,.ld false 1 (.tmp 71),none⟩,
   ⟨some 73,.conv .i64 (.tmp 72),none⟩,
   ⟨some 74,.arith .rem .i64 (.tmp 73) (.cst (.d (.int .i64 2000000))),none⟩,
   ⟨some 75,.ixp 3 1 (.tmp 5) (.cst (.d (.int .i64 1))),none⟩,
   ⟨some 76,.ld false 1 (.tmp 75),none⟩,
   ⟨some 77,.conv .i64 (.tmp 76),none⟩,
   ⟨some 78,.arith .rem .i64 (.tmp 77) (.cst (.d (.int .i64 100000))),none⟩,
   ⟨some 79,.arith .add .i64 (.cst (.d (.int .i64 1))) (.tmp 78),none⟩,
   ⟨some 80,.ixp 3 1 (.tmp 5) (.cst (.d (.int .i64 2))),none⟩,
   ⟨some 81,.ld false 1 (.tmp 80),none⟩,
   ⟨some 82,.conv .i64 (.tmp 81),none⟩,
   ⟨some 83,.arith .rem .i64 (.tmp 82) (.cst (.d (.int .i64 100000))),none⟩,
   ⟨some 7,.mov (.tmp 74),none⟩,
   ⟨some 8,.mov (.tmp 79),none⟩,
   ⟨some 9,.mov (.tmp 83),none⟩] [(0,4),(1,4),(2,4),(3,4),(0,5),(1,5),(2,5),(3,5),(0,6),(1,6),(2,6),(3,6),(0,7),(1,7),(2,7),(3,7),(0,8),(1,8),(2,8),(3,8),(0,9),(1,9),(2,9),(3,9),(4,9),(5,9),(6,9),(7,9),(8,9),(0,10),(1,10),(2,10),(3,10),(4,10),(5,10),(6,10),(7,10),(8,10),(0,11),(1,11),(2,11),(3,11),(4,11),(5,11),(6,11),(7,11),(8,11),(0,12),(1,12),(2,12),(3,12),(4,12),(5,12),(6,12),(7,12),(8,12),(4,13),(5,13),(6,13),(7,13),(8,13),(9,13),(10,13),(11,13),(12,13),(9,14),(10,14),(11,14),(12,14)])
  (.seq
   (.reg [] [⟨some 85,.mov (.tmp 1),none⟩,
    ⟨some 86,.call 47 [(.tmp 85)],none⟩,
    ⟨some 87,.mov (.tmp 7),none⟩,
    ⟨some 88,.call 48 [(.tmp 86),(.tmp 87)],none⟩,
    ⟨some 84,.mov (.tmp 88),none⟩,
    ⟨some 89,.ext 0 (.tmp 84),none⟩,
    ⟨some 90,.ext 1 (.tmp 84),none⟩,
    ⟨some 10,.mov (.tmp 89),none⟩,
    ⟨some 11,.mov (.tmp 90),none⟩])
   (.seq
   (.seq
    (.reg [] [⟨some 91,.mov (.tmp 11),none⟩,
     ⟨some 92,.cmp .neq (.tmp 91) (.cst (.d (.int .i64 0))),none⟩,
     ⟨some 93,.mov (.tmp 92),none⟩,
     ⟨some 94,.mov (.tmp 11),some (93,true)⟩,
     ⟨some 95,.cmp .neq (.tmp 94) (.cst (.d (.int .i64 7))),some (93,true)⟩,
     ⟨some 96,.pick (.tmp 93) (.tmp 95) (.cst (.d (.bool false))),none⟩])
    (.cond (.tmp 96)
    (.seq
     (.reg [] [⟨some 6,.mov (.cst (.d (.bool false))),none⟩])
     .ret)
    .skip))
   (.seq
    (.reg [] [⟨some 98,.ld true 22 (.tmp 3),none⟩,
     ⟨some 99,.call 17 [(.tmp 98)],none⟩,
     ⟨some 100,.mov (.tmp 1),none⟩,
     ⟨some 101,.call 47 [(.tmp 100)],none⟩,
     ⟨some 102,.mov (.tmp 7),none⟩,
     ⟨some 103,.mov (.tmp 8),none⟩,
     ⟨some 104,.call 49 [(.tmp 99),(.tmp 101),(.tmp 102),(.tmp 103)],none⟩,
     ⟨some 97,.mov (.tmp 104),none⟩,
     ⟨some 105,.ext 0 (.tmp 97),none⟩,
     ⟨some 106,.ext 1 (.tmp 97),none⟩,
     ⟨some 12,.mov (.tmp 105),none⟩,
     ⟨some 13,.mov (.tmp 106),none⟩])
    (.seq
    (.reg [] [⟨some 107,.mov (.tmp 7),none⟩,
     ⟨some 14,.mov (.tmp 107),none⟩])
    (.seq
     (.seq
     (.reg [] [⟨some 108,.ld true 22 (.tmp 3),none⟩,
      ⟨some 109,.call 24 [(.tmp 108)],none⟩,
      ⟨some 15,.mov (.tmp 109),none⟩])
     (.seq
      (.reg [] [⟨some 110,.mov (.tmp 15),none⟩,
       ⟨some 111,.cmp .geq (.tmp 110) (.cst (.d (.int .i64 0))),none⟩])
      (.cond (.tmp 111)
      (.reg [] [⟨some 112,.mov (.tmp 14),none⟩,
       ⟨some 113,.mov (.tmp 15),none⟩,
       ⟨some 114,.mov (.tmp 8),none⟩,
       ⟨some 115,.arith .quo .i64 (.tmp 113) (.tmp 114),none⟩,
       ⟨some 116,.arith .add .i64 (.tmp 115) (.cst (.d (.int .i64 1))),none⟩,
       ⟨some 117,.arith .add .i64 (.tmp 112) (.tmp 116),none⟩,
       ⟨some 14,.mov (.tmp 117),none⟩])
      .skip)))
     (.seq
     (.reg [] [⟨some 119,.mov (.tmp 1),none⟩,
      ⟨some 120,.call 47 [(.tmp 119)],none⟩,
      ⟨some 121,.mov (.tmp 14),none⟩,
      ⟨some 122,.call 48 [(.tmp 120),(.tmp 121)],none⟩,
      ⟨some 118,.mov (.tmp 122),none⟩,
      ⟨some 123,.ext 0 (.tmp 118),none⟩,
      ⟨some 124,.ext 1 (.tmp 118),none⟩,
      ⟨some 16,.mov (.tmp 123),none⟩,
      ⟨some 17,.mov (.tmp 124),none⟩])
     (.seq
      (.seq
      (.reg [] [⟨some 125,.mov (.tmp 13),none⟩,
       ⟨some 126,.mov (.tmp 17),none⟩,
       ⟨some 127,.cmp .neq (.tmp 125) (.tmp 126),none⟩,
       ⟨some 128,.mov (.tmp 127),none⟩,
       ⟨some 129,.mov (.tmp 12),some (128,false)⟩,
       ⟨some 130,.mov (.tmp 16),some (128,false)⟩,
       ⟨some 131,.cmp .neq (.tmp 129) (.tmp 130),some (128,false)⟩,
       ⟨some 132,.pick (.tmp 128) (.cst (.d (.bool true))) (.tmp 131),none⟩,
       ⟨some 133,.mov (.tmp 132),none⟩,
       ⟨some 134,.mov (.tmp 13),some (133,false)⟩,
       ⟨some 135,.cmp .eql (.tmp 134) (.cst (.d (.int .i64 0))),some (133,false)⟩,
       ⟨some 136,.mov (.tmp 135),some (133,false)⟩,
       ⟨some 137,.mov (.tmp 12),some (136,true)⟩,
       ⟨some 138,.mov (.tmp 14),some (136,true)⟩,
       ⟨some 139,.cmp .lss (.tmp 137) (.tmp 138),some (136,true)⟩,
       ⟨some 140,.pick (.tmp 136) (.tmp 139) (.cst (.d (.bool false))),some (133,false)⟩,
       ⟨some 141,.pick (.tmp 133) (.cst (.d (.bool true))) (.tmp 140),none⟩])
      (.cond (.tmp 141)
       (.seq
       (.reg [] [⟨some 6,.mov (.cst (.d (.bool false))),none⟩])
       .ret)
       .skip))
      (.seq
      (.seq
       (.reg [] [⟨some 142,.mov (.tmp 11),none⟩,
        ⟨some 143,.cmp .neq (.tmp 142) (.cst (.d (.int .i64 0))),none⟩])
       (.cond (.tmp 143)
       (.seq
        (.reg [] [⟨some 144,.mov (.tmp 10),none⟩,
         ⟨some 145,.cmp .eql (.tmp 144) (.cst (.d (.int .i64 0))),none⟩,
         ⟨some 146,.mov (.tmp 145),none⟩,
         ⟨some 147,.call 15 [],some (146,true)⟩,
         ⟨some 148,.pick (.tmp 146) (.tmp 147) (.cst (.d (.bool false))),none⟩,
         ⟨some 6,.mov (.tmp 148),none⟩])
        .ret)
       .skip))
      (.keep [1,7,9,10] [0,1,2,3,4,5,6,7,8,9,10,11,12] seg10))))))))))))⟩
theorem cut_y (a : Ac) (c : Bool) (l : List Hr) (t u : Int) (hla : a.u.length ≤ 1048576) (hl : l.length ≤ 1048576) (h : ctE a c l t u = 0) (h0 : 0 ≤ ctT a t u) (h1 : ctT a t u ≤ 100000000) :
  (∃ w:Int,ctT a t u≤w∧CallDet Tryz.prog 49 [.d (.agg [.int .i64 (a.b),.int .i64 (a.d),.int .i64 a.s,.int .i64 a.e,.int .u8 a.k.a,.int .u8 a.k.b,.int .u8 a.k.c,.int .u8 a.k.d,.int .u8 a.k.e,.int .u8 a.k.f,.int .u8 a.k.g,.int .u8 a.k.h,.int .u8 a.n.a,.int .u8 a.n.b,.int .u8 a.n.c,.int .u8 a.n.d,.int .u8 a.n.e,.int .u8 a.n.f,.int .u8 a.n.g,.int .u8 a.n.h,.bool c,.slice 1 (ints a.u)]),.d (.slice 9 (hrs l)),.d (.int .i64 t),.d (.int .i64 u)] [.int .i64 w,.int .i64 0]∧CallDet Tryz.prog 48 [.d (.slice 9 (hrs l)),.d (.int .i64 (ctT a t u))] [.int .i64 w,.int .i64 0]) ∨
  (CallDet Tryz.prog 49 [.d (.agg [.int .i64 (a.b),.int .i64 (a.d),.int .i64 a.s,.int .i64 a.e,.int .u8 a.k.a,.int .u8 a.k.b,.int .u8 a.k.c,.int .u8 a.k.d,.int .u8 a.k.e,.int .u8 a.k.f,.int .u8 a.k.g,.int .u8 a.k.h,.int .u8 a.n.a,.int .u8 a.n.b,.int .u8 a.n.c,.int .u8 a.n.d,.int .u8 a.n.e,.int .u8 a.n.f,.int .u8 a.n.g,.int .u8 a.n.h,.bool c,.slice 1 (ints a.u)]),.d (.slice 9 (hrs l)),.d (.int .i64 t),.d (.int .i64 u)] [.int .i64 0,.int .i64 7]∧CallDet Tryz.prog 48 [.d (.slice 9 (hrs l)),.d (.int .i64 (ctT a t u))] [.int .i64 0,.int .i64 7]):=by
 have x:=c49 a c l t u hla hl
 have y:=c48 l (ctT a t u) hl
 rw [show (bif ctE a c l t u != 0 then [.int .i64 0,.int .i64 (ctE a c l t u)] else ctR a l t u)=ctR a l t u from by rw [h]; rfl] at x
 rw [frE_in (ctE_0 h).2.1 h0 h1] at y
 unfold ctR at x
 rw [decide_eq_false (show ¬ 100000000 < ctT a t u by omega)] at x
 by_cases hf:frA l (ctT a t u) < 0
 ·rw [decide_eq_true hf] at x y
  exact .inr ⟨x,y⟩
 ·rw [decide_eq_false hf] at x y
  exact .inl ⟨_,(frA_spec h0 rfl hf).1.1,x,y⟩
theorem rem_x {n m:Int} (h:0≤n) (hm:0 < m):∃ t,arithF .rem .i64 n m=some t∧0≤t∧t < m :=
 ⟨n % m,by simp only [arithF]; rw [if_neg (by omega),Int.tmod_eq_emod_of_nonneg h],Int.emod_nonneg _ (by omega),Int.emod_lt_of_pos _ hm⟩
theorem c10 (a : Ac) (c : Bool) (l : List Hr) (n0 n1 n2 : Int) (hla : a.u.length ≤ 1048576) (hl : l.length ≤ 1048576) (b0 : 0 ≤ n0 ∧ n0 ≤ 4294967295) (b1 : 0 ≤ n1 ∧ n1 ≤ 4294967295) (b2 : 0 ≤ n2 ∧ n2 ≤ 4294967295) :
  CallDet Tryz.prog 10 [.d (.agg [.int .i64 (a.b),.int .i64 (a.d),.int .i64 a.s,.int .i64 a.e,.int .u8 a.k.a,.int .u8 a.k.b,.int .u8 a.k.c,.int .u8 a.k.d,.int .u8 a.k.e,.int .u8 a.k.f,.int .u8 a.k.g,.int .u8 a.k.h,.int .u8 a.n.a,.int .u8 a.n.b,.int .u8 a.n.c,.int .u8 a.n.d,.int .u8 a.n.e,.int .u8 a.n.f,.int .u8 a.n.g,.int .u8 a.n.h,.bool c,.slice 1 (ints a.u)]),.d (.slice 9 (hrs l)),.d (.agg [.int .u32 n0,.int .u32 n1,.int .u32 n2])] [.bool true]:=by
 have hll:=hrs_len l
 have c14_:=c14 a c
 have c20_:=c20 a c hla
 have c47_:=c47 l hl
 have c17_:=c17 a c hla
 have c50_:=c50 l hl
 cases hs:shU a.u with
 | false =>
  rw [hs] at c14_
  refine call_of_vc (x:=jr10) (by kernel_rfl) rfl ?_
  refine ca c14_ ?_
  refine sd ?_
  refine sd ?_
  refine sd ?_
  refine sd ?_
  refine ca (c15) ?_
  exact rfl
 | true =>
  rw [hs] at c14_
  by_cases hA:ckA a c=0
  ·have hb:=ckA_b hA
   have c24_:=c24 a c (by omega) (by omega)
   rw [hA] at c20_
   by_cases hL:1000000 < a.b+a.e
   ·refine call_of_vc (x:=jr10) (by kernel_rfl) rfl ?_
    refine ca c14_ ?_
    refine ca c20_ ?_
    refine sd ?_
    refine ca c24_ ?_
    refine sd ?_
    refine b_lt (fun t1=>?_) (fun t1=>?_)
    refine sd ?_
    refine sd ?_
    refine ca (c15) ?_
    exact rfl
    (exfalso; omega)
   ·by_cases h6:(6:Int) < (((hrs l).length:Nat):Int)
    ·refine call_of_vc (x:=jr10) (by kernel_rfl) rfl ?_
     refine ca c14_ ?_
     refine ca c20_ ?_
     refine sd ?_
     refine ca c24_ ?_
     refine sd ?_
     refine b_lt (fun t1=>?_) (fun t1=>?_)
     (exfalso; omega)
     refine sd ?_
     refine b_lt (fun t2=>?_) (fun t2=>?_)
     refine sd ?_
     refine ca (c15) ?_
     exact rfl
     (exfalso; omega)
    ·by_cases hH:ckH l=0
     ·obtain ⟨t,hr0,h0,h1⟩:=rem_x (n:=IntKind.wrap .i64 n0) (m:=2000000) (by rw [IntWalk.i64_in _ (by omega)]; exact b0.1) (by decide)
      obtain ⟨u0,hr1,u00,u01⟩:=rem_x (n:=IntKind.wrap .i64 n1) (m:=100000) (by rw [IntWalk.i64_in _ (by omega)]; exact b1.1) (by decide)
      obtain ⟨f,hr2,f0,f1⟩:=rem_x (n:=IntKind.wrap .i64 n2) (m:=100000) (by rw [IntWalk.i64_in _ (by omega)]; exact b2.1) (by decide)
      rw [hH] at c50_
      have hcE:ctE a c l t (1+u0)=0:=by unfold ctE; rw [hA,hH,within_in h0 (by omega),within_in (by omega) (by omega)]; rfl
      have c48_t:=c48 l t hl
      rw [frE_in hH h0 (by omega)] at c48_t
      by_cases hn:0≤a.b+a.e
      ·have hd:=div_b hn (by omega) (show 1≤1+u0 by omega)
       have hd2:(a.b+a.e) / (1+u0)≤a.b+a.e:=Int.ediv_le_self _ hn
       have eT:ctT a t (1+u0)=t+((a.b+a.e) / (1+u0)+1):=by unfold ctT; rw [decide_eq_true hn]; show t+(a.b+a.e) / (1+u0)+1=_; omega
       have hy:=cut_y a c l t (1+u0) hla hl hcE (by rw [eT]; omega) (by rw [eT]; omega)
       rw [eT] at hy
       rcases hy with ⟨w,hw,c49_,c48_f⟩ | ⟨c49_,c48_f⟩
       ·by_cases hv:frA l t < 0
        ·rw [decide_eq_true hv] at c48_t
         refine call_of_vc (x:=jr10) (by kernel_rfl) rfl ?_
         refine ca c14_ ?_
         refine ca c20_ ?_
         refine sd ?_
         refine ca c24_ ?_
         refine sd ?_
         refine b_lt (fun t1=>?_) (fun t1=>?_)
         (exfalso; omega)
         refine sd ?_
         refine b_lt (fun t2=>?_) (fun t2=>?_)
         (exfalso; omega)
         refine ca c50_ ?_
         refine sd ?_
         refine an ?_ ?_
         refine an ?_ ?_
         (show (0:Int)≤(0:Int); omega)
         (show (0:Int) < (↑(3:Nat):Int); omega)
         refine ca rfl ?_
         refine ar_is hr0 ?_
         refine an ?_ ?_
         refine an ?_ ?_
         (show (0:Int)≤(1:Int); omega)
         (show (1:Int) < (↑(3:Nat):Int); omega)
         refine ca rfl ?_
         refine ar_is hr1 ?_
         refine ar_add ?_ ?_
         refine an ?_ ?_
         (show (-9223372036854775808:Int)≤(1:Int)+u0; omega)
         (show (1:Int)+u0≤(9223372036854775807:Int); omega)
         refine an ?_ ?_
         refine an ?_ ?_
         (show (0:Int)≤(2:Int); omega)
         (show (2:Int) < (↑(3:Nat):Int); omega)
         refine ca rfl ?_
         refine ar_is hr2 ?_
         refine ca c47_ ?_
         refine ca c48_t ?_
         refine sd ?_
         refine sd ?_
         refine ca c17_ ?_
         refine ca c47_ ?_
         refine ca c49_ ?_
         refine ca c24_ ?_
         refine sd ?_
         refine b_le (fun t3=>?_) (fun t3=>?_)
         refine ar_quo ?_ ?_
         refine an ?_ ?_
         assumption
         refine an ?_ ?_
         (show Ac.b a+Ac.e a≤(9223372036854775807:Int); omega)
         (show (1:Int)≤(1:Int)+u0; omega)
         refine ar_add ?_ ?_
         refine an ?_ ?_
         (show (-9223372036854775808:Int)≤(Ac.b a+Ac.e a) / ((1:Int)+u0)+(1:Int); omega)
         (show (Ac.b a+Ac.e a) / ((1:Int)+u0)+(1:Int)≤(9223372036854775807:Int); omega)
         refine ar_add ?_ ?_
         refine an ?_ ?_
         (show (-9223372036854775808:Int)≤t+((Ac.b a+Ac.e a) / ((1:Int)+u0)+(1:Int)); omega)
         (show t+((Ac.b a+Ac.e a) / ((1:Int)+u0)+(1:Int))≤(9223372036854775807:Int); omega)
         refine ca c47_ ?_
         refine ca c48_f ?_
         refine sd ?_
         refine sd ?_
         refine b_ne (fun t4=>?_) (fun t4=>?_)
         (exfalso; omega)
         refine sd ?_
         refine sd ?_
         refine b_lt (fun t5=>?_) (fun t5=>?_)
         (exfalso; omega)
         refine sd ?_
         refine sd ?_
         refine ca (c15) ?_
         exact rfl
         (exfalso; omega)
        ·rw [decide_eq_false hv] at c48_t
         obtain ⟨⟨v1,v2⟩,v3,v4,v5⟩:=frA_spec h0 rfl hv
         by_cases he:frA l t=t
         ·generalize frA l t=v at *
          refine call_of_vc (x:=jr10) (by kernel_rfl) rfl ?_
          refine ca c14_ ?_
          refine ca c20_ ?_
          refine sd ?_
          refine ca c24_ ?_
          refine sd ?_
          refine b_lt (fun t1=>?_) (fun t1=>?_)
          (exfalso; omega)
          refine sd ?_
          refine b_lt (fun t2=>?_) (fun t2=>?_)
          (exfalso; omega)
          refine ca c50_ ?_
          refine sd ?_
          refine an ?_ ?_
          refine an ?_ ?_
          (show (0:Int)≤(0:Int); omega)
          (show (0:Int) < (↑(3:Nat):Int); omega)
          refine ca rfl ?_
          refine ar_is hr0 ?_
          refine an ?_ ?_
          refine an ?_ ?_
          (show (0:Int)≤(1:Int); omega)
          (show (1:Int) < (↑(3:Nat):Int); omega)
          refine ca rfl ?_
          refine ar_is hr1 ?_
          refine ar_add ?_ ?_
          refine an ?_ ?_
          (show (-9223372036854775808:Int)≤(1:Int)+u0; omega)
          (show (1:Int)+u0≤(9223372036854775807:Int); omega)
          refine an ?_ ?_
          refine an ?_ ?_
          (show (0:Int)≤(2:Int); omega)
          (show (2:Int) < (↑(3:Nat):Int); omega)
          refine ca rfl ?_
          refine ar_is hr2 ?_
          refine ca c47_ ?_
          refine ca c48_t ?_
          refine sd ?_
          refine sd ?_
          refine ca c17_ ?_
          refine ca c47_ ?_
          refine ca c49_ ?_
          refine ca c24_ ?_
          refine sd ?_
          refine b_le (fun t3=>?_) (fun t3=>?_)
          refine ar_quo ?_ ?_
          refine an ?_ ?_
          assumption
          refine an ?_ ?_
          (show Ac.b a+Ac.e a≤(9223372036854775807:Int); omega)
          (show (1:Int)≤(1:Int)+u0; omega)
          refine ar_add ?_ ?_
          refine an ?_ ?_
          (show (-9223372036854775808:Int)≤(Ac.b a+Ac.e a) / ((1:Int)+u0)+(1:Int); omega)
          (show (Ac.b a+Ac.e a) / ((1:Int)+u0)+(1:Int)≤(9223372036854775807:Int); omega)
          refine ar_add ?_ ?_
          refine an ?_ ?_
          (show (-9223372036854775808:Int)≤t+((Ac.b a+Ac.e a) / ((1:Int)+u0)+(1:Int)); omega)
          (show t+((Ac.b a+Ac.e a) / ((1:Int)+u0)+(1:Int))≤(9223372036854775807:Int); omega)
          refine ca c47_ ?_
          refine ca c48_f ?_
          refine sd ?_
          refine sd ?_
          refine b_ne (fun t4=>?_) (fun t4=>?_)
          (exfalso; omega)
          refine sd ?_
          refine sd ?_
          refine b_lt (fun t5=>?_) (fun t5=>?_)
          (exfalso; omega)
          refine sd ?_
          refine (v10e hl hH h0 v1 v2 v3 (by omega) f0 (by omega) v4 v5 he (fun st h=>h)) ?_
          exact trivial
          (exfalso; omega)
         ·have hg:t < frA l t:=by omega
          generalize frA l t=v at *
          refine call_of_vc (x:=jr10) (by kernel_rfl) rfl ?_
          refine ca c14_ ?_
          refine ca c20_ ?_
          refine sd ?_
          refine ca c24_ ?_
          refine sd ?_
          refine b_lt (fun t1=>?_) (fun t1=>?_)
          (exfalso; omega)
          refine sd ?_
          refine b_lt (fun t2=>?_) (fun t2=>?_)
          (exfalso; omega)
          refine ca c50_ ?_
          refine sd ?_
          refine an ?_ ?_
          refine an ?_ ?_
          (show (0:Int)≤(0:Int); omega)
          (show (0:Int) < (↑(3:Nat):Int); omega)
          refine ca rfl ?_
          refine ar_is hr0 ?_
          refine an ?_ ?_
          refine an ?_ ?_
          (show (0:Int)≤(1:Int); omega)
          (show (1:Int) < (↑(3:Nat):Int); omega)
          refine ca rfl ?_
          refine ar_is hr1 ?_
          refine ar_add ?_ ?_
          refine an ?_ ?_
          (show (-9223372036854775808:Int)≤(1:Int)+u0; omega)
          (show (1:Int)+u0≤(9223372036854775807:Int); omega)
          refine an ?_ ?_
          refine an ?_ ?_
          (show (0:Int)≤(2:Int); omega)
          (show (2:Int) < (↑(3:Nat):Int); omega)
          refine ca rfl ?_
          refine ar_is hr2 ?_
          refine ca c47_ ?_
          refine ca c48_t ?_
          refine sd ?_
          refine sd ?_
          refine ca c17_ ?_
          refine ca c47_ ?_
          refine ca c49_ ?_
          refine ca c24_ ?_
          refine sd ?_
          refine b_le (fun t3=>?_) (fun t3=>?_)
          refine ar_quo ?_ ?_
          refine an ?_ ?_
          assumption
          refine an ?_ ?_
          (show Ac.b a+Ac.e a≤(9223372036854775807:Int); omega)
          (show (1:Int)≤(1:Int)+u0; omega)
          refine ar_add ?_ ?_
          refine an ?_ ?_
          (show (-9223372036854775808:Int)≤(Ac.b a+Ac.e a) / ((1:Int)+u0)+(1:Int); omega)
          (show (Ac.b a+Ac.e a) / ((1:Int)+u0)+(1:Int)≤(9223372036854775807:Int); omega)
          refine ar_add ?_ ?_
          refine an ?_ ?_
          (show (-9223372036854775808:Int)≤t+((Ac.b a+Ac.e a) / ((1:Int)+u0)+(1:Int)); omega)
          (show t+((Ac.b a+Ac.e a) / ((1:Int)+u0)+(1:Int))≤(9223372036854775807:Int); omega)
          refine ca c47_ ?_
          refine ca c48_f ?_
          refine sd ?_
          refine sd ?_
          refine b_ne (fun t4=>?_) (fun t4=>?_)
          (exfalso; omega)
          refine sd ?_
          refine sd ?_
          refine b_lt (fun t5=>?_) (fun t5=>?_)
          (exfalso; omega)
          refine sd ?_
          refine (v10g hl hH h0 v1 v2 v3 (by omega) f0 (by omega) v4 v5 hg (fun st h=>h)) ?_
          exact trivial
          (exfalso; omega)
       ·by_cases hv:frA l t < 0
        ·rw [decide_eq_true hv] at c48_t
         refine call_of_vc (x:=jr10) (by kernel_rfl) rfl ?_
         refine ca c14_ ?_
         refine ca c20_ ?_
         refine sd ?_
         refine ca c24_ ?_
         refine sd ?_
         refine b_lt (fun t1=>?_) (fun t1=>?_)
         (exfalso; omega)
         refine sd ?_
         refine b_lt (fun t2=>?_) (fun t2=>?_)
         (exfalso; omega)
         refine ca c50_ ?_
         refine sd ?_
         refine an ?_ ?_
         refine an ?_ ?_
         (show (0:Int)≤(0:Int); omega)
         (show (0:Int) < (↑(3:Nat):Int); omega)
         refine ca rfl ?_
         refine ar_is hr0 ?_
         refine an ?_ ?_
         refine an ?_ ?_
         (show (0:Int)≤(1:Int); omega)
         (show (1:Int) < (↑(3:Nat):Int); omega)
         refine ca rfl ?_
         refine ar_is hr1 ?_
         refine ar_add ?_ ?_
         refine an ?_ ?_
         (show (-9223372036854775808:Int)≤(1:Int)+u0; omega)
         (show (1:Int)+u0≤(9223372036854775807:Int); omega)
         refine an ?_ ?_
         refine an ?_ ?_
         (show (0:Int)≤(2:Int); omega)
         (show (2:Int) < (↑(3:Nat):Int); omega)
         refine ca rfl ?_
         refine ar_is hr2 ?_
         refine ca c47_ ?_
         refine ca c48_t ?_
         refine sd ?_
         refine sd ?_
         refine ca c17_ ?_
         refine ca c47_ ?_
         refine ca c49_ ?_
         refine ca c24_ ?_
         refine sd ?_
         refine b_le (fun t3=>?_) (fun t3=>?_)
         refine ar_quo ?_ ?_
         refine an ?_ ?_
         assumption
         refine an ?_ ?_
         (show Ac.b a+Ac.e a≤(9223372036854775807:Int); omega)
         (show (1:Int)≤(1:Int)+u0; omega)
         refine ar_add ?_ ?_
         refine an ?_ ?_
         (show (-9223372036854775808:Int)≤(Ac.b a+Ac.e a) / ((1:Int)+u0)+(1:Int); omega)
         (show (Ac.b a+Ac.e a) / ((1:Int)+u0)+(1:Int)≤(9223372036854775807:Int); omega)
         refine ar_add ?_ ?_
         refine an ?_ ?_
         (show (-9223372036854775808:Int)≤t+((Ac.b a+Ac.e a) / ((1:Int)+u0)+(1:Int)); omega)
         (show t+((Ac.b a+Ac.e a) / ((1:Int)+u0)+(1:Int))≤(9223372036854775807:Int); omega)
         refine ca c47_ ?_
         refine ca c48_f ?_
         refine sd ?_
         refine sd ?_
         refine sd ?_
         refine sd ?_
         refine sd ?_
         refine sd ?_
         refine ca (c15) ?_
         exact rfl
         (exfalso; omega)
        ·rw [decide_eq_false hv] at c48_t
         obtain ⟨⟨v1,v2⟩,v3,v4,v5⟩:=frA_spec h0 rfl hv
         by_cases he:frA l t=t
         ·generalize frA l t=v at *
          refine call_of_vc (x:=jr10) (by kernel_rfl) rfl ?_
          refine ca c14_ ?_
          refine ca c20_ ?_
          refine sd ?_
          refine ca c24_ ?_
          refine sd ?_
          refine b_lt (fun t1=>?_) (fun t1=>?_)
          (exfalso; omega)
          refine sd ?_
          refine b_lt (fun t2=>?_) (fun t2=>?_)
          (exfalso; omega)
          refine ca c50_ ?_
          refine sd ?_
          refine an ?_ ?_
          refine an ?_ ?_
          (show (0:Int)≤(0:Int); omega)
          (show (0:Int) < (↑(3:Nat):Int); omega)
          refine ca rfl ?_
          refine ar_is hr0 ?_
          refine an ?_ ?_
          refine an ?_ ?_
          (show (0:Int)≤(1:Int); omega)
          (show (1:Int) < (↑(3:Nat):Int); omega)
          refine ca rfl ?_
          refine ar_is hr1 ?_
          refine ar_add ?_ ?_
          refine an ?_ ?_
          (show (-9223372036854775808:Int)≤(1:Int)+u0; omega)
          (show (1:Int)+u0≤(9223372036854775807:Int); omega)
          refine an ?_ ?_
          refine an ?_ ?_
          (show (0:Int)≤(2:Int); omega)
          (show (2:Int) < (↑(3:Nat):Int); omega)
          refine ca rfl ?_
          refine ar_is hr2 ?_
          refine ca c47_ ?_
          refine ca c48_t ?_
          refine sd ?_
          refine sd ?_
          refine ca c17_ ?_
          refine ca c47_ ?_
          refine ca c49_ ?_
          refine ca c24_ ?_
          refine sd ?_
          refine b_le (fun t3=>?_) (fun t3=>?_)
          refine ar_quo ?_ ?_
          refine an ?_ ?_
          assumption
          refine an ?_ ?_
          (show Ac.b a+Ac.e a≤(9223372036854775807:Int); omega)
          (show (1:Int)≤(1:Int)+u0; omega)
          refine ar_add ?_ ?_
          refine an ?_ ?_
          (show (-9223372036854775808:Int)≤(Ac.b a+Ac.e a) / ((1:Int)+u0)+(1:Int); omega)
          (show (Ac.b a+Ac.e a) / ((1:Int)+u0)+(1:Int)≤(9223372036854775807:Int); omega)
          refine ar_add ?_ ?_
          refine an ?_ ?_
          (show (-9223372036854775808:Int)≤t+((Ac.b a+Ac.e a) / ((1:Int)+u0)+(1:Int)); omega)
          (show t+((Ac.b a+Ac.e a) / ((1:Int)+u0)+(1:Int))≤(9223372036854775807:Int); omega)
          refine ca c47_ ?_
          refine ca c48_f ?_
          refine sd ?_
          refine sd ?_
          refine sd ?_
          refine sd ?_
          refine sd ?_
          refine (v10e hl hH h0 v1 v2 v3 (by omega) f0 (by omega) v4 v5 he (fun st h=>h)) ?_
          exact trivial
          (exfalso; omega)
         ·have hg:t < frA l t:=by omega
          generalize frA l t=v at *
          refine call_of_vc (x:=jr10) (by kernel_rfl) rfl ?_
          refine ca c14_ ?_
          refine ca c20_ ?_
          refine sd ?_
          refine ca c24_ ?_
          refine sd ?_
          refine b_lt (fun t1=>?_) (fun t1=>?_)
          (exfalso; omega)
          refine sd ?_
          refine b_lt (fun t2=>?_) (fun t2=>?_)
          (exfalso; omega)
          refine ca c50_ ?_
          refine sd ?_
          refine an ?_ ?_
          refine an ?_ ?_
          (show (0:Int)≤(0:Int); omega)
          (show (0:Int) < (↑(3:Nat):Int); omega)
          refine ca rfl ?_
          refine ar_is hr0 ?_
          refine an ?_ ?_
          refine an ?_ ?_
          (show (0:Int)≤(1:Int); omega)
          (show (1:Int) < (↑(3:Nat):Int); omega)
          refine ca rfl ?_
          refine ar_is hr1 ?_
          refine ar_add ?_ ?_
          refine an ?_ ?_
          (show (-9223372036854775808:Int)≤(1:Int)+u0; omega)
          (show (1:Int)+u0≤(9223372036854775807:Int); omega)
          refine an ?_ ?_
          refine an ?_ ?_
          (show (0:Int)≤(2:Int); omega)
          (show (2:Int) < (↑(3:Nat):Int); omega)
          refine ca rfl ?_
          refine ar_is hr2 ?_
          refine ca c47_ ?_
          refine ca c48_t ?_
          refine sd ?_
          refine sd ?_
          refine ca c17_ ?_
          refine ca c47_ ?_
          refine ca c49_ ?_
          refine ca c24_ ?_
          refine sd ?_
          refine b_le (fun t3=>?_) (fun t3=>?_)
          refine ar_quo ?_ ?_
          refine an ?_ ?_
          assumption
          refine an ?_ ?_
          (show Ac.b a+Ac.e a≤(9223372036854775807:Int); omega)
          (show (1:Int)≤(1:Int)+u0; omega)
          refine ar_add ?_ ?_
          refine an ?_ ?_
          (show (-9223372036854775808:Int)≤(Ac.b a+Ac.e a) / ((1:Int)+u0)+(1:Int); omega)
          (show (Ac.b a+Ac.e a) / ((1:Int)+u0)+(1:Int)≤(9223372036854775807:Int); omega)
          refine ar_add ?_ ?_
          refine an ?_ ?_
          (show (-9223372036854775808:Int)≤t+((Ac.b a+Ac.e a) / ((1:Int)+u0)+(1:Int)); omega)
          (show t+((Ac.b a+Ac.e a) / ((1:Int)+u0)+(1:Int))≤(9223372036854775807:Int); omega)
          refine ca c47_ ?_
          refine ca c48_f ?_
          refine sd ?_
          refine sd ?_
          refine sd ?_
          refine sd ?_
          refine sd ?_
          refine (v10g hl hH h0 v1 v2 v3 (by omega) f0 (by omega) v4 v5 hg (fun st h=>h)) ?_
          exact trivial
          (exfalso; omega)
      ·have eT:ctT a t (1+u0)=t:=by unfold ctT; rw [decide_eq_false hn]; rfl
       have c49_:=c49 a c l t (1+u0) hla hl
       rw [show (bif ctE a c l t (1+u0) != 0 then [.int .i64 0,.int .i64 (ctE a c l t (1+u0))] else ctR a l t (1+u0))=ctR a l t (1+u0) from by rw [hcE]; rfl] at c49_
       unfold ctR at c49_
       rw [eT,decide_eq_false (show ¬ 100000000 < t by omega)] at c49_
       by_cases hv:frA l t < 0
       ·rw [decide_eq_true hv] at c48_t c49_
        refine call_of_vc (x:=jr10) (by kernel_rfl) rfl ?_
        refine ca c14_ ?_
        refine ca c20_ ?_
        refine sd ?_
        refine ca c24_ ?_
        refine sd ?_
        refine b_lt (fun t1=>?_) (fun t1=>?_)
        (exfalso; omega)
        refine sd ?_
        refine b_lt (fun t2=>?_) (fun t2=>?_)
        (exfalso; omega)
        refine ca c50_ ?_
        refine sd ?_
        refine an ?_ ?_
        refine an ?_ ?_
        (show (0:Int)≤(0:Int); omega)
        (show (0:Int) < (↑(3:Nat):Int); omega)
        refine ca rfl ?_
        refine ar_is hr0 ?_
        refine an ?_ ?_
        refine an ?_ ?_
        (show (0:Int)≤(1:Int); omega)
        (show (1:Int) < (↑(3:Nat):Int); omega)
        refine ca rfl ?_
        refine ar_is hr1 ?_
        refine ar_add ?_ ?_
        refine an ?_ ?_
        (show (-9223372036854775808:Int)≤(1:Int)+u0; omega)
        (show (1:Int)+u0≤(9223372036854775807:Int); omega)
        refine an ?_ ?_
        refine an ?_ ?_
        (show (0:Int)≤(2:Int); omega)
        (show (2:Int) < (↑(3:Nat):Int); omega)
        refine ca rfl ?_
        refine ar_is hr2 ?_
        refine ca c47_ ?_
        refine ca c48_t ?_
        refine sd ?_
        refine sd ?_
        refine ca c17_ ?_
        refine ca c47_ ?_
        refine ca c49_ ?_
        refine ca c24_ ?_
        refine sd ?_
        refine b_le (fun t3=>?_) (fun t3=>?_)
        (exfalso; omega)
        refine ca c47_ ?_
        refine ca c48_t ?_
        refine sd ?_
        refine sd ?_
        refine sd ?_
        refine sd ?_
        refine sd ?_
        refine sd ?_
        refine ca (c15) ?_
        exact rfl
       ·rw [decide_eq_false hv] at c48_t c49_
        obtain ⟨⟨v1,v2⟩,v3,v4,v5⟩:=frA_spec h0 rfl hv
        by_cases he:frA l t=t
        ·generalize frA l t=v at *
         refine call_of_vc (x:=jr10) (by kernel_rfl) rfl ?_
         refine ca c14_ ?_
         refine ca c20_ ?_
         refine sd ?_
         refine ca c24_ ?_
         refine sd ?_
         refine b_lt (fun t1=>?_) (fun t1=>?_)
         (exfalso; omega)
         refine sd ?_
         refine b_lt (fun t2=>?_) (fun t2=>?_)
         (exfalso; omega)
         refine ca c50_ ?_
         refine sd ?_
         refine an ?_ ?_
         refine an ?_ ?_
         (show (0:Int)≤(0:Int); omega)
         (show (0:Int) < (↑(3:Nat):Int); omega)
         refine ca rfl ?_
         refine ar_is hr0 ?_
         refine an ?_ ?_
         refine an ?_ ?_
         (show (0:Int)≤(1:Int); omega)
         (show (1:Int) < (↑(3:Nat):Int); omega)
         refine ca rfl ?_
         refine ar_is hr1 ?_
         refine ar_add ?_ ?_
         refine an ?_ ?_
         (show (-9223372036854775808:Int)≤(1:Int)+u0; omega)
         (show (1:Int)+u0≤(9223372036854775807:Int); omega)
         refine an ?_ ?_
         refine an ?_ ?_
         (show (0:Int)≤(2:Int); omega)
         (show (2:Int) < (↑(3:Nat):Int); omega)
         refine ca rfl ?_
         refine ar_is hr2 ?_
         refine ca c47_ ?_
         refine ca c48_t ?_
         refine sd ?_
         refine sd ?_
         refine ca c17_ ?_
         refine ca c47_ ?_
         refine ca c49_ ?_
         refine ca c24_ ?_
         refine sd ?_
         refine b_le (fun t3=>?_) (fun t3=>?_)
         (exfalso; omega)
         refine ca c47_ ?_
         refine ca c48_t ?_
         refine sd ?_
         refine sd ?_
         refine b_ne (fun t4=>?_) (fun t4=>?_)
         (exfalso; omega)
         refine sd ?_
         refine sd ?_
         refine b_lt (fun t5=>?_) (fun t5=>?_)
         (exfalso; omega)
         refine sd ?_
         refine (v10e hl hH h0 v1 v2 v3 (by omega) f0 (by omega) v4 v5 he (fun st h=>h)) ?_
         exact trivial
        ·have hg:t < frA l t:=by omega
         generalize frA l t=v at *
         refine call_of_vc (x:=jr10) (by kernel_rfl) rfl ?_
         refine ca c14_ ?_
         refine ca c20_ ?_
         refine sd ?_
         refine ca c24_ ?_
         refine sd ?_
         refine b_lt (fun t1=>?_) (fun t1=>?_)
         (exfalso; omega)
         refine sd ?_
         refine b_lt (fun t2=>?_) (fun t2=>?_)
         (exfalso; omega)
         refine ca c50_ ?_
         refine sd ?_
         refine an ?_ ?_
         refine an ?_ ?_
         (show (0:Int)≤(0:Int); omega)
         (show (0:Int) < (↑(3:Nat):Int); omega)
         refine ca rfl ?_
         refine ar_is hr0 ?_
         refine an ?_ ?_
         refine an ?_ ?_
         (show (0:Int)≤(1:Int); omega)
         (show (1:Int) < (↑(3:Nat):Int); omega)
         refine ca rfl ?_
         refine ar_is hr1 ?_
         refine ar_add ?_ ?_
         refine an ?_ ?_
         (show (-9223372036854775808:Int)≤(1:Int)+u0; omega)
         (show (1:Int)+u0≤(9223372036854775807:Int); omega)
         refine an ?_ ?_
         refine an ?_ ?_
         (show (0:Int)≤(2:Int); omega)
         (show (2:Int) < (↑(3:Nat):Int); omega)
         refine ca rfl ?_
         refine ar_is hr2 ?_
         refine ca c47_ ?_
         refine ca c48_t ?_
         refine sd ?_
         refine sd ?_
         refine ca c17_ ?_
         refine ca c47_ ?_
         refine ca c49_ ?_
         refine ca c24_ ?_
         refine sd ?_
         refine b_le (fun t3=>?_) (fun t3=>?_)
         (exfalso; omega)
         refine ca c47_ ?_
         refine ca c48_t ?_
         refine sd ?_
         refine sd ?_
         refine b_ne (fun t4=>?_) (fun t4=>?_)
         (exfalso; omega)
         refine sd ?_
         refine sd ?_
         refine b_lt (fun t5=>?_) (fun t5=>?_)
         (exfalso; omega)
         refine sd ?_
         refine (v10g hl hH h0 v1 v2 v3 (by omega) f0 (by omega) v4 v5 hg (fun st h=>h)) ?_
         exact trivial
     ·refine call_of_vc (x:=jr10) (by kernel_rfl) rfl ?_
      refine ca c14_ ?_
      refine ca c20_ ?_
      refine sd ?_
      refine ca c24_ ?_
      refine sd ?_
      refine b_lt (fun t1=>?_) (fun t1=>?_)
      (exfalso; omega)
      refine sd ?_
      refine b_lt (fun t2=>?_) (fun t2=>?_)
      (exfalso; omega)
      refine ca c50_ ?_
      refine sd ?_
      refine b_ne (fun t3=>?_) (fun t3=>?_)
      refine ca (c15) ?_
      exact rfl
      (exfalso; omega)
  ·refine call_of_vc (x:=jr10) (by kernel_rfl) rfl ?_
   refine ca c14_ ?_
   refine ca c20_ ?_
   refine sd ?_
   refine b_ne (fun t1=>?_) (fun t1=>?_)
   refine sd ?_
   refine sd ?_
   refine sd ?_
   refine ca (c15) ?_
   exact rfl
   (exfalso; omega)
end Vc
