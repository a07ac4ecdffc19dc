import Derived.Test.YtkghjijnlnnfkaaGreatDoorG18
import Derived.Test.YtkghjijnlnnfkaaGreatDoorG23
set_option linter.unusedSectionVars false
set_option linter.unusedVariables false
set_option linter.unusedSimpArgs false
set_option maxRecDepth 10000
set_option maxHeartbeats 4000000
namespace Vc
open Go Go.Proofs
def jr11:AFun:=⟨139,11,[.tmp 6],
 (.seq
 (.reg [0] [⟨some 3,.cbx 0 3 (.tmp 0),none⟩,
  ⟨some 6,.mov (.cst (.d (.bool false))),none⟩])
 (.seq
  (.seq
  (.reg [] [⟨some 24,.ld true 3 (.tmp 3),none⟩,
   ⟨some 25,.call 56 [(.tmp 24)],none⟩,
   ⟨some 26,.not (.tmp 25),none⟩,
   ⟨some 27,.mov (.tmp 26),none⟩,
   ⟨some 28,.mov (.tmp 1),some (27,false)⟩,
   ⟨some 29,.lens (.tmp 28),some (27,false)⟩,
   ⟨some 30,.cmp .gtr (.tmp 29) (.cst (.d (.int .i64 40))),some (27,false)⟩,
   ⟨some 31,.pick (.tmp 27) (.cst (.d (.bool true))) (.tmp 30),none⟩])
  (.cond (.tmp 31)
   (.seq
   (.reg [] [⟨some 32,.call 15 [],none⟩,
    ⟨some 6,.mov (.tmp 32),none⟩])
   .ret)
   .skip))
  (.seq
  (.reg [1] [⟨some 34,.ld true 3 (.tmp 3),none⟩,
   ⟨some 35,.call 58 [(.tmp 34)],none⟩,
   ⟨some 36,.mov (.tmp 1),none⟩,
   ⟨some 37,.mov (.tmp 2),none⟩,
   ⟨some 38,.call 70 [(.tmp 35),(.tmp 36),(.tmp 37)],none⟩,
   ⟨some 33,.mov (.tmp 38),none⟩,
   ⟨some 39,.ext 0 (.tmp 33),none⟩,
   ⟨some 40,.ext 1 (.tmp 33),none⟩,
   ⟨some 7,.alloc 1 [(.d (.bool false)),(.d (.bool false)),(.nils 2)],none⟩,
   ⟨none,.st 3 (.tmp 7) (.tmp 39),none⟩,
   ⟨some 8,.mov (.tmp 40),none⟩])
  (.seq
   (.reg [2] [⟨some 42,.ld true 3 (.tmp 3),none⟩,
    ⟨some 43,.call 58 [(.tmp 42)],none⟩,
    ⟨some 44,.mov (.tmp 1),none⟩,
    ⟨some 45,.call 74 [(.tmp 43),(.tmp 44)],none⟩,
    ⟨some 41,.mov (.tmp 45),none⟩,
    ⟨some 46,.ext 0 (.tmp 41),none⟩,
    ⟨some 47,.ext 1 (.tmp 41),none⟩,
    ⟨some 9,.alloc 2 [(.d (.bool false)),(.d (.bool false)),(.nils 2)],none⟩,
    ⟨none,.st 3 (.tmp 9) (.tmp 46),none⟩,
    ⟨some 10,.mov (.tmp 47),none⟩])
   (.seq
   (.reg [3] [⟨some 49,.ld true 3 (.tmp 3),none⟩,
    ⟨some 50,.call 58 [(.tmp 49)],none⟩,
    ⟨some 51,.call 73 [(.tmp 50)],none⟩,
    ⟨some 48,.mov (.tmp 51),none⟩,
    ⟨some 52,.ext 0 (.tmp 48),none⟩,
    ⟨some 53,.ext 1 (.tmp 48),none⟩,
    ⟨some 11,.alloc 3 [(.d (.bool false)),(.d (.bool false)),(.nils 2)],none⟩,
    ⟨none,.st 3 (.tmp 11) (.tmp 52),none⟩,
    ⟨some 12,.mov (.tmp 53),none⟩])
   (.seq
    (.reg [4] [⟨some 55,.ld true 3 (.tmp 3),none⟩,
     ⟨some 56,.call 58 [(.tmp 55)],none⟩,
     ⟨some 57,.call 72 [(.tmp 56)],none⟩,
     ⟨some 54,.mov (.tmp 57),none⟩,
     ⟨some 58,.ext 0 (.tmp 54),none⟩,
     ⟨some 59,.ext 1 (.tmp 54),none⟩,
     ⟨some 13,.alloc 4 [(.d (.bool false)),(.d (.bool false)),(.nils 2)],none⟩,
     ⟨none,.st 3 (.tmp 13) (.tmp 58),none⟩,
     ⟨some 14,.mov (.tmp 59),none⟩])
    (.seq
    (.reg [] [⟨some 60,.ld true 3 (.tmp 3),none⟩,
     ⟨some 61,.call 60 [(.tmp 60)],none⟩,
     ⟨some 15,.mov (.tmp 61),none⟩])
    (.seq
     (.reg [5] [⟨some 62,.mov (.tmp 15),none⟩,
      ⟨some 63,.mov (.tmp 1),none⟩,
      ⟨some 64,.call 75 [(.tmp 63)],none⟩,
      ⟨some 65,.bsl 5 3 1 2 [(.int .i64 0),(.int .i64 0)] [(0,(.tmp 62)),(1,(.tmp 64))],none⟩,
      ⟨some 66,.call 21 [(.tmp 65)],none⟩,
      ⟨some 16,.mov (.tmp 66),none⟩])
     (.seq
     (.reg [6] [⟨some 67,.mov (.tmp 16),none⟩,
      ⟨some 68,.mov (.tmp 2),none⟩,
      ⟨some 69,.call 51 [(.tmp 68)],none⟩,
      ⟨some 70,.bsl 6 3 1 2 [(.int .i64 0),(.int .i64 0)] [(0,(.tmp 67)),(1,(.tmp 69))],none⟩,
      ⟨some 71,.call 21 [(.tmp 70)],none⟩,
      ⟨some 72,.mov (.tmp 15),none⟩,
      ⟨some 73,.mov (.tmp 15),none⟩,
      ⟨some 17,.mov (.tmp 71),none⟩,
      ⟨some 18,.mov (.tmp 72),none⟩,
      ⟨some 19,.mov (.tmp 73),none⟩])
     (.seq
      (.reg [7,8,9,10] [⟨some 20,.alloc 7 [(.d (.bool false)),(.d (.bool false)),(.nils 2)],none⟩,
       ⟨some 21,.alloc 8 [(.d (.bool false)),(.d (.bool false)),(.nils 2)],none⟩,
       ⟨some 22,.alloc 9 [(.d (.bool false)),(.d (.bool false)),(.nils 2)],none⟩,
       ⟨some 23,.alloc 10 [(.d (.bool false)),(.d (.bool false)),(.nils 2)],none⟩])
      (.seq
      (.seq
       (.reg [] [⟨some 74,.mov (.tmp 17),none⟩,
        ⟨some 75,.cmp .eql (.tmp 74) (.cst (.d (.int .i64 0))),none⟩])
       (.cond (.tmp 75)
       (.reg [] [⟨some 77,.ld true 3 (.tmp 3),none⟩,
        ⟨some 78,.mov (.tmp 1),none⟩,
        ⟨some 79,.mov (.tmp 2),none⟩,
        ⟨some 80,.call 76 [(.tmp 77),(.tmp 78),(.tmp 79)],none⟩,
        ⟨some 76,.mov (.tmp 80),none⟩,
        ⟨some 81,.ext 0 (.tmp 76),none⟩,
        ⟨some 82,.ext 1 (.tmp 76),none⟩,
        ⟨none,.st 3 (.tmp 20) (.tmp 81),none⟩,
        ⟨some 17,.mov (.tmp 82),none⟩])
       .skip))
      (.seq
       (.seq
       (.reg [] [⟨some 83,.mov (.tmp 16),none⟩,
        ⟨some 84,.cmp .eql (.tmp 83) (.cst (.d (.int .i64 0))),none⟩])
       (.cond (.tmp 84)
        (.reg [] [⟨some 86,.ld true 3 (.tmp 3),none⟩,
         ⟨some 87,.mov (.tmp 1),none⟩,
         ⟨some 88,.call 77 [(.tmp 86),(.tmp 87)],none⟩,
         ⟨some 85,.mov (.tmp 88),none⟩,
         ⟨some 89,.ext 0 (.tmp 85),none⟩,
         ⟨some 90,.ext 1 (.tmp 85),none⟩,
         ⟨none,.st 3 (.tmp 21) (.tmp 89),none⟩,
         ⟨some 16,.mov (.tmp 90),none⟩])
        .skip))
       (.seq
       (.seq
        (.reg [] [⟨some 91,.mov (.tmp 15),none⟩,
         ⟨some 92,.cmp .eql (.tmp 91) (.cst (.d (.int .i64 0))),none⟩])
        (.cond (.tmp 92)
        (.seq
         (.reg [] [⟨some 94,.ld true 3 (.tmp 3),none⟩,
          ⟨some 95,.call 78 [(.tmp 94)],none⟩,
          ⟨some 93,.mov (.tmp 95),none⟩,
          ⟨some 96,.ext 0 (.tmp 93),none⟩,
          ⟨some 97,.ext 1 (.tmp 93),none⟩,
          ⟨none,.st 3 (.tmp 22) (.tmp 96),none⟩,
          ⟨some 18,.mov (.tmp 97),none⟩])
         (.reg [] [⟨some 99,.ld true 3 (.tmp 3),none⟩,
          ⟨some 100,.call 79 [(.tmp 99)],none⟩,
          ⟨some 98,.mov (.tmp 100),none⟩,
          ⟨some 101,.ext 0 (.tmp 98),none⟩,
          ⟨some 102,.ext 1 (.tmp 98),none⟩,
          ⟨none,.st 3 (.tmp 23) (.tmp 101),none⟩,
          ⟨some 19,.mov (.tmp 102),none⟩]))
        .skip))
       (.seq
        (.reg [] [⟨some 103,.ld true 3 (.tmp 3),none⟩,
         ⟨some 104,.call 58 [(.tmp 103)],none⟩,
         ⟨some 105,.call 80 [(.tmp 104)],none⟩,
         ⟨some 106,.mov (.tmp 15),none⟩,
         ⟨some 107,.cmp .eql (.tmp 105) (.tmp 106),none⟩,
         ⟨some 108,.mov (.tmp 107),none⟩,
         ⟨some 109,.ld true 3 (.tmp 7),some (108,true)⟩,
         ⟨some 110,.mov (.tmp 8),some (108,true)⟩,
         ⟨some 111,.mov (.tmp 17),some (108,true)⟩,
         ⟨some 112,.ld true 3 (.tmp 20),some (108,true)⟩,
         ⟨some 113,.call 65 [(.tmp 109),(.tmp 110),(.tmp 111),(.tmp 112)],some (108,true)⟩,
         ⟨some 114,.pick (.tmp 108) (.tmp 113) (.cst (.d (.bool false))),none⟩,
         ⟨some 115,.mov (.tmp 114),none⟩,
         ⟨some 116,.ld true 3 (.tmp 9),some (115,true)⟩,
         ⟨some 117,.mov (.tmp 10),some (115,true)⟩,
         ⟨some 118,.mov (.tmp 16),some (115,true)⟩,
         ⟨some 119,.ld true 3 (.tmp 21),some (115,true)⟩,
         ⟨some 120,.call 65 [(.tmp 116),(.tmp 117),(.tmp 118),(.tmp 119)],some (115,true)⟩,
         ⟨some 121,.pick (.tmp 115) (.tmp 120) (.cst (.d (.bool false))),none⟩,
         ⟨some 122,.mov (.tmp 121),none⟩,
         ⟨some 123,.ld true 3 (.tmp 11),some (122,true)⟩,
         ⟨some 124,.mov (.tmp 12),some (122,true)⟩,
         ⟨some 125,.mov (.tmp 18),some (122,true)⟩,
         ⟨some 126,.ld true 3 (.tmp 22),some (122,true)⟩,
         ⟨some 127,.call 65 [(.tmp 123),(.tmp 124),(.tmp 125),(.tmp 126)],some (122,true)⟩,
         ⟨some 128,.pick (.tmp 122) (.tmp 127) (.cst (.d (.bool false))),none⟩,
         ⟨some 129,.mov (.tmp 128),none⟩,
         ⟨some 130,.ld true 3 (.tmp 13),some (129,true)⟩,
         ⟨some 131,.mov (.tmp 14),some (129,true)⟩,
         ⟨some 132,.mov (.tmp 19),some (129,true)⟩,
         ⟨some 133,.ld true 3 (.tmp 23),some (129,true)⟩,
         ⟨some 134,.call 65 [(.tmp 130),(.tmp 131),(.tmp 132),(.tmp 133)],some (129,true)⟩,
         ⟨some 135,.pick (.tmp 129) (.tmp 134) (.cst (.d (.bool false))),none⟩,
         ⟨some 136,.mov (.tmp 135),none⟩,
         ⟨some 137,.call 15 [],some (136,true)⟩,
         ⟨some 138,.pick (.tmp 136) (.tmp 137) (.cst (.d (.bool false))),none⟩,
         ⟨some 6,.mov (.tmp 138),none⟩])
        .ret))))))))))))))⟩
theorem or_x (s:Sw) (off:Nm) (t:Int) (h:or0 s off t=0):∃ (X:Sw) (e:Int),CallDet Tryz.prog 70 [.d (.agg [.bool s.on,.bool s.rd,.slice 2 (ods s.os)]),.d (.str off),.d (.int .i64 t)] [.agg [.bool X.on,.bool X.rd,.slice 2 (ods X.os)],.int .i64 e]∧CallDet Tryz.prog 76 [.d (.agg [.bool s.on,.bool s.rd,.slice 2 (ods s.os)]),.d (.str off),.d (.int .i64 t)] [.agg [.bool X.on,.bool X.rd,.slice 2 (ods X.os)],.int .i64 e]∧CallDet Tryz.prog 65 [.d (.agg [.bool X.on,.bool X.rd,.slice 2 (ods X.os)]),.d (.int .i64 e),.d (.int .i64 e),.d (.agg [.bool X.on,.bool X.rd,.slice 2 (ods X.os)])] [.bool true]:=by
 have hl:=ckS_len (wtE_0 (or0_0 h).1).1
 have hk:=keepO_le off s.os
 have a:=c70 s off t (by omega)
 have b:=c76 s off t h
 rw [h] at a
 by_cases h1:orE s off t=0
 ·rw [h1] at a b
  exact ⟨swO s off t,0,a,b,c65s _ (by unfold swO; rw [List.length_append]; show _+1≤_; omega)⟩
 ·rw [bne_t h1] at a b
  exact ⟨⟨false,false,[]⟩,orE s off t,a,b,c65z _ h1 false false []⟩
theorem wd_x (s:Sw) (off:Nm) (h:wtE s off=0):∃ (X:Sw) (e:Int),CallDet Tryz.prog 74 [.d (.agg [.bool s.on,.bool s.rd,.slice 2 (ods s.os)]),.d (.str off)] [.agg [.bool X.on,.bool X.rd,.slice 2 (ods X.os)],.int .i64 e]∧CallDet Tryz.prog 77 [.d (.agg [.bool s.on,.bool s.rd,.slice 2 (ods s.os)]),.d (.str off)] [.agg [.bool X.on,.bool X.rd,.slice 2 (ods X.os)],.int .i64 e]∧CallDet Tryz.prog 65 [.d (.agg [.bool X.on,.bool X.rd,.slice 2 (ods X.os)]),.d (.int .i64 e),.d (.int .i64 e),.d (.agg [.bool X.on,.bool X.rd,.slice 2 (ods X.os)])] [.bool true]:=by
 have hl:=ckS_len (wtE_0 h).1
 have hk:=keepO_le off s.os
 have a:=c74 s off (by omega)
 have b:=c77 s off (by omega)
 rw [h] at a
 by_cases h1:wdE s off=0
 ·rw [h1] at a b
  exact ⟨swW s off,0,a,b,c65s _ (by unfold swW; show (keepO off s.os).length≤_; omega)⟩
 ·rw [bne_t h1] at a b
  exact ⟨⟨false,false,[]⟩,10,a,b,c65z _ (by decide) false false []⟩
theorem rl_x (s:Sw) (h:ckS s=0):∃ (X:Sw) (e:Int),CallDet Tryz.prog 73 [.d (.agg [.bool s.on,.bool s.rd,.slice 2 (ods s.os)])] [.agg [.bool X.on,.bool X.rd,.slice 2 (ods X.os)],.int .i64 e]∧CallDet Tryz.prog 78 [.d (.agg [.bool s.on,.bool s.rd,.slice 2 (ods s.os)])] [.agg [.bool X.on,.bool X.rd,.slice 2 (ods X.os)],.int .i64 e]∧CallDet Tryz.prog 65 [.d (.agg [.bool X.on,.bool X.rd,.slice 2 (ods X.os)]),.d (.int .i64 e),.d (.int .i64 e),.d (.agg [.bool X.on,.bool X.rd,.slice 2 (ods X.os)])] [.bool true]:=by
 have hl:=ckS_len h
 have a:=c73 s (by omega)
 have b:=c78 s h
 rw [h] at a
 by_cases h1:rlE s=0
 ·rw [h1] at a b
  exact ⟨⟨false,true,[]⟩,0,a,b,c65s _ (by simp)⟩
 ·rw [bne_t h1] at a b
  exact ⟨⟨false,false,[]⟩,rlE s,a,b,c65z _ h1 false false []⟩
theorem cf_x (s:Sw) (h:ckS s=0):∃ (X:Sw) (e:Int),CallDet Tryz.prog 72 [.d (.agg [.bool s.on,.bool s.rd,.slice 2 (ods s.os)])] [.agg [.bool X.on,.bool X.rd,.slice 2 (ods X.os)],.int .i64 e]∧CallDet Tryz.prog 79 [.d (.agg [.bool s.on,.bool s.rd,.slice 2 (ods s.os)])] [.agg [.bool X.on,.bool X.rd,.slice 2 (ods X.os)],.int .i64 e]∧CallDet Tryz.prog 65 [.d (.agg [.bool X.on,.bool X.rd,.slice 2 (ods X.os)]),.d (.int .i64 e),.d (.int .i64 e),.d (.agg [.bool X.on,.bool X.rd,.slice 2 (ods X.os)])] [.bool true]:=by
 have hl:=ckS_len h
 have a:=c72 s (by omega)
 have b:=c79 s
 rw [h] at a
 by_cases h1:cfE s=0
 ·rw [h1] at a b
  exact ⟨⟨true,false,[]⟩,0,a,b,c65s _ (by simp)⟩
 ·rw [bne_t h1] at a b
  exact ⟨⟨false,false,[]⟩,cfE s,a,b,c65z _ h1 false false []⟩
theorem c11 (s:Sw) (off:Nm) (t:Int) (hl:s.os.length≤1000000):CallDet Tryz.prog 11 [.d (.agg [.bool s.on,.bool s.rd,.slice 2 (ods s.os)]),.d (.str off),.d (.int .i64 t)] [.bool true]:=by
 have c56_:=c56 s (by omega)
 have c58_:=c58 s (by omega)
 have c60_:=c60 s (by omega)
 have c80_:=c80 s (by omega)
 have c75_:=c75 off
 have c51_:=c51 t
 have c21_a:CallDet Tryz.prog 21 [.d (.slice 1 [.int .i64 (ckS s),.int .i64 (bif !(isNm off) then 8 else 0)])] [.int .i64 (wtE s off)]:=c21 [ckS s,bif !(isNm off) then 8 else 0] (by simp)
 have c21_b:CallDet Tryz.prog 21 [.d (.slice 1 [.int .i64 (wtE s off),.int .i64 (within3 t 0 100000000)])] [.int .i64 (or0 s off t)]:=c21 [wtE s off,within3 t 0 100000000] (by simp)
 cases hs:shS s with
 | false =>
  rw [hs] at c56_
  refine call_of_vc (x:=jr11) (by kernel_rfl) rfl ?_
  refine ca c56_ ?_
  refine sd ?_
  refine ca (c15) ?_
  exact rfl
 | true =>
  rw [hs] at c56_
  by_cases h40:(40:Int) < ((off.length:Nat):Int)
  ·refine call_of_vc (x:=jr11) (by kernel_rfl) rfl ?_
   refine ca c56_ ?_
   refine sd ?_
   refine b_lt (fun t1=>?_) (fun t1=>?_)
   refine ca (c15) ?_
   exact rfl
   (exfalso; omega)
  ·by_cases h0:ckS s=0
   ·obtain ⟨X3,e3,c73_,c78_,c65_3⟩:=rl_x s h0
    obtain ⟨X4,e4,c72_,c79_,c65_4⟩:=cf_x s h0
    by_cases h1:wtE s off=0
    ·obtain ⟨X2,e2,c74_,c77_,c65_2⟩:=wd_x s off h1
     by_cases h2:or0 s off t=0
     ·obtain ⟨X1,e1,c70_,c76_,c65_1⟩:=or_x s off t h2
      rw [h2] at c21_b
      rw [h1] at c21_a c21_b
      rw [h0] at c60_ c80_ c21_a
      refine call_of_vc (x:=jr11) (by kernel_rfl) rfl ?_
      refine ca c56_ ?_
      refine sd ?_
      refine b_lt (fun t1=>?_) (fun t1=>?_)
      (exfalso; omega)
      refine ca c58_ ?_
      refine ca c70_ ?_
      refine ca c58_ ?_
      refine ca c74_ ?_
      refine ca c58_ ?_
      refine ca c73_ ?_
      refine ca c58_ ?_
      refine ca c72_ ?_
      refine ca c60_ ?_
      refine ca c75_ ?_
      refine sd ?_
      refine sd ?_
      refine ca c21_a ?_
      refine ca c51_ ?_
      refine sd ?_
      refine sd ?_
      refine ca c21_b ?_
      refine sd ?_
      refine ca c76_ ?_
      refine sd ?_
      refine ca c77_ ?_
      refine sd ?_
      refine ca c78_ ?_
      refine ca c79_ ?_
      refine ca c58_ ?_
      refine ca c80_ ?_
      refine sd ?_
      refine ca c65_1 ?_
      refine ca c65_2 ?_
      refine ca c65_3 ?_
      refine ca c65_4 ?_
      refine ca (c15) ?_
      exact rfl
     ·have c70_:=c70 s off t hl
      rw [bne_t h2] at c70_
      have c65_1:=c65z (or0 s off t) h2 false false []
      rw [h1] at c21_a c21_b
      rw [h0] at c60_ c80_ c21_a
      refine call_of_vc (x:=jr11) (by kernel_rfl) rfl ?_
      refine ca c56_ ?_
      refine sd ?_
      refine b_lt (fun t1=>?_) (fun t1=>?_)
      (exfalso; omega)
      refine ca c58_ ?_
      refine ca c70_ ?_
      refine ca c58_ ?_
      refine ca c74_ ?_
      refine ca c58_ ?_
      refine ca c73_ ?_
      refine ca c58_ ?_
      refine ca c72_ ?_
      refine ca c60_ ?_
      refine ca c75_ ?_
      refine sd ?_
      refine sd ?_
      refine ca c21_a ?_
      refine ca c51_ ?_
      refine sd ?_
      refine sd ?_
      refine ca c21_b ?_
      refine sd ?_
      refine b_eq (fun t2=>?_) (fun t2=>?_)
      (exfalso; omega)
      refine sd ?_
      refine ca c77_ ?_
      refine sd ?_
      refine ca c78_ ?_
      refine ca c79_ ?_
      refine ca c58_ ?_
      refine ca c80_ ?_
      refine sd ?_
      refine ca c65_1 ?_
      refine ca c65_2 ?_
      refine ca c65_3 ?_
      refine ca c65_4 ?_
      refine ca (c15) ?_
      exact rfl
    ·have h2:or0 s off t=wtE s off:=by unfold or0; exact fo_nz h1
     have c70_:=c70 s off t hl
     have c74_:=c74 s off hl
     rw [h2] at c21_b
     rw [h2,bne_t h1] at c70_
     rw [bne_t h1] at c74_
     have c65_1:=c65z (wtE s off) h1 false false []
     rw [h0] at c60_ c80_ c21_a
     refine call_of_vc (x:=jr11) (by kernel_rfl) rfl ?_
     refine ca c56_ ?_
     refine sd ?_
     refine b_lt (fun t1=>?_) (fun t1=>?_)
     (exfalso; omega)
     refine ca c58_ ?_
     refine ca c70_ ?_
     refine ca c58_ ?_
     refine ca c74_ ?_
     refine ca c58_ ?_
     refine ca c73_ ?_
     refine ca c58_ ?_
     refine ca c72_ ?_
     refine ca c60_ ?_
     refine ca c75_ ?_
     refine sd ?_
     refine sd ?_
     refine ca c21_a ?_
     refine ca c51_ ?_
     refine sd ?_
     refine sd ?_
     refine ca c21_b ?_
     refine sd ?_
     refine b_eq (fun t2=>?_) (fun t2=>?_)
     (exfalso; omega)
     refine sd ?_
     refine b_eq (fun t3=>?_) (fun t3=>?_)
     (exfalso; omega)
     refine sd ?_
     refine ca c78_ ?_
     refine ca c79_ ?_
     refine ca c58_ ?_
     refine ca c80_ ?_
     refine sd ?_
     refine ca c65_1 ?_
     refine ca c65_1 ?_
     refine ca c65_3 ?_
     refine ca c65_4 ?_
     refine ca (c15) ?_
     exact rfl
   ·have h1:wtE s off=ckS s:=by unfold wtE; exact fo_nz h0
    have h2:or0 s off t=ckS s:=by unfold or0; rw [h1]; exact fo_nz h0
    have c70_:=c70 s off t hl
    have c74_:=c74 s off hl
    have c73_:=c73 s hl
    have c72_:=c72 s hl
    rw [h2] at c21_b
    rw [h1] at c21_a c21_b
    rw [h2,bne_t h0] at c70_
    rw [h1,bne_t h0] at c74_
    rw [bne_t h0] at c73_ c72_
    have c65_1:=c65z (ckS s) h0 false false []
    refine call_of_vc (x:=jr11) (by kernel_rfl) rfl ?_
    refine ca c56_ ?_
    refine sd ?_
    refine b_lt (fun t1=>?_) (fun t1=>?_)
    (exfalso; omega)
    refine ca c58_ ?_
    refine ca c70_ ?_
    refine ca c58_ ?_
    refine ca c74_ ?_
    refine ca c58_ ?_
    refine ca c73_ ?_
    refine ca c58_ ?_
    refine ca c72_ ?_
    refine ca c60_ ?_
    refine ca c75_ ?_
    refine sd ?_
    refine sd ?_
    refine ca c21_a ?_
    refine ca c51_ ?_
    refine sd ?_
    refine sd ?_
    refine ca c21_b ?_
    refine sd ?_
    refine b_eq (fun t2=>?_) (fun t2=>?_)
    (exfalso; omega)
    refine sd ?_
    refine b_eq (fun t3=>?_) (fun t3=>?_)
    (exfalso; omega)
    refine sd ?_
    refine b_eq (fun t4=>?_) (fun t4=>?_)
    (exfalso; omega)
    refine ca c58_ ?_
    refine ca c80_ ?_
    refine sd ?_
    refine b_eq (fun t5=>?_) (fun t5=>?_)
    refine ca c65_1 ?_
    refine ca c65_1 ?_
    refine ca c65_1 ?_
    refine ca c65_1 ?_
    refine ca (c15) ?_
    exact rfl
    (exfalso; omega)
end Vc
