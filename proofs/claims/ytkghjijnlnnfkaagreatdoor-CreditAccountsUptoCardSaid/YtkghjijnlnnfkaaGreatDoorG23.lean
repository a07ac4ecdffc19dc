import Derived.Test.YtkghjijnlnnfkaaGreatDoorG14
import Derived.Test.YtkghjijnlnnfkaaGreatDoorG19
set_option linter.unusedSectionVars false
set_option linter.unusedVariables false
set_option linter.unusedSimpArgs false
set_option maxRecDepth 10000
set_option maxHeartbeats 4000000
namespace Vc
open Go Go.Proofs
def jr3:AFun:=⟨90,4,[.tmp 4],
 (.seq
 (.reg [0] [⟨some 2,.cbx 0 22 (.tmp 0),none⟩,
  ⟨some 4,.mov (.cst (.d (.bool false))),none⟩])
 (.seq
  (.seq
  (.reg [] [⟨some 15,.ld true 22 (.tmp 2),none⟩,
   ⟨some 16,.call 14 [(.tmp 15)],none⟩,
   ⟨some 17,.not (.tmp 16),none⟩])
  (.cond (.tmp 17)
   (.seq
   (.reg [] [⟨some 18,.call 15 [],none⟩,
    ⟨some 4,.mov (.tmp 18),none⟩])
   .ret)
   .skip))
  (.seq
  (.reg [1] [⟨some 20,.ld true 22 (.tmp 2),none⟩,
   ⟨some 21,.call 17 [(.tmp 20)],none⟩,
   ⟨some 22,.mov (.tmp 1),none⟩,
   ⟨some 23,.call 16 [(.tmp 21),(.tmp 22)],none⟩,
   ⟨some 19,.mov (.tmp 23),none⟩,
   ⟨some 24,.ext 0 (.tmp 19),none⟩,
   ⟨some 25,.ext 1 (.tmp 19),none⟩,
   ⟨some 5,.alloc 1 [(.d (.int .i64 0)),(.d (.int .i64 0)),(.d (.int .i64 0)),(.d (.int .i64 0)),(.d (.int .u8 0)),(.d (.int .u8 0)),(.d (.int .u8 0)),(.d (.int .u8 0)),(.d (.int .u8 0)),(.d (.int .u8 0)),(.d (.int .u8 0)),(.d (.int .u8 0)),(.d (.int .u8 0)),(.d (.int .u8 0)),(.d (.int .u8 0)),(.d (.int .u8 0)),(.d (.int .u8 0)),(.d (.int .u8 0)),(.d (.int .u8 0)),(.d (.int .u8 0)),(.d (.bool false)),(.nils 1)],none⟩,
   ⟨none,.st 22 (.tmp 5) (.tmp 24),none⟩,
   ⟨some 6,.mov (.tmp 25),none⟩])
  (.seq
   (.reg [] [⟨some 27,.ld true 22 (.tmp 2),none⟩,
    ⟨some 28,.call 17 [(.tmp 27)],none⟩,
    ⟨some 29,.call 18 [(.tmp 28)],none⟩,
    ⟨some 26,.mov (.tmp 29),none⟩,
    ⟨some 30,.ext 0 (.tmp 26),none⟩,
    ⟨some 31,.ext 1 (.tmp 26),none⟩,
    ⟨some 7,.mov (.tmp 30),none⟩,
    ⟨some 8,.mov (.tmp 31),none⟩])
   (.seq
   (.reg [] [⟨some 33,.ld true 22 (.tmp 2),none⟩,
    ⟨some 34,.call 17 [(.tmp 33)],none⟩,
    ⟨some 35,.call 19 [(.tmp 34)],none⟩,
    ⟨some 32,.mov (.tmp 35),none⟩,
    ⟨some 36,.ext 0 (.tmp 32),none⟩,
    ⟨some 37,.ext 1 (.tmp 32),none⟩,
    ⟨some 9,.mov (.tmp 36),none⟩,
    ⟨some 10,.mov (.tmp 37),none⟩])
   (.seq
    (.reg [] [⟨some 38,.ld true 22 (.tmp 2),none⟩,
     ⟨some 39,.call 20 [(.tmp 38)],none⟩,
     ⟨some 11,.mov (.tmp 39),none⟩])
    (.seq
    (.reg [2] [⟨some 40,.mov (.tmp 11),none⟩,
     ⟨some 41,.mov (.tmp 1),none⟩,
     ⟨some 42,.call 22 [(.tmp 41),(.cst (.d (.int .i64 0))),(.cst (.d (.int .i64 100000000)))],none⟩,
     ⟨some 43,.bsl 2 3 1 2 [(.int .i64 0),(.int .i64 0)] [(0,(.tmp 40)),(1,(.tmp 42))],none⟩,
     ⟨some 44,.call 21 [(.tmp 43)],none⟩,
     ⟨some 12,.mov (.tmp 44),none⟩,
     ⟨some 13,.mov (.cst (.d (.int .i64 0))),none⟩])
    (.seq
     (.reg [3] [⟨some 14,.alloc 3 [(.d (.int .i64 0)),(.d (.int .i64 0)),(.d (.int .i64 0)),(.d (.int .i64 0)),(.d (.int .u8 0)),(.d (.int .u8 0)),(.d (.int .u8 0)),(.d (.int .u8 0)),(.d (.int .u8 0)),(.d (.int .u8 0)),(.d (.int .u8 0)),(.d (.int .u8 0)),(.d (.int .u8 0)),(.d (.int .u8 0)),(.d (.int .u8 0)),(.d (.int .u8 0)),(.d (.int .u8 0)),(.d (.int .u8 0)),(.d (.int .u8 0)),(.d (.int .u8 0)),(.d (.bool false)),(.nils 1)],none⟩])
     (.seq
     (.seq
      (.reg [] [⟨some 45,.mov (.tmp 12),none⟩,
       ⟨some 46,.cmp .eql (.tmp 45) (.cst (.d (.int .i64 0))),none⟩])
      (.cond (.tmp 46)
      (.reg [] [⟨some 48,.ld true 22 (.tmp 2),none⟩,
       ⟨some 49,.mov (.tmp 1),none⟩,
       ⟨some 50,.call 23 [(.tmp 48),(.tmp 49)],none⟩,
       ⟨some 47,.mov (.tmp 50),none⟩,
       ⟨some 51,.ext 0 (.tmp 47),none⟩,
       ⟨some 52,.ext 1 (.tmp 47),none⟩,
       ⟨none,.st 22 (.tmp 14) (.tmp 51),none⟩,
       ⟨some 12,.mov (.tmp 52),none⟩])
      .skip))
     (.seq
      (.seq
      (.reg [] [⟨some 53,.mov (.tmp 11),none⟩,
       ⟨some 54,.cmp .eql (.tmp 53) (.cst (.d (.int .i64 0))),none⟩])
      (.cond (.tmp 54)
       (.reg [] [⟨some 55,.ld true 22 (.tmp 2),none⟩,
        ⟨some 56,.call 24 [(.tmp 55)],none⟩,
        ⟨some 13,.mov (.tmp 56),none⟩])
       .skip))
      (.seq
      (.reg [] [⟨some 57,.ld true 22 (.tmp 2),none⟩,
       ⟨some 58,.call 17 [(.tmp 57)],none⟩,
       ⟨some 59,.call 25 [(.tmp 58)],none⟩,
       ⟨some 60,.mov (.tmp 11),none⟩,
       ⟨some 61,.cmp .eql (.tmp 59) (.tmp 60),none⟩,
       ⟨some 62,.mov (.tmp 61),none⟩,
       ⟨some 63,.ld true 22 (.tmp 5),some (62,true)⟩,
       ⟨some 64,.mov (.tmp 6),some (62,true)⟩,
       ⟨some 65,.mov (.tmp 12),some (62,true)⟩,
       ⟨some 66,.ld true 22 (.tmp 14),some (62,true)⟩,
       ⟨some 67,.call 26 [(.tmp 63),(.tmp 64),(.tmp 65),(.tmp 66)],some (62,true)⟩,
       ⟨some 68,.pick (.tmp 62) (.tmp 67) (.cst (.d (.bool false))),none⟩,
       ⟨some 69,.mov (.tmp 68),none⟩,
       ⟨some 70,.mov (.tmp 7),some (69,true)⟩,
       ⟨some 71,.mov (.tmp 8),some (69,true)⟩,
       ⟨some 72,.mov (.tmp 11),some (69,true)⟩,
       ⟨some 73,.mov (.tmp 13),some (69,true)⟩,
       ⟨some 74,.call 27 [(.tmp 70),(.tmp 71),(.tmp 72),(.tmp 73)],some (69,true)⟩,
       ⟨some 75,.pick (.tmp 69) (.tmp 74) (.cst (.d (.bool false))),none⟩,
       ⟨some 76,.mov (.tmp 75),none⟩,
       ⟨some 77,.mov (.tmp 9),some (76,true)⟩,
       ⟨some 78,.mov (.tmp 13),some (76,true)⟩,
       ⟨some 79,.cmp .lss (.tmp 78) (.cst (.d (.int .i64 0))),some (76,true)⟩,
       ⟨some 80,.beq false (.tmp 77) (.tmp 79),some (76,true)⟩,
       ⟨some 81,.pick (.tmp 76) (.tmp 80) (.cst (.d (.bool false))),none⟩,
       ⟨some 82,.mov (.tmp 81),none⟩,
       ⟨some 83,.mov (.tmp 10),some (82,true)⟩,
       ⟨some 84,.mov (.tmp 11),some (82,true)⟩,
       ⟨some 85,.cmp .eql (.tmp 83) (.tmp 84),some (82,true)⟩,
       ⟨some 86,.pick (.tmp 82) (.tmp 85) (.cst (.d (.bool false))),none⟩,
       ⟨some 87,.mov (.tmp 86),none⟩,
       ⟨some 88,.call 15 [],some (87,true)⟩,
       ⟨some 89,.pick (.tmp 87) (.tmp 88) (.cst (.d (.bool false))),none⟩,
       ⟨some 4,.mov (.tmp 89),none⟩])
      .ret)))))))))))⟩
theorem first2 {x y:Int}:firstOf [x,y]=bif x != 0 then x else y:=by
 simp only [firstOf]
 have e:(bif y != 0 then y else 0)=y:=by
  by_cases h:y=0
  ·rw [h]; rfl
  ·rw [bne_t h]; rfl
 rw [e]
theorem spE_bad {a:Ac} {c:Bool} {m:Int} (h:¬ ckA a c=0):spE a c m=ckA a c:=by rw [spE]; simp only [firstOf]; rw [bne_t h]; rfl
theorem spE_m {a:Ac} {c:Bool} {m:Int} (h:ckA a c=0) (hm:¬ within3 m 0 100000000=0):spE a c m=within3 m 0 100000000:=by rw [spE,h]; simp only [firstOf]; rw [bne_t hm]; rfl
theorem c3 (a:Ac) (c:Bool) (m:Int) (hl:a.u.length≤1048576):CallDet Tryz.prog 3 [.d (.agg [.int .i64 (a.b),.int .i64 (a.d),.int .i64 a.s,.int .i64 a.e,.int .u8 a.k.a,.int .u8 a.k.b,.int .u8 a.k.c,.int .u8 a.k.d,.int .u8 a.k.e,.int .u8 a.k.f,.int .u8 a.k.g,.int .u8 a.k.h,.int .u8 a.n.a,.int .u8 a.n.b,.int .u8 a.n.c,.int .u8 a.n.d,.int .u8 a.n.e,.int .u8 a.n.f,.int .u8 a.n.g,.int .u8 a.n.h,.bool c,.slice 1 (ints a.u)]),.d (.int .i64 m)] [.bool true]:=by
 have c14_:=c14 a c
 cases hs:shU a.u with
 | false =>
  rw [hs] at c14_
  refine call_of_vc (x:=jr3) (by kernel_rfl) rfl ?_
  refine ca c14_ ?_
  refine ca (c15) ?_
  exact rfl
 | true =>
  rw [hs] at c14_
  have c17_:=c17 a c hl
  have c16_:=c16 a c m hl
  have c18_:=c18 a c hl
  have c19_:=c19 a c hl
  have c20_:=c20 a c hl
  have c25_:=c25 a c hl
  have c22_:=c22 m 0 100000000
  have c21_:=c21 [ckA a c,within3 m 0 100000000] (by simp)
  rw [first2] at c21_
  by_cases h0:ckA a c=0
  ·have hb:=ckA_b h0
   have c24_:=c24 a c (by omega) (by omega)
   have c27_:=c27 (a.b+a.e) 0 0 (a.b+a.e)
   rw [show ((a.b+a.e==bif (0:Int) != 0 then 0 else a.b+a.e)&&(0:Int)==0)=true by simp] at c27_
   by_cases hm:within3 m 0 100000000=0
   ·have c23_:=c23 a c m hl h0 hm
    rw [h0,hm] at c21_
    rw [h0] at c18_ c19_ c20_ c25_
    rw [hm] at c22_
    by_cases hp:spE a c m=0
    ·rw [hp] at c16_ c23_
     have c26_:CallDet Tryz.prog 26 [.d (.agg [.int .i64 (a.b - m),.int .i64 (a.d),.int .i64 a.s,.int .i64 a.e,.int .u8 a.k.a,.int .u8 a.k.b,.int .u8 a.k.c,.int .u8 a.k.d,.int .u8 a.k.e,.int .u8 a.k.f,.int .u8 a.k.g,.int .u8 a.k.h,.int .u8 a.n.a,.int .u8 a.n.b,.int .u8 a.n.c,.int .u8 a.n.d,.int .u8 a.n.e,.int .u8 a.n.f,.int .u8 a.n.g,.int .u8 a.n.h,.bool c,.slice 1 (ints a.u)]),.d (.int .i64 0),.d (.int .i64 0),.d (.agg [.int .i64 (a.b - m),.int .i64 (a.d),.int .i64 a.s,.int .i64 a.e,.int .u8 a.k.a,.int .u8 a.k.b,.int .u8 a.k.c,.int .u8 a.k.d,.int .u8 a.k.e,.int .u8 a.k.f,.int .u8 a.k.g,.int .u8 a.k.h,.int .u8 a.n.a,.int .u8 a.n.b,.int .u8 a.n.c,.int .u8 a.n.d,.int .u8 a.n.e,.int .u8 a.n.f,.int .u8 a.n.g,.int .u8 a.n.h,.bool c,.slice 1 (ints a.u)])] [.bool true]:=c26s ⟨a.b - m,a.d,a.s,a.e,a.k,a.n,c,a.u⟩ c hl
     refine call_of_vc (x:=jr3) (by kernel_rfl) rfl ?_
     refine ca c14_ ?_
     refine ca c17_ ?_
     refine ca c16_ ?_
     refine ca c17_ ?_
     refine ca c18_ ?_
     refine ca c17_ ?_
     refine ca c19_ ?_
     refine ca c20_ ?_
     refine ca c22_ ?_
     refine sd ?_
     refine sd ?_
     refine ca c21_ ?_
     refine sd ?_
     refine ca c23_ ?_
     refine sd ?_
     refine ca c24_ ?_
     refine ca c17_ ?_
     refine ca c25_ ?_
     refine sd ?_
     refine ca c26_ ?_
     refine ca c27_ ?_
     refine sd ?_
     refine b_intro (fun t1=>?_) (fun t1=>?_)
     replace t1:(decide (Ac.b a+Ac.e a < (0:Int))==decide (Ac.b a+Ac.e a < (0:Int)))=true:=t1
     refine sd ?_
     refine ca (c15) ?_
     exact rfl
     replace t1:(decide (Ac.b a+Ac.e a < (0:Int))==decide (Ac.b a+Ac.e a < (0:Int)))=false:=t1
     refine sd ?_
     refine sd ?_
     rotate_left
     exact absurd t1 (by simp)
    ·rw [bne_t hp] at c16_ c23_
     have c26_:=c26z (spE a c m) hp 0 0 0 0 0 0 0 0 0 0 0 0 0 0 0 0 0 0 0 0 false []
     refine call_of_vc (x:=jr3) (by kernel_rfl) rfl ?_
     refine ca c14_ ?_
     refine ca c17_ ?_
     refine ca c16_ ?_
     refine ca c17_ ?_
     refine ca c18_ ?_
     refine ca c17_ ?_
     refine ca c19_ ?_
     refine ca c20_ ?_
     refine ca c22_ ?_
     refine sd ?_
     refine sd ?_
     refine ca c21_ ?_
     refine sd ?_
     refine ca c23_ ?_
     refine sd ?_
     refine ca c24_ ?_
     refine ca c17_ ?_
     refine ca c25_ ?_
     refine sd ?_
     refine ca c26_ ?_
     refine ca c27_ ?_
     refine sd ?_
     refine b_intro (fun t1=>?_) (fun t1=>?_)
     replace t1:(decide (Ac.b a+Ac.e a < (0:Int))==decide (Ac.b a+Ac.e a < (0:Int)))=true:=t1
     refine sd ?_
     refine ca (c15) ?_
     exact rfl
     replace t1:(decide (Ac.b a+Ac.e a < (0:Int))==decide (Ac.b a+Ac.e a < (0:Int)))=false:=t1
     refine sd ?_
     refine sd ?_
     rotate_left
     exact absurd t1 (by simp)
   ·rw [spE_m h0 hm,bne_t hm] at c16_
    rw [h0] at c18_ c19_ c20_ c25_ c21_
    have c26_:=c26z (within3 m 0 100000000) hm 0 0 0 0 0 0 0 0 0 0 0 0 0 0 0 0 0 0 0 0 false []
    refine call_of_vc (x:=jr3) (by kernel_rfl) rfl ?_
    refine ca c14_ ?_
    refine ca c17_ ?_
    refine ca c16_ ?_
    refine ca c17_ ?_
    refine ca c18_ ?_
    refine ca c17_ ?_
    refine ca c19_ ?_
    refine ca c20_ ?_
    refine ca c22_ ?_
    refine sd ?_
    refine sd ?_
    refine ca c21_ ?_
    refine sd ?_
    refine b_eq (fun t1=>?_) (fun t1=>?_)
    replace t1:within3 m (0:Int) (100000000:Int)=(0:Int):=t1
    (exfalso; omega)
    replace t1:¬within3 m (0:Int) (100000000:Int)=(0:Int):=t1
    refine sd ?_
    refine ca c24_ ?_
    refine ca c17_ ?_
    refine ca c25_ ?_
    refine sd ?_
    refine ca c26_ ?_
    refine ca c27_ ?_
    refine sd ?_
    refine b_intro (fun t2=>?_) (fun t2=>?_)
    replace t2:(decide (Ac.b a+Ac.e a < (0:Int))==decide (Ac.b a+Ac.e a < (0:Int)))=true:=t2
    refine sd ?_
    refine ca (c15) ?_
    exact rfl
    replace t2:(decide (Ac.b a+Ac.e a < (0:Int))==decide (Ac.b a+Ac.e a < (0:Int)))=false:=t2
    refine sd ?_
    refine sd ?_
    rotate_left
    exact absurd t2 (by simp)
  ·rw [bne_t h0] at c18_ c19_ c21_
   rw [spE_bad h0,bne_t h0] at c16_
   have c26_:=c26z (ckA a c) h0 0 0 0 0 0 0 0 0 0 0 0 0 0 0 0 0 0 0 0 0 false []
   have c27_:=c27 0 (ckA a c) (ckA a c) 0
   rw [show (((0:Int)==bif ckA a c != 0 then 0 else 0)&&ckA a c==ckA a c)=true by simp] at c27_
   refine call_of_vc (x:=jr3) (by kernel_rfl) rfl ?_
   refine ca c14_ ?_
   refine ca c17_ ?_
   refine ca c16_ ?_
   refine ca c17_ ?_
   refine ca c18_ ?_
   refine ca c17_ ?_
   refine ca c19_ ?_
   refine ca c20_ ?_
   refine ca c22_ ?_
   refine sd ?_
   refine sd ?_
   refine ca c21_ ?_
   refine sd ?_
   refine b_eq (fun t1=>?_) (fun t1=>?_)
   replace t1:ckA a c=(0:Int):=t1
   (exfalso; omega)
   replace t1:¬ckA a c=(0:Int):=t1
   refine sd ?_
   refine b_eq (fun t2=>?_) (fun t2=>?_)
   (exfalso; omega)
   refine ca c17_ ?_
   refine ca c25_ ?_
   refine sd ?_
   refine b_eq (fun t3=>?_) (fun t3=>?_)
   refine ca c26_ ?_
   refine ca c27_ ?_
   refine sd ?_
   refine sd ?_
   refine b_eq (fun t4=>?_) (fun t4=>?_)
   refine ca (c15) ?_
   exact rfl
   (exfalso; omega)
   (exfalso; omega)
end Vc
