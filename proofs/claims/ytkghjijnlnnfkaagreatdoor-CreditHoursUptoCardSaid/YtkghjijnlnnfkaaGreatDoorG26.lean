import Derived.Test.YtkghjijnlnnfkaaGreatDoorG17
import Derived.Test.YtkghjijnlnnfkaaGreatDoorG22
set_option linter.unusedSectionVars false
set_option linter.unusedVariables false
set_option linter.unusedSimpArgs false
set_option maxRecDepth 10000
set_option maxHeartbeats 4000000
namespace Vc
open Go Go.Proofs
def jr6:AFun:=⟨131,4,[.tmp 6],
 (.seq
 (.reg [0,1] [⟨some 3,.cbx 0 22 (.tmp 0),none⟩,
  ⟨some 5,.cbx 1 2 (.tmp 2),none⟩,
  ⟨some 6,.mov (.cst (.d (.bool false))),none⟩])
 (.seq
  (.seq
  (.reg [] [⟨some 20,.ld true 22 (.tmp 3),none⟩,
   ⟨some 21,.call 14 [(.tmp 20)],none⟩,
   ⟨some 22,.not (.tmp 21),none⟩,
   ⟨some 23,.mov (.tmp 22),none⟩,
   ⟨some 24,.mov (.tmp 1),some (23,false)⟩,
   ⟨some 25,.len (.tmp 24),some (23,false)⟩,
   ⟨some 26,.cmp .gtr (.tmp 25) (.cst (.d (.int .i64 17))),some (23,false)⟩,
   ⟨some 27,.pick (.tmp 23) (.cst (.d (.bool true))) (.tmp 26),none⟩])
  (.cond (.tmp 27)
   (.seq
   (.reg [] [⟨some 28,.call 15 [],none⟩,
    ⟨some 6,.mov (.tmp 28),none⟩])
   .ret)
   .skip))
  (.seq
  (.regd [] [⟨some 30,.mov (.tmp 1),none⟩,
   ⟨some 31,.call 47 [(.tmp 30)],none⟩,
   ⟨some 32,.ixp 2 1 (.tmp 5) (.cst (.d (.int .i64 0))),none⟩,
   ⟨some 33,.ld false 1 (.tmp 32),none⟩,
   ⟨some 34,.call 46 [(.tmp 31),(.tmp 33)],none⟩,
   ⟨some 29,.mov (.tmp 34),none⟩,
   ⟨some 35,.ext 0 (.tmp 29),none⟩,
   ⟨some 36,.ext 1 (.tmp 29),none⟩,
   ⟨some 7,.mov (.tmp 35),none⟩,
   ⟨some 8,.mov (.tmp 36),none⟩] [(0,2),(1,2),(0,3),(1,3),(6,7),(7,8)])
  (.seq
   (.regd [] [⟨some 38,.mov (.tmp 1),none⟩,
    ⟨some 39,.call 47 [(.tmp 38)],none⟩,
    ⟨some 40,.ixp 2 1 (.tmp 5) (.cst (.d (.int .i64 0))),none⟩,
    ⟨some 41,.ld false 1 (.tmp 40),none⟩,
    ⟨some 42,.call 48 [(.tmp 39),(.tmp 41)],none⟩,
    ⟨some 37,.mov (.tmp 42),none⟩,
    ⟨some 43,.ext 0 (.tmp 37),none⟩,
    ⟨some 44,.ext 1 (.tmp 37),none⟩,
    ⟨some 9,.mov (.tmp 43),none⟩,
    ⟨some 10,.mov (.tmp 44),none⟩] [(0,2),(1,2),(0,3),(1,3),(6,7),(7,8)])
   (.seq
   (.regd [] [⟨some 46,.ld true 22 (.tmp 3),none⟩,
    ⟨some 47,.call 17 [(.tmp 46)],none⟩,
    ⟨some 48,.mov (.tmp 1),none⟩,
    ⟨some 49,.call 47 [(.tmp 48)],none⟩,
    ⟨some 50,.ixp 2 1 (.tmp 5) (.cst (.d (.int .i64 0))),none⟩,
    ⟨some 51,.ld false 1 (.tmp 50),none⟩,
    ⟨some 52,.ixp 2 1 (.tmp 5) (.cst (.d (.int .i64 1))),none⟩,
    ⟨some 53,.ld false 1 (.tmp 52),none⟩,
    ⟨some 54,.call 49 [(.tmp 47),(.tmp 49),(.tmp 51),(.tmp 53)],none⟩,
    ⟨some 45,.mov (.tmp 54),none⟩,
    ⟨some 55,.ext 0 (.tmp 45),none⟩,
    ⟨some 56,.ext 1 (.tmp 45),none⟩,
    ⟨some 11,.mov (.tmp 55),none⟩,
    ⟨some 12,.mov (.tmp 56),none⟩] [(0,2),(1,2),(0,4),(1,4),(2,4),(3,4),(0,5),(1,5),(2,5),(3,5),(0,6),(1,6),(2,6),(3,6),(4,6),(5,6),(0,7),(1,7),(2,7),(3,7),(4,7),(5,7),(10,11),(11,12)])
   (.seq
    (.reg [] [⟨some 57,.mov (.tmp 1),none⟩,
     ⟨some 58,.call 50 [(.tmp 57)],none⟩,
     ⟨some 13,.mov (.tmp 58),none⟩])
    (.seq
    (.reg [2] [⟨some 59,.mov (.tmp 13),none⟩,
     ⟨some 60,.ixp 2 1 (.tmp 5) (.cst (.d (.int .i64 0))),none⟩,
     ⟨some 61,.ld false 1 (.tmp 60),none⟩,
     ⟨some 62,.call 51 [(.tmp 61)],none⟩,
     ⟨some 63,.bsl 2 3 1 2 [(.int .i64 0),(.int .i64 0)] [(0,(.tmp 59)),(1,(.tmp 62))],none⟩,
     ⟨some 64,.call 21 [(.tmp 63)],none⟩,
     ⟨some 14,.mov (.tmp 64),none⟩])
    (.seq
     (.reg [] [⟨some 65,.mov (.tmp 14),none⟩,
      ⟨some 15,.mov (.tmp 65),none⟩])
     (.seq
     (.regd [3] [⟨some 66,.ld true 22 (.tmp 3),none⟩,
      ⟨some 67,.call 20 [(.tmp 66)],none⟩,
      ⟨some 68,.mov (.tmp 14),none⟩,
      ⟨some 69,.ixp 2 1 (.tmp 5) (.cst (.d (.int .i64 1))),none⟩,
      ⟨some 70,.ld false 1 (.tmp 69),none⟩,
      ⟨some 71,.call 22 [(.tmp 70),(.cst (.d (.int .i64 1))),(.cst (.d (.int .i64 100000)))],none⟩,
      ⟨some 72,.bsl 3 3 1 3 [(.int .i64 0),(.int .i64 0),(.int .i64 0)] [(0,(.tmp 67)),(1,(.tmp 68)),(2,(.tmp 71))],none⟩,
      ⟨some 73,.call 21 [(.tmp 72)],none⟩,
      ⟨some 16,.mov (.tmp 73),none⟩] [(0,2),(1,2),(0,3),(1,3),(2,3),(0,4),(1,4),(2,4),(2,5)])
     (.seq
      (.reg [] [⟨some 17,.mov (.cst (.d (.int .i64 0))),none⟩,
       ⟨some 18,.mov (.cst (.d (.int .i64 0))),none⟩,
       ⟨some 19,.mov (.cst (.d (.bool false))),none⟩])
      (.seq
      (.seq
       (.reg [] [⟨some 74,.mov (.tmp 14),none⟩,
        ⟨some 75,.cmp .eql (.tmp 74) (.cst (.d (.int .i64 0))),none⟩])
       (.cond (.tmp 75)
       (.seq
        (.reg [] [⟨some 76,.mov (.tmp 1),none⟩,
         ⟨some 77,.ixp 2 1 (.tmp 5) (.cst (.d (.int .i64 0))),none⟩,
         ⟨some 78,.ld false 1 (.tmp 77),none⟩,
         ⟨some 79,.call 52 [(.tmp 76),(.tmp 78)],none⟩,
         ⟨some 19,.mov (.tmp 79),none⟩])
        (.reg [] [⟨some 81,.mov (.tmp 1),none⟩,
         ⟨some 82,.ixp 2 1 (.tmp 5) (.cst (.d (.int .i64 0))),none⟩,
         ⟨some 83,.ld false 1 (.tmp 82),none⟩,
         ⟨some 84,.call 53 [(.tmp 81),(.tmp 83)],none⟩,
         ⟨some 80,.mov (.tmp 84),none⟩,
         ⟨some 85,.ext 0 (.tmp 80),none⟩,
         ⟨some 86,.ext 1 (.tmp 80),none⟩,
         ⟨some 17,.mov (.tmp 85),none⟩,
         ⟨some 15,.mov (.tmp 86),none⟩]))
       .skip))
      (.seq
       (.seq
       (.reg [] [⟨some 87,.mov (.tmp 16),none⟩,
        ⟨some 88,.cmp .eql (.tmp 87) (.cst (.d (.int .i64 0))),none⟩])
       (.cond (.tmp 88)
        (.reg [] [⟨some 90,.ld true 22 (.tmp 3),none⟩,
         ⟨some 91,.mov (.tmp 1),none⟩,
         ⟨some 92,.ixp 2 1 (.tmp 5) (.cst (.d (.int .i64 0))),none⟩,
         ⟨some 93,.ld false 1 (.tmp 92),none⟩,
         ⟨some 94,.ixp 2 1 (.tmp 5) (.cst (.d (.int .i64 1))),none⟩,
         ⟨some 95,.ld false 1 (.tmp 94),none⟩,
         ⟨some 96,.call 54 [(.tmp 90),(.tmp 91),(.tmp 93),(.tmp 95)],none⟩,
         ⟨some 89,.mov (.tmp 96),none⟩,
         ⟨some 97,.ext 0 (.tmp 89),none⟩,
         ⟨some 98,.ext 1 (.tmp 89),none⟩,
         ⟨some 18,.mov (.tmp 97),none⟩,
         ⟨some 16,.mov (.tmp 98),none⟩])
        .skip))
       (.seq
       (.reg [] [⟨some 99,.mov (.tmp 1),none⟩,
        ⟨some 100,.call 47 [(.tmp 99)],none⟩,
        ⟨some 101,.call 55 [(.tmp 100)],none⟩,
        ⟨some 102,.mov (.tmp 13),none⟩,
        ⟨some 103,.cmp .eql (.tmp 101) (.tmp 102),none⟩,
        ⟨some 104,.mov (.tmp 103),none⟩,
        ⟨some 105,.mov (.tmp 7),some (104,true)⟩,
        ⟨some 106,.mov (.tmp 19),some (104,true)⟩,
        ⟨some 107,.beq false (.tmp 105) (.tmp 106),some (104,true)⟩,
        ⟨some 108,.pick (.tmp 104) (.tmp 107) (.cst (.d (.bool false))),none⟩,
        ⟨some 109,.mov (.tmp 108),none⟩,
        ⟨some 110,.mov (.tmp 8),some (109,true)⟩,
        ⟨some 111,.mov (.tmp 14),some (109,true)⟩,
        ⟨some 112,.cmp .eql (.tmp 110) (.tmp 111),some (109,true)⟩,
        ⟨some 113,.pick (.tmp 109) (.tmp 112) (.cst (.d (.bool false))),none⟩,
        ⟨some 114,.mov (.tmp 113),none⟩,
        ⟨some 115,.mov (.tmp 9),some (114,true)⟩,
        ⟨some 116,.mov (.tmp 10),some (114,true)⟩,
        ⟨some 117,.mov (.tmp 15),some (114,true)⟩,
        ⟨some 118,.mov (.tmp 17),some (114,true)⟩,
        ⟨some 119,.call 27 [(.tmp 115),(.tmp 116),(.tmp 117),(.tmp 118)],some (114,true)⟩,
        ⟨some 120,.pick (.tmp 114) (.tmp 119) (.cst (.d (.bool false))),none⟩,
        ⟨some 121,.mov (.tmp 120),none⟩,
        ⟨some 122,.mov (.tmp 11),some (121,true)⟩,
        ⟨some 123,.mov (.tmp 12),some (121,true)⟩,
        ⟨some 124,.mov (.tmp 16),some (121,true)⟩,
        ⟨some 125,.mov (.tmp 18),some (121,true)⟩,
        ⟨some 126,.call 27 [(.tmp 122),(.tmp 123),(.tmp 124),(.tmp 125)],some (121,true)⟩,
        ⟨some 127,.pick (.tmp 121) (.tmp 126) (.cst (.d (.bool false))),none⟩,
        ⟨some 128,.mov (.tmp 127),none⟩,
        ⟨some 129,.call 15 [],some (128,true)⟩,
        ⟨some 130,.pick (.tmp 128) (.tmp 129) (.cst (.d (.bool false))),none⟩,
        ⟨some 6,.mov (.tmp 130),none⟩])
       .ret)))))))))))))⟩
theorem fo_z {r:List Int}:firstOf ((0:Int)::r)=firstOf r:=rfl
theorem fo_nz {a:Int} {r:List Int} (h:a≠0):firstOf (a::r)=a:=by show (bif a != 0 then a else _)=a; rw [bne_t h]; rfl
theorem ctE_fr (a:Ac) (c:Bool) (l:List Hr) (t u:Int):firstOf [ckA a c,frE l t,within3 u 1 100000]=ctE a c l t u:=by
 unfold ctE frE
 by_cases h1:ckA a c=0
 ·rw [h1,fo_z,fo_z]
  by_cases h2:ckH l=0
  ·rw [h2,fo_z,fo_z]
   by_cases h3:within3 t 0 100000000=0
   ·rw [h3,fo_z]; rfl
   ·rw [fo_nz h3,fo_nz h3]
  ·rw [fo_nz h2,fo_nz h2,fo_nz h2]
 ·rw [fo_nz h1,fo_nz h1]
theorem c27t (v e:Int) (h:e=0∨v=0):CallDet Tryz.prog 27 [.d (.int .i64 v),.d (.int .i64 e),.d (.int .i64 e),.d (.int .i64 v)] [.bool true]:=by
 have c:=c27 v e e v
 rw [show ((v==bif e != 0 then 0 else v)&&e==e)=true by
  rcases h with h | h
  ·subst h; simp
  ·subst h; cases e != 0 <;> simp] at c
 exact c
theorem free_x (l:List Hr) (t:Int) (hl:l.length≤1048576) (h:frE l t=0):∃ v e:Int,CallDet Tryz.prog 48 [.d (.slice 9 (hrs l)),.d (.int .i64 t)] [.int .i64 v,.int .i64 e]∧CallDet Tryz.prog 53 [.d (.slice 9 (hrs l)),.d (.int .i64 t)] [.int .i64 v,.int .i64 e]∧CallDet Tryz.prog 27 [.d (.int .i64 v),.d (.int .i64 e),.d (.int .i64 e),.d (.int .i64 v)] [.bool true]:=by
 obtain ⟨_,hh,h0,h1⟩:=frE_0 h
 have a:=c48 l t hl
 have b:=c53 l t hl hh.2 h0 h1
 rw [h] at a
 by_cases hf:frA l t < 0
 ·rw [decide_eq_true hf] at a b
  exact ⟨0,7,a,b,c27t 0 7 (.inr rfl)⟩
 ·rw [decide_eq_false hf] at a b
  exact ⟨frA l t,0,a,b,c27t _ 0 (.inl rfl)⟩
theorem cut_x (a:Ac) (c:Bool) (l:List Hr) (t u:Int) (hla:a.u.length≤1048576) (hl:l.length≤1048576) (h:ctE a c l t u=0):∃ v e:Int,CallDet Tryz.prog 49 [.d (.agg [.int .i64 (a.b),.int .i64 (a.d),.int .i64 a.s,.int .i64 a.e,.int .u8 a.k.a,.int .u8 a.k.b,.int .u8 a.k.c,.int .u8 a.k.d,.int .u8 a.k.e,.int .u8 a.k.f,.int .u8 a.k.g,.int .u8 a.k.h,.int .u8 a.n.a,.int .u8 a.n.b,.int .u8 a.n.c,.int .u8 a.n.d,.int .u8 a.n.e,.int .u8 a.n.f,.int .u8 a.n.g,.int .u8 a.n.h,.bool c,.slice 1 (ints a.u)]),.d (.slice 9 (hrs l)),.d (.int .i64 t),.d (.int .i64 u)] [.int .i64 v,.int .i64 e]∧CallDet Tryz.prog 54 [.d (.agg [.int .i64 (a.b),.int .i64 (a.d),.int .i64 a.s,.int .i64 a.e,.int .u8 a.k.a,.int .u8 a.k.b,.int .u8 a.k.c,.int .u8 a.k.d,.int .u8 a.k.e,.int .u8 a.k.f,.int .u8 a.k.g,.int .u8 a.k.h,.int .u8 a.n.a,.int .u8 a.n.b,.int .u8 a.n.c,.int .u8 a.n.d,.int .u8 a.n.e,.int .u8 a.n.f,.int .u8 a.n.g,.int .u8 a.n.h,.bool c,.slice 1 (ints a.u)]),.d (.slice 9 (hrs l)),.d (.int .i64 t),.d (.int .i64 u)] [.int .i64 v,.int .i64 e]∧CallDet Tryz.prog 27 [.d (.int .i64 v),.d (.int .i64 e),.d (.int .i64 e),.d (.int .i64 v)] [.bool true]:=by
 have x:=c49 a c l t u hla hl
 have y:=c54 a c l t u hla hl h
 rw [show (bif ctE a c l t u != 0 then [.int .i64 0,.int .i64 (ctE a c l t u)] else ctR a l t u)=ctR a l t u from by rw [h]; rfl] at x
 unfold ctR at x y
 cases hb:(decide (100000000 < ctT a t u)||decide (frA l (ctT a t u) < 0)) with
 | true=>rw [hb] at x y; exact ⟨0,7,x,y,c27t 0 7 (.inr rfl)⟩
 | false=>rw [hb] at x y; exact ⟨_,0,x,y,c27t _ 0 (.inl rfl)⟩
theorem c6 (a:Ac) (c:Bool) (l:List Hr) (t u:Int) (hla:a.u.length≤1048576) (hl:l.length≤1048576):CallDet Tryz.prog 6 [.d (.agg [.int .i64 (a.b),.int .i64 (a.d),.int .i64 a.s,.int .i64 a.e,.int .u8 a.k.a,.int .u8 a.k.b,.int .u8 a.k.c,.int .u8 a.k.d,.int .u8 a.k.e,.int .u8 a.k.f,.int .u8 a.k.g,.int .u8 a.k.h,.int .u8 a.n.a,.int .u8 a.n.b,.int .u8 a.n.c,.int .u8 a.n.d,.int .u8 a.n.e,.int .u8 a.n.f,.int .u8 a.n.g,.int .u8 a.n.h,.bool c,.slice 1 (ints a.u)]),.d (.slice 9 (hrs l)),.d (.agg [.int .i64 t,.int .i64 u])] [.bool true]:=by
 have hll:=hrs_len l
 have c14_:=c14 a c
 have c47_:=c47 l hl
 have c17_:=c17 a c hla
 have c20_:=c20 a c hla
 have c46_:=c46 l t hl
 have c50_:=c50 l hl
 have c55_:=c55 l hl
 have c51_:=c51 t
 have c22_:=c22 u 1 100000
 have c21_a:CallDet Tryz.prog 21 [.d (.slice 1 [.int .i64 (ckH l),.int .i64 (within3 t 0 100000000)])] [.int .i64 (frE l t)]:=c21 [ckH l,within3 t 0 100000000] (by simp)
 have c21_b:CallDet Tryz.prog 21 [.d (.slice 1 [.int .i64 (ckA a c),.int .i64 (frE l t),.int .i64 (within3 u 1 100000)])] [.int .i64 (ctE a c l t u)]:=by rw [← ctE_fr]; exact c21 [ckA a c,frE l t,within3 u 1 100000] (by simp)
 cases hs:shU a.u with
 | false =>
  rw [hs] at c14_
  refine call_of_vc (x:=jr6) (by kernel_rfl) rfl ?_
  refine ca c14_ ?_
  refine sd ?_
  refine ca (c15) ?_
  exact rfl
 | true =>
  rw [hs] at c14_
  by_cases h17:(17:Int) < (((hrs l).length:Nat):Int)
  ·refine call_of_vc (x:=jr6) (by kernel_rfl) rfl ?_
   refine ca c14_ ?_
   refine sd ?_
   refine b_lt (fun t1=>?_) (fun t1=>?_)
   refine ca (c15) ?_
   exact rfl
   (exfalso; omega)
  ·by_cases hf:frE l t=0
   ·obtain ⟨v,e,c48_,c53_,c27_a⟩:=free_x l t hl hf
    obtain ⟨hH,hh,h0,h1⟩:=frE_0 hf
    have c52_:=c52 l t hl h0 (by omega)
    rw [hf] at c46_ c21_a c21_b
    by_cases hc:ctE a c l t u=0
    ·obtain ⟨w,e',c49_,c54_,c27_b⟩:=cut_x a c l t u hla hl hc
     rw [hc] at c21_b
     refine call_of_vc (x:=jr6) (by kernel_rfl) rfl ?_
     refine ca c14_ ?_
     refine sd ?_
     refine b_lt (fun t1=>?_) (fun t1=>?_)
     (exfalso; omega)
     refine ca c47_ ?_
     refine an ?_ ?_
     refine an ?_ ?_
     (show (0:Int)≤(0:Int); omega)
     (show (0:Int) < (↑(2:Nat):Int); omega)
     refine ca c46_ ?_
     refine ca c47_ ?_
     refine an ?_ ?_
     refine an ?_ ?_
     (show (0:Int)≤(0:Int); omega)
     (show (0:Int) < (↑(2:Nat):Int); omega)
     refine ca c48_ ?_
     refine ca c17_ ?_
     refine ca c47_ ?_
     refine an ?_ ?_
     refine an ?_ ?_
     (show (0:Int)≤(0:Int); omega)
     (show (0:Int) < (↑(2:Nat):Int); omega)
     refine an ?_ ?_
     refine an ?_ ?_
     (show (0:Int)≤(1:Int); omega)
     (show (1:Int) < (↑(2:Nat):Int); omega)
     refine ca c49_ ?_
     refine ca c50_ ?_
     refine an ?_ ?_
     refine an ?_ ?_
     (show (0:Int)≤(0:Int); omega)
     (show (0:Int) < (↑(2:Nat):Int); omega)
     refine ca c51_ ?_
     refine sd ?_
     refine sd ?_
     refine ca c21_a ?_
     refine ca c20_ ?_
     refine an ?_ ?_
     refine an ?_ ?_
     (show (0:Int)≤(1:Int); omega)
     (show (1:Int) < (↑(2:Nat):Int); omega)
     refine ca c22_ ?_
     refine sd ?_
     refine sd ?_
     refine ca c21_b ?_
     refine sd ?_
     refine an ?_ ?_
     refine an ?_ ?_
     (show (0:Int)≤(0:Int); omega)
     (show (0:Int) < (↑(2:Nat):Int); omega)
     refine ca c52_ ?_
     refine an ?_ ?_
     refine an ?_ ?_
     (show (0:Int)≤(0:Int); omega)
     (show (0:Int) < (↑(2:Nat):Int); omega)
     refine ca c53_ ?_
     refine sd ?_
     refine an ?_ ?_
     refine an ?_ ?_
     (show (0:Int)≤(0:Int); omega)
     (show (0:Int) < (↑(2:Nat):Int); omega)
     refine an ?_ ?_
     refine an ?_ ?_
     (show (0:Int)≤(1:Int); omega)
     (show (1:Int) < (↑(2:Nat):Int); omega)
     refine ca c54_ ?_
     refine ca c47_ ?_
     refine ca c55_ ?_
     refine sd ?_
     refine b_eq (fun t2=>?_) (fun t2=>?_)
     refine b_intro (fun t3=>?_) (fun t3=>?_)
     replace t3:(prL l t==prL l t)=true:=t3
     refine sd ?_
     refine ca c27_a ?_
     refine ca c27_b ?_
     refine ca (c15) ?_
     exact rfl
     replace t3:(prL l t==prL l t)=false:=t3
     refine sd ?_
     refine sd ?_
     refine sd ?_
     refine sd ?_
     rotate_left
     (exfalso; omega)
     all_goals first | (simp at t3; done) | (simp at t4; done)
    ·have c49_:=c49 a c l t u hla hl
     rw [bne_t hc] at c49_
     have c27_b:=c27t 0 (ctE a c l t u) (.inr rfl)
     refine call_of_vc (x:=jr6) (by kernel_rfl) rfl ?_
     refine ca c14_ ?_
     refine sd ?_
     refine b_lt (fun t1=>?_) (fun t1=>?_)
     (exfalso; omega)
     refine ca c47_ ?_
     refine an ?_ ?_
     refine an ?_ ?_
     (show (0:Int)≤(0:Int); omega)
     (show (0:Int) < (↑(2:Nat):Int); omega)
     refine ca c46_ ?_
     refine ca c47_ ?_
     refine an ?_ ?_
     refine an ?_ ?_
     (show (0:Int)≤(0:Int); omega)
     (show (0:Int) < (↑(2:Nat):Int); omega)
     refine ca c48_ ?_
     refine ca c17_ ?_
     refine ca c47_ ?_
     refine an ?_ ?_
     refine an ?_ ?_
     (show (0:Int)≤(0:Int); omega)
     (show (0:Int) < (↑(2:Nat):Int); omega)
     refine an ?_ ?_
     refine an ?_ ?_
     (show (0:Int)≤(1:Int); omega)
     (show (1:Int) < (↑(2:Nat):Int); omega)
     refine ca c49_ ?_
     refine ca c50_ ?_
     refine an ?_ ?_
     refine an ?_ ?_
     (show (0:Int)≤(0:Int); omega)
     (show (0:Int) < (↑(2:Nat):Int); omega)
     refine ca c51_ ?_
     refine sd ?_
     refine sd ?_
     refine ca c21_a ?_
     refine ca c20_ ?_
     refine an ?_ ?_
     refine an ?_ ?_
     (show (0:Int)≤(1:Int); omega)
     (show (1:Int) < (↑(2:Nat):Int); omega)
     refine ca c22_ ?_
     refine sd ?_
     refine sd ?_
     refine ca c21_b ?_
     refine sd ?_
     refine an ?_ ?_
     refine an ?_ ?_
     (show (0:Int)≤(0:Int); omega)
     (show (0:Int) < (↑(2:Nat):Int); omega)
     refine ca c52_ ?_
     refine an ?_ ?_
     refine an ?_ ?_
     (show (0:Int)≤(0:Int); omega)
     (show (0:Int) < (↑(2:Nat):Int); omega)
     refine ca c53_ ?_
     refine sd ?_
     refine b_eq (fun t2=>?_) (fun t2=>?_)
     (exfalso; omega)
     refine ca c47_ ?_
     refine ca c55_ ?_
     refine sd ?_
     refine b_eq (fun t3=>?_) (fun t3=>?_)
     refine b_intro (fun t4=>?_) (fun t4=>?_)
     replace t4:(prL l t==prL l t)=true:=t4
     refine sd ?_
     refine ca c27_a ?_
     refine ca c27_b ?_
     refine ca (c15) ?_
     exact rfl
     replace t4:(prL l t==prL l t)=false:=t4
     refine sd ?_
     refine sd ?_
     refine sd ?_
     refine sd ?_
     rotate_left
     (exfalso; omega)
     all_goals first | (simp at t3; done) | (simp at t4; done)
   ·have c48_:=c48 l t hl
    rw [bne_t hf] at c48_ c46_
    have hc:¬ ctE a c l t u=0:=fun h=>hf (by
     obtain ⟨_,h2,⟨h3,h4⟩,_⟩:=ctE_0 h
     unfold frE
     rw [h2,fo_z]
     have hw:within3 t 0 100000000=0:=firstOf_zero h (within3 t 0 100000000) (by simp)
     rw [hw]; rfl)
    have c49_:=c49 a c l t u hla hl
    rw [bne_t hc] at c49_
    have c27_a:=c27t 0 (frE l t) (.inr rfl)
    have c27_b:=c27t 0 (ctE a c l t u) (.inr rfl)
    refine call_of_vc (x:=jr6) (by kernel_rfl) rfl ?_
    refine ca c14_ ?_
    refine sd ?_
    refine b_lt (fun t1=>?_) (fun t1=>?_)
    (exfalso; omega)
    refine ca c47_ ?_
    refine an ?_ ?_
    refine an ?_ ?_
    (show (0:Int)≤(0:Int); omega)
    (show (0:Int) < (↑(2:Nat):Int); omega)
    refine ca c46_ ?_
    refine ca c47_ ?_
    refine an ?_ ?_
    refine an ?_ ?_
    (show (0:Int)≤(0:Int); omega)
    (show (0:Int) < (↑(2:Nat):Int); omega)
    refine ca c48_ ?_
    refine ca c17_ ?_
    refine ca c47_ ?_
    refine an ?_ ?_
    refine an ?_ ?_
    (show (0:Int)≤(0:Int); omega)
    (show (0:Int) < (↑(2:Nat):Int); omega)
    refine an ?_ ?_
    refine an ?_ ?_
    (show (0:Int)≤(1:Int); omega)
    (show (1:Int) < (↑(2:Nat):Int); omega)
    refine ca c49_ ?_
    refine ca c50_ ?_
    refine an ?_ ?_
    refine an ?_ ?_
    (show (0:Int)≤(0:Int); omega)
    (show (0:Int) < (↑(2:Nat):Int); omega)
    refine ca c51_ ?_
    refine sd ?_
    refine sd ?_
    refine ca c21_a ?_
    refine ca c20_ ?_
    refine an ?_ ?_
    refine an ?_ ?_
    (show (0:Int)≤(1:Int); omega)
    (show (1:Int) < (↑(2:Nat):Int); omega)
    refine ca c22_ ?_
    refine sd ?_
    refine sd ?_
    refine ca c21_b ?_
    refine sd ?_
    refine b_eq (fun t2=>?_) (fun t2=>?_)
    (exfalso; omega)
    refine sd ?_
    refine b_eq (fun t3=>?_) (fun t3=>?_)
    (exfalso; omega)
    refine ca c47_ ?_
    refine ca c55_ ?_
    refine sd ?_
    refine b_eq (fun t4=>?_) (fun t4=>?_)
    refine sd ?_
    refine b_eq (fun t5=>?_) (fun t5=>?_)
    refine ca c27_a ?_
    refine ca c27_b ?_
    refine ca (c15) ?_
    exact rfl
    (exfalso; omega)
    (exfalso; omega)
    all_goals first | (simp at t3; done) | (simp at t4; done)
end Vc
