import Derived.Test.YtifgdpnmgeffbaaGreatDoorG10
import Derived.Test.YtifgdpnmgeffbaaGreatDoorG18
set_option linter.unusedSectionVars false
set_option linter.unusedVariables false
set_option linter.unusedSimpArgs false
set_option maxRecDepth 10000
set_option maxHeartbeats 4000000
namespace Vc
open Go Go.Proofs
def jr5:AFun:=⟨128,11,[.tmp 6],
 (.seq
 (.reg [0,1] [⟨some 3,.cbx 0 4 (.tmp 0),none⟩,
  ⟨some 5,.cbx 1 2 (.tmp 2),none⟩,
  ⟨some 6,.mov (.cst (.d (.bool false))),none⟩])
 (.seq
  (.seq
  (.reg [2] [⟨some 15,.mov (.tmp 1),none⟩,
   ⟨some 16,.call 36 [(.tmp 15)],none⟩,
   ⟨some 17,.not (.tmp 16),none⟩,
   ⟨some 18,.mov (.tmp 17),none⟩,
   ⟨some 19,.fad 1 (.tmp 5),some (18,false)⟩,
   ⟨some 20,.ld false 1 (.tmp 19),some (18,false)⟩,
   ⟨some 21,.bsl 2 28 1 1 [(.slice 1 [])] [(0,(.tmp 20))],some (18,false)⟩,
   ⟨some 22,.call 36 [(.tmp 21)],some (18,false)⟩,
   ⟨some 23,.not (.tmp 22),some (18,false)⟩,
   ⟨some 24,.pick (.tmp 18) (.cst (.d (.bool true))) (.tmp 23),none⟩,
   ⟨some 25,.mov (.tmp 24),none⟩,
   ⟨some 26,.fad 0 (.tmp 5),some (25,false)⟩,
   ⟨some 27,.ld false 1 (.tmp 26),some (25,false)⟩,
   ⟨some 28,.len (.tmp 27),some (25,false)⟩,
   ⟨some 29,.cmp .gtr (.tmp 28) (.cst (.d (.int .i64 6))),some (25,false)⟩,
   ⟨some 30,.pick (.tmp 25) (.cst (.d (.bool true))) (.tmp 29),none⟩])
  (.cond (.tmp 30)
   (.seq
   (.reg [] [⟨some 31,.call 13 [],none⟩,
    ⟨some 6,.mov (.tmp 31),none⟩])
   .ret)
   .skip))
  (.seq
  (.regd [3,4] [⟨some 33,.fad 0 (.tmp 3),none⟩,
   ⟨some 34,.ld false 1 (.tmp 33),none⟩,
   ⟨some 35,.fad 1 (.tmp 3),none⟩,
   ⟨some 36,.ld false 1 (.tmp 35),none⟩,
   ⟨some 37,.mov (.tmp 1),none⟩,
   ⟨some 38,.call 38 [(.tmp 37)],none⟩,
   ⟨some 39,.bsl 3 3 1 0 [] [],none⟩,
   ⟨some 40,.fad 1 (.tmp 5),none⟩,
   ⟨some 41,.ld false 1 (.tmp 40),none⟩,
   ⟨some 42,.app 4 3 1 8 (.tmp 39) (.tmp 41),none⟩,
   ⟨some 43,.call 37 [(.tmp 34),(.tmp 36),(.tmp 38),(.tmp 42)],none⟩,
   ⟨some 32,.mov (.tmp 43),none⟩,
   ⟨some 44,.ext 0 (.tmp 32),none⟩,
   ⟨some 45,.ext 1 (.tmp 32),none⟩,
   ⟨some 7,.mov (.tmp 44),none⟩,
   ⟨some 8,.mov (.tmp 45),none⟩] [(0,2),(1,2),(0,3),(1,3),(0,4),(1,4),(2,4),(3,4),(0,5),(1,5),(2,5),(3,5),(0,6),(1,6),(2,6),(3,6),(4,6),(5,6),(0,7),(1,7),(2,7),(3,7),(4,7),(5,7),(6,7),(0,8),(1,8),(2,8),(3,8),(4,8),(5,8),(6,8),(0,9),(1,9),(2,9),(3,9),(12,13),(13,14)])
  (.seq
   (.regd [5,6,7,8] [⟨some 47,.bsl 5 3 1 0 [] [],none⟩,
    ⟨some 48,.fad 0 (.tmp 5),none⟩,
    ⟨some 49,.ld false 1 (.tmp 48),none⟩,
    ⟨some 50,.app 6 3 1 8 (.tmp 47) (.tmp 49),none⟩,
    ⟨some 51,.bsl 7 3 1 0 [] [],none⟩,
    ⟨some 52,.fad 1 (.tmp 5),none⟩,
    ⟨some 53,.ld false 1 (.tmp 52),none⟩,
    ⟨some 54,.app 8 3 1 8 (.tmp 51) (.tmp 53),none⟩,
    ⟨some 55,.call 39 [(.tmp 50),(.tmp 54)],none⟩,
    ⟨some 46,.mov (.tmp 55),none⟩,
    ⟨some 56,.ext 0 (.tmp 46),none⟩,
    ⟨some 57,.ext 1 (.tmp 46),none⟩,
    ⟨some 9,.mov (.tmp 56),none⟩,
    ⟨some 10,.mov (.tmp 57),none⟩] [(0,1),(0,2),(0,4),(1,4),(2,4),(3,4),(0,5),(1,5),(2,5),(3,5),(4,5),(0,6),(1,6),(2,6),(3,6),(4,6),(10,11),(11,12)])
   (.seq
   (.regd [9] [⟨some 58,.fad 0 (.tmp 3),none⟩,
    ⟨some 59,.ld false 1 (.tmp 58),none⟩,
    ⟨some 60,.call 40 [(.tmp 59)],none⟩,
    ⟨some 61,.fad 1 (.tmp 3),none⟩,
    ⟨some 62,.ld false 1 (.tmp 61),none⟩,
    ⟨some 63,.call 41 [(.tmp 62)],none⟩,
    ⟨some 64,.bsl 9 3 1 2 [(.int .i64 0),(.int .i64 0)] [(0,(.tmp 60)),(1,(.tmp 63))],none⟩,
    ⟨some 65,.call 19 [(.tmp 64)],none⟩,
    ⟨some 11,.mov (.tmp 65),none⟩] [(0,3),(1,3),(2,3),(0,4),(1,4),(2,4)])
   (.seq
    (.seq
    (.reg [] [⟨some 66,.mov (.tmp 11),none⟩,
     ⟨some 67,.cmp .eql (.tmp 66) (.cst (.d (.int .i64 0))),none⟩])
    (.cond (.tmp 67)
     (.regd [10] [⟨some 68,.fad 0 (.tmp 3),none⟩,
      ⟨some 69,.ld false 1 (.tmp 68),none⟩,
      ⟨some 70,.mov (.tmp 1),none⟩,
      ⟨some 71,.call 42 [(.tmp 69),(.tmp 70)],none⟩,
      ⟨some 72,.fad 0 (.tmp 3),none⟩,
      ⟨some 73,.ld false 1 (.tmp 72),none⟩,
      ⟨some 74,.fad 1 (.tmp 5),none⟩,
      ⟨some 75,.ld false 1 (.tmp 74),none⟩,
      ⟨some 76,.call 43 [(.tmp 73),(.tmp 75)],none⟩,
      ⟨some 77,.bsl 10 3 1 2 [(.int .i64 0),(.int .i64 0)] [(0,(.tmp 71)),(1,(.tmp 76))],none⟩,
      ⟨some 78,.call 19 [(.tmp 77)],none⟩,
      ⟨some 11,.mov (.tmp 78),none⟩] [(0,2),(1,2),(0,4),(1,4),(2,4),(3,4),(0,5),(1,5),(2,5),(3,5),(0,6),(1,6),(2,6),(3,6),(4,6),(5,6),(0,7),(1,7),(2,7),(3,7),(4,7),(5,7)])
     .skip))
    (.seq
    (.reg [] [⟨some 79,.fad 0 (.tmp 5),none⟩,
     ⟨some 80,.ld false 1 (.tmp 79),none⟩,
     ⟨some 81,.call 44 [(.tmp 80)],none⟩,
     ⟨some 12,.mov (.tmp 81),none⟩])
    (.seq
     (.seq
     (.reg [] [⟨some 82,.mov (.tmp 12),none⟩,
      ⟨some 83,.cmp .eql (.tmp 82) (.cst (.d (.int .i64 0))),none⟩])
     (.cond (.tmp 83)
      (.reg [] [⟨some 84,.fad 0 (.tmp 5),none⟩,
       ⟨some 85,.ld false 1 (.tmp 84),none⟩,
       ⟨some 86,.len (.tmp 85),none⟩,
       ⟨some 87,.fad 1 (.tmp 5),none⟩,
       ⟨some 88,.ld false 1 (.tmp 87),none⟩,
       ⟨some 89,.call 43 [(.tmp 86),(.tmp 88)],none⟩,
       ⟨some 12,.mov (.tmp 89),none⟩])
      .skip))
     (.seq
     (.reg [] [⟨some 13,.mov (.cst (.d (.bool false))),none⟩])
     (.seq
      (.reg [] [⟨some 14,.mov (.cst (.d (.int .i64 0))),none⟩])
      (.seq
      (.seq
       (.reg [] [⟨some 90,.mov (.tmp 11),none⟩,
        ⟨some 91,.cmp .eql (.tmp 90) (.cst (.d (.int .i64 0))),none⟩])
       (.cond (.tmp 91)
       (.reg [] [⟨some 92,.fad 0 (.tmp 3),none⟩,
        ⟨some 93,.ld false 1 (.tmp 92),none⟩,
        ⟨some 94,.fad 1 (.tmp 3),none⟩,
        ⟨some 95,.ld false 1 (.tmp 94),none⟩,
        ⟨some 96,.mov (.tmp 1),none⟩,
        ⟨some 97,.fad 1 (.tmp 5),none⟩,
        ⟨some 98,.ld false 1 (.tmp 97),none⟩,
        ⟨some 99,.call 45 [(.tmp 93),(.tmp 95),(.tmp 96),(.tmp 98)],none⟩,
        ⟨some 13,.mov (.tmp 99),none⟩])
       .skip))
      (.seq
       (.seq
       (.reg [] [⟨some 100,.mov (.tmp 12),none⟩,
        ⟨some 101,.cmp .eql (.tmp 100) (.cst (.d (.int .i64 0))),none⟩])
       (.cond (.tmp 101)
        (.reg [] [⟨some 102,.fad 0 (.tmp 5),none⟩,
         ⟨some 103,.ld false 1 (.tmp 102),none⟩,
         ⟨some 104,.fad 1 (.tmp 5),none⟩,
         ⟨some 105,.ld false 1 (.tmp 104),none⟩,
         ⟨some 106,.call 46 [(.tmp 103),(.tmp 105)],none⟩,
         ⟨some 14,.mov (.tmp 106),none⟩])
        .skip))
       (.seq
       (.reg [] [⟨some 107,.mov (.tmp 7),none⟩,
        ⟨some 108,.mov (.tmp 13),none⟩,
        ⟨some 109,.beq false (.tmp 107) (.tmp 108),none⟩,
        ⟨some 110,.mov (.tmp 109),none⟩,
        ⟨some 111,.mov (.tmp 8),some (110,true)⟩,
        ⟨some 112,.mov (.tmp 11),some (110,true)⟩,
        ⟨some 113,.cmp .eql (.tmp 111) (.tmp 112),some (110,true)⟩,
        ⟨some 114,.pick (.tmp 110) (.tmp 113) (.cst (.d (.bool false))),none⟩,
        ⟨some 115,.mov (.tmp 114),none⟩,
        ⟨some 116,.mov (.tmp 9),some (115,true)⟩,
        ⟨some 117,.mov (.tmp 14),some (115,true)⟩,
        ⟨some 118,.cmp .eql (.tmp 116) (.tmp 117),some (115,true)⟩,
        ⟨some 119,.pick (.tmp 115) (.tmp 118) (.cst (.d (.bool false))),none⟩,
        ⟨some 120,.mov (.tmp 119),none⟩,
        ⟨some 121,.mov (.tmp 10),some (120,true)⟩,
        ⟨some 122,.mov (.tmp 12),some (120,true)⟩,
        ⟨some 123,.cmp .eql (.tmp 121) (.tmp 122),some (120,true)⟩,
        ⟨some 124,.pick (.tmp 120) (.tmp 123) (.cst (.d (.bool false))),none⟩,
        ⟨some 125,.mov (.tmp 124),none⟩,
        ⟨some 126,.call 13 [],some (125,true)⟩,
        ⟨some 127,.pick (.tmp 125) (.tmp 126) (.cst (.d (.bool false))),none⟩,
        ⟨some 6,.mov (.tmp 127),none⟩])
       .ret)))))))))))))⟩
theorem firstOf2 (a b:Int):firstOf [a,b]=bif a != 0 then a else b:=by
 show (bif a != 0 then a else bif b != 0 then b else 0)=_
 cases h:(b != 0)
 ·rw [show b=0 by simpa using h]; rfl
 ·rfl
theorem perm_cases (h k : Int) (asked : List (List Int)) (s : List Int) :
  (firstOf [within3 h 1 5,within3 k 1 5]≠0∧permE h k asked s=firstOf [within3 h 1 5,within3 k 1 5]) ∨
  (firstOf [within3 h 1 5,within3 k 1 5]=0∧permE h k asked s=firstOf [setsE h asked,setE h s]∧(1≤h∧h≤5)):=by
 have hA:permA h k asked=bif firstOf [within3 h 1 5,within3 k 1 5] != 0 then firstOf [within3 h 1 5,within3 k 1 5] else bif decide ((16:Int) < (asked.length:Int)) then 5 else 0:=by
  unfold permA
  generalize within3 h 1 5=a
  generalize within3 k 1 5=b
  generalize (bif decide ((16:Int) < (asked.length:Int)) then 5 else 0:Int)=c
  show (bif a != 0 then a else bif b != 0 then b else bif c != 0 then c else 0)=_
  rw [firstOf2]
  cases h1:(a != 0) with
  | true=>show a=bif (a != 0) then a else c; rw [h1]; rfl
  | false =>
   show (bif b != 0 then b else bif c != 0 then c else 0)=bif b != 0 then b else c
   cases h2:(b != 0) with
   | true=>rfl
   | false =>
    cases h3:(c != 0) with
    | true=>rfl
    | false =>
     have h4:c=0:=by simpa using h3
     exact h4.symm
 by_cases h0:firstOf [within3 h 1 5,within3 k 1 5]=0
 ·refine .inr ⟨h0,?_,within_ok (firstOf_zero h0 _ (by simp))⟩
  rw [h0] at hA
  have hA:permA h k asked=bif decide ((16:Int) < (asked.length:Int)) then 5 else 0:=hA
  unfold permE
  rw [hA,firstOf2]
  unfold setsE permB
  rw [firstOf2]
  cases decide ((16:Int) < (asked.length:Int)) <;> rfl
 ·refine .inl ⟨h0,?_⟩
  rw [nz_t h0] at hA
  have hA:permA h k asked=firstOf [within3 h 1 5,within3 k 1 5]:=hA
  rw [show permE h k asked s=permA h k asked from orE_a (by rw [hA]; exact h0),hA]
theorem perm_valid {h k:Int} {asked:List (List Int)} {s:List Int} (e:permE h k asked s=0):(∀ o∈asked,setE h o=0)∧setE h s=0:=by
 have h1:permA h k asked=0:=by
  by_cases h0:permA h k asked=0
  ·exact h0
  ·rw [show permE h k asked s=permA h k asked from orE_a h0] at e; exact e
 rw [show permE h k asked s=permB h asked s from orE_b h1] at e
 have h2:=firstOf_zero e
 exact ⟨fun o ho=>firstOf_zero (h2 _ (by simp:firstOf (asked.map (setE h))∈_)) _ (List.mem_map.2 ⟨o,ho,rfl⟩),h2 _ (by simp)⟩
theorem perm_ref {h:Nat} {k:Int} {asked:List (List Int)} {s:List Int} (e:permE h k asked s=0):permP k asked s=permR h k asked s :=
 perm_eq (setE_asc (perm_valid e).2).2 fun o ho=>(setE_asc ((perm_valid e).1 o ho)).2
theorem sum_cases (u s:List Int):(usesE u≠0∧sumE u s=usesE u)∨(usesE u=0∧sumE u s=setE (u.length:Int) s):=by
 unfold usesE sumE sumB
 rw [firstOf2]
 by_cases h0:sumA u=0
 ·rw [orE_b h0,orE_b h0]
  by_cases h1:firstOf (u.map fun x=>within3 x 0 7)=0
  ·exact .inr ⟨h1,orE_b h1⟩
  ·exact .inl ⟨h1,orE_a h1⟩
 ·rw [orE_a h0,orE_a h0]
  exact .inl ⟨h0,rfl⟩
theorem sum_valid {u s:List Int} (e:sumE u s=0):(∀ x∈u,0≤x∧x≤7)∧∀ i∈s,0≤i∧i < (u.length:Int):=by
 have h1:sumA u=0:=by
  by_cases h0:sumA u=0
  ·exact h0
  ·rw [show sumE u s=sumA u from orE_a h0] at e; exact e
 rw [show sumE u s=sumB u s from orE_b h1] at e
 exact ⟨(sumB_ok e).1,asc_rng (sumB_ok e).2⟩
theorem law5 (m k mo wi : Int) (asked : List (List Int)) (u s : List Int) (ha : asked.length ≤ 1048576) (hb : ∀ o ∈ asked, o.length ≤ 1048576) (hu : u.length ≤ 1048576) (hs : s.length ≤ 1048576) :
  CallDet Tryz.prog 5 [.d (.agg [.int .i64 m,.int .i64 k,.int .i64 mo,.int .i64 wi]),.d (.slice 1 (iss asked)),.d (.agg [.slice 1 (ints u),.slice 1 (ints s)])] [.bool true]:=by
 have hlu:=ints_len u
 have hls:=ints_len s
 have c36_:=c36 asked ha
 have c36_s:CallDet Tryz.prog 36 [.d (.slice 1 [.slice 1 (ints s)])] [.bool (shortSets [s])]:=c36 [s] (by simp)
 have c38_:=c38 asked ha hb
 have c19_a:CallDet Tryz.prog 19 [.d (.slice 1 [.int .i64 (within3 m 1 5),.int .i64 (within3 k 1 5)])] [.int .i64 (firstOf [within3 m 1 5,within3 k 1 5])]:=c19 [within3 m 1 5,within3 k 1 5] (by simp)
 have c19_b:CallDet Tryz.prog 19 [.d (.slice 1 [.int .i64 (setsE m asked),.int .i64 (setE m s)])] [.int .i64 (firstOf [setsE m asked,setE m s])]:=c19 [setsE m asked,setE m s] (by simp)
 have c42_:=c42 m asked ha hb
 have c43_:=c43 m s hs
 have c44_:=c44 u hu
 have c43_u:CallDet Tryz.prog 43 [.d (.int .i64 ((ints u).length:Int)),.d (.slice 1 (ints s))] [.int .i64 (setE (u.length:Int) s)]:=by rw [hlu]; exact c43 _ s hs
 have hb1:(0+(ints s).length) * 8≤2 ^ 47:=by omega
 have hb2:0+(ints s).length≤2 ^ 47:=by omega
 have hb3:(0+(ints u).length) * 8≤2 ^ 47:=by omega
 have hb4:0+(ints u).length≤2 ^ 47:=by omega
 have c37_:=c37 m k asked s ha hs hb
 have c39_:=c39 u s hu hs
 have hP:=perm_cases m k asked s
 have hS:=sum_cases u s
 have hR:permE m k asked s=0→1≤m∧m≤5→CallDet Tryz.prog 45 [.d (.int .i64 m),.d (.int .i64 k),.d (.slice 1 (iss asked)),.d (.slice 1 (ints s))] [.bool (permP k asked s)]:=fun h0 hm=>by
  have e:((m.toNat:Nat):Int)=m:=by omega
  have h1:=c45 m.toNat k asked s (by omega) ha hs hb
  rw [e] at h1
  have h0':permE (m.toNat:Nat) k asked s=0:=by rw [e]; exact h0
  rw [perm_ref h0']
  exact h1
 have hT:sumE u s=0→CallDet Tryz.prog 46 [.d (.slice 1 (ints u)),.d (.slice 1 (ints s))] [.int .i64 (sumL (uAt u) s)]:=fun h0=>c46 u s hu hs (sum_valid h0).1 (sum_valid h0).2
 generalize firstOf [within3 m 1 5,within3 k 1 5]=ea at *
 generalize firstOf [setsE m asked,setE m s]=eb at *
 generalize permE m k asked s=E1 at *
 generalize permP k asked s=pp at *
 generalize sumE u s=E2 at *
 generalize sumL (uAt u) s=sv at *
 generalize usesE u=va at *
 generalize setE (u.length:Int) s=vb at *
 generalize setE m s=w1 at *
 generalize setsE m asked=w2 at *
 generalize shortSets asked=sh1 at *
 generalize shortSets [s]=sh2 at *
 rcases hP with ⟨hp1,hp2⟩ | ⟨hp1,hp2,hp3⟩
 ·have n1:(ea==0)=false:=beq_eq_false_iff_ne.2 hp1
  have n2:(ea==ea)=true:=beq_self_eq_true _
  subst hp2
  rw [nz_t hp1] at c37_
  rcases hS with ⟨hs1,hs2⟩ | ⟨hs1,hs2⟩
  ·have m1:(va==0)=false:=beq_eq_false_iff_ne.2 hs1
   have m2:(va==va)=true:=beq_self_eq_true _
   subst hs2
   rw [nz_t hs1] at c39_
   refine call_of_vc (x:=jr5) (by kernel_rfl) rfl ?_
   refine ca c36_ ?_
   refine b_intro (fun t1=>?_) (fun t1=>?_)
   refine sd ?_
   refine sd ?_
   refine ca (c13) ?_
   exact rfl
   refine sd ?_
   refine sd ?_
   refine ca c36_s ?_
   refine b_intro (fun t2=>?_) (fun t2=>?_)
   replace t2:(!sh2)=true:=t2
   refine sd ?_
   refine ca (c13) ?_
   exact rfl
   replace t2:(!sh2)=false:=t2
   refine sd ?_
   refine b_lt (fun t3=>?_) (fun t3=>?_)
   refine ca (c13) ?_
   exact rfl
   refine ca c38_ ?_
   refine sd ?_
   refine sd ?_
   refine an ?_ ?_
   refine an ?_ ?_
   exact rfl
   refine an ?_ ?_
   exact rfl
   refine an ?_ ?_
   exact rfl
   refine an ?_ ?_
   assumption
   assumption
   refine sd ?_
   refine ca c37_ ?_
   refine sd ?_
   refine sd ?_
   refine an ?_ ?_
   refine an ?_ ?_
   exact rfl
   refine an ?_ ?_
   exact rfl
   refine an ?_ ?_
   exact rfl
   refine an ?_ ?_
   assumption
   assumption
   refine sd ?_
   refine sd ?_
   refine an ?_ ?_
   refine an ?_ ?_
   exact rfl
   refine an ?_ ?_
   exact rfl
   refine an ?_ ?_
   exact rfl
   refine an ?_ ?_
   assumption
   assumption
   refine sd ?_
   refine sd ?_
   refine ca c39_ ?_
   refine ca (c40 _) ?_
   refine ca (c41 _) ?_
   refine sd ?_
   refine sd ?_
   refine ca c19_a ?_
   refine sd ?_
   refine b_f n1 ?_
   refine ca c44_ ?_
   refine sd ?_
   refine b_f m1 ?_
   refine sd ?_
   refine b_f n1 ?_
   refine sd ?_
   refine b_f m1 ?_
   refine sd ?_
   refine b_t n2 ?_
   refine sd ?_
   refine sd ?_
   refine b_t m2 ?_
   refine ca (c13) ?_
   exact rfl
  ·by_cases hy:vb=0
   ·have m1:(va==0)=true:=beq_iff_eq.2 hs1
    have m3:(vb==0)=true:=beq_iff_eq.2 hy
    have m2:(vb==vb)=true:=beq_self_eq_true _
    have m5:(sv==sv)=true:=beq_self_eq_true _
    have c46_:=hT (hs2.trans hy)
    subst hs2
    rw [nz_f hy] at c39_
    refine call_of_vc (x:=jr5) (by kernel_rfl) rfl ?_
    refine ca c36_ ?_
    refine b_intro (fun t1=>?_) (fun t1=>?_)
    refine sd ?_
    refine sd ?_
    refine ca (c13) ?_
    exact rfl
    refine sd ?_
    refine sd ?_
    refine ca c36_s ?_
    refine b_intro (fun t2=>?_) (fun t2=>?_)
    replace t2:(!sh2)=true:=t2
    refine sd ?_
    refine ca (c13) ?_
    exact rfl
    replace t2:(!sh2)=false:=t2
    refine sd ?_
    refine b_lt (fun t3=>?_) (fun t3=>?_)
    refine ca (c13) ?_
    exact rfl
    refine ca c38_ ?_
    refine sd ?_
    refine sd ?_
    refine an ?_ ?_
    refine an ?_ ?_
    exact rfl
    refine an ?_ ?_
    exact rfl
    refine an ?_ ?_
    exact rfl
    refine an ?_ ?_
    assumption
    assumption
    refine sd ?_
    refine ca c37_ ?_
    refine sd ?_
    refine sd ?_
    refine an ?_ ?_
    refine an ?_ ?_
    exact rfl
    refine an ?_ ?_
    exact rfl
    refine an ?_ ?_
    exact rfl
    refine an ?_ ?_
    assumption
    assumption
    refine sd ?_
    refine sd ?_
    refine an ?_ ?_
    refine an ?_ ?_
    exact rfl
    refine an ?_ ?_
    exact rfl
    refine an ?_ ?_
    exact rfl
    refine an ?_ ?_
    assumption
    assumption
    refine sd ?_
    refine sd ?_
    refine ca c39_ ?_
    refine ca (c40 _) ?_
    refine ca (c41 _) ?_
    refine sd ?_
    refine sd ?_
    refine ca c19_a ?_
    refine sd ?_
    refine b_f n1 ?_
    refine ca c44_ ?_
    refine sd ?_
    refine b_t m1 ?_
    refine ca c43_u ?_
    refine sd ?_
    refine b_f n1 ?_
    refine sd ?_
    refine b_t m3 ?_
    refine ca c46_ ?_
    refine sd ?_
    refine b_t n2 ?_
    refine sd ?_
    refine b_t m5 ?_
    refine sd ?_
    refine b_t m2 ?_
    refine ca (c13) ?_
    exact rfl
   ·have m1:(va==0)=true:=beq_iff_eq.2 hs1
    have m3:(vb==0)=false:=beq_eq_false_iff_ne.2 hy
    have m2:(vb==vb)=true:=beq_self_eq_true _
    subst hs2
    rw [nz_t hy] at c39_
    refine call_of_vc (x:=jr5) (by kernel_rfl) rfl ?_
    refine ca c36_ ?_
    refine b_intro (fun t1=>?_) (fun t1=>?_)
    refine sd ?_
    refine sd ?_
    refine ca (c13) ?_
    exact rfl
    refine sd ?_
    refine sd ?_
    refine ca c36_s ?_
    refine b_intro (fun t2=>?_) (fun t2=>?_)
    replace t2:(!sh2)=true:=t2
    refine sd ?_
    refine ca (c13) ?_
    exact rfl
    replace t2:(!sh2)=false:=t2
    refine sd ?_
    refine b_lt (fun t3=>?_) (fun t3=>?_)
    refine ca (c13) ?_
    exact rfl
    refine ca c38_ ?_
    refine sd ?_
    refine sd ?_
    refine an ?_ ?_
    refine an ?_ ?_
    exact rfl
    refine an ?_ ?_
    exact rfl
    refine an ?_ ?_
    exact rfl
    refine an ?_ ?_
    assumption
    assumption
    refine sd ?_
    refine ca c37_ ?_
    refine sd ?_
    refine sd ?_
    refine an ?_ ?_
    refine an ?_ ?_
    exact rfl
    refine an ?_ ?_
    exact rfl
    refine an ?_ ?_
    exact rfl
    refine an ?_ ?_
    assumption
    assumption
    refine sd ?_
    refine sd ?_
    refine an ?_ ?_
    refine an ?_ ?_
    exact rfl
    refine an ?_ ?_
    exact rfl
    refine an ?_ ?_
    exact rfl
    refine an ?_ ?_
    assumption
    assumption
    refine sd ?_
    refine sd ?_
    refine ca c39_ ?_
    refine ca (c40 _) ?_
    refine ca (c41 _) ?_
    refine sd ?_
    refine sd ?_
    refine ca c19_a ?_
    refine sd ?_
    refine b_f n1 ?_
    refine ca c44_ ?_
    refine sd ?_
    refine b_t m1 ?_
    refine ca c43_u ?_
    refine sd ?_
    refine b_f n1 ?_
    refine sd ?_
    refine b_f m3 ?_
    refine sd ?_
    refine b_t n2 ?_
    refine sd ?_
    refine sd ?_
    refine b_t m2 ?_
    refine ca (c13) ?_
    exact rfl
 ·by_cases hz:eb=0
  ·have n1:(ea==0)=true:=beq_iff_eq.2 hp1
   have n3:(eb==0)=true:=beq_iff_eq.2 hz
   have n2:(eb==eb)=true:=beq_self_eq_true _
   have n5:(pp==pp)=true:=beq_self_eq_true _
   have c45_:=hR (hp2.trans hz) hp3
   subst hp2
   rw [nz_f hz] at c37_
   rcases hS with ⟨hs1,hs2⟩ | ⟨hs1,hs2⟩
   ·have m1:(va==0)=false:=beq_eq_false_iff_ne.2 hs1
    have m2:(va==va)=true:=beq_self_eq_true _
    subst hs2
    rw [nz_t hs1] at c39_
    refine call_of_vc (x:=jr5) (by kernel_rfl) rfl ?_
    refine ca c36_ ?_
    refine b_intro (fun t1=>?_) (fun t1=>?_)
    refine sd ?_
    refine sd ?_
    refine ca (c13) ?_
    exact rfl
    refine sd ?_
    refine sd ?_
    refine ca c36_s ?_
    refine b_intro (fun t2=>?_) (fun t2=>?_)
    replace t2:(!sh2)=true:=t2
    refine sd ?_
    refine ca (c13) ?_
    exact rfl
    replace t2:(!sh2)=false:=t2
    refine sd ?_
    refine b_lt (fun t3=>?_) (fun t3=>?_)
    refine ca (c13) ?_
    exact rfl
    refine ca c38_ ?_
    refine sd ?_
    refine sd ?_
    refine an ?_ ?_
    refine an ?_ ?_
    exact rfl
    refine an ?_ ?_
    exact rfl
    refine an ?_ ?_
    exact rfl
    refine an ?_ ?_
    assumption
    assumption
    refine sd ?_
    refine ca c37_ ?_
    refine sd ?_
    refine sd ?_
    refine an ?_ ?_
    refine an ?_ ?_
    exact rfl
    refine an ?_ ?_
    exact rfl
    refine an ?_ ?_
    exact rfl
    refine an ?_ ?_
    assumption
    assumption
    refine sd ?_
    refine sd ?_
    refine an ?_ ?_
    refine an ?_ ?_
    exact rfl
    refine an ?_ ?_
    exact rfl
    refine an ?_ ?_
    exact rfl
    refine an ?_ ?_
    assumption
    assumption
    refine sd ?_
    refine sd ?_
    refine ca c39_ ?_
    refine ca (c40 _) ?_
    refine ca (c41 _) ?_
    refine sd ?_
    refine sd ?_
    refine ca c19_a ?_
    refine sd ?_
    refine b_t n1 ?_
    refine ca c42_ ?_
    refine ca c43_ ?_
    refine sd ?_
    refine sd ?_
    refine ca c19_b ?_
    refine ca c44_ ?_
    refine sd ?_
    refine b_f m1 ?_
    refine sd ?_
    refine b_t n3 ?_
    refine ca c45_ ?_
    refine sd ?_
    refine b_f m1 ?_
    refine b_t n5 ?_
    refine sd ?_
    refine b_t n2 ?_
    refine sd ?_
    refine sd ?_
    refine b_t m2 ?_
    refine ca (c13) ?_
    exact rfl
   ·by_cases hy:vb=0
    ·have m1:(va==0)=true:=beq_iff_eq.2 hs1
     have m3:(vb==0)=true:=beq_iff_eq.2 hy
     have m2:(vb==vb)=true:=beq_self_eq_true _
     have m5:(sv==sv)=true:=beq_self_eq_true _
     have c46_:=hT (hs2.trans hy)
     subst hs2
     rw [nz_f hy] at c39_
     refine call_of_vc (x:=jr5) (by kernel_rfl) rfl ?_
     refine ca c36_ ?_
     refine b_intro (fun t1=>?_) (fun t1=>?_)
     refine sd ?_
     refine sd ?_
     refine ca (c13) ?_
     exact rfl
     refine sd ?_
     refine sd ?_
     refine ca c36_s ?_
     refine b_intro (fun t2=>?_) (fun t2=>?_)
     replace t2:(!sh2)=true:=t2
     refine sd ?_
     refine ca (c13) ?_
     exact rfl
     replace t2:(!sh2)=false:=t2
     refine sd ?_
     refine b_lt (fun t3=>?_) (fun t3=>?_)
     refine ca (c13) ?_
     exact rfl
     refine ca c38_ ?_
     refine sd ?_
     refine sd ?_
     refine an ?_ ?_
     refine an ?_ ?_
     exact rfl
     refine an ?_ ?_
     exact rfl
     refine an ?_ ?_
     exact rfl
     refine an ?_ ?_
     assumption
     assumption
     refine sd ?_
     refine ca c37_ ?_
     refine sd ?_
     refine sd ?_
     refine an ?_ ?_
     refine an ?_ ?_
     exact rfl
     refine an ?_ ?_
     exact rfl
     refine an ?_ ?_
     exact rfl
     refine an ?_ ?_
     assumption
     assumption
     refine sd ?_
     refine sd ?_
     refine an ?_ ?_
     refine an ?_ ?_
     exact rfl
     refine an ?_ ?_
     exact rfl
     refine an ?_ ?_
     exact rfl
     refine an ?_ ?_
     assumption
     assumption
     refine sd ?_
     refine sd ?_
     refine ca c39_ ?_
     refine ca (c40 _) ?_
     refine ca (c41 _) ?_
     refine sd ?_
     refine sd ?_
     refine ca c19_a ?_
     refine sd ?_
     refine b_t n1 ?_
     refine ca c42_ ?_
     refine ca c43_ ?_
     refine sd ?_
     refine sd ?_
     refine ca c19_b ?_
     refine ca c44_ ?_
     refine sd ?_
     refine b_t m1 ?_
     refine ca c43_u ?_
     refine sd ?_
     refine b_t n3 ?_
     refine ca c45_ ?_
     refine sd ?_
     refine b_t m3 ?_
     refine ca c46_ ?_
     refine b_t n5 ?_
     refine sd ?_
     refine b_t n2 ?_
     refine sd ?_
     refine b_t m5 ?_
     refine sd ?_
     refine b_t m2 ?_
     refine ca (c13) ?_
     exact rfl
    ·have m1:(va==0)=true:=beq_iff_eq.2 hs1
     have m3:(vb==0)=false:=beq_eq_false_iff_ne.2 hy
     have m2:(vb==vb)=true:=beq_self_eq_true _
     subst hs2
     rw [nz_t hy] at c39_
     refine call_of_vc (x:=jr5) (by kernel_rfl) rfl ?_
     refine ca c36_ ?_
     refine b_intro (fun t1=>?_) (fun t1=>?_)
     refine sd ?_
     refine sd ?_
     refine ca (c13) ?_
     exact rfl
     refine sd ?_
     refine sd ?_
     refine ca c36_s ?_
     refine b_intro (fun t2=>?_) (fun t2=>?_)
     replace t2:(!sh2)=true:=t2
     refine sd ?_
     refine ca (c13) ?_
     exact rfl
     replace t2:(!sh2)=false:=t2
     refine sd ?_
     refine b_lt (fun t3=>?_) (fun t3=>?_)
     refine ca (c13) ?_
     exact rfl
     refine ca c38_ ?_
     refine sd ?_
     refine sd ?_
     refine an ?_ ?_
     refine an ?_ ?_
     exact rfl
     refine an ?_ ?_
     exact rfl
     refine an ?_ ?_
     exact rfl
     refine an ?_ ?_
     assumption
     assumption
     refine sd ?_
     refine ca c37_ ?_
     refine sd ?_
     refine sd ?_
     refine an ?_ ?_
     refine an ?_ ?_
     exact rfl
     refine an ?_ ?_
     exact rfl
     refine an ?_ ?_
     exact rfl
     refine an ?_ ?_
     assumption
     assumption
     refine sd ?_
     refine sd ?_
     refine an ?_ ?_
     refine an ?_ ?_
     exact rfl
     refine an ?_ ?_
     exact rfl
     refine an ?_ ?_
     exact rfl
     refine an ?_ ?_
     assumption
     assumption
     refine sd ?_
     refine sd ?_
     refine ca c39_ ?_
     refine ca (c40 _) ?_
     refine ca (c41 _) ?_
     refine sd ?_
     refine sd ?_
     refine ca c19_a ?_
     refine sd ?_
     refine b_t n1 ?_
     refine ca c42_ ?_
     refine ca c43_ ?_
     refine sd ?_
     refine sd ?_
     refine ca c19_b ?_
     refine ca c44_ ?_
     refine sd ?_
     refine b_t m1 ?_
     refine ca c43_u ?_
     refine sd ?_
     refine b_t n3 ?_
     refine ca c45_ ?_
     refine sd ?_
     refine b_f m3 ?_
     refine b_t n5 ?_
     refine sd ?_
     refine b_t n2 ?_
     refine sd ?_
     refine sd ?_
     refine b_t m2 ?_
     refine ca (c13) ?_
     exact rfl
  ·have n1:(ea==0)=true:=beq_iff_eq.2 hp1
   have n3:(eb==0)=false:=beq_eq_false_iff_ne.2 hz
   have n2:(eb==eb)=true:=beq_self_eq_true _
   subst hp2
   rw [nz_t hz] at c37_
   rcases hS with ⟨hs1,hs2⟩ | ⟨hs1,hs2⟩
   ·have m1:(va==0)=false:=beq_eq_false_iff_ne.2 hs1
    have m2:(va==va)=true:=beq_self_eq_true _
    subst hs2
    rw [nz_t hs1] at c39_
    refine call_of_vc (x:=jr5) (by kernel_rfl) rfl ?_
    refine ca c36_ ?_
    refine b_intro (fun t1=>?_) (fun t1=>?_)
    refine sd ?_
    refine sd ?_
    refine ca (c13) ?_
    exact rfl
    refine sd ?_
    refine sd ?_
    refine ca c36_s ?_
    refine b_intro (fun t2=>?_) (fun t2=>?_)
    replace t2:(!sh2)=true:=t2
    refine sd ?_
    refine ca (c13) ?_
    exact rfl
    replace t2:(!sh2)=false:=t2
    refine sd ?_
    refine b_lt (fun t3=>?_) (fun t3=>?_)
    refine ca (c13) ?_
    exact rfl
    refine ca c38_ ?_
    refine sd ?_
    refine sd ?_
    refine an ?_ ?_
    refine an ?_ ?_
    exact rfl
    refine an ?_ ?_
    exact rfl
    refine an ?_ ?_
    exact rfl
    refine an ?_ ?_
    assumption
    assumption
    refine sd ?_
    refine ca c37_ ?_
    refine sd ?_
    refine sd ?_
    refine an ?_ ?_
    refine an ?_ ?_
    exact rfl
    refine an ?_ ?_
    exact rfl
    refine an ?_ ?_
    exact rfl
    refine an ?_ ?_
    assumption
    assumption
    refine sd ?_
    refine sd ?_
    refine an ?_ ?_
    refine an ?_ ?_
    exact rfl
    refine an ?_ ?_
    exact rfl
    refine an ?_ ?_
    exact rfl
    refine an ?_ ?_
    assumption
    assumption
    refine sd ?_
    refine sd ?_
    refine ca c39_ ?_
    refine ca (c40 _) ?_
    refine ca (c41 _) ?_
    refine sd ?_
    refine sd ?_
    refine ca c19_a ?_
    refine sd ?_
    refine b_t n1 ?_
    refine ca c42_ ?_
    refine ca c43_ ?_
    refine sd ?_
    refine sd ?_
    refine ca c19_b ?_
    refine ca c44_ ?_
    refine sd ?_
    refine b_f m1 ?_
    refine sd ?_
    refine b_f n3 ?_
    refine sd ?_
    refine b_f m1 ?_
    refine sd ?_
    refine b_t n2 ?_
    refine sd ?_
    refine sd ?_
    refine b_t m2 ?_
    refine ca (c13) ?_
    exact rfl
   ·by_cases hy:vb=0
    ·have m1:(va==0)=true:=beq_iff_eq.2 hs1
     have m3:(vb==0)=true:=beq_iff_eq.2 hy
     have m2:(vb==vb)=true:=beq_self_eq_true _
     have m5:(sv==sv)=true:=beq_self_eq_true _
     have c46_:=hT (hs2.trans hy)
     subst hs2
     rw [nz_f hy] at c39_
     refine call_of_vc (x:=jr5) (by kernel_rfl) rfl ?_
     refine ca c36_ ?_
     refine b_intro (fun t1=>?_) (fun t1=>?_)
     refine sd ?_
     refine sd ?_
     refine ca (c13) ?_
     exact rfl
     refine sd ?_
     refine sd ?_
     refine ca c36_s ?_
     refine b_intro (fun t2=>?_) (fun t2=>?_)
     replace t2:(!sh2)=true:=t2
     refine sd ?_
     refine ca (c13) ?_
     exact rfl
     replace t2:(!sh2)=false:=t2
     refine sd ?_
     refine b_lt (fun t3=>?_) (fun t3=>?_)
     refine ca (c13) ?_
     exact rfl
     refine ca c38_ ?_
     refine sd ?_
     refine sd ?_
     refine an ?_ ?_
     refine an ?_ ?_
     exact rfl
     refine an ?_ ?_
     exact rfl
     refine an ?_ ?_
     exact rfl
     refine an ?_ ?_
     assumption
     assumption
     refine sd ?_
     refine ca c37_ ?_
     refine sd ?_
     refine sd ?_
     refine an ?_ ?_
     refine an ?_ ?_
     exact rfl
     refine an ?_ ?_
     exact rfl
     refine an ?_ ?_
     exact rfl
     refine an ?_ ?_
     assumption
     assumption
     refine sd ?_
     refine sd ?_
     refine an ?_ ?_
     refine an ?_ ?_
     exact rfl
     refine an ?_ ?_
     exact rfl
     refine an ?_ ?_
     exact rfl
     refine an ?_ ?_
     assumption
     assumption
     refine sd ?_
     refine sd ?_
     refine ca c39_ ?_
     refine ca (c40 _) ?_
     refine ca (c41 _) ?_
     refine sd ?_
     refine sd ?_
     refine ca c19_a ?_
     refine sd ?_
     refine b_t n1 ?_
     refine ca c42_ ?_
     refine ca c43_ ?_
     refine sd ?_
     refine sd ?_
     refine ca c19_b ?_
     refine ca c44_ ?_
     refine sd ?_
     refine b_t m1 ?_
     refine ca c43_u ?_
     refine sd ?_
     refine b_f n3 ?_
     refine sd ?_
     refine b_t m3 ?_
     refine ca c46_ ?_
     refine sd ?_
     refine b_t n2 ?_
     refine sd ?_
     refine b_t m5 ?_
     refine sd ?_
     refine b_t m2 ?_
     refine ca (c13) ?_
     exact rfl
    ·have m1:(va==0)=true:=beq_iff_eq.2 hs1
     have m3:(vb==0)=false:=beq_eq_false_iff_ne.2 hy
     have m2:(vb==vb)=true:=beq_self_eq_true _
     subst hs2
     rw [nz_t hy] at c39_
     refine call_of_vc (x:=jr5) (by kernel_rfl) rfl ?_
     refine ca c36_ ?_
     refine b_intro (fun t1=>?_) (fun t1=>?_)
     refine sd ?_
     refine sd ?_
     refine ca (c13) ?_
     exact rfl
     refine sd ?_
     refine sd ?_
     refine ca c36_s ?_
     refine b_intro (fun t2=>?_) (fun t2=>?_)
     replace t2:(!sh2)=true:=t2
     refine sd ?_
     refine ca (c13) ?_
     exact rfl
     replace t2:(!sh2)=false:=t2
     refine sd ?_
     refine b_lt (fun t3=>?_) (fun t3=>?_)
     refine ca (c13) ?_
     exact rfl
     refine ca c38_ ?_
     refine sd ?_
     refine sd ?_
     refine an ?_ ?_
     refine an ?_ ?_
     exact rfl
     refine an ?_ ?_
     exact rfl
     refine an ?_ ?_
     exact rfl
     refine an ?_ ?_
     assumption
     assumption
     refine sd ?_
     refine ca c37_ ?_
     refine sd ?_
     refine sd ?_
     refine an ?_ ?_
     refine an ?_ ?_
     exact rfl
     refine an ?_ ?_
     exact rfl
     refine an ?_ ?_
     exact rfl
     refine an ?_ ?_
     assumption
     assumption
     refine sd ?_
     refine sd ?_
     refine an ?_ ?_
     refine an ?_ ?_
     exact rfl
     refine an ?_ ?_
     exact rfl
     refine an ?_ ?_
     exact rfl
     refine an ?_ ?_
     assumption
     assumption
     refine sd ?_
     refine sd ?_
     refine ca c39_ ?_
     refine ca (c40 _) ?_
     refine ca (c41 _) ?_
     refine sd ?_
     refine sd ?_
     refine ca c19_a ?_
     refine sd ?_
     refine b_t n1 ?_
     refine ca c42_ ?_
     refine ca c43_ ?_
     refine sd ?_
     refine sd ?_
     refine ca c19_b ?_
     refine ca c44_ ?_
     refine sd ?_
     refine b_t m1 ?_
     refine ca c43_u ?_
     refine sd ?_
     refine b_f n3 ?_
     refine sd ?_
     refine b_f m3 ?_
     refine sd ?_
     refine b_t n2 ?_
     refine sd ?_
     refine sd ?_
     refine b_t m2 ?_
     refine ca (c13) ?_
     exact rfl
end Vc
