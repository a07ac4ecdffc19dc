import Derived.Test.YtmffgalmdnpcgaaGreatDoorG28
set_option linter.unusedSectionVars false
set_option linter.unusedVariables false
set_option linter.unusedSimpArgs false
set_option maxRecDepth 10000
set_option maxHeartbeats 4000000
namespace Vc
open Go Go.Proofs
theorem end7_ok (no:Int) (l:List Vr) (F:Data):∀ (T R:List Int),R.length≤256→(R++T.filter (chB l)).length≤256→end7 no l F T R=HP7 no l (lp34 .ready none F) (nx7 (R++T.filter (chB l))) (nxo7 (R++T.filter (chB l)))
 | [],R,_,_=>by rw [List.filter_nil,List.append_nil]; rfl
 | t::r,R,h1,h2=>by
  rw [end7]
  rw [List.filter_cons] at h2 ⊢
  cases hc:chB l t
  ·rw [hc] at h2
   exact end7_ok no l F r R h1 h2
  ·rw [hc] at h2
   have h2:(R++t::r.filter (chB l)).length≤256:=h2
   rw [List.length_append,List.length_cons] at h2
   rw [show (R.length==256)=false by simp; omega]
   have ih:=end7_ok no l F r (R++[t]) (by rw [List.length_append]; show R.length+1≤_; omega) (by rw [List.append_assoc,List.length_append]; show R.length+(r.filter (chB l)).length.succ≤_; omega)
   rw [List.append_assoc] at ih
   exact ih
theorem end7_many (no:Int) (l:List Vr) (F:Data):∀ (T R:List Int),R.length≤256→256 < (R++T.filter (chB l)).length→∃ (t:Int) (S:List Int),S.length=256∧end7 no l F T R=HS7 no l (lp34 .done (some .ret) F) (nx7 S) (nxo7 S) (rcs (atO l t)) (rcs (atO l (t - 1)))
 | [],R,h1,h2=>by rw [List.filter_nil,List.append_nil] at h2; omega
 | t::r,R,h1,h2=>by
  rw [end7]
  rw [List.filter_cons] at h2
  cases hc:chB l t
  ·rw [hc] at h2
   exact end7_many no l F r R h1 h2
  ·rw [hc] at h2
   have h2:256 < (R++t::r.filter (chB l)).length:=h2
   rw [List.length_append,List.length_cons] at h2
   by_cases e:R.length=256
   ·exact ⟨t,R,e,by rw [e]; rfl⟩
   ·rw [show (R.length==256)=false by simpa using e]
    exact end7_many no l F r (R++[t]) (by rw [List.length_append]; show R.length+1≤_; omega) (by rw [List.append_assoc,List.length_append]; show 256 < R.length+(r.filter (chB l)).length.succ; omega)
def ce1 (no:Int) (l:List Vr) (a b:Int):Int:=firstOf [calL no l,tickE a,tickE b,bif decide (b≤a) then 14 else 0]
theorem ce1_ok {no:Int} {l:List Vr} {a b:Int} (h:ce1 no l a b=0):calL no l=0∧(0≤a∧a≤100000000)∧(0≤b∧b≤100000000)∧a < b:=by
 have h1:=firstOf_zero h
 refine ⟨h1 (calL no l) (by simp),within_ok (h1 (tickE a) (by simp)),within_ok (h1 (tickE b) (by simp)),?_⟩
 have h2:=h1 (bif decide (b≤a) then 14 else 0) (by simp)
 by_cases e:b≤a
 ·rw [decide_eq_true e] at h2; exact absurd (show (14:Int)=0 from h2) (by decide)
 ·omega
def chE (no:Int) (l:List Vr) (a b:Int):Int:=bif ce1 no l a b != 0 then ce1 no l a b else bif decide (691200 < b - a) then 4 else bif decide (256 < (chL l a b).length) then 5 else 0
def chR (no:Int) (l:List Vr) (a b:Int):List Int:=bif chE no l a b != 0 then [] else chL l a b
theorem c34' (no:Int) (l:List Vr) (hl:l.length≤1048576) (hr:∀ x∈l,x.t.ok) (a b:Int):CallDet Tryz.prog 34 [.d (.agg [.int .i64 no,.slice 6 (vrs l)]),.d (.int .i64 a),.d (.int .i64 b)] [.slice 1 (ints (chR no l a b)),.int .i64 (chE no l a b)]:=by
 have c31_:=c31' no l hl hr
 have c112_1:=c112 a
 have c112_2:=c112 b
 have c111_:=c111 (decide (b≤a)) 14
 have c96_:CallDet Tryz.prog 96 [.d (.slice 1 [.int .i64 (calL no l),.int .i64 (tickE a),.int .i64 (tickE b),.int .i64 (bif decide (b≤a) then 14 else 0)])] [.int .i64 (ce1 no l a b)]:=c96 [calL no l,tickE a,tickE b,bif decide (b≤a) then 14 else 0] (by simp)
 have hok:=ce1_ok (no:=no) (l:=l) (a:=a) (b:=b)
 unfold chR chE
 generalize ce1 no l a b=w at *
 have c114_:CallDet Tryz.prog 114 [.d (.agg [.int .i64 no,.slice 6 (vrs l)]),.d (.int .i64 a),.d (.int .i64 b)] [.fn (.func 167) [.agg [.int .i64 a],.agg [.int .i64 b],.agg [.int .i64 no,.slice 6 (vrs l)]]]:=by
  refine call_of_vc (x:=jr114) (by kernel_rfl) rfl ?_
  exact rfl
 by_cases hw:w=0
 ·have h:=hok hw
  have hg:=vs_good h.1
  have i167_:=i167 (no:=no) (l:=l) (F:=(.fn (.func 167) [.agg [.int .i64 a],.agg [.int .i64 b],.agg [.int .i64 no,.slice 6 (vrs l)]])) hg.o hg.len.1 hg.len.2 h.2
  subst hw
  by_cases hlk:691200 < b - a
  ·rw [decide_eq_true hlk]
   refine call_of_vc (x:=jr34) (by kernel_rfl) rfl ?_
   refine ca c31_ ?_
   refine ca c112_1 ?_
   refine ca c112_2 ?_
   refine sd ?_
   refine ca c111_ ?_
   refine sd ?_
   refine sd ?_
   refine ca c96_ ?_
   refine sd ?_
   refine ar_sub ?_ ?_
   refine an ?_ ?_
   (show (-9223372036854775808:Int)≤b - a; omega)
   (show b - a≤(9223372036854775807:Int); omega)
   refine sd ?_
   refine b_lt (fun t1=>?_) (fun t1=>?_)
   exact rfl
   (exfalso; omega)
  ·rw [decide_eq_false hlk]
   by_cases hm:256 < (chL l a b).length
   ·rw [decide_eq_true hm]
    refine Exists.elim (end7_many no l (.fn (.func 167) [.agg [.int .i64 a],.agg [.int .i64 b],.agg [.int .i64 no,.slice 6 (vrs l)]]) (tks a b (secL l) (tkN a b) (a / 86400)) [] (by simp) hm) fun t hS=>?_
    refine Exists.elim hS fun S hS=>?_
    rw [hS.2] at i167_
    have hS:=hS.1
    cases S with
    | nil=>exact absurd hS (by decide)
    | cons y r =>
     refine call_of_vc (x:=jr34) (by kernel_rfl) rfl ?_
     refine ca c31_ ?_
     refine ca c112_1 ?_
     refine ca c112_2 ?_
     refine sd ?_
     refine ca c111_ ?_
     refine sd ?_
     refine sd ?_
     refine ca c96_ ?_
     refine sd ?_
     refine ar_sub ?_ ?_
     refine an ?_ ?_
     (show (-9223372036854775808:Int)≤b - a; omega)
     (show b - a≤(9223372036854775807:Int); omega)
     refine sd ?_
     refine b_lt (fun t1=>?_) (fun t1=>?_)
     (exfalso; omega)
     refine ca c114_ ?_
     rotate_left
     refine Exists.intro (.tup []) (Exists.intro _ (And.intro i167_ ?_))
     refine an ?_ ?_
     decide
     exact rfl
     all_goals skip
   ·rw [decide_eq_false hm]
    have he:=end7_ok no l (.fn (.func 167) [.agg [.int .i64 a],.agg [.int .i64 b],.agg [.int .i64 no,.slice 6 (vrs l)]]) (tks a b (secL l) (tkN a b) (a / 86400)) [] (by simp) (by show (chL l a b).length≤256; omega)
    rw [he] at i167_
    have i167_:CallIn Tryz.prog 167 [.yld 5,.cp [.int .i64 a] 0,.cp [.int .i64 b] 0,.cp [.int .i64 no,.slice 6 (vrs l)] 0] (HP7 no l (lp34 .ready none (.fn (.func 167) [.agg [.int .i64 a],.agg [.int .i64 b],.agg [.int .i64 no,.slice 6 (vrs l)]])) (nx7 []) (nxo7 [])) (.tup []) (HP7 no l (lp34 .ready none (.fn (.func 167) [.agg [.int .i64 a],.agg [.int .i64 b],.agg [.int .i64 no,.slice 6 (vrs l)]])) (nx7 (chL l a b)) (nxo7 (chL l a b))):=i167_
    show CallDet Tryz.prog 34 _ [.slice 1 (ints (chL l a b)),.int .i64 0]
    clear he
    generalize chL l a b=C at *
    cases C with
    | nil =>
     refine call_of_vc (x:=jr34) (by kernel_rfl) rfl ?_
     refine ca c31_ ?_
     refine ca c112_1 ?_
     refine ca c112_2 ?_
     refine sd ?_
     refine ca c111_ ?_
     refine sd ?_
     refine sd ?_
     refine ca c96_ ?_
     refine sd ?_
     refine ar_sub ?_ ?_
     refine an ?_ ?_
     (show (-9223372036854775808:Int)≤b - a; omega)
     (show b - a≤(9223372036854775807:Int); omega)
     refine sd ?_
     refine b_lt (fun t1=>?_) (fun t1=>?_)
     (exfalso; omega)
     refine ca c114_ ?_
     rotate_left
     refine Exists.intro (.tup []) (Exists.intro _ (And.intro i167_ ?_))
     refine an ?_ ?_
     decide
     exact rfl
     all_goals skip
    | cons y r =>
     refine call_of_vc (x:=jr34) (by kernel_rfl) rfl ?_
     refine ca c31_ ?_
     refine ca c112_1 ?_
     refine ca c112_2 ?_
     refine sd ?_
     refine ca c111_ ?_
     refine sd ?_
     refine sd ?_
     refine ca c96_ ?_
     refine sd ?_
     refine ar_sub ?_ ?_
     refine an ?_ ?_
     (show (-9223372036854775808:Int)≤b - a; omega)
     (show b - a≤(9223372036854775807:Int); omega)
     refine sd ?_
     refine b_lt (fun t1=>?_) (fun t1=>?_)
     (exfalso; omega)
     refine ca c114_ ?_
     rotate_left
     refine Exists.intro (.tup []) (Exists.intro _ (And.intro i167_ ?_))
     refine an ?_ ?_
     decide
     refine sd ?_
     refine sd ?_
     exact rfl
     all_goals skip
 ·rw [bne_t hw]
  show CallDet Tryz.prog 34 _ [.slice 1 (ints (bif w != 0 then [] else chL l a b)),.int .i64 w]
  rw [bne_t hw]
  refine call_of_vc (x:=jr34) (by kernel_rfl) rfl ?_
  refine ca c31_ ?_
  refine ca c112_1 ?_
  refine ca c112_2 ?_
  refine sd ?_
  refine ca c111_ ?_
  refine sd ?_
  refine sd ?_
  refine ca c96_ ?_
  refine sd ?_
  refine b_ne (fun t1=>?_) (fun t1=>?_)
  exact rfl
  (exfalso; omega)
end Vc
