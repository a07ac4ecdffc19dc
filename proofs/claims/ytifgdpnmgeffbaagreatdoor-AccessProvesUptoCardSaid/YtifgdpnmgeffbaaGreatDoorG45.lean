import Derived.Test.YtifgdpnmgeffbaaGreatDoorG44
set_option linter.unusedSectionVars false
set_option linter.unusedVariables false
set_option linter.unusedSimpArgs false
set_option maxRecDepth 10000
set_option maxHeartbeats 4000000
namespace Vc
open Go Go.Proofs
theorem v9t {l : List Ob} {G : List Gr} {of ri ob : Nm} {day : Int} {g : Gr} {X : List Data} {m : Nat} {ch : List Int} {O : List Nm} {T : Nm} (hG : G.length ≤ 1048576) (hcl : ch.length ≤ 1048576) (hP : Pth ri ob day G T ch of) (hT : O[0]? = some T) (c15_ : CallDet Tryz.prog 15 [.d (.agg [.slice 2 (obs l), .slice 6 (grs G)])] [.agg [.slice 2 (obs l), .slice 6 (grs G)]]) (c17_a : CallDet Tryz.prog 17 [.d (.agg [.slice 2 (obs l), .slice 6 (grs G)]), .d (.str of), .d (.str ri), .d (.str ob), .d (.int .i64 day), .d (.slice 1 (ints ch))] [.int .i64 0])
  (c17_b:ch≠[]→CallDet Tryz.prog 17 [.d (.agg [.slice 2 (obs l),.slice 6 (grs G)]),.d (.str of),.d (.str ri),.d (.str ob),.d (.int .i64 day),.d (.slice 1 (ints (ch.drop 1)))] [.int .i64 19]) {Q:AExit→St→Prop} (hQ:Q .normal ⟨[(4,.ptr 1 0),(5,.ptr 2 0),(7,.ptr 7 0),(8,.d (.bool true))],[.none,.cbox [.str of,.str ri,.str ob,.int .i64 day],.cbox [.str g.fr,.str g.to,.str g.ri,.str g.ob,.int .i64 g.a,.int .i64 g.b],.row 150 6 X false,.none,.none,.none,.box [.d (.slice 2 (obs l)),.sl 3 m],.none,.none,.none,.none,.none,.none]⟩):vc Tryz.prog 494 seg9t ⟨[(3,.ptr 0 0),(4,.ptr 1 0),(5,.ptr 2 0),(7,.ptr 7 0),(8,.d (.bool true)),(10,.d (.slice 1 (ints ch))),(12,.d (.slice 1 (strs O))),(275,.d (.bool true))],[.cbox [.slice 2 (obs l),.slice 6 (grs G)],.cbox [.str of,.str ri,.str ob,.int .i64 day],.cbox [.str g.fr,.str g.to,.str g.ri,.str g.ob,.int .i64 g.a,.int .i64 g.b],.row 150 6 X false,.none,.none,.none,.box [.d (.slice 2 (obs l)),.sl 3 m],.none,.none,.none,.none,.none,.none]⟩ Q:=by
 have hT1:(strs O)[(0:Int).toNat]?=some (.str T):=strs_get (i:=0) hT
 have hT2:(0:Int) < (((strs O).length:Nat):Int):=by
  rw [strs_len]
  have:=(List.getElem?_eq_some_iff.1 hT).1
  omega
 have hls:=ints_len ch
 have hof:(of != of)=false:=by rw [bne,beq_self_eq_true]; rfl
 unfold seg9t
 cases ch with
 | nil =>
  refine ca c15_ ?_
  refine sd ?_
  refine sd ?_
  refine an ?_ ?_
  refine an ?_ ?_
  exact rfl
  refine an ?_ ?_
  exact rfl
  refine an ?_ ?_
  exact rfl
  refine an ?_ ?_
  (show ((0:Nat)+(0:Nat)) * (8:Nat)≤(2:Nat) ^ (47:Nat); omega)
  (show (0:Nat)+(0:Nat)≤(2:Nat) ^ (47:Nat); omega)
  refine sd ?_
  refine ca c17_a ?_
  refine sd ?_
  refine ix_at hT1 ?_ ?_
  (show (0:Int)≤(0:Int); omega)
  rotate_left
  refine v9l hG hcl hP ?_
  refine b_f hof ?_
  refine sd ?_
  refine sd ?_
  rotate_left
  all_goals exact hQ
 | cons i r =>
  have c17_b:=c17_b (by intro e; cases e)
  have hcr:List.length (List.map (Data.int .i64) r)+1≤1048576:=by rw [List.length_map]; exact hcl
  refine ca c15_ ?_
  refine sd ?_
  refine sd ?_
  refine an ?_ ?_
  refine an ?_ ?_
  exact rfl
  refine an ?_ ?_
  exact rfl
  refine an ?_ ?_
  exact rfl
  refine an ?_ ?_
  (show ((0:Nat)+(List.length (List.map (Data.int IntKind.i64) r)+(1:Nat))) * (8:Nat)≤(2:Nat) ^ (47:Nat); omega)
  (show (0:Nat)+(List.length (List.map (Data.int IntKind.i64) r)+(1:Nat))≤(2:Nat) ^ (47:Nat); omega)
  refine sd ?_
  refine ca c17_a ?_
  refine sd ?_
  refine ix_at hT1 ?_ ?_
  (show (0:Int)≤(0:Int); omega)
  rotate_left
  have c17_c:CallDet Tryz.prog 17 [.d (.agg [.slice 2 (obs l),.slice 6 (grs G)]),.d (.str of),.d (.str ri),.d (.str ob),.d (.int .i64 day),.d (.slice 1 (List.drop (Int.toNat 1) (List.take (Int.toNat (((ints (i::r)).length:Nat):Int)) (ints (i::r)))))] [.int .i64 19]:=by
   rw [Int.toNat_natCast,List.take_length]
   exact c17_b
  refine v9l hG hcl hP ?_
  refine b_f hof ?_
  refine sd ?_
  refine b_lt (fun t1=>?_) (fun t1=>?_)
  replace t1:(0:Int) < (↑(List.length (List.map (Data.int IntKind.i64) r)+(1:Nat)):Int):=t1
  refine ca c15_ ?_
  refine sd ?_
  refine an ?_ ?_
  refine an ?_ ?_
  exact rfl
  refine an ?_ ?_
  (show (0:Int)≤(1:Int); omega)
  refine an ?_ ?_
  assumption
  (show (↑(List.length (List.map (Data.int IntKind.i64) r)+(1:Nat)):Int)≤(↑(List.length (List.map (Data.int IntKind.i64) r)+(1:Nat)):Int); omega)
  refine sd ?_
  refine an ?_ ?_
  refine an ?_ ?_
  exact rfl
  refine an ?_ ?_
  exact rfl
  refine an ?_ ?_
  exact rfl
  refine an ?_ ?_
  (show ((0:Nat)+List.length (List.drop (Int.toNat (1:Int)) (List.take (List.length (List.map (Data.int IntKind.i64) r)+(1:Nat)) (ints (i::r))))) * (8:Nat)≤(2:Nat) ^ (47:Nat); simp only [List.length_replicate,List.length_set,List.length_append,List.length_take,List.length_drop]; omega)
  (show (0:Nat)+List.length (List.drop (Int.toNat (1:Int)) (List.take (List.length (List.map (Data.int IntKind.i64) r)+(1:Nat)) (ints (i::r))))≤(2:Nat) ^ (47:Nat); simp only [List.length_replicate,List.length_set,List.length_append,List.length_take,List.length_drop]; omega)
  refine sd ?_
  refine ca c17_c ?_
  refine sd ?_
  rotate_left
  replace t1:¬(0:Int) < (↑(List.length (List.map (Data.int IntKind.i64) r)+(1:Nat)):Int):=t1
  (exfalso; omega)
  all_goals exact hQ
theorem v9f {l:List Ob} {G:List Gr} {of ri ob:Nm} {day:Int} {g:Gr} {X:List Data} {m:Nat} {ch:List Int} {O:List Nm} (c15_:CallDet Tryz.prog 15 [.d (.agg [.slice 2 (obs l),.slice 6 (grs G)])] [.agg [.slice 2 (obs l),.slice 6 (grs G)]]) (c17_:CallDet Tryz.prog 17 [.d (.agg [.slice 2 (obs l),.slice 6 (grs G)]),.d (.str of),.d (.str ri),.d (.str ob),.d (.int .i64 day),.d (.slice 1 [])] [.int .i64 19]) {Q:AExit→St→Prop} (hQ:Q .normal ⟨[(4,.ptr 1 0),(5,.ptr 2 0),(7,.ptr 7 0),(8,.d (.bool false))],[.none,.cbox [.str of,.str ri,.str ob,.int .i64 day],.cbox [.str g.fr,.str g.to,.str g.ri,.str g.ob,.int .i64 g.a,.int .i64 g.b],.row 150 6 X false,.none,.none,.none,.box [.d (.slice 2 (obs l)),.sl 3 m],.none,.none,.none,.none,.none,.none]⟩):vc Tryz.prog 494 seg9f ⟨[(3,.ptr 0 0),(4,.ptr 1 0),(5,.ptr 2 0),(7,.ptr 7 0),(8,.d (.bool false)),(10,.d (.slice 1 (ints ch))),(12,.d (.slice 1 (strs O))),(275,.d (.bool false))],[.cbox [.slice 2 (obs l),.slice 6 (grs G)],.cbox [.str of,.str ri,.str ob,.int .i64 day],.cbox [.str g.fr,.str g.to,.str g.ri,.str g.ob,.int .i64 g.a,.int .i64 g.b],.row 150 6 X false,.none,.none,.none,.box [.d (.slice 2 (obs l)),.sl 3 m],.none,.none,.none,.none,.none,.none]⟩ Q:=by
 unfold seg9f
 refine ca c15_ ?_
 refine ca c17_ ?_
 refine sd ?_
 rotate_left
 all_goals exact hQ
theorem v9i {l : List Ob} {G : List Gr} {of ri ob : Nm} {day : Int} {g : Gr} {X : List Data} {m : Nat} {may : Bool} {wide from' got : Bool} (hXm : X.length = m) (c15_ : CallDet Tryz.prog 15 [.d (.agg [.slice 2 (obs l), .slice 6 X])] [.agg [.slice 2 (obs l), .slice 6 X]])
  (c14_a:CallDet Tryz.prog 14 [.d (.agg [.slice 2 (obs l),.slice 6 X]),.d (.str of),.d (.str ri),.d (.str ob),.d (.int .i64 day)] [.bool wide,.int .i64 0]) (c14_b:CallDet Tryz.prog 14 [.d (.agg [.slice 2 (obs l),.slice 6 X]),.d (.str g.fr),.d (.str g.ri),.d (.str g.ob),.d (.int .i64 day)] [.bool from',.int .i64 0]) (c14_c:CallDet Tryz.prog 14 [.d (.agg [.slice 2 (obs l),.slice 6 X]),.d (.str g.to),.d (.str g.ri),.d (.str g.ob),.d (.int .i64 day)] [.bool got,.int .i64 0])
  (h1:may=true→wide=true) (h2:from'=true→g.a≤day→day < g.b→got=true):vc Tryz.prog 494 seg9i ⟨[(4,.ptr 1 0),(5,.ptr 2 0),(7,.ptr 7 0),(8,.d (.bool may))],[.none,.cbox [.str of,.str ri,.str ob,.int .i64 day],.cbox [.str g.fr,.str g.to,.str g.ri,.str g.ob,.int .i64 g.a,.int .i64 g.b],.row 150 6 X false,.none,.none,.none,.box [.d (.slice 2 (obs l)),.sl 3 m],.none,.none,.none,.none,.none,.none]⟩ (postF jr9 [.bool true]):=by
 unfold seg9i
 cases may with
 | true =>
  have h1:=h1 rfl
  subst h1
  cases from' with
  | true =>
   cases got with
   | true =>
        refine an ?_ ?_
        assumption
        refine ca c15_ ?_
        refine ca c14_a ?_
        refine an ?_ ?_
        assumption
        refine ca c15_ ?_
        refine ca c14_b ?_
        refine an ?_ ?_
        assumption
        refine ca c15_ ?_
        refine ca c14_c ?_
        refine sd ?_
        refine sd ?_
        refine sd ?_
        refine sd ?_
        refine sd ?_
        refine ca (c13) ?_
        exact rfl
   | false =>
    by_cases h3:g.a≤day
    ·by_cases h4:day < g.b
     ·exact absurd (h2 rfl h3 h4) (by intro h; cases h)
     ·clear h2
      refine an ?_ ?_
      assumption
      refine ca c15_ ?_
      refine ca c14_a ?_
      refine an ?_ ?_
      assumption
      refine ca c15_ ?_
      refine ca c14_b ?_
      refine an ?_ ?_
      assumption
      refine ca c15_ ?_
      refine ca c14_c ?_
      refine sd ?_
      refine sd ?_
      refine sd ?_
      refine sd ?_
      refine b_lt (fun t1=>?_) (fun t1=>?_)
      (exfalso; omega)
      refine sd ?_
      refine b_le (fun t2=>?_) (fun t2=>?_)
      refine ca (c13) ?_
      exact rfl
      (exfalso; omega)
    ·clear h2
     refine an ?_ ?_
     assumption
     refine ca c15_ ?_
     refine ca c14_a ?_
     refine an ?_ ?_
     assumption
     refine ca c15_ ?_
     refine ca c14_b ?_
     refine an ?_ ?_
     assumption
     refine ca c15_ ?_
     refine ca c14_c ?_
     refine sd ?_
     refine sd ?_
     refine sd ?_
     refine sd ?_
     refine b_lt (fun t1=>?_) (fun t1=>?_)
     refine sd ?_
     refine ca (c13) ?_
     exact rfl
     (exfalso; omega)
  | false =>
   clear h2
   refine an ?_ ?_
   assumption
   refine ca c15_ ?_
   refine ca c14_a ?_
   refine an ?_ ?_
   assumption
   refine ca c15_ ?_
   refine ca c14_b ?_
   refine an ?_ ?_
   assumption
   refine ca c15_ ?_
   refine ca c14_c ?_
   refine sd ?_
   refine sd ?_
   refine sd ?_
   refine sd ?_
   refine sd ?_
   refine sd ?_
   refine ca (c13) ?_
   exact rfl
 | false =>
  clear h1
  cases from' with
  | true =>
   cases got with
   | true =>
        refine an ?_ ?_
        assumption
        refine ca c15_ ?_
        refine ca c14_a ?_
        refine an ?_ ?_
        assumption
        refine ca c15_ ?_
        refine ca c14_b ?_
        refine an ?_ ?_
        assumption
        refine ca c15_ ?_
        refine ca c14_c ?_
        refine sd ?_
        refine sd ?_
        refine sd ?_
        refine sd ?_
        refine sd ?_
        refine sd ?_
        refine ca (c13) ?_
        exact rfl
   | false =>
    by_cases h3:g.a≤day
    ·by_cases h4:day < g.b
     ·exact absurd (h2 rfl h3 h4) (by intro h; cases h)
     ·clear h2
      refine an ?_ ?_
      assumption
      refine ca c15_ ?_
      refine ca c14_a ?_
      refine an ?_ ?_
      assumption
      refine ca c15_ ?_
      refine ca c14_b ?_
      refine an ?_ ?_
      assumption
      refine ca c15_ ?_
      refine ca c14_c ?_
      refine sd ?_
      refine sd ?_
      refine sd ?_
      refine sd ?_
      refine sd ?_
      refine b_lt (fun t1=>?_) (fun t1=>?_)
      (exfalso; omega)
      refine sd ?_
      refine b_le (fun t2=>?_) (fun t2=>?_)
      refine ca (c13) ?_
      exact rfl
      (exfalso; omega)
    ·clear h2
     refine an ?_ ?_
     assumption
     refine ca c15_ ?_
     refine ca c14_a ?_
     refine an ?_ ?_
     assumption
     refine ca c15_ ?_
     refine ca c14_b ?_
     refine an ?_ ?_
     assumption
     refine ca c15_ ?_
     refine ca c14_c ?_
     refine sd ?_
     refine sd ?_
     refine sd ?_
     refine sd ?_
     refine sd ?_
     refine b_lt (fun t1=>?_) (fun t1=>?_)
     refine sd ?_
     refine ca (c13) ?_
     exact rfl
     (exfalso; omega)
  | false =>
   clear h2
   refine an ?_ ?_
   assumption
   refine ca c15_ ?_
   refine ca c14_a ?_
   refine an ?_ ?_
   assumption
   refine ca c15_ ?_
   refine ca c14_b ?_
   refine an ?_ ?_
   assumption
   refine ca c15_ ?_
   refine ca c14_c ?_
   refine sd ?_
   refine sd ?_
   refine sd ?_
   refine sd ?_
   refine sd ?_
   refine sd ?_
   refine sd ?_
   refine ca (c13) ?_
   exact rfl
end Vc
