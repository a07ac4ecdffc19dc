import Derived.Test.YtifgdpnmgeffbaaGreatDoorG43
set_option linter.unusedSectionVars false
set_option linter.unusedVariables false
set_option linter.unusedSimpArgs false
set_option maxRecDepth 10000
set_option maxHeartbeats 4000000
namespace Vc
open Go Go.Proofs
theorem span_0 {a b:Int} (h0:0≤a) (h1:a < b) (h2:b≤100001):spanE a b 100001=0:=by
 unfold spanE
 rw [decide_eq_false (by omega),decide_eq_false (by omega),decide_eq_false (by omega)]; rfl
theorem v9e {l : List Ob} {G : List Gr} {of ri ob : Nm} {day : Int} {g : Gr} {X : List Data} {m : Nat} {may : Bool} {ch : List Int} {O : List Nm} {D : List (Int × Int)} (hDl : D.length ≤ 1048576) (hD : ∀ x ∈ D, 0 ≤ x.1 ∧ x.1 < x.2 ∧ x.2 ≤ 100001) (hA : ∀ (k : Nat) (x y : Int × Int), D[k]? = some y → D[k + 1]? = some x → y.2 < x.1) {B : Bool} (hB : D.any (fun x : Int × Int => decide (x.1 ≤ day) && decide (day < x.2)) = B) {Q : AExit → St → Prop}
  (hQ:Q .normal ⟨[(3,.ptr 0 0),(4,.ptr 1 0),(5,.ptr 2 0),(7,.ptr 7 0),(8,.d (.bool may)),(10,.d (.slice 1 (ints ch))),(12,.d (.slice 1 (strs O))),(16,.d (.bool B))],[.cbox [.slice 2 (obs l),.slice 6 (grs G)],.cbox [.str of,.str ri,.str ob,.int .i64 day],.cbox [.str g.fr,.str g.to,.str g.ri,.str g.ob,.int .i64 g.a,.int .i64 g.b],.row 150 6 X false,.none,.none,.none,.box [.d (.slice 2 (obs l)),.sl 3 m],.none,.none,.none,.none,.none,.none]⟩):vc Tryz.prog 494 seg9e ⟨[(3,.ptr 0 0),(4,.ptr 1 0),(5,.ptr 2 0),(7,.ptr 7 0),(8,.d (.bool may)),(10,.d (.slice 1 (ints ch))),(12,.d (.slice 1 (strs O))),(14,.d (.slice 2 (sps D))),(16,.d (.bool (false))),(197,.d (.slice 2 (sps D))),(198,.d (.int .i64 (((sps D).length:Nat):Int))),(199,.d (.int .i64 (0)))],[.cbox [.slice 2 (obs l),.slice 6 (grs G)],.cbox [.str of,.str ri,.str ob,.int .i64 day],.cbox [.str g.fr,.str g.to,.str g.ri,.str g.ob,.int .i64 g.a,.int .i64 g.b],.row 150 6 X false,.none,.none,.none,.box [.d (.slice 2 (obs l)),.sl 3 m],.none,.none,.none,.none,.none,.none]⟩ Q:=by
 have hls:=sps_len D
 unfold seg9e
 rotate_left
 refine loop_st (fun p:Nat × Bool=>⟨[(3,.ptr 0 0),(4,.ptr 1 0),(5,.ptr 2 0),(7,.ptr 7 0),(8,.d (.bool may)),(10,.d (.slice 1 (ints ch))),(12,.d (.slice 1 (strs O))),(14,.d (.slice 2 (sps D))),(16,.d (.bool (p.2))),(197,.d (.slice 2 (sps D))),(198,.d (.int .i64 (((sps D).length:Nat):Int))),(199,.d (.int .i64 ((p.1:Nat))))],[.cbox [.slice 2 (obs l),.slice 6 (grs G)],.cbox [.str of,.str ri,.str ob,.int .i64 day],.cbox [.str g.fr,.str g.to,.str g.ri,.str g.ob,.int .i64 g.a,.int .i64 g.b],.row 150 6 X false,.none,.none,.none,.box [.d (.slice 2 (obs l)),.sl 3 m],.none,.none,.none,.none,.none,.none]⟩) (fun p=>p.1≤D.length∧(p.2||(D.drop p.1).any (fun x:Int × Int=>decide (x.1≤day)&&decide (day < x.2)))=B) (fun p=>D.length - p.1) (0,false) rfl ⟨Nat.zero_le _,hB⟩ ?_
 clear hB
 rintro ⟨k,q⟩ ⟨hk0,hi0⟩
 have hk:k≤D.length:=hk0
 have hi:(q||(D.drop k).any (fun x:Int × Int=>decide (x.1≤day)&&decide (day < x.2)))=B:=hi0
 clear hk0 hi0
 dsimp only
 by_cases hkn:k < D.length
 ·refine Exists.elim (get_lt D hkn) fun x hx=>?_
  obtain ⟨x,y⟩:=x
  have hx1:(sps D)[((k:Nat):Int).toNat]?=some (.agg [.int .i64 x,.int .i64 y]):=sps_at hx
  have hr:=hD _ (List.mem_of_getElem? hx)
  have c93_:=c93 x y 100001
  rw [span_0 hr.1 hr.2.1 hr.2.2] at c93_
  rw [drop_at hx,List.any_cons] at hi
  have mk:∀ b:Bool,(b||(D.drop (k+1)).any (fun x:Int × Int=>decide (x.1≤day)&&decide (day < x.2)))=B→∃ a':Nat × Bool,((a'.1≤D.length∧(a'.2||(D.drop a'.1).any (fun x:Int × Int=>decide (x.1≤day)&&decide (day < x.2)))=B)∧D.length - a'.1 < D.length - k)∧(⟨[(3,.ptr 0 0),(4,.ptr 1 0),(5,.ptr 2 0),(7,.ptr 7 0),(8,.d (.bool may)),(10,.d (.slice 1 (ints ch))),(12,.d (.slice 1 (strs O))),(14,.d (.slice 2 (sps D))),(16,.d (.bool (b))),(197,.d (.slice 2 (sps D))),(198,.d (.int .i64 (((sps D).length:Nat):Int))),(199,.d (.int .i64 ((k:Int)+1)))],[.cbox [.slice 2 (obs l),.slice 6 (grs G)],.cbox [.str of,.str ri,.str ob,.int .i64 day],.cbox [.str g.fr,.str g.to,.str g.ri,.str g.ob,.int .i64 g.a,.int .i64 g.b],.row 150 6 X false,.none,.none,.none,.box [.d (.slice 2 (obs l)),.sl 3 m],.none,.none,.none,.none,.none,.none]⟩:St)=⟨[(3,.ptr 0 0),(4,.ptr 1 0),(5,.ptr 2 0),(7,.ptr 7 0),(8,.d (.bool may)),(10,.d (.slice 1 (ints ch))),(12,.d (.slice 1 (strs O))),(14,.d (.slice 2 (sps D))),(16,.d (.bool (a'.2))),(197,.d (.slice 2 (sps D))),(198,.d (.int .i64 (((sps D).length:Nat):Int))),(199,.d (.int .i64 ((a'.1:Nat))))],[.cbox [.slice 2 (obs l),.slice 6 (grs G)],.cbox [.str of,.str ri,.str ob,.int .i64 day],.cbox [.str g.fr,.str g.to,.str g.ri,.str g.ob,.int .i64 g.a,.int .i64 g.b],.row 150 6 X false,.none,.none,.none,.box [.d (.slice 2 (obs l)),.sl 3 m],.none,.none,.none,.none,.none,.none]⟩:=fun b h=>⟨(k+1,b),⟨⟨by show k+1≤D.length; omega,h⟩,by show D.length - (k+1) < D.length - k; omega⟩,rfl⟩
  have hfin:∃ b:Bool,b=(q||(decide (x≤day)&&decide (day < y)))∧(b||(D.drop (k+1)).any (fun x:Int × Int=>decide (x.1≤day)&&decide (day < x.2)))=B:=⟨_,rfl,by rw [Bool.or_assoc]; exact hi⟩
  obtain ⟨b,hb1,hb2⟩:=hfin
  have fin:=mk b hb2
  clear mk hi hb2
  cases k with
  | zero =>
   cases q with
   | true =>
    have hb1:b=true:=hb1
    subst hb1
    refine sd ?_
    refine b_lt (fun t1=>?_) (fun t1=>?_)
    refine ix_at hx1 ?_ ?_
    (show (0:Int)≤(↑(0:Nat):Int); omega)
    refine ca c93_ ?_
    refine sd ?_
    refine sd ?_
    refine sd ?_
    refine sd ?_
    refine ar_add ?_ ?_
    refine an ?_ ?_
    (show (-9223372036854775808:Int)≤(↑(0:Nat):Int)+(1:Int); omega)
    (show (↑(0:Nat):Int)+(1:Int)≤(9223372036854775807:Int); omega)
    rotate_left
    (exfalso; omega)
    all_goals exact fin
   | false =>
    by_cases h1:x≤day
    ·rw [decide_eq_true h1] at hb1
     have hb1:b=cmpF .lss day y:=hb1
     subst hb1
     refine sd ?_
     refine b_lt (fun t1=>?_) (fun t1=>?_)
     refine ix_at hx1 ?_ ?_
     (show (0:Int)≤(↑(0:Nat):Int); omega)
     refine ca c93_ ?_
     refine sd ?_
     refine sd ?_
     refine sd ?_
     refine sd ?_
     refine b_le (fun t2=>?_) (fun t2=>?_)
     refine sd ?_
     refine ar_add ?_ ?_
     refine an ?_ ?_
     (show (-9223372036854775808:Int)≤(↑(0:Nat):Int)+(1:Int); omega)
     (show (↑(0:Nat):Int)+(1:Int)≤(9223372036854775807:Int); omega)
     rotate_left
     (exfalso; omega)
     (exfalso; omega)
     all_goals exact fin
    ·rw [decide_eq_false h1] at hb1
     have hb1:b=false:=hb1
     subst hb1
     refine sd ?_
     refine b_lt (fun t1=>?_) (fun t1=>?_)
     refine ix_at hx1 ?_ ?_
     (show (0:Int)≤(↑(0:Nat):Int); omega)
     refine ca c93_ ?_
     refine sd ?_
     refine sd ?_
     refine sd ?_
     refine sd ?_
     refine b_le (fun t2=>?_) (fun t2=>?_)
     (exfalso; omega)
     refine sd ?_
     refine ar_add ?_ ?_
     refine an ?_ ?_
     (show (-9223372036854775808:Int)≤(↑(0:Nat):Int)+(1:Int); omega)
     (show (↑(0:Nat):Int)+(1:Int)≤(9223372036854775807:Int); omega)
     rotate_left
     (exfalso; omega)
     all_goals exact fin
  | succ k =>
   refine Exists.elim (get_lt D (show k < D.length by omega)) fun z hz=>?_
   obtain ⟨z,w⟩:=z
   have hz1:(sps D)[(((k+1:Nat):Int) - 1).toNat]?=some (.agg [.int .i64 z,.int .i64 w]):=by
    rw [show ((k+1:Nat):Int) - 1=((k:Nat):Int) by omega]
    exact sps_at hz
   have hzx:w < x:=hA k _ _ hz hx
   cases q with
   | true =>
    have hb1:b=true:=hb1
    subst hb1
    refine sd ?_
    refine b_lt (fun t1=>?_) (fun t1=>?_)
    refine ix_at hx1 ?_ ?_
    (show (0:Int)≤(↑(k+(1:Nat)):Int); omega)
    refine ca c93_ ?_
    refine sd ?_
    refine sd ?_
    refine b_lt (fun t2=>?_) (fun t2=>?_)
    refine ar_sub ?_ ?_
    refine an ?_ ?_
    (show (-9223372036854775808:Int)≤(↑(k+(1:Nat)):Int) - (1:Int); omega)
    (show (↑(k+(1:Nat)):Int) - (1:Int)≤(9223372036854775807:Int); omega)
    refine ix_at hz1 ?_ ?_
    (show (0:Int)≤(↑(k+(1:Nat)):Int) - (1:Int); omega)
    refine sd ?_
    refine b_le (fun t3=>?_) (fun t3=>?_)
    (exfalso; omega)
    refine sd ?_
    refine ar_add ?_ ?_
    refine an ?_ ?_
    (show (-9223372036854775808:Int)≤(↑(k+(1:Nat)):Int)+(1:Int); omega)
    (show (↑(k+(1:Nat)):Int)+(1:Int)≤(9223372036854775807:Int); omega)
    rotate_left
    (exfalso; omega)
    (exfalso; omega)
    all_goals exact fin
   | false =>
    by_cases h1:x≤day
    ·rw [decide_eq_true h1] at hb1
     have hb1:b=cmpF .lss day y:=hb1
     subst hb1
     refine sd ?_
     refine b_lt (fun t1=>?_) (fun t1=>?_)
     refine ix_at hx1 ?_ ?_
     (show (0:Int)≤(↑(k+(1:Nat)):Int); omega)
     refine ca c93_ ?_
     refine sd ?_
     refine sd ?_
     refine b_lt (fun t2=>?_) (fun t2=>?_)
     refine ar_sub ?_ ?_
     refine an ?_ ?_
     (show (-9223372036854775808:Int)≤(↑(k+(1:Nat)):Int) - (1:Int); omega)
     (show (↑(k+(1:Nat)):Int) - (1:Int)≤(9223372036854775807:Int); omega)
     refine ix_at hz1 ?_ ?_
     (show (0:Int)≤(↑(k+(1:Nat)):Int) - (1:Int); omega)
     refine sd ?_
     refine b_le (fun t3=>?_) (fun t3=>?_)
     (exfalso; omega)
     refine sd ?_
     refine b_le (fun t4=>?_) (fun t4=>?_)
     refine sd ?_
     refine ar_add ?_ ?_
     refine an ?_ ?_
     (show (-9223372036854775808:Int)≤(↑(k+(1:Nat)):Int)+(1:Int); omega)
     (show (↑(k+(1:Nat)):Int)+(1:Int)≤(9223372036854775807:Int); omega)
     rotate_left
     (exfalso; omega)
     (exfalso; omega)
     (exfalso; omega)
     all_goals exact fin
    ·rw [decide_eq_false h1] at hb1
     have hb1:b=false:=hb1
     subst hb1
     refine sd ?_
     refine b_lt (fun t1=>?_) (fun t1=>?_)
     refine ix_at hx1 ?_ ?_
     (show (0:Int)≤(↑(k+(1:Nat)):Int); omega)
     refine ca c93_ ?_
     refine sd ?_
     refine sd ?_
     refine b_lt (fun t2=>?_) (fun t2=>?_)
     refine ar_sub ?_ ?_
     refine an ?_ ?_
     (show (-9223372036854775808:Int)≤(↑(k+(1:Nat)):Int) - (1:Int); omega)
     (show (↑(k+(1:Nat)):Int) - (1:Int)≤(9223372036854775807:Int); omega)
     refine ix_at hz1 ?_ ?_
     (show (0:Int)≤(↑(k+(1:Nat)):Int) - (1:Int); omega)
     refine sd ?_
     refine b_le (fun t3=>?_) (fun t3=>?_)
     (exfalso; omega)
     refine sd ?_
     refine b_le (fun t4=>?_) (fun t4=>?_)
     (exfalso; omega)
     refine sd ?_
     refine ar_add ?_ ?_
     refine an ?_ ?_
     (show (-9223372036854775808:Int)≤(↑(k+(1:Nat)):Int)+(1:Int); omega)
     (show (↑(k+(1:Nat)):Int)+(1:Int)≤(9223372036854775807:Int); omega)
     rotate_left
     (exfalso; omega)
     (exfalso; omega)
     all_goals exact fin
 ·have e:k=D.length:=by omega
  subst e
  rw [List.drop_eq_nil_of_le (Nat.le_refl _)] at hi
  have hi:q=B:=(Bool.or_false q).symm.trans hi
  subst hi
  refine sd ?_
  refine b_lt (fun t1=>?_) (fun t1=>?_)
  (exfalso; omega)
  rotate_left
  all_goals exact hQ
theorem v9g {l : List Ob} {G : List Gr} {of ri ob : Nm} {day : Int} {g : Gr} {X : List Data} {m : Nat} {may : Bool} {ch : List Int} {O : List Nm} (hOl : O.length ≤ 1048576) (c15_ : CallDet Tryz.prog 15 [.d (.agg [.slice 2 (obs l), .slice 6 (grs G)])] [.agg [.slice 2 (obs l), .slice 6 (grs G)]]) (hO : ∀ n ∈ O, CallDet Tryz.prog 14 [.d (.agg [.slice 2 (obs l), .slice 6 (grs G)]), .d (.str n), .d (.str ri), .d (.str ob), .d (.int .i64 day)] [.bool true, .int .i64 0])
  (hW:∀ (k:Nat) (n:Nm),O[k]?=some n→CallDet Tryz.prog 92 [.d (.slice 1 (strs (O.take k))),.d (.str n)] [.bool false]) {Q:AExit→St→Prop}
  (hQ:Q .normal ⟨[(3,.ptr 0 0),(4,.ptr 1 0),(5,.ptr 2 0),(7,.ptr 7 0),(8,.d (.bool may)),(10,.d (.slice 1 (ints ch))),(12,.d (.slice 1 (strs O)))],[.cbox [.slice 2 (obs l),.slice 6 (grs G)],.cbox [.str of,.str ri,.str ob,.int .i64 day],.cbox [.str g.fr,.str g.to,.str g.ri,.str g.ob,.int .i64 g.a,.int .i64 g.b],.row 150 6 X false,.none,.none,.none,.box [.d (.slice 2 (obs l)),.sl 3 m],.none,.none,.none,.none,.none,.none]⟩):vc Tryz.prog 494 seg9g ⟨[(3,.ptr 0 0),(4,.ptr 1 0),(5,.ptr 2 0),(7,.ptr 7 0),(8,.d (.bool may)),(10,.d (.slice 1 (ints ch))),(12,.d (.slice 1 (strs O))),(241,.d (.slice 1 (strs O))),(242,.d (.int .i64 (((strs O).length:Nat):Int))),(243,.d (.int .i64 (0)))],[.cbox [.slice 2 (obs l),.slice 6 (grs G)],.cbox [.str of,.str ri,.str ob,.int .i64 day],.cbox [.str g.fr,.str g.to,.str g.ri,.str g.ob,.int .i64 g.a,.int .i64 g.b],.row 150 6 X false,.none,.none,.none,.box [.d (.slice 2 (obs l)),.sl 3 m],.none,.none,.none,.none,.none,.none]⟩ Q:=by
 have hls:=strs_len O
 unfold seg9g
 rotate_left
 refine loop_st (fun k:Nat=>⟨[(3,.ptr 0 0),(4,.ptr 1 0),(5,.ptr 2 0),(7,.ptr 7 0),(8,.d (.bool may)),(10,.d (.slice 1 (ints ch))),(12,.d (.slice 1 (strs O))),(241,.d (.slice 1 (strs O))),(242,.d (.int .i64 (((strs O).length:Nat):Int))),(243,.d (.int .i64 ((k:Nat))))],[.cbox [.slice 2 (obs l),.slice 6 (grs G)],.cbox [.str of,.str ri,.str ob,.int .i64 day],.cbox [.str g.fr,.str g.to,.str g.ri,.str g.ob,.int .i64 g.a,.int .i64 g.b],.row 150 6 X false,.none,.none,.none,.box [.d (.slice 2 (obs l)),.sl 3 m],.none,.none,.none,.none,.none,.none]⟩) (fun k=>k≤O.length) (fun k=>O.length - k) 0 rfl (Nat.zero_le _) ?_
 intro k hk
 have hk:k≤O.length:=hk
 dsimp only
 by_cases hkn:k < O.length
 ·refine Exists.elim (get_lt O hkn) fun n hn=>?_
  have hn1:=strs_get hn
  have c14_:=hO n (List.mem_of_getElem? hn)
  have c92_:CallDet Tryz.prog 92 [.d (.slice 1 (List.drop (Int.toNat 0) (List.take (Int.toNat ((k:Nat):Int)) (strs O)))),.d (.str n)] [.bool false]:=by
   have h:=hW k n hn
   rw [show strs (O.take k)=List.drop (Int.toNat 0) (List.take (Int.toNat ((k:Nat):Int)) (strs O)) from List.map_take] at h
   exact h
  have fin:∃ a':Nat,(a'≤O.length∧O.length - a' < O.length - k)∧(⟨[(3,.ptr 0 0),(4,.ptr 1 0),(5,.ptr 2 0),(7,.ptr 7 0),(8,.d (.bool may)),(10,.d (.slice 1 (ints ch))),(12,.d (.slice 1 (strs O))),(241,.d (.slice 1 (strs O))),(242,.d (.int .i64 (((strs O).length:Nat):Int))),(243,.d (.int .i64 ((k:Int)+1)))],[.cbox [.slice 2 (obs l),.slice 6 (grs G)],.cbox [.str of,.str ri,.str ob,.int .i64 day],.cbox [.str g.fr,.str g.to,.str g.ri,.str g.ob,.int .i64 g.a,.int .i64 g.b],.row 150 6 X false,.none,.none,.none,.box [.d (.slice 2 (obs l)),.sl 3 m],.none,.none,.none,.none,.none,.none]⟩:St)=⟨[(3,.ptr 0 0),(4,.ptr 1 0),(5,.ptr 2 0),(7,.ptr 7 0),(8,.d (.bool may)),(10,.d (.slice 1 (ints ch))),(12,.d (.slice 1 (strs O))),(241,.d (.slice 1 (strs O))),(242,.d (.int .i64 (((strs O).length:Nat):Int))),(243,.d (.int .i64 ((a':Nat))))],[.cbox [.slice 2 (obs l),.slice 6 (grs G)],.cbox [.str of,.str ri,.str ob,.int .i64 day],.cbox [.str g.fr,.str g.to,.str g.ri,.str g.ob,.int .i64 g.a,.int .i64 g.b],.row 150 6 X false,.none,.none,.none,.box [.d (.slice 2 (obs l)),.sl 3 m],.none,.none,.none,.none,.none,.none]⟩:=⟨k+1,⟨by omega,by omega⟩,rfl⟩
  refine sd ?_
  refine b_lt (fun t1=>?_) (fun t1=>?_)
  refine ix_at hn1 ?_ ?_
  (show (0:Int)≤(↑k:Int); omega)
  refine ca c15_ ?_
  refine ca c14_ ?_
  refine sd ?_
  refine an ?_ ?_
  refine an ?_ ?_
  exact rfl
  refine an ?_ ?_
  (show (0:Int)≤(0:Int); omega)
  refine an ?_ ?_
  (show (0:Int)≤(↑k:Int); omega)
  (show (↑k:Int)≤(↑(List.length (strs O)):Int); omega)
  refine ca c92_ ?_
  refine ar_add ?_ ?_
  refine an ?_ ?_
  (show (-9223372036854775808:Int)≤(↑k:Int)+(1:Int); omega)
  (show (↑k:Int)+(1:Int)≤(9223372036854775807:Int); omega)
  rotate_left
  (exfalso; omega)
  all_goals exact fin
 ·refine sd ?_
  refine b_lt (fun t1=>?_) (fun t1=>?_)
  (exfalso; omega)
  rotate_left
  all_goals exact hQ
theorem v9l {l : List Ob} {G : List Gr} {of ri ob : Nm} {day : Int} {g : Gr} {X : List Data} {m : Nat} {may : Bool} {ch : List Int} (hG : G.length ≤ 1048576) (hcl : ch.length ≤ 1048576) {T : Nm} (hP : Pth ri ob day G T ch of) {Q : AExit → St → Prop}
  (hQ:Q .normal ⟨[(3,.ptr 0 0),(4,.ptr 1 0),(5,.ptr 2 0),(7,.ptr 7 0),(8,.d (.bool may)),(10,.d (.slice 1 (ints ch))),(23,.d (.str of))],[.cbox [.slice 2 (obs l),.slice 6 (grs G)],.cbox [.str of,.str ri,.str ob,.int .i64 day],.cbox [.str g.fr,.str g.to,.str g.ri,.str g.ob,.int .i64 g.a,.int .i64 g.b],.row 150 6 X false,.none,.none,.none,.box [.d (.slice 2 (obs l)),.sl 3 m],.none,.none,.none,.none,.none,.none]⟩):vc Tryz.prog 494 seg9l ⟨[(3,.ptr 0 0),(4,.ptr 1 0),(5,.ptr 2 0),(7,.ptr 7 0),(8,.d (.bool may)),(10,.d (.slice 1 (ints ch))),(23,.d (.str (T))),(294,.d (.slice 1 (ints ch))),(295,.d (.int .i64 (((ints ch).length:Nat):Int))),(296,.d (.int .i64 (0)))],[.cbox [.slice 2 (obs l),.slice 6 (grs G)],.cbox [.str of,.str ri,.str ob,.int .i64 day],.cbox [.str g.fr,.str g.to,.str g.ri,.str g.ob,.int .i64 g.a,.int .i64 g.b],.row 150 6 X false,.none,.none,.none,.box [.d (.slice 2 (obs l)),.sl 3 m],.none,.none,.none,.none,.none,.none]⟩ Q:=by
 have hls:=ints_len ch
 have hlg:=grs_len G
 unfold seg9l
 rotate_left
 refine loop_st (fun p:Nat × Nm=>⟨[(3,.ptr 0 0),(4,.ptr 1 0),(5,.ptr 2 0),(7,.ptr 7 0),(8,.d (.bool may)),(10,.d (.slice 1 (ints ch))),(23,.d (.str (p.2))),(294,.d (.slice 1 (ints ch))),(295,.d (.int .i64 (((ints ch).length:Nat):Int))),(296,.d (.int .i64 ((p.1:Nat))))],[.cbox [.slice 2 (obs l),.slice 6 (grs G)],.cbox [.str of,.str ri,.str ob,.int .i64 day],.cbox [.str g.fr,.str g.to,.str g.ri,.str g.ob,.int .i64 g.a,.int .i64 g.b],.row 150 6 X false,.none,.none,.none,.box [.d (.slice 2 (obs l)),.sl 3 m],.none,.none,.none,.none,.none,.none]⟩) (fun p=>p.1≤ch.length∧Pth ri ob day G p.2 (ch.drop p.1) of) (fun p=>ch.length - p.1) (0,T) rfl ⟨Nat.zero_le _,hP⟩ ?_
 clear hP
 rintro ⟨k,now⟩ ⟨hk0,hi0⟩
 have hk:k≤ch.length:=hk0
 have hi:Pth ri ob day G now (ch.drop k) of:=hi0
 clear hk0 hi0
 dsimp only
 by_cases hkn:k < ch.length
 ·refine Exists.elim (get_lt ch hkn) fun i hx=>?_
  have hx1:=ints_get hx
  rw [drop_at hx] at hi
  obtain ⟨g',h1,h2,h3,h4,h5⟩:=hi
  have hgi:=grs_at h2
  have hilt:i < (G.length:Int):=by
   have:=(List.getElem?_eq_some_iff.1 h2).1
   omega
  rw [show ((i.toNat:Nat):Int)=i by omega] at hgi
  have h3:((g'.ri==ri&&g'.ob==ob)&&(decide (g'.a≤day)&&decide (day < g'.b)))=true:=h3
  simp only [Bool.and_eq_true,beq_iff_eq,decide_eq_true_eq] at h3
  obtain ⟨⟨e1,e2⟩,e3,e4⟩:=h3
  have b1:(g'.fr != now)=false:=by rw [h4,bne,beq_self_eq_true]; rfl
  have b2:(g'.ri != ri)=false:=by rw [e1,bne,beq_self_eq_true]; rfl
  have b3:(g'.ob != ob)=false:=by rw [e2,bne,beq_self_eq_true]; rfl
  have fin:∃ a':Nat × Nm,((a'.1≤ch.length∧Pth ri ob day G a'.2 (ch.drop a'.1) of)∧ch.length - a'.1 < ch.length - k)∧(⟨[(3,.ptr 0 0),(4,.ptr 1 0),(5,.ptr 2 0),(7,.ptr 7 0),(8,.d (.bool may)),(10,.d (.slice 1 (ints ch))),(23,.d (.str (g'.to))),(294,.d (.slice 1 (ints ch))),(295,.d (.int .i64 (((ints ch).length:Nat):Int))),(296,.d (.int .i64 ((k:Int)+1)))],[.cbox [.slice 2 (obs l),.slice 6 (grs G)],.cbox [.str of,.str ri,.str ob,.int .i64 day],.cbox [.str g.fr,.str g.to,.str g.ri,.str g.ob,.int .i64 g.a,.int .i64 g.b],.row 150 6 X false,.none,.none,.none,.box [.d (.slice 2 (obs l)),.sl 3 m],.none,.none,.none,.none,.none,.none]⟩:St)=⟨[(3,.ptr 0 0),(4,.ptr 1 0),(5,.ptr 2 0),(7,.ptr 7 0),(8,.d (.bool may)),(10,.d (.slice 1 (ints ch))),(23,.d (.str (a'.2))),(294,.d (.slice 1 (ints ch))),(295,.d (.int .i64 (((ints ch).length:Nat):Int))),(296,.d (.int .i64 ((a'.1:Nat))))],[.cbox [.slice 2 (obs l),.slice 6 (grs G)],.cbox [.str of,.str ri,.str ob,.int .i64 day],.cbox [.str g.fr,.str g.to,.str g.ri,.str g.ob,.int .i64 g.a,.int .i64 g.b],.row 150 6 X false,.none,.none,.none,.box [.d (.slice 2 (obs l)),.sl 3 m],.none,.none,.none,.none,.none,.none]⟩:=⟨(k+1,g'.to),⟨⟨by show k+1≤ch.length; omega,h5⟩,by show ch.length - (k+1) < ch.length - k; omega⟩,rfl⟩
  clear e1 e2 h4
  refine sd ?_
  refine b_lt (fun t1=>?_) (fun t1=>?_)
  refine ix_at hx1 ?_ ?_
  (show (0:Int)≤(↑k:Int); omega)
  refine sd ?_
  refine b_lt (fun t2=>?_) (fun t2=>?_)
  (exfalso; omega)
  refine sd ?_
  refine b_le (fun t3=>?_) (fun t3=>?_)
  (exfalso; omega)
  refine ix_at hgi ?_ ?_
  assumption
  refine b_f b1 ?_
  refine ix_at hgi ?_ ?_
  assumption
  refine b_f b2 ?_
  refine ix_at hgi ?_ ?_
  assumption
  refine b_f b3 ?_
  refine ix_at hgi ?_ ?_
  assumption
  refine sd ?_
  refine b_lt (fun t4=>?_) (fun t4=>?_)
  (exfalso; omega)
  refine ix_at hgi ?_ ?_
  assumption
  refine sd ?_
  refine b_le (fun t5=>?_) (fun t5=>?_)
  (exfalso; omega)
  refine ix_at hgi ?_ ?_
  assumption
  refine ar_add ?_ ?_
  refine an ?_ ?_
  (show (-9223372036854775808:Int)≤(↑k:Int)+(1:Int); omega)
  (show (↑k:Int)+(1:Int)≤(9223372036854775807:Int); omega)
  rotate_left
  (exfalso; omega)
  all_goals exact fin
 ·have e:k=ch.length:=by omega
  subst e
  rw [List.drop_eq_nil_of_le (Nat.le_refl _)] at hi
  have hi:now=of:=hi
  subst hi
  refine sd ?_
  refine b_lt (fun t1=>?_) (fun t1=>?_)
  (exfalso; omega)
  rotate_left
  all_goals exact hQ
end Vc
