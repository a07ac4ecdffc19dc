import Derived.Test.YtifgdpnmgeffbaaGreatDoorG16
set_option linter.unusedSectionVars false
set_option linter.unusedVariables false
set_option linter.unusedSimpArgs false
set_option maxRecDepth 10000
set_option maxHeartbeats 4000000
namespace Vc
open Go Go.Proofs
@[irreducible] def seg102w:ACode:=(.post [2,3,4,10,12,13] []
 (.block 2
 (.keep [2,3,4,10,12,13,39,40,41] []
 (.loop
 (.post [2,3,4,10,12,13,39,40,41] [7]
 (.seq
 (.reg [] [⟨some 42,.cmp .lss (.tmp 41) (.tmp 40),none⟩])
 (.seq
 (.cond (.tmp 42)
 .skip
 (.exit 2))
 (.seq
 (.block 3
 (.seq
 (.reg [7] [⟨some 43,.ixa 2 (.tmp 39) (.tmp 41),none⟩,
 ⟨some 44,.ld true 2 (.tmp 43),none⟩,
 ⟨some 15,.alloc 7 [(.d (.str [])),(.nils 1)],none⟩,
 ⟨none,.st 2 (.tmp 15) (.tmp 44),none⟩])
 (.seq
 (.reg [] [⟨some 45,.ld true 4 (.tmp 3),none⟩,
 ⟨some 46,.mov (.tmp 2),none⟩,
 ⟨some 47,.call 158 [(.tmp 45),(.tmp 46)],none⟩])
 (.block 4
 (.keep [2,3,4,10,12,13,15,39,40,41,47] []
 (.rfor 8 (.tmp 47) [48,49]
 xa102
 xb102))))))
 (.reg [] [⟨some 82,.arith .add .i64 (.tmp 41) (.cst (.d (.int .i64 1))),none⟩,
 ⟨some 41,.mov (.tmp 82),none⟩])))))))))
theorem wys_at {W:List Way} {k:Nat} {w:Way} (h:W[k]?=some w):(wys W)[((k:Nat):Int).toNat]?=some (.agg [.str w.2,.slice 1 (ints w.1)]):=by
 show (W.map _)[k]?=_
 rw [List.getElem?_map,h]; rfl
theorem c158 (l:List Ob) (G:List Gr) (ri ob:Nm) (day:Int):CallDet Tryz.prog 158 [.d (.agg [.slice 2 (obs l),.slice 6 (grs G),.str ri,.str ob]),.d (.int .i64 day)] [(.fn (.func 187) [.agg [.slice 2 (obs l),.slice 6 (grs G),.str ri,.str ob],.agg [.int .i64 day]])]:=by
 refine call_of_vc (x:=jr158) (by kernel_rfl) rfl ?_
 exact rfl
section
variable (ri ob : List UInt8) (day : Int) (of : List UInt8)
theorem prG_len {w:Way} {q:Nat} (hw:w.1.length≤q):∀ {r:List Gr} {i:Int} {R R':List Nm} {N N':List Way},(∀ z∈N,z.1.length≤q+1)→prG ri ob day of w r i R N=(none,R',N')→∀ z∈N',z.1.length≤q+1
 | [],i,R,R',N,N',hN,h=>by cases h; exact hN
 | g::r,i,R,R',N,N',hN,h=>by
  rw [prG] at h
  cases hc:(holdB ri ob day g&&(g.fr==w.2&&!R.contains g.to)) with
  | false=>rw [hc] at h; exact prG_len hw hN h
  | true =>
   rw [hc] at h
   cases ho:(g.to==of) with
   | true=>rw [ho] at h; cases h
   | false =>
    rw [ho] at h
    refine prG_len hw (fun z hz=>?_) h
    rcases List.mem_append.1 hz with hz | hz
    ·exact hN z hz
    ·rw [List.mem_singleton.1 hz]
     show (w.1++[i]).length≤q+1
     rw [List.length_append]; show w.1.length+1≤q+1; omega
theorem prW_len {G:List Gr} {q:Nat}:∀ {W:List Way} {R R':List Nm} {N N':List Way},(∀ w∈W,w.1.length≤q)→(∀ z∈N,z.1.length≤q+1)→prW ri ob day of G W R N=(none,R',N')→∀ z∈N',z.1.length≤q+1
 | [],R,R',N,N',_,hN,h=>by cases h; exact hN
 | w::r,R,R',N,N',hw,hN,h=>by
  rw [prW] at h
  split at h
  ·cases h
  ·rename_i R1 N1 e
   exact prW_len (fun z hz=>hw z (List.mem_cons_of_mem _ hz)) (prG_len ri ob day of (hw w List.mem_cons_self) hN e) h
end
theorem v102w {l : List Ob} {G : List Gr} {ri ob of : Nm} {day : Int} {W : List Way} {R0 : List Nm} (hl : l.length ≤ 1048576) (hG : G.length ≤ 32) (hc : cntR R0 G ≤ 32) (hWl : W.length ≤ 1048576) (hW : ∀ w ∈ W, w.1.length ≤ 400) {Q : AExit → St → Prop}
  (hn:∀ (R:List Nm) (N:List Way),prW ri ob day of G W R0 []=(none,R,N)→Q .normal ⟨[(2,.d (.int .i64 day)),(3,.ptr 0 0),(4,.ptr 1 0),(10,.ptr 3 0),(12,.ptr 5 0),(13,.ptr 6 0)],[.cbox [.slice 2 (obs l),.slice 6 (grs G),.str ri,.str ob],.cbox [.str of],.mapo (KM R),.box [.mp 2],.none,.box [.nils 1],.box [nx N],.none,.none,.none,.none,.none,.none,nxo N,.none]⟩)
  (hx:∀ (c:List Int) (R:List Nm) (N:List Way) (w:Way) (g:Gr) (i n j:Int),prW ri ob day of G W R0 []=(some c,R,N)→c=w.1++[i]→Q (.exit 0) ⟨sl102 day (wys W) n j (.fn (.func 187) [.agg [.slice 2 (obs l),.slice 6 (grs G),.str ri,.str ob],.agg [.int .i64 day]]),setAll (HP l G ri ob of w (KM R) (.sl 11 (ints w.1++[Data.int .i64 i]).length) (nx N) .none (.box [.d (.str g.fr),.d (.str g.to),.d (.str g.ri),.d (.str g.ob),.d (.int .i64 g.a),.d (.int .i64 g.b)]) (.row 3 1 [.int .i64 i] false) (.row 3 1 (ints w.1++[Data.int .i64 i]) false) (nxo N) (.box [.d (.str g.fr),.d (.str g.to),.d (.str g.ri),.d (.str g.ob),.d (.int .i64 g.a),.d (.int .i64 g.b)])) []⟩):vc Tryz.prog 87 seg102w ⟨[(2,.d (.int .i64 day)),(3,.ptr 0 0),(4,.ptr 1 0),(10,.ptr 3 0),(12,.ptr 5 0),(13,.ptr 6 0),(39,.d (.slice 2 (wys W))),(40,.d (.int .i64 (((wys W).length:Nat):Int))),(41,.d (.int .i64 (0)))],[.cbox [.slice 2 (obs l),.slice 6 (grs G),.str ri,.str ob],.cbox [.str of],.mapo (KM R0),.box [.mp 2],.none,.box [.nils 1],.box [nx []],.none,.none,.none,.none,.none,.none,nxo [],.none]⟩ Q:=by
 unfold seg102w
 have hlW:=wys_len W
 refine loop_st (fun p:Nat × List Nm × List Way=>⟨[(2,.d (.int .i64 day)),(3,.ptr 0 0),(4,.ptr 1 0),(10,.ptr 3 0),(12,.ptr 5 0),(13,.ptr 6 0),(39,.d (.slice 2 (wys W))),(40,.d (.int .i64 (((wys W).length:Nat):Int))),(41,.d (.int .i64 ((p.1:Nat))))],[.cbox [.slice 2 (obs l),.slice 6 (grs G),.str ri,.str ob],.cbox [.str of],.mapo (KM p.2.1),.box [.mp 2],.none,.box [.nils 1],.box [nx p.2.2],.none,.none,.none,.none,.none,.none,nxo p.2.2,.none]⟩) (fun p=>(p.1≤W.length∧cntR p.2.1 G+p.2.2.length≤32)∧prW ri ob day of G W R0 []=prW ri ob day of G (W.drop p.1) p.2.1 p.2.2) (fun p=>W.length - p.1) (0,R0,[]) rfl ⟨⟨Nat.zero_le _,hc⟩,rfl⟩ ?_
 rintro ⟨k,R,N⟩ ⟨⟨hk,hcN⟩,hi⟩
 have hk:k≤W.length:=hk
 have hcN:cntR R G+N.length≤32:=hcN
 have hi:prW ri ob day of G W R0 []=prW ri ob day of G (W.drop k) R N:=hi
 dsimp only
 by_cases hkn:k < W.length
 ·refine Exists.elim (get_lt W hkn) fun w hx0=>?_
  have hx1:=wys_at hx0
  have hw:=hW w (List.mem_of_getElem? hx0)
  rw [drop_at hx0,prW] at hi
  have c158_:=c158 l G ri ob day
  have i187_:=i187 (l:=l) (G:=G) (ri:=ri) (ob:=ob) (of:=of) (w:=w) (day:=day) (n:=(((wys W).length:Nat):Int)) (j:=(k:Int)) (D:=wys W) (F:=(.fn (.func 187) [.agg [.slice 2 (obs l),.slice 6 (grs G),.str ri,.str ob],.agg [.int .i64 day]])) R N hl (by omega) (by omega) (by omega)
  cases hp:prG ri ob day of w G 0 R N with
  | mk o RN =>
   obtain ⟨R',N'⟩:=RN
   cases o with
   | none =>
    have hb:=prG_cnt ri ob day of (GA:=G) (fun g h=>h) hp
    rw [hp] at hi
    rw [endH_none hp] at i187_
    clear hx hn
    have fin:∃ a':Nat × List Nm × List Way,(((a'.1≤W.length∧cntR a'.2.1 G+a'.2.2.length≤32)∧prW ri ob day of G W R0 []=prW ri ob day of G (W.drop a'.1) a'.2.1 a'.2.2)∧W.length - a'.1 < W.length - k)∧(⟨[(2,.d (.int .i64 day)),(3,.ptr 0 0),(4,.ptr 1 0),(10,.ptr 3 0),(12,.ptr 5 0),(13,.ptr 6 0),(39,.d (.slice 2 (wys W))),(40,.d (.int .i64 (((wys W).length:Nat):Int))),(41,.d (.int .i64 (((k:Int)+1))))],[.cbox [.slice 2 (obs l),.slice 6 (grs G),.str ri,.str ob],.cbox [.str of],.mapo (KM R'),.box [.mp 2],.none,.box [.nils 1],.box [nx N'],.none,.none,.none,.none,.none,.none,nxo N',.none]⟩:St)=⟨[(2,.d (.int .i64 day)),(3,.ptr 0 0),(4,.ptr 1 0),(10,.ptr 3 0),(12,.ptr 5 0),(13,.ptr 6 0),(39,.d (.slice 2 (wys W))),(40,.d (.int .i64 (((wys W).length:Nat):Int))),(41,.d (.int .i64 ((a'.1:Nat))))],[.cbox [.slice 2 (obs l),.slice 6 (grs G),.str ri,.str ob],.cbox [.str of],.mapo (KM a'.2.1),.box [.mp 2],.none,.box [.nils 1],.box [nx a'.2.2],.none,.none,.none,.none,.none,.none,nxo a'.2.2,.none]⟩:=⟨(k+1,R',N'),⟨⟨⟨by show k+1≤W.length; omega,by show cntR R' G+N'.length≤32; omega⟩,hi⟩,by show W.length - (k+1) < W.length - k; omega⟩,rfl⟩
    cases N with
    | nil =>
     cases N' with
     | nil =>
      refine sd ?_
      refine b_lt (fun t1=>?_) (fun t1=>?_)
      refine ix_at hx1 ?_ ?_
      (show (0:Int)≤(↑k:Int); omega)
      refine ca c158_ ?_
      rotate_left
      (exfalso; omega)
      refine Exists.intro (.tup []) (Exists.intro _ (And.intro i187_ ?_))
      refine And.intro (by intro h; cases h) ?_
      refine ar_add ?_ ?_
      refine an ?_ ?_
      (show (-9223372036854775808:Int)≤(↑k:Int)+(1:Int); omega)
      (show (↑k:Int)+(1:Int)≤(9223372036854775807:Int); omega)
      rotate_left
      all_goals exact fin
     | cons y' r' =>
      refine sd ?_
      refine b_lt (fun t1=>?_) (fun t1=>?_)
      refine ix_at hx1 ?_ ?_
      (show (0:Int)≤(↑k:Int); omega)
      refine ca c158_ ?_
      rotate_left
      (exfalso; omega)
      refine Exists.intro (.tup []) (Exists.intro _ (And.intro i187_ ?_))
      refine And.intro (by intro h; cases h) ?_
      refine ar_add ?_ ?_
      refine an ?_ ?_
      (show (-9223372036854775808:Int)≤(↑k:Int)+(1:Int); omega)
      (show (↑k:Int)+(1:Int)≤(9223372036854775807:Int); omega)
      rotate_left
      all_goals exact fin
    | cons y r =>
     cases N' with
     | nil =>
      refine sd ?_
      refine b_lt (fun t1=>?_) (fun t1=>?_)
      refine ix_at hx1 ?_ ?_
      (show (0:Int)≤(↑k:Int); omega)
      refine ca c158_ ?_
      rotate_left
      (exfalso; omega)
      refine Exists.intro (.tup []) (Exists.intro _ (And.intro i187_ ?_))
      refine And.intro (by intro h; cases h) ?_
      refine ar_add ?_ ?_
      refine an ?_ ?_
      (show (-9223372036854775808:Int)≤(↑k:Int)+(1:Int); omega)
      (show (↑k:Int)+(1:Int)≤(9223372036854775807:Int); omega)
      rotate_left
      all_goals exact fin
     | cons y' r' =>
      refine sd ?_
      refine b_lt (fun t1=>?_) (fun t1=>?_)
      refine ix_at hx1 ?_ ?_
      (show (0:Int)≤(↑k:Int); omega)
      refine ca c158_ ?_
      rotate_left
      (exfalso; omega)
      refine Exists.intro (.tup []) (Exists.intro _ (And.intro i187_ ?_))
      refine And.intro (by intro h; cases h) ?_
      refine ar_add ?_ ?_
      refine an ?_ ?_
      (show (-9223372036854775808:Int)≤(↑k:Int)+(1:Int); omega)
      (show (↑k:Int)+(1:Int)≤(9223372036854775807:Int); omega)
      rotate_left
      all_goals exact fin
   | some c =>
    rw [hp] at hi
    obtain ⟨g,i',hc1,he⟩:=endH_some (l:=l) (n:=(((wys W).length:Nat):Int)) (j:=(k:Int)) (D:=wys W) (F:=(.fn (.func 187) [.agg [.slice 2 (obs l),.slice 6 (grs G),.str ri,.str ob],.agg [.int .i64 day]])) hp
    rw [he] at i187_
    have hx:=hx c R' N' w g i' (((wys W).length:Nat):Int) (k:Int) hi hc1
    clear hn
    cases N with
    | nil =>
     cases N' with
     | nil =>
      refine sd ?_
      refine b_lt (fun t1=>?_) (fun t1=>?_)
      refine ix_at hx1 ?_ ?_
      (show (0:Int)≤(↑k:Int); omega)
      refine ca c158_ ?_
      rotate_left
      (exfalso; omega)
      refine Exists.intro (.tup []) (Exists.intro _ (And.intro i187_ ?_))
      refine an ?_ ?_
      decide
      rotate_left
      all_goals exact hx
     | cons y' r' =>
      refine sd ?_
      refine b_lt (fun t1=>?_) (fun t1=>?_)
      refine ix_at hx1 ?_ ?_
      (show (0:Int)≤(↑k:Int); omega)
      refine ca c158_ ?_
      rotate_left
      (exfalso; omega)
      refine Exists.intro (.tup []) (Exists.intro _ (And.intro i187_ ?_))
      refine an ?_ ?_
      decide
      rotate_left
      all_goals exact hx
    | cons y r =>
     cases N' with
     | nil =>
      refine sd ?_
      refine b_lt (fun t1=>?_) (fun t1=>?_)
      refine ix_at hx1 ?_ ?_
      (show (0:Int)≤(↑k:Int); omega)
      refine ca c158_ ?_
      rotate_left
      (exfalso; omega)
      refine Exists.intro (.tup []) (Exists.intro _ (And.intro i187_ ?_))
      refine an ?_ ?_
      decide
      rotate_left
      all_goals exact hx
     | cons y' r' =>
      refine sd ?_
      refine b_lt (fun t1=>?_) (fun t1=>?_)
      refine ix_at hx1 ?_ ?_
      (show (0:Int)≤(↑k:Int); omega)
      refine ca c158_ ?_
      rotate_left
      (exfalso; omega)
      refine Exists.intro (.tup []) (Exists.intro _ (And.intro i187_ ?_))
      refine an ?_ ?_
      decide
      rotate_left
      all_goals exact hx
 ·have e:k=W.length:=by omega
  subst e
  rw [List.drop_eq_nil_of_le (Nat.le_refl _)] at hi
  have hn:=hn R N hi
  clear hx hi
  cases N with
  | nil =>
   refine sd ?_
   refine b_lt (fun t1=>?_) (fun t1=>?_)
   (exfalso; omega)
   rotate_left
   exact hn
  | cons y r =>
   refine sd ?_
   refine b_lt (fun t1=>?_) (fun t1=>?_)
   (exfalso; omega)
   rotate_left
   exact hn
end Vc
