import Derived.Test.YtifgdpnmgeffbaaGreatDoorG21
set_option linter.unusedSectionVars false
set_option linter.unusedVariables false
set_option linter.unusedSimpArgs false
set_option maxRecDepth 10000
set_option maxHeartbeats 4000000
namespace Vc
open Go Go.Proofs
@[irreducible] def seg113j:ACode:=(.loop
 (.post [2,3,8,9,10,11] [2,3,4,5,6,7,8]
 (.seq
 (.seq
 (.reg [] [⟨some 30,.mov (.tmp 11),none⟩,
 ⟨some 31,.fad 1 (.tmp 2),none⟩,
 ⟨some 32,.ld false 1 (.tmp 31),none⟩,
 ⟨some 33,.len (.tmp 32),none⟩,
 ⟨some 34,.cmp .lss (.tmp 30) (.tmp 33),none⟩])
 (.cond (.tmp 34)
 .skip
 (.exit 2)))
 (.seq
 (.block 3
 (.seq
 (.reg [4] [⟨some 37,.fad 1 (.tmp 2),none⟩,
 ⟨some 38,.ld false 1 (.tmp 37),none⟩,
 ⟨some 39,.mov (.tmp 11),none⟩,
 ⟨some 40,.ixa 6 (.tmp 38) (.tmp 39),none⟩,
 ⟨some 41,.ld true 6 (.tmp 40),none⟩,
 ⟨some 12,.alloc 4 [(.d (.str [])),(.d (.str [])),(.d (.str [])),(.d (.str [])),(.d (.int .i64 0)),(.d (.int .i64 0))],none⟩,
 ⟨none,.st 6 (.tmp 12) (.tmp 41),none⟩])
 (.seq
 (.regd [] [⟨some 42,.ld true 6 (.tmp 12),none⟩,
 ⟨some 43,.ld true 4 (.tmp 3),none⟩,
 ⟨some 44,.call 115 [(.tmp 42),(.tmp 43)],none⟩,
 ⟨some 45,.mov (.tmp 44),none⟩,
 ⟨some 46,.fad 0 (.tmp 12),some (45,true)⟩,
 ⟨some 47,.ld false 1 (.tmp 46),some (45,true)⟩,
 ⟨some 48,.mov (.tmp 8),some (45,true)⟩,
 ⟨some 49,.mov (.tmp 10),some (45,true)⟩,
 ⟨some 50,.ixa 1 (.tmp 48) (.tmp 49),some (45,true)⟩,
 ⟨some 51,.ld false 1 (.tmp 50),some (45,true)⟩,
 ⟨some 52,.seq false (.tmp 47) (.tmp 51),some (45,true)⟩,
 ⟨some 53,.pick (.tmp 45) (.tmp 52) (.cst (.d (.bool false))),none⟩,
 ⟨some 54,.mov (.tmp 53),none⟩,
 ⟨some 55,.mov (.tmp 8),some (54,true)⟩,
 ⟨some 56,.fad 1 (.tmp 12),some (54,true)⟩,
 ⟨some 57,.ld false 1 (.tmp 56),some (54,true)⟩,
 ⟨some 58,.call 92 [(.tmp 55),(.tmp 57)],some (54,true)⟩,
 ⟨some 59,.not (.tmp 58),some (54,true)⟩,
 ⟨some 60,.pick (.tmp 54) (.tmp 59) (.cst (.d (.bool false))),none⟩] [(0,1),(4,6),(5,6),(4,7),(5,7),(6,7),(4,8),(5,8),(4,9),(5,9),(13,14),(13,15)])
 (.cond (.tmp 60)
 (.regd [5,6,7,8] [⟨some 61,.mov (.tmp 8),none⟩,
 ⟨some 62,.fad 1 (.tmp 12),none⟩,
 ⟨some 63,.ld false 1 (.tmp 62),none⟩,
 ⟨some 64,.bsl 5 9 1 1 [(.str [])] [(0,(.tmp 63))],none⟩,
 ⟨some 65,.app 6 9 1 16 (.tmp 61) (.tmp 64),none⟩,
 ⟨some 66,.mov (.tmp 9),none⟩,
 ⟨some 67,.mov (.tmp 9),none⟩,
 ⟨some 68,.mov (.tmp 10),none⟩,
 ⟨some 69,.ixa 1 (.tmp 67) (.tmp 68),none⟩,
 ⟨some 70,.ld false 1 (.tmp 69),none⟩,
 ⟨some 71,.arith .add .i64 (.tmp 70) (.cst (.d (.int .i64 1))),none⟩,
 ⟨some 72,.bsl 7 3 1 1 [(.int .i64 0)] [(0,(.tmp 71))],none⟩,
 ⟨some 73,.app 8 3 1 8 (.tmp 66) (.tmp 72),none⟩,
 ⟨some 8,.mov (.tmp 65),none⟩,
 ⟨some 9,.mov (.tmp 73),none⟩] [(0,1),(0,2),(0,3),(0,5),(1,5),(2,5),(3,5),(4,5),(0,6),(1,6),(2,6),(3,6),(4,6),(5,6),(0,7),(1,7),(2,7),(3,7),(4,7),(5,7),(6,7),(0,8),(1,8),(2,8),(3,8),(4,8),(5,8),(0,9),(1,9),(2,9),(3,9),(4,9),(5,9),(0,10),(1,10),(2,10),(3,10),(4,10),(5,10),(0,11),(1,11),(2,11),(3,11),(4,11),(5,11)])
 .skip))))
 (.reg [] [⟨some 35,.mov (.tmp 11),none⟩,
 ⟨some 36,.arith .add .i64 (.tmp 35) (.cst (.d (.int .i64 1))),none⟩,
 ⟨some 11,.mov (.tmp 36),none⟩])))))
def jr113:AFun:=⟨76,9,[.tmp 4,.tmp 5],
 (.seq
 (.reg [0,1] [⟨some 2,.cbx 0 2 (.tmp 0),none⟩,
  ⟨some 3,.cbx 1 4 (.tmp 1),none⟩,
  ⟨some 4,.mov (.cst (.nils 1)),none⟩,
  ⟨some 5,.mov (.cst (.nils 1)),none⟩])
 (.seq
  (.reg [] [⟨some 14,.fad 0 (.tmp 2),none⟩,
   ⟨some 15,.ld false 1 (.tmp 14),none⟩,
   ⟨some 16,.fad 2 (.tmp 3),none⟩,
   ⟨some 17,.ld false 1 (.tmp 16),none⟩,
   ⟨some 18,.call 109 [(.tmp 15),(.tmp 17)],none⟩,
   ⟨some 13,.mov (.tmp 18),none⟩,
   ⟨some 19,.ext 0 (.tmp 13),none⟩,
   ⟨some 20,.ext 1 (.tmp 13),none⟩,
   ⟨some 6,.mov (.tmp 19),none⟩,
   ⟨some 7,.mov (.tmp 20),none⟩])
  (.seq
  (.reg [2,3] [⟨some 21,.mov (.tmp 6),none⟩,
   ⟨some 22,.bsl 2 9 1 1 [(.str [])] [(0,(.tmp 21))],none⟩,
   ⟨some 23,.bsl 3 3 1 1 [(.int .i64 0)] [(0,(.cst (.d (.int .i64 0))))],none⟩,
   ⟨some 8,.mov (.tmp 22),none⟩,
   ⟨some 9,.mov (.tmp 23),none⟩])
  (.seq
   (.seq
   (.reg [] [⟨some 10,.mov (.cst (.d (.int .i64 0))),none⟩])
   (.post [8,9] [0,1,2,3,4,5,6,7,8]
    (.block 0
    (.asrow 8 3 1 9
     (.asrow 6 9 1 8
     (.keep [2,3,8,9,10] [0,1,2,3]
      (.loop
      (.post [2,3,8,9,10] [4,5,6,7,8]
       (.seq
       (.seq
        (.reg [] [⟨some 24,.mov (.tmp 10),none⟩,
         ⟨some 25,.mov (.tmp 8),none⟩,
         ⟨some 26,.len (.tmp 25),none⟩,
         ⟨some 27,.cmp .lss (.tmp 24) (.tmp 26),none⟩])
        (.cond (.tmp 27)
        .skip
        (.exit 0)))
       (.seq
        (.block 1
        (.seq
         (.reg [] [⟨some 11,.mov (.cst (.d (.int .i64 0))),none⟩])
         (.post [2,3,8,9,10] [0,1,2,3,4,5,6,7,8]
         (.block 2
          (.asrow 8 3 1 9
          (.asrow 6 9 1 8
           (.keep [2,3,8,9,10,11] [0,1,2,3]
           seg113j)))))))
        (.reg [] [⟨some 28,.mov (.tmp 10),none⟩,
         ⟨some 29,.arith .add .i64 (.tmp 28) (.cst (.d (.int .i64 1))),none⟩,
         ⟨some 10,.mov (.tmp 29),none⟩])))))))))))
   (.seq
   (.reg [] [⟨some 74,.mov (.tmp 8),none⟩,
    ⟨some 75,.mov (.tmp 9),none⟩,
    ⟨some 4,.mov (.tmp 74),none⟩,
    ⟨some 5,.mov (.tmp 75),none⟩])
   .ret)))))⟩
section
variable (ri ob : List UInt8) (day : Int)
def hoG (n:Nm) (d:Int):List Gr→List Nm→List Int→List Nm × List Int
 | [],L,K=>(L,K)
 | g::r,L,K=>bif holdB ri ob day g&&(g.fr==n&&!L.contains g.to) then hoG n d r (L++[g.to]) (K++[d+1]) else hoG n d r L K
def hoL (G:List Gr):Nat→Nat→List Nm→List Int→List Nm × List Int
 | 0,_,L,K=>(L,K)
 | f+1,i,L,K=>match L[i]?,K[i]? with
  | some n,some d=>hoL G f (i+1) (hoG ri ob day n d G L K).1 (hoG ri ob day n d G L K).2
  | _,_=>(L,K)
end
def hS (b:Bool) (L:List Nm):AVal:=bif b then .sl 2 1 else .sl 6 (strs L).length
def hD (b:Bool) (K:List Int):AVal:=bif b then .sl 3 1 else .sl 8 (ints K).length
def hO (b:Bool) (x y:AObj):AObj:=bif b then x else y
structure HI (G:List Gr) (i:Nat) (n:Nm) (d:Int) (m:Nat) (L:List Nm) (K:List Int):Prop where
 hm:m≤40
 hn:L[i]?=some n
 hd:K[i]?=some d
 hc:cntR L G+L.length≤m
 hl:K.length=L.length
 hz:∀ z∈K,0≤z∧z < (K.length:Int)
theorem get_snoc {α:Type} {l:List α} {i:Nat} {x y:α} (h:l[i]?=some x):(l++[y])[i]?=some x:=by
 rw [List.getElem?_append_left (List.getElem?_eq_some_iff.1 h).1]; exact h
theorem HI.step {G:List Gr} {i:Nat} {n:Nm} {d:Int} {m:Nat} {L:List Nm} {K:List Int} (h:HI G i n d m L K) {g:Gr} (hg:g∈G) (hc:L.contains g.to=false):HI G i n d m (L++[g.to]) (K++[d+1]):=by
 have h1:=cntR_new hg hc
 have h2:=h.hc
 have h3:=h.hl
 have h4:=h.hz d (List.mem_of_getElem? h.hd)
 refine ⟨h.hm,get_snoc h.hn,get_snoc h.hd,?_,?_,?_⟩
 ·rw [List.length_append]; show _+(L.length+1)≤m; omega
 ·rw [List.length_append,List.length_append]; show K.length+1=L.length+1; omega
 ·intro z hz
  rw [List.length_append]
  show 0≤z∧z < ((K.length+1:Nat):Int)
  rcases List.mem_append.1 hz with hz | hz
  ·have:=h.hz z hz; omega
  ·rw [List.mem_singleton.1 hz]; omega
theorem strs_snoc (L:List Nm) (x:Nm):strs (L++[x])=strs L++[Data.str x]:=List.map_append
theorem strs_len (L:List Nm):(strs L).length=L.length:=List.length_map _
theorem strs_get {L:List Nm} {i:Nat} {n:Nm} (h:L[i]?=some n):(strs L)[((i:Nat):Int).toNat]?=some (.str n):=by
 show (L.map _)[i]?=_
 rw [List.getElem?_map,h]; rfl
theorem v113j {l : List Ob} {G : List Gr} {of ri ob : Nm} {day : Int} {i m : Nat} {n : Nm} {d : Int} {L0 : List Nm} {K0 : List Int} (hG : G.length ≤ 32) (hI : HI G i n d m L0 K0) {Q : AExit → St → Prop}
  (hn:∀ (L:List Nm) (K:List Int),HI G i n d m L K→hoG ri ob day n d G L0 K0=(L,K)→Q (.exit 2) ⟨[(2,.ptr 0 0),(3,.ptr 1 0),(8,.sl 2 (strs (L)).length),(9,.sl 3 (ints (K)).length),(10,.d (.int .i64 (i:Nat))),(11,.d (.int .i64 ((G.length:Nat)))),(30,.d (.int .i64 ((G.length:Nat):Int))),(31,.ptr 0 1),(32,.d (.slice 6 (grs G))),(33,.d (.int .i64 ((((grs G).length:Nat)):Int))),(34,.d (.bool (cmpF .lss ((G.length:Nat):Int) (((grs G).length:Nat):Int))))],[.cbox [.slice 2 (obs l),.slice 6 (grs G)],.cbox [.str of,.str ri,.str ob,.int .i64 day],.row 9 1 (strs (L)) false,.row 3 1 (ints (K)) false,.none,.none,.none,.none,.none]⟩):vc Tryz.prog 76 seg113j ⟨[(2,.ptr 0 0),(3,.ptr 1 0),(8,.sl 2 (strs (L0)).length),(9,.sl 3 (ints (K0)).length),(10,.d (.int .i64 (i:Nat))),(11,.d (.int .i64 (0)))],[.cbox [.slice 2 (obs l),.slice 6 (grs G)],.cbox [.str of,.str ri,.str ob,.int .i64 day],.row 9 1 (strs (L0)) false,.row 3 1 (ints (K0)) false,.none,.none,.none,.none,.none]⟩ Q:=by
 have hlg:=grs_len G
 unfold seg113j
 refine loop_st (fun p:Nat × List Nm × List Int=>⟨[(2,.ptr 0 0),(3,.ptr 1 0),(8,.sl 2 (strs (p.2.1)).length),(9,.sl 3 (ints (p.2.2)).length),(10,.d (.int .i64 (i:Nat))),(11,.d (.int .i64 ((p.1:Nat))))],[.cbox [.slice 2 (obs l),.slice 6 (grs G)],.cbox [.str of,.str ri,.str ob,.int .i64 day],.row 9 1 (strs (p.2.1)) false,.row 3 1 (ints (p.2.2)) false,.none,.none,.none,.none,.none]⟩) (fun p=>(p.1≤G.length∧HI G i n d m p.2.1 p.2.2)∧hoG ri ob day n d G L0 K0=hoG ri ob day n d (G.drop p.1) p.2.1 p.2.2) (fun p=>G.length - p.1) (0,L0,K0) rfl ⟨⟨Nat.zero_le _,hI⟩,rfl⟩ ?_
 rintro ⟨k,L,K⟩ ⟨⟨hk0,hI0⟩,hi0⟩
 have hk:k≤G.length:=hk0
 have hJ:HI G i n d m L K:=hI0
 have hi:hoG ri ob day n d G L0 K0=hoG ri ob day n d (G.drop k) L K:=hi0
 clear hk0 hI0 hi0 hI
 dsimp only
 have hJc:=hJ.hc
 have hJm:=hJ.hm
 have hJl:=hJ.hl
 have hsl:=strs_len L
 have hil:=ints_len K
 by_cases hkn:k < G.length
 ·refine Exists.elim (get_lt G hkn) fun g hx=>?_
  have hx1:=grs_at hx
  have c115_:=c115 g of ri ob day
  have c92_:=c92 L g.to (by omega)
  rw [drop_at hx,hoG] at hi
  have hLg:=strs_get hJ.hn
  have hKg:=ints_get hJ.hd
  have hdz:=hJ.hz d (List.mem_of_getElem? hJ.hd)
  have hiL:i < L.length:=(List.getElem?_eq_some_iff.1 hJ.hn).1
  have fin:hoG ri ob day n d G L0 K0=hoG ri ob day n d (G.drop (k+1)) L K→∃ a':Nat × List Nm × List Int,(((a'.1≤G.length∧HI G i n d m a'.2.1 a'.2.2)∧hoG ri ob day n d G L0 K0=hoG ri ob day n d (G.drop a'.1) a'.2.1 a'.2.2)∧G.length - a'.1 < G.length - k)∧(⟨[(2,.ptr 0 0),(3,.ptr 1 0),(8,.sl 2 (strs (L)).length),(9,.sl 3 (ints (K)).length),(10,.d (.int .i64 (i:Nat))),(11,.d (.int .i64 ((k:Int)+1)))],[.cbox [.slice 2 (obs l),.slice 6 (grs G)],.cbox [.str of,.str ri,.str ob,.int .i64 day],.row 9 1 (strs (L)) false,.row 3 1 (ints (K)) false,.none,.none,.none,.none,.none]⟩:St)=⟨[(2,.ptr 0 0),(3,.ptr 1 0),(8,.sl 2 (strs (a'.2.1)).length),(9,.sl 3 (ints (a'.2.2)).length),(10,.d (.int .i64 (i:Nat))),(11,.d (.int .i64 ((a'.1:Nat))))],[.cbox [.slice 2 (obs l),.slice 6 (grs G)],.cbox [.str of,.str ri,.str ob,.int .i64 day],.row 9 1 (strs (a'.2.1)) false,.row 3 1 (ints (a'.2.2)) false,.none,.none,.none,.none,.none]⟩:=fun h=>⟨(k+1,L,K),⟨⟨⟨by show k+1≤G.length; omega,hJ⟩,h⟩,by show G.length - (k+1) < G.length - k; omega⟩,rfl⟩
  have fin2:HI G i n d m (L++[g.to]) (K++[d+1])→hoG ri ob day n d G L0 K0=hoG ri ob day n d (G.drop (k+1)) (L++[g.to]) (K++[d+1])→∃ a':Nat × List Nm × List Int,(((a'.1≤G.length∧HI G i n d m a'.2.1 a'.2.2)∧hoG ri ob day n d G L0 K0=hoG ri ob day n d (G.drop a'.1) a'.2.1 a'.2.2)∧G.length - a'.1 < G.length - k)∧(⟨[(2,.ptr 0 0),(3,.ptr 1 0),(8,.sl 2 (strs (L++[g.to])).length),(9,.sl 3 (ints (K++[d+1])).length),(10,.d (.int .i64 (i:Nat))),(11,.d (.int .i64 ((k:Int)+1)))],[.cbox [.slice 2 (obs l),.slice 6 (grs G)],.cbox [.str of,.str ri,.str ob,.int .i64 day],.row 9 1 (strs (L++[g.to])) false,.row 3 1 (ints (K++[d+1])) false,.none,.none,.none,.none,.none]⟩:St)=⟨[(2,.ptr 0 0),(3,.ptr 1 0),(8,.sl 2 (strs (a'.2.1)).length),(9,.sl 3 (ints (a'.2.2)).length),(10,.d (.int .i64 (i:Nat))),(11,.d (.int .i64 ((a'.1:Nat))))],[.cbox [.slice 2 (obs l),.slice 6 (grs G)],.cbox [.str of,.str ri,.str ob,.int .i64 day],.row 9 1 (strs (a'.2.1)) false,.row 3 1 (ints (a'.2.2)) false,.none,.none,.none,.none,.none]⟩:=fun h0 h=>⟨(k+1,L++[g.to],K++[d+1]),⟨⟨⟨by show k+1≤G.length; omega,h0⟩,h⟩,by show G.length - (k+1) < G.length - k; omega⟩,rfl⟩
  cases hh:holdB ri ob day g with
  | false =>
   rw [hh] at c115_ hi
   have fin:=fin hi
   clear fin2
   refine sd ?_
   refine b_lt (fun t1=>?_) (fun t1=>?_)
   refine ix_at hx1 ?_ ?_
   (show (0:Int)≤(↑k:Int); omega)
   refine ca c115_ ?_
   refine sd ?_
   refine sd ?_
   refine ar_add ?_ ?_
   refine an ?_ ?_
   (show (-9223372036854775808:Int)≤(↑k:Int)+(1:Int); omega)
   (show (↑k:Int)+(1:Int)≤(9223372036854775807:Int); omega)
   rotate_left
   (exfalso; omega)
   all_goals exact fin
  | true =>
   rw [hh] at c115_ hi
   cases h1:(g.fr==n) with
   | false =>
    rw [h1] at hi
    have fin:=fin hi
    clear fin2
    refine sd ?_
    refine b_lt (fun t1=>?_) (fun t1=>?_)
    refine ix_at hx1 ?_ ?_
    (show (0:Int)≤(↑k:Int); omega)
    refine ca c115_ ?_
    refine an ?_ ?_
    refine an ?_ ?_
    exact rfl
    refine an ?_ ?_
    exact rfl
    refine an ?_ ?_
    (show (0:Int)≤(↑i:Int); omega)
    (show (↑i:Int) < (↑(List.length (strs L)):Int); omega)
    refine sd ?_
    refine ca hLg ?_
    refine b_f h1 ?_
    refine sd ?_
    refine ar_add ?_ ?_
    refine an ?_ ?_
    (show (-9223372036854775808:Int)≤(↑k:Int)+(1:Int); omega)
    (show (↑k:Int)+(1:Int)≤(9223372036854775807:Int); omega)
    rotate_left
    (exfalso; omega)
    all_goals exact fin
   | true =>
    rw [h1] at hi
    cases h2:(L).contains g.to with
    | true =>
     rw [h2] at hi c92_
     have fin:=fin hi
     clear fin2
     refine sd ?_
     refine b_lt (fun t1=>?_) (fun t1=>?_)
     refine ix_at hx1 ?_ ?_
     (show (0:Int)≤(↑k:Int); omega)
     refine ca c115_ ?_
     refine an ?_ ?_
     refine an ?_ ?_
     exact rfl
     refine an ?_ ?_
     exact rfl
     refine an ?_ ?_
     (show (0:Int)≤(↑i:Int); omega)
     (show (↑i:Int) < (↑(List.length (strs L)):Int); omega)
     refine sd ?_
     refine ca hLg ?_
     refine b_t h1 ?_
     refine sd ?_
     refine ca c92_ ?_
     refine ar_add ?_ ?_
     refine an ?_ ?_
     (show (-9223372036854775808:Int)≤(↑k:Int)+(1:Int); omega)
     (show (↑k:Int)+(1:Int)≤(9223372036854775807:Int); omega)
     rotate_left
     (exfalso; omega)
     all_goals exact fin
    | false =>
     rw [h2] at hi c92_
     have fin:=fin2 (hJ.step (List.mem_of_getElem? hx) h2) hi
     clear fin2
     rw [strs_snoc,ints_snoc] at fin
     refine sd ?_
     refine b_lt (fun t1=>?_) (fun t1=>?_)
     refine ix_at hx1 ?_ ?_
     (show (0:Int)≤(↑k:Int); omega)
     refine ca c115_ ?_
     refine an ?_ ?_
     refine an ?_ ?_
     exact rfl
     refine an ?_ ?_
     exact rfl
     refine an ?_ ?_
     (show (0:Int)≤(↑i:Int); omega)
     (show (↑i:Int) < (↑(List.length (strs L)):Int); omega)
     refine sd ?_
     refine ca hLg ?_
     refine b_t h1 ?_
     refine sd ?_
     refine ca c92_ ?_
     refine sd ?_
     refine sd ?_
     refine sd ?_
     refine an ?_ ?_
     refine an ?_ ?_
     exact rfl
     refine an ?_ ?_
     exact rfl
     refine an ?_ ?_
     exact rfl
     refine an ?_ ?_
     (show (List.length (strs L)+(1:Nat)) * (16:Nat)≤(2:Nat) ^ (47:Nat); omega)
     (show List.length (strs L)+(1:Nat)≤(2:Nat) ^ (47:Nat); omega)
     refine an ?_ ?_
     refine an ?_ ?_
     exact rfl
     refine an ?_ ?_
     exact rfl
     refine an ?_ ?_
     (show (0:Int)≤(↑i:Int); omega)
     (show (↑i:Int) < (↑(List.length (ints K)):Int); omega)
     refine sd ?_
     refine ca hKg ?_
     refine ar_add ?_ ?_
     refine an ?_ ?_
     (show (-9223372036854775808:Int)≤d+(1:Int); omega)
     (show d+(1:Int)≤(9223372036854775807:Int); omega)
     refine sd ?_
     refine sd ?_
     refine sd ?_
     refine an ?_ ?_
     refine an ?_ ?_
     exact rfl
     refine an ?_ ?_
     exact rfl
     refine an ?_ ?_
     exact rfl
     refine an ?_ ?_
     (show (List.length (ints K)+(1:Nat)) * (8:Nat)≤(2:Nat) ^ (47:Nat); omega)
     (show List.length (ints K)+(1:Nat)≤(2:Nat) ^ (47:Nat); omega)
     refine ar_add ?_ ?_
     refine an ?_ ?_
     (show (-9223372036854775808:Int)≤(↑k:Int)+(1:Int); omega)
     (show (↑k:Int)+(1:Int)≤(9223372036854775807:Int); omega)
     rotate_left
     (exfalso; omega)
     all_goals exact fin
 ·have e:k=G.length:=by omega
  subst e
  rw [List.drop_eq_nil_of_le (Nat.le_refl _)] at hi
  have hn:=hn L K hJ hi
  clear hi
  refine sd ?_
  refine b_lt (fun t1=>?_) (fun t1=>?_)
  (exfalso; omega)
  rotate_left
  all_goals exact hn
theorem c113 (l:List Ob) (G:List Gr) (of ri ob:Nm) (day:Int) (hl:l.length≤1048576) (hG:G.length≤32):CallDet Tryz.prog 113 [.d (.agg [.slice 2 (obs l),.slice 6 (grs G)]),.d (.agg [.str of,.str ri,.str ob,.int .i64 day])] [.slice 1 (strs (hoL ri ob day G (G.length+2) 0 [(ownO l ob).getD []] [0]).1),.slice 1 (ints (hoL ri ob day G (G.length+2) 0 [(ownO l ob).getD []] [0]).2)]:=by
 have c109_:=c109 l ob hl
 refine call_of_vc (x:=jr113) (by kernel_rfl) rfl ?_
 generalize hX:hoL ri ob day G (G.length+2) 0 [(ownO l ob).getD []] [0]=X
 refine ca c109_ ?_
 refine sd ?_
 refine sd ?_
 rotate_left
 refine loop_st (fun p:Nat × Nat × List Nm × List Int=>⟨[(2,.ptr 0 0),(3,.ptr 1 0),(8,.sl 2 (strs (p.2.2.1)).length),(9,.sl 3 (ints (p.2.2.2)).length),(10,.d (.int .i64 ((p.2.1:Nat))))],[.cbox [.slice 2 (obs l),.slice 6 (grs G)],.cbox [.str of,.str ri,.str ob,.int .i64 day],.row 9 1 (strs (p.2.2.1)) false,.row 3 1 (ints (p.2.2.2)) false,.none,.none,.none,.none,.none]⟩) (fun p=>((cntR p.2.2.1 G+(p.2.2.1.length - p.2.1) < p.1∧p.2.1≤p.2.2.1.length)∧(cntR p.2.2.1 G+p.2.2.1.length≤40∧(p.2.2.2.length=p.2.2.1.length∧∀ z∈p.2.2.2,0≤z∧z < (p.2.2.2.length:Int))))∧hoL ri ob day G p.1 p.2.1 p.2.2.1 p.2.2.2=X) (fun p=>p.1) (G.length+2,0,[(ownO l ob).getD []],[0]) rfl ⟨⟨⟨?_,Nat.zero_le _⟩,⟨?_,⟨rfl,?_⟩⟩⟩,hX⟩ ?_
 ·have:=cntR_le [(ownO l ob).getD []] G
  show cntR [(ownO l ob).getD []] G+1 < G.length+2
  omega
 ·have:=cntR_le [(ownO l ob).getD []] G
  show cntR [(ownO l ob).getD []] G+1≤40
  omega
 ·intro z hz
  rw [List.mem_singleton.1 hz]
  exact ⟨Int.le_refl _,(by decide:(0:Int) < 1)⟩
 clear hX
 rintro ⟨f,i,L,K⟩ ⟨⟨⟨hm0,hk0⟩,⟨hc0,⟨hl0,hz0⟩⟩⟩,hi0⟩
 have hm1:cntR L G+(L.length - i) < f:=hm0
 have hk1:i≤L.length:=hk0
 have hc1:cntR L G+L.length≤40:=hc0
 have hl1:K.length=L.length:=hl0
 have hz1:∀ z∈K,0≤z∧z < (K.length:Int):=hz0
 have hi1:hoL ri ob day G f i L K=X:=hi0
 clear hm0 hk0 hc0 hl0 hz0 hi0
 dsimp only
 have hsl:=strs_len L
 have hil:=ints_len K
 cases f with
 | zero=>exact absurd hm1 (Nat.not_lt_zero _)
 | succ f =>
  by_cases hkn:i < L.length
  ·refine Exists.elim (get_lt L hkn) fun n hxn=>?_
   refine Exists.elim (get_lt K (k:=i) (by omega)) fun d hxd=>?_
   rw [hoL,hxn,hxd] at hi1
   have hi2:hoL ri ob day G f (i+1) (hoG ri ob day n d G L K).1 (hoG ri ob day n d G L K).2=X:=hi1
   refine sd ?_
   refine sd ?_
   refine b_lt (fun t1=>?_) (fun t1=>?_)
   rotate_left
   (exfalso; omega)
   refine v113j (n:=n) (d:=d) (m:=cntR L G+L.length) hG ⟨hc1,hxn,hxd,Nat.le_refl _,hl1,hz1⟩ ?_
   intro L' K' hJ hh
   rw [hh] at hi2
   have hb1:=hJ.hc
   have hb2:i < L'.length:=(List.getElem?_eq_some_iff.1 hJ.hn).1
   have fin:∃ a':Nat × Nat × List Nm × List Int,((((cntR a'.2.2.1 G+(a'.2.2.1.length - a'.2.1) < a'.1∧a'.2.1≤a'.2.2.1.length)∧(cntR a'.2.2.1 G+a'.2.2.1.length≤40∧(a'.2.2.2.length=a'.2.2.1.length∧∀ z∈a'.2.2.2,0≤z∧z < (a'.2.2.2.length:Int))))∧hoL ri ob day G a'.1 a'.2.1 a'.2.2.1 a'.2.2.2=X)∧a'.1 < f+1)∧(⟨[(2,.ptr 0 0),(3,.ptr 1 0),(8,.sl 2 (strs (L')).length),(9,.sl 3 (ints (K')).length),(10,.d (.int .i64 ((i:Int)+1)))],[.cbox [.slice 2 (obs l),.slice 6 (grs G)],.cbox [.str of,.str ri,.str ob,.int .i64 day],.row 9 1 (strs (L')) false,.row 3 1 (ints (K')) false,.none,.none,.none,.none,.none]⟩:St)=⟨[(2,.ptr 0 0),(3,.ptr 1 0),(8,.sl 2 (strs (a'.2.2.1)).length),(9,.sl 3 (ints (a'.2.2.2)).length),(10,.d (.int .i64 ((a'.2.1:Nat))))],[.cbox [.slice 2 (obs l),.slice 6 (grs G)],.cbox [.str of,.str ri,.str ob,.int .i64 day],.row 9 1 (strs (a'.2.2.1)) false,.row 3 1 (ints (a'.2.2.2)) false,.none,.none,.none,.none,.none]⟩:=⟨(f,i+1,L',K'),⟨⟨⟨⟨by show cntR L' G+(L'.length - (i+1)) < f; omega,by show i+1≤L'.length; omega⟩,⟨by show cntR L' G+L'.length≤40; omega,⟨hJ.hl,hJ.hz⟩⟩⟩,hi2⟩,by show f < f+1; omega⟩,rfl⟩
   refine ar_add ?_ ?_
   refine an ?_ ?_
   (show (-9223372036854775808:Int)≤(↑i:Int)+(1:Int); omega)
   (show (↑i:Int)+(1:Int)≤(9223372036854775807:Int); omega)
   rotate_left
   all_goals exact fin
  ·have e:L[i]?=none:=List.getElem?_eq_none (by omega)
   have hi2:(L,K)=X:=by rw [← hi1,hoL,e]
   subst hi2
   refine sd ?_
   refine sd ?_
   refine b_lt (fun t1=>?_) (fun t1=>?_)
   (exfalso; omega)
   refine sd ?_
   refine sd ?_
   exact rfl
end Vc
