import Derived.Test.YtifgdpnmgeffbaaGreatDoorG32
set_option linter.unusedSectionVars false
set_option linter.unusedVariables false
set_option linter.unusedSimpArgs false
set_option maxRecDepth 10000
set_option maxHeartbeats 4000000
namespace Vc
open Go Go.Proofs
def jr24:AFun:=⟨44,2,[.tmp 4,.tmp 5],
 (.seq
 (.reg [0,1] [⟨some 2,.cbx 0 2 (.tmp 0),none⟩,
  ⟨some 3,.cbx 1 4 (.tmp 1),none⟩,
  ⟨some 4,.mov (.cst (.nils 1)),none⟩,
  ⟨some 5,.mov (.cst (.d (.int .i64 0))),none⟩])
 (.seq
  (.reg [] [⟨some 12,.ld true 2 (.tmp 2),none⟩,
   ⟨some 13,.ld true 4 (.tmp 3),none⟩,
   ⟨some 14,.call 113 [(.tmp 12),(.tmp 13)],none⟩,
   ⟨some 11,.mov (.tmp 14),none⟩,
   ⟨some 15,.ext 0 (.tmp 11),none⟩,
   ⟨some 16,.ext 1 (.tmp 11),none⟩,
   ⟨some 6,.mov (.tmp 15),none⟩,
   ⟨some 7,.mov (.tmp 16),none⟩])
  (.seq
  (.seq
   (.reg [] [⟨some 8,.mov (.cst (.d (.int .i64 0))),none⟩])
   (.post [] [0,1]
   (.block 0
    (.keep [2,3,6,7,8] [0,1]
    (.loop
     (.post [2,3,6,7,8] []
     (.seq
      (.seq
      (.reg [] [⟨some 17,.mov (.tmp 8),none⟩,
       ⟨some 18,.mov (.tmp 6),none⟩,
       ⟨some 19,.len (.tmp 18),none⟩,
       ⟨some 20,.cmp .lss (.tmp 17) (.tmp 19),none⟩])
      (.cond (.tmp 20)
       .skip
       (.exit 0)))
      (.seq
      (.block 1
       (.seq
       (.regd [] [⟨some 23,.mov (.tmp 6),none⟩,
        ⟨some 24,.mov (.tmp 8),none⟩,
        ⟨some 25,.ixa 1 (.tmp 23) (.tmp 24),none⟩,
        ⟨some 26,.ld false 1 (.tmp 25),none⟩,
        ⟨some 27,.fad 0 (.tmp 3),none⟩,
        ⟨some 28,.ld false 1 (.tmp 27),none⟩,
        ⟨some 29,.seq false (.tmp 26) (.tmp 28),none⟩] [(0,1),(0,4),(1,4),(2,4),(3,4),(0,5),(1,5),(2,5),(3,5)])
       (.cond (.tmp 29)
        (.seq
        (.regd [] [⟨some 31,.ld true 2 (.tmp 2),none⟩,
         ⟨some 32,.ld true 4 (.tmp 3),none⟩,
         ⟨some 33,.mov (.tmp 6),none⟩,
         ⟨some 34,.ixa 1 (.tmp 33) (.cst (.d (.int .i64 0))),none⟩,
         ⟨some 35,.ld false 1 (.tmp 34),none⟩,
         ⟨some 36,.mov (.tmp 7),none⟩,
         ⟨some 37,.mov (.tmp 8),none⟩,
         ⟨some 38,.ixa 1 (.tmp 36) (.tmp 37),none⟩,
         ⟨some 39,.ld false 1 (.tmp 38),none⟩,
         ⟨some 40,.call 114 [(.tmp 31),(.tmp 32),(.cst (.nils 1)),(.tmp 35),(.tmp 39)],none⟩,
         ⟨some 30,.mov (.tmp 40),none⟩,
         ⟨some 41,.ext 0 (.tmp 30),none⟩,
         ⟨some 42,.ext 1 (.tmp 30),none⟩,
         ⟨some 9,.mov (.tmp 41),none⟩,
         ⟨some 10,.mov (.tmp 42),none⟩] [(0,1),(0,2),(1,2),(0,3),(1,3),(0,4),(1,4),(0,5),(1,5),(2,5),(3,5),(4,5),(0,6),(1,6),(2,6),(3,6),(4,6),(5,6),(0,7),(1,7),(2,7),(3,7),(4,7),(0,8),(1,8),(2,8),(3,8),(4,8),(11,12),(12,13)])
        (.seq
         (.reg [] [⟨some 43,.mov (.tmp 9),none⟩,
          ⟨some 4,.mov (.tmp 43),none⟩,
          ⟨some 5,.mov (.cst (.d (.int .i64 0))),none⟩])
         .ret))
        .skip)))
      (.reg [] [⟨some 21,.mov (.tmp 8),none⟩,
       ⟨some 22,.arith .add .i64 (.tmp 21) (.cst (.d (.int .i64 1))),none⟩,
       ⟨some 8,.mov (.tmp 22),none⟩])))))))))
  (.seq
   (.reg [] [⟨some 4,.mov (.cst (.nils 1)),none⟩,
    ⟨some 5,.mov (.cst (.d (.int .i64 7))),none⟩])
   .ret))))⟩
def jr114:AFun:=⟨69,7,[.tmp 10,.tmp 11],
 (.seq
 (.reg [0,1] [⟨some 5,.cbx 0 2 (.tmp 0),none⟩,
  ⟨some 6,.cbx 1 4 (.tmp 1),none⟩,
  ⟨some 10,.mov (.cst (.nils 1)),none⟩,
  ⟨some 11,.mov (.cst (.d (.bool false))),none⟩])
 (.seq
  (.seq
  (.reg [] [⟨some 16,.mov (.tmp 2),none⟩,
   ⟨some 17,.len (.tmp 16),none⟩,
   ⟨some 18,.mov (.tmp 4),none⟩,
   ⟨some 19,.cmp .eql (.tmp 17) (.tmp 18),none⟩])
  (.cond (.tmp 19)
   (.seq
   (.regd [] [⟨some 20,.mov (.tmp 2),none⟩,
    ⟨some 21,.mov (.tmp 3),none⟩,
    ⟨some 22,.fad 0 (.tmp 6),none⟩,
    ⟨some 23,.ld false 1 (.tmp 22),none⟩,
    ⟨some 24,.seq false (.tmp 21) (.tmp 23),none⟩,
    ⟨some 10,.mov (.tmp 20),none⟩,
    ⟨some 11,.mov (.tmp 24),none⟩] [(0,1),(0,2),(1,2),(0,3),(1,3),(0,4),(1,5),(2,5),(3,5),(4,5)])
   .ret)
   .skip))
  (.seq
  (.seq
   (.reg [] [⟨some 12,.mov (.cst (.d (.int .i64 0))),none⟩])
   (.post [] [0,1,2,3,4,5,6]
   (.block 0
    (.keep [2,3,4,5,6,12] [0,1]
    (.loop
     (.post [2,3,4,5,6,12] [2,3,4,5,6]
     (.seq
      (.seq
      (.reg [] [⟨some 25,.mov (.tmp 12),none⟩,
       ⟨some 26,.fad 1 (.tmp 5),none⟩,
       ⟨some 27,.ld false 1 (.tmp 26),none⟩,
       ⟨some 28,.len (.tmp 27),none⟩,
       ⟨some 29,.cmp .lss (.tmp 25) (.tmp 28),none⟩])
      (.cond (.tmp 29)
       .skip
       (.exit 0)))
      (.seq
      (.block 1
       (.seq
       (.reg [2] [⟨some 32,.fad 1 (.tmp 5),none⟩,
        ⟨some 33,.ld false 1 (.tmp 32),none⟩,
        ⟨some 34,.mov (.tmp 12),none⟩,
        ⟨some 35,.ixa 6 (.tmp 33) (.tmp 34),none⟩,
        ⟨some 36,.ld true 6 (.tmp 35),none⟩,
        ⟨some 13,.alloc 2 [(.d (.str [])),(.d (.str [])),(.d (.str [])),(.d (.str [])),(.d (.int .i64 0)),(.d (.int .i64 0))],none⟩,
        ⟨none,.st 6 (.tmp 13) (.tmp 36),none⟩])
       (.seq
        (.seq
        (.reg [] [⟨some 37,.ld true 6 (.tmp 13),none⟩,
         ⟨some 38,.ld true 4 (.tmp 6),none⟩,
         ⟨some 39,.call 115 [(.tmp 37),(.tmp 38)],none⟩,
         ⟨some 40,.not (.tmp 39),none⟩,
         ⟨some 41,.mov (.tmp 40),none⟩,
         ⟨some 42,.fad 0 (.tmp 13),some (41,false)⟩,
         ⟨some 43,.ld false 1 (.tmp 42),some (41,false)⟩,
         ⟨some 44,.mov (.tmp 3),some (41,false)⟩,
         ⟨some 45,.seq true (.tmp 43) (.tmp 44),some (41,false)⟩,
         ⟨some 46,.pick (.tmp 41) (.cst (.d (.bool true))) (.tmp 45),none⟩,
         ⟨some 47,.mov (.tmp 46),none⟩,
         ⟨some 48,.mov (.tmp 2),some (47,false)⟩,
         ⟨some 49,.mov (.tmp 12),some (47,false)⟩,
         ⟨some 50,.call 94 [(.tmp 48),(.tmp 49)],some (47,false)⟩,
         ⟨some 51,.pick (.tmp 47) (.cst (.d (.bool true))) (.tmp 50),none⟩])
        (.cond (.tmp 51)
         (.exit 1)
         .skip))
        (.seq
        (.regd [3,4,5,6] [⟨some 53,.ld true 2 (.tmp 5),none⟩,
         ⟨some 54,.ld true 4 (.tmp 6),none⟩,
         ⟨some 55,.bsl 3 3 1 0 [] [],none⟩,
         ⟨some 56,.mov (.tmp 2),none⟩,
         ⟨some 57,.app 4 3 1 8 (.tmp 55) (.tmp 56),none⟩,
         ⟨some 58,.mov (.tmp 12),none⟩,
         ⟨some 59,.bsl 5 3 1 1 [(.int .i64 0)] [(0,(.tmp 58))],none⟩,
         ⟨some 60,.app 6 3 1 8 (.tmp 57) (.tmp 59),none⟩,
         ⟨some 61,.fad 1 (.tmp 13),none⟩,
         ⟨some 62,.ld false 1 (.tmp 61),none⟩,
         ⟨some 63,.mov (.tmp 4),none⟩,
         ⟨some 64,.call 114 [(.tmp 53),(.tmp 54),(.tmp 60),(.tmp 62),(.tmp 63)],none⟩,
         ⟨some 52,.mov (.tmp 64),none⟩,
         ⟨some 65,.ext 0 (.tmp 52),none⟩,
         ⟨some 66,.ext 1 (.tmp 52),none⟩,
         ⟨some 14,.mov (.tmp 65),none⟩,
         ⟨some 15,.mov (.tmp 66),none⟩] [(0,1),(0,2),(1,2),(0,3),(1,3),(2,3),(0,4),(1,4),(0,5),(1,5),(2,5),(3,5),(4,5),(0,6),(1,6),(2,6),(3,6),(4,6),(0,7),(1,7),(0,8),(1,8),(2,8),(3,8),(4,8),(5,8),(6,8),(7,8),(0,9),(1,9),(2,9),(3,9),(4,9),(5,9),(6,9),(7,9),(0,10),(1,10),(2,10),(3,10),(4,10),(5,10),(6,10),(7,10),(8,10),(9,10),(13,14),(14,15)])
        (.seq
         (.reg [] [⟨some 67,.mov (.tmp 15),none⟩])
         (.cond (.tmp 67)
         (.seq
          (.reg [] [⟨some 68,.mov (.tmp 14),none⟩,
           ⟨some 10,.mov (.tmp 68),none⟩,
           ⟨some 11,.mov (.cst (.d (.bool true))),none⟩])
          .ret)
         .skip))))))
      (.reg [] [⟨some 30,.mov (.tmp 12),none⟩,
       ⟨some 31,.arith .add .i64 (.tmp 30) (.cst (.d (.int .i64 1))),none⟩,
       ⟨some 12,.mov (.tmp 31),none⟩])))))))))
  (.seq
   (.reg [] [⟨some 10,.mov (.cst (.nils 1)),none⟩,
    ⟨some 11,.mov (.cst (.d (.bool false))),none⟩])
   .ret))))⟩
section
variable (ri ob : List UInt8) (day : Int)
def exG (F:List Int→Nm→List Int × Bool) (c:List Int) (t:Nm):List Gr→Nat→List Int × Bool
 | [],_=>([],false)
 | g::r,k=>bif holdB ri ob day g&&(g.fr==t&&!c.contains (k:Int)) then (bif (F (c++[(k:Int)]) g.to).2 then ((F (c++[(k:Int)]) g.to).1,true) else exG F c t r (k+1)) else exG F c t r (k+1)
def exF (G:List Gr) (of:Nm):Nat→List Int→Nm→List Int × Bool
 | 0,c,t=>(c,t==of)
 | f+1,c,t=>exG ri ob day (exF G of f) c t G 0
end
theorem c23 (l:List Ob) (G:List Gr) (of ri ob:Nm) (day:Int) (hl:l.length≤1048576) (hG:G.length≤32) (hL:(hoL ri ob day G (G.length+2) 0 [(ownO l ob).getD []] [0]).1.length≤1048576):CallDet Tryz.prog 23 [.d (.agg [.slice 2 (obs l),.slice 6 (grs G)]),.d (.agg [.str of,.str ri,.str ob,.int .i64 day])] [.bool ((hoL ri ob day G (G.length+2) 0 [(ownO l ob).getD []] [0]).1.contains of)]:=by
 have c113_:=c113 l G of ri ob day hl hG
 have c92_:=c92 _ of hL
 refine call_of_vc (x:=jr23) (by kernel_rfl) rfl ?_
 refine ca c113_ ?_
 refine ca c92_ ?_
 exact rfl
theorem c114 (l:List Ob) (G:List Gr) (of ri ob:Nm) (day:Int) (D:Int) (hl:l.length≤1048576) (hG:G.length≤32) (hD:D≤40):∀ (f:Nat) (c:List Int) (t:Nm),(c.length:Int)+f=D→CallDet Tryz.prog 114 [.d (.agg [.slice 2 (obs l),.slice 6 (grs G)]),.d (.agg [.str of,.str ri,.str ob,.int .i64 day]),.d (.slice 1 (ints c)),.d (.str t),.d (.int .i64 D)] [.slice 1 (ints (exF ri ob day G of f c t).1),.bool (exF ri ob day G of f c t).2]:=by
 intro f
 have hlg:=grs_len G
 induction f with
 | zero =>
  intro c t hf
  have hli:=ints_len c
  refine call_of_vc (x:=jr114) (by kernel_rfl) rfl ?_
  have e:exF ri ob day G of 0 c t=(c,t==of):=rfl
  rw [e]
  refine sd ?_
  refine b_eq (fun t1=>?_) (fun t1=>?_)
  exact rfl
  (exfalso; omega)
 | succ f ih =>
  intro c t hf
  have hli:=ints_len c
  refine call_of_vc (x:=jr114) (by kernel_rfl) rfl ?_
  generalize hX:exF ri ob day G of (f+1) c t=X
  refine sd ?_
  refine b_eq (fun t1=>?_) (fun t1=>?_)
  (exfalso; omega)
  rotate_left
  refine loop_st (fun k:Nat=>⟨[(2,.d (.slice 1 (ints c))),(3,.d (.str t)),(4,.d (.int .i64 D)),(5,.ptr 0 0),(6,.ptr 1 0),(12,.d (.int .i64 ((k:Nat))))],[.cbox [.slice 2 (obs l),.slice 6 (grs G)],.cbox [.str of,.str ri,.str ob,.int .i64 day],.none,.none,.none,.none,.none]⟩) (fun k=>k≤G.length∧exG ri ob day (exF ri ob day G of f) c t (G.drop k) k=X) (fun k=>G.length - k) 0 rfl ⟨Nat.zero_le _,hX⟩ ?_
  clear hX
  rintro k ⟨hk0,hi0⟩
  have hk:k≤G.length:=hk0
  have hi:exG ri ob day (exF ri ob day G of f) c t (G.drop k) k=X:=hi0
  clear hk0 hi0
  dsimp only
  by_cases hkn:k < G.length
  ·refine Exists.elim (get_lt G hkn) fun g hx=>?_
   have hx1:=grs_at hx
   have c115_:=c115 g of ri ob day
   have c94_:=c94 c (k:Int) (by omega)
   rw [drop_at hx,exG] at hi
   have fin:exG ri ob day (exF ri ob day G of f) c t (G.drop (k+1)) (k+1)=X→∃ a':Nat,((a'≤G.length∧exG ri ob day (exF ri ob day G of f) c t (G.drop a') a'=X)∧G.length - a' < G.length - k)∧(⟨[(2,.d (.slice 1 (ints c))),(3,.d (.str t)),(4,.d (.int .i64 D)),(5,.ptr 0 0),(6,.ptr 1 0),(12,.d (.int .i64 ((k:Int)+1)))],[.cbox [.slice 2 (obs l),.slice 6 (grs G)],.cbox [.str of,.str ri,.str ob,.int .i64 day],.none,.none,.none,.none,.none]⟩:St)=⟨[(2,.d (.slice 1 (ints c))),(3,.d (.str t)),(4,.d (.int .i64 D)),(5,.ptr 0 0),(6,.ptr 1 0),(12,.d (.int .i64 ((a':Nat))))],[.cbox [.slice 2 (obs l),.slice 6 (grs G)],.cbox [.str of,.str ri,.str ob,.int .i64 day],.none,.none,.none,.none,.none]⟩:=fun h=>⟨k+1,⟨⟨by omega,h⟩,by omega⟩,rfl⟩
   cases hh:holdB ri ob day g with
   | false =>
    rw [hh] at c115_ hi
    have fin:=fin hi
    refine sd ?_
    refine b_lt (fun t2=>?_) (fun t2=>?_)
    refine ix_at hx1 ?_ ?_
    (show (0:Int)≤(↑k:Int); omega)
    refine ca c115_ ?_
    refine sd ?_
    refine sd ?_
    refine ar_add ?_ ?_
    refine an ?_ ?_
    (show (-9223372036854775808:Int)≤(↑k:Int)+(1:Int); omega)
    (show (↑k:Int)+(1:Int)≤(9223372036854775807:Int); omega)
    rotate_left
    (exfalso; omega)
    all_goals exact fin
   | true =>
    rw [hh] at c115_ hi
    cases h1:(g.fr != t) with
    | true =>
     have he:(g.fr==t)=false:=by simpa [bne] using h1
     rw [he] at hi
     have fin:=fin hi
     refine sd ?_
     refine b_lt (fun t2=>?_) (fun t2=>?_)
     refine ix_at hx1 ?_ ?_
     (show (0:Int)≤(↑k:Int); omega)
     refine ca c115_ ?_
     refine b_t h1 ?_
     refine sd ?_
     refine ar_add ?_ ?_
     refine an ?_ ?_
     (show (-9223372036854775808:Int)≤(↑k:Int)+(1:Int); omega)
     (show (↑k:Int)+(1:Int)≤(9223372036854775807:Int); omega)
     rotate_left
     (exfalso; omega)
     all_goals exact fin
    | false =>
     have he:(g.fr==t)=true:=by simpa [bne] using h1
     rw [he] at hi
     cases h2:c.contains (k:Int) with
     | true =>
      rw [h2] at hi c94_
      have fin:=fin hi
      refine sd ?_
      refine b_lt (fun t2=>?_) (fun t2=>?_)
      refine ix_at hx1 ?_ ?_
      (show (0:Int)≤(↑k:Int); omega)
      refine ca c115_ ?_
      refine b_f h1 ?_
      refine ca c94_ ?_
      refine ar_add ?_ ?_
      refine an ?_ ?_
      (show (-9223372036854775808:Int)≤(↑k:Int)+(1:Int); omega)
      (show (↑k:Int)+(1:Int)≤(9223372036854775807:Int); omega)
      rotate_left
      (exfalso; omega)
      all_goals exact fin
     | false =>
      rw [h2] at hi c94_
      have c114_:=ih (c++[(k:Int)]) g.to (by rw [List.length_append]; show ((c.length+1:Nat):Int)+f=D; omega)
      rw [ints_snoc] at c114_
      cases h3:(exF ri ob day G of f (c++[(k:Int)]) g.to).2 with
      | true =>
       rw [h3] at hi c114_
       have hi:((exF ri ob day G of f (c++[(k:Int)]) g.to).1,true)=X:=hi
       rw [← hi]
       clear fin
       refine sd ?_
       refine b_lt (fun t2=>?_) (fun t2=>?_)
       refine ix_at hx1 ?_ ?_
       (show (0:Int)≤(↑k:Int); omega)
       refine ca c115_ ?_
       refine b_f h1 ?_
       refine ca c94_ ?_
       refine sd ?_
       refine sd ?_
       refine an ?_ ?_
       refine an ?_ ?_
       exact rfl
       refine an ?_ ?_
       exact rfl
       refine an ?_ ?_
       exact rfl
       refine an ?_ ?_
       (show ((0:Nat)+List.length (ints c)) * (8:Nat)≤(2:Nat) ^ (47:Nat); omega)
       (show (0:Nat)+List.length (ints c)≤(2:Nat) ^ (47:Nat); omega)
       refine sd ?_
       refine sd ?_
       refine sd ?_
       refine an ?_ ?_
       refine an ?_ ?_
       exact rfl
       refine an ?_ ?_
       exact rfl
       refine an ?_ ?_
       exact rfl
       refine an ?_ ?_
       rotate_left
       rotate_left
       refine sd ?_
       refine ca c114_ ?_
       exact rfl
       (exfalso; omega)
       ·show ((ints c).length+1) * 8≤2 ^ 47; omega
       ·show (ints c).length+1≤2 ^ 47; omega
      | false =>
       rw [h3] at hi c114_
       have fin:=fin hi
       refine sd ?_
       refine b_lt (fun t2=>?_) (fun t2=>?_)
       refine ix_at hx1 ?_ ?_
       (show (0:Int)≤(↑k:Int); omega)
       refine ca c115_ ?_
       refine b_f h1 ?_
       refine ca c94_ ?_
       refine sd ?_
       refine sd ?_
       refine an ?_ ?_
       refine an ?_ ?_
       exact rfl
       refine an ?_ ?_
       exact rfl
       refine an ?_ ?_
       exact rfl
       refine an ?_ ?_
       (show ((0:Nat)+List.length (ints c)) * (8:Nat)≤(2:Nat) ^ (47:Nat); omega)
       (show (0:Nat)+List.length (ints c)≤(2:Nat) ^ (47:Nat); omega)
       refine sd ?_
       refine sd ?_
       refine sd ?_
       refine an ?_ ?_
       refine an ?_ ?_
       exact rfl
       refine an ?_ ?_
       exact rfl
       refine an ?_ ?_
       exact rfl
       refine an ?_ ?_
       rotate_left
       rotate_left
       refine sd ?_
       refine ca c114_ ?_
       refine ar_add ?_ ?_
       refine an ?_ ?_
       (show (-9223372036854775808:Int)≤(↑k:Int)+(1:Int); omega)
       (show (↑k:Int)+(1:Int)≤(9223372036854775807:Int); omega)
       rotate_left
       (exfalso; omega)
       ·show ((ints c).length+1) * 8≤2 ^ 47; omega
       ·show (ints c).length+1≤2 ^ 47; omega
       all_goals exact fin
  ·have e:k=G.length:=by omega
   subst e
   rw [List.drop_eq_nil_of_le (Nat.le_refl _)] at hi
   have hi:(([]:List Int),false)=X:=hi
   rw [← hi]
   refine sd ?_
   refine b_lt (fun t2=>?_) (fun t2=>?_)
   (exfalso; omega)
   exact rfl
theorem hoG_HI {ri ob:Nm} {day:Int} {GA:List Gr} {i:Nat} {n:Nm} {d:Int} {m:Nat}:∀ {r:List Gr} {L:List Nm} {K:List Int},(∀ g∈r,g∈GA)→HI GA i n d m L K→HI GA i n d m (hoG ri ob day n d r L K).1 (hoG ri ob day n d r L K).2
 | [],_,_,_,h=>h
 | g::r,L,K,hs,h=>by
  rw [hoG]
  have hs2:∀ g∈r,g∈GA:=fun x hx=>hs x (List.mem_cons_of_mem _ hx)
  cases hc:(holdB ri ob day g&&(g.fr==n&&!L.contains g.to)) with
  | false=>exact hoG_HI hs2 h
  | true =>
   simp only [Bool.and_eq_true,Bool.not_eq_true'] at hc
   exact hoG_HI hs2 (h.step (hs g List.mem_cons_self) hc.2.2)
structure HK (G:List Gr) (L:List Nm) (K:List Int):Prop where
 hc:cntR L G+L.length≤40
 hl:K.length=L.length
 hz:∀ z∈K,0≤z∧z < (K.length:Int)
theorem hoL_HK {ri ob:Nm} {day:Int} {G:List Gr}:∀ {f i:Nat} {L:List Nm} {K:List Int},HK G L K→HK G (hoL ri ob day G f i L K).1 (hoL ri ob day G f i L K).2
 | 0,_,_,_,h=>h
 | f+1,i,L,K,h=>by
  rw [hoL]
  split
  ·rename_i n d hn hd
   have h1:=hoG_HI (ri:=ri) (ob:=ob) (day:=day) (r:=G) (fun g h=>h) (⟨h.hc,hn,hd,Nat.le_refl _,h.hl,h.hz⟩:HI G i n d (cntR L G+L.length) L K)
   exact hoL_HK ⟨Nat.le_trans h1.hc h1.hm,h1.hl,h1.hz⟩
  ·exact h
theorem ho_HK (l:List Ob) (G:List Gr) (ri ob:Nm) (day:Int) (hG:G.length≤32):HK G (hoL ri ob day G (G.length+2) 0 [(ownO l ob).getD []] [0]).1 (hoL ri ob day G (G.length+2) 0 [(ownO l ob).getD []] [0]).2:=by
 refine hoL_HK ⟨?_,rfl,?_⟩
 ·have:=cntR_le [(ownO l ob).getD []] G
  show cntR [(ownO l ob).getD []] G+1≤40
  omega
 ·intro z hz
  rw [List.mem_singleton.1 hz]
  exact ⟨Int.le_refl _,(by decide:(0:Int) < 1)⟩
def goW (of:Nm) (F:Int→List Int):List Nm→List Int→List Int × Int
 | n::L,d::K=>bif n==of then (F d,0) else goW of F L K
 | _,_=>([],7)
def whyF (G:List Gr) (of ri ob:Nm) (day:Int) (L:List Nm) (d:Int):List Int:=(exF ri ob day G of d.toNat [] (L[0]?.getD [])).1
theorem c24 (l:List Ob) (G:List Gr) (of ri ob:Nm) (day:Int) (hl:l.length≤1048576) (hG:G.length≤32):CallDet Tryz.prog 24 [.d (.agg [.slice 2 (obs l),.slice 6 (grs G)]),.d (.agg [.str of,.str ri,.str ob,.int .i64 day])] [.slice 1 (ints (goW of (whyF G of ri ob day (hoL ri ob day G (G.length+2) 0 [(ownO l ob).getD []] [0]).1) (hoL ri ob day G (G.length+2) 0 [(ownO l ob).getD []] [0]).1 (hoL ri ob day G (G.length+2) 0 [(ownO l ob).getD []] [0]).2).1),.int .i64 (goW of (whyF G of ri ob day (hoL ri ob day G (G.length+2) 0 [(ownO l ob).getD []] [0]).1) (hoL ri ob day G (G.length+2) 0 [(ownO l ob).getD []] [0]).1 (hoL ri ob day G (G.length+2) 0 [(ownO l ob).getD []] [0]).2).2]:=by
 have c113_:=c113 l G of ri ob day hl hG
 have hk:=ho_HK l G ri ob day hG
 generalize (hoL ri ob day G (G.length+2) 0 [(ownO l ob).getD []] [0])=H at c113_ hk
 obtain ⟨L,K⟩:=H
 have hkc:cntR L G+L.length≤40:=hk.hc
 have hkl:K.length=L.length:=hk.hl
 have hkz:∀ z∈K,0≤z∧z < (K.length:Int):=hk.hz
 clear hk
 dsimp only at c113_
 dsimp only
 generalize hX:goW of (whyF G of ri ob day L) L K=X
 have hsl:=strs_len L
 have hil:=ints_len K
 refine call_of_vc (x:=jr24) (by kernel_rfl) rfl ?_
 refine ca c113_ ?_
 rotate_left
 refine loop_st (fun j:Nat=>⟨[(2,.ptr 0 0),(3,.ptr 1 0),(6,.d (.slice 1 (strs L))),(7,.d (.slice 1 (ints K))),(8,.d (.int .i64 ((j:Nat))))],[.cbox [.slice 2 (obs l),.slice 6 (grs G)],.cbox [.str of,.str ri,.str ob,.int .i64 day]]⟩) (fun j=>j≤L.length∧goW of (whyF G of ri ob day L) (L.drop j) (K.drop j)=X) (fun j=>L.length - j) 0 rfl ⟨Nat.zero_le _,hX⟩ ?_
 clear hX
 rintro j ⟨hj0,hi0⟩
 have hj:j≤L.length:=hj0
 have hi:goW of (whyF G of ri ob day L) (L.drop j) (K.drop j)=X:=hi0
 clear hj0 hi0
 dsimp only
 by_cases hjn:j < L.length
 ·refine Exists.elim (get_lt L hjn) fun n hxn=>?_
  refine Exists.elim (get_lt K (k:=j) (by omega)) fun d hxd=>?_
  refine Exists.elim (get_lt L (k:=0) (by omega)) fun n0 hx0=>?_
  have hLj:=strs_get hxn
  have hKj:=ints_get hxd
  have hL0:=strs_get hx0
  have hd:=hkz d (List.mem_of_getElem? hxd)
  rw [drop_at hxn,drop_at hxd,goW] at hi
  cases h1:(n==of) with
  | true =>
   rw [h1] at hi
   have hi:(whyF G of ri ob day L d,(0:Int))=X:=hi
   rw [← hi]
   have c114_:=c114 l G of ri ob day d hl hG (by omega) d.toNat [] n0 (by show ((0:Nat):Int)+_=d; omega)
   have ew:whyF G of ri ob day L d=(exF ri ob day G of d.toNat [] n0).1:=by unfold whyF; rw [hx0]; rfl
   rw [ew]
   refine sd ?_
   refine b_lt (fun t1=>?_) (fun t1=>?_)
   refine ix_at hLj ?_ ?_
   (show (0:Int)≤(↑j:Int); omega)
   refine b_t h1 ?_
   refine ix_at hL0 ?_ ?_
   (show (0:Int)≤(0:Int); omega)
   refine ix_at hKj ?_ ?_
   (show (0:Int)≤(↑j:Int); omega)
   refine ca c114_ ?_
   exact rfl
   (exfalso; omega)
  | false =>
   rw [h1] at hi
   have hi:goW of (whyF G of ri ob day L) (L.drop (j+1)) (K.drop (j+1))=X:=hi
   have fin:∃ a':Nat,((a'≤L.length∧goW of (whyF G of ri ob day L) (L.drop a') (K.drop a')=X)∧L.length - a' < L.length - j)∧(⟨[(2,.ptr 0 0),(3,.ptr 1 0),(6,.d (.slice 1 (strs L))),(7,.d (.slice 1 (ints K))),(8,.d (.int .i64 ((j:Int)+1)))],[.cbox [.slice 2 (obs l),.slice 6 (grs G)],.cbox [.str of,.str ri,.str ob,.int .i64 day]]⟩:St)=⟨[(2,.ptr 0 0),(3,.ptr 1 0),(6,.d (.slice 1 (strs L))),(7,.d (.slice 1 (ints K))),(8,.d (.int .i64 ((a':Nat))))],[.cbox [.slice 2 (obs l),.slice 6 (grs G)],.cbox [.str of,.str ri,.str ob,.int .i64 day]]⟩:=⟨j+1,⟨⟨by omega,hi⟩,by omega⟩,rfl⟩
   refine sd ?_
   refine b_lt (fun t1=>?_) (fun t1=>?_)
   refine ix_at hLj ?_ ?_
   (show (0:Int)≤(↑j:Int); omega)
   refine b_f h1 ?_
   refine ar_add ?_ ?_
   refine an ?_ ?_
   (show (-9223372036854775808:Int)≤(↑j:Int)+(1:Int); omega)
   (show (↑j:Int)+(1:Int)≤(9223372036854775807:Int); omega)
   rotate_left
   (exfalso; omega)
   all_goals exact fin
 ·have e:j=L.length:=by omega
  subst e
  rw [List.drop_eq_nil_of_le (Nat.le_refl _),List.drop_eq_nil_of_le (by omega)] at hi
  have hi:(([]:List Int),(7:Int))=X:=hi
  rw [← hi]
  refine sd ?_
  refine b_lt (fun t1=>?_) (fun t1=>?_)
  (exfalso; omega)
  exact rfl
end Vc
