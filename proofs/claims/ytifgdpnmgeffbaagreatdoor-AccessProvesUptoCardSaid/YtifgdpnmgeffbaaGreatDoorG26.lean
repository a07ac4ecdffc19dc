import Derived.Test.YtifgdpnmgeffbaaGreatDoorG25
set_option linter.unusedSectionVars false
set_option linter.unusedVariables false
set_option linter.unusedSimpArgs false
set_option maxRecDepth 10000
set_option maxHeartbeats 4000000
namespace Vc
open Go Go.Proofs
def ofE (l:List Ob) (G:List Gr) (ri ob:Nm) (day:Int):Int:=firstOf [bookE l G,askE l ri ob,within3 day 0 100000]
theorem ofE_le {l:List Ob} {G:List Gr} {ri ob:Nm} {day:Int} (h:ofE l G ri ob day=0):G.length≤32:=bookE_le (firstOf_zero h (bookE l G) List.mem_cons_self)
theorem c29 (l:List Ob) (G:List Gr) (ri ob:Nm) (day:Int) (hl:l.length≤1048576) (hG:G.length≤1048576):CallDet Tryz.prog 29 [.d (.agg [.slice 2 (obs l),.slice 6 (grs G)]),.d (.str ri),.d (.str ob),.d (.int .i64 day)] [.slice 1 (strs (bif ofE l G ri ob day != 0 then [] else offL (fun n=>(chainP l G ri ob day n).isSome) G [(ownO l ob).getD []])),.int .i64 (ofE l G ri ob day)]:=by
 have c27_:=c27 l G hl hG
 have c117_:=c117 l G ri ob hl
 have c99_:CallDet Tryz.prog 99 [.d (.slice 1 [.int .i64 (bookE l G),.int .i64 (askE l ri ob),.int .i64 (within3 day 0 100000)])] [.int .i64 (ofE l G ri ob day)]:=c99 [bookE l G,askE l ri ob,within3 day 0 100000] (by simp)
 have c107_:=c107 l G ob hl
 cases h:ofE l G ri ob day != 0 with
 | true =>
  refine call_of_vc (x:=jr29) (by kernel_rfl) rfl ?_
  refine ca c27_ ?_
  refine ca c117_ ?_
  refine ca (c101 _) ?_
  refine sd ?_
  refine sd ?_
  refine ca c99_ ?_
  refine sd ?_
  refine b_t h ?_
  exact rfl
 | false =>
 have h0:ofE l G ri ob day=0:=by simpa using h
 have hG32:=ofE_le h0
 rw [h0] at c99_ ⊢
 generalize (ownO l ob).getD []=T at c107_
 show CallDet _ _ _ [.slice 1 (strs (offL (fun n=>(chainP l G ri ob day n).isSome) G [T])),.int .i64 0]
 generalize hX:offL (fun n=>(chainP l G ri ob day n).isSome) G [T]=X
 refine call_of_vc (x:=jr29) (by kernel_rfl) rfl ?_
 refine ca c27_ ?_
 refine ca c117_ ?_
 refine ca (c101 _) ?_
 refine sd ?_
 refine sd ?_
 refine ca c99_ ?_
 refine sd ?_
 refine ca c107_ ?_
 refine sd ?_
 rotate_left
 refine loop_st (fun p:Nat × List Nm=>⟨[(3,.d (.int .i64 day)),(10,.ptr 1 0),(14,.sl 3 (strs (p.2)).length),(44,.d (.slice 6 (grs G))),(45,.d (.int .i64 (((grs G).length:Nat):Int))),(46,.d (.int .i64 ((p.1:Nat))))],[.none,.box [.d (.slice 2 (obs l)),.d (.slice 6 (grs G)),.d (.str ri),.d (.str ob)],.none,.row 9 1 (strs (p.2)) false,.none,.none,.none]⟩) (fun p=>(p.1≤G.length∧p.2.length≤1+p.1)∧offL (fun n=>(chainP l G ri ob day n).isSome) (G.drop p.1) p.2=X) (fun p=>G.length - p.1) (0,[T]) rfl ⟨⟨Nat.zero_le _,Nat.le_refl _⟩,hX⟩ ?_
 clear hX
 rintro ⟨k,L⟩ ⟨⟨hk0,hL0⟩,hi0⟩
 have hk:k≤G.length:=hk0
 have hL:L.length≤1+k:=hL0
 have hi:offL (fun n=>(chainP l G ri ob day n).isSome) (G.drop k) L=X:=hi0
 clear hk0 hL0 hi0
 dsimp only
 have hsl:=strs_len L
 have hlg:=grs_len G
 by_cases hkn:k < G.length
 ·refine Exists.elim (get_lt G hkn) fun g hx=>?_
  have hx1:=grs_at hx
  rw [drop_at hx,offL] at hi
  have fin:offL (fun n=>(chainP l G ri ob day n).isSome) (G.drop (k+1)) L=X→∃ a':Nat × List Nm,(((a'.1≤G.length∧a'.2.length≤1+a'.1)∧offL (fun n=>(chainP l G ri ob day n).isSome) (G.drop a'.1) a'.2=X)∧G.length - a'.1 < G.length - k)∧(⟨[(3,.d (.int .i64 day)),(10,.ptr 1 0),(14,.sl 3 (strs (L)).length),(44,.d (.slice 6 (grs G))),(45,.d (.int .i64 (((grs G).length:Nat):Int))),(46,.d (.int .i64 ((k:Int)+1)))],[.none,.box [.d (.slice 2 (obs l)),.d (.slice 6 (grs G)),.d (.str ri),.d (.str ob)],.none,.row 9 1 (strs (L)) false,.none,.none,.none]⟩:St)=⟨[(3,.d (.int .i64 day)),(10,.ptr 1 0),(14,.sl 3 (strs (a'.2)).length),(44,.d (.slice 6 (grs G))),(45,.d (.int .i64 (((grs G).length:Nat):Int))),(46,.d (.int .i64 ((a'.1:Nat))))],[.none,.box [.d (.slice 2 (obs l)),.d (.slice 6 (grs G)),.d (.str ri),.d (.str ob)],.none,.row 9 1 (strs (a'.2)) false,.none,.none,.none]⟩:=fun h=>⟨(k+1,L),⟨⟨⟨by show k+1≤G.length; omega,by show L.length≤1+(k+1); omega⟩,h⟩,by show G.length - (k+1) < G.length - k; omega⟩,rfl⟩
  have fin2:offL (fun n=>(chainP l G ri ob day n).isSome) (G.drop (k+1)) (L++[g.to])=X→∃ a':Nat × List Nm,(((a'.1≤G.length∧a'.2.length≤1+a'.1)∧offL (fun n=>(chainP l G ri ob day n).isSome) (G.drop a'.1) a'.2=X)∧G.length - a'.1 < G.length - k)∧(⟨[(3,.d (.int .i64 day)),(10,.ptr 1 0),(14,.sl 3 (strs (L++[g.to])).length),(44,.d (.slice 6 (grs G))),(45,.d (.int .i64 (((grs G).length:Nat):Int))),(46,.d (.int .i64 ((k:Int)+1)))],[.none,.box [.d (.slice 2 (obs l)),.d (.slice 6 (grs G)),.d (.str ri),.d (.str ob)],.none,.row 9 1 (strs (L++[g.to])) false,.none,.none,.none]⟩:St)=⟨[(3,.d (.int .i64 day)),(10,.ptr 1 0),(14,.sl 3 (strs (a'.2)).length),(44,.d (.slice 6 (grs G))),(45,.d (.int .i64 (((grs G).length:Nat):Int))),(46,.d (.int .i64 ((a'.1:Nat))))],[.none,.box [.d (.slice 2 (obs l)),.d (.slice 6 (grs G)),.d (.str ri),.d (.str ob)],.none,.row 9 1 (strs (a'.2)) false,.none,.none,.none]⟩:=fun h=>⟨(k+1,L++[g.to]),⟨⟨⟨by show k+1≤G.length; omega,by show (L++[g.to]).length≤1+(k+1); rw [List.length_append]; show L.length+1≤_; omega⟩,h⟩,by show G.length - (k+1) < G.length - k; omega⟩,rfl⟩
  have c102_:=c102 l G ri ob g.to day hl hG32
  have c118_:=c118 L g.to (by omega)
  cases h1:(chainP l G ri ob day g.to).isSome with
  | false =>
   rw [h1] at hi c102_
   have fin:=fin hi
   clear fin2
   refine sd ?_
   refine b_lt (fun t1=>?_) (fun t1=>?_)
   refine ix_at hx1 ?_ ?_
   (show (0:Int)≤(↑k:Int); omega)
   refine ca c102_ ?_
   refine sd ?_
   refine ar_add ?_ ?_
   refine an ?_ ?_
   (show (-9223372036854775808:Int)≤(↑k:Int)+(1:Int); omega)
   (show (↑k:Int)+(1:Int)≤(9223372036854775807:Int); omega)
   rotate_left
   (exfalso; omega)
   all_goals exact fin
  | true =>
   rw [h1] at hi c102_
   cases h2:L.contains g.to with
   | true =>
    rw [h2] at hi c118_
    have fin:=fin hi
    clear fin2
    refine sd ?_
    refine b_lt (fun t1=>?_) (fun t1=>?_)
    refine ix_at hx1 ?_ ?_
    (show (0:Int)≤(↑k:Int); omega)
    refine ca c102_ ?_
    refine sd ?_
    refine ca c118_ ?_
    refine ar_add ?_ ?_
    refine an ?_ ?_
    (show (-9223372036854775808:Int)≤(↑k:Int)+(1:Int); omega)
    (show (↑k:Int)+(1:Int)≤(9223372036854775807:Int); omega)
    rotate_left
    (exfalso; omega)
    all_goals exact fin
   | false =>
    rw [h2] at hi c118_
    have fin:=fin2 hi
    clear fin2
    rw [strs_snoc] at fin
    refine sd ?_
    refine b_lt (fun t1=>?_) (fun t1=>?_)
    refine ix_at hx1 ?_ ?_
    (show (0:Int)≤(↑k:Int); omega)
    refine ca c102_ ?_
    refine sd ?_
    refine ca c118_ ?_
    refine sd ?_
    refine sd ?_
    refine sd ?_
    refine an ?_ ?_
    refine an ?_ ?_
    exact rfl
    refine an ?_ ?_
    exact rfl
    refine an ?_ ?_
    exact rfl
    refine an ?_ ?_
    (show (List.length (strs L)+(1:Nat)) * (16:Nat)≤(2:Nat) ^ (47:Nat); omega)
    (show List.length (strs L)+(1:Nat)≤(2:Nat) ^ (47:Nat); omega)
    refine ar_add ?_ ?_
    refine an ?_ ?_
    (show (-9223372036854775808:Int)≤(↑k:Int)+(1:Int); omega)
    (show (↑k:Int)+(1:Int)≤(9223372036854775807:Int); omega)
    rotate_left
    (exfalso; omega)
    all_goals exact fin
 ·have e:k=G.length:=by omega
  subst e
  rw [List.drop_eq_nil_of_le (Nat.le_refl _)] at hi
  have hi:L=X:=hi
  subst hi
  refine sd ?_
  refine b_lt (fun t1=>?_) (fun t1=>?_)
  (exfalso; omega)
  refine sd ?_
  exact rfl
end Vc
