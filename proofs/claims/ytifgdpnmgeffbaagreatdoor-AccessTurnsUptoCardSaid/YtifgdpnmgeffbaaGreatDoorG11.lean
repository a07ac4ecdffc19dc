import Derived.Test.YtifgdpnmgeffbaaGreatDoorG10
set_option linter.unusedSectionVars false
set_option linter.unusedVariables false
set_option linter.unusedSimpArgs false
set_option maxRecDepth 10000
set_option maxHeartbeats 4000000
namespace Vc
open Go Go.Proofs
def rns (l:List Rn):List Data:=l.map rnD
theorem rns_len (l:List Rn):(rns l).length=l.length:=List.length_map _
theorem rns_at {l:List Rn} {k:Nat} {x:Rn} (h:l[k]?=some x):(rns l)[((k:Int)).toNat]?=some (.agg [.str x.nm,.int .i64 x.pw,.int .i64 x.ix,.int .i64 x.tn]):=by
 show (l.map _)[k]?=_
 rw [List.getElem?_map,h]; rfl
theorem isortL_snoc:∀ (l acc:List Rn) (x:Rn),isortL acc (l++[x])=oins x (isortL acc l)
 | [],_,_=>rfl
 | y::r,acc,x=>isortL_snoc r (oins y acc) x
def jr201:AFun:=⟨53,0,[],
 (.seq
 (.reg [] [⟨some 10,.mov (.tmp 1),none⟩,
  ⟨some 11,.arith .add .i64 (.tmp 10) (.cst (.d (.int .i64 1))),none⟩,
  ⟨some 8,.mov (.tmp 11),none⟩])
 (.post [] []
  (.block 0
  (.keep [0,1,2,3,8] []
   (.loop
   (.post [0,1,2,3,8] []
    (.seq
    (.seq
     (.reg [] [⟨some 12,.mov (.tmp 8),none⟩,
      ⟨some 13,.mov (.tmp 2),none⟩,
      ⟨some 14,.cmp .lss (.tmp 12) (.tmp 13),none⟩])
     (.cond (.tmp 14)
     .skip
     (.exit 0)))
    (.seq
     (.block 1
     (.seq
      (.reg [] [⟨some 17,.mov (.tmp 8),none⟩,
       ⟨some 9,.mov (.tmp 17),none⟩])
      (.post [0,1,2,3,8] []
      (.block 2
       (.keep [0,1,2,3,8,9] []
       (.loop
        (.post [0,1,2,3,8,9] []
        (.seq
         (.seq
         (.regd [] [⟨some 18,.mov (.tmp 9),none⟩,
          ⟨some 19,.mov (.tmp 1),none⟩,
          ⟨some 20,.cmp .gtr (.tmp 18) (.tmp 19),none⟩,
          ⟨some 21,.mov (.tmp 20),none⟩,
          ⟨some 22,.mov (.tmp 3),some (21,true)⟩,
          ⟨some 23,.mov (.tmp 0),some (21,true)⟩,
          ⟨some 24,.mov (.tmp 9),some (21,true)⟩,
          ⟨some 25,.ixa 4 (.tmp 23) (.tmp 24),some (21,true)⟩,
          ⟨some 26,.ld true 4 (.tmp 25),some (21,true)⟩,
          ⟨some 27,.mov (.tmp 0),some (21,true)⟩,
          ⟨some 28,.mov (.tmp 9),some (21,true)⟩,
          ⟨some 29,.arith .sub .i64 (.tmp 28) (.cst (.d (.int .i64 1))),some (21,true)⟩,
          ⟨some 30,.ixa 4 (.tmp 27) (.tmp 29),some (21,true)⟩,
          ⟨some 31,.ld true 4 (.tmp 30),some (21,true)⟩,
          ⟨some 32,.callv (.tmp 22) [(.tmp 26),(.tmp 31)],some (21,true)⟩,
          ⟨some 33,.cmp .lss (.tmp 32) (.cst (.d (.int .i64 0))),some (21,true)⟩,
          ⟨some 34,.pick (.tmp 21) (.tmp 33) (.cst (.d (.bool false))),none⟩] [(0,1),(4,5),(4,6),(5,6),(4,7),(4,8),(4,9),(5,9),(6,9),(7,9),(8,9),(4,10),(5,10),(6,10),(7,10),(8,10),(9,10),(4,11),(5,11),(6,11),(7,11),(8,11),(9,11),(4,12),(5,12),(6,12),(7,12),(8,12),(4,13),(5,13),(6,13),(7,13),(8,13)])
         (.cond (.tmp 34)
          .skip
          (.exit 2)))
         (.seq
         (.block 3
          (.regd [] [⟨some 37,.mov (.tmp 0),none⟩,
           ⟨some 38,.mov (.tmp 9),none⟩,
           ⟨some 39,.mov (.tmp 0),none⟩,
           ⟨some 40,.mov (.tmp 9),none⟩,
           ⟨some 41,.arith .sub .i64 (.tmp 40) (.cst (.d (.int .i64 1))),none⟩,
           ⟨some 42,.mov (.tmp 0),none⟩,
           ⟨some 43,.mov (.tmp 9),none⟩,
           ⟨some 44,.arith .sub .i64 (.tmp 43) (.cst (.d (.int .i64 1))),none⟩,
           ⟨some 45,.ixa 4 (.tmp 42) (.tmp 44),none⟩,
           ⟨some 46,.ld true 4 (.tmp 45),none⟩,
           ⟨some 47,.mov (.tmp 0),none⟩,
           ⟨some 48,.mov (.tmp 9),none⟩,
           ⟨some 49,.ixa 4 (.tmp 47) (.tmp 48),none⟩,
           ⟨some 50,.ld true 4 (.tmp 49),none⟩,
           ⟨some 51,.ixa 4 (.tmp 37) (.tmp 38),none⟩,
           ⟨none,.st 4 (.tmp 51) (.tmp 46),none⟩,
           ⟨some 52,.ixa 4 (.tmp 39) (.tmp 41),none⟩,
           ⟨none,.st 4 (.tmp 52) (.tmp 50),none⟩] [(0,1),(0,2),(1,2),(0,3),(1,3),(2,3),(0,4),(1,4),(2,4),(0,5),(1,5),(2,5),(3,5),(4,5),(0,6),(1,6),(2,6),(3,6),(4,6),(5,6),(0,7),(1,7),(2,7),(3,7),(4,7),(5,7),(0,8),(1,8),(2,8),(3,8),(4,8),(0,9),(1,9),(2,9),(3,9),(4,9),(0,10),(1,10),(2,10),(3,10),(4,10),(5,10),(6,10),(7,10),(8,10),(9,10),(0,11),(1,11),(2,11),(3,11),(4,11),(5,11),(6,11),(7,11),(8,11),(9,11),(10,11),(0,12),(1,12),(2,12),(3,12),(4,12),(5,12),(6,12),(7,12),(8,12),(9,12),(0,13),(1,13),(2,13),(3,13),(4,13),(5,13),(6,13),(7,13),(8,13),(9,13),(2,14),(3,14),(4,14),(2,15),(3,15),(4,15)]))
         (.reg [] [⟨some 35,.mov (.tmp 9),none⟩,
          ⟨some 36,.arith .sub .i64 (.tmp 35) (.cst (.d (.int .i64 1))),none⟩,
          ⟨some 9,.mov (.tmp 36),none⟩]))))))))))
     (.reg [] [⟨some 15,.mov (.tmp 8),none⟩,
      ⟨some 16,.arith .add .i64 (.tmp 15) (.cst (.d (.int .i64 1))),none⟩,
      ⟨some 8,.mov (.tmp 16),none⟩])))))))))⟩
def P0 (R:List Rn) (k:Nat):List Rn:=isortL [] (R.take (k+1))
theorem i201 (R:List Rn) (hd:Dst R) (N:Nat) (hN:N=R.length) (h8:R.length≤1048576) (cs:List AVal):CallIn Tryz.prog 201 [.sl 6 N,.d (.int .i64 0),.d (.int .i64 (N:Int)),.d (.fn (.func 154) [])] [.none,.none,.none,.none,.none,.none,.row 226 4 (rns R) false,.box cs,.none,.none] (.tup []) (setAll [.none,.none,.none,.none,.none,.none,.row 226 4 (rns R) false,.box cs,.none,.none] [(6,.row 226 4 (rns (sorted R)) false)]):=by
 have hlR:=rns_len R
 refine callIn_of_vc 10 (x:=jr201) (by kernel_rfl) rfl rfl rfl ?_
 refine ar_add ?_ ?_
 refine an ?_ ?_
 (show (-9223372036854775808:Int)≤(0:Int)+(1:Int); omega)
 (show (0:Int)+(1:Int)≤(9223372036854775807:Int); omega)
 rotate_left
 refine loop_st (fun k:Nat=>⟨[(0,.sl 6 N),(1,.d (.int .i64 0)),(2,.d (.int .i64 (N:Int))),(3,.d (.fn (.func 154) [])),(8,.d (.int .i64 ((k:Int)+1)))],[.none,.none,.none,.none,.none,.none,.row 226 4 (rns (isortL [] (R.take (k+1))++R.drop (k+1))) false,.box cs,.none,.none]⟩) (fun k=>k=0∨k+1≤R.length) (fun k=>R.length - k) 0 (by rw [show isortL [] (R.take 1)++R.drop 1=R by cases R <;> rfl]; rfl) (.inl rfl) ?_
 intro k hk
 dsimp only
 by_cases hkn:k+1 < R.length
 ·refine Exists.elim (get_lt R hkn) fun x hx=>?_
  have hP:=isortL_srt (R.take (k+1)) [] trivial (by rw [List.nil_append]; exact List.Pairwise.sublist (List.take_sublist _ _) hd)
  have hPl:(isortL [] (R.take (k+1))).length=k+1:=by rw [(isortL_perm _ _).length_eq,List.nil_append,List.length_take]; omega
  have hs:isortL [] (R.take (k+1+1))=oins x (isortL [] (R.take (k+1))):=by rw [take_one hx,isortL_snoc]
  rw [drop_at hx]
  have fin:∀ L:List Rn,L=isortL [] (R.take (k+1+1))→∃ a':Nat,((a'=0∨a'+1≤R.length)∧R.length - a' < R.length - k)∧(⟨[(0,.sl 6 N),(1,.d (.int .i64 0)),(2,.d (.int .i64 (N:Int))),(3,.d (.fn (.func 154) [])),(8,.d (.int .i64 ((k:Int)+1+1)))],[.none,.none,.none,.none,.none,.none,.row 226 4 (rns (L++R.drop (k+1+1))) false,.box cs,.none,.none]⟩:St)=⟨[(0,.sl 6 N),(1,.d (.int .i64 0)),(2,.d (.int .i64 (N:Int))),(3,.d (.fn (.func 154) [])),(8,.d (.int .i64 ((a':Int)+1)))],[.none,.none,.none,.none,.none,.none,.row 226 4 (rns (isortL [] (R.take (a'+1))++R.drop (a'+1))) false,.box cs,.none,.none]⟩:=fun L e =>
   ⟨k+1,⟨.inr (by omega),by omega⟩,by rw [e]; rfl⟩
  rw [hs] at fin
  have hlt:((P0 R k)++x::R.drop (k+1+1)).length=R.length:=by unfold P0; rw [List.length_append,hPl,List.length_cons,List.length_drop]; omega
  change Srt (P0 R k) at hP
  change (P0 R k).length=k+1 at hPl
  change ∀ L:List Rn,L=oins x (P0 R k)→_ at fin
  change vc _ _ _ ⟨_,[_,_,_,_,_,_,.row _ _ (rns (P0 R k++x::R.drop (k+1+1))) _,_,_,_]⟩ _
  generalize P0 R k=P at *
  generalize R.drop (k+1+1)=T at *
  refine sd ?_
  refine b_lt (fun t1=>?_) (fun t1=>?_)
  rotate_left
  (exfalso; omega)
  refine loop_st (fun q:List Rn × List Rn=>⟨[(0,.sl 6 N),(1,.d (.int .i64 0)),(2,.d (.int .i64 (N:Int))),(3,.d (.fn (.func 154) [])),(8,.d (.int .i64 ((k:Int)+1))),(9,.d (.int .i64 (((q.1.length:Nat):Int))))],[.none,.none,.none,.none,.none,.none,.row 226 4 (rns (q.1++x::(q.2++T))) false,.box cs,.none,.none]⟩) (fun q=>q.1++q.2=P∧∀ y∈q.2,key x y) (fun q=>q.1.length) (P,[]) (by rw [hPl]; rfl) ⟨List.append_nil _,fun y hy=>by cases hy⟩ ?_
  rintro ⟨A,B⟩ ⟨hAB,hB⟩
  have hAB:A++B=P:=hAB
  dsimp only
  rcases List.eq_nil_or_concat A with rfl | ⟨A0,z,hA⟩
  ·have e:oins x P=x::B:=by rw [← hAB]; exact oins_right (a:=[]) (by rw [hAB]; exact hP) hB (fun y hy=>by cases hy)
   have fin:=fin (x::B) e.symm
   refine sd ?_
   refine sd ?_
   refine ar_add ?_ ?_
   refine an ?_ ?_
   (show (-9223372036854775808:Int)≤(↑k:Int)+(1:Int)+(1:Int); omega)
   (show (↑k:Int)+(1:Int)+(1:Int)≤(9223372036854775807:Int); omega)
   rotate_left
   all_goals exact fin
  ·rw [List.concat_eq_append] at hA
   subst hA
   have hJ:(A0++[z]).length=A0.length+1:=by rw [List.length_append]; rfl
   have e0:(A0++[z])++x::(B++T)=A0++z::x::(B++T):=by rw [List.append_assoc]; rfl
   have g1:(A0++z::x::(B++T))[A0.length+1]?=some x:=by rw [List.getElem?_append_right (by omega),show A0.length+1 - A0.length=1 by omega]; rfl
   have g2:(A0++z::x::(B++T))[A0.length]?=some z:=by rw [List.getElem?_append_right (by omega),Nat.sub_self]; rfl
   have hrl:(rns (A0++z::x::(B++T))).length=R.length:=by rw [rns_len,← hlt,← hAB]; simp only [List.length_append,List.length_cons,List.length_nil]; omega
   have hA1:A0.length+1 < R.length:=by
    have:=hrl
    rw [rns_len] at this
    simp only [List.length_append,List.length_cons] at this
    omega
   rw [e0,hJ]
   have h1:=rns_at g1
   have h2:(rns (A0++z::x::(B++T)))[(((A0.length+1:Nat):Int) - 1).toNat]?=some (.agg [.str z.nm,.int .i64 z.pw,.int .i64 z.ix,.int .i64 z.tn]):=by
    rw [show (((A0.length+1:Nat):Int) - 1).toNat=A0.length by omega]; exact rns_at g2
   have h3:((rns (A0++z::x::(B++T))).set (A0.length+1) (.agg [.str z.nm,.int .i64 z.pw,.int .i64 z.ix,.int .i64 z.tn]))[(((A0.length+1:Nat):Int) - 1).toNat]?=some (.agg [.str z.nm,.int .i64 z.pw,.int .i64 z.ix,.int .i64 z.tn]):=by
    rw [List.getElem?_set_ne (by omega)]; exact h2
   have h4:(((rns (A0++z::x::(B++T))).set (A0.length+1) (.agg [.str z.nm,.int .i64 z.pw,.int .i64 z.ix,.int .i64 z.tn])).set ((((A0.length+1:Nat):Int) - 1).toNat) (.agg [.str x.nm,.int .i64 x.pw,.int .i64 x.ix,.int .i64 x.tn]))=rns (A0++x::(z::B++T)):=by
    rw [show (((A0.length+1:Nat):Int) - 1).toNat=A0.length by omega]
    show (((A0++z::x::(B++T)).map rnD).set (A0.length+1) (rnD z)).set A0.length (rnD x)=(A0++x::(z::B++T)).map rnD
    rw [← List.map_set,← List.map_set,List.set_append_right _ _ (by omega),show A0.length+1 - A0.length=1 by omega,List.set_append_right _ _ (by omega),Nat.sub_self]; rfl
   have c154_:=c154 x z
   have hz:=cmpR_lt x z
   have sw:rless x z=true→∃ a':List Rn × List Rn,((a'.1++a'.2=P∧∀ y∈a'.2,key x y)∧a'.1.length < A0.length+1)∧(⟨[(0,.sl 6 N),(1,.d (.int .i64 0)),(2,.d (.int .i64 (N:Int))),(3,.d (.fn (.func 154) [])),(8,.d (.int .i64 ((k:Int)+1))),(9,.d (.int .i64 (((A0.length+1:Nat):Int) - 1)))],[.none,.none,.none,.none,.none,.none,.row 226 4 (rns (A0++x::(z::B++T))) false,.box cs,.none,.none]⟩:St)=⟨[(0,.sl 6 N),(1,.d (.int .i64 0)),(2,.d (.int .i64 (N:Int))),(3,.d (.fn (.func 154) [])),(8,.d (.int .i64 ((k:Int)+1))),(9,.d (.int .i64 (((a'.1.length:Nat):Int))))],[.none,.none,.none,.none,.none,.none,.row 226 4 (rns (a'.1++x::(a'.2++T))) false,.box cs,.none,.none]⟩:=fun e =>
    ⟨(A0,z::B),⟨⟨by rw [← hAB,List.append_assoc]; rfl,fun y hy=>by rcases List.mem_cons.1 hy with rfl | hy; exact rless_iff.1 e; exact hB y hy⟩,Nat.lt_succ_self _⟩,by rw [show ((A0.length+1:Nat):Int) - 1=(A0.length:Int) by omega]⟩
   have ex:rless x z=false→oins x P=(A0++[z])++x::B:=fun e=>by
    rw [← hAB]
    refine oins_right (by rw [hAB]; exact hP) hB fun y hy w hw=>?_
    rw [List.getLast?_append,List.getLast?_singleton] at hw
    cases hw
    exact fun hk=>by rw [rless_iff.2 hk] at e; cases e
   rw [← h4] at sw
   refine sd ?_
   refine b_lt (fun t2=>?_) (fun t2=>?_)
   refine an ?_ ?_
   refine an ?_ ?_
   exact rfl
   refine an ?_ ?_
   (show List.length (rns (A0++z::x::(B++T)))=N; omega)
   refine an ?_ ?_
   (show (0:Int)≤(↑(List.length A0+(1:Nat)):Int); omega)
   (show (↑(List.length A0+(1:Nat)):Int) < (↑N:Int); omega)
   refine an ?_ ?_
   (show List.length (rns (A0++z::x::(B++T)))=N; omega)
   refine ca h1 ?_
   refine ar_sub ?_ ?_
   refine an ?_ ?_
   (show (-9223372036854775808:Int)≤(↑(List.length A0+(1:Nat)):Int) - (1:Int); omega)
   (show (↑(List.length A0+(1:Nat)):Int) - (1:Int)≤(9223372036854775807:Int); omega)
   refine an ?_ ?_
   refine an ?_ ?_
   exact rfl
   refine an ?_ ?_
   (show List.length (rns (A0++z::x::(B++T)))=N; omega)
   refine an ?_ ?_
   (show (0:Int)≤(↑(List.length A0+(1:Nat)):Int) - (1:Int); omega)
   (show (↑(List.length A0+(1:Nat)):Int) - (1:Int) < (↑N:Int); omega)
   refine an ?_ ?_
   (show List.length (rns (A0++z::x::(B++T)))=N; omega)
   refine ca h2 ?_
   refine ca c154_ ?_
   refine sd ?_
   refine b_lt (fun t3=>?_) (fun t3=>?_)
   refine ar_sub ?_ ?_
   refine an ?_ ?_
   (show (-9223372036854775808:Int)≤(↑(List.length A0+(1:Nat)):Int) - (1:Int); omega)
   (show (↑(List.length A0+(1:Nat)):Int) - (1:Int)≤(9223372036854775807:Int); omega)
   refine ar_sub ?_ ?_
   refine an ?_ ?_
   (show (-9223372036854775808:Int)≤(↑(List.length A0+(1:Nat)):Int) - (1:Int); omega)
   (show (↑(List.length A0+(1:Nat)):Int) - (1:Int)≤(9223372036854775807:Int); omega)
   refine an ?_ ?_
   refine an ?_ ?_
   exact rfl
   refine an ?_ ?_
   (show List.length (rns (A0++z::x::(B++T)))=N; omega)
   refine an ?_ ?_
   (show (0:Int)≤(↑(List.length A0+(1:Nat)):Int) - (1:Int); omega)
   (show (↑(List.length A0+(1:Nat)):Int) - (1:Int) < (↑N:Int); omega)
   refine an ?_ ?_
   (show List.length (rns (A0++z::x::(B++T)))=N; omega)
   refine ca h2 ?_
   refine an ?_ ?_
   refine an ?_ ?_
   exact rfl
   refine an ?_ ?_
   (show List.length (rns (A0++z::x::(B++T)))=N; omega)
   refine an ?_ ?_
   (show (0:Int)≤(↑(List.length A0+(1:Nat)):Int); omega)
   (show (↑(List.length A0+(1:Nat)):Int) < (↑N:Int); omega)
   refine an ?_ ?_
   (show List.length (rns (A0++z::x::(B++T)))=N; omega)
   refine ca h1 ?_
   refine an ?_ ?_
   refine an ?_ ?_
   exact rfl
   refine an ?_ ?_
   (show List.length (rns (A0++z::x::(B++T)))=N; omega)
   refine an ?_ ?_
   (show (0:Int)≤(↑(List.length A0+(1:Nat)):Int); omega)
   (show (↑(List.length A0+(1:Nat)):Int) < (↑N:Int); omega)
   refine Exists.intro _ (Exists.intro (Vc.Data.agg [Data.str (Rn.nm z),Data.int IntKind.i64 (Rn.pw z),Data.int IntKind.i64 (Rn.ix z),Data.int IntKind.i64 (Rn.tn z)]) (And.intro (And.intro ?_ (And.intro h1 (And.intro rfl (And.intro ?_ (And.intro rfl rfl))))) ?_))
   (show List.length (rns (A0++z::x::(B++T)))=N; omega)
   (show (0:Nat)+(4:Nat)≤(1:Nat)+(1:Nat)+(1:Nat)+(1:Nat); omega)
   refine an ?_ ?_
   refine an ?_ ?_
   exact rfl
   refine an ?_ ?_
   (show List.length (List.set (rns (A0++z::x::(B++T))) (List.length A0+(1:Nat)) (Data.agg [Data.str (Rn.nm z),Data.int IntKind.i64 (Rn.pw z),Data.int IntKind.i64 (Rn.ix z),Data.int IntKind.i64 (Rn.tn z)]))=N; simp only [List.length_replicate,List.length_set,List.length_append,List.length_take,List.length_drop]; omega)
   refine an ?_ ?_
   (show (0:Int)≤(↑(List.length A0+(1:Nat)):Int) - (1:Int); omega)
   (show (↑(List.length A0+(1:Nat)):Int) - (1:Int) < (↑N:Int); omega)
   refine Exists.intro _ (Exists.intro (Vc.Data.agg [Data.str (Rn.nm x),Data.int IntKind.i64 (Rn.pw x),Data.int IntKind.i64 (Rn.ix x),Data.int IntKind.i64 (Rn.tn x)]) (And.intro (And.intro ?_ (And.intro h3 (And.intro rfl (And.intro ?_ (And.intro rfl rfl))))) ?_))
   (show List.length (List.set (rns (A0++z::x::(B++T))) (List.length A0+(1:Nat)) (Data.agg [Data.str (Rn.nm z),Data.int IntKind.i64 (Rn.pw z),Data.int IntKind.i64 (Rn.ix z),Data.int IntKind.i64 (Rn.tn z)]))=N; simp only [List.length_replicate,List.length_set,List.length_append,List.length_take,List.length_drop]; omega)
   (show (0:Nat)+(4:Nat)≤(1:Nat)+(1:Nat)+(1:Nat)+(1:Nat); omega)
   refine ar_sub ?_ ?_
   refine an ?_ ?_
   (show (-9223372036854775808:Int)≤(↑(List.length A0+(1:Nat)):Int) - (1:Int); omega)
   (show (↑(List.length A0+(1:Nat)):Int) - (1:Int)≤(9223372036854775807:Int); omega)
   rotate_left
   refine ar_add ?_ ?_
   refine an ?_ ?_
   (show (-9223372036854775808:Int)≤(↑k:Int)+(1:Int)+(1:Int); omega)
   (show (↑k:Int)+(1:Int)+(1:Int)≤(9223372036854775807:Int); omega)
   rotate_left
   (exfalso; omega)
   ·exact sw (by rw [← hz]; exact decide_eq_true t3)
   ·have fin:=fin ((A0++[z])++x::B) (ex (by rw [← hz]; exact decide_eq_false t3)).symm
    rw [show ((A0++[z])++x::B)++T=A0++z::x::(B++T) by simp] at fin
    exact fin
 ·refine sd ?_
  refine b_lt (fun t1=>?_) (fun t1=>?_)
  (exfalso; omega)
  refine sd ?_
  rotate_left
  refine congrArg (fun L=>([.none,.none,.none,.none,.none,.none,.row 226 4 (rns L) false,.box cs,.none,.none]:List AObj)) ?_
  rw [List.drop_eq_nil_of_le (by omega),List.append_nil,List.take_of_length_le (by omega)]; rfl
end Vc
