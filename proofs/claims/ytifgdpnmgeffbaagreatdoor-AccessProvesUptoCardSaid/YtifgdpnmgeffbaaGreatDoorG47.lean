import Derived.Test.YtifgdpnmgeffbaaGreatDoorG45
import Derived.Test.YtifgdpnmgeffbaaGreatDoorG46
set_option linter.unusedSectionVars false
set_option linter.unusedVariables false
set_option linter.unusedSimpArgs false
set_option maxRecDepth 10000
set_option maxHeartbeats 4000000
namespace Vc
open Go Go.Proofs
theorem c9 (l:List Ob) (G:List Gr) (of ri ob:Nm) (day:Int) (g:Gr) (hl:l.length≤1048576) (hG:G.length≤1048576):CallDet Tryz.prog 9 [.d (.agg [.slice 2 (obs l),.slice 6 (grs G)]),.d (.agg [.str of,.str ri,.str ob,.int .i64 day]),.d (.agg [.str g.fr,.str g.to,.str g.ri,.str g.ob,.int .i64 g.a,.int .i64 g.b])] [.bool true]:=by
 have hlg:=grs_len G
 have hlo:=obs_len l
 have hge:List.length ([]++grs G)=(grs G).length:=rfl
 have c11_:=c11 l G hl hG
 have c18_:=c18 l G hl hG
 have c12_:=c12 of ri ob day
 have c20_:=c20 l G of ri ob day hl
 have c21_:=c21 day
 refine call_of_vc (x:=jr9) chk9 rfl ?_
 cases hs:shortB l G with
 | false =>
  rw [hs] at c11_
  refine ca c11_ ?_
  refine sd ?_
  refine sd ?_
  refine sd ?_
  refine sd ?_
  refine sd ?_
  refine sd ?_
  refine ca (c13) ?_
  exact rfl
 | true =>
 rw [hs] at c11_
 by_cases hb:bookE l G=0
 ·rw [hb] at c18_
  by_cases h6:(6:Int) < ((obs l).length:Int)
  ·refine ca c11_ ?_
   refine ca c18_ ?_
   refine sd ?_
   refine sd ?_
   refine b_lt (fun t1=>?_) (fun t1=>?_)
   refine sd ?_
   refine sd ?_
   refine sd ?_
   refine sd ?_
   refine ca (c13) ?_
   exact rfl
   (exfalso; omega)
  ·by_cases h10:(10:Int) < ((grs G).length:Int)
   ·refine ca c11_ ?_
    refine ca c18_ ?_
    refine sd ?_
    refine sd ?_
    refine b_lt (fun t1=>?_) (fun t1=>?_)
    (exfalso; omega)
    refine sd ?_
    refine b_lt (fun t2=>?_) (fun t2=>?_)
    refine sd ?_
    refine sd ?_
    refine sd ?_
    refine ca (c13) ?_
    exact rfl
    (exfalso; omega)
   ·cases hs2:shortW [of,ri,ob] with
    | false =>
     rw [hs2] at c12_
     refine ca c11_ ?_
     refine ca c18_ ?_
     refine sd ?_
     refine sd ?_
     refine b_lt (fun t1=>?_) (fun t1=>?_)
     (exfalso; omega)
     refine sd ?_
     refine b_lt (fun t2=>?_) (fun t2=>?_)
     (exfalso; omega)
     refine ca c12_ ?_
     refine sd ?_
     refine sd ?_
     refine ca (c13) ?_
     exact rfl
    | true =>
     rw [hs2] at c12_
     by_cases hq:firstOf [nmE of,askE l ri ob]=0
     ·rw [hq] at c20_
      by_cases hd:within3 day 0 100000=0
      ·rw [hd] at c21_
       have c11_b:CallDet Tryz.prog 11 [.d (.agg [.slice 2 [],.slice 6 [.agg [.str g.fr,.str g.to,.str g.ri,.str g.ob,.int .i64 g.a,.int .i64 g.b]]])] [.bool (shortB [] [g])]:=c11 [] [g] (by decide) (by show 1≤1048576; decide)
       have c18_b:CallDet Tryz.prog 18 [.d (.agg [.slice 2 (obs l),.slice 6 (grs G++[Data.agg [.str g.fr,.str g.to,.str g.ri,.str g.ob,.int .i64 g.a,.int .i64 g.b]])])] [.int .i64 (bookE l (G++[g]))]:=by
        have h:=c18 l (G++[g]) hl (by rw [List.length_append]; show G.length+1≤_; omega)
        rw [show grs (G++[g])=grs G++[Data.agg [.str g.fr,.str g.to,.str g.ri,.str g.ob,.int .i64 g.a,.int .i64 g.b]] from List.map_append] at h
        exact h
       have c18_a:=c18_
       cases hs3:shortB [] [g] with
       | false =>
        rw [hs3] at c11_b
        have c11_a:=c11_
        refine ca c11_a ?_
        refine ca c18_a ?_
        refine sd ?_
        refine sd ?_
        refine b_lt (fun t1=>?_) (fun t1=>?_)
        (exfalso; omega)
        refine sd ?_
        refine b_lt (fun t2=>?_) (fun t2=>?_)
        (exfalso; omega)
        refine ca c12_ ?_
        refine ca c20_ ?_
        refine sd ?_
        refine ca c21_ ?_
        refine sd ?_
        refine sd ?_
        refine sd ?_
        refine an ?_ ?_
        refine an ?_ ?_
        exact rfl
        refine an ?_ ?_
        exact rfl
        refine an ?_ ?_
        exact rfl
        refine an ?_ ?_
        (show ((0:Nat)+List.length (grs G)) * (80:Nat)≤(2:Nat) ^ (47:Nat); omega)
        (show (0:Nat)+List.length (grs G)≤(2:Nat) ^ (47:Nat); omega)
        refine sd ?_
        refine sd ?_
        refine sd ?_
        refine an ?_ ?_
        refine an ?_ ?_
        exact rfl
        refine an ?_ ?_
        exact rfl
        refine an ?_ ?_
        exact rfl
        refine an ?_ ?_
        (show (List.length ([]++grs G)+(1:Nat)) * (80:Nat)≤(2:Nat) ^ (47:Nat); omega)
        (show List.length ([]++grs G)+(1:Nat)≤(2:Nat) ^ (47:Nat); omega)
        refine sd ?_
        refine sd ?_
        refine sd ?_
        refine sd ?_
        refine ca c11_b ?_
        refine sd ?_
        refine ca (c13) ?_
        exact rfl
       | true =>
        rw [hs3] at c11_b
        have c11_a:=c11_
        by_cases hb2:bookE l (G++[g])=0
        ·rw [hb2] at c18_b
         have c15_a:=c15 l G hl hG
         have hnm:nmE of=0:=firstOf_zero hq (nmE of) (by simp)
         have hask:askE l ri ob=0:=firstOf_zero hq (askE l ri ob) (by simp)
         have hqd:qdE l G of ri ob day=0:=qd_0 hb hnm hask hd
         have hqe:qE l G of ri ob=0:=by rw [← qE_2 hb]; exact hq
         have hof:ofE l G ri ob day=0:=by rw [← ofE_2 hb,hask,hd]; rfl
         have c14_a:=c14 l G of ri ob day hl hG
         have c16_:=c16 l G of ri ob day hl hG
         have c29_:=c29 l G ri ob day hl hG
         have c30_:=c30 l G of ri ob hl hG
         rw [hqd] at c14_a c16_
         rw [hof] at c29_
         rw [hqe] at c30_
         have c14_a:CallDet Tryz.prog 14 [.d (.agg [.slice 2 (obs l),.slice 6 (grs G)]),.d (.str of),.d (.str ri),.d (.str ob),.d (.int .i64 day)] [.bool (chainP l G ri ob day of).isSome,.int .i64 0]:=c14_a
         have c16_:CallDet Tryz.prog 16 [.d (.agg [.slice 2 (obs l),.slice 6 (grs G)]),.d (.str of),.d (.str ri),.d (.str ob),.d (.int .i64 day)] [.slice 1 (ints ((chainP l G ri ob day of).getD [])),.int .i64 (bif (chainP l G ri ob day of).isSome then 0 else 7)]:=c16_
         have c29_:CallDet Tryz.prog 29 [.d (.agg [.slice 2 (obs l),.slice 6 (grs G)]),.d (.str ri),.d (.str ob),.d (.int .i64 day)] [.slice 1 (strs (offL (fun n=>(chainP l G ri ob day n).isSome) G [(ownO l ob).getD []])),.int .i64 0]:=c29_
         have c30_:CallDet Tryz.prog 30 [.d (.agg [.slice 2 (obs l),.slice 6 (grs G)]),.d (.str of),.d (.str ri),.d (.str ob)] [.slice 2 (sps (daysP l G of ri ob)),.int .i64 0]:=c30_
         have hgr:=ends_gr (book_gr hb)
         have hsp:=days_sps l G of ri ob hgr
         have hG10:G.length≤10:=by omega
         have hdl:=daysP_len l G of ri ob (by omega)
         have hOl:(offL (fun n=>(chainP l G ri ob day n).isSome) G [(ownO l ob).getD []]).length≤1+G.length:=offL_le _
         have hO1:=offL_len (fun n=>(chainP l G ri ob day n).isSome) (G:=G) (L:=[(ownO l ob).getD []])
         have hO0:(offL (fun n=>(chainP l G ri ob day n).isSome) G [(ownO l ob).getD []])[0]?=some ((ownO l ob).getD []):=hO1.2.2 0 Nat.one_pos
         have hO1:1≤(offL (fun n=>(chainP l G ri ob day n).isSome) G [(ownO l ob).getD []]).length:=hO1.1
         have hOn:=offL_nodup (fun n=>(chainP l G ri ob day n).isSome) (G:=G) (L:=[(ownO l ob).getD []]) (List.nodup_cons.2 ⟨List.not_mem_nil,List.nodup_nil⟩)
         have hOc:=off_con l G ri ob day
         have hnO:∀ n∈offL (fun n=>(chainP l G ri ob day n).isSome) G [(ownO l ob).getD []],nmE n=0∧(chainP l G ri ob day n).isSome=true:=fun n hn=>by
          refine ⟨?_,(off_has l G ri ob day n).1 hn⟩
          rcases (offL_mem _ n).1 hn with h | ⟨y,hy,_,h⟩
          ·rw [List.mem_singleton.1 h]
           exact own_nm (obE_nm (book_ob hb)) ob (ask_own hask)
          ·rw [← h]
           exact (gr_ask (grE_x (book_gr hb) y hy)).1.2
         have hO14:∀ n∈offL (fun n=>(chainP l G ri ob day n).isSome) G [(ownO l ob).getD []],CallDet Tryz.prog 14 [.d (.agg [.slice 2 (obs l),.slice 6 (grs G)]),.d (.str n),.d (.str ri),.d (.str ob),.d (.int .i64 day)] [.bool true,.int .i64 0]:=fun n hn=>by
          have h:=c14 l G n ri ob day hl hG
          rw [qd_0 hb (hnO n hn).1 hask hd,(hnO n hn).2] at h
          exact h
         have c92_a:=c92 (offL (fun n=>(chainP l G ri ob day n).isSome) G [(ownO l ob).getD []]) of (by omega)
         rw [hOc of] at c92_a
         generalize hO:offL (fun n=>(chainP l G ri ob day n).isSome) G [(ownO l ob).getD []]=O at c29_ hOl hO0 hO1 hOn hO14 c92_a
         have hO92:∀ (k:Nat) (n:Nm),O[k]?=some n→CallDet Tryz.prog 92 [.d (.slice 1 (strs (O.take k))),.d (.str n)] [.bool false]:=fun k n hn=>by
          have h:=c92 (O.take k) n (by rw [List.length_take]; omega)
          rw [take_con hOn hn] at h
          exact h
         have hg:=grE_x (book_gr hb2) g (List.mem_append_right _ List.mem_cons_self)
         have hga:=gr_ask hg
         have hG2:(G++[g]).length≤1048576:=by rw [List.length_append]; show G.length+1≤_; omega
         have eX:grs (G++[g])=grs G++[Data.agg [.str g.fr,.str g.to,.str g.ri,.str g.ob,.int .i64 g.a,.int .i64 g.b]]:=List.map_append
         have c15_m:=c15 l (G++[g]) hl hG2
         have c14_1:=c14 l (G++[g]) of ri ob day hl hG2
         have c14_2:=c14 l (G++[g]) g.fr g.ri g.ob day hl hG2
         have c14_3:=c14 l (G++[g]) g.to g.ri g.ob day hl hG2
         rw [qd_0 hb2 hnm hask hd,eX] at c14_1
         rw [qd_0 hb2 hga.1.1 hga.2 hd,eX] at c14_2
         rw [qd_0 hb2 hga.1.2 hga.2 hd,eX] at c14_3
         rw [eX] at c15_m
         have hmore:=chain_more (ri:=ri) (ob:=ob) (day:=day) (G:=G) l g of
         have hgive:=chain_give (day:=day) (G:=G) l g
         have hDs:∀ x∈daysP l G of ri ob,0≤x.1∧x.1 < x.2∧x.2≤100001:=hsp.rg
         have hDa:∀ (k:Nat) (x y:Int × Int),(daysP l G of ri ob)[k]?=some y→(daysP l G of ri ob)[k+1]?=some x→y.2 < x.1:=fun k x y hy hx=>by
          obtain ⟨h1,rfl⟩:=List.getElem?_eq_some_iff.1 hy
          obtain ⟨h2,rfl⟩:=List.getElem?_eq_some_iff.1 hx
          exact List.pairwise_iff_getElem.1 hsp.ap k (k+1) h1 h2 (Nat.lt_succ_self k)
         have hdr:=day_rg hd
         have hany:(daysP l G of ri ob).any (fun x:Int × Int=>decide (x.1≤day)&&decide (day < x.2))=(chainP l G ri ob day of).isSome:=by
          rw [Bool.eq_iff_iff,← hsp.has day hdr.1 hdr.2,List.any_eq_true]
          constructor
          ·rintro ⟨x,hx,h⟩
           simp only [Bool.and_eq_true,decide_eq_true_eq] at h
           exact ⟨x,hx,h.1,h.2⟩
          ·rintro ⟨x,hx,h1,h2⟩
           exact ⟨x,hx,by simp [h1,h2]⟩
         generalize daysP l G of ri ob=D at c30_ hdl hDs hDa hany
         clear hsp hOc hnO hO
         cases hch:chainP l G ri ob day of with
         | some c =>
          obtain ⟨k1,k2,k3⟩:=chk_0 (by omega) hqd hch
          have hP:=(chain_pth ri ob day of hch).1
          have c17_a:=c17 l G of ri ob day c hl hG (by omega)
          have c17_b:=fun h:c≠[]=>(k2 h) ▸ c17 l G of ri ob day (c.drop 1) hl hG (by rw [List.length_drop]; omega)
          rw [k1] at c17_a
          rw [hch] at c14_a c16_ c92_a hany hmore
          have hmore:=hmore rfl
          have c14_a:CallDet Tryz.prog 14 [.d (.agg [.slice 2 (obs l),.slice 6 (grs G)]),.d (.str of),.d (.str ri),.d (.str ob),.d (.int .i64 day)] [.bool true,.int .i64 0]:=c14_a
          have c16_:CallDet Tryz.prog 16 [.d (.agg [.slice 2 (obs l),.slice 6 (grs G)]),.d (.str of),.d (.str ri),.d (.str ob),.d (.int .i64 day)] [.slice 1 (ints c),.int .i64 0]:=c16_
          have hlc:=ints_len c
          have hlO:=strs_len O
          refine ca c11_a ?_
          refine ca c18_a ?_
          refine sd ?_
          refine sd ?_
          refine b_lt (fun t1=>?_) (fun t1=>?_)
          (exfalso; omega)
          refine sd ?_
          refine b_lt (fun t2=>?_) (fun t2=>?_)
          (exfalso; omega)
          refine ca c12_ ?_
          refine ca c20_ ?_
          refine sd ?_
          refine ca c21_ ?_
          refine sd ?_
          refine sd ?_
          refine sd ?_
          refine an ?_ ?_
          refine an ?_ ?_
          exact rfl
          refine an ?_ ?_
          exact rfl
          refine an ?_ ?_
          exact rfl
          refine an ?_ ?_
          (show ((0:Nat)+List.length (grs G)) * (80:Nat)≤(2:Nat) ^ (47:Nat); omega)
          (show (0:Nat)+List.length (grs G)≤(2:Nat) ^ (47:Nat); omega)
          refine sd ?_
          refine sd ?_
          refine sd ?_
          refine an ?_ ?_
          refine an ?_ ?_
          exact rfl
          refine an ?_ ?_
          exact rfl
          refine an ?_ ?_
          exact rfl
          refine an ?_ ?_
          (show (List.length ([]++grs G)+(1:Nat)) * (80:Nat)≤(2:Nat) ^ (47:Nat); omega)
          (show List.length ([]++grs G)+(1:Nat)≤(2:Nat) ^ (47:Nat); omega)
          refine sd ?_
          refine sd ?_
          refine sd ?_
          refine sd ?_
          refine ca c11_b ?_
          refine sd ?_
          refine ca c18_b ?_
          refine sd ?_
          refine ca c15_a ?_
          refine ca c14_a ?_
          refine ca c15_a ?_
          refine ca c16_ ?_
          refine ca c15_a ?_
          refine ca c29_ ?_
          refine ca c15_a ?_
          refine ca c30_ ?_
          refine sd ?_
          refine sd ?_
          refine sd ?_
          refine sd ?_
          refine sd ?_
          refine ca c92_a ?_
          refine sd ?_
          refine b_lt (fun t3=>?_) (fun t3=>?_)
          (exfalso; omega)
          refine ar_add ?_ ?_
          refine an ?_ ?_
          (show (-9223372036854775808:Int)≤(↑(List.length (grs G)):Int)+(1:Int); omega)
          (show (↑(List.length (grs G)):Int)+(1:Int)≤(9223372036854775807:Int); omega)
          refine sd ?_
          refine b_lt (fun t4=>?_) (fun t4=>?_)
          (exfalso; omega)
          refine sd ?_
          refine b_lt (fun t5=>?_) (fun t5=>?_)
          (exfalso; omega)
          rotate_left
          refine v9e (by omega) hDs hDa hany ?_
          rotate_left
          refine v9g (by omega) c15_a hO14 hO92 ?_
          rotate_left
          refine v9t hG (by omega) hP hO0 c15_a c17_a c17_b ?_
          rotate_left
          exact v9i (G:=G) rfl c15_m c14_1 c14_2 c14_3 (fun _=>hmore) hgive
         | none =>
          have c17_a:=c17 l G of ri ob day [] hl hG (by decide)
          rw [chk_n hqd hch] at c17_a
          rw [hch] at c14_a c16_ c92_a hany
          have c14_a:CallDet Tryz.prog 14 [.d (.agg [.slice 2 (obs l),.slice 6 (grs G)]),.d (.str of),.d (.str ri),.d (.str ob),.d (.int .i64 day)] [.bool false,.int .i64 0]:=c14_a
          have c16_:CallDet Tryz.prog 16 [.d (.agg [.slice 2 (obs l),.slice 6 (grs G)]),.d (.str of),.d (.str ri),.d (.str ob),.d (.int .i64 day)] [.slice 1 (ints []),.int .i64 7]:=c16_
          have hlO:=strs_len O
          refine ca c11_a ?_
          refine ca c18_a ?_
          refine sd ?_
          refine sd ?_
          refine b_lt (fun t1=>?_) (fun t1=>?_)
          (exfalso; omega)
          refine sd ?_
          refine b_lt (fun t2=>?_) (fun t2=>?_)
          (exfalso; omega)
          refine ca c12_ ?_
          refine ca c20_ ?_
          refine sd ?_
          refine ca c21_ ?_
          refine sd ?_
          refine sd ?_
          refine sd ?_
          refine an ?_ ?_
          refine an ?_ ?_
          exact rfl
          refine an ?_ ?_
          exact rfl
          refine an ?_ ?_
          exact rfl
          refine an ?_ ?_
          (show ((0:Nat)+List.length (grs G)) * (80:Nat)≤(2:Nat) ^ (47:Nat); omega)
          (show (0:Nat)+List.length (grs G)≤(2:Nat) ^ (47:Nat); omega)
          refine sd ?_
          refine sd ?_
          refine sd ?_
          refine an ?_ ?_
          refine an ?_ ?_
          exact rfl
          refine an ?_ ?_
          exact rfl
          refine an ?_ ?_
          exact rfl
          refine an ?_ ?_
          (show (List.length ([]++grs G)+(1:Nat)) * (80:Nat)≤(2:Nat) ^ (47:Nat); omega)
          (show List.length ([]++grs G)+(1:Nat)≤(2:Nat) ^ (47:Nat); omega)
          refine sd ?_
          refine sd ?_
          refine sd ?_
          refine sd ?_
          refine ca c11_b ?_
          refine sd ?_
          refine ca c18_b ?_
          refine sd ?_
          refine ca c15_a ?_
          refine ca c14_a ?_
          refine ca c15_a ?_
          refine ca c16_ ?_
          refine ca c15_a ?_
          refine ca c29_ ?_
          refine ca c15_a ?_
          refine ca c30_ ?_
          refine sd ?_
          refine sd ?_
          refine sd ?_
          refine sd ?_
          refine sd ?_
          refine ca c92_a ?_
          refine sd ?_
          refine b_lt (fun t3=>?_) (fun t3=>?_)
          (exfalso; omega)
          refine ar_add ?_ ?_
          refine an ?_ ?_
          (show (-9223372036854775808:Int)≤(↑(List.length (grs G)):Int)+(1:Int); omega)
          (show (↑(List.length (grs G)):Int)+(1:Int)≤(9223372036854775807:Int); omega)
          refine sd ?_
          refine b_lt (fun t4=>?_) (fun t4=>?_)
          (exfalso; omega)
          refine sd ?_
          rotate_left
          refine v9e (by omega) hDs hDa hany ?_
          rotate_left
          refine v9g (by omega) c15_a hO14 hO92 ?_
          rotate_left
          refine v9f c15_a c17_a ?_
          rotate_left
          exact v9i (G:=G) rfl c15_m c14_1 c14_2 c14_3 (fun h=>by cases h) hgive
        ·refine ca c11_a ?_
         refine ca c18_a ?_
         refine sd ?_
         refine sd ?_
         refine b_lt (fun t1=>?_) (fun t1=>?_)
         (exfalso; omega)
         refine sd ?_
         refine b_lt (fun t2=>?_) (fun t2=>?_)
         (exfalso; omega)
         refine ca c12_ ?_
         refine ca c20_ ?_
         refine sd ?_
         refine ca c21_ ?_
         refine sd ?_
         refine sd ?_
         refine sd ?_
         refine an ?_ ?_
         refine an ?_ ?_
         exact rfl
         refine an ?_ ?_
         exact rfl
         refine an ?_ ?_
         exact rfl
         refine an ?_ ?_
         (show ((0:Nat)+List.length (grs G)) * (80:Nat)≤(2:Nat) ^ (47:Nat); omega)
         (show (0:Nat)+List.length (grs G)≤(2:Nat) ^ (47:Nat); omega)
         refine sd ?_
         refine sd ?_
         refine sd ?_
         refine an ?_ ?_
         refine an ?_ ?_
         exact rfl
         refine an ?_ ?_
         exact rfl
         refine an ?_ ?_
         exact rfl
         refine an ?_ ?_
         (show (List.length ([]++grs G)+(1:Nat)) * (80:Nat)≤(2:Nat) ^ (47:Nat); omega)
         (show List.length ([]++grs G)+(1:Nat)≤(2:Nat) ^ (47:Nat); omega)
         refine sd ?_
         refine sd ?_
         refine sd ?_
         refine sd ?_
         refine ca c11_b ?_
         refine sd ?_
         refine ca c18_b ?_
         refine sd ?_
         refine b_ne (fun t3=>?_) (fun t3=>?_)
         refine ca (c13) ?_
         exact rfl
         (exfalso; omega)
      ·refine ca c11_ ?_
       refine ca c18_ ?_
       refine sd ?_
       refine sd ?_
       refine b_lt (fun t1=>?_) (fun t1=>?_)
       (exfalso; omega)
       refine sd ?_
       refine b_lt (fun t2=>?_) (fun t2=>?_)
       (exfalso; omega)
       refine ca c12_ ?_
       refine ca c20_ ?_
       refine sd ?_
       refine ca c21_ ?_
       refine sd ?_
       refine b_ne (fun t3=>?_) (fun t3=>?_)
       refine ca (c13) ?_
       exact rfl
       (exfalso; omega)
     ·refine ca c11_ ?_
      refine ca c18_ ?_
      refine sd ?_
      refine sd ?_
      refine b_lt (fun t1=>?_) (fun t1=>?_)
      (exfalso; omega)
      refine sd ?_
      refine b_lt (fun t2=>?_) (fun t2=>?_)
      (exfalso; omega)
      refine ca c12_ ?_
      refine ca c20_ ?_
      refine sd ?_
      refine b_ne (fun t3=>?_) (fun t3=>?_)
      refine sd ?_
      refine ca (c13) ?_
      exact rfl
      (exfalso; omega)
 ·refine ca c11_ ?_
  refine ca c18_ ?_
  refine sd ?_
  refine b_ne (fun t1=>?_) (fun t1=>?_)
  refine sd ?_
  refine sd ?_
  refine sd ?_
  refine sd ?_
  refine sd ?_
  refine ca (c13) ?_
  exact rfl
  (exfalso; omega)
end Vc
