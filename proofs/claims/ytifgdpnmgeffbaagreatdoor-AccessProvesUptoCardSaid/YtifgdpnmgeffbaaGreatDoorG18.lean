import Derived.Test.YtifgdpnmgeffbaaGreatDoorG17
set_option linter.unusedSectionVars false
set_option linter.unusedVariables false
set_option linter.unusedSimpArgs false
set_option maxRecDepth 10000
set_option maxHeartbeats 4000000
namespace Vc
open Go Go.Proofs
@[irreducible] def seg102l:ACode:=(.loop (.post [2,3,4,10,11,12] [6] (.asdat 11 (.keep [2,3,4,10,11,12] [4,13] 
 (.seq
 (.seq
 (.reg [] [⟨some 36,.mov (.tmp 11),none⟩,
 ⟨some 37,.len (.tmp 36),none⟩,
 ⟨some 38,.cmp .gtr (.tmp 37) (.cst (.d (.int .i64 0))),none⟩])
 (.cond (.tmp 38)
 .skip
 (.exit 0)))
 (.block 1
 (.seq
 (.reg [6] [⟨some 13,.alloc 6 [(.nils 2)],none⟩])
 (.seq
 (.seq
 (.reg [] [⟨some 39,.mov (.tmp 11),none⟩,
 ⟨some 40,.len (.tmp 39),none⟩,
 ⟨some 41,.mov (.cst (.d (.int .i64 0))),none⟩])
 (.keep [2,3,4,10,12,13,39,40,41] [4] seg102w))
 (.reg [] [⟨some 83,.ld false 1 (.tmp 13),none⟩,
 ⟨some 11,.mov (.tmp 83),none⟩])))))))))
def jt102:AFun:=⟨87,15,[.tmp 6,.tmp 7],
 (.seq
 (.reg [0,1] [⟨some 3,.cbx 0 4 (.tmp 0),none⟩,
  ⟨some 4,.cbx 1 1 (.tmp 1),none⟩,
  ⟨some 6,.mov (.cst (.nils 1)),none⟩,
  ⟨some 7,.mov (.cst (.d (.bool false))),none⟩])
 (.scope
  (.seq
  (.reg [] [⟨some 20,.fad 0 (.tmp 3),none⟩,
   ⟨some 21,.ld true 2 (.tmp 20),none⟩,
   ⟨some 22,.fad 3 (.tmp 3),none⟩,
   ⟨some 23,.ld false 1 (.tmp 22),none⟩,
   ⟨some 24,.call 107 [(.tmp 21),(.tmp 23)],none⟩,
   ⟨some 19,.mov (.tmp 24),none⟩,
   ⟨some 25,.ext 0 (.tmp 19),none⟩,
   ⟨some 26,.ext 1 (.tmp 19),none⟩,
   ⟨some 8,.mov (.tmp 25),none⟩,
   ⟨some 9,.mov (.tmp 26),none⟩])
  (.seq
   (.seq
   (.reg [] [⟨some 27,.ld false 1 (.tmp 4),none⟩,
    ⟨some 28,.mov (.tmp 8),none⟩,
    ⟨some 29,.seq false (.tmp 27) (.tmp 28),none⟩])
   (.cond (.tmp 29)
    (.seq
    (.reg [] [⟨some 6,.mov (.cst (.nils 1)),none⟩,
     ⟨some 7,.mov (.cst (.d (.bool true))),none⟩])
    .ret)
    .skip))
   (.seq
   (.reg [2,3] [⟨some 30,.mkm 2,none⟩,
    ⟨some 31,.mov (.tmp 8),none⟩,
    ⟨none,.mpu none (.tmp 30) (.tmp 31) (.cst (.d (.bool true))),none⟩,
    ⟨some 32,.mov (.tmp 30),none⟩,
    ⟨some 10,.alloc 3 [.undef],none⟩,
    ⟨none,.st 1 (.tmp 10) (.tmp 32),none⟩])
   (.seq
    (.reg [4] [⟨some 33,.mov (.tmp 8),none⟩,
     ⟨some 34,.build [(.d (.str [])),(.nils 1)] [(0,1,(.tmp 33)),(1,1,(.cst (.nils 1)))],none⟩,
     ⟨some 35,.bsl 4 234 2 1 [(.agg [(.str []),(.slice 1 [])])] [(0,(.tmp 34))],none⟩,
     ⟨some 11,.mov (.tmp 35),none⟩])
    (.seq
    (.reg [5] [⟨some 12,.alloc 5 [(.nils 1)],none⟩])
    (.seq
     .skip
     (.seq
     (.post [12] [0,1,2,3,4,5,6,7,8,9,10,11,12,13]
      (.block 0
      (.asdat 11 (.keep [2,3,4,10,11,12] [4] seg102l))))
     (.seq
      (.regd [] [⟨some 84,.ld false 1 (.tmp 12),none⟩,
       ⟨some 85,.ld false 1 (.tmp 12),none⟩,
       ⟨some 86,.isnil true (.tmp 85),none⟩,
       ⟨some 6,.mov (.tmp 84),none⟩,
       ⟨some 7,.mov (.tmp 86),none⟩] [(0,1),(0,2),(1,3),(2,3)])
      .ret))))))))))⟩
theorem vc_post {P : Program} [Laid P] {n : Nat} {ks gs : List Nat} {c : ACode} {st : St} {Q : AExit → St → Prop}
  (h:vc P n c st (fun e st'=>match e with
  | .normal=>forceL (keepL ks st'.slots) fun sl=>clear gs ⟨sl,st'.heap⟩ fun st=>Q .normal st
  | .exit i=>Q (.exit i) st'
  | .ret=>Q .ret st')):vc P n (.post ks gs c) st Q:=by
 rw [vc]; exact h
theorem vc_asdat_row {P : Program} [Laid P] {n : Nat} {c : ACode} {st : St} {s id m : Nat} {t : TypeId} {sz : Nat} {es : List Data} {fz : Bool} {Q : AExit → St → Prop} (h1 : getL st.slots s = .sl id m) (h2 : st.heap[id]? = some (.row t sz es fz)) (h5 : es.length = m)
  (hk:vc P n c ⟨setL st.slots s (.d (.slice sz es)),st.heap.set id (.row t sz es true)⟩ Q):vc P n (.asdat s c) st Q:=by
 have h6:Nat.beq es.length m=true:=by rw [h5]; exact Nat.beq_refl m
 simp only [vc,h1,h2,h6,forceH_eq,forceL_eq]
 exact hk
theorem cntR_le (R:List Nm):∀ G:List Gr,cntR R G≤G.length
 | []=>Nat.le_refl _
 | g::r=>by
  have ih:=cntR_le R r
  rw [cntR,List.length_cons]
  cases R.contains g.to
  ·show 1+_≤_; omega
  ·show 0+_≤_; omega
def chainP (l:List Ob) (G:List Gr) (ri ob:Nm) (day:Int) (of:Nm):Option (List Int):=bif of==(ownO l ob).getD [] then some [] else srch ri ob day of G (2 * G.length+2) [([],(ownO l ob).getD [])] [(ownO l ob).getD []]
theorem ints_snoc (a:List Int) (i:Int):ints (a++[i])=ints a++[Data.int .i64 i]:=List.map_append
theorem v102l {l : List Ob} {G : List Gr} {ri ob of T : Nm} {day : Int} (hl : l.length ≤ 1048576) (hG : G.length ≤ 32) {Q : AExit → St → Prop}
  (hn:∀ (R:List Nm) (a b:AVal),(∃ q,a=.d q)∨a=.nils 2→(∃ q,b=.d q)∨b=.nils 2→srch ri ob day of G (2 * G.length+2) [([],T)] [T]=none→Q (.exit 0) ⟨[(2,.d (.int .i64 day)),(3,.ptr 0 0),(4,.ptr 1 0),(10,.ptr 3 0),(11,a),(12,.ptr 5 0),(36,b),(37,.d (.int .i64 0)),(38,.d (.bool (cmpF .gtr 0 0)))],[.cbox [.slice 2 (obs l),.slice 6 (grs G),.str ri,.str ob],.cbox [.str of],.mapo (KM R),.box [.mp 2],.none,.box [.nils 1],.none,.none,.none,.none,.none,.none,.none,.none,.none]⟩)
  (hx:∀ (c:List Int) (R:List Nm) (D:List Data) (N:List Way) (w:Way) (g:Gr) (i n j:Int),c=w.1++[i]→srch ri ob day of G (2 * G.length+2) [([],T)] [T]=some c→Q (.exit 0) ⟨sl102 day D n j (.fn (.func 187) [.agg [.slice 2 (obs l),.slice 6 (grs G),.str ri,.str ob],.agg [.int .i64 day]]),setAll (HP l G ri ob of w (KM R) (.sl 11 (ints w.1++[Data.int .i64 i]).length) (nx N) .none (.box [.d (.str g.fr),.d (.str g.to),.d (.str g.ri),.d (.str g.ob),.d (.int .i64 g.a),.d (.int .i64 g.b)]) (.row 3 1 [.int .i64 i] false) (.row 3 1 (ints w.1++[Data.int .i64 i]) false) (nxo N) (.box [.d (.str g.fr),.d (.str g.to),.d (.str g.ri),.d (.str g.ob),.d (.int .i64 g.a),.d (.int .i64 g.b)])) []⟩):vc Tryz.prog 87 seg102l ⟨[(2,.d (.int .i64 day)),(3,.ptr 0 0),(4,.ptr 1 0),(10,.ptr 3 0),(11,.d (.slice 2 (wys [([],T)]))),(12,.ptr 5 0)],[.cbox [.slice 2 (obs l),.slice 6 (grs G),.str ri,.str ob],.cbox [.str of],.mapo (KM [T]),.box [.mp 2],.none,.box [.nils 1],.none,.none,.none,.none,.none,.none,.none,.none,.none]⟩ Q:=by
 unfold seg102l
 refine loop_st (fun p:Bool × Nat × List Way × List Nm=>⟨[(2,.d (.int .i64 day)),(3,.ptr 0 0),(4,.ptr 1 0),(10,.ptr 3 0),(11,bif p.1 then .d (.slice 2 (wys p.2.2.1)) else nx p.2.2.1),(12,.ptr 5 0)],[.cbox [.slice 2 (obs l),.slice 6 (grs G),.str ri,.str ob],.cbox [.str of],.mapo (KM p.2.2.2),.box [.mp 2],.none,.box [.nils 1],.none,.none,.none,.none,.none,.none,.none,bif p.1 then .none else nxo p.2.2.1,.none]⟩) (fun p=>((mea G p.2.2.1 p.2.2.2 < p.2.1∧p.2.1≤70)∧((∀ w∈p.2.2.1,w.1.length+p.2.1≤100)∧(cntR p.2.2.2 G≤32∧p.2.2.1.length≤32)))∧srch ri ob day of G (2 * G.length+2) [([],T)] [T]=srch ri ob day of G p.2.1 p.2.2.1 p.2.2.2) (fun p=>p.2.1) (true,2 * G.length+2,[([],T)],[T]) rfl ⟨⟨⟨?_,by show 2 * G.length+2≤70; omega⟩,⟨?_,⟨?_,by show 1≤32; omega⟩⟩⟩,rfl⟩ ?_
 ·show 2 * cntR [T] G+1 < 2 * G.length+2
  have:=cntR_le [T] G
  omega
 ·intro w hw
  rw [List.mem_singleton.1 hw]
  show 0+(2 * G.length+2)≤100
  omega
 ·have:=cntR_le [T] G
  show cntR [T] G≤32
  omega
 rintro ⟨b,f,W,R⟩ ⟨⟨⟨hm0,hf0⟩,⟨hw0,⟨hc0,hWl0⟩⟩⟩,hi0⟩
 have hm:mea G W R < f:=hm0
 have hf:f≤70:=hf0
 have hw:∀ w∈W,w.1.length+f≤100:=hw0
 have hc:cntR R G≤32:=hc0
 have hWl:W.length≤32:=hWl0
 have hi:srch ri ob day of G (2 * G.length+2) [([],T)] [T]=srch ri ob day of G f W R:=hi0
 clear hm0 hf0 hw0 hc0 hWl0 hi0
 dsimp only
 cases f with
 | zero=>exact absurd hm (Nat.not_lt_zero _)
 | succ f =>
  cases W with
  | nil =>
   have hi:srch ri ob day of G (2 * G.length+2) [([],T)] [T]=none:=hi
   rw [hi]
   cases b with
   | true =>
    refine sd ?_
    rotate_left
    exact hn R _ _ (Or.inl ⟨_,rfl⟩) (Or.inl ⟨_,rfl⟩) hi
   | false =>
    refine sd ?_
    rotate_left
    exact hn R _ _ (Or.inr rfl) (Or.inr rfl) hi
  | cons y r =>
   have hi:srch ri ob day of G (2 * G.length+2) [([],T)] [T]=(match prW ri ob day of G (y::r) R [] with | (some c,_,_)=>some c | (none,R',N')=>srch ri ob day of G f N' R'):=hi
   cases b with
   | true =>
    refine sd ?_
    refine b_lt (fun t1=>?_) (fun t1=>?_)
    replace t1:(0:Int) < (↑(List.length (List.map (fun w=>Data.agg [Data.str (Prod.snd w),Data.slice (1:Nat) (ints (Prod.fst w))]) r)+(1:Nat)):Int):=t1
    rotate_left
    replace t1:¬(0:Int) < (↑(List.length (List.map (fun w=>Data.agg [Data.str (Prod.snd w),Data.slice (1:Nat) (ints (Prod.fst w))]) r)+(1:Nat)):Int):=t1
    (exfalso; omega)
    refine v102w hl hG hc (by omega) (fun w hx=>by have:=hw w hx; omega) ?_ ?_
    ·intro R' N' hpw
     rw [hpw] at hi
     have hm1:=mea_step ri ob day of hpw
     have hc1:=prW_cnt ri ob day of hpw
     have hl1:=prW_len ri ob day of (q:=100 - (f+1)) (fun w hx=>by have:=hw w hx; omega) (fun z hz=>by cases hz) hpw
     have hc2:cntR R' G+N'.length≤cntR R G+0:=hc1
     have fin:∃ a':Bool × Nat × List Way × List Nm,((((mea G a'.2.2.1 a'.2.2.2 < a'.2.1∧a'.2.1≤70)∧((∀ w∈a'.2.2.1,w.1.length+a'.2.1≤100)∧(cntR a'.2.2.2 G≤32∧a'.2.2.1.length≤32)))∧srch ri ob day of G (2 * G.length+2) [([],T)] [T]=srch ri ob day of G a'.2.1 a'.2.2.1 a'.2.2.2)∧a'.2.1 < f+1)∧(⟨[(2,.d (.int .i64 day)),(3,.ptr 0 0),(4,.ptr 1 0),(10,.ptr 3 0),(11,nx N'),(12,.ptr 5 0)],[.cbox [.slice 2 (obs l),.slice 6 (grs G),.str ri,.str ob],.cbox [.str of],.mapo (KM R'),.box [.mp 2],.none,.box [.nils 1],.none,.none,.none,.none,.none,.none,.none,nxo N',.none]⟩:St)=⟨[(2,.d (.int .i64 day)),(3,.ptr 0 0),(4,.ptr 1 0),(10,.ptr 3 0),(11,bif a'.1 then .d (.slice 2 (wys a'.2.2.1)) else nx a'.2.2.1),(12,.ptr 5 0)],[.cbox [.slice 2 (obs l),.slice 6 (grs G),.str ri,.str ob],.cbox [.str of],.mapo (KM a'.2.2.2),.box [.mp 2],.none,.box [.nils 1],.none,.none,.none,.none,.none,.none,.none,bif a'.1 then .none else nxo a'.2.2.1,.none]⟩:=⟨(false,f,N',R'),⟨⟨⟨⟨by show mea G N' R' < f; omega,by show f≤70; omega⟩,⟨fun w hx=>by have:=hl1 w hx; show w.1.length+f≤100; omega,⟨by show cntR R' G≤32; omega,by show N'.length≤32; omega⟩⟩⟩,hi⟩,by show f < f+1; omega⟩,rfl⟩
     clear hi
     cases N' with
     | nil =>
      rotate_left
      all_goals exact fin
     | cons y' r' =>
      rotate_left
      all_goals exact fin
    ·intro c R' N' w g i' n j hpw hcw
     rw [hpw] at hi
     have hi:srch ri ob day of G (2 * G.length+2) [([],T)] [T]=some c:=hi
     have fin:=hx c R' (wys (y::r)) N' w g i' n j hcw hi
     clear hi
     cases N' with
     | nil =>
      rotate_left
      all_goals exact fin
     | cons y' r' =>
      rotate_left
      all_goals exact fin
   | false =>
    refine vc_post ?_
    refine vc_asdat_row (id:=13) rfl rfl rfl ?_
    refine sd ?_
    refine b_lt (fun t1=>?_) (fun t1=>?_)
    replace t1:(0:Int) < (↑(List.length (List.map (fun w=>Data.agg [Data.str (Prod.snd w),Data.slice (1:Nat) (ints (Prod.fst w))]) r)+(1:Nat)):Int):=t1
    rotate_left
    replace t1:¬(0:Int) < (↑(List.length (List.map (fun w=>Data.agg [Data.str (Prod.snd w),Data.slice (1:Nat) (ints (Prod.fst w))]) r)+(1:Nat)):Int):=t1
    (exfalso; omega)
    refine v102w hl hG hc (by omega) (fun w hx=>by have:=hw w hx; omega) ?_ ?_
    ·intro R' N' hpw
     rw [hpw] at hi
     have hm1:=mea_step ri ob day of hpw
     have hc1:=prW_cnt ri ob day of hpw
     have hl1:=prW_len ri ob day of (q:=100 - (f+1)) (fun w hx=>by have:=hw w hx; omega) (fun z hz=>by cases hz) hpw
     have hc2:cntR R' G+N'.length≤cntR R G+0:=hc1
     have fin:∃ a':Bool × Nat × List Way × List Nm,((((mea G a'.2.2.1 a'.2.2.2 < a'.2.1∧a'.2.1≤70)∧((∀ w∈a'.2.2.1,w.1.length+a'.2.1≤100)∧(cntR a'.2.2.2 G≤32∧a'.2.2.1.length≤32)))∧srch ri ob day of G (2 * G.length+2) [([],T)] [T]=srch ri ob day of G a'.2.1 a'.2.2.1 a'.2.2.2)∧a'.2.1 < f+1)∧(⟨[(2,.d (.int .i64 day)),(3,.ptr 0 0),(4,.ptr 1 0),(10,.ptr 3 0),(11,nx N'),(12,.ptr 5 0)],[.cbox [.slice 2 (obs l),.slice 6 (grs G),.str ri,.str ob],.cbox [.str of],.mapo (KM R'),.box [.mp 2],.none,.box [.nils 1],.none,.none,.none,.none,.none,.none,.none,nxo N',.none]⟩:St)=⟨[(2,.d (.int .i64 day)),(3,.ptr 0 0),(4,.ptr 1 0),(10,.ptr 3 0),(11,bif a'.1 then .d (.slice 2 (wys a'.2.2.1)) else nx a'.2.2.1),(12,.ptr 5 0)],[.cbox [.slice 2 (obs l),.slice 6 (grs G),.str ri,.str ob],.cbox [.str of],.mapo (KM a'.2.2.2),.box [.mp 2],.none,.box [.nils 1],.none,.none,.none,.none,.none,.none,.none,bif a'.1 then .none else nxo a'.2.2.1,.none]⟩:=⟨(false,f,N',R'),⟨⟨⟨⟨by show mea G N' R' < f; omega,by show f≤70; omega⟩,⟨fun w hx=>by have:=hl1 w hx; show w.1.length+f≤100; omega,⟨by show cntR R' G≤32; omega,by show N'.length≤32; omega⟩⟩⟩,hi⟩,by show f < f+1; omega⟩,rfl⟩
     clear hi
     cases N' with
     | nil =>
      rotate_left
      all_goals exact fin
     | cons y' r' =>
      rotate_left
      all_goals exact fin
    ·intro c R' N' w g i' n j hpw hcw
     rw [hpw] at hi
     have hi:srch ri ob day of G (2 * G.length+2) [([],T)] [T]=some c:=hi
     have fin:=hx c R' (wys (y::r)) N' w g i' n j hcw hi
     clear hi
     cases N' with
     | nil =>
      rotate_left
      all_goals exact fin
     | cons y' r' =>
      rotate_left
      all_goals exact fin
theorem c102 (l:List Ob) (G:List Gr) (ri ob of:Nm) (day:Int) (hl:l.length≤1048576) (hG:G.length≤32):CallDet Tryz.prog 102 [.d (.agg [.slice 2 (obs l),.slice 6 (grs G),.str ri,.str ob]),.d (.str of),.d (.int .i64 day)] [.slice 1 (ints ((chainP l G ri ob day of).getD [])),.bool (chainP l G ri ob day of).isSome]:=by
 refine call_of_vc (x:=jt102) (by kernel_rfl) rfl ?_
 have c107_:=c107 l G ob hl
 cases h0:(of==(ownO l ob).getD []) with
 | true =>
  have hp:chainP l G ri ob day of=some []:=by unfold chainP; rw [h0]; rfl
  rw [hp]
  refine ca c107_ ?_
  refine b_t h0 ?_
  exact rfl
 | false =>
  have hp:chainP l G ri ob day of=srch ri ob day of G (2 * G.length+2) [([],(ownO l ob).getD [])] [(ownO l ob).getD []]:=by unfold chainP; rw [h0]; rfl
  rw [hp]
  clear hp
  generalize hX:srch ri ob day of G (2 * G.length+2) [([],(ownO l ob).getD [])] [(ownO l ob).getD []]=X
  refine ca c107_ ?_
  refine b_f h0 ?_
  refine an ?_ ?_
  refine an ?_ ?_
  exact rfl
  exact rfl
  refine sd ?_
  rotate_left
  refine v102l hl hG ?_ ?_
  ·intro R a b ha hb hi
   have hX:=hX.symm.trans hi
   subst hX
   rcases ha with ⟨q,rfl⟩ | rfl <;> rcases hb with ⟨q',rfl⟩ | rfl
   ·exact rfl
   ·exact rfl
   ·exact rfl
   ·exact rfl
  ·intro c R D N w g i n j hc hi
   have hX:=hX.symm.trans (hi.trans (congrArg some hc))
   subst hX
   cases N with
   | nil =>
    refine sd ?_
    refine sd ?_
    refine an ?_ ?_
    rotate_left
    rotate_left
    ·exact fun e=>absurd ((List.length_append).symm.trans (congrArg List.length e)) (Nat.succ_ne_zero _)
    ·show resV [_,_]=resV [.slice 1 (ints (w.1++[i])),.bool true]
     rw [ints_snoc]
   | cons y r =>
    refine sd ?_
    refine sd ?_
    refine an ?_ ?_
    rotate_left
    rotate_left
    ·exact fun e=>absurd ((List.length_append).symm.trans (congrArg List.length e)) (Nat.succ_ne_zero _)
    ·show resV [_,_]=resV [.slice 1 (ints (w.1++[i])),.bool true]
     rw [ints_snoc]
end Vc
