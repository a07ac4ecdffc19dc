import Derived.Test.YtifgdpnmgeffbaaGreatDoorG34
import Derived.Test.YtifgdpnmgeffbaaGreatDoorG28
set_option linter.unusedSectionVars false
set_option linter.unusedVariables false
set_option linter.unusedSimpArgs false
set_option maxRecDepth 10000
set_option maxHeartbeats 4000000
namespace Vc
open Go Go.Proofs
def jr3:AFun:=⟨151,6,[.tmp 6],
 (.seq
 (.reg [0,1] [⟨some 3,.cbx 0 2 (.tmp 0),none⟩,
  ⟨some 4,.cbx 1 4 (.tmp 1),none⟩,
  ⟨some 6,.mov (.cst (.d (.bool false))),none⟩])
 (.seq
  (.seq
  (.reg [] [⟨some 17,.ld true 2 (.tmp 3),none⟩,
   ⟨some 18,.call 11 [(.tmp 17)],none⟩,
   ⟨some 19,.not (.tmp 18),none⟩,
   ⟨some 20,.mov (.tmp 19),none⟩,
   ⟨some 21,.ld true 4 (.tmp 4),some (20,false)⟩,
   ⟨some 22,.call 12 [(.tmp 21)],some (20,false)⟩,
   ⟨some 23,.not (.tmp 22),some (20,false)⟩,
   ⟨some 24,.pick (.tmp 20) (.cst (.d (.bool true))) (.tmp 23),none⟩,
   ⟨some 25,.mov (.tmp 24),none⟩,
   ⟨some 26,.mov (.tmp 2),some (25,false)⟩,
   ⟨some 27,.len (.tmp 26),some (25,false)⟩,
   ⟨some 28,.cmp .gtr (.tmp 27) (.cst (.d (.int .i64 34))),some (25,false)⟩,
   ⟨some 29,.pick (.tmp 25) (.cst (.d (.bool true))) (.tmp 28),none⟩])
  (.cond (.tmp 29)
   (.seq
   (.reg [] [⟨some 30,.call 13 [],none⟩,
    ⟨some 6,.mov (.tmp 30),none⟩])
   .ret)
   .skip))
  (.seq
  (.regd [] [⟨some 32,.ld true 2 (.tmp 3),none⟩,
   ⟨some 33,.call 15 [(.tmp 32)],none⟩,
   ⟨some 34,.fad 0 (.tmp 4),none⟩,
   ⟨some 35,.ld false 1 (.tmp 34),none⟩,
   ⟨some 36,.fad 1 (.tmp 4),none⟩,
   ⟨some 37,.ld false 1 (.tmp 36),none⟩,
   ⟨some 38,.fad 2 (.tmp 4),none⟩,
   ⟨some 39,.ld false 1 (.tmp 38),none⟩,
   ⟨some 40,.fad 3 (.tmp 4),none⟩,
   ⟨some 41,.ld false 1 (.tmp 40),none⟩,
   ⟨some 42,.call 14 [(.tmp 33),(.tmp 35),(.tmp 37),(.tmp 39),(.tmp 41)],none⟩,
   ⟨some 31,.mov (.tmp 42),none⟩,
   ⟨some 43,.ext 0 (.tmp 31),none⟩,
   ⟨some 44,.ext 1 (.tmp 31),none⟩,
   ⟨some 7,.mov (.tmp 43),none⟩,
   ⟨some 8,.mov (.tmp 44),none⟩] [(0,2),(1,2),(0,3),(1,3),(0,4),(1,4),(2,4),(3,4),(0,5),(1,5),(2,5),(3,5),(0,6),(1,6),(2,6),(3,6),(4,6),(5,6),(0,7),(1,7),(2,7),(3,7),(4,7),(5,7),(0,8),(1,8),(2,8),(3,8),(4,8),(5,8),(6,8),(7,8),(0,9),(1,9),(2,9),(3,9),(4,9),(5,9),(6,9),(7,9),(12,13),(13,14)])
  (.seq
   (.regd [] [⟨some 46,.ld true 2 (.tmp 3),none⟩,
    ⟨some 47,.call 15 [(.tmp 46)],none⟩,
    ⟨some 48,.fad 0 (.tmp 4),none⟩,
    ⟨some 49,.ld false 1 (.tmp 48),none⟩,
    ⟨some 50,.fad 1 (.tmp 4),none⟩,
    ⟨some 51,.ld false 1 (.tmp 50),none⟩,
    ⟨some 52,.fad 2 (.tmp 4),none⟩,
    ⟨some 53,.ld false 1 (.tmp 52),none⟩,
    ⟨some 54,.fad 3 (.tmp 4),none⟩,
    ⟨some 55,.ld false 1 (.tmp 54),none⟩,
    ⟨some 56,.call 16 [(.tmp 47),(.tmp 49),(.tmp 51),(.tmp 53),(.tmp 55)],none⟩,
    ⟨some 45,.mov (.tmp 56),none⟩,
    ⟨some 57,.ext 0 (.tmp 45),none⟩,
    ⟨some 58,.ext 1 (.tmp 45),none⟩,
    ⟨some 9,.mov (.tmp 57),none⟩,
    ⟨some 10,.mov (.tmp 58),none⟩] [(0,2),(1,2),(0,3),(1,3),(0,4),(1,4),(2,4),(3,4),(0,5),(1,5),(2,5),(3,5),(0,6),(1,6),(2,6),(3,6),(4,6),(5,6),(0,7),(1,7),(2,7),(3,7),(4,7),(5,7),(0,8),(1,8),(2,8),(3,8),(4,8),(5,8),(6,8),(7,8),(0,9),(1,9),(2,9),(3,9),(4,9),(5,9),(6,9),(7,9),(12,13),(13,14)])
   (.seq
   (.regd [2,3] [⟨some 59,.ld true 2 (.tmp 3),none⟩,
    ⟨some 60,.call 15 [(.tmp 59)],none⟩,
    ⟨some 61,.fad 0 (.tmp 4),none⟩,
    ⟨some 62,.ld false 1 (.tmp 61),none⟩,
    ⟨some 63,.fad 1 (.tmp 4),none⟩,
    ⟨some 64,.ld false 1 (.tmp 63),none⟩,
    ⟨some 65,.fad 2 (.tmp 4),none⟩,
    ⟨some 66,.ld false 1 (.tmp 65),none⟩,
    ⟨some 67,.fad 3 (.tmp 4),none⟩,
    ⟨some 68,.ld false 1 (.tmp 67),none⟩,
    ⟨some 69,.bsl 2 3 1 0 [] [],none⟩,
    ⟨some 70,.mov (.tmp 2),none⟩,
    ⟨some 71,.app 3 3 1 8 (.tmp 69) (.tmp 70),none⟩,
    ⟨some 72,.call 17 [(.tmp 60),(.tmp 62),(.tmp 64),(.tmp 66),(.tmp 68),(.tmp 71)],none⟩,
    ⟨some 11,.mov (.tmp 72),none⟩] [(0,2),(1,2),(0,3),(1,3),(0,4),(1,4),(2,4),(3,4),(0,5),(1,5),(2,5),(3,5),(0,6),(1,6),(2,6),(3,6),(4,6),(5,6),(0,7),(1,7),(2,7),(3,7),(4,7),(5,7),(0,8),(1,8),(2,8),(3,8),(4,8),(5,8),(6,8),(7,8),(0,9),(1,9),(2,9),(3,9),(4,9),(5,9),(6,9),(7,9),(0,10),(1,10),(2,10),(3,10),(4,10),(5,10),(6,10),(7,10),(8,10),(9,10),(0,11),(1,11),(2,11),(3,11),(4,11),(5,11),(6,11),(7,11),(8,11),(9,11),(10,11),(2,12),(3,12),(4,12),(5,12),(6,12),(7,12),(8,12),(9,12)])
   (.seq
    (.reg [] [⟨some 73,.ld true 2 (.tmp 3),none⟩,
     ⟨some 74,.call 18 [(.tmp 73)],none⟩,
     ⟨some 12,.mov (.tmp 74),none⟩])
    (.seq
    (.seq
     (.reg [] [⟨some 75,.mov (.tmp 12),none⟩,
      ⟨some 76,.cmp .eql (.tmp 75) (.cst (.d (.int .i64 0))),none⟩])
     (.cond (.tmp 76)
     (.regd [4] [⟨some 77,.ld true 2 (.tmp 3),none⟩,
      ⟨some 78,.ld true 4 (.tmp 4),none⟩,
      ⟨some 79,.call 20 [(.tmp 77),(.tmp 78)],none⟩,
      ⟨some 80,.fad 3 (.tmp 4),none⟩,
      ⟨some 81,.ld false 1 (.tmp 80),none⟩,
      ⟨some 82,.call 21 [(.tmp 81)],none⟩,
      ⟨some 83,.bsl 4 3 1 2 [(.int .i64 0),(.int .i64 0)] [(0,(.tmp 79)),(1,(.tmp 82))],none⟩,
      ⟨some 84,.call 19 [(.tmp 83)],none⟩,
      ⟨some 12,.mov (.tmp 84),none⟩] [(0,1),(0,3),(1,3),(2,3),(0,4),(1,4),(2,4)])
     .skip))
    (.seq
     (.reg [5] [⟨some 85,.mov (.tmp 12),none⟩,
      ⟨some 86,.mov (.tmp 12),none⟩,
      ⟨some 87,.mov (.tmp 2),none⟩,
      ⟨some 88,.len (.tmp 87),none⟩,
      ⟨some 89,.cmp .gtr (.tmp 88) (.cst (.d (.int .i64 32))),none⟩,
      ⟨some 90,.call 22 [(.tmp 89),(.cst (.d (.int .i64 5)))],none⟩,
      ⟨some 91,.bsl 5 3 1 2 [(.int .i64 0),(.int .i64 0)] [(0,(.tmp 86)),(1,(.tmp 90))],none⟩,
      ⟨some 92,.call 19 [(.tmp 91)],none⟩,
      ⟨some 13,.mov (.tmp 85),none⟩,
      ⟨some 14,.mov (.tmp 92),none⟩])
     (.seq
     (.reg [] [⟨some 15,.mov (.cst (.d (.bool false))),none⟩])
     (.seq
      (.reg [] [⟨some 16,.mov (.cst (.nils 1)),none⟩])
      (.seq
      (.seq
       (.reg [] [⟨some 93,.mov (.tmp 12),none⟩,
        ⟨some 94,.cmp .eql (.tmp 93) (.cst (.d (.int .i64 0))),none⟩])
       (.cond (.tmp 94)
       (.seq
        (.reg [] [⟨some 95,.ld true 2 (.tmp 3),none⟩,
         ⟨some 96,.ld true 4 (.tmp 4),none⟩,
         ⟨some 97,.call 23 [(.tmp 95),(.tmp 96)],none⟩,
         ⟨some 15,.mov (.tmp 97),none⟩])
        (.reg [] [⟨some 99,.ld true 2 (.tmp 3),none⟩,
         ⟨some 100,.ld true 4 (.tmp 4),none⟩,
         ⟨some 101,.call 24 [(.tmp 99),(.tmp 100)],none⟩,
         ⟨some 98,.mov (.tmp 101),none⟩,
         ⟨some 102,.ext 0 (.tmp 98),none⟩,
         ⟨some 103,.ext 1 (.tmp 98),none⟩,
         ⟨some 16,.mov (.tmp 102),none⟩,
         ⟨some 13,.mov (.tmp 103),none⟩]))
       .skip))
      (.seq
       (.seq
       (.reg [] [⟨some 104,.mov (.tmp 14),none⟩,
        ⟨some 105,.cmp .eql (.tmp 104) (.cst (.d (.int .i64 0))),none⟩])
       (.cond (.tmp 105)
        (.reg [] [⟨some 106,.ld true 2 (.tmp 3),none⟩,
         ⟨some 107,.mov (.tmp 2),none⟩,
         ⟨some 108,.call 25 [(.tmp 106),(.tmp 107)],none⟩,
         ⟨some 14,.mov (.tmp 108),none⟩])
        .skip))
       (.seq
       (.seq
        (.reg [] [⟨some 109,.mov (.tmp 14),none⟩,
         ⟨some 110,.cmp .eql (.tmp 109) (.cst (.d (.int .i64 0))),none⟩])
        (.cond (.tmp 110)
        (.reg [] [⟨some 111,.ld true 2 (.tmp 3),none⟩,
         ⟨some 112,.ld true 4 (.tmp 4),none⟩,
         ⟨some 113,.mov (.tmp 2),none⟩,
         ⟨some 114,.call 26 [(.tmp 111),(.tmp 112),(.tmp 113)],none⟩,
         ⟨some 115,.not (.tmp 114),none⟩,
         ⟨some 116,.call 22 [(.tmp 115),(.cst (.d (.int .i64 19)))],none⟩,
         ⟨some 14,.mov (.tmp 116),none⟩])
        .skip))
       (.seq
        (.regd [] [⟨some 117,.ld true 2 (.tmp 3),none⟩,
         ⟨some 118,.call 15 [(.tmp 117)],none⟩,
         ⟨some 119,.call 27 [(.tmp 118)],none⟩,
         ⟨some 120,.ld true 2 (.tmp 3),none⟩,
         ⟨some 121,.call 18 [(.tmp 120)],none⟩,
         ⟨some 122,.cmp .eql (.tmp 119) (.tmp 121),none⟩,
         ⟨some 123,.mov (.tmp 122),none⟩,
         ⟨some 124,.mov (.tmp 7),some (123,true)⟩,
         ⟨some 125,.mov (.tmp 15),some (123,true)⟩,
         ⟨some 126,.beq false (.tmp 124) (.tmp 125),some (123,true)⟩,
         ⟨some 127,.pick (.tmp 123) (.tmp 126) (.cst (.d (.bool false))),none⟩,
         ⟨some 128,.mov (.tmp 127),none⟩,
         ⟨some 129,.mov (.tmp 8),some (128,true)⟩,
         ⟨some 130,.mov (.tmp 12),some (128,true)⟩,
         ⟨some 131,.cmp .eql (.tmp 129) (.tmp 130),some (128,true)⟩,
         ⟨some 132,.pick (.tmp 128) (.tmp 131) (.cst (.d (.bool false))),none⟩,
         ⟨some 133,.mov (.tmp 132),none⟩,
         ⟨some 134,.mov (.tmp 9),some (133,true)⟩,
         ⟨some 135,.mov (.tmp 16),some (133,true)⟩,
         ⟨some 136,.call 28 [(.tmp 134),(.tmp 135)],some (133,true)⟩,
         ⟨some 137,.pick (.tmp 133) (.tmp 136) (.cst (.d (.bool false))),none⟩,
         ⟨some 138,.mov (.tmp 137),none⟩,
         ⟨some 139,.mov (.tmp 10),some (138,true)⟩,
         ⟨some 140,.mov (.tmp 13),some (138,true)⟩,
         ⟨some 141,.cmp .eql (.tmp 139) (.tmp 140),some (138,true)⟩,
         ⟨some 142,.pick (.tmp 138) (.tmp 141) (.cst (.d (.bool false))),none⟩,
         ⟨some 143,.mov (.tmp 142),none⟩,
         ⟨some 144,.mov (.tmp 11),some (143,true)⟩,
         ⟨some 145,.mov (.tmp 14),some (143,true)⟩,
         ⟨some 146,.cmp .eql (.tmp 144) (.tmp 145),some (143,true)⟩,
         ⟨some 147,.pick (.tmp 143) (.tmp 146) (.cst (.d (.bool false))),none⟩,
         ⟨some 148,.mov (.tmp 147),none⟩,
         ⟨some 149,.call 13 [],some (148,true)⟩,
         ⟨some 150,.pick (.tmp 148) (.tmp 149) (.cst (.d (.bool false))),none⟩,
         ⟨some 6,.mov (.tmp 150),none⟩] [(0,3),(1,3),(2,3),(7,8),(12,13),(17,18),(22,23),(27,28)])
        .ret))))))))))))))⟩
theorem fo_2 (a b w:Int):firstOf [firstOf [a,b],w]=firstOf [a,b,w]:=by
 show (bif (bif a != 0 then a else bif b != 0 then b else 0) != 0 then (bif a != 0 then a else bif b != 0 then b else 0) else bif w != 0 then w else 0)=(bif a != 0 then a else bif b != 0 then b else bif w != 0 then w else 0)
 cases h:(a != 0)
 ·cases h2:(b != 0)
  ·rfl
  ·show (bif b != 0 then b else _)=_; rw [h2]; rfl
 ·show (bif a != 0 then a else _)=_; rw [h]; rfl
theorem cwE_q (l:List Ob) (G:List Gr) (of ri ob:Nm) (day:Int) (c:List Int):cwE l G of ri ob day c=firstOf [qdE l G of ri ob day,bif decide ((32:Int) < (c.length:Int)) then 5 else 0]:=(fo_2 _ _ _).symm
theorem qd_1 {l:List Ob} {G:List Gr} {of ri ob:Nm} {day:Int} (h:bookE l G≠0):qdE l G of ri ob day=bookE l G:=by
 unfold qdE qE
 rw [fo_nz h,fo_nz h]
theorem qd_2 {l:List Ob} {G:List Gr} {of ri ob:Nm} {day:Int} (h:bookE l G=0):firstOf [firstOf [nmE of,askE l ri ob],within3 day 0 100000]=qdE l G of ri ob day:=by
 unfold qdE qE
 rw [h,fo_z]
theorem fo_1 (a:Int):firstOf [0,a]=a:=by
 show (bif a != 0 then a else 0)=a
 cases h:(a != 0)
 ·show 0=a; exact (by simpa using h:a=0).symm
 ·rfl
section
variable (ri ob : List UInt8) (day : Int) (of : List UInt8)
theorem prG_sl {w:Way}:∀ {r:List Gr} {i:Int} {R R':List Nm} {N N':List Way} {c:List Int},prG ri ob day of w r i R N=(some c,R',N')→c.length=w.1.length+1
 | [],i,R,R',N,N',c,h=>by cases h
 | g::r,i,R,R',N,N',c,h=>by
  rw [prG] at h
  cases hc:(holdB ri ob day g&&(g.fr==w.2&&!R.contains g.to)) with
  | false=>rw [hc] at h; exact prG_sl h
  | true =>
   rw [hc] at h
   cases ho:(g.to==of) with
   | true =>
    rw [ho] at h
    cases h
    rw [List.length_append]; rfl
   | false=>rw [ho] at h; exact prG_sl h
theorem prW_sl {G:List Gr} {q:Nat}:∀ {W:List Way} {R R':List Nm} {N N':List Way} {c:List Int},(∀ w∈W,w.1.length≤q)→prW ri ob day of G W R N=(some c,R',N')→c.length≤q+1
 | [],R,R',N,N',c,_,h=>by cases h
 | w::r,R,R',N,N',c,hw,h=>by
  rw [prW] at h
  split at h
  ·rename_i c1 R1 N1 e
   cases h
   have:=prG_sl ri ob day of e
   have h2:=hw w List.mem_cons_self
   omega
  ·exact prW_sl (fun z hz=>hw z (List.mem_cons_of_mem _ hz)) h
theorem srch_len {G:List Gr} {q:Nat}:∀ {f:Nat} {W:List Way} {R:List Nm} {c:List Int},(∀ w∈W,w.1.length+f≤q)→srch ri ob day of G f W R=some c→c.length≤q
 | 0,_,_,_,_,h=>by cases h
 | f+1,W,R,c,hw,h=>by
  cases W with
  | nil=>cases h
  | cons w r =>
   rw [srch_cons ri ob day of (by intro e; cases e)] at h
   have hq:w.1.length+(f+1)≤q:=hw w List.mem_cons_self
   split at h
   ·rename_i c1 R1 N1 e
    cases h
    have:=prW_sl ri ob day of (q:=q - (f+1)) (fun z hz=>by have:=hw z hz; omega) e
    omega
   ·rename_i R1 N1 e
    refine srch_len (f:=f) (fun z hz=>?_) h
    have:=prW_len ri ob day of (q:=q - (f+1)) (fun z hz=>by have:=hw z hz; omega) (fun z hz=>by cases hz) e z hz
    omega
theorem chain_len (l:List Ob) (G:List Gr) (hG:G.length≤32):((chainP l G ri ob day of).getD []).length≤100:=by
 unfold chainP
 cases (of==(ownO l ob).getD []) with
 | true=>exact Nat.zero_le _
 | false =>
  show ((srch ri ob day of G (2 * G.length+2) [([],(ownO l ob).getD [])] [(ownO l ob).getD []]).getD []).length≤100
  cases h:srch ri ob day of G (2 * G.length+2) [([],(ownO l ob).getD [])] [(ownO l ob).getD []] with
  | none=>exact Nat.zero_le _
  | some c =>
   refine srch_len ri ob day of (fun w hw=>?_) h
   rw [List.mem_singleton.1 hw]
   show 0+(2 * G.length+2)≤100
   omega
end
theorem self_eq (a:List Int):(a==a)=true:=beq_self_eq_true a
theorem chkW_0 {l:List Ob} {G:List Gr} {of ri ob:Nm} {day:Int} {c:List Int} (h:cwE l G of ri ob day c=0) (h2:chkI G c=0):chkW l G of ri ob day c=bif !isC l G of ri ob day c then 19 else 0:=by
 unfold chkI at h2
 cases hb:c.any (badI G) with
 | true=>rw [hb] at h2; exact absurd h2 (by show ¬ (10:Int)=0; decide)
 | false =>
  rw [hb] at h2
  cases hd:dupI [] c with
  | true=>rw [hd] at h2; exact absurd h2 (by show ¬ (9:Int)=0; decide)
  | false =>
   unfold chkW isC
   rw [h,hb,hd,show (of==(ownO l ob).getD [])=((ownO l ob).getD []==of) from Bool.eq_iff_iff.2 (by rw [beq_iff_eq,beq_iff_eq]; exact eq_comm)]
   cases ((ownO l ob).getD []==of) with
   | true =>
    show (bif decide (0 < (c.length:Int)) then (19:Int) else 0)=bif !((c.length:Int)==0) then 19 else 0
    cases c with
    | nil=>rfl
    | cons x r =>
     have e1:decide (0 < ((x::r).length:Int))=true:=by rw [decide_eq_true_iff]; show (0:Int) < ((r.length+1:Nat):Int); omega
     have e2:(((x::r).length:Int)==0)=false:=by
      rw [beq_eq_false_iff_ne]; show ((r.length+1:Nat):Int)≠0; omega
     rw [e1,e2]; rfl
   | false =>
    show (match runC ri ob day G ((ownO l ob).getD []) c with | none=>(19:Int) | some t=>bif t != of then 19 else 0)=bif !(match runC ri ob day G ((ownO l ob).getD []) c with | none=>false | some t=>t==of) then 19 else 0
    cases runC ri ob day G ((ownO l ob).getD []) c with
    | none=>rfl
    | some t=>rfl
theorem chkW_1 {l:List Ob} {G:List Gr} {of ri ob:Nm} {day:Int} {c:List Int} (h:cwE l G of ri ob day c=0) (h2:chkI G c≠0):chkW l G of ri ob day c=chkI G c:=by
 unfold chkI at h2 ⊢
 unfold chkW
 rw [h]
 cases hb:c.any (badI G) with
 | true=>rfl
 | false =>
  rw [hb] at h2
  cases hd:dupI [] c with
  | true=>rfl
  | false=>rw [hd] at h2; exact absurd rfl h2
theorem chkW_2 {l:List Ob} {G:List Gr} {of ri ob:Nm} {day:Int} {c:List Int} (h:cwE l G of ri ob day c≠0):chkW l G of ri ob day c=cwE l G of ri ob day c:=by
 unfold chkW
 rw [bne_iff_ne.2 h]; rfl
theorem chkI_b {G:List Gr} {c:List Int} (h:chkI G c=0):c.any (badI G)=false:=by
 unfold chkI at h
 cases hb:c.any (badI G) with
 | true=>rw [hb] at h; exact absurd h (by show ¬ (10:Int)=0; decide)
 | false=>rfl
theorem c3 (l:List Ob) (G:List Gr) (of ri ob:Nm) (day:Int) (c:List Int) (hl:l.length≤1048576) (hG:G.length≤1048576) (hc:c.length≤1048576):CallDet Tryz.prog 3 [.d (.agg [.slice 2 (obs l),.slice 6 (grs G)]),.d (.agg [.str of,.str ri,.str ob,.int .i64 day]),.d (.slice 1 (ints c))] [.bool true]:=by
 have hli:=ints_len c
 have c11_:=c11 l G hl hG
 have c12_:=c12 of ri ob day
 have c15_:=c15 l G hl hG
 have c14_:=c14 l G of ri ob day hl hG
 have c16_:=c16 l G of ri ob day hl hG
 have c17_:=c17 l G of ri ob day c hl hG hc
 have c18_:=c18 l G hl hG
 have c27_:=c27 l G hl hG
 have c20_:=c20 l G of ri ob day hl
 have c21_:=c21 day
 refine call_of_vc (x:=jr3) (by kernel_rfl) rfl ?_
 cases hs:shortB l G with
 | false =>
  rw [hs] at c11_
  refine ca c11_ ?_
  refine sd ?_
  refine sd ?_
  refine ca (c13) ?_
  exact rfl
 | true =>
 rw [hs] at c11_
 cases hs2:shortW [of,ri,ob] with
 | false =>
  rw [hs2] at c12_
  refine ca c11_ ?_
  refine ca c12_ ?_
  refine sd ?_
  refine ca (c13) ?_
  exact rfl
 | true =>
 rw [hs2] at c12_
 by_cases h34:(34:Int) < ((ints c).length:Int)
 ·refine ca c11_ ?_
  refine ca c12_ ?_
  refine sd ?_
  refine b_lt (fun t1=>?_) (fun t1=>?_)
  refine ca (c13) ?_
  exact rfl
  (exfalso; omega)
 have c22_:CallDet Tryz.prog 22 [.d (.bool (decide ((32:Int) < ((ints c).length:Int)))),.d (.int .i64 5)] [.int .i64 (bif decide ((32:Int) < (c.length:Int)) then 5 else 0)]:=by rw [hli]; exact c22 _ _
 have hcw:=cwE_q l G of ri ob day c
 generalize hw:(bif decide ((32:Int) < (c.length:Int)) then (5:Int) else 0)=w at c22_ hcw
 have hc19:∀ e:Int,CallDet Tryz.prog 19 [.d (.slice 1 [.int .i64 e,.int .i64 w])] [.int .i64 (firstOf [e,w])]:=fun e=>c19 [e,w] (by simp)
 by_cases hb:bookE l G=0
 ·have hG32:=bookE_le hb
  rw [hb] at c18_ c27_
  have c19_q:CallDet Tryz.prog 19 [.d (.slice 1 [.int .i64 (firstOf [nmE of,askE l ri ob]),.int .i64 (within3 day 0 100000)])] [.int .i64 (qdE l G of ri ob day)]:=by
   rw [← qd_2 hb]; exact c19 [firstOf [nmE of,askE l ri ob],within3 day 0 100000] (by simp)
  by_cases hq:qdE l G of ri ob day=0
  ·rw [hq] at c14_ c16_ hcw c19_q
   rw [fo_1] at hcw
   have c19_w:=hc19 0
   rw [fo_1] at c19_w
   have hk:=ho_HK l G ri ob day hG32
   have hr:=chain_ref ri ob day of l G
   have c23_:=c23 l G of ri ob day hl hG32 (by have:=hk.hc; omega)
   have c24_:=c24 l G of ri ob day hl hG32
   rw [hr.1] at c23_
   rw [hr.2] at c24_
   have c28_:CallDet Tryz.prog 28 [.d (.slice 1 (ints ((chainP l G ri ob day of).getD []))),.d (.slice 1 (ints ((chainP l G ri ob day of).getD [])))] [.bool (((chainP l G ri ob day of).getD [])==((chainP l G ri ob day of).getD []))]:=c28 _ _ (by have:=chain_len ri ob day of l G hG32; omega)
   rw [self_eq] at c28_
   have c14_:CallDet Tryz.prog 14 [.d (.agg [.slice 2 (obs l),.slice 6 (grs G)]),.d (.str of),.d (.str ri),.d (.str ob),.d (.int .i64 day)] [.bool (chainP l G ri ob day of).isSome,.int .i64 0]:=c14_
   have c16_:CallDet Tryz.prog 16 [.d (.agg [.slice 2 (obs l),.slice 6 (grs G)]),.d (.str of),.d (.str ri),.d (.str ob),.d (.int .i64 day)] [.slice 1 (ints ((chainP l G ri ob day of).getD [])),.int .i64 (bif (chainP l G ri ob day of).isSome then 0 else 7)]:=c16_
   have c24_:CallDet Tryz.prog 24 [.d (.agg [.slice 2 (obs l),.slice 6 (grs G)]),.d (.agg [.str of,.str ri,.str ob,.int .i64 day])] [.slice 1 (ints ((chainP l G ri ob day of).getD [])),.int .i64 (bif (chainP l G ri ob day of).isSome then 0 else 7)]:=c24_
   generalize (chainP l G ri ob day of).isSome=b at c14_ c16_ c23_ c24_
   generalize ints ((chainP l G ri ob day of).getD [])=ch at c16_ c24_ c28_
   generalize hz:(bif b then (0:Int) else 7)=z at c16_ c24_
   clear hz hr hk hc19 hw
   cases b with
   | true =>
     by_cases hw0:w=0
     ·subst hw0
      by_cases hI:chkI G c=0
      ·have c25_:=c25 l G c hc
       have c26_:=c26 l G of ri ob day c hl hc (chkI_b hI)
       rw [chkW_0 hcw hI] at c17_
       rw [hI] at c25_
       have c22_b:=c22 (!isC l G of ri ob day c) 19
       generalize isC l G of ri ob day c=q at c17_ c26_ c22_b
       have c22_a:=c22_
       clear c22_ hcw hI hq hb
       refine ca c11_ ?_
       refine ca c12_ ?_
       refine sd ?_
       refine b_lt (fun t1=>?_) (fun t1=>?_)
       (exfalso; omega)
       refine ca c15_ ?_
       refine ca c14_ ?_
       refine ca c15_ ?_
       refine ca c16_ ?_
       refine ca c15_ ?_
       refine sd ?_
       refine sd ?_
       refine an ?_ ?_
       refine an ?_ ?_
       exact rfl
       refine an ?_ ?_
       exact rfl
       refine an ?_ ?_
       exact rfl
       refine an ?_ ?_
       (show ((0:Nat)+List.length (ints c)) * (8:Nat)≤(2:Nat) ^ (47:Nat); omega)
       (show (0:Nat)+List.length (ints c)≤(2:Nat) ^ (47:Nat); omega)
       refine sd ?_
       refine ca c17_ ?_
       refine ca c18_ ?_
       refine sd ?_
       refine ca c20_ ?_
       refine ca c21_ ?_
       refine sd ?_
       refine sd ?_
       refine ca c19_q ?_
       refine sd ?_
       refine ca c22_a ?_
       refine sd ?_
       refine sd ?_
       refine ca c19_w ?_
       refine sd ?_
       refine ca c23_ ?_
       refine ca c24_ ?_
       refine sd ?_
       refine ca c25_ ?_
       refine sd ?_
       refine ca c26_ ?_
       refine ca c22_b ?_
       refine ca c15_ ?_
       refine ca c27_ ?_
       refine ca c18_ ?_
       refine sd ?_
       refine sd ?_
       refine ca c28_ ?_
       refine sd ?_
       refine b_eq (fun t2=>?_) (fun t2=>?_)
       refine sd ?_
       refine b_eq (fun t3=>?_) (fun t3=>?_)
       refine ca (c13) ?_
       exact rfl
       (exfalso; omega)
       (exfalso; omega)
      ·have c25_:=c25 l G c hc
       rw [chkW_1 hcw hI] at c17_
       generalize chkI G c=q at c17_ c25_ hI
       clear hcw hq hb
       refine ca c11_ ?_
       refine ca c12_ ?_
       refine sd ?_
       refine b_lt (fun t1=>?_) (fun t1=>?_)
       (exfalso; omega)
       refine ca c15_ ?_
       refine ca c14_ ?_
       refine ca c15_ ?_
       refine ca c16_ ?_
       refine ca c15_ ?_
       refine sd ?_
       refine sd ?_
       refine an ?_ ?_
       refine an ?_ ?_
       exact rfl
       refine an ?_ ?_
       exact rfl
       refine an ?_ ?_
       exact rfl
       refine an ?_ ?_
       (show ((0:Nat)+List.length (ints c)) * (8:Nat)≤(2:Nat) ^ (47:Nat); omega)
       (show (0:Nat)+List.length (ints c)≤(2:Nat) ^ (47:Nat); omega)
       refine sd ?_
       refine ca c17_ ?_
       refine ca c18_ ?_
       refine sd ?_
       refine ca c20_ ?_
       refine ca c21_ ?_
       refine sd ?_
       refine sd ?_
       refine ca c19_q ?_
       refine sd ?_
       refine ca c22_ ?_
       refine sd ?_
       refine sd ?_
       refine ca c19_w ?_
       refine sd ?_
       refine ca c23_ ?_
       refine ca c24_ ?_
       refine sd ?_
       refine ca c25_ ?_
       refine sd ?_
       refine b_eq (fun t2=>?_) (fun t2=>?_)
       (exfalso; omega)
       refine ca c15_ ?_
       refine ca c27_ ?_
       refine ca c18_ ?_
       refine sd ?_
       refine sd ?_
       refine ca c28_ ?_
       refine sd ?_
       refine b_eq (fun t3=>?_) (fun t3=>?_)
       refine sd ?_
       refine b_eq (fun t4=>?_) (fun t4=>?_)
       refine ca (c13) ?_
       exact rfl
       (exfalso; omega)
       (exfalso; omega)
     ·rw [chkW_2 (by rw [hcw]; exact hw0),hcw] at c17_
      clear hcw hq hb
      refine ca c11_ ?_
      refine ca c12_ ?_
      refine sd ?_
      refine b_lt (fun t1=>?_) (fun t1=>?_)
      (exfalso; omega)
      refine ca c15_ ?_
      refine ca c14_ ?_
      refine ca c15_ ?_
      refine ca c16_ ?_
      refine ca c15_ ?_
      refine sd ?_
      refine sd ?_
      refine an ?_ ?_
      refine an ?_ ?_
      exact rfl
      refine an ?_ ?_
      exact rfl
      refine an ?_ ?_
      exact rfl
      refine an ?_ ?_
      (show ((0:Nat)+List.length (ints c)) * (8:Nat)≤(2:Nat) ^ (47:Nat); omega)
      (show (0:Nat)+List.length (ints c)≤(2:Nat) ^ (47:Nat); omega)
      refine sd ?_
      refine ca c17_ ?_
      refine ca c18_ ?_
      refine sd ?_
      refine ca c20_ ?_
      refine ca c21_ ?_
      refine sd ?_
      refine sd ?_
      refine ca c19_q ?_
      refine sd ?_
      refine ca c22_ ?_
      refine sd ?_
      refine sd ?_
      refine ca c19_w ?_
      refine sd ?_
      refine ca c23_ ?_
      refine ca c24_ ?_
      refine sd ?_
      refine b_eq (fun t2=>?_) (fun t2=>?_)
      (exfalso; omega)
      refine sd ?_
      refine b_eq (fun t3=>?_) (fun t3=>?_)
      (exfalso; omega)
      refine ca c15_ ?_
      refine ca c27_ ?_
      refine ca c18_ ?_
      refine sd ?_
      refine sd ?_
      refine ca c28_ ?_
      refine sd ?_
      refine b_eq (fun t4=>?_) (fun t4=>?_)
      refine sd ?_
      refine b_eq (fun t5=>?_) (fun t5=>?_)
      refine ca (c13) ?_
      exact rfl
      (exfalso; omega)
      (exfalso; omega)
   | false =>
     by_cases hw0:w=0
     ·subst hw0
      by_cases hI:chkI G c=0
      ·have c25_:=c25 l G c hc
       have c26_:=c26 l G of ri ob day c hl hc (chkI_b hI)
       rw [chkW_0 hcw hI] at c17_
       rw [hI] at c25_
       have c22_b:=c22 (!isC l G of ri ob day c) 19
       generalize isC l G of ri ob day c=q at c17_ c26_ c22_b
       have c22_a:=c22_
       clear c22_ hcw hI hq hb
       refine ca c11_ ?_
       refine ca c12_ ?_
       refine sd ?_
       refine b_lt (fun t1=>?_) (fun t1=>?_)
       (exfalso; omega)
       refine ca c15_ ?_
       refine ca c14_ ?_
       refine ca c15_ ?_
       refine ca c16_ ?_
       refine ca c15_ ?_
       refine sd ?_
       refine sd ?_
       refine an ?_ ?_
       refine an ?_ ?_
       exact rfl
       refine an ?_ ?_
       exact rfl
       refine an ?_ ?_
       exact rfl
       refine an ?_ ?_
       (show ((0:Nat)+List.length (ints c)) * (8:Nat)≤(2:Nat) ^ (47:Nat); omega)
       (show (0:Nat)+List.length (ints c)≤(2:Nat) ^ (47:Nat); omega)
       refine sd ?_
       refine ca c17_ ?_
       refine ca c18_ ?_
       refine sd ?_
       refine ca c20_ ?_
       refine ca c21_ ?_
       refine sd ?_
       refine sd ?_
       refine ca c19_q ?_
       refine sd ?_
       refine ca c22_a ?_
       refine sd ?_
       refine sd ?_
       refine ca c19_w ?_
       refine sd ?_
       refine ca c23_ ?_
       refine ca c24_ ?_
       refine sd ?_
       refine ca c25_ ?_
       refine sd ?_
       refine ca c26_ ?_
       refine ca c22_b ?_
       refine ca c15_ ?_
       refine ca c27_ ?_
       refine ca c18_ ?_
       refine sd ?_
       refine sd ?_
       refine ca c28_ ?_
       refine sd ?_
       refine b_eq (fun t2=>?_) (fun t2=>?_)
       refine sd ?_
       refine b_eq (fun t3=>?_) (fun t3=>?_)
       refine ca (c13) ?_
       exact rfl
       (exfalso; omega)
       (exfalso; omega)
      ·have c25_:=c25 l G c hc
       rw [chkW_1 hcw hI] at c17_
       generalize chkI G c=q at c17_ c25_ hI
       clear hcw hq hb
       refine ca c11_ ?_
       refine ca c12_ ?_
       refine sd ?_
       refine b_lt (fun t1=>?_) (fun t1=>?_)
       (exfalso; omega)
       refine ca c15_ ?_
       refine ca c14_ ?_
       refine ca c15_ ?_
       refine ca c16_ ?_
       refine ca c15_ ?_
       refine sd ?_
       refine sd ?_
       refine an ?_ ?_
       refine an ?_ ?_
       exact rfl
       refine an ?_ ?_
       exact rfl
       refine an ?_ ?_
       exact rfl
       refine an ?_ ?_
       (show ((0:Nat)+List.length (ints c)) * (8:Nat)≤(2:Nat) ^ (47:Nat); omega)
       (show (0:Nat)+List.length (ints c)≤(2:Nat) ^ (47:Nat); omega)
       refine sd ?_
       refine ca c17_ ?_
       refine ca c18_ ?_
       refine sd ?_
       refine ca c20_ ?_
       refine ca c21_ ?_
       refine sd ?_
       refine sd ?_
       refine ca c19_q ?_
       refine sd ?_
       refine ca c22_ ?_
       refine sd ?_
       refine sd ?_
       refine ca c19_w ?_
       refine sd ?_
       refine ca c23_ ?_
       refine ca c24_ ?_
       refine sd ?_
       refine ca c25_ ?_
       refine sd ?_
       refine b_eq (fun t2=>?_) (fun t2=>?_)
       (exfalso; omega)
       refine ca c15_ ?_
       refine ca c27_ ?_
       refine ca c18_ ?_
       refine sd ?_
       refine sd ?_
       refine ca c28_ ?_
       refine sd ?_
       refine b_eq (fun t3=>?_) (fun t3=>?_)
       refine sd ?_
       refine b_eq (fun t4=>?_) (fun t4=>?_)
       refine ca (c13) ?_
       exact rfl
       (exfalso; omega)
       (exfalso; omega)
     ·rw [chkW_2 (by rw [hcw]; exact hw0),hcw] at c17_
      clear hcw hq hb
      refine ca c11_ ?_
      refine ca c12_ ?_
      refine sd ?_
      refine b_lt (fun t1=>?_) (fun t1=>?_)
      (exfalso; omega)
      refine ca c15_ ?_
      refine ca c14_ ?_
      refine ca c15_ ?_
      refine ca c16_ ?_
      refine ca c15_ ?_
      refine sd ?_
      refine sd ?_
      refine an ?_ ?_
      refine an ?_ ?_
      exact rfl
      refine an ?_ ?_
      exact rfl
      refine an ?_ ?_
      exact rfl
      refine an ?_ ?_
      (show ((0:Nat)+List.length (ints c)) * (8:Nat)≤(2:Nat) ^ (47:Nat); omega)
      (show (0:Nat)+List.length (ints c)≤(2:Nat) ^ (47:Nat); omega)
      refine sd ?_
      refine ca c17_ ?_
      refine ca c18_ ?_
      refine sd ?_
      refine ca c20_ ?_
      refine ca c21_ ?_
      refine sd ?_
      refine sd ?_
      refine ca c19_q ?_
      refine sd ?_
      refine ca c22_ ?_
      refine sd ?_
      refine sd ?_
      refine ca c19_w ?_
      refine sd ?_
      refine ca c23_ ?_
      refine ca c24_ ?_
      refine sd ?_
      refine b_eq (fun t2=>?_) (fun t2=>?_)
      (exfalso; omega)
      refine sd ?_
      refine b_eq (fun t3=>?_) (fun t3=>?_)
      (exfalso; omega)
      refine ca c15_ ?_
      refine ca c27_ ?_
      refine ca c18_ ?_
      refine sd ?_
      refine sd ?_
      refine ca c28_ ?_
      refine sd ?_
      refine b_eq (fun t4=>?_) (fun t4=>?_)
      refine sd ?_
      refine b_eq (fun t5=>?_) (fun t5=>?_)
      refine ca (c13) ?_
      exact rfl
      (exfalso; omega)
      (exfalso; omega)
  ·rw [bne_iff_ne.2 hq] at c14_ c16_
   rw [fo_nz hq] at hcw
   have c19_w:=hc19 (qdE l G of ri ob day)
   rw [fo_nz hq] at c19_w
   rw [chkW_2 (by rw [hcw]; exact hq),hcw] at c17_
   have c28_:CallDet Tryz.prog 28 [.d (.slice 1 []),.d (.slice 1 [])] [.bool true]:=c28 [] [] (Nat.zero_le _)
   generalize qdE l G of ri ob day=e at hq c14_ c16_ c17_ c19_q c19_w
   clear hcw hc19 hw hb
   refine ca c11_ ?_
   refine ca c12_ ?_
   refine sd ?_
   refine b_lt (fun t1=>?_) (fun t1=>?_)
   (exfalso; omega)
   refine ca c15_ ?_
   refine ca c14_ ?_
   refine ca c15_ ?_
   refine ca c16_ ?_
   refine ca c15_ ?_
   refine sd ?_
   refine sd ?_
   refine an ?_ ?_
   refine an ?_ ?_
   exact rfl
   refine an ?_ ?_
   exact rfl
   refine an ?_ ?_
   exact rfl
   refine an ?_ ?_
   (show ((0:Nat)+List.length (ints c)) * (8:Nat)≤(2:Nat) ^ (47:Nat); omega)
   (show (0:Nat)+List.length (ints c)≤(2:Nat) ^ (47:Nat); omega)
   refine sd ?_
   refine ca c17_ ?_
   refine ca c18_ ?_
   refine sd ?_
   refine ca c20_ ?_
   refine ca c21_ ?_
   refine sd ?_
   refine sd ?_
   refine ca c19_q ?_
   refine sd ?_
   refine ca c22_ ?_
   refine sd ?_
   refine sd ?_
   refine ca c19_w ?_
   refine sd ?_
   refine b_eq (fun t2=>?_) (fun t2=>?_)
   (exfalso; omega)
   refine sd ?_
   refine b_eq (fun t3=>?_) (fun t3=>?_)
   (exfalso; omega)
   refine sd ?_
   refine b_eq (fun t4=>?_) (fun t4=>?_)
   (exfalso; omega)
   refine ca c15_ ?_
   refine ca c27_ ?_
   refine ca c18_ ?_
   refine sd ?_
   refine sd ?_
   refine b_eq (fun t5=>?_) (fun t5=>?_)
   refine ca c28_ ?_
   refine sd ?_
   refine b_eq (fun t6=>?_) (fun t6=>?_)
   replace t6:e=e:=t6
   refine sd ?_
   refine b_eq (fun t7=>?_) (fun t7=>?_)
   refine ca (c13) ?_
   exact rfl
   (exfalso; omega)
   replace t6:¬e=e:=t6
   (exfalso; omega)
   (exfalso; omega)
 ·have hq:=qd_1 (of:=of) (ri:=ri) (ob:=ob) (day:=day) hb
  rw [hq] at c14_ c16_ hcw
  rw [fo_nz hb] at hcw
  have c19_w:=hc19 (bookE l G)
  rw [fo_nz hb] at c19_w
  rw [bne_iff_ne.2 hb] at c14_ c16_
  rw [chkW_2 (by rw [hcw]; exact hb),hcw] at c17_
  have c28_:CallDet Tryz.prog 28 [.d (.slice 1 []),.d (.slice 1 [])] [.bool true]:=c28 [] [] (Nat.zero_le _)
  generalize bookE l G=e at hb c14_ c16_ c17_ c18_ c27_ c19_w
  clear hq hcw hc19 hw
  refine ca c11_ ?_
  refine ca c12_ ?_
  refine sd ?_
  refine b_lt (fun t1=>?_) (fun t1=>?_)
  (exfalso; omega)
  refine ca c15_ ?_
  refine ca c14_ ?_
  refine ca c15_ ?_
  refine ca c16_ ?_
  refine ca c15_ ?_
  refine sd ?_
  refine sd ?_
  refine an ?_ ?_
  refine an ?_ ?_
  exact rfl
  refine an ?_ ?_
  exact rfl
  refine an ?_ ?_
  exact rfl
  refine an ?_ ?_
  (show ((0:Nat)+List.length (ints c)) * (8:Nat)≤(2:Nat) ^ (47:Nat); omega)
  (show (0:Nat)+List.length (ints c)≤(2:Nat) ^ (47:Nat); omega)
  refine sd ?_
  refine ca c17_ ?_
  refine ca c18_ ?_
  refine sd ?_
  refine b_eq (fun t2=>?_) (fun t2=>?_)
  (exfalso; omega)
  refine sd ?_
  refine ca c22_ ?_
  refine sd ?_
  refine sd ?_
  refine ca c19_w ?_
  refine sd ?_
  refine b_eq (fun t3=>?_) (fun t3=>?_)
  (exfalso; omega)
  refine sd ?_
  refine b_eq (fun t4=>?_) (fun t4=>?_)
  (exfalso; omega)
  refine sd ?_
  refine b_eq (fun t5=>?_) (fun t5=>?_)
  (exfalso; omega)
  refine ca c15_ ?_
  refine ca c27_ ?_
  refine ca c18_ ?_
  refine sd ?_
  refine b_eq (fun t6=>?_) (fun t6=>?_)
  refine sd ?_
  refine b_eq (fun t7=>?_) (fun t7=>?_)
  refine ca c28_ ?_
  refine sd ?_
  refine b_eq (fun t8=>?_) (fun t8=>?_)
  replace t8:e=e:=t8
  refine sd ?_
  refine b_eq (fun t9=>?_) (fun t9=>?_)
  refine ca (c13) ?_
  exact rfl
  (exfalso; omega)
  replace t8:¬e=e:=t8
  (exfalso; omega)
  (exfalso; omega)
  (exfalso; omega)
end Vc
