import Derived.Test.YtokkgdokamjnaaaGreatG16
set_option linter.unusedSectionVars false
set_option linter.unusedVariables false
set_option linter.unusedSimpArgs false
set_option maxRecDepth 10000
set_option maxHeartbeats 4000000
namespace Vc.L
open Go Go.Proofs
def jr127:AFun:=⟨16,1,[.tmp 2],
 (.seq
 (.reg [0] [⟨some 1,.cbx 0 3 (.tmp 0),none⟩,
  ⟨some 2,.mov (.cst (.d (.int .i64 0))),none⟩])
 (.seq
  (.seq
  (.reg [] [⟨some 3,.fad 2 (.tmp 1),none⟩,
   ⟨some 4,.ld false 1 (.tmp 3),none⟩,
   ⟨some 5,.len (.tmp 4),none⟩,
   ⟨some 6,.cmp .eql (.tmp 5) (.cst (.d (.int .i64 0))),none⟩])
  (.cond (.tmp 6)
   (.seq
   (.reg [] [⟨some 2,.mov (.cst (.d (.int .i64 0))),none⟩])
   .ret)
   .skip))
  (.seq
  (.reg [] [⟨some 7,.fad 2 (.tmp 1),none⟩,
   ⟨some 8,.ld false 1 (.tmp 7),none⟩,
   ⟨some 9,.fad 2 (.tmp 1),none⟩,
   ⟨some 10,.ld false 1 (.tmp 9),none⟩,
   ⟨some 11,.len (.tmp 10),none⟩,
   ⟨some 12,.arith .sub .i64 (.tmp 11) (.cst (.d (.int .i64 1))),none⟩,
   ⟨some 13,.ixa 2 (.tmp 8) (.tmp 12),none⟩,
   ⟨some 14,.fad 1 (.tmp 13),none⟩,
   ⟨some 15,.ld false 1 (.tmp 14),none⟩,
   ⟨some 2,.mov (.tmp 15),none⟩])
  .ret)))⟩
def jr72:AFun:=⟨21,3,[.cell 2 3 true,.tmp 3],
 (.seq
 (.reg [0,1] [⟨some 1,.cbx 0 3 (.tmp 0),none⟩,
  ⟨some 2,.alloc 1 [(.d (.bool false)),(.d (.bool false)),(.nils 2)],none⟩,
  ⟨some 3,.mov (.cst (.d (.int .i64 0))),none⟩])
 (.seq
  (.seq
  (.regd [2] [⟨some 5,.ld true 3 (.tmp 1),none⟩,
   ⟨some 6,.call 34 [(.tmp 5)],none⟩,
   ⟨some 7,.fad 0 (.tmp 1),none⟩,
   ⟨some 8,.ld false 1 (.tmp 7),none⟩,
   ⟨some 9,.call 37 [(.tmp 8),(.cst (.d (.int .i64 22)))],none⟩,
   ⟨some 10,.fad 1 (.tmp 1),none⟩,
   ⟨some 11,.ld false 1 (.tmp 10),none⟩,
   ⟨some 12,.not (.tmp 11),none⟩,
   ⟨some 13,.call 37 [(.tmp 12),(.cst (.d (.int .i64 29)))],none⟩,
   ⟨some 14,.bsl 2 43 1 3 [(.int .i64 0),(.int .i64 0),(.int .i64 0)] [(0,(.tmp 6)),(1,(.tmp 9)),(2,(.tmp 13))],none⟩,
   ⟨some 15,.call 33 [(.tmp 14)],none⟩,
   ⟨some 4,.mov (.tmp 15),none⟩] [(0,2),(1,2),(0,3),(1,3),(0,5),(1,5),(2,5),(3,5),(4,5),(0,6),(1,6),(2,6),(3,6),(4,6),(0,7),(1,7),(2,7),(3,7),(4,7)])
  (.seq
   (.reg [] [⟨some 16,.mov (.tmp 4),none⟩,
    ⟨some 17,.cmp .neq (.tmp 16) (.cst (.d (.int .i64 0))),none⟩])
   (.cond (.tmp 17)
   (.seq
    (.reg [] [⟨some 18,.build [(.d (.bool false)),(.d (.bool false)),(.nils 2)] [],none⟩,
     ⟨some 19,.mov (.tmp 4),none⟩,
     ⟨none,.st 3 (.tmp 2) (.tmp 18),none⟩,
     ⟨some 3,.mov (.tmp 19),none⟩])
    .ret)
   .skip)))
  (.seq
  (.reg [] [⟨some 20,.build [(.d (.bool false)),(.d (.bool false)),(.nils 2)] [(0,1,(.cst (.d (.bool true))))],none⟩,
   ⟨none,.st 3 (.tmp 2) (.tmp 20),none⟩,
   ⟨some 3,.mov (.cst (.d (.int .i64 0))),none⟩])
  .ret)))⟩
def jr73:AFun:=⟨20,3,[.cell 2 3 true,.tmp 3],
 (.seq
 (.reg [0,1] [⟨some 1,.cbx 0 3 (.tmp 0),none⟩,
  ⟨some 2,.alloc 1 [(.d (.bool false)),(.d (.bool false)),(.nils 2)],none⟩,
  ⟨some 3,.mov (.cst (.d (.int .i64 0))),none⟩])
 (.seq
  (.seq
  (.regd [2] [⟨some 5,.ld true 3 (.tmp 1),none⟩,
   ⟨some 6,.call 34 [(.tmp 5)],none⟩,
   ⟨some 7,.fad 0 (.tmp 1),none⟩,
   ⟨some 8,.ld false 1 (.tmp 7),none⟩,
   ⟨some 9,.call 37 [(.tmp 8),(.cst (.d (.int .i64 22)))],none⟩,
   ⟨some 10,.fad 1 (.tmp 1),none⟩,
   ⟨some 11,.ld false 1 (.tmp 10),none⟩,
   ⟨some 12,.call 37 [(.tmp 11),(.cst (.d (.int .i64 9)))],none⟩,
   ⟨some 13,.bsl 2 43 1 3 [(.int .i64 0),(.int .i64 0),(.int .i64 0)] [(0,(.tmp 6)),(1,(.tmp 9)),(2,(.tmp 12))],none⟩,
   ⟨some 14,.call 33 [(.tmp 13)],none⟩,
   ⟨some 4,.mov (.tmp 14),none⟩] [(0,2),(1,2),(0,3),(1,3),(0,5),(1,5),(2,5),(3,5),(4,5),(0,6),(1,6),(2,6),(3,6),(4,6)])
  (.seq
   (.reg [] [⟨some 15,.mov (.tmp 4),none⟩,
    ⟨some 16,.cmp .neq (.tmp 15) (.cst (.d (.int .i64 0))),none⟩])
   (.cond (.tmp 16)
   (.seq
    (.reg [] [⟨some 17,.build [(.d (.bool false)),(.d (.bool false)),(.nils 2)] [],none⟩,
     ⟨some 18,.mov (.tmp 4),none⟩,
     ⟨none,.st 3 (.tmp 2) (.tmp 17),none⟩,
     ⟨some 3,.mov (.tmp 18),none⟩])
    .ret)
   .skip)))
  (.seq
  (.reg [] [⟨some 19,.build [(.d (.bool false)),(.d (.bool false)),(.nils 2)] [(1,1,(.cst (.d (.bool true))))],none⟩,
   ⟨none,.st 3 (.tmp 2) (.tmp 19),none⟩,
   ⟨some 3,.mov (.cst (.d (.int .i64 0))),none⟩])
  .ret)))⟩
def jr70:AFun:=⟨45,6,[.cell 6 3 true,.tmp 7],
 (.seq
 (.reg [0,1] [⟨some 3,.cbx 0 3 (.tmp 0),none⟩,
  ⟨some 6,.alloc 1 [(.d (.bool false)),(.d (.bool false)),(.nils 2)],none⟩,
  ⟨some 7,.mov (.cst (.d (.int .i64 0))),none⟩])
 (.seq
  (.seq
  (.regd [2] [⟨some 10,.ld true 3 (.tmp 3),none⟩,
   ⟨some 11,.call 34 [(.tmp 10)],none⟩,
   ⟨some 12,.mov (.tmp 1),none⟩,
   ⟨some 13,.call 35 [(.tmp 12)],none⟩,
   ⟨some 14,.mov (.tmp 2),none⟩,
   ⟨some 15,.call 36 [(.tmp 14)],none⟩,
   ⟨some 16,.fad 0 (.tmp 3),none⟩,
   ⟨some 17,.ld false 1 (.tmp 16),none⟩,
   ⟨some 18,.not (.tmp 17),none⟩,
   ⟨some 19,.call 37 [(.tmp 18),(.cst (.d (.int .i64 22)))],none⟩,
   ⟨some 20,.mov (.tmp 2),none⟩,
   ⟨some 21,.ld true 3 (.tmp 3),none⟩,
   ⟨some 22,.call 38 [(.tmp 21)],none⟩,
   ⟨some 23,.cmp .lss (.tmp 20) (.tmp 22),none⟩,
   ⟨some 24,.call 37 [(.tmp 23),(.cst (.d (.int .i64 11)))],none⟩,
   ⟨some 25,.bsl 2 43 1 5 [(.int .i64 0),(.int .i64 0),(.int .i64 0),(.int .i64 0),(.int .i64 0)] [(0,(.tmp 11)),(1,(.tmp 13)),(2,(.tmp 15)),(3,(.tmp 19)),(4,(.tmp 24))],none⟩,
   ⟨some 26,.call 33 [(.tmp 25)],none⟩,
   ⟨some 8,.mov (.tmp 26),none⟩] [(0,2),(1,2),(0,4),(1,4),(2,4),(3,4),(0,6),(1,6),(2,6),(3,6),(4,6),(5,6),(0,7),(1,7),(2,7),(3,7),(4,7),(5,7),(0,8),(1,8),(2,8),(3,8),(4,8),(5,8),(0,10),(1,10),(2,10),(3,10),(4,10),(5,10),(6,10),(7,10),(8,10),(9,10),(0,11),(1,11),(2,11),(3,11),(4,11),(5,11),(6,11),(7,11),(8,11),(9,11),(10,11),(10,12)])
  (.seq
   (.reg [] [⟨some 27,.mov (.tmp 8),none⟩,
    ⟨some 28,.cmp .neq (.tmp 27) (.cst (.d (.int .i64 0))),none⟩])
   (.cond (.tmp 28)
   (.seq
    (.reg [] [⟨some 29,.build [(.d (.bool false)),(.d (.bool false)),(.nils 2)] [],none⟩,
     ⟨some 30,.mov (.tmp 8),none⟩,
     ⟨none,.st 3 (.tmp 6) (.tmp 29),none⟩,
     ⟨some 7,.mov (.tmp 30),none⟩])
    .ret)
   .skip)))
  (.seq
  (.reg [3,4] [⟨some 31,.ld true 3 (.tmp 3),none⟩,
   ⟨some 32,.mov (.tmp 1),none⟩,
   ⟨some 33,.calln 5 113 2 39 [(.tmp 31),(.tmp 32)],none⟩,
   ⟨some 34,.mov (.tmp 1),none⟩,
   ⟨some 35,.mov (.tmp 2),none⟩,
   ⟨some 36,.build [(.d (.str [])),(.d (.int .i64 0))] [(0,1,(.tmp 34)),(1,1,(.tmp 35))],none⟩,
   ⟨some 37,.bsl 3 113 2 1 [(.agg [(.str []),(.int .i64 0)])] [(0,(.tmp 36))],none⟩,
   ⟨some 38,.app 4 113 2 24 (.tmp 33) (.tmp 37),none⟩,
   ⟨some 9,.mov (.tmp 38),none⟩])
  (.seq
   (.seq
   (.reg [] [⟨some 39,.mov (.tmp 9),none⟩,
    ⟨some 40,.len (.tmp 39),none⟩,
    ⟨some 41,.cmp .gtr (.tmp 40) (.cst (.d (.int .i64 8))),none⟩])
   (.cond (.tmp 41)
    (.seq
    (.reg [] [⟨some 42,.build [(.d (.bool false)),(.d (.bool false)),(.nils 2)] [],none⟩,
     ⟨none,.st 3 (.tmp 6) (.tmp 42),none⟩,
     ⟨some 7,.mov (.cst (.d (.int .i64 5))),none⟩])
    .ret)
    .skip))
   (.seq
   (.reg [] [⟨some 43,.mov (.tmp 9),none⟩,
    ⟨some 44,.build [(.d (.bool false)),(.d (.bool false)),(.nils 2)] [(0,1,(.cst (.d (.bool true)))),(2,1,(.tmp 43))],none⟩,
    ⟨none,.st 3 (.tmp 6) (.tmp 44),none⟩,
    ⟨some 7,.mov (.cst (.d (.int .i64 0))),none⟩])
   .ret)))))⟩
def lst (s:Sw):Int:=lastT s.os s.os.length
theorem c127 (s:Sw) (hl:s.os.length≤1048576):CallDet Tryz.prog 38 [.d (.agg [.bool s.on,.bool s.rd,.slice 2 (ods s.os)])] [.int .i64 (lst s)]:=by
 have hlen:=ods_len s.os
 unfold lst
 cases hc:s.os with
 | nil =>
  refine call_of_vc (x:=jr127) (by kernel_rfl) rfl ?_
  refine sd ?_
  exact rfl
 | cons y r =>
  rw [← hc]
  refine Exists.elim (get_lt s.os (k:=r.length) (by rw [hc]; simp)) fun p hp=>?_
  have hp1:=ods_at hp
  have hll:s.os.length=r.length+1:=by rw [hc]; rfl
  have hp2:(ods s.os)[((((ods s.os).length:Nat):Int) - 1).toNat]?=some (.agg [.str p.o,.int .i64 p.t]):=by
   rw [show ((((ods s.os).length:Nat):Int) - 1).toNat=((r.length:Nat):Int).toNat by omega]; exact hp1
  rw [hll,lastT_at hp]
  refine call_of_vc (x:=jr127) (by kernel_rfl) rfl ?_
  refine sd ?_
  refine b_eq (fun t1=>?_) (fun t1=>?_)
  (exfalso; omega)
  refine ar_sub ?_ ?_
  refine an ?_ ?_
  (show (-9223372036854775808:Int)≤(↑(List.length (ods (Sw.os s))):Int) - (1:Int); omega)
  (show (↑(List.length (ods (Sw.os s))):Int) - (1:Int)≤(9223372036854775807:Int); omega)
  refine ix_at hp2 ?_ ?_
  (show (0:Int)≤(↑(List.length (ods (Sw.os s))):Int) - (1:Int); omega)
  exact rfl
def wtE (s:Sw) (off:Nm):Int:=firstOf [ckS s,bif !(isNm off) then 8 else 0]
def orF (s:Sw) (t:Int):Int:=firstOf [bif !s.on then 22 else 0,bif decide (t < lst s) then 11 else 0]
def orE (s:Sw) (off:Nm) (t:Int):Int:=firstOf [bif !s.on then 22 else 0,bif decide (t < lst s) then 11 else 0,bif decide (8≤(((ods (keepO off s.os)).length:Nat):Int)) then 5 else 0]
def or0 (s:Sw) (off:Nm) (t:Int):Int:=firstOf [wtE s off,within3 t 0 100000000]
theorem or_all (s:Sw) (off:Nm) (t:Int):firstOf [ckS s,bif !(isNm off) then 8 else 0,within3 t 0 100000000,bif !s.on then 22 else 0,bif decide (t < lst s) then 11 else 0]=bif or0 s off t != 0 then or0 s off t else orF s t:=by
 unfold or0 wtE orF
 by_cases h1:ckS s=0
 ·rw [h1,fo_z,fo_z]
  cases isNm off with
  | false=>rfl
  | true =>
   have e:firstOf [firstOf [bif !true then (8:Int) else 0],within3 t 0 100000000]=within3 t 0 100000000:=by
    show firstOf [(0:Int),within3 t 0 100000000]=_
    rw [fo_z]
    by_cases h3:within3 t 0 100000000=0
    ·rw [h3]; rfl
    ·rw [fo_nz h3]
   rw [e]
   show firstOf ((0:Int)::_)=_
   rw [fo_z]
   by_cases h3:within3 t 0 100000000=0
   ·rw [h3]; rfl
   ·rw [fo_nz h3,bne_t h3]; rfl
 ·rw [fo_nz h1,fo_nz h1,fo_nz h1,bne_t h1]; rfl
def swO (s:Sw) (off:Nm) (t:Int):Sw:=⟨true,false,keepO off s.os++[⟨off,t⟩]⟩
theorem orE_F {s:Sw} {off:Nm} {t:Int} (h:¬ orF s t=0):orE s off t=orF s t:=by
 unfold orE; unfold orF at h ⊢
 cases e:s.on with
 | false=>rfl
 | true =>
  rw [e] at h
  cases e2:decide (t < lst s) with
  | false=>rw [e2] at h; exact absurd rfl h
  | true=>rfl
theorem orE_0 {s:Sw} {off:Nm} {t:Int} (h:orF s t=0):orE s off t=bif decide (8≤(((ods (keepO off s.os)).length:Nat):Int)) then 5 else 0:=by
 unfold orE; unfold orF at h
 cases e:s.on with
 | false=>rw [e] at h; cases h
 | true =>
  rw [e] at h
  cases e2:decide (t < lst s) with
  | false=>cases decide (8≤(((ods (keepO off s.os)).length:Nat):Int)) <;> rfl
  | true=>rw [e2] at h; cases h
theorem c70 (s:Sw) (off:Nm) (t:Int) (hl:s.os.length≤1000000):CallDet Tryz.prog 9 [.d (.agg [.bool s.on,.bool s.rd,.slice 2 (ods s.os)]),.d (.str off),.d (.int .i64 t)] (bif or0 s off t != 0 then [.agg [.bool false,.bool false,.slice 2 []],.int .i64 (or0 s off t)] else bif orE s off t != 0 then [.agg [.bool false,.bool false,.slice 2 []],.int .i64 (orE s off t)] else [.agg [.bool (swO s off t).on,.bool (swO s off t).rd,.slice 2 (ods (swO s off t).os)],.int .i64 0]):=by
 have hlen:=ods_len s.os
 have hkl:=keepO_le off s.os
 have hkn:=ods_len (keepO off s.os)
 have c80_:=c80 s (by omega)
 have c126_:=c126 off
 have c112_:=c112 t
 have c127_:=c127 s (by omega)
 have c128r_:=c128r s.on s.rd s.os off (by omega)
 have c90_:CallDet Tryz.prog 33 [.d (.slice 1 [.int .i64 (ckS s),.int .i64 (bif !(isNm off) then 8 else 0),.int .i64 (within3 t 0 100000000),.int .i64 (bif !s.on then 22 else 0),.int .i64 (bif decide (t < lst s) then 11 else 0)])] [.int .i64 (bif or0 s off t != 0 then or0 s off t else orF s t)]:=by
  rw [← or_all]; exact c90 [ckS s,bif !(isNm off) then 8 else 0,within3 t 0 100000000,bif !s.on then 22 else 0,bif decide (t < lst s) then 11 else 0] (by simp)
 by_cases h0:or0 s off t=0
 ·rw [h0] at c90_ ⊢
  have c90_:CallDet Tryz.prog 33 [.d (.slice 1 [.int .i64 (ckS s),.int .i64 (bif !(isNm off) then 8 else 0),.int .i64 (within3 t 0 100000000),.int .i64 (bif !s.on then 22 else 0),.int .i64 (bif decide (t < lst s) then 11 else 0)])] [.int .i64 (orF s t)]:=c90_
  have hla:(ods (keepO off s.os)++[Data.agg [.str off,.int .i64 t]]).length=(ods (keepO off s.os)).length+1:=by rw [List.length_append]; rfl
  by_cases hF:orF s t=0
  ·rw [orE_0 hF]
   rw [hF] at c90_
   by_cases h8:8≤(((ods (keepO off s.os)).length:Nat):Int)
   ·rw [decide_eq_true h8]
    refine call_of_vc (x:=jr70) (by kernel_rfl) rfl ?_
    refine ca c80_ ?_
    refine ca c126_ ?_
    refine ca c112_ ?_
    refine ca (c92 _ _) ?_
    refine ca c127_ ?_
    refine sd ?_
    refine ca (c92 _ _) ?_
    refine sd ?_
    refine sd ?_
    refine ca c90_ ?_
    refine sd ?_
    refine ca (c128r _ _ _ _ ?_) ?_
    (show List.length (Sw.os s)≤(1048576:Nat); omega)
    refine sd ?_
    refine sd ?_
    refine sd ?_
    refine an ?_ ?_
    refine an ?_ ?_
    exact rfl
    refine an ?_ ?_
    exact rfl
    refine an ?_ ?_
    exact rfl
    refine an ?_ ?_
    (show (List.length (ods (keepO off (Sw.os s)))+(1:Nat)) * (24:Nat)≤(2:Nat) ^ (47:Nat); omega)
    (show List.length (ods (keepO off (Sw.os s)))+(1:Nat)≤(2:Nat) ^ (47:Nat); omega)
    refine sd ?_
    refine sd ?_
    refine b_lt (fun t1=>?_) (fun t1=>?_)
    replace t1:(8:Int) < (↑(List.length (ods (keepO off (Sw.os s))++[Data.agg [Data.str off,Data.int IntKind.i64 t]])):Int):=t1
    exact rfl
    replace t1:¬(8:Int) < (↑(List.length (ods (keepO off (Sw.os s))++[Data.agg [Data.str off,Data.int IntKind.i64 t]])):Int):=t1
    (exfalso; omega)
   ·rw [decide_eq_false h8]
    have hS:ods (keepO off s.os++[⟨off,t⟩])=ods (keepO off s.os)++[Data.agg [.str off,.int .i64 t]]:=ods_app _ _
    have fin:resV [.agg [.bool true,.bool false,.slice 2 (ods (keepO off s.os)++[Data.agg [.str off,.int .i64 t]])],.int .i64 0]=resV [.agg [.bool (swO s off t).on,.bool (swO s off t).rd,.slice 2 (ods (swO s off t).os)],.int .i64 0]:=by unfold swO; rw [hS]
    refine call_of_vc (x:=jr70) (by kernel_rfl) rfl ?_
    refine ca c80_ ?_
    refine ca c126_ ?_
    refine ca c112_ ?_
    refine ca (c92 _ _) ?_
    refine ca c127_ ?_
    refine sd ?_
    refine ca (c92 _ _) ?_
    refine sd ?_
    refine sd ?_
    refine ca c90_ ?_
    refine sd ?_
    refine ca (c128r _ _ _ _ ?_) ?_
    (show List.length (Sw.os s)≤(1048576:Nat); omega)
    refine sd ?_
    refine sd ?_
    refine sd ?_
    refine an ?_ ?_
    refine an ?_ ?_
    exact rfl
    refine an ?_ ?_
    exact rfl
    refine an ?_ ?_
    exact rfl
    refine an ?_ ?_
    (show (List.length (ods (keepO off (Sw.os s)))+(1:Nat)) * (24:Nat)≤(2:Nat) ^ (47:Nat); omega)
    (show List.length (ods (keepO off (Sw.os s)))+(1:Nat)≤(2:Nat) ^ (47:Nat); omega)
    refine sd ?_
    refine sd ?_
    refine b_lt (fun t1=>?_) (fun t1=>?_)
    replace t1:(8:Int) < (↑(List.length (ods (keepO off (Sw.os s))++[Data.agg [Data.str off,Data.int IntKind.i64 t]])):Int):=t1
    (exfalso; omega)
    replace t1:¬(8:Int) < (↑(List.length (ods (keepO off (Sw.os s))++[Data.agg [Data.str off,Data.int IntKind.i64 t]])):Int):=t1
    refine sd ?_
    refine sd ?_
    assumption
    all_goals exact fin
  ·rw [orE_F hF,bne_t hF]
   refine call_of_vc (x:=jr70) (by kernel_rfl) rfl ?_
   refine ca c80_ ?_
   refine ca c126_ ?_
   refine ca c112_ ?_
   refine ca (c92 _ _) ?_
   refine ca c127_ ?_
   refine sd ?_
   refine ca (c92 _ _) ?_
   refine sd ?_
   refine sd ?_
   refine ca c90_ ?_
   refine sd ?_
   refine b_ne (fun t1=>?_) (fun t1=>?_)
   exact rfl
   (exfalso; omega)
 ·rw [bne_t h0] at c90_ ⊢
  refine call_of_vc (x:=jr70) (by kernel_rfl) rfl ?_
  refine ca c80_ ?_
  refine ca c126_ ?_
  refine ca c112_ ?_
  refine ca (c92 _ _) ?_
  refine ca c127_ ?_
  refine sd ?_
  refine ca (c92 _ _) ?_
  refine sd ?_
  refine sd ?_
  refine ca c90_ ?_
  refine sd ?_
  refine b_ne (fun t1=>?_) (fun t1=>?_)
  replace t1:¬or0 s off t=(0:Int):=t1
  exact rfl
  replace t1:or0 s off t=(0:Int):=t1
  (exfalso; omega)
def rlE (s:Sw):Int:=firstOf [bif s.on then 22 else 0,bif s.rd then 9 else 0]
def cfE (s:Sw):Int:=firstOf [bif s.on then 22 else 0,bif !s.rd then 29 else 0]
theorem first3c {x y z:Int}:firstOf [x,y,z]=bif x != 0 then x else firstOf [y,z]:=by
 by_cases h:x=0
 ·rw [h]; rfl
 ·rw [fo_nz h,bne_t h]; rfl
theorem c73 (s:Sw) (hl:s.os.length≤1000000):CallDet Tryz.prog 16 [.d (.agg [.bool s.on,.bool s.rd,.slice 2 (ods s.os)])] (bif ckS s != 0 then [.agg [.bool false,.bool false,.slice 2 []],.int .i64 (ckS s)] else bif rlE s != 0 then [.agg [.bool false,.bool false,.slice 2 []],.int .i64 (rlE s)] else [.agg [.bool false,.bool true,.slice 2 []],.int .i64 0]):=by
 have c80_:=c80 s (by omega)
 have c90_:CallDet Tryz.prog 33 [.d (.slice 1 [.int .i64 (ckS s),.int .i64 (bif s.on then 22 else 0),.int .i64 (bif s.rd then 9 else 0)])] [.int .i64 (bif ckS s != 0 then ckS s else rlE s)]:=by
  have h:=c90 [ckS s,bif s.on then 22 else 0,bif s.rd then 9 else 0] (by simp)
  rw [first3c] at h; exact h
 by_cases h0:ckS s=0
 ·rw [h0] at c90_ ⊢
  have c90_:CallDet Tryz.prog 33 [.d (.slice 1 [.int .i64 0,.int .i64 (bif s.on then 22 else 0),.int .i64 (bif s.rd then 9 else 0)])] [.int .i64 (rlE s)]:=c90_
  rw [h0] at c80_
  by_cases h1:rlE s=0
  ·rw [h1] at c90_ ⊢
   refine call_of_vc (x:=jr73) (by kernel_rfl) rfl ?_
   refine ca c80_ ?_
   refine ca (c92 _ _) ?_
   refine ca (c92 _ _) ?_
   refine sd ?_
   refine sd ?_
   refine ca c90_ ?_
   refine sd ?_
   exact rfl
  ·rw [bne_t h1]
   refine call_of_vc (x:=jr73) (by kernel_rfl) rfl ?_
   refine ca c80_ ?_
   refine ca (c92 _ _) ?_
   refine ca (c92 _ _) ?_
   refine sd ?_
   refine sd ?_
   refine ca c90_ ?_
   refine sd ?_
   refine b_ne (fun t1=>?_) (fun t1=>?_)
   exact rfl
   (exfalso; omega)
 ·rw [bne_t h0] at c90_ ⊢
  refine call_of_vc (x:=jr73) (by kernel_rfl) rfl ?_
  refine ca c80_ ?_
  refine ca (c92 _ _) ?_
  refine ca (c92 _ _) ?_
  refine sd ?_
  refine sd ?_
  refine ca c90_ ?_
  refine sd ?_
  refine b_ne (fun t1=>?_) (fun t1=>?_)
  replace t1:¬ckS s=(0:Int):=t1
  exact rfl
  replace t1:ckS s=(0:Int):=t1
  (exfalso; omega)
theorem c72 (s:Sw) (hl:s.os.length≤1000000):CallDet Tryz.prog 15 [.d (.agg [.bool s.on,.bool s.rd,.slice 2 (ods s.os)])] (bif ckS s != 0 then [.agg [.bool false,.bool false,.slice 2 []],.int .i64 (ckS s)] else bif cfE s != 0 then [.agg [.bool false,.bool false,.slice 2 []],.int .i64 (cfE s)] else [.agg [.bool true,.bool false,.slice 2 []],.int .i64 0]):=by
 have c80_:=c80 s (by omega)
 have c90_:CallDet Tryz.prog 33 [.d (.slice 1 [.int .i64 (ckS s),.int .i64 (bif s.on then 22 else 0),.int .i64 (bif !s.rd then 29 else 0)])] [.int .i64 (bif ckS s != 0 then ckS s else cfE s)]:=by
  have h:=c90 [ckS s,bif s.on then 22 else 0,bif !s.rd then 29 else 0] (by simp)
  rw [first3c] at h; exact h
 by_cases h0:ckS s=0
 ·rw [h0] at c90_ ⊢
  have c90_:CallDet Tryz.prog 33 [.d (.slice 1 [.int .i64 0,.int .i64 (bif s.on then 22 else 0),.int .i64 (bif !s.rd then 29 else 0)])] [.int .i64 (cfE s)]:=c90_
  rw [h0] at c80_
  by_cases h1:cfE s=0
  ·rw [h1] at c90_ ⊢
   refine call_of_vc (x:=jr72) (by kernel_rfl) rfl ?_
   refine ca c80_ ?_
   refine ca (c92 _ _) ?_
   refine ca (c92 _ _) ?_
   refine sd ?_
   refine sd ?_
   refine ca c90_ ?_
   refine sd ?_
   exact rfl
  ·rw [bne_t h1]
   refine call_of_vc (x:=jr72) (by kernel_rfl) rfl ?_
   refine ca c80_ ?_
   refine ca (c92 _ _) ?_
   refine ca (c92 _ _) ?_
   refine sd ?_
   refine sd ?_
   refine ca c90_ ?_
   refine sd ?_
   refine b_ne (fun t1=>?_) (fun t1=>?_)
   exact rfl
   (exfalso; omega)
 ·rw [bne_t h0] at c90_ ⊢
  refine call_of_vc (x:=jr72) (by kernel_rfl) rfl ?_
  refine ca c80_ ?_
  refine ca (c92 _ _) ?_
  refine ca (c92 _ _) ?_
  refine sd ?_
  refine sd ?_
  refine ca c90_ ?_
  refine sd ?_
  refine b_ne (fun t1=>?_) (fun t1=>?_)
  replace t1:¬ckS s=(0:Int):=t1
  exact rfl
  replace t1:ckS s=(0:Int):=t1
  (exfalso; omega)
end Vc.L
