import Derived.Test.YtokkgdokamjnaaaGreatG15
set_option linter.unusedSectionVars false
set_option linter.unusedVariables false
set_option linter.unusedSimpArgs false
set_option maxRecDepth 10000
set_option maxHeartbeats 4000000
namespace Vc.L
open Go Go.Proofs
structure Sw where
 on:Bool
 rd:Bool
 os:List Od
theorem findM_names2 (s:List UInt8):∀ l:List (List UInt8),findM (.str s) (l.map fun n=>(.str n,.bool true))=if l.contains s then some (.bool true) else none
 | []=>rfl
 | n::r=>by
  show (match dEq (.str s) (.str n) with | true=>some (Data.bool true) | false=>findM (.str s) (r.map fun n=>(.str n,.bool true)))=_
  rw [List.contains_cons,findM_names2 s r]
  show (match (s==n) with | true=>_ | false=>_)=_
  cases (s==n) <;> simp
theorem putM_names2 (s:List UInt8):∀ l:List (List UInt8),l.contains s=false→putM (.str s) (.bool true) (l.map fun n=>(.str n,.bool true))=(l++[s]).map fun n=>(.str n,.bool true)
 | [],_=>rfl
 | n::r,h=>by
  rw [List.contains_cons,Bool.or_eq_false_iff] at h
  show (match (s==n) with | true=>_ | false=>_)=_
  rw [h.1]
  show (Data.str n,Data.bool true)::putM (.str s) (.bool true) (r.map fun n=>(.str n,.bool true))=_
  rw [putM_names2 s r h.2]; rfl
theorem keys_names2:∀ l:List (List UInt8),keysOk none (l.map fun n=>(.str n,.bool true))=true
 | []=>rfl
 | n::r=>keys_names2 r
def KM (R:List Nm):List (Data × Data):=R.map fun n=>(Data.str n,Data.bool true)
theorem lk1 (n:List UInt8) (L:List (List UInt8)):(∃ y,findM (.str n) (L.map fun n=>(Data.str n,Data.bool true))=some y∧[Data.bool (L.contains n),Data.bool (L.contains n)]=[y,.bool true])∨(findM (.str n) (L.map fun n=>(Data.str n,Data.bool true))=none∧[Data.bool (L.contains n),Data.bool (L.contains n)]=[.bool false,.bool false]):=by
 rw [findM_names2 n L]
 rcases Bool.eq_false_or_eq_true (L.contains n) with e | e
 ·rw [e]; exact .inl ⟨_,rfl,rfl⟩
 ·rw [e]; exact .inr ⟨rfl,rfl⟩
def odE (o:Od) (K:List Nm) (last:Int):Int:=firstOf [bif !(isNm o.o) then 8 else 0,bif K.contains o.o then 9 else 0,within3 o.t 0 100000000,bif decide (o.t < last) then 11 else 0]
def odsE:List Od→List Nm→Int→Int
 | [],_,_=>0
 | o::r,K,last=>bif odE o K last != 0 then odE o K last else odsE r (K++[o.o]) o.t
def swF (s:Sw):Int:=firstOf [bif (bif s.on then s.rd else decide ((0:Int) < (((ods s.os).length:Nat):Int))) then 22 else 0,bif decide ((8:Int) < (((ods s.os).length:Nat):Int)) then 5 else 0]
def ckS (s:Sw):Int:=bif swF s != 0 then swF s else odsE s.os [] 0
theorem ckS_f {s:Sw} (h:¬ swF s=0):ckS s=swF s:=by rw [ckS,bne_t h]; rfl
theorem ckS_0 {s:Sw} (h:swF s=0):ckS s=odsE s.os [] 0:=by rw [ckS,h]; rfl
theorem ckS_00 {s:Sw} (h:ckS s=0):swF s=0:=by
 by_cases e:swF s=0
 ·exact e
 ·rw [ckS_f e] at h; exact h
def nmsO (l:List Od):List Nm:=l.map Od.o
theorem nmsO_snoc {l:List Od} {k:Nat} {x:Od} (h:l[k]?=some x):nmsO (l.take (k+1))=nmsO (l.take k)++[x.o]:=by unfold nmsO; rw [take_one h,List.map_append]; rfl
theorem fo_z {r:List Int}:firstOf ((0:Int)::r)=firstOf r:=rfl
theorem fo_nz {a:Int} {r:List Int} (h:a≠0):firstOf (a::r)=a:=by show (bif a != 0 then a else _)=a; rw [bne_t h]; rfl
def lastT (l:List Od) (k:Nat):Int:=match k with
 | 0=>0
 | k+1=>match l[k]? with
  | some o=>o.t
  | none=>0
theorem lastT_at {l:List Od} {k:Nat} {o:Od} (h:l[k]?=some o):lastT l (k+1)=o.t:=by
 show (match l[k]? with | some o=>o.t | none=>0)=_
 rw [h]
@[irreducible] def seg80:ACode:=(.loop
 (.post [4,5,39,40,41] [3,4]
 (.seq
 (.reg [] [⟨some 42,.cmp .lss (.tmp 41) (.tmp 40),none⟩])
 (.seq
 (.cond (.tmp 42)
 .skip
 (.exit 0))
 (.seq
 (.block 1
 (.seq
 (.reg [3] [⟨some 43,.ixa 2 (.tmp 39) (.tmp 41),none⟩,
 ⟨some 44,.ld true 2 (.tmp 43),none⟩,
 ⟨some 7,.alloc 3 [(.d (.str [])),(.d (.int .i64 0))],none⟩,
 ⟨none,.st 2 (.tmp 7) (.tmp 44),none⟩])
 (.seq
 (.seq
 (.regd [4] [⟨some 45,.fad 0 (.tmp 7),none⟩,
 ⟨some 46,.ld false 1 (.tmp 45),none⟩,
 ⟨some 47,.call 35 [(.tmp 46)],none⟩,
 ⟨some 48,.mov (.tmp 4),none⟩,
 ⟨some 49,.fad 0 (.tmp 7),none⟩,
 ⟨some 50,.ld false 1 (.tmp 49),none⟩,
 ⟨some 51,.lkp none (.bool false) false (.tmp 48) (.tmp 50),none⟩,
 ⟨some 52,.call 37 [(.tmp 51),(.cst (.d (.int .i64 9)))],none⟩,
 ⟨some 53,.fad 1 (.tmp 7),none⟩,
 ⟨some 54,.ld false 1 (.tmp 53),none⟩,
 ⟨some 55,.call 36 [(.tmp 54)],none⟩,
 ⟨some 56,.fad 1 (.tmp 7),none⟩,
 ⟨some 57,.ld false 1 (.tmp 56),none⟩,
 ⟨some 58,.mov (.tmp 5),none⟩,
 ⟨some 59,.cmp .lss (.tmp 57) (.tmp 58),none⟩,
 ⟨some 60,.call 37 [(.tmp 59),(.cst (.d (.int .i64 11)))],none⟩,
 ⟨some 61,.bsl 4 43 1 4 [(.int .i64 0),(.int .i64 0),(.int .i64 0),(.int .i64 0)] [(0,(.tmp 47)),(1,(.tmp 52)),(2,(.tmp 55)),(3,(.tmp 60))],none⟩,
 ⟨some 62,.call 33 [(.tmp 61)],none⟩,
 ⟨some 8,.mov (.tmp 62),none⟩] [(0,3),(1,3),(2,3),(0,4),(1,4),(2,4),(3,4),(0,5),(1,5),(2,5),(3,5),(0,6),(1,6),(2,6),(0,8),(1,8),(2,8),(3,8),(4,8),(5,8),(6,8),(7,8),(0,9),(1,9),(2,9),(3,9),(4,9),(5,9),(6,9),(7,9),(0,11),(1,11),(2,11),(3,11),(4,11),(5,11),(6,11),(7,11),(8,11),(9,11),(10,11),(0,12),(1,12),(2,12),(3,12),(4,12),(5,12),(6,12),(7,12),(8,12),(9,12),(10,12),(0,13),(1,13),(2,13),(3,13),(4,13),(5,13),(6,13),(7,13),(8,13),(9,13),(10,13),(11,13),(12,13),(0,14),(1,14),(2,14),(3,14),(4,14),(5,14),(6,14),(7,14),(8,14),(9,14),(10,14)])
 (.seq
 (.reg [] [⟨some 63,.mov (.tmp 8),none⟩,
 ⟨some 64,.cmp .neq (.tmp 63) (.cst (.d (.int .i64 0))),none⟩])
 (.cond (.tmp 64)
 (.seq
 (.reg [] [⟨some 65,.mov (.tmp 8),none⟩,
 ⟨some 2,.mov (.tmp 65),none⟩])
 .ret)
 .skip)))
 (.regd [] [⟨some 66,.mov (.tmp 4),none⟩,
 ⟨some 67,.fad 0 (.tmp 7),none⟩,
 ⟨some 68,.ld false 1 (.tmp 67),none⟩,
 ⟨some 69,.fad 1 (.tmp 7),none⟩,
 ⟨some 70,.ld false 1 (.tmp 69),none⟩,
 ⟨none,.mpu none (.tmp 66) (.tmp 68) (.cst (.d (.bool true))),none⟩,
 ⟨some 5,.mov (.tmp 70),none⟩] [(0,1),(0,2),(0,3),(1,3),(2,3),(0,4),(1,4),(2,4),(3,5),(4,5)]))))
 (.reg [] [⟨some 71,.arith .add .i64 (.tmp 41) (.cst (.d (.int .i64 1))),none⟩,
 ⟨some 41,.mov (.tmp 71),none⟩]))))))
def jr126:AFun:=⟨7,0,[.tmp 2],
 (.seq
 (.reg [] [⟨some 2,.mov (.cst (.d (.int .i64 0))),none⟩])
 (.seq
  (.reg [] [⟨some 3,.mov (.tmp 0),none⟩,
   ⟨some 4,.call 66 [(.tmp 3)],none⟩,
   ⟨some 5,.not (.tmp 4),none⟩,
   ⟨some 6,.call 37 [(.tmp 5),(.cst (.d (.int .i64 8)))],none⟩,
   ⟨some 2,.mov (.tmp 6),none⟩])
  .ret))⟩
def jr80:AFun:=⟨72,5,[.tmp 2],
 (.seq
 (.reg [0] [⟨some 1,.cbx 0 3 (.tmp 0),none⟩,
  ⟨some 2,.mov (.cst (.d (.int .i64 0))),none⟩])
 (.seq
  (.seq
  (.regd [1] [⟨some 9,.fad 0 (.tmp 1),none⟩,
   ⟨some 10,.ld false 1 (.tmp 9),none⟩,
   ⟨some 11,.mov (.tmp 10),none⟩,
   ⟨some 12,.fad 1 (.tmp 1),some (11,true)⟩,
   ⟨some 13,.ld false 1 (.tmp 12),some (11,true)⟩,
   ⟨some 14,.pick (.tmp 11) (.tmp 13) (.cst (.d (.bool false))),none⟩,
   ⟨some 15,.mov (.tmp 14),none⟩,
   ⟨some 16,.fad 0 (.tmp 1),some (15,false)⟩,
   ⟨some 17,.ld false 1 (.tmp 16),some (15,false)⟩,
   ⟨some 18,.not (.tmp 17),some (15,false)⟩,
   ⟨some 19,.mov (.tmp 18),some (15,false)⟩,
   ⟨some 20,.fad 2 (.tmp 1),some (19,true)⟩,
   ⟨some 21,.ld false 1 (.tmp 20),some (19,true)⟩,
   ⟨some 22,.len (.tmp 21),some (19,true)⟩,
   ⟨some 23,.cmp .gtr (.tmp 22) (.cst (.d (.int .i64 0))),some (19,true)⟩,
   ⟨some 24,.pick (.tmp 19) (.tmp 23) (.cst (.d (.bool false))),some (15,false)⟩,
   ⟨some 25,.pick (.tmp 15) (.cst (.d (.bool true))) (.tmp 24),none⟩,
   ⟨some 26,.call 37 [(.tmp 25),(.cst (.d (.int .i64 22)))],none⟩,
   ⟨some 27,.fad 2 (.tmp 1),none⟩,
   ⟨some 28,.ld false 1 (.tmp 27),none⟩,
   ⟨some 29,.len (.tmp 28),none⟩,
   ⟨some 30,.cmp .gtr (.tmp 29) (.cst (.d (.int .i64 8))),none⟩,
   ⟨some 31,.call 37 [(.tmp 30),(.cst (.d (.int .i64 5)))],none⟩,
   ⟨some 32,.bsl 1 43 1 2 [(.int .i64 0),(.int .i64 0)] [(0,(.tmp 26)),(1,(.tmp 31))],none⟩,
   ⟨some 33,.call 33 [(.tmp 32)],none⟩,
   ⟨some 3,.mov (.tmp 33),none⟩] [(0,18),(1,18),(2,18),(3,18),(4,18),(5,18),(6,18),(7,18),(8,18),(9,18),(10,18),(11,18),(12,18),(13,18),(14,18),(15,18),(16,18),(17,18),(0,19),(1,19),(2,19),(3,19),(4,19),(5,19),(6,19),(7,19),(8,19),(9,19),(10,19),(11,19),(12,19),(13,19),(14,19),(15,19),(16,19),(17,19),(0,20),(1,20),(2,20),(3,20),(4,20),(5,20),(6,20),(7,20),(8,20),(9,20),(10,20),(11,20),(12,20),(13,20),(14,20),(15,20),(16,20),(17,20),(0,21),(1,21),(2,21),(3,21),(4,21),(5,21),(6,21),(7,21),(8,21),(9,21),(10,21),(11,21),(12,21),(13,21),(14,21),(15,21),(16,21),(17,21)])
  (.seq
   (.reg [] [⟨some 34,.mov (.tmp 3),none⟩,
    ⟨some 35,.cmp .neq (.tmp 34) (.cst (.d (.int .i64 0))),none⟩])
   (.cond (.tmp 35)
   (.seq
    (.reg [] [⟨some 36,.mov (.tmp 3),none⟩,
     ⟨some 2,.mov (.tmp 36),none⟩])
    .ret)
   .skip)))
  (.seq
  (.reg [2] [⟨some 37,.mkm 2,none⟩,
   ⟨some 4,.mov (.tmp 37),none⟩])
  (.seq
   (.reg [] [⟨some 5,.mov (.cst (.d (.int .i64 0))),none⟩])
   (.seq
   (.seq
    (.reg [] [⟨some 38,.fad 2 (.tmp 1),none⟩,
     ⟨some 39,.ld false 1 (.tmp 38),none⟩,
     ⟨some 40,.len (.tmp 39),none⟩,
     ⟨some 41,.mov (.cst (.d (.int .i64 0))),none⟩])
    (.post [] [0,1,2,3,4]
    (.block 0
     (.keep [4,5,39,40,41] [0,1,2]
     seg80))))
   (.seq
    (.reg [] [⟨some 2,.mov (.cst (.d (.int .i64 0))),none⟩])
    .ret))))))⟩
theorem c126 (n:Nm):CallDet Tryz.prog 35 [.d (.str n)] [.int .i64 (bif !(isNm n) then 8 else 0)]:=by
 have c147_:=c147 n
 refine call_of_vc (x:=jr126) (by kernel_rfl) rfl ?_
 refine ca c147_ ?_
 refine ca (c92 _ _) ?_
 exact rfl
structure Kol where
 k:Nat
 l:Int
theorem v80 {s : Sw} (hl : s.os.length ≤ 1048576) {Q : AExit → St → Prop} (hR : ∀ st, endP [.tmp 2] [.int .i64 (odsE s.os [] 0)] st → Q .ret st)
  (hN:odsE s.os [] 0=0→∀ K last b,Q (.exit 0) ⟨[(4,.mp 2),(5,.d (.int .i64 (last))),(39,.d (.slice 2 (ods s.os))),(40,.d (.int .i64 (((ods s.os).length:Nat):Int))),(41,.d (.int .i64 (((s.os.length:Nat):Int)))),(42,.d (.bool b))],[.none,.none,.mapo (KM (K)),.none,.none]⟩):vc Tryz.prog 72 seg80 ⟨[(4,.mp 2),(5,.d (.int .i64 (0))),(39,.d (.slice 2 (ods s.os))),(40,.d (.int .i64 (((ods s.os).length:Nat):Int))),(41,.d (.int .i64 (0)))],[.none,.none,.mapo (KM ([])),.none,.none]⟩ Q:=by
 have hlen:=ods_len s.os
 unfold seg80
 refine loop_st (fun k:Nat=>⟨[(4,.mp 2),(5,.d (.int .i64 (lastT s.os k))),(39,.d (.slice 2 (ods s.os))),(40,.d (.int .i64 (((ods s.os).length:Nat):Int))),(41,.d (.int .i64 ((k:Nat))))],[.none,.none,.mapo (KM (nmsO (s.os.take k))),.none,.none]⟩) (fun k=>k≤s.os.length∧odsE s.os [] 0=odsE (s.os.drop k) (nmsO (s.os.take k)) (lastT s.os k)) (fun k=>s.os.length - k) 0 rfl ⟨Nat.zero_le _,rfl⟩ ?_
 rintro k ⟨hk,hi⟩
 have hk:k≤s.os.length:=hk
 dsimp only
 by_cases hkn:k < s.os.length
 ·refine Exists.elim (get_lt s.os hkn) fun o hx=>?_
  have hx1:=ods_at hx
  have hlt:=lastT_at hx
  have hsn:=nmsO_snoc hx
  rw [drop_at hx,odsE] at hi
  have c126_:=c126 o.o
  have c112_:=c112 o.t
  have hky:keysOk none (KM (nmsO (s.os.take k)))=true:=keys_names2 _
  have hlk:=lk1 o.o (nmsO (s.os.take k))
  have c90_:CallDet Tryz.prog 33 [.d (.slice 1 [.int .i64 (bif !(isNm o.o) then 8 else 0),.int .i64 (bif (nmsO (s.os.take k)).contains o.o then 9 else 0),.int .i64 (within3 o.t 0 100000000),.int .i64 (bif decide (o.t < lastT s.os k) then 11 else 0)])] [.int .i64 (odE o (nmsO (s.os.take k)) (lastT s.os k))]:=c90 [bif !(isNm o.o) then 8 else 0,bif (nmsO (s.os.take k)).contains o.o then 9 else 0,within3 o.t 0 100000000,bif decide (o.t < lastT s.os k) then 11 else 0] (by simp)
  by_cases h0:odE o (nmsO (s.os.take k)) (lastT s.os k)=0
  ·rw [h0] at hi c90_
   have hc:(nmsO (s.os.take k)).contains o.o=false:=by
    have h:=firstOf_zero h0 (bif (nmsO (s.os.take k)).contains o.o then 9 else 0) (by simp)
    cases e:(nmsO (s.os.take k)).contains o.o with
    | true=>rw [e] at h; cases h
    | false=>rfl
   have hpm:putM (.str o.o) (.bool true) (KM (nmsO (s.os.take k)))=KM (nmsO (s.os.take k)++[o.o]):=putM_names2 o.o _ hc
   have fin:∃ a':Nat,((a'≤s.os.length∧odsE s.os [] 0=odsE (s.os.drop a') (nmsO (s.os.take a')) (lastT s.os a'))∧s.os.length - a' < s.os.length - k)∧(⟨[(4,.mp 2),(5,.d (.int .i64 (o.t))),(39,.d (.slice 2 (ods s.os))),(40,.d (.int .i64 (((ods s.os).length:Nat):Int))),(41,.d (.int .i64 ((k:Int)+1)))],[.none,.none,.mapo (putM (.str o.o) (.bool true) (KM (nmsO (s.os.take k)))),.none,.none]⟩:St)=⟨[(4,.mp 2),(5,.d (.int .i64 (lastT s.os a'))),(39,.d (.slice 2 (ods s.os))),(40,.d (.int .i64 (((ods s.os).length:Nat):Int))),(41,.d (.int .i64 ((a':Nat))))],[.none,.none,.mapo (KM (nmsO (s.os.take a'))),.none,.none]⟩:=⟨k+1,⟨⟨by omega,by rw [hi,hsn,hlt]; rfl⟩,by omega⟩,by rw [hpm,hsn,hlt]; rfl⟩
   refine sd ?_
   refine b_lt (fun t1=>?_) (fun t1=>?_)
   refine ix_at hx1 ?_ ?_
   (show (0:Int)≤(↑k:Int); omega)
   refine ca c126_ ?_
   rotate_left
   (exfalso; omega)
   refine Exists.intro [Data.bool ((nmsO (s.os.take k)).contains o.o),Data.bool ((nmsO (s.os.take k)).contains o.o)] (And.intro ⟨rfl,hky,hlk⟩ ?_)
   refine ca (c92 _ _) ?_
   refine ca c112_ ?_
   refine sd ?_
   refine ca (c92 _ _) ?_
   refine sd ?_
   refine sd ?_
   refine ca c90_ ?_
   refine sd ?_
   refine an ?_ ?_
   refine an ?_ ?_
   exact rfl
   assumption
   refine ar_add ?_ ?_
   refine an ?_ ?_
   (show (-9223372036854775808:Int)≤(↑k:Int)+(1:Int); omega)
   (show (↑k:Int)+(1:Int)≤(9223372036854775807:Int); omega)
   rotate_left
   all_goals exact fin
  ·rw [bne_t h0] at hi
   have hi:odsE s.os [] 0=odE o (nmsO (s.os.take k)) (lastT s.os k):=hi
   rw [hi] at hR
   refine sd ?_
   refine b_lt (fun t1=>?_) (fun t1=>?_)
   refine ix_at hx1 ?_ ?_
   (show (0:Int)≤(↑k:Int); omega)
   refine ca c126_ ?_
   rotate_left
   (exfalso; omega)
   refine Exists.intro [Data.bool ((nmsO (s.os.take k)).contains o.o),Data.bool ((nmsO (s.os.take k)).contains o.o)] (And.intro ⟨rfl,hky,hlk⟩ ?_)
   refine ca (c92 _ _) ?_
   refine ca c112_ ?_
   refine sd ?_
   refine ca (c92 _ _) ?_
   refine sd ?_
   refine sd ?_
   refine ca c90_ ?_
   refine sd ?_
   refine b_ne (fun t2=>?_) (fun t2=>?_)
   rotate_left
   (exfalso; omega)
   refine hR _ ?_
   exact rfl
 ·rw [List.drop_eq_nil_of_le (by omega)] at hi
  have hi:odsE s.os [] 0=0:=hi
  have e:k=s.os.length:=by omega
  have hN:=hN hi
  subst e
  refine sd ?_
  refine b_lt (fun t1=>?_) (fun t1=>?_)
  (exfalso; omega)
  rotate_left
  exact hN _ _ _
theorem c80 (s:Sw) (hl:s.os.length≤1048576):CallDet Tryz.prog 34 [.d (.agg [.bool s.on,.bool s.rd,.slice 2 (ods s.os)])] [.int .i64 (ckS s)]:=by
 have hlen:=ods_len s.os
 have c90_:CallDet Tryz.prog 33 [.d (.slice 1 [.int .i64 (bif (bif s.on then s.rd else decide ((0:Int) < (((ods s.os).length:Nat):Int))) then 22 else 0),.int .i64 (bif decide ((8:Int) < (((ods s.os).length:Nat):Int)) then 5 else 0)])] [.int .i64 (swF s)]:=c90 [bif (bif s.on then s.rd else decide ((0:Int) < (((ods s.os).length:Nat):Int))) then 22 else 0,bif decide ((8:Int) < (((ods s.os).length:Nat):Int)) then 5 else 0] (by simp)
 by_cases hF:swF s=0
 ·rw [hF] at c90_
  rw [ckS_0 hF]
  have h:=firstOf_zero hF (bif (bif s.on then s.rd else decide ((0:Int) < (((ods s.os).length:Nat):Int))) then 22 else 0) (by simp)
  have h8:=firstOf_zero hF (bif decide ((8:Int) < (((ods s.os).length:Nat):Int)) then 5 else 0) (by simp)
  have h8:¬ (8:Int) < (((ods s.os).length:Nat):Int):=fun e=>by rw [decide_eq_true e] at h8; cases h8
  cases e1:s.on with
  | true =>
   cases e2:s.rd with
   | true=>rw [e1,e2] at h; cases h
   | false =>
    rw [e1,e2] at c90_
    refine call_of_vc (x:=jr80) (by kernel_rfl) rfl ?_
    refine sd ?_
    refine ca (c92 _ _) ?_
    refine sd ?_
    refine ca (c92 _ _) ?_
    refine sd ?_
    refine sd ?_
    refine ca c90_ ?_
    refine sd ?_
    rotate_left
    refine v80 hl (fun st h=>h) (fun h K last b=>?_)
    rw [h]
    exact rfl
  | false =>
   rw [e1] at h
   have h0:¬ (0:Int) < (((ods s.os).length:Nat):Int):=fun e=>by rw [decide_eq_true e] at h; cases h
   rw [e1] at c90_
   refine call_of_vc (x:=jr80) (by kernel_rfl) rfl ?_
   refine sd ?_
   refine sd ?_
   refine ca (c92 _ _) ?_
   refine sd ?_
   refine ca (c92 _ _) ?_
   refine sd ?_
   refine sd ?_
   refine ca c90_ ?_
   refine sd ?_
   rotate_left
   refine v80 hl (fun st h=>h) (fun h K last b=>?_)
   rw [h]
   exact rfl
 ·rw [ckS_f hF]
  cases e1:s.on with
  | true =>
   cases e2:s.rd with
   | true =>
    rw [e1,e2] at c90_
    refine call_of_vc (x:=jr80) (by kernel_rfl) rfl ?_
    refine sd ?_
    refine ca (c92 _ _) ?_
    refine sd ?_
    refine ca (c92 _ _) ?_
    refine sd ?_
    refine sd ?_
    refine ca c90_ ?_
    refine sd ?_
    refine b_ne (fun t1=>?_) (fun t1=>?_)
    exact rfl
    (exfalso; omega)
   | false =>
    rw [e1,e2] at c90_
    refine call_of_vc (x:=jr80) (by kernel_rfl) rfl ?_
    refine sd ?_
    refine ca (c92 _ _) ?_
    refine sd ?_
    refine ca (c92 _ _) ?_
    refine sd ?_
    refine sd ?_
    refine ca c90_ ?_
    refine sd ?_
    refine b_ne (fun t1=>?_) (fun t1=>?_)
    exact rfl
    (exfalso; omega)
  | false =>
   rw [e1] at c90_
   refine call_of_vc (x:=jr80) (by kernel_rfl) rfl ?_
   refine sd ?_
   refine sd ?_
   refine ca (c92 _ _) ?_
   refine sd ?_
   refine ca (c92 _ _) ?_
   refine sd ?_
   refine sd ?_
   refine ca c90_ ?_
   refine sd ?_
   refine b_ne (fun t1=>?_) (fun t1=>?_)
   exact rfl
   (exfalso; omega)
end Vc.L
