import Derived.Test.YtokkgdokamjnaaaGreatG12
import Derived.Test.YtokkgdokamjnaaaGreatG19
import Derived.Test.YtokkgdokamjnaaaGreatG18
set_option linter.unusedSectionVars false
set_option linter.unusedVariables false
set_option linter.unusedSimpArgs false
set_option maxRecDepth 10000
set_option maxHeartbeats 4000000
namespace Vc
open Go Go.Proofs
def jr4:AFun:=⟨24,1,[.tmp 2],
 (.seq
 (.reg [0] [⟨some 1,.cbx 0 2 (.tmp 0),none⟩,
  ⟨some 2,.mov (.cst (.d (.bool false))),none⟩])
 (.seq
  (.reg [] [⟨some 3,.fad 0 (.tmp 1),none⟩,
   ⟨some 4,.ld false 1 (.tmp 3),none⟩,
   ⟨some 5,.len (.tmp 4),none⟩,
   ⟨some 6,.cmp .geq (.tmp 5) (.cst (.d (.int .i64 1))),none⟩,
   ⟨some 7,.mov (.tmp 6),none⟩,
   ⟨some 8,.fad 0 (.tmp 1),some (7,true)⟩,
   ⟨some 9,.ld false 1 (.tmp 8),some (7,true)⟩,
   ⟨some 10,.len (.tmp 9),some (7,true)⟩,
   ⟨some 11,.cmp .leq (.tmp 10) (.cst (.d (.int .i64 7))),some (7,true)⟩,
   ⟨some 12,.pick (.tmp 7) (.tmp 11) (.cst (.d (.bool false))),none⟩,
   ⟨some 13,.mov (.tmp 12),none⟩,
   ⟨some 14,.fad 1 (.tmp 1),some (13,true)⟩,
   ⟨some 15,.ld false 1 (.tmp 14),some (13,true)⟩,
   ⟨some 16,.len (.tmp 15),some (13,true)⟩,
   ⟨some 17,.cmp .leq (.tmp 16) (.cst (.d (.int .i64 14))),some (13,true)⟩,
   ⟨some 18,.pick (.tmp 13) (.tmp 17) (.cst (.d (.bool false))),none⟩,
   ⟨some 19,.mov (.tmp 18),none⟩,
   ⟨some 20,.ld true 2 (.tmp 1),some (19,true)⟩,
   ⟨some 21,.call 17 [(.tmp 20)],some (19,true)⟩,
   ⟨some 22,.cmp .eql (.tmp 21) (.cst (.d (.int .i64 0))),some (19,true)⟩,
   ⟨some 23,.pick (.tmp 19) (.tmp 22) (.cst (.d (.bool false))),none⟩,
   ⟨some 2,.mov (.tmp 23),none⟩])
  .ret))⟩
def jr14:AFun:=⟨26,0,[.tmp 4],
 (.seq
 (.reg [] [⟨some 4,.mov (.cst (.d (.bool false))),none⟩])
 (.seq
  (.seq
  (.reg [] [⟨some 6,.mov (.tmp 0),none⟩,
   ⟨some 7,.len (.tmp 6),none⟩,
   ⟨some 8,.mov (.tmp 1),none⟩,
   ⟨some 9,.len (.tmp 8),none⟩,
   ⟨some 10,.cmp .neq (.tmp 7) (.tmp 9),none⟩])
  (.cond (.tmp 10)
   (.seq
   (.reg [] [⟨some 4,.mov (.cst (.d (.bool false))),none⟩])
   .ret)
   .skip))
  (.seq
  (.seq
   (.reg [] [⟨some 5,.mov (.cst (.d (.int .i64 0))),none⟩])
   (.post [] []
   (.block 0
    (.keep [0,1,5] []
    (.loop
     (.post [0,1,5] []
     (.seq
      (.seq
      (.reg [] [⟨some 11,.mov (.tmp 5),none⟩,
       ⟨some 12,.mov (.tmp 0),none⟩,
       ⟨some 13,.len (.tmp 12),none⟩,
       ⟨some 14,.cmp .lss (.tmp 11) (.tmp 13),none⟩])
      (.cond (.tmp 14)
       .skip
       (.exit 0)))
      (.seq
      (.block 1
       (.seq
       (.regd [] [⟨some 17,.mov (.tmp 0),none⟩,
        ⟨some 18,.mov (.tmp 5),none⟩,
        ⟨some 19,.ixa 1 (.tmp 17) (.tmp 18),none⟩,
        ⟨some 20,.ld false 1 (.tmp 19),none⟩,
        ⟨some 21,.mov (.tmp 1),none⟩,
        ⟨some 22,.mov (.tmp 5),none⟩,
        ⟨some 23,.ixa 1 (.tmp 21) (.tmp 22),none⟩,
        ⟨some 24,.ld false 1 (.tmp 23),none⟩,
        ⟨some 25,.seq true (.tmp 20) (.tmp 24),none⟩] [(0,1),(0,4),(1,4),(2,4),(3,4),(0,5),(1,5),(2,5),(3,5),(4,5),(0,6),(1,6),(2,6),(3,6),(0,7),(1,7),(2,7),(3,7)])
       (.cond (.tmp 25)
        (.seq
        (.reg [] [⟨some 4,.mov (.cst (.d (.bool false))),none⟩])
        .ret)
        .skip)))
      (.reg [] [⟨some 15,.mov (.tmp 5),none⟩,
       ⟨some 16,.arith .add .i64 (.tmp 15) (.cst (.d (.int .i64 1))),none⟩,
       ⟨some 5,.mov (.tmp 16),none⟩])))))))))
  (.seq
   (.reg [] [⟨some 4,.mov (.cst (.d (.bool true))),none⟩])
   .ret))))⟩
def fewT (m:Ms):Bool:=decide (1≤(m.ns.length:Int))&&(decide ((m.ns.length:Int)≤7)&&(decide ((m.ls.length:Int)≤14)&&(m.chk==0)))
theorem k4 (m:Ms) (hn:m.ns.length≤1048576) (hl:m.ls.length≤1048576):CallDet Tryz.prog 4 [.d m.d] [.bool (fewT m)]:=by
 have hsl:=strs_len m.ns
 have hll:=lks_len m.ls
 refine call_of_vc (x:=jr4) (by kernel_rfl) rfl ?_
 have c17_:=c22 m hn hl
 have fin:∀ b,b=fewT m→resV [.bool b]=resV [.bool (fewT m)]:=fun b h=>by rw [h]
 by_cases h1:1≤(m.ns.length:Int)
 ·by_cases h2:(m.ns.length:Int)≤7
  ·by_cases h3:(m.ls.length:Int)≤14
   ·have ef:fewT m=(m.chk==0):=by unfold fewT; rw [decide_eq_true h1,decide_eq_true h2,decide_eq_true h3]; rfl
    refine sd ?_
    refine b_le (fun t1=>?_) (fun t1=>?_)
    refine sd ?_
    refine b_le (fun t2=>?_) (fun t2=>?_)
    refine sd ?_
    refine b_le (fun t3=>?_) (fun t3=>?_)
    refine ca c17_ ?_
    refine sd ?_
    rotate_left
    (exfalso; omega)
    (exfalso; omega)
    (exfalso; omega)
    all_goals exact fin _ ef.symm
   ·have ef:fewT m=false:=by unfold fewT; rw [decide_eq_true h1,decide_eq_true h2,decide_eq_false h3]; rfl
    refine sd ?_
    refine b_le (fun t1=>?_) (fun t1=>?_)
    refine sd ?_
    refine b_le (fun t2=>?_) (fun t2=>?_)
    refine sd ?_
    refine b_le (fun t3=>?_) (fun t3=>?_)
    (exfalso; omega)
    refine sd ?_
    rotate_left
    (exfalso; omega)
    (exfalso; omega)
    all_goals exact fin _ ef.symm
  ·have ef:fewT m=false:=by unfold fewT; rw [decide_eq_true h1,decide_eq_false h2]; rfl
   refine sd ?_
   refine b_le (fun t1=>?_) (fun t1=>?_)
   refine sd ?_
   refine b_le (fun t2=>?_) (fun t2=>?_)
   (exfalso; omega)
   refine sd ?_
   refine sd ?_
   rotate_left
   (exfalso; omega)
   all_goals exact fin _ ef.symm
 ·have ef:fewT m=false:=by unfold fewT; rw [decide_eq_false h1]; rfl
  refine sd ?_
  refine b_le (fun t1=>?_) (fun t1=>?_)
  (exfalso; omega)
  refine sd ?_
  refine sd ?_
  refine sd ?_
  rotate_left
  all_goals exact fin _ ef.symm
theorem few_t {m:Ms} (h:fewT m=true):(1≤m.ns.length∧m.ns.length≤7)∧m.ls.length≤14∧m.chk=0:=by
 unfold fewT at h
 simp only [Bool.and_eq_true,decide_eq_true_eq,beq_iff_eq] at h
 omega
theorem k14 (w:List (List UInt8)) (hl:w.length≤1048576):CallDet Tryz.prog 14 [.d (.slice 1 (strs w)),.d (.slice 1 (strs w))] [.bool true]:=by
 have hlen:(strs w).length=w.length:=List.length_map _
 refine call_of_vc (x:=jr14) (by kernel_rfl) rfl ?_
 refine sd ?_
 refine b_ne (fun t1=>?_) (fun t1=>?_)
 (exfalso; omega)
 rotate_left
 refine loop_st (fun k:Nat=>⟨[(0,.d (.slice 1 (strs w))),(1,.d (.slice 1 (strs w))),(5,.d (.int .i64 ((k:Nat))))],[]⟩) (fun k=>k≤w.length) (fun k=>w.length - k) 0 rfl (Nat.zero_le _) ?_
 intro k hk
 have hk:k≤w.length:=hk
 by_cases hkn:k < w.length
 ·refine Exists.elim (get_lt w hkn) fun x hx=>?_
  have hx1:=strs_at hx
  have fin:∃ a':Nat,(a'≤w.length∧w.length - a' < w.length - k)∧(⟨[(0,.d (.slice 1 (strs w))),(1,.d (.slice 1 (strs w))),(5,.d (.int .i64 ((k:Int)+1)))],[]⟩:St)=⟨[(0,.d (.slice 1 (strs w))),(1,.d (.slice 1 (strs w))),(5,.d (.int .i64 ((a':Nat))))],[]⟩:=⟨k+1,⟨by omega,by omega⟩,rfl⟩
  refine sd ?_
  refine b_lt (fun t2=>?_) (fun t2=>?_)
  refine ix_at hx1 ?_ ?_
  (show (0:Int)≤(↑k:Int); omega)
  refine ix_at hx1 ?_ ?_
  (show (0:Int)≤(↑k:Int); omega)
  refine b_intro (fun t3=>?_) (fun t3=>?_)
  replace t3:(x != x)=true:=t3
  rotate_left
  replace t3:(x != x)=false:=t3
  refine ar_add ?_ ?_
  refine an ?_ ?_
  (show (-9223372036854775808:Int)≤(↑k:Int)+(1:Int); omega)
  (show (↑k:Int)+(1:Int)≤(9223372036854775807:Int); omega)
  rotate_left
  (exfalso; omega)
  all_goals first | exact fin | (simp at t1; done) | (simp at t2; done) | (simp at t3; done)
 ·refine sd ?_
  refine b_lt (fun t2=>?_) (fun t2=>?_)
  (exfalso; omega)
  exact rfl
theorem rem_i {a:Int} {b:Nat} (h:0≤a) (hb:1≤b):∃ i:Nat,arithF .rem .i64 a (b:Int)=some (i:Int)∧i < b:=by
 refine ⟨(a % (b:Int)).toNat,?_,?_⟩
 ·simp only [arithF]
  rw [if_neg (by omega),Int.tmod_eq_emod_of_nonneg h]
  have:=Int.emod_nonneg a (show (b:Int)≠0 by omega)
  congr 1
  omega
 ·have h1:=Int.emod_nonneg a (show (b:Int)≠0 by omega)
  have h2:=Int.emod_lt_of_pos a (show (0:Int) < b by omega)
  omega
theorem wru {x:Int} (h:0≤x) (h2:x≤4294967295):IntKind.wrap .i64 x=x:=IntWalk.i64_in _ (by omega)
def lo8 (l:List (Int × Int)):List Data:=l.map fun x=>.agg [.int .u8 x.1,.int .u8 x.2]
theorem lo8_len (l:List (Int × Int)):(lo8 l).length=l.length:=List.length_map _
theorem lo8_at {l:List (Int × Int)} {k:Nat} {x:Int × Int} (h:l[k]?=some x):(lo8 l)[((k:Int)).toNat]?=some (.agg [.int .u8 x.1,.int .u8 x.2]):=by
 show (l.map _)[k]?=_
 rw [List.getElem?_map,h]; rfl
def loP (K:Int) (l:List (Int × Int)):List (Int × Int):=l.map fun x=>(IntKind.wrap .i64 x.1 % K,IntKind.wrap .i64 x.2 % K)
theorem loP_len (K:Int) (l:List (Int × Int)):(loP K l).length=l.length:=List.length_map _
theorem loP_step {K:Int} {l:List (Int × Int)} {k:Nat} {x:Int × Int} (h:l[k]?=some x):prs (loP K (l.take (k+1)))=prs (loP K (l.take k))++[Data.agg [.int .i64 (IntKind.wrap .i64 x.1 % K),.int .i64 (IntKind.wrap .i64 x.2 % K)]]:=by
 unfold prs loP
 rw [take_one h,List.map_append,List.map_append]; rfl
def B8 (l:List (Int × Int)):Prop:=∀ x∈l,(0≤x.1∧x.1≤255)∧0≤x.2∧x.2≤255
theorem loP_E {m:Ms} {l:List (Int × Int)} (hn:1≤m.ns.length) (hl:l.length≤6):pairsE m (loP (((strs m.ns).length:Nat):Int) l)=0:=by
 unfold pairsE
 rw [loP_len,decide_eq_false (by omega)]
 show firstOf ((loP _ l).map (pairE m))=0
 have hs:=strs_len m.ns
 have one:∀ z:Int,m.nodeE (z % (((strs m.ns).length:Nat):Int))=0:=fun z=>by
  have h1:=Int.emod_nonneg z (show (((strs m.ns).length:Nat):Int)≠0 by omega)
  have h2:=Int.emod_lt_of_pos z (show (0:Int) < (((strs m.ns).length:Nat):Int) by omega)
  unfold Ms.nodeE outN
  rw [decide_eq_false (by omega),decide_eq_false (by omega)]; rfl
 clear hl
 induction l with
 | nil=>rfl
 | cons x r ih =>
  show firstOf (pairE m (_,_)::(loP _ r).map (pairE m))=0
  have e:pairE m (IntKind.wrap .i64 x.1 % (((strs m.ns).length:Nat):Int),IntKind.wrap .i64 x.2 % (((strs m.ns).length:Nat):Int))=0:=by
   unfold pairE; rw [one,one]; rfl
  rw [e]
  exact ih
theorem fl_at {m:Ms} {P:List (Int × Int)} {f mi:Nat} (hc:m.chk=0) (hP:pairsE m P=0) (hf:f < m.ns.length) (hm:mi < m.ns.length):floodE m f P=0∧(ints (m.floodsP P f)).length=m.ns.length∧∃ w,(ints (m.floodsP P f))[((mi:Nat):Int).toNat]?=some (.int .i64 w)∧-1≤w∧w < m.ns.length:=by
 have hE:floodE m f P=0:=by
  rw [floodE_0 hc]
  have:m.nodeE f=0:=by
   unfold Ms.nodeE outN
   rw [decide_eq_false (by omega),decide_eq_false (by omega)]; rfl
  rw [this,hP]; rfl
 have e:m.floodsP P f=m.floods P f:=by unfold Ms.floodsP; rw [hE]; rfl
 have hl:=floods_len m P f
 refine ⟨hE,by rw [e]; unfold ints; rw [List.length_map,hl],lvl m.ns.length (gL m P) f m.ns.length mi,?_,(lvl_rng _ _).1,?_⟩
 ·rw [e]
  show ((m.floods P f).map _)[mi]?=_
  unfold Ms.floods lvls
  rw [List.getElem?_map,List.getElem?_map,List.getElem?_range hm]
  rfl
 ·have h1:=(lvl_rng (n:=m.ns.length) (g:=gL m P) (f:=f) m.ns.length mi).2
  have h2:=lvl_top (n:=m.ns.length) (g:=gL m P) hf mi hm
  omega
def gridW:List UInt8:=[103,114,105,100]
def salesW:List UInt8:=[115,97,108,101,115]
def osF (b0 b1:Bool) (t0 t1:Int):List L.Od:=(bif b0 then [⟨gridW,t0⟩] else [])++(bif b1 then [⟨salesW,t1⟩] else [])
theorem wi0 {t:Int} (h:0≤t∧t≤100000000):L.within3 t 0 100000000=0:=by
 unfold L.within3
 rw [decide_eq_false (by omega),decide_eq_false (by omega)]; rfl
theorem osF_ck (b0 b1:Bool) {t0 t1:Int} (h0:0≤t0∧t0≤100000000) (h1:0≤t1∧t1≤100000000) (h:t0≤t1):L.ckS ⟨true,false,osF b0 b1 t0 t1⟩=0:=by
 cases b0 <;> cases b1
 ·rfl
 ·show (bif L.odE ⟨salesW,t1⟩ [] 0 != 0 then L.odE ⟨salesW,t1⟩ [] 0 else 0)=0
  have e:L.odE ⟨salesW,t1⟩ [] 0=0:=by
   show L.firstOf [0,0,L.within3 t1 0 100000000,bif decide (t1 < 0) then 11 else 0]=0
   rw [wi0 h1,decide_eq_false (by omega)]; rfl
  rw [e]; rfl
 ·show (bif L.odE ⟨gridW,t0⟩ [] 0 != 0 then L.odE ⟨gridW,t0⟩ [] 0 else 0)=0
  have e:L.odE ⟨gridW,t0⟩ [] 0=0:=by
   show L.firstOf [0,0,L.within3 t0 0 100000000,bif decide (t0 < 0) then 11 else 0]=0
   rw [wi0 h0,decide_eq_false (by omega)]; rfl
  rw [e]; rfl
 ·show (bif L.odE ⟨gridW,t0⟩ [] 0 != 0 then L.odE ⟨gridW,t0⟩ [] 0 else (bif L.odE ⟨salesW,t1⟩ [gridW] t0 != 0 then L.odE ⟨salesW,t1⟩ [gridW] t0 else 0))=0
  have e:L.odE ⟨gridW,t0⟩ [] 0=0:=by
   show L.firstOf [0,0,L.within3 t0 0 100000000,bif decide (t0 < 0) then 11 else 0]=0
   rw [wi0 h0,decide_eq_false (by omega)]; rfl
  have e2:L.odE ⟨salesW,t1⟩ [gridW] t0=0:=by
   show L.firstOf [0,0,L.within3 t1 0 100000000,bif decide (t1 < t0) then 11 else 0]=0
   rw [wi0 h1,decide_eq_false (by omega)]; rfl
  rw [e,e2]; rfl
theorem osF_len (b0 b1:Bool) (t0 t1:Int):(osF b0 b1 t0 t1).length≤2:=by cases b0 <;> cases b1 <;> simp [osF]
def frI (b:Bool) (now F t:Int):Int:=bif b&&decide (now - t≤F) then 1 else 0
theorem osF_few (b0 b1:Bool) (t0 t1 now F:Int):L.few ⟨true,false,osF b0 b1 t0 t1⟩ now F=decide (frI b0 now F t0+frI b1 now F t1 < 2):=by
 unfold L.few frI
 cases b0 <;> cases b1
 ·rfl
 ·show decide ((bif decide (now - t1≤F) then (0:Int)+1 else 0) < 2)=decide (0+(bif decide (now - t1≤F) then (1:Int) else 0) < 2)
  cases decide (now - t1≤F) <;> rfl
 ·show decide ((bif decide (now - t0≤F) then (0:Int)+1 else 0) < 2)=decide ((bif decide (now - t0≤F) then (1:Int) else 0)+0 < 2)
  cases decide (now - t0≤F) <;> rfl
 ·show decide ((bif decide (now - t1≤F) then (bif decide (now - t0≤F) then (0:Int)+1 else 0)+1 else (bif decide (now - t0≤F) then (0:Int)+1 else 0)) < 2)=decide ((bif decide (now - t0≤F) then (1:Int) else 0)+(bif decide (now - t1≤F) then (1:Int) else 0) < 2)
  cases decide (now - t0≤F) <;> cases decide (now - t1≤F) <;> rfl
theorem or_ok {os:List L.Od} {n:List UInt8} {t:Int} (hc:L.ckS ⟨true,false,os⟩=0) (hn:L.isNm n=true) (ht:0≤t∧t≤100000000) (hl:L.lst ⟨true,false,os⟩≤t) (h8:os.length≤2) (hk:L.keepO n os=os):CallDet Tryz.prog 9 [.d (.agg [.bool true,.bool false,.slice 2 (L.ods os)]),.d (.str n),.d (.int .i64 t)] [.agg [.bool true,.bool false,.slice 2 (L.ods (os++[⟨n,t⟩]))],.int .i64 0]:=by
 have z:=L.c70 ⟨true,false,os⟩ n t (by show os.length≤_; omega)
 have e1:L.or0 ⟨true,false,os⟩ n t=0:=by
  show L.firstOf [L.firstOf [L.ckS ⟨true,false,os⟩,bif !(L.isNm n) then 8 else 0],L.within3 t 0 100000000]=0
  rw [hc,hn,wi0 ht]; rfl
 have hol:(L.ods os).length=os.length:=List.length_map _
 have e2:L.orE ⟨true,false,os⟩ n t=0:=by
  show L.firstOf [0,bif decide (t < L.lst ⟨true,false,os⟩) then 11 else 0,bif decide (8≤(((L.ods (L.keepO n os)).length:Nat):Int)) then 5 else 0]=0
  rw [hk,decide_eq_false (by omega),decide_eq_false (by omega)]; rfl
 rw [e1,e2] at z
 have z:CallDet Tryz.prog 9 [.d (.agg [.bool true,.bool false,.slice 2 (L.ods os)]),.d (.str n),.d (.int .i64 t)] [.agg [.bool true,.bool false,.slice 2 (L.ods (L.keepO n os++[⟨n,t⟩]))],.int .i64 0]:=z
 rw [hk] at z
 exact z
end Vc
set_option maxRecDepth 10000
set_option maxHeartbeats 4000000
namespace Vc
open Go Go.Proofs
@[irreducible] def seg3a:ACode :=
 (.loop
 (.post [1,3,5,7,8,9,10,11,81,82,83] [2,3,4]
 (.seq
 (.reg [] [⟨some 84,.cmp .lss (.tmp 83) (.tmp 82),none⟩])
 (.seq
 (.cond (.tmp 84)
 .skip
 (.exit 0))
 (.seq
 (.block 1
 (.seq
 (.reg [2] [⟨some 85,.ixa 2 (.tmp 81) (.tmp 83),none⟩,
 ⟨some 86,.ld true 2 (.tmp 85),none⟩,
 ⟨some 13,.alloc 2 [(.d (.int .u8 0)),(.d (.int .u8 0))],none⟩,
 ⟨none,.st 2 (.tmp 13) (.tmp 86),none⟩])
 (.regd [3,4] [⟨some 87,.mov (.tmp 11),none⟩,
 ⟨some 88,.ixp 2 1 (.tmp 13) (.cst (.d (.int .i64 0))),none⟩,
 ⟨some 89,.ld false 1 (.tmp 88),none⟩,
 ⟨some 90,.conv .i64 (.tmp 89),none⟩,
 ⟨some 91,.mov (.tmp 7),none⟩,
 ⟨some 92,.arith .rem .i64 (.tmp 90) (.tmp 91),none⟩,
 ⟨some 93,.ixp 2 1 (.tmp 13) (.cst (.d (.int .i64 1))),none⟩,
 ⟨some 94,.ld false 1 (.tmp 93),none⟩,
 ⟨some 95,.conv .i64 (.tmp 94),none⟩,
 ⟨some 96,.mov (.tmp 7),none⟩,
 ⟨some 97,.arith .rem .i64 (.tmp 95) (.tmp 96),none⟩,
 ⟨some 98,.build [(.d (.int .i64 0)),(.d (.int .i64 0))] [(0,1,(.tmp 92)),(1,1,(.tmp 97))],none⟩,
 ⟨some 99,.bsl 3 38 2 1 [(.agg [(.int .i64 0),(.int .i64 0)])] [(0,(.tmp 98))],none⟩,
 ⟨some 100,.app 4 38 2 16 (.tmp 87) (.tmp 99),none⟩,
 ⟨some 11,.mov (.tmp 100),none⟩] [(0,1),(0,2),(0,3),(0,4),(1,4),(2,4),(3,4),(0,5),(0,6),(1,6),(2,6),(3,6),(4,6),(5,6),(0,7),(1,7),(2,7),(3,7),(4,7),(5,7),(0,8),(1,8),(2,8),(3,8),(4,8),(5,8),(0,9),(1,9),(2,9),(3,9),(4,9),(5,9),(6,9),(7,9),(8,9),(0,10),(1,10),(2,10),(3,10),(4,10),(5,10),(0,11),(0,12)])))
 (.reg [] [⟨some 101,.arith .add .i64 (.tmp 83) (.cst (.d (.int .i64 1))),none⟩,
 ⟨some 83,.mov (.tmp 101),none⟩]))))))
@[irreducible] def seg3b:ACode :=
 (.loop
 (.post [1,3,5,7,8,9,10,11,14,15,104] [7,8]
 (.seq
 (.reg [] [⟨some 105,.cmp .lss (.tmp 104) (.cst (.d (.int .i64 2))),none⟩])
 (.seq
 (.cond (.tmp 105)
 .skip
 (.exit 2))
 (.seq
 (.block 3
 (.seq
 (.reg [] [⟨some 106,.mov (.tmp 104),none⟩,
 ⟨some 16,.mov (.tmp 106),none⟩])
 (.seq
 (.regd [7,8] [⟨some 108,.ld true 2 (.tmp 3),none⟩,
 ⟨some 109,.call 8 [(.tmp 108)],none⟩,
 ⟨some 110,.mov (.tmp 16),none⟩,
 ⟨some 111,.fad 0 (.tmp 5),none⟩,
 ⟨some 112,.ixp 3 1 (.tmp 111) (.tmp 110),none⟩,
 ⟨some 113,.ld false 1 (.tmp 112),none⟩,
 ⟨some 114,.conv .i64 (.tmp 113),none⟩,
 ⟨some 115,.mov (.tmp 7),none⟩,
 ⟨some 116,.arith .rem .i64 (.tmp 114) (.tmp 115),none⟩,
 ⟨some 117,.bsl 7 38 2 0 [] [],none⟩,
 ⟨some 118,.mov (.tmp 11),none⟩,
 ⟨some 119,.app 8 38 2 16 (.tmp 117) (.tmp 118),none⟩,
 ⟨some 120,.call 7 [(.tmp 109),(.tmp 116),(.tmp 119)],none⟩,
 ⟨some 107,.mov (.tmp 120),none⟩,
 ⟨some 121,.ext 0 (.tmp 107),none⟩,
 ⟨some 122,.ext 1 (.tmp 107),none⟩,
 ⟨some 123,.ext 2 (.tmp 107),none⟩,
 ⟨some 17,.mov (.tmp 121),none⟩,
 ⟨some 18,.mov (.tmp 122),none⟩,
 ⟨some 19,.mov (.tmp 123),none⟩] [(0,2),(1,2),(0,3),(1,3),(2,3),(0,4),(1,4),(0,5),(1,5),(0,6),(1,6),(0,7),(1,7),(2,7),(3,7),(4,7),(5,7),(6,7),(0,8),(1,8),(0,9),(1,9),(2,9),(3,9),(4,9),(5,9),(6,9),(7,9),(8,9),(0,10),(1,10),(2,10),(3,10),(4,10),(5,10),(6,10),(7,10),(8,10),(9,10),(2,11),(3,11),(4,11),(5,11),(6,11),(7,11),(8,11),(14,15),(14,16),(15,16),(15,17),(16,17),(16,18)])
 (.seq
 (.seq
 (.reg [] [⟨some 124,.mov (.tmp 19),none⟩,
 ⟨some 125,.cmp .neq (.tmp 124) (.cst (.d (.int .i64 0))),none⟩,
 ⟨some 126,.mov (.tmp 125),none⟩,
 ⟨some 127,.mov (.tmp 17),some (126,false)⟩,
 ⟨some 128,.len (.tmp 127),some (126,false)⟩,
 ⟨some 129,.mov (.tmp 7),some (126,false)⟩,
 ⟨some 130,.cmp .neq (.tmp 128) (.tmp 129),some (126,false)⟩,
 ⟨some 131,.pick (.tmp 126) (.cst (.d (.bool true))) (.tmp 130),none⟩,
 ⟨some 132,.mov (.tmp 131),none⟩,
 ⟨some 133,.mov (.tmp 17),some (132,false)⟩,
 ⟨some 134,.mov (.tmp 8),some (132,false)⟩,
 ⟨some 135,.ixa 1 (.tmp 133) (.tmp 134),some (132,false)⟩,
 ⟨some 136,.ld false 1 (.tmp 135),some (132,false)⟩,
 ⟨some 137,.cmp .lss (.tmp 136) (.cst (.d (.int .i64 (-1)))),some (132,false)⟩,
 ⟨some 138,.pick (.tmp 132) (.cst (.d (.bool true))) (.tmp 137),none⟩,
 ⟨some 139,.mov (.tmp 138),none⟩,
 ⟨some 140,.mov (.tmp 17),some (139,false)⟩,
 ⟨some 141,.mov (.tmp 8),some (139,false)⟩,
 ⟨some 142,.ixa 1 (.tmp 140) (.tmp 141),some (139,false)⟩,
 ⟨some 143,.ld false 1 (.tmp 142),some (139,false)⟩,
 ⟨some 144,.mov (.tmp 7),some (139,false)⟩,
 ⟨some 145,.cmp .geq (.tmp 143) (.tmp 144),some (139,false)⟩,
 ⟨some 146,.pick (.tmp 139) (.cst (.d (.bool true))) (.tmp 145),none⟩])
 (.cond (.tmp 146)
 (.seq
 (.reg [] [⟨some 6,.mov (.cst (.d (.bool false))),none⟩])
 .ret)
 .skip))
 (.seq
 (.reg [] [⟨some 147,.mov (.tmp 17),none⟩,
 ⟨some 148,.mov (.tmp 8),none⟩,
 ⟨some 149,.ixa 1 (.tmp 147) (.tmp 148),none⟩,
 ⟨some 150,.ld false 1 (.tmp 149),none⟩,
 ⟨some 151,.cmp .geq (.tmp 150) (.cst (.d (.int .i64 0))),none⟩])
 (.cond (.tmp 151)
 (.reg [] [⟨some 152,.mov (.tmp 16),none⟩,
 ⟨some 153,.mov (.tmp 9),none⟩,
 ⟨some 154,.mov (.tmp 7),none⟩,
 ⟨some 155,.mov (.tmp 16),none⟩,
 ⟨some 156,.arith .mul .i64 (.tmp 154) (.tmp 155),none⟩,
 ⟨some 157,.mov (.tmp 17),none⟩,
 ⟨some 158,.mov (.tmp 8),none⟩,
 ⟨some 159,.ixa 1 (.tmp 157) (.tmp 158),none⟩,
 ⟨some 160,.ld false 1 (.tmp 159),none⟩,
 ⟨some 161,.arith .add .i64 (.tmp 156) (.tmp 160),none⟩,
 ⟨some 162,.arith .mul .i64 (.cst (.d (.int .i64 100))) (.tmp 161),none⟩,
 ⟨some 163,.arith .add .i64 (.tmp 153) (.tmp 162),none⟩,
 ⟨some 164,.ixp 2 1 (.tmp 15) (.tmp 152),none⟩,
 ⟨none,.st 1 (.tmp 164) (.tmp 163),none⟩])
 .skip))))))
 (.reg [] [⟨some 165,.arith .add .i64 (.tmp 104) (.cst (.d (.int .i64 1))),none⟩,
 ⟨some 104,.mov (.tmp 165),none⟩]))))))
@[irreducible] def seg3c:ACode :=
 (.loop
 (.post [1,5,7,9,10,14,15,20,166,167] [9]
 (.seq
 (.reg [] [⟨some 168,.cmp .lss (.tmp 167) (.cst (.d (.int .i64 2))),none⟩])
 (.seq
 (.cond (.tmp 168)
 .skip
 (.exit 4))
 (.seq
 (.block 5
 (.seq
 (.reg [] [⟨some 169,.mov (.tmp 167),none⟩,
 ⟨some 170,.ixv false 2 1 (.tmp 166) (.tmp 167),none⟩,
 ⟨some 21,.mov (.tmp 169),none⟩,
 ⟨some 22,.mov (.tmp 170),none⟩])
 (.seq
 (.seq
 (.reg [] [⟨some 171,.mov (.tmp 21),none⟩,
 ⟨some 172,.ixp 2 1 (.tmp 15) (.tmp 171),none⟩,
 ⟨some 173,.ld false 1 (.tmp 172),none⟩,
 ⟨some 174,.cmp .lss (.tmp 173) (.cst (.d (.int .i64 0))),none⟩])
 (.cond (.tmp 174)
 (.exit 5)
 .skip))
 (.seq
 (.regd [9] [⟨some 176,.ld true 3 (.tmp 14),none⟩,
 ⟨some 177,.mov (.tmp 22),none⟩,
 ⟨some 178,.mov (.tmp 21),none⟩,
 ⟨some 179,.ixp 2 1 (.tmp 15) (.tmp 178),none⟩,
 ⟨some 180,.ld false 1 (.tmp 179),none⟩,
 ⟨some 181,.call 9 [(.tmp 176),(.tmp 177),(.tmp 180)],none⟩,
 ⟨some 175,.mov (.tmp 181),none⟩,
 ⟨some 182,.ext 0 (.tmp 175),none⟩,
 ⟨some 183,.ext 1 (.tmp 175),none⟩,
 ⟨some 23,.alloc 9 [(.d (.bool false)),(.d (.bool false)),(.d (.slice 2 []))],none⟩,
 ⟨none,.st 3 (.tmp 23) (.tmp 182),none⟩,
 ⟨some 24,.mov (.tmp 183),none⟩] [(0,1),(0,2),(1,2),(0,3),(1,3),(0,4),(1,4),(7,8),(0,9),(1,9),(2,9),(3,9),(4,9),(5,9),(6,9),(7,9),(8,9),(8,10)])
 (.seq
 (.reg [] [⟨some 184,.mov (.tmp 20),none⟩,
 ⟨some 185,.arith .add .i64 (.tmp 184) (.cst (.d (.int .i64 1))),none⟩,
 ⟨some 20,.mov (.tmp 185),none⟩])
 (.seq
 (.seq
 (.reg [] [⟨some 186,.mov (.tmp 24),none⟩,
 ⟨some 187,.cmp .neq (.tmp 186) (.cst (.d (.int .i64 0))),none⟩,
 ⟨some 188,.mov (.tmp 187),none⟩,
 ⟨some 189,.fad 2 (.tmp 23),some (188,false)⟩,
 ⟨some 190,.ld false 1 (.tmp 189),some (188,false)⟩,
 ⟨some 191,.len (.tmp 190),some (188,false)⟩,
 ⟨some 192,.mov (.tmp 20),some (188,false)⟩,
 ⟨some 193,.cmp .neq (.tmp 191) (.tmp 192),some (188,false)⟩,
 ⟨some 194,.pick (.tmp 188) (.cst (.d (.bool true))) (.tmp 193),none⟩])
 (.cond (.tmp 194)
 (.seq
 (.reg [] [⟨some 6,.mov (.cst (.d (.bool false))),none⟩])
 .ret)
 .skip))
 (.reg [] [⟨some 195,.ld true 3 (.tmp 23),none⟩,
 ⟨none,.st 3 (.tmp 14) (.tmp 195),none⟩])))))))
 (.reg [] [⟨some 196,.arith .add .i64 (.tmp 167) (.cst (.d (.int .i64 1))),none⟩,
 ⟨some 167,.mov (.tmp 196),none⟩]))))))
@[irreducible] def seg3d:ACode :=
 (.loop
 (.post [1,10,14,25,26,206,207] []
 (.seq
 (.reg [] [⟨some 208,.cmp .lss (.tmp 207) (.cst (.d (.int .i64 2))),none⟩])
 (.seq
 (.cond (.tmp 208)
 .skip
 (.exit 6))
 (.seq
 (.block 7
 (.seq
 (.reg [] [⟨some 209,.ixv false 2 1 (.tmp 206) (.tmp 207),none⟩,
 ⟨some 28,.mov (.tmp 209),none⟩])
 (.seq
 (.reg [] [⟨some 210,.mov (.tmp 28),none⟩,
 ⟨some 211,.cmp .geq (.tmp 210) (.cst (.d (.int .i64 0))),none⟩,
 ⟨some 212,.mov (.tmp 211),none⟩,
 ⟨some 213,.mov (.tmp 25),some (212,true)⟩,
 ⟨some 214,.mov (.tmp 28),some (212,true)⟩,
 ⟨some 215,.arith .sub .i64 (.tmp 213) (.tmp 214),some (212,true)⟩,
 ⟨some 216,.mov (.tmp 10),some (212,true)⟩,
 ⟨some 217,.cmp .leq (.tmp 215) (.tmp 216),some (212,true)⟩,
 ⟨some 218,.pick (.tmp 212) (.tmp 217) (.cst (.d (.bool false))),none⟩])
 (.cond (.tmp 218)
 (.reg [] [⟨some 219,.mov (.tmp 26),none⟩,
 ⟨some 220,.arith .add .i64 (.tmp 219) (.cst (.d (.int .i64 1))),none⟩,
 ⟨some 26,.mov (.tmp 220),none⟩])
 .skip))))
 (.reg [] [⟨some 221,.arith .add .i64 (.tmp 207) (.cst (.d (.int .i64 1))),none⟩,
 ⟨some 207,.mov (.tmp 221),none⟩]))))))
@[irreducible] def rest3d:ACode :=
 (.seq
        (.reg [] [⟨some 223,.mov (.tmp 1),none⟩,
         ⟨some 224,.call 11 [(.tmp 223)],none⟩,
         ⟨some 225,.mov (.tmp 25),none⟩,
         ⟨some 226,.call 10 [(.tmp 224),(.tmp 225)],none⟩,
         ⟨some 222,.mov (.tmp 226),none⟩,
         ⟨some 227,.ext 0 (.tmp 222),none⟩,
         ⟨some 228,.ext 1 (.tmp 222),none⟩,
         ⟨some 29,.mov (.tmp 227),none⟩,
         ⟨some 30,.mov (.tmp 228),none⟩])
        (.seq
         (.regd [10,11,12] [⟨some 229,.fad 0 (.tmp 14),none⟩,
          ⟨some 230,.ld false 1 (.tmp 229),none⟩,
          ⟨some 231,.bsl 10 113 2 0 [] [],none⟩,
          ⟨some 232,.fad 2 (.tmp 14),none⟩,
          ⟨some 233,.ld false 1 (.tmp 232),none⟩,
          ⟨some 234,.app 11 113 2 24 (.tmp 231) (.tmp 233),none⟩,
          ⟨some 235,.build [(.d (.bool false)),(.d (.bool false)),(.d (.slice 2 []))] [(0,1,(.tmp 230)),(2,1,(.tmp 234))],none⟩,
          ⟨some 31,.alloc 12 [(.d (.bool false)),(.d (.bool false)),(.d (.slice 2 []))],none⟩,
          ⟨none,.st 3 (.tmp 31) (.tmp 235),none⟩] [(0,2),(1,2),(0,3),(1,3),(2,3),(0,4),(1,4),(2,4),(0,5),(1,5),(0,7),(1,7),(2,7),(3,7),(4,7),(5,7),(6,7)])
         (.seq
         (.regd [] [⟨some 237,.ld true 3 (.tmp 31),none⟩,
          ⟨some 238,.mov (.tmp 1),none⟩,
          ⟨some 239,.call 11 [(.tmp 238)],none⟩,
          ⟨some 240,.mov (.tmp 25),none⟩,
          ⟨some 241,.mov (.tmp 10),none⟩,
          ⟨some 242,.call 12 [(.tmp 237),(.tmp 239),(.tmp 240),(.tmp 241)],none⟩,
          ⟨some 236,.mov (.tmp 242),none⟩,
          ⟨some 243,.ext 0 (.tmp 236),none⟩,
          ⟨some 244,.ext 1 (.tmp 236),none⟩,
          ⟨some 32,.mov (.tmp 243),none⟩,
          ⟨some 33,.mov (.tmp 244),none⟩] [(0,1),(0,2),(0,3),(1,3),(2,3),(0,4),(1,4),(2,4),(3,4),(7,8),(8,9)])
         (.seq
          (.regd [13] [⟨some 246,.ld true 3 (.tmp 14),none⟩,
           ⟨some 247,.mov (.tmp 1),none⟩,
           ⟨some 248,.call 11 [(.tmp 247)],none⟩,
           ⟨some 249,.mov (.tmp 25),none⟩,
           ⟨some 250,.mov (.tmp 10),none⟩,
           ⟨some 251,.call 13 [(.tmp 246),(.tmp 248),(.tmp 249),(.tmp 250)],none⟩,
           ⟨some 245,.mov (.tmp 251),none⟩,
           ⟨some 252,.ext 0 (.tmp 245),none⟩,
           ⟨some 253,.ext 1 (.tmp 245),none⟩,
           ⟨some 34,.alloc 13 [(.d (.bool false)),(.d (.bool false)),(.d (.slice 2 []))],none⟩,
           ⟨none,.st 3 (.tmp 34) (.tmp 252),none⟩,
           ⟨some 35,.mov (.tmp 253),none⟩] [(0,1),(0,2),(0,3),(1,3),(2,3),(0,4),(1,4),(2,4),(3,4),(7,8),(0,9),(1,9),(2,9),(3,9),(4,9),(5,9),(6,9),(7,9),(8,9),(8,10)])
          (.seq
          (.seq
           (.reg [] [⟨some 254,.mov (.tmp 30),none⟩,
            ⟨some 255,.cmp .neq (.tmp 254) (.cst (.d (.int .i64 0))),none⟩,
            ⟨some 256,.mov (.tmp 255),none⟩,
            ⟨some 257,.mov (.tmp 33),some (256,false)⟩,
            ⟨some 258,.cmp .neq (.tmp 257) (.cst (.d (.int .i64 0))),some (256,false)⟩,
            ⟨some 259,.pick (.tmp 256) (.cst (.d (.bool true))) (.tmp 258),none⟩])
           (.cond (.tmp 259)
           (.seq
            (.reg [] [⟨some 6,.mov (.cst (.d (.bool false))),none⟩])
            .ret)
           .skip))
          (.seq
           (.reg [] [⟨some 36,.mov (.cst (.nils 1)),none⟩])
           (.seq
           (.seq
            (.reg [] [⟨some 260,.mov (.tmp 29),none⟩])
            (.cond (.tmp 260)
            (.reg [14,15] [⟨some 261,.mov (.tmp 36),none⟩,
             ⟨some 262,.bsl 14 9 1 1 [(.str [])] [(0,(.cst (.d (.str [112,114,111,116,101,99,116,101,100]))))],none⟩,
             ⟨some 263,.app 15 9 1 16 (.tmp 261) (.tmp 262),none⟩,
             ⟨some 36,.mov (.tmp 263),none⟩])
            .skip))
           (.seq
            (.seq
            (.reg [] [⟨some 264,.mov (.tmp 26),none⟩,
             ⟨some 265,.cmp .lss (.tmp 264) (.cst (.d (.int .i64 2))),none⟩])
            (.cond (.tmp 265)
             (.reg [16,17] [⟨some 266,.mov (.tmp 36),none⟩,
              ⟨some 267,.bsl 16 9 1 1 [(.str [])] [(0,(.cst (.d (.str [111,102,102,105,99,101,115]))))],none⟩,
              ⟨some 268,.app 17 9 1 16 (.tmp 266) (.tmp 267),none⟩,
              ⟨some 36,.mov (.tmp 268),none⟩])
             .skip))
            (.seq
            (.seq
             (.reg [] [⟨some 269,.mov (.tmp 32),none⟩,
              ⟨some 270,.mov (.tmp 36),none⟩,
              ⟨some 271,.call 14 [(.tmp 269),(.tmp 270)],none⟩,
              ⟨some 272,.not (.tmp 271),none⟩,
              ⟨some 273,.mov (.tmp 272),none⟩,
              ⟨some 274,.mov (.tmp 35),some (273,false)⟩,
              ⟨some 275,.cmp .eql (.tmp 274) (.cst (.d (.int .i64 0))),some (273,false)⟩,
              ⟨some 276,.mov (.tmp 36),some (273,false)⟩,
              ⟨some 277,.len (.tmp 276),some (273,false)⟩,
              ⟨some 278,.cmp .eql (.tmp 277) (.cst (.d (.int .i64 0))),some (273,false)⟩,
              ⟨some 279,.beq true (.tmp 275) (.tmp 278),some (273,false)⟩,
              ⟨some 280,.pick (.tmp 273) (.cst (.d (.bool true))) (.tmp 279),none⟩])
             (.cond (.tmp 280)
             (.seq
              (.reg [] [⟨some 6,.mov (.cst (.d (.bool false))),none⟩])
              .ret)
             .skip))
            (.seq
             (.seq
             (.reg [] [⟨some 281,.mov (.tmp 35),none⟩,
              ⟨some 282,.cmp .neq (.tmp 281) (.cst (.d (.int .i64 0))),none⟩])
             (.cond (.tmp 282)
              (.seq
              (.reg [] [⟨some 283,.mov (.tmp 35),none⟩,
               ⟨some 284,.cmp .eql (.tmp 283) (.cst (.d (.int .i64 31))),none⟩,
               ⟨some 285,.mov (.tmp 29),none⟩,
               ⟨some 286,.beq false (.tmp 284) (.tmp 285),none⟩,
               ⟨some 287,.mov (.tmp 286),none⟩,
               ⟨some 288,.mov (.tmp 29),some (287,true)⟩,
               ⟨some 289,.mov (.tmp 288),some (287,true)⟩,
               ⟨some 290,.mov (.tmp 35),some (289,false)⟩,
               ⟨some 291,.cmp .eql (.tmp 290) (.cst (.d (.int .i64 30))),some (289,false)⟩,
               ⟨some 292,.pick (.tmp 289) (.cst (.d (.bool true))) (.tmp 291),some (287,true)⟩,
               ⟨some 293,.pick (.tmp 287) (.tmp 292) (.cst (.d (.bool false))),none⟩,
               ⟨some 294,.mov (.tmp 293),none⟩,
               ⟨some 295,.call 6 [],some (294,true)⟩,
               ⟨some 296,.pick (.tmp 294) (.tmp 295) (.cst (.d (.bool false))),none⟩,
               ⟨some 6,.mov (.tmp 296),none⟩])
              .ret)
              .skip))
             (.seq
             (.reg [18] [⟨some 298,.ld true 3 (.tmp 34),none⟩,
              ⟨some 299,.call 15 [(.tmp 298)],none⟩,
              ⟨some 297,.mov (.tmp 299),none⟩,
              ⟨some 300,.ext 0 (.tmp 297),none⟩,
              ⟨some 301,.ext 1 (.tmp 297),none⟩,
              ⟨some 37,.alloc 18 [(.d (.bool false)),(.d (.bool false)),(.d (.slice 2 []))],none⟩,
              ⟨none,.st 3 (.tmp 37) (.tmp 300),none⟩,
              ⟨some 38,.mov (.tmp 301),none⟩])
             (.seq
              (.reg [19] [⟨some 303,.ld true 3 (.tmp 34),none⟩,
               ⟨some 304,.call 16 [(.tmp 303)],none⟩,
               ⟨some 302,.mov (.tmp 304),none⟩,
               ⟨some 305,.ext 0 (.tmp 302),none⟩,
               ⟨some 306,.ext 1 (.tmp 302),none⟩,
               ⟨some 39,.alloc 19 [(.d (.bool false)),(.d (.bool false)),(.d (.slice 2 []))],none⟩,
               ⟨none,.st 3 (.tmp 39) (.tmp 305),none⟩,
               ⟨some 40,.mov (.tmp 306),none⟩])
              (.seq
              (.reg [20] [⟨some 308,.ld true 3 (.tmp 39),none⟩,
               ⟨some 309,.call 15 [(.tmp 308)],none⟩,
               ⟨some 307,.mov (.tmp 309),none⟩,
               ⟨some 310,.ext 0 (.tmp 307),none⟩,
               ⟨some 311,.ext 1 (.tmp 307),none⟩,
               ⟨some 41,.alloc 20 [(.d (.bool false)),(.d (.bool false)),(.d (.slice 2 []))],none⟩,
               ⟨none,.st 3 (.tmp 41) (.tmp 310),none⟩,
               ⟨some 42,.mov (.tmp 311),none⟩])
              (.seq
               (.reg [] [⟨some 312,.mov (.tmp 38),none⟩,
                ⟨some 313,.cmp .eql (.tmp 312) (.cst (.d (.int .i64 29))),none⟩,
                ⟨some 314,.mov (.tmp 313),none⟩,
                ⟨some 315,.mov (.tmp 40),some (314,true)⟩,
                ⟨some 316,.cmp .eql (.tmp 315) (.cst (.d (.int .i64 0))),some (314,true)⟩,
                ⟨some 317,.pick (.tmp 314) (.tmp 316) (.cst (.d (.bool false))),none⟩,
                ⟨some 318,.mov (.tmp 317),none⟩,
                ⟨some 319,.mov (.tmp 42),some (318,true)⟩,
                ⟨some 320,.cmp .eql (.tmp 319) (.cst (.d (.int .i64 0))),some (318,true)⟩,
                ⟨some 321,.pick (.tmp 318) (.tmp 320) (.cst (.d (.bool false))),none⟩,
                ⟨some 322,.mov (.tmp 321),none⟩,
                ⟨some 323,.fad 0 (.tmp 34),some (322,true)⟩,
                ⟨some 324,.ld false 1 (.tmp 323),some (322,true)⟩,
                ⟨some 325,.not (.tmp 324),some (322,true)⟩,
                ⟨some 326,.pick (.tmp 322) (.tmp 325) (.cst (.d (.bool false))),none⟩,
                ⟨some 327,.mov (.tmp 326),none⟩,
                ⟨some 328,.fad 0 (.tmp 41),some (327,true)⟩,
                ⟨some 329,.ld false 1 (.tmp 328),some (327,true)⟩,
                ⟨some 330,.pick (.tmp 327) (.tmp 329) (.cst (.d (.bool false))),none⟩,
                ⟨some 331,.mov (.tmp 330),none⟩,
                ⟨some 332,.fad 2 (.tmp 41),some (331,true)⟩,
                ⟨some 333,.ld false 1 (.tmp 332),some (331,true)⟩,
                ⟨some 334,.len (.tmp 333),some (331,true)⟩,
                ⟨some 335,.cmp .eql (.tmp 334) (.cst (.d (.int .i64 0))),some (331,true)⟩,
                ⟨some 336,.pick (.tmp 331) (.tmp 335) (.cst (.d (.bool false))),none⟩,
                ⟨some 337,.mov (.tmp 336),none⟩,
                ⟨some 338,.call 6 [],some (337,true)⟩,
                ⟨some 339,.pick (.tmp 337) (.tmp 338) (.cst (.d (.bool false))),none⟩,
                ⟨some 6,.mov (.tmp 339),none⟩])
               .ret))))))))))))))
@[irreducible] def rest3c:ACode :=
 (.seq
       (.reg [] [⟨some 197,.mov (.tmp 9),none⟩,
        ⟨some 198,.mov (.tmp 7),none⟩,
        ⟨some 199,.arith .mul .i64 (.cst (.d (.int .i64 200))) (.tmp 198),none⟩,
        ⟨some 200,.arith .add .i64 (.tmp 197) (.tmp 199),none⟩,
        ⟨some 201,.fad 4 (.tmp 5),none⟩,
        ⟨some 202,.ld false 1 (.tmp 201),none⟩,
        ⟨some 203,.conv .i64 (.tmp 202),none⟩,
        ⟨some 204,.arith .rem .i64 (.tmp 203) (.cst (.d (.int .i64 2001))),none⟩,
        ⟨some 205,.arith .add .i64 (.tmp 200) (.tmp 204),none⟩,
        ⟨some 25,.mov (.tmp 205),none⟩])
       (.seq
       (.reg [] [⟨some 26,.mov (.cst (.d (.int .i64 0))),none⟩])
       (.seq
        (.seq
        (.reg [] [⟨some 206,.ld true 2 (.tmp 15),none⟩,
         ⟨some 207,.mov (.cst (.d (.int .i64 0))),none⟩])
        (.post [1,10,14,25,26] [0,1,2,3,4,5,6,7,8,9]
         (.block 6
         (.keep [1,10,14,25,26,206,207] [0,1,2,3,4,5,6,7,8,9]
          seg3d))))
        rest3d)))
@[irreducible] def rest3b:ACode :=
 (.seq
      (.reg [] [⟨some 20,.mov (.cst (.d (.int .i64 0))),none⟩])
      (.seq
      (.seq
       (.reg [] [⟨some 166,.build [(.d (.str [])),(.d (.str []))] [(0,1,(.cst (.d (.str [103,114,105,100])))),(1,1,(.cst (.d (.str [115,97,108,101,115]))))],none⟩,
        ⟨some 167,.mov (.cst (.d (.int .i64 0))),none⟩])
       (.post [1,5,7,9,10,14,15] [0,1,2,3,4,5,6,7,8,9]
       (.block 4
        (.keep [1,5,7,9,10,14,15,20,166,167] [0,1,2,3,4,5,6,7,8]
        seg3c))))
      rest3c))
@[irreducible] def rest3a:ACode :=
 (.seq
    (.reg [5] [⟨some 102,.build [(.d (.bool false)),(.d (.bool false)),(.d (.slice 2 []))] [(0,1,(.cst (.d (.bool true))))],none⟩,
     ⟨some 14,.alloc 5 [(.d (.bool false)),(.d (.bool false)),(.d (.slice 2 []))],none⟩,
     ⟨none,.st 3 (.tmp 14) (.tmp 102),none⟩])
    (.seq
     (.reg [6] [⟨some 103,.build [(.d (.int .i64 0)),(.d (.int .i64 0))] [(0,1,(.cst (.d (.int .i64 (-1))))),(1,1,(.cst (.d (.int .i64 (-1)))))],none⟩,
      ⟨some 15,.alloc 6 [(.d (.int .i64 0)),(.d (.int .i64 0))],none⟩,
      ⟨none,.st 2 (.tmp 15) (.tmp 103),none⟩])
     (.seq
     (.seq
      (.reg [] [⟨some 104,.mov (.cst (.d (.int .i64 0))),none⟩])
      (.post [1,5,7,9,10,14,15] [0,1,2,3,4,5,6,7,8]
      (.block 2
       (.keep [1,3,5,7,8,9,10,11,14,15,104] [0,1,2,3,4,5,6]
       seg3b))))
     rest3b)))
def fO {α:Type} (a b c:α) (i:Nat):α:=match i with
 | 0=>a
 | 1=>b
 | _=>c
theorem v3a {m:Ms} {H:List L.Hr} {xs:List (Int × Int)} {n0 n1 n2 T0 la f0:Int} {mi T F:Nat} {Q:AExit→St→Prop} (hn1:1≤m.ns.length) (hn7:m.ns.length≤7) (hB:B8 xs) (hxl:xs.length≤6) (hQ:∀ z:Bool,Q (.exit 0) ⟨[(1,.d (.slice 9 (L.hrs H))),(3,.ptr 0 0),(5,.ptr 1 0),(7,.d (.int .i64 (((strs m.ns).length:Nat):Int))),(8,.d (.int .i64 ((mi:Nat):Int))),(9,.d (.int .i64 ((T:Nat):Int))),(10,.d (.int .i64 ((F:Nat):Int))),(11,.sl 4 (prs (loP (((strs m.ns).length:Nat):Int) xs)).length),(81,.d (.slice 2 (lo8 xs))),(82,.d (.int .i64 (((lo8 xs).length:Nat):Int))),(83,.d (.int .i64 (((xs.length:Nat):Int)))),(84,.d (.bool z))],[.cbox [.slice 1 (strs m.ns),.slice 3 (lks m.ls)],.cbox [.int .u8 n0,.int .u8 n1,.int .u8 n2,.int .u32 T0,.int .u16 la,.int .u16 f0,.slice 2 (lo8 xs)],.none,.none,.row 38 2 (prs (loP (((strs m.ns).length:Nat):Int) xs)) false,.none,.none,.none,.none,.none,.none,.none,.none,.none,.none,.none,.none,.none,.none,.none,.none]⟩):vc Tryz.prog 340 seg3a ⟨[(1,.d (.slice 9 (L.hrs H))),(3,.ptr 0 0),(5,.ptr 1 0),(7,.d (.int .i64 (((strs m.ns).length:Nat):Int))),(8,.d (.int .i64 ((mi:Nat):Int))),(9,.d (.int .i64 ((T:Nat):Int))),(10,.d (.int .i64 ((F:Nat):Int))),(11,.sl 4 (([]:List Data)).length),(81,.d (.slice 2 (lo8 xs))),(82,.d (.int .i64 (((lo8 xs).length:Nat):Int))),(83,.d (.int .i64 (0)))],[.cbox [.slice 1 (strs m.ns),.slice 3 (lks m.ls)],.cbox [.int .u8 n0,.int .u8 n1,.int .u8 n2,.int .u32 T0,.int .u16 la,.int .u16 f0,.slice 2 (lo8 xs)],.none,.none,.row 38 2 (([]:List Data)) false,.none,.none,.none,.none,.none,.none,.none,.none,.none,.none,.none,.none,.none,.none,.none,.none]⟩ Q:=by
 unfold seg3a
 have hxx:=lo8_len xs
 have hsl:=strs_len m.ns
 refine loop_st (fun k:Nat=>⟨[(1,.d (.slice 9 (L.hrs H))),(3,.ptr 0 0),(5,.ptr 1 0),(7,.d (.int .i64 (((strs m.ns).length:Nat):Int))),(8,.d (.int .i64 ((mi:Nat):Int))),(9,.d (.int .i64 ((T:Nat):Int))),(10,.d (.int .i64 ((F:Nat):Int))),(11,.sl 4 (prs (loP (((strs m.ns).length:Nat):Int) (xs.take k))).length),(81,.d (.slice 2 (lo8 xs))),(82,.d (.int .i64 (((lo8 xs).length:Nat):Int))),(83,.d (.int .i64 (((k:Nat):Int))))],[.cbox [.slice 1 (strs m.ns),.slice 3 (lks m.ls)],.cbox [.int .u8 n0,.int .u8 n1,.int .u8 n2,.int .u32 T0,.int .u16 la,.int .u16 f0,.slice 2 (lo8 xs)],.none,.none,.row 38 2 (prs (loP (((strs m.ns).length:Nat):Int) (xs.take k))) false,.none,.none,.none,.none,.none,.none,.none,.none,.none,.none,.none,.none,.none,.none,.none,.none]⟩) (fun k=>k≤xs.length) (fun k=>xs.length - k) 0 rfl (Nat.zero_le _) ?_
 intro k hk
 have hk:k≤xs.length:=hk
 have hPl:(prs (loP (((strs m.ns).length:Nat):Int) (xs.take k))).length≤6:=by rw [prs_len,loP_len,List.length_take]; omega
 by_cases hkn:k < xs.length
 ·refine Exists.elim (get_lt xs hkn) fun x hx=>?_
  have hx1:=lo8_at hx
  have hb:=hB x (List.mem_of_getElem? hx)
  have w1:0≤IntKind.wrap .i64 x.1:=by rw [wru (by omega) (by omega)]; omega
  have w2:0≤IntKind.wrap .i64 x.2:=by rw [wru (by omega) (by omega)]; omega
  have fin:∃ a':Nat,(a'≤xs.length∧xs.length - a' < xs.length - k)∧(⟨[(1,.d (.slice 9 (L.hrs H))),(3,.ptr 0 0),(5,.ptr 1 0),(7,.d (.int .i64 (((strs m.ns).length:Nat):Int))),(8,.d (.int .i64 ((mi:Nat):Int))),(9,.d (.int .i64 ((T:Nat):Int))),(10,.d (.int .i64 ((F:Nat):Int))),(11,.sl 4 (prs (loP (((strs m.ns).length:Nat):Int) (xs.take k))++[Data.agg [.int .i64 (IntKind.wrap .i64 x.1 % (((strs m.ns).length:Nat):Int)),.int .i64 (IntKind.wrap .i64 x.2 % (((strs m.ns).length:Nat):Int))]]).length),(81,.d (.slice 2 (lo8 xs))),(82,.d (.int .i64 (((lo8 xs).length:Nat):Int))),(83,.d (.int .i64 ((k:Int)+1)))],[.cbox [.slice 1 (strs m.ns),.slice 3 (lks m.ls)],.cbox [.int .u8 n0,.int .u8 n1,.int .u8 n2,.int .u32 T0,.int .u16 la,.int .u16 f0,.slice 2 (lo8 xs)],.none,.none,.row 38 2 (prs (loP (((strs m.ns).length:Nat):Int) (xs.take k))++[Data.agg [.int .i64 (IntKind.wrap .i64 x.1 % (((strs m.ns).length:Nat):Int)),.int .i64 (IntKind.wrap .i64 x.2 % (((strs m.ns).length:Nat):Int))]]) false,.none,.none,.none,.none,.none,.none,.none,.none,.none,.none,.none,.none,.none,.none,.none,.none]⟩:St)=⟨[(1,.d (.slice 9 (L.hrs H))),(3,.ptr 0 0),(5,.ptr 1 0),(7,.d (.int .i64 (((strs m.ns).length:Nat):Int))),(8,.d (.int .i64 ((mi:Nat):Int))),(9,.d (.int .i64 ((T:Nat):Int))),(10,.d (.int .i64 ((F:Nat):Int))),(11,.sl 4 (prs (loP (((strs m.ns).length:Nat):Int) (xs.take a'))).length),(81,.d (.slice 2 (lo8 xs))),(82,.d (.int .i64 (((lo8 xs).length:Nat):Int))),(83,.d (.int .i64 (((a':Nat):Int))))],[.cbox [.slice 1 (strs m.ns),.slice 3 (lks m.ls)],.cbox [.int .u8 n0,.int .u8 n1,.int .u8 n2,.int .u32 T0,.int .u16 la,.int .u16 f0,.slice 2 (lo8 xs)],.none,.none,.row 38 2 (prs (loP (((strs m.ns).length:Nat):Int) (xs.take a'))) false,.none,.none,.none,.none,.none,.none,.none,.none,.none,.none,.none,.none,.none,.none,.none,.none]⟩:=⟨k+1,⟨by omega,by omega⟩,by rw [loP_step hx]; rfl⟩
  refine sd ?_
  refine b_lt (fun t1=>?_) (fun t1=>?_)
  refine ix_at hx1 ?_ ?_
  (show (0:Int)≤(↑k:Int); omega)
  refine an ?_ ?_
  refine an ?_ ?_
  (show (0:Int)≤(0:Int); omega)
  (show (0:Int) < (↑(2:Nat):Int); omega)
  refine ca rfl ?_
  refine ar_rem ?_ ?_
  refine an ?_ ?_
  assumption
  (show (1:Int)≤(↑(List.length (strs (Ms.ns m))):Int); omega)
  refine an ?_ ?_
  refine an ?_ ?_
  (show (0:Int)≤(1:Int); omega)
  (show (1:Int) < (↑(2:Nat):Int); omega)
  refine ca rfl ?_
  refine ar_rem ?_ ?_
  refine an ?_ ?_
  assumption
  (show (1:Int)≤(↑(List.length (strs (Ms.ns m))):Int); omega)
  refine sd ?_
  refine sd ?_
  refine sd ?_
  refine an ?_ ?_
  refine an ?_ ?_
  exact rfl
  refine an ?_ ?_
  exact rfl
  refine an ?_ ?_
  exact rfl
  refine an ?_ ?_
  (show (List.length (prs (loP (↑(List.length (strs (Ms.ns m))):Int) (List.take k xs)))+(1:Nat)) * (16:Nat)≤(2:Nat) ^ (47:Nat); omega)
  (show List.length (prs (loP (↑(List.length (strs (Ms.ns m))):Int) (List.take k xs)))+(1:Nat)≤(2:Nat) ^ (47:Nat); omega)
  refine ar_add ?_ ?_
  refine an ?_ ?_
  (show (-9223372036854775808:Int)≤(↑k:Int)+(1:Int); omega)
  (show (↑k:Int)+(1:Int)≤(9223372036854775807:Int); omega)
  rotate_left
  (exfalso; omega)
  all_goals exact fin
 ·have e:k=xs.length:=by omega
  rw [e,List.take_of_length_le (Nat.le_refl _)]
  refine sd ?_
  refine b_lt (fun t1=>?_) (fun t1=>?_)
  (exfalso; omega)
  rotate_left
  all_goals exact hQ _
end Vc
