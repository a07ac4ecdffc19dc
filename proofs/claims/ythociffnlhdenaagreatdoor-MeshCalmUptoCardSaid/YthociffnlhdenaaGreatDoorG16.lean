import Derived.Test.YthociffnlhdenaaGreatDoorG14
import Derived.Test.YthociffnlhdenaaGreatDoorG10
set_option linter.unusedSectionVars false
set_option linter.unusedVariables false
set_option linter.unusedSimpArgs false
set_option maxRecDepth 10000
set_option maxHeartbeats 4000000
namespace Vc
open Go Go.Proofs
def ir4:AFun:=⟨87,6,[.tmp 6],
 (.seq
 (.reg [0,1] [⟨some 3,.cbx 0 2 (.tmp 0),none⟩,
 ⟨some 4,.cbx 1 3 (.tmp 1),none⟩,
 ⟨some 6,.mov (.cst (.d (.bool false))),none⟩])
 (.seq
 (.seq
 (.reg [] [⟨some 16,.ld true 2 (.tmp 3),none⟩,
 ⟨some 17,.call 15 [(.tmp 16)],none⟩,
 ⟨some 18,.not (.tmp 17),none⟩,
 ⟨some 19,.mov (.tmp 18),none⟩,
 ⟨some 20,.ld true 3 (.tmp 4),some (19,false)⟩,
 ⟨some 21,.call 30 [(.tmp 20)],some (19,false)⟩,
 ⟨some 22,.not (.tmp 21),some (19,false)⟩,
 ⟨some 23,.pick (.tmp 19) (.cst (.d (.bool true))) (.tmp 22),none⟩])
 (.cond (.tmp 23)
 (.seq
 (.reg [] [⟨some 24,.call 16 [],none⟩,
 ⟨some 6,.mov (.tmp 24),none⟩])
 .ret)
 .skip))
 (.seq
 (.reg [2] [⟨some 26,.ld true 2 (.tmp 3),none⟩,
 ⟨some 27,.call 18 [(.tmp 26)],none⟩,
 ⟨some 28,.mov (.tmp 2),none⟩,
 ⟨some 29,.call 31 [(.tmp 27),(.tmp 28)],none⟩,
 ⟨some 25,.mov (.tmp 29),none⟩,
 ⟨some 30,.ext 0 (.tmp 25),none⟩,
 ⟨some 31,.ext 1 (.tmp 25),none⟩,
 ⟨some 7,.alloc 2 [(.d (.int .i64 0)),(.d (.int .i64 0)),(.nils 3)],none⟩,
 ⟨none,.st 3 (.tmp 7) (.tmp 30),none⟩,
 ⟨some 8,.mov (.tmp 31),none⟩])
 (.seq
 (.regd [3] [⟨some 33,.ld true 2 (.tmp 3),none⟩,
 ⟨some 34,.call 18 [(.tmp 33)],none⟩,
 ⟨some 35,.ld true 3 (.tmp 4),none⟩,
 ⟨some 36,.call 33 [(.tmp 35)],none⟩,
 ⟨some 37,.call 32 [(.tmp 34),(.tmp 36)],none⟩,
 ⟨some 32,.mov (.tmp 37),none⟩,
 ⟨some 38,.ext 0 (.tmp 32),none⟩,
 ⟨some 39,.ext 1 (.tmp 32),none⟩,
 ⟨some 9,.alloc 3 [(.d (.int .i64 0)),(.d (.int .i64 0)),(.nils 3)],none⟩,
 ⟨none,.st 3 (.tmp 9) (.tmp 38),none⟩,
 ⟨some 10,.mov (.tmp 39),none⟩] [(0,2),(1,2),(6,7),(0,8),(1,8),(2,8),(3,8),(4,8),(5,8),(6,8),(7,8),(7,9)])
 (.seq
 (.regd [] [⟨some 40,.ld true 2 (.tmp 3),none⟩,
 ⟨some 41,.call 22 [(.tmp 40)],none⟩,
 ⟨some 42,.ld true 2 (.tmp 3),none⟩,
 ⟨some 43,.ld true 3 (.tmp 4),none⟩,
 ⟨some 44,.call 34 [(.tmp 42),(.tmp 43)],none⟩,
 ⟨some 11,.mov (.tmp 41),none⟩,
 ⟨some 12,.mov (.tmp 44),none⟩] [(0,2),(1,2),(0,3),(1,3),(2,3)])
 (.seq
 (.reg [] [⟨some 45,.mov (.tmp 12),none⟩,
 ⟨some 13,.mov (.tmp 45),none⟩])
 (.seq
 (.reg [4,5] [⟨some 14,.alloc 4 [(.d (.int .i64 0)),(.d (.int .i64 0)),(.nils 3)],none⟩,
 ⟨some 15,.alloc 5 [(.d (.int .i64 0)),(.d (.int .i64 0)),(.nils 3)],none⟩])
 (.seq
 (.seq
 (.reg [] [⟨some 46,.mov (.tmp 11),none⟩,
 ⟨some 47,.cmp .eql (.tmp 46) (.cst (.d (.int .i64 0))),none⟩])
 (.cond (.tmp 47)
 (.reg [] [⟨some 48,.ld true 2 (.tmp 3),none⟩,
 ⟨some 49,.mov (.tmp 2),none⟩,
 ⟨some 50,.call 23 [(.tmp 48),(.tmp 49)],none⟩,
 ⟨some 11,.mov (.tmp 50),none⟩])
 .skip))
 (.seq
 (.seq
 (.reg [] [⟨some 51,.mov (.tmp 11),none⟩,
 ⟨some 52,.cmp .eql (.tmp 51) (.cst (.d (.int .i64 0))),none⟩])
 (.cond (.tmp 52)
 (.reg [] [⟨some 53,.ld true 2 (.tmp 3),none⟩,
 ⟨some 54,.mov (.tmp 2),none⟩,
 ⟨some 55,.call 35 [(.tmp 53),(.tmp 54)],none⟩,
 ⟨none,.st 3 (.tmp 14) (.tmp 55),none⟩])
 .skip))
 (.seq
 (.seq
 (.reg [] [⟨some 56,.mov (.tmp 12),none⟩,
 ⟨some 57,.cmp .eql (.tmp 56) (.cst (.d (.int .i64 0))),none⟩])
 (.cond (.tmp 57)
 (.reg [] [⟨some 59,.ld true 3 (.tmp 4),none⟩,
 ⟨some 60,.call 36 [(.tmp 59)],none⟩,
 ⟨some 58,.mov (.tmp 60),none⟩,
 ⟨some 61,.ext 0 (.tmp 58),none⟩,
 ⟨some 62,.ext 1 (.tmp 58),none⟩,
 ⟨none,.st 3 (.tmp 15) (.tmp 61),none⟩,
 ⟨some 12,.mov (.tmp 62),none⟩])
 .skip))
 (.seq
 (.regd [] [⟨some 63,.ld true 2 (.tmp 3),none⟩,
 ⟨some 64,.call 18 [(.tmp 63)],none⟩,
 ⟨some 65,.ld true 3 (.tmp 4),none⟩,
 ⟨some 66,.call 33 [(.tmp 65)],none⟩,
 ⟨some 67,.call 37 [(.tmp 64),(.tmp 66)],none⟩,
 ⟨some 68,.mov (.tmp 13),none⟩,
 ⟨some 69,.cmp .eql (.tmp 67) (.tmp 68),none⟩,
 ⟨some 70,.mov (.tmp 69),none⟩,
 ⟨some 71,.ld true 3 (.tmp 7),some (70,true)⟩,
 ⟨some 72,.mov (.tmp 8),some (70,true)⟩,
 ⟨some 73,.mov (.tmp 11),some (70,true)⟩,
 ⟨some 74,.ld true 3 (.tmp 14),some (70,true)⟩,
 ⟨some 75,.call 38 [(.tmp 71),(.tmp 72),(.tmp 73),(.tmp 74)],some (70,true)⟩,
 ⟨some 76,.pick (.tmp 70) (.tmp 75) (.cst (.d (.bool false))),none⟩,
 ⟨some 77,.mov (.tmp 76),none⟩,
 ⟨some 78,.ld true 3 (.tmp 9),some (77,true)⟩,
 ⟨some 79,.mov (.tmp 10),some (77,true)⟩,
 ⟨some 80,.mov (.tmp 12),some (77,true)⟩,
 ⟨some 81,.ld true 3 (.tmp 15),some (77,true)⟩,
 ⟨some 82,.call 38 [(.tmp 78),(.tmp 79),(.tmp 80),(.tmp 81)],some (77,true)⟩,
 ⟨some 83,.pick (.tmp 77) (.tmp 82) (.cst (.d (.bool false))),none⟩,
 ⟨some 84,.mov (.tmp 83),none⟩,
 ⟨some 85,.call 16 [],some (84,true)⟩,
 ⟨some 86,.pick (.tmp 84) (.tmp 85) (.cst (.d (.bool false))),none⟩,
 ⟨some 6,.mov (.tmp 86),none⟩] [(0,2),(1,2),(0,5),(1,5),(2,5),(3,5),(4,5),(8,9),(8,10),(9,10),(8,11),(9,11),(10,11),(15,16),(15,17),(16,17),(15,18),(16,18),(17,18)])
 .ret)))))))))))⟩
def ownV2 (s:Sts):Nat→List (Nat × AObj)
 | 0=>[]
 | k+1=>[(2,.box [.d (.int .i64 s.co),.d (.int .i64 s.nu),.sl 5 (ens (s.es.take (k+1))).length]),(5,.row 106 3 (ens (s.es.take (k+1))) false)]
theorem c59 (s:Sts) (hn:s.es.length≤1048576):CallDet Tryz.prog 59 [.d s.d] [s.d]:=by
 have hl:=ens_len s.es
 refine call_of_vc (x:=ir59) (by kernel_rfl) rfl ?_
 rotate_left
 refine loop_u (fun k:Nat=>[(14,.d (.int .i64 k))]) (ownV2 s) (fun k=>k≤s.es.length) (fun k=>s.es.length - k) 0 rfl (Nat.zero_le _) ?_
 intro k hk
 have hk:k≤s.es.length:=hk
 have hx:k < s.es.length→∃ x,s.es[k]?=some x:=fun h=>get_lt _ h
 have fin:∀ X,X=ens s.es→resV [.agg [.int .i64 s.co,.int .i64 s.nu,.slice 3 X]]=resV [s.d]:=fun X h=>by rw [h]; rfl
 by_cases hkk:k < s.es.length
 ·refine Exists.elim (hx hkk) fun x hx=>?_
  have hxd:=ens_at hx
  have e:=ens_snoc hx
  have ht:=ens_len (s.es.take k)
  rw [List.length_take] at ht
  cases k with
  | zero =>
   refine sd ?_
   refine b_lt (fun t1=>?_) (fun t1=>?_)
   refine ix_at hxd ?_ ?_
   (show (0:Int)≤(↑(0:Nat):Int); omega)
   refine sd ?_
   refine sd ?_
   refine sd ?_
   refine an ?_ ?_
   refine an ?_ ?_
   (show (1:Nat) * (24:Nat)≤(2:Nat) ^ (47:Nat); omega)
   (show (1:Nat)≤(2:Nat) ^ (47:Nat); omega)
   refine sd ?_
   refine ar_add ?_ ?_
   refine an ?_ ?_
   (show (-9223372036854775808:Int)≤(↑(0:Nat):Int)+(1:Int); omega)
   (show (↑(0:Nat):Int)+(1:Int)≤(9223372036854775807:Int); omega)
   rotate_left
   (exfalso; omega)
   refine ⟨0+1,⟨by show 0+1≤s.es.length; omega,by show s.es.length - (0+1) < s.es.length - 0; omega⟩,?_⟩
   show _=St.upd _ _ [(2,.box [.d (.int .i64 s.co),.d (.int .i64 s.nu),.sl 5 (ens (s.es.take (0+1))).length]),(5,.row 106 3 (ens (s.es.take (0+1))) false)]
   rw [e]; rfl
  | succ k =>
   refine sd ?_
   refine b_lt (fun t1=>?_) (fun t1=>?_)
   refine ix_at hxd ?_ ?_
   (show (0:Int)≤(↑(k+(1:Nat)):Int); omega)
   refine sd ?_
   refine sd ?_
   refine sd ?_
   refine an ?_ ?_
   refine an ?_ ?_
   exact rfl
   refine an ?_ ?_
   exact rfl
   refine an ?_ ?_
   exact rfl
   refine an ?_ ?_
   (show (List.length (ens (List.take (k+(1:Nat)) (Sts.es s)))+(1:Nat)) * (24:Nat)≤(2:Nat) ^ (47:Nat); omega)
   (show List.length (ens (List.take (k+(1:Nat)) (Sts.es s)))+(1:Nat)≤(2:Nat) ^ (47:Nat); omega)
   refine sd ?_
   refine ar_add ?_ ?_
   refine an ?_ ?_
   (show (-9223372036854775808:Int)≤(↑(k+(1:Nat)):Int)+(1:Int); omega)
   (show (↑(k+(1:Nat)):Int)+(1:Int)≤(9223372036854775807:Int); omega)
   rotate_left
   (exfalso; omega)
   refine ⟨k+1+1,⟨by show k+1+1≤s.es.length; omega,by show s.es.length - (k+1+1) < s.es.length - (k+1); omega⟩,?_⟩
   show _=St.upd _ _ [(2,.box [.d (.int .i64 s.co),.d (.int .i64 s.nu),.sl 5 (ens (s.es.take (k+1+1))).length]),(5,.row 106 3 (ens (s.es.take (k+1+1))) false)]
   rw [e]; rfl
 ·have e:ens (s.es.take k)=ens s.es:=by rw [List.take_of_length_le (by omega)]
  cases k with
  | zero =>
   refine sd ?_
   refine b_lt (fun t1=>?_) (fun t1=>?_)
   (exfalso; omega)
   rotate_left
   exact fin _ e
  | succ k =>
   refine sd ?_
   refine b_lt (fun t1=>?_) (fun t1=>?_)
   (exfalso; omega)
   refine sd ?_
   rotate_left
   exact fin _ e
theorem c69 (s:Sts) (hn:s.es.length≤1048576):CallDet Tryz.prog 69 [.d s.d,.d s.d] [.bool true]:=by
 have hl:=ens_len s.es
 refine call_of_vc (x:=ir69) (by kernel_rfl) rfl ?_
 refine sd ?_
 refine b_ne (fun t1=>?_) (fun t1=>?_)
 (exfalso; omega)
 refine sd ?_
 refine b_ne (fun t2=>?_) (fun t2=>?_)
 (exfalso; omega)
 refine sd ?_
 refine b_ne (fun t3=>?_) (fun t3=>?_)
 (exfalso; omega)
 rotate_left
 refine loop_u (fun k:Nat=>[(5,.d (.int .i64 k))]) (fun k=>[]) (fun k=>k≤s.es.length) (fun k=>s.es.length - k) 0 rfl (Nat.zero_le _) ?_
 intro k hk
 have hk:k≤s.es.length:=hk
 by_cases hkk:k < s.es.length
 ·refine Exists.elim (get_lt s.es hkk) fun x hx=>?_
  have hxd:=ens_at hx
  refine sd ?_
  refine b_lt (fun t4=>?_) (fun t4=>?_)
  refine ix_at hxd ?_ ?_
  (show (0:Int)≤(↑k:Int); omega)
  refine ix_at hxd ?_ ?_
  (show (0:Int)≤(↑k:Int); omega)
  refine ca (Exists.intro _ (And.intro rfl rfl)) ?_
  refine b_intro (fun t5=>?_) (fun t5=>?_)
  replace t5:(!(En.nu x==En.nu x&&(En.di x==En.di x&&(En.ne x==En.ne x&&true))))=true:=t5
  rotate_left
  replace t5:(!(En.nu x==En.nu x&&(En.di x==En.di x&&(En.ne x==En.ne x&&true))))=false:=t5
  refine ar_add ?_ ?_
  refine an ?_ ?_
  (show (-9223372036854775808:Int)≤(↑k:Int)+(1:Int); omega)
  (show (↑k:Int)+(1:Int)≤(9223372036854775807:Int); omega)
  rotate_left
  (exfalso; omega)
  ·exact absurd t5 (by simp)
  ·exact ⟨k+1,⟨by show k+1≤s.es.length; omega,by show s.es.length - (k+1) < s.es.length - k; omega⟩,rfl⟩
 ·refine sd ?_
  refine b_lt (fun t4=>?_) (fun t4=>?_)
  (exfalso; omega)
  exact rfl
theorem c38 (h w:Sts) (e b:Int) (hn:h.es.length≤1048576) (heb:e=b) (he:h=bif b != 0 then Sts.zero else w):CallDet Tryz.prog 38 [.d h.d,.d (.int .i64 e),.d (.int .i64 b),.d w.d] [.bool true]:=by
 subst heb
 refine call_of_vc (x:=ir38) (by kernel_rfl) rfl ?_
 by_cases hz:e=0
 ·have eh:h=w:=by rw [he,hz]; rfl
  clear he
  subst eh
  refine sd ?_
  refine b_ne (fun t1=>?_) (fun t1=>?_)
  (exfalso; omega)
  refine ca (c59 h (by omega)) ?_
  refine ca (c69 h (by omega)) ?_
  refine sd ?_
  rotate_left
  exact congrArg (fun b=>resV [.bool b]) (beq_self_eq_true e)
 ·have eh:h=Sts.zero:=by rw [he,show (e != 0)=true by rw [bne_iff_ne]; exact hz]; rfl
  clear he
  subst eh
  refine sd ?_
  refine b_ne (fun t1=>?_) (fun t1=>?_)
  refine ca (c59 Sts.zero (by decide)) ?_
  refine ca (c69 Sts.zero (by decide)) ?_
  refine sd ?_
  rotate_left
  (exfalso; omega)
  exact congrArg (fun b=>resV [.bool b]) (beq_self_eq_true e)
theorem nodeD_bad {m:Ms} {i:Int} (h:¬ m.chk=0):nodeD m i=m.chk:=by
 show firstOf [m.chk,m.nodeE i]=m.chk
 rw [firstOf,show (m.chk != 0)=true by rw [bne_iff_ne]; exact h]; rfl
theorem nodeD_good {m:Ms} {i:Int} (h:m.chk=0):nodeD m i=m.nodeE i:=by
 show firstOf [m.chk,m.nodeE i]=m.nodeE i
 rw [h]
 show firstOf [m.nodeE i]=m.nodeE i
 rw [firstOf]
 cases hq:(m.nodeE i != 0)
 ·have:m.nodeE i=0:=by simpa using hq
  rw [this]; rfl
 ·rfl
theorem beacE_good {m:Ms} {s:Sts} (h:m.chkS s=0):beacE m s=bif s.nu==1000000 then 20 else 0:=by
 unfold beacE
 rw [h]
 cases (s.nu==1000000) <;> rfl
theorem beacE_bad {m:Ms} {s:Sts} (h:¬ m.chkS s=0):beacE m s=m.chkS s:=by
 unfold beacE
 rw [firstOf,show (m.chkS s != 0)=true by rw [bne_iff_ne]; exact h]; rfl
theorem lenB {s:Sts} (b:Bool) (h:s.es.length≤1048576):(bif b then Sts.zero else s).es.length≤1048576:=by
 cases b
 ·exact h
 ·exact Nat.zero_le _
theorem begun_len {m:Ms} {i:Int} (h:m.ns.length≤1048576):(m.begun i).es.length≤1048576:=by
 unfold Ms.begun; rw [List.length_set,List.length_replicate]; exact h
theorem beac_len {s:Sts} (h:s.es.length≤1048576):s.beac.es.length≤1048576:=by
 unfold Sts.beac; rw [List.length_set]; exact h
theorem stN_good {m:Ms} {i:Int} (h:m.chk=0) (s:Sts):(bif nodeD m i != 0 then Sts.zero else s)=bif m.nodeE i != 0 then Sts.zero else s:=by rw [nodeD_good h]
theorem bif_bad {s t:Sts} {e f:Int} (h:¬ e=0) (h2:f=e):(bif f != 0 then Sts.zero else s)=bif e != 0 then Sts.zero else t:=by
 rw [h2,show (e != 0)=true by rw [bne_iff_ne]; exact h]; rfl
theorem stN_bad {m:Ms} {i:Int} (h:¬ m.chk=0) (s:Sts) {t:Sts}:(bif nodeD m i != 0 then Sts.zero else s)=bif m.chk != 0 then Sts.zero else t:=bif_bad h (nodeD_bad h)
theorem stB_good {m:Ms} {s:Sts} (h:m.chkS s=0):(bif beacE m s != 0 then Sts.zero else s.beac)=bif (bif s.nu==1000000 then 20 else 0:Int) != 0 then Sts.zero else bif s.nu==1000000 then Sts.zero else s.beac:=by
 rw [beacE_good h]
 cases (s.nu==1000000) <;> rfl
theorem stB_bad {m:Ms} {s:Sts} (h:¬ m.chkS s=0) (x:Sts) {t:Sts}:(bif beacE m s != 0 then Sts.zero else x)=bif m.chkS s != 0 then Sts.zero else t:=bif_bad h (beacE_bad h)
theorem c4 (hw:CallDet Tryz.prog 16 [] [.bool true]) (m:Ms) (s:Sts) (i:Int) (hm:m.ns.length≤1048576) (hl2:m.ls.length≤1048576) (hn:s.es.length≤1048576):CallDet Tryz.prog 4 [.d m.d,.d s.d,.d (.int .i64 i)] [.bool true]:=by
 have hl:=ens_len s.es
 have c16_:=hw
 refine call_of_vc (x:=ir4) (by kernel_rfl) rfl ?_
 refine ca (c15 m (by omega)) ?_
 refine b_intro (fun t1=>?_) (fun t1=>?_)
 refine sd ?_
 refine ca c16_ ?_
 exact rfl
 refine ca (c30 _) ?_
 refine b_intro (fun t2=>?_) (fun t2=>?_)
 replace t2:(!(decide ((↑(List.length (Sts.es s)):Int)≤(9:Int))||(↑(List.length (Sts.es s)):Int)==(33:Int)))=true:=t2
 refine ca c16_ ?_
 exact rfl
 replace t2:(!(decide ((↑(List.length (Sts.es s)):Int)≤(9:Int))||(↑(List.length (Sts.es s)):Int)==(33:Int)))=false:=t2
 refine ca (c18 m (by omega) (by omega)) ?_
 refine ca (c31 _ _ ?_ ?_) ?_
 assumption
 assumption
 refine ca (c18 m (by omega) (by omega)) ?_
 refine ca (c33 s (by omega)) ?_
 refine ca (c32 _ _ ?_ ?_ ?_) ?_
 assumption
 assumption
 assumption
 refine ca (c22 _ ?_ ?_) ?_
 assumption
 assumption
 refine ca (c34 _ _ ?_ ?_ ?_) ?_
 assumption
 assumption
 assumption
 refine sd ?_
 refine b_eq (fun t3=>?_) (fun t3=>?_)
 refine ca (c23 _ _) ?_
 refine sd ?_
 refine b_eq (fun t4=>?_) (fun t4=>?_)
 refine ca (c35 m i (by omega) (node_in ‹m.nodeE i=0›).1 (node_in ‹m.nodeE i=0›).2) ?_
 refine sd ?_
 refine b_eq (fun t5=>?_) (fun t5=>?_)
 refine ca (c36 m s (by omega) (chkS_fine ‹m.chkS s=0›)) ?_
 refine ca (c18 m (by omega) (by omega)) ?_
 refine ca (c33 s (by omega)) ?_
 refine ca (c37 m s (by omega) (by omega) (by omega)) ?_
 refine sd ?_
 refine b_eq (fun t6=>?_) (fun t6=>?_)
 refine ca (c38 _ _ _ _ ?_ ?_ ?_) ?_
 rotate_left
 rotate_left
 rotate_left
 refine ca (c38 _ _ _ _ ?_ ?_ ?_) ?_
 rotate_left
 rotate_left
 rotate_left
 refine ca c16_ ?_
 exact rfl
 (exfalso; omega)
 refine ca (c18 m (by omega) (by omega)) ?_
 refine ca (c33 s (by omega)) ?_
 refine ca (c37 m s (by omega) (by omega) (by omega)) ?_
 refine sd ?_
 refine b_eq (fun t7=>?_) (fun t7=>?_)
 refine ca (c38 _ _ _ _ ?_ ?_ ?_) ?_
 rotate_left
 rotate_left
 rotate_left
 refine ca (c38 _ Sts.zero _ _ ?_ ?_ ?_) ?_
 rotate_left
 rotate_left
 rotate_left
 refine ca c16_ ?_
 exact rfl
 (exfalso; omega)
 refine sd ?_
 refine b_eq (fun t8=>?_) (fun t8=>?_)
 refine ca (c36 m s (by omega) (chkS_fine ‹m.chkS s=0›)) ?_
 refine ca (c18 m (by omega) (by omega)) ?_
 refine ca (c33 s (by omega)) ?_
 refine ca (c37 m s (by omega) (by omega) (by omega)) ?_
 refine sd ?_
 refine b_eq (fun t9=>?_) (fun t9=>?_)
 refine ca (c38 _ Sts.zero _ _ ?_ ?_ ?_) ?_
 rotate_left
 rotate_left
 rotate_left
 refine ca (c38 _ _ _ _ ?_ ?_ ?_) ?_
 rotate_left
 rotate_left
 rotate_left
 refine ca c16_ ?_
 exact rfl
 (exfalso; omega)
 refine ca (c18 m (by omega) (by omega)) ?_
 refine ca (c33 s (by omega)) ?_
 refine ca (c37 m s (by omega) (by omega) (by omega)) ?_
 refine sd ?_
 refine b_eq (fun t10=>?_) (fun t10=>?_)
 refine ca (c38 _ Sts.zero _ _ ?_ ?_ ?_) ?_
 rotate_left
 rotate_left
 rotate_left
 refine ca (c38 _ Sts.zero _ _ ?_ ?_ ?_) ?_
 rotate_left
 rotate_left
 rotate_left
 refine ca c16_ ?_
 exact rfl
 (exfalso; omega)
 refine sd ?_
 refine b_eq (fun t11=>?_) (fun t11=>?_)
 (exfalso; omega)
 refine sd ?_
 refine b_eq (fun t12=>?_) (fun t12=>?_)
 refine ca (c36 m s (by omega) (chkS_fine ‹m.chkS s=0›)) ?_
 refine ca (c18 m (by omega) (by omega)) ?_
 refine ca (c33 s (by omega)) ?_
 refine ca (c37 m s (by omega) (by omega) (by omega)) ?_
 refine sd ?_
 refine b_eq (fun t13=>?_) (fun t13=>?_)
 refine ca (c38 _ Sts.zero _ _ ?_ ?_ ?_) ?_
 rotate_left
 rotate_left
 rotate_left
 refine ca (c38 _ _ _ _ ?_ ?_ ?_) ?_
 rotate_left
 rotate_left
 rotate_left
 refine ca c16_ ?_
 exact rfl
 (exfalso; omega)
 refine ca (c18 m (by omega) (by omega)) ?_
 refine ca (c33 s (by omega)) ?_
 refine ca (c37 m s (by omega) (by omega) (by omega)) ?_
 refine sd ?_
 refine b_eq (fun t14=>?_) (fun t14=>?_)
 refine ca (c38 _ Sts.zero _ _ ?_ ?_ ?_) ?_
 rotate_left
 rotate_left
 rotate_left
 refine ca (c38 _ Sts.zero _ _ ?_ ?_ ?_) ?_
 rotate_left
 rotate_left
 rotate_left
 refine ca c16_ ?_
 exact rfl
 (exfalso; omega)
 all_goals first
  | exact lenB _ (begun_len (by omega))
  | exact lenB _ (beac_len (by omega))
  | exact nodeD_good ‹_›
  | exact nodeD_bad ‹_›
  | exact beacE_good ‹_›
  | exact beacE_bad ‹_›
  | exact stN_good ‹_› _
  | exact stN_bad ‹_› _
  | exact stB_good ‹_›
  | exact bif_bad ‹¬ m.nodeE i=0› (nodeD_good ‹_›)
  | exact stB_bad ‹_› _
end Vc
