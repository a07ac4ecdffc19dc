import Derived.Test.YthociffnlhdenaaGreatDoorG14
import Derived.Test.YthociffnlhdenaaGreatDoorG10
set_option linter.unusedSectionVars false
set_option linter.unusedVariables false
set_option linter.unusedSimpArgs false
set_option maxRecDepth 10000
set_option maxHeartbeats 4000000
namespace Vc
open Go Go.Proofs
def ownV2 (s:Sts):Nat→List (Nat × AObj)
 | 0=>[]
 | k+1=>[(2,.box [.d (.int .i64 s.co),.d (.int .i64 s.nu),.sl 5 (ens (s.es.take (k+1))).length]),(5,.row 106 3 (ens (s.es.take (k+1))) false)]
theorem c59 (s:Sts) (hn:s.es.length≤1048576):CallDet Tryz.prog 59 [.d s.d] [s.d]:=by
 have hl:=ens_len s.es
 refine call_of_vc (x:=ir59) (by kernel_rfl) rfl ?_
 rotate_left
 refine loop_u (fun k:Nat=>[(14,.d (.int .i64 k))]) (ownV2 s) (fun k=>k≤s.es.length) (fun k=>s.es.length - k) 0 rfl (Nat.zero_le _) ?_
 intro k hk
 have hk:k≤s.es.length:=hk
 have hx:k < s.es.length→∃ x,s.es[k]?=some x:=fun h=>get_lt _ h
 have fin:∀ X,X=ens s.es→resV [.agg [.int .i64 s.co,.int .i64 s.nu,.slice 3 X]]=resV [s.d]:=fun X h=>by rw [h]; rfl
 by_cases hkk:k < s.es.length
 ·refine Exists.elim (hx hkk) fun x hx=>?_
  have hxd:=ens_at hx
  have e:=ens_snoc hx
  have ht:=ens_len (s.es.take k)
  rw [List.length_take] at ht
  cases k with
  | zero =>
   refine sd ?_
   refine b_lt (fun t1=>?_) (fun t1=>?_)
   refine ix_at hxd ?_ ?_
   (show (0:Int)≤(↑(0:Nat):Int); omega)
   refine sd ?_
   refine sd ?_
   refine sd ?_
   refine an ?_ ?_
   refine an ?_ ?_
   (show (1:Nat) * (24:Nat)≤(2:Nat) ^ (47:Nat); omega)
   (show (1:Nat)≤(2:Nat) ^ (47:Nat); omega)
   refine sd ?_
   refine ar_add ?_ ?_
   refine an ?_ ?_
   (show (-9223372036854775808:Int)≤(↑(0:Nat):Int)+(1:Int); omega)
   (show (↑(0:Nat):Int)+(1:Int)≤(9223372036854775807:Int); omega)
   rotate_left
   (exfalso; omega)
   refine ⟨0+1,⟨by show 0+1≤s.es.length; omega,by show s.es.length - (0+1) < s.es.length - 0; omega⟩,?_⟩
   show _=St.upd _ _ [(2,.box [.d (.int .i64 s.co),.d (.int .i64 s.nu),.sl 5 (ens (s.es.take (0+1))).length]),(5,.row 106 3 (ens (s.es.take (0+1))) false)]
   rw [e]; rfl
  | succ k =>
   refine sd ?_
   refine b_lt (fun t1=>?_) (fun t1=>?_)
   refine ix_at hxd ?_ ?_
   (show (0:Int)≤(↑(k+(1:Nat)):Int); omega)
   refine sd ?_
   refine sd ?_
   refine sd ?_
   refine an ?_ ?_
   refine an ?_ ?_
   exact rfl
   refine an ?_ ?_
   exact rfl
   refine an ?_ ?_
   exact rfl
   refine an ?_ ?_
   (show (List.length (ens (List.take (k+(1:Nat)) (Sts.es s)))+(1:Nat)) * (24:Nat)≤(2:Nat) ^ (47:Nat); omega)
   (show List.length (ens (List.take (k+(1:Nat)) (Sts.es s)))+(1:Nat)≤(2:Nat) ^ (47:Nat); omega)
   refine sd ?_
   refine ar_add ?_ ?_
   refine an ?_ ?_
   (show (-9223372036854775808:Int)≤(↑(k+(1:Nat)):Int)+(1:Int); omega)
   (show (↑(k+(1:Nat)):Int)+(1:Int)≤(9223372036854775807:Int); omega)
   rotate_left
   (exfalso; omega)
   refine ⟨k+1+1,⟨by show k+1+1≤s.es.length; omega,by show s.es.length - (k+1+1) < s.es.length - (k+1); omega⟩,?_⟩
   show _=St.upd _ _ [(2,.box [.d (.int .i64 s.co),.d (.int .i64 s.nu),.sl 5 (ens (s.es.take (k+1+1))).length]),(5,.row 106 3 (ens (s.es.take (k+1+1))) false)]
   rw [e]; rfl
 ·have e:ens (s.es.take k)=ens s.es:=by rw [List.take_of_length_le (by omega)]
  cases k with
  | zero =>
   refine sd ?_
   refine b_lt (fun t1=>?_) (fun t1=>?_)
   (exfalso; omega)
   rotate_left
   exact fin _ e
  | succ k =>
   refine sd ?_
   refine b_lt (fun t1=>?_) (fun t1=>?_)
   (exfalso; omega)
   refine sd ?_
   rotate_left
   exact fin _ e
theorem c69 (s:Sts) (hn:s.es.length≤1048576):CallDet Tryz.prog 69 [.d s.d,.d s.d] [.bool true]:=by
 have hl:=ens_len s.es
 refine call_of_vc (x:=ir69) (by kernel_rfl) rfl ?_
 refine sd ?_
 refine b_ne (fun t1=>?_) (fun t1=>?_)
 (exfalso; omega)
 refine sd ?_
 refine b_ne (fun t2=>?_) (fun t2=>?_)
 (exfalso; omega)
 refine sd ?_
 refine b_ne (fun t3=>?_) (fun t3=>?_)
 (exfalso; omega)
 rotate_left
 refine loop_u (fun k:Nat=>[(5,.d (.int .i64 k))]) (fun k=>[]) (fun k=>k≤s.es.length) (fun k=>s.es.length - k) 0 rfl (Nat.zero_le _) ?_
 intro k hk
 have hk:k≤s.es.length:=hk
 by_cases hkk:k < s.es.length
 ·refine Exists.elim (get_lt s.es hkk) fun x hx=>?_
  have hxd:=ens_at hx
  refine sd ?_
  refine b_lt (fun t4=>?_) (fun t4=>?_)
  refine ix_at hxd ?_ ?_
  (show (0:Int)≤(↑k:Int); omega)
  refine ix_at hxd ?_ ?_
  (show (0:Int)≤(↑k:Int); omega)
  refine ca (Exists.intro _ (And.intro rfl rfl)) ?_
  refine b_intro (fun t5=>?_) (fun t5=>?_)
  replace t5:(!(En.nu x==En.nu x&&(En.di x==En.di x&&(En.ne x==En.ne x&&true))))=true:=t5
  rotate_left
  replace t5:(!(En.nu x==En.nu x&&(En.di x==En.di x&&(En.ne x==En.ne x&&true))))=false:=t5
  refine ar_add ?_ ?_
  refine an ?_ ?_
  (show (-9223372036854775808:Int)≤(↑k:Int)+(1:Int); omega)
  (show (↑k:Int)+(1:Int)≤(9223372036854775807:Int); omega)
  rotate_left
  (exfalso; omega)
  ·exact absurd t5 (by simp)
  ·exact ⟨k+1,⟨by show k+1≤s.es.length; omega,by show s.es.length - (k+1) < s.es.length - k; omega⟩,rfl⟩
 ·refine sd ?_
  refine b_lt (fun t4=>?_) (fun t4=>?_)
  (exfalso; omega)
  exact rfl
theorem c38 (h w:Sts) (e b:Int) (hn:h.es.length≤1048576) (heb:e=b) (he:h=bif b != 0 then Sts.zero else w):CallDet Tryz.prog 38 [.d h.d,.d (.int .i64 e),.d (.int .i64 b),.d w.d] [.bool true]:=by
 subst heb
 refine call_of_vc (x:=ir38) (by kernel_rfl) rfl ?_
 by_cases hz:e=0
 ·have eh:h=w:=by rw [he,hz]; rfl
  clear he
  subst eh
  refine sd ?_
  refine b_ne (fun t1=>?_) (fun t1=>?_)
  (exfalso; omega)
  refine ca (c59 h (by omega)) ?_
  refine ca (c69 h (by omega)) ?_
  refine sd ?_
  rotate_left
  exact congrArg (fun b=>resV [.bool b]) (beq_self_eq_true e)
 ·have eh:h=Sts.zero:=by rw [he,show (e != 0)=true by rw [bne_iff_ne]; exact hz]; rfl
  clear he
  subst eh
  refine sd ?_
  refine b_ne (fun t1=>?_) (fun t1=>?_)
  refine ca (c59 Sts.zero (by decide)) ?_
  refine ca (c69 Sts.zero (by decide)) ?_
  refine sd ?_
  rotate_left
  (exfalso; omega)
  exact congrArg (fun b=>resV [.bool b]) (beq_self_eq_true e)
theorem nodeD_bad {m:Ms} {i:Int} (h:¬ m.chk=0):nodeD m i=m.chk:=by
 show firstOf [m.chk,m.nodeE i]=m.chk
 rw [firstOf,show (m.chk != 0)=true by rw [bne_iff_ne]; exact h]; rfl
theorem nodeD_good {m:Ms} {i:Int} (h:m.chk=0):nodeD m i=m.nodeE i:=by
 show firstOf [m.chk,m.nodeE i]=m.nodeE i
 rw [h]
 show firstOf [m.nodeE i]=m.nodeE i
 rw [firstOf]
 cases hq:(m.nodeE i != 0)
 ·have:m.nodeE i=0:=by simpa using hq
  rw [this]; rfl
 ·rfl
end Vc
