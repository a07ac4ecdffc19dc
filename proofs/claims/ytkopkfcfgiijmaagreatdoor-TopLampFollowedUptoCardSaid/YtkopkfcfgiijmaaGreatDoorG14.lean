import Derived.Test.YtkopkfcfgiijmaaGreatDoorG12
import Derived.Test.YtkopkfcfgiijmaaGreatDoorG09
set_option linter.unusedSectionVars false
set_option linter.unusedVariables false
set_option linter.unusedSimpArgs false
set_option maxRecDepth 10000
set_option maxHeartbeats 4000000
namespace Vc
open Go Go.Proofs
def ownV2 (s:Sts):Nat→List (Nat × AObj)
 | 0=>[]
 | k+1=>[(2,.box [.d (.int .i64 s.co),.d (.int .i64 s.nu),.sl 5 (ens (s.es.take (k+1))).length]),(5,.row 112 3 (ens (s.es.take (k+1))) false)]
theorem c59 (s:Sts) (hn:s.es.length≤1048576):CallDet Tryz.prog 11 [.d s.d] [s.d]:=by
 have hl:=ens_len s.es
 refine call_of_vc (x:=ir59) (by kernel_rfl) rfl ?_
 rotate_left
 refine loop_u (fun k:Nat=>[(14,.d (.int .i64 k))]) (ownV2 s) (fun k=>k≤s.es.length) (fun k=>s.es.length - k) 0 rfl (Nat.zero_le _) ?_
 intro k hk
 have hk:k≤s.es.length:=hk
 have hx:k < s.es.length→∃ x,s.es[k]?=some x:=fun h=>get_lt _ h
 have fin:∀ X,X=ens s.es→resV [.agg [.int .i64 s.co,.int .i64 s.nu,.slice 3 X]]=resV [s.d]:=fun X h=>by rw [h]; rfl
 by_cases hkk:k < s.es.length
 ·refine Exists.elim (hx hkk) fun x hx=>?_
  have hxd:=ens_at hx
  have e:=ens_snoc hx
  have ht:=ens_len (s.es.take k)
  rw [List.length_take] at ht
  cases k with
  | zero =>
   refine sd ?_
   refine b_lt (fun t1=>?_) (fun t1=>?_)
   refine ix_at hxd ?_ ?_
   (show (0:Int)≤(↑(0:Nat):Int); omega)
   refine sd ?_
   refine sd ?_
   refine sd ?_
   refine an ?_ ?_
   refine an ?_ ?_
   (show (1:Nat) * (24:Nat)≤(2:Nat) ^ (47:Nat); omega)
   (show (1:Nat)≤(2:Nat) ^ (47:Nat); omega)
   refine sd ?_
   refine ar_add ?_ ?_
   refine an ?_ ?_
   (show (-9223372036854775808:Int)≤(↑(0:Nat):Int)+(1:Int); omega)
   (show (↑(0:Nat):Int)+(1:Int)≤(9223372036854775807:Int); omega)
   rotate_left
   (exfalso; omega)
   refine ⟨0+1,⟨by show 0+1≤s.es.length; omega,by show s.es.length - (0+1) < s.es.length - 0; omega⟩,?_⟩
   show _=St.upd _ _ [(2,.box [.d (.int .i64 s.co),.d (.int .i64 s.nu),.sl 5 (ens (s.es.take (0+1))).length]),(5,.row 112 3 (ens (s.es.take (0+1))) false)]
   rw [e]; rfl
  | succ k =>
   refine sd ?_
   refine b_lt (fun t1=>?_) (fun t1=>?_)
   refine ix_at hxd ?_ ?_
   (show (0:Int)≤(↑(k+(1:Nat)):Int); omega)
   refine sd ?_
   refine sd ?_
   refine sd ?_
   refine an ?_ ?_
   refine an ?_ ?_
   exact rfl
   refine an ?_ ?_
   exact rfl
   refine an ?_ ?_
   exact rfl
   refine an ?_ ?_
   (show (List.length (ens (List.take (k+(1:Nat)) (Sts.es s)))+(1:Nat)) * (24:Nat)≤(2:Nat) ^ (47:Nat); omega)
   (show List.length (ens (List.take (k+(1:Nat)) (Sts.es s)))+(1:Nat)≤(2:Nat) ^ (47:Nat); omega)
   refine sd ?_
   refine ar_add ?_ ?_
   refine an ?_ ?_
   (show (-9223372036854775808:Int)≤(↑(k+(1:Nat)):Int)+(1:Int); omega)
   (show (↑(k+(1:Nat)):Int)+(1:Int)≤(9223372036854775807:Int); omega)
   rotate_left
   (exfalso; omega)
   refine ⟨k+1+1,⟨by show k+1+1≤s.es.length; omega,by show s.es.length - (k+1+1) < s.es.length - (k+1); omega⟩,?_⟩
   show _=St.upd _ _ [(2,.box [.d (.int .i64 s.co),.d (.int .i64 s.nu),.sl 5 (ens (s.es.take (k+1+1))).length]),(5,.row 112 3 (ens (s.es.take (k+1+1))) false)]
   rw [e]; rfl
 ·have e:ens (s.es.take k)=ens s.es:=by rw [List.take_of_length_le (by omega)]
  cases k with
  | zero =>
   refine sd ?_
   refine b_lt (fun t1=>?_) (fun t1=>?_)
   (exfalso; omega)
   rotate_left
   exact fin _ e
  | succ k =>
   refine sd ?_
   refine b_lt (fun t1=>?_) (fun t1=>?_)
   (exfalso; omega)
   refine sd ?_
   rotate_left
   exact fin _ e
theorem nodeD_good {m:Ms} {i:Int} (h:m.chk=0):nodeD m i=m.nodeE i:=by
 show firstOf [m.chk,m.nodeE i]=m.nodeE i
 rw [h]
 show firstOf [m.nodeE i]=m.nodeE i
 rw [firstOf]
 cases hq:(m.nodeE i != 0)
 ·have:m.nodeE i=0:=by simpa using hq
  rw [this]; rfl
 ·rfl
end Vc
