import Derived.Test.YtifgdpnmgeffbaaGreatDoorG12
set_option linter.unusedSectionVars false
set_option linter.unusedVariables false
set_option linter.unusedSimpArgs false
set_option maxRecDepth 10000
set_option maxHeartbeats 4000000
namespace Vc
open Go Go.Proofs
@[irreducible] def seg15a:ACode:=(.post [1,2,3] [0,1,2,3,4,5]
 (.block 0
 (.keep [1,2,3,9,10,11] [0,1,2]
 (.loop
 (.post [1,2,3,9,10,11] [3,4,5]
 (.seq
 (.reg [] [⟨some 12,.cmp .lss (.tmp 11) (.tmp 10),none⟩])
 (.seq
 (.cond (.tmp 12)
 .skip
 (.exit 0))
 (.seq
 (.block 1
 (.seq
 (.reg [3] [⟨some 13,.ixa 2 (.tmp 9) (.tmp 11),none⟩,
 ⟨some 14,.ld true 2 (.tmp 13),none⟩,
 ⟨some 5,.alloc 3 [(.d (.str [])),(.d (.str []))],none⟩,
 ⟨none,.st 2 (.tmp 5) (.tmp 14),none⟩])
 (.reg [4,5] [⟨some 15,.fad 0 (.tmp 3),none⟩,
 ⟨some 16,.ld false 1 (.tmp 15),none⟩,
 ⟨some 17,.ld true 2 (.tmp 5),none⟩,
 ⟨some 18,.bsl 4 174 2 1 [(.agg [(.str []),(.str [])])] [(0,(.tmp 17))],none⟩,
 ⟨some 19,.app 5 174 2 32 (.tmp 16) (.tmp 18),none⟩,
 ⟨some 20,.fad 0 (.tmp 3),none⟩,
 ⟨none,.st 1 (.tmp 20) (.tmp 19),none⟩])))
 (.reg [] [⟨some 21,.arith .add .i64 (.tmp 11) (.cst (.d (.int .i64 1))),none⟩,
 ⟨some 11,.mov (.tmp 21),none⟩])))))))))
@[irreducible] def seg15b:ACode:=(.post [2,3] [0,1,2,3,4,5,6,7,8]
 (.block 2
 (.keep [2,3,23,24,25] [0,1,2,3,4,5]
 (.loop
 (.post [2,3,23,24,25] [6,7,8]
 (.seq
 (.reg [] [⟨some 26,.cmp .lss (.tmp 25) (.tmp 24),none⟩])
 (.seq
 (.cond (.tmp 26)
 .skip
 (.exit 2))
 (.seq
 (.block 3
 (.seq
 (.reg [6] [⟨some 27,.ixa 6 (.tmp 23) (.tmp 25),none⟩,
 ⟨some 28,.ld true 6 (.tmp 27),none⟩,
 ⟨some 7,.alloc 6 [(.d (.str [])),(.d (.str [])),(.d (.str [])),(.d (.str [])),(.d (.int .i64 0)),(.d (.int .i64 0))],none⟩,
 ⟨none,.st 6 (.tmp 7) (.tmp 28),none⟩])
 (.reg [7,8] [⟨some 29,.fad 1 (.tmp 3),none⟩,
 ⟨some 30,.ld false 1 (.tmp 29),none⟩,
 ⟨some 31,.ld true 6 (.tmp 7),none⟩,
 ⟨some 32,.bsl 7 175 6 1 [(.agg [(.str []),(.str []),(.str []),(.str []),(.int .i64 0),(.int .i64 0)])] [(0,(.tmp 31))],none⟩,
 ⟨some 33,.app 8 175 6 80 (.tmp 30) (.tmp 32),none⟩,
 ⟨some 34,.fad 1 (.tmp 3),none⟩,
 ⟨none,.st 1 (.tmp 34) (.tmp 33),none⟩])))
 (.reg [] [⟨some 35,.arith .add .i64 (.tmp 25) (.cst (.d (.int .i64 1))),none⟩,
 ⟨some 25,.mov (.tmp 35),none⟩])))))))))
def jr15:AFun:=⟨37,9,[.cell 2 2 true],
 (.seq
 (.reg [0,1] [⟨some 1,.cbx 0 2 (.tmp 0),none⟩,
  ⟨some 2,.alloc 1 [(.nils 2),(.nils 6)],none⟩])
 (.seq
  (.reg [2] [⟨some 3,.alloc 2 [(.nils 2),(.nils 6)],none⟩])
  (.seq
  (.seq
   (.reg [] [⟨some 8,.fad 0 (.tmp 1),none⟩,
    ⟨some 9,.ld false 1 (.tmp 8),none⟩,
    ⟨some 10,.len (.tmp 9),none⟩,
    ⟨some 11,.mov (.cst (.d (.int .i64 0))),none⟩])
   (.keep [1,2,3,9,10,11] [] seg15a))
  (.seq
   (.seq
   (.reg [] [⟨some 22,.fad 1 (.tmp 1),none⟩,
    ⟨some 23,.ld false 1 (.tmp 22),none⟩,
    ⟨some 24,.len (.tmp 23),none⟩,
    ⟨some 25,.mov (.cst (.d (.int .i64 0))),none⟩])
   (.keep [2,3,23,24,25] [0,3,4] seg15b))
   (.seq
   (.reg [] [⟨some 36,.ld true 2 (.tmp 3),none⟩,
    ⟨none,.st 2 (.tmp 2) (.tmp 36),none⟩])
   .ret)))))⟩
def cN (sz id:Nat):Nat→AVal
 | 0=>.nils sz
 | k+1=>.sl id (k+1)
def oN (t:TypeId) (sz:Nat) (R:Nat→List Data):Nat→AObj
 | 0=>.none
 | k+1=>.row t sz (R (k+1)) false
theorem cN_pos {sz id k:Nat} (h:0 < k):cN sz id k=.sl id k:=by
 cases k with
 | zero=>omega
 | succ k=>rfl
theorem oN_pos {t:TypeId} {sz k:Nat} {R:Nat→List Data} (h:0 < k):oN t sz R k=.row t sz (R k) false:=by
 cases k with
 | zero=>omega
 | succ k=>rfl
theorem v15a {N:Nat} {l:List Ob} {G:List Gr} (hl:l.length≤1048576) {Q:AExit→St→Prop} (hQ:Q .normal ⟨[(1,.ptr 0 0),(2,.ptr 1 0),(3,.ptr 2 0)],[.cbox [.slice 2 (obs l),.slice 6 (grs G)],.box [.nils 2,.nils 6],.box [(cN 2 5 l.length),.nils 6],.none,.none,(oN 174 2 (fun k=>obs (l.take k)) l.length),.none,.none,.none]⟩):vc Tryz.prog N seg15a ⟨[(1,.ptr 0 0),(2,.ptr 1 0),(3,.ptr 2 0),(9,.d (.slice 2 (obs l))),(10,.d (.int .i64 (((obs l).length:Nat):Int))),(11,.d (.int .i64 (0)))],[.cbox [.slice 2 (obs l),.slice 6 (grs G)],.box [.nils 2,.nils 6],.box [.nils 2,.nils 6],.none,.none,.none,.none,.none,.none]⟩ Q:=by
 unfold seg15a
 have hlo:=obs_len l
 refine loop_st (fun k:Nat=>⟨[(1,.ptr 0 0),(2,.ptr 1 0),(3,.ptr 2 0),(9,.d (.slice 2 (obs l))),(10,.d (.int .i64 (((obs l).length:Nat):Int))),(11,.d (.int .i64 ((k:Nat))))],[.cbox [.slice 2 (obs l),.slice 6 (grs G)],.box [.nils 2,.nils 6],.box [(cN 2 5 k),.nils 6],.none,.none,(oN 174 2 (fun k=>obs (l.take k)) k),.none,.none,.none]⟩) (fun k=>k≤l.length) (fun k=>l.length - k) 0 rfl (Nat.zero_le _) ?_
 intro k hk
 have hk:k≤l.length:=hk
 have hlr:(obs (l.take k)).length=k:=by rw [obs_len,List.length_take]; omega
 dsimp only
 by_cases hkn:k < l.length
 ·refine Exists.elim (get_lt l hkn) fun x hx=>?_
  have hx1:=obs_at hx
  have hst:=obs_step hx
  have fin:∀ (W:List Data) (q:Nat),W=obs (l.take (k+1))→q=k+1→∃ a':Nat,(a'≤l.length∧l.length - a' < l.length - k)∧(⟨[(1,.ptr 0 0),(2,.ptr 1 0),(3,.ptr 2 0),(9,.d (.slice 2 (obs l))),(10,.d (.int .i64 (((obs l).length:Nat):Int))),(11,.d (.int .i64 (((k:Int)+1))))],[.cbox [.slice 2 (obs l),.slice 6 (grs G)],.box [.nils 2,.nils 6],.box [.sl 5 q,.nils 6],.none,.none,.row 174 2 W false,.none,.none,.none]⟩:St)=⟨[(1,.ptr 0 0),(2,.ptr 1 0),(3,.ptr 2 0),(9,.d (.slice 2 (obs l))),(10,.d (.int .i64 (((obs l).length:Nat):Int))),(11,.d (.int .i64 ((a':Nat))))],[.cbox [.slice 2 (obs l),.slice 6 (grs G)],.box [.nils 2,.nils 6],.box [(cN 2 5 a'),.nils 6],.none,.none,(oN 174 2 (fun k=>obs (l.take k)) a'),.none,.none,.none]⟩:=fun W q e1 e2 =>
   ⟨k+1,⟨by omega,by omega⟩,by rw [e1,e2]; rfl⟩
  rcases Nat.eq_zero_or_pos k with hz | hz
  ·subst hz
   have fin:=fin ([Data.agg [.str x.1,.str x.2]]) 1 hst.symm rfl
   refine sd ?_
   refine b_lt (fun t1=>?_) (fun t1=>?_)
   refine ix_at hx1 ?_ ?_
   (show (0:Int)≤(↑(0:Nat):Int); omega)
   refine sd ?_
   refine sd ?_
   refine sd ?_
   refine an ?_ ?_
   refine an ?_ ?_
   (show (1:Nat) * (32:Nat)≤(2:Nat) ^ (47:Nat); omega)
   (show (1:Nat)≤(2:Nat) ^ (47:Nat); omega)
   refine sd ?_
   refine ar_add ?_ ?_
   refine an ?_ ?_
   (show (-9223372036854775808:Int)≤(↑(0:Nat):Int)+(1:Int); omega)
   (show (↑(0:Nat):Int)+(1:Int)≤(9223372036854775807:Int); omega)
   rotate_left
   (exfalso; omega)
   all_goals exact fin
  ·rw [cN_pos hz,oN_pos hz]
   have fin:=fin _ (obs (l.take k)++[Data.agg [.str x.1,.str x.2]]).length hst.symm (by rw [List.length_append,hlr]; rfl)
   clear hst
   generalize obs (l.take k)=W at *
   refine sd ?_
   refine b_lt (fun t1=>?_) (fun t1=>?_)
   refine ix_at hx1 ?_ ?_
   (show (0:Int)≤(↑k:Int); omega)
   refine sd ?_
   refine sd ?_
   refine sd ?_
   refine an ?_ ?_
   refine an ?_ ?_
   exact rfl
   refine an ?_ ?_
   exact rfl
   refine an ?_ ?_
   assumption
   refine an ?_ ?_
   (show (List.length W+(1:Nat)) * (32:Nat)≤(2:Nat) ^ (47:Nat); omega)
   (show List.length W+(1:Nat)≤(2:Nat) ^ (47:Nat); omega)
   refine sd ?_
   refine ar_add ?_ ?_
   refine an ?_ ?_
   (show (-9223372036854775808:Int)≤(↑k:Int)+(1:Int); omega)
   (show (↑k:Int)+(1:Int)≤(9223372036854775807:Int); omega)
   rotate_left
   (exfalso; omega)
   all_goals exact fin
 ·have e:k=l.length:=by omega
  subst e
  rcases Nat.eq_zero_or_pos l.length with hz | hz
  ·rw [hz] at hQ ⊢
   refine sd ?_
   refine b_lt (fun t1=>?_) (fun t1=>?_)
   (exfalso; omega)
   rotate_left
   exact hQ
  ·rw [cN_pos hz,oN_pos hz] at hQ ⊢
   refine sd ?_
   refine b_lt (fun t1=>?_) (fun t1=>?_)
   (exfalso; omega)
   rotate_left
   exact hQ
theorem v15b0 {N n:Nat} {R:List Data} {G:List Gr} (hG:G.length≤1048576) (hn:R.length=n) {Q:AExit→St→Prop} (hQ:Q .normal ⟨[(2,.ptr 1 0),(3,.ptr 2 0)],[.none,.box [.nils 2,.nils 6],.box [.nils 2,(cN 6 8 G.length)],.none,.none,.none,.none,.none,(oN 175 6 (fun k=>grs (G.take k)) G.length)]⟩):vc Tryz.prog N seg15b ⟨[(2,.ptr 1 0),(3,.ptr 2 0),(23,.d (.slice 6 (grs G))),(24,.d (.int .i64 (((grs G).length:Nat):Int))),(25,.d (.int .i64 (0)))],[.none,.box [.nils 2,.nils 6],.box [.nils 2,.nils 6],.none,.none,.none,.none,.none,.none]⟩ Q:=by
 unfold seg15b
 have hlg:=grs_len G
 refine loop_st (fun k:Nat=>⟨[(2,.ptr 1 0),(3,.ptr 2 0),(23,.d (.slice 6 (grs G))),(24,.d (.int .i64 (((grs G).length:Nat):Int))),(25,.d (.int .i64 ((k:Nat))))],[.none,.box [.nils 2,.nils 6],.box [.nils 2,(cN 6 8 k)],.none,.none,.none,.none,.none,(oN 175 6 (fun k=>grs (G.take k)) k)]⟩) (fun k=>k≤G.length) (fun k=>G.length - k) 0 rfl (Nat.zero_le _) ?_
 intro k hk
 have hk:k≤G.length:=hk
 have hlr:(grs (G.take k)).length=k:=by rw [grs_len,List.length_take]; omega
 dsimp only
 by_cases hkn:k < G.length
 ·refine Exists.elim (get_lt G hkn) fun x hx=>?_
  have hx1:=grs_at hx
  have hst:=grs_step hx
  have fin:∀ (W:List Data) (q:Nat),W=grs (G.take (k+1))→q=k+1→∃ a':Nat,(a'≤G.length∧G.length - a' < G.length - k)∧(⟨[(2,.ptr 1 0),(3,.ptr 2 0),(23,.d (.slice 6 (grs G))),(24,.d (.int .i64 (((grs G).length:Nat):Int))),(25,.d (.int .i64 (((k:Int)+1))))],[.none,.box [.nils 2,.nils 6],.box [.nils 2,.sl 8 q],.none,.none,.none,.none,.none,.row 175 6 W false]⟩:St)=⟨[(2,.ptr 1 0),(3,.ptr 2 0),(23,.d (.slice 6 (grs G))),(24,.d (.int .i64 (((grs G).length:Nat):Int))),(25,.d (.int .i64 ((a':Nat))))],[.none,.box [.nils 2,.nils 6],.box [.nils 2,(cN 6 8 a')],.none,.none,.none,.none,.none,(oN 175 6 (fun k=>grs (G.take k)) a')]⟩:=fun W q e1 e2 =>
   ⟨k+1,⟨by omega,by omega⟩,by rw [e1,e2]; rfl⟩
  rcases Nat.eq_zero_or_pos k with hz | hz
  ·subst hz
   have fin:=fin ([Data.agg [.str x.fr,.str x.to,.str x.ri,.str x.ob,.int .i64 x.a,.int .i64 x.b]]) 1 hst.symm rfl
   refine sd ?_
   refine b_lt (fun t1=>?_) (fun t1=>?_)
   refine ix_at hx1 ?_ ?_
   (show (0:Int)≤(↑(0:Nat):Int); omega)
   refine sd ?_
   refine sd ?_
   refine sd ?_
   refine an ?_ ?_
   refine an ?_ ?_
   (show (1:Nat) * (80:Nat)≤(2:Nat) ^ (47:Nat); omega)
   (show (1:Nat)≤(2:Nat) ^ (47:Nat); omega)
   refine sd ?_
   refine ar_add ?_ ?_
   refine an ?_ ?_
   (show (-9223372036854775808:Int)≤(↑(0:Nat):Int)+(1:Int); omega)
   (show (↑(0:Nat):Int)+(1:Int)≤(9223372036854775807:Int); omega)
   rotate_left
   (exfalso; omega)
   all_goals exact fin
  ·rw [cN_pos hz,oN_pos hz]
   have fin:=fin _ (grs (G.take k)++[Data.agg [.str x.fr,.str x.to,.str x.ri,.str x.ob,.int .i64 x.a,.int .i64 x.b]]).length hst.symm (by rw [List.length_append,hlr]; rfl)
   clear hst
   generalize grs (G.take k)=W at *
   refine sd ?_
   refine b_lt (fun t1=>?_) (fun t1=>?_)
   refine ix_at hx1 ?_ ?_
   (show (0:Int)≤(↑k:Int); omega)
   refine sd ?_
   refine sd ?_
   refine sd ?_
   refine an ?_ ?_
   refine an ?_ ?_
   exact rfl
   refine an ?_ ?_
   exact rfl
   refine an ?_ ?_
   assumption
   refine an ?_ ?_
   (show (List.length W+(1:Nat)) * (80:Nat)≤(2:Nat) ^ (47:Nat); omega)
   (show List.length W+(1:Nat)≤(2:Nat) ^ (47:Nat); omega)
   refine sd ?_
   refine ar_add ?_ ?_
   refine an ?_ ?_
   (show (-9223372036854775808:Int)≤(↑k:Int)+(1:Int); omega)
   (show (↑k:Int)+(1:Int)≤(9223372036854775807:Int); omega)
   rotate_left
   (exfalso; omega)
   all_goals exact fin
 ·have e:k=G.length:=by omega
  subst e
  rcases Nat.eq_zero_or_pos G.length with hz | hz
  ·rw [hz] at hQ ⊢
   refine sd ?_
   refine b_lt (fun t1=>?_) (fun t1=>?_)
   (exfalso; omega)
   rotate_left
   exact hQ
  ·rw [cN_pos hz,oN_pos hz] at hQ ⊢
   refine sd ?_
   refine b_lt (fun t1=>?_) (fun t1=>?_)
   (exfalso; omega)
   rotate_left
   exact hQ
theorem v15b1 {N n:Nat} {R:List Data} {G:List Gr} (hG:G.length≤1048576) (hn:R.length=n) {Q:AExit→St→Prop} (hQ:Q .normal ⟨[(2,.ptr 1 0),(3,.ptr 2 0)],[.none,.box [.nils 2,.nils 6],.box [.sl 5 n,(cN 6 8 G.length)],.none,.none,.row 174 2 R false,.none,.none,(oN 175 6 (fun k=>grs (G.take k)) G.length)]⟩):vc Tryz.prog N seg15b ⟨[(2,.ptr 1 0),(3,.ptr 2 0),(23,.d (.slice 6 (grs G))),(24,.d (.int .i64 (((grs G).length:Nat):Int))),(25,.d (.int .i64 (0)))],[.none,.box [.nils 2,.nils 6],.box [.sl 5 n,.nils 6],.none,.none,.row 174 2 R false,.none,.none,.none]⟩ Q:=by
 unfold seg15b
 have hlg:=grs_len G
 refine loop_st (fun k:Nat=>⟨[(2,.ptr 1 0),(3,.ptr 2 0),(23,.d (.slice 6 (grs G))),(24,.d (.int .i64 (((grs G).length:Nat):Int))),(25,.d (.int .i64 ((k:Nat))))],[.none,.box [.nils 2,.nils 6],.box [.sl 5 n,(cN 6 8 k)],.none,.none,.row 174 2 R false,.none,.none,(oN 175 6 (fun k=>grs (G.take k)) k)]⟩) (fun k=>k≤G.length) (fun k=>G.length - k) 0 rfl (Nat.zero_le _) ?_
 intro k hk
 have hk:k≤G.length:=hk
 have hlr:(grs (G.take k)).length=k:=by rw [grs_len,List.length_take]; omega
 dsimp only
 by_cases hkn:k < G.length
 ·refine Exists.elim (get_lt G hkn) fun x hx=>?_
  have hx1:=grs_at hx
  have hst:=grs_step hx
  have fin:∀ (W:List Data) (q:Nat),W=grs (G.take (k+1))→q=k+1→∃ a':Nat,(a'≤G.length∧G.length - a' < G.length - k)∧(⟨[(2,.ptr 1 0),(3,.ptr 2 0),(23,.d (.slice 6 (grs G))),(24,.d (.int .i64 (((grs G).length:Nat):Int))),(25,.d (.int .i64 (((k:Int)+1))))],[.none,.box [.nils 2,.nils 6],.box [.sl 5 n,.sl 8 q],.none,.none,.row 174 2 R false,.none,.none,.row 175 6 W false]⟩:St)=⟨[(2,.ptr 1 0),(3,.ptr 2 0),(23,.d (.slice 6 (grs G))),(24,.d (.int .i64 (((grs G).length:Nat):Int))),(25,.d (.int .i64 ((a':Nat))))],[.none,.box [.nils 2,.nils 6],.box [.sl 5 n,(cN 6 8 a')],.none,.none,.row 174 2 R false,.none,.none,(oN 175 6 (fun k=>grs (G.take k)) a')]⟩:=fun W q e1 e2 =>
   ⟨k+1,⟨by omega,by omega⟩,by rw [e1,e2]; rfl⟩
  rcases Nat.eq_zero_or_pos k with hz | hz
  ·subst hz
   have fin:=fin ([Data.agg [.str x.fr,.str x.to,.str x.ri,.str x.ob,.int .i64 x.a,.int .i64 x.b]]) 1 hst.symm rfl
   refine sd ?_
   refine b_lt (fun t1=>?_) (fun t1=>?_)
   refine ix_at hx1 ?_ ?_
   (show (0:Int)≤(↑(0:Nat):Int); omega)
   refine sd ?_
   refine sd ?_
   refine sd ?_
   refine an ?_ ?_
   refine an ?_ ?_
   (show (1:Nat) * (80:Nat)≤(2:Nat) ^ (47:Nat); omega)
   (show (1:Nat)≤(2:Nat) ^ (47:Nat); omega)
   refine sd ?_
   refine ar_add ?_ ?_
   refine an ?_ ?_
   (show (-9223372036854775808:Int)≤(↑(0:Nat):Int)+(1:Int); omega)
   (show (↑(0:Nat):Int)+(1:Int)≤(9223372036854775807:Int); omega)
   rotate_left
   (exfalso; omega)
   all_goals exact fin
  ·rw [cN_pos hz,oN_pos hz]
   have fin:=fin _ (grs (G.take k)++[Data.agg [.str x.fr,.str x.to,.str x.ri,.str x.ob,.int .i64 x.a,.int .i64 x.b]]).length hst.symm (by rw [List.length_append,hlr]; rfl)
   clear hst
   generalize grs (G.take k)=W at *
   refine sd ?_
   refine b_lt (fun t1=>?_) (fun t1=>?_)
   refine ix_at hx1 ?_ ?_
   (show (0:Int)≤(↑k:Int); omega)
   refine sd ?_
   refine sd ?_
   refine sd ?_
   refine an ?_ ?_
   refine an ?_ ?_
   exact rfl
   refine an ?_ ?_
   exact rfl
   refine an ?_ ?_
   assumption
   refine an ?_ ?_
   (show (List.length W+(1:Nat)) * (80:Nat)≤(2:Nat) ^ (47:Nat); omega)
   (show List.length W+(1:Nat)≤(2:Nat) ^ (47:Nat); omega)
   refine sd ?_
   refine ar_add ?_ ?_
   refine an ?_ ?_
   (show (-9223372036854775808:Int)≤(↑k:Int)+(1:Int); omega)
   (show (↑k:Int)+(1:Int)≤(9223372036854775807:Int); omega)
   rotate_left
   (exfalso; omega)
   all_goals exact fin
 ·have e:k=G.length:=by omega
  subst e
  rcases Nat.eq_zero_or_pos G.length with hz | hz
  ·rw [hz] at hQ ⊢
   refine sd ?_
   refine b_lt (fun t1=>?_) (fun t1=>?_)
   (exfalso; omega)
   rotate_left
   exact hQ
  ·rw [cN_pos hz,oN_pos hz] at hQ ⊢
   refine sd ?_
   refine b_lt (fun t1=>?_) (fun t1=>?_)
   (exfalso; omega)
   rotate_left
   exact hQ
theorem c15 (l:List Ob) (G:List Gr) (hl:l.length≤1048576) (hG:G.length≤1048576):CallDet Tryz.prog 15 [.d (.agg [.slice 2 (obs l),.slice 6 (grs G)])] [.agg [.slice 2 (obs l),.slice 6 (grs G)]]:=by
 have hlo:=obs_len l
 have hlg:=grs_len G
 have hva:=fun (Q:AExit→St→Prop)=>v15a (N:=37) (l:=l) (G:=G) hl (Q:=Q)
 refine call_of_vc (x:=jr15) (by kernel_rfl) rfl ?_
 rcases Nat.eq_zero_or_pos l.length with hz | hz
 ·rw [hz] at hva
  have e:l=[]:=List.eq_nil_of_length_eq_zero hz
  have hvb:=fun (R:List Data) (n:Nat) (hn:R.length=n) (Q:AExit→St→Prop)=>v15b0 (N:=37) (n:=n) (R:=R) (G:=G) hG hn (Q:=Q)
  have hvb:=fun (Q:AExit→St→Prop)=>hvb [] 0 rfl Q
  rcases Nat.eq_zero_or_pos G.length with hy | hy
  ·rw [hy] at hvb
   have e2:G=[]:=List.eq_nil_of_length_eq_zero hy
   refine hva _ ?_
   refine hvb _ ?_
   rotate_left
   subst e e2
   exact rfl
  ·rw [cN_pos hy,oN_pos hy,List.take_length] at hvb
   refine hva _ ?_
   refine hvb _ ?_
   refine an ?_ ?_
   assumption
   rotate_left
   subst e
   exact rfl
 ·rw [cN_pos hz,oN_pos hz,List.take_length] at hva
  have hvb:=fun (Q:AExit→St→Prop)=>v15b1 (N:=37) (n:=l.length) (R:=obs l) (G:=G) hG hlo (Q:=Q)
  rcases Nat.eq_zero_or_pos G.length with hy | hy
  ·rw [hy] at hvb
   have e2:G=[]:=List.eq_nil_of_length_eq_zero hy
   refine hva _ ?_
   refine hvb _ ?_
   refine an ?_ ?_
   assumption
   rotate_left
   subst e2
   exact rfl
  ·rw [cN_pos hy,oN_pos hy,List.take_length] at hvb
   refine hva _ ?_
   refine hvb _ ?_
   refine an ?_ ?_
   assumption
   refine an ?_ ?_
   assumption
   exact rfl
end Vc
