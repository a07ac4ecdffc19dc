import Derived.Test.YtokkgdokamjnaaaGreatG15
set_option linter.unusedSectionVars false
set_option linter.unusedVariables false
set_option linter.unusedSimpArgs false
set_option maxRecDepth 10000
set_option maxHeartbeats 4000000
namespace Vc.L
open Go Go.Proofs
@[irreducible] def seg53:ACode:=(.loop
 (.post [0,1,6,7,8] []
 (.seq
 (.seq
 (.reg [] [⟨some 26,.mov (.tmp 8),none⟩,
 ⟨some 27,.mov (.tmp 0),none⟩,
 ⟨some 28,.len (.tmp 27),none⟩,
 ⟨some 29,.cmp .lss (.tmp 26) (.tmp 28),none⟩])
 (.cond (.tmp 29)
 .skip
 (.exit 2)))
 (.seq
 (.block 3
 (.seq
 (.reg [] [⟨some 32,.mov (.tmp 6),none⟩,
 ⟨some 33,.arith .quo .i64 (.tmp 32) (.cst (.d (.int .i64 86400))),none⟩,
 ⟨some 34,.arith .mul .i64 (.tmp 33) (.cst (.d (.int .i64 86400))),none⟩,
 ⟨some 35,.mov (.tmp 0),none⟩,
 ⟨some 36,.mov (.tmp 8),none⟩,
 ⟨some 37,.ixa 9 (.tmp 35) (.tmp 36),none⟩,
 ⟨some 38,.fad 7 (.tmp 37),none⟩,
 ⟨some 39,.fad 1 (.tmp 38),none⟩,
 ⟨some 40,.ld false 1 (.tmp 39),none⟩,
 ⟨some 41,.arith .add .i64 (.tmp 34) (.tmp 40),none⟩,
 ⟨some 9,.mov (.tmp 41),none⟩])
 (.seq
 (.reg [] [⟨some 42,.mov (.tmp 0),none⟩,
 ⟨some 43,.mov (.tmp 8),none⟩,
 ⟨some 44,.mov (.tmp 6),none⟩,
 ⟨some 45,.arith .quo .i64 (.tmp 44) (.cst (.d (.int .i64 86400))),none⟩,
 ⟨some 46,.arith .rem .i64 (.tmp 45) (.cst (.d (.int .i64 7))),none⟩,
 ⟨some 47,.ixa 9 (.tmp 42) (.tmp 43),none⟩,
 ⟨some 48,.fad 0 (.tmp 47),none⟩,
 ⟨some 49,.ixp 7 1 (.tmp 48) (.tmp 46),none⟩,
 ⟨some 50,.ld false 1 (.tmp 49),none⟩,
 ⟨some 51,.mov (.tmp 50),none⟩,
 ⟨some 52,.mov (.tmp 6),some (51,true)⟩,
 ⟨some 53,.arith .rem .i64 (.tmp 52) (.cst (.d (.int .i64 86400))),some (51,true)⟩,
 ⟨some 54,.mov (.tmp 0),some (51,true)⟩,
 ⟨some 55,.mov (.tmp 8),some (51,true)⟩,
 ⟨some 56,.ixa 9 (.tmp 54) (.tmp 55),some (51,true)⟩,
 ⟨some 57,.fad 7 (.tmp 56),some (51,true)⟩,
 ⟨some 58,.fad 0 (.tmp 57),some (51,true)⟩,
 ⟨some 59,.ld false 1 (.tmp 58),some (51,true)⟩,
 ⟨some 60,.cmp .geq (.tmp 53) (.tmp 59),some (51,true)⟩,
 ⟨some 61,.pick (.tmp 51) (.tmp 60) (.cst (.d (.bool false))),none⟩,
 ⟨some 62,.mov (.tmp 61),none⟩,
 ⟨some 63,.mov (.tmp 9),some (62,true)⟩,
 ⟨some 64,.mov (.tmp 7),some (62,true)⟩,
 ⟨some 65,.cmp .gtr (.tmp 63) (.tmp 64),some (62,true)⟩,
 ⟨some 66,.pick (.tmp 62) (.tmp 65) (.cst (.d (.bool false))),none⟩])
 (.cond (.tmp 66)
 (.reg [] [⟨some 67,.mov (.tmp 9),none⟩,
 ⟨some 7,.mov (.tmp 67),none⟩])
 .skip))))
 (.reg [] [⟨some 30,.mov (.tmp 8),none⟩,
 ⟨some 31,.arith .add .i64 (.tmp 30) (.cst (.d (.int .i64 1))),none⟩,
 ⟨some 8,.mov (.tmp 31),none⟩])))))
section
variable {l : List Hr} {t : Int}
end
def frE (l:List Hr) (t:Int):Int:=firstOf [ckH l,within3 t 0 100000000]
theorem frE_0 {l:List Hr} {t:Int} (h:frE l t=0):ckH l=0∧(l.length≤16∧∀ h∈l,h.ok)∧0≤t∧t≤100000000:=by
 have h1:=firstOf_zero h (ckH l) (by simp)
 have h2:=within_ok (firstOf_zero h (within3 t 0 100000000) (by simp))
 exact ⟨h1,ckH_ok h1,h2⟩
theorem c46 (l:List Hr) (t:Int) (hl:l.length≤1048576):CallDet Tryz.prog 10 [.d (.slice 9 (hrs l)),.d (.int .i64 t)] (bif frE l t != 0 then [.bool false,.int .i64 (frE l t)] else [.bool (prL l t),.int .i64 0]):=by
 have c55_:=c55 l hl
 have c112_:=c112 t
 have c90_:CallDet Tryz.prog 33 [.d (.slice 1 [.int .i64 (ckH l),.int .i64 (within3 t 0 100000000)])] [.int .i64 (frE l t)]:=c90 [ckH l,within3 t 0 100000000] (by simp)
 by_cases h:frE l t=0
 ·obtain ⟨_,hh,h0,h1⟩:=frE_0 h
  have c113_:=c113 l t hl h0 (by omega) hh.2
  rw [h] at c90_ ⊢
  refine call_of_vc (x:=jr46) (by kernel_rfl) rfl ?_
  refine ca c55_ ?_
  refine ca c112_ ?_
  refine sd ?_
  refine sd ?_
  refine ca c90_ ?_
  refine sd ?_
  refine ca c113_ ?_
  exact rfl
 ·rw [bne_t h]
  refine call_of_vc (x:=jr46) (by kernel_rfl) rfl ?_
  refine ca c55_ ?_
  refine ca c112_ ?_
  refine sd ?_
  refine sd ?_
  refine ca c90_ ?_
  refine sd ?_
  refine b_ne (fun t1=>?_) (fun t1=>?_)
  exact rfl
  (exfalso; omega)
structure Kml where
 k:Nat
 l:Int
theorem v53 {l : List Hr} {t x : Int} (hl : l.length ≤ 1048576) (hg : ∀ h ∈ l, h.ok) (h0 : 0 ≤ x) (h1 : x ≤ 1000000000) (hp : prL l x = true) {Q : AExit → St → Prop} (hQ : Q (.exit 2) ⟨[(0, .d (.slice 9 (hrs l))), (1, .d (.int .i64 t)), (6, .d (.int .i64 (x))), (7, .d (.int .i64 (nx x l x))), (8, .d (.int .i64 ((l.length : Nat)))), (26, .d (.int .i64 (l.length : Nat))), (27, .d (.slice 9 (hrs l))), (28, .d (.int .i64 ((hrs l).length : Nat))), (29, .d (.bool (cmpF .lss ((l.length : Nat) : Int) (((hrs l).length : Nat) : Int))))], []⟩) :
  vc Tryz.prog 69 seg53 ⟨[(0,.d (.slice 9 (hrs l))),(1,.d (.int .i64 t)),(6,.d (.int .i64 (x))),(7,.d (.int .i64 (x+1))),(8,.d (.int .i64 (0)))],[]⟩ Q:=by
 have hll:=hrs_len l
 unfold seg53
 rw [← nx_R hp] at hQ
 refine loop_st (fun p:Kml=>⟨[(0,.d (.slice 9 (hrs l))),(1,.d (.int .i64 t)),(6,.d (.int .i64 (x))),(7,.d (.int .i64 (p.l))),(8,.d (.int .i64 ((p.k:Nat))))],[]⟩) (fun p=>p.k≤l.length∧nxR x l (x+1)=nxR x (l.drop p.k) p.l) (fun p=>l.length - p.k) ⟨0,x+1⟩ rfl ⟨Nat.zero_le _,rfl⟩ ?_
 rintro ⟨k,m⟩ ⟨hk,hi⟩
 have hk:k≤l.length:=hk
 have hi:nxR x l (x+1)=nxR x (l.drop k) m:=hi
 dsimp only
 by_cases hkn:k < l.length
 ·refine Exists.elim (get_lt l hkn) fun h hx=>?_
  have hx1:=hrs_at hx
  have hok:=hg h (List.mem_of_getElem? hx)
  unfold Hr.ok at hok
  rw [drop_at hx,nxR] at hi
  have fin0:(h.day (x / 86400 % 7).toNat&&(decide (h.f≤x % 86400)&&decide (m < x / 86400 * 86400+h.t)))=false→∃ a':Kml,((a'.k≤l.length∧nxR x l (x+1)=nxR x (l.drop a'.k) a'.l)∧l.length - a'.k < l.length - k)∧(⟨[(0,.d (.slice 9 (hrs l))),(1,.d (.int .i64 t)),(6,.d (.int .i64 (x))),(7,.d (.int .i64 (m))),(8,.d (.int .i64 ((k:Int)+1)))],[]⟩:St)=⟨[(0,.d (.slice 9 (hrs l))),(1,.d (.int .i64 t)),(6,.d (.int .i64 (x))),(7,.d (.int .i64 (a'.l))),(8,.d (.int .i64 ((a'.k:Nat))))],[]⟩:=fun hq=>⟨⟨k+1,m⟩,⟨⟨by show k+1≤_; omega,by rw [hi,hq]; rfl⟩,by show l.length - (k+1) < _; omega⟩,rfl⟩
  have fin1:(h.day (x / 86400 % 7).toNat&&(decide (h.f≤x % 86400)&&decide (m < x / 86400 * 86400+h.t)))=true→∃ a':Kml,((a'.k≤l.length∧nxR x l (x+1)=nxR x (l.drop a'.k) a'.l)∧l.length - a'.k < l.length - k)∧(⟨[(0,.d (.slice 9 (hrs l))),(1,.d (.int .i64 t)),(6,.d (.int .i64 (x))),(7,.d (.int .i64 (x / 86400 * 86400+h.t))),(8,.d (.int .i64 ((k:Int)+1)))],[]⟩:St)=⟨[(0,.d (.slice 9 (hrs l))),(1,.d (.int .i64 t)),(6,.d (.int .i64 (x))),(7,.d (.int .i64 (a'.l))),(8,.d (.int .i64 ((a'.k:Nat))))],[]⟩:=fun hq=>⟨⟨k+1,_⟩,⟨⟨by show k+1≤_; omega,by rw [hi,hq]; rfl⟩,by show l.length - (k+1) < _; omega⟩,rfl⟩
  rcases day7 x with e | e | e | e | e | e | e
  ·have hp:h.day (x / 86400 % 7).toNat=h.d0:=by rw [e]; rfl
   rw [hp] at fin0 fin1
   have hr7:=rem7 (q:=x / 86400) (by omega) e
   refine sd ?_
   refine b_lt (fun t1=>?_) (fun t1=>?_)
   refine ar_quo ?_ ?_
   refine an ?_ ?_
   assumption
   refine an ?_ ?_
   (show x≤(9223372036854775807:Int); omega)
   (show (1:Int)≤(86400:Int); omega)
   refine ar_mul ?_ ?_
   refine an ?_ ?_
   (show (-9223372036854775808:Int)≤x / (86400:Int) * (86400:Int); omega)
   (show x / (86400:Int) * (86400:Int)≤(9223372036854775807:Int); omega)
   refine ix_at hx1 ?_ ?_
   (show (0:Int)≤(↑k:Int); omega)
   refine ar_add ?_ ?_
   refine an ?_ ?_
   (show (-9223372036854775808:Int)≤x / (86400:Int) * (86400:Int)+Hr.t h; omega)
   (show x / (86400:Int) * (86400:Int)+Hr.t h≤(9223372036854775807:Int); omega)
   refine ar_quo ?_ ?_
   refine an ?_ ?_
   assumption
   refine an ?_ ?_
   (show x≤(9223372036854775807:Int); omega)
   (show (1:Int)≤(86400:Int); omega)
   refine ar_is hr7 ?_
   refine ix_at hx1 ?_ ?_
   (show (0:Int)≤(↑k:Int); omega)
   refine an ?_ ?_
   refine an ?_ ?_
   (show (0:Int)≤(0:Int); omega)
   (show (0:Int) < (↑(7:Nat):Int); omega)
   refine b_intro (fun t2=>?_) (fun t2=>?_)
   refine ar_rem ?_ ?_
   refine an ?_ ?_
   assumption
   (show (1:Int)≤(86400:Int); omega)
   refine ix_at hx1 ?_ ?_
   (show (0:Int)≤(↑k:Int); omega)
   refine sd ?_
   refine b_le (fun t3=>?_) (fun t3=>?_)
   refine sd ?_
   refine b_lt (fun t4=>?_) (fun t4=>?_)
   refine ar_add ?_ ?_
   refine an ?_ ?_
   (show (-9223372036854775808:Int)≤(↑k:Int)+(1:Int); omega)
   (show (↑k:Int)+(1:Int)≤(9223372036854775807:Int); omega)
   rotate_left
   refine ar_add ?_ ?_
   refine an ?_ ?_
   (show (-9223372036854775808:Int)≤(↑k:Int)+(1:Int); omega)
   (show (↑k:Int)+(1:Int)≤(9223372036854775807:Int); omega)
   rotate_left
   refine sd ?_
   refine ar_add ?_ ?_
   refine an ?_ ?_
   (show (-9223372036854775808:Int)≤(↑k:Int)+(1:Int); omega)
   (show (↑k:Int)+(1:Int)≤(9223372036854775807:Int); omega)
   rotate_left
   refine sd ?_
   refine sd ?_
   refine ar_add ?_ ?_
   refine an ?_ ?_
   (show (-9223372036854775808:Int)≤(↑k:Int)+(1:Int); omega)
   (show (↑k:Int)+(1:Int)≤(9223372036854775807:Int); omega)
   rotate_left
   (exfalso; omega)
   all_goals first | exact fin0 (by simp [*]; done) | exact fin1 (by simp [*]; done)
  ·have hp:h.day (x / 86400 % 7).toNat=h.d1:=by rw [e]; rfl
   rw [hp] at fin0 fin1
   have hr7:=rem7 (q:=x / 86400) (by omega) e
   refine sd ?_
   refine b_lt (fun t1=>?_) (fun t1=>?_)
   refine ar_quo ?_ ?_
   refine an ?_ ?_
   assumption
   refine an ?_ ?_
   (show x≤(9223372036854775807:Int); omega)
   (show (1:Int)≤(86400:Int); omega)
   refine ar_mul ?_ ?_
   refine an ?_ ?_
   (show (-9223372036854775808:Int)≤x / (86400:Int) * (86400:Int); omega)
   (show x / (86400:Int) * (86400:Int)≤(9223372036854775807:Int); omega)
   refine ix_at hx1 ?_ ?_
   (show (0:Int)≤(↑k:Int); omega)
   refine ar_add ?_ ?_
   refine an ?_ ?_
   (show (-9223372036854775808:Int)≤x / (86400:Int) * (86400:Int)+Hr.t h; omega)
   (show x / (86400:Int) * (86400:Int)+Hr.t h≤(9223372036854775807:Int); omega)
   refine ar_quo ?_ ?_
   refine an ?_ ?_
   assumption
   refine an ?_ ?_
   (show x≤(9223372036854775807:Int); omega)
   (show (1:Int)≤(86400:Int); omega)
   refine ar_is hr7 ?_
   refine ix_at hx1 ?_ ?_
   (show (0:Int)≤(↑k:Int); omega)
   refine an ?_ ?_
   refine an ?_ ?_
   (show (0:Int)≤(1:Int); omega)
   (show (1:Int) < (↑(7:Nat):Int); omega)
   refine b_intro (fun t2=>?_) (fun t2=>?_)
   refine ar_rem ?_ ?_
   refine an ?_ ?_
   assumption
   (show (1:Int)≤(86400:Int); omega)
   refine ix_at hx1 ?_ ?_
   (show (0:Int)≤(↑k:Int); omega)
   refine sd ?_
   refine b_le (fun t3=>?_) (fun t3=>?_)
   refine sd ?_
   refine b_lt (fun t4=>?_) (fun t4=>?_)
   refine ar_add ?_ ?_
   refine an ?_ ?_
   (show (-9223372036854775808:Int)≤(↑k:Int)+(1:Int); omega)
   (show (↑k:Int)+(1:Int)≤(9223372036854775807:Int); omega)
   rotate_left
   refine ar_add ?_ ?_
   refine an ?_ ?_
   (show (-9223372036854775808:Int)≤(↑k:Int)+(1:Int); omega)
   (show (↑k:Int)+(1:Int)≤(9223372036854775807:Int); omega)
   rotate_left
   refine sd ?_
   refine ar_add ?_ ?_
   refine an ?_ ?_
   (show (-9223372036854775808:Int)≤(↑k:Int)+(1:Int); omega)
   (show (↑k:Int)+(1:Int)≤(9223372036854775807:Int); omega)
   rotate_left
   refine sd ?_
   refine sd ?_
   refine ar_add ?_ ?_
   refine an ?_ ?_
   (show (-9223372036854775808:Int)≤(↑k:Int)+(1:Int); omega)
   (show (↑k:Int)+(1:Int)≤(9223372036854775807:Int); omega)
   rotate_left
   (exfalso; omega)
   all_goals first | exact fin0 (by simp [*]; done) | exact fin1 (by simp [*]; done)
  ·have hp:h.day (x / 86400 % 7).toNat=h.d2:=by rw [e]; rfl
   rw [hp] at fin0 fin1
   have hr7:=rem7 (q:=x / 86400) (by omega) e
   refine sd ?_
   refine b_lt (fun t1=>?_) (fun t1=>?_)
   refine ar_quo ?_ ?_
   refine an ?_ ?_
   assumption
   refine an ?_ ?_
   (show x≤(9223372036854775807:Int); omega)
   (show (1:Int)≤(86400:Int); omega)
   refine ar_mul ?_ ?_
   refine an ?_ ?_
   (show (-9223372036854775808:Int)≤x / (86400:Int) * (86400:Int); omega)
   (show x / (86400:Int) * (86400:Int)≤(9223372036854775807:Int); omega)
   refine ix_at hx1 ?_ ?_
   (show (0:Int)≤(↑k:Int); omega)
   refine ar_add ?_ ?_
   refine an ?_ ?_
   (show (-9223372036854775808:Int)≤x / (86400:Int) * (86400:Int)+Hr.t h; omega)
   (show x / (86400:Int) * (86400:Int)+Hr.t h≤(9223372036854775807:Int); omega)
   refine ar_quo ?_ ?_
   refine an ?_ ?_
   assumption
   refine an ?_ ?_
   (show x≤(9223372036854775807:Int); omega)
   (show (1:Int)≤(86400:Int); omega)
   refine ar_is hr7 ?_
   refine ix_at hx1 ?_ ?_
   (show (0:Int)≤(↑k:Int); omega)
   refine an ?_ ?_
   refine an ?_ ?_
   (show (0:Int)≤(2:Int); omega)
   (show (2:Int) < (↑(7:Nat):Int); omega)
   refine b_intro (fun t2=>?_) (fun t2=>?_)
   refine ar_rem ?_ ?_
   refine an ?_ ?_
   assumption
   (show (1:Int)≤(86400:Int); omega)
   refine ix_at hx1 ?_ ?_
   (show (0:Int)≤(↑k:Int); omega)
   refine sd ?_
   refine b_le (fun t3=>?_) (fun t3=>?_)
   refine sd ?_
   refine b_lt (fun t4=>?_) (fun t4=>?_)
   refine ar_add ?_ ?_
   refine an ?_ ?_
   (show (-9223372036854775808:Int)≤(↑k:Int)+(1:Int); omega)
   (show (↑k:Int)+(1:Int)≤(9223372036854775807:Int); omega)
   rotate_left
   refine ar_add ?_ ?_
   refine an ?_ ?_
   (show (-9223372036854775808:Int)≤(↑k:Int)+(1:Int); omega)
   (show (↑k:Int)+(1:Int)≤(9223372036854775807:Int); omega)
   rotate_left
   refine sd ?_
   refine ar_add ?_ ?_
   refine an ?_ ?_
   (show (-9223372036854775808:Int)≤(↑k:Int)+(1:Int); omega)
   (show (↑k:Int)+(1:Int)≤(9223372036854775807:Int); omega)
   rotate_left
   refine sd ?_
   refine sd ?_
   refine ar_add ?_ ?_
   refine an ?_ ?_
   (show (-9223372036854775808:Int)≤(↑k:Int)+(1:Int); omega)
   (show (↑k:Int)+(1:Int)≤(9223372036854775807:Int); omega)
   rotate_left
   (exfalso; omega)
   all_goals first | exact fin0 (by simp [*]; done) | exact fin1 (by simp [*]; done)
  ·have hp:h.day (x / 86400 % 7).toNat=h.d3:=by rw [e]; rfl
   rw [hp] at fin0 fin1
   have hr7:=rem7 (q:=x / 86400) (by omega) e
   refine sd ?_
   refine b_lt (fun t1=>?_) (fun t1=>?_)
   refine ar_quo ?_ ?_
   refine an ?_ ?_
   assumption
   refine an ?_ ?_
   (show x≤(9223372036854775807:Int); omega)
   (show (1:Int)≤(86400:Int); omega)
   refine ar_mul ?_ ?_
   refine an ?_ ?_
   (show (-9223372036854775808:Int)≤x / (86400:Int) * (86400:Int); omega)
   (show x / (86400:Int) * (86400:Int)≤(9223372036854775807:Int); omega)
   refine ix_at hx1 ?_ ?_
   (show (0:Int)≤(↑k:Int); omega)
   refine ar_add ?_ ?_
   refine an ?_ ?_
   (show (-9223372036854775808:Int)≤x / (86400:Int) * (86400:Int)+Hr.t h; omega)
   (show x / (86400:Int) * (86400:Int)+Hr.t h≤(9223372036854775807:Int); omega)
   refine ar_quo ?_ ?_
   refine an ?_ ?_
   assumption
   refine an ?_ ?_
   (show x≤(9223372036854775807:Int); omega)
   (show (1:Int)≤(86400:Int); omega)
   refine ar_is hr7 ?_
   refine ix_at hx1 ?_ ?_
   (show (0:Int)≤(↑k:Int); omega)
   refine an ?_ ?_
   refine an ?_ ?_
   (show (0:Int)≤(3:Int); omega)
   (show (3:Int) < (↑(7:Nat):Int); omega)
   refine b_intro (fun t2=>?_) (fun t2=>?_)
   refine ar_rem ?_ ?_
   refine an ?_ ?_
   assumption
   (show (1:Int)≤(86400:Int); omega)
   refine ix_at hx1 ?_ ?_
   (show (0:Int)≤(↑k:Int); omega)
   refine sd ?_
   refine b_le (fun t3=>?_) (fun t3=>?_)
   refine sd ?_
   refine b_lt (fun t4=>?_) (fun t4=>?_)
   refine ar_add ?_ ?_
   refine an ?_ ?_
   (show (-9223372036854775808:Int)≤(↑k:Int)+(1:Int); omega)
   (show (↑k:Int)+(1:Int)≤(9223372036854775807:Int); omega)
   rotate_left
   refine ar_add ?_ ?_
   refine an ?_ ?_
   (show (-9223372036854775808:Int)≤(↑k:Int)+(1:Int); omega)
   (show (↑k:Int)+(1:Int)≤(9223372036854775807:Int); omega)
   rotate_left
   refine sd ?_
   refine ar_add ?_ ?_
   refine an ?_ ?_
   (show (-9223372036854775808:Int)≤(↑k:Int)+(1:Int); omega)
   (show (↑k:Int)+(1:Int)≤(9223372036854775807:Int); omega)
   rotate_left
   refine sd ?_
   refine sd ?_
   refine ar_add ?_ ?_
   refine an ?_ ?_
   (show (-9223372036854775808:Int)≤(↑k:Int)+(1:Int); omega)
   (show (↑k:Int)+(1:Int)≤(9223372036854775807:Int); omega)
   rotate_left
   (exfalso; omega)
   all_goals first | exact fin0 (by simp [*]; done) | exact fin1 (by simp [*]; done)
  ·have hp:h.day (x / 86400 % 7).toNat=h.d4:=by rw [e]; rfl
   rw [hp] at fin0 fin1
   have hr7:=rem7 (q:=x / 86400) (by omega) e
   refine sd ?_
   refine b_lt (fun t1=>?_) (fun t1=>?_)
   refine ar_quo ?_ ?_
   refine an ?_ ?_
   assumption
   refine an ?_ ?_
   (show x≤(9223372036854775807:Int); omega)
   (show (1:Int)≤(86400:Int); omega)
   refine ar_mul ?_ ?_
   refine an ?_ ?_
   (show (-9223372036854775808:Int)≤x / (86400:Int) * (86400:Int); omega)
   (show x / (86400:Int) * (86400:Int)≤(9223372036854775807:Int); omega)
   refine ix_at hx1 ?_ ?_
   (show (0:Int)≤(↑k:Int); omega)
   refine ar_add ?_ ?_
   refine an ?_ ?_
   (show (-9223372036854775808:Int)≤x / (86400:Int) * (86400:Int)+Hr.t h; omega)
   (show x / (86400:Int) * (86400:Int)+Hr.t h≤(9223372036854775807:Int); omega)
   refine ar_quo ?_ ?_
   refine an ?_ ?_
   assumption
   refine an ?_ ?_
   (show x≤(9223372036854775807:Int); omega)
   (show (1:Int)≤(86400:Int); omega)
   refine ar_is hr7 ?_
   refine ix_at hx1 ?_ ?_
   (show (0:Int)≤(↑k:Int); omega)
   refine an ?_ ?_
   refine an ?_ ?_
   (show (0:Int)≤(4:Int); omega)
   (show (4:Int) < (↑(7:Nat):Int); omega)
   refine b_intro (fun t2=>?_) (fun t2=>?_)
   refine ar_rem ?_ ?_
   refine an ?_ ?_
   assumption
   (show (1:Int)≤(86400:Int); omega)
   refine ix_at hx1 ?_ ?_
   (show (0:Int)≤(↑k:Int); omega)
   refine sd ?_
   refine b_le (fun t3=>?_) (fun t3=>?_)
   refine sd ?_
   refine b_lt (fun t4=>?_) (fun t4=>?_)
   refine ar_add ?_ ?_
   refine an ?_ ?_
   (show (-9223372036854775808:Int)≤(↑k:Int)+(1:Int); omega)
   (show (↑k:Int)+(1:Int)≤(9223372036854775807:Int); omega)
   rotate_left
   refine ar_add ?_ ?_
   refine an ?_ ?_
   (show (-9223372036854775808:Int)≤(↑k:Int)+(1:Int); omega)
   (show (↑k:Int)+(1:Int)≤(9223372036854775807:Int); omega)
   rotate_left
   refine sd ?_
   refine ar_add ?_ ?_
   refine an ?_ ?_
   (show (-9223372036854775808:Int)≤(↑k:Int)+(1:Int); omega)
   (show (↑k:Int)+(1:Int)≤(9223372036854775807:Int); omega)
   rotate_left
   refine sd ?_
   refine sd ?_
   refine ar_add ?_ ?_
   refine an ?_ ?_
   (show (-9223372036854775808:Int)≤(↑k:Int)+(1:Int); omega)
   (show (↑k:Int)+(1:Int)≤(9223372036854775807:Int); omega)
   rotate_left
   (exfalso; omega)
   all_goals first | exact fin0 (by simp [*]; done) | exact fin1 (by simp [*]; done)
  ·have hp:h.day (x / 86400 % 7).toNat=h.d5:=by rw [e]; rfl
   rw [hp] at fin0 fin1
   have hr7:=rem7 (q:=x / 86400) (by omega) e
   refine sd ?_
   refine b_lt (fun t1=>?_) (fun t1=>?_)
   refine ar_quo ?_ ?_
   refine an ?_ ?_
   assumption
   refine an ?_ ?_
   (show x≤(9223372036854775807:Int); omega)
   (show (1:Int)≤(86400:Int); omega)
   refine ar_mul ?_ ?_
   refine an ?_ ?_
   (show (-9223372036854775808:Int)≤x / (86400:Int) * (86400:Int); omega)
   (show x / (86400:Int) * (86400:Int)≤(9223372036854775807:Int); omega)
   refine ix_at hx1 ?_ ?_
   (show (0:Int)≤(↑k:Int); omega)
   refine ar_add ?_ ?_
   refine an ?_ ?_
   (show (-9223372036854775808:Int)≤x / (86400:Int) * (86400:Int)+Hr.t h; omega)
   (show x / (86400:Int) * (86400:Int)+Hr.t h≤(9223372036854775807:Int); omega)
   refine ar_quo ?_ ?_
   refine an ?_ ?_
   assumption
   refine an ?_ ?_
   (show x≤(9223372036854775807:Int); omega)
   (show (1:Int)≤(86400:Int); omega)
   refine ar_is hr7 ?_
   refine ix_at hx1 ?_ ?_
   (show (0:Int)≤(↑k:Int); omega)
   refine an ?_ ?_
   refine an ?_ ?_
   (show (0:Int)≤(5:Int); omega)
   (show (5:Int) < (↑(7:Nat):Int); omega)
   refine b_intro (fun t2=>?_) (fun t2=>?_)
   refine ar_rem ?_ ?_
   refine an ?_ ?_
   assumption
   (show (1:Int)≤(86400:Int); omega)
   refine ix_at hx1 ?_ ?_
   (show (0:Int)≤(↑k:Int); omega)
   refine sd ?_
   refine b_le (fun t3=>?_) (fun t3=>?_)
   refine sd ?_
   refine b_lt (fun t4=>?_) (fun t4=>?_)
   refine ar_add ?_ ?_
   refine an ?_ ?_
   (show (-9223372036854775808:Int)≤(↑k:Int)+(1:Int); omega)
   (show (↑k:Int)+(1:Int)≤(9223372036854775807:Int); omega)
   rotate_left
   refine ar_add ?_ ?_
   refine an ?_ ?_
   (show (-9223372036854775808:Int)≤(↑k:Int)+(1:Int); omega)
   (show (↑k:Int)+(1:Int)≤(9223372036854775807:Int); omega)
   rotate_left
   refine sd ?_
   refine ar_add ?_ ?_
   refine an ?_ ?_
   (show (-9223372036854775808:Int)≤(↑k:Int)+(1:Int); omega)
   (show (↑k:Int)+(1:Int)≤(9223372036854775807:Int); omega)
   rotate_left
   refine sd ?_
   refine sd ?_
   refine ar_add ?_ ?_
   refine an ?_ ?_
   (show (-9223372036854775808:Int)≤(↑k:Int)+(1:Int); omega)
   (show (↑k:Int)+(1:Int)≤(9223372036854775807:Int); omega)
   rotate_left
   (exfalso; omega)
   all_goals first | exact fin0 (by simp [*]; done) | exact fin1 (by simp [*]; done)
  ·have hp:h.day (x / 86400 % 7).toNat=h.d6:=by rw [e]; rfl
   rw [hp] at fin0 fin1
   have hr7:=rem7 (q:=x / 86400) (by omega) e
   refine sd ?_
   refine b_lt (fun t1=>?_) (fun t1=>?_)
   refine ar_quo ?_ ?_
   refine an ?_ ?_
   assumption
   refine an ?_ ?_
   (show x≤(9223372036854775807:Int); omega)
   (show (1:Int)≤(86400:Int); omega)
   refine ar_mul ?_ ?_
   refine an ?_ ?_
   (show (-9223372036854775808:Int)≤x / (86400:Int) * (86400:Int); omega)
   (show x / (86400:Int) * (86400:Int)≤(9223372036854775807:Int); omega)
   refine ix_at hx1 ?_ ?_
   (show (0:Int)≤(↑k:Int); omega)
   refine ar_add ?_ ?_
   refine an ?_ ?_
   (show (-9223372036854775808:Int)≤x / (86400:Int) * (86400:Int)+Hr.t h; omega)
   (show x / (86400:Int) * (86400:Int)+Hr.t h≤(9223372036854775807:Int); omega)
   refine ar_quo ?_ ?_
   refine an ?_ ?_
   assumption
   refine an ?_ ?_
   (show x≤(9223372036854775807:Int); omega)
   (show (1:Int)≤(86400:Int); omega)
   refine ar_is hr7 ?_
   refine ix_at hx1 ?_ ?_
   (show (0:Int)≤(↑k:Int); omega)
   refine an ?_ ?_
   refine an ?_ ?_
   (show (0:Int)≤(6:Int); omega)
   (show (6:Int) < (↑(7:Nat):Int); omega)
   refine b_intro (fun t2=>?_) (fun t2=>?_)
   refine ar_rem ?_ ?_
   refine an ?_ ?_
   assumption
   (show (1:Int)≤(86400:Int); omega)
   refine ix_at hx1 ?_ ?_
   (show (0:Int)≤(↑k:Int); omega)
   refine sd ?_
   refine b_le (fun t3=>?_) (fun t3=>?_)
   refine sd ?_
   refine b_lt (fun t4=>?_) (fun t4=>?_)
   refine ar_add ?_ ?_
   refine an ?_ ?_
   (show (-9223372036854775808:Int)≤(↑k:Int)+(1:Int); omega)
   (show (↑k:Int)+(1:Int)≤(9223372036854775807:Int); omega)
   rotate_left
   refine ar_add ?_ ?_
   refine an ?_ ?_
   (show (-9223372036854775808:Int)≤(↑k:Int)+(1:Int); omega)
   (show (↑k:Int)+(1:Int)≤(9223372036854775807:Int); omega)
   rotate_left
   refine sd ?_
   refine ar_add ?_ ?_
   refine an ?_ ?_
   (show (-9223372036854775808:Int)≤(↑k:Int)+(1:Int); omega)
   (show (↑k:Int)+(1:Int)≤(9223372036854775807:Int); omega)
   rotate_left
   refine sd ?_
   refine sd ?_
   refine ar_add ?_ ?_
   refine an ?_ ?_
   (show (-9223372036854775808:Int)≤(↑k:Int)+(1:Int); omega)
   (show (↑k:Int)+(1:Int)≤(9223372036854775807:Int); omega)
   rotate_left
   (exfalso; omega)
   all_goals first | exact fin0 (by simp [*]; done) | exact fin1 (by simp [*]; done)
 ·rw [List.drop_eq_nil_of_le (by omega)] at hi
  have hi:nxR x l (x+1)=m:=hi
  have e:k=l.length:=by omega
  rw [hi] at hQ
  subst e
  refine sd ?_
  refine b_lt (fun t1=>?_) (fun t1=>?_)
  (exfalso; omega)
  rotate_left
  all_goals exact hQ
end Vc.L
