import Derived.Test.YthociffnlhdenaaGreatDoorG12
import Derived.Test.YthociffnlhdenaaGreatDoorG16
set_option linter.unusedSectionVars false
set_option linter.unusedVariables false
set_option linter.unusedSimpArgs false
set_option maxRecDepth 10000
set_option maxHeartbeats 4000000
namespace Vc
open Go Go.Proofs
def ir3:AFun:=⟨107,1,[.tmp 6],
 (.seq
 (.reg [0] [⟨some 3,.cbx 0 2 (.tmp 0),none⟩,
 ⟨some 6,.mov (.cst (.d (.bool false))),none⟩])
 (.seq
 (.seq
 (.reg [] [⟨some 19,.ld true 2 (.tmp 3),none⟩,
 ⟨some 20,.call 15 [(.tmp 19)],none⟩,
 ⟨some 21,.not (.tmp 20),none⟩,
 ⟨some 22,.mov (.tmp 21),none⟩,
 ⟨some 23,.mov (.tmp 2),some (22,false)⟩,
 ⟨some 24,.len (.tmp 23),some (22,false)⟩,
 ⟨some 25,.cmp .gtr (.tmp 24) (.cst (.d (.int .i64 12))),some (22,false)⟩,
 ⟨some 26,.mov (.tmp 25),some (22,false)⟩,
 ⟨some 27,.mov (.tmp 2),some (26,true)⟩,
 ⟨some 28,.len (.tmp 27),some (26,true)⟩,
 ⟨some 29,.cmp .neq (.tmp 28) (.cst (.d (.int .i64 33))),some (26,true)⟩,
 ⟨some 30,.pick (.tmp 26) (.tmp 29) (.cst (.d (.bool false))),some (22,false)⟩,
 ⟨some 31,.pick (.tmp 22) (.cst (.d (.bool true))) (.tmp 30),none⟩])
 (.cond (.tmp 31)
 (.seq
 (.reg [] [⟨some 32,.call 16 [],none⟩,
 ⟨some 6,.mov (.tmp 32),none⟩])
 .ret)
 .skip))
 (.seq
 (.reg [] [⟨some 34,.ld true 2 (.tmp 3),none⟩,
 ⟨some 35,.call 18 [(.tmp 34)],none⟩,
 ⟨some 36,.mov (.tmp 1),none⟩,
 ⟨some 37,.call 17 [(.tmp 35),(.tmp 36)],none⟩,
 ⟨some 33,.mov (.tmp 37),none⟩,
 ⟨some 38,.ext 0 (.tmp 33),none⟩,
 ⟨some 39,.ext 1 (.tmp 33),none⟩,
 ⟨some 7,.mov (.tmp 38),none⟩,
 ⟨some 8,.mov (.tmp 39),none⟩])
 (.seq
 (.reg [] [⟨some 41,.ld true 2 (.tmp 3),none⟩,
 ⟨some 42,.call 18 [(.tmp 41)],none⟩,
 ⟨some 43,.mov (.tmp 2),none⟩,
 ⟨some 44,.call 20 [(.tmp 43)],none⟩,
 ⟨some 45,.call 19 [(.tmp 42),(.tmp 44)],none⟩,
 ⟨some 40,.mov (.tmp 45),none⟩,
 ⟨some 46,.ext 0 (.tmp 40),none⟩,
 ⟨some 47,.ext 1 (.tmp 40),none⟩,
 ⟨some 9,.mov (.tmp 46),none⟩,
 ⟨some 10,.mov (.tmp 47),none⟩])
 (.seq
 (.reg [] [⟨some 49,.ld true 2 (.tmp 3),none⟩,
 ⟨some 50,.call 18 [(.tmp 49)],none⟩,
 ⟨some 51,.mov (.tmp 1),none⟩,
 ⟨some 52,.call 21 [(.tmp 50),(.tmp 51)],none⟩,
 ⟨some 48,.mov (.tmp 52),none⟩,
 ⟨some 53,.ext 0 (.tmp 48),none⟩,
 ⟨some 54,.ext 1 (.tmp 48),none⟩,
 ⟨some 11,.mov (.tmp 53),none⟩,
 ⟨some 12,.mov (.tmp 54),none⟩])
 (.seq
 (.reg [] [⟨some 55,.ld true 2 (.tmp 3),none⟩,
 ⟨some 56,.call 22 [(.tmp 55)],none⟩,
 ⟨some 13,.mov (.tmp 56),none⟩])
 (.seq
 (.reg [] [⟨some 57,.mov (.tmp 13),none⟩,
 ⟨some 58,.mov (.tmp 13),none⟩,
 ⟨some 14,.mov (.tmp 57),none⟩,
 ⟨some 15,.mov (.tmp 58),none⟩,
 ⟨some 16,.mov (.cst (.d (.int .i64 0))),none⟩])
 (.seq
 (.reg [] [⟨some 17,.mov (.cst (.nils 1)),none⟩,
 ⟨some 18,.mov (.cst (.nils 1)),none⟩])
 (.seq
 (.seq
 (.reg [] [⟨some 59,.mov (.tmp 13),none⟩,
 ⟨some 60,.cmp .eql (.tmp 59) (.cst (.d (.int .i64 0))),none⟩])
 (.cond (.tmp 60)
 (.seq
 (.reg [] [⟨some 61,.ld true 2 (.tmp 3),none⟩,
 ⟨some 62,.mov (.tmp 1),none⟩,
 ⟨some 63,.call 23 [(.tmp 61),(.tmp 62)],none⟩,
 ⟨some 14,.mov (.tmp 63),none⟩])
 (.reg [] [⟨some 65,.ld true 2 (.tmp 3),none⟩,
 ⟨some 66,.mov (.tmp 2),none⟩,
 ⟨some 67,.call 24 [(.tmp 65),(.tmp 66)],none⟩,
 ⟨some 64,.mov (.tmp 67),none⟩,
 ⟨some 68,.ext 0 (.tmp 64),none⟩,
 ⟨some 69,.ext 1 (.tmp 64),none⟩,
 ⟨some 16,.mov (.tmp 68),none⟩,
 ⟨some 15,.mov (.tmp 69),none⟩]))
 .skip))
 (.seq
 (.seq
 (.reg [] [⟨some 70,.mov (.tmp 14),none⟩,
 ⟨some 71,.cmp .eql (.tmp 70) (.cst (.d (.int .i64 0))),none⟩])
 (.cond (.tmp 71)
 (.regd [] [⟨some 72,.ld true 2 (.tmp 3),none⟩,
 ⟨some 73,.mov (.tmp 1),none⟩,
 ⟨some 74,.call 25 [(.tmp 72),(.tmp 73)],none⟩,
 ⟨some 75,.ld true 2 (.tmp 3),none⟩,
 ⟨some 76,.mov (.tmp 1),none⟩,
 ⟨some 77,.call 26 [(.tmp 75),(.tmp 76)],none⟩,
 ⟨some 17,.mov (.tmp 74),none⟩,
 ⟨some 18,.mov (.tmp 77),none⟩] [(0,1),(0,3),(1,3),(2,3),(0,4),(1,4),(2,4),(3,4)])
 .skip))
 (.seq
 (.reg [] [⟨some 78,.ld true 2 (.tmp 3),none⟩,
 ⟨some 79,.call 18 [(.tmp 78)],none⟩,
 ⟨some 80,.call 27 [(.tmp 79)],none⟩,
 ⟨some 81,.mov (.tmp 13),none⟩,
 ⟨some 82,.cmp .eql (.tmp 80) (.tmp 81),none⟩,
 ⟨some 83,.mov (.tmp 82),none⟩,
 ⟨some 84,.mov (.tmp 7),some (83,true)⟩,
 ⟨some 85,.mov (.tmp 8),some (83,true)⟩,
 ⟨some 86,.mov (.tmp 14),some (83,true)⟩,
 ⟨some 87,.mov (.tmp 17),some (83,true)⟩,
 ⟨some 88,.call 28 [(.tmp 84),(.tmp 85),(.tmp 86),(.tmp 87)],some (83,true)⟩,
 ⟨some 89,.pick (.tmp 83) (.tmp 88) (.cst (.d (.bool false))),none⟩,
 ⟨some 90,.mov (.tmp 89),none⟩,
 ⟨some 91,.mov (.tmp 9),some (90,true)⟩,
 ⟨some 92,.mov (.tmp 10),some (90,true)⟩,
 ⟨some 93,.mov (.tmp 15),some (90,true)⟩,
 ⟨some 94,.mov (.tmp 16),some (90,true)⟩,
 ⟨some 95,.call 29 [(.tmp 91),(.tmp 92),(.tmp 93),(.tmp 94)],some (90,true)⟩,
 ⟨some 96,.pick (.tmp 90) (.tmp 95) (.cst (.d (.bool false))),none⟩,
 ⟨some 97,.mov (.tmp 96),none⟩,
 ⟨some 98,.mov (.tmp 11),some (97,true)⟩,
 ⟨some 99,.mov (.tmp 12),some (97,true)⟩,
 ⟨some 100,.mov (.tmp 14),some (97,true)⟩,
 ⟨some 101,.mov (.tmp 18),some (97,true)⟩,
 ⟨some 102,.call 28 [(.tmp 98),(.tmp 99),(.tmp 100),(.tmp 101)],some (97,true)⟩,
 ⟨some 103,.pick (.tmp 97) (.tmp 102) (.cst (.d (.bool false))),none⟩,
 ⟨some 104,.mov (.tmp 103),none⟩,
 ⟨some 105,.call 16 [],some (104,true)⟩,
 ⟨some 106,.pick (.tmp 104) (.tmp 105) (.cst (.d (.bool false))),none⟩,
 ⟨some 6,.mov (.tmp 106),none⟩])
 .ret)))))))))))⟩
theorem costG_zero (m:Ms):∀ (r:List Int) (p s:Int),(costG m p r s).2≠0→(costG m p r s).1=0
 | [],p,s,h=>absurd rfl h
 | x::r,p,s,h=>by
  unfold costG at h ⊢
  cases hb:(betw m.ls p x==0)
  ·rw [hb] at h
   exact costG_zero m r x _ h
  ·rfl
theorem cost_zero (m:Ms) (r:List Int) (h:(m.cost r).2≠0):(m.cost r).1=0:=by
 unfold Ms.cost at h ⊢
 cases hb:(costE m r != 0)
 ·rw [hb] at h
  cases r with
  | nil=>rfl
  | cons p r=>exact costG_zero m r p 0 h
 ·rfl
theorem costP_0 {m:Ms} (h:m.chk=0) (r:List Int):m.costP r=m.cost r:=by unfold Ms.costP; rw [h]; rfl
theorem costP_1 {m:Ms} (h:¬ m.chk=0) (r:List Int):m.costP r=(0,m.chk):=by unfold Ms.costP; rw [show (m.chk != 0)=true by rw [bne_iff_ne]; exact h]; rfl
theorem cost_v {m:Ms} (h:m.chk=0) (r:List Int):(m.costP r).1=bif (m.cost r).2 != 0 then 0 else (m.cost r).1:=by
 rw [costP_0 h]
 cases hb:((m.cost r).2 != 0)
 ·rfl
 ·exact cost_zero m r (by rwa [bne_iff_ne] at hb)
theorem nbsP_le (m:Ms) (i:Int) (hn:m.ns.length≤1048576):(m.nbsP i).length≤1048576:=by
 unfold Ms.nbsP
 cases (nodeD m i != 0)
 ·have:=nbs_len m i m.ns.length
  show (Vc.nbs m i m.ns.length).length≤_; omega
 ·exact Nat.zero_le _
theorem passes_len (ls:List Lk):∀ (k:Nat) (d:List Int),(passes ls k d).length=d.length
 | 0,d=>rfl
 | k+1,d=>by
  show (pass ls (passes ls k d)).length=_
  rw [pass_len,passes_len ls k]
theorem distP_le (m:Ms) (i:Int) (hn:m.ns.length≤1048576):(m.distP i).length≤1048576:=by
 unfold Ms.distP
 cases (nodeD m i != 0)
 ·show (passes m.ls (m.ns.length - 1) (start m.ns.length i.toNat)).length≤_
  rw [passes_len]; unfold start; rw [List.length_set,List.length_replicate]; exact hn
 ·exact Nat.zero_le _
theorem nbsP_nil {m:Ms} {i:Int} (h:¬ nodeD m i=0):m.nbsP i=[]:=by unfold Ms.nbsP; rw [show (nodeD m i != 0)=true by rw [bne_iff_ne]; exact h]; rfl
theorem distP_nil {m:Ms} {i:Int} (h:¬ nodeD m i=0):m.distP i=[]:=by unfold Ms.distP; rw [show (nodeD m i != 0)=true by rw [bne_iff_ne]; exact h]; rfl
theorem c3 (hw : CallDet Tryz.prog 16 [] [.bool true]) (m : Ms) (i : Int) (r : List Int) (hn : m.ns.length ≤ 1048576) (hl : m.ls.length ≤ 1048576) (hr : r.length ≤ 1048576) :
  CallDet Tryz.prog 3 [.d m.d,.d (.int .i64 i),.d (.slice 1 (ints r))] [.bool true]:=by
 have c16_:=hw
 refine call_of_vc (x:=ir3) (by kernel_rfl) rfl ?_
 refine ca (c15 m (by omega)) ?_
 refine b_intro (fun t1=>?_) (fun t1=>?_)
 refine sd ?_
 refine ca c16_ ?_
 exact rfl
 refine sd ?_
 refine b_lt (fun t2=>?_) (fun t2=>?_)
 refine sd ?_
 refine b_ne (fun t3=>?_) (fun t3=>?_)
 refine ca c16_ ?_
 exact rfl
 refine ca (c18 m (by omega) (by omega)) ?_
 refine ca (c17 m i (by omega) (by omega)) ?_
 refine ca (c18 m (by omega) (by omega)) ?_
 refine ca (c20 r (by omega)) ?_
 refine ca (c19 m r (by omega) (by omega) (by omega)) ?_
 refine ca (c18 m (by omega) (by omega)) ?_
 refine ca (c21 m i (by omega) (by omega)) ?_
 refine ca (c22 m (by omega) (by omega)) ?_
 refine sd ?_
 refine b_eq (fun t4=>?_) (fun t4=>?_)
 refine ca (c23 m i) ?_
 refine ca (c24 m r (chk_fine ‹_›) (by omega)) ?_
 refine sd ?_
 refine b_eq (fun t5=>?_) (fun t5=>?_)
 refine ca (c25 m i (by omega) (by omega) (chk_fine ‹m.chk=0›).asc) ?_
 refine ca (c26 m i (chk_fine ‹_›) (node_in ‹m.nodeE i=0›).1 (node_in ‹m.nodeE i=0›).2) ?_
 refine ca (c18 m (by omega) (by omega)) ?_
 refine ca (c27 m (by omega) (by omega)) ?_
 refine sd ?_
 refine b_eq (fun t6=>?_) (fun t6=>?_)
 refine ca (c28_y _ _ _ _ ?_ ?_ ?_) ?_
 rotate_left
 rotate_left
 rotate_left
 refine ca (c29_y _ _ _ _ ?_ ?_) ?_
 rotate_left
 rotate_left
 refine ca (c28_y _ _ _ _ ?_ ?_ ?_) ?_
 rotate_left
 rotate_left
 rotate_left
 refine ca c16_ ?_
 exact rfl
 (exfalso; omega)
 refine ca (c18 m (by omega) (by omega)) ?_
 refine ca (c27 m (by omega) (by omega)) ?_
 refine sd ?_
 refine b_eq (fun t7=>?_) (fun t7=>?_)
 refine ca (c28_n _ _ _ ?_ ?_ ?_) ?_
 rotate_left
 rotate_left
 rotate_left
 refine ca (c29_y _ _ _ _ ?_ ?_) ?_
 rotate_left
 rotate_left
 refine ca (c28_n _ _ _ ?_ ?_ ?_) ?_
 rotate_left
 rotate_left
 rotate_left
 refine ca c16_ ?_
 exact rfl
 (exfalso; omega)
 refine sd ?_
 refine b_eq (fun t8=>?_) (fun t8=>?_)
 (exfalso; omega)
 refine ca (c18 m (by omega) (by omega)) ?_
 refine ca (c27 m (by omega) (by omega)) ?_
 refine sd ?_
 refine b_eq (fun t9=>?_) (fun t9=>?_)
 refine ca (c28_n _ _ _ ?_ ?_ ?_) ?_
 rotate_left
 rotate_left
 rotate_left
 refine ca (c29_y _ _ _ _ ?_ ?_) ?_
 rotate_left
 rotate_left
 refine ca (c28_n _ _ _ ?_ ?_ ?_) ?_
 rotate_left
 rotate_left
 rotate_left
 refine ca c16_ ?_
 exact rfl
 (exfalso; omega)
 refine sd ?_
 refine ca (c18 m (by omega) (by omega)) ?_
 refine ca (c17 m i (by omega) (by omega)) ?_
 refine ca (c18 m (by omega) (by omega)) ?_
 refine ca (c20 r (by omega)) ?_
 refine ca (c19 m r (by omega) (by omega) (by omega)) ?_
 refine ca (c18 m (by omega) (by omega)) ?_
 refine ca (c21 m i (by omega) (by omega)) ?_
 refine ca (c22 m (by omega) (by omega)) ?_
 refine sd ?_
 refine b_eq (fun t10=>?_) (fun t10=>?_)
 refine ca (c23 m i) ?_
 refine ca (c24 m r (chk_fine ‹_›) (by omega)) ?_
 refine sd ?_
 refine b_eq (fun t11=>?_) (fun t11=>?_)
 refine ca (c25 m i (by omega) (by omega) (chk_fine ‹m.chk=0›).asc) ?_
 refine ca (c26 m i (chk_fine ‹_›) (node_in ‹m.nodeE i=0›).1 (node_in ‹m.nodeE i=0›).2) ?_
 refine ca (c18 m (by omega) (by omega)) ?_
 refine ca (c27 m (by omega) (by omega)) ?_
 refine sd ?_
 refine b_eq (fun t12=>?_) (fun t12=>?_)
 refine ca (c28_y _ _ _ _ ?_ ?_ ?_) ?_
 rotate_left
 rotate_left
 rotate_left
 refine ca (c29_y _ _ _ _ ?_ ?_) ?_
 rotate_left
 rotate_left
 refine ca (c28_y _ _ _ _ ?_ ?_ ?_) ?_
 rotate_left
 rotate_left
 rotate_left
 refine ca c16_ ?_
 exact rfl
 (exfalso; omega)
 refine ca (c18 m (by omega) (by omega)) ?_
 refine ca (c27 m (by omega) (by omega)) ?_
 refine sd ?_
 refine b_eq (fun t13=>?_) (fun t13=>?_)
 refine ca (c28_n _ _ _ ?_ ?_ ?_) ?_
 rotate_left
 rotate_left
 rotate_left
 refine ca (c29_y _ _ _ _ ?_ ?_) ?_
 rotate_left
 rotate_left
 refine ca (c28_n _ _ _ ?_ ?_ ?_) ?_
 rotate_left
 rotate_left
 rotate_left
 refine ca c16_ ?_
 exact rfl
 (exfalso; omega)
 refine sd ?_
 refine b_eq (fun t14=>?_) (fun t14=>?_)
 (exfalso; omega)
 refine ca (c18 m (by omega) (by omega)) ?_
 refine ca (c27 m (by omega) (by omega)) ?_
 refine sd ?_
 refine b_eq (fun t15=>?_) (fun t15=>?_)
 refine ca (c28_n _ _ _ ?_ ?_ ?_) ?_
 rotate_left
 rotate_left
 rotate_left
 refine ca (c29_y _ _ _ _ ?_ ?_) ?_
 rotate_left
 rotate_left
 refine ca (c28_n _ _ _ ?_ ?_ ?_) ?_
 rotate_left
 rotate_left
 rotate_left
 refine ca c16_ ?_
 exact rfl
 (exfalso; omega)
 all_goals first
  | exact nbsP_le m i hn
  | exact distP_le m i hn
  | exact nodeD_good ‹_›
  | exact nodeD_bad ‹_›
  | (unfold Ms.nbsP; rw [nodeD_good ‹_›]; done)
  | (unfold Ms.distP; rw [nodeD_good ‹_›]; done)
  | exact nbsP_nil (by rw [nodeD_good ‹_›]; assumption)
  | exact distP_nil (by rw [nodeD_good ‹_›]; assumption)
  | exact nbsP_nil (by rw [nodeD_bad ‹_›]; assumption)
  | exact distP_nil (by rw [nodeD_bad ‹_›]; assumption)
  | exact cost_v ‹_› r
  | (rw [costP_0 ‹_›]; done)
  | (rw [costP_1 ‹_›]; done)
  | (rw [costP_1 ‹_›]; exact (by cases (m.chk != 0) <;> rfl))
  | skip
end Vc
