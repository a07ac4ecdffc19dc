import Derived.Test.YthociffnlhdenaaGreatDoorG12
import Derived.Test.YthociffnlhdenaaGreatDoorG16
import Derived.Test.YthociffnlhdenaaGreatDoorG18
import Derived.Test.YthociffnlhdenaaGreatDoorG17
import Derived.Test.YthociffnlhdenaaGreatDoorG10
import Derived.Test.YthociffnlhdenaaGreatDoorG15
set_option linter.unusedSectionVars false
set_option linter.unusedVariables false
set_option linter.unusedSimpArgs false
set_option maxRecDepth 10000
set_option maxHeartbeats 4000000
namespace Vc
open Go Go.Proofs
def ir45:AFun:=⟨20,2,[.tmp 4,.tmp 5],
 (.seq
 (.reg [0] [⟨some 2,.cbx 0 2 (.tmp 0),none⟩,
 ⟨some 4,.mov (.cst (.nils 1)),none⟩,
 ⟨some 5,.mov (.cst (.d (.int .i64 0))),none⟩])
 (.seq
 (.seq
 (.regd [1] [⟨some 7,.ld true 2 (.tmp 2),none⟩,
 ⟨some 8,.call 27 [(.tmp 7)],none⟩,
 ⟨some 9,.ld true 2 (.tmp 2),none⟩,
 ⟨some 10,.mov (.tmp 1),none⟩,
 ⟨some 11,.call 87 [(.tmp 9),(.tmp 10)],none⟩,
 ⟨some 12,.bsl 1 29 1 2 [(.int .i64 0),(.int .i64 0)] [(0,(.tmp 8)),(1,(.tmp 11))],none⟩,
 ⟨some 13,.call 86 [(.tmp 12)],none⟩,
 ⟨some 6,.mov (.tmp 13),none⟩] [(0,2),(1,2),(0,3),(1,3),(2,3)])
 (.seq
 (.reg [] [⟨some 14,.mov (.tmp 6),none⟩,
 ⟨some 15,.cmp .neq (.tmp 14) (.cst (.d (.int .i64 0))),none⟩])
 (.cond (.tmp 15)
 (.seq
 (.reg [] [⟨some 16,.mov (.tmp 6),none⟩,
 ⟨some 4,.mov (.cst (.nils 1)),none⟩,
 ⟨some 5,.mov (.tmp 16),none⟩])
 .ret)
 .skip)))
 (.seq
 (.reg [] [⟨some 17,.ld true 2 (.tmp 2),none⟩,
 ⟨some 18,.mov (.tmp 1),none⟩,
 ⟨some 19,.call 111 [(.tmp 17),(.tmp 18)],none⟩,
 ⟨some 4,.mov (.tmp 19),none⟩,
 ⟨some 5,.mov (.cst (.d (.int .i64 0))),none⟩])
 .ret)))⟩
def ir46:AFun:=⟨24,1,[.tmp 6,.tmp 7],
 (.seq
 (.reg [0] [⟨some 3,.cbx 0 2 (.tmp 0),none⟩,
 ⟨some 6,.mov (.cst (.nils 1)),none⟩,
 ⟨some 7,.mov (.cst (.d (.int .i64 0))),none⟩])
 (.seq
 (.seq
 (.reg [] [⟨some 10,.ld true 2 (.tmp 3),none⟩,
 ⟨some 11,.mov (.tmp 1),none⟩,
 ⟨some 12,.mov (.tmp 2),none⟩,
 ⟨some 13,.call 112 [(.tmp 10),(.tmp 11),(.tmp 12)],none⟩,
 ⟨some 8,.mov (.tmp 13),none⟩])
 (.seq
 (.reg [] [⟨some 14,.mov (.tmp 8),none⟩,
 ⟨some 15,.cmp .neq (.tmp 14) (.cst (.d (.int .i64 0))),none⟩])
 (.cond (.tmp 15)
 (.seq
 (.reg [] [⟨some 16,.mov (.tmp 8),none⟩,
 ⟨some 6,.mov (.cst (.nils 1)),none⟩,
 ⟨some 7,.mov (.tmp 16),none⟩])
 .ret)
 .skip)))
 (.seq
 (.reg [] [⟨some 17,.ld true 2 (.tmp 3),none⟩,
 ⟨some 18,.mov (.tmp 1),none⟩,
 ⟨some 19,.call 111 [(.tmp 17),(.tmp 18)],none⟩,
 ⟨some 9,.mov (.tmp 19),none⟩])
 (.seq
 (.seq
 (.reg [] [⟨some 20,.mov (.tmp 9),none⟩,
 ⟨some 21,.mov (.tmp 2),none⟩,
 ⟨some 22,.call 113 [(.tmp 20),(.tmp 21)],none⟩])
 (.cond (.tmp 22)
 (.seq
 (.reg [] [⟨some 6,.mov (.cst (.nils 1)),none⟩,
 ⟨some 7,.mov (.cst (.d (.int .i64 21))),none⟩])
 .ret)
 .skip))
 (.seq
 (.reg [] [⟨some 23,.mov (.tmp 9),none⟩,
 ⟨some 6,.mov (.tmp 23),none⟩,
 ⟨some 7,.mov (.cst (.d (.int .i64 0))),none⟩])
 .ret)))))⟩
def ir111:AFun:=⟨25,3,[.tmp 4],
 (.seq
 (.reg [0] [⟨some 2,.cbx 0 2 (.tmp 0),none⟩,
 ⟨some 4,.mov (.cst (.nils 1)),none⟩])
 (.seq
 (.reg [] [⟨some 5,.mov (.cst (.nils 1)),none⟩])
 (.seq
 (.seq
 (.reg [] [⟨some 8,.ld true 2 (.tmp 2),none⟩,
 ⟨some 9,.mov (.tmp 1),none⟩,
 ⟨some 10,.call 92 [(.tmp 8),(.tmp 9)],none⟩,
 ⟨some 11,.len (.tmp 10),none⟩,
 ⟨some 12,.mov (.cst (.d (.int .i64 0))),none⟩])
 (.post [5] [0,1,2]
 (.block 0
 (.asrow 2 3 1 5
 (.keep [5,10,11,12] [0]
 (.loop
 (.post [5,10,11,12] [1,2]
 (.seq
 (.reg [] [⟨some 13,.cmp .lss (.tmp 12) (.tmp 11),none⟩])
 (.seq
 (.cond (.tmp 13)
 .skip
 (.exit 0))
 (.seq
 (.block 1
 (.seq
 (.reg [] [⟨some 14,.mov (.tmp 12),none⟩,
 ⟨some 15,.ixa 1 (.tmp 10) (.tmp 12),none⟩,
 ⟨some 16,.ld false 1 (.tmp 15),none⟩,
 ⟨some 6,.mov (.tmp 14),none⟩,
 ⟨some 7,.mov (.tmp 16),none⟩])
 (.seq
 (.reg [] [⟨some 17,.mov (.tmp 7),none⟩,
 ⟨some 18,.cmp .geq (.tmp 17) (.cst (.d (.int .i64 0))),none⟩])
 (.cond (.tmp 18)
 (.reg [1,2] [⟨some 19,.mov (.tmp 5),none⟩,
 ⟨some 20,.mov (.tmp 6),none⟩,
 ⟨some 21,.bsl 1 3 1 1 [(.int .i64 0)] [(0,(.tmp 20))],none⟩,
 ⟨some 22,.app 2 3 1 8 (.tmp 19) (.tmp 21),none⟩,
 ⟨some 5,.mov (.tmp 22),none⟩])
 .skip))))
 (.reg [] [⟨some 23,.arith .add .i64 (.tmp 12) (.cst (.d (.int .i64 1))),none⟩,
 ⟨some 12,.mov (.tmp 23),none⟩])))))))))))
 (.seq
 (.reg [] [⟨some 24,.mov (.tmp 5),none⟩,
 ⟨some 4,.mov (.tmp 24),none⟩])
 .ret))))⟩
def ir112:AFun:=⟨17,2,[.tmp 6],
 (.seq
 (.reg [0] [⟨some 3,.cbx 0 2 (.tmp 0),none⟩,
 ⟨some 6,.mov (.cst (.d (.int .i64 0))),none⟩])
 (.seq
 (.regd [1] [⟨some 7,.ld true 2 (.tmp 3),none⟩,
 ⟨some 8,.call 27 [(.tmp 7)],none⟩,
 ⟨some 9,.ld true 2 (.tmp 3),none⟩,
 ⟨some 10,.mov (.tmp 1),none⟩,
 ⟨some 11,.call 87 [(.tmp 9),(.tmp 10)],none⟩,
 ⟨some 12,.ld true 2 (.tmp 3),none⟩,
 ⟨some 13,.mov (.tmp 2),none⟩,
 ⟨some 14,.call 87 [(.tmp 12),(.tmp 13)],none⟩,
 ⟨some 15,.bsl 1 29 1 3 [(.int .i64 0),(.int .i64 0),(.int .i64 0)] [(0,(.tmp 8)),(1,(.tmp 11)),(2,(.tmp 14))],none⟩,
 ⟨some 16,.call 86 [(.tmp 15)],none⟩,
 ⟨some 6,.mov (.tmp 16),none⟩] [(0,2),(1,2),(0,3),(1,3),(2,3),(0,5),(1,5),(2,5),(3,5),(4,5),(0,6),(1,6),(2,6),(3,6),(4,6),(5,6)])
 .ret))⟩
def ir114:AFun:=⟨7,0,[.tmp 3],
 (.seq
 (.reg [] [⟨some 3,.mov (.cst (.d (.bool false))),none⟩])
 (.seq
 (.reg [] [⟨some 4,.ld false 1 (.tmp 1),none⟩,
 ⟨some 5,.mov (.tmp 0),none⟩,
 ⟨some 6,.call 113 [(.tmp 4),(.tmp 5)],none⟩,
 ⟨some 3,.mov (.tmp 6),none⟩])
 .ret))⟩
def ir116:AFun:=⟨13,1,[.tmp 3],
 (.seq
 (.reg [0] [⟨some 2,.cbx 0 3 (.tmp 0),none⟩,
 ⟨some 3,.mov (.cst (.d (.bool false))),none⟩])
 (.seq
 (.regd [] [⟨some 4,.ld false 1 (.tmp 1),none⟩,
 ⟨some 5,.fad 0 (.tmp 2),none⟩,
 ⟨some 6,.ld false 1 (.tmp 5),none⟩,
 ⟨some 7,.callv (.tmp 4) [(.tmp 6)],none⟩,
 ⟨some 8,.ld false 1 (.tmp 1),none⟩,
 ⟨some 9,.fad 1 (.tmp 2),none⟩,
 ⟨some 10,.ld false 1 (.tmp 9),none⟩,
 ⟨some 11,.callv (.tmp 8) [(.tmp 10)],none⟩,
 ⟨some 12,.beq true (.tmp 7) (.tmp 11),none⟩,
 ⟨some 3,.mov (.tmp 12),none⟩] [(0,1),(0,2),(0,4),(1,4),(2,4),(3,4),(0,5),(1,5),(2,5),(3,5),(4,5),(0,6),(1,6),(2,6),(3,6),(4,6)])
 .ret))⟩
def ir47:AFun:=⟨75,5,[.tmp 8],
 (.seq
 (.reg [0,1] [⟨some 4,.cbx 0 2 (.tmp 0),none⟩,
 ⟨some 7,.cbx 1 1 (.tmp 3),none⟩,
 ⟨some 8,.mov (.cst (.d (.int .i64 0))),none⟩])
 (.seq
 (.seq
 (.regd [2] [⟨some 15,.ld true 2 (.tmp 4),none⟩,
 ⟨some 16,.mov (.tmp 1),none⟩,
 ⟨some 17,.mov (.tmp 2),none⟩,
 ⟨some 18,.call 112 [(.tmp 15),(.tmp 16),(.tmp 17)],none⟩,
 ⟨some 19,.ld false 1 (.tmp 7),none⟩,
 ⟨some 20,.len (.tmp 19),none⟩,
 ⟨some 21,.cmp .gtr (.tmp 20) (.cst (.d (.int .i64 32))),none⟩,
 ⟨some 22,.call 89 [(.tmp 21),(.cst (.d (.int .i64 5)))],none⟩,
 ⟨some 23,.bsl 2 29 1 2 [(.int .i64 0),(.int .i64 0)] [(0,(.tmp 18)),(1,(.tmp 22))],none⟩,
 ⟨some 24,.call 86 [(.tmp 23)],none⟩,
 ⟨some 9,.mov (.tmp 24),none⟩] [(0,1),(0,2),(1,2),(0,4),(1,4),(2,4),(3,4),(0,5),(1,5),(2,5),(3,5),(0,6),(1,6),(2,6),(3,6)])
 (.seq
 (.reg [] [⟨some 25,.mov (.tmp 9),none⟩,
 ⟨some 26,.cmp .neq (.tmp 25) (.cst (.d (.int .i64 0))),none⟩])
 (.cond (.tmp 26)
 (.seq
 (.reg [] [⟨some 27,.mov (.tmp 9),none⟩,
 ⟨some 8,.mov (.tmp 27),none⟩])
 .ret)
 .skip)))
 (.seq
 (.seq
 (.reg [] [⟨some 28,.ld false 1 (.tmp 7),none⟩,
 ⟨some 29,.len (.tmp 28),none⟩,
 ⟨some 30,.mov (.cst (.d (.int .i64 0))),none⟩])
 (.post [1,2,4,7] [0,1,2,3]
 (.block 0
 (.keep [1,2,4,7,28,29,30] [0,1,2]
 (.loop
 (.post [1,2,4,7,28,29,30] [3]
 (.seq
 (.reg [] [⟨some 31,.cmp .lss (.tmp 30) (.tmp 29),none⟩])
 (.seq
 (.cond (.tmp 31)
 .skip
 (.exit 0))
 (.seq
 (.block 1
 (.seq
 (.reg [] [⟨some 32,.mov (.tmp 30),none⟩,
 ⟨some 33,.ixa 1 (.tmp 28) (.tmp 30),none⟩,
 ⟨some 34,.ld false 1 (.tmp 33),none⟩,
 ⟨some 10,.mov (.tmp 32),none⟩,
 ⟨some 11,.mov (.tmp 34),none⟩])
 (.seq
 (.reg [3] [⟨some 35,.ld true 2 (.tmp 4),none⟩,
 ⟨some 36,.mov (.tmp 11),none⟩,
 ⟨some 37,.call 87 [(.tmp 35),(.tmp 36)],none⟩,
 ⟨some 38,.mov (.tmp 10),none⟩,
 ⟨some 39,.cmp .gtr (.tmp 38) (.cst (.d (.int .i64 0))),none⟩,
 ⟨some 40,.mov (.tmp 39),none⟩,
 ⟨some 41,.mov (.tmp 11),some (40,true)⟩,
 ⟨some 42,.ld false 1 (.tmp 7),some (40,true)⟩,
 ⟨some 43,.mov (.tmp 10),some (40,true)⟩,
 ⟨some 44,.arith .sub .i64 (.tmp 43) (.cst (.d (.int .i64 1))),some (40,true)⟩,
 ⟨some 45,.maxi (.cst (.d (.int .i64 0))) (.tmp 44),some (40,true)⟩,
 ⟨some 46,.ixa 1 (.tmp 42) (.tmp 45),some (40,true)⟩,
 ⟨some 47,.ld false 1 (.tmp 46),some (40,true)⟩,
 ⟨some 48,.cmp .leq (.tmp 41) (.tmp 47),some (40,true)⟩,
 ⟨some 49,.pick (.tmp 40) (.tmp 48) (.cst (.d (.bool false))),none⟩,
 ⟨some 50,.call 89 [(.tmp 49),(.cst (.d (.int .i64 11)))],none⟩,
 ⟨some 51,.bsl 3 29 1 2 [(.int .i64 0),(.int .i64 0)] [(0,(.tmp 37)),(1,(.tmp 50))],none⟩,
 ⟨some 52,.call 86 [(.tmp 51)],none⟩,
 ⟨some 12,.mov (.tmp 52),none⟩])
 (.seq
 (.reg [] [⟨some 53,.mov (.tmp 12),none⟩,
 ⟨some 54,.cmp .neq (.tmp 53) (.cst (.d (.int .i64 0))),none⟩])
 (.cond (.tmp 54)
 (.seq
 (.reg [] [⟨some 55,.mov (.tmp 12),none⟩,
 ⟨some 8,.mov (.tmp 55),none⟩])
 .ret)
 .skip)))))
 (.reg [] [⟨some 56,.arith .add .i64 (.tmp 30) (.cst (.d (.int .i64 1))),none⟩,
 ⟨some 30,.mov (.tmp 56),none⟩]))))))))))
 (.seq
 (.reg [4] [⟨some 57,.mkf (.func 114) [] [(.tmp 7)],none⟩,
 ⟨some 13,.alloc 4 [.undef],none⟩,
 ⟨none,.st 1 (.tmp 13) (.tmp 57),none⟩])
 (.seq
 (.reg [] [⟨some 58,.fad 1 (.tmp 4),none⟩,
 ⟨some 59,.ld false 1 (.tmp 58),none⟩,
 ⟨some 60,.mkf (.func 116) [] [(.tmp 13)],none⟩,
 ⟨some 61,.call 115 [(.tmp 59),(.tmp 60)],none⟩,
 ⟨some 14,.mov (.tmp 61),none⟩])
 (.seq
 (.reg [] [⟨some 62,.ld false 1 (.tmp 13),none⟩,
 ⟨some 63,.mov (.tmp 1),none⟩,
 ⟨some 64,.callv (.tmp 62) [(.tmp 63)],none⟩,
 ⟨some 65,.not (.tmp 64),none⟩,
 ⟨some 66,.mov (.tmp 65),none⟩,
 ⟨some 67,.ld false 1 (.tmp 13),some (66,false)⟩,
 ⟨some 68,.mov (.tmp 2),some (66,false)⟩,
 ⟨some 69,.callv (.tmp 67) [(.tmp 68)],some (66,false)⟩,
 ⟨some 70,.pick (.tmp 66) (.cst (.d (.bool true))) (.tmp 69),none⟩,
 ⟨some 71,.mov (.tmp 70),none⟩,
 ⟨some 72,.mov (.tmp 14),some (71,false)⟩,
 ⟨some 73,.pick (.tmp 71) (.cst (.d (.bool true))) (.tmp 72),none⟩,
 ⟨some 74,.call 89 [(.tmp 73),(.cst (.d (.int .i64 19)))],none⟩,
 ⟨some 8,.mov (.tmp 74),none⟩])
 .ret))))))⟩
def reachN (d:List Int):Nat→List Int
 | 0=>[]
 | k+1=>reachN d k++(bif decide (0≤at0 d k) then [(k:Int)] else [])
theorem reachN_len (d:List Int):∀ k,(reachN d k).length≤k
 | 0=>Nat.le_refl _
 | k+1=>by
  have:=reachN_len d k
  rw [reachN,List.length_append]
  cases decide (0≤at0 d k)
  ·show _+0≤_; omega
  ·show _+1≤_; omega
theorem reachN_yes {d:List Int} {k:Nat} (h:0≤at0 d k):reachN d (k+1)=reachN d k++[(k:Int)]:=by rw [reachN,decide_eq_true h]; rfl
theorem reachN_no {d:List Int} {k:Nat} (h:¬ 0≤at0 d k):reachN d (k+1)=reachN d k:=by rw [reachN,decide_eq_false h]; exact List.append_nil _
def Ms.reach (m:Ms) (f:Int):List Int:=reachN (m.dist f) (m.dist f).length
theorem dist_len (m:Ms) (f:Int):(m.dist f).length=m.ns.length:=by
 unfold Ms.dist; rw [passes_len]; unfold start; rw [List.length_set,List.length_replicate]
theorem reach_len (m:Ms) (f:Int):(m.reach f).length≤m.ns.length:=by
 have:=reachN_len (m.dist f) (m.dist f).length
 rw [dist_len] at this
 unfold Ms.reach; rw [dist_len]; exact this
theorem at0_get {d:List Int} {k:Nat} {x:Int} (h:d[k]?=some x):at0 d k=x:=by unfold at0; rw [h]; rfl
theorem ints_app1 (l:List Int) (x:Int):ints (l++[x])=ints l++[.int .i64 x]:=by unfold ints; rw [List.map_append]; rfl
theorem c111 (m:Ms) (f:Int) (hf:m.fine) (h0:0≤f) (h1:f < (m.ns.length:Int)):CallDet Tryz.prog 111 [.d m.d,.d (.int .i64 f)] [.slice 1 (ints (m.reach f))]:=by
 have hdl:=ints_len (m.dist f)
 have hdn:=dist_len m f
 have h32:=hf.n32
 refine call_of_vc (x:=ir111) (by kernel_rfl) rfl ?_
 refine ca (c92 m f hf h0 h1) ?_
 rotate_left
 refine loop_u (fun a:Nat=>[(5,.sl 2 (ints (reachN (m.dist f) a)).length),(12,.d (.int .i64 a))]) (fun a=>[(2,.row 3 1 (ints (reachN (m.dist f) a)) false)]) (fun a=>a≤(m.dist f).length) (fun a=>(m.dist f).length - a) 0 rfl (Nat.zero_le _) ?_
 intro k hk
 have hk:k≤(m.dist f).length:=hk
 have hrl:=reachN_len (m.dist f) k
 have hil:=ints_len (reachN (m.dist f) k)
 by_cases hkk:k < (m.dist f).length
 ·refine Exists.elim (get_lt (m.dist f) hkk) fun x hx=>?_
  have hxd:=ints_get hx
  have hxa:=at0_get hx
  refine sd ?_
  refine b_lt (fun t1=>?_) (fun t1=>?_)
  refine ix_at hxd ?_ ?_
  (show (0:Int)≤(↑k:Int); omega)
  refine sd ?_
  refine b_le (fun t2=>?_) (fun t2=>?_)
  refine sd ?_
  refine sd ?_
  refine sd ?_
  refine an ?_ ?_
  refine an ?_ ?_
  exact rfl
  refine an ?_ ?_
  exact rfl
  refine an ?_ ?_
  exact rfl
  refine an ?_ ?_
  (show (List.length (ints (reachN (Ms.dist m f) k))+(1:Nat)) * (8:Nat)≤(2:Nat) ^ (47:Nat); omega)
  (show List.length (ints (reachN (Ms.dist m f) k))+(1:Nat)≤(2:Nat) ^ (47:Nat); omega)
  refine ar_add ?_ ?_
  refine an ?_ ?_
  (show (-9223372036854775808:Int)≤(↑k:Int)+(1:Int); omega)
  (show (↑k:Int)+(1:Int)≤(9223372036854775807:Int); omega)
  rotate_left
  refine ar_add ?_ ?_
  refine an ?_ ?_
  (show (-9223372036854775808:Int)≤(↑k:Int)+(1:Int); omega)
  (show (↑k:Int)+(1:Int)≤(9223372036854775807:Int); omega)
  rotate_left
  (exfalso; omega)
  ·refine ⟨k+1,⟨hkk,by show (m.dist f).length - (k+1) < (m.dist f).length - k; omega⟩,?_⟩
   rw [reachN_yes (by rw [hxa]; exact t2),ints_app1]; rfl
  ·refine ⟨k+1,⟨hkk,by show (m.dist f).length - (k+1) < (m.dist f).length - k; omega⟩,?_⟩
   rw [reachN_no (by rw [hxa]; exact t2)]; rfl
 ·have ek:k=(m.dist f).length:=by omega
  subst ek
  refine sd ?_
  refine b_lt (fun t1=>?_) (fun t1=>?_)
  (exfalso; omega)
  refine sd ?_
  exact rfl
def Ms.reachP (m:Ms) (i:Int):List Int:=bif nodeD m i != 0 then [] else m.reach i
theorem c45 (m:Ms) (i:Int) (hn:m.ns.length≤1048576) (hl:m.ls.length≤1048576):CallDet Tryz.prog 45 [.d m.d,.d (.int .i64 i)] [.slice 1 (ints (m.reachP i)),.int .i64 (nodeD m i)]:=by
 have bad:¬ nodeD m i=0→resV [.slice 1 [],.int .i64 (nodeD m i)]=resV [.slice 1 (ints (m.reachP i)),.int .i64 (nodeD m i)]:=fun h=>by
  unfold Ms.reachP; rw [show (nodeD m i != 0)=true by rw [bne_iff_ne]; exact h]; rfl
 have fin:nodeD m i=0→resV [.slice 1 (ints (m.reach i)),.int .i64 0]=resV [.slice 1 (ints (m.reachP i)),.int .i64 (nodeD m i)]:=fun h=>by
  unfold Ms.reachP; rw [h]; rfl
 refine call_of_vc (x:=ir45) (by kernel_rfl) rfl ?_
 refine ca (c27 m (by omega) (by omega)) ?_
 refine ca (c87 m _) ?_
 refine sd ?_
 refine sd ?_
 refine ca (c86 [Ms.chk m,Ms.nodeE m i] (by simp)) ?_
 refine sd ?_
 refine b_ne (fun t1=>?_) (fun t1=>?_)
 rotate_left
 refine ca (c111 m i (nodeD_ok ‹_›).1 (nodeD_ok ‹_›).2.1 (nodeD_ok ‹_›).2.2) ?_
 rotate_left
 ·exact bad t1
 ·exact fin t1
def twoE (m:Ms) (f t:Int):Int:=firstOf [m.chk,m.nodeE f,m.nodeE t]
theorem twoE_ok {m:Ms} {f t:Int} (h:twoE m f t=0):nodeD m f=0∧nodeD m t=0:=by
 have h1:=firstOf_zero h
 constructor
 ·unfold nodeD; rw [h1 m.chk (by simp),h1 (m.nodeE f) (by simp)]; rfl
 ·unfold nodeD; rw [h1 m.chk (by simp),h1 (m.nodeE t) (by simp)]; rfl
theorem c112 (m:Ms) (f t:Int) (hn:m.ns.length≤1048576) (hl:m.ls.length≤1048576):CallDet Tryz.prog 112 [.d m.d,.d (.int .i64 f),.d (.int .i64 t)] [.int .i64 (twoE m f t)]:=by
 refine call_of_vc (x:=ir112) (by kernel_rfl) rfl ?_
 refine ca (c27 m (by omega) (by omega)) ?_
 refine ca (c87 m _) ?_
 refine ca (c87 m _) ?_
 refine sd ?_
 refine sd ?_
 refine ca (c86 [Ms.chk m,Ms.nodeE m f,Ms.nodeE m t] (by simp)) ?_
 exact rfl
def barrE (m:Ms) (f t:Int):Int:=bif twoE m f t != 0 then twoE m f t else bif (m.reach f).contains t then 21 else 0
theorem c46 (m:Ms) (f t:Int) (hn:m.ns.length≤1048576) (hl:m.ls.length≤1048576):CallDet Tryz.prog 46 [.d m.d,.d (.int .i64 f),.d (.int .i64 t)] [.slice 1 (ints (bif barrE m f t != 0 then [] else m.reach f)),.int .i64 (barrE m f t)]:=by
 have bad:∀ v,barrE m f t=v→¬ v=0→resV [.slice 1 [],.int .i64 v]=resV [.slice 1 (ints (bif barrE m f t != 0 then [] else m.reach f)),.int .i64 (barrE m f t)]:=fun v e h=>by
  rw [e,show (v != 0)=true by rw [bne_iff_ne]; exact h]; rfl
 have hrl:=reach_len m f
 refine call_of_vc (x:=ir46) (by kernel_rfl) rfl ?_
 refine ca (c112 m f t (by omega) (by omega)) ?_
 refine sd ?_
 refine b_ne (fun t1=>?_) (fun t1=>?_)
 rotate_left
 refine ca (c111 m f (nodeD_ok (twoE_ok ‹_›).1).1 (nodeD_ok (twoE_ok ‹_›).1).2.1 (nodeD_ok (twoE_ok ‹_›).1).2.2) ?_
 refine ca (c113 (m.reach f) t (by omega)) ?_
 refine b_intro (fun t2=>?_) (fun t2=>?_)
 rotate_left
 rotate_left
 ·refine bad _ ?_ t1
  unfold barrE; rw [show (twoE m f t != 0)=true by rw [bne_iff_ne]; exact t1]; rfl
 ·refine bad _ ?_ (by decide)
  unfold barrE; rw [t1,t2]; rfl
 ·have e:barrE m f t=0:=by unfold barrE; rw [t1,t2]; rfl
  rw [e]; rfl
theorem c114 (l:List Int) (x:Int) (hl:l.length≤1048576):CallDet Tryz.prog 114 [.d (.int .i64 x),.cp [.slice 1 (ints l)] 0] [.bool (l.contains x)]:=by
 refine call_of_vc (x:=ir114) (by kernel_rfl) rfl ?_
 refine ca (c113 l x hl) ?_
 exact rfl
def crossB (set:List Int) (l:Lk):Bool:=set.contains l.a != set.contains l.b
theorem c116 (s:List Int) (l:Lk) (hl:s.length≤1048576):CallDet Tryz.prog 116 [.d l.d,.cp [.fn (.func 114) [.agg [.slice 1 (ints s)]]] 0] [.bool (crossB s l)]:=by
 refine call_of_vc (x:=ir116) (by kernel_rfl) rfl ?_
 refine ca (c114 s _ hl) ?_
 refine ca (c114 s _ hl) ?_
 exact rfl
def setE (m:Ms) (pre:List Int) (n:Int):Int:=firstOf [m.nodeE n,bif (match pre.getLast? with | some y=>decide (n≤y) | none=>false) then 11 else 0]
def barE (m:Ms) (f t:Int) (set:List Int):Int:=bif decide ((32:Int) < (set.length:Int)) then 5 else bif scanE (setE m) [] set != 0 then scanE (setE m) [] set else
 bif !(set.contains f)||(set.contains t||m.ls.any (crossB set)) then 19 else 0
theorem barE_1 {m:Ms} {f t:Int} {set:List Int} (h:(32:Int) < (set.length:Int)):barE m f t set=5:=by unfold barE; rw [decide_eq_true h]; rfl
theorem barE_2 {m:Ms} {f t v:Int} {set:List Int} (h:¬ (32:Int) < (set.length:Int)) (e:scanE (setE m) [] set=v) (hv:(v != 0)=true):barE m f t set=v:=by unfold barE; rw [decide_eq_false h,e,hv]; rfl
theorem barE_3 {m:Ms} {f t:Int} {set:List Int} (h:¬ (32:Int) < (set.length:Int)) (e:scanE (setE m) [] set=0):barE m f t set=bif !(set.contains f)||(set.contains t||m.ls.any (crossB set)) then 19 else 0:=by unfold barE; rw [decide_eq_false h,e]; rfl
theorem last_take {l:List Int} {k:Nat} (h:k < l.length) {y:Int} (hy:l[k]?=some y):(l.take (k+1)).getLast?=some y:=by
 rw [take_one hy]; simp
theorem setE_0 {m:Ms} {n:Int} {l:List Int}:setE m (l.take 0) n=firstOf [m.nodeE n,0]:=rfl
theorem setE_s {m:Ms} {n y:Int} {l:List Int} {k:Nat} (hk:0 < k) (hy:l[k - 1]?=some y):setE m (l.take k) n=firstOf [m.nodeE n,bif decide (n≤y) then 11 else 0]:=by
 unfold setE
 obtain ⟨j,rfl⟩:∃ j,k=j+1:=⟨k - 1,by omega⟩
 have hy:l[j]?=some y:=hy
 rw [last_take (List.getElem?_eq_some_iff.1 hy).1 hy]
theorem c47 (m:Ms) (f t:Int) (s:List Int) (hn:m.ns.length≤1048576) (hl:m.ls.length≤1048576) (hs:s.length≤1048576):CallDet Tryz.prog 47 [.d m.d,.d (.int .i64 f),.d (.int .i64 t),.d (.slice 1 (ints s))] [.int .i64 (bif twoE m f t != 0 then twoE m f t else barE m f t s)]:=by
 have hsl:=ints_len s
 have fin:∀ v,(bif twoE m f t != 0 then twoE m f t else barE m f t s)=v→resV [.int .i64 v]=resV [.int .i64 (bif twoE m f t != 0 then twoE m f t else barE m f t s)]:=fun v h=>by rw [h]
 refine call_of_vc (x:=ir47) (by kernel_rfl) rfl ?_
 refine ca (c112 m f t (by omega) (by omega)) ?_
 refine sd ?_
 refine ca (c89 _ _) ?_
 refine sd ?_
 refine sd ?_
 refine ca (c86 [twoE m f t,bif decide ((32:Int) < (↑(List.length (ints s)):Int)) then (5:Int) else (0:Int)] (by simp)) ?_
 refine sd ?_
 refine b_ne (fun t1=>?_) (fun t1=>?_)
 rotate_left
 rotate_left
 ·rw [hsl] at t1 ⊢
  refine fin _ ?_
  by_cases h2:twoE m f t=0
  ·rw [h2] at t1 ⊢
   cases hd:decide ((32:Int) < (s.length:Int))
   ·rw [hd] at t1; exact absurd rfl t1
   ·show barE m f t s=5
    exact barE_1 (of_decide_eq_true hd)
  ·have e:(twoE m f t != 0)=true:=by rw [bne_iff_ne]; exact h2
   rw [firstOf_cons,e]; rfl
 have h2:twoE m f t=0:=firstOf_zero t1 (twoE m f t) (by simp)
 have h3:¬ (32:Int) < (s.length:Int):=fun h=>by
  have:=firstOf_zero t1 (bif decide ((32:Int) < ((ints s).length:Int)) then 5 else 0) (by simp)
  rw [hsl,decide_eq_true h] at this; cases this
 have fin2:∀ v,barE m f t s=v→resV [.int .i64 v]=resV [.int .i64 (bif twoE m f t != 0 then twoE m f t else barE m f t s)]:=fun v h=>fin v (by rw [h2,h]; rfl)
 refine loop_u (fun k:Nat=>[(30,.d (.int .i64 k))]) (fun k=>[]) (fun k=>k≤s.length∧scanE (setE m) [] s=scanE (setE m) (s.take k) (s.drop k)) (fun k=>s.length - k) 0 rfl ⟨Nat.zero_le _,rfl⟩ ?_
 rintro k ⟨hk,hi⟩
 have hk:k≤s.length:=hk
 by_cases hkk:k < s.length
 ·refine Exists.elim (get_lt s hkk) fun x hx=>?_
  have hxd:=ints_get hx
  have bad:∀ v,setE m (s.take k) x=v→¬ v=0→barE m f t s=v:=fun v e h=>barE_2 h3 ((scan_bad hi hx (by rw [e,bne_iff_ne]; exact h)).trans e) (by rw [bne_iff_ne]; exact h)
  have okk:setE m (s.take k) x=0→scanE (setE m) [] s=scanE (setE m) (s.take (k+1)) (s.drop (k+1)):=fun e=>scan_ok hi hx (by rw [e]; rfl)
  by_cases hk0:k=0
  ·subst hk0
   refine sd ?_
   refine b_lt (fun t2=>?_) (fun t2=>?_)
   refine ix_at hxd ?_ ?_
   (show (0:Int)≤(↑(0:Nat):Int); omega)
   refine ca (c87 m _) ?_
   refine sd ?_
   refine sd ?_
   refine ca (c89 _ _) ?_
   refine sd ?_
   refine sd ?_
   refine ca (c86 [Ms.nodeE m x,(0:Int)] (by simp)) ?_
   refine sd ?_
   refine b_ne (fun t3=>?_) (fun t3=>?_)
   rotate_left
   refine ar_add ?_ ?_
   refine an ?_ ?_
   (show (-9223372036854775808:Int)≤(↑(0:Nat):Int)+(1:Int); omega)
   (show (↑(0:Nat):Int)+(1:Int)≤(9223372036854775807:Int); omega)
   rotate_left
   (exfalso; omega)
   ·exact fin2 _ (bad _ setE_0 t3)
   ·exact ⟨1,⟨⟨hkk,okk (setE_0.trans t3)⟩,by show s.length - 1 < s.length - 0; omega⟩,rfl⟩
  ·refine Exists.elim (get_lt s (k:=k - 1) (by omega)) fun y hy=>?_
   have hyd:(ints s)[(max (0:Int) ((k:Int) - 1)).toNat]?=some (.int .i64 y):=by
    rw [show (max (0:Int) ((k:Int) - 1)).toNat=k - 1 by omega]
    have h:=ints_get hy
    rwa [show (((k - 1:Nat):Int)).toNat=k - 1 from rfl] at h
   refine sd ?_
   refine b_lt (fun t2=>?_) (fun t2=>?_)
   refine ix_at hxd ?_ ?_
   (show (0:Int)≤(↑k:Int); omega)
   refine ca (c87 m _) ?_
   refine sd ?_
   refine b_lt (fun t3=>?_) (fun t3=>?_)
   refine ar_sub ?_ ?_
   refine an ?_ ?_
   (show (-9223372036854775808:Int)≤(↑k:Int) - (1:Int); omega)
   (show (↑k:Int) - (1:Int)≤(9223372036854775807:Int); omega)
   refine sd ?_
   refine ix_at hyd ?_ ?_
   (show (0:Int)≤max (0:Int) ((↑k:Int) - (1:Int)); omega)
   refine sd ?_
   refine ca (c89 _ _) ?_
   refine sd ?_
   refine sd ?_
   refine ca (c86 [Ms.nodeE m x,bif decide (x≤y) then (11:Int) else (0:Int)] (by simp)) ?_
   refine sd ?_
   refine b_ne (fun t4=>?_) (fun t4=>?_)
   rotate_left
   refine ar_add ?_ ?_
   refine an ?_ ?_
   (show (-9223372036854775808:Int)≤(↑k:Int)+(1:Int); omega)
   (show (↑k:Int)+(1:Int)≤(9223372036854775807:Int); omega)
   rotate_left
   (exfalso; omega)
   (exfalso; omega)
   ·exact fin2 _ (bad _ (setE_s (by omega) hy) t4)
   ·exact ⟨k+1,⟨⟨hkk,okk ((setE_s (by omega) hy).trans t4)⟩,by show s.length - (k+1) < s.length - k; omega⟩,rfl⟩
 ·have h4:scanE (setE m) [] s=0:=scan_end hi (by omega)
  have e3:=barE_3 (f:=f) (t:=t) h3 h4
  have c115_g:=c115g m.ls hl 116 [.fn (.func 114) [.agg [.slice 1 (ints s)]]] (crossB s) (fun o _=>c116 s o hs)
  refine sd ?_
  refine b_lt (fun t2=>?_) (fun t2=>?_)
  (exfalso; omega)
  refine ca c115_g ?_
  refine ca (c114 s _ hs) ?_
  refine b_intro (fun t3=>?_) (fun t3=>?_)
  refine sd ?_
  refine sd ?_
  refine ca (c89 _ _) ?_
  rotate_left
  refine ca (c114 s _ hs) ?_
  refine b_intro (fun t4=>?_) (fun t4=>?_)
  replace t4:List.contains s t=true:=t4
  refine sd ?_
  refine ca (c89 _ _) ?_
  rotate_left
  replace t4:List.contains s t=false:=t4
  refine ca (c89 _ _) ?_
  rotate_left
  ·exact fin2 _ (by rw [e3,t3]; rfl)
  ·exact fin2 _ (by rw [e3,t3,t4]; rfl)
  ·exact fin2 _ (by rw [e3,t3,t4]; rfl)
theorem nodeD_good2 {m:Ms} {i:Int} (h:m.chk=0) (h2:m.nodeE i=0):nodeD m i=0:=by rw [nodeD_good h]; exact h2
theorem nil_if {α:Type} {v:Int} {l:List α} (h:¬ v=0):(bif v != 0 then [] else l)=[]:=by rw [show (v != 0)=true by rw [bne_iff_ne]; exact h]; rfl
theorem if_0 {v w:Int} (h:v=0):(bif v != 0 then v else w)=w:=by rw [h]; rfl
theorem if_1 {v w:Int} (h:¬ v=0):(bif v != 0 then v else w)=v:=by rw [show (v != 0)=true by rw [bne_iff_ne]; exact h]; rfl
end Vc
set_option maxRecDepth 10000
set_option maxHeartbeats 4000000
namespace Vc
open Go Go.Proofs
def ir118:AFun:=⟨38,5,[.cell 8 4 true],
 (.seq
 (.reg [0,1,2] [⟨some 4,.cbx 0 3 (.tmp 0),none⟩,
 ⟨some 5,.cbx 1 2 (.tmp 1),none⟩,
 ⟨some 8,.alloc 2 [(.d (.int .i64 0)),(.d (.int .i64 0)),(.d (.int .i64 0)),(.d (.bool false))],none⟩])
 (.seq
 (.reg [3] [⟨some 11,.fad 2 (.tmp 4),none⟩,
 ⟨some 12,.ld false 1 (.tmp 11),none⟩,
 ⟨some 13,.mov (.tmp 2),none⟩,
 ⟨some 14,.ixa 3 (.tmp 12) (.tmp 13),none⟩,
 ⟨some 15,.ld true 3 (.tmp 14),none⟩,
 ⟨some 9,.alloc 3 [(.d (.int .i64 0)),(.d (.int .i64 0)),(.d (.int .i64 0))],none⟩,
 ⟨none,.st 3 (.tmp 9) (.tmp 15),none⟩])
 (.seq
 (.seq
 (.reg [] [⟨some 16,.fad 2 (.tmp 9),none⟩,
 ⟨some 17,.ld false 1 (.tmp 16),none⟩,
 ⟨some 18,.cmp .eql (.tmp 17) (.cst (.d (.int .i64 (-1)))),none⟩])
 (.cond (.tmp 18)
 (.seq
 (.reg [] [⟨some 19,.build [(.d (.int .i64 0)),(.d (.int .i64 0)),(.d (.int .i64 0)),(.d (.bool false))] [],none⟩,
 ⟨none,.st 4 (.tmp 8) (.tmp 19),none⟩])
 .ret)
 .skip))
 (.seq
 (.regd [4] [⟨some 20,.fad 0 (.tmp 9),none⟩,
 ⟨some 21,.ld false 1 (.tmp 20),none⟩,
 ⟨some 22,.fad 1 (.tmp 9),none⟩,
 ⟨some 23,.ld false 1 (.tmp 22),none⟩,
 ⟨some 24,.ld true 2 (.tmp 5),none⟩,
 ⟨some 25,.mov (.tmp 2),none⟩,
 ⟨some 26,.mov (.tmp 3),none⟩,
 ⟨some 27,.call 91 [(.tmp 24),(.tmp 25),(.tmp 26)],none⟩,
 ⟨some 28,.arith .add .i64 (.tmp 23) (.tmp 27),none⟩,
 ⟨some 29,.mov (.tmp 2),none⟩,
 ⟨some 30,.build [(.d (.int .i64 0)),(.d (.int .i64 0)),(.d (.int .i64 0))] [(0,1,(.tmp 21)),(1,1,(.tmp 28)),(2,1,(.tmp 29))],none⟩,
 ⟨some 31,.build [(.d (.int .i64 0)),(.d (.int .i64 0)),(.d (.int .i64 0)),(.d (.bool false))] [(0,3,(.tmp 30))],none⟩,
 ⟨some 10,.alloc 4 [(.d (.int .i64 0)),(.d (.int .i64 0)),(.d (.int .i64 0)),(.d (.bool false))],none⟩,
 ⟨none,.st 4 (.tmp 10) (.tmp 31),none⟩] [(0,2),(1,2),(0,3),(1,3),(0,4),(1,4),(2,4),(3,4),(0,5),(1,5),(2,5),(3,5),(4,5),(0,6),(1,6),(2,6),(3,6),(4,6),(5,6),(0,7),(1,7),(2,7),(3,7),(0,8),(1,8),(0,9),(1,9),(2,9),(3,9),(4,9),(5,9),(6,9),(7,9),(8,9),(0,12),(1,12),(2,12),(3,12),(4,12),(5,12),(6,12),(7,12),(8,12),(9,12),(10,12),(11,12)])
 (.seq
 (.reg [] [⟨some 32,.fad 0 (.tmp 10),none⟩,
 ⟨some 33,.fad 1 (.tmp 32),none⟩,
 ⟨some 34,.ld false 1 (.tmp 33),none⟩,
 ⟨some 35,.cmp .leq (.tmp 34) (.cst (.d (.int .i64 3200))),none⟩,
 ⟨some 36,.fad 3 (.tmp 10),none⟩,
 ⟨none,.st 1 (.tmp 36) (.tmp 35),none⟩])
 (.seq
 (.reg [] [⟨some 37,.ld true 4 (.tmp 10),none⟩,
 ⟨none,.st 4 (.tmp 8) (.tmp 37),none⟩])
 .ret))))))⟩
def ir150:AFun:=⟨24,2,[.tmp 4],
 (.seq
 (.reg [0,1] [⟨some 2,.cbx 0 3 (.tmp 0),none⟩,
 ⟨some 3,.cbx 1 3 (.tmp 1),none⟩,
 ⟨some 4,.mov (.cst (.d (.bool false))),none⟩])
 (.seq
 (.reg [] [⟨some 5,.fad 0 (.tmp 2),none⟩,
 ⟨some 6,.ld false 1 (.tmp 5),none⟩,
 ⟨some 7,.fad 0 (.tmp 3),none⟩,
 ⟨some 8,.ld false 1 (.tmp 7),none⟩,
 ⟨some 9,.cmp .gtr (.tmp 6) (.tmp 8),none⟩,
 ⟨some 10,.mov (.tmp 9),none⟩,
 ⟨some 11,.fad 0 (.tmp 2),some (10,false)⟩,
 ⟨some 12,.ld false 1 (.tmp 11),some (10,false)⟩,
 ⟨some 13,.fad 0 (.tmp 3),some (10,false)⟩,
 ⟨some 14,.ld false 1 (.tmp 13),some (10,false)⟩,
 ⟨some 15,.cmp .eql (.tmp 12) (.tmp 14),some (10,false)⟩,
 ⟨some 16,.mov (.tmp 15),some (10,false)⟩,
 ⟨some 17,.fad 1 (.tmp 2),some (16,true)⟩,
 ⟨some 18,.ld false 1 (.tmp 17),some (16,true)⟩,
 ⟨some 19,.fad 1 (.tmp 3),some (16,true)⟩,
 ⟨some 20,.ld false 1 (.tmp 19),some (16,true)⟩,
 ⟨some 21,.cmp .lss (.tmp 18) (.tmp 20),some (16,true)⟩,
 ⟨some 22,.pick (.tmp 16) (.tmp 21) (.cst (.d (.bool false))),some (10,false)⟩,
 ⟨some 23,.pick (.tmp 10) (.cst (.d (.bool true))) (.tmp 22),none⟩,
 ⟨some 4,.mov (.tmp 23),none⟩])
 .ret))⟩
def ir117:AFun:=⟨32,2,[],
 (.seq
 (.reg [0,1] [⟨some 3,.box 0 3 (.tmp 0),none⟩,
 ⟨some 5,.cbx 1 4 (.tmp 2),none⟩])
 (.seq
 (.reg [] [⟨some 6,.mov (.cst (.d (.fn (.func 150) []))),none⟩])
 (.seq
 (.regd [] [⟨some 7,.mov (.tmp 1),none⟩,
 ⟨some 8,.fad 0 (.tmp 3),none⟩,
 ⟨some 9,.ld false 1 (.tmp 8),none⟩,
 ⟨some 10,.cmp .neq (.tmp 7) (.tmp 9),none⟩,
 ⟨some 11,.mov (.tmp 10),none⟩,
 ⟨some 12,.fad 3 (.tmp 5),some (11,true)⟩,
 ⟨some 13,.ld false 1 (.tmp 12),some (11,true)⟩,
 ⟨some 14,.pick (.tmp 11) (.tmp 13) (.cst (.d (.bool false))),none⟩,
 ⟨some 15,.mov (.tmp 14),none⟩,
 ⟨some 16,.mov (.tmp 6),some (15,true)⟩,
 ⟨some 17,.fad 0 (.tmp 5),some (15,true)⟩,
 ⟨some 18,.ld true 3 (.tmp 17),some (15,true)⟩,
 ⟨some 19,.fad 2 (.tmp 3),some (15,true)⟩,
 ⟨some 20,.ld false 1 (.tmp 19),some (15,true)⟩,
 ⟨some 21,.mov (.tmp 1),some (15,true)⟩,
 ⟨some 22,.ixa 3 (.tmp 20) (.tmp 21),some (15,true)⟩,
 ⟨some 23,.ld true 3 (.tmp 22),some (15,true)⟩,
 ⟨some 24,.callv (.tmp 16) [(.tmp 18),(.tmp 23)],some (15,true)⟩,
 ⟨some 25,.pick (.tmp 15) (.tmp 24) (.cst (.d (.bool false))),none⟩] [(0,1),(0,2),(9,10),(9,11),(9,12),(10,12),(11,12),(9,13),(10,13),(11,13),(9,14),(10,14),(11,14),(12,14),(13,14),(9,15),(10,15),(11,15),(9,16),(10,16),(11,16)])
 (.cond (.tmp 25)
 (.reg [] [⟨some 26,.fad 2 (.tmp 3),none⟩,
 ⟨some 27,.ld false 1 (.tmp 26),none⟩,
 ⟨some 28,.mov (.tmp 1),none⟩,
 ⟨some 29,.fad 0 (.tmp 5),none⟩,
 ⟨some 30,.ld true 3 (.tmp 29),none⟩,
 ⟨some 31,.ixa 3 (.tmp 27) (.tmp 28),none⟩,
 ⟨none,.st 3 (.tmp 31) (.tmp 30),none⟩])
 .skip))))⟩
def ir119:AFun:=⟨44,9,[.cell 6 3 true],
 (.seq
 (.reg [0,1,2] [⟨some 3,.cbx 0 3 (.tmp 0),none⟩,
 ⟨some 4,.cbx 1 2 (.tmp 1),none⟩,
 ⟨some 6,.alloc 2 [(.d (.int .i64 0)),(.d (.int .i64 0)),(.nils 3)],none⟩])
 (.seq
 (.reg [3] [⟨some 11,.ld true 3 (.tmp 3),none⟩,
 ⟨some 12,.calli 99 [(.tmp 11)],none⟩,
 ⟨some 7,.alloc 3 [(.d (.int .i64 0)),(.d (.int .i64 0)),(.nils 3)],none⟩,
 ⟨none,.st 3 (.tmp 7) (.tmp 12),none⟩])
 (.seq
 (.seq
 (.reg [] [⟨some 13,.fad 2 (.tmp 7),none⟩,
 ⟨some 14,.ld false 1 (.tmp 13),none⟩,
 ⟨some 15,.len (.tmp 14),none⟩,
 ⟨some 16,.mov (.cst (.d (.int .i64 0))),none⟩])
 (.post [6,7] [0,1,2,3]
 (.block 0
 (.keep [2,3,4,6,7,15,16] [0,1,2,3]
 (.loop
 (.post [2,3,4,6,7,15,16] []
 (.seq
 (.reg [] [⟨some 17,.cmp .lss (.tmp 16) (.tmp 15),none⟩])
 (.seq
 (.cond (.tmp 17)
 .skip
 (.exit 0))
 (.seq
 (.block 1
 (.seq
 (.reg [] [⟨some 18,.mov (.tmp 16),none⟩,
 ⟨some 8,.mov (.tmp 18),none⟩])
 (.seq
 (.reg [] [⟨some 19,.ld true 2 (.tmp 4),none⟩,
 ⟨some 20,.mov (.tmp 8),none⟩,
 ⟨some 21,.call 88 [(.tmp 19),(.tmp 20)],none⟩,
 ⟨some 22,.len (.tmp 21),none⟩,
 ⟨some 23,.mov (.cst (.d (.int .i64 0))),none⟩])
 (.post [2,3,4,6,7,15,16] [0,1,2,3]
 (.block 2
 (.keep [2,3,4,6,7,8,15,16,21,22,23] [0,1,2,3]
 (.loop
 (.post [2,3,4,6,7,8,15,16,21,22,23] [7,8]
 (.seq
 (.reg [] [⟨some 24,.cmp .lss (.tmp 23) (.tmp 22),none⟩])
 (.seq
 (.cond (.tmp 24)
 .skip
 (.exit 2))
 (.seq
 (.block 3
 (.seq
 (.reg [] [⟨some 25,.ixa 1 (.tmp 21) (.tmp 23),none⟩,
 ⟨some 26,.ld false 1 (.tmp 25),none⟩,
 ⟨some 10,.mov (.tmp 26),none⟩])
 (.seq
 (.reg [] [⟨some 27,.mov (.tmp 2),none⟩,
 ⟨some 28,.mov (.tmp 8),none⟩,
 ⟨some 29,.mov (.tmp 10),none⟩,
 ⟨some 30,.build [(.d (.int .i64 0)),(.d (.int .i64 0))] [(0,1,(.tmp 28)),(1,1,(.tmp 29))],none⟩,
 ⟨some 31,.call 109 [(.tmp 27),(.tmp 30)],none⟩,
 ⟨some 32,.not (.tmp 31),none⟩])
 (.cond (.tmp 32)
 (.regd [] [⟨some 33,.ld true 3 (.tmp 7),none⟩,
 ⟨some 34,.mov (.tmp 8),none⟩,
 ⟨some 35,.ld true 3 (.tmp 3),none⟩,
 ⟨some 36,.ld true 2 (.tmp 4),none⟩,
 ⟨some 37,.mov (.tmp 10),none⟩,
 ⟨some 38,.mov (.tmp 8),none⟩,
 ⟨some 39,.call 118 [(.tmp 35),(.tmp 36),(.tmp 37),(.tmp 38)],none⟩,
 ⟨some 40,.calli 117 [(.tmp 33),(.tmp 34),(.tmp 39)],none⟩] [(0,1),(0,2),(1,2),(0,3),(1,3),(2,3),(0,4),(1,4),(2,4),(3,4),(0,5),(1,5),(2,5),(3,5),(4,5),(0,6),(1,6)])
 .skip))))
 (.reg [] [⟨some 41,.arith .add .i64 (.tmp 23) (.cst (.d (.int .i64 1))),none⟩,
 ⟨some 23,.mov (.tmp 41),none⟩]))))))))))))
 (.reg [] [⟨some 42,.arith .add .i64 (.tmp 16) (.cst (.d (.int .i64 1))),none⟩,
 ⟨some 16,.mov (.tmp 42),none⟩]))))))))))
 (.seq
 (.reg [] [⟨some 43,.ld true 3 (.tmp 7),none⟩,
 ⟨none,.st 3 (.tmp 6) (.tmp 43),none⟩])
 .ret))))⟩
theorem betB_1 {x o:En} (h:o.nu < x.nu):x.betB o=true:=by unfold En.betB; rw [decide_eq_true h]; rfl
theorem betB_2 {x o:En} (h:¬ o.nu < x.nu) (h2:x.nu=o.nu):x.betB o=decide (x.di < o.di):=by unfold En.betB; rw [decide_eq_false h,show (x.nu==o.nu)=true by simpa using h2]; rfl
theorem betB_3 {x o:En} (h:¬ o.nu < x.nu) (h2:¬ x.nu=o.nu):x.betB o=false:=by unfold En.betB; rw [decide_eq_false h,show (x.nu==o.nu)=false by simpa using h2]; rfl
theorem c150 (x o:En):CallDet Tryz.prog 150 [.d (.agg [.int .i64 x.nu,.int .i64 x.di,.int .i64 x.ne]),.d (.agg [.int .i64 o.nu,.int .i64 o.di,.int .i64 o.ne])] [.bool (x.betB o)]:=by
 have fin:∀ b,x.betB o=b→resV [.bool b]=resV [.bool (x.betB o)]:=fun b h=>by rw [h]
 refine call_of_vc (x:=ir150) (by kernel_rfl) rfl ?_
 refine sd ?_
 refine b_lt (fun t1=>?_) (fun t1=>?_)
 refine sd ?_
 rotate_left
 refine sd ?_
 refine b_eq (fun t2=>?_) (fun t2=>?_)
 refine sd ?_
 rotate_left
 refine sd ?_
 rotate_left
 ·exact fin _ (betB_1 t1)
 ·exact fin _ (betB_2 t1 t2)
 ·exact fin _ (betB_3 t1 t2)
def ofX (m:Ms) (s:Sts) (fr w:Int):En:=bif (s.at fr).ne==-1 then ⟨0,0,0⟩ else ofE m s fr w
theorem ofX_1 {m:Ms} {s:Sts} {fr w:Int} (h:(s.at fr).ne=-1):ofX m s fr w=⟨0,0,0⟩:=by unfold ofX; rw [h]; rfl
theorem ofX_2 {m:Ms} {s:Sts} {fr w:Int} (h:¬ (s.at fr).ne=-1):ofX m s fr w=ofE m s fr w:=by unfold ofX; rw [show ((s.at fr).ne==-1)=false by simpa using h]; rfl
theorem ofB_1 {m:Ms} {s:Sts} {fr w:Int} (h:(s.at fr).ne=-1):ofB m s fr w=false:=by unfold ofB; rw [h]; rfl
theorem ofB_2 {m:Ms} {s:Sts} {fr w:Int} (h:¬ (s.at fr).ne=-1):ofB m s fr w=decide ((s.at fr).di+betw m.ls fr w≤3200):=by unfold ofB; rw [show ((s.at fr).ne==-1)=false by simpa using h]; rfl
theorem c118 (m:Ms) (s:Sts) (fr w:Int) (hf:m.fine) (h0:0≤fr) (h1:fr.toNat < s.es.length) (hd:0≤(s.at fr).di∧(s.at fr).di≤3200):CallDet Tryz.prog 118 [.d s.d,.d m.d,.d (.int .i64 fr),.d (.int .i64 w)] [.agg [.int .i64 (ofX m s fr w).nu,.int .i64 (ofX m s fr w).di,.int .i64 (ofX m s fr w).ne,.bool (ofB m s fr w)]]:=by
 have hx:=ens_atI (Sts.at_getI h1)
 have hc:=hf.rng fr w
 have h128:=hf.l128
 refine call_of_vc (x:=ir118) (by kernel_rfl) rfl ?_
 refine ix_at hx ?_ ?_
 assumption
 refine sd ?_
 refine b_eq (fun t1=>?_) (fun t1=>?_)
 rotate_left
 refine ca (c91 m _ _ (by omega)) ?_
 refine ar_add ?_ ?_
 refine an ?_ ?_
 (show (-9223372036854775808:Int)≤En.di (Sts.at s fr)+betw (Ms.ls m) fr w; omega)
 (show En.di (Sts.at s fr)+betw (Ms.ls m) fr w≤(9223372036854775807:Int); omega)
 refine sd ?_
 rotate_left
 ·exact (show resV [.agg [.int .i64 0,.int .i64 0,.int .i64 0,.bool false]]=resV [.agg [.int .i64 (ofX m s fr w).nu,.int .i64 (ofX m s fr w).di,.int .i64 (ofX m s fr w).ne,.bool (ofB m s fr w)]] by rw [ofX_1 t1,ofB_1 t1])
 ·exact (show resV [.agg [.int .i64 (s.at fr).nu,.int .i64 ((s.at fr).di+betw m.ls fr w),.int .i64 fr,.bool (decide ((s.at fr).di+betw m.ls fr w≤3200))]]=resV [.agg [.int .i64 (ofX m s fr w).nu,.int .i64 (ofX m s fr w).di,.int .i64 (ofX m s fr w).ne,.bool (ofB m s fr w)]] by rw [ofX_2 t1,ofB_2 t1]; rfl)
def hrs (co n:Int) (x:En) (is:Bool) (E:List En):List En:=match E[n.toNat]? with
 | some e=>bif !(n==co)&&(is&&x.betB e) then E.set n.toNat x else E
 | none=>E
theorem c99i_119 (s : Sts) (m : Ms) (hn : s.es.length ≤ 1048576) : CallIn Tryz.prog 99 [.d s.d] [.cbox [.int .i64 s.co, .int .i64 s.nu, .slice 3 (ens s.es)], .cbox [.slice 1 (strs m.ns), .slice 3 (lks m.ls)], .box [.d (.int .i64 0), .d (.int .i64 0), .nils 3], .none, .none, .none, .none, .none, .none] (.agg [.d (.int .i64 s.co), .d (.int .i64 s.nu), .sl 6 (ens s.es).length])
  (setAll [.cbox [.int .i64 s.co,.int .i64 s.nu,.slice 3 (ens s.es)],.cbox [.slice 1 (strs m.ns),.slice 3 (lks m.ls)],.box [.d (.int .i64 0),.d (.int .i64 0),.nils 3],.none,.none,.none,.none,.none,.none] [(4,.cbox [.int .i64 s.co,.int .i64 s.nu,.slice 3 (ens s.es)]),(5,.box [.d (.int .i64 s.co),.d (.int .i64 s.nu),.sl 6 (ens s.es).length]),(6,.row 105 3 (ens s.es) false)]):=by
 have hl:=ens_len s.es
 have e:List.take (ens s.es).length (ens s.es)++List.drop (ens s.es).length (List.replicate (ens s.es).length (.agg [.int .i64 0,.int .i64 0,.int .i64 0]))=ens s.es:=by
  rw [List.take_length,List.drop_eq_nil_of_le (by rw [List.length_replicate]; exact Nat.le_refl _),List.append_nil]
 refine callIn_of_vc 4 (x:=ir99) (by kernel_rfl) rfl rfl rfl ?_
 refine an ?_ ?_
 refine an ?_ ?_
 (show (0:Int)≤(↑(List.length (ens (Sts.es s))):Int); omega)
 refine an ?_ ?_
 (show (↑(List.length (ens (Sts.es s))):Int) * (↑(24:Nat):Int)≤(2:Int) ^ (47:Nat); omega)
 (show (↑(List.length (ens (Sts.es s))):Int)≤(2:Int) ^ (47:Nat); omega)
 refine ca (And.intro rfl (And.intro rfl (And.intro ?_ rfl))) ?_
 focus (show List.length (List.replicate (List.length (ens (Sts.es s))) (Data.agg [Data.int IntKind.i64 (0:Int),Data.int IntKind.i64 (0:Int),Data.int IntKind.i64 (0:Int)]))=List.length (ens (Sts.es s)); simp only [List.length_replicate,List.length_set,List.length_append,List.length_take,List.length_drop]; done)
 refine an ?_ ?_
 (show List.length (List.take (List.length (ens (Sts.es s))) (ens (Sts.es s))++List.drop (List.length (ens (Sts.es s))) (List.replicate (List.length (ens (Sts.es s))) (Data.agg [Data.int IntKind.i64 (0:Int),Data.int IntKind.i64 (0:Int),Data.int IntKind.i64 (0:Int)])))=List.length (ens (Sts.es s)); simp only [List.length_replicate,List.length_set,List.length_append,List.length_take,List.length_drop]; omega)
 refine sd ?_
 rotate_left
 exact congrArg (fun X=>([.cbox [.int .i64 s.co,.int .i64 s.nu,.slice 3 (ens s.es)],.cbox [.slice 1 (strs m.ns),.slice 3 (lks m.ls)],.box [.d (.int .i64 0),.d (.int .i64 0),.nils 3],.none,.cbox [.int .i64 s.co,.int .i64 s.nu,.slice 3 (ens s.es)],.box [.d (.int .i64 s.co),.d (.int .i64 s.nu),.sl 6 (ens s.es).length],.row 105 3 X false,.none,.none]:List AObj)) e
theorem c117i_119 (m : Ms) (s : Sts) (n : Int) (x e : En) (is : Bool) (E : List En) (L : Nat) (h0 : 0 ≤ n) (he : E[n.toNat]? = some e) (hL : L = (ens E).length) : CallIn Tryz.prog 117 [.agg [.d (.int .i64 s.co), .d (.int .i64 s.nu), .sl 6 L], .d (.int .i64 n), .d (.agg [.int .i64 x.nu, .int .i64 x.di, .int .i64 x.ne, .bool is])]
  [.cbox [.int .i64 s.co,.int .i64 s.nu,.slice 3 (ens s.es)],.cbox [.slice 1 (strs m.ns),.slice 3 (lks m.ls)],.box [.d (.int .i64 0),.d (.int .i64 0),.nils 3],.box [.d (.int .i64 s.co),.d (.int .i64 s.nu),.sl 6 (ens s.es).length],.cbox [.int .i64 s.co,.int .i64 s.nu,.slice 3 (ens s.es)],.box [.d (.int .i64 s.co),.d (.int .i64 s.nu),.sl 6 (ens s.es).length],.row 105 3 (ens E) false,.none,.none] (.tup []) (setAll [.cbox [.int .i64 s.co,.int .i64 s.nu,.slice 3 (ens s.es)],.cbox [.slice 1 (strs m.ns),.slice 3 (lks m.ls)],.box [.d (.int .i64 0),.d (.int .i64 0),.nils 3],.box [.d (.int .i64 s.co),.d (.int .i64 s.nu),.sl 6 (ens s.es).length],.cbox [.int .i64 s.co,.int .i64 s.nu,.slice 3 (ens s.es)],.box [.d (.int .i64 s.co),.d (.int .i64 s.nu),.sl 6 (ens s.es).length],.row 105 3 (ens E) false,.none,.none] [(7,.box [.d (.int .i64 s.co),.d (.int .i64 s.nu),.sl 6 (ens E).length]),(8,.cbox [.int .i64 x.nu,.int .i64 x.di,.int .i64 x.ne,.bool is]),(6,.row 105 3 (ens (hrs s.co n x is E)) false)]):=by
 subst hL
 have hel:=ens_len E
 have hk:n.toNat < E.length:=(List.getElem?_eq_some_iff.1 he).1
 have hed:=ens_atI he
 have hno:(bif !(n==s.co)&&(is&&x.betB e) then E.set n.toNat x else E)=E→hrs s.co n x is E=E:=fun h=>by unfold hrs; rw [he]; exact h
 refine callIn_of_vc 7 (x:=ir117) (by kernel_rfl) rfl rfl rfl ?_
 cases is
 ·have e0:hrs s.co n x false E=E:=hno (by cases (n==s.co) <;> rfl)
  rw [e0]
  refine sd ?_
  refine b_ne (fun t1=>?_) (fun t1=>?_)
  refine sd ?_
  refine sd ?_
  exact rfl
  refine sd ?_
  refine sd ?_
  refine sd ?_
  exact rfl
 ·by_cases hb:x.betB e=true
  ·by_cases hn:n=s.co
   ·have e0:hrs s.co n x true E=E:=hno (by rw [show (n==s.co)=true by rw [beq_iff_eq]; exact hn]; rfl)
    rw [e0]
    refine sd ?_
    refine b_ne (fun t1=>?_) (fun t1=>?_)
    (exfalso; omega)
    refine sd ?_
    refine sd ?_
    refine sd ?_
    exact rfl
   ·have e0:hrs s.co n x true E=E.set n.toNat x:=by unfold hrs; rw [he]; show (bif !(n==s.co)&&(true&&x.betB e) then _ else _)=_; rw [hb,show (n==s.co)=false by rw [beq_eq_false_iff_ne]; exact hn]; rfl
    rw [e0]
    refine sd ?_
    refine b_ne (fun t1=>?_) (fun t1=>?_)
    refine an ?_ ?_
    refine an ?_ ?_
    exact rfl
    refine an ?_ ?_
    exact rfl
    refine an ?_ ?_
    assumption
    (show n < (↑(List.length (ens E)):Int); omega)
    refine sd ?_
    refine ca hed ?_
    refine ca (c150 x e) ?_
    refine b_t hb ?_
    refine an ?_ ?_
    refine an ?_ ?_
    exact rfl
    refine an ?_ ?_
    exact rfl
    refine an ?_ ?_
    assumption
    (show n < (↑(List.length (ens E)):Int); omega)
    refine Exists.intro _ (Exists.intro (Vc.Data.agg [Data.int IntKind.i64 (En.nu x),Data.int IntKind.i64 (En.di x),Data.int IntKind.i64 (En.ne x)]) (And.intro (And.intro ?_ (And.intro hed (And.intro rfl (And.intro ?_ (And.intro rfl rfl))))) ?_))
    exact rfl
    (show (0:Nat)+(3:Nat)≤(1:Nat)+(1:Nat)+(1:Nat); omega)
    refine sd ?_
    rotate_left
    (exfalso; omega)
    rw [show ens (E.set n.toNat x)=(ens E).set n.toNat (.agg [.int .i64 x.nu,.int .i64 x.di,.int .i64 x.ne]) from ens_set E n.toNat x]; rfl
  ·have hb:x.betB e=false:=by cases h:x.betB e; rfl; exact absurd h hb
   have e0:hrs s.co n x true E=E:=hno (by rw [hb]; cases (n==s.co) <;> rfl)
   rw [e0]
   refine sd ?_
   refine b_ne (fun t1=>?_) (fun t1=>?_)
   refine an ?_ ?_
   refine an ?_ ?_
   exact rfl
   refine an ?_ ?_
   exact rfl
   refine an ?_ ?_
   assumption
   (show n < (↑(List.length (ens E)):Int); omega)
   refine sd ?_
   refine ca hed ?_
   refine ca (c150 x e) ?_
   refine b_f hb ?_
   refine sd ?_
   exact rfl
   refine sd ?_
   refine sd ?_
   refine sd ?_
   exact rfl
theorem hrs_hr (m : Ms) (s : Sts) (lost : List (Int × Int)) (n : Nat) (k : Int) (acc : En) (E : List En) (hn : n < E.length) (hlo : lostB lost n k = false) :
  hrs s.co n (ofX m s k n) (ofB m s k n) (E.set n acc)=E.set n (hr m s lost n acc k):=by
 have he:(E.set n acc)[(n:Int).toNat]?=some acc:=List.getElem?_set_self hn
 unfold hrs
 rw [he]
 show (bif !((n:Int)==s.co)&&(ofB m s k n&&(ofX m s k n).betB acc) then (E.set n acc).set n (ofX m s k n) else E.set n acc)=_
 have e1:(!((n:Int)==s.co)&&(ofB m s k n&&(ofX m s k n).betB acc))=hrB m s lost n k acc:=by
  unfold hrB
  rw [hlo]
  by_cases h:(s.at k).ne=-1
  ·rw [ofB_1 h]; rfl
  ·rw [ofX_2 h]; rfl
 rw [e1]
 unfold hr
 cases hb:hrB m s lost n k acc
 ·rfl
 ·have : (s.at k).ne ≠ -1 := fun h => by
   unfold hrB at hb
   rw [ofB_1 h] at hb
   simp at hb
  rw [ofX_2 this]
  show (E.set n acc).set n (ofE m s k n)=E.set n (ofE m s k n)
  rw [List.set_set]
theorem hr_lost (m:Ms) (s:Sts) (lost:List (Int × Int)) (n:Int) (k:Int) (acc:En) (hlo:lostB lost n k=true):hr m s lost n acc k=acc:=by
 unfold hr hrB; rw [hlo]; simp
theorem c119 (m:Ms) (s:Sts) (lost:List (Int × Int)) (g:Good m s) (hll:lost.length≤1048576):CallDet Tryz.prog 119 [.d s.d,.d m.d,.d (.slice 2 (prs lost))] [(s.round m lost).d]:=by
 have hf:=chk_fine g.chk
 have hl:=ens_len s.es
 have hle:=g.len
 have h32:=hf.n32
 have h128:=hf.l128
 refine call_of_vc (x:=ir119) (by kernel_rfl) rfl ?_
 refine Exists.intro _ (Exists.intro _ (And.intro (c99i_119 s m (by omega)) ?_))
 refine sd ?_
 rotate_left
 refine loop_u (fun a:Nat=>[(16,.d (.int .i64 a))]) (fun a=>[(6,.row 105 3 (ens (rndL m s lost a)) false)]) (fun a=>a≤s.es.length) (fun a=>s.es.length - a) 0 (by rw [rndL_zero]; rfl) (Nat.zero_le _) ?_
 intro n hn
 have hn:n≤s.es.length:=hn
 by_cases hnn:n < s.es.length
 ·have hbl:=ints_len (m.nbs n)
  have hbn:(m.nbs n).length≤m.ns.length:=nbs_len m n m.ns.length
  refine sd ?_
  refine b_lt (fun t1=>?_) (fun t1=>?_)
  refine ca (c88 m n (by omega) (by omega)) ?_
  rotate_left
  (exfalso; omega)
  refine loop_u (fun a:Nat=>[(23,.d (.int .i64 a))]) (fun a=>[(6,.row 105 3 (ens ((rndL m s lost n).set n (((m.nbs n).take a).foldl (hr m s lost n) (s.at n)))) false)]) (fun a=>a≤(m.nbs n).length) (fun a=>(m.nbs n).length - a) 0 (by show _=St.upd _ _ [(6,.row 105 3 (ens ((rndL m s lost n).set n (s.at n))) false)]; rw [rndL_start m s lost hnn]; rfl) (Nat.zero_le _) ?_
  intro q hq
  have hq:q≤(m.nbs n).length:=hq
  by_cases hqq:q < (m.nbs n).length
  ·refine Exists.elim (get_lt (m.nbs n) hqq) fun k hk=>?_
   have hkd:=ints_get hk
   have hkr:=nbs_in m n k (List.mem_of_getElem? hk)
   have hfs:=fold_snoc (hr m s lost n) (s.at n) hk
   have hrk:=g.rng k hkr.1 hkr.2
   generalize hacc:((m.nbs n).take q).foldl (hr m s lost n) (s.at n)=acc at hfs ⊢
   have hEl:((rndL m s lost n).set n acc).length=s.es.length:=by rw [List.length_set,rndL_len]
   have hEd:=ens_len ((rndL m s lost n).set n acc)
   have heg:((rndL m s lost n).set n acc)[(n:Int).toNat]?=some acc:=List.getElem?_set_self (by rw [rndL_len]; exact hnn)
   refine sd ?_
   refine b_lt (fun t2=>?_) (fun t2=>?_)
   refine ix_at hkd ?_ ?_
   (show (0:Int)≤(↑q:Int); omega)
   refine ca (c109 lost _ _ hll) ?_
   refine b_intro (fun t3=>?_) (fun t3=>?_)
   refine ca (c118 m s k n hf hkr.1 (by omega) hrk.2.1) ?_
   refine Exists.intro _ (Exists.intro _ (And.intro (c117i_119 m s n (ofX m s k n) acc (ofB m s k n) ((rndL m s lost n).set n acc) _ (by omega) heg (by omega)) ?_))
   refine ar_add ?_ ?_
   refine an ?_ ?_
   (show (-9223372036854775808:Int)≤(↑q:Int)+(1:Int); omega)
   (show (↑q:Int)+(1:Int)≤(9223372036854775807:Int); omega)
   rotate_left
   refine ar_add ?_ ?_
   refine an ?_ ?_
   (show (-9223372036854775808:Int)≤(↑q:Int)+(1:Int); omega)
   (show (↑q:Int)+(1:Int)≤(9223372036854775807:Int); omega)
   rotate_left
   (exfalso; omega)
   ·refine ⟨q+1,⟨hqq,by show (m.nbs n).length - (q+1) < (m.nbs n).length - q; omega⟩,?_⟩
    rw [hfs,hrs_hr m s lost n k acc _ (by rw [rndL_len]; exact hnn) (by simpa using t3)]; rfl
   ·refine ⟨q+1,⟨hqq,by show (m.nbs n).length - (q+1) < (m.nbs n).length - q; omega⟩,?_⟩
    rw [hfs,hr_lost m s lost n k acc (by simpa using t3)]; rfl
  ·have eq:q=(m.nbs n).length:=by omega
   subst eq
   rw [List.take_length]
   refine sd ?_
   refine b_lt (fun t2=>?_) (fun t2=>?_)
   (exfalso; omega)
   refine ar_add ?_ ?_
   refine an ?_ ?_
   (show (-9223372036854775808:Int)≤(↑n:Int)+(1:Int); omega)
   (show (↑n:Int)+(1:Int)≤(9223372036854775807:Int); omega)
   rotate_left
   refine ⟨n+1,⟨hnn,by show s.es.length - (n+1) < s.es.length - n; omega⟩,?_⟩
   rw [show List.foldl (hr m s lost n) (s.at n) (m.nbs n)=roundE m s lost n from rfl,rndL_next m s lost hnn]; rfl
 ·have en:n=s.es.length:=by omega
  subst en
  have hfin:(ens (rndL m s lost s.es.length)).length=(ens s.es).length:=by rw [ens_len,rndL_len,hl]
  refine sd ?_
  refine b_lt (fun t1=>?_) (fun t1=>?_)
  (exfalso; omega)
  refine an ?_ ?_
  assumption
  exact rfl
end Vc
set_option maxRecDepth 10000
set_option maxHeartbeats 4000000
namespace Vc
open Go Go.Proofs
theorem hr_ref (m:Ms) (s:Sts) (lost:List (Int × Int)) (n k:Int) (acc:En):hr m s lost n acc k=acc∨(ofB m s k n=true∧n≠s.co∧lostB lost n k=false∧(ofE m s k n).betB acc=true∧hr m s lost n acc k=ofE m s k n):=by
 unfold hr
 cases hb:hrB m s lost n k acc
 ·exact .inl rfl
 ·right
  unfold hrB at hb
  simp only [Bool.and_eq_true,Bool.not_eq_true',beq_eq_false_iff_ne] at hb
  exact ⟨hb.2.1,hb.1,hb.2.2.1,hb.2.2.2,rfl⟩
def Sts.heard (s:Sts) (m:Ms) (w fr:Int):Sts:=⟨s.co,s.nu,s.es.set w.toNat (hr m s [] w (s.at w) fr)⟩
end Vc
set_option maxRecDepth 10000
namespace Vc
open Go Go.Proofs
theorem hit_iff {l:Lk} {a b:Int}:hit l a b=true↔l.a=min a b∧l.b=max a b:=by
 unfold hit; simp
theorem betw_mem:∀ {ls:List Lk} {a b:Int},0 < betw ls a b→∃ l∈ls,l.c=betw ls a b∧l.a=min a b∧l.b=max a b
 | [],a,b,h=>by unfold betw at h; omega
 | x::r,a,b,h=>by
  unfold betw at h ⊢
  cases hh:hit x a b
  ·rw [hh] at h
   obtain ⟨l,hl,h2⟩:=betw_mem (ls:=r) h
   exact ⟨l,List.mem_cons_of_mem _ hl,h2⟩
  ·exact ⟨x,List.mem_cons_self,rfl,hit_iff.1 hh⟩
theorem betw_of:∀ {ls:List Lk} {l:Lk},(∀ k x,ls[k]?=some x→(ls.take k).any (fun o=>sameL o x)=false)→l∈ls→l.a≤l.b→betw ls l.a l.b=l.c
 | x::r,l,h,hl,hab=>by
  unfold betw
  cases hh:hit x l.a l.b
  ·rcases List.mem_cons.1 hl with rfl | hl
   ·have:hit l l.a l.b=true:=hit_iff.2 ⟨by omega,by omega⟩
    rw [this] at hh; cases hh
   ·refine betw_of (fun k y hy=>?_) hl hab
    have:=h (k+1) y hy
    rw [List.take_succ_cons,List.any_cons,Bool.or_eq_false_iff] at this
    exact this.2
  ·rcases List.mem_cons.1 hl with rfl | hl
   ·rfl
   ·exfalso
    obtain ⟨j,hj,e⟩:=List.mem_iff_getElem.1 hl
    have:=h (j+1) l (by rw [List.getElem?_cons_succ]; exact List.getElem?_eq_some_iff.2 ⟨hj,e⟩)
    rw [List.take_succ_cons,List.any_cons,Bool.or_eq_false_iff] at this
    have h2:=hit_iff.1 hh
    have h3:sameL x l=true:=by
     unfold sameL
     rw [show (x.a==l.a)=true by rw [beq_iff_eq]; omega,show (x.b==l.b)=true by rw [beq_iff_eq]; omega]; rfl
    rw [h3] at this; cases this.1
theorem Ms.fine.betw_dir {m:Ms} (h:m.fine) {u v:Nat} {c:Int}:dir m.ls u v c↔c=betw m.ls u v∧0 < c:=by
 constructor
 ·rintro ⟨l,hl,rfl,he⟩
  have hk:=h.link hl
  have e:=betw_of (l:=l) (fun k x hx=>(linkE_zero (h.links k x hx)).2.1) hl (by omega)
  refine ⟨?_,by omega⟩
  rcases he with ⟨rfl,rfl⟩ | ⟨rfl,rfl⟩
  ·rw [show ((l.a.toNat:Nat):Int)=l.a by omega,show ((l.b.toNat:Nat):Int)=l.b by omega,e]
  ·rw [betw_comm,show ((l.a.toNat:Nat):Int)=l.a by omega,show ((l.b.toNat:Nat):Int)=l.b by omega,e]
 ·rintro ⟨rfl,h0⟩
  obtain ⟨l,hl,hc,ha,hb⟩:=betw_mem h0
  refine ⟨l,hl,hc,?_⟩
  omega
theorem nbs_iff (m:Ms) (i x:Int):x∈m.nbs i↔0≤x∧x < (m.ns.length:Int)∧0 < betw m.ls i x:=nbs_mem m i x m.ns.length
theorem round_at (m:Ms) (s:Sts) (lost:List (Int × Int)) {k:Int} (h0:0≤k) (h1:k < (s.es.length:Int)):(s.round m lost).at k=roundE m s lost k:=by
 have e:=rndL_get m s lost s.es.length (i:=k.toNat) (by omega)
 unfold Sts.at Sts.round
 show ((rndL m s lost s.es.length)[k.toNat]?).getD _=_
 rw [e,if_pos (by omega),show ((k.toNat:Nat):Int)=k by omega]; rfl
theorem round_len (m:Ms) (s:Sts) (lost:List (Int × Int)):(s.round m lost).es.length=s.es.length:=rndL_len m s lost s.es.length
theorem round_step {m:Ms} {s:Sts} (g:Good m s) (lost:List (Int × Int)) {k:Int} (h0:0≤k) (h1:k < (m.ns.length:Int)):(s.round m lost).at k=s.at k∨(k≠s.co∧∃ u:Int,0≤u∧u < (m.ns.length:Int)∧(s.at u).ne≠-1∧0 < betw m.ls u k∧(s.at u).di+betw m.ls u k≤3200∧(s.round m lost).at k=ofE m s u k∧((s.round m lost).at k).bet (s.at k)):=by
 rw [round_at m s lost h0 (by rw [g.len]; exact h1)]
 rcases (hr_fold m s lost k (m.nbs k) (s.at k)).1 with e | ⟨u,hu,hb,e⟩
 ·exact .inl e
 ·right
  have hn:=(nbs_iff m k u).1 hu
  unfold hrB ofB at hb
  simp only [Bool.and_eq_true,Bool.not_eq_true',beq_eq_false_iff_ne,decide_eq_true_eq] at hb
  refine ⟨hb.1,u,hn.1,hn.2.1,hb.2.1.1,by rw [betw_comm]; exact hn.2.2,hb.2.1.2,e,?_⟩
  show (roundE m s lost k).bet _
  unfold roundE
  rw [e]; exact betB_iff.1 hb.2.2.2
theorem round_best {m:Ms} {s:Sts} (g:Good m s) (lost:List (Int × Int)) {k u:Int} (h0:0≤k) (h1:k < (m.ns.length:Int)) (hk:k≠s.co) (hu:0≤u∧u < (m.ns.length:Int)) (hn:(s.at u).ne≠-1) (hb:0 < betw m.ls u k) (hd:(s.at u).di+betw m.ls u k≤3200) (hl:lostB lost k u=false):¬ (ofE m s u k).bet ((s.round m lost).at k):=by
 rw [round_at m s lost h0 (by rw [g.len]; exact h1)]
 have h:=(hr_fold m s lost k (m.nbs k) (s.at k)).2.1 u ((nbs_iff m k u).2 ⟨hu.1,hu.2,by rw [betw_comm]; exact hb⟩)
 intro hbet
 have e:hrB m s lost k u (roundE m s lost k)=true:=by
  unfold hrB ofB
  simp only [Bool.and_eq_true,Bool.not_eq_true',beq_eq_false_iff_ne,decide_eq_true_eq]
  exact ⟨hk,⟨hn,hd⟩,hl,betB_iff.2 hbet⟩
 unfold roundE at e
 rw [h] at e; cases e
theorem Good.round {m:Ms} {s:Sts} (g:Good m s) (lost:List (Int × Int)):Good m (s.round m lost) :=
 g.hears rfl rfl (round_len m s lost) fun _ h0 h1=>round_step g lost h0 h1
def Sts.rounds (m:Ms) (s:Sts):Nat→Sts
 | 0=>s
 | k+1=>(Sts.rounds m s k).round m []
theorem Good.rounds {m:Ms} {s:Sts} (g:Good m s):∀ k,Good m (s.rounds m k)
 | 0=>g
 | k+1=>(Good.rounds g k).round []
theorem rounds_co (m:Ms) (s:Sts):∀ k,(s.rounds m k).co=s.co
 | 0=>rfl
 | k+1=>rounds_co m s k
theorem rounds_len (m:Ms) (s:Sts):∀ k,(s.rounds m k).es.length=s.es.length
 | 0=>rfl
 | k+1=>(round_len m _ _).trans (rounds_len m s k)
theorem sts_ext {s t:Sts} (hc:s.co=t.co) (hn:s.nu=t.nu) (hl:s.es.length=t.es.length) (h:∀ v:Nat,v < s.es.length→s.at v=t.at v):s=t:=by
 have e:s.es=t.es:=by
  apply List.ext_getElem?
  intro i
  by_cases hi:i < s.es.length
  ·rw [Sts.at_get hi,Sts.at_get (by omega),h i hi]
  ·rw [List.getElem?_eq_none (by omega),List.getElem?_eq_none (by omega)]
 cases s; cases t
 simp only at hc hn e
 subst hc; subst hn; subst e; rfl
theorem Good.waves {m:Ms} {s:Sts} (g:Good m s):Waves m.ns.length (fun u v c=>v≠s.co.toNat∧dir m.ls u v c) (fun k v=>(s.rounds m k).at v) where
 step:=fun k v hv=>by
  have gk:=g.rounds k
  rcases round_step gk [] (k:=(v:Int)) (by omega) (by omega) with e | ⟨h1,u,h2,h3,h4,h5,h6,h7,h8⟩
  ·exact .inl e
  ·right
   have hco:=g.co
   rw [rounds_co] at h1
   refine ⟨u.toNat,betw m.ls u v,by omega,⟨by omega,(chk_fine g.chk).betw_dir.2 ⟨by rw [show ((u.toNat:Nat):Int)=u by omega],h5⟩⟩,?_,?_,?_,h8⟩
   ·rw [show ((u.toNat:Nat):Int)=u by omega]; exact h4
   ·rw [show ((u.toNat:Nat):Int)=u by omega]; exact h6
   ·show ((s.rounds m k).round m []).at v=_
    rw [h7,show ((u.toNat:Nat):Int)=u by omega]; rfl
 best:=fun k v u c hv hu ho hn hc=>by
  have gk:=g.rounds k
  have hd:=(chk_fine g.chk).betw_dir.1 ho.2
  have hco:=g.co
  have:=round_best gk [] (k:=(v:Int)) (u:=(u:Int)) (by omega) (by omega) (by rw [rounds_co]; have:=ho.1; omega) ⟨by omega,by omega⟩ hn (by omega) (by rw [← hd.1]; exact hc) rfl
  rw [hd.1]
  exact this
 cost:=fun u v c ho=>by have:=((chk_fine g.chk).betw_dir.1 ho.2).2; omega
theorem Good.rest {m:Ms} {s:Sts} (g:Good m s) {k:Nat} (hk:m.ns.length≤k+1):s.rounds m (k+1)=s.rounds m k:=by
 have gl:=g.len
 refine sts_ext rfl rfl (round_len m _ _) fun v hv=>?_
 rw [rounds_len,gl] at hv
 exact g.waves.rest k v hv hk
instance : DecidableEq En := fun _ _ => decidable_of_iff _ En.same_iff
def restK (m:Ms) (s:Sts):Nat→Nat→Nat
 | 0,k=>k
 | f+1,k=>if (s.rounds m (k+1)).es=(s.rounds m k).es then k else restK m s f (k+1)
def Sts.K (m:Ms) (s:Sts):Nat:=restK m s m.ns.length 0
theorem restK_stop {m:Ms} {s:Sts} {f k:Nat} (h:(s.rounds m (k+1)).es=(s.rounds m k).es):restK m s f k=k:=by
 cases f with
 | zero=>rfl
 | succ f=>unfold restK; rw [if_pos h]
theorem restK_go {m:Ms} {s:Sts} {f k:Nat} (h:¬ (s.rounds m (k+1)).es=(s.rounds m k).es):restK m s (f+1) k=restK m s f (k+1):=by
 conv=>lhs; unfold restK
 rw [if_neg h]
theorem Good.ne_lt {m:Ms} {s:Sts} (g:Good m s) {k:Nat} (h:¬ (s.rounds m (k+1)).es=(s.rounds m k).es):k+1 < m.ns.length:=by
 rcases Nat.lt_or_ge (k+1) m.ns.length with h1 | h1
 ·exact h1
 ·exact absurd (by rw [g.rest h1]) h
end Vc
set_option maxRecDepth 10000
set_option maxHeartbeats 4000000
namespace Vc
open Go Go.Proofs
def ir120:AFun:=⟨26,0,[.tmp 4],
 (.seq
 (.reg [] [⟨some 4,.mov (.cst (.d (.bool false))),none⟩])
 (.seq
 (.seq
 (.reg [] [⟨some 6,.mov (.tmp 0),none⟩,
 ⟨some 7,.len (.tmp 6),none⟩,
 ⟨some 8,.mov (.tmp 1),none⟩,
 ⟨some 9,.len (.tmp 8),none⟩,
 ⟨some 10,.cmp .neq (.tmp 7) (.tmp 9),none⟩])
 (.cond (.tmp 10)
 (.seq
 (.reg [] [⟨some 4,.mov (.cst (.d (.bool false))),none⟩])
 .ret)
 .skip))
 (.seq
 (.seq
 (.reg [] [⟨some 11,.mov (.tmp 0),none⟩,
 ⟨some 12,.len (.tmp 11),none⟩,
 ⟨some 13,.mov (.cst (.d (.int .i64 0))),none⟩])
 (.post [] []
 (.block 0
 (.keep [0,1,12,13] []
 (.loop
 (.post [0,1,12,13] []
 (.seq
 (.reg [] [⟨some 14,.cmp .lss (.tmp 13) (.tmp 12),none⟩])
 (.seq
 (.cond (.tmp 14)
 .skip
 (.exit 0))
 (.seq
 (.block 1
 (.seq
 (.reg [] [⟨some 15,.mov (.tmp 13),none⟩,
 ⟨some 5,.mov (.tmp 15),none⟩])
 (.seq
 (.regd [] [⟨some 16,.mov (.tmp 0),none⟩,
 ⟨some 17,.mov (.tmp 5),none⟩,
 ⟨some 18,.ixa 3 (.tmp 16) (.tmp 17),none⟩,
 ⟨some 19,.ld true 3 (.tmp 18),none⟩,
 ⟨some 20,.mov (.tmp 1),none⟩,
 ⟨some 21,.mov (.tmp 5),none⟩,
 ⟨some 22,.ixa 3 (.tmp 20) (.tmp 21),none⟩,
 ⟨some 23,.ld true 3 (.tmp 22),none⟩,
 ⟨some 24,.aeq true [0,0,0] (.tmp 19) (.tmp 23),none⟩] [(0,1),(0,4),(1,4),(2,4),(3,4),(0,5),(1,5),(2,5),(3,5),(4,5),(0,6),(1,6),(2,6),(3,6),(0,7),(1,7),(2,7),(3,7)])
 (.cond (.tmp 24)
 (.seq
 (.reg [] [⟨some 4,.mov (.cst (.d (.bool false))),none⟩])
 .ret)
 .skip))))
 (.reg [] [⟨some 25,.arith .add .i64 (.tmp 13) (.cst (.d (.int .i64 1))),none⟩,
 ⟨some 13,.mov (.tmp 25),none⟩]))))))))))
 (.seq
 (.reg [] [⟨some 4,.mov (.cst (.d (.bool true))),none⟩])
 .ret))))⟩
def ir53:AFun:=⟨25,4,[.cell 6 3 true,.tmp 7],
 (.seq
 (.reg [0,1,2] [⟨some 3,.cbx 0 2 (.tmp 0),none⟩,
 ⟨some 4,.cbx 1 3 (.tmp 1),none⟩,
 ⟨some 6,.alloc 2 [(.d (.int .i64 0)),(.d (.int .i64 0)),(.nils 3)],none⟩,
 ⟨some 7,.mov (.cst (.d (.int .i64 0))),none⟩])
 (.seq
 (.seq
 (.regd [3] [⟨some 9,.ld true 2 (.tmp 3),none⟩,
 ⟨some 10,.ld true 3 (.tmp 4),none⟩,
 ⟨some 11,.call 37 [(.tmp 9),(.tmp 10)],none⟩,
 ⟨some 12,.ld true 2 (.tmp 3),none⟩,
 ⟨some 13,.mov (.tmp 2),none⟩,
 ⟨some 14,.call 107 [(.tmp 12),(.tmp 13)],none⟩,
 ⟨some 15,.bsl 3 29 1 2 [(.int .i64 0),(.int .i64 0)] [(0,(.tmp 11)),(1,(.tmp 14))],none⟩,
 ⟨some 16,.call 86 [(.tmp 15)],none⟩,
 ⟨some 8,.mov (.tmp 16),none⟩] [(0,1),(0,3),(1,3),(2,3),(0,4),(1,4),(2,4),(3,4)])
 (.seq
 (.reg [] [⟨some 17,.mov (.tmp 8),none⟩,
 ⟨some 18,.cmp .neq (.tmp 17) (.cst (.d (.int .i64 0))),none⟩])
 (.cond (.tmp 18)
 (.seq
 (.reg [] [⟨some 19,.build [(.d (.int .i64 0)),(.d (.int .i64 0)),(.nils 3)] [],none⟩,
 ⟨some 20,.mov (.tmp 8),none⟩,
 ⟨none,.st 3 (.tmp 6) (.tmp 19),none⟩,
 ⟨some 7,.mov (.tmp 20),none⟩])
 .ret)
 .skip)))
 (.seq
 (.reg [] [⟨some 21,.ld true 3 (.tmp 4),none⟩,
 ⟨some 22,.ld true 2 (.tmp 3),none⟩,
 ⟨some 23,.mov (.tmp 2),none⟩,
 ⟨some 24,.call 119 [(.tmp 21),(.tmp 22),(.tmp 23)],none⟩,
 ⟨none,.st 3 (.tmp 6) (.tmp 24),none⟩,
 ⟨some 7,.mov (.cst (.d (.int .i64 0))),none⟩])
 .ret)))⟩
def ir54:AFun:=⟨38,6,[.cell 4 3 true,.tmp 5,.tmp 6],
 (.seq
 (.reg [0,1,2] [⟨some 2,.cbx 0 2 (.tmp 0),none⟩,
 ⟨some 3,.cbx 1 3 (.tmp 1),none⟩,
 ⟨some 4,.alloc 2 [(.d (.int .i64 0)),(.d (.int .i64 0)),(.nils 3)],none⟩,
 ⟨some 5,.mov (.cst (.d (.int .i64 0))),none⟩,
 ⟨some 6,.mov (.cst (.d (.int .i64 0))),none⟩])
 (.seq
 (.seq
 (.reg [] [⟨some 11,.ld true 2 (.tmp 2),none⟩,
 ⟨some 12,.ld true 3 (.tmp 3),none⟩,
 ⟨some 13,.call 37 [(.tmp 11),(.tmp 12)],none⟩,
 ⟨some 7,.mov (.tmp 13),none⟩])
 (.seq
 (.reg [] [⟨some 14,.mov (.tmp 7),none⟩,
 ⟨some 15,.cmp .neq (.tmp 14) (.cst (.d (.int .i64 0))),none⟩])
 (.cond (.tmp 15)
 (.seq
 (.reg [] [⟨some 16,.build [(.d (.int .i64 0)),(.d (.int .i64 0)),(.nils 3)] [],none⟩,
 ⟨some 17,.mov (.tmp 7),none⟩,
 ⟨none,.st 3 (.tmp 4) (.tmp 16),none⟩,
 ⟨some 5,.mov (.cst (.d (.int .i64 0))),none⟩,
 ⟨some 6,.mov (.tmp 17),none⟩])
 .ret)
 .skip)))
 (.seq
 (.reg [3] [⟨some 18,.ld true 3 (.tmp 3),none⟩,
 ⟨some 19,.call 99 [(.tmp 18)],none⟩,
 ⟨some 8,.alloc 3 [(.d (.int .i64 0)),(.d (.int .i64 0)),(.nils 3)],none⟩,
 ⟨none,.st 3 (.tmp 8) (.tmp 19),none⟩,
 ⟨some 9,.mov (.cst (.d (.int .i64 0))),none⟩])
 (.seq
 (.seq
 (.reg [4] [⟨some 20,.ld true 3 (.tmp 8),none⟩,
 ⟨some 21,.ld true 2 (.tmp 2),none⟩,
 ⟨some 22,.call 119 [(.tmp 20),(.tmp 21),(.cst (.nils 2))],none⟩,
 ⟨some 10,.alloc 4 [(.d (.int .i64 0)),(.d (.int .i64 0)),(.nils 3)],none⟩,
 ⟨none,.st 3 (.tmp 10) (.tmp 22),none⟩])
 (.post [4,8,9] [0,1,2,3,4,5]
 (.block 0
 (.keep [2,4,8,9,10] [0,1,2,3,4]
 (.loop
 (.post [2,4,8,9,10] [5]
 (.seq
 (.seq
 (.reg [] [⟨some 23,.fad 2 (.tmp 10),none⟩,
 ⟨some 24,.ld false 1 (.tmp 23),none⟩,
 ⟨some 25,.fad 2 (.tmp 8),none⟩,
 ⟨some 26,.ld false 1 (.tmp 25),none⟩,
 ⟨some 27,.call 120 [(.tmp 24),(.tmp 26)],none⟩,
 ⟨some 28,.not (.tmp 27),none⟩])
 (.cond (.tmp 28)
 .skip
 (.exit 0)))
 (.seq
 (.block 1
 (.seq
 (.reg [] [⟨some 32,.ld true 3 (.tmp 10),none⟩,
 ⟨none,.st 3 (.tmp 8) (.tmp 32),none⟩])
 (.reg [] [⟨some 33,.mov (.tmp 9),none⟩,
 ⟨some 34,.arith .add .i64 (.tmp 33) (.cst (.d (.int .i64 1))),none⟩,
 ⟨some 9,.mov (.tmp 34),none⟩])))
 (.seq
 (.seq
 (.reg [] [⟨some 35,.ld true 3 (.tmp 10),none⟩])
 (.keep [2,4,8,9,35] [4,5] (.reg [] [⟨some 10,.alloc 4 [(.d (.int .i64 0)),(.d (.int .i64 0)),(.nils 3)],none⟩,
 ⟨none,.st 3 (.tmp 10) (.tmp 35),none⟩])))
 (.reg [] [⟨some 29,.ld true 3 (.tmp 8),none⟩,
 ⟨some 30,.ld true 2 (.tmp 2),none⟩,
 ⟨some 31,.call 119 [(.tmp 29),(.tmp 30),(.cst (.nils 2))],none⟩,
 ⟨none,.st 3 (.tmp 10) (.tmp 31),none⟩]))))))))))
 (.seq
 (.reg [] [⟨some 36,.ld true 3 (.tmp 8),none⟩,
 ⟨some 37,.mov (.tmp 9),none⟩,
 ⟨none,.st 3 (.tmp 4) (.tmp 36),none⟩,
 ⟨some 5,.mov (.tmp 37),none⟩,
 ⟨some 6,.mov (.cst (.d (.int .i64 0))),none⟩])
 .ret)))))⟩
def Sts.roundP (m:Ms) (s:Sts) (lost:List (Int × Int)):Sts:=bif firstOf [m.chkS s,pairsE m lost] != 0 then Sts.zero else s.round m lost
theorem c53 (m:Ms) (s:Sts) (lost:List (Int × Int)) (hm:m.ns.length≤1048576) (hl2:m.ls.length≤1048576) (hn:s.es.length≤1048576) (hll:lost.length≤1048576):CallDet Tryz.prog 53 [.d m.d,.d s.d,.d (.slice 2 (prs lost))] [(s.roundP m lost).d,.int .i64 (firstOf [m.chkS s,pairsE m lost])]:=by
 have bad:¬ firstOf [m.chkS s,pairsE m lost]=0→resV [.agg [.int .i64 0,.int .i64 0,.slice 3 []],.int .i64 (firstOf [m.chkS s,pairsE m lost])]=resV [(s.roundP m lost).d,.int .i64 (firstOf [m.chkS s,pairsE m lost])]:=fun h=>by
  unfold Sts.roundP; rw [show (firstOf [m.chkS s,pairsE m lost] != 0)=true by rw [bne_iff_ne]; exact h]; rfl
 have fin:firstOf [m.chkS s,pairsE m lost]=0→resV [(s.round m lost).d,.int .i64 0]=resV [(s.roundP m lost).d,.int .i64 (firstOf [m.chkS s,pairsE m lost])]:=fun h=>by
  unfold Sts.roundP; rw [h]; rfl
 refine call_of_vc (x:=ir53) (by kernel_rfl) rfl ?_
 refine ca (c37 m s hm hl2 hn) ?_
 refine ca (c107 m lost hll) ?_
 refine sd ?_
 refine sd ?_
 refine ca (c86 [Ms.chkS m s,pairsE m lost] (by simp)) ?_
 refine sd ?_
 refine b_ne (fun t1=>?_) (fun t1=>?_)
 rotate_left
 refine ca (c119 m s lost (good_of (firstOf_zero ‹_› (m.chkS s) (by simp))) hll) ?_
 rotate_left
 ·exact bad t1
 ·exact fin t1
theorem same_iff2 {x y:En} (h:(!(En.same x y))=true):x≠y:=fun e=>by rw [En.same_iff.2 e] at h; cases h
theorem same_iff3 {x y:En} (h:(!(En.same x y))=false):x=y:=En.same_iff.1 (by simpa using h)
theorem c120 (a b:List En) (hl:a.length=b.length) (ha:a.length≤1048576):CallDet Tryz.prog 120 [.d (.slice 3 (ens a)),.d (.slice 3 (ens b))] [.bool (decide (a=b))]:=by
 have h1:=ens_len a
 have h2:=ens_len b
 have fin:∀ v:Bool,decide (a=b)=v→resV [.bool v]=resV [.bool (decide (a=b))]:=fun v h=>by rw [h]
 refine call_of_vc (x:=ir120) (by kernel_rfl) rfl ?_
 refine sd ?_
 refine b_ne (fun t1=>?_) (fun t1=>?_)
 (exfalso; omega)
 rotate_left
 refine loop_u (fun k:Nat=>[(13,.d (.int .i64 k))]) (fun k=>[]) (fun k=>k≤a.length∧a.take k=b.take k) (fun k=>a.length - k) 0 rfl ⟨Nat.zero_le _,rfl⟩ ?_
 rintro k ⟨hk,ht⟩
 have hk:k≤a.length:=hk
 by_cases hkk:k < a.length
 ·refine Exists.elim (get_lt a hkk) fun x hx=>?_
  refine Exists.elim (get_lt b (k:=k) (by omega)) fun y hy=>?_
  have hxd:=ens_at hx
  have hyd:=ens_at hy
  refine sd ?_
  refine b_lt (fun t2=>?_) (fun t2=>?_)
  refine ix_at hxd ?_ ?_
  (show (0:Int)≤(↑k:Int); omega)
  refine ix_at hyd ?_ ?_
  (show (0:Int)≤(↑k:Int); omega)
  refine ca (Exists.intro _ (And.intro rfl rfl)) ?_
  refine b_intro (fun t3=>?_) (fun t3=>?_)
  replace t3:(!(En.nu x==En.nu y&&(En.di x==En.di y&&(En.ne x==En.ne y&&true))))=true:=t3
  rotate_left
  replace t3:(!(En.nu x==En.nu y&&(En.di x==En.di y&&(En.ne x==En.ne y&&true))))=false:=t3
  refine ar_add ?_ ?_
  refine an ?_ ?_
  (show (-9223372036854775808:Int)≤(↑k:Int)+(1:Int); omega)
  (show (↑k:Int)+(1:Int)≤(9223372036854775807:Int); omega)
  rotate_left
  (exfalso; omega)
  ·refine fin _ (decide_eq_false fun e=>?_)
   subst e
   rw [hx] at hy
   exact same_iff2 t3 (Option.some.inj hy)
  ·exact ⟨k+1,⟨⟨hkk,by rw [take_one hx,take_one hy,ht,same_iff3 t3]⟩,by show a.length - (k+1) < a.length - k; omega⟩,rfl⟩
 ·have e:a=b:=by rw [List.take_of_length_le (by omega),List.take_of_length_le (by omega)] at ht; exact ht
  refine sd ?_
  refine b_lt (fun t2=>?_) (fun t2=>?_)
  (exfalso; omega)
  rotate_left
  exact fin _ (decide_eq_true e)
def Sts.allP (m:Ms) (s:Sts):Sts:=s.rounds m (s.K m)
theorem c54 (m:Ms) (s:Sts) (hm:m.ns.length≤1048576) (hl2:m.ls.length≤1048576) (hn:s.es.length≤1048576):CallDet Tryz.prog 54 [.d m.d,.d s.d] [(bif m.chkS s != 0 then Sts.zero else s.allP m).d,.int .i64 (bif m.chkS s != 0 then 0 else (s.K m:Int)),.int .i64 (m.chkS s)]:=by
 have hl:=ens_len s.es
 have bad:¬ m.chkS s=0→resV [.agg [.int .i64 0,.int .i64 0,.slice 3 []],.int .i64 0,.int .i64 (m.chkS s)]=resV [(bif m.chkS s != 0 then Sts.zero else s.allP m).d,.int .i64 (bif m.chkS s != 0 then 0 else (s.K m:Int)),.int .i64 (m.chkS s)]:=fun h=>by
  rw [show (m.chkS s != 0)=true by rw [bne_iff_ne]; exact h]; rfl
 have fin:m.chkS s=0→∀ k:Nat,s.K m=k→resV [.agg [.int .i64 (s.rounds m k).co,.int .i64 (s.rounds m k).nu,.slice 3 (ens (s.rounds m k).es)],.int .i64 k,.int .i64 0]=resV [(bif m.chkS s != 0 then Sts.zero else s.allP m).d,.int .i64 (bif m.chkS s != 0 then 0 else (s.K m:Int)),.int .i64 (m.chkS s)]:=fun e k h=>by rw [e]; unfold Sts.allP; rw [h]; rfl
 refine call_of_vc (x:=ir54) (by kernel_rfl) rfl ?_
 by_cases hz:m.chkS s=0
 ·have g:=good_of hz
  have hf:=chk_fine g.chk
  have hle:=g.len
  have h32:=hf.n32
  have h128:=hf.l128
  refine ca (c37 m s hm hl2 hn) ?_
  refine sd ?_
  refine b_ne (fun t1=>?_) (fun t1=>?_)
  (exfalso; omega)
  refine ca (c99 s (by omega)) ?_
  refine ca (c119 m s [] g (by decide)) ?_
  rotate_left
  refine loop_u (fun k:Nat=>[(9,.d (.int .i64 k))]) (fun k=>[(3,.box [.d (.int .i64 (s.rounds m k).co),.d (.int .i64 (s.rounds m k).nu),.d (.slice 3 (ens (s.rounds m k).es))]),(4,.box [.d (.int .i64 (s.rounds m (k+1)).co),.d (.int .i64 (s.rounds m (k+1)).nu),.d (.slice 3 (ens (s.rounds m (k+1)).es))])]) (fun k=>k≤m.ns.length∧s.K m=restK m s (m.ns.length - k) k) (fun k=>m.ns.length - k) 0 rfl ⟨Nat.zero_le _,rfl⟩ ?_
  rintro k ⟨hk,hK⟩
  have hk:k≤m.ns.length:=hk
  have hlk:=rounds_len m s (k+1)
  have c120_k:=c120 (s.rounds m (k+1)).es (s.rounds m k).es (round_len m _ _) (by omega)
  by_cases he:(s.rounds m (k+1)).es=(s.rounds m k).es
  ·rw [decide_eq_true he] at c120_k
   refine ca c120_k ?_
   rotate_left
   exact fin hz k (hK.trans (restK_stop he))
  ·rw [decide_eq_false he] at c120_k
   have hlt:=g.ne_lt he
   refine ca c120_k ?_
   refine ar_add ?_ ?_
   refine an ?_ ?_
   (show (-9223372036854775808:Int)≤(↑k:Int)+(1:Int); omega)
   (show (↑k:Int)+(1:Int)≤(9223372036854775807:Int); omega)
   refine ca (c119 m (s.rounds m (k+1)) [] (g.rounds (k+1)) (by decide)) ?_
   rotate_left
   exact ⟨k+1,⟨⟨by show k+1≤_; omega,by rw [hK,show m.ns.length - k=(m.ns.length - (k+1))+1 by omega,restK_go he]⟩,by show m.ns.length - (k+1) < m.ns.length - k; omega⟩,rfl⟩
 ·refine ca (c37 m s hm hl2 hn) ?_
  refine sd ?_
  refine b_ne (fun t1=>?_) (fun t1=>?_)
  rotate_left
  (exfalso; omega)
  exact bad hz
theorem heard_len (m:Ms) (s:Sts) (a b:Int):(s.heard m a b).es.length=s.es.length:=by unfold Sts.heard; exact List.length_set
end Vc
set_option maxRecDepth 10000
set_option maxHeartbeats 4000000
namespace Vc
open Go Go.Proofs
def ir151:AFun:=⟨22,3,[.tmp 4],
 (.seq
 (.reg [] [⟨some 4,.mov (.cst (.nils 1)),none⟩])
 (.seq
 (.reg [] [⟨some 5,.mov (.cst (.nils 1)),none⟩])
 (.seq
 (.seq
 (.reg [] [⟨some 8,.mov (.tmp 0),none⟩,
 ⟨some 9,.len (.tmp 8),none⟩,
 ⟨some 10,.mov (.cst (.d (.int .i64 0))),none⟩])
 (.post [5] [0,1,2]
 (.block 0
 (.asrow 2 3 1 5
 (.keep [1,5,8,9,10] []
 (.loop
 (.post [1,5,8,9,10] [0,1,2]
 (.seq
 (.reg [] [⟨some 11,.cmp .lss (.tmp 10) (.tmp 9),none⟩])
 (.seq
 (.cond (.tmp 11)
 .skip
 (.exit 0))
 (.seq
 (.block 1
 (.seq
 (.reg [0] [⟨some 12,.ixa 3 (.tmp 8) (.tmp 10),none⟩,
 ⟨some 13,.ld true 3 (.tmp 12),none⟩,
 ⟨some 7,.alloc 0 [(.d (.int .i64 0)),(.d (.int .i64 0)),(.d (.int .i64 0))],none⟩,
 ⟨none,.st 3 (.tmp 7) (.tmp 13),none⟩])
 (.reg [1,2] [⟨some 14,.mov (.tmp 5),none⟩,
 ⟨some 15,.mov (.tmp 1),none⟩,
 ⟨some 16,.ld true 3 (.tmp 7),none⟩,
 ⟨some 17,.callv (.tmp 15) [(.tmp 16)],none⟩,
 ⟨some 18,.bsl 1 3 1 1 [(.int .i64 0)] [(0,(.tmp 17))],none⟩,
 ⟨some 19,.app 2 3 1 8 (.tmp 14) (.tmp 18),none⟩,
 ⟨some 5,.mov (.tmp 19),none⟩])))
 (.reg [] [⟨some 20,.arith .add .i64 (.tmp 10) (.cst (.d (.int .i64 1))),none⟩,
 ⟨some 10,.mov (.tmp 20),none⟩])))))))))))
 (.seq
 (.reg [] [⟨some 21,.mov (.tmp 5),none⟩,
 ⟨some 4,.mov (.tmp 21),none⟩])
 .ret))))⟩
def ir152:AFun:=⟨5,1,[.tmp 2],
 (.seq
 (.reg [0] [⟨some 1,.cbx 0 3 (.tmp 0),none⟩,
 ⟨some 2,.mov (.cst (.d (.int .i64 0))),none⟩])
 (.seq
 (.reg [] [⟨some 3,.fad 2 (.tmp 1),none⟩,
 ⟨some 4,.ld false 1 (.tmp 3),none⟩,
 ⟨some 2,.mov (.tmp 4),none⟩])
 .ret))⟩
def ir153:AFun:=⟨5,4,[.tmp 2],
 (.seq
 (.reg [] [⟨some 2,.mov (.cst (.nils 1)),none⟩])
 (.seq
 (.reg [] [⟨some 3,.mov (.tmp 0),none⟩,
 ⟨some 4,.calli 164 [(.cst (.nils 1)),(.tmp 3)],none⟩,
 ⟨some 2,.mov (.tmp 4),none⟩])
 .ret))⟩
def ir154:AFun:=⟨6,2,[.tmp 4],
 (.seq
 (.reg [0,1] [⟨some 2,.cbx 0 1 (.tmp 0),none⟩,
 ⟨some 3,.cbx 1 1 (.tmp 1),none⟩,
 ⟨some 4,.mov (.cst .undef),none⟩])
 (.seq
 (.reg [] [⟨some 5,.mkf (.func 165) [] [(.tmp 3),(.tmp 2)],none⟩,
 ⟨some 4,.mov (.tmp 5),none⟩])
 .ret))⟩
def ir164:AFun:=⟨13,4,[.tmp 4],
 (.seq
 (.reg [0] [⟨some 2,.box 0 1 (.tmp 0),none⟩,
 ⟨some 4,.mov (.cst (.nils 1)),none⟩])
 (.seq
 (.seq
 (.reg [] [⟨some 6,.mov (.tmp 1),none⟩])
 (.block 0
 (.keep [2,6] [0]
 (.rfor 1 (.tmp 6) [7]
 (.reg [] [⟨some 5,.mov (.tmp 7),none⟩])
 (.post [] [2,3]
 (.block 1
 (.reg [2,3] [⟨some 8,.ld false 1 (.tmp 2),none⟩,
 ⟨some 9,.mov (.tmp 5),none⟩,
 ⟨some 10,.bsl 2 3 1 1 [(.int .i64 0)] [(0,(.tmp 9))],none⟩,
 ⟨some 11,.app 3 3 1 8 (.tmp 8) (.tmp 10),none⟩,
 ⟨none,.st 1 (.tmp 2) (.tmp 11),none⟩])))))))
 (.seq
 (.reg [] [⟨some 12,.ld false 1 (.tmp 2),none⟩,
 ⟨some 4,.mov (.tmp 12),none⟩])
 .ret)))⟩
def ir165:AFun:=⟨32,0,[],
 (.seq
 (.reg [] [⟨some 5,.ld false 1 (.tmp 1),none⟩,
 ⟨some 4,.mov (.tmp 5),none⟩])
 (.seq
 (.reg [] [⟨some 6,.ld false 1 (.tmp 2),none⟩,
 ⟨some 7,.len (.tmp 6),none⟩,
 ⟨some 8,.mov (.cst (.d (.int .i64 0))),none⟩])
 (.post [] []
 (.block 0
 (.keep [0,2,4,7,8] []
 (.loop
 (.post [0,2,4,7,8] []
 (.seq
 (.reg [] [⟨some 9,.cmp .lss (.tmp 8) (.tmp 7),none⟩])
 (.seq
 (.cond (.tmp 9)
 .skip
 (.exit 0))
 (.seq
 (.block 1
 (.seq
 (.seq
 (.reg [] [⟨some 10,.mov (.tmp 0),none⟩,
 ⟨some 11,.mov (.tmp 4),none⟩,
 ⟨some 12,.callv (.tmp 10) [(.tmp 11)],none⟩,
 ⟨some 13,.not (.tmp 12),none⟩])
 (.cond (.tmp 13)
 .ret
 .skip))
 (.seq
 (.seq
 (.reg [] [⟨some 14,.ld false 1 (.tmp 2),none⟩,
 ⟨some 15,.mov (.tmp 4),none⟩,
 ⟨some 16,.ixa 1 (.tmp 14) (.tmp 15),none⟩,
 ⟨some 17,.ld false 1 (.tmp 16),none⟩,
 ⟨some 18,.cmp .lss (.tmp 17) (.cst (.d (.int .i64 0))),none⟩,
 ⟨some 19,.mov (.tmp 18),none⟩,
 ⟨some 20,.ld false 1 (.tmp 2),some (19,false)⟩,
 ⟨some 21,.mov (.tmp 4),some (19,false)⟩,
 ⟨some 22,.ixa 1 (.tmp 20) (.tmp 21),some (19,false)⟩,
 ⟨some 23,.ld false 1 (.tmp 22),some (19,false)⟩,
 ⟨some 24,.mov (.tmp 4),some (19,false)⟩,
 ⟨some 25,.cmp .eql (.tmp 23) (.tmp 24),some (19,false)⟩,
 ⟨some 26,.pick (.tmp 19) (.cst (.d (.bool true))) (.tmp 25),none⟩])
 (.cond (.tmp 26)
 .ret
 .skip))
 (.reg [] [⟨some 27,.ld false 1 (.tmp 2),none⟩,
 ⟨some 28,.mov (.tmp 4),none⟩,
 ⟨some 29,.ixa 1 (.tmp 27) (.tmp 28),none⟩,
 ⟨some 30,.ld false 1 (.tmp 29),none⟩,
 ⟨some 4,.mov (.tmp 30),none⟩]))))
 (.reg [] [⟨some 31,.arith .add .i64 (.tmp 8) (.cst (.d (.int .i64 1))),none⟩,
 ⟨some 8,.mov (.tmp 31),none⟩])))))))))))⟩
def ir127:AFun:=⟨25,1,[.tmp 4,.tmp 5],
 (.seq
 (.reg [0] [⟨some 2,.cbx 0 3 (.tmp 0),none⟩,
 ⟨some 4,.mov (.cst (.nils 1)),none⟩,
 ⟨some 5,.mov (.cst (.d (.bool false))),none⟩])
 (.seq
 (.reg [] [⟨some 8,.fad 2 (.tmp 2),none⟩,
 ⟨some 9,.ld false 1 (.tmp 8),none⟩,
 ⟨some 10,.call 151 [(.tmp 9),(.cst (.d (.fn (.func 152) [])))],none⟩,
 ⟨some 6,.mov (.tmp 10),none⟩])
 (.seq
 (.reg [] [⟨some 11,.mov (.tmp 6),none⟩,
 ⟨some 12,.mov (.tmp 1),none⟩,
 ⟨some 13,.call 154 [(.tmp 11),(.tmp 12)],none⟩,
 ⟨some 14,.call 153 [(.tmp 13)],none⟩,
 ⟨some 7,.mov (.tmp 14),none⟩])
 (.seq
 (.regd [] [⟨some 15,.mov (.tmp 7),none⟩,
 ⟨some 16,.mov (.tmp 7),none⟩,
 ⟨some 17,.mov (.tmp 7),none⟩,
 ⟨some 18,.len (.tmp 17),none⟩,
 ⟨some 19,.arith .sub .i64 (.tmp 18) (.cst (.d (.int .i64 1))),none⟩,
 ⟨some 20,.ixa 1 (.tmp 16) (.tmp 19),none⟩,
 ⟨some 21,.ld false 1 (.tmp 20),none⟩,
 ⟨some 22,.fad 0 (.tmp 2),none⟩,
 ⟨some 23,.ld false 1 (.tmp 22),none⟩,
 ⟨some 24,.cmp .eql (.tmp 21) (.tmp 23),none⟩,
 ⟨some 4,.mov (.tmp 15),none⟩,
 ⟨some 5,.mov (.tmp 24),none⟩] [(0,1),(0,2),(1,2),(0,3),(1,3),(0,4),(1,4),(0,5),(0,6),(0,7),(1,7),(2,7),(3,7),(4,7),(5,7),(6,7),(0,8),(1,8),(2,8),(3,8),(4,8),(5,8),(6,8),(0,9),(1,10),(2,10),(3,10),(4,10),(5,10),(6,10),(7,10),(8,10),(9,10)])
 .ret))))⟩
def ir63:AFun:=⟨31,3,[.tmp 6,.tmp 7],
 (.seq
 (.reg [0,1] [⟨some 3,.cbx 0 2 (.tmp 0),none⟩,
 ⟨some 4,.cbx 1 3 (.tmp 1),none⟩,
 ⟨some 6,.mov (.cst (.nils 1)),none⟩,
 ⟨some 7,.mov (.cst (.d (.int .i64 0))),none⟩])
 (.seq
 (.seq
 (.regd [2] [⟨some 11,.ld true 2 (.tmp 3),none⟩,
 ⟨some 12,.ld true 3 (.tmp 4),none⟩,
 ⟨some 13,.call 37 [(.tmp 11),(.tmp 12)],none⟩,
 ⟨some 14,.ld true 2 (.tmp 3),none⟩,
 ⟨some 15,.mov (.tmp 2),none⟩,
 ⟨some 16,.call 87 [(.tmp 14),(.tmp 15)],none⟩,
 ⟨some 17,.bsl 2 29 1 2 [(.int .i64 0),(.int .i64 0)] [(0,(.tmp 13)),(1,(.tmp 16))],none⟩,
 ⟨some 18,.call 86 [(.tmp 17)],none⟩,
 ⟨some 8,.mov (.tmp 18),none⟩] [(0,1),(0,3),(1,3),(2,3),(0,4),(1,4),(2,4),(3,4)])
 (.seq
 (.reg [] [⟨some 19,.mov (.tmp 8),none⟩,
 ⟨some 20,.cmp .neq (.tmp 19) (.cst (.d (.int .i64 0))),none⟩])
 (.cond (.tmp 20)
 (.seq
 (.reg [] [⟨some 21,.mov (.tmp 8),none⟩,
 ⟨some 6,.mov (.cst (.nils 1)),none⟩,
 ⟨some 7,.mov (.tmp 21),none⟩])
 .ret)
 .skip)))
 (.seq
 (.reg [] [⟨some 23,.ld true 3 (.tmp 4),none⟩,
 ⟨some 24,.mov (.tmp 2),none⟩,
 ⟨some 25,.call 127 [(.tmp 23),(.tmp 24)],none⟩,
 ⟨some 22,.mov (.tmp 25),none⟩,
 ⟨some 26,.ext 0 (.tmp 22),none⟩,
 ⟨some 27,.ext 1 (.tmp 22),none⟩,
 ⟨some 9,.mov (.tmp 26),none⟩,
 ⟨some 10,.mov (.tmp 27),none⟩])
 (.seq
 (.seq
 (.reg [] [⟨some 28,.mov (.tmp 10),none⟩,
 ⟨some 29,.not (.tmp 28),none⟩])
 (.cond (.tmp 29)
 (.seq
 (.reg [] [⟨some 6,.mov (.cst (.nils 1)),none⟩,
 ⟨some 7,.mov (.cst (.d (.int .i64 7))),none⟩])
 .ret)
 .skip))
 (.seq
 (.reg [] [⟨some 30,.mov (.tmp 9),none⟩,
 ⟨some 6,.mov (.tmp 30),none⟩,
 ⟨some 7,.mov (.cst (.d (.int .i64 0))),none⟩])
 .ret)))))⟩
def ir64:AFun:=⟨36,4,[.tmp 4,.tmp 5],
 (.seq
 (.reg [0,1] [⟨some 2,.cbx 0 2 (.tmp 0),none⟩,
 ⟨some 3,.cbx 1 3 (.tmp 1),none⟩,
 ⟨some 4,.mov (.cst (.nils 1)),none⟩,
 ⟨some 5,.mov (.cst (.d (.int .i64 0))),none⟩])
 (.seq
 (.seq
 (.reg [] [⟨some 11,.ld true 2 (.tmp 2),none⟩,
 ⟨some 12,.ld true 3 (.tmp 3),none⟩,
 ⟨some 13,.call 37 [(.tmp 11),(.tmp 12)],none⟩,
 ⟨some 6,.mov (.tmp 13),none⟩])
 (.seq
 (.reg [] [⟨some 14,.mov (.tmp 6),none⟩,
 ⟨some 15,.cmp .neq (.tmp 14) (.cst (.d (.int .i64 0))),none⟩])
 (.cond (.tmp 15)
 (.seq
 (.reg [] [⟨some 16,.mov (.tmp 6),none⟩,
 ⟨some 4,.mov (.cst (.nils 1)),none⟩,
 ⟨some 5,.mov (.tmp 16),none⟩])
 .ret)
 .skip)))
 (.seq
 (.reg [] [⟨some 7,.mov (.cst (.nils 1)),none⟩])
 (.seq
 (.seq
 (.reg [] [⟨some 17,.fad 2 (.tmp 3),none⟩,
 ⟨some 18,.ld false 1 (.tmp 17),none⟩,
 ⟨some 19,.len (.tmp 18),none⟩,
 ⟨some 20,.mov (.cst (.d (.int .i64 0))),none⟩])
 (.post [7] [0,1,2,3]
 (.block 0
 (.asrow 3 3 1 7
 (.keep [3,7,19,20] [0,1]
 (.loop
 (.post [3,7,19,20] [2,3]
 (.seq
 (.reg [] [⟨some 21,.cmp .lss (.tmp 20) (.tmp 19),none⟩])
 (.seq
 (.cond (.tmp 21)
 .skip
 (.exit 0))
 (.seq
 (.block 1
 (.seq
 (.reg [] [⟨some 22,.mov (.tmp 20),none⟩,
 ⟨some 8,.mov (.tmp 22),none⟩])
 (.seq
 (.reg [] [⟨some 24,.ld true 3 (.tmp 3),none⟩,
 ⟨some 25,.mov (.tmp 8),none⟩,
 ⟨some 26,.call 127 [(.tmp 24),(.tmp 25)],none⟩,
 ⟨some 23,.mov (.tmp 26),none⟩,
 ⟨some 27,.ext 0 (.tmp 23),none⟩,
 ⟨some 28,.ext 1 (.tmp 23),none⟩,
 ⟨some 9,.mov (.tmp 27),none⟩,
 ⟨some 10,.mov (.tmp 28),none⟩])
 (.seq
 (.reg [] [⟨some 29,.mov (.tmp 10),none⟩])
 (.cond (.tmp 29)
 (.reg [2,3] [⟨some 30,.mov (.tmp 7),none⟩,
 ⟨some 31,.mov (.tmp 8),none⟩,
 ⟨some 32,.bsl 2 3 1 1 [(.int .i64 0)] [(0,(.tmp 31))],none⟩,
 ⟨some 33,.app 3 3 1 8 (.tmp 30) (.tmp 32),none⟩,
 ⟨some 7,.mov (.tmp 33),none⟩])
 .skip)))))
 (.reg [] [⟨some 34,.arith .add .i64 (.tmp 20) (.cst (.d (.int .i64 1))),none⟩,
 ⟨some 20,.mov (.tmp 34),none⟩])))))))))))
 (.seq
 (.reg [] [⟨some 35,.mov (.tmp 7),none⟩,
 ⟨some 4,.mov (.tmp 35),none⟩,
 ⟨some 5,.mov (.cst (.d (.int .i64 0))),none⟩])
 .ret)))))⟩
theorem c152 (x:En):CallDet Tryz.prog 152 [.d (.agg [.int .i64 x.nu,.int .i64 x.di,.int .i64 x.ne])] [.int .i64 x.ne]:=by
 refine call_of_vc (x:=ir152) (by kernel_rfl) rfl ?_
 exact rfl
def nes (l:List En):List Int:=l.map En.ne
theorem nes_len (l:List En):(nes l).length=l.length:=List.length_map _
theorem c151 (l:List En) (hl:l.length≤1048576):CallDet Tryz.prog 151 [.d (.slice 3 (ens l)),.d (.fn (.func 152) [])] [.slice 1 (ints (nes l))]:=by
 have hel:=ens_len l
 refine call_of_vc (x:=ir151) (by kernel_rfl) rfl ?_
 rotate_left
 refine loop_u (fun k:Nat=>[(5,.sl 2 (ints (nes (l.take k))).length),(10,.d (.int .i64 k))]) (fun k=>[(2,.row 3 1 (ints (nes (l.take k))) false)]) (fun k=>k≤l.length) (fun k=>l.length - k) 0 rfl (Nat.zero_le _) ?_
 intro k hk
 have hk:k≤l.length:=hk
 have h1:(ints (nes (l.take k))).length=k:=by rw [ints_len,nes_len,List.length_take]; omega
 by_cases hkk:k < l.length
 ·refine Exists.elim (get_lt l hkk) fun x hx=>?_
  have hxd:=ens_at hx
  refine sd ?_
  refine b_lt (fun t1=>?_) (fun t1=>?_)
  refine ix_at hxd ?_ ?_
  (show (0:Int)≤(↑k:Int); omega)
  refine ca (c152 x) ?_
  refine sd ?_
  refine sd ?_
  refine sd ?_
  refine an ?_ ?_
  refine an ?_ ?_
  exact rfl
  refine an ?_ ?_
  exact rfl
  refine an ?_ ?_
  exact rfl
  refine an ?_ ?_
  (show (List.length (ints (nes (List.take k l)))+(1:Nat)) * (8:Nat)≤(2:Nat) ^ (47:Nat); omega)
  (show List.length (ints (nes (List.take k l)))+(1:Nat)≤(2:Nat) ^ (47:Nat); omega)
  refine ar_add ?_ ?_
  refine an ?_ ?_
  (show (-9223372036854775808:Int)≤(↑k:Int)+(1:Int); omega)
  (show (↑k:Int)+(1:Int)≤(9223372036854775807:Int); omega)
  rotate_left
  (exfalso; omega)
  refine ⟨k+1,⟨hkk,by show l.length - (k+1) < l.length - k; omega⟩,?_⟩
  rw [take_one hx,show nes (l.take k++[x])=nes (l.take k)++[x.ne] by unfold nes; rw [List.map_append]; rfl,ints_app1]; rfl
 ·have e:l.take k=l:=List.take_of_length_le (by omega)
  rw [e] at h1 ⊢
  have h2:(ints (nes l)).length=l.length:=by rw [ints_len,nes_len]
  refine sd ?_
  refine b_lt (fun t1=>?_) (fun t1=>?_)
  (exfalso; omega)
  refine sd ?_
  exact rfl
def capA (a0:Int) (ne:List Int):List Data:=[.agg [.int .i64 a0],.agg [.slice 1 (ints ne)]]
theorem c154 (ne:List Int) (a0:Int):CallDet Tryz.prog 154 [.d (.slice 1 (ints ne)),.d (.int .i64 a0)] [.fn (.func 165) (capA a0 ne)]:=by
 refine call_of_vc (x:=ir154) (by kernel_rfl) rfl ?_
 exact rfl
def xa164:ACode:=(.reg [] [⟨some 5,.mov (.tmp 7),none⟩])
def xb164 : ACode := (.post [] [2, 3]
    (.block 1
     (.reg [2,3] [⟨some 8,.ld false 1 (.tmp 2),none⟩,
      ⟨some 9,.mov (.tmp 5),none⟩,
      ⟨some 10,.bsl 2 3 1 1 [(.int .i64 0)] [(0,(.tmp 9))],none⟩,
      ⟨some 11,.app 3 3 1 8 (.tmp 8) (.tmp 10),none⟩,
      ⟨none,.st 1 (.tmp 2) (.tmp 11),none⟩])))
noncomputable def lp164 (a0:Int) (ne:List Int):AObj:=.lp .ready none 13 [(2,.ptr 0 0),(6,.d (.fn (.func 165) (capA a0 ne)))] [7] xa164 xb164 (ckP Tryz.prog 13 xa164 xb164)
def boxv (acc:List Data):AVal:=match acc with | []=>.nils 1 | _::_=>.sl 3 acc.length
def row3 (acc:List Data):AObj:=match acc with | []=>.none | _::_=>.row 3 1 acc false
noncomputable def heap164 (a0:Int) (ne:List Int) (acc:List Data):List AObj:=[.box [boxv acc],lp164 a0 ne,.none,row3 acc]
theorem yield164 (a0 : Int) (ne : List Int) (n : Int) (acc : List Data) (hl : acc.length ≤ 1048576) :
  YieldIn Tryz.prog 1 [.d (.int .i64 n)] (heap164 a0 ne acc) (.d (.bool true)) (heap164 a0 ne (acc++[.int .i64 n])):=by
 cases acc with
 | nil =>
  refine yieldIn_of_vc (m:=13) (ps:=[7]) (xa:=xa164) (xb:=xb164) (sl:=[(2,.ptr 0 0),(6,.d (.fn (.func 165) (capA a0 ne)))]) rfl rfl rfl rfl rfl rfl ?_
  repeat refine sd ?_
  refine And.intro ⟨by show 1 * 8≤2 ^ 47; decide,by show 1≤2 ^ 47; decide⟩ ?_
  repeat refine sd ?_
  exact rfl
 | cons y r =>
  refine yieldIn_of_vc (m:=13) (ps:=[7]) (xa:=xa164) (xb:=xb164) (sl:=[(2,.ptr 0 0),(6,.d (.fn (.func 165) (capA a0 ne)))]) rfl rfl rfl rfl rfl rfl ?_
  repeat refine sd ?_
  refine And.intro ⟨rfl,rfl,rfl,?_,?_⟩ ?_
  ·show ((y::r).length+1) * 8≤2 ^ 47
   omega
  ·show (y::r).length+1≤2 ^ 47
   omega
  repeat refine sd ?_
  exact rfl
def wayN (ne:List Int):Nat→Int→List Int
 | 0,_=>[]
 | f+1,a=>if a < 0 then [] else if at0 ne a.toNat < 0∨at0 ne a.toNat=a then [a] else a::wayN ne f (at0 ne a.toNat)
theorem wayN_stop {ne:List Int} {f:Nat} {a:Int} (h0:0≤a) (h:at0 ne a.toNat < 0∨at0 ne a.toNat=a):wayN ne (f+1) a=[a]:=by
 rw [wayN,if_neg (by omega),if_pos h]
theorem wayN_go {ne:List Int} {f:Nat} {a:Int} (h0:0≤a) (h:¬ at0 ne a.toNat < 0) (h2:¬ at0 ne a.toNat=a):wayN ne (f+1) a=a::wayN ne f (at0 ne a.toNat):=by
 rw [wayN,if_neg (by omega),if_neg (by omega)]
theorem wayN_len (ne:List Int):∀ (f:Nat) (a:Int),(wayN ne f a).length≤f
 | 0,_=>Nat.le_refl _
 | f+1,a=>by
  rw [wayN]
  split
  ·exact Nat.zero_le _
  ·split
   ·show 1≤f+1; omega
   ·have:=wayN_len ne f (at0 ne a.toNat)
    show (wayN ne f (at0 ne a.toNat)).length+1≤f+1; omega
theorem c165 (ne:List Int) (a0:Int) (h0:0≤a0) (h1:a0 < (ne.length:Int)) (hl:ne.length≤32) (hb:∀ i:Nat,i < ne.length→at0 ne i < (ne.length:Int)):CallIn Tryz.prog 165 [.yld 1,.cp [.int .i64 a0] 0,.cp [.slice 1 (ints ne)] 0] (heap164 a0 ne []) (.tup []) (heap164 a0 ne (ints (wayN ne ne.length a0))):=by
 have hil:=ints_len ne
 refine callIn_of_vc (P:=Tryz.prog) (x:=ir165) 4 (by kernel_rfl) rfl rfl rfl ?_
 rotate_left
 refine loop_u (fun a:Nat × Int × List Data=>[(4,.d (.int .i64 a.2.1)),(8,.d (.int .i64 a.1))]) (fun a=>[(0,.box [boxv a.2.2]),(3,row3 a.2.2)]) (fun a=>(a.1≤ne.length∧a.2.2.length=a.1)∧((0≤a.2.1∧a.2.1 < (ne.length:Int))∧a.2.2++ints (wayN ne (ne.length - a.1) a.2.1)=ints (wayN ne ne.length a0))) (fun a=>ne.length - a.1) (0,a0,[]) rfl ⟨⟨Nat.zero_le _,rfl⟩,⟨h0,h1⟩,rfl⟩ ?_
 rintro ⟨k,a,acc⟩ ⟨⟨hk,hal⟩,⟨ha0,ha1⟩,hacc⟩
 have hk:k≤ne.length:=hk
 have hal:acc.length=k:=hal
 have ha0:0≤a:=ha0
 have ha1:a < (ne.length:Int):=ha1
 have hacc:acc++ints (wayN ne (ne.length - k) a)=ints (wayN ne ne.length a0):=hacc
 have hba:=hb a.toNat (by omega)
 have stop:k < ne.length→(at0 ne a.toNat < 0∨at0 ne a.toNat=a)→acc++[.int .i64 a]=ints (wayN ne ne.length a0):=fun h h2=>by
  rw [← hacc,show ne.length - k=(ne.length - (k+1))+1 by omega,wayN_stop ha0 h2]; rfl
 have nxt:k < ne.length→¬ at0 ne a.toNat < 0→¬ at0 ne a.toNat=a→(acc++[.int .i64 a])++ints (wayN ne (ne.length - (k+1)) (at0 ne a.toNat))=ints (wayN ne ne.length a0):=fun h h2 h3=>by
  rw [← hacc,show ne.length - k=(ne.length - (k+1))+1 by omega,wayN_go ha0 h2 h3,List.append_assoc]; rfl
 have ending:k=ne.length→acc=ints (wayN ne ne.length a0):=fun h=>by
  rw [← hacc,h,Nat.sub_self]; exact (List.append_nil _).symm
 cases acc with
 | nil =>
  by_cases hkk:k < (ints ne).length
  ·have hx:(ints ne)[a.toNat]?=some (.int .i64 (at0 ne a.toNat)):=ints_at0 (by omega)
   refine sd ?_
   refine b_lt (fun t1=>?_) (fun t1=>?_)
   replace t1:(↑k:Int) < (↑(List.length (ints ne)):Int):=t1
   rotate_left
   replace t1:¬(↑k:Int) < (↑(List.length (ints ne)):Int):=t1
   (exfalso; omega)
   refine Exists.intro (.d (.bool true)) (Exists.intro [(0,.box [boxv (([]:List Data)++[Data.int .i64 a])]),(3,row3 (([]:List Data)++[Data.int .i64 a]))] (And.intro (yield164 a0 ne a ([]) (by decide)) ?_))
   refine ix_at hx ?_ ?_
   assumption
   refine sd ?_
   refine b_lt (fun u1=>?_) (fun u1=>?_)
   refine sd ?_
   refine sd ?_
   rotate_left
   refine ix_at hx ?_ ?_
   assumption
   refine sd ?_
   refine b_eq (fun u2=>?_) (fun u2=>?_)
   replace u2:at0 ne (Int.toNat a)=Prod.fst (a,[]):=u2
   refine sd ?_
   rotate_left
   replace u2:¬at0 ne (Int.toNat a)=Prod.fst (a,[]):=u2
   refine ix_at hx ?_ ?_
   assumption
   refine ar_add ?_ ?_
   refine an ?_ ?_
   (show (-9223372036854775808:Int)≤(↑k:Int)+(1:Int); omega)
   (show (↑k:Int)+(1:Int)≤(9223372036854775807:Int); omega)
   rotate_left
   ·exact congrArg (heap164 a0 ne) (stop (by omega) (.inl u1))
   ·exact congrArg (heap164 a0 ne) (stop (by omega) (.inr u2))
   ·have u2:¬ at0 ne a.toNat=a:=u2
    exact ⟨(k+1,at0 ne a.toNat,([]:List Data)++[Data.int .i64 a]),⟨⟨⟨by show k+1≤ne.length; omega,by rw [List.length_append,hal]; rfl⟩,⟨by show 0≤at0 ne a.toNat; omega,hba⟩,nxt (by omega) u1 u2⟩,by show ne.length - (k+1) < ne.length - k; omega⟩,rfl⟩
  ·have ek:k=ne.length:=by omega
   refine sd ?_
   refine b_lt (fun t1=>?_) (fun t1=>?_)
   replace t1:(↑k:Int) < (↑(List.length (ints ne)):Int):=t1
   (exfalso; omega)
   replace t1:¬(↑k:Int) < (↑(List.length (ints ne)):Int):=t1
   refine sd ?_
   rotate_left
   exact congrArg (heap164 a0 ne) (ending ek)
 | cons y r =>
  by_cases hkk:k < (ints ne).length
  ·have hx:(ints ne)[a.toNat]?=some (.int .i64 (at0 ne a.toNat)):=ints_at0 (by omega)
   refine sd ?_
   refine b_lt (fun t1=>?_) (fun t1=>?_)
   replace t1:(↑k:Int) < (↑(List.length (ints ne)):Int):=t1
   rotate_left
   replace t1:¬(↑k:Int) < (↑(List.length (ints ne)):Int):=t1
   (exfalso; omega)
   refine Exists.intro (.d (.bool true)) (Exists.intro [(0,.box [boxv ((y::r:List Data)++[Data.int .i64 a])]),(3,row3 ((y::r:List Data)++[Data.int .i64 a]))] (And.intro (yield164 a0 ne a (y::r) (by omega)) ?_))
   refine ix_at hx ?_ ?_
   assumption
   refine sd ?_
   refine b_lt (fun u1=>?_) (fun u1=>?_)
   refine sd ?_
   refine sd ?_
   rotate_left
   refine ix_at hx ?_ ?_
   assumption
   refine sd ?_
   refine b_eq (fun u2=>?_) (fun u2=>?_)
   replace u2:at0 ne (Int.toNat a)=Prod.fst (a,y::r):=u2
   refine sd ?_
   rotate_left
   replace u2:¬at0 ne (Int.toNat a)=Prod.fst (a,y::r):=u2
   refine ix_at hx ?_ ?_
   assumption
   refine ar_add ?_ ?_
   refine an ?_ ?_
   (show (-9223372036854775808:Int)≤(↑k:Int)+(1:Int); omega)
   (show (↑k:Int)+(1:Int)≤(9223372036854775807:Int); omega)
   rotate_left
   ·exact congrArg (heap164 a0 ne) (stop (by omega) (.inl u1))
   ·exact congrArg (heap164 a0 ne) (stop (by omega) (.inr u2))
   ·have u2:¬ at0 ne a.toNat=a:=u2
    exact ⟨(k+1,at0 ne a.toNat,(y::r:List Data)++[Data.int .i64 a]),⟨⟨⟨by show k+1≤ne.length; omega,by rw [List.length_append,hal]; rfl⟩,⟨by show 0≤at0 ne a.toNat; omega,hba⟩,nxt (by omega) u1 u2⟩,by show ne.length - (k+1) < ne.length - k; omega⟩,rfl⟩
  ·have ek:k=ne.length:=by omega
   refine sd ?_
   refine b_lt (fun t1=>?_) (fun t1=>?_)
   replace t1:(↑k:Int) < (↑(List.length (ints ne)):Int):=t1
   (exfalso; omega)
   replace t1:¬(↑k:Int) < (↑(List.length (ints ne)):Int):=t1
   refine sd ?_
   rotate_left
   exact congrArg (heap164 a0 ne) (ending ek)
theorem c153 (ne:List Int) (a0:Int) (h0:0≤a0) (h1:a0 < (ne.length:Int)) (hl:ne.length≤32) (hb:∀ i:Nat,i < ne.length→at0 ne i < (ne.length:Int)):CallDet Tryz.prog 153 [.d (.fn (.func 165) (capA a0 ne))] [.slice 1 (ints (wayN ne ne.length a0))]:=by
 have hc:=c165 ne a0 h0 h1 hl hb
 refine call_of_vc (x:=ir153) (by kernel_rfl) rfl ?_
 refine Or.elim (show ints (wayN ne ne.length a0)=[]∨∃ y r,ints (wayN ne ne.length a0)=y::r by cases ints (wayN ne ne.length a0) with | nil=>exact .inl rfl | cons y r=>exact .inr ⟨y,r,rfl⟩) (fun hN=>?_) (fun hN=>Exists.elim hN fun y hN=>Exists.elim hN fun r hN=>?_)
 ·rw [hN] at hc ⊢
  refine Exists.intro (.nils 1) (Exists.intro [(0,.box [.nils 1])] (And.intro ?_ ?_))
  ·refine callIn_of_vc (P:=Tryz.prog) (x:=ir164) 0 (by kernel_rfl) rfl rfl rfl ?_
   refine Exists.intro (.tup []) (Exists.intro (heap164 a0 ne []) (And.intro hc ?_))
   refine And.intro (by intro h; cases h) ?_
   exact ⟨rfl,rfl⟩
  ·exact rfl
 ·rw [hN] at hc ⊢
  refine Exists.intro (.sl 3 (y::r).length) (Exists.intro [(0,.box [.sl 3 (y::r).length]),(3,.row 3 1 (y::r) false)] (And.intro ?_ ?_))
  ·refine callIn_of_vc (P:=Tryz.prog) (x:=ir164) 0 (by kernel_rfl) rfl rfl rfl ?_
   refine Exists.intro (.tup []) (Exists.intro (heap164 a0 ne (y::r)) (And.intro hc ?_))
   refine And.intro (by intro h; cases h) ?_
   exact ⟨rfl,rfl⟩
  ·repeat refine sd ?_
   exact rfl
theorem wayN_last (ne:List Int):∀ (f:Nat) (a:Int),0≤a→∃ x,(wayN ne (f+1) a).getLast?=some x
 | 0,a,h=>by
  rw [wayN,if_neg (by omega)]
  split
  ·exact ⟨a,rfl⟩
  ·exact ⟨a,rfl⟩
 | f+1,a,h=>by
  rw [wayN,if_neg (by omega)]
  split
  ·exact ⟨a,rfl⟩
  ·rename_i hn
   obtain ⟨x,hx⟩:=wayN_last ne f (at0 ne a.toNat) (by omega)
   refine ⟨x,?_⟩
   rw [List.getLast?_cons,hx]; rfl
def wayB (ne:List Int) (co a:Int):Bool:=match (wayN ne ne.length a).getLast? with
 | some x=>x==co
 | none=>false
theorem c127 (s:Sts) (a:Int) (h0:0≤a) (h1:a < (s.es.length:Int)) (hl:s.es.length≤32) (hb:∀ i:Nat,i < s.es.length→(s.at i).ne < (s.es.length:Int)):CallDet Tryz.prog 127 [.d s.d,.d (.int .i64 a)] [.slice 1 (ints (wayN (nes s.es) (nes s.es).length a)),.bool (wayB (nes s.es) s.co a)]:=by
 have hnl:=nes_len s.es
 have hbn:∀ i:Nat,i < (nes s.es).length→at0 (nes s.es) i < ((nes s.es).length:Int):=fun i hi=>by
  have h:=hb i (by omega)
  have e:at0 (nes s.es) i=(s.at i).ne:=by
   unfold at0 nes
   rw [List.getElem?_map,Sts.at_get (by omega)]; rfl
  omega
 have hwl:=wayN_len (nes s.es) (nes s.es).length a
 refine Exists.elim (wayN_last (nes s.es) ((nes s.es).length - 1) a h0) fun x hx=>?_
 rw [show (nes s.es).length - 1+1=(nes s.es).length by omega] at hx
 have hwb:wayB (nes s.es) s.co a=(x==s.co):=by unfold wayB; rw [hx]
 rw [hwb]
 have hil:=ints_len (wayN (nes s.es) (nes s.es).length a)
 have hpos:0 < (wayN (nes s.es) (nes s.es).length a).length:=by
  cases hw:wayN (nes s.es) (nes s.es).length a with
  | nil=>rw [hw] at hx; cases hx
  | cons y r=>exact Nat.succ_pos _
 have hxd:(ints (wayN (nes s.es) (nes s.es).length a))[(((ints (wayN (nes s.es) (nes s.es).length a)).length:Int) - 1).toNat]?=some (.int .i64 x):=by
  rw [hil,show (((wayN (nes s.es) (nes s.es).length a).length:Int) - 1).toNat=(wayN (nes s.es) (nes s.es).length a).length - 1 by omega]
  rw [List.getLast?_eq_getElem?] at hx
  have h:=ints_get hx
  rwa [show ((((wayN (nes s.es) (nes s.es).length a).length - 1:Nat):Int)).toNat=(wayN (nes s.es) (nes s.es).length a).length - 1 from rfl] at h
 refine call_of_vc (x:=ir127) (by kernel_rfl) rfl ?_
 refine ca (c151 s.es (by omega)) ?_
 refine ca (c154 _ _) ?_
 refine ca (c153 (nes s.es) a h0 (by omega) (by omega) hbn) ?_
 refine ar_sub ?_ ?_
 refine an ?_ ?_
 (show (-9223372036854775808:Int)≤(↑(List.length (ints (wayN (nes (Sts.es s)) (List.length (nes (Sts.es s))) a))):Int) - (1:Int); omega)
 (show (↑(List.length (ints (wayN (nes (Sts.es s)) (List.length (nes (Sts.es s))) a))):Int) - (1:Int)≤(9223372036854775807:Int); omega)
 refine ix_at hxd ?_ ?_
 (show (0:Int)≤(↑(List.length (ints (wayN (nes (Sts.es s)) (List.length (nes (Sts.es s))) a))):Int) - (1:Int); omega)
 refine sd ?_
 exact rfl
end Vc
set_option maxRecDepth 10000
set_option maxHeartbeats 4000000
namespace Vc
open Go Go.Proofs
def rkS (n:Nat) (s:Sts) (a:Int):Nat:=cnt n (fun u=>(s.at u).betB (s.at a))
theorem betB_self (x:En):x.betB x=false:=by
 cases h:x.betB x
 ·rfl
 ·have:=betB_iff.1 h
  unfold En.bet at this; omega
theorem Good.betw_self {m:Ms} {s:Sts} (g:Good m s) (a:Int):betw m.ls a a=0:=by
 rcases Classical.em (0 < betw m.ls a a) with h | h
 ·obtain ⟨l,hl,_,h1,h2⟩:=betw_mem h
  have:=((chk_fine g.chk).link hl).1.2.2
  omega
 ·have:=(chk_fine g.chk).rng a a; omega
theorem Good.nxt {m:Ms} {s:Sts} (g:Good m s) {a:Int} (h0:0≤a) (h1:a < (m.ns.length:Int)) (hc:a≠s.co) (hn:(s.at a).ne≠-1):0≤(s.at a).ne∧(s.at a).ne < (m.ns.length:Int)∧(s.at a).ne≠a∧0 < betw m.ls a (s.at a).ne∧(s.at (s.at a).ne).bet (s.at a):=by
 have r:=g.rng a h0 h1
 have hl:=g.lnk a h0 h1 hc hn
 have hr:=(chk_fine g.chk).rng a (s.at a).ne
 refine ⟨by omega,r.2.2.2,fun e=>?_,by omega,?_⟩
 ·rw [e] at hl; exact hl (g.betw_self a)
 ·have:=g.lead a h0 h1 hc hn
  unfold En.bet; omega
theorem Good.rk_lt {m:Ms} {s:Sts} (g:Good m s) {a:Int} (h0:0≤a) (h1:a < (m.ns.length:Int)) (hc:a≠s.co) (hn:(s.at a).ne≠-1):rkS m.ns.length s (s.at a).ne < rkS m.ns.length s a:=by
 have k:=g.nxt h0 h1 hc hn
 refine cnt_lt (j:=(s.at a).ne.toNat) (fun i _ hi=>?_) (by omega) ?_ ?_
 ·have h:=betB_iff.1 hi
  refine betB_iff.2 ?_
  have h2:=k.2.2.2.2
  unfold En.bet at h h2 ⊢
  omega
 ·show (s.at (((s.at a).ne.toNat:Nat):Int)).betB _=false
  rw [show (((s.at a).ne.toNat:Nat):Int)=(s.at a).ne by omega]; exact betB_self _
 ·show (s.at (((s.at a).ne.toNat:Nat):Int)).betB _=true
  rw [show (((s.at a).ne.toNat:Nat):Int)=(s.at a).ne by omega]; exact betB_iff.2 k.2.2.2.2
theorem rkS_lt {n:Nat} (s:Sts) {a:Int} (h0:0≤a) (h1:a < (n:Int)):rkS n s a < n:=by
 have h:=cnt_lt (n:=n) (p:=fun u=>(s.at u).betB (s.at a)) (q:=fun _=>true) (j:=a.toNat) (fun _ _ _=>rfl) (by omega) (by show (s.at ((a.toNat:Nat):Int)).betB _=false; rw [show ((a.toNat:Nat):Int)=a by omega]; exact betB_self _) rfl
 rw [cnt_all] at h; exact h
theorem nes_at {s:Sts} {a:Int} (h0:0≤a) (h1:a < (s.es.length:Int)):at0 (nes s.es) a.toNat=(s.at a).ne:=by
 unfold at0 nes
 rw [List.getElem?_map,Sts.at_getI (by omega)]; rfl
def Sts.way (s:Sts) (a:Int):List Int:=wayN (nes s.es) (nes s.es).length a
def Sts.isR (s:Sts) (a:Int):Bool:=wayB (nes s.es) s.co a
def rtE (s:Sts) (a:Int):Int:=bif s.isR a then 0 else 7
def selN (B:Nat→Bool):Nat→List Int
 | 0=>[]
 | k+1=>selN B k++(bif B k then [(k:Int)] else [])
theorem selN_len (B:Nat→Bool):∀ k,(selN B k).length≤k
 | 0=>Nat.le_refl _
 | k+1=>by
  have:=selN_len B k
  rw [selN,List.length_append]
  cases B k
  ·show _+0≤_; omega
  ·show _+1≤_; omega
theorem selN_yes {B:Nat→Bool} {k:Nat} (h:B k=true):selN B (k+1)=selN B k++[(k:Int)]:=by rw [selN,h]; rfl
theorem selN_no {B:Nat→Bool} {k:Nat} (h:B k=false):selN B (k+1)=selN B k:=by rw [selN,h]; exact List.append_nil _
def Sts.routed (s:Sts):List Int:=selN (fun i=>s.isR i) s.es.length
theorem c64 (m:Ms) (s:Sts) (hm:m.ns.length≤1048576) (hl2:m.ls.length≤1048576) (hn:s.es.length≤1048576):CallDet Tryz.prog 64 [.d m.d,.d s.d] [.slice 1 (ints (bif m.chkS s != 0 then [] else s.routed)),.int .i64 (m.chkS s)]:=by
 have hel:=ens_len s.es
 have bad:¬ m.chkS s=0→resV [.slice 1 [],.int .i64 (m.chkS s)]=resV [.slice 1 (ints (bif m.chkS s != 0 then [] else s.routed)),.int .i64 (m.chkS s)]:=fun h=>by rw [nil_if h]; rfl
 have fin:m.chkS s=0→∀ X,X=s.routed→resV [.slice 1 (ints X),.int .i64 0]=resV [.slice 1 (ints (bif m.chkS s != 0 then [] else s.routed)),.int .i64 (m.chkS s)]:=fun h X hX=>by rw [h,hX]; rfl
 refine call_of_vc (x:=ir64) (by kernel_rfl) rfl ?_
 by_cases hz:m.chkS s=0
 ·have g:=good_of hz
  have hle:=g.len
  have h32:=(chk_fine g.chk).n32
  have hbb:∀ i:Nat,i < s.es.length→(s.at i).ne < (s.es.length:Int):=fun i hi=>by have:=(g.rng i (by omega) (by omega)).2.2.2; omega
  refine ca (c37 m s hm hl2 hn) ?_
  refine sd ?_
  refine b_ne (fun t1=>?_) (fun t1=>?_)
  (exfalso; omega)
  rotate_left
  refine loop_u (fun k:Nat=>[(7,.sl 3 (ints (selN (fun i=>s.isR i) k)).length),(20,.d (.int .i64 k))]) (fun k=>[(3,.row 3 1 (ints (selN (fun i=>s.isR i) k)) false)]) (fun k=>k≤s.es.length) (fun k=>s.es.length - k) 0 rfl (Nat.zero_le _) ?_
  intro k hk
  have hk:k≤s.es.length:=hk
  have hsl:=selN_len (fun i=>s.isR i) k
  have hil:=ints_len (selN (fun i=>s.isR i) k)
  by_cases hkk:k < s.es.length
  ·have c127_k:CallDet Tryz.prog 127 [.d s.d,.d (.int .i64 k)] [.slice 1 (ints (s.way k)),.bool (s.isR k)]:=c127 s k (by omega) (by omega) (by omega) hbb
   refine sd ?_
   refine b_lt (fun t2=>?_) (fun t2=>?_)
   refine ca c127_k ?_
   refine b_intro (fun t3=>?_) (fun t3=>?_)
   refine sd ?_
   refine sd ?_
   refine sd ?_
   refine an ?_ ?_
   refine an ?_ ?_
   exact rfl
   refine an ?_ ?_
   exact rfl
   refine an ?_ ?_
   exact rfl
   refine an ?_ ?_
   (show (List.length (ints (selN (fun i=>Sts.isR s (↑i:Int)) k))+(1:Nat)) * (8:Nat)≤(2:Nat) ^ (47:Nat); omega)
   (show List.length (ints (selN (fun i=>Sts.isR s (↑i:Int)) k))+(1:Nat)≤(2:Nat) ^ (47:Nat); omega)
   refine ar_add ?_ ?_
   refine an ?_ ?_
   (show (-9223372036854775808:Int)≤(↑k:Int)+(1:Int); omega)
   (show (↑k:Int)+(1:Int)≤(9223372036854775807:Int); omega)
   rotate_left
   refine ar_add ?_ ?_
   refine an ?_ ?_
   (show (-9223372036854775808:Int)≤(↑k:Int)+(1:Int); omega)
   (show (↑k:Int)+(1:Int)≤(9223372036854775807:Int); omega)
   rotate_left
   (exfalso; omega)
   ·refine ⟨k+1,⟨hkk,by show s.es.length - (k+1) < s.es.length - k; omega⟩,?_⟩
    rw [selN_yes t3,ints_app1]; rfl
   ·refine ⟨k+1,⟨hkk,by show s.es.length - (k+1) < s.es.length - k; omega⟩,?_⟩
    rw [selN_no t3]; rfl
  ·have ek:k=s.es.length:=by omega
   subst ek
   refine sd ?_
   refine b_lt (fun t2=>?_) (fun t2=>?_)
   (exfalso; omega)
   refine sd ?_
   rotate_left
   exact fin hz _ rfl
 ·refine ca (c37 m s hm hl2 hn) ?_
  refine sd ?_
  refine b_ne (fun t1=>?_) (fun t1=>?_)
  rotate_left
  (exfalso; omega)
  exact bad hz
def routE (m:Ms) (s:Sts) (a:Int):Int:=bif firstOf [m.chkS s,m.nodeE a] != 0 then firstOf [m.chkS s,m.nodeE a] else rtE s a
theorem c63 (m:Ms) (s:Sts) (a:Int) (hm:m.ns.length≤1048576) (hl2:m.ls.length≤1048576) (hn:s.es.length≤1048576):CallDet Tryz.prog 63 [.d m.d,.d s.d,.d (.int .i64 a)] [.slice 1 (ints (bif routE m s a != 0 then [] else s.way a)),.int .i64 (routE m s a)]:=by
 have bad:∀ v,routE m s a=v→¬ v=0→resV [.slice 1 [],.int .i64 v]=resV [.slice 1 (ints (bif routE m s a != 0 then [] else s.way a)),.int .i64 (routE m s a)]:=fun v e h=>by rw [e,nil_if h]; rfl
 have fin:routE m s a=0→resV [.slice 1 (ints (s.way a)),.int .i64 0]=resV [.slice 1 (ints (bif routE m s a != 0 then [] else s.way a)),.int .i64 (routE m s a)]:=fun h=>by rw [h]; rfl
 refine call_of_vc (x:=ir63) (by kernel_rfl) rfl ?_
 by_cases hz:firstOf [m.chkS s,m.nodeE a]=0
 ·have g:=good_of (firstOf_zero hz (m.chkS s) (by simp))
  have hle:=g.len
  have h32:=(chk_fine g.chk).n32
  have ha:=node_in (firstOf_zero hz (m.nodeE a) (by simp))
  have hbb:∀ i:Nat,i < s.es.length→(s.at i).ne < (s.es.length:Int):=fun i hi=>by have:=(g.rng i (by omega) (by omega)).2.2.2; omega
  have c127_k:CallDet Tryz.prog 127 [.d s.d,.d (.int .i64 a)] [.slice 1 (ints (s.way a)),.bool (s.isR a)]:=c127 s a ha.1 (by omega) (by omega) hbb
  refine ca (c37 m s hm hl2 hn) ?_
  refine ca (c87 m _) ?_
  refine sd ?_
  refine sd ?_
  refine ca (c86 [Ms.chkS m s,Ms.nodeE m a] (by simp)) ?_
  refine sd ?_
  refine b_ne (fun t1=>?_) (fun t1=>?_)
  (exfalso; omega)
  refine ca c127_k ?_
  refine b_intro (fun t2=>?_) (fun t2=>?_)
  rotate_left
  rotate_left
  ·refine bad _ ?_ (by decide)
   unfold routE rtE; rw [if_0 hz,show s.isR a=false by simpa using t2]; rfl
  ·refine fin ?_
   unfold routE rtE; rw [if_0 hz,show s.isR a=true by simpa using t2]; rfl
 ·refine ca (c37 m s hm hl2 hn) ?_
  refine ca (c87 m _) ?_
  refine sd ?_
  refine sd ?_
  refine ca (c86 [Ms.chkS m s,Ms.nodeE m a] (by simp)) ?_
  refine sd ?_
  refine b_ne (fun t1=>?_) (fun t1=>?_)
  rotate_left
  (exfalso; omega)
  exact bad _ (by unfold routE; exact if_1 hz) hz
end Vc
set_option maxRecDepth 10000
set_option maxHeartbeats 4000000
namespace Vc
open Go Go.Proofs
def ir62:AFun:=⟨56,9,[.cell 6 3 true,.tmp 7],
 (.seq
 (.reg [0,1,2] [⟨some 3,.cbx 0 2 (.tmp 0),none⟩,
 ⟨some 4,.cbx 1 3 (.tmp 1),none⟩,
 ⟨some 6,.alloc 2 [(.d (.int .i64 0)),(.d (.int .i64 0)),(.nils 3)],none⟩,
 ⟨some 7,.mov (.cst (.d (.int .i64 0))),none⟩])
 (.seq
 (.seq
 (.regd [3] [⟨some 10,.ld true 2 (.tmp 3),none⟩,
 ⟨some 11,.ld true 3 (.tmp 4),none⟩,
 ⟨some 12,.call 37 [(.tmp 10),(.tmp 11)],none⟩,
 ⟨some 13,.ld true 2 (.tmp 3),none⟩,
 ⟨some 14,.mov (.tmp 2),none⟩,
 ⟨some 15,.call 87 [(.tmp 13),(.tmp 14)],none⟩,
 ⟨some 16,.mov (.tmp 2),none⟩,
 ⟨some 17,.fad 0 (.tmp 4),none⟩,
 ⟨some 18,.ld false 1 (.tmp 17),none⟩,
 ⟨some 19,.cmp .eql (.tmp 16) (.tmp 18),none⟩,
 ⟨some 20,.call 89 [(.tmp 19),(.cst (.d (.int .i64 9)))],none⟩,
 ⟨some 21,.fad 1 (.tmp 4),none⟩,
 ⟨some 22,.ld false 1 (.tmp 21),none⟩,
 ⟨some 23,.cmp .eql (.tmp 22) (.cst (.d (.int .i64 1000000))),none⟩,
 ⟨some 24,.call 89 [(.tmp 23),(.cst (.d (.int .i64 20)))],none⟩,
 ⟨some 25,.bsl 3 29 1 4 [(.int .i64 0),(.int .i64 0),(.int .i64 0),(.int .i64 0)] [(0,(.tmp 12)),(1,(.tmp 15)),(2,(.tmp 20)),(3,(.tmp 24))],none⟩,
 ⟨some 26,.call 86 [(.tmp 25)],none⟩,
 ⟨some 8,.mov (.tmp 26),none⟩] [(0,1),(0,3),(1,3),(2,3),(0,4),(1,4),(2,4),(3,4),(0,6),(1,6),(2,6),(3,6),(4,6),(5,6),(0,7),(1,7),(2,7),(3,7),(4,7),(5,7),(6,7),(0,8),(1,8),(2,8),(3,8),(4,8),(5,8),(6,8),(0,9),(1,9),(2,9),(3,9),(4,9),(5,9),(0,11),(1,11),(2,11),(3,11),(4,11),(5,11),(6,11),(7,11),(8,11),(9,11),(10,11),(0,12),(1,12),(2,12),(3,12),(4,12),(5,12),(6,12),(7,12),(8,12),(9,12),(10,12),(0,13),(1,13),(2,13),(3,13),(4,13),(5,13),(6,13),(7,13),(8,13),(9,13),(10,13)])
 (.seq
 (.reg [] [⟨some 27,.mov (.tmp 8),none⟩,
 ⟨some 28,.cmp .neq (.tmp 27) (.cst (.d (.int .i64 0))),none⟩])
 (.cond (.tmp 28)
 (.seq
 (.reg [] [⟨some 29,.build [(.d (.int .i64 0)),(.d (.int .i64 0)),(.nils 3)] [],none⟩,
 ⟨some 30,.mov (.tmp 8),none⟩,
 ⟨none,.st 3 (.tmp 6) (.tmp 29),none⟩,
 ⟨some 7,.mov (.tmp 30),none⟩])
 .ret)
 .skip)))
 (.seq
 (.reg [4] [⟨some 31,.ld true 3 (.tmp 4),none⟩,
 ⟨some 32,.calli 99 [(.tmp 31)],none⟩,
 ⟨some 9,.alloc 4 [(.d (.int .i64 0)),(.d (.int .i64 0)),(.nils 3)],none⟩,
 ⟨none,.st 3 (.tmp 9) (.tmp 32),none⟩])
 (.seq
 (.regd [] [⟨some 33,.mov (.tmp 2),none⟩,
 ⟨some 34,.fad 1 (.tmp 4),none⟩,
 ⟨some 35,.ld false 1 (.tmp 34),none⟩,
 ⟨some 36,.arith .add .i64 (.tmp 35) (.cst (.d (.int .i64 1))),none⟩,
 ⟨some 37,.fad 0 (.tmp 9),none⟩,
 ⟨none,.st 1 (.tmp 37) (.tmp 33),none⟩,
 ⟨some 38,.fad 1 (.tmp 9),none⟩,
 ⟨none,.st 1 (.tmp 38) (.tmp 36),none⟩] [(0,1),(0,2),(0,3),(1,4),(2,4),(3,4),(1,5),(2,5),(3,5)])
 (.seq
 (.reg [] [⟨some 39,.fad 2 (.tmp 9),none⟩,
 ⟨some 40,.ld false 1 (.tmp 39),none⟩,
 ⟨some 41,.fad 0 (.tmp 4),none⟩,
 ⟨some 42,.ld false 1 (.tmp 41),none⟩,
 ⟨some 43,.fad 1 (.tmp 4),none⟩,
 ⟨some 44,.ld false 1 (.tmp 43),none⟩,
 ⟨some 45,.build [(.d (.int .i64 0)),(.d (.int .i64 0)),(.d (.int .i64 0))] [(0,1,(.tmp 44)),(1,1,(.cst (.d (.int .i64 0)))),(2,1,(.cst (.d (.int .i64 (-1)))))],none⟩,
 ⟨some 46,.ixa 3 (.tmp 40) (.tmp 42),none⟩,
 ⟨none,.st 3 (.tmp 46) (.tmp 45),none⟩])
 (.seq
 (.reg [] [⟨some 47,.fad 2 (.tmp 9),none⟩,
 ⟨some 48,.ld false 1 (.tmp 47),none⟩,
 ⟨some 49,.mov (.tmp 2),none⟩,
 ⟨some 50,.fad 1 (.tmp 9),none⟩,
 ⟨some 51,.ld false 1 (.tmp 50),none⟩,
 ⟨some 52,.mov (.tmp 2),none⟩,
 ⟨some 53,.build [(.d (.int .i64 0)),(.d (.int .i64 0)),(.d (.int .i64 0))] [(0,1,(.tmp 51)),(1,1,(.cst (.d (.int .i64 0)))),(2,1,(.tmp 52))],none⟩,
 ⟨some 54,.ixa 3 (.tmp 48) (.tmp 49),none⟩,
 ⟨none,.st 3 (.tmp 54) (.tmp 53),none⟩])
 (.seq
 (.reg [] [⟨some 55,.ld true 3 (.tmp 9),none⟩,
 ⟨none,.st 3 (.tmp 6) (.tmp 55),none⟩,
 ⟨some 7,.mov (.cst (.d (.int .i64 0))),none⟩])
 .ret)))))))⟩
def Sts.elec (s:Sts) (i:Int):Sts:=⟨i,s.nu+1,(s.es.set s.co.toNat ⟨s.nu,0,-1⟩).set i.toNat ⟨s.nu+1,0,i⟩⟩
def Ms.joined (m:Ms) (nm:List UInt8) (w c:Int):Ms:=⟨m.ns++[nm],m.ls++[⟨w,m.ns.length,c⟩]⟩
def Sts.joined (s:Sts):Sts:=⟨s.co,s.nu,s.es++[⟨0,0,-1⟩]⟩
end Vc
set_option maxRecDepth 10000
namespace Vc
open Go Go.Proofs
theorem scan_ok_of {α:Type} {f:List α→α→Int} {l:List α} (h:∀ (k:Nat) x,l[k]?=some x→f (l.take k) x=0):scanE f [] l=0 :=
 scan_all l [] (fun k x hx=>by rw [List.nil_append]; exact h k x hx)
theorem chk_of_fine {m:Ms} (h:m.fine):m.chk=0 :=
 chk_4 (by have:=h.n32; omega) (scan_ok_of h.names) (by have:=h.l128; omega) (scan_ok_of h.links)
theorem linkE_of {n:Int} {pre:List Lk} {l:Lk} (h1:outs n l=0) (h2:pre.any (fun o=>sameL o l)=false) (h3:1≤l.c∧l.c≤100):linkE n pre l=0:=by
 unfold linkE; rw [h1,h2]; exact within_in h3
theorem erase_take {α:Type} {l:List α} {j k:Nat} {x:α} (h:x∈(l.eraseIdx j).take k):x∈l.take (k+1):=by
 obtain ⟨q,hq,e⟩:=List.mem_iff_getElem.1 h
 rw [List.length_take] at hq
 rw [List.getElem_take] at e
 have hq1:q < k:=by omega
 rw [List.getElem_eraseIdx] at e
 split at e
 ·have hle:=List.length_eraseIdx_le l j
  exact List.mem_iff_getElem.2 ⟨q,by rw [List.length_take]; omega,by rw [List.getElem_take]; exact e⟩
 ·have hl : q + 1 < l.length := by
   have h2:(l.eraseIdx j).length=if j < l.length then l.length - 1 else l.length:=List.length_eraseIdx
   split at h2
   ·omega
   ·omega
  exact List.mem_iff_getElem.2 ⟨q+1,by rw [List.length_take]; omega,by rw [List.getElem_take]; exact e⟩
theorem brok_fine {m:Ms} (h:m.fine) (i:Int):(m.brok i).fine:=by
 have hle:(m.brok i).ls.length≤m.ls.length:=List.length_eraseIdx_le m.ls i.toNat
 refine ⟨h.n32,by have:=h.l128; omega,?_,h.names⟩
 intro k l hl
 have hl:(m.ls.eraseIdx i.toNat)[k]?=some l:=hl
 rw [List.getElem?_eraseIdx] at hl
 split at hl
 ·rename_i hk
  have h0:=h.links k l hl
  show linkE m.ns.length ((m.ls.eraseIdx i.toNat).take k) l=0
  have e:(m.ls.eraseIdx i.toNat).take k=m.ls.take k:=by
   apply List.ext_getElem?
   intro q
   by_cases hq:q < k
   ·rw [List.getElem?_take_of_lt hq,List.getElem?_take_of_lt hq,List.getElem?_eraseIdx,if_pos (by omega)]
   ·rw [List.getElem?_eq_none (by rw [List.length_take]; omega),List.getElem?_eq_none (by rw [List.length_take]; omega)]
  rw [e]; exact h0
 ·have h0:=linkE_zero (h.links (k+1) l hl)
  refine linkE_of h0.1 ?_ h0.2.2
  rw [List.any_eq_false]
  intro o ho
  have:=List.any_eq_false.1 h0.2.1 o (erase_take ho)
  exact this
theorem betw_erase:∀ {ls:List Lk} {j:Nat} {l:Lk} {u v:Int},ls[j]?=some l→hit l u v=false→betw (ls.eraseIdx j) u v=betw ls u v
 | x::r,0,l,u,v,h,hh=>by
  have:x=l:=by simpa using h
  subst this
  show betw r u v=betw (x::r) u v
  conv=>rhs; unfold betw
  rw [hh]; rfl
 | x::r,j+1,l,u,v,h,hh=>by
  have ih:=betw_erase (ls:=r) (j:=j) (u:=u) (v:=v) (by simpa using h) hh
  show betw (x::r.eraseIdx j) u v=betw (x::r) u v
  unfold betw
  rw [ih]
theorem set_at {s:Sts} {co nu j:Int} {x:En} {k:Int} (hj:0≤j) (hjl:j < (s.es.length:Int)) (hk:0≤k):(⟨co,nu,s.es.set j.toNat x⟩:Sts).at k=if k=j then x else s.at k:=by
 unfold Sts.at
 by_cases e:k=j
 ·subst e
  rw [if_pos rfl]
  show ((s.es.set k.toNat x)[k.toNat]?).getD _=x
  rw [List.getElem?_set_self (by omega)]; rfl
 ·rw [if_neg e]
  show ((s.es.set j.toNat x)[k.toNat]?).getD _=_
  rw [List.getElem?_set_ne (by omega)]
def Mono (m:Ms) (s t:Sts):Prop:=∀ k:Int,0≤k→k < (m.ns.length:Int)→(s.at k).nu < (t.at k).nu∨((t.at k).nu=(s.at k).nu∧(t.at k).di≤(s.at k).di)
theorem Mono.refl (m:Ms) (s:Sts):Mono m s s:=fun _ _ _=>.inr ⟨rfl,Int.le_refl _⟩
theorem begun_at {m:Ms} {i k:Int} (hi:0≤i) (hil:i < (m.ns.length:Int)) (hk:0≤k) (hkl:k < (m.ns.length:Int)):(m.begun i).at k=if k=i then ⟨1,0,i⟩ else ⟨0,0,-1⟩:=by
 have h:=set_at (s:=⟨i,1,List.replicate m.ns.length ⟨0,0,-1⟩⟩) (co:=i) (nu:=1) (x:=⟨1,0,i⟩) hi (by show i < ((List.replicate m.ns.length _).length:Int); rw [List.length_replicate]; exact hil) hk
 have e:(⟨i,1,List.replicate m.ns.length ⟨0,0,-1⟩⟩:Sts).at k=⟨0,0,-1⟩:=by
  unfold Sts.at
  show ((List.replicate m.ns.length (⟨0,0,-1⟩:En))[k.toNat]?).getD _=_
  rw [List.getElem?_replicate,if_pos (by omega)]; rfl
 rw [e] at h
 exact h
theorem Good.begun {m:Ms} (hc:m.chk=0) {i:Int} (h0:0≤i) (h1:i < (m.ns.length:Int)):Good m (m.begun i):=by
 refine ⟨hc,⟨h0,h1⟩,⟨by show (1:Int)≤1; omega,by show (1:Int)≤1000000; omega⟩,by unfold Ms.begun; show (List.set _ _ _).length=_; rw [List.length_set,List.length_replicate],?_,?_,?_,?_,?_⟩
 ·intro k hk hkl
  rw [begun_at h0 h1 hk hkl]
  show (0≤_∧_≤(1:Int))∧_
  split <;> refine ⟨⟨?_,?_⟩,⟨?_,?_⟩,?_,?_⟩ <;> simp only <;> omega
 ·show (m.begun i).at i=⟨1,0,i⟩
  rw [begun_at h0 h1 h0 h1,if_pos rfl]
 ·intro k hk hkl hki hz
  have hki:k≠i:=hki
  rw [begun_at h0 h1 hk hkl,if_neg hki]
 ·intro k hk hkl hki hz
  have hki:k≠i:=hki
  rw [begun_at h0 h1 hk hkl,if_neg hki] at hz
  exact absurd rfl hz
 ·intro k hk hkl hki hz
  have hki:k≠i:=hki
  rw [begun_at h0 h1 hk hkl,if_neg hki] at hz
  exact absurd rfl hz
theorem beac_at {m:Ms} {s:Sts} (g:Good m s) {k:Int} (hk:0≤k):s.beac.at k=if k=s.co then ⟨s.nu+1,0,s.co⟩ else s.at k:=by
 have hco:=g.co
 have hle:=g.len
 have h:=set_at (s:=s) (co:=s.co) (nu:=s.nu+1) (x:=⟨s.nu+1,(s.at s.co).di,(s.at s.co).ne⟩) hco.1 (by omega) hk
 rw [show (⟨s.nu+1,(s.at s.co).di,(s.at s.co).ne⟩:En)=⟨s.nu+1,0,s.co⟩ by rw [g.coE]] at h
 have e:s.beac=⟨s.co,s.nu+1,s.es.set s.co.toNat ⟨s.nu+1,0,s.co⟩⟩:=by unfold Sts.beac; rw [g.coE]
 rw [e]; exact h
theorem Good.beac {m:Ms} {s:Sts} (g:Good m s) (hn:s.nu < 1000000):Good m s.beac∧Mono m s s.beac:=by
 have hnu:=g.nu
 have hat:∀ k:Int,0≤k→s.beac.at k=if k=s.co then ⟨s.nu+1,0,s.co⟩ else s.at k:=fun k hk=>beac_at g hk
 refine ⟨⟨g.chk,g.co,⟨by show 1≤s.nu+1; omega,by show s.nu+1≤1000000; omega⟩,by unfold Sts.beac; show (List.set _ _ _).length=_; rw [List.length_set]; exact g.len,?_,?_,?_,?_,?_⟩,?_⟩
 ·intro k h0 h1
  have r:=g.rng k h0 h1
  have hco:=g.co
  rw [hat k h0]
  show (0≤_∧_≤s.nu+1)∧_
  split
  ·refine ⟨⟨?_,?_⟩,⟨?_,?_⟩,?_,?_⟩ <;> simp only <;> omega
  ·exact ⟨⟨r.1.1,by omega⟩,r.2⟩
 ·show s.beac.at s.co=⟨s.nu+1,0,s.co⟩
  rw [hat s.co g.co.1,if_pos rfl]
 ·intro k h0 h1 hk hz
  have hk:k≠s.co:=hk
  rw [hat k h0,if_neg hk] at hz ⊢
  exact g.bare k h0 h1 hk hz
 ·intro k h0 h1 hk hz
  have hk:k≠s.co:=hk
  rw [hat k h0,if_neg hk] at hz ⊢
  exact g.lnk k h0 h1 hk hz
 ·intro k h0 h1 hk hz
  have hk:k≠s.co:=hk
  have r:=g.rng k h0 h1
  rw [hat k h0,if_neg hk] at hz ⊢
  have l:=g.lead k h0 h1 hk hz
  rw [hat (s.at k).ne (by omega)]
  split
  ·left; show (s.at k).nu < s.nu+1; omega
  ·exact l
 ·intro k h0 h1
  have r:=g.rng k h0 h1
  rw [hat k h0]
  split
  ·left; show (s.at k).nu < s.nu+1; omega
  ·exact .inr ⟨rfl,Int.le_refl _⟩
theorem elec_at {m:Ms} {s:Sts} (g:Good m s) {i k:Int} (hi:0≤i) (hil:i < (m.ns.length:Int)) (hk:0≤k):(s.elec i).at k=if k=i then ⟨s.nu+1,0,i⟩ else if k=s.co then ⟨s.nu,0,-1⟩ else s.at k:=by
 have hco:=g.co
 have hle:=g.len
 have h1:=set_at (s:=s) (co:=s.co) (nu:=s.nu) (x:=⟨s.nu,0,-1⟩) (k:=k) hco.1 (by omega) hk
 have h2:=set_at (s:=⟨s.co,s.nu,s.es.set s.co.toNat ⟨s.nu,0,-1⟩⟩) (co:=i) (nu:=s.nu+1) (x:=⟨s.nu+1,0,i⟩) (k:=k) hi (by show i < ((s.es.set _ _).length:Int); rw [List.length_set]; omega) hk
 rw [h1] at h2
 exact h2
theorem Good.elec {m:Ms} {s:Sts} (g:Good m s) {i:Int} (hi:0≤i) (hil:i < (m.ns.length:Int)) (hne:i≠s.co) (hn:s.nu < 1000000):Good m (s.elec i)∧Mono m s (s.elec i):=by
 have hnu:=g.nu
 have hco:=g.co
 have hat:∀ k:Int,0≤k→(s.elec i).at k=if k=i then ⟨s.nu+1,0,i⟩ else if k=s.co then ⟨s.nu,0,-1⟩ else s.at k:=fun k hk=>elec_at g hi hil hk
 refine ⟨⟨g.chk,⟨hi,hil⟩,⟨by show 1≤s.nu+1; omega,by show s.nu+1≤1000000; omega⟩,by unfold Sts.elec; show (List.set _ _ _).length=_; rw [List.length_set,List.length_set]; exact g.len,?_,?_,?_,?_,?_⟩,?_⟩
 ·intro k h0 h1
  have r:=g.rng k h0 h1
  rw [hat k h0]
  show (0≤_∧_≤s.nu+1)∧_
  split
  ·refine ⟨⟨?_,?_⟩,⟨?_,?_⟩,?_,?_⟩ <;> simp only <;> omega
  ·split
   ·refine ⟨⟨?_,?_⟩,⟨?_,?_⟩,?_,?_⟩ <;> simp only <;> omega
   ·exact ⟨⟨r.1.1,by omega⟩,r.2⟩
 ·show (s.elec i).at i=⟨s.nu+1,0,i⟩
  rw [hat i hi,if_pos rfl]
 ·intro k h0 h1 hk hz
  have hk:k≠i:=hk
  rw [hat k h0,if_neg hk] at hz ⊢
  split at hz
  ·have hz:s.nu=0:=hz
   omega
  ·rename_i hc
   rw [if_neg hc]
   exact g.bare k h0 h1 hc hz
 ·intro k h0 h1 hk hz
  have hk:k≠i:=hk
  rw [hat k h0,if_neg hk] at hz ⊢
  split at hz
  ·exact absurd rfl hz
  ·rename_i hc
   rw [if_neg hc]
   exact g.lnk k h0 h1 hc hz
 ·intro k h0 h1 hk hz
  have hk:k≠i:=hk
  have r:=g.rng k h0 h1
  rw [hat k h0,if_neg hk] at hz ⊢
  split at hz
  ·exact absurd rfl hz
  ·rename_i hc
   rw [if_neg hc]
   have l:=g.lead k h0 h1 hc hz
   rw [hat (s.at k).ne (by omega)]
   split
   ·left; show (s.at k).nu < s.nu+1; omega
   ·split
    ·rename_i he
     rw [he,g.coE] at l
     rw [he]
     exact l
    ·exact l
 ·intro k h0 h1
  have r:=g.rng k h0 h1
  rw [hat k h0]
  split
  ·left; show (s.at k).nu < s.nu+1; omega
  ·split
   ·rename_i he
    rw [he,g.coE]
    exact .inr ⟨rfl,Int.le_refl _⟩
   ·exact .inr ⟨rfl,Int.le_refl _⟩
theorem cut1_at {s:Sts} {i o k:Int} (hi:0≤i) (hil:i < (s.es.length:Int)) (hk:0≤k):(⟨s.co,s.nu,cut1 s.es i o⟩:Sts).at k=if k=i∧(s.at i).ne=o then ⟨(s.at i).nu,(s.at i).di,-1⟩ else s.at k:=by
 have hx:=Sts.at_getI (s:=s) (i:=i) (by omega)
 by_cases h:(s.at i).ne=o
 ·rw [cut1_yes hx h,set_at hi hil hk]
  by_cases e:k=i
  ·rw [if_pos e,if_pos ⟨e,h⟩]
  ·rw [if_neg e,if_neg (fun x=>e x.1)]
 ·rw [cut1_no hx h,if_neg (fun x=>h x.2)]
theorem brok_at {m:Ms} {s:Sts} (g:Good m s) {i:Int} {l:Lk} (hl:m.ls[i.toNat]?=some l) {k:Int} (hk:0≤k):(s.brok m i).at k=if (k=l.a∧(s.at k).ne=l.b)∨(k=l.b∧(s.at k).ne=l.a) then ⟨(s.at k).nu,(s.at k).di,-1⟩ else s.at k:=by
 have hin:=(chk_fine g.chk).link (List.mem_of_getElem? hl)
 have hle:=g.len
 have e:s.brok m i=⟨s.co,s.nu,cut2 s.es l⟩:=by unfold Sts.brok; rw [hl]
 rw [e]
 unfold cut2
 have h2:=cut1_at (s:=⟨s.co,s.nu,cut1 s.es l.a l.b⟩) (i:=l.b) (o:=l.a) (k:=k) (by omega) (by show l.b < ((cut1 _ _ _).length:Int); rw [cut1_len]; omega) hk
 have h1k:=cut1_at (s:=s) (i:=l.a) (o:=l.b) (k:=k) (by omega) (by omega) hk
 have h1b:=cut1_at (s:=s) (i:=l.a) (o:=l.b) (k:=l.b) (by omega) (by omega) (by omega)
 rw [if_neg (show ¬ (l.b=l.a∧(s.at l.a).ne=l.b) by omega)] at h1b
 rw [h1b,h1k] at h2
 refine h2.trans ?_
 by_cases c1:k=l.b
 ·subst c1
  by_cases c2:(s.at l.b).ne=l.a
  ·rw [if_pos ⟨rfl,c2⟩,if_pos (.inr ⟨rfl,c2⟩)]
  ·rw [if_neg (fun x=>c2 x.2),if_neg (show ¬ (l.b=l.a∧(s.at l.a).ne=l.b) by omega),if_neg]
   rintro (⟨x,_⟩ | ⟨_,x⟩)
   ·omega
   ·exact c2 x
 ·rw [if_neg (fun x=>c1 x.1)]
  by_cases c3:k=l.a
  ·subst c3
   by_cases c4:(s.at l.a).ne=l.b
   ·rw [if_pos ⟨rfl,c4⟩,if_pos (.inl ⟨rfl,c4⟩)]
   ·rw [if_neg (fun x=>c4 x.2),if_neg]
    rintro (⟨_,x⟩ | ⟨x,_⟩)
    ·exact c4 x
    ·exact c1 x
  ·rw [if_neg (fun x=>c3 x.1),if_neg]
   rintro (⟨x,_⟩ | ⟨x,_⟩)
   ·exact c3 x
   ·exact c1 x
theorem brok_len2 (s:Sts) (m:Ms) (i:Int):(s.brok m i).es.length=s.es.length:=by
 unfold Sts.brok
 show (match m.ls[i.toNat]? with | some l=>cut2 s.es l | none=>s.es).length=_
 split
 ·unfold cut2; rw [cut1_len,cut1_len]
 ·rfl
theorem Good.brok {m:Ms} {s:Sts} (g:Good m s) {i:Int} (h0:0≤i) (h1:i < (m.ls.length:Int)):Good (m.brok i) (s.brok m i)∧Mono m s (s.brok m i):=by
 have hf:=chk_fine g.chk
 have hnu:=g.nu
 have hco:=g.co
 obtain ⟨l,hl⟩:=get_lt m.ls (k:=i.toNat) (by omega)
 have hin:=hf.link (List.mem_of_getElem? hl)
 have hat:∀ k:Int,0≤k→(s.brok m i).at k=if (k=l.a∧(s.at k).ne=l.b)∨(k=l.b∧(s.at k).ne=l.a) then ⟨(s.at k).nu,(s.at k).di,-1⟩ else s.at k:=fun k hk=>brok_at g hl hk
 have num:∀ k:Int,0≤k→((s.brok m i).at k).nu=(s.at k).nu∧((s.brok m i).at k).di=(s.at k).di:=fun k hk=>by
  rw [hat k hk]; split <;> exact ⟨rfl,rfl⟩
 have same:∀ k:Int,0≤k→k < (m.ns.length:Int)→((s.brok m i).at k).ne≠-1→(s.brok m i).at k=s.at k∧hit l k (s.at k).ne=false:=fun k hk hkl hn=>by
  rw [hat k hk] at hn ⊢
  split at hn
  ·exact absurd rfl hn
  ·rename_i hc
   rw [if_neg hc]
   refine ⟨rfl,?_⟩
   cases hh:hit l k (s.at k).ne
   ·rfl
   ·exfalso
    have h2:=hit_iff.1 hh
    apply hc
    omega
 have bets:∀ k:Int,0≤k→k < (m.ns.length:Int)→((s.brok m i).at k).ne≠-1→betw (m.brok i).ls k (s.at k).ne=betw m.ls k (s.at k).ne:=fun k hk hkl hn=>betw_erase hl (same k hk hkl hn).2
 refine ⟨⟨chk_of_fine (brok_fine hf i),g.co,g.nu,(brok_len2 s m i).trans g.len,?_,?_,?_,?_,?_⟩,?_⟩
 ·intro k hk hkl
  have r:=g.rng k hk hkl
  rw [hat k hk]
  show (0≤_∧_≤s.nu)∧_
  split
  ·refine ⟨r.1,r.2.1,?_,?_⟩
   ·show (-1:Int)≤-1; omega
   ·show (-1:Int) < (m.ns.length:Int); omega
  ·exact r
 ·show (s.brok m i).at s.co=⟨s.nu,0,s.co⟩
  rw [hat s.co hco.1,if_neg,g.coE]
  rw [g.coE]
  show ¬ ((s.co=l.a∧s.co=l.b)∨(s.co=l.b∧s.co=l.a))
  omega
 ·intro k hk hkl hc hz
  have hc:k≠s.co:=hc
  rw [(num k hk).1] at hz
  have hb:=g.bare k hk hkl hc hz
  rw [hat k hk,if_neg,hb]
  rw [hb]
  show ¬ ((k=l.a∧-1=l.b)∨(k=l.b∧-1=l.a))
  omega
 ·intro k hk hkl hc hz
  have hc:k≠s.co:=hc
  have hs:=same k hk hkl hz
  have hbe:=bets k hk hkl hz
  rw [hs.1] at hz ⊢
  rw [hbe]; exact g.lnk k hk hkl hc hz
 ·intro k hk hkl hc hz
  have hc:k≠s.co:=hc
  have r:=g.rng k hk hkl
  have hs:=same k hk hkl hz
  have hbe:=bets k hk hkl hz
  rw [hs.1] at hz ⊢
  rw [hbe,(num (s.at k).ne (by omega)).1,(num (s.at k).ne (by omega)).2]
  exact g.lead k hk hkl hc hz
 ·intro k hk hkl
  rw [(num k hk).1,(num k hk).2]
  exact .inr ⟨rfl,Int.le_refl _⟩
theorem Good.heard {m:Ms} {s:Sts} (g:Good m s) {a b:Int} (ha:0≤a∧a < (m.ns.length:Int)) (hb:0≤b∧b < (m.ns.length:Int)) (hbt:betw m.ls a b≠0):Good m (s.heard m a b)∧Mono m s (s.heard m a b):=by
 have hle:=g.len
 have hrng:=(chk_fine g.chk).rng a b
 have st:∀ k:Int,0≤k→k < (m.ns.length:Int)→(s.heard m a b).at k=s.at k∨(k≠s.co∧∃ u:Int,0≤u∧u < (m.ns.length:Int)∧(s.at u).ne≠-1∧0 < betw m.ls u k∧(s.at u).di+betw m.ls u k≤3200∧(s.heard m a b).at k=ofE m s u k∧((s.heard m a b).at k).bet (s.at k)):=fun k hk hkl=>by
  have e:(s.heard m a b).at k=if k=a then Vc.hr m s [] a (s.at a) b else s.at k:=set_at (s:=s) (co:=s.co) (nu:=s.nu) (x:=Vc.hr m s [] a (s.at a) b) ha.1 (by omega) hk
  rw [e]
  by_cases hka:k=a
  ·subst hka
   rw [if_pos rfl]
   rcases hr_ref m s [] k b (s.at k) with e2 | ⟨h1,h2,_,h4,e2⟩
   ·exact .inl e2
   ·right
    unfold ofB at h1
    simp only [Bool.and_eq_true,Bool.not_eq_true',beq_eq_false_iff_ne,decide_eq_true_eq] at h1
    refine ⟨h2,b,hb.1,hb.2,h1.1,by rw [betw_comm]; omega,h1.2,e2,?_⟩
    rw [e2]; exact betB_iff.1 h4
  ·rw [if_neg hka]; exact .inl rfl
 refine ⟨g.hears rfl rfl (heard_len m s a b) st,fun k hk hkl=>?_⟩
 rcases st k hk hkl with e | ⟨_,u,_,_,_,_,_,_,hb⟩
 ·rw [e]; exact .inr ⟨rfl,Int.le_refl _⟩
 ·unfold En.bet at hb; omega
end Vc
set_option maxRecDepth 10000
set_option maxHeartbeats 4000000
namespace Vc
open Go Go.Proofs
end Vc
set_option maxRecDepth 10000
set_option maxHeartbeats 4000000
namespace Vc
open Go Go.Proofs
end Vc
set_option maxRecDepth 10000
set_option maxHeartbeats 4000000
namespace Vc
open Go Go.Proofs
def ir58:AFun:=⟨24,1,[.tmp 2],
 (.seq
 (.reg [0] [⟨some 1,.cbx 0 2 (.tmp 0),none⟩,
 ⟨some 2,.mov (.cst (.d (.bool false))),none⟩])
 (.seq
 (.reg [] [⟨some 3,.fad 0 (.tmp 1),none⟩,
 ⟨some 4,.ld false 1 (.tmp 3),none⟩,
 ⟨some 5,.len (.tmp 4),none⟩,
 ⟨some 6,.cmp .geq (.tmp 5) (.cst (.d (.int .i64 1))),none⟩,
 ⟨some 7,.mov (.tmp 6),none⟩,
 ⟨some 8,.fad 0 (.tmp 1),some (7,true)⟩,
 ⟨some 9,.ld false 1 (.tmp 8),some (7,true)⟩,
 ⟨some 10,.len (.tmp 9),some (7,true)⟩,
 ⟨some 11,.cmp .leq (.tmp 10) (.cst (.d (.int .i64 8))),some (7,true)⟩,
 ⟨some 12,.pick (.tmp 7) (.tmp 11) (.cst (.d (.bool false))),none⟩,
 ⟨some 13,.mov (.tmp 12),none⟩,
 ⟨some 14,.fad 1 (.tmp 1),some (13,true)⟩,
 ⟨some 15,.ld false 1 (.tmp 14),some (13,true)⟩,
 ⟨some 16,.len (.tmp 15),some (13,true)⟩,
 ⟨some 17,.cmp .leq (.tmp 16) (.cst (.d (.int .i64 18))),some (13,true)⟩,
 ⟨some 18,.pick (.tmp 13) (.tmp 17) (.cst (.d (.bool false))),none⟩,
 ⟨some 19,.mov (.tmp 18),none⟩,
 ⟨some 20,.ld true 2 (.tmp 1),some (19,true)⟩,
 ⟨some 21,.call 22 [(.tmp 20)],some (19,true)⟩,
 ⟨some 22,.cmp .eql (.tmp 21) (.cst (.d (.int .i64 0))),some (19,true)⟩,
 ⟨some 23,.pick (.tmp 19) (.tmp 22) (.cst (.d (.bool false))),none⟩,
 ⟨some 2,.mov (.tmp 23),none⟩])
 .ret))⟩
def fewB (m:Ms):Bool:=decide (1≤(m.ns.length:Int))&&(decide ((m.ns.length:Int)≤8)&&(decide ((m.ls.length:Int)≤18)&&(m.chk==0)))
theorem c58 (m:Ms) (hn:m.ns.length≤1048576) (hl:m.ls.length≤1048576):CallDet Tryz.prog 58 [.d m.d] [.bool (fewB m)]:=by
 have hsl:=strs_len m.ns
 have hll:=lks_len m.ls
 have fin:∀ b,fewB m=b→resV [.bool b]=resV [.bool (fewB m)]:=fun b h=>by rw [h]
 refine call_of_vc (x:=ir58) (by kernel_rfl) rfl ?_
 refine sd ?_
 refine b_le (fun t1=>?_) (fun t1=>?_)
 refine sd ?_
 refine b_le (fun t2=>?_) (fun t2=>?_)
 refine sd ?_
 refine b_le (fun t3=>?_) (fun t3=>?_)
 refine ca (c22 m hn hl) ?_
 refine sd ?_
 rotate_left
 refine sd ?_
 rotate_left
 refine sd ?_
 refine sd ?_
 rotate_left
 refine sd ?_
 refine sd ?_
 refine sd ?_
 rotate_left
 ·exact fin _ (by unfold fewB; rw [← hsl,← hll,decide_eq_true t1,decide_eq_true t2,decide_eq_true t3]; rfl)
 ·exact fin _ (by unfold fewB; rw [← hsl,← hll,decide_eq_true t1,decide_eq_true t2,decide_eq_false t3]; rfl)
 ·exact fin _ (by unfold fewB; rw [← hsl,← hll,decide_eq_true t1,decide_eq_false t2]; rfl)
 ·exact fin _ (by unfold fewB; rw [← hsl,← hll,decide_eq_false t1]; rfl)
end Vc
set_option maxRecDepth 10000
set_option maxHeartbeats 4000000
namespace Vc
open Go Go.Proofs
end Vc
set_option maxRecDepth 10000
set_option maxHeartbeats 4000000
namespace Vc
open Go Go.Proofs
end Vc
namespace Vc
open Go Go.Proofs
theorem u8_fit {r:List CT} {ds:List Data} (h:Fits' (.int .u8::r) ds):∃ (n:Int) (t:List Data),ds=.int .u8 n::t∧(0≤n∧n≤255)∧Fits' r t:=by
 obtain ⟨n,t,rfl,hn,ht⟩:=int_fit h
 refine ⟨n,t,rfl,?_,ht⟩
 simp [Lit.wf] at hn
 have h1:IntKind.u8.min=0:=rfl
 have h2:IntKind.u8.max=255:=rfl
 omega
end Vc
set_option maxRecDepth 10000
namespace Vc
open Go Go.Proofs
section
variable {n : Nat} {g : Nat → Nat → Bool} {f : Nat}
end
theorem calm_of_tot {n f:Nat} {ls:List Lk} (hn:n≤32) (hf:f < n) (hl:∀ l∈ls,l.okIn n):∀ (t m:Nat),(tot (passes ls m (start n f))).toNat≤t→∃ k,moved ls (passes ls k (start n f))=false
 | t,m,h=>by
  cases hm:moved ls (passes ls m (start n f))
  ·exact ⟨m,hm⟩
  ·have h1:=pass_fall hn hf hl m hm
   have h2:=tot_nn (passes ls (m+1) (start n f))
   cases t with
   | zero=>omega
   | succ t=>exact calm_of_tot hn hf hl t (m+1) (by omega)
theorem dist_calm {n f:Nat} {ls:List Lk} (hn:n≤32) (hf:f < n) (hl:∀ l∈ls,l.okIn n):calm ls (passes ls (n - 1) (start n f)):=by
 obtain ⟨k,hk⟩:=calm_of_tot hn hf hl _ 0 (Nat.le_refl _)
 rw [← dist_stop hn hf hl hk]; exact moved_calm hk
theorem Ms.fine.distOk {m:Ms} (h:m.fine) {f:Int} (h0:0≤f) (h1:f < (m.ns.length:Int)):DOk m.ns.length f.toNat (m.dist f):=passes_ok h.n32 (by omega) h.okIn _
theorem Ms.fine.distCalm {m:Ms} (h:m.fine) {f:Int} (h0:0≤f) (h1:f < (m.ns.length:Int)):calm m.ls (m.dist f):=dist_calm h.n32 (by omega) h.okIn
theorem dir_calm {ls:List Lk} {d:List Int} (h:calm ls d) {x y:Nat} {c:Int} (hd:dir ls x y c):bett d x y c=false:=by
 obtain ⟨l,hl,rfl,⟨rfl,rfl⟩ | ⟨rfl,rfl⟩⟩:=hd
 ·exact (h l hl).1
 ·exact (h l hl).2
theorem dir_step {ls:List Lk} {d:List Int} (h:calm ls d) {x y:Nat} {c:Int} (hd:dir ls x y c) (h0:0≤at0 d x):0≤at0 d y∧at0 d y≤at0 d x+c:=by
 have h1:=dir_calm h hd
 rcases Int.lt_or_le (at0 d y) 0 with hy | hy
 ·rw [bett_iff.2 ⟨h0,.inl hy⟩] at h1; cases h1
 ·refine ⟨hy,Int.not_lt.1 fun hlt=>?_⟩
  rw [bett_iff.2 ⟨h0,.inr hlt⟩] at h1; cases h1
theorem reachN_mem (d:List Int) (x:Int):∀ k,x∈reachN d k↔0≤x∧x < (k:Int)∧0≤at0 d x.toNat
 | 0=>⟨(fun h=>by cases h),(fun h=>by omega)⟩
 | k+1=>by
  have ih:=reachN_mem d x k
  rw [reachN,List.mem_append,ih]
  by_cases hd:0≤at0 d k
  ·rw [decide_eq_true hd]
   show _∨x∈[(k:Int)]↔_
   rw [List.mem_singleton]
   constructor
   ·rintro (h | rfl)
    ·omega
    ·exact ⟨by omega,by omega,by show 0≤at0 d k; exact hd⟩
   ·intro h
    by_cases hx:x=(k:Int)
    ·exact .inr hx
    ·exact .inl (by omega)
  ·rw [decide_eq_false hd]
   show _∨x∈[]↔_
   constructor
   ·rintro (h | h)
    ·omega
    ·cases h
   ·intro h
    refine .inl ⟨h.1,?_,h.2.2⟩
    have:x≠(k:Int):=fun e=>hd (by rw [e] at h; exact h.2.2)
    omega
theorem reach_mem {m:Ms} {f x:Int}:x∈m.reach f↔0≤x∧x < (m.ns.length:Int)∧0≤at0 (m.dist f) x.toNat:=by
 unfold Ms.reach
 rw [reachN_mem,dist_len]
end Vc
set_option maxRecDepth 10000
namespace Vc
open Go Go.Proofs
def Sts.calm (m:Ms) (s:Sts):Sts:=s.beac.rounds m (m.ns.length - 1)
theorem rounds_stay {m:Ms} {s:Sts} {k:Nat} (h:(s.rounds m (k+1)).es=(s.rounds m k).es):∀ j,s.rounds m (k+j)=s.rounds m k
 | 0=>rfl
 | j+1=>by
  have ih:=rounds_stay h j
  have e:s.rounds m (k+1)=s.rounds m k:=by
   have h1:(s.rounds m (k+1)).co=(s.rounds m k).co:=rfl
   have h2:(s.rounds m (k+1)).nu=(s.rounds m k).nu:=rfl
   generalize s.rounds m (k+1)=a at *
   generalize s.rounds m k=b at *
   cases a; cases b
   simp only at h h1 h2
   subst h; subst h1; subst h2; rfl
  show (s.rounds m (k+j)).round m []=_
  rw [ih]; exact e
theorem restK_is {m:Ms} {s:Sts} (g:Good m s):∀ f k,m.ns.length≤f+k→k < m.ns.length→(s.rounds m (restK m s f k+1)).es=(s.rounds m (restK m s f k)).es∧restK m s f k < m.ns.length
 | 0,k,h,hk=>by omega
 | f+1,k,h,hk=>by
  by_cases h1:(s.rounds m (k+1)).es=(s.rounds m k).es
  ·rw [restK_stop h1]; exact ⟨h1,hk⟩
  ·rw [restK_go h1]
   have:=g.ne_lt h1
   exact restK_is g f (k+1) (by omega) this
theorem Good.K_is {m:Ms} {s:Sts} (g:Good m s):(s.rounds m (s.K m+1)).es=(s.rounds m (s.K m)).es∧s.K m < m.ns.length:=by
 have:=g.co
 exact restK_is g _ 0 (by omega) (by omega)
section
variable {m : Ms} {s : Sts} (g : Good m s) (hn : s.nu < 1000000)
include g hn
theorem Good.all_calm:s.beac.rounds m (s.beac.K m)=s.calm m:=by
 have h:=(g.beac hn).1.K_is
 have e:=rounds_stay h.1 (m.ns.length - 1 - s.beac.K m)
 unfold Sts.calm
 rw [← e]; congr 1; omega
theorem Good.calm_good:Good m (s.calm m):=(g.beac hn).1.rounds _
theorem Good.calm_still:(s.calm m).round m []=s.calm m:=by
 have h:=(g.beac hn).1.rest (k:=m.ns.length - 1) (by omega)
 exact h
omit g hn in
theorem calm_co:(s.calm m).co=s.co:=rounds_co m _ _
theorem Good.calm_beac:Beac m.ns.length s.co.toNat m.ls (s.nu+1) (fun k v=>(s.beac.rounds m k).at v) where
 w:=(g.beac hn).1.waves
 fn:=by have:=g.co; omega
 n32:=(chk_fine g.chk).n32
 okIn:=(chk_fine g.chk).okIn
 co:=by
  have hc:=g.co
  show s.beac.at ((s.co.toNat:Nat):Int)=_
  rw [show ((s.co.toNat:Nat):Int)=s.co by omega,beac_at g hc.1,if_pos rfl]
 old:=fun v hv hne=>by
  have hc:=g.co
  show (s.beac.at (v:Int)).nu < _
  rw [beac_at g (by omega),if_neg (by omega)]
  have:=(g.rng v (by omega) (by omega)).1.2
  omega
theorem Good.calm_fix:∀ v,v < m.ns.length→(fun k v=>(s.beac.rounds m k).at v:Nat→Nat→En) (m.ns.length - 1+1) v=(fun k v=>(s.beac.rounds m k).at v:Nat→Nat→En) (m.ns.length - 1) v:=fun v _=>by
 show (s.beac.rounds m (m.ns.length - 1+1)).at v=(s.beac.rounds m (m.ns.length - 1)).at v
 rw [(g.beac hn).1.rest (by omega)]
theorem Good.calm_dist:m.dist s.co=told m.ns.length (s.nu+1) (fun v=>(s.calm m).at v):=(g.calm_beac hn).dist (g.calm_fix hn)
theorem Good.calm_nn {v:Nat} (h:0≤at0 (m.dist s.co) v):v < m.ns.length∧((s.calm m).at v).nu=s.nu+1∧at0 (m.dist s.co) v=((s.calm m).at v).di:=by
 rw [g.calm_dist hn] at h ⊢
 exact (g.calm_beac hn).at_nn h
theorem Good.way_cost : ∀ (F v : Nat), v < m.ns.length → ((s.calm m).at v).nu = s.nu + 1 → rkS m.ns.length (s.calm m) v < F →
  ∃ t,wayN (nes (s.calm m).es) F v=(v:Int)::t∧((v:Int)::t).getLast?=some s.co∧(∀ x∈(v:Int)::t,0≤x∧x < (m.ns.length:Int))∧∀ q,costG m v t q=(q+((s.calm m).at v).di,0)
 | 0,v,_,_,h=>by omega
 | F+1,v,hv,hnu,h=>by
  have gc:=g.calm_good hn
  have hl:=gc.len
  have hc:=g.co
  have ee:at0 (nes (s.calm m).es) ((v:Int)).toNat=((s.calm m).at v).ne:=nes_at (by omega) (by omega)
  by_cases e:(v:Int)=s.co
  ·have h0 : (s.calm m).at v = ⟨(s.calm m).nu, 0, s.co⟩ := by
    have:=gc.coE
    rw [calm_co] at this
    rw [e]; exact this
   rw [h0] at ee ⊢
   refine ⟨[],by rw [wayN_stop (by omega) (.inr (by rw [ee]; exact e.symm))],by rw [e]; rfl,fun x hx=>?_,fun q=>?_⟩
   ·rw [List.mem_singleton] at hx; omega
   ·rw [costG]; show (q,(0:Int))=(q+0,0); rw [Int.add_zero]
  ·obtain ⟨u,c,hu,hd,hne,hun,hdi⟩:=(g.calm_beac hn).next (g.calm_fix hn) hv hnu (by omega)
   have hne:((s.calm m).at v).ne=(u:Int):=hne
   have hun:((s.calm m).at u).nu=s.nu+1:=hun
   have hdi:((s.calm m).at v).di=((s.calm m).at u).di+c:=hdi
   have hb:=(chk_fine g.chk).betw_dir.1 hd
   have hrk:=gc.rk_lt (a:=(v:Int)) (by omega) (by omega) (by rw [calm_co]; exact e) (by omega)
   rw [hne] at hrk
   rw [hne] at ee
   have huv:u≠v:=fun k=>by subst k; omega
   obtain ⟨t,e1,e2,e3,e4⟩:=Good.way_cost F u hu hun (by omega)
   refine ⟨(u:Int)::t,?_,?_,fun x hx=>?_,fun q=>?_⟩
   ·rw [wayN_go (by omega) (by omega) (by omega),ee,e1]
   ·rw [← e2]; rfl
   ·rcases List.mem_cons.1 hx with rfl | hx
    ·omega
    ·exact e3 x hx
   ·rw [costG,betw_comm,← hb.1,show (c==0)=false by rw [beq_eq_false_iff_ne]; omega]
    show costG m u t (q+c)=_
    rw [e4,hdi]
    refine congrArg (fun z=>(z,(0:Int))) ?_
    omega
theorem Good.way_dist:∀ (F v:Nat),v < m.ns.length→(wayN (nes (s.calm m).es) F v).getLast?=some s.co→0≤at0 (m.dist s.co) v
 | 0,v,_,h=>by cases h
 | F+1,v,hv,h=>by
  have gc:=g.calm_good hn
  have hl:=gc.len
  have hc:=g.co
  have fi:=chk_fine g.chk
  by_cases e:(v:Int)=s.co
  ·have hz:=(fi.distOk hc.1 hc.2).zero
   rw [show v=s.co.toNat by omega,hz]; exact Int.le_refl _
  ·have ee:at0 (nes (s.calm m).es) ((v:Int)).toNat=((s.calm m).at v).ne:=nes_at (by omega) (by omega)
   by_cases h1:at0 (nes (s.calm m).es) ((v:Int)).toNat < 0∨at0 (nes (s.calm m).es) ((v:Int)).toNat=(v:Int)
   ·rw [wayN_stop (by omega) h1] at h
    exact absurd (Option.some.inj h) e
   ·rw [wayN_go (by omega) (by omega) (by omega),ee] at h
    have r:=gc.rng v (by omega) (by omega)
    have hnn:((s.calm m).at v).ne≠-1:=by omega
    have k:=gc.nxt (a:=(v:Int)) (by omega) (by omega) (by rw [calm_co]; exact e) hnn
    have eu:((((s.calm m).at v).ne.toNat:Nat):Int)=((s.calm m).at v).ne:=by omega
    cases hw:wayN (nes (s.calm m).es) F ((s.calm m).at v).ne with
    | nil=>rw [hw] at h; exact absurd (Option.some.inj h) e
    | cons a b =>
     have h2:(wayN (nes (s.calm m).es) F ((s.calm m).at v).ne).getLast?=some s.co:=by
      rw [hw] at h ⊢; rw [← h]; rfl
     rw [← eu] at h2
     have ih:=Good.way_dist F _ (by omega) h2
     refine (dir_step (fi.distCalm hc.1 hc.2) (fi.betw_dir.2 ⟨rfl,?_⟩) ih).1
     rw [eu,betw_comm]; exact k.2.2.2.1
theorem Good.calm_isR {v:Nat} (hv:v < m.ns.length):(s.calm m).isR v=decide (0≤at0 (m.dist s.co) v):=by
 have gc:=g.calm_good hn
 have hl:=gc.len
 have hnl:=nes_len (s.calm m).es
 unfold Sts.isR wayB
 rw [calm_co]
 by_cases h:0≤at0 (m.dist s.co) v
 ·rw [decide_eq_true h]
  obtain ⟨h1,h2,h3⟩:=g.calm_nn hn h
  obtain ⟨t,e1,e2,_⟩:=g.way_cost hn (nes (s.calm m).es).length v hv h2 (by rw [hnl,hl]; exact rkS_lt _ (by omega) (by omega))
  rw [e1,e2]; exact beq_self_eq_true _
 ·rw [decide_eq_false h]
  cases hw:(wayN (nes (s.calm m).es) (nes (s.calm m).es).length v).getLast? with
  | none=>rfl
  | some x =>
   show (x==s.co)=false
   rw [beq_eq_false_iff_ne]
   intro e
   subst e
   exact h (g.way_dist hn _ v hv hw)
theorem Good.calm_route {v:Nat} (h:0≤at0 (m.dist s.co) v):∃ t,(s.calm m).way v=(v:Int)::t∧((v:Int)::t).getLast?=some s.co∧m.costP ((s.calm m).way v)=(at0 (m.dist s.co) v,0)∧at0 (m.dist s.co) v=((s.calm m).at v).di:=by
 have gc:=g.calm_good hn
 have hl:=gc.len
 have hnl:=nes_len (s.calm m).es
 have fi:=chk_fine g.chk
 obtain ⟨h1,h2,h3⟩:=g.calm_nn hn h
 obtain ⟨t,e1,e2,e3,e4⟩:=g.way_cost hn (nes (s.calm m).es).length v h1 h2 (by rw [hnl,hl]; exact rkS_lt _ (by omega) (by omega))
 refine ⟨t,e1,e2,?_,h3⟩
 have hlen:=wayN_len (nes (s.calm m).es) (nes (s.calm m).es).length v
 have h32:=fi.n32
 have hw:(s.calm m).way v=(v:Int)::t:=e1
 rw [e1] at hlen
 rw [hw]
 have hE:costE m ((v:Int)::t)=0:=by
  unfold costE
  have hne:((((v:Int)::t).length:Int)==0)=false:=by rw [beq_eq_false_iff_ne,List.length_cons]; omega
  rw [hne,decide_eq_false (by omega),firstOf_cons,firstOf_cons,firstOf_cons]
  have hz:firstOf (((v:Int)::t).map m.nodeE)=0:=firstOf_all fun x hx=>by
   obtain ⟨y,hy,rfl⟩:=List.mem_map.1 hx
   have:=e3 y hy
   unfold Ms.nodeE outN
   rw [decide_eq_false (by omega),decide_eq_false (by omega)]; rfl
  rw [hz]; rfl
 unfold Ms.costP
 rw [g.chk]
 show m.cost _=_
 unfold Ms.cost
 rw [hE]
 show costG m v t 0=_
 rw [e4,h3,Int.zero_add]
theorem Good.calm_routed:(s.calm m).routed=m.reach s.co:=by
 have gc:=g.calm_good hn
 have hl:=gc.len
 unfold Sts.routed Ms.reach
 rw [hl,dist_len]
 have:∀ k,k≤m.ns.length→selN (fun i=>(s.calm m).isR i) k=reachN (m.dist s.co) k:=fun k=>by
  induction k with
  | zero=>intro _; rfl
  | succ k ih =>
   intro hk
   rw [selN,reachN,ih (by omega),g.calm_isR hn (by omega)]
 exact this _ (Nat.le_refl _)
end
theorem reachN_asc (d:List Int):∀ k,(reachN d k).Pairwise (· < ·)
 | 0=>List.Pairwise.nil
 | k+1=>by
  rw [reachN,List.pairwise_append]
  refine ⟨reachN_asc d k,?_,fun a ha b hb=>?_⟩
  ·cases decide (0≤at0 d k)
   ·exact List.Pairwise.nil
   ·exact List.pairwise_singleton _ _
  ·have:=((reachN_mem d a k).1 ha).2.1
   cases hd:decide (0≤at0 d k) <;> rw [hd] at hb
   ·cases hb
   ·have hb:b∈[(k:Int)]:=hb
    rw [List.mem_singleton] at hb; omega
theorem reach_bar {m:Ms} (h:m.fine) {f t:Int} (h0:0≤f) (h1:f < (m.ns.length:Int)) (ht:(m.reach f).contains t=false):barE m f t (m.reach f)=0:=by
 have hlen:=reach_len m f
 have h32:=h.n32
 have hasc:(m.reach f).Pairwise (· < ·):=reachN_asc _ _
 have hs:scanE (setE m) [] (m.reach f)=0:=scan_ok_of fun k x hx=>by
  obtain ⟨q0,q1,q2⟩:=reach_mem.1 (List.mem_of_getElem? hx)
  have hz:m.nodeE x=0:=by
   unfold Ms.nodeE outN
   rw [decide_eq_false (by omega),decide_eq_false (by omega)]; rfl
  cases k with
  | zero=>rw [setE_0,hz]; rfl
  | succ k =>
   have hk:=(List.getElem?_eq_some_iff.1 hx).1
   obtain ⟨y,hy⟩:=get_lt (m.reach f) (k:=k) (by omega)
   rw [setE_s (by omega) hy,hz]
   have hlt:y < x:=by
    obtain ⟨p1,p2⟩:=List.getElem?_eq_some_iff.1 hx
    obtain ⟨p3,p4⟩:=List.getElem?_eq_some_iff.1 hy
    have:=List.pairwise_iff_getElem.1 hasc k (k+1) p3 p1 (by omega)
    rw [p2,p4] at this; exact this
   rw [decide_eq_false (by omega)]; rfl
 rw [barE_3 (by omega) hs]
 have hc:(m.reach f).contains f=true:=by
  rw [List.contains_iff_mem,reach_mem,(h.distOk h0 h1).zero]; exact ⟨h0,h1,Int.le_refl _⟩
 have hx:m.ls.any (crossB (m.reach f))=false:=by
  rw [List.any_eq_false]
  intro l hl
  have hk:=h.link hl
  have cl:=h.distCalm h0 h1
  have d1:dir m.ls l.a.toNat l.b.toNat l.c:=⟨l,hl,rfl,.inl ⟨rfl,rfl⟩⟩
  have d2:dir m.ls l.b.toNat l.a.toNat l.c:=⟨l,hl,rfl,.inr ⟨rfl,rfl⟩⟩
  have e:(m.reach f).contains l.a=(m.reach f).contains l.b:=by
   rw [Bool.eq_iff_iff,List.contains_iff_mem,List.contains_iff_mem,reach_mem,reach_mem]
   exact ⟨fun h=>⟨by omega,by omega,(dir_step cl d1 h.2.2).1⟩,fun h=>⟨by omega,by omega,(dir_step cl d2 h.2.2).1⟩⟩
  unfold crossB
  rw [e]; simp
 rw [hc,ht,hx]; rfl
end Vc
set_option maxRecDepth 10000
set_option maxHeartbeats 4000000
namespace Vc
open Go Go.Proofs
@[irreducible] def seg11r:ACode:=(.post [2,3,4,7,8,10,11,12] [0,1,2,3,4]
 (.block 0
 (.keep [2,3,4,7,8,10,11,12,77,78] [0,1,2,3]
 (.loop
 (.post [2,3,4,7,8,10,11,12,77,78] [4]
 (.seq
 (.reg [] [⟨some 79,.cmp .lss (.tmp 78) (.tmp 77),none⟩])
 (.seq
 (.cond (.tmp 79)
 .skip
 (.exit 0))
 (.seq
 (.block 1
 (.seq
 (.regd [4] [⟨some 81,.ld true 2 (.tmp 3),none⟩,
 ⟨some 82,.call 18 [(.tmp 81)],none⟩,
 ⟨some 83,.ld true 3 (.tmp 8),none⟩,
 ⟨some 84,.call 59 [(.tmp 83)],none⟩,
 ⟨some 85,.call 33 [(.tmp 84)],none⟩,
 ⟨some 86,.call 53 [(.tmp 82),(.tmp 85),(.cst (.nils 2))],none⟩,
 ⟨some 80,.mov (.tmp 86),none⟩,
 ⟨some 87,.ext 0 (.tmp 80),none⟩,
 ⟨some 88,.ext 1 (.tmp 80),none⟩,
 ⟨some 13,.alloc 4 [(.d (.int .i64 0)),(.d (.int .i64 0)),(.nils 3)],none⟩,
 ⟨none,.st 3 (.tmp 13) (.tmp 87),none⟩,
 ⟨some 14,.mov (.tmp 88),none⟩] [(0,2),(1,2),(7,8),(0,9),(1,9),(2,9),(3,9),(4,9),(5,9),(6,9),(7,9),(8,9),(8,10)])
 (.seq
 (.seq
 (.reg [] [⟨some 89,.mov (.tmp 14),none⟩,
 ⟨some 90,.cmp .neq (.tmp 89) (.cst (.d (.int .i64 0))),none⟩,
 ⟨some 91,.mov (.tmp 90),none⟩,
 ⟨some 92,.fad 2 (.tmp 13),some (91,false)⟩,
 ⟨some 93,.ld false 1 (.tmp 92),some (91,false)⟩,
 ⟨some 94,.len (.tmp 93),some (91,false)⟩,
 ⟨some 95,.mov (.tmp 7),some (91,false)⟩,
 ⟨some 96,.cmp .neq (.tmp 94) (.tmp 95),some (91,false)⟩,
 ⟨some 97,.pick (.tmp 91) (.cst (.d (.bool true))) (.tmp 96),none⟩])
 (.cond (.tmp 97)
 (.seq
 (.reg [] [⟨some 6,.mov (.cst (.d (.bool false))),none⟩])
 .ret)
 .skip))
 (.reg [] [⟨some 98,.ld true 3 (.tmp 13),none⟩,
 ⟨none,.st 3 (.tmp 8) (.tmp 98),none⟩]))))
 (.reg [] [⟨some 99,.arith .add .i64 (.tmp 78) (.cst (.d (.int .i64 1))),none⟩,
 ⟨some 78,.mov (.tmp 99),none⟩])))))))))
@[irreducible] def seg11i:ACode:=(.post [2,3,4,7,17] [0,1,2,3,4,5]
 (.block 2
 (.keep [2,3,4,7,8,17,21,182,183] [0,1,2,3,4,5]
 (.loop
 (.post [2,3,4,7,8,17,21,182,183] []
 (.seq
 (.reg [] [⟨some 184,.cmp .lss (.tmp 183) (.tmp 182),none⟩])
 (.seq
 (.cond (.tmp 184)
 .skip
 (.exit 2))
 (.seq
 (.block 3
 (.seq
 (.reg [] [⟨some 185,.mov (.tmp 183),none⟩,
 ⟨some 23,.mov (.tmp 185),none⟩])
 (.seq
 (.regd [] [⟨some 187,.ld true 2 (.tmp 3),none⟩,
 ⟨some 188,.call 18 [(.tmp 187)],none⟩,
 ⟨some 189,.ld true 3 (.tmp 8),none⟩,
 ⟨some 190,.call 59 [(.tmp 189)],none⟩,
 ⟨some 191,.call 33 [(.tmp 190)],none⟩,
 ⟨some 192,.mov (.tmp 23),none⟩,
 ⟨some 193,.call 63 [(.tmp 188),(.tmp 191),(.tmp 192)],none⟩,
 ⟨some 186,.mov (.tmp 193),none⟩,
 ⟨some 194,.ext 0 (.tmp 186),none⟩,
 ⟨some 195,.ext 1 (.tmp 186),none⟩,
 ⟨some 24,.mov (.tmp 194),none⟩,
 ⟨some 25,.mov (.tmp 195),none⟩] [(0,2),(1,2),(0,5),(1,5),(2,5),(3,5),(4,5),(8,9),(9,10)])
 (.seq
 (.seq
 (.regd [] [⟨some 196,.mov (.tmp 17),none⟩,
 ⟨some 197,.mov (.tmp 23),none⟩,
 ⟨some 198,.ixa 1 (.tmp 196) (.tmp 197),none⟩,
 ⟨some 199,.ld false 1 (.tmp 198),none⟩,
 ⟨some 200,.cmp .geq (.tmp 199) (.cst (.d (.int .i64 0))),none⟩,
 ⟨some 201,.mov (.tmp 21),none⟩,
 ⟨some 202,.mov (.tmp 23),none⟩,
 ⟨some 203,.call 50 [(.tmp 201),(.tmp 202)],none⟩,
 ⟨some 204,.beq true (.tmp 200) (.tmp 203),none⟩,
 ⟨some 205,.mov (.tmp 204),none⟩,
 ⟨some 206,.mov (.tmp 25),some (205,false)⟩,
 ⟨some 207,.cmp .eql (.tmp 206) (.cst (.d (.int .i64 0))),some (205,false)⟩,
 ⟨some 208,.mov (.tmp 17),some (205,false)⟩,
 ⟨some 209,.mov (.tmp 23),some (205,false)⟩,
 ⟨some 210,.ixa 1 (.tmp 208) (.tmp 209),some (205,false)⟩,
 ⟨some 211,.ld false 1 (.tmp 210),some (205,false)⟩,
 ⟨some 212,.cmp .geq (.tmp 211) (.cst (.d (.int .i64 0))),some (205,false)⟩,
 ⟨some 213,.beq true (.tmp 207) (.tmp 212),some (205,false)⟩,
 ⟨some 214,.pick (.tmp 205) (.cst (.d (.bool true))) (.tmp 213),none⟩] [(0,1),(0,5),(1,5),(2,5),(3,5),(4,5),(0,6),(1,6),(2,6),(3,6),(4,6),(5,6),(0,7),(1,7),(2,7),(3,7),(4,7),(10,12),(11,12),(10,13),(11,13),(12,13),(10,14),(11,14),(10,15),(11,15),(10,16),(11,16)])
 (.cond (.tmp 214)
 (.seq
 (.reg [] [⟨some 6,.mov (.cst (.d (.bool false))),none⟩])
 .ret)
 .skip))
 (.seq
 (.seq
 (.reg [] [⟨some 215,.mov (.tmp 25),none⟩,
 ⟨some 216,.cmp .neq (.tmp 215) (.cst (.d (.int .i64 0))),none⟩])
 (.cond (.tmp 216)
 (.seq
 (.seq
 (.reg [] [⟨some 217,.mov (.tmp 25),none⟩,
 ⟨some 218,.cmp .neq (.tmp 217) (.cst (.d (.int .i64 7))),none⟩])
 (.cond (.tmp 218)
 (.seq
 (.reg [] [⟨some 6,.mov (.cst (.d (.bool false))),none⟩])
 .ret)
 .skip))
 (.exit 3))
 .skip))
 (.seq
 (.reg [] [⟨some 220,.ld true 2 (.tmp 3),none⟩,
 ⟨some 221,.call 18 [(.tmp 220)],none⟩,
 ⟨some 222,.mov (.tmp 24),none⟩,
 ⟨some 223,.call 20 [(.tmp 222)],none⟩,
 ⟨some 224,.call 19 [(.tmp 221),(.tmp 223)],none⟩,
 ⟨some 219,.mov (.tmp 224),none⟩,
 ⟨some 225,.ext 0 (.tmp 219),none⟩,
 ⟨some 226,.ext 1 (.tmp 219),none⟩,
 ⟨some 26,.mov (.tmp 225),none⟩,
 ⟨some 27,.mov (.tmp 226),none⟩])
 (.seq
 (.regd [] [⟨some 227,.mov (.tmp 27),none⟩,
 ⟨some 228,.cmp .neq (.tmp 227) (.cst (.d (.int .i64 0))),none⟩,
 ⟨some 229,.mov (.tmp 228),none⟩,
 ⟨some 230,.mov (.tmp 26),some (229,false)⟩,
 ⟨some 231,.mov (.tmp 17),some (229,false)⟩,
 ⟨some 232,.mov (.tmp 23),some (229,false)⟩,
 ⟨some 233,.ixa 1 (.tmp 231) (.tmp 232),some (229,false)⟩,
 ⟨some 234,.ld false 1 (.tmp 233),some (229,false)⟩,
 ⟨some 235,.cmp .neq (.tmp 230) (.tmp 234),some (229,false)⟩,
 ⟨some 236,.pick (.tmp 229) (.cst (.d (.bool true))) (.tmp 235),none⟩,
 ⟨some 237,.mov (.tmp 236),none⟩,
 ⟨some 238,.mov (.tmp 24),some (237,false)⟩,
 ⟨some 239,.ixa 1 (.tmp 238) (.cst (.d (.int .i64 0))),some (237,false)⟩,
 ⟨some 240,.ld false 1 (.tmp 239),some (237,false)⟩,
 ⟨some 241,.mov (.tmp 23),some (237,false)⟩,
 ⟨some 242,.cmp .neq (.tmp 240) (.tmp 241),some (237,false)⟩,
 ⟨some 243,.pick (.tmp 237) (.cst (.d (.bool true))) (.tmp 242),none⟩,
 ⟨some 244,.mov (.tmp 243),none⟩,
 ⟨some 245,.mov (.tmp 24),some (244,false)⟩,
 ⟨some 246,.mov (.tmp 24),some (244,false)⟩,
 ⟨some 247,.len (.tmp 246),some (244,false)⟩,
 ⟨some 248,.arith .sub .i64 (.tmp 247) (.cst (.d (.int .i64 1))),some (244,false)⟩,
 ⟨some 249,.ixa 1 (.tmp 245) (.tmp 248),some (244,false)⟩,
 ⟨some 250,.ld false 1 (.tmp 249),some (244,false)⟩,
 ⟨some 251,.fad 0 (.tmp 4),some (244,false)⟩,
 ⟨some 252,.ld false 1 (.tmp 251),some (244,false)⟩,
 ⟨some 253,.cmp .neq (.tmp 250) (.tmp 252),some (244,false)⟩,
 ⟨some 254,.pick (.tmp 244) (.cst (.d (.bool true))) (.tmp 253),none⟩,
 ⟨some 255,.mov (.tmp 254),none⟩,
 ⟨some 256,.fad 2 (.tmp 8),some (255,false)⟩,
 ⟨some 257,.ld false 1 (.tmp 256),some (255,false)⟩,
 ⟨some 258,.mov (.tmp 23),some (255,false)⟩,
 ⟨some 259,.ixa 3 (.tmp 257) (.tmp 258),some (255,false)⟩,
 ⟨some 260,.fad 1 (.tmp 259),some (255,false)⟩,
 ⟨some 261,.ld false 1 (.tmp 260),some (255,false)⟩,
 ⟨some 262,.mov (.tmp 26),some (255,false)⟩,
 ⟨some 263,.cmp .neq (.tmp 261) (.tmp 262),some (255,false)⟩,
 ⟨some 264,.pick (.tmp 255) (.cst (.d (.bool true))) (.tmp 263),none⟩] [(3,4),(3,5),(4,5),(3,6),(3,7),(11,14),(12,14),(13,14),(18,19),(18,20),(18,21),(18,24),(19,24),(20,24),(21,24),(22,24),(23,24),(18,25),(19,25),(20,25),(21,25),(22,25),(23,25),(29,31),(30,31),(29,35),(30,35),(31,35),(32,35),(33,35),(34,35)])
 (.cond (.tmp 264)
 (.seq
 (.reg [] [⟨some 6,.mov (.cst (.d (.bool false))),none⟩])
 .ret)
 .skip))))))))
 (.reg [] [⟨some 265,.arith .add .i64 (.tmp 183) (.cst (.d (.int .i64 1))),none⟩,
 ⟨some 183,.mov (.tmp 265),none⟩])))))))))
theorem v11r {n : Nat} {m : Ms} {s x y : Sts} {q rd : Int} {Q : AExit → St → Prop} (g : Good m x) (h1 : 1 ≤ m.ns.length)
  (h:Q .normal ⟨[(2,.d (.int .u8 q)),(3,.ptr 0 0),(4,.ptr 1 0),(7,.d (.int .i64 (strs m.ns).length)),(8,.ptr 2 0),(10,.ptr 3 0),(11,.d (.int .i64 rd)),(12,.d (.int .i64 0))],[.cbox [.slice 1 (strs m.ns),.slice 3 (lks m.ls)],.cbox [.int .i64 s.co,.int .i64 s.nu,.slice 3 (ens s.es)],.box [.d (.int .i64 (x.rounds m (m.ns.length - 1)).co),.d (.int .i64 (x.rounds m (m.ns.length - 1)).nu),.d (.slice 3 (ens (x.rounds m (m.ns.length - 1)).es))],.box [.d (.int .i64 y.co),.d (.int .i64 y.nu),.d (.slice 3 (ens y.es))],.none,.none]⟩) :
  vc Tryz.prog n seg11r ⟨[(2,.d (.int .u8 q)),(3,.ptr 0 0),(4,.ptr 1 0),(7,.d (.int .i64 (strs m.ns).length)),(8,.ptr 2 0),(10,.ptr 3 0),(11,.d (.int .i64 rd)),(12,.d (.int .i64 0)),(77,.d (.int .i64 (((strs m.ns).length:Int) - 1))),(78,.d (.int .i64 0))],[.cbox [.slice 1 (strs m.ns),.slice 3 (lks m.ls)],.cbox [.int .i64 s.co,.int .i64 s.nu,.slice 3 (ens s.es)],.box [.d (.int .i64 x.co),.d (.int .i64 x.nu),.d (.slice 3 (ens x.es))],.box [.d (.int .i64 y.co),.d (.int .i64 y.nu),.d (.slice 3 (ens y.es))],.none,.none]⟩ Q:=by
 unfold seg11r
 have hf:=chk_fine g.chk
 have h32:=hf.n32
 have h128:=hf.l128
 have hsl:=strs_len m.ns
 rotate_left
 refine loop_u (fun k:Nat=>[(78,.d (.int .i64 k))]) (fun k=>[(2,.box [.d (.int .i64 (x.rounds m k).co),.d (.int .i64 (x.rounds m k).nu),.d (.slice 3 (ens (x.rounds m k).es))])]) (fun k=>k≤m.ns.length - 1) (fun k=>m.ns.length - 1 - k) 0 rfl (Nat.zero_le _) ?_
 intro k hk
 have hk:k≤m.ns.length - 1:=hk
 dsimp only
 have gk:=g.rounds k
 have hkl:=gk.len
 have hel:=ens_len (x.rounds m k).es
 have hrl:=round_len m (x.rounds m k) []
 have hel2:=ens_len ((x.rounds m k).round m []).es
 by_cases hkn:k < m.ns.length - 1
 ·have c53_ : CallDet Tryz.prog 53 [.d m.d, .d (x.rounds m k).d, .d (.slice 2 [])] [((x.rounds m k).round m []).d, .int .i64 0] := by
   have h2:=c53 m (x.rounds m k) [] (by omega) (by omega) (by omega) (by decide)
   have e:firstOf [m.chkS (x.rounds m k),pairsE m []]=0:=by rw [of_good gk]; rfl
   unfold Sts.roundP at h2
   rw [e] at h2; exact h2
  refine sd ?_
  refine b_lt (fun t1=>?_) (fun t1=>?_)
  refine ca (c18 m (by omega) (by omega)) ?_
  refine ca (c59 (x.rounds m k) (by omega)) ?_
  refine ca (c33 (x.rounds m k) (by omega)) ?_
  refine ca c53_ ?_
  refine sd ?_
  refine sd ?_
  refine b_ne (fun t2=>?_) (fun t2=>?_)
  (exfalso; omega)
  refine ar_add ?_ ?_
  refine an ?_ ?_
  (show (-9223372036854775808:Int)≤(↑k:Int)+(1:Int); omega)
  (show (↑k:Int)+(1:Int)≤(9223372036854775807:Int); omega)
  rotate_left
  (exfalso; omega)
  all_goals exact ⟨k+1,⟨by show k+1≤m.ns.length - 1; omega,by show m.ns.length - 1 - (k+1) < m.ns.length - 1 - k; omega⟩,rfl⟩
 ·have ek:k=m.ns.length - 1:=by omega
  subst ek
  refine sd ?_
  refine b_lt (fun t1=>?_) (fun t1=>?_)
  (exfalso; omega)
  rotate_left
  all_goals exact h
theorem ens_at0 {s:Sts} {k:Nat} (h:k < s.es.length):(ens s.es)[((k:Int)).toNat]?=some (.agg [.int .i64 (s.at k).nu,.int .i64 (s.at k).di,.int .i64 (s.at k).ne]):=by
 show (ens s.es)[k]?=_
 unfold ens
 rw [List.getElem?_map,Sts.at_get h]; rfl
theorem last_ints {l:List Int} {x:Int} (h:l.getLast?=some x):(ints l)[(((ints l).length:Int) - 1).toNat]?=some (.int .i64 x):=by
 have hl:=ints_len l
 cases l with
 | nil=>cases h
 | cons a r =>
  have e:(((ints (a::r)).length:Int) - 1).toNat=r.length:=by rw [hl,List.length_cons]; omega
  rw [e]
  rw [List.getLast?_eq_getElem?] at h
  unfold ints
  rw [List.getElem?_map]
  have h:(a::r)[r.length]?=some x:=h
  rw [h]; rfl
theorem v11i {n : Nat} {m : Ms} {s : Sts} {q : Int} {Q : AExit → St → Prop} (g : Good m s) (hn : s.nu < 1000000)
  (h:Q .normal ⟨[(2,.d (.int .u8 q)),(3,.ptr 0 0),(4,.ptr 1 0),(7,.d (.int .i64 (strs m.ns).length)),(17,.d (.slice 1 (ints (m.dist s.co))))],[.cbox [.slice 1 (strs m.ns),.slice 3 (lks m.ls)],.cbox [.int .i64 s.co,.int .i64 s.nu,.slice 3 (ens s.es)],.none,.none,.none,.none]⟩) :
  vc Tryz.prog n seg11i ⟨[(2,.d (.int .u8 q)),(3,.ptr 0 0),(4,.ptr 1 0),(7,.d (.int .i64 (strs m.ns).length)),(8,.ptr 2 0),(17,.d (.slice 1 (ints (m.dist s.co)))),(21,.d (.slice 1 (ints (m.reach s.co)))),(182,.d (.int .i64 (strs m.ns).length)),(183,.d (.int .i64 0))],[.cbox [.slice 1 (strs m.ns),.slice 3 (lks m.ls)],.cbox [.int .i64 s.co,.int .i64 s.nu,.slice 3 (ens s.es)],.box [.d (.int .i64 (s.calm m).co),.d (.int .i64 (s.calm m).nu),.d (.slice 3 (ens (s.calm m).es))],.none,.none,.none]⟩ Q:=by
 unfold seg11i
 have hf:=chk_fine g.chk
 have h32:=hf.n32
 have h128:=hf.l128
 have hsl:=strs_len m.ns
 have gc:=g.calm_good hn
 have hcl:=gc.len
 have hel:=ens_len (s.calm m).es
 have hdl:=dist_len m s.co
 have hrl:=reach_len m s.co
 have hco:=g.co
 rotate_left
 refine loop_u (fun k:Nat=>[(183,.d (.int .i64 k))]) (fun _=>[]) (fun k=>k≤m.ns.length) (fun k=>m.ns.length - k) 0 rfl (Nat.zero_le _) ?_
 intro k hk
 have hk:k≤m.ns.length:=hk
 dsimp only
 by_cases hkn:k < m.ns.length
 ·have hv:(ints (m.dist s.co))[((k:Int)).toNat]?=some (.int .i64 (at0 (m.dist s.co) k)):=ints_at0 (by omega)
  have hen:=ens_at0 (s:=s.calm m) (k:=k) (by omega)
  have c50_:CallDet Tryz.prog 50 [.d (.slice 1 (ints (m.reach s.co))),.d (.int .i64 k)] [.bool (decide (0≤at0 (m.dist s.co) k))]:=by
   have h2:=c50 (m.reach s.co) k (by omega)
   have e:(m.reach s.co).contains (k:Int)=decide (0≤at0 (m.dist s.co) k):=by
    rw [Bool.eq_iff_iff,decide_eq_true_eq,List.contains_iff_mem,reach_mem]
    exact ⟨fun h=>h.2.2,fun h=>⟨by omega,by omega,h⟩⟩
   rw [e] at h2; exact h2
  have hnE:m.nodeE k=0:=by
   unfold Ms.nodeE outN
   rw [decide_eq_false (by omega),decide_eq_false (by omega)]; rfl
  have e0:firstOf [m.chkS (s.calm m),m.nodeE k]=0:=by rw [of_good gc,hnE]; rfl
  have hR:=g.calm_isR hn hkn
  have h63:=c63 m (s.calm m) k (by omega) (by omega) (by omega)
  have e1:(decide (0≤at0 (m.dist s.co) k) != decide (0≤at0 (m.dist s.co) k))=false:=by simp
  by_cases hD:0≤at0 (m.dist s.co) k
  ·obtain ⟨t,w1,w2,w3,w4⟩:=g.calm_route hn hD
   have c63_:CallDet Tryz.prog 63 [.d m.d,.d (s.calm m).d,.d (.int .i64 k)] [.slice 1 (ints ((s.calm m).way k)),.int .i64 0]:=by
    have e:routE m (s.calm m) k=0:=by unfold routE rtE; rw [e0,hR,decide_eq_true hD]; rfl
    rw [e] at h63; exact h63
   have hwl:((s.calm m).way k).length≤32:=by
    have:=wayN_len (nes (s.calm m).es) (nes (s.calm m).es).length k
    have hnl:=nes_len (s.calm m).es
    unfold Sts.way; omega
   have hil:=ints_len ((s.calm m).way k)
   have hw0:(ints ((s.calm m).way k))[((0:Int)).toNat]?=some (.int .i64 k):=by rw [w1]; rfl
   have hw1:=last_ints (l:=(s.calm m).way k) (x:=s.co) (by rw [w1]; exact w2)
   have hw2:1≤((s.calm m).way k).length:=by rw [w1]; exact Nat.succ_le_succ (Nat.zero_le _)
   have c19_:CallDet Tryz.prog 19 [.d m.d,.d (.slice 1 (ints ((s.calm m).way k)))] [.int .i64 (at0 (m.dist s.co) k),.int .i64 0]:=by
    have h2:=c19 m ((s.calm m).way k) (by omega) (by omega) (by omega)
    rw [w3] at h2; exact h2
   have e2:(((0:Int)==0) != decide (0≤at0 (m.dist s.co) k))=false:=by rw [decide_eq_true hD]; rfl
   refine sd ?_
   refine b_lt (fun t1=>?_) (fun t1=>?_)
   refine ca (c18 m (by omega) (by omega)) ?_
   refine ca (c59 (s.calm m) (by omega)) ?_
   refine ca (c33 (s.calm m) (by omega)) ?_
   refine ca c63_ ?_
   refine ix_at hv ?_ ?_
   (show (0:Int)≤(↑k:Int); omega)
   refine sd ?_
   refine ca c50_ ?_
   refine b_f e1 ?_
   refine sd ?_
   refine ix_at hv ?_ ?_
   (show (0:Int)≤(↑k:Int); omega)
   refine sd ?_
   refine b_f e2 ?_
   refine sd ?_
   refine ca (c18 m (by omega) (by omega)) ?_
   refine ca (c20 ((s.calm m).way k) (by omega)) ?_
   refine ca c19_ ?_
   refine sd ?_
   refine ix_at hv ?_ ?_
   (show (0:Int)≤(↑k:Int); omega)
   refine sd ?_
   refine b_ne (fun t2=>?_) (fun t2=>?_)
   (exfalso; omega)
   refine ix_at hw0 ?_ ?_
   (show (0:Int)≤(0:Int); omega)
   refine sd ?_
   refine b_ne (fun t3=>?_) (fun t3=>?_)
   (exfalso; omega)
   refine ar_sub ?_ ?_
   refine an ?_ ?_
   (show (-9223372036854775808:Int)≤(↑(List.length (ints (Sts.way (Sts.calm m s) (↑k:Int)))):Int) - (1:Int); omega)
   (show (↑(List.length (ints (Sts.way (Sts.calm m s) (↑k:Int)))):Int) - (1:Int)≤(9223372036854775807:Int); omega)
   refine ix_at hw1 ?_ ?_
   (show (0:Int)≤(↑(List.length (ints (Sts.way (Sts.calm m s) (↑k:Int)))):Int) - (1:Int); omega)
   refine sd ?_
   refine b_ne (fun t4=>?_) (fun t4=>?_)
   (exfalso; omega)
   refine ix_at hen ?_ ?_
   (show (0:Int)≤(↑k:Int); omega)
   refine sd ?_
   refine b_ne (fun t5=>?_) (fun t5=>?_)
   (exfalso; omega)
   refine ar_add ?_ ?_
   refine an ?_ ?_
   (show (-9223372036854775808:Int)≤(↑k:Int)+(1:Int); omega)
   (show (↑k:Int)+(1:Int)≤(9223372036854775807:Int); omega)
   rotate_left
   (exfalso; omega)
   all_goals exact ⟨k+1,⟨by show k+1≤m.ns.length; omega,by show m.ns.length - (k+1) < m.ns.length - k; omega⟩,rfl⟩
  ·have c63_ : CallDet Tryz.prog 63 [.d m.d, .d (s.calm m).d, .d (.int .i64 k)] [.slice 1 [], .int .i64 7] := by
    have e:routE m (s.calm m) k=7:=by unfold routE rtE; rw [e0,hR,decide_eq_false hD]; rfl
    rw [e] at h63; exact h63
   have e2:(((7:Int)==0) != decide (0≤at0 (m.dist s.co) k))=false:=by rw [decide_eq_false hD]; rfl
   refine sd ?_
   refine b_lt (fun t1=>?_) (fun t1=>?_)
   refine ca (c18 m (by omega) (by omega)) ?_
   refine ca (c59 (s.calm m) (by omega)) ?_
   refine ca (c33 (s.calm m) (by omega)) ?_
   refine ca c63_ ?_
   refine ix_at hv ?_ ?_
   (show (0:Int)≤(↑k:Int); omega)
   refine sd ?_
   refine ca c50_ ?_
   refine b_f e1 ?_
   refine sd ?_
   refine ix_at hv ?_ ?_
   (show (0:Int)≤(↑k:Int); omega)
   refine sd ?_
   refine b_f e2 ?_
   refine sd ?_
   refine sd ?_
   refine ar_add ?_ ?_
   refine an ?_ ?_
   (show (-9223372036854775808:Int)≤(↑k:Int)+(1:Int); omega)
   (show (↑k:Int)+(1:Int)≤(9223372036854775807:Int); omega)
   rotate_left
   (exfalso; omega)
   all_goals exact ⟨k+1,⟨by show k+1≤m.ns.length; omega,by show m.ns.length - (k+1) < m.ns.length - k; omega⟩,rfl⟩
 ·refine sd ?_
  refine b_lt (fun t1=>?_) (fun t1=>?_)
  (exfalso; omega)
  rotate_left
  all_goals exact h
def ir11:AFun:=⟨305,6,[.tmp 6],
 (.seq
 (.reg [0,1] [⟨some 3,.cbx 0 2 (.tmp 0),none⟩,
 ⟨some 4,.cbx 1 3 (.tmp 1),none⟩,
 ⟨some 6,.mov (.cst (.d (.bool false))),none⟩])
 (.seq
 (.seq
 (.reg [] [⟨some 31,.ld true 2 (.tmp 3),none⟩,
 ⟨some 32,.call 58 [(.tmp 31)],none⟩,
 ⟨some 33,.not (.tmp 32),none⟩,
 ⟨some 34,.mov (.tmp 33),none⟩,
 ⟨some 35,.ld true 2 (.tmp 3),some (34,false)⟩,
 ⟨some 36,.ld true 3 (.tmp 4),some (34,false)⟩,
 ⟨some 37,.call 34 [(.tmp 35),(.tmp 36)],some (34,false)⟩,
 ⟨some 38,.cmp .neq (.tmp 37) (.cst (.d (.int .i64 0))),some (34,false)⟩,
 ⟨some 39,.pick (.tmp 34) (.cst (.d (.bool true))) (.tmp 38),none⟩,
 ⟨some 40,.mov (.tmp 39),none⟩,
 ⟨some 41,.fad 1 (.tmp 4),some (40,false)⟩,
 ⟨some 42,.ld false 1 (.tmp 41),some (40,false)⟩,
 ⟨some 43,.cmp .gtr (.tmp 42) (.cst (.d (.int .i64 999998))),some (40,false)⟩,
 ⟨some 44,.pick (.tmp 40) (.cst (.d (.bool true))) (.tmp 43),none⟩])
 (.cond (.tmp 44)
 (.seq
 (.reg [] [⟨some 45,.call 16 [],none⟩,
 ⟨some 6,.mov (.tmp 45),none⟩])
 .ret)
 .skip))
 (.seq
 (.reg [] [⟨some 46,.fad 0 (.tmp 3),none⟩,
 ⟨some 47,.ld false 1 (.tmp 46),none⟩,
 ⟨some 48,.len (.tmp 47),none⟩,
 ⟨some 7,.mov (.tmp 48),none⟩])
 (.seq
 (.regd [2] [⟨some 50,.ld true 2 (.tmp 3),none⟩,
 ⟨some 51,.call 18 [(.tmp 50)],none⟩,
 ⟨some 52,.ld true 3 (.tmp 4),none⟩,
 ⟨some 53,.call 33 [(.tmp 52)],none⟩,
 ⟨some 54,.call 32 [(.tmp 51),(.tmp 53)],none⟩,
 ⟨some 49,.mov (.tmp 54),none⟩,
 ⟨some 55,.ext 0 (.tmp 49),none⟩,
 ⟨some 56,.ext 1 (.tmp 49),none⟩,
 ⟨some 8,.alloc 2 [(.d (.int .i64 0)),(.d (.int .i64 0)),(.nils 3)],none⟩,
 ⟨none,.st 3 (.tmp 8) (.tmp 55),none⟩,
 ⟨some 9,.mov (.tmp 56),none⟩] [(0,2),(1,2),(6,7),(0,8),(1,8),(2,8),(3,8),(4,8),(5,8),(6,8),(7,8),(7,9)])
 (.seq
 (.seq
 (.reg [] [⟨some 57,.mov (.tmp 9),none⟩,
 ⟨some 58,.cmp .neq (.tmp 57) (.cst (.d (.int .i64 0))),none⟩,
 ⟨some 59,.mov (.tmp 58),none⟩,
 ⟨some 60,.fad 2 (.tmp 8),some (59,false)⟩,
 ⟨some 61,.ld false 1 (.tmp 60),some (59,false)⟩,
 ⟨some 62,.len (.tmp 61),some (59,false)⟩,
 ⟨some 63,.mov (.tmp 7),some (59,false)⟩,
 ⟨some 64,.cmp .neq (.tmp 62) (.tmp 63),some (59,false)⟩,
 ⟨some 65,.pick (.tmp 59) (.cst (.d (.bool true))) (.tmp 64),none⟩])
 (.cond (.tmp 65)
 (.seq
 (.reg [] [⟨some 6,.mov (.cst (.d (.bool false))),none⟩])
 .ret)
 .skip))
 (.seq
 (.regd [3] [⟨some 67,.ld true 2 (.tmp 3),none⟩,
 ⟨some 68,.call 18 [(.tmp 67)],none⟩,
 ⟨some 69,.ld true 3 (.tmp 8),none⟩,
 ⟨some 70,.call 59 [(.tmp 69)],none⟩,
 ⟨some 71,.call 33 [(.tmp 70)],none⟩,
 ⟨some 72,.call 54 [(.tmp 68),(.tmp 71)],none⟩,
 ⟨some 66,.mov (.tmp 72),none⟩,
 ⟨some 73,.ext 0 (.tmp 66),none⟩,
 ⟨some 74,.ext 1 (.tmp 66),none⟩,
 ⟨some 75,.ext 2 (.tmp 66),none⟩,
 ⟨some 10,.alloc 3 [(.d (.int .i64 0)),(.d (.int .i64 0)),(.nils 3)],none⟩,
 ⟨none,.st 3 (.tmp 10) (.tmp 73),none⟩,
 ⟨some 11,.mov (.tmp 74),none⟩,
 ⟨some 12,.mov (.tmp 75),none⟩] [(0,2),(1,2),(7,8),(7,9),(8,9),(0,10),(1,10),(2,10),(3,10),(4,10),(5,10),(6,10),(7,10),(8,10),(9,10),(8,11),(9,11),(9,12)])
 (.seq
 (.seq
 (.reg [] [⟨some 76,.mov (.tmp 7),none⟩,
 ⟨some 77,.arith .sub .i64 (.tmp 76) (.cst (.d (.int .i64 1))),none⟩,
 ⟨some 78,.mov (.cst (.d (.int .i64 0))),none⟩])
 (.keep [2,3,4,7,8,10,11,12,77,78] [0,1,2,3] seg11r))
 (.seq
 (.regd [5] [⟨some 101,.ld true 2 (.tmp 3),none⟩,
 ⟨some 102,.call 18 [(.tmp 101)],none⟩,
 ⟨some 103,.ld true 3 (.tmp 8),none⟩,
 ⟨some 104,.call 59 [(.tmp 103)],none⟩,
 ⟨some 105,.call 33 [(.tmp 104)],none⟩,
 ⟨some 106,.call 53 [(.tmp 102),(.tmp 105),(.cst (.nils 2))],none⟩,
 ⟨some 100,.mov (.tmp 106),none⟩,
 ⟨some 107,.ext 0 (.tmp 100),none⟩,
 ⟨some 108,.ext 1 (.tmp 100),none⟩,
 ⟨some 15,.alloc 5 [(.d (.int .i64 0)),(.d (.int .i64 0)),(.nils 3)],none⟩,
 ⟨none,.st 3 (.tmp 15) (.tmp 107),none⟩,
 ⟨some 16,.mov (.tmp 108),none⟩] [(0,2),(1,2),(7,8),(0,9),(1,9),(2,9),(3,9),(4,9),(5,9),(6,9),(7,9),(8,9),(8,10)])
 (.seq
 (.regd [] [⟨some 110,.ld true 2 (.tmp 3),none⟩,
 ⟨some 111,.call 18 [(.tmp 110)],none⟩,
 ⟨some 112,.fad 0 (.tmp 4),none⟩,
 ⟨some 113,.ld false 1 (.tmp 112),none⟩,
 ⟨some 114,.call 21 [(.tmp 111),(.tmp 113)],none⟩,
 ⟨some 109,.mov (.tmp 114),none⟩,
 ⟨some 115,.ext 0 (.tmp 109),none⟩,
 ⟨some 116,.ext 1 (.tmp 109),none⟩,
 ⟨some 17,.mov (.tmp 115),none⟩,
 ⟨some 18,.mov (.tmp 116),none⟩] [(0,2),(1,2),(0,3),(1,3),(6,7),(7,8)])
 (.seq
 (.regd [] [⟨some 118,.ld true 2 (.tmp 3),none⟩,
 ⟨some 119,.call 18 [(.tmp 118)],none⟩,
 ⟨some 120,.ld true 3 (.tmp 8),none⟩,
 ⟨some 121,.call 59 [(.tmp 120)],none⟩,
 ⟨some 122,.call 33 [(.tmp 121)],none⟩,
 ⟨some 123,.call 64 [(.tmp 119),(.tmp 122)],none⟩,
 ⟨some 117,.mov (.tmp 123),none⟩,
 ⟨some 124,.ext 0 (.tmp 117),none⟩,
 ⟨some 125,.ext 1 (.tmp 117),none⟩,
 ⟨some 19,.mov (.tmp 124),none⟩,
 ⟨some 20,.mov (.tmp 125),none⟩] [(0,2),(1,2),(7,8),(8,9)])
 (.seq
 (.regd [] [⟨some 127,.ld true 2 (.tmp 3),none⟩,
 ⟨some 128,.call 18 [(.tmp 127)],none⟩,
 ⟨some 129,.fad 0 (.tmp 4),none⟩,
 ⟨some 130,.ld false 1 (.tmp 129),none⟩,
 ⟨some 131,.call 45 [(.tmp 128),(.tmp 130)],none⟩,
 ⟨some 126,.mov (.tmp 131),none⟩,
 ⟨some 132,.ext 0 (.tmp 126),none⟩,
 ⟨some 133,.ext 1 (.tmp 126),none⟩,
 ⟨some 21,.mov (.tmp 132),none⟩,
 ⟨some 22,.mov (.tmp 133),none⟩] [(0,2),(1,2),(0,3),(1,3),(6,7),(7,8)])
 (.seq
 (.seq
 (.regd [] [⟨some 134,.mov (.tmp 12),none⟩,
 ⟨some 135,.mov (.tmp 16),none⟩,
 ⟨some 136,.arith .add .i64 (.tmp 134) (.tmp 135),none⟩,
 ⟨some 137,.mov (.tmp 18),none⟩,
 ⟨some 138,.arith .add .i64 (.tmp 136) (.tmp 137),none⟩,
 ⟨some 139,.mov (.tmp 20),none⟩,
 ⟨some 140,.arith .add .i64 (.tmp 138) (.tmp 139),none⟩,
 ⟨some 141,.mov (.tmp 22),none⟩,
 ⟨some 142,.arith .add .i64 (.tmp 140) (.tmp 141),none⟩,
 ⟨some 143,.cmp .neq (.tmp 142) (.cst (.d (.int .i64 0))),none⟩,
 ⟨some 144,.mov (.tmp 143),none⟩,
 ⟨some 145,.mov (.tmp 11),some (144,false)⟩,
 ⟨some 146,.mov (.tmp 7),some (144,false)⟩,
 ⟨some 147,.arith .sub .i64 (.tmp 146) (.cst (.d (.int .i64 1))),some (144,false)⟩,
 ⟨some 148,.cmp .gtr (.tmp 145) (.tmp 147),some (144,false)⟩,
 ⟨some 149,.pick (.tmp 144) (.cst (.d (.bool true))) (.tmp 148),none⟩,
 ⟨some 150,.mov (.tmp 149),none⟩,
 ⟨some 151,.mov (.tmp 11),some (150,false)⟩,
 ⟨some 152,.cmp .lss (.tmp 151) (.cst (.d (.int .i64 0))),some (150,false)⟩,
 ⟨some 153,.pick (.tmp 150) (.cst (.d (.bool true))) (.tmp 152),none⟩,
 ⟨some 154,.mov (.tmp 153),none⟩,
 ⟨some 155,.ld true 3 (.tmp 10),some (154,false)⟩,
 ⟨some 156,.call 59 [(.tmp 155)],some (154,false)⟩,
 ⟨some 157,.ld true 3 (.tmp 8),some (154,false)⟩,
 ⟨some 158,.call 59 [(.tmp 157)],some (154,false)⟩,
 ⟨some 159,.call 69 [(.tmp 156),(.tmp 158)],some (154,false)⟩,
 ⟨some 160,.not (.tmp 159),some (154,false)⟩,
 ⟨some 161,.pick (.tmp 154) (.cst (.d (.bool true))) (.tmp 160),none⟩,
 ⟨some 162,.mov (.tmp 161),none⟩,
 ⟨some 163,.ld true 3 (.tmp 15),some (162,false)⟩,
 ⟨some 164,.call 59 [(.tmp 163)],some (162,false)⟩,
 ⟨some 165,.ld true 3 (.tmp 8),some (162,false)⟩,
 ⟨some 166,.call 59 [(.tmp 165)],some (162,false)⟩,
 ⟨some 167,.call 69 [(.tmp 164),(.tmp 166)],some (162,false)⟩,
 ⟨some 168,.not (.tmp 167),some (162,false)⟩,
 ⟨some 169,.pick (.tmp 162) (.cst (.d (.bool true))) (.tmp 168),none⟩,
 ⟨some 170,.mov (.tmp 169),none⟩,
 ⟨some 171,.mov (.tmp 19),some (170,false)⟩,
 ⟨some 172,.mov (.tmp 21),some (170,false)⟩,
 ⟨some 173,.call 70 [(.tmp 171),(.tmp 172)],some (170,false)⟩,
 ⟨some 174,.not (.tmp 173),some (170,false)⟩,
 ⟨some 175,.pick (.tmp 170) (.cst (.d (.bool true))) (.tmp 174),none⟩,
 ⟨some 176,.mov (.tmp 175),none⟩,
 ⟨some 177,.mov (.tmp 17),some (176,false)⟩,
 ⟨some 178,.len (.tmp 177),some (176,false)⟩,
 ⟨some 179,.mov (.tmp 7),some (176,false)⟩,
 ⟨some 180,.cmp .neq (.tmp 178) (.tmp 179),some (176,false)⟩,
 ⟨some 181,.pick (.tmp 176) (.cst (.d (.bool true))) (.tmp 180),none⟩] [(0,1),(0,3),(1,3),(2,3),(0,5),(1,5),(2,5),(3,5),(4,5),(0,7),(1,7),(2,7),(3,7),(4,7),(5,7),(6,7),(11,12),(11,13),(21,23),(22,23),(29,31),(30,31),(37,38),(43,45),(44,45)])
 (.cond (.tmp 181)
 (.seq
 (.reg [] [⟨some 6,.mov (.cst (.d (.bool false))),none⟩])
 .ret)
 .skip))
 (.seq
 (.seq
 (.reg [] [⟨some 182,.mov (.tmp 7),none⟩,
 ⟨some 183,.mov (.cst (.d (.int .i64 0))),none⟩])
 (.keep [2,3,4,7,8,17,21,182,183] [0,1,2,3,4,5] seg11i))
 (.seq
 (.reg [] [⟨some 266,.mov (.tmp 2),none⟩,
 ⟨some 267,.conv .i64 (.tmp 266),none⟩,
 ⟨some 268,.mov (.tmp 7),none⟩,
 ⟨some 269,.arith .rem .i64 (.tmp 267) (.tmp 268),none⟩,
 ⟨some 28,.mov (.tmp 269),none⟩])
 (.seq
 (.regd [] [⟨some 271,.ld true 2 (.tmp 3),none⟩,
 ⟨some 272,.call 18 [(.tmp 271)],none⟩,
 ⟨some 273,.fad 0 (.tmp 4),none⟩,
 ⟨some 274,.ld false 1 (.tmp 273),none⟩,
 ⟨some 275,.mov (.tmp 28),none⟩,
 ⟨some 276,.call 46 [(.tmp 272),(.tmp 274),(.tmp 275)],none⟩,
 ⟨some 270,.mov (.tmp 276),none⟩,
 ⟨some 277,.ext 0 (.tmp 270),none⟩,
 ⟨some 278,.ext 1 (.tmp 270),none⟩,
 ⟨some 29,.mov (.tmp 277),none⟩,
 ⟨some 30,.mov (.tmp 278),none⟩] [(0,2),(1,2),(0,3),(1,3),(0,4),(1,4),(2,4),(3,4),(7,8),(8,9)])
 (.seq
 (.seq
 (.reg [] [⟨some 279,.mov (.tmp 17),none⟩,
 ⟨some 280,.mov (.tmp 28),none⟩,
 ⟨some 281,.ixa 1 (.tmp 279) (.tmp 280),none⟩,
 ⟨some 282,.ld false 1 (.tmp 281),none⟩,
 ⟨some 283,.cmp .geq (.tmp 282) (.cst (.d (.int .i64 0))),none⟩])
 (.cond (.tmp 283)
 (.seq
 (.reg [] [⟨some 284,.mov (.tmp 30),none⟩,
 ⟨some 285,.cmp .eql (.tmp 284) (.cst (.d (.int .i64 21))),none⟩,
 ⟨some 286,.mov (.tmp 285),none⟩,
 ⟨some 287,.call 16 [],some (286,true)⟩,
 ⟨some 288,.pick (.tmp 286) (.tmp 287) (.cst (.d (.bool false))),none⟩,
 ⟨some 6,.mov (.tmp 288),none⟩])
 .ret)
 .skip))
 (.seq
 (.regd [] [⟨some 289,.mov (.tmp 30),none⟩,
 ⟨some 290,.cmp .eql (.tmp 289) (.cst (.d (.int .i64 0))),none⟩,
 ⟨some 291,.mov (.tmp 290),none⟩,
 ⟨some 292,.ld true 2 (.tmp 3),some (291,true)⟩,
 ⟨some 293,.call 18 [(.tmp 292)],some (291,true)⟩,
 ⟨some 294,.fad 0 (.tmp 4),some (291,true)⟩,
 ⟨some 295,.ld false 1 (.tmp 294),some (291,true)⟩,
 ⟨some 296,.mov (.tmp 28),some (291,true)⟩,
 ⟨some 297,.mov (.tmp 29),some (291,true)⟩,
 ⟨some 298,.call 20 [(.tmp 297)],some (291,true)⟩,
 ⟨some 299,.call 47 [(.tmp 293),(.tmp 295),(.tmp 296),(.tmp 298)],some (291,true)⟩,
 ⟨some 300,.cmp .eql (.tmp 299) (.cst (.d (.int .i64 0))),some (291,true)⟩,
 ⟨some 301,.pick (.tmp 291) (.tmp 300) (.cst (.d (.bool false))),none⟩,
 ⟨some 302,.mov (.tmp 301),none⟩,
 ⟨some 303,.call 16 [],some (302,true)⟩,
 ⟨some 304,.pick (.tmp 302) (.tmp 303) (.cst (.d (.bool false))),none⟩,
 ⟨some 6,.mov (.tmp 304),none⟩] [(3,5),(4,5),(3,6),(4,6),(3,7),(4,7),(5,7),(6,7),(3,8),(4,8),(5,8),(6,8),(7,8),(5,9),(6,9),(7,9)])
 .ret)))))))))))))))))⟩
theorem c11 (hw : CallDet Tryz.prog 16 [] [.bool true]) (m : Ms) (s : Sts) (q : Int) (hm : m.ns.length ≤ 1048576) (hl : m.ls.length ≤ 1048576) (hsn : s.es.length ≤ 1048576) (hq : 0 ≤ q ∧ q ≤ 255) :
  CallDet Tryz.prog 11 [.d m.d,.d s.d,.d (.int .u8 q)] [.bool true]:=by
 have c16_:=hw
 have hsl:=strs_len m.ns
 refine call_of_vc (x:=ir11) (by kernel_rfl) rfl ?_
 by_cases hfw:fewB m=true
 ·have c58_:CallDet Tryz.prog 58 [.d m.d] [.bool true]:=by have h1:=c58 m hm hl; rw [hfw] at h1; exact h1
  have hf4:(1≤(m.ns.length:Int)∧(m.ns.length:Int)≤8)∧(m.ls.length:Int)≤18∧m.chk=0:=by
   unfold fewB at hfw
   simp only [Bool.and_eq_true,decide_eq_true_eq,beq_iff_eq] at hfw
   exact ⟨⟨hfw.1,hfw.2.1⟩,hfw.2.2.1,hfw.2.2.2⟩
  have hn1:=hf4.1.1
  have hn8:=hf4.1.2
  have hl18:=hf4.2.1
  have hchk:=hf4.2.2
  by_cases hcS:m.chkS s=0
  ·have c34_:CallDet Tryz.prog 34 [.d m.d,.d s.d] [.int .i64 0]:=by have h1:=c34 m s hm hl hsn; rw [hcS] at h1; exact h1
   have g:=good_of hcS
   by_cases hnu:s.nu≤999998
   ·have hn:s.nu < 1000000:=by omega
    have gb:=(g.beac hn).1
    have hbl:=gb.len
    have hel:=ens_len s.beac.es
    have gc:=g.calm_good hn
    have hcl:=gc.len
    have hel2:=ens_len (s.calm m).es
    have hco:=g.co
    have hdl:=ints_len (m.dist s.co)
    have hdl2:=dist_len m s.co
    have hrl:=reach_len m s.co
    have hK:=gb.K_is.2
    have c32_:CallDet Tryz.prog 32 [.d m.d,.d s.d] [s.beac.d,.int .i64 0]:=by
     have h1:=c32 m s hm hl hsn
     have e:beacE m s=0:=by
      unfold beacE
      rw [hcS,show (s.nu==1000000)=false by rw [beq_eq_false_iff_ne]; omega]; rfl
     rw [e] at h1; exact h1
    have c54_:CallDet Tryz.prog 54 [.d m.d,.d s.beac.d] [(s.calm m).d,.int .i64 (s.beac.K m),.int .i64 0]:=by
     have h1:=c54 m s.beac hm hl (by omega)
     have e:s.beac.allP m=s.calm m:=g.all_calm hn
     rw [of_good gb,e] at h1; exact h1
    have c53_:CallDet Tryz.prog 53 [.d m.d,.d (s.calm m).d,.d (.slice 2 [])] [(s.calm m).d,.int .i64 0]:=by
     have h2:=c53 m (s.calm m) [] hm hl (by omega) (by decide)
     have e:firstOf [m.chkS (s.calm m),pairsE m []]=0:=by rw [of_good gc]; rfl
     unfold Sts.roundP at h2
     rw [e,g.calm_still hn] at h2; exact h2
    have hcE:m.nodeE s.co=0:=by
     unfold Ms.nodeE outN
     rw [decide_eq_false (by omega),decide_eq_false (by omega)]; rfl
    have hD:nodeD m s.co=0:=nodeD_good2 hchk hcE
    have c21_:CallDet Tryz.prog 21 [.d m.d,.d (.int .i64 s.co)] [.slice 1 (ints (m.dist s.co)),.int .i64 0]:=by
     have h2:=c21 m s.co hm hl
     unfold Ms.distP at h2
     rw [hD] at h2; exact h2
    have c45_:CallDet Tryz.prog 45 [.d m.d,.d (.int .i64 s.co)] [.slice 1 (ints (m.reach s.co)),.int .i64 0]:=by
     have h2:=c45 m s.co hm hl
     unfold Ms.reachP at h2
     rw [hD] at h2; exact h2
    have c64_:CallDet Tryz.prog 64 [.d m.d,.d (s.calm m).d] [.slice 1 (ints (m.reach s.co)),.int .i64 0]:=by
     have h2:=c64 m (s.calm m) hm hl (by omega)
     rw [of_good gc,g.calm_routed hn] at h2; exact h2
    have c70_:CallDet Tryz.prog 70 [.d (.slice 1 (ints (m.reach s.co))),.d (.slice 1 (ints (m.reach s.co)))] [.bool true]:=by
     have h2:=c70 (m.reach s.co) (m.reach s.co) (by omega)
     rw [beq_self_eq_true] at h2; exact h2
    refine ca c58_ ?_
    refine ca c34_ ?_
    refine sd ?_
    refine sd ?_
    refine b_lt (fun t1=>?_) (fun t1=>?_)
    (exfalso; omega)
    refine ca (c18 m hm hl) ?_
    refine ca (c33 s hsn) ?_
    refine ca c32_ ?_
    refine sd ?_
    refine sd ?_
    refine b_ne (fun t2=>?_) (fun t2=>?_)
    (exfalso; omega)
    refine ca (c18 m hm hl) ?_
    refine ca (c59 s.beac (by omega)) ?_
    refine ca (c33 s.beac (by omega)) ?_
    refine ca c54_ ?_
    refine ar_sub ?_ ?_
    refine an ?_ ?_
    (show (-9223372036854775808:Int)≤(↑(List.length (strs (Ms.ns m))):Int) - (1:Int); omega)
    (show (↑(List.length (strs (Ms.ns m))):Int) - (1:Int)≤(9223372036854775807:Int); omega)
    rotate_left
    refine v11r (s:=s) (y:=s.calm m) gb (by omega) ?_
    have hcalm:s.beac.rounds m (m.ns.length - 1)=s.calm m:=rfl
    rw [hcalm]
    refine ca (c18 m hm hl) ?_
    refine ca (c59 (s.calm m) (by omega)) ?_
    refine ca (c33 (s.calm m) (by omega)) ?_
    refine ca c53_ ?_
    refine ca (c18 m hm hl) ?_
    refine ca c21_ ?_
    refine ca (c18 m hm hl) ?_
    refine ca (c59 (s.calm m) (by omega)) ?_
    refine ca (c33 (s.calm m) (by omega)) ?_
    refine ca c64_ ?_
    refine ca (c18 m hm hl) ?_
    refine ca c45_ ?_
    refine ar_add ?_ ?_
    refine an ?_ ?_
    (show (-9223372036854775808:Int)≤(0:Int)+(0:Int); omega)
    (show (0:Int)+(0:Int)≤(9223372036854775807:Int); omega)
    refine ar_add ?_ ?_
    refine an ?_ ?_
    (show (-9223372036854775808:Int)≤(0:Int)+(0:Int)+(0:Int); omega)
    (show (0:Int)+(0:Int)+(0:Int)≤(9223372036854775807:Int); omega)
    refine ar_add ?_ ?_
    refine an ?_ ?_
    (show (-9223372036854775808:Int)≤(0:Int)+(0:Int)+(0:Int)+(0:Int); omega)
    (show (0:Int)+(0:Int)+(0:Int)+(0:Int)≤(9223372036854775807:Int); omega)
    refine ar_add ?_ ?_
    refine an ?_ ?_
    (show (-9223372036854775808:Int)≤(0:Int)+(0:Int)+(0:Int)+(0:Int)+(0:Int); omega)
    (show (0:Int)+(0:Int)+(0:Int)+(0:Int)+(0:Int)≤(9223372036854775807:Int); omega)
    refine sd ?_
    refine ar_sub ?_ ?_
    refine an ?_ ?_
    (show (-9223372036854775808:Int)≤(↑(List.length (strs (Ms.ns m))):Int) - (1:Int); omega)
    (show (↑(List.length (strs (Ms.ns m))):Int) - (1:Int)≤(9223372036854775807:Int); omega)
    refine sd ?_
    refine b_lt (fun t3=>?_) (fun t3=>?_)
    (exfalso; omega)
    refine sd ?_
    refine ca (c59 (s.calm m) (by omega)) ?_
    refine ca (c59 (s.calm m) (by omega)) ?_
    refine ca (c69 (s.calm m) (by omega)) ?_
    refine ca (c59 (s.calm m) (by omega)) ?_
    refine ca (c59 (s.calm m) (by omega)) ?_
    refine ca (c69 (s.calm m) (by omega)) ?_
    refine ca c70_ ?_
    refine sd ?_
    refine b_ne (fun t4=>?_) (fun t4=>?_)
    (exfalso; omega)
    rotate_left
    refine v11i g hn ?_
    have hn0:((strs m.ns).length:Int)≠0:=by omega
    have hpos:0 < ((strs m.ns).length:Int):=by omega
    have hwq:0≤IntKind.i64.wrap q:=by rw [IntKind.wrap_i64]; omega
    have a0:=Int.emod_nonneg (IntKind.i64.wrap q) hn0
    have a1:=Int.emod_lt_of_pos (IntKind.i64.wrap q) hpos
    have hv:(ints (m.dist s.co))[(IntKind.i64.wrap q % ((strs m.ns).length:Int)).toNat]?=some (.int .i64 (at0 (m.dist s.co) (IntKind.i64.wrap q % ((strs m.ns).length:Int)).toNat)):=ints_at0 (by omega)
    have htE:m.nodeE (IntKind.i64.wrap q % ((strs m.ns).length:Int))=0:=by
     unfold Ms.nodeE outN
     rw [decide_eq_false (by omega),decide_eq_false (by omega)]; rfl
    have h2E:twoE m s.co (IntKind.i64.wrap q % ((strs m.ns).length:Int))=0:=by unfold twoE; rw [hchk,hcE,htE]; rfl
    have h46:=c46 m s.co (IntKind.i64.wrap q % ((strs m.ns).length:Int)) hm hl
    have h47:=c47 m s.co (IntKind.i64.wrap q % ((strs m.ns).length:Int)) (m.reach s.co) hm hl (by omega)
    have hcc:(m.reach s.co).contains (IntKind.i64.wrap q % ((strs m.ns).length:Int))=decide (0≤at0 (m.dist s.co) (IntKind.i64.wrap q % ((strs m.ns).length:Int)).toNat):=by
     rw [Bool.eq_iff_iff,decide_eq_true_eq,List.contains_iff_mem,reach_mem]
     exact ⟨fun h=>h.2.2,fun h=>⟨by omega,by omega,h⟩⟩
    by_cases hDt:0≤at0 (m.dist s.co) (IntKind.i64.wrap q % ((strs m.ns).length:Int)).toNat
    ·have c46_ : CallDet Tryz.prog 46 [.d m.d, .d (.int .i64 s.co), .d (.int .i64 (IntKind.i64.wrap q % ((strs m.ns).length : Int)))] [.slice 1 [], .int .i64 21] := by
      have e:barrE m s.co (IntKind.i64.wrap q % ((strs m.ns).length:Int))=21:=by unfold barrE; rw [h2E,hcc,decide_eq_true hDt]; rfl
      rw [e] at h46; exact h46
     refine ca rfl ?_
     refine ar_rem ?_ ?_
     refine an ?_ ?_
     assumption
     assumption
     refine ca (c18 m hm hl) ?_
     refine ca c46_ ?_
     refine ix_at hv ?_ ?_
     assumption
     refine sd ?_
     refine b_le (fun t5=>?_) (fun t5=>?_)
     refine sd ?_
     refine ca c16_ ?_
     exact rfl
     (exfalso; omega)
    ·have c46_ : CallDet Tryz.prog 46 [.d m.d, .d (.int .i64 s.co), .d (.int .i64 (IntKind.i64.wrap q % ((strs m.ns).length : Int)))] [.slice 1 (ints (m.reach s.co)), .int .i64 0] := by
      have e:barrE m s.co (IntKind.i64.wrap q % ((strs m.ns).length:Int))=0:=by unfold barrE; rw [h2E,hcc,decide_eq_false hDt]; rfl
      rw [e] at h46; exact h46
     have c47_:CallDet Tryz.prog 47 [.d m.d,.d (.int .i64 s.co),.d (.int .i64 (IntKind.i64.wrap q % ((strs m.ns).length:Int))),.d (.slice 1 (ints (m.reach s.co)))] [.int .i64 0]:=by
      have e:=reach_bar (chk_fine hchk) hco.1 hco.2 (t:=IntKind.i64.wrap q % ((strs m.ns).length:Int)) (by rw [hcc,decide_eq_false hDt])
      rw [h2E,e] at h47; exact h47
     refine ca rfl ?_
     refine ar_rem ?_ ?_
     refine an ?_ ?_
     assumption
     assumption
     refine ca (c18 m hm hl) ?_
     refine ca c46_ ?_
     refine ix_at hv ?_ ?_
     assumption
     refine sd ?_
     refine b_le (fun t5=>?_) (fun t5=>?_)
     (exfalso; omega)
     refine sd ?_
     refine ca (c18 m hm hl) ?_
     refine ca (c20 (m.reach s.co) (by omega)) ?_
     refine ca c47_ ?_
     refine sd ?_
     refine ca c16_ ?_
     exact rfl
   ·refine ca c58_ ?_
    refine ca c34_ ?_
    refine sd ?_
    refine sd ?_
    refine b_lt (fun t1=>?_) (fun t1=>?_)
    refine ca c16_ ?_
    exact rfl
    (exfalso; omega)
  ·have h34:=c34 m s hm hl hsn
   refine ca c58_ ?_
   refine ca (c34 _ _ ?_ ?_ ?_) ?_
   assumption
   assumption
   assumption
   refine sd ?_
   refine b_ne (fun t1=>?_) (fun t1=>?_)
   refine sd ?_
   refine ca c16_ ?_
   exact rfl
   (exfalso; omega)
 ·have hff:fewB m=false:=by simpa using hfw
  have c58_:CallDet Tryz.prog 58 [.d m.d] [.bool false]:=by have h1:=c58 m hm hl; rw [hff] at h1; exact h1
  refine ca c58_ ?_
  refine sd ?_
  refine sd ?_
  refine ca c16_ ?_
  exact rfl
end Vc
