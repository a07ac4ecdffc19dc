import Derived.Test.YthociffnlhdenaaGreatDoorG12
import Derived.Test.YthociffnlhdenaaGreatDoorG16
import Derived.Test.YthociffnlhdenaaGreatDoorG18
import Derived.Test.YthociffnlhdenaaGreatDoorG17
import Derived.Test.YthociffnlhdenaaGreatDoorG10
import Derived.Test.YthociffnlhdenaaGreatDoorG15
set_option linter.unusedSectionVars false
set_option linter.unusedVariables false
set_option linter.unusedSimpArgs false
set_option maxRecDepth 10000
set_option maxHeartbeats 4000000
namespace Vc
open Go Go.Proofs
def ir45:AFun:=⟨20,2,[.tmp 4,.tmp 5],
 (.seq
 (.reg [0] [⟨some 2,.cbx 0 2 (.tmp 0),none⟩,
 ⟨some 4,.mov (.cst (.nils 1)),none⟩,
 ⟨some 5,.mov (.cst (.d (.int .i64 0))),none⟩])
 (.seq
 (.seq
 (.regd [1] [⟨some 7,.ld true 2 (.tmp 2),none⟩,
 ⟨some 8,.call 27 [(.tmp 7)],none⟩,
 ⟨some 9,.ld true 2 (.tmp 2),none⟩,
 ⟨some 10,.mov (.tmp 1),none⟩,
 ⟨some 11,.call 87 [(.tmp 9),(.tmp 10)],none⟩,
 ⟨some 12,.bsl 1 29 1 2 [(.int .i64 0),(.int .i64 0)] [(0,(.tmp 8)),(1,(.tmp 11))],none⟩,
 ⟨some 13,.call 86 [(.tmp 12)],none⟩,
 ⟨some 6,.mov (.tmp 13),none⟩] [(0,2),(1,2),(0,3),(1,3),(2,3)])
 (.seq
 (.reg [] [⟨some 14,.mov (.tmp 6),none⟩,
 ⟨some 15,.cmp .neq (.tmp 14) (.cst (.d (.int .i64 0))),none⟩])
 (.cond (.tmp 15)
 (.seq
 (.reg [] [⟨some 16,.mov (.tmp 6),none⟩,
 ⟨some 4,.mov (.cst (.nils 1)),none⟩,
 ⟨some 5,.mov (.tmp 16),none⟩])
 .ret)
 .skip)))
 (.seq
 (.reg [] [⟨some 17,.ld true 2 (.tmp 2),none⟩,
 ⟨some 18,.mov (.tmp 1),none⟩,
 ⟨some 19,.call 111 [(.tmp 17),(.tmp 18)],none⟩,
 ⟨some 4,.mov (.tmp 19),none⟩,
 ⟨some 5,.mov (.cst (.d (.int .i64 0))),none⟩])
 .ret)))⟩
def ir111:AFun:=⟨25,3,[.tmp 4],
 (.seq
 (.reg [0] [⟨some 2,.cbx 0 2 (.tmp 0),none⟩,
 ⟨some 4,.mov (.cst (.nils 1)),none⟩])
 (.seq
 (.reg [] [⟨some 5,.mov (.cst (.nils 1)),none⟩])
 (.seq
 (.seq
 (.reg [] [⟨some 8,.ld true 2 (.tmp 2),none⟩,
 ⟨some 9,.mov (.tmp 1),none⟩,
 ⟨some 10,.call 92 [(.tmp 8),(.tmp 9)],none⟩,
 ⟨some 11,.len (.tmp 10),none⟩,
 ⟨some 12,.mov (.cst (.d (.int .i64 0))),none⟩])
 (.post [5] [0,1,2]
 (.block 0
 (.asrow 2 3 1 5
 (.keep [5,10,11,12] [0]
 (.loop
 (.post [5,10,11,12] [1,2]
 (.seq
 (.reg [] [⟨some 13,.cmp .lss (.tmp 12) (.tmp 11),none⟩])
 (.seq
 (.cond (.tmp 13)
 .skip
 (.exit 0))
 (.seq
 (.block 1
 (.seq
 (.reg [] [⟨some 14,.mov (.tmp 12),none⟩,
 ⟨some 15,.ixa 1 (.tmp 10) (.tmp 12),none⟩,
 ⟨some 16,.ld false 1 (.tmp 15),none⟩,
 ⟨some 6,.mov (.tmp 14),none⟩,
 ⟨some 7,.mov (.tmp 16),none⟩])
 (.seq
 (.reg [] [⟨some 17,.mov (.tmp 7),none⟩,
 ⟨some 18,.cmp .geq (.tmp 17) (.cst (.d (.int .i64 0))),none⟩])
 (.cond (.tmp 18)
 (.reg [1,2] [⟨some 19,.mov (.tmp 5),none⟩,
 ⟨some 20,.mov (.tmp 6),none⟩,
 ⟨some 21,.bsl 1 3 1 1 [(.int .i64 0)] [(0,(.tmp 20))],none⟩,
 ⟨some 22,.app 2 3 1 8 (.tmp 19) (.tmp 21),none⟩,
 ⟨some 5,.mov (.tmp 22),none⟩])
 .skip))))
 (.reg [] [⟨some 23,.arith .add .i64 (.tmp 12) (.cst (.d (.int .i64 1))),none⟩,
 ⟨some 12,.mov (.tmp 23),none⟩])))))))))))
 (.seq
 (.reg [] [⟨some 24,.mov (.tmp 5),none⟩,
 ⟨some 4,.mov (.tmp 24),none⟩])
 .ret))))⟩
def ir112:AFun:=⟨17,2,[.tmp 6],
 (.seq
 (.reg [0] [⟨some 3,.cbx 0 2 (.tmp 0),none⟩,
 ⟨some 6,.mov (.cst (.d (.int .i64 0))),none⟩])
 (.seq
 (.regd [1] [⟨some 7,.ld true 2 (.tmp 3),none⟩,
 ⟨some 8,.call 27 [(.tmp 7)],none⟩,
 ⟨some 9,.ld true 2 (.tmp 3),none⟩,
 ⟨some 10,.mov (.tmp 1),none⟩,
 ⟨some 11,.call 87 [(.tmp 9),(.tmp 10)],none⟩,
 ⟨some 12,.ld true 2 (.tmp 3),none⟩,
 ⟨some 13,.mov (.tmp 2),none⟩,
 ⟨some 14,.call 87 [(.tmp 12),(.tmp 13)],none⟩,
 ⟨some 15,.bsl 1 29 1 3 [(.int .i64 0),(.int .i64 0),(.int .i64 0)] [(0,(.tmp 8)),(1,(.tmp 11)),(2,(.tmp 14))],none⟩,
 ⟨some 16,.call 86 [(.tmp 15)],none⟩,
 ⟨some 6,.mov (.tmp 16),none⟩] [(0,2),(1,2),(0,3),(1,3),(2,3),(0,5),(1,5),(2,5),(3,5),(4,5),(0,6),(1,6),(2,6),(3,6),(4,6),(5,6)])
 .ret))⟩
def ir114:AFun:=⟨7,0,[.tmp 3],
 (.seq
 (.reg [] [⟨some 3,.mov (.cst (.d (.bool false))),none⟩])
 (.seq
 (.reg [] [⟨some 4,.ld false 1 (.tmp 1),none⟩,
 ⟨some 5,.mov (.tmp 0),none⟩,
 ⟨some 6,.call 113 [(.tmp 4),(.tmp 5)],none⟩,
 ⟨some 3,.mov (.tmp 6),none⟩])
 .ret))⟩
def ir116:AFun:=⟨13,1,[.tmp 3],
 (.seq
 (.reg [0] [⟨some 2,.cbx 0 3 (.tmp 0),none⟩,
 ⟨some 3,.mov (.cst (.d (.bool false))),none⟩])
 (.seq
 (.regd [] [⟨some 4,.ld false 1 (.tmp 1),none⟩,
 ⟨some 5,.fad 0 (.tmp 2),none⟩,
 ⟨some 6,.ld false 1 (.tmp 5),none⟩,
 ⟨some 7,.callv (.tmp 4) [(.tmp 6)],none⟩,
 ⟨some 8,.ld false 1 (.tmp 1),none⟩,
 ⟨some 9,.fad 1 (.tmp 2),none⟩,
 ⟨some 10,.ld false 1 (.tmp 9),none⟩,
 ⟨some 11,.callv (.tmp 8) [(.tmp 10)],none⟩,
 ⟨some 12,.beq true (.tmp 7) (.tmp 11),none⟩,
 ⟨some 3,.mov (.tmp 12),none⟩] [(0,1),(0,2),(0,4),(1,4),(2,4),(3,4),(0,5),(1,5),(2,5),(3,5),(4,5),(0,6),(1,6),(2,6),(3,6),(4,6)])
 .ret))⟩
def ir47:AFun:=⟨75,5,[.tmp 8],
 (.seq
 (.reg [0,1] [⟨some 4,.cbx 0 2 (.tmp 0),none⟩,
 ⟨some 7,.cbx 1 1 (.tmp 3),none⟩,
 ⟨some 8,.mov (.cst (.d (.int .i64 0))),none⟩])
 (.seq
 (.seq
 (.regd [2] [⟨some 15,.ld true 2 (.tmp 4),none⟩,
 ⟨some 16,.mov (.tmp 1),none⟩,
 ⟨some 17,.mov (.tmp 2),none⟩,
 ⟨some 18,.call 112 [(.tmp 15),(.tmp 16),(.tmp 17)],none⟩,
 ⟨some 19,.ld false 1 (.tmp 7),none⟩,
 ⟨some 20,.len (.tmp 19),none⟩,
 ⟨some 21,.cmp .gtr (.tmp 20) (.cst (.d (.int .i64 32))),none⟩,
 ⟨some 22,.call 89 [(.tmp 21),(.cst (.d (.int .i64 5)))],none⟩,
 ⟨some 23,.bsl 2 29 1 2 [(.int .i64 0),(.int .i64 0)] [(0,(.tmp 18)),(1,(.tmp 22))],none⟩,
 ⟨some 24,.call 86 [(.tmp 23)],none⟩,
 ⟨some 9,.mov (.tmp 24),none⟩] [(0,1),(0,2),(1,2),(0,4),(1,4),(2,4),(3,4),(0,5),(1,5),(2,5),(3,5),(0,6),(1,6),(2,6),(3,6)])
 (.seq
 (.reg [] [⟨some 25,.mov (.tmp 9),none⟩,
 ⟨some 26,.cmp .neq (.tmp 25) (.cst (.d (.int .i64 0))),none⟩])
 (.cond (.tmp 26)
 (.seq
 (.reg [] [⟨some 27,.mov (.tmp 9),none⟩,
 ⟨some 8,.mov (.tmp 27),none⟩])
 .ret)
 .skip)))
 (.seq
 (.seq
 (.reg [] [⟨some 28,.ld false 1 (.tmp 7),none⟩,
 ⟨some 29,.len (.tmp 28),none⟩,
 ⟨some 30,.mov (.cst (.d (.int .i64 0))),none⟩])
 (.post [1,2,4,7] [0,1,2,3]
 (.block 0
 (.keep [1,2,4,7,28,29,30] [0,1,2]
 (.loop
 (.post [1,2,4,7,28,29,30] [3]
 (.seq
 (.reg [] [⟨some 31,.cmp .lss (.tmp 30) (.tmp 29),none⟩])
 (.seq
 (.cond (.tmp 31)
 .skip
 (.exit 0))
 (.seq
 (.block 1
 (.seq
 (.reg [] [⟨some 32,.mov (.tmp 30),none⟩,
 ⟨some 33,.ixa 1 (.tmp 28) (.tmp 30),none⟩,
 ⟨some 34,.ld false 1 (.tmp 33),none⟩,
 ⟨some 10,.mov (.tmp 32),none⟩,
 ⟨some 11,.mov (.tmp 34),none⟩])
 (.seq
 (.reg [3] [⟨some 35,.ld true 2 (.tmp 4),none⟩,
 ⟨some 36,.mov (.tmp 11),none⟩,
 ⟨some 37,.call 87 [(.tmp 35),(.tmp 36)],none⟩,
 ⟨some 38,.mov (.tmp 10),none⟩,
 ⟨some 39,.cmp .gtr (.tmp 38) (.cst (.d (.int .i64 0))),none⟩,
 ⟨some 40,.mov (.tmp 39),none⟩,
 ⟨some 41,.mov (.tmp 11),some (40,true)⟩,
 ⟨some 42,.ld false 1 (.tmp 7),some (40,true)⟩,
 ⟨some 43,.mov (.tmp 10),some (40,true)⟩,
 ⟨some 44,.arith .sub .i64 (.tmp 43) (.cst (.d (.int .i64 1))),some (40,true)⟩,
 ⟨some 45,.maxi (.cst (.d (.int .i64 0))) (.tmp 44),some (40,true)⟩,
 ⟨some 46,.ixa 1 (.tmp 42) (.tmp 45),some (40,true)⟩,
 ⟨some 47,.ld false 1 (.tmp 46),some (40,true)⟩,
 ⟨some 48,.cmp .leq (.tmp 41) (.tmp 47),some (40,true)⟩,
 ⟨some 49,.pick (.tmp 40) (.tmp 48) (.cst (.d (.bool false))),none⟩,
 ⟨some 50,.call 89 [(.tmp 49),(.cst (.d (.int .i64 11)))],none⟩,
 ⟨some 51,.bsl 3 29 1 2 [(.int .i64 0),(.int .i64 0)] [(0,(.tmp 37)),(1,(.tmp 50))],none⟩,
 ⟨some 52,.call 86 [(.tmp 51)],none⟩,
 ⟨some 12,.mov (.tmp 52),none⟩])
 (.seq
 (.reg [] [⟨some 53,.mov (.tmp 12),none⟩,
 ⟨some 54,.cmp .neq (.tmp 53) (.cst (.d (.int .i64 0))),none⟩])
 (.cond (.tmp 54)
 (.seq
 (.reg [] [⟨some 55,.mov (.tmp 12),none⟩,
 ⟨some 8,.mov (.tmp 55),none⟩])
 .ret)
 .skip)))))
 (.reg [] [⟨some 56,.arith .add .i64 (.tmp 30) (.cst (.d (.int .i64 1))),none⟩,
 ⟨some 30,.mov (.tmp 56),none⟩]))))))))))
 (.seq
 (.reg [4] [⟨some 57,.mkf (.func 114) [] [(.tmp 7)],none⟩,
 ⟨some 13,.alloc 4 [.undef],none⟩,
 ⟨none,.st 1 (.tmp 13) (.tmp 57),none⟩])
 (.seq
 (.reg [] [⟨some 58,.fad 1 (.tmp 4),none⟩,
 ⟨some 59,.ld false 1 (.tmp 58),none⟩,
 ⟨some 60,.mkf (.func 116) [] [(.tmp 13)],none⟩,
 ⟨some 61,.call 115 [(.tmp 59),(.tmp 60)],none⟩,
 ⟨some 14,.mov (.tmp 61),none⟩])
 (.seq
 (.reg [] [⟨some 62,.ld false 1 (.tmp 13),none⟩,
 ⟨some 63,.mov (.tmp 1),none⟩,
 ⟨some 64,.callv (.tmp 62) [(.tmp 63)],none⟩,
 ⟨some 65,.not (.tmp 64),none⟩,
 ⟨some 66,.mov (.tmp 65),none⟩,
 ⟨some 67,.ld false 1 (.tmp 13),some (66,false)⟩,
 ⟨some 68,.mov (.tmp 2),some (66,false)⟩,
 ⟨some 69,.callv (.tmp 67) [(.tmp 68)],some (66,false)⟩,
 ⟨some 70,.pick (.tmp 66) (.cst (.d (.bool true))) (.tmp 69),none⟩,
 ⟨some 71,.mov (.tmp 70),none⟩,
 ⟨some 72,.mov (.tmp 14),some (71,false)⟩,
 ⟨some 73,.pick (.tmp 71) (.cst (.d (.bool true))) (.tmp 72),none⟩,
 ⟨some 74,.call 89 [(.tmp 73),(.cst (.d (.int .i64 19)))],none⟩,
 ⟨some 8,.mov (.tmp 74),none⟩])
 .ret))))))⟩
def reachN (d:List Int):Nat→List Int
 | 0=>[]
 | k+1=>reachN d k++(bif decide (0≤at0 d k) then [(k:Int)] else [])
theorem reachN_len (d:List Int):∀ k,(reachN d k).length≤k
 | 0=>Nat.le_refl _
 | k+1=>by
  have:=reachN_len d k
  rw [reachN,List.length_append]
  cases decide (0≤at0 d k)
  ·show _+0≤_; omega
  ·show _+1≤_; omega
theorem reachN_yes {d:List Int} {k:Nat} (h:0≤at0 d k):reachN d (k+1)=reachN d k++[(k:Int)]:=by rw [reachN,decide_eq_true h]; rfl
theorem reachN_no {d:List Int} {k:Nat} (h:¬ 0≤at0 d k):reachN d (k+1)=reachN d k:=by rw [reachN,decide_eq_false h]; exact List.append_nil _
def Ms.reach (m:Ms) (f:Int):List Int:=reachN (m.dist f) (m.dist f).length
theorem dist_len (m:Ms) (f:Int):(m.dist f).length=m.ns.length:=by
 unfold Ms.dist; rw [passes_len]; unfold start; rw [List.length_set,List.length_replicate]
theorem reach_len (m:Ms) (f:Int):(m.reach f).length≤m.ns.length:=by
 have:=reachN_len (m.dist f) (m.dist f).length
 rw [dist_len] at this
 unfold Ms.reach; rw [dist_len]; exact this
theorem at0_get {d:List Int} {k:Nat} {x:Int} (h:d[k]?=some x):at0 d k=x:=by unfold at0; rw [h]; rfl
theorem ints_app1 (l:List Int) (x:Int):ints (l++[x])=ints l++[.int .i64 x]:=by unfold ints; rw [List.map_append]; rfl
theorem c111 (m:Ms) (f:Int) (hf:m.fine) (h0:0≤f) (h1:f < (m.ns.length:Int)):CallDet Tryz.prog 111 [.d m.d,.d (.int .i64 f)] [.slice 1 (ints (m.reach f))]:=by
 have hdl:=ints_len (m.dist f)
 have hdn:=dist_len m f
 have h32:=hf.n32
 refine call_of_vc (x:=ir111) (by kernel_rfl) rfl ?_
 refine ca (c92 m f hf h0 h1) ?_
 rotate_left
 refine loop_u (fun a:Nat=>[(5,.sl 2 (ints (reachN (m.dist f) a)).length),(12,.d (.int .i64 a))]) (fun a=>[(2,.row 3 1 (ints (reachN (m.dist f) a)) false)]) (fun a=>a≤(m.dist f).length) (fun a=>(m.dist f).length - a) 0 rfl (Nat.zero_le _) ?_
 intro k hk
 have hk:k≤(m.dist f).length:=hk
 have hrl:=reachN_len (m.dist f) k
 have hil:=ints_len (reachN (m.dist f) k)
 by_cases hkk:k < (m.dist f).length
 ·refine Exists.elim (get_lt (m.dist f) hkk) fun x hx=>?_
  have hxd:=ints_get hx
  have hxa:=at0_get hx
  refine sd ?_
  refine b_lt (fun t1=>?_) (fun t1=>?_)
  refine ix_at hxd ?_ ?_
  (show (0:Int)≤(↑k:Int); omega)
  refine sd ?_
  refine b_le (fun t2=>?_) (fun t2=>?_)
  refine sd ?_
  refine sd ?_
  refine sd ?_
  refine an ?_ ?_
  refine an ?_ ?_
  exact rfl
  refine an ?_ ?_
  exact rfl
  refine an ?_ ?_
  exact rfl
  refine an ?_ ?_
  (show (List.length (ints (reachN (Ms.dist m f) k))+(1:Nat)) * (8:Nat)≤(2:Nat) ^ (47:Nat); omega)
  (show List.length (ints (reachN (Ms.dist m f) k))+(1:Nat)≤(2:Nat) ^ (47:Nat); omega)
  refine ar_add ?_ ?_
  refine an ?_ ?_
  (show (-9223372036854775808:Int)≤(↑k:Int)+(1:Int); omega)
  (show (↑k:Int)+(1:Int)≤(9223372036854775807:Int); omega)
  rotate_left
  refine ar_add ?_ ?_
  refine an ?_ ?_
  (show (-9223372036854775808:Int)≤(↑k:Int)+(1:Int); omega)
  (show (↑k:Int)+(1:Int)≤(9223372036854775807:Int); omega)
  rotate_left
  (exfalso; omega)
  ·refine ⟨k+1,⟨hkk,by show (m.dist f).length - (k+1) < (m.dist f).length - k; omega⟩,?_⟩
   rw [reachN_yes (by rw [hxa]; exact t2),ints_app1]; rfl
  ·refine ⟨k+1,⟨hkk,by show (m.dist f).length - (k+1) < (m.dist f).length - k; omega⟩,?_⟩
   rw [reachN_no (by rw [hxa]; exact t2)]; rfl
 ·have ek:k=(m.dist f).length:=by omega
  subst ek
  refine sd ?_
  refine b_lt (fun t1=>?_) (fun t1=>?_)
  (exfalso; omega)
  refine sd ?_
  exact rfl
def Ms.reachP (m:Ms) (i:Int):List Int:=bif nodeD m i != 0 then [] else m.reach i
theorem c45 (m:Ms) (i:Int) (hn:m.ns.length≤1048576) (hl:m.ls.length≤1048576):CallDet Tryz.prog 45 [.d m.d,.d (.int .i64 i)] [.slice 1 (ints (m.reachP i)),.int .i64 (nodeD m i)]:=by
 have bad:¬ nodeD m i=0→resV [.slice 1 [],.int .i64 (nodeD m i)]=resV [.slice 1 (ints (m.reachP i)),.int .i64 (nodeD m i)]:=fun h=>by
  unfold Ms.reachP; rw [show (nodeD m i != 0)=true by rw [bne_iff_ne]; exact h]; rfl
 have fin:nodeD m i=0→resV [.slice 1 (ints (m.reach i)),.int .i64 0]=resV [.slice 1 (ints (m.reachP i)),.int .i64 (nodeD m i)]:=fun h=>by
  unfold Ms.reachP; rw [h]; rfl
 refine call_of_vc (x:=ir45) (by kernel_rfl) rfl ?_
 refine ca (c27 m (by omega) (by omega)) ?_
 refine ca (c87 m _) ?_
 refine sd ?_
 refine sd ?_
 refine ca (c86 [Ms.chk m,Ms.nodeE m i] (by simp)) ?_
 refine sd ?_
 refine b_ne (fun t1=>?_) (fun t1=>?_)
 rotate_left
 refine ca (c111 m i (nodeD_ok ‹_›).1 (nodeD_ok ‹_›).2.1 (nodeD_ok ‹_›).2.2) ?_
 rotate_left
 ·exact bad t1
 ·exact fin t1
theorem nodeD_good2 {m:Ms} {i:Int} (h:m.chk=0) (h2:m.nodeE i=0):nodeD m i=0:=by rw [nodeD_good h]; exact h2
theorem first_0 {a:Int} {l:List Int} (h:a=0):firstOf (a::l)=firstOf l:=by rw [firstOf_cons,h]; rfl
end Vc
set_option maxRecDepth 10000
set_option maxHeartbeats 4000000
namespace Vc
open Go Go.Proofs
def ir118:AFun:=⟨38,5,[.cell 8 4 true],
 (.seq
 (.reg [0,1,2] [⟨some 4,.cbx 0 3 (.tmp 0),none⟩,
 ⟨some 5,.cbx 1 2 (.tmp 1),none⟩,
 ⟨some 8,.alloc 2 [(.d (.int .i64 0)),(.d (.int .i64 0)),(.d (.int .i64 0)),(.d (.bool false))],none⟩])
 (.seq
 (.reg [3] [⟨some 11,.fad 2 (.tmp 4),none⟩,
 ⟨some 12,.ld false 1 (.tmp 11),none⟩,
 ⟨some 13,.mov (.tmp 2),none⟩,
 ⟨some 14,.ixa 3 (.tmp 12) (.tmp 13),none⟩,
 ⟨some 15,.ld true 3 (.tmp 14),none⟩,
 ⟨some 9,.alloc 3 [(.d (.int .i64 0)),(.d (.int .i64 0)),(.d (.int .i64 0))],none⟩,
 ⟨none,.st 3 (.tmp 9) (.tmp 15),none⟩])
 (.seq
 (.seq
 (.reg [] [⟨some 16,.fad 2 (.tmp 9),none⟩,
 ⟨some 17,.ld false 1 (.tmp 16),none⟩,
 ⟨some 18,.cmp .eql (.tmp 17) (.cst (.d (.int .i64 (-1)))),none⟩])
 (.cond (.tmp 18)
 (.seq
 (.reg [] [⟨some 19,.build [(.d (.int .i64 0)),(.d (.int .i64 0)),(.d (.int .i64 0)),(.d (.bool false))] [],none⟩,
 ⟨none,.st 4 (.tmp 8) (.tmp 19),none⟩])
 .ret)
 .skip))
 (.seq
 (.regd [4] [⟨some 20,.fad 0 (.tmp 9),none⟩,
 ⟨some 21,.ld false 1 (.tmp 20),none⟩,
 ⟨some 22,.fad 1 (.tmp 9),none⟩,
 ⟨some 23,.ld false 1 (.tmp 22),none⟩,
 ⟨some 24,.ld true 2 (.tmp 5),none⟩,
 ⟨some 25,.mov (.tmp 2),none⟩,
 ⟨some 26,.mov (.tmp 3),none⟩,
 ⟨some 27,.call 91 [(.tmp 24),(.tmp 25),(.tmp 26)],none⟩,
 ⟨some 28,.arith .add .i64 (.tmp 23) (.tmp 27),none⟩,
 ⟨some 29,.mov (.tmp 2),none⟩,
 ⟨some 30,.build [(.d (.int .i64 0)),(.d (.int .i64 0)),(.d (.int .i64 0))] [(0,1,(.tmp 21)),(1,1,(.tmp 28)),(2,1,(.tmp 29))],none⟩,
 ⟨some 31,.build [(.d (.int .i64 0)),(.d (.int .i64 0)),(.d (.int .i64 0)),(.d (.bool false))] [(0,3,(.tmp 30))],none⟩,
 ⟨some 10,.alloc 4 [(.d (.int .i64 0)),(.d (.int .i64 0)),(.d (.int .i64 0)),(.d (.bool false))],none⟩,
 ⟨none,.st 4 (.tmp 10) (.tmp 31),none⟩] [(0,2),(1,2),(0,3),(1,3),(0,4),(1,4),(2,4),(3,4),(0,5),(1,5),(2,5),(3,5),(4,5),(0,6),(1,6),(2,6),(3,6),(4,6),(5,6),(0,7),(1,7),(2,7),(3,7),(0,8),(1,8),(0,9),(1,9),(2,9),(3,9),(4,9),(5,9),(6,9),(7,9),(8,9),(0,12),(1,12),(2,12),(3,12),(4,12),(5,12),(6,12),(7,12),(8,12),(9,12),(10,12),(11,12)])
 (.seq
 (.reg [] [⟨some 32,.fad 0 (.tmp 10),none⟩,
 ⟨some 33,.fad 1 (.tmp 32),none⟩,
 ⟨some 34,.ld false 1 (.tmp 33),none⟩,
 ⟨some 35,.cmp .leq (.tmp 34) (.cst (.d (.int .i64 3200))),none⟩,
 ⟨some 36,.fad 3 (.tmp 10),none⟩,
 ⟨none,.st 1 (.tmp 36) (.tmp 35),none⟩])
 (.seq
 (.reg [] [⟨some 37,.ld true 4 (.tmp 10),none⟩,
 ⟨none,.st 4 (.tmp 8) (.tmp 37),none⟩])
 .ret))))))⟩
def ir150:AFun:=⟨24,2,[.tmp 4],
 (.seq
 (.reg [0,1] [⟨some 2,.cbx 0 3 (.tmp 0),none⟩,
 ⟨some 3,.cbx 1 3 (.tmp 1),none⟩,
 ⟨some 4,.mov (.cst (.d (.bool false))),none⟩])
 (.seq
 (.reg [] [⟨some 5,.fad 0 (.tmp 2),none⟩,
 ⟨some 6,.ld false 1 (.tmp 5),none⟩,
 ⟨some 7,.fad 0 (.tmp 3),none⟩,
 ⟨some 8,.ld false 1 (.tmp 7),none⟩,
 ⟨some 9,.cmp .gtr (.tmp 6) (.tmp 8),none⟩,
 ⟨some 10,.mov (.tmp 9),none⟩,
 ⟨some 11,.fad 0 (.tmp 2),some (10,false)⟩,
 ⟨some 12,.ld false 1 (.tmp 11),some (10,false)⟩,
 ⟨some 13,.fad 0 (.tmp 3),some (10,false)⟩,
 ⟨some 14,.ld false 1 (.tmp 13),some (10,false)⟩,
 ⟨some 15,.cmp .eql (.tmp 12) (.tmp 14),some (10,false)⟩,
 ⟨some 16,.mov (.tmp 15),some (10,false)⟩,
 ⟨some 17,.fad 1 (.tmp 2),some (16,true)⟩,
 ⟨some 18,.ld false 1 (.tmp 17),some (16,true)⟩,
 ⟨some 19,.fad 1 (.tmp 3),some (16,true)⟩,
 ⟨some 20,.ld false 1 (.tmp 19),some (16,true)⟩,
 ⟨some 21,.cmp .lss (.tmp 18) (.tmp 20),some (16,true)⟩,
 ⟨some 22,.pick (.tmp 16) (.tmp 21) (.cst (.d (.bool false))),some (10,false)⟩,
 ⟨some 23,.pick (.tmp 10) (.cst (.d (.bool true))) (.tmp 22),none⟩,
 ⟨some 4,.mov (.tmp 23),none⟩])
 .ret))⟩
def ir117:AFun:=⟨32,2,[],
 (.seq
 (.reg [0,1] [⟨some 3,.box 0 3 (.tmp 0),none⟩,
 ⟨some 5,.cbx 1 4 (.tmp 2),none⟩])
 (.seq
 (.reg [] [⟨some 6,.mov (.cst (.d (.fn (.func 150) []))),none⟩])
 (.seq
 (.regd [] [⟨some 7,.mov (.tmp 1),none⟩,
 ⟨some 8,.fad 0 (.tmp 3),none⟩,
 ⟨some 9,.ld false 1 (.tmp 8),none⟩,
 ⟨some 10,.cmp .neq (.tmp 7) (.tmp 9),none⟩,
 ⟨some 11,.mov (.tmp 10),none⟩,
 ⟨some 12,.fad 3 (.tmp 5),some (11,true)⟩,
 ⟨some 13,.ld false 1 (.tmp 12),some (11,true)⟩,
 ⟨some 14,.pick (.tmp 11) (.tmp 13) (.cst (.d (.bool false))),none⟩,
 ⟨some 15,.mov (.tmp 14),none⟩,
 ⟨some 16,.mov (.tmp 6),some (15,true)⟩,
 ⟨some 17,.fad 0 (.tmp 5),some (15,true)⟩,
 ⟨some 18,.ld true 3 (.tmp 17),some (15,true)⟩,
 ⟨some 19,.fad 2 (.tmp 3),some (15,true)⟩,
 ⟨some 20,.ld false 1 (.tmp 19),some (15,true)⟩,
 ⟨some 21,.mov (.tmp 1),some (15,true)⟩,
 ⟨some 22,.ixa 3 (.tmp 20) (.tmp 21),some (15,true)⟩,
 ⟨some 23,.ld true 3 (.tmp 22),some (15,true)⟩,
 ⟨some 24,.callv (.tmp 16) [(.tmp 18),(.tmp 23)],some (15,true)⟩,
 ⟨some 25,.pick (.tmp 15) (.tmp 24) (.cst (.d (.bool false))),none⟩] [(0,1),(0,2),(9,10),(9,11),(9,12),(10,12),(11,12),(9,13),(10,13),(11,13),(9,14),(10,14),(11,14),(12,14),(13,14),(9,15),(10,15),(11,15),(9,16),(10,16),(11,16)])
 (.cond (.tmp 25)
 (.reg [] [⟨some 26,.fad 2 (.tmp 3),none⟩,
 ⟨some 27,.ld false 1 (.tmp 26),none⟩,
 ⟨some 28,.mov (.tmp 1),none⟩,
 ⟨some 29,.fad 0 (.tmp 5),none⟩,
 ⟨some 30,.ld true 3 (.tmp 29),none⟩,
 ⟨some 31,.ixa 3 (.tmp 27) (.tmp 28),none⟩,
 ⟨none,.st 3 (.tmp 31) (.tmp 30),none⟩])
 .skip))))⟩
def hrs (co n:Int) (x:En) (is:Bool) (E:List En):List En:=match E[n.toNat]? with
 | some e=>bif !(n==co)&&(is&&x.betB e) then E.set n.toNat x else E
 | none=>E
end Vc
set_option maxRecDepth 10000
set_option maxHeartbeats 4000000
namespace Vc
open Go Go.Proofs
theorem hr_ref (m:Ms) (s:Sts) (lost:List (Int × Int)) (n k:Int) (acc:En):hr m s lost n acc k=acc∨(ofB m s k n=true∧n≠s.co∧lostB lost n k=false∧(ofE m s k n).betB acc=true∧hr m s lost n acc k=ofE m s k n):=by
 unfold hr
 cases hb:hrB m s lost n k acc
 ·exact .inl rfl
 ·right
  unfold hrB at hb
  simp only [Bool.and_eq_true,Bool.not_eq_true',beq_eq_false_iff_ne] at hb
  exact ⟨hb.2.1,hb.1,hb.2.2.1,hb.2.2.2,rfl⟩
def Sts.heard (s:Sts) (m:Ms) (w fr:Int):Sts:=⟨s.co,s.nu,s.es.set w.toNat (hr m s [] w (s.at w) fr)⟩
end Vc
set_option maxRecDepth 10000
namespace Vc
open Go Go.Proofs
theorem hit_iff {l:Lk} {a b:Int}:hit l a b=true↔l.a=min a b∧l.b=max a b:=by
 unfold hit; simp
theorem betw_mem:∀ {ls:List Lk} {a b:Int},0 < betw ls a b→∃ l∈ls,l.c=betw ls a b∧l.a=min a b∧l.b=max a b
 | [],a,b,h=>by unfold betw at h; omega
 | x::r,a,b,h=>by
  unfold betw at h ⊢
  cases hh:hit x a b
  ·rw [hh] at h
   obtain ⟨l,hl,h2⟩:=betw_mem (ls:=r) h
   exact ⟨l,List.mem_cons_of_mem _ hl,h2⟩
  ·exact ⟨x,List.mem_cons_self,rfl,hit_iff.1 hh⟩
theorem betw_of:∀ {ls:List Lk} {l:Lk},(∀ k x,ls[k]?=some x→(ls.take k).any (fun o=>sameL o x)=false)→l∈ls→l.a≤l.b→betw ls l.a l.b=l.c
 | x::r,l,h,hl,hab=>by
  unfold betw
  cases hh:hit x l.a l.b
  ·rcases List.mem_cons.1 hl with rfl | hl
   ·have:hit l l.a l.b=true:=hit_iff.2 ⟨by omega,by omega⟩
    rw [this] at hh; cases hh
   ·refine betw_of (fun k y hy=>?_) hl hab
    have:=h (k+1) y hy
    rw [List.take_succ_cons,List.any_cons,Bool.or_eq_false_iff] at this
    exact this.2
  ·rcases List.mem_cons.1 hl with rfl | hl
   ·rfl
   ·exfalso
    obtain ⟨j,hj,e⟩:=List.mem_iff_getElem.1 hl
    have:=h (j+1) l (by rw [List.getElem?_cons_succ]; exact List.getElem?_eq_some_iff.2 ⟨hj,e⟩)
    rw [List.take_succ_cons,List.any_cons,Bool.or_eq_false_iff] at this
    have h2:=hit_iff.1 hh
    have h3:sameL x l=true:=by
     unfold sameL
     rw [show (x.a==l.a)=true by rw [beq_iff_eq]; omega,show (x.b==l.b)=true by rw [beq_iff_eq]; omega]; rfl
    rw [h3] at this; cases this.1
theorem Ms.fine.betw_dir {m:Ms} (h:m.fine) {u v:Nat} {c:Int}:dir m.ls u v c↔c=betw m.ls u v∧0 < c:=by
 constructor
 ·rintro ⟨l,hl,rfl,he⟩
  have hk:=h.link hl
  have e:=betw_of (l:=l) (fun k x hx=>(linkE_zero (h.links k x hx)).2.1) hl (by omega)
  refine ⟨?_,by omega⟩
  rcases he with ⟨rfl,rfl⟩ | ⟨rfl,rfl⟩
  ·rw [show ((l.a.toNat:Nat):Int)=l.a by omega,show ((l.b.toNat:Nat):Int)=l.b by omega,e]
  ·rw [betw_comm,show ((l.a.toNat:Nat):Int)=l.a by omega,show ((l.b.toNat:Nat):Int)=l.b by omega,e]
 ·rintro ⟨rfl,h0⟩
  obtain ⟨l,hl,hc,ha,hb⟩:=betw_mem h0
  refine ⟨l,hl,hc,?_⟩
  omega
theorem nbs_iff (m:Ms) (i x:Int):x∈m.nbs i↔0≤x∧x < (m.ns.length:Int)∧0 < betw m.ls i x:=nbs_mem m i x m.ns.length
theorem round_at (m:Ms) (s:Sts) (lost:List (Int × Int)) {k:Int} (h0:0≤k) (h1:k < (s.es.length:Int)):(s.round m lost).at k=roundE m s lost k:=by
 have e:=rndL_get m s lost s.es.length (i:=k.toNat) (by omega)
 unfold Sts.at Sts.round
 show ((rndL m s lost s.es.length)[k.toNat]?).getD _=_
 rw [e,if_pos (by omega),show ((k.toNat:Nat):Int)=k by omega]; rfl
theorem round_len (m:Ms) (s:Sts) (lost:List (Int × Int)):(s.round m lost).es.length=s.es.length:=rndL_len m s lost s.es.length
theorem round_step {m:Ms} {s:Sts} (g:Good m s) (lost:List (Int × Int)) {k:Int} (h0:0≤k) (h1:k < (m.ns.length:Int)):(s.round m lost).at k=s.at k∨(k≠s.co∧∃ u:Int,0≤u∧u < (m.ns.length:Int)∧(s.at u).ne≠-1∧0 < betw m.ls u k∧(s.at u).di+betw m.ls u k≤3200∧(s.round m lost).at k=ofE m s u k∧((s.round m lost).at k).bet (s.at k)):=by
 rw [round_at m s lost h0 (by rw [g.len]; exact h1)]
 rcases (hr_fold m s lost k (m.nbs k) (s.at k)).1 with e | ⟨u,hu,hb,e⟩
 ·exact .inl e
 ·right
  have hn:=(nbs_iff m k u).1 hu
  unfold hrB ofB at hb
  simp only [Bool.and_eq_true,Bool.not_eq_true',beq_eq_false_iff_ne,decide_eq_true_eq] at hb
  refine ⟨hb.1,u,hn.1,hn.2.1,hb.2.1.1,by rw [betw_comm]; exact hn.2.2,hb.2.1.2,e,?_⟩
  show (roundE m s lost k).bet _
  unfold roundE
  rw [e]; exact betB_iff.1 hb.2.2.2
theorem round_best {m:Ms} {s:Sts} (g:Good m s) (lost:List (Int × Int)) {k u:Int} (h0:0≤k) (h1:k < (m.ns.length:Int)) (hk:k≠s.co) (hu:0≤u∧u < (m.ns.length:Int)) (hn:(s.at u).ne≠-1) (hb:0 < betw m.ls u k) (hd:(s.at u).di+betw m.ls u k≤3200) (hl:lostB lost k u=false):¬ (ofE m s u k).bet ((s.round m lost).at k):=by
 rw [round_at m s lost h0 (by rw [g.len]; exact h1)]
 have h:=(hr_fold m s lost k (m.nbs k) (s.at k)).2.1 u ((nbs_iff m k u).2 ⟨hu.1,hu.2,by rw [betw_comm]; exact hb⟩)
 intro hbet
 have e:hrB m s lost k u (roundE m s lost k)=true:=by
  unfold hrB ofB
  simp only [Bool.and_eq_true,Bool.not_eq_true',beq_eq_false_iff_ne,decide_eq_true_eq]
  exact ⟨hk,⟨hn,hd⟩,hl,betB_iff.2 hbet⟩
 unfold roundE at e
 rw [h] at e; cases e
theorem Good.round {m:Ms} {s:Sts} (g:Good m s) (lost:List (Int × Int)):Good m (s.round m lost) :=
 g.hears rfl rfl (round_len m s lost) fun _ h0 h1=>round_step g lost h0 h1
def Sts.rounds (m:Ms) (s:Sts):Nat→Sts
 | 0=>s
 | k+1=>(Sts.rounds m s k).round m []
theorem Good.rounds {m:Ms} {s:Sts} (g:Good m s):∀ k,Good m (s.rounds m k)
 | 0=>g
 | k+1=>(Good.rounds g k).round []
theorem rounds_co (m:Ms) (s:Sts):∀ k,(s.rounds m k).co=s.co
 | 0=>rfl
 | k+1=>rounds_co m s k
theorem rounds_len (m:Ms) (s:Sts):∀ k,(s.rounds m k).es.length=s.es.length
 | 0=>rfl
 | k+1=>(round_len m _ _).trans (rounds_len m s k)
theorem sts_ext {s t:Sts} (hc:s.co=t.co) (hn:s.nu=t.nu) (hl:s.es.length=t.es.length) (h:∀ v:Nat,v < s.es.length→s.at v=t.at v):s=t:=by
 have e:s.es=t.es:=by
  apply List.ext_getElem?
  intro i
  by_cases hi:i < s.es.length
  ·rw [Sts.at_get hi,Sts.at_get (by omega),h i hi]
  ·rw [List.getElem?_eq_none (by omega),List.getElem?_eq_none (by omega)]
 cases s; cases t
 simp only at hc hn e
 subst hc; subst hn; subst e; rfl
theorem Good.waves {m:Ms} {s:Sts} (g:Good m s):Waves m.ns.length (fun u v c=>v≠s.co.toNat∧dir m.ls u v c) (fun k v=>(s.rounds m k).at v) where
 step:=fun k v hv=>by
  have gk:=g.rounds k
  rcases round_step gk [] (k:=(v:Int)) (by omega) (by omega) with e | ⟨h1,u,h2,h3,h4,h5,h6,h7,h8⟩
  ·exact .inl e
  ·right
   have hco:=g.co
   rw [rounds_co] at h1
   refine ⟨u.toNat,betw m.ls u v,by omega,⟨by omega,(chk_fine g.chk).betw_dir.2 ⟨by rw [show ((u.toNat:Nat):Int)=u by omega],h5⟩⟩,?_,?_,?_,h8⟩
   ·rw [show ((u.toNat:Nat):Int)=u by omega]; exact h4
   ·rw [show ((u.toNat:Nat):Int)=u by omega]; exact h6
   ·show ((s.rounds m k).round m []).at v=_
    rw [h7,show ((u.toNat:Nat):Int)=u by omega]; rfl
 best:=fun k v u c hv hu ho hn hc=>by
  have gk:=g.rounds k
  have hd:=(chk_fine g.chk).betw_dir.1 ho.2
  have hco:=g.co
  have:=round_best gk [] (k:=(v:Int)) (u:=(u:Int)) (by omega) (by omega) (by rw [rounds_co]; have:=ho.1; omega) ⟨by omega,by omega⟩ hn (by omega) (by rw [← hd.1]; exact hc) rfl
  rw [hd.1]
  exact this
 cost:=fun u v c ho=>by have:=((chk_fine g.chk).betw_dir.1 ho.2).2; omega
theorem Good.rest {m:Ms} {s:Sts} (g:Good m s) {k:Nat} (hk:m.ns.length≤k+1):s.rounds m (k+1)=s.rounds m k:=by
 have gl:=g.len
 refine sts_ext rfl rfl (round_len m _ _) fun v hv=>?_
 rw [rounds_len,gl] at hv
 exact g.waves.rest k v hv hk
instance : DecidableEq En := fun _ _ => decidable_of_iff _ En.same_iff
def restK (m:Ms) (s:Sts):Nat→Nat→Nat
 | 0,k=>k
 | f+1,k=>if (s.rounds m (k+1)).es=(s.rounds m k).es then k else restK m s f (k+1)
def Sts.K (m:Ms) (s:Sts):Nat:=restK m s m.ns.length 0
end Vc
set_option maxRecDepth 10000
set_option maxHeartbeats 4000000
namespace Vc
open Go Go.Proofs
def ir120:AFun:=⟨26,0,[.tmp 4],
 (.seq
 (.reg [] [⟨some 4,.mov (.cst (.d (.bool false))),none⟩])
 (.seq
 (.seq
 (.reg [] [⟨some 6,.mov (.tmp 0),none⟩,
 ⟨some 7,.len (.tmp 6),none⟩,
 ⟨some 8,.mov (.tmp 1),none⟩,
 ⟨some 9,.len (.tmp 8),none⟩,
 ⟨some 10,.cmp .neq (.tmp 7) (.tmp 9),none⟩])
 (.cond (.tmp 10)
 (.seq
 (.reg [] [⟨some 4,.mov (.cst (.d (.bool false))),none⟩])
 .ret)
 .skip))
 (.seq
 (.seq
 (.reg [] [⟨some 11,.mov (.tmp 0),none⟩,
 ⟨some 12,.len (.tmp 11),none⟩,
 ⟨some 13,.mov (.cst (.d (.int .i64 0))),none⟩])
 (.post [] []
 (.block 0
 (.keep [0,1,12,13] []
 (.loop
 (.post [0,1,12,13] []
 (.seq
 (.reg [] [⟨some 14,.cmp .lss (.tmp 13) (.tmp 12),none⟩])
 (.seq
 (.cond (.tmp 14)
 .skip
 (.exit 0))
 (.seq
 (.block 1
 (.seq
 (.reg [] [⟨some 15,.mov (.tmp 13),none⟩,
 ⟨some 5,.mov (.tmp 15),none⟩])
 (.seq
 (.regd [] [⟨some 16,.mov (.tmp 0),none⟩,
 ⟨some 17,.mov (.tmp 5),none⟩,
 ⟨some 18,.ixa 3 (.tmp 16) (.tmp 17),none⟩,
 ⟨some 19,.ld true 3 (.tmp 18),none⟩,
 ⟨some 20,.mov (.tmp 1),none⟩,
 ⟨some 21,.mov (.tmp 5),none⟩,
 ⟨some 22,.ixa 3 (.tmp 20) (.tmp 21),none⟩,
 ⟨some 23,.ld true 3 (.tmp 22),none⟩,
 ⟨some 24,.aeq true [0,0,0] (.tmp 19) (.tmp 23),none⟩] [(0,1),(0,4),(1,4),(2,4),(3,4),(0,5),(1,5),(2,5),(3,5),(4,5),(0,6),(1,6),(2,6),(3,6),(0,7),(1,7),(2,7),(3,7)])
 (.cond (.tmp 24)
 (.seq
 (.reg [] [⟨some 4,.mov (.cst (.d (.bool false))),none⟩])
 .ret)
 .skip))))
 (.reg [] [⟨some 25,.arith .add .i64 (.tmp 13) (.cst (.d (.int .i64 1))),none⟩,
 ⟨some 13,.mov (.tmp 25),none⟩]))))))))))
 (.seq
 (.reg [] [⟨some 4,.mov (.cst (.d (.bool true))),none⟩])
 .ret))))⟩
def ir53:AFun:=⟨25,4,[.cell 6 3 true,.tmp 7],
 (.seq
 (.reg [0,1,2] [⟨some 3,.cbx 0 2 (.tmp 0),none⟩,
 ⟨some 4,.cbx 1 3 (.tmp 1),none⟩,
 ⟨some 6,.alloc 2 [(.d (.int .i64 0)),(.d (.int .i64 0)),(.nils 3)],none⟩,
 ⟨some 7,.mov (.cst (.d (.int .i64 0))),none⟩])
 (.seq
 (.seq
 (.regd [3] [⟨some 9,.ld true 2 (.tmp 3),none⟩,
 ⟨some 10,.ld true 3 (.tmp 4),none⟩,
 ⟨some 11,.call 37 [(.tmp 9),(.tmp 10)],none⟩,
 ⟨some 12,.ld true 2 (.tmp 3),none⟩,
 ⟨some 13,.mov (.tmp 2),none⟩,
 ⟨some 14,.call 107 [(.tmp 12),(.tmp 13)],none⟩,
 ⟨some 15,.bsl 3 29 1 2 [(.int .i64 0),(.int .i64 0)] [(0,(.tmp 11)),(1,(.tmp 14))],none⟩,
 ⟨some 16,.call 86 [(.tmp 15)],none⟩,
 ⟨some 8,.mov (.tmp 16),none⟩] [(0,1),(0,3),(1,3),(2,3),(0,4),(1,4),(2,4),(3,4)])
 (.seq
 (.reg [] [⟨some 17,.mov (.tmp 8),none⟩,
 ⟨some 18,.cmp .neq (.tmp 17) (.cst (.d (.int .i64 0))),none⟩])
 (.cond (.tmp 18)
 (.seq
 (.reg [] [⟨some 19,.build [(.d (.int .i64 0)),(.d (.int .i64 0)),(.nils 3)] [],none⟩,
 ⟨some 20,.mov (.tmp 8),none⟩,
 ⟨none,.st 3 (.tmp 6) (.tmp 19),none⟩,
 ⟨some 7,.mov (.tmp 20),none⟩])
 .ret)
 .skip)))
 (.seq
 (.reg [] [⟨some 21,.ld true 3 (.tmp 4),none⟩,
 ⟨some 22,.ld true 2 (.tmp 3),none⟩,
 ⟨some 23,.mov (.tmp 2),none⟩,
 ⟨some 24,.call 119 [(.tmp 21),(.tmp 22),(.tmp 23)],none⟩,
 ⟨none,.st 3 (.tmp 6) (.tmp 24),none⟩,
 ⟨some 7,.mov (.cst (.d (.int .i64 0))),none⟩])
 .ret)))⟩
theorem heard_len (m:Ms) (s:Sts) (a b:Int):(s.heard m a b).es.length=s.es.length:=by unfold Sts.heard; exact List.length_set
end Vc
set_option maxRecDepth 10000
set_option maxHeartbeats 4000000
namespace Vc
open Go Go.Proofs
def ir151:AFun:=⟨22,3,[.tmp 4],
 (.seq
 (.reg [] [⟨some 4,.mov (.cst (.nils 1)),none⟩])
 (.seq
 (.reg [] [⟨some 5,.mov (.cst (.nils 1)),none⟩])
 (.seq
 (.seq
 (.reg [] [⟨some 8,.mov (.tmp 0),none⟩,
 ⟨some 9,.len (.tmp 8),none⟩,
 ⟨some 10,.mov (.cst (.d (.int .i64 0))),none⟩])
 (.post [5] [0,1,2]
 (.block 0
 (.asrow 2 3 1 5
 (.keep [1,5,8,9,10] []
 (.loop
 (.post [1,5,8,9,10] [0,1,2]
 (.seq
 (.reg [] [⟨some 11,.cmp .lss (.tmp 10) (.tmp 9),none⟩])
 (.seq
 (.cond (.tmp 11)
 .skip
 (.exit 0))
 (.seq
 (.block 1
 (.seq
 (.reg [0] [⟨some 12,.ixa 3 (.tmp 8) (.tmp 10),none⟩,
 ⟨some 13,.ld true 3 (.tmp 12),none⟩,
 ⟨some 7,.alloc 0 [(.d (.int .i64 0)),(.d (.int .i64 0)),(.d (.int .i64 0))],none⟩,
 ⟨none,.st 3 (.tmp 7) (.tmp 13),none⟩])
 (.reg [1,2] [⟨some 14,.mov (.tmp 5),none⟩,
 ⟨some 15,.mov (.tmp 1),none⟩,
 ⟨some 16,.ld true 3 (.tmp 7),none⟩,
 ⟨some 17,.callv (.tmp 15) [(.tmp 16)],none⟩,
 ⟨some 18,.bsl 1 3 1 1 [(.int .i64 0)] [(0,(.tmp 17))],none⟩,
 ⟨some 19,.app 2 3 1 8 (.tmp 14) (.tmp 18),none⟩,
 ⟨some 5,.mov (.tmp 19),none⟩])))
 (.reg [] [⟨some 20,.arith .add .i64 (.tmp 10) (.cst (.d (.int .i64 1))),none⟩,
 ⟨some 10,.mov (.tmp 20),none⟩])))))))))))
 (.seq
 (.reg [] [⟨some 21,.mov (.tmp 5),none⟩,
 ⟨some 4,.mov (.tmp 21),none⟩])
 .ret))))⟩
def ir152:AFun:=⟨5,1,[.tmp 2],
 (.seq
 (.reg [0] [⟨some 1,.cbx 0 3 (.tmp 0),none⟩,
 ⟨some 2,.mov (.cst (.d (.int .i64 0))),none⟩])
 (.seq
 (.reg [] [⟨some 3,.fad 2 (.tmp 1),none⟩,
 ⟨some 4,.ld false 1 (.tmp 3),none⟩,
 ⟨some 2,.mov (.tmp 4),none⟩])
 .ret))⟩
def ir153:AFun:=⟨5,4,[.tmp 2],
 (.seq
 (.reg [] [⟨some 2,.mov (.cst (.nils 1)),none⟩])
 (.seq
 (.reg [] [⟨some 3,.mov (.tmp 0),none⟩,
 ⟨some 4,.calli 164 [(.cst (.nils 1)),(.tmp 3)],none⟩,
 ⟨some 2,.mov (.tmp 4),none⟩])
 .ret))⟩
def ir154:AFun:=⟨6,2,[.tmp 4],
 (.seq
 (.reg [0,1] [⟨some 2,.cbx 0 1 (.tmp 0),none⟩,
 ⟨some 3,.cbx 1 1 (.tmp 1),none⟩,
 ⟨some 4,.mov (.cst .undef),none⟩])
 (.seq
 (.reg [] [⟨some 5,.mkf (.func 165) [] [(.tmp 3),(.tmp 2)],none⟩,
 ⟨some 4,.mov (.tmp 5),none⟩])
 .ret))⟩
def ir164:AFun:=⟨13,4,[.tmp 4],
 (.seq
 (.reg [0] [⟨some 2,.box 0 1 (.tmp 0),none⟩,
 ⟨some 4,.mov (.cst (.nils 1)),none⟩])
 (.seq
 (.seq
 (.reg [] [⟨some 6,.mov (.tmp 1),none⟩])
 (.block 0
 (.keep [2,6] [0]
 (.rfor 1 (.tmp 6) [7]
 (.reg [] [⟨some 5,.mov (.tmp 7),none⟩])
 (.post [] [2,3]
 (.block 1
 (.reg [2,3] [⟨some 8,.ld false 1 (.tmp 2),none⟩,
 ⟨some 9,.mov (.tmp 5),none⟩,
 ⟨some 10,.bsl 2 3 1 1 [(.int .i64 0)] [(0,(.tmp 9))],none⟩,
 ⟨some 11,.app 3 3 1 8 (.tmp 8) (.tmp 10),none⟩,
 ⟨none,.st 1 (.tmp 2) (.tmp 11),none⟩])))))))
 (.seq
 (.reg [] [⟨some 12,.ld false 1 (.tmp 2),none⟩,
 ⟨some 4,.mov (.tmp 12),none⟩])
 .ret)))⟩
def ir165:AFun:=⟨32,0,[],
 (.seq
 (.reg [] [⟨some 5,.ld false 1 (.tmp 1),none⟩,
 ⟨some 4,.mov (.tmp 5),none⟩])
 (.seq
 (.reg [] [⟨some 6,.ld false 1 (.tmp 2),none⟩,
 ⟨some 7,.len (.tmp 6),none⟩,
 ⟨some 8,.mov (.cst (.d (.int .i64 0))),none⟩])
 (.post [] []
 (.block 0
 (.keep [0,2,4,7,8] []
 (.loop
 (.post [0,2,4,7,8] []
 (.seq
 (.reg [] [⟨some 9,.cmp .lss (.tmp 8) (.tmp 7),none⟩])
 (.seq
 (.cond (.tmp 9)
 .skip
 (.exit 0))
 (.seq
 (.block 1
 (.seq
 (.seq
 (.reg [] [⟨some 10,.mov (.tmp 0),none⟩,
 ⟨some 11,.mov (.tmp 4),none⟩,
 ⟨some 12,.callv (.tmp 10) [(.tmp 11)],none⟩,
 ⟨some 13,.not (.tmp 12),none⟩])
 (.cond (.tmp 13)
 .ret
 .skip))
 (.seq
 (.seq
 (.reg [] [⟨some 14,.ld false 1 (.tmp 2),none⟩,
 ⟨some 15,.mov (.tmp 4),none⟩,
 ⟨some 16,.ixa 1 (.tmp 14) (.tmp 15),none⟩,
 ⟨some 17,.ld false 1 (.tmp 16),none⟩,
 ⟨some 18,.cmp .lss (.tmp 17) (.cst (.d (.int .i64 0))),none⟩,
 ⟨some 19,.mov (.tmp 18),none⟩,
 ⟨some 20,.ld false 1 (.tmp 2),some (19,false)⟩,
 ⟨some 21,.mov (.tmp 4),some (19,false)⟩,
 ⟨some 22,.ixa 1 (.tmp 20) (.tmp 21),some (19,false)⟩,
 ⟨some 23,.ld false 1 (.tmp 22),some (19,false)⟩,
 ⟨some 24,.mov (.tmp 4),some (19,false)⟩,
 ⟨some 25,.cmp .eql (.tmp 23) (.tmp 24),some (19,false)⟩,
 ⟨some 26,.pick (.tmp 19) (.cst (.d (.bool true))) (.tmp 25),none⟩])
 (.cond (.tmp 26)
 .ret
 .skip))
 (.reg [] [⟨some 27,.ld false 1 (.tmp 2),none⟩,
 ⟨some 28,.mov (.tmp 4),none⟩,
 ⟨some 29,.ixa 1 (.tmp 27) (.tmp 28),none⟩,
 ⟨some 30,.ld false 1 (.tmp 29),none⟩,
 ⟨some 4,.mov (.tmp 30),none⟩]))))
 (.reg [] [⟨some 31,.arith .add .i64 (.tmp 8) (.cst (.d (.int .i64 1))),none⟩,
 ⟨some 8,.mov (.tmp 31),none⟩])))))))))))⟩
end Vc
set_option maxRecDepth 10000
set_option maxHeartbeats 4000000
namespace Vc
open Go Go.Proofs
theorem Good.betw_self {m:Ms} {s:Sts} (g:Good m s) (a:Int):betw m.ls a a=0:=by
 rcases Classical.em (0 < betw m.ls a a) with h | h
 ·obtain ⟨l,hl,_,h1,h2⟩:=betw_mem h
  have:=((chk_fine g.chk).link hl).1.2.2
  omega
 ·have:=(chk_fine g.chk).rng a a; omega
theorem Good.nxt {m:Ms} {s:Sts} (g:Good m s) {a:Int} (h0:0≤a) (h1:a < (m.ns.length:Int)) (hc:a≠s.co) (hn:(s.at a).ne≠-1):0≤(s.at a).ne∧(s.at a).ne < (m.ns.length:Int)∧(s.at a).ne≠a∧0 < betw m.ls a (s.at a).ne∧(s.at (s.at a).ne).bet (s.at a):=by
 have r:=g.rng a h0 h1
 have hl:=g.lnk a h0 h1 hc hn
 have hr:=(chk_fine g.chk).rng a (s.at a).ne
 refine ⟨by omega,r.2.2.2,fun e=>?_,by omega,?_⟩
 ·rw [e] at hl; exact hl (g.betw_self a)
 ·have:=g.lead a h0 h1 hc hn
  unfold En.bet; omega
end Vc
set_option maxRecDepth 10000
set_option maxHeartbeats 4000000
namespace Vc
open Go Go.Proofs
def ir128:AFun:=⟨15,7,[.cell 4 2 true],
 (.seq
 (.reg [0,1,2] [⟨some 2,.cbx 0 2 (.tmp 0),none⟩,
 ⟨some 3,.cbx 1 3 (.tmp 1),none⟩,
 ⟨some 4,.alloc 2 [(.nils 1),(.nils 3)],none⟩])
 (.seq
 (.regd [3,4] [⟨some 5,.fad 0 (.tmp 2),none⟩,
 ⟨some 6,.ld false 1 (.tmp 5),none⟩,
 ⟨some 7,.calln 6 9 1 124 [(.tmp 6)],none⟩,
 ⟨some 8,.fad 1 (.tmp 2),none⟩,
 ⟨some 9,.ld false 1 (.tmp 8),none⟩,
 ⟨some 10,.calln 5 117 3 126 [(.tmp 9)],none⟩,
 ⟨some 11,.ld true 3 (.tmp 3),none⟩,
 ⟨some 12,.bsl 3 117 3 1 [(.agg [(.int .i64 0),(.int .i64 0),(.int .i64 0)])] [(0,(.tmp 11))],none⟩,
 ⟨some 13,.app 4 117 3 24 (.tmp 10) (.tmp 12),none⟩,
 ⟨some 14,.build [(.nils 1),(.nils 3)] [(0,1,(.tmp 7)),(1,1,(.tmp 13))],none⟩,
 ⟨none,.st 2 (.tmp 4) (.tmp 14),none⟩] [(0,3),(1,3),(2,3),(0,4),(1,4),(2,4),(0,6),(1,6),(2,6),(3,6),(4,6),(5,6),(0,7),(1,7),(2,7),(3,7),(4,7),(5,7)])
 .ret))⟩
def ir68:AFun:=⟨37,6,[.cell 6 2 true,.cell 7 3 true,.tmp 8],
 (.seq
 (.reg [0,1,2,3,4] [⟨some 3,.cbx 0 2 (.tmp 0),none⟩,
 ⟨some 4,.cbx 1 3 (.tmp 1),none⟩,
 ⟨some 5,.cbx 2 3 (.tmp 2),none⟩,
 ⟨some 6,.alloc 3 [(.nils 1),(.nils 3)],none⟩,
 ⟨some 7,.alloc 4 [(.d (.int .i64 0)),(.d (.int .i64 0)),(.nils 3)],none⟩,
 ⟨some 8,.mov (.cst (.d (.int .i64 0))),none⟩])
 (.seq
 (.seq
 (.regd [5] [⟨some 10,.ld true 2 (.tmp 3),none⟩,
 ⟨some 11,.ld true 3 (.tmp 4),none⟩,
 ⟨some 12,.call 37 [(.tmp 10),(.tmp 11)],none⟩,
 ⟨some 13,.ld true 3 (.tmp 5),none⟩,
 ⟨some 14,.fad 0 (.tmp 3),none⟩,
 ⟨some 15,.ld false 1 (.tmp 14),none⟩,
 ⟨some 16,.len (.tmp 15),none⟩,
 ⟨some 17,.fad 1 (.tmp 3),none⟩,
 ⟨some 18,.ld false 1 (.tmp 17),none⟩,
 ⟨some 19,.call 97 [(.tmp 13),(.tmp 16),(.tmp 18)],none⟩,
 ⟨some 20,.fad 1 (.tmp 3),none⟩,
 ⟨some 21,.ld false 1 (.tmp 20),none⟩,
 ⟨some 22,.len (.tmp 21),none⟩,
 ⟨some 23,.cmp .eql (.tmp 22) (.cst (.d (.int .i64 128))),none⟩,
 ⟨some 24,.call 89 [(.tmp 23),(.cst (.d (.int .i64 5)))],none⟩,
 ⟨some 25,.bsl 5 29 1 3 [(.int .i64 0),(.int .i64 0),(.int .i64 0)] [(0,(.tmp 12)),(1,(.tmp 19)),(2,(.tmp 24))],none⟩,
 ⟨some 26,.call 86 [(.tmp 25)],none⟩,
 ⟨some 9,.mov (.tmp 26),none⟩] [(0,1),(0,3),(1,3),(2,3),(0,4),(1,4),(2,4),(3,4),(0,5),(1,5),(2,5),(3,5),(0,6),(1,6),(2,6),(3,6),(0,7),(1,7),(2,7),(3,7),(4,7),(5,7),(6,7),(0,8),(1,8),(2,8),(3,8),(4,8),(5,8),(6,8),(0,10),(1,10),(2,10),(3,10),(4,10),(5,10),(6,10),(7,10),(8,10),(9,10),(0,11),(1,11),(2,11),(3,11),(4,11),(5,11),(6,11),(7,11),(8,11),(9,11),(0,12),(1,12),(2,12),(3,12),(4,12),(5,12),(6,12),(7,12),(8,12),(9,12),(0,13),(1,13),(2,13),(3,13),(4,13),(5,13),(6,13),(7,13),(8,13),(9,13)])
 (.seq
 (.reg [] [⟨some 27,.mov (.tmp 9),none⟩,
 ⟨some 28,.cmp .neq (.tmp 27) (.cst (.d (.int .i64 0))),none⟩])
 (.cond (.tmp 28)
 (.seq
 (.reg [] [⟨some 29,.build [(.nils 1),(.nils 3)] [],none⟩,
 ⟨some 30,.build [(.d (.int .i64 0)),(.d (.int .i64 0)),(.nils 3)] [],none⟩,
 ⟨some 31,.mov (.tmp 9),none⟩,
 ⟨none,.st 2 (.tmp 6) (.tmp 29),none⟩,
 ⟨none,.st 3 (.tmp 7) (.tmp 30),none⟩,
 ⟨some 8,.mov (.tmp 31),none⟩])
 .ret)
 .skip)))
 (.seq
 (.regd [] [⟨some 32,.ld true 2 (.tmp 3),none⟩,
 ⟨some 33,.ld true 3 (.tmp 5),none⟩,
 ⟨some 34,.call 128 [(.tmp 32),(.tmp 33)],none⟩,
 ⟨some 35,.ld true 3 (.tmp 4),none⟩,
 ⟨some 36,.call 99 [(.tmp 35)],none⟩,
 ⟨none,.st 2 (.tmp 6) (.tmp 34),none⟩,
 ⟨none,.st 3 (.tmp 7) (.tmp 36),none⟩,
 ⟨some 8,.mov (.cst (.d (.int .i64 0))),none⟩] [(0,1),(0,3),(1,3),(2,3)])
 .ret)))⟩
def ir62:AFun:=⟨56,9,[.cell 6 3 true,.tmp 7],
 (.seq
 (.reg [0,1,2] [⟨some 3,.cbx 0 2 (.tmp 0),none⟩,
 ⟨some 4,.cbx 1 3 (.tmp 1),none⟩,
 ⟨some 6,.alloc 2 [(.d (.int .i64 0)),(.d (.int .i64 0)),(.nils 3)],none⟩,
 ⟨some 7,.mov (.cst (.d (.int .i64 0))),none⟩])
 (.seq
 (.seq
 (.regd [3] [⟨some 10,.ld true 2 (.tmp 3),none⟩,
 ⟨some 11,.ld true 3 (.tmp 4),none⟩,
 ⟨some 12,.call 37 [(.tmp 10),(.tmp 11)],none⟩,
 ⟨some 13,.ld true 2 (.tmp 3),none⟩,
 ⟨some 14,.mov (.tmp 2),none⟩,
 ⟨some 15,.call 87 [(.tmp 13),(.tmp 14)],none⟩,
 ⟨some 16,.mov (.tmp 2),none⟩,
 ⟨some 17,.fad 0 (.tmp 4),none⟩,
 ⟨some 18,.ld false 1 (.tmp 17),none⟩,
 ⟨some 19,.cmp .eql (.tmp 16) (.tmp 18),none⟩,
 ⟨some 20,.call 89 [(.tmp 19),(.cst (.d (.int .i64 9)))],none⟩,
 ⟨some 21,.fad 1 (.tmp 4),none⟩,
 ⟨some 22,.ld false 1 (.tmp 21),none⟩,
 ⟨some 23,.cmp .eql (.tmp 22) (.cst (.d (.int .i64 1000000))),none⟩,
 ⟨some 24,.call 89 [(.tmp 23),(.cst (.d (.int .i64 20)))],none⟩,
 ⟨some 25,.bsl 3 29 1 4 [(.int .i64 0),(.int .i64 0),(.int .i64 0),(.int .i64 0)] [(0,(.tmp 12)),(1,(.tmp 15)),(2,(.tmp 20)),(3,(.tmp 24))],none⟩,
 ⟨some 26,.call 86 [(.tmp 25)],none⟩,
 ⟨some 8,.mov (.tmp 26),none⟩] [(0,1),(0,3),(1,3),(2,3),(0,4),(1,4),(2,4),(3,4),(0,6),(1,6),(2,6),(3,6),(4,6),(5,6),(0,7),(1,7),(2,7),(3,7),(4,7),(5,7),(6,7),(0,8),(1,8),(2,8),(3,8),(4,8),(5,8),(6,8),(0,9),(1,9),(2,9),(3,9),(4,9),(5,9),(0,11),(1,11),(2,11),(3,11),(4,11),(5,11),(6,11),(7,11),(8,11),(9,11),(10,11),(0,12),(1,12),(2,12),(3,12),(4,12),(5,12),(6,12),(7,12),(8,12),(9,12),(10,12),(0,13),(1,13),(2,13),(3,13),(4,13),(5,13),(6,13),(7,13),(8,13),(9,13),(10,13)])
 (.seq
 (.reg [] [⟨some 27,.mov (.tmp 8),none⟩,
 ⟨some 28,.cmp .neq (.tmp 27) (.cst (.d (.int .i64 0))),none⟩])
 (.cond (.tmp 28)
 (.seq
 (.reg [] [⟨some 29,.build [(.d (.int .i64 0)),(.d (.int .i64 0)),(.nils 3)] [],none⟩,
 ⟨some 30,.mov (.tmp 8),none⟩,
 ⟨none,.st 3 (.tmp 6) (.tmp 29),none⟩,
 ⟨some 7,.mov (.tmp 30),none⟩])
 .ret)
 .skip)))
 (.seq
 (.reg [4] [⟨some 31,.ld true 3 (.tmp 4),none⟩,
 ⟨some 32,.calli 99 [(.tmp 31)],none⟩,
 ⟨some 9,.alloc 4 [(.d (.int .i64 0)),(.d (.int .i64 0)),(.nils 3)],none⟩,
 ⟨none,.st 3 (.tmp 9) (.tmp 32),none⟩])
 (.seq
 (.regd [] [⟨some 33,.mov (.tmp 2),none⟩,
 ⟨some 34,.fad 1 (.tmp 4),none⟩,
 ⟨some 35,.ld false 1 (.tmp 34),none⟩,
 ⟨some 36,.arith .add .i64 (.tmp 35) (.cst (.d (.int .i64 1))),none⟩,
 ⟨some 37,.fad 0 (.tmp 9),none⟩,
 ⟨none,.st 1 (.tmp 37) (.tmp 33),none⟩,
 ⟨some 38,.fad 1 (.tmp 9),none⟩,
 ⟨none,.st 1 (.tmp 38) (.tmp 36),none⟩] [(0,1),(0,2),(0,3),(1,4),(2,4),(3,4),(1,5),(2,5),(3,5)])
 (.seq
 (.reg [] [⟨some 39,.fad 2 (.tmp 9),none⟩,
 ⟨some 40,.ld false 1 (.tmp 39),none⟩,
 ⟨some 41,.fad 0 (.tmp 4),none⟩,
 ⟨some 42,.ld false 1 (.tmp 41),none⟩,
 ⟨some 43,.fad 1 (.tmp 4),none⟩,
 ⟨some 44,.ld false 1 (.tmp 43),none⟩,
 ⟨some 45,.build [(.d (.int .i64 0)),(.d (.int .i64 0)),(.d (.int .i64 0))] [(0,1,(.tmp 44)),(1,1,(.cst (.d (.int .i64 0)))),(2,1,(.cst (.d (.int .i64 (-1)))))],none⟩,
 ⟨some 46,.ixa 3 (.tmp 40) (.tmp 42),none⟩,
 ⟨none,.st 3 (.tmp 46) (.tmp 45),none⟩])
 (.seq
 (.reg [] [⟨some 47,.fad 2 (.tmp 9),none⟩,
 ⟨some 48,.ld false 1 (.tmp 47),none⟩,
 ⟨some 49,.mov (.tmp 2),none⟩,
 ⟨some 50,.fad 1 (.tmp 9),none⟩,
 ⟨some 51,.ld false 1 (.tmp 50),none⟩,
 ⟨some 52,.mov (.tmp 2),none⟩,
 ⟨some 53,.build [(.d (.int .i64 0)),(.d (.int .i64 0)),(.d (.int .i64 0))] [(0,1,(.tmp 51)),(1,1,(.cst (.d (.int .i64 0)))),(2,1,(.tmp 52))],none⟩,
 ⟨some 54,.ixa 3 (.tmp 48) (.tmp 49),none⟩,
 ⟨none,.st 3 (.tmp 54) (.tmp 53),none⟩])
 (.seq
 (.reg [] [⟨some 55,.ld true 3 (.tmp 9),none⟩,
 ⟨none,.st 3 (.tmp 6) (.tmp 55),none⟩,
 ⟨some 7,.mov (.cst (.d (.int .i64 0))),none⟩])
 .ret)))))))⟩
theorem c124r (l:List (List UInt8)) (hl:l.length≤1048576):CallRow Tryz.prog 124 [.d (.slice 1 (strs l))] 9 1 (strs l):=by
 have hsl:=strs_len l
 refine callRow_of_vc (x:=ir124) (by kernel_rfl) rfl ?_
 refine And.intro (fun t1=>?_) ?_
 rotate_left
 refine sd ?_
 refine sd ?_
 refine an ?_ ?_
 refine an ?_ ?_
 exact rfl
 refine an ?_ ?_
 exact rfl
 refine an ?_ ?_
 exact rfl
 refine an ?_ ?_
 (show ((0:Nat)+List.length (strs l)) * (16:Nat)≤(2:Nat) ^ (47:Nat); omega)
 (show (0:Nat)+List.length (strs l)≤(2:Nat) ^ (47:Nat); omega)
 rotate_left
 ·exact .inr ⟨by decide,t1,1,rfl,rfl⟩
 ·exact .inl ⟨0,⟨rfl,rfl⟩,rfl⟩
theorem c128 (m:Ms) (l:Lk) (hn:m.ns.length≤1048576) (hl:m.ls.length≤1048576):CallDet Tryz.prog 128 [.d m.d,.d l.d] [(⟨m.ns,m.ls++[l]⟩:Ms).d]:=by
 have hsl:=strs_len m.ns
 have hll:=lks_len m.ls
 have e:lks (m.ls++[l])=lks m.ls++[l.d]:=by unfold lks; rw [List.map_append]; rfl
 have fin:∀ X,X=lks (m.ls++[l])→resV [.agg [.slice 1 (strs m.ns),.slice 3 X]]=resV [(⟨m.ns,m.ls++[l]⟩:Ms).d]:=fun X hX=>by rw [hX]; rfl
 refine call_of_vc (x:=ir128) (by kernel_rfl) rfl ?_
 refine ca (c124r m.ns hn) ?_
 refine ca (c126r m.ls hl) ?_
 refine sd ?_
 refine sd ?_
 refine sd ?_
 refine an ?_ ?_
 refine an ?_ ?_
 exact rfl
 refine an ?_ ?_
 exact rfl
 refine an ?_ ?_
 exact rfl
 refine an ?_ ?_
 (show (List.length (lks (Ms.ls m))+(1:Nat)) * (24:Nat)≤(2:Nat) ^ (47:Nat); omega)
 (show List.length (lks (Ms.ls m))+(1:Nat)≤(2:Nat) ^ (47:Nat); omega)
 refine sd ?_
 refine sd ?_
 refine sd ?_
 refine sd ?_
 rotate_left
 exact fin _ e.symm
def linkdE (m:Ms) (s:Sts) (l:Lk):Int:=firstOf [m.chkS s,linkE m.ns.length m.ls l,bif (m.ls.length:Int)==128 then 5 else 0]
def Ms.plus (m:Ms) (l:Lk):Ms:=⟨m.ns,m.ls++[l]⟩
theorem c68 (m:Ms) (s:Sts) (l:Lk) (hm:m.ns.length≤1048576) (hl2:m.ls.length≤1048576) (hn:s.es.length≤1048576):CallDet Tryz.prog 68 [.d m.d,.d s.d,.d (.agg [.int .i64 l.a,.int .i64 l.b,.int .i64 l.c])] [(bif linkdE m s l != 0 then Ms.zero else m.plus l).d,(bif linkdE m s l != 0 then Sts.zero else s).d,.int .i64 (linkdE m s l)]:=by
 have hsl:=strs_len m.ns
 have hll:=lks_len m.ls
 have hE:firstOf [m.chkS s,linkE (strs m.ns).length m.ls l,bif ((lks m.ls).length:Int)==128 then 5 else 0]=linkdE m s l:=by rw [hsl,hll]; rfl
 have bad:∀ v,linkdE m s l=v→¬ v=0→resV [.agg [.slice 1 [],.slice 3 []],.agg [.int .i64 0,.int .i64 0,.slice 3 []],.int .i64 v]=resV [(bif linkdE m s l != 0 then Ms.zero else m.plus l).d,(bif linkdE m s l != 0 then Sts.zero else s).d,.int .i64 (linkdE m s l)]:=fun v e h=>by
  rw [e,show (v != 0)=true by rw [bne_iff_ne]; exact h]; rfl
 have fin:linkdE m s l=0→resV [(⟨m.ns,m.ls++[l]⟩:Ms).d,s.d,.int .i64 0]=resV [(bif linkdE m s l != 0 then Ms.zero else m.plus l).d,(bif linkdE m s l != 0 then Sts.zero else s).d,.int .i64 (linkdE m s l)]:=fun h=>by rw [h]; rfl
 refine call_of_vc (x:=ir68) (by kernel_rfl) rfl ?_
 refine ca (c37 m s hm hl2 hn) ?_
 refine ca (c97 l _ m.ls hl2) ?_
 refine sd ?_
 refine ca (c89 _ _) ?_
 refine sd ?_
 refine sd ?_
 refine ca (c86 [Ms.chkS m s,linkE (↑(List.length (strs (Ms.ns m))):Int) (Ms.ls m) l,bif (↑(List.length (lks (Ms.ls m))):Int)==(128:Int) then (5:Int) else (0:Int)] (by simp)) ?_
 refine sd ?_
 refine b_ne (fun t1=>?_) (fun t1=>?_)
 rotate_left
 refine ca (c128 m l hm hl2) ?_
 refine ca (c99 s hn) ?_
 rotate_left
 ·exact bad _ hE.symm t1
 ·exact fin (hE.symm.trans t1)
def Sts.elec (s:Sts) (i:Int):Sts:=⟨i,s.nu+1,(s.es.set s.co.toNat ⟨s.nu,0,-1⟩).set i.toNat ⟨s.nu+1,0,i⟩⟩
def Ms.joined (m:Ms) (nm:List UInt8) (w c:Int):Ms:=⟨m.ns++[nm],m.ls++[⟨w,m.ns.length,c⟩]⟩
def Sts.joined (s:Sts):Sts:=⟨s.co,s.nu,s.es++[⟨0,0,-1⟩]⟩
end Vc
set_option maxRecDepth 10000
namespace Vc
open Go Go.Proofs
theorem scan_ok_of {α:Type} {f:List α→α→Int} {l:List α} (h:∀ (k:Nat) x,l[k]?=some x→f (l.take k) x=0):scanE f [] l=0 :=
 scan_all l [] (fun k x hx=>by rw [List.nil_append]; exact h k x hx)
theorem chk_of_fine {m:Ms} (h:m.fine):m.chk=0 :=
 chk_4 (by have:=h.n32; omega) (scan_ok_of h.names) (by have:=h.l128; omega) (scan_ok_of h.links)
theorem linkE_of {n:Int} {pre:List Lk} {l:Lk} (h1:outs n l=0) (h2:pre.any (fun o=>sameL o l)=false) (h3:1≤l.c∧l.c≤100):linkE n pre l=0:=by
 unfold linkE; rw [h1,h2]; exact within_in h3
theorem erase_take {α:Type} {l:List α} {j k:Nat} {x:α} (h:x∈(l.eraseIdx j).take k):x∈l.take (k+1):=by
 obtain ⟨q,hq,e⟩:=List.mem_iff_getElem.1 h
 rw [List.length_take] at hq
 rw [List.getElem_take] at e
 have hq1:q < k:=by omega
 rw [List.getElem_eraseIdx] at e
 split at e
 ·have hle:=List.length_eraseIdx_le l j
  exact List.mem_iff_getElem.2 ⟨q,by rw [List.length_take]; omega,by rw [List.getElem_take]; exact e⟩
 ·have hl : q + 1 < l.length := by
   have h2:(l.eraseIdx j).length=if j < l.length then l.length - 1 else l.length:=List.length_eraseIdx
   split at h2
   ·omega
   ·omega
  exact List.mem_iff_getElem.2 ⟨q+1,by rw [List.length_take]; omega,by rw [List.getElem_take]; exact e⟩
theorem brok_fine {m:Ms} (h:m.fine) (i:Int):(m.brok i).fine:=by
 have hle:(m.brok i).ls.length≤m.ls.length:=List.length_eraseIdx_le m.ls i.toNat
 refine ⟨h.n32,by have:=h.l128; omega,?_,h.names⟩
 intro k l hl
 have hl:(m.ls.eraseIdx i.toNat)[k]?=some l:=hl
 rw [List.getElem?_eraseIdx] at hl
 split at hl
 ·rename_i hk
  have h0:=h.links k l hl
  show linkE m.ns.length ((m.ls.eraseIdx i.toNat).take k) l=0
  have e:(m.ls.eraseIdx i.toNat).take k=m.ls.take k:=by
   apply List.ext_getElem?
   intro q
   by_cases hq:q < k
   ·rw [List.getElem?_take_of_lt hq,List.getElem?_take_of_lt hq,List.getElem?_eraseIdx,if_pos (by omega)]
   ·rw [List.getElem?_eq_none (by rw [List.length_take]; omega),List.getElem?_eq_none (by rw [List.length_take]; omega)]
  rw [e]; exact h0
 ·have h0:=linkE_zero (h.links (k+1) l hl)
  refine linkE_of h0.1 ?_ h0.2.2
  rw [List.any_eq_false]
  intro o ho
  have:=List.any_eq_false.1 h0.2.1 o (erase_take ho)
  exact this
theorem betw_erase:∀ {ls:List Lk} {j:Nat} {l:Lk} {u v:Int},ls[j]?=some l→hit l u v=false→betw (ls.eraseIdx j) u v=betw ls u v
 | x::r,0,l,u,v,h,hh=>by
  have:x=l:=by simpa using h
  subst this
  show betw r u v=betw (x::r) u v
  conv=>rhs; unfold betw
  rw [hh]; rfl
 | x::r,j+1,l,u,v,h,hh=>by
  have ih:=betw_erase (ls:=r) (j:=j) (u:=u) (v:=v) (by simpa using h) hh
  show betw (x::r.eraseIdx j) u v=betw (x::r) u v
  unfold betw
  rw [ih]
theorem set_at {s:Sts} {co nu j:Int} {x:En} {k:Int} (hj:0≤j) (hjl:j < (s.es.length:Int)) (hk:0≤k):(⟨co,nu,s.es.set j.toNat x⟩:Sts).at k=if k=j then x else s.at k:=by
 unfold Sts.at
 by_cases e:k=j
 ·subst e
  rw [if_pos rfl]
  show ((s.es.set k.toNat x)[k.toNat]?).getD _=x
  rw [List.getElem?_set_self (by omega)]; rfl
 ·rw [if_neg e]
  show ((s.es.set j.toNat x)[k.toNat]?).getD _=_
  rw [List.getElem?_set_ne (by omega)]
def Mono (m:Ms) (s t:Sts):Prop:=∀ k:Int,0≤k→k < (m.ns.length:Int)→(s.at k).nu < (t.at k).nu∨((t.at k).nu=(s.at k).nu∧(t.at k).di≤(s.at k).di)
theorem Mono.refl (m:Ms) (s:Sts):Mono m s s:=fun _ _ _=>.inr ⟨rfl,Int.le_refl _⟩
theorem begun_at {m:Ms} {i k:Int} (hi:0≤i) (hil:i < (m.ns.length:Int)) (hk:0≤k) (hkl:k < (m.ns.length:Int)):(m.begun i).at k=if k=i then ⟨1,0,i⟩ else ⟨0,0,-1⟩:=by
 have h:=set_at (s:=⟨i,1,List.replicate m.ns.length ⟨0,0,-1⟩⟩) (co:=i) (nu:=1) (x:=⟨1,0,i⟩) hi (by show i < ((List.replicate m.ns.length _).length:Int); rw [List.length_replicate]; exact hil) hk
 have e:(⟨i,1,List.replicate m.ns.length ⟨0,0,-1⟩⟩:Sts).at k=⟨0,0,-1⟩:=by
  unfold Sts.at
  show ((List.replicate m.ns.length (⟨0,0,-1⟩:En))[k.toNat]?).getD _=_
  rw [List.getElem?_replicate,if_pos (by omega)]; rfl
 rw [e] at h
 exact h
theorem Good.begun {m:Ms} (hc:m.chk=0) {i:Int} (h0:0≤i) (h1:i < (m.ns.length:Int)):Good m (m.begun i):=by
 refine ⟨hc,⟨h0,h1⟩,⟨by show (1:Int)≤1; omega,by show (1:Int)≤1000000; omega⟩,by unfold Ms.begun; show (List.set _ _ _).length=_; rw [List.length_set,List.length_replicate],?_,?_,?_,?_,?_⟩
 ·intro k hk hkl
  rw [begun_at h0 h1 hk hkl]
  show (0≤_∧_≤(1:Int))∧_
  split <;> refine ⟨⟨?_,?_⟩,⟨?_,?_⟩,?_,?_⟩ <;> simp only <;> omega
 ·show (m.begun i).at i=⟨1,0,i⟩
  rw [begun_at h0 h1 h0 h1,if_pos rfl]
 ·intro k hk hkl hki hz
  have hki:k≠i:=hki
  rw [begun_at h0 h1 hk hkl,if_neg hki]
 ·intro k hk hkl hki hz
  have hki:k≠i:=hki
  rw [begun_at h0 h1 hk hkl,if_neg hki] at hz
  exact absurd rfl hz
 ·intro k hk hkl hki hz
  have hki:k≠i:=hki
  rw [begun_at h0 h1 hk hkl,if_neg hki] at hz
  exact absurd rfl hz
theorem beac_at {m:Ms} {s:Sts} (g:Good m s) {k:Int} (hk:0≤k):s.beac.at k=if k=s.co then ⟨s.nu+1,0,s.co⟩ else s.at k:=by
 have hco:=g.co
 have hle:=g.len
 have h:=set_at (s:=s) (co:=s.co) (nu:=s.nu+1) (x:=⟨s.nu+1,(s.at s.co).di,(s.at s.co).ne⟩) hco.1 (by omega) hk
 rw [show (⟨s.nu+1,(s.at s.co).di,(s.at s.co).ne⟩:En)=⟨s.nu+1,0,s.co⟩ by rw [g.coE]] at h
 have e:s.beac=⟨s.co,s.nu+1,s.es.set s.co.toNat ⟨s.nu+1,0,s.co⟩⟩:=by unfold Sts.beac; rw [g.coE]
 rw [e]; exact h
theorem Good.beac {m:Ms} {s:Sts} (g:Good m s) (hn:s.nu < 1000000):Good m s.beac∧Mono m s s.beac:=by
 have hnu:=g.nu
 have hat:∀ k:Int,0≤k→s.beac.at k=if k=s.co then ⟨s.nu+1,0,s.co⟩ else s.at k:=fun k hk=>beac_at g hk
 refine ⟨⟨g.chk,g.co,⟨by show 1≤s.nu+1; omega,by show s.nu+1≤1000000; omega⟩,by unfold Sts.beac; show (List.set _ _ _).length=_; rw [List.length_set]; exact g.len,?_,?_,?_,?_,?_⟩,?_⟩
 ·intro k h0 h1
  have r:=g.rng k h0 h1
  have hco:=g.co
  rw [hat k h0]
  show (0≤_∧_≤s.nu+1)∧_
  split
  ·refine ⟨⟨?_,?_⟩,⟨?_,?_⟩,?_,?_⟩ <;> simp only <;> omega
  ·exact ⟨⟨r.1.1,by omega⟩,r.2⟩
 ·show s.beac.at s.co=⟨s.nu+1,0,s.co⟩
  rw [hat s.co g.co.1,if_pos rfl]
 ·intro k h0 h1 hk hz
  have hk:k≠s.co:=hk
  rw [hat k h0,if_neg hk] at hz ⊢
  exact g.bare k h0 h1 hk hz
 ·intro k h0 h1 hk hz
  have hk:k≠s.co:=hk
  rw [hat k h0,if_neg hk] at hz ⊢
  exact g.lnk k h0 h1 hk hz
 ·intro k h0 h1 hk hz
  have hk:k≠s.co:=hk
  have r:=g.rng k h0 h1
  rw [hat k h0,if_neg hk] at hz ⊢
  have l:=g.lead k h0 h1 hk hz
  rw [hat (s.at k).ne (by omega)]
  split
  ·left; show (s.at k).nu < s.nu+1; omega
  ·exact l
 ·intro k h0 h1
  have r:=g.rng k h0 h1
  rw [hat k h0]
  split
  ·left; show (s.at k).nu < s.nu+1; omega
  ·exact .inr ⟨rfl,Int.le_refl _⟩
theorem elec_at {m:Ms} {s:Sts} (g:Good m s) {i k:Int} (hi:0≤i) (hil:i < (m.ns.length:Int)) (hk:0≤k):(s.elec i).at k=if k=i then ⟨s.nu+1,0,i⟩ else if k=s.co then ⟨s.nu,0,-1⟩ else s.at k:=by
 have hco:=g.co
 have hle:=g.len
 have h1:=set_at (s:=s) (co:=s.co) (nu:=s.nu) (x:=⟨s.nu,0,-1⟩) (k:=k) hco.1 (by omega) hk
 have h2:=set_at (s:=⟨s.co,s.nu,s.es.set s.co.toNat ⟨s.nu,0,-1⟩⟩) (co:=i) (nu:=s.nu+1) (x:=⟨s.nu+1,0,i⟩) (k:=k) hi (by show i < ((s.es.set _ _).length:Int); rw [List.length_set]; omega) hk
 rw [h1] at h2
 exact h2
theorem Good.elec {m:Ms} {s:Sts} (g:Good m s) {i:Int} (hi:0≤i) (hil:i < (m.ns.length:Int)) (hne:i≠s.co) (hn:s.nu < 1000000):Good m (s.elec i)∧Mono m s (s.elec i):=by
 have hnu:=g.nu
 have hco:=g.co
 have hat:∀ k:Int,0≤k→(s.elec i).at k=if k=i then ⟨s.nu+1,0,i⟩ else if k=s.co then ⟨s.nu,0,-1⟩ else s.at k:=fun k hk=>elec_at g hi hil hk
 refine ⟨⟨g.chk,⟨hi,hil⟩,⟨by show 1≤s.nu+1; omega,by show s.nu+1≤1000000; omega⟩,by unfold Sts.elec; show (List.set _ _ _).length=_; rw [List.length_set,List.length_set]; exact g.len,?_,?_,?_,?_,?_⟩,?_⟩
 ·intro k h0 h1
  have r:=g.rng k h0 h1
  rw [hat k h0]
  show (0≤_∧_≤s.nu+1)∧_
  split
  ·refine ⟨⟨?_,?_⟩,⟨?_,?_⟩,?_,?_⟩ <;> simp only <;> omega
  ·split
   ·refine ⟨⟨?_,?_⟩,⟨?_,?_⟩,?_,?_⟩ <;> simp only <;> omega
   ·exact ⟨⟨r.1.1,by omega⟩,r.2⟩
 ·show (s.elec i).at i=⟨s.nu+1,0,i⟩
  rw [hat i hi,if_pos rfl]
 ·intro k h0 h1 hk hz
  have hk:k≠i:=hk
  rw [hat k h0,if_neg hk] at hz ⊢
  split at hz
  ·have hz:s.nu=0:=hz
   omega
  ·rename_i hc
   rw [if_neg hc]
   exact g.bare k h0 h1 hc hz
 ·intro k h0 h1 hk hz
  have hk:k≠i:=hk
  rw [hat k h0,if_neg hk] at hz ⊢
  split at hz
  ·exact absurd rfl hz
  ·rename_i hc
   rw [if_neg hc]
   exact g.lnk k h0 h1 hc hz
 ·intro k h0 h1 hk hz
  have hk:k≠i:=hk
  have r:=g.rng k h0 h1
  rw [hat k h0,if_neg hk] at hz ⊢
  split at hz
  ·exact absurd rfl hz
  ·rename_i hc
   rw [if_neg hc]
   have l:=g.lead k h0 h1 hc hz
   rw [hat (s.at k).ne (by omega)]
   split
   ·left; show (s.at k).nu < s.nu+1; omega
   ·split
    ·rename_i he
     rw [he,g.coE] at l
     rw [he]
     exact l
    ·exact l
 ·intro k h0 h1
  have r:=g.rng k h0 h1
  rw [hat k h0]
  split
  ·left; show (s.at k).nu < s.nu+1; omega
  ·split
   ·rename_i he
    rw [he,g.coE]
    exact .inr ⟨rfl,Int.le_refl _⟩
   ·exact .inr ⟨rfl,Int.le_refl _⟩
theorem cut1_at {s:Sts} {i o k:Int} (hi:0≤i) (hil:i < (s.es.length:Int)) (hk:0≤k):(⟨s.co,s.nu,cut1 s.es i o⟩:Sts).at k=if k=i∧(s.at i).ne=o then ⟨(s.at i).nu,(s.at i).di,-1⟩ else s.at k:=by
 have hx:=Sts.at_getI (s:=s) (i:=i) (by omega)
 by_cases h:(s.at i).ne=o
 ·rw [cut1_yes hx h,set_at hi hil hk]
  by_cases e:k=i
  ·rw [if_pos e,if_pos ⟨e,h⟩]
  ·rw [if_neg e,if_neg (fun x=>e x.1)]
 ·rw [cut1_no hx h,if_neg (fun x=>h x.2)]
theorem brok_at {m:Ms} {s:Sts} (g:Good m s) {i:Int} {l:Lk} (hl:m.ls[i.toNat]?=some l) {k:Int} (hk:0≤k):(s.brok m i).at k=if (k=l.a∧(s.at k).ne=l.b)∨(k=l.b∧(s.at k).ne=l.a) then ⟨(s.at k).nu,(s.at k).di,-1⟩ else s.at k:=by
 have hin:=(chk_fine g.chk).link (List.mem_of_getElem? hl)
 have hle:=g.len
 have e:s.brok m i=⟨s.co,s.nu,cut2 s.es l⟩:=by unfold Sts.brok; rw [hl]
 rw [e]
 unfold cut2
 have h2:=cut1_at (s:=⟨s.co,s.nu,cut1 s.es l.a l.b⟩) (i:=l.b) (o:=l.a) (k:=k) (by omega) (by show l.b < ((cut1 _ _ _).length:Int); rw [cut1_len]; omega) hk
 have h1k:=cut1_at (s:=s) (i:=l.a) (o:=l.b) (k:=k) (by omega) (by omega) hk
 have h1b:=cut1_at (s:=s) (i:=l.a) (o:=l.b) (k:=l.b) (by omega) (by omega) (by omega)
 rw [if_neg (show ¬ (l.b=l.a∧(s.at l.a).ne=l.b) by omega)] at h1b
 rw [h1b,h1k] at h2
 refine h2.trans ?_
 by_cases c1:k=l.b
 ·subst c1
  by_cases c2:(s.at l.b).ne=l.a
  ·rw [if_pos ⟨rfl,c2⟩,if_pos (.inr ⟨rfl,c2⟩)]
  ·rw [if_neg (fun x=>c2 x.2),if_neg (show ¬ (l.b=l.a∧(s.at l.a).ne=l.b) by omega),if_neg]
   rintro (⟨x,_⟩ | ⟨_,x⟩)
   ·omega
   ·exact c2 x
 ·rw [if_neg (fun x=>c1 x.1)]
  by_cases c3:k=l.a
  ·subst c3
   by_cases c4:(s.at l.a).ne=l.b
   ·rw [if_pos ⟨rfl,c4⟩,if_pos (.inl ⟨rfl,c4⟩)]
   ·rw [if_neg (fun x=>c4 x.2),if_neg]
    rintro (⟨_,x⟩ | ⟨x,_⟩)
    ·exact c4 x
    ·exact c1 x
  ·rw [if_neg (fun x=>c3 x.1),if_neg]
   rintro (⟨x,_⟩ | ⟨x,_⟩)
   ·exact c3 x
   ·exact c1 x
theorem brok_len2 (s:Sts) (m:Ms) (i:Int):(s.brok m i).es.length=s.es.length:=by
 unfold Sts.brok
 show (match m.ls[i.toNat]? with | some l=>cut2 s.es l | none=>s.es).length=_
 split
 ·unfold cut2; rw [cut1_len,cut1_len]
 ·rfl
theorem Good.brok {m:Ms} {s:Sts} (g:Good m s) {i:Int} (h0:0≤i) (h1:i < (m.ls.length:Int)):Good (m.brok i) (s.brok m i)∧Mono m s (s.brok m i):=by
 have hf:=chk_fine g.chk
 have hnu:=g.nu
 have hco:=g.co
 obtain ⟨l,hl⟩:=get_lt m.ls (k:=i.toNat) (by omega)
 have hin:=hf.link (List.mem_of_getElem? hl)
 have hat:∀ k:Int,0≤k→(s.brok m i).at k=if (k=l.a∧(s.at k).ne=l.b)∨(k=l.b∧(s.at k).ne=l.a) then ⟨(s.at k).nu,(s.at k).di,-1⟩ else s.at k:=fun k hk=>brok_at g hl hk
 have num:∀ k:Int,0≤k→((s.brok m i).at k).nu=(s.at k).nu∧((s.brok m i).at k).di=(s.at k).di:=fun k hk=>by
  rw [hat k hk]; split <;> exact ⟨rfl,rfl⟩
 have same:∀ k:Int,0≤k→k < (m.ns.length:Int)→((s.brok m i).at k).ne≠-1→(s.brok m i).at k=s.at k∧hit l k (s.at k).ne=false:=fun k hk hkl hn=>by
  rw [hat k hk] at hn ⊢
  split at hn
  ·exact absurd rfl hn
  ·rename_i hc
   rw [if_neg hc]
   refine ⟨rfl,?_⟩
   cases hh:hit l k (s.at k).ne
   ·rfl
   ·exfalso
    have h2:=hit_iff.1 hh
    apply hc
    omega
 have bets:∀ k:Int,0≤k→k < (m.ns.length:Int)→((s.brok m i).at k).ne≠-1→betw (m.brok i).ls k (s.at k).ne=betw m.ls k (s.at k).ne:=fun k hk hkl hn=>betw_erase hl (same k hk hkl hn).2
 refine ⟨⟨chk_of_fine (brok_fine hf i),g.co,g.nu,(brok_len2 s m i).trans g.len,?_,?_,?_,?_,?_⟩,?_⟩
 ·intro k hk hkl
  have r:=g.rng k hk hkl
  rw [hat k hk]
  show (0≤_∧_≤s.nu)∧_
  split
  ·refine ⟨r.1,r.2.1,?_,?_⟩
   ·show (-1:Int)≤-1; omega
   ·show (-1:Int) < (m.ns.length:Int); omega
  ·exact r
 ·show (s.brok m i).at s.co=⟨s.nu,0,s.co⟩
  rw [hat s.co hco.1,if_neg,g.coE]
  rw [g.coE]
  show ¬ ((s.co=l.a∧s.co=l.b)∨(s.co=l.b∧s.co=l.a))
  omega
 ·intro k hk hkl hc hz
  have hc:k≠s.co:=hc
  rw [(num k hk).1] at hz
  have hb:=g.bare k hk hkl hc hz
  rw [hat k hk,if_neg,hb]
  rw [hb]
  show ¬ ((k=l.a∧-1=l.b)∨(k=l.b∧-1=l.a))
  omega
 ·intro k hk hkl hc hz
  have hc:k≠s.co:=hc
  have hs:=same k hk hkl hz
  have hbe:=bets k hk hkl hz
  rw [hs.1] at hz ⊢
  rw [hbe]; exact g.lnk k hk hkl hc hz
 ·intro k hk hkl hc hz
  have hc:k≠s.co:=hc
  have r:=g.rng k hk hkl
  have hs:=same k hk hkl hz
  have hbe:=bets k hk hkl hz
  rw [hs.1] at hz ⊢
  rw [hbe,(num (s.at k).ne (by omega)).1,(num (s.at k).ne (by omega)).2]
  exact g.lead k hk hkl hc hz
 ·intro k hk hkl
  rw [(num k hk).1,(num k hk).2]
  exact .inr ⟨rfl,Int.le_refl _⟩
theorem Good.heard {m:Ms} {s:Sts} (g:Good m s) {a b:Int} (ha:0≤a∧a < (m.ns.length:Int)) (hb:0≤b∧b < (m.ns.length:Int)) (hbt:betw m.ls a b≠0):Good m (s.heard m a b)∧Mono m s (s.heard m a b):=by
 have hle:=g.len
 have hrng:=(chk_fine g.chk).rng a b
 have st:∀ k:Int,0≤k→k < (m.ns.length:Int)→(s.heard m a b).at k=s.at k∨(k≠s.co∧∃ u:Int,0≤u∧u < (m.ns.length:Int)∧(s.at u).ne≠-1∧0 < betw m.ls u k∧(s.at u).di+betw m.ls u k≤3200∧(s.heard m a b).at k=ofE m s u k∧((s.heard m a b).at k).bet (s.at k)):=fun k hk hkl=>by
  have e:(s.heard m a b).at k=if k=a then Vc.hr m s [] a (s.at a) b else s.at k:=set_at (s:=s) (co:=s.co) (nu:=s.nu) (x:=Vc.hr m s [] a (s.at a) b) ha.1 (by omega) hk
  rw [e]
  by_cases hka:k=a
  ·subst hka
   rw [if_pos rfl]
   rcases hr_ref m s [] k b (s.at k) with e2 | ⟨h1,h2,_,h4,e2⟩
   ·exact .inl e2
   ·right
    unfold ofB at h1
    simp only [Bool.and_eq_true,Bool.not_eq_true',beq_eq_false_iff_ne,decide_eq_true_eq] at h1
    refine ⟨h2,b,hb.1,hb.2,h1.1,by rw [betw_comm]; omega,h1.2,e2,?_⟩
    rw [e2]; exact betB_iff.1 h4
  ·rw [if_neg hka]; exact .inl rfl
 refine ⟨g.hears rfl rfl (heard_len m s a b) st,fun k hk hkl=>?_⟩
 rcases st k hk hkl with e | ⟨_,u,_,_,_,_,_,_,hb⟩
 ·rw [e]; exact .inr ⟨rfl,Int.le_refl _⟩
 ·unfold En.bet at hb; omega
end Vc
set_option maxRecDepth 10000
set_option maxHeartbeats 4000000
namespace Vc
open Go Go.Proofs
end Vc
set_option maxRecDepth 10000
set_option maxHeartbeats 4000000
namespace Vc
open Go Go.Proofs
def ir61:AFun:=⟨24,6,[.cell 2 2 true],
 (.seq
 (.reg [0,1] [⟨some 1,.cbx 0 2 (.tmp 0),none⟩,
 ⟨some 2,.alloc 1 [(.nils 1),(.nils 3)],none⟩])
 (.seq
 (.reg [2] [⟨some 6,.fad 0 (.tmp 1),none⟩,
 ⟨some 7,.ld false 1 (.tmp 6),none⟩,
 ⟨some 8,.build [(.nils 1),(.nils 3)] [(0,1,(.tmp 7))],none⟩,
 ⟨some 3,.alloc 2 [(.nils 1),(.nils 3)],none⟩,
 ⟨none,.st 2 (.tmp 3) (.tmp 8),none⟩])
 (.seq
 (.seq
 (.reg [] [⟨some 9,.fad 1 (.tmp 1),none⟩,
 ⟨some 10,.ld false 1 (.tmp 9),none⟩,
 ⟨some 11,.len (.tmp 10),none⟩,
 ⟨some 12,.mov (.cst (.d (.int .i64 0))),none⟩])
 (.post [2,3] [0,1,2,3,4,5]
 (.block 0
 (.keep [2,3,10,11,12] [0,1,2]
 (.loop
 (.post [2,3,10,11,12] [3,4,5]
 (.seq
 (.reg [] [⟨some 13,.cmp .lss (.tmp 12) (.tmp 11),none⟩])
 (.seq
 (.cond (.tmp 13)
 .skip
 (.exit 0))
 (.seq
 (.block 1
 (.seq
 (.reg [3] [⟨some 14,.ixa 3 (.tmp 10) (.tmp 12),none⟩,
 ⟨some 15,.ld true 3 (.tmp 14),none⟩,
 ⟨some 5,.alloc 3 [(.d (.int .i64 0)),(.d (.int .i64 0)),(.d (.int .i64 0))],none⟩,
 ⟨none,.st 3 (.tmp 5) (.tmp 15),none⟩])
 (.reg [4,5] [⟨some 16,.fad 1 (.tmp 3),none⟩,
 ⟨some 17,.ld false 1 (.tmp 16),none⟩,
 ⟨some 18,.ld true 3 (.tmp 5),none⟩,
 ⟨some 19,.bsl 4 114 3 1 [(.agg [(.int .i64 0),(.int .i64 0),(.int .i64 0)])] [(0,(.tmp 18))],none⟩,
 ⟨some 20,.app 5 114 3 24 (.tmp 17) (.tmp 19),none⟩,
 ⟨some 21,.fad 1 (.tmp 3),none⟩,
 ⟨none,.st 1 (.tmp 21) (.tmp 20),none⟩])))
 (.reg [] [⟨some 22,.arith .add .i64 (.tmp 12) (.cst (.d (.int .i64 1))),none⟩,
 ⟨some 12,.mov (.tmp 22),none⟩]))))))))))
 (.seq
 (.reg [] [⟨some 23,.ld true 2 (.tmp 3),none⟩,
 ⟨none,.st 2 (.tmp 2) (.tmp 23),none⟩])
 .ret))))⟩
def tolV (m:Ms):Nat→List (Nat × AObj)
 | 0=>[]
 | k+1=>[(2,.box [.d (.slice 1 (strs m.ns)),.sl 5 (lks (m.ls.take (k+1))).length]),(5,.row 114 3 (lks (m.ls.take (k+1))) false)]
theorem lks_snoc {l:List Lk} {k:Nat} {x:Lk} (h:l[k]?=some x):lks (l.take (k+1))=lks (l.take k)++[.agg [.int .i64 x.a,.int .i64 x.b,.int .i64 x.c]]:=by
 unfold lks; rw [take_one h,List.map_append]; rfl
theorem c61 (m:Ms) (hm:m.ns.length≤1048576) (hl2:m.ls.length≤1048576):CallDet Tryz.prog 61 [.d m.d] [m.d]:=by
 have hl:=lks_len m.ls
 refine call_of_vc (x:=ir61) (by kernel_rfl) rfl ?_
 rotate_left
 refine loop_u (fun k:Nat=>[(12,.d (.int .i64 k))]) (tolV m) (fun k=>k≤m.ls.length) (fun k=>m.ls.length - k) 0 rfl (Nat.zero_le _) ?_
 intro k hk
 have hk:k≤m.ls.length:=hk
 have fin:∀ X,X=lks m.ls→resV [.agg [.slice 1 (strs m.ns),.slice 3 X]]=resV [m.d]:=fun X h=>by rw [h]; rfl
 by_cases hkk:k < m.ls.length
 ·refine Exists.elim (get_lt m.ls hkk) fun x hx=>?_
  have hxd:(lks m.ls)[(k:Int).toNat]?=some (.agg [.int .i64 x.a,.int .i64 x.b,.int .i64 x.c]):=lks_at hx
  have e:=lks_snoc hx
  have ht:=lks_len (m.ls.take k)
  rw [List.length_take] at ht
  cases k with
  | zero =>
   refine sd ?_
   refine b_lt (fun t1=>?_) (fun t1=>?_)
   refine ix_at hxd ?_ ?_
   (show (0:Int)≤(↑(0:Nat):Int); omega)
   refine sd ?_
   refine sd ?_
   refine sd ?_
   refine an ?_ ?_
   refine an ?_ ?_
   (show (1:Nat) * (24:Nat)≤(2:Nat) ^ (47:Nat); omega)
   (show (1:Nat)≤(2:Nat) ^ (47:Nat); omega)
   refine sd ?_
   refine ar_add ?_ ?_
   refine an ?_ ?_
   (show (-9223372036854775808:Int)≤(↑(0:Nat):Int)+(1:Int); omega)
   (show (↑(0:Nat):Int)+(1:Int)≤(9223372036854775807:Int); omega)
   rotate_left
   (exfalso; omega)
   refine ⟨0+1,⟨by show 0+1≤m.ls.length; omega,by show m.ls.length - (0+1) < m.ls.length - 0; omega⟩,?_⟩
   show _=St.upd _ _ [(2,.box [.d (.slice 1 (strs m.ns)),.sl 5 (lks (m.ls.take (0+1))).length]),(5,.row 114 3 (lks (m.ls.take (0+1))) false)]
   rw [e]; rfl
  | succ k =>
   refine sd ?_
   refine b_lt (fun t1=>?_) (fun t1=>?_)
   refine ix_at hxd ?_ ?_
   (show (0:Int)≤(↑(k+(1:Nat)):Int); omega)
   refine sd ?_
   refine sd ?_
   refine sd ?_
   refine an ?_ ?_
   refine an ?_ ?_
   exact rfl
   refine an ?_ ?_
   exact rfl
   refine an ?_ ?_
   exact rfl
   refine an ?_ ?_
   (show (List.length (lks (List.take (k+(1:Nat)) (Ms.ls m)))+(1:Nat)) * (24:Nat)≤(2:Nat) ^ (47:Nat); omega)
   (show List.length (lks (List.take (k+(1:Nat)) (Ms.ls m)))+(1:Nat)≤(2:Nat) ^ (47:Nat); omega)
   refine sd ?_
   refine ar_add ?_ ?_
   refine an ?_ ?_
   (show (-9223372036854775808:Int)≤(↑(k+(1:Nat)):Int)+(1:Int); omega)
   (show (↑(k+(1:Nat)):Int)+(1:Int)≤(9223372036854775807:Int); omega)
   rotate_left
   (exfalso; omega)
   refine ⟨k+1+1,⟨by show k+1+1≤m.ls.length; omega,by show m.ls.length - (k+1+1) < m.ls.length - (k+1); omega⟩,?_⟩
   show _=St.upd _ _ [(2,.box [.d (.slice 1 (strs m.ns)),.sl 5 (lks (m.ls.take (k+1+1))).length]),(5,.row 114 3 (lks (m.ls.take (k+1+1))) false)]
   rw [e]; rfl
 ·have e:lks (m.ls.take k)=lks m.ls:=by rw [List.take_of_length_le (by omega)]
  cases k with
  | zero =>
   refine sd ?_
   refine b_lt (fun t1=>?_) (fun t1=>?_)
   (exfalso; omega)
   rotate_left
   exact fin _ e
  | succ k =>
   refine sd ?_
   refine b_lt (fun t1=>?_) (fun t1=>?_)
   (exfalso; omega)
   refine sd ?_
   rotate_left
   exact fin _ e
end Vc
set_option maxRecDepth 10000
set_option maxHeartbeats 4000000
namespace Vc
open Go Go.Proofs
def ir58:AFun:=⟨24,1,[.tmp 2],
 (.seq
 (.reg [0] [⟨some 1,.cbx 0 2 (.tmp 0),none⟩,
 ⟨some 2,.mov (.cst (.d (.bool false))),none⟩])
 (.seq
 (.reg [] [⟨some 3,.fad 0 (.tmp 1),none⟩,
 ⟨some 4,.ld false 1 (.tmp 3),none⟩,
 ⟨some 5,.len (.tmp 4),none⟩,
 ⟨some 6,.cmp .geq (.tmp 5) (.cst (.d (.int .i64 1))),none⟩,
 ⟨some 7,.mov (.tmp 6),none⟩,
 ⟨some 8,.fad 0 (.tmp 1),some (7,true)⟩,
 ⟨some 9,.ld false 1 (.tmp 8),some (7,true)⟩,
 ⟨some 10,.len (.tmp 9),some (7,true)⟩,
 ⟨some 11,.cmp .leq (.tmp 10) (.cst (.d (.int .i64 8))),some (7,true)⟩,
 ⟨some 12,.pick (.tmp 7) (.tmp 11) (.cst (.d (.bool false))),none⟩,
 ⟨some 13,.mov (.tmp 12),none⟩,
 ⟨some 14,.fad 1 (.tmp 1),some (13,true)⟩,
 ⟨some 15,.ld false 1 (.tmp 14),some (13,true)⟩,
 ⟨some 16,.len (.tmp 15),some (13,true)⟩,
 ⟨some 17,.cmp .leq (.tmp 16) (.cst (.d (.int .i64 18))),some (13,true)⟩,
 ⟨some 18,.pick (.tmp 13) (.tmp 17) (.cst (.d (.bool false))),none⟩,
 ⟨some 19,.mov (.tmp 18),none⟩,
 ⟨some 20,.ld true 2 (.tmp 1),some (19,true)⟩,
 ⟨some 21,.call 22 [(.tmp 20)],some (19,true)⟩,
 ⟨some 22,.cmp .eql (.tmp 21) (.cst (.d (.int .i64 0))),some (19,true)⟩,
 ⟨some 23,.pick (.tmp 19) (.tmp 22) (.cst (.d (.bool false))),none⟩,
 ⟨some 2,.mov (.tmp 23),none⟩])
 .ret))⟩
def fewB (m:Ms):Bool:=decide (1≤(m.ns.length:Int))&&(decide ((m.ns.length:Int)≤8)&&(decide ((m.ls.length:Int)≤18)&&(m.chk==0)))
theorem c58 (m:Ms) (hn:m.ns.length≤1048576) (hl:m.ls.length≤1048576):CallDet Tryz.prog 58 [.d m.d] [.bool (fewB m)]:=by
 have hsl:=strs_len m.ns
 have hll:=lks_len m.ls
 have fin:∀ b,fewB m=b→resV [.bool b]=resV [.bool (fewB m)]:=fun b h=>by rw [h]
 refine call_of_vc (x:=ir58) (by kernel_rfl) rfl ?_
 refine sd ?_
 refine b_le (fun t1=>?_) (fun t1=>?_)
 refine sd ?_
 refine b_le (fun t2=>?_) (fun t2=>?_)
 refine sd ?_
 refine b_le (fun t3=>?_) (fun t3=>?_)
 refine ca (c22 m hn hl) ?_
 refine sd ?_
 rotate_left
 refine sd ?_
 rotate_left
 refine sd ?_
 refine sd ?_
 rotate_left
 refine sd ?_
 refine sd ?_
 refine sd ?_
 rotate_left
 ·exact fin _ (by unfold fewB; rw [← hsl,← hll,decide_eq_true t1,decide_eq_true t2,decide_eq_true t3]; rfl)
 ·exact fin _ (by unfold fewB; rw [← hsl,← hll,decide_eq_true t1,decide_eq_true t2,decide_eq_false t3]; rfl)
 ·exact fin _ (by unfold fewB; rw [← hsl,← hll,decide_eq_true t1,decide_eq_false t2]; rfl)
 ·exact fin _ (by unfold fewB; rw [← hsl,← hll,decide_eq_false t1]; rfl)
end Vc
set_option maxRecDepth 10000
set_option maxHeartbeats 4000000
namespace Vc
open Go Go.Proofs
end Vc
set_option maxRecDepth 10000
set_option maxHeartbeats 4000000
namespace Vc
open Go Go.Proofs
def u8p (p:Int × Int):Data:=.agg [.int .u8 p.1,.int .u8 p.2]
def u8ps (l:List (Int × Int)):List Data:=l.map u8p
theorem u8ps_len (l:List (Int × Int)):(u8ps l).length=l.length:=by unfold u8ps; exact List.length_map _
theorem u8ps_at {l:List (Int × Int)} {k:Nat} {p:Int × Int} (h:l[k]?=some p):(u8ps l)[((k:Int)).toNat]?=some (.agg [.int .u8 p.1,.int .u8 p.2]):=by
 show (u8ps l)[k]?=_
 unfold u8ps; rw [List.getElem?_map,h]; rfl
def redp (n:Int) (p:Int × Int):Int × Int:=(IntKind.i64.wrap p.1 % n,IntKind.i64.wrap p.2 % n)
theorem first_all:∀ (l:List Int),(∀ x∈l,x=0)→firstOf l=0
 | [],_=>rfl
 | x::r,h=>by rw [first_0 (h x (.head _))]; exact first_all r (fun y hy=>h y (.tail _ hy))
theorem pair_red {m:Ms} {n:Int} (hn:0 < n) (h:n=(m.ns.length:Int)) (q:Int × Int):pairE m (redp n q)=0:=by
 have a0:=Int.emod_nonneg (IntKind.i64.wrap q.1) (b:=n) (by omega)
 have a1:=Int.emod_lt_of_pos (IntKind.i64.wrap q.1) hn
 have b0:=Int.emod_nonneg (IntKind.i64.wrap q.2) (b:=n) (by omega)
 have b1:=Int.emod_lt_of_pos (IntKind.i64.wrap q.2) hn
 unfold pairE redp
 refine first_all _ (fun x hx=>?_)
 have hz:∀ i:Int,0≤i→i < n→m.nodeE i=0:=fun i h0 h1=>by
  unfold Ms.nodeE outN
  rw [decide_eq_false (by omega),decide_eq_false (by omega)]; rfl
 cases hx with
 | head=>exact hz _ a0 a1
 | tail _ hx=>cases hx with
  | head=>exact hz _ b0 b1
  | tail _ hx=>cases hx
end Vc
namespace Vc
open Go Go.Proofs
theorem u8_fit {r:List CT} {ds:List Data} (h:Fits' (.int .u8::r) ds):∃ (n:Int) (t:List Data),ds=.int .u8 n::t∧(0≤n∧n≤255)∧Fits' r t:=by
 obtain ⟨n,t,rfl,hn,ht⟩:=int_fit h
 refine ⟨n,t,rfl,?_,ht⟩
 simp [Lit.wf] at hn
 have h1:IntKind.u8.min=0:=rfl
 have h2:IntKind.u8.max=255:=rfl
 omega
theorem u8ps_fit:∀ {es:List Data},(∀ e∈es,∃ ds,e=.agg ds∧Fits' [.int .u8,.int .u8] ds)→∃ l:List (Int × Int),es=u8ps l∧∀ p∈l,(0≤p.1∧p.1≤255)∧(0≤p.2∧p.2≤255)
 | [],_=>⟨[],rfl,fun _ h=>by cases h⟩
 | e::r,h=>by
  obtain ⟨ds,rfl,hd⟩:=h e List.mem_cons_self
  obtain ⟨a,t1,rfl,ha,h1⟩:=u8_fit hd
  obtain ⟨b,t2,rfl,hb,h2⟩:=u8_fit h1
  obtain rfl:=fits_nil h2
  obtain ⟨l,rfl,hl⟩:=u8ps_fit (es:=r) fun x hx=>h x (List.mem_cons_of_mem _ hx)
  exact ⟨(a,b)::l,rfl,fun p hp=>by
   rcases List.mem_cons.1 hp with rfl | hp
   ·exact ⟨ha,hb⟩
   ·exact hl p hp⟩
theorem u8pl_fit {r:List CT} {ds:List Data} (h:Fits' (.sl true [.int .u8,.int .u8]::r) ds):∃ (l:List (Int × Int)) (t:List Data),ds=.slice 2 (u8ps l)::t∧(∀ p∈l,(0≤p.1∧p.1≤255)∧(0≤p.2∧p.2≤255))∧Fits' r t:=by
 simp only [Fits'] at h
 obtain ⟨d,t,rfl,hd,ht⟩:=h
 simp only [Fit] at hd
 obtain ⟨es,rfl,he⟩:=hd
 obtain ⟨l,rfl,hl⟩:=u8ps_fit (es:=es) fun e h=>by
  obtain ⟨ds,h1,h2⟩:=he e h
  exact ⟨ds,h1,by simpa only [Fits'] using h2⟩
 exact ⟨l,t,rfl,hl,ht⟩
theorem wgts_u8ps:∀ (l:List (Int × Int)),l.length≤wgts (u8ps l)
 | []=>Nat.zero_le _
 | x::r=>by
  have h:=wgts_u8ps r
  have e:wgts (u8ps (x::r))=(1+(1+0))+wgts (u8ps r):=rfl
  rw [e]; simp only [List.length_cons]; omega
end Vc
set_option maxRecDepth 10000
namespace Vc
open Go Go.Proofs
section
variable {n : Nat} {g : Nat → Nat → Bool} {f : Nat}
theorem lvl_back:∀ (k i j:Nat),lvl n g f k i=((j+1:Nat):Int)→∃ a,a < n∧lvl n g f k a=(j:Int)∧g a i=true
 | 0,i,j,h=>by
  unfold lvl at h
  split at h <;> omega
 | k+1,i,j,h=>by
  by_cases h1:lvl n g f k i < 0∧hitR n g f k i
  ·rw [lvl_hit h1.1 h1.2] at h
   obtain ⟨a,ha,e,hg⟩:=h1.2
   have e2:k=j:=by omega
   subst e2
   exact ⟨a,ha,by rw [lvl_keep (by omega)]; exact e,hg⟩
  ·rw [lvl_miss h1] at h
   obtain ⟨a,ha,e,hg⟩:=lvl_back k i j h
   exact ⟨a,ha,by rw [lvl_keep (by omega)]; exact e,hg⟩
theorem lvl_fwd:∀ (k a i:Nat),a < n→0≤lvl n g f k a→lvl n g f k a < k→g a i=true→0≤lvl n g f k i∧lvl n g f k i≤lvl n g f k a+1
 | 0,a,i,_,h0,h1,_=>by omega
 | k+1,a,i,ha,h0,h1,hg=>by
  have ea:lvl n g f (k+1) a=lvl n g f k a:=by
   by_cases h:lvl n g f k a < 0∧hitR n g f k a
   ·rw [lvl_hit h.1 h.2] at h1; omega
   ·exact lvl_miss h
  rw [ea] at h0 h1 ⊢
  by_cases hj:lvl n g f k a < k
  ·have ih:=lvl_fwd k a i ha h0 hj hg
   rw [lvl_keep ih.1]; exact ih
  ·have hr:=lvl_rng (n:=n) (g:=g) (f:=f) k i
   have hk:lvl n g f k a=k:=by omega
   by_cases h:lvl n g f k i < 0
   ·rw [lvl_hit h ⟨a,ha,hk,hg⟩]; omega
   ·rw [lvl_keep (by omega)]; omega
theorem lvl_end {a i:Nat} (hf:f < n) (ha:a < n) (h0:0≤lvl n g f n a) (hg:g a i=true):0≤lvl n g f n i∧lvl n g f n i≤lvl n g f n a+1:=by
 have h1:=lvl_rng (n:=n) (g:=g) (f:=f) n a
 have h2:=lvl_top (g:=g) hf a ha
 exact lvl_fwd n a i ha h0 (by omega) hg
theorem lvl_from:∀ k:Nat,lvl n g f k f=0
 | 0=>by unfold lvl; rw [if_pos rfl]
 | k+1=>by
  have ih:=lvl_from k
  rw [lvl_keep (by omega)]; exact ih
theorem lvl_null:∀ (k i:Nat),lvl n g f k i=0→i=f
 | 0,i,h=>by
  unfold lvl at h
  split at h
  ·assumption
  ·omega
 | k+1,i,h=>by
  by_cases h1:lvl n g f k i < 0∧hitR n g f k i
  ·rw [lvl_hit h1.1 h1.2] at h; omega
  ·rw [lvl_miss h1] at h; exact lvl_null k i h
end
theorem lvl_mono {n f:Nat} {g h:Nat→Nat→Bool} (hf:f < n) (e:∀ a i,g a i=true→h a i=true):∀ (j i:Nat),lvl n g f n i=(j:Int)→0≤lvl n h f n i∧lvl n h f n i≤j
 | 0,i,he=>by
  have e0:=lvl_null n i he
  subst e0
  rw [lvl_from]; omega
 | j+1,i,he=>by
  obtain ⟨a,ha,ea,hg⟩:=lvl_back n i j he
  have ih:=lvl_mono hf e j a ea
  have:=lvl_end hf ha ih.1 (e a i hg)
  omega
theorem calm_of_tot {n f:Nat} {ls:List Lk} (hn:n≤32) (hf:f < n) (hl:∀ l∈ls,l.okIn n):∀ (t m:Nat),(tot (passes ls m (start n f))).toNat≤t→∃ k,moved ls (passes ls k (start n f))=false
 | t,m,h=>by
  cases hm:moved ls (passes ls m (start n f))
  ·exact ⟨m,hm⟩
  ·have h1:=pass_fall hn hf hl m hm
   have h2:=tot_nn (passes ls (m+1) (start n f))
   cases t with
   | zero=>omega
   | succ t=>exact calm_of_tot hn hf hl t (m+1) (by omega)
theorem dist_calm {n f:Nat} {ls:List Lk} (hn:n≤32) (hf:f < n) (hl:∀ l∈ls,l.okIn n):calm ls (passes ls (n - 1) (start n f)):=by
 obtain ⟨k,hk⟩:=calm_of_tot hn hf hl _ 0 (Nat.le_refl _)
 rw [← dist_stop hn hf hl hk]; exact moved_calm hk
theorem Ms.fine.distOk {m:Ms} (h:m.fine) {f:Int} (h0:0≤f) (h1:f < (m.ns.length:Int)):DOk m.ns.length f.toNat (m.dist f):=passes_ok h.n32 (by omega) h.okIn _
theorem Ms.fine.distCalm {m:Ms} (h:m.fine) {f:Int} (h0:0≤f) (h1:f < (m.ns.length:Int)):calm m.ls (m.dist f):=dist_calm h.n32 (by omega) h.okIn
theorem Ms.fine.distTight {m:Ms} (h:m.fine) {f:Int} (h0:0≤f) (h1:f < (m.ns.length:Int)):tight m.ls f.toNat (m.dist f):=passes_tight h.n32 (by omega) h.okIn _
theorem dir_calm {ls:List Lk} {d:List Int} (h:calm ls d) {x y:Nat} {c:Int} (hd:dir ls x y c):bett d x y c=false:=by
 obtain ⟨l,hl,rfl,⟨rfl,rfl⟩ | ⟨rfl,rfl⟩⟩:=hd
 ·exact (h l hl).1
 ·exact (h l hl).2
theorem dir_step {ls:List Lk} {d:List Int} (h:calm ls d) {x y:Nat} {c:Int} (hd:dir ls x y c) (h0:0≤at0 d x):0≤at0 d y∧at0 d y≤at0 d x+c:=by
 have h1:=dir_calm h hd
 rcases Int.lt_or_le (at0 d y) 0 with hy | hy
 ·rw [bett_iff.2 ⟨h0,.inl hy⟩] at h1; cases h1
 ·refine ⟨hy,Int.not_lt.1 fun hlt=>?_⟩
  rw [bett_iff.2 ⟨h0,.inr hlt⟩] at h1; cases h1
theorem lvl_dist {m:Ms} (h:m.fine) {f:Int} (h0:0≤f) (h1:f < (m.ns.length:Int)):∀ (j i:Nat),lvl m.ns.length (gL m []) f.toNat m.ns.length i=(j:Int)→0≤at0 (m.dist f) i
 | 0,i,he=>by
  have e:=lvl_null _ i he
  rw [e,(h.distOk h0 h1).zero]; exact Int.le_refl _
 | j+1,i,he=>by
  obtain ⟨a,ha,ea,hg⟩:=lvl_back _ i j he
  have ih:=lvl_dist h h0 h1 j a ea
  unfold gL at hg
  simp only [Bool.and_eq_true,decide_eq_true_eq] at hg
  exact (dir_step (h.distCalm h0 h1) (h.betw_dir.2 ⟨rfl,hg.1⟩) ih).1
theorem dist_lvl {m:Ms} (h:m.fine) {f:Int} (h0:0≤f) (h1:f < (m.ns.length:Int)):∀ (t i:Nat),0≤at0 (m.dist f) i→at0 (m.dist f) i≤t→0≤lvl m.ns.length (gL m []) f.toNat m.ns.length i
 | t,i,hi,ht=>by
  by_cases e:i=f.toNat
  ·subst e; rw [lvl_from]; exact Int.le_refl _
  ·obtain ⟨x,c,hd,hx0,hx⟩:=h.distTight h0 h1 i e hi
   have hb:=h.betw_dir.1 hd
   have hxn:x < m.ns.length:=by
    rcases Nat.lt_or_ge x m.ns.length with hlt | hge
    ·exact hlt
    ·have : at0 (m.dist f) x = -1 := by
      unfold at0; rw [List.getElem?_eq_none (by rw [(h.distOk h0 h1).len]; exact hge)]; rfl
     omega
   have hc:1≤c:=by
    obtain ⟨l,hl,rfl,_⟩:=hd
    exact (h.okIn l hl).2.2.1
   cases t with
   | zero=>omega
   | succ t =>
    have ih:=dist_lvl h h0 h1 t x hx0 (by omega)
    refine (lvl_end (by omega) hxn ih ?_).1
    unfold gL
    rw [decide_eq_true (by rw [← hb.1]; exact hb.2)]; rfl
theorem flood_at {m:Ms} {f:Int} {lost:List (Int × Int)} {i:Nat} (hi:i < m.ns.length):at0 (m.floods lost f) i=lvl m.ns.length (gL m lost) f.toNat m.ns.length i:=lvls_at hi
theorem flood_dist {m:Ms} (h:m.fine) {f:Int} (h0:0≤f) (h1:f < (m.ns.length:Int)) {i:Nat} (hi:i < m.ns.length):0≤at0 (m.floods [] f) i↔0≤at0 (m.dist f) i:=by
 rw [flood_at hi]
 refine ⟨fun h2=>lvl_dist h h0 h1 (lvl m.ns.length (gL m []) f.toNat m.ns.length i).toNat i (by omega),fun h2=>dist_lvl h h0 h1 (at0 (m.dist f) i).toNat i h2 (by omega)⟩
theorem flood_from {m:Ms} {f:Int} (h0:0≤f) (h1:f < (m.ns.length:Int)) (lost:List (Int × Int)):at0 (m.floods lost f) f.toNat=0:=by
 rw [flood_at (by omega)]; exact lvl_from _
theorem flood_late {m:Ms} {f:Int} (h0:0≤f) (h1:f < (m.ns.length:Int)) (lost:List (Int × Int)) {i:Nat} (hi:i < m.ns.length) (h:0≤at0 (m.floods lost f) i):0≤at0 (m.floods [] f) i∧at0 (m.floods [] f) i≤at0 (m.floods lost f) i:=by
 rw [flood_at hi] at h
 rw [flood_at hi,flood_at hi]
 have:=lvl_mono (n:=m.ns.length) (f:=f.toNat) (g:=gL m lost) (h:=gL m []) (by omega) (fun a i hg=>by
  unfold gL at hg ⊢
  simp only [Bool.and_eq_true] at hg
  rw [hg.1]; rfl) (lvl m.ns.length (gL m lost) f.toNat m.ns.length i).toNat i (by omega)
 omega
theorem flood_rng {m:Ms} {f:Int} {lost:List (Int × Int)} (i:Nat):-1≤at0 (m.floods lost f) i∧at0 (m.floods lost f) i≤m.ns.length:=by
 unfold Ms.floods lvls
 rw [at0_range]
 split
 ·exact lvl_rng _ _
 ·omega
def minF (L:List Int) (a x:Int):Int:=bif decide (0≤at0 L x.toNat)&&(decide (a < 0)||decide (at0 L x.toNat < a)) then at0 L x.toNat else a
theorem minF_rng {L:List Int} {a x N:Int} (ha:-1≤a∧a≤N) (hx:at0 L x.toNat≤N):-1≤minF L a x∧minF L a x≤N:=by
 unfold minF
 cases hc:(decide (0≤at0 L x.toNat)&&(decide (a < 0)||decide (at0 L x.toNat < a)))
 ·exact ha
 ·simp only [Bool.and_eq_true,decide_eq_true_eq] at hc
  exact ⟨by show -1≤at0 L x.toNat; omega,hx⟩
theorem minF_fold (L:List Int):∀ (P:List Int) (a:Int),-1≤a→-1≤P.foldl (minF L) a∧(∀ x∈P,0≤at0 L x.toNat→0≤P.foldl (minF L) a∧P.foldl (minF L) a≤at0 L x.toNat)∧(0≤a→0≤P.foldl (minF L) a∧P.foldl (minF L) a≤a)∧(P.foldl (minF L) a=a∨∃ x∈P,0≤at0 L x.toNat∧P.foldl (minF L) a=at0 L x.toNat)
 | [],a,ha=>⟨ha,(fun _ h=>by cases h),fun h=>⟨h,Int.le_refl _⟩,.inl rfl⟩
 | y::P,a,ha=>by
  have hy:-1≤minF L a y∧(0≤at0 L y.toNat→0≤minF L a y∧minF L a y≤at0 L y.toNat)∧(0≤a→0≤minF L a y∧minF L a y≤a)∧(minF L a y=a∨(0≤at0 L y.toNat∧minF L a y=at0 L y.toNat)):=by
   by_cases hc:0≤at0 L y.toNat∧(a < 0∨at0 L y.toNat < a)
   ·have e : minF L a y = at0 L y.toNat := by
     unfold minF
     have hc':(decide (0≤at0 L y.toNat)&&(decide (a < 0)||decide (at0 L y.toNat < a)))=true:=by
      simp only [Bool.and_eq_true,Bool.or_eq_true,decide_eq_true_eq]; exact hc
     rw [hc']; rfl
    rw [e]
    refine ⟨by omega,fun h=>⟨h,Int.le_refl _⟩,fun h=>by omega,.inr ⟨hc.1,rfl⟩⟩
   ·have e : minF L a y = a := by
     unfold minF
     have hc':(decide (0≤at0 L y.toNat)&&(decide (a < 0)||decide (at0 L y.toNat < a)))=false:=by
      rw [Bool.eq_false_iff]
      simp only [ne_eq,Bool.and_eq_true,Bool.or_eq_true,decide_eq_true_eq]; exact hc
     rw [hc']; rfl
    rw [e]
    refine ⟨ha,fun h=>by omega,fun h=>⟨h,Int.le_refl _⟩,.inl rfl⟩
  obtain ⟨i1,i2,i3,i4⟩:=minF_fold L P (minF L a y) hy.1
  rw [List.foldl_cons]
  refine ⟨i1,fun x hx h=>?_,fun h=>?_,?_⟩
  ·rcases List.mem_cons.1 hx with rfl | hx
   ·have h1:=hy.2.1 h
    have h2:=i3 h1.1
    exact ⟨h2.1,Int.le_trans h2.2 h1.2⟩
   ·exact i2 x hx h
  ·have h1:=hy.2.2.1 h
   have h2:=i3 h1.1
   exact ⟨h2.1,Int.le_trans h2.2 h1.2⟩
  ·rcases i4 with h | ⟨x,hx,h1,h2⟩
   ·rcases hy.2.2.2 with h3 | ⟨h3,h4⟩
    ·exact .inl (h.trans h3)
    ·exact .inr ⟨y,List.mem_cons_self,h3,h.trans h4⟩
   ·exact .inr ⟨x,List.mem_cons_of_mem _ hx,h1,h2⟩
theorem flood_near {m : Ms} {f : Int} (h0 : 0 ≤ f) (h1 : f < (m.ns.length : Int)) {i : Nat} (hi : i < m.ns.length) (hif : (i : Int) ≠ f) (h : 0 ≤ at0 (m.floods [] f) i) :
  at0 (m.floods [] f) i=(m.nbs i).foldl (minF (m.floods [] f)) (-1)+1:=by
 have hne:at0 (m.floods [] f) i≠0:=fun e=>by
  rw [flood_at hi] at e
  have:=lvl_null _ _ e
  omega
 have e0:=flood_at (m:=m) (f:=f) (lost:=[]) hi
 generalize hv:at0 (m.floods [] f) i=v at h hne e0 ⊢
 obtain ⟨a,ha,ea,hg⟩:=lvl_back m.ns.length i (v.toNat - 1) (show lvl m.ns.length (gL m []) f.toNat m.ns.length i=_ by rw [← e0]; omega)
 have ea2:=flood_at (m:=m) (f:=f) (lost:=[]) ha
 rw [ea] at ea2
 have hg2:0 < betw m.ls a i:=by
  unfold gL at hg
  simp only [Bool.and_eq_true,decide_eq_true_eq] at hg
  exact hg.1
 have hmem:(a:Int)∈m.nbs i:=(nbs_iff m i a).2 ⟨by omega,by omega,by rw [betw_comm]; exact hg2⟩
 obtain ⟨_,i2,_,i4⟩:=minF_fold (m.floods [] f) (m.nbs i) (-1) (Int.le_refl _)
 have h2:=i2 a hmem (by show 0≤at0 (m.floods [] f) a; rw [ea2]; exact Int.natCast_nonneg _)
 have h2':(m.nbs i).foldl (minF (m.floods [] f)) (-1)≤at0 (m.floods [] f) a:=h2.2
 have h20:=h2.1
 clear h2 i2
 have hmz:(m.nbs i).foldl (minF (m.floods [] f)) (-1)=(m.nbs i).foldl (minF (m.floods [] f)) (-1):=rfl
 generalize (m.nbs i).foldl (minF (m.floods [] f)) (-1)=F at h2' h20 i4 ⊢
 clear hmz
 rcases i4 with e | ⟨x,hx,hx0,e⟩
 ·omega
 ·obtain ⟨q0,q1,q2⟩:=(nbs_iff m i x).1 hx
  have ex:=flood_at (m:=m) (f:=f) (lost:=[]) (i:=x.toNat) (by omega)
  have h3:=(lvl_end (g:=gL m []) (f:=f.toNat) (a:=x.toNat) (i:=i) (n:=m.ns.length) (by omega) (by omega) (by rw [← ex]; exact hx0) (by
   unfold gL
   rw [show ((x.toNat:Nat):Int)=x by omega,decide_eq_true (by rw [betw_comm]; exact q2)]; rfl)).2
  rw [← ex,← e0] at h3
  rw [e] at h2' ⊢
  omega
theorem known_floods (m:Ms) (lost:List (Int × Int)) (f:Int):known (m.floods lost f)=cnt m.ns.length (fun i=>decide (0≤at0 (m.floods lost f) i)):=by
 have e:m.floods lost f=(List.range m.ns.length).map (fun i=>at0 (m.floods lost f) i):=by
  refine list_ext0 (n:=m.ns.length) (floods_len _ _ _) (by rw [List.length_map,List.length_range]) fun i hi=>?_
  rw [at0_range,if_pos hi]
 conv=>lhs; rw [e]
 rw [known_range]
theorem known_fewer {m:Ms} {f:Int} (h0:0≤f) (h1:f < (m.ns.length:Int)) (lost:List (Int × Int)):known (m.floods lost f)≤known (m.floods [] f):=by
 rw [known_floods,known_floods]
 refine cnt_le fun i hi h=>?_
 exact decide_eq_true (flood_late h0 h1 lost hi (of_decide_eq_true h)).1
theorem reachN_cnt (d:List Int):∀ k,(reachN d k).length=cnt k (fun i=>decide (0≤at0 d i))
 | 0=>rfl
 | k+1=>by
  have ih:=reachN_cnt d k
  rw [reachN,List.length_append,ih,cnt]
  cases decide (0≤at0 d k) <;> rfl
theorem reachN_mem (d:List Int) (x:Int):∀ k,x∈reachN d k↔0≤x∧x < (k:Int)∧0≤at0 d x.toNat
 | 0=>⟨(fun h=>by cases h),(fun h=>by omega)⟩
 | k+1=>by
  have ih:=reachN_mem d x k
  rw [reachN,List.mem_append,ih]
  by_cases hd:0≤at0 d k
  ·rw [decide_eq_true hd]
   show _∨x∈[(k:Int)]↔_
   rw [List.mem_singleton]
   constructor
   ·rintro (h | rfl)
    ·omega
    ·exact ⟨by omega,by omega,by show 0≤at0 d k; exact hd⟩
   ·intro h
    by_cases hx:x=(k:Int)
    ·exact .inr hx
    ·exact .inl (by omega)
  ·rw [decide_eq_false hd]
   show _∨x∈[]↔_
   constructor
   ·rintro (h | h)
    ·omega
    ·cases h
   ·intro h
    refine .inl ⟨h.1,?_,h.2.2⟩
    have:x≠(k:Int):=fun e=>hd (by rw [e] at h; exact h.2.2)
    omega
theorem reach_mem {m:Ms} {f x:Int}:x∈m.reach f↔0≤x∧x < (m.ns.length:Int)∧0≤at0 (m.dist f) x.toNat:=by
 unfold Ms.reach
 rw [reachN_mem,dist_len]
theorem flood_reach {m:Ms} (h:m.fine) {f:Int} (h0:0≤f) (h1:f < (m.ns.length:Int)) {i:Nat} (hi:i < m.ns.length):(m.reach f).contains (i:Int)=decide (0≤at0 (m.floods [] f) i):=by
 rw [Bool.eq_iff_iff,decide_eq_true_eq,List.contains_iff_mem,reach_mem,flood_dist h h0 h1 hi]
 exact ⟨fun h=>h.2.2,fun h=>⟨by omega,by omega,h⟩⟩
theorem known_reach {m:Ms} (h:m.fine) {f:Int} (h0:0≤f) (h1:f < (m.ns.length:Int)):known (m.floods [] f)=(m.reach f).length:=by
 unfold Ms.reach
 rw [known_floods,reachN_cnt,dist_len]
 have a:=@cnt_le m.ns.length (fun i=>decide (0≤at0 (m.floods [] f) i)) (fun i=>decide (0≤at0 (m.dist f) i)) (fun i hi hx=>decide_eq_true ((flood_dist h h0 h1 hi).1 (of_decide_eq_true hx)))
 have b:=@cnt_le m.ns.length (fun i=>decide (0≤at0 (m.dist f) i)) (fun i=>decide (0≤at0 (m.floods [] f) i)) (fun i hi hx=>decide_eq_true ((flood_dist h h0 h1 hi).2 (of_decide_eq_true hx)))
 omega
theorem dist_more {m m2 : Ms} (h : m.fine) (h2 : m2.fine) (hn : m2.ns.length = m.ns.length) (hs : ∀ l ∈ m.ls, l ∈ m2.ls) {f : Int} (h0 : 0 ≤ f) (h1 : f < (m.ns.length : Int)) (i : Nat) (hi : 0 ≤ at0 (m.dist f) i) :
  0≤at0 (m2.dist f) i∧at0 (m2.dist f) i≤at0 (m.dist f) i:=by
 have hok:=h.distOk h0 h1
 have hok2:=h2.distOk (f:=f) h0 (by omega)
 have hc2:=h2.distCalm (f:=f) h0 (by omega)
 rw [hn] at hok2
 have hc:calm m.ls (m2.dist f):=fun l hl=>hc2 l (hs l hl)
 have hg:Ge (m2.dist f) (start m.ns.length f.toNat):=fun i=>by
  have:=passes_le h2.n32 (f:=f.toNat) (by omega) h2.okIn (m2.ns.length - 1) i
  rw [hn] at this
  unfold Ms.dist; rw [hn]; exact this
 have hp:=passes_ge h.n32 (f:=f.toNat) (by omega) h.okIn hok2 hc hg (m.ns.length - 1) i
 have e:passes m.ls (m.ns.length - 1) (start m.ns.length f.toNat)=m.dist f:=rfl
 rw [e] at hp
 have l1:=hok.low i
 have l2:=hok2.low i
 unfold lev at hp
 split at hp <;> split at hp <;> omega
end Vc
set_option maxRecDepth 10000
set_option maxHeartbeats 4000000
namespace Vc
open Go Go.Proofs
@[irreducible] def seg10n:ACode:=(.post [3,4,7,8,12,15,16,18,20,21,24,147,148] [0,1,2,3,4,5,6]
 (.block 4
 (.keep [3,4,7,8,12,15,16,18,20,21,24,147,148,201,202,203] [0,1,2,3,4,5,6]
 (.loop
 (.post [3,4,7,8,12,15,16,18,20,21,24,147,148,201,202,203] []
 (.seq
 (.reg [] [⟨some 204,.cmp .lss (.tmp 203) (.tmp 202),none⟩])
 (.seq
 (.cond (.tmp 204)
 .skip
 (.exit 4))
 (.seq
 (.block 5
 (.seq
 (.reg [] [⟨some 205,.ixa 1 (.tmp 201) (.tmp 203),none⟩,
 ⟨some 206,.ld false 1 (.tmp 205),none⟩,
 ⟨some 26,.mov (.tmp 206),none⟩])
 (.seq
 (.seq
 (.reg [] [⟨some 207,.mov (.tmp 26),none⟩,
 ⟨some 208,.cmp .lss (.tmp 207) (.cst (.d (.int .i64 0))),none⟩,
 ⟨some 209,.mov (.tmp 208),none⟩,
 ⟨some 210,.mov (.tmp 26),some (209,false)⟩,
 ⟨some 211,.mov (.tmp 7),some (209,false)⟩,
 ⟨some 212,.cmp .geq (.tmp 210) (.tmp 211),some (209,false)⟩,
 ⟨some 213,.pick (.tmp 209) (.cst (.d (.bool true))) (.tmp 212),none⟩])
 (.cond (.tmp 213)
 (.seq
 (.reg [] [⟨some 6,.mov (.cst (.d (.bool false))),none⟩])
 .ret)
 .skip))
 (.seq
 (.reg [] [⟨some 214,.mov (.tmp 12),none⟩,
 ⟨some 215,.mov (.tmp 26),none⟩,
 ⟨some 216,.ixa 1 (.tmp 214) (.tmp 215),none⟩,
 ⟨some 217,.ld false 1 (.tmp 216),none⟩,
 ⟨some 218,.cmp .geq (.tmp 217) (.cst (.d (.int .i64 0))),none⟩,
 ⟨some 219,.mov (.tmp 218),none⟩,
 ⟨some 220,.mov (.tmp 24),some (219,true)⟩,
 ⟨some 221,.cmp .lss (.tmp 220) (.cst (.d (.int .i64 0))),some (219,true)⟩,
 ⟨some 222,.mov (.tmp 221),some (219,true)⟩,
 ⟨some 223,.mov (.tmp 12),some (222,false)⟩,
 ⟨some 224,.mov (.tmp 26),some (222,false)⟩,
 ⟨some 225,.ixa 1 (.tmp 223) (.tmp 224),some (222,false)⟩,
 ⟨some 226,.ld false 1 (.tmp 225),some (222,false)⟩,
 ⟨some 227,.mov (.tmp 24),some (222,false)⟩,
 ⟨some 228,.cmp .lss (.tmp 226) (.tmp 227),some (222,false)⟩,
 ⟨some 229,.pick (.tmp 222) (.cst (.d (.bool true))) (.tmp 228),some (219,true)⟩,
 ⟨some 230,.pick (.tmp 219) (.tmp 229) (.cst (.d (.bool false))),none⟩])
 (.cond (.tmp 230)
 (.reg [] [⟨some 231,.mov (.tmp 12),none⟩,
 ⟨some 232,.mov (.tmp 26),none⟩,
 ⟨some 233,.ixa 1 (.tmp 231) (.tmp 232),none⟩,
 ⟨some 234,.ld false 1 (.tmp 233),none⟩,
 ⟨some 24,.mov (.tmp 234),none⟩])
 .skip)))))
 (.reg [] [⟨some 235,.arith .add .i64 (.tmp 203) (.cst (.d (.int .i64 1))),none⟩,
 ⟨some 203,.mov (.tmp 235),none⟩])))))))))
@[irreducible] def seg10e:ACode:=(.post [3,4,7,8,16,20] [0,1,2,3,4,5,6]
 (.block 2
 (.keep [3,4,7,8,12,15,16,18,20,147,148] [0,1,2,3,4,5,6]
 (.loop
 (.post [3,4,7,8,12,15,16,18,20,147,148] []
 (.seq
 (.reg [] [⟨some 149,.cmp .lss (.tmp 148) (.tmp 147),none⟩])
 (.seq
 (.cond (.tmp 149)
 .skip
 (.exit 2))
 (.seq
 (.block 3
 (.seq
 (.reg [] [⟨some 150,.mov (.tmp 148),none⟩,
 ⟨some 21,.mov (.tmp 150),none⟩])
 (.seq
 (.seq
 (.regd [] [⟨some 151,.mov (.tmp 12),none⟩,
 ⟨some 152,.mov (.tmp 21),none⟩,
 ⟨some 153,.ixa 1 (.tmp 151) (.tmp 152),none⟩,
 ⟨some 154,.ld false 1 (.tmp 153),none⟩,
 ⟨some 155,.cmp .geq (.tmp 154) (.cst (.d (.int .i64 0))),none⟩,
 ⟨some 156,.mov (.tmp 18),none⟩,
 ⟨some 157,.mov (.tmp 21),none⟩,
 ⟨some 158,.call 50 [(.tmp 156),(.tmp 157)],none⟩,
 ⟨some 159,.beq true (.tmp 155) (.tmp 158),none⟩,
 ⟨some 160,.mov (.tmp 159),none⟩,
 ⟨some 161,.mov (.tmp 15),some (160,false)⟩,
 ⟨some 162,.mov (.tmp 21),some (160,false)⟩,
 ⟨some 163,.ixa 1 (.tmp 161) (.tmp 162),some (160,false)⟩,
 ⟨some 164,.ld false 1 (.tmp 163),some (160,false)⟩,
 ⟨some 165,.cmp .geq (.tmp 164) (.cst (.d (.int .i64 0))),some (160,false)⟩,
 ⟨some 166,.mov (.tmp 165),some (160,false)⟩,
 ⟨some 167,.mov (.tmp 12),some (166,true)⟩,
 ⟨some 168,.mov (.tmp 21),some (166,true)⟩,
 ⟨some 169,.ixa 1 (.tmp 167) (.tmp 168),some (166,true)⟩,
 ⟨some 170,.ld false 1 (.tmp 169),some (166,true)⟩,
 ⟨some 171,.cmp .lss (.tmp 170) (.cst (.d (.int .i64 0))),some (166,true)⟩,
 ⟨some 172,.mov (.tmp 171),some (166,true)⟩,
 ⟨some 173,.mov (.tmp 15),some (172,false)⟩,
 ⟨some 174,.mov (.tmp 21),some (172,false)⟩,
 ⟨some 175,.ixa 1 (.tmp 173) (.tmp 174),some (172,false)⟩,
 ⟨some 176,.ld false 1 (.tmp 175),some (172,false)⟩,
 ⟨some 177,.mov (.tmp 12),some (172,false)⟩,
 ⟨some 178,.mov (.tmp 21),some (172,false)⟩,
 ⟨some 179,.ixa 1 (.tmp 177) (.tmp 178),some (172,false)⟩,
 ⟨some 180,.ld false 1 (.tmp 179),some (172,false)⟩,
 ⟨some 181,.cmp .lss (.tmp 176) (.tmp 180),some (172,false)⟩,
 ⟨some 182,.pick (.tmp 172) (.cst (.d (.bool true))) (.tmp 181),some (166,true)⟩,
 ⟨some 183,.pick (.tmp 166) (.tmp 182) (.cst (.d (.bool false))),some (160,false)⟩,
 ⟨some 184,.pick (.tmp 160) (.cst (.d (.bool true))) (.tmp 183),none⟩] [(0,1),(0,5),(1,5),(2,5),(3,5),(4,5),(0,6),(1,6),(2,6),(3,6),(4,6),(5,6),(0,7),(1,7),(2,7),(3,7),(4,7),(10,11),(16,17),(22,23),(22,26),(23,26),(24,26),(25,26),(22,27),(23,27),(24,27),(25,27),(26,27),(22,28),(23,28),(24,28),(25,28),(22,29),(23,29),(24,29),(25,29)])
 (.cond (.tmp 184)
 (.seq
 (.reg [] [⟨some 6,.mov (.cst (.d (.bool false))),none⟩])
 .ret)
 .skip))
 (.seq
 (.seq
 (.reg [] [⟨some 185,.mov (.tmp 15),none⟩,
 ⟨some 186,.mov (.tmp 21),none⟩,
 ⟨some 187,.ixa 1 (.tmp 185) (.tmp 186),none⟩,
 ⟨some 188,.ld false 1 (.tmp 187),none⟩,
 ⟨some 189,.cmp .geq (.tmp 188) (.cst (.d (.int .i64 0))),none⟩])
 (.cond (.tmp 189)
 (.reg [] [⟨some 190,.mov (.tmp 20),none⟩,
 ⟨some 191,.arith .add .i64 (.tmp 190) (.cst (.d (.int .i64 1))),none⟩,
 ⟨some 20,.mov (.tmp 191),none⟩])
 .skip))
 (.seq
 (.reg [] [⟨some 193,.ld true 2 (.tmp 3),none⟩,
 ⟨some 194,.call 18 [(.tmp 193)],none⟩,
 ⟨some 195,.mov (.tmp 21),none⟩,
 ⟨some 196,.call 17 [(.tmp 194),(.tmp 195)],none⟩,
 ⟨some 192,.mov (.tmp 196),none⟩,
 ⟨some 197,.ext 0 (.tmp 192),none⟩,
 ⟨some 198,.ext 1 (.tmp 192),none⟩,
 ⟨some 22,.mov (.tmp 197),none⟩,
 ⟨some 23,.mov (.tmp 198),none⟩])
 (.seq
 (.seq
 (.reg [] [⟨some 199,.mov (.tmp 23),none⟩,
 ⟨some 200,.cmp .neq (.tmp 199) (.cst (.d (.int .i64 0))),none⟩])
 (.cond (.tmp 200)
 (.seq
 (.reg [] [⟨some 6,.mov (.cst (.d (.bool false))),none⟩])
 .ret)
 .skip))
 (.seq
 (.reg [] [⟨some 24,.mov (.cst (.d (.int .i64 (-1)))),none⟩])
 (.seq
 (.seq
 (.reg [] [⟨some 201,.mov (.tmp 22),none⟩,
 ⟨some 202,.len (.tmp 201),none⟩,
 ⟨some 203,.mov (.cst (.d (.int .i64 0))),none⟩])
 (.keep [3,4,7,8,12,15,16,18,20,21,24,147,148,201,202,203] [0,1,2,3,4,5,6] seg10n))
 (.seq
 (.reg [] [⟨some 236,.mov (.tmp 21),none⟩,
 ⟨some 237,.mov (.tmp 8),none⟩,
 ⟨some 238,.cmp .neq (.tmp 236) (.tmp 237),none⟩,
 ⟨some 239,.mov (.tmp 238),none⟩,
 ⟨some 240,.mov (.tmp 12),some (239,true)⟩,
 ⟨some 241,.mov (.tmp 21),some (239,true)⟩,
 ⟨some 242,.ixa 1 (.tmp 240) (.tmp 241),some (239,true)⟩,
 ⟨some 243,.ld false 1 (.tmp 242),some (239,true)⟩,
 ⟨some 244,.cmp .geq (.tmp 243) (.cst (.d (.int .i64 0))),some (239,true)⟩,
 ⟨some 245,.pick (.tmp 239) (.tmp 244) (.cst (.d (.bool false))),none⟩,
 ⟨some 246,.mov (.tmp 245),none⟩,
 ⟨some 247,.mov (.tmp 12),some (246,true)⟩,
 ⟨some 248,.mov (.tmp 21),some (246,true)⟩,
 ⟨some 249,.ixa 1 (.tmp 247) (.tmp 248),some (246,true)⟩,
 ⟨some 250,.ld false 1 (.tmp 249),some (246,true)⟩,
 ⟨some 251,.mov (.tmp 24),some (246,true)⟩,
 ⟨some 252,.arith .add .i64 (.tmp 251) (.cst (.d (.int .i64 1))),some (246,true)⟩,
 ⟨some 253,.cmp .neq (.tmp 250) (.tmp 252),some (246,true)⟩,
 ⟨some 254,.pick (.tmp 246) (.tmp 253) (.cst (.d (.bool false))),none⟩])
 (.cond (.tmp 254)
 (.seq
 (.reg [] [⟨some 6,.mov (.cst (.d (.bool false))),none⟩])
 .ret)
 .skip))))))))))
 (.reg [] [⟨some 255,.arith .add .i64 (.tmp 148) (.cst (.d (.int .i64 1))),none⟩,
 ⟨some 148,.mov (.tmp 255),none⟩])))))))))
@[irreducible] def seg10l:ACode:=(.post [] [0,1,2,3,4,5,6,7,8,9,10]
 (.block 6
 (.keep [30,37,364,365] [0,1,2,3,4,5,6,7,8,9,10]
 (.loop
 (.post [30,37,364,365] []
 (.seq
 (.reg [] [⟨some 366,.cmp .lss (.tmp 365) (.tmp 364),none⟩])
 (.seq
 (.cond (.tmp 366)
 .skip
 (.exit 6))
 (.seq
 (.block 7
 (.seq
 (.reg [] [⟨some 367,.mov (.tmp 365),none⟩,
 ⟨some 39,.mov (.tmp 367),none⟩])
 (.seq
 (.regd [] [⟨some 368,.mov (.tmp 30),none⟩,
 ⟨some 369,.mov (.tmp 39),none⟩,
 ⟨some 370,.ixa 1 (.tmp 368) (.tmp 369),none⟩,
 ⟨some 371,.ld false 1 (.tmp 370),none⟩,
 ⟨some 372,.cmp .geq (.tmp 371) (.cst (.d (.int .i64 0))),none⟩,
 ⟨some 373,.mov (.tmp 372),none⟩,
 ⟨some 374,.mov (.tmp 37),some (373,true)⟩,
 ⟨some 375,.mov (.tmp 39),some (373,true)⟩,
 ⟨some 376,.ixa 1 (.tmp 374) (.tmp 375),some (373,true)⟩,
 ⟨some 377,.ld false 1 (.tmp 376),some (373,true)⟩,
 ⟨some 378,.cmp .lss (.tmp 377) (.cst (.d (.int .i64 0))),some (373,true)⟩,
 ⟨some 379,.mov (.tmp 378),some (373,true)⟩,
 ⟨some 380,.mov (.tmp 37),some (379,false)⟩,
 ⟨some 381,.mov (.tmp 39),some (379,false)⟩,
 ⟨some 382,.ixa 1 (.tmp 380) (.tmp 381),some (379,false)⟩,
 ⟨some 383,.ld false 1 (.tmp 382),some (379,false)⟩,
 ⟨some 384,.mov (.tmp 30),some (379,false)⟩,
 ⟨some 385,.mov (.tmp 39),some (379,false)⟩,
 ⟨some 386,.ixa 1 (.tmp 384) (.tmp 385),some (379,false)⟩,
 ⟨some 387,.ld false 1 (.tmp 386),some (379,false)⟩,
 ⟨some 388,.cmp .gtr (.tmp 383) (.tmp 387),some (379,false)⟩,
 ⟨some 389,.pick (.tmp 379) (.cst (.d (.bool true))) (.tmp 388),some (373,true)⟩,
 ⟨some 390,.pick (.tmp 373) (.tmp 389) (.cst (.d (.bool false))),none⟩] [(0,1),(6,7),(12,13),(12,16),(13,16),(14,16),(15,16),(12,17),(13,17),(14,17),(15,17),(16,17),(12,18),(13,18),(14,18),(15,18),(12,19),(13,19),(14,19),(15,19)])
 (.cond (.tmp 390)
 (.seq
 (.reg [] [⟨some 6,.mov (.cst (.d (.bool false))),none⟩])
 .ret)
 .skip))))
 (.reg [] [⟨some 391,.arith .add .i64 (.tmp 365) (.cst (.d (.int .i64 1))),none⟩,
 ⟨some 365,.mov (.tmp 391),none⟩])))))))))
@[irreducible] def seg10k:ACode:=(.seq
 (.regd [] [⟨some 259,.ixp 4 1 (.tmp 4) (.cst (.d (.int .i64 1))),none⟩,
 ⟨some 260,.ld false 1 (.tmp 259),none⟩,
 ⟨some 261,.conv .i64 (.tmp 260),none⟩,
 ⟨some 262,.mov (.tmp 7),none⟩,
 ⟨some 263,.arith .rem .i64 (.tmp 261) (.tmp 262),none⟩,
 ⟨some 264,.ixp 4 1 (.tmp 4) (.cst (.d (.int .i64 2))),none⟩,
 ⟨some 265,.ld false 1 (.tmp 264),none⟩,
 ⟨some 266,.conv .i64 (.tmp 265),none⟩,
 ⟨some 267,.mov (.tmp 7),none⟩,
 ⟨some 268,.arith .rem .i64 (.tmp 266) (.tmp 267),none⟩,
 ⟨some 27,.mov (.tmp 263),none⟩,
 ⟨some 28,.mov (.tmp 268),none⟩] [(0,3),(1,3),(2,3),(0,5),(1,5),(2,5),(3,5),(4,5),(0,6),(1,6),(2,6),(3,6),(4,6),(0,7),(1,7),(2,7),(3,7),(4,7),(0,8),(1,8),(2,8),(3,8),(4,8),(5,8),(6,8),(7,8),(0,9),(1,9),(2,9),(3,9),(4,9),(5,10),(6,10),(7,10),(8,10),(9,10)])
 (.seq
 (.reg [7] [⟨some 269,.mov (.tmp 27),none⟩,
 ⟨some 270,.mov (.tmp 28),none⟩,
 ⟨some 271,.mini (.tmp 269) (.tmp 270),none⟩,
 ⟨some 272,.mov (.tmp 27),none⟩,
 ⟨some 273,.mov (.tmp 28),none⟩,
 ⟨some 274,.maxi (.tmp 272) (.tmp 273),none⟩,
 ⟨some 275,.ixp 4 1 (.tmp 4) (.cst (.d (.int .i64 3))),none⟩,
 ⟨some 276,.ld false 1 (.tmp 275),none⟩,
 ⟨some 277,.conv .i64 (.tmp 276),none⟩,
 ⟨some 278,.arith .rem .i64 (.tmp 277) (.cst (.d (.int .i64 100))),none⟩,
 ⟨some 279,.arith .add .i64 (.cst (.d (.int .i64 1))) (.tmp 278),none⟩,
 ⟨some 280,.build [(.d (.int .i64 0)),(.d (.int .i64 0)),(.d (.int .i64 0))] [(0,1,(.tmp 271)),(1,1,(.tmp 274)),(2,1,(.tmp 279))],none⟩,
 ⟨some 29,.alloc 7 [(.d (.int .i64 0)),(.d (.int .i64 0)),(.d (.int .i64 0))],none⟩,
 ⟨none,.st 3 (.tmp 29) (.tmp 280),none⟩])
 (.seq
 (.seq
 (.reg [] [⟨some 281,.mov (.tmp 27),none⟩,
 ⟨some 282,.mov (.tmp 28),none⟩,
 ⟨some 283,.cmp .eql (.tmp 281) (.tmp 282),none⟩,
 ⟨some 284,.mov (.tmp 283),none⟩,
 ⟨some 285,.ld true 2 (.tmp 3),some (284,false)⟩,
 ⟨some 286,.mov (.tmp 27),some (284,false)⟩,
 ⟨some 287,.mov (.tmp 28),some (284,false)⟩,
 ⟨some 288,.call 67 [(.tmp 285),(.tmp 286),(.tmp 287)],some (284,false)⟩,
 ⟨some 289,.cmp .gtr (.tmp 288) (.cst (.d (.int .i64 0))),some (284,false)⟩,
 ⟨some 290,.pick (.tmp 284) (.cst (.d (.bool true))) (.tmp 289),none⟩])
 (.cond (.tmp 290)
 (.seq
 (.reg [] [⟨some 291,.call 16 [],none⟩,
 ⟨some 6,.mov (.tmp 291),none⟩])
 .ret)
 .skip))
 (.seq
 (.reg [] [⟨some 293,.ld true 2 (.tmp 3),none⟩,
 ⟨some 294,.call 18 [(.tmp 293)],none⟩,
 ⟨some 295,.mov (.tmp 8),none⟩,
 ⟨some 296,.call 21 [(.tmp 294),(.tmp 295)],none⟩,
 ⟨some 292,.mov (.tmp 296),none⟩,
 ⟨some 297,.ext 0 (.tmp 292),none⟩,
 ⟨some 298,.ext 1 (.tmp 292),none⟩,
 ⟨some 30,.mov (.tmp 297),none⟩,
 ⟨some 31,.mov (.tmp 298),none⟩])
 (.seq
 (.reg [8] [⟨some 300,.ld true 2 (.tmp 3),none⟩,
 ⟨some 301,.call 18 [(.tmp 300)],none⟩,
 ⟨some 302,.mov (.tmp 8),none⟩,
 ⟨some 303,.call 31 [(.tmp 301),(.tmp 302)],none⟩,
 ⟨some 299,.mov (.tmp 303),none⟩,
 ⟨some 304,.ext 0 (.tmp 299),none⟩,
 ⟨some 305,.ext 1 (.tmp 299),none⟩,
 ⟨some 32,.alloc 8 [(.d (.int .i64 0)),(.d (.int .i64 0)),(.nils 3)],none⟩,
 ⟨none,.st 3 (.tmp 32) (.tmp 304),none⟩,
 ⟨some 33,.mov (.tmp 305),none⟩])
 (.seq
 (.regd [9,10] [⟨some 307,.ld true 2 (.tmp 3),none⟩,
 ⟨some 308,.call 18 [(.tmp 307)],none⟩,
 ⟨some 309,.ld true 3 (.tmp 32),none⟩,
 ⟨some 310,.ld true 3 (.tmp 29),none⟩,
 ⟨some 311,.call 68 [(.tmp 308),(.tmp 309),(.tmp 310)],none⟩,
 ⟨some 306,.mov (.tmp 311),none⟩,
 ⟨some 312,.ext 0 (.tmp 306),none⟩,
 ⟨some 313,.ext 1 (.tmp 306),none⟩,
 ⟨some 314,.ext 2 (.tmp 306),none⟩,
 ⟨some 34,.alloc 9 [(.nils 1),(.nils 3)],none⟩,
 ⟨some 35,.alloc 10 [(.d (.int .i64 0)),(.d (.int .i64 0)),(.nils 3)],none⟩,
 ⟨none,.st 2 (.tmp 34) (.tmp 312),none⟩,
 ⟨none,.st 3 (.tmp 35) (.tmp 313),none⟩,
 ⟨some 36,.mov (.tmp 314),none⟩] [(0,2),(1,2),(0,3),(1,3),(2,3),(6,7),(6,8),(7,8),(0,9),(1,9),(2,9),(3,9),(4,9),(5,9),(6,9),(7,9),(8,9),(0,10),(1,10),(2,10),(3,10),(4,10),(5,10),(6,10),(7,10),(8,10),(9,10),(7,11),(8,11),(8,12)])
 (.seq
 (.seq
 (.reg [] [⟨some 315,.mov (.tmp 31),none⟩,
 ⟨some 316,.mov (.tmp 33),none⟩,
 ⟨some 317,.arith .add .i64 (.tmp 315) (.tmp 316),none⟩,
 ⟨some 318,.mov (.tmp 36),none⟩,
 ⟨some 319,.arith .add .i64 (.tmp 317) (.tmp 318),none⟩,
 ⟨some 320,.cmp .neq (.tmp 319) (.cst (.d (.int .i64 0))),none⟩,
 ⟨some 321,.mov (.tmp 320),none⟩,
 ⟨some 322,.fad 0 (.tmp 34),some (321,false)⟩,
 ⟨some 323,.ld false 1 (.tmp 322),some (321,false)⟩,
 ⟨some 324,.len (.tmp 323),some (321,false)⟩,
 ⟨some 325,.mov (.tmp 7),some (321,false)⟩,
 ⟨some 326,.cmp .neq (.tmp 324) (.tmp 325),some (321,false)⟩,
 ⟨some 327,.pick (.tmp 321) (.cst (.d (.bool true))) (.tmp 326),none⟩,
 ⟨some 328,.mov (.tmp 327),none⟩,
 ⟨some 329,.fad 1 (.tmp 34),some (328,false)⟩,
 ⟨some 330,.ld false 1 (.tmp 329),some (328,false)⟩,
 ⟨some 331,.len (.tmp 330),some (328,false)⟩,
 ⟨some 332,.fad 1 (.tmp 3),some (328,false)⟩,
 ⟨some 333,.ld false 1 (.tmp 332),some (328,false)⟩,
 ⟨some 334,.len (.tmp 333),some (328,false)⟩,
 ⟨some 335,.arith .add .i64 (.tmp 334) (.cst (.d (.int .i64 1))),some (328,false)⟩,
 ⟨some 336,.cmp .neq (.tmp 331) (.tmp 335),some (328,false)⟩,
 ⟨some 337,.pick (.tmp 328) (.cst (.d (.bool true))) (.tmp 336),none⟩,
 ⟨some 338,.mov (.tmp 337),none⟩,
 ⟨some 339,.ld true 2 (.tmp 34),some (338,false)⟩,
 ⟨some 340,.call 61 [(.tmp 339)],some (338,false)⟩,
 ⟨some 341,.call 22 [(.tmp 340)],some (338,false)⟩,
 ⟨some 342,.cmp .neq (.tmp 341) (.cst (.d (.int .i64 0))),some (338,false)⟩,
 ⟨some 343,.pick (.tmp 338) (.cst (.d (.bool true))) (.tmp 342),none⟩])
 (.cond (.tmp 343)
 (.seq
 (.reg [] [⟨some 6,.mov (.cst (.d (.bool false))),none⟩])
 .ret)
 .skip))
 (.seq
 (.reg [] [⟨some 345,.ld true 2 (.tmp 34),none⟩,
 ⟨some 346,.mov (.tmp 8),none⟩,
 ⟨some 347,.call 21 [(.tmp 345),(.tmp 346)],none⟩,
 ⟨some 344,.mov (.tmp 347),none⟩,
 ⟨some 348,.ext 0 (.tmp 344),none⟩,
 ⟨some 349,.ext 1 (.tmp 344),none⟩,
 ⟨some 37,.mov (.tmp 348),none⟩,
 ⟨some 38,.mov (.tmp 349),none⟩])
 (.seq
 (.seq
 (.reg [] [⟨some 350,.mov (.tmp 38),none⟩,
 ⟨some 351,.cmp .neq (.tmp 350) (.cst (.d (.int .i64 0))),none⟩,
 ⟨some 352,.mov (.tmp 351),none⟩,
 ⟨some 353,.mov (.tmp 30),some (352,false)⟩,
 ⟨some 354,.len (.tmp 353),some (352,false)⟩,
 ⟨some 355,.mov (.tmp 7),some (352,false)⟩,
 ⟨some 356,.cmp .neq (.tmp 354) (.tmp 355),some (352,false)⟩,
 ⟨some 357,.pick (.tmp 352) (.cst (.d (.bool true))) (.tmp 356),none⟩,
 ⟨some 358,.mov (.tmp 357),none⟩,
 ⟨some 359,.mov (.tmp 37),some (358,false)⟩,
 ⟨some 360,.len (.tmp 359),some (358,false)⟩,
 ⟨some 361,.mov (.tmp 7),some (358,false)⟩,
 ⟨some 362,.cmp .neq (.tmp 360) (.tmp 361),some (358,false)⟩,
 ⟨some 363,.pick (.tmp 358) (.cst (.d (.bool true))) (.tmp 362),none⟩])
 (.cond (.tmp 363)
 (.seq
 (.reg [] [⟨some 6,.mov (.cst (.d (.bool false))),none⟩])
 .ret)
 .skip))
 (.seq
 (.seq
 (.reg [] [⟨some 364,.mov (.tmp 7),none⟩,
 ⟨some 365,.mov (.cst (.d (.int .i64 0))),none⟩])
 (.keep [30,37,364,365] [0,1,2,3,4,5,6,7,8,9,10] seg10l))
 (.seq
 (.reg [] [⟨some 392,.call 16 [],none⟩,
 ⟨some 6,.mov (.tmp 392),none⟩])
 .ret)))))))))))
theorem v10n {n : Nat} {m : Ms} {f i got q0 q1 q2 q3 : Int} {lost : List (Int × Int)} {near : List Int} {Q : AExit → St → Prop} (hm : m.ns.length ≤ 32) (hnr : ∀ x ∈ near, 0 ≤ x ∧ x < (m.ns.length : Int)) (hnl : near.length ≤ 32)
  (h:Q .normal ⟨[(3,.ptr 0 0),(4,.ptr 1 0),(7,.d (.int .i64 (strs m.ns).length)),(8,.d (.int .i64 f)),(12,.d (.slice 1 (ints (m.floods [] f)))),(15,.d (.slice 1 (ints (m.floods lost f)))),(16,.d (.int .i64 (known (m.floods lost f)))),(18,.d (.slice 1 (ints (m.reach f)))),(20,.d (.int .i64 got)),(21,.d (.int .i64 i)),(24,.d (.int .i64 (near.foldl (minF (m.floods [] f)) (-1)))),(147,.d (.int .i64 (strs m.ns).length)),(148,.d (.int .i64 i))],[.cbox [.slice 1 (strs m.ns),.slice 3 (lks m.ls)],.cbox [.int .u8 q0,.int .u8 q1,.int .u8 q2,.int .u8 q3],.none,.none,.none,.none,.none,.none,.none,.none,.none]⟩) :
  vc Tryz.prog n seg10n ⟨[(3,.ptr 0 0),(4,.ptr 1 0),(7,.d (.int .i64 (strs m.ns).length)),(8,.d (.int .i64 f)),(12,.d (.slice 1 (ints (m.floods [] f)))),(15,.d (.slice 1 (ints (m.floods lost f)))),(16,.d (.int .i64 (known (m.floods lost f)))),(18,.d (.slice 1 (ints (m.reach f)))),(20,.d (.int .i64 got)),(21,.d (.int .i64 i)),(24,.d (.int .i64 (-1))),(147,.d (.int .i64 (strs m.ns).length)),(148,.d (.int .i64 i)),(201,.d (.slice 1 (ints near))),(202,.d (.int .i64 (ints near).length)),(203,.d (.int .i64 0))],[.cbox [.slice 1 (strs m.ns),.slice 3 (lks m.ls)],.cbox [.int .u8 q0,.int .u8 q1,.int .u8 q2,.int .u8 q3],.none,.none,.none,.none,.none,.none,.none,.none,.none]⟩ Q:=by
 unfold seg10n
 have hsl:=strs_len m.ns
 have hnl2:=ints_len near
 have hfl:=floods_len m [] f
 rotate_left
 refine loop_u (fun k:Nat=>[(24,.d (.int .i64 ((near.take k).foldl (minF (m.floods [] f)) (-1)))),(203,.d (.int .i64 k))]) (fun _=>[]) (fun k=>k≤near.length) (fun k=>near.length - k) 0 rfl (Nat.zero_le _) ?_
 intro k hk
 have hk:k≤near.length:=hk
 dsimp only
 by_cases hkl:k < near.length
 ·refine Exists.elim (get_lt near hkl) fun x hx=>?_
  have hxr:=hnr x (List.mem_of_getElem? hx)
  have hxi:=ints_get hx
  have hv:(ints (m.floods [] f))[x.toNat]?=some (.int .i64 (at0 (m.floods [] f) x.toNat)):=ints_at0 (by omega)
  have e:(near.take (k+1)).foldl (minF (m.floods [] f)) (-1)=minF (m.floods [] f) ((near.take k).foldl (minF (m.floods [] f)) (-1)) x:=fold_snoc _ _ hx
  generalize (near.take k).foldl (minF (m.floods [] f)) (-1)=a at e ⊢
  have em:minF (m.floods [] f) a x=bif decide (0≤at0 (m.floods [] f) x.toNat)&&(decide (a < 0)||decide (at0 (m.floods [] f) x.toNat < a)) then at0 (m.floods [] f) x.toNat else a:=rfl
  generalize at0 (m.floods [] f) x.toNat=v at hv em
  by_cases hc:0≤v∧(a < 0∨v < a)
  ·have em2 : minF (m.floods [] f) a x = v := by
    rw [em,show (decide (0≤v)&&(decide (a < 0)||decide (v < a)))=true by simp only [Bool.and_eq_true,Bool.or_eq_true,decide_eq_true_eq]; exact hc]; rfl
   have fin:∀ Y,Y=v→(⟨[(3,.ptr 0 0),(4,.ptr 1 0),(7,.d (.int .i64 (strs m.ns).length)),(8,.d (.int .i64 f)),(12,.d (.slice 1 (ints (m.floods [] f)))),(15,.d (.slice 1 (ints (m.floods lost f)))),(16,.d (.int .i64 (known (m.floods lost f)))),(18,.d (.slice 1 (ints (m.reach f)))),(20,.d (.int .i64 got)),(21,.d (.int .i64 i)),(24,.d (.int .i64 Y)),(147,.d (.int .i64 (strs m.ns).length)),(148,.d (.int .i64 i)),(201,.d (.slice 1 (ints near))),(202,.d (.int .i64 (ints near).length)),(203,.d (.int .i64 ((k:Int)+1)))],[.cbox [.slice 1 (strs m.ns),.slice 3 (lks m.ls)],.cbox [.int .u8 q0,.int .u8 q1,.int .u8 q2,.int .u8 q3],.none,.none,.none,.none,.none,.none,.none,.none,.none]⟩:St)=⟨[(3,.ptr 0 0),(4,.ptr 1 0),(7,.d (.int .i64 (strs m.ns).length)),(8,.d (.int .i64 f)),(12,.d (.slice 1 (ints (m.floods [] f)))),(15,.d (.slice 1 (ints (m.floods lost f)))),(16,.d (.int .i64 (known (m.floods lost f)))),(18,.d (.slice 1 (ints (m.reach f)))),(20,.d (.int .i64 got)),(21,.d (.int .i64 i)),(24,.d (.int .i64 ((near.take (k+1)).foldl (minF (m.floods [] f)) (-1)))),(147,.d (.int .i64 (strs m.ns).length)),(148,.d (.int .i64 i)),(201,.d (.slice 1 (ints near))),(202,.d (.int .i64 (ints near).length)),(203,.d (.int .i64 ((k+1:Nat):Int)))],[.cbox [.slice 1 (strs m.ns),.slice 3 (lks m.ls)],.cbox [.int .u8 q0,.int .u8 q1,.int .u8 q2,.int .u8 q3],.none,.none,.none,.none,.none,.none,.none,.none,.none]⟩:=fun Y hY=>by rw [e,em2,hY]; rfl
   refine sd ?_
   refine b_lt (fun t1=>?_) (fun t1=>?_)
   refine ix_at hxi ?_ ?_
   (show (0:Int)≤(↑k:Int); omega)
   refine sd ?_
   refine b_lt (fun t2=>?_) (fun t2=>?_)
   (exfalso; omega)
   refine sd ?_
   refine b_le (fun t3=>?_) (fun t3=>?_)
   (exfalso; omega)
   refine ix_at hv ?_ ?_
   (show (0:Int)≤x; omega)
   refine sd ?_
   refine b_le (fun t4=>?_) (fun t4=>?_)
   refine sd ?_
   refine b_lt (fun t5=>?_) (fun t5=>?_)
   refine sd ?_
   refine ix_at hv ?_ ?_
   (show (0:Int)≤x; omega)
   refine ar_add ?_ ?_
   refine an ?_ ?_
   (show (-9223372036854775808:Int)≤(↑k:Int)+(1:Int); omega)
   (show (↑k:Int)+(1:Int)≤(9223372036854775807:Int); omega)
   rotate_left
   refine ix_at hv ?_ ?_
   (show (0:Int)≤x; omega)
   refine sd ?_
   refine b_lt (fun t6=>?_) (fun t6=>?_)
   refine ix_at hv ?_ ?_
   (show (0:Int)≤x; omega)
   refine ar_add ?_ ?_
   refine an ?_ ?_
   (show (-9223372036854775808:Int)≤(↑k:Int)+(1:Int); omega)
   (show (↑k:Int)+(1:Int)≤(9223372036854775807:Int); omega)
   rotate_left
   (exfalso; omega)
   (exfalso; omega)
   (exfalso; omega)
   all_goals exact ⟨k+1,⟨by show k+1≤near.length; omega,by show near.length - (k+1) < near.length - k; omega⟩,fin _ rfl⟩
  ·have em2 : minF (m.floods [] f) a x = a := by
    rw [em,show (decide (0≤v)&&(decide (a < 0)||decide (v < a)))=false by rw [Bool.eq_false_iff]; simp only [ne_eq,Bool.and_eq_true,Bool.or_eq_true,decide_eq_true_eq]; exact hc]; rfl
   have fin:∀ Y,Y=a→(⟨[(3,.ptr 0 0),(4,.ptr 1 0),(7,.d (.int .i64 (strs m.ns).length)),(8,.d (.int .i64 f)),(12,.d (.slice 1 (ints (m.floods [] f)))),(15,.d (.slice 1 (ints (m.floods lost f)))),(16,.d (.int .i64 (known (m.floods lost f)))),(18,.d (.slice 1 (ints (m.reach f)))),(20,.d (.int .i64 got)),(21,.d (.int .i64 i)),(24,.d (.int .i64 Y)),(147,.d (.int .i64 (strs m.ns).length)),(148,.d (.int .i64 i)),(201,.d (.slice 1 (ints near))),(202,.d (.int .i64 (ints near).length)),(203,.d (.int .i64 ((k:Int)+1)))],[.cbox [.slice 1 (strs m.ns),.slice 3 (lks m.ls)],.cbox [.int .u8 q0,.int .u8 q1,.int .u8 q2,.int .u8 q3],.none,.none,.none,.none,.none,.none,.none,.none,.none]⟩:St)=⟨[(3,.ptr 0 0),(4,.ptr 1 0),(7,.d (.int .i64 (strs m.ns).length)),(8,.d (.int .i64 f)),(12,.d (.slice 1 (ints (m.floods [] f)))),(15,.d (.slice 1 (ints (m.floods lost f)))),(16,.d (.int .i64 (known (m.floods lost f)))),(18,.d (.slice 1 (ints (m.reach f)))),(20,.d (.int .i64 got)),(21,.d (.int .i64 i)),(24,.d (.int .i64 ((near.take (k+1)).foldl (minF (m.floods [] f)) (-1)))),(147,.d (.int .i64 (strs m.ns).length)),(148,.d (.int .i64 i)),(201,.d (.slice 1 (ints near))),(202,.d (.int .i64 (ints near).length)),(203,.d (.int .i64 ((k+1:Nat):Int)))],[.cbox [.slice 1 (strs m.ns),.slice 3 (lks m.ls)],.cbox [.int .u8 q0,.int .u8 q1,.int .u8 q2,.int .u8 q3],.none,.none,.none,.none,.none,.none,.none,.none,.none]⟩:=fun Y hY=>by rw [e,em2,hY]; rfl
   refine sd ?_
   refine b_lt (fun t1=>?_) (fun t1=>?_)
   refine ix_at hxi ?_ ?_
   (show (0:Int)≤(↑k:Int); omega)
   refine sd ?_
   refine b_lt (fun t2=>?_) (fun t2=>?_)
   (exfalso; omega)
   refine sd ?_
   refine b_le (fun t3=>?_) (fun t3=>?_)
   (exfalso; omega)
   refine ix_at hv ?_ ?_
   (show (0:Int)≤x; omega)
   refine sd ?_
   refine b_le (fun t4=>?_) (fun t4=>?_)
   refine sd ?_
   refine b_lt (fun t5=>?_) (fun t5=>?_)
   (exfalso; omega)
   refine ix_at hv ?_ ?_
   (show (0:Int)≤x; omega)
   refine sd ?_
   refine b_lt (fun t6=>?_) (fun t6=>?_)
   (exfalso; omega)
   refine ar_add ?_ ?_
   refine an ?_ ?_
   (show (-9223372036854775808:Int)≤(↑k:Int)+(1:Int); omega)
   (show (↑k:Int)+(1:Int)≤(9223372036854775807:Int); omega)
   rotate_left
   refine sd ?_
   refine ar_add ?_ ?_
   refine an ?_ ?_
   (show (-9223372036854775808:Int)≤(↑k:Int)+(1:Int); omega)
   (show (↑k:Int)+(1:Int)≤(9223372036854775807:Int); omega)
   rotate_left
   (exfalso; omega)
   all_goals exact ⟨k+1,⟨by show k+1≤near.length; omega,by show near.length - (k+1) < near.length - k; omega⟩,fin _ rfl⟩
 ·have ek:near.take k=near:=List.take_of_length_le (by omega)
  rw [ek]
  refine sd ?_
  refine b_lt (fun t1=>?_) (fun t1=>?_)
  (exfalso; omega)
  rotate_left
  all_goals exact h
theorem fold_le {L:List Int} {N:Int} (hL:∀ i,at0 L i≤N) (hN:-1≤N):∀ (P:List Int) (a:Int),(-1≤a∧a≤N)→-1≤P.foldl (minF L) a∧P.foldl (minF L) a≤N
 | [],a,h=>h
 | y::P,a,h=>by rw [List.foldl_cons]; exact fold_le hL hN P _ (minF_rng h (hL _))
theorem cnt_yes {n:Nat} {p:Nat→Bool} (h:p n=true):cnt (n+1) p=cnt n p+1:=by rw [cnt,h]; rfl
theorem cnt_no {n:Nat} {p:Nat→Bool} (h:p n=false):cnt (n+1) p=cnt n p:=by rw [cnt,h]; rfl
theorem cnt_max (p:Nat→Bool):∀ n,cnt n p≤n
 | 0=>Nat.le_refl _
 | n+1=>by
  have:=cnt_max p n
  rw [cnt]
  cases p n
  ·show _+0≤_; omega
  ·show _+1≤_; omega
theorem v10e {n : Nat} {m : Ms} {f q0 q1 q2 q3 : Int} {lost : List (Int × Int)} {Q : AExit → St → Prop} (hc : m.chk = 0) (h0 : 0 ≤ f) (h1 : f < (m.ns.length : Int))
  (h:Q .normal ⟨[(3,.ptr 0 0),(4,.ptr 1 0),(7,.d (.int .i64 (strs m.ns).length)),(8,.d (.int .i64 f)),(16,.d (.int .i64 (known (m.floods lost f)))),(20,.d (.int .i64 (known (m.floods lost f))))],[.cbox [.slice 1 (strs m.ns),.slice 3 (lks m.ls)],.cbox [.int .u8 q0,.int .u8 q1,.int .u8 q2,.int .u8 q3],.none,.none,.none,.none,.none,.none,.none,.none,.none]⟩) :
  vc Tryz.prog n seg10e ⟨[(3,.ptr 0 0),(4,.ptr 1 0),(7,.d (.int .i64 (strs m.ns).length)),(8,.d (.int .i64 f)),(12,.d (.slice 1 (ints (m.floods [] f)))),(15,.d (.slice 1 (ints (m.floods lost f)))),(16,.d (.int .i64 (known (m.floods lost f)))),(18,.d (.slice 1 (ints (m.reach f)))),(20,.d (.int .i64 0)),(147,.d (.int .i64 (strs m.ns).length)),(148,.d (.int .i64 0))],[.cbox [.slice 1 (strs m.ns),.slice 3 (lks m.ls)],.cbox [.int .u8 q0,.int .u8 q1,.int .u8 q2,.int .u8 q3],.none,.none,.none,.none,.none,.none,.none,.none,.none]⟩ Q:=by
 unfold seg10e
 have hf:=chk_fine hc
 have h32:=hf.n32
 have h128:=hf.l128
 have hsl:=strs_len m.ns
 have hfl:=floods_len m [] f
 have hfl2:=floods_len m lost f
 have hrl:=reach_len m f
 rotate_left
 refine loop_u (fun k:Nat=>[(20,.d (.int .i64 (cnt k (fun i=>decide (0≤at0 (m.floods lost f) i))))),(148,.d (.int .i64 k))]) (fun _=>[]) (fun k=>k≤m.ns.length) (fun k=>m.ns.length - k) 0 rfl (Nat.zero_le _) ?_
 intro k hk
 have hk:k≤m.ns.length:=hk
 dsimp only
 have hcm:=cnt_max (fun i=>decide (0≤at0 (m.floods lost f) i)) k
 by_cases hkl:k < m.ns.length
 ·have hv:(ints (m.floods [] f))[((k:Int)).toNat]?=some (.int .i64 (at0 (m.floods [] f) k)):=ints_at0 (by omega)
  have hw:(ints (m.floods lost f))[((k:Int)).toNat]?=some (.int .i64 (at0 (m.floods lost f) k)):=ints_at0 (by omega)
  have c50_:CallDet Tryz.prog 50 [.d (.slice 1 (ints (m.reach f))),.d (.int .i64 k)] [.bool (decide (0≤at0 (m.floods [] f) k))]:=by
   have h2:=c50 (m.reach f) k (by omega)
   rw [flood_reach hf h0 h1 hkl] at h2; exact h2
  have e1:(decide (0≤at0 (m.floods [] f) k) != decide (0≤at0 (m.floods [] f) k))=false:=by simp
  have hlt:=flood_late h0 h1 lost hkl
  have hnr:=fun hne=>flood_near h0 h1 hkl hne
  have hn0:nodeD m k=0:=nodeD_good2 hc (by
   unfold Ms.nodeE outN
   rw [decide_eq_false (by omega),decide_eq_false (by omega)]; rfl)
  have c17_:CallDet Tryz.prog 17 [.d m.d,.d (.int .i64 k)] [.slice 1 (ints (m.nbs k)),.int .i64 0]:=by
   have h2:=c17 m k (by omega) (by omega)
   unfold Ms.nbsP at h2
   rw [hn0] at h2; exact h2
  have hfr:=fold_le (L:=m.floods [] f) (N:=32) (fun i=>by have:=flood_rng (m:=m) (f:=f) (lost:=[]) i; omega) (by decide) (m.nbs k) (-1) (by decide)
  have hrg:=flood_rng (m:=m) (f:=f) (lost:=[]) k
  have hnin:=nbs_in m k
  have hnle:(m.nbs k).length≤m.ns.length:=nbs_len m k m.ns.length
  have hyes:0≤at0 (m.floods lost f) k→(cnt (k+1) (fun i=>decide (0≤at0 (m.floods lost f) i)):Int)=cnt k (fun i=>decide (0≤at0 (m.floods lost f) i))+1:=fun h=>by rw [cnt_yes (decide_eq_true h)]; rfl
  have hno:¬ 0≤at0 (m.floods lost f) k→(cnt (k+1) (fun i=>decide (0≤at0 (m.floods lost f) i)):Int)=cnt k (fun i=>decide (0≤at0 (m.floods lost f) i)):=fun h=>by rw [cnt_no (decide_eq_false h)]
  have fin:∀ Y,Y=(cnt (k+1) (fun i=>decide (0≤at0 (m.floods lost f) i)):Int)→∃ a':Nat,(a'≤m.ns.length∧m.ns.length - a' < m.ns.length - k)∧(⟨[(3,.ptr 0 0),(4,.ptr 1 0),(7,.d (.int .i64 (strs m.ns).length)),(8,.d (.int .i64 f)),(12,.d (.slice 1 (ints (m.floods [] f)))),(15,.d (.slice 1 (ints (m.floods lost f)))),(16,.d (.int .i64 (known (m.floods lost f)))),(18,.d (.slice 1 (ints (m.reach f)))),(20,.d (.int .i64 Y)),(147,.d (.int .i64 (strs m.ns).length)),(148,.d (.int .i64 ((k:Int)+1)))],[.cbox [.slice 1 (strs m.ns),.slice 3 (lks m.ls)],.cbox [.int .u8 q0,.int .u8 q1,.int .u8 q2,.int .u8 q3],.none,.none,.none,.none,.none,.none,.none,.none,.none]⟩:St)=⟨[(3,.ptr 0 0),(4,.ptr 1 0),(7,.d (.int .i64 (strs m.ns).length)),(8,.d (.int .i64 f)),(12,.d (.slice 1 (ints (m.floods [] f)))),(15,.d (.slice 1 (ints (m.floods lost f)))),(16,.d (.int .i64 (known (m.floods lost f)))),(18,.d (.slice 1 (ints (m.reach f)))),(20,.d (.int .i64 (cnt a' (fun i=>decide (0≤at0 (m.floods lost f) i))))),(147,.d (.int .i64 (strs m.ns).length)),(148,.d (.int .i64 (a':Nat)))],[.cbox [.slice 1 (strs m.ns),.slice 3 (lks m.ls)],.cbox [.int .u8 q0,.int .u8 q1,.int .u8 q2,.int .u8 q3],.none,.none,.none,.none,.none,.none,.none,.none,.none]⟩:=fun Y hY=>⟨k+1,⟨by omega,by omega⟩,by rw [hY]; rfl⟩
  by_cases hw0:0≤at0 (m.floods lost f) k
  ·have hl0:=hlt hw0
   have hy:=hyes hw0
   refine sd ?_
   refine b_lt (fun t1=>?_) (fun t1=>?_)
   refine ix_at hv ?_ ?_
   (show (0:Int)≤(↑k:Int); omega)
   refine sd ?_
   refine ca c50_ ?_
   refine b_f e1 ?_
   refine ix_at hw ?_ ?_
   (show (0:Int)≤(↑k:Int); omega)
   refine sd ?_
   refine b_le (fun t2=>?_) (fun t2=>?_)
   refine ix_at hv ?_ ?_
   (show (0:Int)≤(↑k:Int); omega)
   refine sd ?_
   refine b_lt (fun t3=>?_) (fun t3=>?_)
   (exfalso; omega)
   refine ix_at hw ?_ ?_
   (show (0:Int)≤(↑k:Int); omega)
   refine ix_at hv ?_ ?_
   (show (0:Int)≤(↑k:Int); omega)
   refine sd ?_
   refine b_lt (fun t4=>?_) (fun t4=>?_)
   (exfalso; omega)
   refine ix_at hw ?_ ?_
   (show (0:Int)≤(↑k:Int); omega)
   refine sd ?_
   refine b_le (fun t5=>?_) (fun t5=>?_)
   refine ar_add ?_ ?_
   refine an ?_ ?_
   (show (-9223372036854775808:Int)≤(↑(cnt k fun i=>decide ((0:Int)≤at0 (Ms.floods m lost f) i)):Int)+(1:Int); omega)
   (show (↑(cnt k fun i=>decide ((0:Int)≤at0 (Ms.floods m lost f) i)):Int)+(1:Int)≤(9223372036854775807:Int); omega)
   refine ca (c18 m (by omega) (by omega)) ?_
   refine ca c17_ ?_
   refine sd ?_
   rotate_left
   (exfalso; omega)
   (exfalso; omega)
   (exfalso; omega)
   refine v10n h32 hnin (by omega) ?_
   refine sd ?_
   refine b_ne (fun t6=>?_) (fun t6=>?_)
   refine ix_at hv ?_ ?_
   (show (0:Int)≤(↑k:Int); omega)
   refine sd ?_
   refine b_le (fun t7=>?_) (fun t7=>?_)
   refine ix_at hv ?_ ?_
   (show (0:Int)≤(↑k:Int); omega)
   refine ar_add ?_ ?_
   refine an ?_ ?_
   (show (-9223372036854775808:Int)≤List.foldl (minF (Ms.floods m [] f)) (-1:Int) (Ms.nbs m (↑k:Int))+(1:Int); omega)
   (show List.foldl (minF (Ms.floods m [] f)) (-1:Int) (Ms.nbs m (↑k:Int))+(1:Int)≤(9223372036854775807:Int); omega)
   refine sd ?_
   refine b_ne (fun t8=>?_) (fun t8=>?_)
   (exfalso; omega)
   refine ar_add ?_ ?_
   refine an ?_ ?_
   (show (-9223372036854775808:Int)≤(↑k:Int)+(1:Int); omega)
   (show (↑k:Int)+(1:Int)≤(9223372036854775807:Int); omega)
   rotate_left
   (exfalso; omega)
   refine sd ?_
   refine sd ?_
   refine ar_add ?_ ?_
   refine an ?_ ?_
   (show (-9223372036854775808:Int)≤(↑k:Int)+(1:Int); omega)
   (show (↑k:Int)+(1:Int)≤(9223372036854775807:Int); omega)
   rotate_left
   all_goals exact fin _ (by omega)
  ·have hy:=hno hw0
   refine sd ?_
   refine b_lt (fun t1=>?_) (fun t1=>?_)
   refine ix_at hv ?_ ?_
   (show (0:Int)≤(↑k:Int); omega)
   refine sd ?_
   refine ca c50_ ?_
   refine b_f e1 ?_
   refine ix_at hw ?_ ?_
   (show (0:Int)≤(↑k:Int); omega)
   refine sd ?_
   refine b_le (fun t2=>?_) (fun t2=>?_)
   (exfalso; omega)
   refine sd ?_
   refine ix_at hw ?_ ?_
   (show (0:Int)≤(↑k:Int); omega)
   refine sd ?_
   refine b_le (fun t3=>?_) (fun t3=>?_)
   (exfalso; omega)
   refine ca (c18 m (by omega) (by omega)) ?_
   refine ca c17_ ?_
   refine sd ?_
   rotate_left
   (exfalso; omega)
   refine v10n h32 hnin (by omega) ?_
   refine sd ?_
   refine b_ne (fun t4=>?_) (fun t4=>?_)
   refine ix_at hv ?_ ?_
   (show (0:Int)≤(↑k:Int); omega)
   refine sd ?_
   refine b_le (fun t5=>?_) (fun t5=>?_)
   refine ix_at hv ?_ ?_
   (show (0:Int)≤(↑k:Int); omega)
   refine ar_add ?_ ?_
   refine an ?_ ?_
   (show (-9223372036854775808:Int)≤List.foldl (minF (Ms.floods m [] f)) (-1:Int) (Ms.nbs m (↑k:Int))+(1:Int); omega)
   (show List.foldl (minF (Ms.floods m [] f)) (-1:Int) (Ms.nbs m (↑k:Int))+(1:Int)≤(9223372036854775807:Int); omega)
   refine sd ?_
   refine b_ne (fun t6=>?_) (fun t6=>?_)
   (exfalso; omega)
   refine ar_add ?_ ?_
   refine an ?_ ?_
   (show (-9223372036854775808:Int)≤(↑k:Int)+(1:Int); omega)
   (show (↑k:Int)+(1:Int)≤(9223372036854775807:Int); omega)
   rotate_left
   refine sd ?_
   refine ar_add ?_ ?_
   refine an ?_ ?_
   (show (-9223372036854775808:Int)≤(↑k:Int)+(1:Int); omega)
   (show (↑k:Int)+(1:Int)≤(9223372036854775807:Int); omega)
   rotate_left
   refine sd ?_
   refine sd ?_
   refine ar_add ?_ ?_
   refine an ?_ ?_
   (show (-9223372036854775808:Int)≤(↑k:Int)+(1:Int); omega)
   (show (↑k:Int)+(1:Int)≤(9223372036854775807:Int); omega)
   rotate_left
   all_goals exact fin _ (by omega)
 ·have ek:k=m.ns.length:=by omega
  have e2:=known_floods m lost f
  rw [← ek] at e2
  rw [← e2]
  refine sd ?_
  refine b_lt (fun t1=>?_) (fun t1=>?_)
  (exfalso; omega)
  rotate_left
  all_goals exact h
theorem v10l {n : Nat} {D D2 : List Int} {n0 : Int} {Q : AExit → St → Prop} (h1 : n0 = (D.length : Int)) (h2 : D2.length = D.length) (h3 : D.length ≤ 32) (hd : ∀ i : Nat, 0 ≤ at0 D i → 0 ≤ at0 D2 i ∧ at0 D2 i ≤ at0 D i)
  (h:Q .normal ⟨[],[.none,.none,.none,.none,.none,.none,.none,.none,.none,.none,.none]⟩) :
  vc Tryz.prog n seg10l ⟨[(30,.d (.slice 1 (ints D))),(37,.d (.slice 1 (ints D2))),(364,.d (.int .i64 n0)),(365,.d (.int .i64 0))],[.none,.none,.none,.none,.none,.none,.none,.none,.none,.none,.none]⟩ Q:=by
 unfold seg10l
 have hl1:=ints_len D
 have hl2:=ints_len D2
 rotate_left
 refine loop_u (fun k:Nat=>[(365,.d (.int .i64 k))]) (fun _=>[]) (fun k=>k≤D.length) (fun k=>D.length - k) 0 rfl (Nat.zero_le _) ?_
 intro k hk
 have hk:k≤D.length:=hk
 dsimp only
 by_cases hkl:k < D.length
 ·have hv:(ints D)[((k:Int)).toNat]?=some (.int .i64 (at0 D k)):=ints_at0 (by omega)
  have hw:(ints D2)[((k:Int)).toNat]?=some (.int .i64 (at0 D2 k)):=ints_at0 (by omega)
  have hx:=hd k
  refine sd ?_
  refine b_lt (fun t1=>?_) (fun t1=>?_)
  refine ix_at hv ?_ ?_
  (show (0:Int)≤(↑k:Int); omega)
  refine sd ?_
  refine b_le (fun t2=>?_) (fun t2=>?_)
  refine ix_at hw ?_ ?_
  (show (0:Int)≤(↑k:Int); omega)
  refine sd ?_
  refine b_lt (fun t3=>?_) (fun t3=>?_)
  (exfalso; omega)
  refine ix_at hw ?_ ?_
  (show (0:Int)≤(↑k:Int); omega)
  refine ix_at hv ?_ ?_
  (show (0:Int)≤(↑k:Int); omega)
  refine sd ?_
  refine b_lt (fun t4=>?_) (fun t4=>?_)
  (exfalso; omega)
  refine ar_add ?_ ?_
  refine an ?_ ?_
  (show (-9223372036854775808:Int)≤(↑k:Int)+(1:Int); omega)
  (show (↑k:Int)+(1:Int)≤(9223372036854775807:Int); omega)
  rotate_left
  refine sd ?_
  refine ar_add ?_ ?_
  refine an ?_ ?_
  (show (-9223372036854775808:Int)≤(↑k:Int)+(1:Int); omega)
  (show (↑k:Int)+(1:Int)≤(9223372036854775807:Int); omega)
  rotate_left
  (exfalso; omega)
  all_goals exact ⟨k+1,⟨by show k+1≤D.length; omega,by show D.length - (k+1) < D.length - k; omega⟩,rfl⟩
 ·refine sd ?_
  refine b_lt (fun t1=>?_) (fun t1=>?_)
  (exfalso; omega)
  rotate_left
  all_goals exact h
theorem hit_pos:∀ {ls:List Lk} {o:Lk} {a b:Int},(∀ l∈ls,1≤l.c)→o∈ls→hit o a b=true→0 < betw ls a b
 | l::r,o,a,b,hc,ho,hh=>by
  rw [betw]
  cases e:hit l a b
  ·rcases List.mem_cons.1 ho with rfl | ho
   ·rw [e] at hh; cases hh
   ·exact hit_pos (fun x hx=>hc x (List.mem_cons_of_mem _ hx)) ho hh
  ·have:=hc l List.mem_cons_self
   show 0 < l.c; omega
theorem plus_link {m : Ms} (hf : m.fine) {a b c : Int} (ha : 0 ≤ a ∧ a < (m.ns.length : Int)) (hb : 0 ≤ b ∧ b < (m.ns.length : Int)) (hab : a ≠ b) (hz : ¬ 0 < betw m.ls a b) (hc : 1 ≤ c ∧ c ≤ 100) :
  linkE m.ns.length m.ls ⟨min a b,max a b,c⟩=0:=by
 refine linkE_of ?_ ?_ hc
 ·unfold outs outN
  simp only
  rw [decide_eq_false (by omega),decide_eq_false (by omega),decide_eq_false (by omega),decide_eq_false (by omega),decide_eq_false (by omega)]; rfl
 ·rw [List.any_eq_false]
  intro o ho hs
  refine hz (hit_pos (fun l hl=>(hf.link hl).2.1) ho ?_)
  unfold sameL at hs
  unfold hit
  simp only [Bool.and_true,Bool.and_eq_true,beq_iff_eq] at hs ⊢
  omega
theorem plus_fine {m:Ms} (hf:m.fine) {l:Lk} (hl:linkE m.ns.length m.ls l=0) (hn:m.ls.length < 128):(m.plus l).fine where
 n32:=hf.n32
 l128:=by show (m.ls++[l]).length≤128; rw [List.length_append]; show m.ls.length+1≤128; omega
 links:=fun k x hx=>by
  have hx:(m.ls++[l])[k]?=some x:=hx
  show linkE m.ns.length ((m.ls++[l]).take k) x=0
  by_cases hk:k < m.ls.length
  ·rw [List.getElem?_append_left hk] at hx
   rw [List.take_append_of_le_length (by omega)]
   exact hf.links k x hx
  ·have e : k = m.ls.length := by
    have:=(List.getElem?_eq_some_iff.1 hx).1
    rw [List.length_append] at this
    have:k < m.ls.length+1:=this
    omega
   subst e
   rw [List.getElem?_append_right (Nat.le_refl _),Nat.sub_self] at hx
   cases hx
   rw [List.take_append_of_le_length (Nat.le_refl _),List.take_length]; exact hl
 names:=hf.names
theorem begun_lenQ (m:Ms) (i:Int):(m.begun i).es.length=m.ns.length:=by unfold Ms.begun; show (List.set _ _ _).length=_; rw [List.length_set,List.length_replicate]
theorem end_b {sl:List (Nat × AVal)} {hp:List AObj} {t:Nat} (h:getL sl t=.d (.bool true)):endP [.tmp t] [.bool true] ⟨sl,hp⟩:=by
 unfold endP
 simp only [retE,resE,h]
 exact rfl
theorem v10k (hw : CallDet Tryz.prog 16 [] [.bool true]) {n : Nat} {m : Ms} {f q0 q1 q2 q3 : Int} {Q : AExit → St → Prop} (hc : m.chk = 0) (h0 : 0 ≤ f) (h1 : f < (m.ns.length : Int)) (hl18 : m.ls.length ≤ 18)
  (b1:0≤q1∧q1≤255) (b2:0≤q2∧q2≤255) (b3:0≤q3∧q3≤255) (hq:∀ sl hp,getL sl 6=.d (.bool true)→Q .ret ⟨sl,hp⟩) :
  vc Tryz.prog n seg10k ⟨[(3,.ptr 0 0),(4,.ptr 1 0),(7,.d (.int .i64 (strs m.ns).length)),(8,.d (.int .i64 f))],[.cbox [.slice 1 (strs m.ns),.slice 3 (lks m.ls)],.cbox [.int .u8 q0,.int .u8 q1,.int .u8 q2,.int .u8 q3],.none,.none,.none,.none,.none,.none,.none,.none,.none]⟩ Q:=by
 unfold seg10k
 have c16_:=hw
 have hf:=chk_fine hc
 have h32:=hf.n32
 have hsl:=strs_len m.ns
 have hll:=lks_len m.ls
 have hn0:((strs m.ns).length:Int)≠0:=by omega
 have hpos:0 < ((strs m.ns).length:Int):=by omega
 have a0:=Int.emod_nonneg (IntKind.i64.wrap q1) hn0
 have a1:=Int.emod_lt_of_pos (IntKind.i64.wrap q1) hpos
 have d0:=Int.emod_nonneg (IntKind.i64.wrap q2) hn0
 have d1:=Int.emod_lt_of_pos (IntKind.i64.wrap q2) hpos
 have w3:IntKind.i64.wrap q3=q3:=by rw [IntKind.wrap_i64]; omega
 have w1:0≤IntKind.i64.wrap q1:=by rw [IntKind.wrap_i64]; omega
 have w2:0≤IntKind.i64.wrap q2:=by rw [IntKind.wrap_i64]; omega
 have e0:0≤IntKind.i64.wrap q3 % 100∧IntKind.i64.wrap q3 % 100 < 100:=by rw [w3]; omega
 have hfn:m.nodeE f=0:=by
  unfold Ms.nodeE outN
  rw [decide_eq_false (by omega),decide_eq_false (by omega)]; rfl
 have hD:nodeD m f=0:=nodeD_good2 hc hfn
 by_cases hab:IntKind.i64.wrap q1 % ((strs m.ns).length:Int)=IntKind.i64.wrap q2 % ((strs m.ns).length:Int)
 ·refine an ?_ ?_
  refine an ?_ ?_
  (show (0:Int)≤(1:Int); omega)
  (show (1:Int) < (↑(4:Nat):Int); omega)
  refine ca rfl ?_
  refine ar_rem ?_ ?_
  refine an ?_ ?_
  assumption
  assumption
  refine an ?_ ?_
  refine an ?_ ?_
  (show (0:Int)≤(2:Int); omega)
  (show (2:Int) < (↑(4:Nat):Int); omega)
  refine ca rfl ?_
  refine ar_rem ?_ ?_
  refine an ?_ ?_
  assumption
  assumption
  refine sd ?_
  refine sd ?_
  refine an ?_ ?_
  refine an ?_ ?_
  (show (0:Int)≤(3:Int); omega)
  (show (3:Int) < (↑(4:Nat):Int); omega)
  refine ca rfl ?_
  refine ar_rem ?_ ?_
  refine an ?_ ?_
  (show (0:Int)≤IntKind.wrap IntKind.i64 q3; omega)
  (show (1:Int)≤(100:Int); omega)
  refine ar_add ?_ ?_
  refine an ?_ ?_
  (show (-9223372036854775808:Int)≤(1:Int)+IntKind.wrap IntKind.i64 q3 % (100:Int); omega)
  (show (1:Int)+IntKind.wrap IntKind.i64 q3 % (100:Int)≤(9223372036854775807:Int); omega)
  refine sd ?_
  refine b_eq (fun t1=>?_) (fun t1=>?_)
  refine sd ?_
  refine ca c16_ ?_
  rotate_left
  (exfalso; omega)
  all_goals exact hq _ _ rfl
 ·by_cases hbt:0 < betw m.ls (IntKind.i64.wrap q1 % ((strs m.ns).length:Int)) (IntKind.i64.wrap q2 % ((strs m.ns).length:Int))
  ·refine an ?_ ?_
   refine an ?_ ?_
   (show (0:Int)≤(1:Int); omega)
   (show (1:Int) < (↑(4:Nat):Int); omega)
   refine ca rfl ?_
   refine ar_rem ?_ ?_
   refine an ?_ ?_
   assumption
   assumption
   refine an ?_ ?_
   refine an ?_ ?_
   (show (0:Int)≤(2:Int); omega)
   (show (2:Int) < (↑(4:Nat):Int); omega)
   refine ca rfl ?_
   refine ar_rem ?_ ?_
   refine an ?_ ?_
   assumption
   assumption
   refine sd ?_
   refine sd ?_
   refine an ?_ ?_
   refine an ?_ ?_
   (show (0:Int)≤(3:Int); omega)
   (show (3:Int) < (↑(4:Nat):Int); omega)
   refine ca rfl ?_
   refine ar_rem ?_ ?_
   refine an ?_ ?_
   (show (0:Int)≤IntKind.wrap IntKind.i64 q3; omega)
   (show (1:Int)≤(100:Int); omega)
   refine ar_add ?_ ?_
   refine an ?_ ?_
   (show (-9223372036854775808:Int)≤(1:Int)+IntKind.wrap IntKind.i64 q3 % (100:Int); omega)
   (show (1:Int)+IntKind.wrap IntKind.i64 q3 % (100:Int)≤(9223372036854775807:Int); omega)
   refine sd ?_
   refine b_eq (fun t1=>?_) (fun t1=>?_)
   (exfalso; omega)
   refine ca (c67 m _ _ (by omega) hf.asc) ?_
   refine sd ?_
   refine b_lt (fun t2=>?_) (fun t2=>?_)
   refine ca c16_ ?_
   rotate_left
   (exfalso; omega)
   all_goals exact hq _ _ rfl
  ·have hle:=plus_link hf (a:=IntKind.i64.wrap q1 % ((strs m.ns).length:Int)) (b:=IntKind.i64.wrap q2 % ((strs m.ns).length:Int)) (c:=1+IntKind.i64.wrap q3 % 100) (by omega) (by omega) hab hbt (by omega)
   have hpf:=plus_fine hf hle (by omega)
   have hg:Good m (m.begun f):=Good.begun hc h0 h1
   have hpc:=chk_of_fine hpf
   have hbl:=begun_lenQ m f
   have hel:=ens_len (m.begun f).es
   have hpl:(lks m.ls++[Lk.d ⟨min (IntKind.i64.wrap q1 % ((strs m.ns).length:Int)) (IntKind.i64.wrap q2 % ((strs m.ns).length:Int)),max (IntKind.i64.wrap q1 % ((strs m.ns).length:Int)) (IntKind.i64.wrap q2 % ((strs m.ns).length:Int)),1+IntKind.i64.wrap q3 % 100⟩])=lks (m.plus ⟨min (IntKind.i64.wrap q1 % ((strs m.ns).length:Int)) (IntKind.i64.wrap q2 % ((strs m.ns).length:Int)),max (IntKind.i64.wrap q1 % ((strs m.ns).length:Int)) (IntKind.i64.wrap q2 % ((strs m.ns).length:Int)),1+IntKind.i64.wrap q3 % 100⟩).ls:=by
    unfold lks Ms.plus; rw [List.map_append]; rfl
   have c68_ : CallDet Tryz.prog 68 [.d m.d, .d (m.begun f).d, .d (.agg [.int .i64 (min (IntKind.i64.wrap q1 % ((strs m.ns).length : Int)) (IntKind.i64.wrap q2 % ((strs m.ns).length : Int))), .int .i64 (max (IntKind.i64.wrap q1 % ((strs m.ns).length : Int)) (IntKind.i64.wrap q2 % ((strs m.ns).length : Int))), .int .i64 (1 + IntKind.i64.wrap q3 % 100)])]
     [(m.plus ⟨min (IntKind.i64.wrap q1 % ((strs m.ns).length:Int)) (IntKind.i64.wrap q2 % ((strs m.ns).length:Int)),max (IntKind.i64.wrap q1 % ((strs m.ns).length:Int)) (IntKind.i64.wrap q2 % ((strs m.ns).length:Int)),1+IntKind.i64.wrap q3 % 100⟩).d,(m.begun f).d,.int .i64 0]:=by
    have h2:=c68 m (m.begun f) ⟨min (IntKind.i64.wrap q1 % ((strs m.ns).length:Int)) (IntKind.i64.wrap q2 % ((strs m.ns).length:Int)),max (IntKind.i64.wrap q1 % ((strs m.ns).length:Int)) (IntKind.i64.wrap q2 % ((strs m.ns).length:Int)),1+IntKind.i64.wrap q3 % 100⟩ (by omega) (by omega) (by omega)
    have hz:linkdE m (m.begun f) ⟨min (IntKind.i64.wrap q1 % ((strs m.ns).length:Int)) (IntKind.i64.wrap q2 % ((strs m.ns).length:Int)),max (IntKind.i64.wrap q1 % ((strs m.ns).length:Int)) (IntKind.i64.wrap q2 % ((strs m.ns).length:Int)),1+IntKind.i64.wrap q3 % 100⟩=0:=by
     unfold linkdE
     rw [of_good hg,hle,show ((m.ls.length:Int)==128)=false by rw [beq_eq_false_iff_ne]; omega]; rfl
    rw [hz] at h2; exact h2
   generalize hmp:m.plus ⟨min (IntKind.i64.wrap q1 % ((strs m.ns).length:Int)) (IntKind.i64.wrap q2 % ((strs m.ns).length:Int)),max (IntKind.i64.wrap q1 % ((strs m.ns).length:Int)) (IntKind.i64.wrap q2 % ((strs m.ns).length:Int)),1+IntKind.i64.wrap q3 % 100⟩=mp at c68_ hpl hpc hpf
   have hpn:mp.ns=m.ns:=by rw [← hmp]; rfl
   have hpls:mp.ls.length=m.ls.length+1:=by rw [← hmp]; show (m.ls++[_]).length=_; rw [List.length_append]; rfl
   have hps:=lks_len mp.ls
   have hpsn:=strs_len mp.ns
   have hpn2:mp.ns.length=m.ns.length:=by rw [hpn]
   have hsub:∀ l∈m.ls,l∈mp.ls:=fun l hl=>by rw [← hmp]; exact List.mem_append_left _ hl
   have hpD:nodeD mp f=0:=nodeD_good2 hpc (by
    unfold Ms.nodeE outN
    rw [decide_eq_false (by omega),decide_eq_false (by omega)]; rfl)
   have c21_0:CallDet Tryz.prog 21 [.d m.d,.d (.int .i64 f)] [.slice 1 (ints (m.dist f)),.int .i64 0]:=by
    have h2:=c21 m f (by omega) (by omega)
    unfold Ms.distP at h2
    rw [hD] at h2; exact h2
   have c21_1:CallDet Tryz.prog 21 [.d mp.d,.d (.int .i64 f)] [.slice 1 (ints (mp.dist f)),.int .i64 0]:=by
    have h2:=c21 mp f (by omega) (by omega)
    unfold Ms.distP at h2
    rw [hpD] at h2; exact h2
   have c31_:CallDet Tryz.prog 31 [.d m.d,.d (.int .i64 f)] [(m.begun f).d,.int .i64 0]:=by
    have h2:=c31 m f (by omega) (by omega)
    rw [hD] at h2; exact h2
   have c22_:CallDet Tryz.prog 22 [.d mp.d] [.int .i64 0]:=by
    have h2:=c22 mp (by omega) (by omega)
    rw [hpc] at h2; exact h2
   have hdl:=ints_len (m.dist f)
   have hdl2:=ints_len (mp.dist f)
   have hdn:=dist_len m f
   have hdn2:=dist_len mp f
   refine an ?_ ?_
   refine an ?_ ?_
   (show (0:Int)≤(1:Int); omega)
   (show (1:Int) < (↑(4:Nat):Int); omega)
   refine ca rfl ?_
   refine ar_rem ?_ ?_
   refine an ?_ ?_
   assumption
   assumption
   refine an ?_ ?_
   refine an ?_ ?_
   (show (0:Int)≤(2:Int); omega)
   (show (2:Int) < (↑(4:Nat):Int); omega)
   refine ca rfl ?_
   refine ar_rem ?_ ?_
   refine an ?_ ?_
   assumption
   assumption
   refine sd ?_
   refine sd ?_
   refine an ?_ ?_
   refine an ?_ ?_
   (show (0:Int)≤(3:Int); omega)
   (show (3:Int) < (↑(4:Nat):Int); omega)
   refine ca rfl ?_
   refine ar_rem ?_ ?_
   refine an ?_ ?_
   (show (0:Int)≤IntKind.wrap IntKind.i64 q3; omega)
   (show (1:Int)≤(100:Int); omega)
   refine ar_add ?_ ?_
   refine an ?_ ?_
   (show (-9223372036854775808:Int)≤(1:Int)+IntKind.wrap IntKind.i64 q3 % (100:Int); omega)
   (show (1:Int)+IntKind.wrap IntKind.i64 q3 % (100:Int)≤(9223372036854775807:Int); omega)
   refine sd ?_
   refine b_eq (fun t1=>?_) (fun t1=>?_)
   (exfalso; omega)
   refine ca (c67 m _ _ (by omega) hf.asc) ?_
   refine sd ?_
   refine b_lt (fun t2=>?_) (fun t2=>?_)
   (exfalso; omega)
   refine ca (c18 m (by omega) (by omega)) ?_
   refine ca c21_0 ?_
   refine ca (c18 m (by omega) (by omega)) ?_
   refine ca c31_ ?_
   refine ca (c18 m (by omega) (by omega)) ?_
   refine ca c68_ ?_
   refine ar_add ?_ ?_
   refine an ?_ ?_
   (show (-9223372036854775808:Int)≤(0:Int)+(0:Int); omega)
   (show (0:Int)+(0:Int)≤(9223372036854775807:Int); omega)
   refine ar_add ?_ ?_
   refine an ?_ ?_
   (show (-9223372036854775808:Int)≤(0:Int)+(0:Int)+(0:Int); omega)
   (show (0:Int)+(0:Int)+(0:Int)≤(9223372036854775807:Int); omega)
   refine sd ?_
   refine sd ?_
   refine b_ne (fun t3=>?_) (fun t3=>?_)
   (exfalso; omega)
   refine ar_add ?_ ?_
   refine an ?_ ?_
   (show (-9223372036854775808:Int)≤(↑(List.length (lks (Ms.ls m))):Int)+(1:Int); omega)
   (show (↑(List.length (lks (Ms.ls m))):Int)+(1:Int)≤(9223372036854775807:Int); omega)
   refine sd ?_
   refine b_ne (fun t4=>?_) (fun t4=>?_)
   (exfalso; omega)
   refine ca (c61 mp (by omega) (by omega)) ?_
   refine ca c22_ ?_
   refine sd ?_
   refine ca c21_1 ?_
   refine sd ?_
   refine sd ?_
   refine b_ne (fun t5=>?_) (fun t5=>?_)
   (exfalso; omega)
   refine sd ?_
   refine b_ne (fun t6=>?_) (fun t6=>?_)
   (exfalso; omega)
   rotate_left
   refine v10l (by omega) (by omega) (by omega) (fun i hi=>dist_more hf hpf hpn2 hsub h0 h1 i hi) ?_
   refine ca c16_ ?_
   rotate_left
   all_goals exact hq _ _ rfl
def ir10:AFun:=⟨393,11,[.tmp 6],
 (.seq
 (.reg [0,1] [⟨some 3,.cbx 0 2 (.tmp 0),none⟩,
 ⟨some 4,.cbx 1 4 (.tmp 1),none⟩,
 ⟨some 6,.mov (.cst (.d (.bool false))),none⟩])
 (.seq
 (.seq
 (.reg [] [⟨some 40,.ld true 2 (.tmp 3),none⟩,
 ⟨some 41,.call 58 [(.tmp 40)],none⟩,
 ⟨some 42,.not (.tmp 41),none⟩,
 ⟨some 43,.mov (.tmp 42),none⟩,
 ⟨some 44,.mov (.tmp 2),some (43,false)⟩,
 ⟨some 45,.len (.tmp 44),some (43,false)⟩,
 ⟨some 46,.cmp .gtr (.tmp 45) (.cst (.d (.int .i64 8))),some (43,false)⟩,
 ⟨some 47,.pick (.tmp 43) (.cst (.d (.bool true))) (.tmp 46),none⟩])
 (.cond (.tmp 47)
 (.seq
 (.reg [] [⟨some 48,.call 16 [],none⟩,
 ⟨some 6,.mov (.tmp 48),none⟩])
 .ret)
 .skip))
 (.seq
 (.reg [] [⟨some 49,.fad 0 (.tmp 3),none⟩,
 ⟨some 50,.ld false 1 (.tmp 49),none⟩,
 ⟨some 51,.len (.tmp 50),none⟩,
 ⟨some 7,.mov (.tmp 51),none⟩])
 (.seq
 (.reg [] [⟨some 52,.ixp 4 1 (.tmp 4) (.cst (.d (.int .i64 0))),none⟩,
 ⟨some 53,.ld false 1 (.tmp 52),none⟩,
 ⟨some 54,.conv .i64 (.tmp 53),none⟩,
 ⟨some 55,.mov (.tmp 7),none⟩,
 ⟨some 56,.arith .rem .i64 (.tmp 54) (.tmp 55),none⟩,
 ⟨some 8,.mov (.tmp 56),none⟩])
 (.seq
 (.reg [] [⟨some 9,.mov (.cst (.nils 2)),none⟩])
 (.seq
 (.seq
 (.reg [] [⟨some 57,.mov (.tmp 2),none⟩,
 ⟨some 58,.len (.tmp 57),none⟩,
 ⟨some 59,.mov (.cst (.d (.int .i64 0))),none⟩])
 (.post [3,4,7,8,9] [0,1,2,3,4]
 (.block 0
 (.asrow 4 76 2 9
 (.keep [3,4,7,8,9,57,58,59] [0,1]
 (.loop
 (.post [3,4,7,8,9,57,58,59] [2,3,4]
 (.seq
 (.reg [] [⟨some 60,.cmp .lss (.tmp 59) (.tmp 58),none⟩])
 (.seq
 (.cond (.tmp 60)
 .skip
 (.exit 0))
 (.seq
 (.block 1
 (.seq
 (.reg [2] [⟨some 61,.ixa 2 (.tmp 57) (.tmp 59),none⟩,
 ⟨some 62,.ld true 2 (.tmp 61),none⟩,
 ⟨some 11,.alloc 2 [(.d (.int .u8 0)),(.d (.int .u8 0))],none⟩,
 ⟨none,.st 2 (.tmp 11) (.tmp 62),none⟩])
 (.regd [3,4] [⟨some 63,.mov (.tmp 9),none⟩,
 ⟨some 64,.ixp 2 1 (.tmp 11) (.cst (.d (.int .i64 0))),none⟩,
 ⟨some 65,.ld false 1 (.tmp 64),none⟩,
 ⟨some 66,.conv .i64 (.tmp 65),none⟩,
 ⟨some 67,.mov (.tmp 7),none⟩,
 ⟨some 68,.arith .rem .i64 (.tmp 66) (.tmp 67),none⟩,
 ⟨some 69,.ixp 2 1 (.tmp 11) (.cst (.d (.int .i64 1))),none⟩,
 ⟨some 70,.ld false 1 (.tmp 69),none⟩,
 ⟨some 71,.conv .i64 (.tmp 70),none⟩,
 ⟨some 72,.mov (.tmp 7),none⟩,
 ⟨some 73,.arith .rem .i64 (.tmp 71) (.tmp 72),none⟩,
 ⟨some 74,.build [(.d (.int .i64 0)),(.d (.int .i64 0))] [(0,1,(.tmp 68)),(1,1,(.tmp 73))],none⟩,
 ⟨some 75,.bsl 3 76 2 1 [(.agg [(.int .i64 0),(.int .i64 0)])] [(0,(.tmp 74))],none⟩,
 ⟨some 76,.app 4 76 2 16 (.tmp 63) (.tmp 75),none⟩,
 ⟨some 9,.mov (.tmp 76),none⟩] [(0,1),(0,2),(0,3),(0,4),(1,4),(2,4),(3,4),(0,5),(0,6),(1,6),(2,6),(3,6),(4,6),(5,6),(0,7),(1,7),(2,7),(3,7),(4,7),(5,7),(0,8),(1,8),(2,8),(3,8),(4,8),(5,8),(0,9),(1,9),(2,9),(3,9),(4,9),(5,9),(6,9),(7,9),(8,9),(0,10),(1,10),(2,10),(3,10),(4,10),(5,10),(0,11),(0,12)])))
 (.reg [] [⟨some 77,.arith .add .i64 (.tmp 59) (.cst (.d (.int .i64 1))),none⟩,
 ⟨some 59,.mov (.tmp 77),none⟩])))))))))))
 (.seq
 (.reg [] [⟨some 79,.ld true 2 (.tmp 3),none⟩,
 ⟨some 80,.call 18 [(.tmp 79)],none⟩,
 ⟨some 81,.mov (.tmp 8),none⟩,
 ⟨some 82,.call 40 [(.tmp 80),(.tmp 81),(.cst (.nils 2))],none⟩,
 ⟨some 78,.mov (.tmp 82),none⟩,
 ⟨some 83,.ext 0 (.tmp 78),none⟩,
 ⟨some 84,.ext 1 (.tmp 78),none⟩,
 ⟨some 85,.ext 2 (.tmp 78),none⟩,
 ⟨some 12,.mov (.tmp 83),none⟩,
 ⟨some 13,.mov (.tmp 84),none⟩,
 ⟨some 14,.mov (.tmp 85),none⟩])
 (.seq
 (.reg [5,6] [⟨some 87,.ld true 2 (.tmp 3),none⟩,
 ⟨some 88,.call 18 [(.tmp 87)],none⟩,
 ⟨some 89,.mov (.tmp 8),none⟩,
 ⟨some 90,.bsl 5 76 2 0 [] [],none⟩,
 ⟨some 91,.mov (.tmp 9),none⟩,
 ⟨some 92,.app 6 76 2 16 (.tmp 90) (.tmp 91),none⟩,
 ⟨some 93,.call 40 [(.tmp 88),(.tmp 89),(.tmp 92)],none⟩,
 ⟨some 86,.mov (.tmp 93),none⟩,
 ⟨some 94,.ext 0 (.tmp 86),none⟩,
 ⟨some 95,.ext 1 (.tmp 86),none⟩,
 ⟨some 96,.ext 2 (.tmp 86),none⟩,
 ⟨some 15,.mov (.tmp 94),none⟩,
 ⟨some 16,.mov (.tmp 95),none⟩,
 ⟨some 17,.mov (.tmp 96),none⟩])
 (.seq
 (.reg [] [⟨some 98,.ld true 2 (.tmp 3),none⟩,
 ⟨some 99,.call 18 [(.tmp 98)],none⟩,
 ⟨some 100,.mov (.tmp 8),none⟩,
 ⟨some 101,.call 45 [(.tmp 99),(.tmp 100)],none⟩,
 ⟨some 97,.mov (.tmp 101),none⟩,
 ⟨some 102,.ext 0 (.tmp 97),none⟩,
 ⟨some 103,.ext 1 (.tmp 97),none⟩,
 ⟨some 18,.mov (.tmp 102),none⟩,
 ⟨some 19,.mov (.tmp 103),none⟩])
 (.seq
 (.seq
 (.reg [] [⟨some 104,.mov (.tmp 14),none⟩,
 ⟨some 105,.mov (.tmp 17),none⟩,
 ⟨some 106,.arith .add .i64 (.tmp 104) (.tmp 105),none⟩,
 ⟨some 107,.mov (.tmp 19),none⟩,
 ⟨some 108,.arith .add .i64 (.tmp 106) (.tmp 107),none⟩,
 ⟨some 109,.cmp .neq (.tmp 108) (.cst (.d (.int .i64 0))),none⟩,
 ⟨some 110,.mov (.tmp 109),none⟩,
 ⟨some 111,.mov (.tmp 12),some (110,false)⟩,
 ⟨some 112,.len (.tmp 111),some (110,false)⟩,
 ⟨some 113,.mov (.tmp 7),some (110,false)⟩,
 ⟨some 114,.cmp .neq (.tmp 112) (.tmp 113),some (110,false)⟩,
 ⟨some 115,.pick (.tmp 110) (.cst (.d (.bool true))) (.tmp 114),none⟩,
 ⟨some 116,.mov (.tmp 115),none⟩,
 ⟨some 117,.mov (.tmp 15),some (116,false)⟩,
 ⟨some 118,.len (.tmp 117),some (116,false)⟩,
 ⟨some 119,.mov (.tmp 7),some (116,false)⟩,
 ⟨some 120,.cmp .neq (.tmp 118) (.tmp 119),some (116,false)⟩,
 ⟨some 121,.pick (.tmp 116) (.cst (.d (.bool true))) (.tmp 120),none⟩,
 ⟨some 122,.mov (.tmp 121),none⟩,
 ⟨some 123,.mov (.tmp 13),some (122,false)⟩,
 ⟨some 124,.mov (.tmp 18),some (122,false)⟩,
 ⟨some 125,.len (.tmp 124),some (122,false)⟩,
 ⟨some 126,.cmp .neq (.tmp 123) (.tmp 125),some (122,false)⟩,
 ⟨some 127,.pick (.tmp 122) (.cst (.d (.bool true))) (.tmp 126),none⟩,
 ⟨some 128,.mov (.tmp 127),none⟩,
 ⟨some 129,.mov (.tmp 16),some (128,false)⟩,
 ⟨some 130,.mov (.tmp 13),some (128,false)⟩,
 ⟨some 131,.cmp .gtr (.tmp 129) (.tmp 130),some (128,false)⟩,
 ⟨some 132,.pick (.tmp 128) (.cst (.d (.bool true))) (.tmp 131),none⟩,
 ⟨some 133,.mov (.tmp 132),none⟩,
 ⟨some 134,.mov (.tmp 12),some (133,false)⟩,
 ⟨some 135,.mov (.tmp 8),some (133,false)⟩,
 ⟨some 136,.ixa 1 (.tmp 134) (.tmp 135),some (133,false)⟩,
 ⟨some 137,.ld false 1 (.tmp 136),some (133,false)⟩,
 ⟨some 138,.cmp .neq (.tmp 137) (.cst (.d (.int .i64 0))),some (133,false)⟩,
 ⟨some 139,.pick (.tmp 133) (.cst (.d (.bool true))) (.tmp 138),none⟩,
 ⟨some 140,.mov (.tmp 139),none⟩,
 ⟨some 141,.mov (.tmp 15),some (140,false)⟩,
 ⟨some 142,.mov (.tmp 8),some (140,false)⟩,
 ⟨some 143,.ixa 1 (.tmp 141) (.tmp 142),some (140,false)⟩,
 ⟨some 144,.ld false 1 (.tmp 143),some (140,false)⟩,
 ⟨some 145,.cmp .neq (.tmp 144) (.cst (.d (.int .i64 0))),some (140,false)⟩,
 ⟨some 146,.pick (.tmp 140) (.cst (.d (.bool true))) (.tmp 145),none⟩])
 (.cond (.tmp 146)
 (.seq
 (.reg [] [⟨some 6,.mov (.cst (.d (.bool false))),none⟩])
 .ret)
 .skip))
 (.seq
 (.reg [] [⟨some 20,.mov (.cst (.d (.int .i64 0))),none⟩])
 (.seq
 (.seq
 (.reg [] [⟨some 147,.mov (.tmp 7),none⟩,
 ⟨some 148,.mov (.cst (.d (.int .i64 0))),none⟩])
 (.keep [3,4,7,8,12,15,16,18,20,147,148] [0,1,2,3,4,5,6] seg10e))
 (.seq
 (.seq
 (.reg [] [⟨some 256,.mov (.tmp 20),none⟩,
 ⟨some 257,.mov (.tmp 16),none⟩,
 ⟨some 258,.cmp .neq (.tmp 256) (.tmp 257),none⟩])
 (.cond (.tmp 258)
 (.seq
 (.reg [] [⟨some 6,.mov (.cst (.d (.bool false))),none⟩])
 .ret)
 .skip))
 (.keep [3,4,7,8] [] seg10k))))))))))))))⟩
theorem c10 (hw : CallDet Tryz.prog 16 [] [.bool true]) (m : Ms) (q0 q1 q2 q3 : Int) (lo : List (Int × Int)) (hm : m.ns.length ≤ 1048576) (hl : m.ls.length ≤ 1048576) (hlo : lo.length ≤ 1048576)
  (b0:0≤q0∧q0≤255) (b1:0≤q1∧q1≤255) (b2:0≤q2∧q2≤255) (b3:0≤q3∧q3≤255) (hlp:∀ p∈lo,(0≤p.1∧p.1≤255)∧(0≤p.2∧p.2≤255)) :
  CallDet Tryz.prog 10 [.d m.d,.d (.agg [.int .u8 q0,.int .u8 q1,.int .u8 q2,.int .u8 q3]),.d (.slice 2 (u8ps lo))] [.bool true]:=by
 have c16_:=hw
 have hlen:=u8ps_len lo
 have hsl:=strs_len m.ns
 refine call_of_vc (x:=ir10) (by kernel_rfl) rfl ?_
 by_cases hfw:fewB m=true
 ·have c58_:CallDet Tryz.prog 58 [.d m.d] [.bool true]:=by have h1:=c58 m hm hl; rw [hfw] at h1; exact h1
  have hf4:(1≤(m.ns.length:Int)∧(m.ns.length:Int)≤8)∧(m.ls.length:Int)≤18∧m.chk=0:=by
   unfold fewB at hfw
   simp only [Bool.and_eq_true,decide_eq_true_eq,beq_iff_eq] at hfw
   exact ⟨⟨hfw.1,hfw.2.1⟩,hfw.2.2.1,hfw.2.2.2⟩
  have hn1:=hf4.1.1
  have hn8:=hf4.1.2
  have hl18:=hf4.2.1
  have hchk:=hf4.2.2
  have hf:=chk_fine hchk
  by_cases h8:((u8ps lo).length:Int)≤8
  ·have hn0:((strs m.ns).length:Int)≠0:=by omega
   have hpos:0 < ((strs m.ns).length:Int):=by omega
   have w0:0≤IntKind.i64.wrap q0:=by rw [IntKind.wrap_i64]; omega
   refine ca c58_ ?_
   refine sd ?_
   refine b_lt (fun t1=>?_) (fun t1=>?_)
   (exfalso; omega)
   refine an ?_ ?_
   refine an ?_ ?_
   (show (0:Int)≤(0:Int); omega)
   (show (0:Int) < (↑(4:Nat):Int); omega)
   refine ca rfl ?_
   refine ar_rem ?_ ?_
   refine an ?_ ?_
   assumption
   assumption
   rotate_left
   refine loop_u (fun k:Nat=>[(9,.sl 4 (prs ((lo.take k).map (redp ((strs m.ns).length:Int)))).length),(59,.d (.int .i64 k))]) (fun k=>[(4,.row 76 2 (prs ((lo.take k).map (redp ((strs m.ns).length:Int)))) false)]) (fun k=>k≤lo.length) (fun k=>lo.length - k) 0 rfl (Nat.zero_le _) ?_
   intro k hk
   have hk:k≤lo.length:=hk
   have hlt:(prs ((lo.take k).map (redp ((strs m.ns).length:Int)))).length=k:=by rw [prs_len,List.length_map,List.length_take]; omega
   dsimp only
   by_cases hkl:k < lo.length
   ·refine Exists.elim (get_lt lo hkl) fun p hp=>?_
    have hx:=u8ps_at hp
    have hpr:=hlp p (List.mem_of_getElem? hp)
    have w1:IntKind.i64.wrap p.1=p.1:=by rw [IntKind.wrap_i64]; omega
    have w2:IntKind.i64.wrap p.2=p.2:=by rw [IntKind.wrap_i64]; omega
    have e:prs ((lo.take (k+1)).map (redp ((strs m.ns).length:Int)))=prs ((lo.take k).map (redp ((strs m.ns).length:Int)))++[.agg [.int .i64 (IntKind.i64.wrap p.1 % ((strs m.ns).length:Int)),.int .i64 (IntKind.i64.wrap p.2 % ((strs m.ns).length:Int))]]:=by
     rw [take_map_succ _ hp]; unfold prs; rw [List.map_append]; rfl
    refine sd ?_
    refine b_lt (fun t2=>?_) (fun t2=>?_)
    refine ix_at hx ?_ ?_
    (show (0:Int)≤(↑k:Int); omega)
    refine an ?_ ?_
    refine an ?_ ?_
    (show (0:Int)≤(0:Int); omega)
    (show (0:Int) < (↑(2:Nat):Int); omega)
    refine ca rfl ?_
    refine ar_rem ?_ ?_
    refine an ?_ ?_
    (show (0:Int)≤IntKind.wrap IntKind.i64 (Prod.fst p); omega)
    assumption
    refine an ?_ ?_
    refine an ?_ ?_
    (show (0:Int)≤(1:Int); omega)
    (show (1:Int) < (↑(2:Nat):Int); omega)
    refine ca rfl ?_
    refine ar_rem ?_ ?_
    refine an ?_ ?_
    (show (0:Int)≤IntKind.wrap IntKind.i64 (Prod.snd p); omega)
    assumption
    refine sd ?_
    refine sd ?_
    refine sd ?_
    refine an ?_ ?_
    refine an ?_ ?_
    exact rfl
    refine an ?_ ?_
    exact rfl
    refine an ?_ ?_
    exact rfl
    refine an ?_ ?_
    (show (List.length (prs (List.map (redp (↑(List.length (strs (Ms.ns m))):Int)) (List.take k lo)))+(1:Nat)) * (16:Nat)≤(2:Nat) ^ (47:Nat); omega)
    (show List.length (prs (List.map (redp (↑(List.length (strs (Ms.ns m))):Int)) (List.take k lo)))+(1:Nat)≤(2:Nat) ^ (47:Nat); omega)
    refine ar_add ?_ ?_
    refine an ?_ ?_
    (show (-9223372036854775808:Int)≤(↑k:Int)+(1:Int); omega)
    (show (↑k:Int)+(1:Int)≤(9223372036854775807:Int); omega)
    rotate_left
    (exfalso; omega)
    refine ⟨k+1,⟨by show k+1≤lo.length; omega,by show lo.length - (k+1) < lo.length - k; omega⟩,?_⟩
    rw [e]; rfl
   ·have ek:lo.take k=lo:=List.take_of_length_le (by omega)
    rw [ek]
    generalize hlq:lo.map (redp ((strs m.ns).length:Int))=lost
    have hlql:lost.length=lo.length:=by rw [← hlq]; exact List.length_map _
    have hpl:=prs_len lost
    have hpe:pairsE m lost=0:=by
     unfold pairsE
     rw [decide_eq_false (by omega)]
     show firstOf (lost.map (pairE m))=0
     refine first_all _ (fun x hx=>?_)
     obtain ⟨p,hp,rfl⟩:=List.mem_map.1 hx
     rw [← hlq] at hp
     obtain ⟨q,hq,rfl⟩:=List.mem_map.1 hp
     exact pair_red hpos (by omega) q
    have f0:0≤IntKind.i64.wrap q0 % ((strs m.ns).length:Int):=Int.emod_nonneg _ hn0
    have f1:=Int.emod_lt_of_pos (IntKind.i64.wrap q0) hpos
    have hfE:m.nodeE (IntKind.i64.wrap q0 % ((strs m.ns).length:Int))=0:=by
     unfold Ms.nodeE outN
     rw [decide_eq_false (by omega),decide_eq_false (by omega)]; rfl
    have hD:nodeD m (IntKind.i64.wrap q0 % ((strs m.ns).length:Int))=0:=nodeD_good2 hchk hfE
    have c40_0:CallDet Tryz.prog 40 [.d m.d,.d (.int .i64 (IntKind.i64.wrap q0 % ((strs m.ns).length:Int))),.d (.slice 2 [])] [.slice 1 (ints (m.floods [] (IntKind.i64.wrap q0 % ((strs m.ns).length:Int)))),.int .i64 (known (m.floods [] (IntKind.i64.wrap q0 % ((strs m.ns).length:Int)))),.int .i64 0]:=by
     have h2:=c40 m (IntKind.i64.wrap q0 % ((strs m.ns).length:Int)) [] hm hl (by decide)
     have e:floodE m (IntKind.i64.wrap q0 % ((strs m.ns).length:Int)) []=0:=by unfold floodE; rw [hchk,hfE]; rfl
     unfold Ms.floodsP Ms.floodsN at h2
     rw [e] at h2; exact h2
    have c40_1:CallDet Tryz.prog 40 [.d m.d,.d (.int .i64 (IntKind.i64.wrap q0 % ((strs m.ns).length:Int))),.d (.slice 2 (prs lost))] [.slice 1 (ints (m.floods lost (IntKind.i64.wrap q0 % ((strs m.ns).length:Int)))),.int .i64 (known (m.floods lost (IntKind.i64.wrap q0 % ((strs m.ns).length:Int)))),.int .i64 0]:=by
     have h2:=c40 m (IntKind.i64.wrap q0 % ((strs m.ns).length:Int)) lost hm hl (by omega)
     have e:floodE m (IntKind.i64.wrap q0 % ((strs m.ns).length:Int)) lost=0:=by unfold floodE; rw [hchk,hfE,hpe]; rfl
     unfold Ms.floodsP Ms.floodsN at h2
     rw [e] at h2; exact h2
    have c45_:CallDet Tryz.prog 45 [.d m.d,.d (.int .i64 (IntKind.i64.wrap q0 % ((strs m.ns).length:Int)))] [.slice 1 (ints (m.reach (IntKind.i64.wrap q0 % ((strs m.ns).length:Int)))),.int .i64 0]:=by
     have h2:=c45 m (IntKind.i64.wrap q0 % ((strs m.ns).length:Int)) hm hl
     unfold Ms.reachP at h2
     rw [hD] at h2; exact h2
    have g1:=flood_from f0 (by omega) ([]:List (Int × Int)) (m:=m)
    have g2:=flood_from f0 (by omega) lost (m:=m)
    have hfl:=floods_len m [] (IntKind.i64.wrap q0 % ((strs m.ns).length:Int))
    have hfl2:=floods_len m lost (IntKind.i64.wrap q0 % ((strs m.ns).length:Int))
    have hil:=ints_len (m.floods [] (IntKind.i64.wrap q0 % ((strs m.ns).length:Int)))
    have hil2:=ints_len (m.floods lost (IntKind.i64.wrap q0 % ((strs m.ns).length:Int)))
    have hrl:=ints_len (m.reach (IntKind.i64.wrap q0 % ((strs m.ns).length:Int)))
    have hkr:=known_reach hf f0 (by omega)
    have hkf:=known_fewer f0 (by omega) lost (m:=m)
    have hv0:(ints (m.floods [] (IntKind.i64.wrap q0 % ((strs m.ns).length:Int))))[(IntKind.i64.wrap q0 % ((strs m.ns).length:Int)).toNat]?=some (.int .i64 0):=by
     rw [ints_at0 (by omega),g1]
    have hv1:(ints (m.floods lost (IntKind.i64.wrap q0 % ((strs m.ns).length:Int))))[(IntKind.i64.wrap q0 % ((strs m.ns).length:Int)).toNat]?=some (.int .i64 0):=by
     rw [ints_at0 (by omega),g2]
    refine sd ?_
    refine b_lt (fun t2=>?_) (fun t2=>?_)
    (exfalso; omega)
    refine ca (c18 m (by omega) (by omega)) ?_
    refine ca c40_0 ?_
    refine ca (c18 m (by omega) (by omega)) ?_
    refine sd ?_
    refine sd ?_
    refine sd ?_
    refine an ?_ ?_
    refine an ?_ ?_
    exact rfl
    refine an ?_ ?_
    exact rfl
    refine an ?_ ?_
    exact rfl
    refine an ?_ ?_
    (show ((0:Nat)+List.length (prs lost)) * (16:Nat)≤(2:Nat) ^ (47:Nat); omega)
    (show (0:Nat)+List.length (prs lost)≤(2:Nat) ^ (47:Nat); omega)
    refine sd ?_
    refine ca c40_1 ?_
    refine ca (c18 m (by omega) (by omega)) ?_
    refine ca c45_ ?_
    refine ar_add ?_ ?_
    refine an ?_ ?_
    (show (-9223372036854775808:Int)≤(0:Int)+(0:Int); omega)
    (show (0:Int)+(0:Int)≤(9223372036854775807:Int); omega)
    refine ar_add ?_ ?_
    refine an ?_ ?_
    (show (-9223372036854775808:Int)≤(0:Int)+(0:Int)+(0:Int); omega)
    (show (0:Int)+(0:Int)+(0:Int)≤(9223372036854775807:Int); omega)
    refine sd ?_
    refine sd ?_
    refine b_ne (fun t3=>?_) (fun t3=>?_)
    (exfalso; omega)
    refine sd ?_
    refine b_ne (fun t4=>?_) (fun t4=>?_)
    (exfalso; omega)
    refine sd ?_
    refine b_ne (fun t5=>?_) (fun t5=>?_)
    (exfalso; omega)
    refine sd ?_
    refine b_lt (fun t6=>?_) (fun t6=>?_)
    (exfalso; omega)
    refine ix_at hv0 ?_ ?_
    assumption
    refine sd ?_
    refine ix_at hv1 ?_ ?_
    assumption
    refine sd ?_
    rotate_left
    refine v10e hchk f0 (by omega) ?_
    refine sd ?_
    refine b_ne (fun t7=>?_) (fun t7=>?_)
    (exfalso; omega)
    rotate_left
    exact v10k hw hchk f0 (by omega) (by omega) b1 b2 b3 (fun sl hp h=>end_b h)
  ·refine ca c58_ ?_
   refine sd ?_
   refine b_lt (fun t1=>?_) (fun t1=>?_)
   refine ca c16_ ?_
   exact rfl
   (exfalso; omega)
 ·have hff:fewB m=false:=by simpa using hfw
  have c58_:CallDet Tryz.prog 58 [.d m.d] [.bool false]:=by have h1:=c58 m hm hl; rw [hff] at h1; exact h1
  refine ca c58_ ?_
  refine sd ?_
  refine ca c16_ ?_
  exact rfl
end Vc
