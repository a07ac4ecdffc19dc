import Derived.Test.YtkopkfcfgiijmaaGreatDoorG09
import Derived.Test.YtkopkfcfgiijmaaGreatDoorG04
set_option linter.unusedSectionVars false
set_option linter.unusedVariables false
set_option linter.unusedSimpArgs false
set_option maxRecDepth 10000
set_option maxHeartbeats 4000000
namespace Vc
open Go Go.Proofs
def prD (p:Int × Int):Data:=.agg [.int .i64 p.1,.int .i64 p.2]
def prs (l:List (Int × Int)):List Data:=l.map prD
theorem prs_len (l:List (Int × Int)):(prs l).length=l.length:=List.length_map _
theorem prs_at {l:List (Int × Int)} {k:Nat} {p:Int × Int} (h:l[k]?=some p):(prs l)[(k:Int).toNat]?=some (.agg [.int .i64 p.1,.int .i64 p.2]):=by simp [prs,h,prD]
def samP (p:Int × Int) (x y:Int):Bool:=(p.1==x)&&((p.2==y)&&true)
def lostB:List (Int × Int)→Int→Int→Bool
 | [],_,_=>false
 | p::r,x,y=>bif samP p x y then true else lostB r x y
def ixP:List (Int × Int)→Int→Int→Int→Int
 | [],_,_,_=>-1
 | p::r,x,y,k=>bif samP p x y then k else ixP r x y (k+1)
theorem ixP_ge (x y:Int):∀ (l:List (Int × Int)) (k:Int),0≤k→decide (0≤ixP l x y k)=lostB l x y
 | [],k,_=>rfl
 | p::r,k,hk=>by
  unfold ixP lostB
  cases samP p x y
  ·exact ixP_ge x y r (k+1) (by omega)
  ·exact decide_eq_true hk
theorem samP_sym (p:Int × Int) (x y:Int):((x==p.1)&&((y==p.2)&&true))=samP p x y:=by
 unfold samP
 rw [show (x==p.1)=(p.1==x) from Bool.eq_iff_iff.2 (by rw [beq_iff_eq,beq_iff_eq]; exact eq_comm),show (y==p.2)=(p.2==y) from Bool.eq_iff_iff.2 (by rw [beq_iff_eq,beq_iff_eq]; exact eq_comm)]
def ir39:AFun:=⟨11,0,[.tmp 2],
 (.seq
 (.reg [] [⟨some 2,.mov (.cst (.d (.bool false))),none⟩])
 (.seq
 (.reg [] [⟨some 3,.mov (.tmp 0),none⟩,
 ⟨some 4,.len (.tmp 3),none⟩,
 ⟨some 5,.cmp .leq (.tmp 4) (.cst (.d (.int .i64 12))),none⟩,
 ⟨some 6,.mov (.tmp 5),none⟩,
 ⟨some 7,.mov (.tmp 0),some (6,false)⟩,
 ⟨some 8,.len (.tmp 7),some (6,false)⟩,
 ⟨some 9,.cmp .eql (.tmp 8) (.cst (.d (.int .i64 257))),some (6,false)⟩,
 ⟨some 10,.pick (.tmp 6) (.cst (.d (.bool true))) (.tmp 9),none⟩,
 ⟨some 2,.mov (.tmp 10),none⟩])
 .ret))⟩
def ir43:AFun:=⟨33,1,[.tmp 4],
 (.seq
 (.reg [0] [⟨some 2,.cbx 0 2 (.tmp 0),none⟩,
 ⟨some 4,.mov (.cst (.d (.int .i64 0))),none⟩])
 (.seq
 (.seq
 (.reg [] [⟨some 6,.mov (.tmp 1),none⟩,
 ⟨some 7,.len (.tmp 6),none⟩,
 ⟨some 8,.cmp .gtr (.tmp 7) (.cst (.d (.int .i64 256))),none⟩])
 (.cond (.tmp 8)
 (.seq
 (.reg [] [⟨some 4,.mov (.cst (.d (.int .i64 5))),none⟩])
 .ret)
 .skip))
 (.seq
 (.seq
 (.reg [] [⟨some 5,.mov (.cst (.d (.int .i64 0))),none⟩])
 (.post [] [0]
 (.block 0
 (.keep [1,2,5] [0]
 (.loop
 (.post [1,2,5] []
 (.seq
 (.seq
 (.reg [] [⟨some 9,.mov (.tmp 5),none⟩,
 ⟨some 10,.mov (.tmp 1),none⟩,
 ⟨some 11,.len (.tmp 10),none⟩,
 ⟨some 12,.cmp .lss (.tmp 9) (.tmp 11),none⟩])
 (.cond (.tmp 12)
 .skip
 (.exit 0)))
 (.seq
 (.block 1
 (.seq
 (.regd [] [⟨some 15,.ld true 2 (.tmp 2),none⟩,
 ⟨some 16,.mov (.tmp 1),none⟩,
 ⟨some 17,.mov (.tmp 5),none⟩,
 ⟨some 18,.ixa 2 (.tmp 16) (.tmp 17),none⟩,
 ⟨some 19,.ixp 2 1 (.tmp 18) (.cst (.d (.int .i64 0))),none⟩,
 ⟨some 20,.ld false 1 (.tmp 19),none⟩,
 ⟨some 21,.call 43 [(.tmp 15),(.tmp 20)],none⟩,
 ⟨some 22,.not (.tmp 21),none⟩,
 ⟨some 23,.mov (.tmp 22),none⟩,
 ⟨some 24,.ld true 2 (.tmp 2),some (23,false)⟩,
 ⟨some 25,.mov (.tmp 1),some (23,false)⟩,
 ⟨some 26,.mov (.tmp 5),some (23,false)⟩,
 ⟨some 27,.ixa 2 (.tmp 25) (.tmp 26),some (23,false)⟩,
 ⟨some 28,.ixp 2 1 (.tmp 27) (.cst (.d (.int .i64 1))),some (23,false)⟩,
 ⟨some 29,.ld false 1 (.tmp 28),some (23,false)⟩,
 ⟨some 30,.call 43 [(.tmp 24),(.tmp 29)],some (23,false)⟩,
 ⟨some 31,.not (.tmp 30),some (23,false)⟩,
 ⟨some 32,.pick (.tmp 23) (.cst (.d (.bool true))) (.tmp 31),none⟩] [(0,1),(0,2),(1,2),(0,3),(0,4),(0,5),(9,10),(9,11),(10,11),(9,12),(9,13),(9,14)])
 (.cond (.tmp 32)
 (.seq
 (.reg [] [⟨some 4,.mov (.cst (.d (.int .i64 10))),none⟩])
 .ret)
 .skip)))
 (.reg [] [⟨some 13,.mov (.tmp 5),none⟩,
 ⟨some 14,.arith .add .i64 (.tmp 13) (.cst (.d (.int .i64 1))),none⟩,
 ⟨some 5,.mov (.tmp 14),none⟩])))))))))
 (.seq
 (.reg [] [⟨some 4,.mov (.cst (.d (.int .i64 0))),none⟩])
 .ret))))⟩
def ir107:AFun:=⟨12,1,[.tmp 4],
 (.seq
 (.reg [0] [⟨some 2,.cbx 0 2 (.tmp 0),none⟩,
 ⟨some 4,.mov (.cst (.d (.int .i64 0))),none⟩])
 (.seq
 (.seq
 (.reg [] [⟨some 5,.mov (.tmp 1),none⟩,
 ⟨some 6,.len (.tmp 5),none⟩,
 ⟨some 7,.cmp .gtr (.tmp 6) (.cst (.d (.int .i64 256))),none⟩])
 (.cond (.tmp 7)
 (.seq
 (.reg [] [⟨some 4,.mov (.cst (.d (.int .i64 5))),none⟩])
 .ret)
 .skip))
 (.seq
 (.reg [] [⟨some 8,.mov (.tmp 1),none⟩,
 ⟨some 9,.mkf (.func 88) [] [(.tmp 2)],none⟩,
 ⟨some 10,.call 87 [(.tmp 8),(.tmp 9)],none⟩,
 ⟨some 11,.call 31 [(.tmp 10)],none⟩,
 ⟨some 4,.mov (.tmp 11),none⟩])
 .ret)))⟩
def ir109:AFun:=⟨9,1,[.tmp 4],
 (.seq
 (.reg [0] [⟨some 3,.cbx 0 2 (.tmp 1),none⟩,
 ⟨some 4,.mov (.cst (.d (.bool false))),none⟩])
 (.seq
 (.reg [] [⟨some 5,.mov (.tmp 0),none⟩,
 ⟨some 6,.ld true 2 (.tmp 3),none⟩,
 ⟨some 7,.call 91 [(.tmp 5),(.tmp 6)],none⟩,
 ⟨some 8,.cmp .geq (.tmp 7) (.cst (.d (.int .i64 0))),none⟩,
 ⟨some 4,.mov (.tmp 8),none⟩])
 .ret))⟩
def ir110:AFun:=⟨22,0,[.tmp 6],
 (.seq
 (.reg [] [⟨some 6,.mov (.cst (.d (.bool false))),none⟩])
 (.seq
 (.seq
 (.reg [] [⟨some 7,.mov (.cst (.d (.int .i64 0))),none⟩])
 (.post [] []
 (.block 0
 (.keep [0,1,2,7] []
 (.loop
 (.post [0,1,2,7] []
 (.seq
 (.seq
 (.reg [] [⟨some 8,.mov (.tmp 7),none⟩,
 ⟨some 9,.mov (.tmp 0),none⟩,
 ⟨some 10,.len (.tmp 9),none⟩,
 ⟨some 11,.cmp .lss (.tmp 8) (.tmp 10),none⟩])
 (.cond (.tmp 11)
 .skip
 (.exit 0)))
 (.seq
 (.block 1
 (.seq
 (.reg [] [⟨some 14,.mov (.tmp 0),none⟩,
 ⟨some 15,.mov (.tmp 7),none⟩,
 ⟨some 16,.ixa 2 (.tmp 14) (.tmp 15),none⟩,
 ⟨some 17,.ld true 2 (.tmp 16),none⟩,
 ⟨some 18,.mov (.tmp 1),none⟩,
 ⟨some 19,.mov (.tmp 2),none⟩,
 ⟨some 20,.build [(.d (.int .i64 0)),(.d (.int .i64 0))] [(0,1,(.tmp 18)),(1,1,(.tmp 19))],none⟩,
 ⟨some 21,.aeq false [0,0] (.tmp 17) (.tmp 20),none⟩])
 (.cond (.tmp 21)
 (.seq
 (.reg [] [⟨some 6,.mov (.cst (.d (.bool true))),none⟩])
 .ret)
 .skip)))
 (.reg [] [⟨some 12,.mov (.tmp 7),none⟩,
 ⟨some 13,.arith .add .i64 (.tmp 12) (.cst (.d (.int .i64 1))),none⟩,
 ⟨some 7,.mov (.tmp 13),none⟩])))))))))
 (.seq
 (.reg [] [⟨some 6,.mov (.cst (.d (.bool false))),none⟩])
 .ret)))⟩
def ir145:AFun:=⟨22,3,[.tmp 4],
 (.seq
 (.reg [] [⟨some 4,.mov (.cst (.nils 1)),none⟩])
 (.seq
 (.reg [] [⟨some 5,.mov (.cst (.nils 1)),none⟩])
 (.seq
 (.seq
 (.reg [] [⟨some 8,.mov (.tmp 0),none⟩,
 ⟨some 9,.len (.tmp 8),none⟩,
 ⟨some 10,.mov (.cst (.d (.int .i64 0))),none⟩])
 (.post [5] [0,1,2]
 (.block 0
 (.asrow 2 33 1 5
 (.keep [1,5,8,9,10] []
 (.loop
 (.post [1,5,8,9,10] [0,1,2]
 (.seq
 (.reg [] [⟨some 11,.cmp .lss (.tmp 10) (.tmp 9),none⟩])
 (.seq
 (.cond (.tmp 11)
 .skip
 (.exit 0))
 (.seq
 (.block 1
 (.seq
 (.reg [0] [⟨some 12,.ixa 2 (.tmp 8) (.tmp 10),none⟩,
 ⟨some 13,.ld true 2 (.tmp 12),none⟩,
 ⟨some 7,.alloc 0 [(.d (.int .i64 0)),(.d (.int .i64 0))],none⟩,
 ⟨none,.st 2 (.tmp 7) (.tmp 13),none⟩])
 (.reg [1,2] [⟨some 14,.mov (.tmp 5),none⟩,
 ⟨some 15,.mov (.tmp 1),none⟩,
 ⟨some 16,.ld true 2 (.tmp 7),none⟩,
 ⟨some 17,.callv (.tmp 15) [(.tmp 16)],none⟩,
 ⟨some 18,.bsl 1 33 1 1 [(.int .i64 0)] [(0,(.tmp 17))],none⟩,
 ⟨some 19,.app 2 33 1 8 (.tmp 14) (.tmp 18),none⟩,
 ⟨some 5,.mov (.tmp 19),none⟩])))
 (.reg [] [⟨some 20,.arith .add .i64 (.tmp 10) (.cst (.d (.int .i64 1))),none⟩,
 ⟨some 10,.mov (.tmp 20),none⟩])))))))))))
 (.seq
 (.reg [] [⟨some 21,.mov (.tmp 5),none⟩,
 ⟨some 4,.mov (.tmp 21),none⟩])
 .ret))))⟩
def ir146:AFun:=⟨14,2,[.tmp 3],
 (.seq
 (.reg [0] [⟨some 2,.cbx 0 2 (.tmp 0),none⟩,
 ⟨some 3,.mov (.cst (.d (.int .i64 0))),none⟩])
 (.seq
 (.regd [1] [⟨some 4,.ld true 2 (.tmp 1),none⟩,
 ⟨some 5,.ixp 2 1 (.tmp 2) (.cst (.d (.int .i64 0))),none⟩,
 ⟨some 6,.ld false 1 (.tmp 5),none⟩,
 ⟨some 7,.call 33 [(.tmp 4),(.tmp 6)],none⟩,
 ⟨some 8,.ld true 2 (.tmp 1),none⟩,
 ⟨some 9,.ixp 2 1 (.tmp 2) (.cst (.d (.int .i64 1))),none⟩,
 ⟨some 10,.ld false 1 (.tmp 9),none⟩,
 ⟨some 11,.call 33 [(.tmp 8),(.tmp 10)],none⟩,
 ⟨some 12,.bsl 1 33 1 2 [(.int .i64 0),(.int .i64 0)] [(0,(.tmp 7)),(1,(.tmp 11))],none⟩,
 ⟨some 13,.call 31 [(.tmp 12)],none⟩,
 ⟨some 3,.mov (.tmp 13),none⟩] [(0,1),(0,2),(0,4),(1,4),(2,4),(3,4),(0,5),(1,5),(2,5),(3,5),(4,5),(0,6),(1,6),(2,6),(3,6),(4,6)])
 .ret))⟩
def ir147:AFun:=⟨19,1,[.tmp 4],
 (.seq
 (.reg [0] [⟨some 3,.cbx 0 2 (.tmp 1),none⟩,
 ⟨some 4,.mov (.cst (.d (.int .i64 0))),none⟩])
 (.seq
 (.seq
 (.reg [] [⟨some 6,.mov (.tmp 0),none⟩,
 ⟨some 7,.len (.tmp 6),none⟩,
 ⟨some 8,.mov (.cst (.d (.int .i64 0))),none⟩])
 (.post [] [0]
 (.block 0
 (.keep [0,3,7,8] [0]
 (.loop
 (.post [0,3,7,8] []
 (.seq
 (.reg [] [⟨some 9,.cmp .lss (.tmp 8) (.tmp 7),none⟩])
 (.seq
 (.cond (.tmp 9)
 .skip
 (.exit 0))
 (.seq
 (.block 1
 (.seq
 (.reg [] [⟨some 10,.mov (.tmp 8),none⟩,
 ⟨some 5,.mov (.tmp 10),none⟩])
 (.seq
 (.regd [] [⟨some 11,.ld true 2 (.tmp 3),none⟩,
 ⟨some 12,.mov (.tmp 0),none⟩,
 ⟨some 13,.mov (.tmp 5),none⟩,
 ⟨some 14,.ixa 2 (.tmp 12) (.tmp 13),none⟩,
 ⟨some 15,.ld true 2 (.tmp 14),none⟩,
 ⟨some 16,.aeq false [0,0] (.tmp 11) (.tmp 15),none⟩] [(0,1),(0,2),(1,2),(0,3),(0,4)])
 (.cond (.tmp 16)
 (.seq
 (.reg [] [⟨some 17,.mov (.tmp 5),none⟩,
 ⟨some 4,.mov (.tmp 17),none⟩])
 .ret)
 .skip))))
 (.reg [] [⟨some 18,.arith .add .i64 (.tmp 8) (.cst (.d (.int .i64 1))),none⟩,
 ⟨some 8,.mov (.tmp 18),none⟩]))))))))))
 (.seq
 (.reg [] [⟨some 4,.mov (.cst (.d (.int .i64 (-1)))),none⟩])
 .ret)))⟩
theorem c147 (l:List (Int × Int)) (x y:Int) (hl:l.length≤1048576):CallDet Tryz.prog 91 [.d (.slice 2 (prs l)),.d (.agg [.int .i64 x,.int .i64 y])] [.int .i64 (ixP l x y 0)]:=by
 have hln:=prs_len l
 have fin:∀ v,ixP l x y 0=v→resV [.int .i64 v]=resV [.int .i64 (ixP l x y 0)]:=fun v h=>by rw [h]
 refine call_of_vc (x:=ir147) (by kernel_rfl) rfl ?_
 rotate_left
 refine loop_u (fun k:Nat=>[(8,.d (.int .i64 k))]) (fun _=>[]) (fun k=>k≤l.length∧ixP l x y 0=ixP (l.drop k) x y k) (fun k=>l.length - k) 0 rfl ⟨Nat.zero_le _,rfl⟩ ?_
 rintro k ⟨hk,he⟩
 have hk:k≤l.length:=hk
 have he:ixP l x y 0=ixP (l.drop k) x y k:=he
 by_cases hkk:k < l.length
 ·refine Exists.elim (get_lt l hkk) fun p hp=>?_
  have hpd:=prs_at hp
  rw [drop_at hp,ixP] at he
  have e2:samP p x y=false→ixP l x y 0=ixP (l.drop (k+1)) x y (k+1):=fun h=>by rw [he,h]; rfl
  have e1:samP p x y=true→ixP l x y 0=k:=fun h=>by rw [he,h]; rfl
  rw [← samP_sym] at e1 e2
  refine sd ?_
  refine b_lt (fun t1=>?_) (fun t1=>?_)
  refine ix_at hpd ?_ ?_
  (show (0:Int)≤(↑k:Int); omega)
  refine ca (Exists.intro _ (And.intro rfl rfl)) ?_
  refine b_intro (fun t2=>?_) (fun t2=>?_)
  replace t2:(x==Prod.fst p&&(y==Prod.snd p&&true))=true:=t2
  rotate_left
  replace t2:(x==Prod.fst p&&(y==Prod.snd p&&true))=false:=t2
  refine ar_add ?_ ?_
  refine an ?_ ?_
  (show (-9223372036854775808:Int)≤(↑k:Int)+(1:Int); omega)
  (show (↑k:Int)+(1:Int)≤(9223372036854775807:Int); omega)
  rotate_left
  (exfalso; omega)
  ·exact fin _ (e1 t2)
  ·exact ⟨k+1,⟨⟨by show k+1≤l.length; omega,e2 t2⟩,by show l.length - (k+1) < l.length - k; omega⟩,rfl⟩
 ·rw [List.drop_eq_nil_of_le (by omega)] at he
  refine sd ?_
  refine b_lt (fun t1=>?_) (fun t1=>?_)
  (exfalso; omega)
  rotate_left
  exact fin _ he
theorem c109 (l:List (Int × Int)) (x y:Int) (hl:l.length≤1048576):CallDet Tryz.prog 37 [.d (.slice 2 (prs l)),.d (.agg [.int .i64 x,.int .i64 y])] [.bool (lostB l x y)]:=by
 refine call_of_vc (x:=ir109) (by kernel_rfl) rfl ?_
 refine ca (c147 l x y hl) ?_
 refine sd ?_
 rotate_left
 exact congrArg (fun b=>resV [.bool b]) (ixP_ge x y l 0 (Int.le_refl _))
def pairE (m:Ms) (p:Int × Int):Int:=firstOf [m.nodeE p.1,m.nodeE p.2]
theorem c146 (m:Ms) (p:Int × Int):CallDet Tryz.prog 88 [.d (prD p),.cp [.slice 1 (strs m.ns),.slice 3 (lks m.ls)] 0] [.int .i64 (pairE m p)]:=by
 refine call_of_vc (x:=ir146) (by kernel_rfl) rfl ?_
 refine an ?_ ?_
 refine an ?_ ?_
 (show (0:Int)≤(0:Int); omega)
 (show (0:Int) < (↑(2:Nat):Int); omega)
 refine ca (c87 m _) ?_
 refine an ?_ ?_
 refine an ?_ ?_
 (show (0:Int)≤(1:Int); omega)
 (show (1:Int) < (↑(2:Nat):Int); omega)
 refine ca (c87 m _) ?_
 refine sd ?_
 refine sd ?_
 refine ca (c86 [Ms.nodeE m (Prod.fst p),Ms.nodeE m (Prod.snd p)] (by simp)) ?_
 exact rfl
theorem c145 (m:Ms) (l:List (Int × Int)) (hl:l.length≤1048576):CallDet Tryz.prog 87 [.d (.slice 2 (prs l)),.d (.fn (.func 88) [.agg [.slice 1 (strs m.ns),.slice 3 (lks m.ls)]])] [.slice 1 (ints (l.map (pairE m)))]:=by
 have hln:=prs_len l
 have fin:∀ X,X=l→resV [.slice 1 (ints (X.map (pairE m)))]=resV [.slice 1 (ints (l.map (pairE m)))]:=fun X h=>by rw [h]
 refine call_of_vc (x:=ir145) (by kernel_rfl) rfl ?_
 rotate_left
 refine loop_u (fun k:Nat=>[(5,.sl 2 (ints ((l.take k).map (pairE m))).length),(10,.d (.int .i64 k))]) (fun k=>[(2,.row 33 1 (ints ((l.take k).map (pairE m))) false)]) (fun k=>k≤l.length) (fun k=>l.length - k) 0 rfl (Nat.zero_le _) ?_
 intro k hk
 have hk:k≤l.length:=hk
 have hil:=ints_len ((l.take k).map (pairE m))
 rw [List.length_map,List.length_take] at hil
 by_cases hkk:k < l.length
 ·refine Exists.elim (get_lt l hkk) fun p hp=>?_
  have hpd:=prs_at hp
  have e:ints ((l.take (k+1)).map (pairE m))=ints ((l.take k).map (pairE m))++[.int .i64 (pairE m p)]:=by
   rw [take_one hp,List.map_append]; unfold ints; rw [List.map_append]; rfl
  refine sd ?_
  refine b_lt (fun t1=>?_) (fun t1=>?_)
  refine ix_at hpd ?_ ?_
  (show (0:Int)≤(↑k:Int); omega)
  refine ca (c146 m p) ?_
  refine sd ?_
  refine sd ?_
  refine sd ?_
  refine an ?_ ?_
  refine an ?_ ?_
  exact rfl
  refine an ?_ ?_
  exact rfl
  refine an ?_ ?_
  exact rfl
  refine an ?_ ?_
  (show (List.length (ints (List.map (pairE m) (List.take k l)))+(1:Nat)) * (8:Nat)≤(2:Nat) ^ (47:Nat); omega)
  (show List.length (ints (List.map (pairE m) (List.take k l)))+(1:Nat)≤(2:Nat) ^ (47:Nat); omega)
  refine ar_add ?_ ?_
  refine an ?_ ?_
  (show (-9223372036854775808:Int)≤(↑k:Int)+(1:Int); omega)
  (show (↑k:Int)+(1:Int)≤(9223372036854775807:Int); omega)
  rotate_left
  (exfalso; omega)
  refine ⟨k+1,⟨by show k+1≤l.length; omega,by show l.length - (k+1) < l.length - k; omega⟩,?_⟩
  rw [e]; rfl
 ·refine sd ?_
  refine b_lt (fun t1=>?_) (fun t1=>?_)
  (exfalso; omega)
  refine sd ?_
  rotate_left
  exact fin (l.take k) (List.take_of_length_le (by omega))
def pairsE (m:Ms) (l:List (Int × Int)):Int:=bif decide (256 < (l.length:Int)) then 5 else firstOf (l.map (pairE m))
theorem c107 (m:Ms) (l:List (Int × Int)) (hl:l.length≤1048576):CallDet Tryz.prog 34 [.d m.d,.d (.slice 2 (prs l))] [.int .i64 (pairsE m l)]:=by
 have hln:=prs_len l
 have fin:∀ v,pairsE m l=v→resV [.int .i64 v]=resV [.int .i64 (pairsE m l)]:=fun v h=>by rw [h]
 refine call_of_vc (x:=ir107) (by kernel_rfl) rfl ?_
 refine sd ?_
 refine b_lt (fun t1=>?_) (fun t1=>?_)
 rotate_left
 refine ca (c145 m l hl) ?_
 refine ca (c86 (l.map (pairE m)) (by rw [List.length_map]; omega)) ?_
 rotate_left
 ·exact fin _ (by unfold pairsE; rw [← hln,decide_eq_true t1]; rfl)
 ·exact fin _ (by unfold pairsE; rw [← hln,decide_eq_false t1]; rfl)
end Vc
