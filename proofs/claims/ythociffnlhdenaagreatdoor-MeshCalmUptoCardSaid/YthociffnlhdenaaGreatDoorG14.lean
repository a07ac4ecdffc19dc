import Derived.Test.YthociffnlhdenaaGreatDoorG13
import Derived.Test.YthociffnlhdenaaGreatDoorG10
set_option linter.unusedSectionVars false
set_option linter.unusedVariables false
set_option linter.unusedSimpArgs false
set_option maxRecDepth 10000
set_option maxHeartbeats 4000000
namespace Vc
open Go Go.Proofs
def ir31:AFun:=⟨34,6,[.cell 4 3 true,.tmp 5],
 (.seq
 (.reg [0,1] [⟨some 2,.cbx 0 2 (.tmp 0),none⟩,
 ⟨some 4,.alloc 1 [(.d (.int .i64 0)),(.d (.int .i64 0)),(.nils 3)],none⟩,
 ⟨some 5,.mov (.cst (.d (.int .i64 0))),none⟩])
 (.seq
 (.seq
 (.regd [2] [⟨some 8,.ld true 2 (.tmp 2),none⟩,
 ⟨some 9,.call 27 [(.tmp 8)],none⟩,
 ⟨some 10,.ld true 2 (.tmp 2),none⟩,
 ⟨some 11,.mov (.tmp 1),none⟩,
 ⟨some 12,.call 87 [(.tmp 10),(.tmp 11)],none⟩,
 ⟨some 13,.bsl 2 29 1 2 [(.int .i64 0),(.int .i64 0)] [(0,(.tmp 9)),(1,(.tmp 12))],none⟩,
 ⟨some 14,.call 86 [(.tmp 13)],none⟩,
 ⟨some 6,.mov (.tmp 14),none⟩] [(0,2),(1,2),(0,3),(1,3),(2,3)])
 (.seq
 (.reg [] [⟨some 15,.mov (.tmp 6),none⟩,
 ⟨some 16,.cmp .neq (.tmp 15) (.cst (.d (.int .i64 0))),none⟩])
 (.cond (.tmp 16)
 (.seq
 (.reg [] [⟨some 17,.build [(.d (.int .i64 0)),(.d (.int .i64 0)),(.nils 3)] [],none⟩,
 ⟨some 18,.mov (.tmp 6),none⟩,
 ⟨none,.st 3 (.tmp 4) (.tmp 17),none⟩,
 ⟨some 5,.mov (.tmp 18),none⟩])
 .ret)
 .skip)))
 (.seq
 (.reg [3,4] [⟨some 19,.mov (.tmp 1),none⟩,
 ⟨some 20,.ld true 3 (.cst (.gp 0 0)),none⟩,
 ⟨some 21,.bsl 3 105 3 1 [(.agg [(.int .i64 0),(.int .i64 0),(.int .i64 0)])] [(0,(.tmp 20))],none⟩,
 ⟨some 22,.fad 0 (.tmp 2),none⟩,
 ⟨some 23,.ld false 1 (.tmp 22),none⟩,
 ⟨some 24,.len (.tmp 23),none⟩,
 ⟨some 25,.calln 5 105 3 98 [(.tmp 21),(.tmp 24)],none⟩,
 ⟨some 26,.build [(.d (.int .i64 0)),(.d (.int .i64 0)),(.nils 3)] [(0,1,(.tmp 19)),(1,1,(.cst (.d (.int .i64 1)))),(2,1,(.tmp 25))],none⟩,
 ⟨some 7,.alloc 4 [(.d (.int .i64 0)),(.d (.int .i64 0)),(.nils 3)],none⟩,
 ⟨none,.st 3 (.tmp 7) (.tmp 26),none⟩])
 (.seq
 (.reg [] [⟨some 27,.fad 2 (.tmp 7),none⟩,
 ⟨some 28,.ld false 1 (.tmp 27),none⟩,
 ⟨some 29,.mov (.tmp 1),none⟩,
 ⟨some 30,.mov (.tmp 1),none⟩,
 ⟨some 31,.build [(.d (.int .i64 0)),(.d (.int .i64 0)),(.d (.int .i64 0))] [(0,1,(.cst (.d (.int .i64 1)))),(1,1,(.cst (.d (.int .i64 0)))),(2,1,(.tmp 30))],none⟩,
 ⟨some 32,.ixa 3 (.tmp 28) (.tmp 29),none⟩,
 ⟨none,.st 3 (.tmp 32) (.tmp 31),none⟩])
 (.seq
 (.reg [] [⟨some 33,.ld true 3 (.tmp 7),none⟩,
 ⟨none,.st 3 (.tmp 4) (.tmp 33),none⟩,
 ⟨some 5,.mov (.cst (.d (.int .i64 0))),none⟩])
 .ret)))))⟩
def ir35:AFun:=⟨29,5,[.cell 4 3 true],
 (.seq
 (.reg [0,1] [⟨some 2,.cbx 0 2 (.tmp 0),none⟩,
 ⟨some 4,.alloc 1 [(.d (.int .i64 0)),(.d (.int .i64 0)),(.nils 3)],none⟩])
 (.seq
 (.reg [2] [⟨some 7,.mov (.tmp 1),none⟩,
 ⟨some 8,.build [(.d (.int .i64 0)),(.d (.int .i64 0)),(.nils 3)] [(0,1,(.tmp 7)),(1,1,(.cst (.d (.int .i64 1))))],none⟩,
 ⟨some 5,.alloc 2 [(.d (.int .i64 0)),(.d (.int .i64 0)),(.nils 3)],none⟩,
 ⟨none,.st 3 (.tmp 5) (.tmp 8),none⟩])
 (.seq
 (.seq
 (.reg [] [⟨some 6,.mov (.cst (.d (.int .i64 0))),none⟩])
 (.post [1,4,5] [0,1,2,3,4]
 (.block 0
 (.keep [1,2,4,5,6] [0,1,2]
 (.loop
 (.post [1,2,4,5,6] [3,4]
 (.seq
 (.seq
 (.reg [] [⟨some 9,.mov (.tmp 6),none⟩,
 ⟨some 10,.fad 0 (.tmp 2),none⟩,
 ⟨some 11,.ld false 1 (.tmp 10),none⟩,
 ⟨some 12,.len (.tmp 11),none⟩,
 ⟨some 13,.cmp .lss (.tmp 9) (.tmp 12),none⟩])
 (.cond (.tmp 13)
 .skip
 (.exit 0)))
 (.seq
 (.block 1
 (.reg [3,4] [⟨some 16,.fad 2 (.tmp 5),none⟩,
 ⟨some 17,.ld false 1 (.tmp 16),none⟩,
 ⟨some 18,.build [(.d (.int .i64 0)),(.d (.int .i64 0)),(.d (.int .i64 0))] [(2,1,(.cst (.d (.int .i64 (-1)))))],none⟩,
 ⟨some 19,.bsl 3 106 3 1 [(.agg [(.int .i64 0),(.int .i64 0),(.int .i64 0)])] [(0,(.tmp 18))],none⟩,
 ⟨some 20,.app 4 106 3 24 (.tmp 17) (.tmp 19),none⟩,
 ⟨some 21,.fad 2 (.tmp 5),none⟩,
 ⟨none,.st 1 (.tmp 21) (.tmp 20),none⟩]))
 (.reg [] [⟨some 14,.mov (.tmp 6),none⟩,
 ⟨some 15,.arith .add .i64 (.tmp 14) (.cst (.d (.int .i64 1))),none⟩,
 ⟨some 6,.mov (.tmp 15),none⟩])))))))))
 (.seq
 (.reg [] [⟨some 22,.fad 2 (.tmp 5),none⟩,
 ⟨some 23,.ld false 1 (.tmp 22),none⟩,
 ⟨some 24,.mov (.tmp 1),none⟩,
 ⟨some 25,.mov (.tmp 1),none⟩,
 ⟨some 26,.build [(.d (.int .i64 0)),(.d (.int .i64 0)),(.d (.int .i64 0))] [(0,1,(.cst (.d (.int .i64 1)))),(1,1,(.cst (.d (.int .i64 0)))),(2,1,(.tmp 25))],none⟩,
 ⟨some 27,.ixa 3 (.tmp 23) (.tmp 24),none⟩,
 ⟨none,.st 3 (.tmp 27) (.tmp 26),none⟩])
 (.seq
 (.reg [] [⟨some 28,.ld true 3 (.tmp 5),none⟩,
 ⟨none,.st 3 (.tmp 4) (.tmp 28),none⟩])
 .ret)))))⟩
def ir32:AFun:=⟨36,8,[.cell 4 3 true,.tmp 5],
 (.seq
 (.reg [0,1,2] [⟨some 2,.cbx 0 2 (.tmp 0),none⟩,
 ⟨some 3,.cbx 1 3 (.tmp 1),none⟩,
 ⟨some 4,.alloc 2 [(.d (.int .i64 0)),(.d (.int .i64 0)),(.nils 3)],none⟩,
 ⟨some 5,.mov (.cst (.d (.int .i64 0))),none⟩])
 (.seq
 (.seq
 (.regd [3] [⟨some 8,.ld true 2 (.tmp 2),none⟩,
 ⟨some 9,.ld true 3 (.tmp 3),none⟩,
 ⟨some 10,.call 37 [(.tmp 8),(.tmp 9)],none⟩,
 ⟨some 11,.fad 1 (.tmp 3),none⟩,
 ⟨some 12,.ld false 1 (.tmp 11),none⟩,
 ⟨some 13,.cmp .eql (.tmp 12) (.cst (.d (.int .i64 1000000))),none⟩,
 ⟨some 14,.call 89 [(.tmp 13),(.cst (.d (.int .i64 20)))],none⟩,
 ⟨some 15,.bsl 3 29 1 2 [(.int .i64 0),(.int .i64 0)] [(0,(.tmp 10)),(1,(.tmp 14))],none⟩,
 ⟨some 16,.call 86 [(.tmp 15)],none⟩,
 ⟨some 6,.mov (.tmp 16),none⟩] [(0,1),(0,3),(1,3),(2,3),(0,4),(1,4),(2,4),(0,5),(1,5),(2,5)])
 (.seq
 (.reg [] [⟨some 17,.mov (.tmp 6),none⟩,
 ⟨some 18,.cmp .neq (.tmp 17) (.cst (.d (.int .i64 0))),none⟩])
 (.cond (.tmp 18)
 (.seq
 (.reg [] [⟨some 19,.build [(.d (.int .i64 0)),(.d (.int .i64 0)),(.nils 3)] [],none⟩,
 ⟨some 20,.mov (.tmp 6),none⟩,
 ⟨none,.st 3 (.tmp 4) (.tmp 19),none⟩,
 ⟨some 5,.mov (.tmp 20),none⟩])
 .ret)
 .skip)))
 (.seq
 (.reg [4] [⟨some 21,.ld true 3 (.tmp 3),none⟩,
 ⟨some 22,.calli 99 [(.tmp 21)],none⟩,
 ⟨some 7,.alloc 4 [(.d (.int .i64 0)),(.d (.int .i64 0)),(.nils 3)],none⟩,
 ⟨none,.st 3 (.tmp 7) (.tmp 22),none⟩])
 (.seq
 (.reg [] [⟨some 23,.fad 1 (.tmp 7),none⟩,
 ⟨some 24,.ld false 1 (.tmp 23),none⟩,
 ⟨some 25,.arith .add .i64 (.tmp 24) (.cst (.d (.int .i64 1))),none⟩,
 ⟨some 26,.fad 1 (.tmp 7),none⟩,
 ⟨none,.st 1 (.tmp 26) (.tmp 25),none⟩])
 (.seq
 (.reg [] [⟨some 27,.fad 2 (.tmp 7),none⟩,
 ⟨some 28,.ld false 1 (.tmp 27),none⟩,
 ⟨some 29,.fad 0 (.tmp 3),none⟩,
 ⟨some 30,.ld false 1 (.tmp 29),none⟩,
 ⟨some 31,.fad 1 (.tmp 7),none⟩,
 ⟨some 32,.ld false 1 (.tmp 31),none⟩,
 ⟨some 33,.ixa 3 (.tmp 28) (.tmp 30),none⟩,
 ⟨some 34,.fad 0 (.tmp 33),none⟩,
 ⟨none,.st 1 (.tmp 34) (.tmp 32),none⟩])
 (.seq
 (.reg [] [⟨some 35,.ld true 3 (.tmp 7),none⟩,
 ⟨none,.st 3 (.tmp 4) (.tmp 35),none⟩,
 ⟨some 5,.mov (.cst (.d (.int .i64 0))),none⟩])
 .ret))))))⟩
def ir36:AFun:=⟨25,7,[.cell 2 3 true,.tmp 3],
 (.seq
 (.reg [0,1] [⟨some 1,.cbx 0 3 (.tmp 0),none⟩,
 ⟨some 2,.alloc 1 [(.d (.int .i64 0)),(.d (.int .i64 0)),(.nils 3)],none⟩,
 ⟨some 3,.mov (.cst (.d (.int .i64 0))),none⟩])
 (.seq
 (.seq
 (.reg [] [⟨some 5,.fad 1 (.tmp 1),none⟩,
 ⟨some 6,.ld false 1 (.tmp 5),none⟩,
 ⟨some 7,.cmp .geq (.tmp 6) (.cst (.d (.int .i64 1000000))),none⟩])
 (.cond (.tmp 7)
 (.seq
 (.reg [] [⟨some 8,.build [(.d (.int .i64 0)),(.d (.int .i64 0)),(.nils 3)] [],none⟩,
 ⟨none,.st 3 (.tmp 2) (.tmp 8),none⟩,
 ⟨some 3,.mov (.cst (.d (.int .i64 20))),none⟩])
 .ret)
 .skip))
 (.seq
 (.reg [2] [⟨some 9,.ld true 3 (.tmp 1),none⟩,
 ⟨some 10,.calli 103 [(.tmp 9)],none⟩,
 ⟨some 4,.alloc 2 [(.d (.int .i64 0)),(.d (.int .i64 0)),(.nils 3)],none⟩,
 ⟨none,.st 3 (.tmp 4) (.tmp 10),none⟩])
 (.seq
 (.reg [] [⟨some 11,.fad 1 (.tmp 1),none⟩,
 ⟨some 12,.ld false 1 (.tmp 11),none⟩,
 ⟨some 13,.arith .add .i64 (.tmp 12) (.cst (.d (.int .i64 1))),none⟩,
 ⟨some 14,.fad 1 (.tmp 4),none⟩,
 ⟨none,.st 1 (.tmp 14) (.tmp 13),none⟩])
 (.seq
 (.reg [] [⟨some 15,.fad 2 (.tmp 4),none⟩,
 ⟨some 16,.ld false 1 (.tmp 15),none⟩,
 ⟨some 17,.fad 0 (.tmp 1),none⟩,
 ⟨some 18,.ld false 1 (.tmp 17),none⟩,
 ⟨some 19,.fad 1 (.tmp 1),none⟩,
 ⟨some 20,.ld false 1 (.tmp 19),none⟩,
 ⟨some 21,.arith .add .i64 (.tmp 20) (.cst (.d (.int .i64 1))),none⟩,
 ⟨some 22,.ixa 3 (.tmp 16) (.tmp 18),none⟩,
 ⟨some 23,.fad 0 (.tmp 22),none⟩,
 ⟨none,.st 1 (.tmp 23) (.tmp 21),none⟩])
 (.seq
 (.reg [] [⟨some 24,.ld true 3 (.tmp 4),none⟩,
 ⟨none,.st 3 (.tmp 2) (.tmp 24),none⟩,
 ⟨some 3,.mov (.cst (.d (.int .i64 0))),none⟩])
 .ret))))))⟩
def Sts.zero:Sts:=⟨0,0,[]⟩
def Ms.begun (m:Ms) (i:Int):Sts:=⟨i,1,(List.replicate m.ns.length ⟨0,0,-1⟩).set i.toNat ⟨1,0,i⟩⟩
theorem ens_rep (n:Nat) (x:En):ens (List.replicate n x)=List.replicate n x.d:=by unfold ens; rw [List.map_replicate]
theorem ens_set (l:List En) (i:Nat) (x:En):ens (l.set i x)=(ens l).set i x.d:=by unfold ens; rw [List.map_set]
theorem begun_es (m:Ms) (i:Int):ens (m.begun i).es=(List.replicate (strs m.ns).length (.agg [.int .i64 0,.int .i64 0,.int .i64 (-1)])).set i.toNat (.agg [.int .i64 1,.int .i64 0,.int .i64 i]):=by
 unfold Ms.begun; rw [ens_set,ens_rep,strs_len]; rfl
theorem c31 (m:Ms) (i:Int) (hn:m.ns.length≤1048576) (hl:m.ls.length≤1048576):CallDet Tryz.prog 31 [.d m.d,.d (.int .i64 i)] [(bif nodeD m i != 0 then Sts.zero else m.begun i).d,.int .i64 (nodeD m i)]:=by
 have hsl:=strs_len m.ns
 have bad:¬ firstOf [m.chk,m.nodeE i]=0→resV [.agg [.int .i64 0,.int .i64 0,.slice 3 []],.int .i64 (firstOf [m.chk,m.nodeE i])]=resV [(bif nodeD m i != 0 then Sts.zero else m.begun i).d,.int .i64 (nodeD m i)]:=fun h=>by
  have e:(nodeD m i != 0)=true:=by rw [bne_iff_ne]; exact h
  rw [e]; rfl
 have fin:firstOf [m.chk,m.nodeE i]=0→∀ X,X=ens (m.begun i).es→resV [.agg [.int .i64 i,.int .i64 1,.slice 3 X],.int .i64 0]=resV [(bif nodeD m i != 0 then Sts.zero else m.begun i).d,.int .i64 (nodeD m i)]:=fun h X hX=>by
  have e:nodeD m i=0:=h
  rw [e,hX]; rfl
 refine call_of_vc (x:=ir31) (by kernel_rfl) rfl ?_
 have hk:=fun h:firstOf [m.chk,m.nodeE i]=0=>(nodeD_ok (m:=m) (i:=i) h).2
 have hr:=fun h:firstOf [m.chk,m.nodeE i]=0=>show (List.replicate (strs m.ns).length (Data.agg [.int .i64 0,.int .i64 0,.int .i64 (-1)]))[i.toNat]?=some (.agg [.int .i64 0,.int .i64 0,.int .i64 (-1)]) by
  have:=hk h
  rw [List.getElem?_replicate,if_pos (by omega)]
 by_cases hz:firstOf [m.chk,m.nodeE i]=0
 ·have hkz:=hk hz
  have hlr:(List.replicate (strs m.ns).length (Data.agg [.int .i64 0,.int .i64 0,.int .i64 (-1)])).length=m.ns.length:=by rw [List.length_replicate,hsl]
  refine ca (c27 m (by omega) (by omega)) ?_
  refine ca (c87 m _) ?_
  refine sd ?_
  refine sd ?_
  refine ca (c86 [Ms.chk m,Ms.nodeE m i] (by simp)) ?_
  refine sd ?_
  refine b_ne (fun t1=>?_) (fun t1=>?_)
  (exfalso; omega)
  refine sd ?_
  refine sd ?_
  refine ca (c98r _ (strs m.ns).length (by omega)) ?_
  refine sd ?_
  refine an ?_ ?_
  refine an ?_ ?_
  exact rfl
  refine an ?_ ?_
  exact rfl
  refine an ?_ ?_
  (show (0:Int)≤i; omega)
  (show i < (↑(List.length (List.replicate (List.length (strs (Ms.ns m))) (Data.agg [Data.int IntKind.i64 (0:Int),Data.int IntKind.i64 (0:Int),Data.int IntKind.i64 (-1:Int)]))):Int); omega)
  refine Exists.intro _ (Exists.intro (Vc.Data.agg [Data.int IntKind.i64 (1:Int),Data.int IntKind.i64 (0:Int),Data.int IntKind.i64 i]) (And.intro (And.intro ?_ (And.intro (hr hz) (And.intro rfl (And.intro ?_ (And.intro rfl rfl))))) ?_))
  exact rfl
  (show (0:Nat)+(3:Nat)≤(1:Nat)+(1:Nat)+(1:Nat); omega)
  refine an ?_ ?_
  focus (show List.length (List.set (List.replicate (List.length (strs (Ms.ns m))) (Data.agg [Data.int IntKind.i64 (0:Int),Data.int IntKind.i64 (0:Int),Data.int IntKind.i64 (-1:Int)])) (Int.toNat i) (Data.agg [Data.int IntKind.i64 (1:Int),Data.int IntKind.i64 (0:Int),Data.int IntKind.i64 i]))=List.length (List.replicate (List.length (strs (Ms.ns m))) (Data.agg [Data.int IntKind.i64 (0:Int),Data.int IntKind.i64 (0:Int),Data.int IntKind.i64 (-1:Int)])); simp only [List.length_replicate,List.length_set,List.length_append,List.length_take,List.length_drop]; done)
  rotate_left
  exact fin t1 _ (begun_es m i).symm
 ·refine ca (c27 m (by omega) (by omega)) ?_
  refine ca (c87 m _) ?_
  refine sd ?_
  refine sd ?_
  refine ca (c86 [Ms.chk m,Ms.nodeE m i] (by simp)) ?_
  refine sd ?_
  refine b_ne (fun t1=>?_) (fun t1=>?_)
  rotate_left
  (exfalso; omega)
  exact bad t1
def bare1:Data:=.agg [.int .i64 0,.int .i64 0,.int .i64 (-1)]
def beguV (i:Int):Nat→List (Nat × AObj)
 | 0=>[]
 | k+1=>[(2,.box [.d (.int .i64 i),.d (.int .i64 1),.sl 4 (List.replicate (k+1) bare1).length]),(4,.row 106 3 (List.replicate (k+1) bare1) false)]
theorem c35 (m:Ms) (i:Int) (hn:m.ns.length≤1048576) (h0:0≤i) (h1:i < (m.ns.length:Int)):CallDet Tryz.prog 35 [.d m.d,.d (.int .i64 i)] [(m.begun i).d]:=by
 have hsl:=strs_len m.ns
 have fin:∀ X,X=ens (m.begun i).es→resV [.agg [.int .i64 i,.int .i64 1,.slice 3 X]]=resV [(m.begun i).d]:=fun X hX=>by rw [hX]; rfl
 refine call_of_vc (x:=ir35) (by kernel_rfl) rfl ?_
 rotate_left
 refine loop_u (fun k:Nat=>[(6,.d (.int .i64 k))]) (beguV i) (fun k=>k≤m.ns.length) (fun k=>m.ns.length - k) 0 rfl (Nat.zero_le _) ?_
 intro k hk
 have hk:k≤m.ns.length:=hk
 cases k with
 | zero =>
  refine sd ?_
  refine b_lt (fun t1=>?_) (fun t1=>?_)
  refine sd ?_
  refine sd ?_
  refine sd ?_
  refine an ?_ ?_
  refine an ?_ ?_
  (show (1:Nat) * (24:Nat)≤(2:Nat) ^ (47:Nat); omega)
  (show (1:Nat)≤(2:Nat) ^ (47:Nat); omega)
  refine sd ?_
  refine ar_add ?_ ?_
  refine an ?_ ?_
  (show (-9223372036854775808:Int)≤(↑(0:Nat):Int)+(1:Int); omega)
  (show (↑(0:Nat):Int)+(1:Int)≤(9223372036854775807:Int); omega)
  rotate_left
  (exfalso; omega)
  exact ⟨0+1,⟨by show 0+1≤m.ns.length; omega,by show m.ns.length - (0+1) < m.ns.length - 0; omega⟩,rfl⟩
 | succ k =>
  have hr:(List.replicate (k+1) bare1)[i.toNat]?=if i.toNat < k+1 then some (.agg [.int .i64 0,.int .i64 0,.int .i64 (-1)]) else none:=List.getElem?_replicate
  have hrr:¬ k+1 < m.ns.length→(List.replicate (k+1) bare1)[i.toNat]?=some (.agg [.int .i64 0,.int .i64 0,.int .i64 (-1)]):=fun h=>by rw [hr,if_pos (by omega)]
  have hlr:(List.replicate (k+1) bare1).length=k+1:=List.length_replicate
  refine sd ?_
  refine b_lt (fun t1=>?_) (fun t1=>?_)
  refine sd ?_
  refine sd ?_
  refine sd ?_
  refine an ?_ ?_
  refine an ?_ ?_
  exact rfl
  refine an ?_ ?_
  exact rfl
  refine an ?_ ?_
  exact rfl
  refine an ?_ ?_
  (show (List.length (List.replicate k bare1)+(1:Nat)+(1:Nat)) * (24:Nat)≤(2:Nat) ^ (47:Nat); simp only [List.length_replicate,List.length_set,List.length_append,List.length_take,List.length_drop]; omega)
  (show List.length (List.replicate k bare1)+(1:Nat)+(1:Nat)≤(2:Nat) ^ (47:Nat); simp only [List.length_replicate,List.length_set,List.length_append,List.length_take,List.length_drop]; omega)
  refine sd ?_
  refine ar_add ?_ ?_
  refine an ?_ ?_
  (show (-9223372036854775808:Int)≤(↑(k+(1:Nat)):Int)+(1:Int); omega)
  (show (↑(k+(1:Nat)):Int)+(1:Int)≤(9223372036854775807:Int); omega)
  rotate_left
  refine an ?_ ?_
  refine an ?_ ?_
  exact rfl
  refine an ?_ ?_
  exact rfl
  refine an ?_ ?_
  assumption
  (show i < (↑(List.length (List.replicate k bare1)+(1:Nat)):Int); simp only [List.length_replicate,List.length_set,List.length_append,List.length_take,List.length_drop]; omega)
  refine Exists.intro _ (Exists.intro (Vc.Data.agg [Data.int IntKind.i64 (1:Int),Data.int IntKind.i64 (0:Int),Data.int IntKind.i64 i]) (And.intro (And.intro ?_ (And.intro (hrr (by omega)) (And.intro rfl (And.intro ?_ (And.intro rfl rfl))))) ?_))
  exact rfl
  (show (0:Nat)+(3:Nat)≤(1:Nat)+(1:Nat)+(1:Nat); omega)
  refine an ?_ ?_
  focus (show List.length (List.set (List.replicate (k+(1:Nat)) bare1) (Int.toNat i) (Data.agg [Data.int IntKind.i64 (1:Int),Data.int IntKind.i64 (0:Int),Data.int IntKind.i64 i]))=List.length (List.replicate k bare1)+(1:Nat); simp only [List.length_replicate,List.length_set,List.length_append,List.length_take,List.length_drop]; done)
  rotate_left
  ·refine ⟨k+1+1,⟨by show k+1+1≤m.ns.length; omega,by show m.ns.length - (k+1+1) < m.ns.length - (k+1); omega⟩,?_⟩
   show _=St.upd _ _ [(2,.box [.d (.int .i64 i),.d (.int .i64 1),.sl 4 (List.replicate (k+1+1) bare1).length]),(4,.row 106 3 (List.replicate (k+1+1) bare1) false)]
   rw [show List.replicate (k+1+1) bare1=List.replicate (k+1) bare1++[bare1] from List.replicate_succ']; rfl
  ·refine fin _ ?_
   rw [begun_es,show (strs m.ns).length=k+1 by omega]; rfl
def Sts.beac (s:Sts):Sts:=⟨s.co,s.nu+1,s.es.set s.co.toNat ⟨s.nu+1,(s.at s.co).di,(s.at s.co).ne⟩⟩
theorem c99i_32 (m : Ms) (s : Sts) (a b : Int) (hn : s.es.length ≤ 1048576) : CallIn Tryz.prog 99 [.d s.d] [.cbox [.slice 1 (strs m.ns), .slice 3 (lks m.ls)], .cbox [.int .i64 s.co, .int .i64 s.nu, .slice 3 (ens s.es)], .box [.d (.int .i64 0), .d (.int .i64 0), .nils 3], .row 29 1 [.int .i64 a, .int .i64 b] false, .none, .none, .none, .none] (.agg [.d (.int .i64 s.co), .d (.int .i64 s.nu), .sl 7 (ens s.es).length])
  (setAll [.cbox [.slice 1 (strs m.ns),.slice 3 (lks m.ls)],.cbox [.int .i64 s.co,.int .i64 s.nu,.slice 3 (ens s.es)],.box [.d (.int .i64 0),.d (.int .i64 0),.nils 3],.row 29 1 [.int .i64 a,.int .i64 b] false,.none,.none,.none,.none] [(5,.cbox [.int .i64 s.co,.int .i64 s.nu,.slice 3 (ens s.es)]),(6,.box [.d (.int .i64 s.co),.d (.int .i64 s.nu),.sl 7 (ens s.es).length]),(7,.row 105 3 (ens s.es) false)]):=by
 have hl:=ens_len s.es
 have e:List.take (ens s.es).length (ens s.es)++List.drop (ens s.es).length (List.replicate (ens s.es).length (.agg [.int .i64 0,.int .i64 0,.int .i64 0]))=ens s.es:=by
  rw [List.take_length,List.drop_eq_nil_of_le (by rw [List.length_replicate]; exact Nat.le_refl _),List.append_nil]
 refine callIn_of_vc 5 (x:=ir99) (by kernel_rfl) rfl rfl rfl ?_
 refine an ?_ ?_
 refine an ?_ ?_
 (show (0:Int)≤(↑(List.length (ens (Sts.es s))):Int); omega)
 refine an ?_ ?_
 (show (↑(List.length (ens (Sts.es s))):Int) * (↑(24:Nat):Int)≤(2:Int) ^ (47:Nat); omega)
 (show (↑(List.length (ens (Sts.es s))):Int)≤(2:Int) ^ (47:Nat); omega)
 refine ca (And.intro rfl (And.intro rfl (And.intro ?_ rfl))) ?_
 focus (show List.length (List.replicate (List.length (ens (Sts.es s))) (Data.agg [Data.int IntKind.i64 (0:Int),Data.int IntKind.i64 (0:Int),Data.int IntKind.i64 (0:Int)]))=List.length (ens (Sts.es s)); simp only [List.length_replicate,List.length_set,List.length_append,List.length_take,List.length_drop]; done)
 refine an ?_ ?_
 (show List.length (List.take (List.length (ens (Sts.es s))) (ens (Sts.es s))++List.drop (List.length (ens (Sts.es s))) (List.replicate (List.length (ens (Sts.es s))) (Data.agg [Data.int IntKind.i64 (0:Int),Data.int IntKind.i64 (0:Int),Data.int IntKind.i64 (0:Int)])))=List.length (ens (Sts.es s)); simp only [List.length_replicate,List.length_set,List.length_append,List.length_take,List.length_drop]; omega)
 refine sd ?_
 rotate_left
 exact congrArg (fun X=>([.cbox [.slice 1 (strs m.ns),.slice 3 (lks m.ls)],.cbox [.int .i64 s.co,.int .i64 s.nu,.slice 3 (ens s.es)],.box [.d (.int .i64 0),.d (.int .i64 0),.nils 3],.row 29 1 [.int .i64 a,.int .i64 b] false,.none,.cbox [.int .i64 s.co,.int .i64 s.nu,.slice 3 (ens s.es)],.box [.d (.int .i64 s.co),.d (.int .i64 s.nu),.sl 7 (ens s.es).length],.row 105 3 X false]:List AObj)) e
theorem c103i_36 (s : Sts) (hn : s.es.length ≤ 1048576) : CallIn Tryz.prog 103 [.d s.d] [.cbox [.int .i64 s.co, .int .i64 s.nu, .slice 3 (ens s.es)], .box [.d (.int .i64 0), .d (.int .i64 0), .nils 3], .none, .none, .none, .none, .none] (.agg [.d (.int .i64 s.co), .d (.int .i64 s.nu), .sl 5 (ens s.es).length])
  (setAll [.cbox [.int .i64 s.co,.int .i64 s.nu,.slice 3 (ens s.es)],.box [.d (.int .i64 0),.d (.int .i64 0),.nils 3],.none,.none,.none,.none,.none] [(3,.box [.d (.int .i64 s.co),.d (.int .i64 s.nu),.sl 5 (ens s.es).length]),(4,.box [.d (.int .i64 s.co),.d (.int .i64 s.nu),.sl 5 (ens s.es).length]),(5,.row 106 3 (ens s.es) false)]):=by
 have hl:=ens_len s.es
 refine callIn_of_vc 3 (x:=ir103) (by kernel_rfl) rfl rfl rfl ?_
 refine sd ?_
 refine sd ?_
 refine an ?_ ?_
 refine an ?_ ?_
 exact rfl
 refine an ?_ ?_
 exact rfl
 refine an ?_ ?_
 exact rfl
 refine an ?_ ?_
 (show ((0:Nat)+List.length (ens (Sts.es s))) * (24:Nat)≤(2:Nat) ^ (47:Nat); omega)
 (show (0:Nat)+List.length (ens (Sts.es s))≤(2:Nat) ^ (47:Nat); omega)
 refine sd ?_
 refine sd ?_
 exact rfl
def beacE (m:Ms) (s:Sts):Int:=firstOf [m.chkS s,bif s.nu==1000000 then 20 else 0]
theorem Sts.fine.atco {m:Ms} {s:Sts} (h:s.fine m):(ens s.es)[s.co.toNat]?=some (.agg [.int .i64 (s.at s.co).nu,.int .i64 (s.at s.co).di,.int .i64 (s.at s.co).ne]) :=
 ens_atI (Sts.at_getI (by have:=h.co; have:=h.len; omega))
theorem beac_es (s:Sts):ens s.beac.es=(ens s.es).set s.co.toNat (.agg [.int .i64 (s.nu+1),.int .i64 (s.at s.co).di,.int .i64 (s.at s.co).ne]):=by
 unfold Sts.beac; rw [ens_set]; rfl
theorem c32 (m:Ms) (s:Sts) (hm:m.ns.length≤1048576) (hl2:m.ls.length≤1048576) (hn:s.es.length≤1048576):CallDet Tryz.prog 32 [.d m.d,.d s.d] [(bif beacE m s != 0 then Sts.zero else s.beac).d,.int .i64 (beacE m s)]:=by
 have hl:=ens_len s.es
 have bad:¬ firstOf [m.chkS s,bif s.nu==1000000 then 20 else 0]=0→resV [.agg [.int .i64 0,.int .i64 0,.slice 3 []],.int .i64 (firstOf [m.chkS s,bif s.nu==1000000 then 20 else 0])]=resV [(bif beacE m s != 0 then Sts.zero else s.beac).d,.int .i64 (beacE m s)]:=fun h=>by
  have e:(beacE m s != 0)=true:=by rw [bne_iff_ne]; exact h
  rw [e]; rfl
 have fin:firstOf [m.chkS s,bif s.nu==1000000 then 20 else 0]=0→∀ X,X=ens s.beac.es→resV [.agg [.int .i64 s.co,.int .i64 (s.nu+1),.slice 3 X],.int .i64 0]=resV [(bif beacE m s != 0 then Sts.zero else s.beac).d,.int .i64 (beacE m s)]:=fun h X hX=>by
  have e:beacE m s=0:=h
  rw [e,hX]; rfl
 refine call_of_vc (x:=ir32) (by kernel_rfl) rfl ?_
 by_cases hz:firstOf [m.chkS s,bif s.nu==1000000 then 20 else 0]=0
 ·have hf:s.fine m:=chkS_fine (firstOf_zero hz _ (by simp))
  have hx:=hf.atco
  have hco:=hf.co
  have hnu:=hf.nu
  have hle:=hf.len
  refine ca (c37 m s (by omega) (by omega) (by omega)) ?_
  refine sd ?_
  refine ca (c89 _ _) ?_
  refine sd ?_
  refine sd ?_
  refine ca (c86 [Ms.chkS m s,bif Sts.nu s==(1000000:Int) then (20:Int) else (0:Int)] (by simp)) ?_
  refine sd ?_
  refine b_ne (fun t1=>?_) (fun t1=>?_)
  (exfalso; omega)
  refine Exists.intro _ (Exists.intro _ (And.intro (c99i_32 m s _ _ (by omega)) ?_))
  refine ar_add ?_ ?_
  refine an ?_ ?_
  (show (-9223372036854775808:Int)≤Sts.nu s+(1:Int); omega)
  (show Sts.nu s+(1:Int)≤(9223372036854775807:Int); omega)
  refine an ?_ ?_
  refine an ?_ ?_
  exact rfl
  refine an ?_ ?_
  exact rfl
  refine an ?_ ?_
  (show (0:Int)≤Sts.co s; omega)
  (show Sts.co s < (↑(List.length (ens (Sts.es s))):Int); omega)
  refine sd ?_
  refine Exists.intro _ (Exists.intro (Vc.Data.agg [Data.int IntKind.i64 (Sts.nu s+(1:Int)),Data.int IntKind.i64 (En.di (Sts.at s (Sts.co s))),Data.int IntKind.i64 (En.ne (Sts.at s (Sts.co s)))]) (And.intro (And.intro ?_ (And.intro hx (And.intro rfl (And.intro ?_ (And.intro rfl rfl))))) ?_))
  exact rfl
  (show (0:Nat)+(0:Nat)+(1:Nat)≤(1:Nat)+(1:Nat)+(1:Nat); omega)
  refine an ?_ ?_
  focus (show List.length (List.set (ens (Sts.es s)) (Int.toNat (Sts.co s)) (Data.agg [Data.int IntKind.i64 (Sts.nu s+(1:Int)),Data.int IntKind.i64 (En.di (Sts.at s (Sts.co s))),Data.int IntKind.i64 (En.ne (Sts.at s (Sts.co s)))]))=List.length (ens (Sts.es s)); simp only [List.length_replicate,List.length_set,List.length_append,List.length_take,List.length_drop]; done)
  rotate_left
  exact fin t1 _ (beac_es s).symm
 ·refine ca (c37 m s (by omega) (by omega) (by omega)) ?_
  refine sd ?_
  refine ca (c89 _ _) ?_
  refine sd ?_
  refine sd ?_
  refine ca (c86 [Ms.chkS m s,bif Sts.nu s==(1000000:Int) then (20:Int) else (0:Int)] (by simp)) ?_
  refine sd ?_
  refine b_ne (fun t1=>?_) (fun t1=>?_)
  rotate_left
  (exfalso; omega)
  exact bad t1
theorem c36 (m:Ms) (s:Sts) (hn:s.es.length≤1048576) (hf:s.fine m):CallDet Tryz.prog 36 [.d s.d] [(bif s.nu==1000000 then Sts.zero else s.beac).d,.int .i64 (bif s.nu==1000000 then 20 else 0)]:=by
 have hl:=ens_len s.es
 have hx:=hf.atco
 have hco:=hf.co
 have hnu:=hf.nu
 have hle:=hf.len
 refine call_of_vc (x:=ir36) (by kernel_rfl) rfl ?_
 refine sd ?_
 refine b_le (fun t1=>?_) (fun t1=>?_)
 rotate_left
 refine Exists.intro _ (Exists.intro _ (And.intro (c103i_36 s (by omega)) ?_))
 refine ar_add ?_ ?_
 refine an ?_ ?_
 (show (-9223372036854775808:Int)≤Sts.nu s+(1:Int); omega)
 (show Sts.nu s+(1:Int)≤(9223372036854775807:Int); omega)
 refine ar_add ?_ ?_
 refine an ?_ ?_
 (show (-9223372036854775808:Int)≤Sts.nu s+(1:Int); omega)
 (show Sts.nu s+(1:Int)≤(9223372036854775807:Int); omega)
 refine an ?_ ?_
 refine an ?_ ?_
 exact rfl
 refine an ?_ ?_
 exact rfl
 refine an ?_ ?_
 (show (0:Int)≤Sts.co s; omega)
 (show Sts.co s < (↑(List.length (ens (Sts.es s))):Int); omega)
 refine sd ?_
 refine Exists.intro _ (Exists.intro (Vc.Data.agg [Data.int IntKind.i64 (Sts.nu s+(1:Int)),Data.int IntKind.i64 (En.di (Sts.at s (Sts.co s))),Data.int IntKind.i64 (En.ne (Sts.at s (Sts.co s)))]) (And.intro (And.intro ?_ (And.intro hx (And.intro rfl (And.intro ?_ (And.intro rfl rfl))))) ?_))
 exact rfl
 (show (0:Nat)+(0:Nat)+(1:Nat)≤(1:Nat)+(1:Nat)+(1:Nat); omega)
 refine an ?_ ?_
 focus (show List.length (List.set (ens (Sts.es s)) (Int.toNat (Sts.co s)) (Data.agg [Data.int IntKind.i64 (Sts.nu s+(1:Int)),Data.int IntKind.i64 (En.di (Sts.at s (Sts.co s))),Data.int IntKind.i64 (En.ne (Sts.at s (Sts.co s)))]))=List.length (ens (Sts.es s)); simp only [List.length_replicate,List.length_set,List.length_append,List.length_take,List.length_drop]; done)
 rotate_left
 ·rw [show s.nu=1000000 by omega]; rfl
 ·rw [show (s.nu==1000000)=false by simp; omega]
  exact (congrArg (fun X=>resV [.agg [.int .i64 s.co,.int .i64 (s.nu+1),.slice 3 X],.int .i64 0]) (beac_es s).symm)
end Vc
