import Derived.Test.YthociffnlhdenaaGreatDoorG13
import Derived.Test.YthociffnlhdenaaGreatDoorG10
set_option linter.unusedSectionVars false
set_option linter.unusedVariables false
set_option linter.unusedSimpArgs false
set_option maxRecDepth 10000
set_option maxHeartbeats 4000000
namespace Vc
open Go Go.Proofs
def ir31:AFun:=⟨34,6,[.cell 4 3 true,.tmp 5],
 (.seq
 (.reg [0,1] [⟨some 2,.cbx 0 2 (.tmp 0),none⟩,
 ⟨some 4,.alloc 1 [(.d (.int .i64 0)),(.d (.int .i64 0)),(.nils 3)],none⟩,
 ⟨some 5,.mov (.cst (.d (.int .i64 0))),none⟩])
 (.seq
 (.seq
 (.regd [2] [⟨some 8,.ld true 2 (.tmp 2),none⟩,
 ⟨some 9,.call 27 [(.tmp 8)],none⟩,
 ⟨some 10,.ld true 2 (.tmp 2),none⟩,
 ⟨some 11,.mov (.tmp 1),none⟩,
 ⟨some 12,.call 87 [(.tmp 10),(.tmp 11)],none⟩,
 ⟨some 13,.bsl 2 29 1 2 [(.int .i64 0),(.int .i64 0)] [(0,(.tmp 9)),(1,(.tmp 12))],none⟩,
 ⟨some 14,.call 86 [(.tmp 13)],none⟩,
 ⟨some 6,.mov (.tmp 14),none⟩] [(0,2),(1,2),(0,3),(1,3),(2,3)])
 (.seq
 (.reg [] [⟨some 15,.mov (.tmp 6),none⟩,
 ⟨some 16,.cmp .neq (.tmp 15) (.cst (.d (.int .i64 0))),none⟩])
 (.cond (.tmp 16)
 (.seq
 (.reg [] [⟨some 17,.build [(.d (.int .i64 0)),(.d (.int .i64 0)),(.nils 3)] [],none⟩,
 ⟨some 18,.mov (.tmp 6),none⟩,
 ⟨none,.st 3 (.tmp 4) (.tmp 17),none⟩,
 ⟨some 5,.mov (.tmp 18),none⟩])
 .ret)
 .skip)))
 (.seq
 (.reg [3,4] [⟨some 19,.mov (.tmp 1),none⟩,
 ⟨some 20,.ld true 3 (.cst (.gp 0 0)),none⟩,
 ⟨some 21,.bsl 3 105 3 1 [(.agg [(.int .i64 0),(.int .i64 0),(.int .i64 0)])] [(0,(.tmp 20))],none⟩,
 ⟨some 22,.fad 0 (.tmp 2),none⟩,
 ⟨some 23,.ld false 1 (.tmp 22),none⟩,
 ⟨some 24,.len (.tmp 23),none⟩,
 ⟨some 25,.calln 5 105 3 98 [(.tmp 21),(.tmp 24)],none⟩,
 ⟨some 26,.build [(.d (.int .i64 0)),(.d (.int .i64 0)),(.nils 3)] [(0,1,(.tmp 19)),(1,1,(.cst (.d (.int .i64 1)))),(2,1,(.tmp 25))],none⟩,
 ⟨some 7,.alloc 4 [(.d (.int .i64 0)),(.d (.int .i64 0)),(.nils 3)],none⟩,
 ⟨none,.st 3 (.tmp 7) (.tmp 26),none⟩])
 (.seq
 (.reg [] [⟨some 27,.fad 2 (.tmp 7),none⟩,
 ⟨some 28,.ld false 1 (.tmp 27),none⟩,
 ⟨some 29,.mov (.tmp 1),none⟩,
 ⟨some 30,.mov (.tmp 1),none⟩,
 ⟨some 31,.build [(.d (.int .i64 0)),(.d (.int .i64 0)),(.d (.int .i64 0))] [(0,1,(.cst (.d (.int .i64 1)))),(1,1,(.cst (.d (.int .i64 0)))),(2,1,(.tmp 30))],none⟩,
 ⟨some 32,.ixa 3 (.tmp 28) (.tmp 29),none⟩,
 ⟨none,.st 3 (.tmp 32) (.tmp 31),none⟩])
 (.seq
 (.reg [] [⟨some 33,.ld true 3 (.tmp 7),none⟩,
 ⟨none,.st 3 (.tmp 4) (.tmp 33),none⟩,
 ⟨some 5,.mov (.cst (.d (.int .i64 0))),none⟩])
 .ret)))))⟩
def ir32:AFun:=⟨36,8,[.cell 4 3 true,.tmp 5],
 (.seq
 (.reg [0,1,2] [⟨some 2,.cbx 0 2 (.tmp 0),none⟩,
 ⟨some 3,.cbx 1 3 (.tmp 1),none⟩,
 ⟨some 4,.alloc 2 [(.d (.int .i64 0)),(.d (.int .i64 0)),(.nils 3)],none⟩,
 ⟨some 5,.mov (.cst (.d (.int .i64 0))),none⟩])
 (.seq
 (.seq
 (.regd [3] [⟨some 8,.ld true 2 (.tmp 2),none⟩,
 ⟨some 9,.ld true 3 (.tmp 3),none⟩,
 ⟨some 10,.call 37 [(.tmp 8),(.tmp 9)],none⟩,
 ⟨some 11,.fad 1 (.tmp 3),none⟩,
 ⟨some 12,.ld false 1 (.tmp 11),none⟩,
 ⟨some 13,.cmp .eql (.tmp 12) (.cst (.d (.int .i64 1000000))),none⟩,
 ⟨some 14,.call 89 [(.tmp 13),(.cst (.d (.int .i64 20)))],none⟩,
 ⟨some 15,.bsl 3 29 1 2 [(.int .i64 0),(.int .i64 0)] [(0,(.tmp 10)),(1,(.tmp 14))],none⟩,
 ⟨some 16,.call 86 [(.tmp 15)],none⟩,
 ⟨some 6,.mov (.tmp 16),none⟩] [(0,1),(0,3),(1,3),(2,3),(0,4),(1,4),(2,4),(0,5),(1,5),(2,5)])
 (.seq
 (.reg [] [⟨some 17,.mov (.tmp 6),none⟩,
 ⟨some 18,.cmp .neq (.tmp 17) (.cst (.d (.int .i64 0))),none⟩])
 (.cond (.tmp 18)
 (.seq
 (.reg [] [⟨some 19,.build [(.d (.int .i64 0)),(.d (.int .i64 0)),(.nils 3)] [],none⟩,
 ⟨some 20,.mov (.tmp 6),none⟩,
 ⟨none,.st 3 (.tmp 4) (.tmp 19),none⟩,
 ⟨some 5,.mov (.tmp 20),none⟩])
 .ret)
 .skip)))
 (.seq
 (.reg [4] [⟨some 21,.ld true 3 (.tmp 3),none⟩,
 ⟨some 22,.calli 99 [(.tmp 21)],none⟩,
 ⟨some 7,.alloc 4 [(.d (.int .i64 0)),(.d (.int .i64 0)),(.nils 3)],none⟩,
 ⟨none,.st 3 (.tmp 7) (.tmp 22),none⟩])
 (.seq
 (.reg [] [⟨some 23,.fad 1 (.tmp 7),none⟩,
 ⟨some 24,.ld false 1 (.tmp 23),none⟩,
 ⟨some 25,.arith .add .i64 (.tmp 24) (.cst (.d (.int .i64 1))),none⟩,
 ⟨some 26,.fad 1 (.tmp 7),none⟩,
 ⟨none,.st 1 (.tmp 26) (.tmp 25),none⟩])
 (.seq
 (.reg [] [⟨some 27,.fad 2 (.tmp 7),none⟩,
 ⟨some 28,.ld false 1 (.tmp 27),none⟩,
 ⟨some 29,.fad 0 (.tmp 3),none⟩,
 ⟨some 30,.ld false 1 (.tmp 29),none⟩,
 ⟨some 31,.fad 1 (.tmp 7),none⟩,
 ⟨some 32,.ld false 1 (.tmp 31),none⟩,
 ⟨some 33,.ixa 3 (.tmp 28) (.tmp 30),none⟩,
 ⟨some 34,.fad 0 (.tmp 33),none⟩,
 ⟨none,.st 1 (.tmp 34) (.tmp 32),none⟩])
 (.seq
 (.reg [] [⟨some 35,.ld true 3 (.tmp 7),none⟩,
 ⟨none,.st 3 (.tmp 4) (.tmp 35),none⟩,
 ⟨some 5,.mov (.cst (.d (.int .i64 0))),none⟩])
 .ret))))))⟩
def Sts.zero:Sts:=⟨0,0,[]⟩
def Ms.begun (m:Ms) (i:Int):Sts:=⟨i,1,(List.replicate m.ns.length ⟨0,0,-1⟩).set i.toNat ⟨1,0,i⟩⟩
theorem ens_rep (n:Nat) (x:En):ens (List.replicate n x)=List.replicate n x.d:=by unfold ens; rw [List.map_replicate]
theorem ens_set (l:List En) (i:Nat) (x:En):ens (l.set i x)=(ens l).set i x.d:=by unfold ens; rw [List.map_set]
theorem begun_es (m:Ms) (i:Int):ens (m.begun i).es=(List.replicate (strs m.ns).length (.agg [.int .i64 0,.int .i64 0,.int .i64 (-1)])).set i.toNat (.agg [.int .i64 1,.int .i64 0,.int .i64 i]):=by
 unfold Ms.begun; rw [ens_set,ens_rep,strs_len]; rfl
theorem c31 (m:Ms) (i:Int) (hn:m.ns.length≤1048576) (hl:m.ls.length≤1048576):CallDet Tryz.prog 31 [.d m.d,.d (.int .i64 i)] [(bif nodeD m i != 0 then Sts.zero else m.begun i).d,.int .i64 (nodeD m i)]:=by
 have hsl:=strs_len m.ns
 have bad:¬ firstOf [m.chk,m.nodeE i]=0→resV [.agg [.int .i64 0,.int .i64 0,.slice 3 []],.int .i64 (firstOf [m.chk,m.nodeE i])]=resV [(bif nodeD m i != 0 then Sts.zero else m.begun i).d,.int .i64 (nodeD m i)]:=fun h=>by
  have e:(nodeD m i != 0)=true:=by rw [bne_iff_ne]; exact h
  rw [e]; rfl
 have fin:firstOf [m.chk,m.nodeE i]=0→∀ X,X=ens (m.begun i).es→resV [.agg [.int .i64 i,.int .i64 1,.slice 3 X],.int .i64 0]=resV [(bif nodeD m i != 0 then Sts.zero else m.begun i).d,.int .i64 (nodeD m i)]:=fun h X hX=>by
  have e:nodeD m i=0:=h
  rw [e,hX]; rfl
 refine call_of_vc (x:=ir31) (by kernel_rfl) rfl ?_
 have hk:=fun h:firstOf [m.chk,m.nodeE i]=0=>(nodeD_ok (m:=m) (i:=i) h).2
 have hr:=fun h:firstOf [m.chk,m.nodeE i]=0=>show (List.replicate (strs m.ns).length (Data.agg [.int .i64 0,.int .i64 0,.int .i64 (-1)]))[i.toNat]?=some (.agg [.int .i64 0,.int .i64 0,.int .i64 (-1)]) by
  have:=hk h
  rw [List.getElem?_replicate,if_pos (by omega)]
 by_cases hz:firstOf [m.chk,m.nodeE i]=0
 ·have hkz:=hk hz
  have hlr:(List.replicate (strs m.ns).length (Data.agg [.int .i64 0,.int .i64 0,.int .i64 (-1)])).length=m.ns.length:=by rw [List.length_replicate,hsl]
  refine ca (c27 m (by omega) (by omega)) ?_
  refine ca (c87 m _) ?_
  refine sd ?_
  refine sd ?_
  refine ca (c86 [Ms.chk m,Ms.nodeE m i] (by simp)) ?_
  refine sd ?_
  refine b_ne (fun t1=>?_) (fun t1=>?_)
  (exfalso; omega)
  refine sd ?_
  refine sd ?_
  refine ca (c98r _ (strs m.ns).length (by omega)) ?_
  refine sd ?_
  refine an ?_ ?_
  refine an ?_ ?_
  exact rfl
  refine an ?_ ?_
  exact rfl
  refine an ?_ ?_
  (show (0:Int)≤i; omega)
  (show i < (↑(List.length (List.replicate (List.length (strs (Ms.ns m))) (Data.agg [Data.int IntKind.i64 (0:Int),Data.int IntKind.i64 (0:Int),Data.int IntKind.i64 (-1:Int)]))):Int); omega)
  refine Exists.intro _ (Exists.intro (Vc.Data.agg [Data.int IntKind.i64 (1:Int),Data.int IntKind.i64 (0:Int),Data.int IntKind.i64 i]) (And.intro (And.intro ?_ (And.intro (hr hz) (And.intro rfl (And.intro ?_ (And.intro rfl rfl))))) ?_))
  exact rfl
  (show (0:Nat)+(3:Nat)≤(1:Nat)+(1:Nat)+(1:Nat); omega)
  refine an ?_ ?_
  focus (show List.length (List.set (List.replicate (List.length (strs (Ms.ns m))) (Data.agg [Data.int IntKind.i64 (0:Int),Data.int IntKind.i64 (0:Int),Data.int IntKind.i64 (-1:Int)])) (Int.toNat i) (Data.agg [Data.int IntKind.i64 (1:Int),Data.int IntKind.i64 (0:Int),Data.int IntKind.i64 i]))=List.length (List.replicate (List.length (strs (Ms.ns m))) (Data.agg [Data.int IntKind.i64 (0:Int),Data.int IntKind.i64 (0:Int),Data.int IntKind.i64 (-1:Int)])); simp only [List.length_replicate,List.length_set,List.length_append,List.length_take,List.length_drop]; done)
  rotate_left
  exact fin t1 _ (begun_es m i).symm
 ·refine ca (c27 m (by omega) (by omega)) ?_
  refine ca (c87 m _) ?_
  refine sd ?_
  refine sd ?_
  refine ca (c86 [Ms.chk m,Ms.nodeE m i] (by simp)) ?_
  refine sd ?_
  refine b_ne (fun t1=>?_) (fun t1=>?_)
  rotate_left
  (exfalso; omega)
  exact bad t1
end Vc
