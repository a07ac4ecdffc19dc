import Derived.Test.YtkopkfcfgiijmaaGreatDoorG11
import Derived.Test.YtkopkfcfgiijmaaGreatDoorG09
import Derived.Test.YtkopkfcfgiijmaaGreatDoorG10
import Derived.Test.YtkopkfcfgiijmaaGreatDoorG04
set_option linter.unusedSectionVars false
set_option linter.unusedVariables false
set_option linter.unusedSimpArgs false
set_option maxRecDepth 10000
set_option maxHeartbeats 4000000
namespace Vc
open Go Go.Proofs
def ir31:AFun:=⟨34,6,[.cell 4 3 true,.tmp 5],
 (.seq
 (.reg [0,1] [⟨some 2,.cbx 0 2 (.tmp 0),none⟩,
 ⟨some 4,.alloc 1 [(.d (.int .i64 0)),(.d (.int .i64 0)),(.nils 3)],none⟩,
 ⟨some 5,.mov (.cst (.d (.int .i64 0))),none⟩])
 (.seq
 (.seq
 (.regd [2] [⟨some 8,.ld true 2 (.tmp 2),none⟩,
 ⟨some 9,.call 32 [(.tmp 8)],none⟩,
 ⟨some 10,.ld true 2 (.tmp 2),none⟩,
 ⟨some 11,.mov (.tmp 1),none⟩,
 ⟨some 12,.call 33 [(.tmp 10),(.tmp 11)],none⟩,
 ⟨some 13,.bsl 2 33 1 2 [(.int .i64 0),(.int .i64 0)] [(0,(.tmp 9)),(1,(.tmp 12))],none⟩,
 ⟨some 14,.call 31 [(.tmp 13)],none⟩,
 ⟨some 6,.mov (.tmp 14),none⟩] [(0,2),(1,2),(0,3),(1,3),(2,3)])
 (.seq
 (.reg [] [⟨some 15,.mov (.tmp 6),none⟩,
 ⟨some 16,.cmp .neq (.tmp 15) (.cst (.d (.int .i64 0))),none⟩])
 (.cond (.tmp 16)
 (.seq
 (.reg [] [⟨some 17,.build [(.d (.int .i64 0)),(.d (.int .i64 0)),(.nils 3)] [],none⟩,
 ⟨some 18,.mov (.tmp 6),none⟩,
 ⟨none,.st 3 (.tmp 4) (.tmp 17),none⟩,
 ⟨some 5,.mov (.tmp 18),none⟩])
 .ret)
 .skip)))
 (.seq
 (.reg [3,4] [⟨some 19,.mov (.tmp 1),none⟩,
 ⟨some 20,.ld true 3 (.cst (.gp 0 0)),none⟩,
 ⟨some 21,.bsl 3 52 3 1 [(.agg [(.int .i64 0),(.int .i64 0),(.int .i64 0)])] [(0,(.tmp 20))],none⟩,
 ⟨some 22,.fad 0 (.tmp 2),none⟩,
 ⟨some 23,.ld false 1 (.tmp 22),none⟩,
 ⟨some 24,.len (.tmp 23),none⟩,
 ⟨some 25,.calln 5 52 3 38 [(.tmp 21),(.tmp 24)],none⟩,
 ⟨some 26,.build [(.d (.int .i64 0)),(.d (.int .i64 0)),(.nils 3)] [(0,1,(.tmp 19)),(1,1,(.cst (.d (.int .i64 1)))),(2,1,(.tmp 25))],none⟩,
 ⟨some 7,.alloc 4 [(.d (.int .i64 0)),(.d (.int .i64 0)),(.nils 3)],none⟩,
 ⟨none,.st 3 (.tmp 7) (.tmp 26),none⟩])
 (.seq
 (.reg [] [⟨some 27,.fad 2 (.tmp 7),none⟩,
 ⟨some 28,.ld false 1 (.tmp 27),none⟩,
 ⟨some 29,.mov (.tmp 1),none⟩,
 ⟨some 30,.mov (.tmp 1),none⟩,
 ⟨some 31,.build [(.d (.int .i64 0)),(.d (.int .i64 0)),(.d (.int .i64 0))] [(0,1,(.cst (.d (.int .i64 1)))),(1,1,(.cst (.d (.int .i64 0)))),(2,1,(.tmp 30))],none⟩,
 ⟨some 32,.ixa 3 (.tmp 28) (.tmp 29),none⟩,
 ⟨none,.st 3 (.tmp 32) (.tmp 31),none⟩])
 (.seq
 (.reg [] [⟨some 33,.ld true 3 (.tmp 7),none⟩,
 ⟨none,.st 3 (.tmp 4) (.tmp 33),none⟩,
 ⟨some 5,.mov (.cst (.d (.int .i64 0))),none⟩])
 .ret)))))⟩
def ir35:AFun:=⟨29,5,[.cell 4 3 true],
 (.seq
 (.reg [0,1] [⟨some 2,.cbx 0 2 (.tmp 0),none⟩,
 ⟨some 4,.alloc 1 [(.d (.int .i64 0)),(.d (.int .i64 0)),(.nils 3)],none⟩])
 (.seq
 (.reg [2] [⟨some 7,.mov (.tmp 1),none⟩,
 ⟨some 8,.build [(.d (.int .i64 0)),(.d (.int .i64 0)),(.nils 3)] [(0,1,(.tmp 7)),(1,1,(.cst (.d (.int .i64 1))))],none⟩,
 ⟨some 5,.alloc 2 [(.d (.int .i64 0)),(.d (.int .i64 0)),(.nils 3)],none⟩,
 ⟨none,.st 3 (.tmp 5) (.tmp 8),none⟩])
 (.seq
 (.seq
 (.reg [] [⟨some 6,.mov (.cst (.d (.int .i64 0))),none⟩])
 (.post [1,4,5] [0,1,2,3,4]
 (.block 0
 (.keep [1,2,4,5,6] [0,1,2]
 (.loop
 (.post [1,2,4,5,6] [3,4]
 (.seq
 (.seq
 (.reg [] [⟨some 9,.mov (.tmp 6),none⟩,
 ⟨some 10,.fad 0 (.tmp 2),none⟩,
 ⟨some 11,.ld false 1 (.tmp 10),none⟩,
 ⟨some 12,.len (.tmp 11),none⟩,
 ⟨some 13,.cmp .lss (.tmp 9) (.tmp 12),none⟩])
 (.cond (.tmp 13)
 .skip
 (.exit 0)))
 (.seq
 (.block 1
 (.reg [3,4] [⟨some 16,.fad 2 (.tmp 5),none⟩,
 ⟨some 17,.ld false 1 (.tmp 16),none⟩,
 ⟨some 18,.build [(.d (.int .i64 0)),(.d (.int .i64 0)),(.d (.int .i64 0))] [(2,1,(.cst (.d (.int .i64 (-1)))))],none⟩,
 ⟨some 19,.bsl 3 112 3 1 [(.agg [(.int .i64 0),(.int .i64 0),(.int .i64 0)])] [(0,(.tmp 18))],none⟩,
 ⟨some 20,.app 4 112 3 24 (.tmp 17) (.tmp 19),none⟩,
 ⟨some 21,.fad 2 (.tmp 5),none⟩,
 ⟨none,.st 1 (.tmp 21) (.tmp 20),none⟩]))
 (.reg [] [⟨some 14,.mov (.tmp 6),none⟩,
 ⟨some 15,.arith .add .i64 (.tmp 14) (.cst (.d (.int .i64 1))),none⟩,
 ⟨some 6,.mov (.tmp 15),none⟩])))))))))
 (.seq
 (.reg [] [⟨some 22,.fad 2 (.tmp 5),none⟩,
 ⟨some 23,.ld false 1 (.tmp 22),none⟩,
 ⟨some 24,.mov (.tmp 1),none⟩,
 ⟨some 25,.mov (.tmp 1),none⟩,
 ⟨some 26,.build [(.d (.int .i64 0)),(.d (.int .i64 0)),(.d (.int .i64 0))] [(0,1,(.cst (.d (.int .i64 1)))),(1,1,(.cst (.d (.int .i64 0)))),(2,1,(.tmp 25))],none⟩,
 ⟨some 27,.ixa 3 (.tmp 23) (.tmp 24),none⟩,
 ⟨none,.st 3 (.tmp 27) (.tmp 26),none⟩])
 (.seq
 (.reg [] [⟨some 28,.ld true 3 (.tmp 5),none⟩,
 ⟨none,.st 3 (.tmp 4) (.tmp 28),none⟩])
 .ret)))))⟩
def ir32:AFun:=⟨36,8,[.cell 4 3 true,.tmp 5],
 (.seq
 (.reg [0,1,2] [⟨some 2,.cbx 0 2 (.tmp 0),none⟩,
 ⟨some 3,.cbx 1 3 (.tmp 1),none⟩,
 ⟨some 4,.alloc 2 [(.d (.int .i64 0)),(.d (.int .i64 0)),(.nils 3)],none⟩,
 ⟨some 5,.mov (.cst (.d (.int .i64 0))),none⟩])
 (.seq
 (.seq
 (.regd [3] [⟨some 8,.ld true 2 (.tmp 2),none⟩,
 ⟨some 9,.ld true 3 (.tmp 3),none⟩,
 ⟨some 10,.call 52 [(.tmp 8),(.tmp 9)],none⟩,
 ⟨some 11,.fad 1 (.tmp 3),none⟩,
 ⟨some 12,.ld false 1 (.tmp 11),none⟩,
 ⟨some 13,.cmp .eql (.tmp 12) (.cst (.d (.int .i64 1000000))),none⟩,
 ⟨some 14,.call 58 [(.tmp 13),(.cst (.d (.int .i64 20)))],none⟩,
 ⟨some 15,.bsl 3 33 1 2 [(.int .i64 0),(.int .i64 0)] [(0,(.tmp 10)),(1,(.tmp 14))],none⟩,
 ⟨some 16,.call 31 [(.tmp 15)],none⟩,
 ⟨some 6,.mov (.tmp 16),none⟩] [(0,1),(0,3),(1,3),(2,3),(0,4),(1,4),(2,4),(0,5),(1,5),(2,5)])
 (.seq
 (.reg [] [⟨some 17,.mov (.tmp 6),none⟩,
 ⟨some 18,.cmp .neq (.tmp 17) (.cst (.d (.int .i64 0))),none⟩])
 (.cond (.tmp 18)
 (.seq
 (.reg [] [⟨some 19,.build [(.d (.int .i64 0)),(.d (.int .i64 0)),(.nils 3)] [],none⟩,
 ⟨some 20,.mov (.tmp 6),none⟩,
 ⟨none,.st 3 (.tmp 4) (.tmp 19),none⟩,
 ⟨some 5,.mov (.tmp 20),none⟩])
 .ret)
 .skip)))
 (.seq
 (.reg [4] [⟨some 21,.ld true 3 (.tmp 3),none⟩,
 ⟨some 22,.calli 59 [(.tmp 21)],none⟩,
 ⟨some 7,.alloc 4 [(.d (.int .i64 0)),(.d (.int .i64 0)),(.nils 3)],none⟩,
 ⟨none,.st 3 (.tmp 7) (.tmp 22),none⟩])
 (.seq
 (.reg [] [⟨some 23,.fad 1 (.tmp 7),none⟩,
 ⟨some 24,.ld false 1 (.tmp 23),none⟩,
 ⟨some 25,.arith .add .i64 (.tmp 24) (.cst (.d (.int .i64 1))),none⟩,
 ⟨some 26,.fad 1 (.tmp 7),none⟩,
 ⟨none,.st 1 (.tmp 26) (.tmp 25),none⟩])
 (.seq
 (.reg [] [⟨some 27,.fad 2 (.tmp 7),none⟩,
 ⟨some 28,.ld false 1 (.tmp 27),none⟩,
 ⟨some 29,.fad 0 (.tmp 3),none⟩,
 ⟨some 30,.ld false 1 (.tmp 29),none⟩,
 ⟨some 31,.fad 1 (.tmp 7),none⟩,
 ⟨some 32,.ld false 1 (.tmp 31),none⟩,
 ⟨some 33,.ixa 3 (.tmp 28) (.tmp 30),none⟩,
 ⟨some 34,.fad 0 (.tmp 33),none⟩,
 ⟨none,.st 1 (.tmp 34) (.tmp 32),none⟩])
 (.seq
 (.reg [] [⟨some 35,.ld true 3 (.tmp 7),none⟩,
 ⟨none,.st 3 (.tmp 4) (.tmp 35),none⟩,
 ⟨some 5,.mov (.cst (.d (.int .i64 0))),none⟩])
 .ret))))))⟩
def Sts.zero:Sts:=⟨0,0,[]⟩
def Ms.begun (m:Ms) (i:Int):Sts:=⟨i,1,(List.replicate m.ns.length ⟨0,0,-1⟩).set i.toNat ⟨1,0,i⟩⟩
theorem ens_rep (n:Nat) (x:En):ens (List.replicate n x)=List.replicate n x.d:=by unfold ens; rw [List.map_replicate]
theorem ens_set (l:List En) (i:Nat) (x:En):ens (l.set i x)=(ens l).set i x.d:=by unfold ens; rw [List.map_set]
theorem begun_es (m:Ms) (i:Int):ens (m.begun i).es=(List.replicate (strs m.ns).length (.agg [.int .i64 0,.int .i64 0,.int .i64 (-1)])).set i.toNat (.agg [.int .i64 1,.int .i64 0,.int .i64 i]):=by
 unfold Ms.begun; rw [ens_set,ens_rep,strs_len]; rfl
theorem c31 (m:Ms) (i:Int) (hn:m.ns.length≤1048576) (hl:m.ls.length≤1048576):CallDet Tryz.prog 9 [.d m.d,.d (.int .i64 i)] [(bif nodeD m i != 0 then Sts.zero else m.begun i).d,.int .i64 (nodeD m i)]:=by
 have hsl:=strs_len m.ns
 have bad:¬ firstOf [m.chk,m.nodeE i]=0→resV [.agg [.int .i64 0,.int .i64 0,.slice 3 []],.int .i64 (firstOf [m.chk,m.nodeE i])]=resV [(bif nodeD m i != 0 then Sts.zero else m.begun i).d,.int .i64 (nodeD m i)]:=fun h=>by
  have e:(nodeD m i != 0)=true:=by rw [bne_iff_ne]; exact h
  rw [e]; rfl
 have fin:firstOf [m.chk,m.nodeE i]=0→∀ X,X=ens (m.begun i).es→resV [.agg [.int .i64 i,.int .i64 1,.slice 3 X],.int .i64 0]=resV [(bif nodeD m i != 0 then Sts.zero else m.begun i).d,.int .i64 (nodeD m i)]:=fun h X hX=>by
  have e:nodeD m i=0:=h
  rw [e,hX]; rfl
 refine call_of_vc (x:=ir31) (by kernel_rfl) rfl ?_
 have hk:=fun h:firstOf [m.chk,m.nodeE i]=0=>(nodeD_ok (m:=m) (i:=i) h).2
 have hr:=fun h:firstOf [m.chk,m.nodeE i]=0=>show (List.replicate (strs m.ns).length (Data.agg [.int .i64 0,.int .i64 0,.int .i64 (-1)]))[i.toNat]?=some (.agg [.int .i64 0,.int .i64 0,.int .i64 (-1)]) by
  have:=hk h
  rw [List.getElem?_replicate,if_pos (by omega)]
 by_cases hz:firstOf [m.chk,m.nodeE i]=0
 ·have hkz:=hk hz
  have hlr:(List.replicate (strs m.ns).length (Data.agg [.int .i64 0,.int .i64 0,.int .i64 (-1)])).length=m.ns.length:=by rw [List.length_replicate,hsl]
  refine ca (c27 m (by omega) (by omega)) ?_
  refine ca (c87 m _) ?_
  refine sd ?_
  refine sd ?_
  refine ca (c86 [Ms.chk m,Ms.nodeE m i] (by simp)) ?_
  refine sd ?_
  refine b_ne (fun t1=>?_) (fun t1=>?_)
  (exfalso; omega)
  refine sd ?_
  refine sd ?_
  refine ca (c98r _ (strs m.ns).length (by omega)) ?_
  refine sd ?_
  refine an ?_ ?_
  refine an ?_ ?_
  exact rfl
  refine an ?_ ?_
  exact rfl
  refine an ?_ ?_
  (show (0:Int)≤i; omega)
  (show i < (↑(List.length (List.replicate (List.length (strs (Ms.ns m))) (Data.agg [Data.int IntKind.i64 (0:Int),Data.int IntKind.i64 (0:Int),Data.int IntKind.i64 (-1:Int)]))):Int); omega)
  refine Exists.intro _ (Exists.intro (Vc.Data.agg [Data.int IntKind.i64 (1:Int),Data.int IntKind.i64 (0:Int),Data.int IntKind.i64 i]) (And.intro (And.intro ?_ (And.intro (hr hz) (And.intro rfl (And.intro ?_ (And.intro rfl rfl))))) ?_))
  exact rfl
  (show (0:Nat)+(3:Nat)≤(1:Nat)+(1:Nat)+(1:Nat); omega)
  refine an ?_ ?_
  focus (show List.length (List.set (List.replicate (List.length (strs (Ms.ns m))) (Data.agg [Data.int IntKind.i64 (0:Int),Data.int IntKind.i64 (0:Int),Data.int IntKind.i64 (-1:Int)])) (Int.toNat i) (Data.agg [Data.int IntKind.i64 (1:Int),Data.int IntKind.i64 (0:Int),Data.int IntKind.i64 i]))=List.length (List.replicate (List.length (strs (Ms.ns m))) (Data.agg [Data.int IntKind.i64 (0:Int),Data.int IntKind.i64 (0:Int),Data.int IntKind.i64 (-1:Int)])); simp only [List.length_replicate,List.length_set,List.length_append,List.length_take,List.length_drop]; done)
  rotate_left
  exact fin t1 _ (begun_es m i).symm
 ·refine ca (c27 m (by omega) (by omega)) ?_
  refine ca (c87 m _) ?_
  refine sd ?_
  refine sd ?_
  refine ca (c86 [Ms.chk m,Ms.nodeE m i] (by simp)) ?_
  refine sd ?_
  refine b_ne (fun t1=>?_) (fun t1=>?_)
  rotate_left
  (exfalso; omega)
  exact bad t1
def Sts.beac (s:Sts):Sts:=⟨s.co,s.nu+1,s.es.set s.co.toNat ⟨s.nu+1,(s.at s.co).di,(s.at s.co).ne⟩⟩
theorem c99i_32 (m : Ms) (s : Sts) (a b : Int) (hn : s.es.length ≤ 1048576) : CallIn Tryz.prog 59 [.d s.d] [.cbox [.slice 1 (strs m.ns), .slice 3 (lks m.ls)], .cbox [.int .i64 s.co, .int .i64 s.nu, .slice 3 (ens s.es)], .box [.d (.int .i64 0), .d (.int .i64 0), .nils 3], .row 33 1 [.int .i64 a, .int .i64 b] false, .none, .none, .none, .none] (.agg [.d (.int .i64 s.co), .d (.int .i64 s.nu), .sl 7 (ens s.es).length])
  (setAll [.cbox [.slice 1 (strs m.ns),.slice 3 (lks m.ls)],.cbox [.int .i64 s.co,.int .i64 s.nu,.slice 3 (ens s.es)],.box [.d (.int .i64 0),.d (.int .i64 0),.nils 3],.row 33 1 [.int .i64 a,.int .i64 b] false,.none,.none,.none,.none] [(5,.cbox [.int .i64 s.co,.int .i64 s.nu,.slice 3 (ens s.es)]),(6,.box [.d (.int .i64 s.co),.d (.int .i64 s.nu),.sl 7 (ens s.es).length]),(7,.row 52 3 (ens s.es) false)]):=by
 have hl:=ens_len s.es
 have e:List.take (ens s.es).length (ens s.es)++List.drop (ens s.es).length (List.replicate (ens s.es).length (.agg [.int .i64 0,.int .i64 0,.int .i64 0]))=ens s.es:=by
  rw [List.take_length,List.drop_eq_nil_of_le (by rw [List.length_replicate]; exact Nat.le_refl _),List.append_nil]
 refine callIn_of_vc 5 (x:=ir99) (by kernel_rfl) rfl rfl rfl ?_
 refine an ?_ ?_
 refine an ?_ ?_
 (show (0:Int)≤(↑(List.length (ens (Sts.es s))):Int); omega)
 refine an ?_ ?_
 (show (↑(List.length (ens (Sts.es s))):Int) * (↑(24:Nat):Int)≤(2:Int) ^ (47:Nat); omega)
 (show (↑(List.length (ens (Sts.es s))):Int)≤(2:Int) ^ (47:Nat); omega)
 refine ca (And.intro rfl (And.intro rfl (And.intro ?_ rfl))) ?_
 focus (show List.length (List.replicate (List.length (ens (Sts.es s))) (Data.agg [Data.int IntKind.i64 (0:Int),Data.int IntKind.i64 (0:Int),Data.int IntKind.i64 (0:Int)]))=List.length (ens (Sts.es s)); simp only [List.length_replicate,List.length_set,List.length_append,List.length_take,List.length_drop]; done)
 refine an ?_ ?_
 (show List.length (List.take (List.length (ens (Sts.es s))) (ens (Sts.es s))++List.drop (List.length (ens (Sts.es s))) (List.replicate (List.length (ens (Sts.es s))) (Data.agg [Data.int IntKind.i64 (0:Int),Data.int IntKind.i64 (0:Int),Data.int IntKind.i64 (0:Int)])))=List.length (ens (Sts.es s)); simp only [List.length_replicate,List.length_set,List.length_append,List.length_take,List.length_drop]; omega)
 refine sd ?_
 rotate_left
 exact congrArg (fun X=>([.cbox [.slice 1 (strs m.ns),.slice 3 (lks m.ls)],.cbox [.int .i64 s.co,.int .i64 s.nu,.slice 3 (ens s.es)],.box [.d (.int .i64 0),.d (.int .i64 0),.nils 3],.row 33 1 [.int .i64 a,.int .i64 b] false,.none,.cbox [.int .i64 s.co,.int .i64 s.nu,.slice 3 (ens s.es)],.box [.d (.int .i64 s.co),.d (.int .i64 s.nu),.sl 7 (ens s.es).length],.row 52 3 X false]:List AObj)) e
def beacE (m:Ms) (s:Sts):Int:=firstOf [m.chkS s,bif s.nu==1000000 then 20 else 0]
theorem Sts.fine.atco {m:Ms} {s:Sts} (h:s.fine m):(ens s.es)[s.co.toNat]?=some (.agg [.int .i64 (s.at s.co).nu,.int .i64 (s.at s.co).di,.int .i64 (s.at s.co).ne]) :=
 ens_atI (Sts.at_getI (by have:=h.co; have:=h.len; omega))
theorem beac_es (s:Sts):ens s.beac.es=(ens s.es).set s.co.toNat (.agg [.int .i64 (s.nu+1),.int .i64 (s.at s.co).di,.int .i64 (s.at s.co).ne]):=by
 unfold Sts.beac; rw [ens_set]; rfl
theorem c32 (m:Ms) (s:Sts) (hm:m.ns.length≤1048576) (hl2:m.ls.length≤1048576) (hn:s.es.length≤1048576):CallDet Tryz.prog 21 [.d m.d,.d s.d] [(bif beacE m s != 0 then Sts.zero else s.beac).d,.int .i64 (beacE m s)]:=by
 have hl:=ens_len s.es
 have bad:¬ firstOf [m.chkS s,bif s.nu==1000000 then 20 else 0]=0→resV [.agg [.int .i64 0,.int .i64 0,.slice 3 []],.int .i64 (firstOf [m.chkS s,bif s.nu==1000000 then 20 else 0])]=resV [(bif beacE m s != 0 then Sts.zero else s.beac).d,.int .i64 (beacE m s)]:=fun h=>by
  have e:(beacE m s != 0)=true:=by rw [bne_iff_ne]; exact h
  rw [e]; rfl
 have fin:firstOf [m.chkS s,bif s.nu==1000000 then 20 else 0]=0→∀ X,X=ens s.beac.es→resV [.agg [.int .i64 s.co,.int .i64 (s.nu+1),.slice 3 X],.int .i64 0]=resV [(bif beacE m s != 0 then Sts.zero else s.beac).d,.int .i64 (beacE m s)]:=fun h X hX=>by
  have e:beacE m s=0:=h
  rw [e,hX]; rfl
 refine call_of_vc (x:=ir32) (by kernel_rfl) rfl ?_
 by_cases hz:firstOf [m.chkS s,bif s.nu==1000000 then 20 else 0]=0
 ·have hf:s.fine m:=chkS_fine (firstOf_zero hz _ (by simp))
  have hx:=hf.atco
  have hco:=hf.co
  have hnu:=hf.nu
  have hle:=hf.len
  refine ca (c37 m s (by omega) (by omega) (by omega)) ?_
  refine sd ?_
  refine ca (c89 _ _) ?_
  refine sd ?_
  refine sd ?_
  refine ca (c86 [Ms.chkS m s,bif Sts.nu s==(1000000:Int) then (20:Int) else (0:Int)] (by simp)) ?_
  refine sd ?_
  refine b_ne (fun t1=>?_) (fun t1=>?_)
  (exfalso; omega)
  refine Exists.intro _ (Exists.intro _ (And.intro (c99i_32 m s _ _ (by omega)) ?_))
  refine ar_add ?_ ?_
  refine an ?_ ?_
  (show (-9223372036854775808:Int)≤Sts.nu s+(1:Int); omega)
  (show Sts.nu s+(1:Int)≤(9223372036854775807:Int); omega)
  refine an ?_ ?_
  refine an ?_ ?_
  exact rfl
  refine an ?_ ?_
  exact rfl
  refine an ?_ ?_
  (show (0:Int)≤Sts.co s; omega)
  (show Sts.co s < (↑(List.length (ens (Sts.es s))):Int); omega)
  refine sd ?_
  refine Exists.intro _ (Exists.intro (Vc.Data.agg [Data.int IntKind.i64 (Sts.nu s+(1:Int)),Data.int IntKind.i64 (En.di (Sts.at s (Sts.co s))),Data.int IntKind.i64 (En.ne (Sts.at s (Sts.co s)))]) (And.intro (And.intro ?_ (And.intro hx (And.intro rfl (And.intro ?_ (And.intro rfl rfl))))) ?_))
  exact rfl
  (show (0:Nat)+(0:Nat)+(1:Nat)≤(1:Nat)+(1:Nat)+(1:Nat); omega)
  refine an ?_ ?_
  focus (show List.length (List.set (ens (Sts.es s)) (Int.toNat (Sts.co s)) (Data.agg [Data.int IntKind.i64 (Sts.nu s+(1:Int)),Data.int IntKind.i64 (En.di (Sts.at s (Sts.co s))),Data.int IntKind.i64 (En.ne (Sts.at s (Sts.co s)))]))=List.length (ens (Sts.es s)); simp only [List.length_replicate,List.length_set,List.length_append,List.length_take,List.length_drop]; done)
  rotate_left
  exact fin t1 _ (beac_es s).symm
 ·refine ca (c37 m s (by omega) (by omega) (by omega)) ?_
  refine sd ?_
  refine ca (c89 _ _) ?_
  refine sd ?_
  refine sd ?_
  refine ca (c86 [Ms.chkS m s,bif Sts.nu s==(1000000:Int) then (20:Int) else (0:Int)] (by simp)) ?_
  refine sd ?_
  refine b_ne (fun t1=>?_) (fun t1=>?_)
  rotate_left
  (exfalso; omega)
  exact bad t1
end Vc
set_option maxRecDepth 10000
namespace Vc
open Go Go.Proofs
def ofE (m:Ms) (s:Sts) (fr w:Int):En:=⟨(s.at fr).nu,(s.at fr).di+betw m.ls fr w,fr⟩
def ofB (m:Ms) (s:Sts) (fr w:Int):Bool:=!((s.at fr).ne==-1)&&decide ((s.at fr).di+betw m.ls fr w≤3200)
def En.betB (x o:En):Bool:=decide (o.nu < x.nu)||((x.nu==o.nu)&&decide (x.di < o.di))
theorem betB_iff {x o:En}:x.betB o=true↔x.bet o:=by
 unfold En.betB En.bet
 simp only [Bool.or_eq_true,Bool.and_eq_true,decide_eq_true_eq,beq_iff_eq]
 constructor
 ·rintro (h | ⟨h1,h2⟩)
  ·exact .inl h
  ·exact .inr ⟨h1.symm,h2⟩
 ·rintro (h | ⟨h1,h2⟩)
  ·exact .inl h
  ·exact .inr ⟨h1.symm,h2⟩
def hrB (m:Ms) (s:Sts) (lost:List (Int × Int)) (w fr:Int) (acc:En):Bool:=!(w==s.co)&&(ofB m s fr w&&(!(lostB lost w fr)&&(ofE m s fr w).betB acc))
def hr (m:Ms) (s:Sts) (lost:List (Int × Int)) (w:Int) (acc:En) (fr:Int):En:=bif hrB m s lost w fr acc then ofE m s fr w else acc
def roundE (m:Ms) (s:Sts) (lost:List (Int × Int)) (w:Int):En:=(m.nbs w).foldl (hr m s lost w) (s.at w)
def rndL (m:Ms) (s:Sts) (lost:List (Int × Int)) (n:Nat):List En:=(List.range s.es.length).map fun i=>if i < n then roundE m s lost i else s.at i
def Sts.round (m:Ms) (s:Sts) (lost:List (Int × Int)):Sts:=⟨s.co,s.nu,rndL m s lost s.es.length⟩
theorem rndL_len (m:Ms) (s:Sts) (lost:List (Int × Int)) (n:Nat):(rndL m s lost n).length=s.es.length:=by unfold rndL; rw [List.length_map,List.length_range]
theorem rndL_get (m:Ms) (s:Sts) (lost:List (Int × Int)) (n:Nat) {i:Nat} (h:i < s.es.length):(rndL m s lost n)[i]?=some (if i < n then roundE m s lost i else s.at i):=by
 unfold rndL; rw [List.getElem?_map,List.getElem?_range h]; rfl
theorem rndL_zero (m:Ms) (s:Sts) (lost:List (Int × Int)):rndL m s lost 0=s.es:=by
 apply List.ext_getElem?
 intro i
 by_cases h:i < s.es.length
 ·rw [rndL_get m s lost 0 h,if_neg (by omega),Sts.at_get h]
 ·rw [List.getElem?_eq_none (by rw [rndL_len]; omega),List.getElem?_eq_none (by omega)]
theorem rndL_start (m:Ms) (s:Sts) (lost:List (Int × Int)) {n:Nat} (h:n < s.es.length):(rndL m s lost n).set n (s.at n)=rndL m s lost n:=by
 apply List.ext_getElem?
 intro i
 by_cases e:i=n
 ·subst e
  rw [List.getElem?_set_self (by rw [rndL_len]; exact h),rndL_get m s lost i h,if_neg (by omega)]
 ·rw [List.getElem?_set_ne (Ne.symm e)]
theorem rndL_next (m:Ms) (s:Sts) (lost:List (Int × Int)) {n:Nat} (h:n < s.es.length):(rndL m s lost n).set n (roundE m s lost n)=rndL m s lost (n+1):=by
 apply List.ext_getElem?
 intro i
 by_cases e:i=n
 ·subst e
  rw [List.getElem?_set_self (by rw [rndL_len]; exact h),rndL_get m s lost _ h,if_pos (by omega)]
 ·rw [List.getElem?_set_ne (Ne.symm e)]
  by_cases h2:i < s.es.length
  ·rw [rndL_get m s lost _ h2,rndL_get m s lost _ h2]
   by_cases h3:i < n
   ·rw [if_pos h3,if_pos (by omega)]
   ·rw [if_neg h3,if_neg (by omega)]
  ·rw [List.getElem?_eq_none (by rw [rndL_len]; omega),List.getElem?_eq_none (by rw [rndL_len]; omega)]
theorem betw_comm (ls:List Lk) (a b:Int):betw ls a b=betw ls b a:=by
 induction ls with
 | nil=>rfl
 | cons l r ih =>
  unfold betw
  rw [ih,show hit l a b=hit l b a by unfold hit; rw [Int.min_comm,Int.max_comm]]
theorem hr_fold (m : Ms) (s : Sts) (lost : List (Int × Int)) (w : Int) : ∀ (L : List Int) (acc : En),
  (L.foldl (hr m s lost w) acc=acc∨∃ fr∈L,hrB m s lost w fr acc=true∧L.foldl (hr m s lost w) acc=ofE m s fr w)∧(∀ fr∈L,hrB m s lost w fr (L.foldl (hr m s lost w) acc)=false)∧¬ acc.bet (L.foldl (hr m s lost w) acc)
 | [],acc=>⟨.inl rfl,fun _ h=>(by cases h),fun h=>by unfold En.bet at h; simp only [List.foldl] at h; omega⟩
 | x::L,acc=>by
  have ih:=hr_fold m s lost w L (hr m s lost w acc x)
  have e0:(x::L).foldl (hr m s lost w) acc=L.foldl (hr m s lost w) (hr m s lost w acc x):=rfl
  rw [e0]
  generalize hR:L.foldl (hr m s lost w) (hr m s lost w acc x)=R at ih ⊢
  obtain ⟨i1,i2,i3⟩:=ih
  have mono:∀ fr (a b:En),¬ a.bet b→hrB m s lost w fr b=true→hrB m s lost w fr a=true→True:=fun _ _ _ _ _ _=>trivial
  have up:∀ fr,¬ acc.bet (hr m s lost w acc x)→hrB m s lost w fr (hr m s lost w acc x)=true→hrB m s lost w fr acc=true:=by
   intro fr hn hb
   unfold hrB at hb ⊢
   simp only [Bool.and_eq_true,Bool.not_eq_true'] at hb ⊢
   refine ⟨hb.1,hb.2.1,hb.2.2.1,betB_iff.2 ?_⟩
   have h:=betB_iff.1 hb.2.2.2
   unfold En.bet at h hn ⊢
   omega
  have h1:¬ acc.bet (hr m s lost w acc x):=by
   unfold hr
   cases hb:hrB m s lost w x acc
   ·intro h; unfold En.bet at h; simp only [cond_false] at h; omega
   ·intro h
    unfold hrB at hb
    simp only [Bool.and_eq_true] at hb
    have h2:=betB_iff.1 hb.2.2.2
    simp only [cond_true] at h
    unfold En.bet at h h2
    omega
  refine ⟨?_,?_,?_⟩
  ·rcases i1 with e | ⟨fr,hm,hb,e⟩
   ·rw [e]
    cases hb:hrB m s lost w x acc
    ·left; unfold hr; rw [hb]; rfl
    ·right; exact ⟨x,List.mem_cons_self,hb,by unfold hr; rw [hb]; rfl⟩
   ·exact .inr ⟨fr,List.mem_cons_of_mem _ hm,up fr h1 hb,e⟩
  ·intro fr hm
   rcases List.mem_cons.1 hm with rfl | hm
   ·cases hb:hrB m s lost w fr R
    ·rfl
    ·exfalso
     have hb2:=hb
     unfold hrB at hb2
     simp only [Bool.and_eq_true,Bool.not_eq_true'] at hb2
     have h2:=betB_iff.1 hb2.2.2.2
     cases hc:hrB m s lost w fr acc
     ·-- then acc was no worse
      have hc2:¬ (ofE m s fr w).betB acc=true:=by
       intro h
       unfold hrB at hc
       rw [hb2.1,hb2.2.1,hb2.2.2.1,h] at hc
       cases hc
      have e:hr m s lost w acc fr=acc:=by unfold hr; rw [hc]; rfl
      rw [e] at i3
      have h3:¬ (ofE m s fr w).bet acc:=fun h=>hc2 (betB_iff.2 h)
      unfold En.bet at h2 h3 i3
      omega
     ·have e:hr m s lost w acc fr=ofE m s fr w:=by unfold hr; rw [hc]; rfl
      rw [e] at i3
      exact i3 h2
   ·exact i2 fr hm
  ·intro h
   unfold En.bet at h h1 i3
   omega
end Vc
set_option maxRecDepth 10000
namespace Vc
open Go Go.Proofs
structure Good (m:Ms) (s:Sts):Prop where
 chk:m.chk=0
 co:0≤s.co∧s.co < (m.ns.length:Int)
 nu:1≤s.nu∧s.nu≤1000000
 len:s.es.length=m.ns.length
 rng:∀ k:Int,0≤k→k < (m.ns.length:Int)→(0≤(s.at k).nu∧(s.at k).nu≤s.nu)∧(0≤(s.at k).di∧(s.at k).di≤3200)∧(-1≤(s.at k).ne∧(s.at k).ne < (m.ns.length:Int))
 coE:s.at s.co=⟨s.nu,0,s.co⟩
 bare:∀ k:Int,0≤k→k < (m.ns.length:Int)→k≠s.co→(s.at k).nu=0→s.at k=⟨0,0,-1⟩
 lnk:∀ k:Int,0≤k→k < (m.ns.length:Int)→k≠s.co→(s.at k).ne≠-1→betw m.ls k (s.at k).ne≠0
 lead:∀ k:Int,0≤k→k < (m.ns.length:Int)→k≠s.co→(s.at k).ne≠-1→(s.at k).nu < (s.at (s.at k).ne).nu∨((s.at (s.at k).ne).nu=(s.at k).nu∧(s.at (s.at k).ne).di+betw m.ls k (s.at k).ne≤(s.at k).di)
theorem En.same_iff {x y:En}:En.same x y=true↔x=y:=by
 unfold En.same
 simp only [Bool.and_eq_true,beq_iff_eq,and_true]
 constructor
 ·rintro ⟨h1,h2,h3⟩
  cases x; cases y
  simp only at h1 h2 h3
  subst h1; subst h2; subst h3; rfl
 ·rintro rfl; exact ⟨rfl,rfl,rfl⟩
theorem firstOf_all:∀ {l:List Int},(∀ x∈l,x=0)→firstOf l=0
 | [],_=>rfl
 | x::r,h=>by
  rw [firstOf_cons,h x (by simp)]
  exact firstOf_all fun y hy=>h y (List.mem_cons_of_mem _ hy)
theorem within_in {x lo hi:Int} (h:lo≤x∧x≤hi):within3 x lo hi=0:=by
 unfold within3; rw [decide_eq_false (by omega),decide_eq_false (by omega)]; rfl
theorem scan_all {α:Type} {f:List α→α→Int}:∀ (l pre:List α),(∀ (k:Nat) x,l[k]?=some x→f (pre++l.take k) x=0)→scanE f pre l=0
 | [],_,_=>rfl
 | x::r,pre,h=>by
  have h0:=h 0 x rfl
  simp only [List.take_zero,List.append_nil] at h0
  unfold scanE
  rw [h0]
  refine scan_all r (pre++[x]) fun k y hy=>?_
  have:=h (k+1) y hy
  rw [List.append_assoc]
  exact this
theorem good_of {m:Ms} {s:Sts} (h:m.chkS s=0):Good m s:=by
 have hf:=chkS_fine h
 have h1:stH m s=0:=Classical.byContradiction fun hn=>hn ((chkS_1 hn).symm.trans h)
 have hlen:=hf.len
 have gt:∀ k:Int,0≤k→k < (m.ns.length:Int)→s.es[k.toNat]?=some (s.at k):=fun k h0 h2=>Sts.at_getI (by omega)
 have ent:∀ k:Int,0≤k→k < (m.ns.length:Int)→entE m s k (s.at k)=0:=fun k h0 h2=>by
  have:=hf.ent k.toNat (s.at k) (gt k h0 h2)
  rwa [show ((k.toNat:Nat):Int)=k by omega] at this
 have hd:∀ k:Int,0≤k→k < (m.ns.length:Int)→entH m s (s.at k)=0:=fun k h0 h2=>Classical.byContradiction fun hn=>hn ((entE_bad rfl hn).symm.trans (ent k h0 h2))
 have no:∀ k:Int,0≤k→k < (m.ns.length:Int)→k≠s.co→(bif ((s.at k).nu==0)&&!(En.same (s.at k) ⟨0,0,-1⟩) then 1 else 0:Int)=0∧(bif ((s.at k).ne != -1)&&(betw m.ls k (s.at k).ne==0) then 7 else 0:Int)=0:=fun k h0 h2 hc=>by
  have e:=ent k h0 h2
  rw [entE_no rfl (hd k h0 h2) hc rfl rfl] at e
  have:=firstOf_zero e
  exact ⟨this _ (by simp),this _ (by simp)⟩
 refine ⟨firstOf_zero h1 m.chk (by simp),hf.co,hf.nu,hlen,fun k h0 h2=>ent_ok (ent k h0 h2),?_,?_,?_,?_⟩
 ·have e:=ent s.co hf.co.1 hf.co.2
  rw [entE_co rfl (hd _ hf.co.1 hf.co.2) rfl] at e
  cases hs:En.same (s.at s.co) ⟨s.nu,0,s.co⟩
  ·rw [hs] at e; cases e
  ·exact En.same_iff.1 hs
 ·intro k h0 h2 hc hn
  have e:=(no k h0 h2 hc).1
  rw [hn] at e
  cases hs:En.same (s.at k) ⟨0,0,-1⟩
  ·rw [hs] at e; cases e
  ·exact En.same_iff.1 hs
 ·intro k h0 h2 hc hn hz
  have e:=(no k h0 h2 hc).2
  rw [hz,show ((s.at k).ne != -1)=true by rw [bne_iff_ne]; exact hn] at e
  cases e
 ·intro k h0 h2 hc hn
  have e:=hf.lead k.toNat (s.at k) (gt k h0 h2)
  rw [show ((k.toNat:Nat):Int)=k by omega,leads_3 hc hn] at e
  simp only [Bool.or_eq_true,Bool.and_eq_true,decide_eq_true_eq,beq_iff_eq] at e
  exact e
theorem of_good {m:Ms} {s:Sts} (g:Good m s):m.chkS s=0:=by
 have hf:=chk_fine g.chk
 have hlen:=g.len
 have hco:=g.co
 have h1:stH m s=0:=by
  unfold stH
  refine firstOf_all fun x hx=>?_
  simp only [List.mem_cons,List.not_mem_nil,or_false] at hx
  rcases hx with rfl | rfl | rfl | rfl
  ·exact g.chk
  ·unfold Ms.nodeE outN; rw [decide_eq_false (by omega),decide_eq_false (by omega)]; rfl
  ·exact within_in g.nu
  ·rw [show ((s.es.length:Int) != (m.ns.length:Int))=false by rw [hlen]; simp]; rfl
 have atk:∀ (k:Nat) x,s.es[k]?=some x→x=s.at k∧k < m.ns.length:=fun k x hx=>by
  have hk:k < s.es.length:=(List.getElem?_eq_some_iff.1 hx).1
  rw [Sts.at_get hk] at hx
  exact ⟨(Option.some.inj hx).symm,by omega⟩
 have hent:∀ (k:Nat) x,s.es[k]?=some x→entE m s k x=0:=by
  intro k x hx
  obtain ⟨rfl,hk⟩:=atk k x hx
  have r:=g.rng k (by omega) (by omega)
  have hH:entH m s (s.at k)=0:=by
   unfold entH
   refine firstOf_all fun x hx=>?_
   simp only [List.mem_cons,List.not_mem_nil,or_false] at hx
   rcases hx with rfl | rfl | rfl
   ·exact within_in r.1
   ·exact within_in r.2.1
   ·rw [decide_eq_false (by omega),decide_eq_false (by omega)]; rfl
  by_cases hc:(k:Int)=s.co
  ·rw [entE_co rfl hH hc,hc,g.coE,show En.same ⟨s.nu,0,s.co⟩ ⟨s.nu,0,s.co⟩=true from En.same_iff.2 rfl]; rfl
  ·rw [entE_no rfl hH hc rfl rfl]
   refine firstOf_all fun x hx=>?_
   simp only [List.mem_cons,List.not_mem_nil,or_false] at hx
   rcases hx with rfl | rfl
   ·by_cases hz:(s.at k).nu=0
    ·rw [g.bare k (by omega) (by omega) hc hz]; rfl
    ·rw [show ((s.at k).nu==0)=false by simpa using hz]; rfl
   ·by_cases hz:(s.at k).ne=-1
    ·rw [hz]; rfl
    ·rw [show (betw m.ls k (s.at k).ne==0)=false by simpa using g.lnk k (by omega) (by omega) hc hz]; simp
 have hld:∀ (k:Nat) x,s.es[k]?=some x→leads m s k x=true:=by
  intro k x hx
  obtain ⟨rfl,hk⟩:=atk k x hx
  by_cases hc:(k:Int)=s.co
  ·exact leads_1 hc
  by_cases hz:(s.at k).ne=-1
  ·exact leads_2 hz
  rw [leads_3 hc hz]
  simp only [Bool.or_eq_true,Bool.and_eq_true,decide_eq_true_eq,beq_iff_eq]
  exact g.lead k (by omega) (by omega) hc hz
 refine chkS_4 h1 ?_ ?_
 ·refine scan_all _ _ fun k x hx=>?_
  show entE m s ((([]:List En)++s.es.take k).length:Nat) x=0
  have hk:=(atk k x hx).2
  rw [List.nil_append,List.length_take,Nat.min_eq_left (by omega)]
  exact hent k x hx
 ·refine scan_all _ _ fun k x hx=>?_
  show (bif leads m s ((([]:List En)++s.es.take k).length:Nat) x then 0 else 33:Int)=0
  have hk:=(atk k x hx).2
  rw [List.nil_append,List.length_take,Nat.min_eq_left (by omega),hld k x hx]; rfl
theorem Good.hears {m : Ms} {s t : Sts} (g : Good m s) (hc : t.co = s.co) (hn : t.nu = s.nu) (hl : t.es.length = s.es.length)
  (hs:∀ k:Int,0≤k→k < (m.ns.length:Int)→t.at k=s.at k∨(k≠s.co∧∃ u:Int,0≤u∧u < (m.ns.length:Int)∧(s.at u).ne≠-1∧0 < betw m.ls u k∧(s.at u).di+betw m.ls u k≤3200∧t.at k=ofE m s u k∧(t.at k).bet (s.at k))):Good m t:=by
 have nw:∀ k:Int,0≤k→k < (m.ns.length:Int)→(s.at k).nu < (t.at k).nu∨((t.at k).nu=(s.at k).nu∧(t.at k).di≤(s.at k).di):=fun k h0 h1=>by
  rcases hs k h0 h1 with e | ⟨_,u,_,_,_,_,_,_,hb⟩
  ·rw [e]; exact .inr ⟨rfl,Int.le_refl _⟩
  ·unfold En.bet at hb; omega
 refine ⟨g.chk,by rw [hc]; exact g.co,by rw [hn]; exact g.nu,hl.trans g.len,?_,?_,?_,?_,?_⟩
 ·intro k h0 h1
  rw [hn]
  rcases hs k h0 h1 with e | ⟨_,u,u0,u1,u2,u3,u4,e,_⟩
  ·rw [e]; exact g.rng k h0 h1
  ·rw [e]
   have r:=g.rng u u0 u1
   unfold ofE
   exact ⟨r.1,⟨by show 0≤(s.at u).di+betw m.ls u k; omega,u4⟩,by show -1≤u; omega,u1⟩
 ·rw [hc]
  rcases hs s.co g.co.1 g.co.2 with e | ⟨h,_⟩
  ·rw [e,g.coE,hn]
  ·exact absurd rfl h
 ·intro k h0 h1 hk hz
  rw [hc] at hk
  rcases hs k h0 h1 with e | ⟨_,u,u0,u1,u2,u3,u4,e,_⟩
  ·rw [e] at hz ⊢; exact g.bare k h0 h1 hk hz
  ·exfalso
   rw [e] at hz
   have hz:(s.at u).nu=0:=hz
   by_cases hu:u=s.co
   ·rw [hu,g.coE] at hz
    have:=g.nu
    have hz:s.nu=0:=hz
    omega
   ·have:=g.bare u u0 u1 hu hz
    rw [this] at u2; exact u2 rfl
 ·intro k h0 h1 hk hz
  rw [hc] at hk
  rcases hs k h0 h1 with e | ⟨_,u,u0,u1,u2,u3,u4,e,_⟩
  ·rw [e] at hz ⊢; exact g.lnk k h0 h1 hk hz
  ·rw [e]
   show betw m.ls k u≠0
   rw [betw_comm]; omega
 ·intro k h0 h1 hk hz
  rw [hc] at hk
  rcases hs k h0 h1 with e | ⟨_,u,u0,u1,u2,u3,u4,e,_⟩
  ·rw [e] at hz ⊢
   have l:=g.lead k h0 h1 hk hz
   have r:=g.rng k h0 h1
   have:=nw (s.at k).ne (by omega) (by omega)
   omega
  ·rw [e]
   show (s.at u).nu < (t.at u).nu∨((t.at u).nu=(s.at u).nu∧(t.at u).di+betw m.ls k u≤(s.at u).di+betw m.ls u k)
   rw [betw_comm m.ls k u]
   have:=nw u u0 u1
   omega
end Vc
set_option maxRecDepth 10000
namespace Vc
open Go Go.Proofs
end Vc
