import Derived.Test.YthociffnlhdenaaGreatDoorG14
import Derived.Test.YthociffnlhdenaaGreatDoorG07
set_option linter.unusedSectionVars false
set_option linter.unusedVariables false
set_option linter.unusedSimpArgs false
set_option maxRecDepth 10000
set_option maxHeartbeats 4000000
namespace Vc
open Go Go.Proofs
def ir124:AFun:=⟨8,2,[.tmp 2],
 (.seq
 (.reg [] [⟨some 2,.mov (.cst (.nils 1)),none⟩])
 (.seq
 (.seq
 (.reg [] [⟨some 3,.mov (.tmp 0),none⟩,
 ⟨some 4,.isnil false (.tmp 3),none⟩])
 (.cond (.tmp 4)
 (.seq
 (.reg [] [⟨some 2,.mov (.cst (.nils 1)),none⟩])
 .ret)
 .skip))
 (.seq
 (.reg [0,1] [⟨some 5,.bsl 0 9 1 0 [] [],none⟩,
 ⟨some 6,.mov (.tmp 0),none⟩,
 ⟨some 7,.app 1 9 1 16 (.tmp 5) (.tmp 6),none⟩,
 ⟨some 2,.mov (.tmp 7),none⟩])
 .ret)))⟩
def ir126:AFun:=⟨8,2,[.tmp 2],
 (.seq
 (.reg [] [⟨some 2,.mov (.cst (.nils 3)),none⟩])
 (.seq
 (.seq
 (.reg [] [⟨some 3,.mov (.tmp 0),none⟩,
 ⟨some 4,.isnil false (.tmp 3),none⟩])
 (.cond (.tmp 4)
 (.seq
 (.reg [] [⟨some 2,.mov (.cst (.nils 3)),none⟩])
 .ret)
 .skip))
 (.seq
 (.reg [0,1] [⟨some 5,.bsl 0 117 3 0 [] [],none⟩,
 ⟨some 6,.mov (.tmp 0),none⟩,
 ⟨some 7,.app 1 117 3 24 (.tmp 5) (.tmp 6),none⟩,
 ⟨some 2,.mov (.tmp 7),none⟩])
 .ret)))⟩
def ir125:AFun:=⟨33,1,[.tmp 6],
 (.seq
 (.reg [] [⟨some 6,.mov (.cst (.nils 3)),none⟩])
 (.seq
 (.reg [] [⟨some 8,.mov (.tmp 0),none⟩,
 ⟨some 9,.mov (.tmp 1),none⟩,
 ⟨some 10,.mov (.tmp 2),none⟩,
 ⟨some 11,.mov (.tmp 0),none⟩,
 ⟨some 12,.len (.tmp 11),none⟩,
 ⟨some 13,.slm 3 (.tmp 8) (.tmp 9) (.tmp 10) (.tmp 12),none⟩])
 (.seq
 (.seq
 (.reg [] [⟨some 14,.mov (.tmp 1),none⟩,
 ⟨some 15,.mov (.tmp 2),none⟩,
 ⟨some 16,.cmp .eql (.tmp 14) (.tmp 15),none⟩])
 (.cond (.tmp 16)
 (.seq
 (.reg [] [⟨some 17,.mov (.tmp 0),none⟩,
 ⟨some 6,.mov (.tmp 17),none⟩])
 .ret)
 .skip))
 (.seq
 (.reg [] [⟨some 18,.mov (.tmp 0),none⟩,
 ⟨some 19,.len (.tmp 18),none⟩,
 ⟨some 7,.mov (.tmp 19),none⟩])
 (.seq
 (.regd [0] [⟨some 20,.mov (.tmp 0),none⟩,
 ⟨some 21,.mov (.tmp 1),none⟩,
 ⟨some 22,.slw 3 (.tmp 20) none (some (.tmp 21)),none⟩,
 ⟨some 23,.mov (.tmp 0),none⟩,
 ⟨some 24,.mov (.tmp 2),none⟩,
 ⟨some 25,.slw 3 (.tmp 23) (some (.tmp 24)) none,none⟩,
 ⟨some 26,.appw 3 (.tmp 22) (.tmp 25),none⟩,
 ⟨some 0,.mov (.tmp 26),none⟩] [(0,1),(0,3),(1,3),(2,3),(0,4),(1,4),(2,4),(3,4),(0,5),(1,5),(2,5)])
 (.seq
 (.reg [] [⟨some 27,.mov (.tmp 0),none⟩,
 ⟨some 28,.mov (.tmp 0),none⟩,
 ⟨some 29,.lenw (.tmp 28),none⟩,
 ⟨some 30,.mov (.tmp 7),none⟩,
 ⟨some 31,.slw 3 (.tmp 27) (some (.tmp 29)) (some (.tmp 30)),none⟩,
 ⟨none,.clrw 3 (.agg [(.int .i64 0),(.int .i64 0),(.int .i64 0)]) (.tmp 31),none⟩])
 (.seq
 (.reg [] [⟨some 32,.mov (.tmp 0),none⟩,
 ⟨some 6,.mov (.tmp 32),none⟩])
 .ret)))))))⟩
def ir60:AFun:=⟨82,11,[.cell 6 2 true,.cell 7 3 true,.tmp 8],
 (.seq
 (.reg [0,1,2,3] [⟨some 3,.cbx 0 2 (.tmp 0),none⟩,
 ⟨some 4,.cbx 1 3 (.tmp 1),none⟩,
 ⟨some 6,.alloc 2 [(.nils 1),(.nils 3)],none⟩,
 ⟨some 7,.alloc 3 [(.d (.int .i64 0)),(.d (.int .i64 0)),(.nils 3)],none⟩,
 ⟨some 8,.mov (.cst (.d (.int .i64 0))),none⟩])
 (.seq
 (.seq
 (.reg [4] [⟨some 14,.ld true 2 (.tmp 3),none⟩,
 ⟨some 15,.ld true 3 (.tmp 4),none⟩,
 ⟨some 16,.call 37 [(.tmp 14),(.tmp 15)],none⟩,
 ⟨some 17,.mov (.tmp 2),none⟩,
 ⟨some 18,.cmp .lss (.tmp 17) (.cst (.d (.int .i64 0))),none⟩,
 ⟨some 19,.mov (.tmp 18),none⟩,
 ⟨some 20,.mov (.tmp 2),some (19,false)⟩,
 ⟨some 21,.fad 1 (.tmp 3),some (19,false)⟩,
 ⟨some 22,.ld false 1 (.tmp 21),some (19,false)⟩,
 ⟨some 23,.len (.tmp 22),some (19,false)⟩,
 ⟨some 24,.cmp .geq (.tmp 20) (.tmp 23),some (19,false)⟩,
 ⟨some 25,.pick (.tmp 19) (.cst (.d (.bool true))) (.tmp 24),none⟩,
 ⟨some 26,.call 89 [(.tmp 25),(.cst (.d (.int .i64 10)))],none⟩,
 ⟨some 27,.bsl 4 29 1 2 [(.int .i64 0),(.int .i64 0)] [(0,(.tmp 16)),(1,(.tmp 26))],none⟩,
 ⟨some 28,.call 86 [(.tmp 27)],none⟩,
 ⟨some 9,.mov (.tmp 28),none⟩])
 (.seq
 (.reg [] [⟨some 29,.mov (.tmp 9),none⟩,
 ⟨some 30,.cmp .neq (.tmp 29) (.cst (.d (.int .i64 0))),none⟩])
 (.cond (.tmp 30)
 (.seq
 (.reg [] [⟨some 31,.build [(.nils 1),(.nils 3)] [],none⟩,
 ⟨some 32,.build [(.d (.int .i64 0)),(.d (.int .i64 0)),(.nils 3)] [],none⟩,
 ⟨some 33,.mov (.tmp 9),none⟩,
 ⟨none,.st 2 (.tmp 6) (.tmp 31),none⟩,
 ⟨none,.st 3 (.tmp 7) (.tmp 32),none⟩,
 ⟨some 8,.mov (.tmp 33),none⟩])
 .ret)
 .skip)))
 (.seq
 (.reg [5] [⟨some 34,.ld true 3 (.tmp 4),none⟩,
 ⟨some 35,.calli 99 [(.tmp 34)],none⟩,
 ⟨some 10,.alloc 5 [(.d (.int .i64 0)),(.d (.int .i64 0)),(.nils 3)],none⟩,
 ⟨none,.st 3 (.tmp 10) (.tmp 35),none⟩])
 (.seq
 (.reg [6] [⟨some 36,.fad 1 (.tmp 3),none⟩,
 ⟨some 37,.ld false 1 (.tmp 36),none⟩,
 ⟨some 38,.mov (.tmp 2),none⟩,
 ⟨some 39,.ixa 3 (.tmp 37) (.tmp 38),none⟩,
 ⟨some 40,.ld true 3 (.tmp 39),none⟩,
 ⟨some 41,.call 123 [(.tmp 40)],none⟩,
 ⟨some 11,.alloc 6 [(.d (.int .i64 0)),(.d (.int .i64 0))],none⟩,
 ⟨none,.st 2 (.tmp 11) (.tmp 41),none⟩])
 (.seq
 (.seq
 (.reg [] [⟨some 42,.ld true 2 (.tmp 11),none⟩,
 ⟨some 43,.mov (.cst (.d (.int .i64 0))),none⟩])
 (.post [2,3,6,7,10] [0,1,2,3,4,5,6]
 (.block 0
 (.keep [2,3,4,6,7,10,11,42,43] [0,1,2,3,4,5,6]
 (.loop
 (.post [2,3,4,6,7,10,11,42,43] []
 (.seq
 (.reg [] [⟨some 44,.cmp .lss (.tmp 43) (.cst (.d (.int .i64 2))),none⟩])
 (.seq
 (.cond (.tmp 44)
 .skip
 (.exit 0))
 (.seq
 (.block 1
 (.seq
 (.reg [] [⟨some 45,.mov (.tmp 43),none⟩,
 ⟨some 46,.ixv false 2 1 (.tmp 42) (.tmp 43),none⟩,
 ⟨some 12,.mov (.tmp 45),none⟩,
 ⟨some 13,.mov (.tmp 46),none⟩])
 (.seq
 (.regd [] [⟨some 47,.mov (.tmp 13),none⟩,
 ⟨some 48,.fad 0 (.tmp 4),none⟩,
 ⟨some 49,.ld false 1 (.tmp 48),none⟩,
 ⟨some 50,.cmp .neq (.tmp 47) (.tmp 49),none⟩,
 ⟨some 51,.mov (.tmp 50),none⟩,
 ⟨some 52,.fad 2 (.tmp 10),some (51,true)⟩,
 ⟨some 53,.ld false 1 (.tmp 52),some (51,true)⟩,
 ⟨some 54,.mov (.tmp 13),some (51,true)⟩,
 ⟨some 55,.ixa 3 (.tmp 53) (.tmp 54),some (51,true)⟩,
 ⟨some 56,.fad 2 (.tmp 55),some (51,true)⟩,
 ⟨some 57,.ld false 1 (.tmp 56),some (51,true)⟩,
 ⟨some 58,.mov (.tmp 12),some (51,true)⟩,
 ⟨some 59,.arith .sub .i64 (.cst (.d (.int .i64 1))) (.tmp 58),some (51,true)⟩,
 ⟨some 60,.ixp 2 1 (.tmp 11) (.tmp 59),some (51,true)⟩,
 ⟨some 61,.ld false 1 (.tmp 60),some (51,true)⟩,
 ⟨some 62,.cmp .eql (.tmp 57) (.tmp 61),some (51,true)⟩,
 ⟨some 63,.pick (.tmp 51) (.tmp 62) (.cst (.d (.bool false))),none⟩] [(0,1),(0,2),(5,7),(6,7),(5,11),(6,11),(7,11),(8,11),(9,11),(10,11),(5,12),(6,12),(7,12),(8,12),(9,12),(10,12),(5,13),(6,13),(7,13),(8,13),(9,13),(10,13),(5,14),(6,14),(7,14),(8,14),(9,14),(10,14)])
 (.cond (.tmp 63)
 (.reg [] [⟨some 64,.fad 2 (.tmp 10),none⟩,
 ⟨some 65,.ld false 1 (.tmp 64),none⟩,
 ⟨some 66,.mov (.tmp 13),none⟩,
 ⟨some 67,.ixa 3 (.tmp 65) (.tmp 66),none⟩,
 ⟨some 68,.fad 2 (.tmp 67),none⟩,
 ⟨none,.st 1 (.tmp 68) (.cst (.d (.int .i64 (-1)))),none⟩])
 .skip))))
 (.reg [] [⟨some 69,.arith .add .i64 (.tmp 43) (.cst (.d (.int .i64 1))),none⟩,
 ⟨some 43,.mov (.tmp 69),none⟩]))))))))))
 (.seq
 (.regd [] [⟨some 70,.fad 0 (.tmp 3),none⟩,
 ⟨some 71,.ld false 1 (.tmp 70),none⟩,
 ⟨some 72,.call 124 [(.tmp 71)],none⟩,
 ⟨some 73,.fad 1 (.tmp 3),none⟩,
 ⟨some 74,.ld false 1 (.tmp 73),none⟩,
 ⟨some 75,.calln 10 117 3 126 [(.tmp 74)],none⟩,
 ⟨some 76,.mov (.tmp 2),none⟩,
 ⟨some 77,.mov (.tmp 2),none⟩,
 ⟨some 78,.arith .add .i64 (.tmp 77) (.cst (.d (.int .i64 1))),none⟩,
 ⟨some 79,.calli 125 [(.tmp 75),(.tmp 76),(.tmp 78)],none⟩,
 ⟨some 80,.build [(.nils 1),(.nils 3)] [(0,1,(.tmp 72)),(1,1,(.tmp 79))],none⟩,
 ⟨some 81,.ld true 3 (.tmp 10),none⟩,
 ⟨none,.st 2 (.tmp 6) (.tmp 80),none⟩,
 ⟨none,.st 3 (.tmp 7) (.tmp 81),none⟩,
 ⟨some 8,.mov (.cst (.d (.int .i64 0))),none⟩] [(0,3),(1,3),(2,3),(0,4),(1,4),(2,4),(0,6),(1,6),(2,6),(3,6),(4,6),(5,6),(0,7),(1,7),(2,7),(3,7),(4,7),(5,7),(6,7),(0,8),(1,8),(2,8),(3,8),(4,8),(5,8),(6,8),(0,11),(1,11),(2,11),(3,11),(4,11),(5,11),(6,11),(7,11),(8,11),(9,11),(10,11),(11,12)])
 .ret))))))⟩
def Ms.zero:Ms:=⟨[],[]⟩
theorem c124 (l:List (List UInt8)) (hl:l.length≤1048576):CallDet Tryz.prog 124 [.d (.slice 1 (strs l))] [.slice 1 (strs l)]:=by
 have hsl:=strs_len l
 refine call_of_vc (x:=ir124) (by kernel_rfl) rfl ?_
 refine And.intro (fun t1=>?_) ?_
 rotate_left
 refine sd ?_
 refine sd ?_
 refine an ?_ ?_
 refine an ?_ ?_
 exact rfl
 refine an ?_ ?_
 exact rfl
 refine an ?_ ?_
 exact rfl
 refine an ?_ ?_
 (show ((0:Nat)+List.length (strs l)) * (16:Nat)≤(2:Nat) ^ (47:Nat); omega)
 (show (0:Nat)+List.length (strs l)≤(2:Nat) ^ (47:Nat); omega)
 refine sd ?_
 exact rfl
 exact congrArg (fun X=>resV [.slice 1 X]) t1.symm
theorem c126r (l:List Lk) (hl:l.length≤1048576):CallRow Tryz.prog 126 [.d (.slice 3 (lks l))] 117 3 (lks l):=by
 have hll:=lks_len l
 refine callRow_of_vc (x:=ir126) (by kernel_rfl) rfl ?_
 refine And.intro (fun t1=>?_) ?_
 rotate_left
 refine sd ?_
 refine sd ?_
 refine an ?_ ?_
 refine an ?_ ?_
 exact rfl
 refine an ?_ ?_
 exact rfl
 refine an ?_ ?_
 exact rfl
 refine an ?_ ?_
 (show ((0:Nat)+List.length (lks l)) * (24:Nat)≤(2:Nat) ^ (47:Nat); omega)
 (show (0:Nat)+List.length (lks l)≤(2:Nat) ^ (47:Nat); omega)
 rotate_left
 ·exact .inr ⟨by decide,t1,3,rfl,rfl⟩
 ·exact .inl ⟨0,⟨rfl,rfl⟩,rfl⟩
theorem c99i_60 (m : Ms) (s : Sts) (a b : Int) (hn : s.es.length ≤ 1048576) : CallIn Tryz.prog 99 [.d s.d] [.cbox [.slice 1 (strs m.ns), .slice 3 (lks m.ls)], .cbox [.int .i64 s.co, .int .i64 s.nu, .slice 3 (ens s.es)], .box [.nils 1, .nils 3], .box [.d (.int .i64 0), .d (.int .i64 0), .nils 3], .row 29 1 [.int .i64 a, .int .i64 b] false, .none, .none, .none, .none, .none, .none] (.agg [.d (.int .i64 s.co), .d (.int .i64 s.nu), .sl 9 (ens s.es).length])
  (setAll [.cbox [.slice 1 (strs m.ns),.slice 3 (lks m.ls)],.cbox [.int .i64 s.co,.int .i64 s.nu,.slice 3 (ens s.es)],.box [.nils 1,.nils 3],.box [.d (.int .i64 0),.d (.int .i64 0),.nils 3],.row 29 1 [.int .i64 a,.int .i64 b] false,.none,.none,.none,.none,.none,.none] [(7,.cbox [.int .i64 s.co,.int .i64 s.nu,.slice 3 (ens s.es)]),(8,.box [.d (.int .i64 s.co),.d (.int .i64 s.nu),.sl 9 (ens s.es).length]),(9,.row 105 3 (ens s.es) false)]):=by
 have hl:=ens_len s.es
 have e:List.take (ens s.es).length (ens s.es)++List.drop (ens s.es).length (List.replicate (ens s.es).length (.agg [.int .i64 0,.int .i64 0,.int .i64 0]))=ens s.es:=by
  rw [List.take_length,List.drop_eq_nil_of_le (by rw [List.length_replicate]; exact Nat.le_refl _),List.append_nil]
 refine callIn_of_vc 7 (x:=ir99) (by kernel_rfl) rfl rfl rfl ?_
 refine an ?_ ?_
 refine an ?_ ?_
 (show (0:Int)≤(↑(List.length (ens (Sts.es s))):Int); omega)
 refine an ?_ ?_
 (show (↑(List.length (ens (Sts.es s))):Int) * (↑(24:Nat):Int)≤(2:Int) ^ (47:Nat); omega)
 (show (↑(List.length (ens (Sts.es s))):Int)≤(2:Int) ^ (47:Nat); omega)
 refine ca (And.intro rfl (And.intro rfl (And.intro ?_ rfl))) ?_
 focus (show List.length (List.replicate (List.length (ens (Sts.es s))) (Data.agg [Data.int IntKind.i64 (0:Int),Data.int IntKind.i64 (0:Int),Data.int IntKind.i64 (0:Int)]))=List.length (ens (Sts.es s)); simp only [List.length_replicate,List.length_set,List.length_append,List.length_take,List.length_drop]; done)
 refine an ?_ ?_
 (show List.length (List.take (List.length (ens (Sts.es s))) (ens (Sts.es s))++List.drop (List.length (ens (Sts.es s))) (List.replicate (List.length (ens (Sts.es s))) (Data.agg [Data.int IntKind.i64 (0:Int),Data.int IntKind.i64 (0:Int),Data.int IntKind.i64 (0:Int)])))=List.length (ens (Sts.es s)); simp only [List.length_replicate,List.length_set,List.length_append,List.length_take,List.length_drop]; omega)
 refine sd ?_
 rotate_left
 exact congrArg (fun X=>([.cbox [.slice 1 (strs m.ns),.slice 3 (lks m.ls)],.cbox [.int .i64 s.co,.int .i64 s.nu,.slice 3 (ens s.es)],.box [.nils 1,.nils 3],.box [.d (.int .i64 0),.d (.int .i64 0),.nils 3],.row 29 1 [.int .i64 a,.int .i64 b] false,.none,.none,.cbox [.int .i64 s.co,.int .i64 s.nu,.slice 3 (ens s.es)],.box [.d (.int .i64 s.co),.d (.int .i64 s.nu),.sl 9 (ens s.es).length],.row 105 3 X false,.none]:List AObj)) e
def delR (l:List Data) (i:Int):List Data:=List.take (i.toNat+(l.length - (i+1).toNat) - (0:Int).toNat) (List.take i.toNat l++List.take (l.length - (i+1).toNat) (List.drop (i+1).toNat l)++List.drop (i.toNat+(l.length - (i+1).toNat)) l)++List.replicate (l.length - (i.toNat+(l.length - (i+1).toNat) - (0:Int).toNat)) (.agg [.int .i64 0,.int .i64 0,.int .i64 0])++List.drop l.length (List.take i.toNat l++List.take (l.length - (i+1).toNat) (List.drop (i+1).toNat l)++List.drop (i.toNat+(l.length - (i+1).toNat)) l)
theorem delR_take {l:List Data} {i:Int} (h0:0≤i) (hi:i < (l.length:Int)):List.drop (0:Int).toNat (List.take (i.toNat+(l.length - (i+1).toNat)) (delR l i))=l.eraseIdx i.toNat:=by
 have hk:i.toNat < l.length:=by omega
 rw [show (i+1).toNat=i.toNat+1 by omega,List.eraseIdx_eq_take_drop_succ]
 unfold delR
 rw [show (i+1).toNat=i.toNat+1 by omega]
 generalize i.toNat=k at hk
 show List.drop 0 _=_
 rw [List.drop_zero]
 have h1:(List.take k l++List.take (l.length - (k+1)) (List.drop (k+1) l)).length=k+(l.length - (k+1)):=by
  rw [List.length_append,List.length_take,List.length_take,List.length_drop]; omega
 have h2:(List.take k l++List.take (l.length - (k+1)) (List.drop (k+1) l)++List.drop (k+(l.length - (k+1))) l).length=l.length:=by
  rw [List.length_append,h1,List.length_drop]; omega
 have h3:∀ d,d=k+(l.length - (k+1))→List.take (k+(l.length - (k+1))) (List.take d (List.take k l++List.take (l.length - (k+1)) (List.drop (k+1) l)++List.drop (k+(l.length - (k+1))) l))=List.take k l++List.take (l.length - (k+1)) (List.drop (k+1) l):=fun d hd=>by
  rw [hd,List.take_take,Nat.min_self,List.take_append_of_le_length (by omega),List.take_of_length_le (by omega)]
 have h4:List.take (l.length - (k+1)) (List.drop (k+1) l)=List.drop (k+1) l:=List.take_of_length_le (by rw [List.length_drop]; exact Nat.le_refl _)
 rw [List.append_assoc,List.take_append_of_le_length (by rw [List.length_take,h2]; show _≤min (k+(l.length - (k+1)) - 0) _; omega),h3 (k+(l.length - (k+1)) - (0:Int).toNat) (Nat.sub_zero _),h4]
theorem delR_len {l:List Data} {i:Int} (h0:0≤i) (hi:i < (l.length:Int)):(delR l i).length=l.length:=by
 unfold delR
 simp only [List.length_append,List.length_take,List.length_drop,List.length_replicate]
 omega
theorem c125w (m:Ms) (s:Sts) (i:Int) (n:Nat) (E:List Data) (h0:0≤i) (hi:i < ((lks m.ls).length:Int)) (hl:m.ls.length≤1048576) :
 CallIn Tryz.prog 125 [.sl 10 (lks m.ls).length,.d (.int .i64 i),.d (.int .i64 (i+1))]
  [.cbox [.slice 1 (strs m.ns),.slice 3 (lks m.ls)],.none,.box [.nils 1,.nils 3],.box [.d (.int .i64 0),.d (.int .i64 0),.nils 3],.none,.box [.d (.int .i64 s.co),.d (.int .i64 s.nu),.sl 9 n],.none,.cbox [.int .i64 s.co,.int .i64 s.nu,.slice 3 (ens s.es)],.box [.d (.int .i64 s.co),.d (.int .i64 s.nu),.sl 9 n],.row 105 3 E false,.row 117 3 (lks m.ls) false] (.rv 10 (lks m.ls).length (0:Int).toNat (i.toNat+((lks m.ls).length - (i+1).toNat)))
  [.cbox [.slice 1 (strs m.ns),.slice 3 (lks m.ls)],.none,.box [.nils 1,.nils 3],.box [.d (.int .i64 0),.d (.int .i64 0),.nils 3],.none,.box [.d (.int .i64 s.co),.d (.int .i64 s.nu),.sl 9 n],.none,.cbox [.int .i64 s.co,.int .i64 s.nu,.slice 3 (ens s.es)],.box [.d (.int .i64 s.co),.d (.int .i64 s.nu),.sl 9 n],.row 105 3 E false,.row 117 3 (delR (lks m.ls) i) false]:=by
 have hll:=lks_len m.ls
 refine callIn_of_vc 11 (x:=ir125) (by kernel_rfl) rfl rfl rfl ?_
 refine sd ?_
 refine an ?_ ?_
 refine an ?_ ?_
 exact rfl
 refine an ?_ ?_
 exact rfl
 refine an ?_ ?_
 assumption
 refine an ?_ ?_
 (show i≤i+(1:Int); omega)
 refine an ?_ ?_
 assumption
 (show (↑(List.length (lks (Ms.ls m))):Int)≤(↑(List.length (lks (Ms.ls m))):Int); omega)
 refine sd ?_
 refine b_eq (fun t1=>?_) (fun t1=>?_)
 (exfalso; omega)
 refine sd ?_
 refine an ?_ ?_
 refine an ?_ ?_
 exact rfl
 refine an ?_ ?_
 exact rfl
 refine an ?_ ?_
 (show (0:Int)≤(0:Int); omega)
 refine an ?_ ?_
 assumption
 refine an ?_ ?_
 (show i≤(↑(List.length (lks (Ms.ls m))):Int); omega)
 (show (0:Nat) < List.length (lks (Ms.ls m)); omega)
 refine an ?_ ?_
 refine an ?_ ?_
 exact rfl
 refine an ?_ ?_
 exact rfl
 refine an ?_ ?_
 (show (0:Int)≤i+(1:Int); omega)
 refine an ?_ ?_
 assumption
 refine an ?_ ?_
 (show (↑(List.length (lks (Ms.ls m))):Int)≤(↑(List.length (lks (Ms.ls m))):Int); omega)
 (show (0:Nat) < List.length (lks (Ms.ls m)); omega)
 refine an ?_ ?_
 refine an ?_ ?_
 exact rfl
 refine an ?_ ?_
 exact rfl
 refine an ?_ ?_
 exact rfl
 refine an ?_ ?_
 (show Int.toNat (0:Int) < List.length (lks (Ms.ls m)); omega)
 (show Int.toNat i+(List.length (lks (Ms.ls m)) - Int.toNat (i+(1:Int)))≤List.length (lks (Ms.ls m)); omega)
 refine an ?_ ?_
 (show List.length (List.take (Int.toNat i) (lks (Ms.ls m))++List.take (List.length (lks (Ms.ls m)) - Int.toNat (i+(1:Int))) (List.drop (Int.toNat (i+(1:Int))) (lks (Ms.ls m)))++List.drop (Int.toNat i+(List.length (lks (Ms.ls m)) - Int.toNat (i+(1:Int)))) (lks (Ms.ls m)))=List.length (lks (Ms.ls m)); simp only [List.length_replicate,List.length_set,List.length_append,List.length_take,List.length_drop]; omega)
 refine an ?_ ?_
 refine an ?_ ?_
 exact rfl
 refine an ?_ ?_
 (show List.length (List.take (Int.toNat i) (lks (Ms.ls m))++List.take (List.length (lks (Ms.ls m)) - Int.toNat (i+(1:Int))) (List.drop (Int.toNat (i+(1:Int))) (lks (Ms.ls m)))++List.drop (Int.toNat i+(List.length (lks (Ms.ls m)) - Int.toNat (i+(1:Int)))) (lks (Ms.ls m)))=List.length (lks (Ms.ls m)); simp only [List.length_replicate,List.length_set,List.length_append,List.length_take,List.length_drop]; omega)
 refine an ?_ ?_
 exact rfl
 refine an ?_ ?_
 (show (0:Int)≤(↑(Int.toNat i+(List.length (lks (Ms.ls m)) - Int.toNat (i+(1:Int))) - Int.toNat (0:Int)):Int); omega)
 refine an ?_ ?_
 (show (↑(Int.toNat i+(List.length (lks (Ms.ls m)) - Int.toNat (i+(1:Int))) - Int.toNat (0:Int)):Int)≤(↑(List.length (lks (Ms.ls m))):Int); omega)
 refine an ?_ ?_
 (show (↑(List.length (lks (Ms.ls m))):Int)≤(↑(List.length (List.take (Int.toNat i) (lks (Ms.ls m))++List.take (List.length (lks (Ms.ls m)) - Int.toNat (i+(1:Int))) (List.drop (Int.toNat (i+(1:Int))) (lks (Ms.ls m)))++List.drop (Int.toNat i+(List.length (lks (Ms.ls m)) - Int.toNat (i+(1:Int)))) (lks (Ms.ls m)))):Int); simp only [List.length_replicate,List.length_set,List.length_append,List.length_take,List.length_drop]; omega)
 (show (0:Nat) < List.length (List.take (Int.toNat i) (lks (Ms.ls m))++List.take (List.length (lks (Ms.ls m)) - Int.toNat (i+(1:Int))) (List.drop (Int.toNat (i+(1:Int))) (lks (Ms.ls m)))++List.drop (Int.toNat i+(List.length (lks (Ms.ls m)) - Int.toNat (i+(1:Int)))) (lks (Ms.ls m))); simp only [List.length_replicate,List.length_set,List.length_append,List.length_take,List.length_drop]; omega)
 refine an ?_ ?_
 refine an ?_ ?_
 exact rfl
 refine an ?_ ?_
 (show List.length (List.take (Int.toNat i) (lks (Ms.ls m))++List.take (List.length (lks (Ms.ls m)) - Int.toNat (i+(1:Int))) (List.drop (Int.toNat (i+(1:Int))) (lks (Ms.ls m)))++List.drop (Int.toNat i+(List.length (lks (Ms.ls m)) - Int.toNat (i+(1:Int)))) (lks (Ms.ls m)))=List.length (lks (Ms.ls m)); simp only [List.length_replicate,List.length_set,List.length_append,List.length_take,List.length_drop]; omega)
 (show Int.toNat i+(List.length (lks (Ms.ls m)) - Int.toNat (i+(1:Int))) - Int.toNat (0:Int) < List.length (lks (Ms.ls m)); omega)
 refine sd ?_
 exact rfl
theorem c125i (m:Ms) (s:Sts) (i:Int) (n:Nat) (E:List Data) (h0:0≤i) (hi:i < ((lks m.ls).length:Int)) (hl:m.ls.length≤1048576) :
 CallIn Tryz.prog 125 [.sl 10 (lks m.ls).length,.d (.int .i64 i),.d (.int .i64 (i+1))]
  [.cbox [.slice 1 (strs m.ns),.slice 3 (lks m.ls)],.none,.box [.nils 1,.nils 3],.box [.d (.int .i64 0),.d (.int .i64 0),.nils 3],.none,.box [.d (.int .i64 s.co),.d (.int .i64 s.nu),.sl 9 n],.none,.cbox [.int .i64 s.co,.int .i64 s.nu,.slice 3 (ens s.es)],.box [.d (.int .i64 s.co),.d (.int .i64 s.nu),.sl 9 n],.row 105 3 E false,.row 117 3 (lks m.ls) false] (.d (.slice 3 ((lks m.ls).eraseIdx i.toNat)))
  (setAll [.cbox [.slice 1 (strs m.ns),.slice 3 (lks m.ls)],.none,.box [.nils 1,.nils 3],.box [.d (.int .i64 0),.d (.int .i64 0),.nils 3],.none,.box [.d (.int .i64 s.co),.d (.int .i64 s.nu),.sl 9 n],.none,.cbox [.int .i64 s.co,.int .i64 s.nu,.slice 3 (ens s.es)],.box [.d (.int .i64 s.co),.d (.int .i64 s.nu),.sl 9 n],.row 105 3 E false,.row 117 3 (lks m.ls) false] [(10,.row 117 3 (delR (lks m.ls) i) true)]):=by
 have h:=callIn_win (c125w m s i n E h0 hi hl) rfl (delR_len h0 hi)
 rw [delR_take h0 hi] at h
 exact h
theorem lks_erase (l:List Lk) (k:Nat):(lks l).eraseIdx k=lks (l.eraseIdx k):=by
 unfold lks
 rw [List.eraseIdx_eq_take_drop_succ,List.eraseIdx_eq_take_drop_succ,List.map_append,List.map_take,List.map_drop]
def cut1 (es:List En) (i o:Int):List En:=match es[i.toNat]? with
 | some x=>bif x.ne==o then es.set i.toNat ⟨x.nu,x.di,-1⟩ else es
 | none=>es
def cut2 (es:List En) (l:Lk):List En:=cut1 (cut1 es l.a l.b) l.b l.a
def brokE (m:Ms) (s:Sts) (i:Int):Int:=firstOf [m.chkS s,bif outN m.ls.length i then 10 else 0]
def Ms.brok (m:Ms) (i:Int):Ms:=⟨m.ns,m.ls.eraseIdx i.toNat⟩
def Sts.brok (s:Sts) (m:Ms) (i:Int):Sts:=⟨s.co,s.nu,match m.ls[i.toNat]? with | some l=>cut2 s.es l | none=>s.es⟩
theorem cut1_len (es:List En) (i o:Int):(cut1 es i o).length=es.length:=by
 unfold cut1
 split
 ·rename_i x hx
  cases (x.ne==o)
  ·rfl
  ·exact List.length_set
 ·rfl
def stg (es:List En) (l:Lk):Nat→List En
 | 0=>es
 | 1=>cut1 es l.a l.b
 | _=>cut2 es l
theorem cut1_yes {es:List En} {i o:Int} {x:En} (hx:es[i.toNat]?=some x) (h:x.ne=o):cut1 es i o=es.set i.toNat ⟨x.nu,x.di,-1⟩:=by
 unfold cut1; rw [hx]; show (bif x.ne==o then _ else _)=_; rw [h,beq_self_eq_true o]; rfl
theorem cut1_no {es:List En} {i o:Int} {x:En} (hx:es[i.toNat]?=some x) (h:¬ x.ne=o):cut1 es i o=es:=by
 unfold cut1; rw [hx]; show (bif x.ne==o then _ else _)=_; rw [show (x.ne==o)=false by simpa using h]; rfl
theorem cut1_ne {es:List En} {i o:Int} {j:Nat} (h:i.toNat≠j):(cut1 es i o)[j]?=es[j]?:=by
 unfold cut1
 split
 ·rename_i x hx
  cases (x.ne==o)
  ·rfl
  ·exact List.getElem?_set_ne h
 ·rfl
theorem Sts.fine.ne_co {m:Ms} {s:Sts} (h:s.fine m) {x:En} (hx:s.es[s.co.toNat]?=some x):x.ne=s.co:=by
 have hc:=h.co
 have h1:=h.ent s.co.toNat x hx
 rw [show ((s.co.toNat:Nat):Int)=s.co by omega] at h1
 have h0:entH m s x=0:=Classical.byContradiction fun hn=>hn ((entE_bad rfl hn).symm.trans h1)
 rw [entE_co rfl h0 rfl] at h1
 cases e:En.same x ⟨s.nu,0,s.co⟩
 ·rw [e] at h1; cases h1
 ·unfold En.same at e
  simp at e
  exact e.2.2
theorem c60 (m:Ms) (s:Sts) (i:Int) (hm:m.ns.length≤1048576) (hl2:m.ls.length≤1048576) (hn:s.es.length≤1048576):CallDet Tryz.prog 60 [.d m.d,.d s.d,.d (.int .i64 i)] [(bif brokE m s i != 0 then Ms.zero else m.brok i).d,(bif brokE m s i != 0 then Sts.zero else s.brok m i).d,.int .i64 (brokE m s i)]:=by
 have hl:=ens_len s.es
 have hll:=lks_len m.ls
 have hsl:=strs_len m.ns
 have bad:¬ brokE m s i=0→resV [.agg [.slice 1 [],.slice 3 []],.agg [.int .i64 0,.int .i64 0,.slice 3 []],.int .i64 (brokE m s i)]=resV [(bif brokE m s i != 0 then Ms.zero else m.brok i).d,(bif brokE m s i != 0 then Sts.zero else s.brok m i).d,.int .i64 (brokE m s i)]:=fun h=>by
  have e:(brokE m s i != 0)=true:=by rw [bne_iff_ne]; exact h
  rw [e]; rfl
 have fin:brokE m s i=0→∀ X Y,X=lks (m.brok i).ls→Y=ens (s.brok m i).es→resV [.agg [.slice 1 (strs m.ns),.slice 3 X],.agg [.int .i64 s.co,.int .i64 s.nu,.slice 3 Y],.int .i64 0]=resV [(bif brokE m s i != 0 then Ms.zero else m.brok i).d,(bif brokE m s i != 0 then Sts.zero else s.brok m i).d,.int .i64 (brokE m s i)]:=fun h X Y hX hY=>by
  rw [h,hX,hY]; rfl
 refine call_of_vc (x:=ir60) (by kernel_rfl) rfl ?_
 have hbe:brokE m s i=firstOf [m.chkS s,bif outN (lks m.ls).length i then 10 else 0]:=by unfold brokE; rw [hll]
 rw [hbe] at bad fin ⊢
 by_cases h0:i < 0
 ·have eo:outN (lks m.ls).length i=true:=by unfold outN; rw [decide_eq_true h0]; rfl
  rw [eo] at bad fin ⊢
  have hne:¬ firstOf [m.chkS s,10]=0:=fun h=>by have h2:=firstOf_zero h 10 (by simp); cases h2
  refine ca (c37 m s (by omega) (by omega) (by omega)) ?_
  refine sd ?_
  refine b_lt (fun t1=>?_) (fun t1=>?_)
  refine sd ?_
  refine ca (c89 _ _) ?_
  refine sd ?_
  refine sd ?_
  refine ca (c86 [Ms.chkS m s,(10:Int)] (by simp)) ?_
  refine sd ?_
  refine b_ne (fun t2=>?_) (fun t2=>?_)
  rotate_left
  (exfalso; omega)
  (exfalso; omega)
  exact bad hne
 ·have eo:outN (lks m.ls).length i=decide (((lks m.ls).length:Int)≤i):=by unfold outN; rw [decide_eq_false h0]; rfl
  rw [eo] at bad fin ⊢
  by_cases hz:firstOf [m.chkS s,bif decide (((lks m.ls).length:Int)≤i) then 10 else 0]=0
  ·have hf:=chkS_fine (firstOf_zero hz (m.chkS s) (by simp))
   have hco:=hf.co
   have hle:=hf.len
   have h1:i < ((lks m.ls).length:Int):=by
    have h:=firstOf_zero hz (bif decide (((lks m.ls).length:Int)≤i) then 10 else 0) (by simp)
    by_cases hd:((lks m.ls).length:Int)≤i
    ·rw [decide_eq_true hd] at h; cases h
    ·omega
   refine Exists.elim (get_lt m.ls (k:=i.toNat) (by omega)) fun l hlk=>?_
   have hlI:(lks m.ls)[i.toNat]?=some (.agg [.int .i64 l.a,.int .i64 l.b,.int .i64 l.c]):=by
    have h:=lks_at hlk
    rwa [show ((i.toNat:Nat):Int).toNat=i.toNat from rfl] at h
   have hin:=hf.mesh.okIn l (List.mem_of_getElem? hlk)
   refine ca (c37 m s (by omega) (by omega) (by omega)) ?_
   refine sd ?_
   refine b_lt (fun t1=>?_) (fun t1=>?_)
   (exfalso; omega)
   refine sd ?_
   refine ca (c89 _ _) ?_
   refine sd ?_
   refine sd ?_
   refine ca (c86 [Ms.chkS m s,bif decide ((↑(List.length (lks (Ms.ls m))):Int)≤i) then (10:Int) else (0:Int)] (by simp)) ?_
   refine sd ?_
   refine b_ne (fun t2=>?_) (fun t2=>?_)
   (exfalso; omega)
   refine Exists.intro _ (Exists.intro _ (And.intro (c99i_60 m s _ _ (by omega)) ?_))
   refine ix_at hlI ?_ ?_
   (show (0:Int)≤i; omega)
   refine ca (c123 l) ?_
   rotate_left
   have hab:l.a < l.b:=hf.mesh.asc l (List.mem_of_getElem? hlk)
   refine Exists.elim (get_lt s.es (k:=l.a.toNat) (by have:=hin.na; omega)) fun x hx=>?_
   refine Exists.elim (get_lt (cut1 s.es l.a l.b) (k:=l.b.toNat) (by rw [cut1_len]; have:=hin.nb; omega)) fun y hy=>?_
   have hya:s.es[l.b.toNat]?=some y:=by rw [← hy,cut1_ne]; have:=hin.1; have:=hin.2.1; omega
   have hxd:=ens_atI hx
   have hyd:=ens_atI hy
   have hl1:(ens (cut1 s.es l.a l.b)).length=(ens s.es).length:=by rw [ens_len,cut1_len,hl]
   have hl2:(ens (cut2 s.es l)).length=(ens s.es).length:=by rw [ens_len]; unfold cut2; rw [cut1_len,cut1_len,hl]
   have hina:=hin.1
   have hinb:=hin.2.1
   refine loop_u (fun k:Nat=>[(43,.d (.int .i64 k))]) (fun k=>[(9,.row 105 3 (ens (stg s.es l k)) false)]) (fun k=>k≤2) (fun k=>2 - k) 0 rfl (Nat.zero_le _) ?_
   intro k hk
   have hk:k≤2:=hk
   have hs1:k=0∨k=1∨k=2:=by omega
   rcases hs1 with rfl | rfl | rfl
   ·have st0:cut1 s.es l.a l.b=s.es→∀ X,X=ens s.es→X=ens (cut1 s.es l.a l.b):=fun h X hX=>by rw [h,hX]
    refine sd ?_
    refine an ?_ ?_
    refine an ?_ ?_
    (show (0:Int)≤(↑(0:Nat):Int); omega)
    (show (↑(0:Nat):Int) < (↑(2:Nat):Int); omega)
    refine sd ?_
    refine b_ne (fun t3=>?_) (fun t3=>?_)
    refine an ?_ ?_
    refine an ?_ ?_
    exact rfl
    refine an ?_ ?_
    exact rfl
    refine an ?_ ?_
    (show (0:Int)≤Lk.a l; omega)
    (show Lk.a l < (↑(List.length (ens (Sts.es s))):Int); omega)
    refine sd ?_
    refine sd ?_
    refine ca hxd ?_
    refine ar_sub ?_ ?_
    refine an ?_ ?_
    (show (-9223372036854775808:Int)≤(1:Int) - (↑(0:Nat):Int); omega)
    (show (1:Int) - (↑(0:Nat):Int)≤(9223372036854775807:Int); omega)
    refine an ?_ ?_
    refine an ?_ ?_
    (show (0:Int)≤(1:Int) - (↑(0:Nat):Int); omega)
    (show (1:Int) - (↑(0:Nat):Int) < (↑(2:Nat):Int); omega)
    refine sd ?_
    refine b_eq (fun t4=>?_) (fun t4=>?_)
    refine an ?_ ?_
    refine an ?_ ?_
    exact rfl
    refine an ?_ ?_
    exact rfl
    refine an ?_ ?_
    (show (0:Int)≤Lk.a l; omega)
    (show Lk.a l < (↑(List.length (ens (Sts.es s))):Int); omega)
    refine sd ?_
    refine Exists.intro _ (Exists.intro (Vc.Data.agg [Data.int IntKind.i64 (En.nu x),Data.int IntKind.i64 (En.di x),Data.int IntKind.i64 (-1:Int)]) (And.intro (And.intro ?_ (And.intro hxd (And.intro rfl (And.intro ?_ (And.intro rfl rfl))))) ?_))
    exact rfl
    (show (0:Nat)+(2:Nat)+(1:Nat)≤(1:Nat)+(1:Nat)+(1:Nat); omega)
    refine ar_add ?_ ?_
    refine an ?_ ?_
    (show (-9223372036854775808:Int)≤(↑(0:Nat):Int)+(1:Int); omega)
    (show (↑(0:Nat):Int)+(1:Int)≤(9223372036854775807:Int); omega)
    rotate_left
    refine ar_add ?_ ?_
    refine an ?_ ?_
    (show (-9223372036854775808:Int)≤(↑(0:Nat):Int)+(1:Int); omega)
    (show (↑(0:Nat):Int)+(1:Int)≤(9223372036854775807:Int); omega)
    rotate_left
    refine sd ?_
    refine ar_add ?_ ?_
    refine an ?_ ?_
    (show (-9223372036854775808:Int)≤(↑(0:Nat):Int)+(1:Int); omega)
    (show (↑(0:Nat):Int)+(1:Int)≤(9223372036854775807:Int); omega)
    rotate_left
    ·refine ⟨1,⟨by decide,by decide⟩,?_⟩
     show _=St.upd _ [(43,.d (.int .i64 1))] [(9,.row 105 3 (ens (cut1 s.es l.a l.b)) false)]
     rw [cut1_yes hx t4,ens_set]; rfl
    ·refine ⟨1,⟨by decide,by decide⟩,?_⟩
     show _=St.upd _ [(43,.d (.int .i64 1))] [(9,.row 105 3 (ens (cut1 s.es l.a l.b)) false)]
     rw [cut1_no hx t4]; rfl
    ·refine ⟨1,⟨by decide,by decide⟩,?_⟩
     show _=St.upd _ [(43,.d (.int .i64 1))] [(9,.row 105 3 (ens (cut1 s.es l.a l.b)) false)]
     have hne:=hf.ne_co (x:=x) (by rw [← t3]; exact hx)
     rw [cut1_no hx (by omega)]; rfl
   ·refine sd ?_
    refine an ?_ ?_
    refine an ?_ ?_
    (show (0:Int)≤(↑(1:Nat):Int); omega)
    (show (↑(1:Nat):Int) < (↑(2:Nat):Int); omega)
    refine sd ?_
    refine b_ne (fun t3=>?_) (fun t3=>?_)
    refine an ?_ ?_
    refine an ?_ ?_
    exact rfl
    refine an ?_ ?_
    assumption
    refine an ?_ ?_
    (show (0:Int)≤Lk.b l; omega)
    (show Lk.b l < (↑(List.length (ens (Sts.es s))):Int); omega)
    refine an ?_ ?_
    assumption
    refine an ?_ ?_
    assumption
    refine ca hyd ?_
    refine ar_sub ?_ ?_
    refine an ?_ ?_
    (show (-9223372036854775808:Int)≤(1:Int) - (↑(1:Nat):Int); omega)
    (show (1:Int) - (↑(1:Nat):Int)≤(9223372036854775807:Int); omega)
    refine an ?_ ?_
    refine an ?_ ?_
    (show (0:Int)≤(1:Int) - (↑(1:Nat):Int); omega)
    (show (1:Int) - (↑(1:Nat):Int) < (↑(2:Nat):Int); omega)
    refine sd ?_
    refine b_eq (fun t4=>?_) (fun t4=>?_)
    refine an ?_ ?_
    refine an ?_ ?_
    exact rfl
    refine an ?_ ?_
    assumption
    refine an ?_ ?_
    (show (0:Int)≤Lk.b l; omega)
    (show Lk.b l < (↑(List.length (ens (Sts.es s))):Int); omega)
    refine an ?_ ?_
    assumption
    refine Exists.intro _ (Exists.intro (Vc.Data.agg [Data.int IntKind.i64 (En.nu y),Data.int IntKind.i64 (En.di y),Data.int IntKind.i64 (-1:Int)]) (And.intro (And.intro ?_ (And.intro hyd (And.intro rfl (And.intro ?_ (And.intro rfl rfl))))) ?_))
    assumption
    (show (0:Nat)+(2:Nat)+(1:Nat)≤(1:Nat)+(1:Nat)+(1:Nat); omega)
    refine ar_add ?_ ?_
    refine an ?_ ?_
    (show (-9223372036854775808:Int)≤(↑(1:Nat):Int)+(1:Int); omega)
    (show (↑(1:Nat):Int)+(1:Int)≤(9223372036854775807:Int); omega)
    rotate_left
    refine ar_add ?_ ?_
    refine an ?_ ?_
    (show (-9223372036854775808:Int)≤(↑(1:Nat):Int)+(1:Int); omega)
    (show (↑(1:Nat):Int)+(1:Int)≤(9223372036854775807:Int); omega)
    rotate_left
    refine sd ?_
    refine ar_add ?_ ?_
    refine an ?_ ?_
    (show (-9223372036854775808:Int)≤(↑(1:Nat):Int)+(1:Int); omega)
    (show (↑(1:Nat):Int)+(1:Int)≤(9223372036854775807:Int); omega)
    rotate_left
    ·refine ⟨2,⟨by decide,by decide⟩,?_⟩
     show _=St.upd _ [(43,.d (.int .i64 2))] [(9,.row 105 3 (ens (cut2 s.es l)) false)]
     rw [show cut2 s.es l=(cut1 s.es l.a l.b).set l.b.toNat ⟨y.nu,y.di,-1⟩ from cut1_yes hy t4,ens_set]; rfl
    ·refine ⟨2,⟨by decide,by decide⟩,?_⟩
     show _=St.upd _ [(43,.d (.int .i64 2))] [(9,.row 105 3 (ens (cut2 s.es l)) false)]
     rw [show cut2 s.es l=cut1 s.es l.a l.b from cut1_no hy t4]; rfl
    ·refine ⟨2,⟨by decide,by decide⟩,?_⟩
     show _=St.upd _ [(43,.d (.int .i64 2))] [(9,.row 105 3 (ens (cut2 s.es l)) false)]
     have hne:=hf.ne_co (x:=y) (by rw [← t3]; exact hya)
     rw [show cut2 s.es l=cut1 s.es l.a l.b from cut1_no hy (by omega)]; rfl
   ·refine sd ?_
    refine ca (c124 m.ns (by omega)) ?_
    refine ca (c126r m.ls (by omega)) ?_
    refine ar_add ?_ ?_
    refine an ?_ ?_
    (show (-9223372036854775808:Int)≤i+(1:Int); omega)
    (show i+(1:Int)≤(9223372036854775807:Int); omega)
    refine Exists.intro _ (Exists.intro _ (And.intro (c125i m s i _ _ (by omega) (by omega) (by omega)) ?_))
    refine an ?_ ?_
    assumption
    rotate_left
    refine fin hz _ _ (lks_erase m.ls i.toNat) ?_
    show ens (cut2 s.es l)=ens (match m.ls[i.toNat]? with | some l=>cut2 s.es l | none=>s.es)
    rw [hlk]
  ·refine ca (c37 m s (by omega) (by omega) (by omega)) ?_
   refine sd ?_
   refine b_lt (fun t1=>?_) (fun t1=>?_)
   (exfalso; omega)
   refine sd ?_
   refine ca (c89 _ _) ?_
   refine sd ?_
   refine sd ?_
   refine ca (c86 [Ms.chkS m s,bif decide ((↑(List.length (lks (Ms.ls m))):Int)≤i) then (10:Int) else (0:Int)] (by simp)) ?_
   refine sd ?_
   refine b_ne (fun t2=>?_) (fun t2=>?_)
   rotate_left
   (exfalso; omega)
   exact bad hz
end Vc
