import Derived.Test.YtifgdpnmgeffbaaGreatDoorG12
set_option linter.unusedSectionVars false
set_option linter.unusedVariables false
set_option linter.unusedSimpArgs false
set_option maxRecDepth 10000
set_option maxHeartbeats 4000000
namespace Vc
open Go Go.Proofs
def jr78:AFun:=⟨71,7,[.cell 6 7 true,.tmp 7],
 (.seq
 (.reg [0,1] [⟨some 3,.box 0 7 (.tmp 0),none⟩,
  ⟨some 6,.alloc 1 [(.d (.int .i64 0)),(.d (.int .i64 0)),(.d (.int .i64 0)),(.d (.int .i64 0)),(.nils 1),(.d (.bool false)),(.d (.bool false))],none⟩,
  ⟨some 7,.mov (.cst (.d (.int .i64 0))),none⟩])
 (.seq
  (.seq
  (.reg [2] [⟨some 11,.fad 2 (.tmp 3),none⟩,
   ⟨some 12,.ld false 1 (.tmp 11),none⟩,
   ⟨some 13,.cmp .eql (.tmp 12) (.cst (.d (.int .i64 0))),none⟩,
   ⟨some 14,.mov (.tmp 13),none⟩,
   ⟨some 15,.fad 6 (.tmp 3),some (14,false)⟩,
   ⟨some 16,.ld false 1 (.tmp 15),some (14,false)⟩,
   ⟨some 17,.pick (.tmp 14) (.cst (.d (.bool true))) (.tmp 16),none⟩,
   ⟨some 18,.call 22 [(.tmp 17),(.cst (.d (.int .i64 22)))],none⟩,
   ⟨some 19,.mov (.tmp 1),none⟩,
   ⟨some 20,.cmp .lss (.tmp 19) (.cst (.d (.int .i64 0))),none⟩,
   ⟨some 21,.mov (.tmp 20),none⟩,
   ⟨some 22,.mov (.tmp 1),some (21,false)⟩,
   ⟨some 23,.fad 4 (.tmp 3),some (21,false)⟩,
   ⟨some 24,.ld false 1 (.tmp 23),some (21,false)⟩,
   ⟨some 25,.len (.tmp 24),some (21,false)⟩,
   ⟨some 26,.cmp .geq (.tmp 22) (.tmp 25),some (21,false)⟩,
   ⟨some 27,.pick (.tmp 21) (.cst (.d (.bool true))) (.tmp 26),none⟩,
   ⟨some 28,.call 22 [(.tmp 27),(.cst (.d (.int .i64 10)))],none⟩,
   ⟨some 29,.mov (.tmp 2),none⟩,
   ⟨some 30,.call 145 [(.tmp 29)],none⟩,
   ⟨some 31,.bsl 2 3 1 3 [(.int .i64 0),(.int .i64 0),(.int .i64 0)] [(0,(.tmp 18)),(1,(.tmp 28)),(2,(.tmp 30))],none⟩,
   ⟨some 32,.call 110 [(.tmp 31)],none⟩,
   ⟨some 8,.mov (.tmp 32),none⟩])
  (.seq
   (.reg [] [⟨some 33,.mov (.tmp 8),none⟩,
    ⟨some 34,.cmp .neq (.tmp 33) (.cst (.d (.int .i64 0))),none⟩])
   (.cond (.tmp 34)
   (.seq
    (.reg [] [⟨some 35,.build [(.d (.int .i64 0)),(.d (.int .i64 0)),(.d (.int .i64 0)),(.d (.int .i64 0)),(.nils 1),(.d (.bool false)),(.d (.bool false))] [],none⟩,
     ⟨some 36,.mov (.tmp 8),none⟩,
     ⟨none,.st 7 (.tmp 6) (.tmp 35),none⟩,
     ⟨some 7,.mov (.tmp 36),none⟩])
    .ret)
   .skip)))
  (.seq
  (.reg [] [⟨some 9,.mov (.cst (.nils 1)),none⟩])
  (.seq
   (.seq
   (.reg [] [⟨some 10,.mov (.cst (.d (.int .i64 0))),none⟩])
   (.post [3,6,9] [0,1,2,3,4,5,6]
    (.block 0
    (.asrow 4 111 1 9
     (.keep [1,2,3,6,9,10] [0,1,2]
      (.loop
      (.post [1,2,3,6,9,10] [3,4,5,6]
       (.seq
       (.seq
        (.reg [] [⟨some 37,.mov (.tmp 10),none⟩,
         ⟨some 38,.fad 4 (.tmp 3),none⟩,
         ⟨some 39,.ld false 1 (.tmp 38),none⟩,
         ⟨some 40,.len (.tmp 39),none⟩,
         ⟨some 41,.cmp .lss (.tmp 37) (.tmp 40),none⟩])
        (.cond (.tmp 41)
        .skip
        (.exit 0)))
       (.seq
        (.block 1
        (.seq
         (.reg [] [⟨some 44,.mov (.tmp 10),none⟩,
          ⟨some 45,.mov (.tmp 1),none⟩,
          ⟨some 46,.cmp .eql (.tmp 44) (.tmp 45),none⟩,
          ⟨some 47,.mov (.tmp 46),none⟩,
          ⟨some 48,.fad 4 (.tmp 3),some (47,true)⟩,
          ⟨some 49,.ld false 1 (.tmp 48),some (47,true)⟩,
          ⟨some 50,.mov (.tmp 10),some (47,true)⟩,
          ⟨some 51,.ixa 1 (.tmp 49) (.tmp 50),some (47,true)⟩,
          ⟨some 52,.ld false 1 (.tmp 51),some (47,true)⟩,
          ⟨some 53,.len (.tmp 52),some (47,true)⟩,
          ⟨some 54,.cmp .eql (.tmp 53) (.cst (.d (.int .i64 0))),some (47,true)⟩,
          ⟨some 55,.pick (.tmp 47) (.tmp 54) (.cst (.d (.bool false))),none⟩])
         (.cond (.tmp 55)
         (.reg [3,4] [⟨some 56,.mov (.tmp 9),none⟩,
          ⟨some 57,.mov (.tmp 2),none⟩,
          ⟨some 58,.bsl 3 111 1 1 [(.slice 1 [])] [(0,(.tmp 57))],none⟩,
          ⟨some 59,.app 4 111 1 24 (.tmp 56) (.tmp 58),none⟩,
          ⟨some 9,.mov (.tmp 59),none⟩])
         (.reg [4,5] [⟨some 60,.mov (.tmp 9),none⟩,
          ⟨some 61,.fad 4 (.tmp 3),none⟩,
          ⟨some 62,.ld false 1 (.tmp 61),none⟩,
          ⟨some 63,.mov (.tmp 10),none⟩,
          ⟨some 64,.ixa 1 (.tmp 62) (.tmp 63),none⟩,
          ⟨some 65,.ld false 1 (.tmp 64),none⟩,
          ⟨some 66,.bsl 5 111 1 1 [(.slice 1 [])] [(0,(.tmp 65))],none⟩,
          ⟨some 67,.app 4 111 1 24 (.tmp 60) (.tmp 66),none⟩,
          ⟨some 9,.mov (.tmp 67),none⟩]))))
        (.reg [] [⟨some 42,.mov (.tmp 10),none⟩,
         ⟨some 43,.arith .add .i64 (.tmp 42) (.cst (.d (.int .i64 1))),none⟩,
         ⟨some 10,.mov (.tmp 43),none⟩]))))))))))
   (.seq
   (.reg [] [⟨some 68,.mov (.tmp 9),none⟩,
    ⟨some 69,.fad 4 (.tmp 3),none⟩,
    ⟨none,.st 1 (.tmp 69) (.tmp 68),none⟩])
   (.seq
    (.reg [] [⟨some 70,.ld true 7 (.tmp 3),none⟩,
     ⟨none,.st 7 (.tmp 6) (.tmp 70),none⟩,
     ⟨some 7,.mov (.cst (.d (.int .i64 0))),none⟩])
    .ret))))))⟩
def jr69:AFun:=⟨54,8,[.cell 6 7 true,.tmp 7],
 (.seq
 (.reg [0,1] [⟨some 3,.cbx 0 7 (.tmp 0),none⟩,
  ⟨some 6,.alloc 1 [(.d (.int .i64 0)),(.d (.int .i64 0)),(.d (.int .i64 0)),(.d (.int .i64 0)),(.nils 1),(.d (.bool false)),(.d (.bool false))],none⟩,
  ⟨some 7,.mov (.cst (.d (.int .i64 0))),none⟩])
 (.seq
  (.seq
  (.regd [2] [⟨some 11,.ld true 7 (.tmp 3),none⟩,
   ⟨some 12,.call 83 [(.tmp 11)],none⟩,
   ⟨some 13,.ld true 7 (.tmp 3),none⟩,
   ⟨some 14,.call 141 [(.tmp 13)],none⟩,
   ⟨some 15,.mov (.tmp 1),none⟩,
   ⟨some 16,.cmp .lss (.tmp 15) (.cst (.d (.int .i64 0))),none⟩,
   ⟨some 17,.mov (.tmp 16),none⟩,
   ⟨some 18,.mov (.tmp 1),some (17,false)⟩,
   ⟨some 19,.fad 4 (.tmp 3),some (17,false)⟩,
   ⟨some 20,.ld false 1 (.tmp 19),some (17,false)⟩,
   ⟨some 21,.len (.tmp 20),some (17,false)⟩,
   ⟨some 22,.cmp .geq (.tmp 18) (.tmp 21),some (17,false)⟩,
   ⟨some 23,.pick (.tmp 17) (.cst (.d (.bool true))) (.tmp 22),none⟩,
   ⟨some 24,.call 103 [(.tmp 23),(.cst (.d (.int .i64 10)))],none⟩,
   ⟨some 25,.mov (.tmp 2),none⟩,
   ⟨some 26,.call 139 [(.tmp 25)],none⟩,
   ⟨some 27,.bsl 2 32 1 4 [(.int .i64 0),(.int .i64 0),(.int .i64 0),(.int .i64 0)] [(0,(.tmp 12)),(1,(.tmp 14)),(2,(.tmp 24)),(3,(.tmp 26))],none⟩,
   ⟨some 28,.call 99 [(.tmp 27)],none⟩,
   ⟨some 8,.mov (.tmp 28),none⟩] [(0,2),(1,2),(0,4),(1,4),(2,4),(3,4),(0,5),(1,5),(2,5),(3,5),(7,8),(7,9),(7,10),(0,14),(1,14),(2,14),(3,14),(4,14),(5,14),(6,14),(7,14),(8,14),(9,14),(10,14),(11,14),(12,14),(13,14)])
  (.seq
   (.reg [] [⟨some 29,.mov (.tmp 8),none⟩,
    ⟨some 30,.cmp .neq (.tmp 29) (.cst (.d (.int .i64 0))),none⟩])
   (.cond (.tmp 30)
   (.seq
    (.reg [] [⟨some 31,.build [(.d (.int .i64 0)),(.d (.int .i64 0)),(.d (.int .i64 0)),(.d (.int .i64 0)),(.nils 1),(.d (.bool false)),(.d (.bool false))] [],none⟩,
     ⟨some 32,.mov (.tmp 8),none⟩,
     ⟨none,.st 7 (.tmp 6) (.tmp 31),none⟩,
     ⟨some 7,.mov (.tmp 32),none⟩])
    .ret)
   .skip)))
  (.seq
  (.reg [3] [⟨some 33,.ld true 7 (.tmp 3),none⟩,
   ⟨some 34,.calli 142 [(.tmp 33)],none⟩,
   ⟨some 9,.alloc 3 [(.d (.int .i64 0)),(.d (.int .i64 0)),(.d (.int .i64 0)),(.d (.int .i64 0)),(.nils 1),(.d (.bool false)),(.d (.bool false))],none⟩,
   ⟨none,.st 7 (.tmp 9) (.tmp 34),none⟩])
  (.seq
   (.seq
   (.reg [] [⟨some 35,.fad 4 (.tmp 9),none⟩,
    ⟨some 36,.ld false 1 (.tmp 35),none⟩,
    ⟨some 37,.mov (.tmp 1),none⟩,
    ⟨some 38,.ixa 1 (.tmp 36) (.tmp 37),none⟩,
    ⟨some 39,.ld false 1 (.tmp 38),none⟩,
    ⟨some 40,.len (.tmp 39),none⟩,
    ⟨some 41,.cmp .eql (.tmp 40) (.cst (.d (.int .i64 0))),none⟩])
   (.cond (.tmp 41)
    (.seq
    (.reg [4] [⟨some 42,.mov (.tmp 2),none⟩,
     ⟨some 43,.len (.tmp 42),none⟩,
     ⟨some 44,.msl 4 5 1 1 (.int .u8 0) (.tmp 43),none⟩,
     ⟨some 10,.mov (.tmp 44),none⟩])
    (.seq
     (.reg [] [⟨some 45,.mov (.tmp 10),none⟩,
      ⟨some 46,.mov (.tmp 2),none⟩,
      ⟨some 47,.copy 1 (.tmp 45) (.tmp 46),none⟩])
     (.reg [] [⟨some 48,.fad 4 (.tmp 9),none⟩,
      ⟨some 49,.ld false 1 (.tmp 48),none⟩,
      ⟨some 50,.mov (.tmp 1),none⟩,
      ⟨some 51,.mov (.tmp 10),none⟩,
      ⟨some 52,.ixa 1 (.tmp 49) (.tmp 50),none⟩,
      ⟨none,.st 1 (.tmp 52) (.tmp 51),none⟩])))
    .skip))
   (.seq
   (.reg [] [⟨some 53,.ld true 7 (.tmp 9),none⟩,
    ⟨none,.st 7 (.tmp 6) (.tmp 53),none⟩,
    ⟨some 7,.mov (.cst (.d (.int .i64 0))),none⟩])
   .ret)))))⟩
def jr84:AFun:=⟨21,2,[.tmp 8],
 (.seq
 (.reg [0,1] [⟨some 4,.cbx 0 7 (.tmp 0),none⟩,
  ⟨some 7,.box 1 7 (.tmp 3),none⟩,
  ⟨some 8,.mov (.cst (.d (.bool false))),none⟩])
 (.seq
  (.seq
  (.reg [] [⟨some 9,.mov (.tmp 2),none⟩,
   ⟨some 10,.cmp .neq (.tmp 9) (.cst (.d (.int .i64 0))),none⟩])
  (.cond (.tmp 10)
   (.reg [] [⟨some 11,.build [(.d (.int .i64 0)),(.d (.int .i64 0)),(.d (.int .i64 0)),(.d (.int .i64 0)),(.nils 1),(.d (.bool false)),(.d (.bool false))] [],none⟩,
    ⟨none,.st 7 (.tmp 7) (.tmp 11),none⟩])
   .skip))
  (.seq
  (.regd [] [⟨some 12,.mov (.tmp 1),none⟩,
   ⟨some 13,.mov (.tmp 2),none⟩,
   ⟨some 14,.cmp .eql (.tmp 12) (.tmp 13),none⟩,
   ⟨some 15,.mov (.tmp 14),none⟩,
   ⟨some 16,.ld true 7 (.tmp 4),some (15,true)⟩,
   ⟨some 17,.call 152 [(.tmp 16)],some (15,true)⟩,
   ⟨some 18,.ld true 7 (.tmp 7),some (15,true)⟩,
   ⟨some 19,.call 151 [(.tmp 17),(.tmp 18)],some (15,true)⟩,
   ⟨some 20,.pick (.tmp 15) (.tmp 19) (.cst (.d (.bool false))),none⟩,
   ⟨some 8,.mov (.tmp 20),none⟩] [(0,1),(4,6),(5,6)])
  .ret)))⟩
theorem c84 (a w:Sto) (e:Int) (ha:a.ps.length≤1048576) (h:e=0→w=a) (h':e≠0→a=sto0):CallDet Tryz.prog 84 [.d a.d,.d (.int .i64 e),.d (.int .i64 e),.d w.d] [.bool true]:=by
 have n1:(e==e)=true:=beq_self_eq_true _
 refine call_of_vc (x:=jr84) (by kernel_rfl) rfl ?_
 by_cases h0:e=0
 ·have hw:=h h0
  subst hw
  have c152_:=c152 w
  have c151_:=c151 w ha
  have n2:(e != 0)=false:=nE_f h0
  refine sd ?_
  refine b_f n2 ?_
  refine sd ?_
  refine b_t n1 ?_
  refine ca c152_ ?_
  refine ca c151_ ?_
  exact rfl
 ·have hw:=h' h0
  subst hw
  have c152_:=c152 sto0
  have c151_:=c151 sto0 ha
  have n2:(e != 0)=true:=nE_t h0
  refine sd ?_
  refine b_t n2 ?_
  refine sd ?_
  refine b_t n1 ?_
  refine ca c152_ ?_
  refine ca c151_ ?_
  exact rfl
theorem i142 (s:Sto) (h:s.ok) (L:List Data):CallIn Tryz.prog 142 [.d s.d] [.cbox [.int .i64 s.ru,.int .i64 s.ol,.int .i64 s.nw,.int .i64 s.su,.slice 1 (pss s.ps),.bool s.ck,.bool s.tr],.box [.d (.int .i64 0),.d (.int .i64 0),.d (.int .i64 0),.d (.int .i64 0),.nils 1,.d (.bool false),.d (.bool false)],.row 32 1 L false,.none,.none,.none,.none,.none] (.agg [.d (.int .i64 s.ru),.d (.int .i64 s.ol),.d (.int .i64 s.nw),.d (.int .i64 s.su),.sl 7 (pss s.ps).length,.d (.bool s.ck),.d (.bool s.tr)]) (setAll [.cbox [.int .i64 s.ru,.int .i64 s.ol,.int .i64 s.nw,.int .i64 s.su,.slice 1 (pss s.ps),.bool s.ck,.bool s.tr],.box [.d (.int .i64 0),.d (.int .i64 0),.d (.int .i64 0),.d (.int .i64 0),.nils 1,.d (.bool false),.d (.bool false)],.row 32 1 L false,.none,.none,.none,.none,.none] [(5,.box [.d (.int .i64 s.ru),.d (.int .i64 s.ol),.d (.int .i64 s.nw),.d (.int .i64 s.su),.sl 7 (pss s.ps).length,.d (.bool s.ck),.d (.bool s.tr)]),(6,.box [.d (.int .i64 s.ru),.d (.int .i64 s.ol),.d (.int .i64 s.nw),.d (.int .i64 s.su),.sl 7 (pss s.ps).length,.d (.bool s.ck),.d (.bool s.tr)]),(7,.row 111 1 (pss s.ps) false)]):=by
 have hll:=pss_len s.ps
 have h1:=h.1
 have hrl:(List.replicate (pss s.ps).length (Data.slice 1 [])).length=(pss s.ps).length:=List.length_replicate
 refine callIn_of_vc 5 (x:=jr142) (by kernel_rfl) rfl rfl rfl ?_
 refine an ?_ ?_
 refine an ?_ ?_
 (show (0:Int)≤(↑(List.length (pss (Sto.ps s))):Int); omega)
 refine an ?_ ?_
 (show (↑(List.length (pss (Sto.ps s))):Int) * (↑(24:Nat):Int)≤(2:Int) ^ (47:Nat); omega)
 (show (↑(List.length (pss (Sto.ps s))):Int)≤(2:Int) ^ (47:Nat); omega)
 refine an ?_ ?_
 assumption
 rotate_left
 refine loop_st (fun k:Nat=>⟨[(1,.ptr 5 0),(2,.ptr 6 0),(3,.sl 7 (pss s.ps).length),(10,.d (.int .i64 ((List.replicate (pss s.ps).length (Data.slice 1 [])).length:Int))),(11,.d (.int .i64 (k:Nat)))],[.cbox [.int .i64 s.ru,.int .i64 s.ol,.int .i64 s.nw,.int .i64 s.su,.slice 1 (pss s.ps),.bool s.ck,.bool s.tr],.box [.d (.int .i64 0),.d (.int .i64 0),.d (.int .i64 0),.d (.int .i64 0),.nils 1,.d (.bool false),.d (.bool false)],.row 32 1 L false,.none,.none,.box [.d (.int .i64 s.ru),.d (.int .i64 s.ol),.d (.int .i64 s.nw),.d (.int .i64 s.su),.d (.slice 1 (pss s.ps)),.d (.bool s.ck),.d (.bool s.tr)],.box [.d (.int .i64 0),.d (.int .i64 0),.d (.int .i64 0),.d (.int .i64 0),.nils 1,.d (.bool false),.d (.bool false)],.row 111 1 (fillR s.ps k) false]⟩) (fun k=>k≤s.ps.length) (fun k=>s.ps.length - k) 0 rfl (Nat.zero_le _) ?_
 intro k hk
 have hk:k≤s.ps.length:=hk
 have hfl:=fill_len hk
 dsimp only
 by_cases hkn:k < s.ps.length
 ·refine Exists.elim (get_lt s.ps hkn) fun x hx=>?_
  have hx1:=pss_at hx
  have hx2:=fill_at hkn
  have hx3:=bys_len x
  have hx4:=flat_mem (List.mem_of_getElem? hx)
  have hx5:=h.2
  have c176_:=c176 (bys x) (by omega)
  have fin:∃ a':Nat,(a'≤s.ps.length∧s.ps.length - a' < s.ps.length - k)∧(⟨[(1,.ptr 5 0),(2,.ptr 6 0),(3,.sl 7 (pss s.ps).length),(10,.d (.int .i64 ((List.replicate (pss s.ps).length (Data.slice 1 [])).length:Int))),(11,.d (.int .i64 ((k:Int)+1)))],[.cbox [.int .i64 s.ru,.int .i64 s.ol,.int .i64 s.nw,.int .i64 s.su,.slice 1 (pss s.ps),.bool s.ck,.bool s.tr],.box [.d (.int .i64 0),.d (.int .i64 0),.d (.int .i64 0),.d (.int .i64 0),.nils 1,.d (.bool false),.d (.bool false)],.row 32 1 L false,.none,.none,.box [.d (.int .i64 s.ru),.d (.int .i64 s.ol),.d (.int .i64 s.nw),.d (.int .i64 s.su),.d (.slice 1 (pss s.ps)),.d (.bool s.ck),.d (.bool s.tr)],.box [.d (.int .i64 0),.d (.int .i64 0),.d (.int .i64 0),.d (.int .i64 0),.nils 1,.d (.bool false),.d (.bool false)],.row 111 1 ((fillR s.ps k).set k (.slice 1 (bys x))) false]⟩:St)=⟨[(1,.ptr 5 0),(2,.ptr 6 0),(3,.sl 7 (pss s.ps).length),(10,.d (.int .i64 ((List.replicate (pss s.ps).length (Data.slice 1 [])).length:Int))),(11,.d (.int .i64 (a':Nat)))],[.cbox [.int .i64 s.ru,.int .i64 s.ol,.int .i64 s.nw,.int .i64 s.su,.slice 1 (pss s.ps),.bool s.ck,.bool s.tr],.box [.d (.int .i64 0),.d (.int .i64 0),.d (.int .i64 0),.d (.int .i64 0),.nils 1,.d (.bool false),.d (.bool false)],.row 32 1 L false,.none,.none,.box [.d (.int .i64 s.ru),.d (.int .i64 s.ol),.d (.int .i64 s.nw),.d (.int .i64 s.su),.d (.slice 1 (pss s.ps)),.d (.bool s.ck),.d (.bool s.tr)],.box [.d (.int .i64 0),.d (.int .i64 0),.d (.int .i64 0),.d (.int .i64 0),.nils 1,.d (.bool false),.d (.bool false)],.row 111 1 (fillR s.ps a') false]⟩ :=
   ⟨k+1,⟨by omega,by omega⟩,by rw [fill_set hx]; rfl⟩
  refine sd ?_
  refine b_lt (fun t1=>?_) (fun t1=>?_)
  refine ix_at hx1 ?_ ?_
  (show (0:Int)≤(↑k:Int); omega)
  refine ca c176_ ?_
  refine an ?_ ?_
  refine an ?_ ?_
  exact rfl
  refine an ?_ ?_
  assumption
  refine an ?_ ?_
  (show (0:Int)≤(↑k:Int); omega)
  (show (↑k:Int) < (↑(List.length (pss (Sto.ps s))):Int); omega)
  refine Exists.intro _ (Exists.intro (Data.slice (1:Nat) (bys x)) (And.intro (And.intro ?_ (And.intro hx2 (And.intro rfl (And.intro ?_ (And.intro rfl rfl))))) ?_))
  assumption
  (show (0:Nat)+(1:Nat)≤(1:Nat); omega)
  refine ar_add ?_ ?_
  refine an ?_ ?_
  (show (-9223372036854775808:Int)≤(↑k:Int)+(1:Int); omega)
  (show (↑k:Int)+(1:Int)≤(9223372036854775807:Int); omega)
  rotate_left
  (exfalso; omega)
  all_goals exact fin
 ·have e:k=s.ps.length:=by omega
  subst e
  rw [fill_all]
  refine sd ?_
  refine b_lt (fun t1=>?_) (fun t1=>?_)
  (exfalso; omega)
  refine sd ?_
  refine sd ?_
  exact rfl
theorem bys_copy (p:List UInt8):List.take (bys p).length (bys p)++List.drop (bys p).length (List.replicate (bys p).length (Data.int .u8 0))=bys p:=by
 rw [List.take_length,List.drop_eq_nil_of_le (by rw [List.length_replicate]; exact Nat.le_refl _),List.append_nil]
theorem pss_set (l:List (List UInt8)) (i:Nat) (p:List UInt8):(pss l).set i (.slice 1 (bys p))=pss (l.set i p):=by
 unfold pss; rw [List.map_set]
theorem recA {s:Sto} {i:Int} {p:List UInt8} (h:i < 0):recE s i p=firstOf [recvE s,10,chkP p]:=by
 unfold recE; rw [decide_eq_true h]; rfl
theorem recB {s:Sto} {i:Int} {p:List UInt8} (h:¬ i < 0):recE s i p=firstOf [recvE s,bif decide (((pss s.ps).length:Int)≤i) then 10 else 0,chkP p]:=by
 unfold recE; rw [decide_eq_false h,pss_len]; rfl
theorem rec_ok {s:Sto} {i:Int} {p:List UInt8} (h:recE s i p=0):0≤i∧i < (s.ps.length:Int):=by
 have h1:=firstOf_zero h (bif decide (i < 0)||decide ((s.ps.length:Int)≤i) then 10 else 0) (by simp)
 by_cases a:i < 0
 ·rw [decide_eq_true a] at h1; exact absurd (show (10:Int)=0 from h1) (by decide)
 ·by_cases b:(s.ps.length:Int)≤i
  ·rw [decide_eq_false a,decide_eq_true b] at h1; exact absurd (show (10:Int)=0 from h1) (by decide)
  ·omega
theorem rec_emp {s:Sto} {i:Int} {p x:List UInt8} (hx:s.ps[i.toNat]?=some x) (h:((x.length:Int)==0)=true):recS s i p=⟨s.ru,s.ol,s.nw,s.su,s.ps.set i.toNat p,s.ck,s.tr⟩:=by
 unfold recS; rw [hx,Option.getD_some,h]; rfl
theorem rec_ful {s:Sto} {i:Int} {p x:List UInt8} (hx:s.ps[i.toNat]?=some x) (h:((x.length:Int)==0)=false):recS s i p=s:=by
 unfold recS; rw [hx,Option.getD_some,h]; rfl
theorem rec_at {s:Sto} {i:Int} {p x y:List UInt8} {k:Nat} (h0:0≤i) (hx:s.ps[k]?=some x) (h:((k:Int)=i∧((x.length:Int)==0)=true∧y=p)∨((k:Int)=i∧((x.length:Int)==0)=false∧y=x)∨(¬ (k:Int)=i∧y=x)):(recS s i p).ps[k]?=some y:=by
 have hk:k < s.ps.length:=(List.getElem?_eq_some_iff.1 hx).1
 rcases h with ⟨rfl,h2,rfl⟩ | ⟨rfl,h2,rfl⟩ | ⟨h1,rfl⟩
 ·rw [rec_emp (i:=(k:Int)) hx h2]
  show (s.ps.set k y)[k]?=some y
  rw [List.getElem?_set_self hk]
 ·rw [rec_ful (i:=(k:Int)) hx h2]; exact hx
 ·unfold recS
  show (bif _ then s.ps.set i.toNat p else s.ps)[k]?=some y
  cases (((s.ps[i.toNat]?).getD []).length:Int)==0
  ·exact hx
  ·show (s.ps.set i.toNat p)[k]?=some y
   rw [List.getElem?_set_ne (by omega)]; exact hx
theorem rec_len {s:Sto} {i:Int} {p:List UInt8}:(recS s i p).ps.length=s.ps.length:=by
 unfold recS
 show (bif _ then s.ps.set i.toNat p else s.ps).length=_
 cases (((s.ps[i.toNat]?).getD []).length:Int)==0
 ·rfl
 ·exact List.length_set
theorem c77 (s:Sto) (v n m:Int) (h:s.ok):CallDet Tryz.prog 77 [.d s.d,.d (.int .i64 v),.d (.int .i64 n),.d (.int .i64 m)] [(refS (begE s v n m) (begS s v n m)).d,.int .i64 (begE s v n m)]:=by
 have c110_:CallDet Tryz.prog 110 [.d (.slice 1 [.int .i64 (within3 v 1 10000),.int .i64 (within3 n 1 16),.int .i64 (within3 m 0 9972),.int .i64 (bif s.tr then 22 else 0),.int .i64 (bif decide (v≤s.ru) then 35 else 0)])] [.int .i64 (begE s v n m)]:=c110 [within3 v 1 10000,within3 n 1 16,within3 m 0 9972,bif s.tr then 22 else 0,bif decide (v≤s.ru) then 35 else 0] (by simp)
 have hS1:begE s v n m≠0→refS (begE s v n m) (begS s v n m)=sto0:=refS_t
 have hS2:begE s v n m=0→refS (begE s v n m) (begS s v n m)=begS s v n m:=refS_f
 have hn:begE s v n m=0→1≤n∧n≤16:=beg_n
 generalize hE:begE s v n m=E at *
 refine call_of_vc (x:=jr77) (by kernel_rfl) rfl ?_
 by_cases h0:E=0
 ·rw [hS2 h0]
  have hn:=hn h0
  have n1:(E != 0)=false:=nE_f h0
  have n2:∀ d:Data,resV [d,.int .i64 0]=resV [d,.int .i64 E]:=fun d=>by rw [h0]
  refine ca (c112 _ _ _) ?_
  refine ca (c112 _ _ _) ?_
  refine ca (c112 _ _ _) ?_
  refine ca (c22 _ _) ?_
  refine sd ?_
  refine ca (c22 _ _) ?_
  refine sd ?_
  refine sd ?_
  refine ca c110_ ?_
  refine sd ?_
  refine b_f n1 ?_
  rotate_left
  refine loop_st (fun k:Nat=>(match k with | 0=>⟨[(2,.d (.int .i64 n)),(8,.ptr 1 0),(11,.ptr 3 0),(12,.d (.int .i64 0))],[.none,.box [.d (.int .i64 0),.d (.int .i64 0),.d (.int .i64 0),.d (.int .i64 0),.nils 1,.d (.bool false),.d (.bool false)],.none,.box [.d (.int .i64 s.ru),.d (.int .i64 s.ol),.d (.int .i64 v),.d (.int .i64 m),.nils 1,.d (.bool false),.d (.bool false)],.none,.none]⟩ | j+1=>⟨[(2,.d (.int .i64 n)),(8,.ptr 1 0),(11,.ptr 3 0),(12,.d (.int .i64 (j+1:Nat)))],[.none,.box [.d (.int .i64 0),.d (.int .i64 0),.d (.int .i64 0),.d (.int .i64 0),.nils 1,.d (.bool false),.d (.bool false)],.none,.box [.d (.int .i64 s.ru),.d (.int .i64 s.ol),.d (.int .i64 v),.d (.int .i64 m),.sl 5 (List.replicate (j+1) (Data.slice 1 [])).length,.d (.bool false),.d (.bool false)],.none,.row 111 1 (List.replicate (j+1) (Data.slice 1 [])) false]⟩:St)) (fun k=>k≤n.toNat) (fun k=>n.toNat - k) 0 rfl (Nat.zero_le _) ?_
  intro k hk
  have hk:k≤n.toNat:=hk
  cases k with
  | zero =>
   dsimp only
   refine sd ?_
   refine b_lt (fun t1=>?_) (fun t1=>?_)
   refine sd ?_
   refine sd ?_
   refine sd ?_
   refine an ?_ ?_
   refine an ?_ ?_
   (show (1:Nat) * (24:Nat)≤(2:Nat) ^ (47:Nat); omega)
   (show (1:Nat)≤(2:Nat) ^ (47:Nat); omega)
   refine sd ?_
   refine ar_add ?_ ?_
   refine an ?_ ?_
   (show (-9223372036854775808:Int)≤(0:Int)+(1:Int); omega)
   (show (0:Int)+(1:Int)≤(9223372036854775807:Int); omega)
   rotate_left
   (exfalso; omega)
   exact ⟨1,⟨by omega,by omega⟩,rfl⟩
  | succ k =>
   have hr:(List.replicate (k+1) (Data.slice 1 [])).length=k+1:=List.length_replicate
   have hs:List.replicate (k+1) (Data.slice 1 [])++[Data.slice 1 []]=List.replicate (k+1+1) (Data.slice 1 []):=List.replicate_succ'.symm
   dsimp only
   by_cases hkn:k+1 < n.toNat
   ·have fin : ∃ a' : Nat, (a' ≤ n.toNat ∧ n.toNat - a' < n.toNat - (k + 1)) ∧ (⟨[(2, .d (.int .i64 n)), (8, .ptr 1 0), (11, .ptr 3 0), (12, .d (.int .i64 (((k + 1 : Nat) : Int) + 1)))], [.none, .box [.d (.int .i64 0), .d (.int .i64 0), .d (.int .i64 0), .d (.int .i64 0), .nils 1, .d (.bool false), .d (.bool false)], .none, .box [.d (.int .i64 s.ru), .d (.int .i64 s.ol), .d (.int .i64 v), .d (.int .i64 m), .sl 5 (List.replicate (k + 1) (Data.slice 1 []) ++ [Data.slice 1 []]).length, .d (.bool false), .d (.bool false)], .none, .row 111 1 (List.replicate (k + 1) (Data.slice 1 []) ++ [Data.slice 1 []]) false]⟩ : St) = (match a' with | 0 => ⟨[(2, .d (.int .i64 n)), (8, .ptr 1 0), (11, .ptr 3 0), (12, .d (.int .i64 0))], [.none, .box [.d (.int .i64 0), .d (.int .i64 0), .d (.int .i64 0), .d (.int .i64 0), .nils 1, .d (.bool false), .d (.bool false)], .none, .box [.d (.int .i64 s.ru), .d (.int .i64 s.ol), .d (.int .i64 v), .d (.int .i64 m), .nils 1, .d (.bool false), .d (.bool false)], .none, .none]⟩ | j + 1 => ⟨[(2, .d (.int .i64 n)), (8, .ptr 1 0), (11, .ptr 3 0), (12, .d (.int .i64 (j + 1 : Nat)))], [.none, .box [.d (.int .i64 0), .d (.int .i64 0), .d (.int .i64 0), .d (.int .i64 0), .nils 1, .d (.bool false), .d (.bool false)], .none, .box [.d (.int .i64 s.ru), .d (.int .i64 s.ol), .d (.int .i64 v), .d (.int .i64 m), .sl 5 (List.replicate (j + 1) (Data.slice 1 [])).length, .d (.bool false), .d (.bool false)], .none, .row 111 1 (List.replicate (j + 1) (Data.slice 1 [])) false]⟩ : St) :=
     ⟨k+1+1,⟨by omega,by omega⟩,by rw [hs]; rfl⟩
    refine sd ?_
    refine b_lt (fun t1=>?_) (fun t1=>?_)
    refine sd ?_
    refine sd ?_
    refine sd ?_
    refine an ?_ ?_
    refine an ?_ ?_
    exact rfl
    refine an ?_ ?_
    exact rfl
    refine an ?_ ?_
    exact rfl
    refine an ?_ ?_
    (show (List.length (List.replicate k (Data.slice (1:Nat) []))+(1:Nat)+(1:Nat)) * (24:Nat)≤(2:Nat) ^ (47:Nat); simp only [List.length_replicate,List.length_set,List.length_append,List.length_take,List.length_drop]; omega)
    (show List.length (List.replicate k (Data.slice (1:Nat) []))+(1:Nat)+(1:Nat)≤(2:Nat) ^ (47:Nat); simp only [List.length_replicate,List.length_set,List.length_append,List.length_take,List.length_drop]; omega)
    refine sd ?_
    refine ar_add ?_ ?_
    refine an ?_ ?_
    (show (-9223372036854775808:Int)≤(↑(k+(1:Nat)):Int)+(1:Int); omega)
    (show (↑(k+(1:Nat)):Int)+(1:Int)≤(9223372036854775807:Int); omega)
    rotate_left
    (exfalso; omega)
    all_goals exact fin
   ·have hkk:n.toNat=k+1:=by omega
    refine sd ?_
    refine b_lt (fun t1=>?_) (fun t1=>?_)
    (exfalso; omega)
    refine sd ?_
    rotate_left
    show resV [.agg [.int .i64 s.ru,.int .i64 s.ol,.int .i64 v,.int .i64 m,.slice 1 (List.replicate (k+1) (.slice 1 [])),.bool false,.bool false],.int .i64 0]=resV [Sto.d (begS s v n m),.int .i64 E]
    unfold begS
    rw [hkk,pss_nil]
    all_goals exact n2 _
 ·rw [hS1 h0]
  have n1:(E != 0)=true:=nE_t h0
  refine ca (c112 _ _ _) ?_
  refine ca (c112 _ _ _) ?_
  refine ca (c112 _ _ _) ?_
  refine ca (c22 _ _) ?_
  refine sd ?_
  refine ca (c22 _ _) ?_
  refine sd ?_
  refine sd ?_
  refine ca c110_ ?_
  refine sd ?_
  refine b_t n1 ?_
  exact rfl
theorem c69 (s:Sto) (i:Int) (p:List UInt8) (h:s.ok) (hp:p.length≤1048576):CallDet Tryz.prog 69 [.d s.d,.d (.int .i64 i),.d (.slice 1 (bys p))] [(opS s (recE s i p) (recS s i p)).d,.int .i64 (opE s (recE s i p))]:=by
 have hll:=pss_len s.ps
 have hlp:=bys_len p
 have h1:=h.1
 have c83_:=c83 s h
 have c141_:=c141 s
 have c139_:=c139 p hp
 have hS1:opE s (recE s i p)≠0→opS s (recE s i p) (recS s i p)=sto0:=opS_t
 have hS2:opE s (recE s i p)=0→opS s (recE s i p) (recS s i p)=recS s i p:=opS_f
 have hrk:opE s (recE s i p)=0→0≤i∧i < (s.ps.length:Int):=fun h=>rec_ok (opE_z h).2
 have clA:i < 0→CallDet Tryz.prog 99 [.d (.slice 1 [.int .i64 (chkS s),.int .i64 (recvE s),.int .i64 10,.int .i64 (chkP p)])] [.int .i64 (opE s (recE s i p))]:=fun h=>by rw [recA h,← op_first]; exact c99 [chkS s,recvE s,10,chkP p] (by simp)
 have clB:¬ i < 0→CallDet Tryz.prog 99 [.d (.slice 1 [.int .i64 (chkS s),.int .i64 (recvE s),.int .i64 (bif decide (((pss s.ps).length:Int)≤i) then 10 else 0),.int .i64 (chkP p)])] [.int .i64 (opE s (recE s i p))]:=fun h=>by rw [recB h,← op_first]; exact c99 [chkS s,recvE s,bif decide (((pss s.ps).length:Int)≤i) then 10 else 0,chkP p] (by simp)
 generalize hE:opE s (recE s i p)=E at *
 refine call_of_vc (x:=jr69) (by kernel_rfl) rfl ?_
 by_cases hi:i < 0
 ·have c99_:=clA hi
  have h0:¬ E=0:=fun h=>by have:=hrk h; omega
  rw [hS1 h0]
  have n1:(E != 0)=true:=nE_t h0
  refine ca c83_ ?_
  refine ca c141_ ?_
  refine sd ?_
  refine b_lt (fun t1=>?_) (fun t1=>?_)
  refine sd ?_
  refine ca (c103 _ _) ?_
  refine ca c139_ ?_
  refine sd ?_
  refine sd ?_
  refine ca c99_ ?_
  refine sd ?_
  refine b_t n1 ?_
  exact rfl
  (exfalso; omega)
 ·have c99_:=clB hi
  by_cases h0:E=0
  ·rw [hS2 h0]
   have hr:=hrk h0
   have n1:(E != 0)=false:=nE_f h0
   have n2:∀ d:Data,resV [d,.int .i64 0]=resV [d,.int .i64 E]:=fun d=>by rw [h0]
   refine Exists.elim (get_lt s.ps (k:=i.toNat) (by omega)) fun x hx=>?_
   have hx1:=pss_ix hr.1 hx
   have c142i_:=i142 s h
   have hlx:=bys_len x
   clear hS1 hS2 hrk clA clB
   refine ca c83_ ?_
   refine ca c141_ ?_
   refine sd ?_
   refine b_lt (fun t1=>?_) (fun t1=>?_)
   (exfalso; omega)
   refine sd ?_
   refine ca (c103 _ _) ?_
   refine ca c139_ ?_
   refine sd ?_
   refine sd ?_
   refine ca c99_ ?_
   refine sd ?_
   refine b_f n1 ?_
   refine Exists.intro _ (Exists.intro _ (And.intro (c142i_ _) ?_))
   refine an ?_ ?_
   refine an ?_ ?_
   exact rfl
   refine an ?_ ?_
   exact rfl
   refine an ?_ ?_
   (show (0:Int)≤i; omega)
   (show i < (↑(List.length (pss (Sto.ps s))):Int); omega)
   refine sd ?_
   refine ca hx1 ?_
   refine sd ?_
   refine b_eq (fun t2=>?_) (fun t2=>?_)
   refine an ?_ ?_
   refine an ?_ ?_
   (show (0:Int)≤(↑(List.length (bys p)):Int); omega)
   refine an ?_ ?_
   (show (↑(List.length (bys p)):Int) * (↑(1:Nat):Int)≤(2:Int) ^ (47:Nat); omega)
   (show (↑(List.length (bys p)):Int)≤(2:Int) ^ (47:Nat); omega)
   refine ca (And.intro rfl (And.intro rfl (And.intro ?_ rfl))) ?_
   focus (show List.length (List.replicate (List.length (bys p)) (Data.int IntKind.u8 (0:Int)))=List.length (bys p); simp only [List.length_replicate,List.length_set,List.length_append,List.length_take,List.length_drop]; done)
   refine an ?_ ?_
   refine an ?_ ?_
   exact rfl
   refine an ?_ ?_
   exact rfl
   refine an ?_ ?_
   (show (0:Int)≤i; omega)
   (show i < (↑(List.length (pss (Sto.ps s))):Int); omega)
   refine an ?_ ?_
   (show List.length (List.take (List.length (bys p)) (bys p)++List.drop (List.length (bys p)) (List.replicate (List.length (bys p)) (Data.int IntKind.u8 (0:Int))))=List.length (bys p); simp only [List.length_replicate,List.length_set,List.length_append,List.length_take,List.length_drop]; omega)
   refine Exists.intro _ (Exists.intro (Data.slice (1:Nat) (List.take (List.length (bys p)) (bys p)++List.drop (List.length (bys p)) (List.replicate (List.length (bys p)) (Data.int IntKind.u8 (0:Int))))) (And.intro (And.intro ?_ (And.intro hx1 (And.intro rfl (And.intro ?_ (And.intro rfl rfl))))) ?_))
   exact rfl
   (show (0:Nat)+(1:Nat)≤(1:Nat); omega)
   refine an ?_ ?_
   focus (show List.length (List.set (pss (Sto.ps s)) (Int.toNat i) (Data.slice (1:Nat) (List.take (List.length (bys p)) (bys p)++List.drop (List.length (bys p)) (List.replicate (List.length (bys p)) (Data.int IntKind.u8 (0:Int))))))=List.length (pss (Sto.ps s)); simp only [List.length_replicate,List.length_set,List.length_append,List.length_take,List.length_drop]; done)
   rotate_left
   refine sd ?_
   rotate_left
   ·show resV [.agg [.int .i64 s.ru,.int .i64 s.ol,.int .i64 s.nw,.int .i64 s.su,.slice 1 ((pss s.ps).set i.toNat (.slice 1 (List.take (bys p).length (bys p)++List.drop (bys p).length (List.replicate (bys p).length (.int .u8 0))))),.bool s.ck,.bool s.tr],.int .i64 0]=resV [Sto.d (recS s i p),.int .i64 E]
    rw [bys_copy,pss_set,rec_emp hx (beq_iff_eq.2 (by omega))]
    exact n2 _
   ·rw [rec_ful hx (beq_eq_false_iff_ne.2 (by omega))]
    exact n2 _
  ·rw [hS1 h0]
   have n1:(E != 0)=true:=nE_t h0
   refine ca c83_ ?_
   refine ca c141_ ?_
   refine sd ?_
   refine b_lt (fun t1=>?_) (fun t1=>?_)
   (exfalso; omega)
   refine sd ?_
   refine ca (c103 _ _) ?_
   refine ca c139_ ?_
   refine sd ?_
   refine sd ?_
   refine ca c99_ ?_
   refine sd ?_
   refine b_t n1 ?_
   exact rfl
theorem c78 (s:Sto) (i:Int) (p:List UInt8) (h:s.ok) (hp:p.length≤1048576):CallDet Tryz.prog 78 [.d s.d,.d (.int .i64 i),.d (.slice 1 (bys p))] [(refS (recE s i p) (recS s i p)).d,.int .i64 (recE s i p)]:=by
 have hll:=pss_len s.ps
 have hlp:=bys_len p
 have h1:=h.1
 have c145_:=c145 p hp
 have hS1:recE s i p≠0→refS (recE s i p) (recS s i p)=sto0:=refS_t
 have hS2:recE s i p=0→refS (recE s i p) (recS s i p)=recS s i p:=refS_f
 have hrk:recE s i p=0→0≤i∧i < (s.ps.length:Int):=rec_ok
 have clA:∀ x,x=recvE s→i < 0→CallDet Tryz.prog 110 [.d (.slice 1 [.int .i64 x,.int .i64 10,.int .i64 (chkP p)])] [.int .i64 (recE s i p)]:=fun x hx h=>by rw [hx,recA h]; exact c110 [recvE s,10,chkP p] (by simp)
 have clB:∀ x,x=recvE s→¬ i < 0→CallDet Tryz.prog 110 [.d (.slice 1 [.int .i64 x,.int .i64 (bif decide (((pss s.ps).length:Int)≤i) then 10 else 0),.int .i64 (chkP p)])] [.int .i64 (recE s i p)]:=fun x hx h=>by rw [hx,recB h]; exact c110 [recvE s,bif decide (((pss s.ps).length:Int)≤i) then 10 else 0,chkP p] (by simp)
 have hr1:(s.nw==0)=true→22=recvE s:=fun h=>by unfold recvE; rw [h]; rfl
 have hr2:(s.nw==0)=false→(bif s.tr then 22 else 0)=recvE s:=fun h=>by unfold recvE; rw [h]; rfl
 have hat:=fun (h0:0≤i) (k:Nat) (x y:List UInt8) (hx:s.ps[k]?=some x)=>rec_at (s:=s) (i:=i) (p:=p) (y:=y) h0 hx
 have hrz:recE s i p=0→(s.nw==0)=false:=fun h=>by
  have:=firstOf_zero h (recvE s) (by simp)
  cases hk:(s.nw==0)
  ·rfl
  ·rw [← hr1 hk] at this; exact absurd this (by decide)
 have hrl:=rec_len (s:=s) (i:=i) (p:=p)
 generalize hE:recE s i p=E at *
 refine call_of_vc (x:=jr78) (by kernel_rfl) rfl ?_
 by_cases h0:E=0
 ·rw [hS2 h0]
  have hr:=hrk h0
  have hi:¬ i < 0:=by omega
  have nw0:=hrz h0
  have c110_:=clB _ (hr2 nw0) hi
  have n1:(E != 0)=false:=nE_f h0
  have n2:∀ d:Data,resV [d,.int .i64 0]=resV [d,.int .i64 E]:=fun d=>by rw [h0]
  have hat:=hat hr.1
  have hR:Sto.d (recS s i p)=.agg [.int .i64 s.ru,.int .i64 s.ol,.int .i64 s.nw,.int .i64 s.su,.slice 1 (pss (recS s i p).ps),.bool s.ck,.bool s.tr]:=rfl
  generalize recS s i p=R at *
  refine sd ?_
  refine b_f nw0 ?_
  refine ca (c22 _ _) ?_
  refine sd ?_
  refine b_lt (fun t1=>?_) (fun t1=>?_)
  (exfalso; omega)
  refine sd ?_
  refine ca (c22 _ _) ?_
  refine ca c145_ ?_
  refine sd ?_
  refine sd ?_
  refine ca c110_ ?_
  refine sd ?_
  refine b_f n1 ?_
  rotate_left
  refine loop_st (fun k:Nat=>⟨[(1,.d (.int .i64 i)),(2,.d (.slice 1 (bys p))),(3,.ptr 0 0),(6,.ptr 1 0),(9,.sl 4 (pss (R.ps.take k)).length),(10,.d (.int .i64 (k:Nat)))],[.box [.d (.int .i64 s.ru),.d (.int .i64 s.ol),.d (.int .i64 s.nw),.d (.int .i64 s.su),.d (.slice 1 (pss s.ps)),.d (.bool s.ck),.d (.bool s.tr)],.box [.d (.int .i64 0),.d (.int .i64 0),.d (.int .i64 0),.d (.int .i64 0),.nils 1,.d (.bool false),.d (.bool false)],.none,.none,.row 111 1 (pss (R.ps.take k)) false,.none,.none]⟩) (fun k=>k≤s.ps.length) (fun k=>s.ps.length - k) 0 rfl (Nat.zero_le _) ?_
  intro k hk
  have hk:k≤s.ps.length:=hk
  dsimp only
  have hlk:=pss_len (R.ps.take k)
  rw [List.length_take] at hlk
  by_cases hkn:k < s.ps.length
  ·refine Exists.elim (get_lt s.ps hkn) fun x hx=>?_
   have hx1:=pss_at hx
   have hlx:=bys_len x
   have fin:∀ y:List UInt8,R.ps[k]?=some y→∃ a':Nat,(a'≤s.ps.length∧s.ps.length - a' < s.ps.length - k)∧(⟨[(1,.d (.int .i64 i)),(2,.d (.slice 1 (bys p))),(3,.ptr 0 0),(6,.ptr 1 0),(9,.sl 4 (pss (R.ps.take k)++[Data.slice 1 (bys y)]).length),(10,.d (.int .i64 ((k:Int)+1)))],[.box [.d (.int .i64 s.ru),.d (.int .i64 s.ol),.d (.int .i64 s.nw),.d (.int .i64 s.su),.d (.slice 1 (pss s.ps)),.d (.bool s.ck),.d (.bool s.tr)],.box [.d (.int .i64 0),.d (.int .i64 0),.d (.int .i64 0),.d (.int .i64 0),.nils 1,.d (.bool false),.d (.bool false)],.none,.none,.row 111 1 (pss (R.ps.take k)++[Data.slice 1 (bys y)]) false,.none,.none]⟩:St)=⟨[(1,.d (.int .i64 i)),(2,.d (.slice 1 (bys p))),(3,.ptr 0 0),(6,.ptr 1 0),(9,.sl 4 (pss (R.ps.take a')).length),(10,.d (.int .i64 (a':Nat)))],[.box [.d (.int .i64 s.ru),.d (.int .i64 s.ol),.d (.int .i64 s.nw),.d (.int .i64 s.su),.d (.slice 1 (pss s.ps)),.d (.bool s.ck),.d (.bool s.tr)],.box [.d (.int .i64 0),.d (.int .i64 0),.d (.int .i64 0),.d (.int .i64 0),.nils 1,.d (.bool false),.d (.bool false)],.none,.none,.row 111 1 (pss (R.ps.take a')) false,.none,.none]⟩:=fun y hy =>
    ⟨k+1,⟨by omega,by omega⟩,by rw [pss_step hy]; rfl⟩
   have hatk:=hat k x
   clear hat clA clB hr1 hr2 hrz hS1 hS2 hrk
   refine sd ?_
   refine b_lt (fun t2=>?_) (fun t2=>?_)
   refine sd ?_
   refine b_eq (fun t3=>?_) (fun t3=>?_)
   refine ix_at hx1 ?_ ?_
   (show (0:Int)≤(↑k:Int); omega)
   refine sd ?_
   refine b_eq (fun t4=>?_) (fun t4=>?_)
   refine sd ?_
   refine sd ?_
   refine sd ?_
   refine an ?_ ?_
   refine an ?_ ?_
   exact rfl
   refine an ?_ ?_
   exact rfl
   refine an ?_ ?_
   exact rfl
   refine an ?_ ?_
   (show (List.length (pss (List.take k (Sto.ps R)))+(1:Nat)) * (24:Nat)≤(2:Nat) ^ (47:Nat); omega)
   (show List.length (pss (List.take k (Sto.ps R)))+(1:Nat)≤(2:Nat) ^ (47:Nat); omega)
   refine ar_add ?_ ?_
   refine an ?_ ?_
   (show (-9223372036854775808:Int)≤(↑k:Int)+(1:Int); omega)
   (show (↑k:Int)+(1:Int)≤(9223372036854775807:Int); omega)
   rotate_left
   refine ix_at hx1 ?_ ?_
   (show (0:Int)≤(↑k:Int); omega)
   refine sd ?_
   refine sd ?_
   refine sd ?_
   refine an ?_ ?_
   refine an ?_ ?_
   exact rfl
   refine an ?_ ?_
   exact rfl
   refine an ?_ ?_
   exact rfl
   refine an ?_ ?_
   (show (List.length (pss (List.take k (Sto.ps R)))+(1:Nat)) * (24:Nat)≤(2:Nat) ^ (47:Nat); omega)
   (show List.length (pss (List.take k (Sto.ps R)))+(1:Nat)≤(2:Nat) ^ (47:Nat); omega)
   refine ar_add ?_ ?_
   refine an ?_ ?_
   (show (-9223372036854775808:Int)≤(↑k:Int)+(1:Int); omega)
   (show (↑k:Int)+(1:Int)≤(9223372036854775807:Int); omega)
   rotate_left
   refine sd ?_
   refine ix_at hx1 ?_ ?_
   (show (0:Int)≤(↑k:Int); omega)
   refine sd ?_
   refine sd ?_
   refine sd ?_
   refine an ?_ ?_
   refine an ?_ ?_
   exact rfl
   refine an ?_ ?_
   exact rfl
   refine an ?_ ?_
   exact rfl
   refine an ?_ ?_
   (show (List.length (pss (List.take k (Sto.ps R)))+(1:Nat)) * (24:Nat)≤(2:Nat) ^ (47:Nat); omega)
   (show List.length (pss (List.take k (Sto.ps R)))+(1:Nat)≤(2:Nat) ^ (47:Nat); omega)
   refine ar_add ?_ ?_
   refine an ?_ ?_
   (show (-9223372036854775808:Int)≤(↑k:Int)+(1:Int); omega)
   (show (↑k:Int)+(1:Int)≤(9223372036854775807:Int); omega)
   rotate_left
   (exfalso; omega)
   ·exact fin p (hatk p hx (.inl ⟨t3,beq_iff_eq.2 (by omega),rfl⟩))
   ·exact fin x (hatk x hx (.inr (.inl ⟨t3,beq_eq_false_iff_ne.2 (by omega),rfl⟩)))
   ·exact fin x (hatk x hx (.inr (.inr ⟨t3,rfl⟩)))
  ·have e:R.ps.take k=R.ps:=List.take_of_length_le (by omega)
   rw [e]
   refine sd ?_
   refine b_lt (fun t2=>?_) (fun t2=>?_)
   (exfalso; omega)
   refine sd ?_
   refine sd ?_
   rotate_left
   rw [hR]
   exact n2 _
 ·rw [hS1 h0]
  have n1:(E != 0)=true:=nE_t h0
  by_cases hi:i < 0
  ·cases hk:(s.nw==0)
   ·have c110_:=clA _ (hr2 hk) hi
    clear hat clA clB hr1 hr2 hrz hS1 hS2 hrk
    refine sd ?_
    refine b_f hk ?_
    refine ca (c22 _ _) ?_
    refine sd ?_
    refine b_lt (fun t1=>?_) (fun t1=>?_)
    refine sd ?_
    refine ca (c22 _ _) ?_
    refine ca c145_ ?_
    refine sd ?_
    refine sd ?_
    refine ca c110_ ?_
    refine sd ?_
    refine b_t n1 ?_
    exact rfl
    (exfalso; omega)
   ·have c110_:=clA _ (hr1 hk) hi
    clear hat clA clB hr1 hr2 hrz hS1 hS2 hrk
    refine sd ?_
    refine b_t hk ?_
    refine sd ?_
    refine ca (c22 _ _) ?_
    refine sd ?_
    refine b_lt (fun t1=>?_) (fun t1=>?_)
    refine sd ?_
    refine ca (c22 _ _) ?_
    refine ca c145_ ?_
    refine sd ?_
    refine sd ?_
    refine ca c110_ ?_
    refine sd ?_
    refine b_t n1 ?_
    exact rfl
    (exfalso; omega)
  ·cases hk:(s.nw==0)
   ·have c110_:=clB _ (hr2 hk) hi
    clear hat clA clB hr1 hr2 hrz hS1 hS2 hrk
    refine sd ?_
    refine b_f hk ?_
    refine ca (c22 _ _) ?_
    refine sd ?_
    refine b_lt (fun t1=>?_) (fun t1=>?_)
    (exfalso; omega)
    refine sd ?_
    refine ca (c22 _ _) ?_
    refine ca c145_ ?_
    refine sd ?_
    refine sd ?_
    refine ca c110_ ?_
    refine sd ?_
    refine b_t n1 ?_
    exact rfl
   ·have c110_:=clB _ (hr1 hk) hi
    clear hat clA clB hr1 hr2 hrz hS1 hS2 hrk
    refine sd ?_
    refine b_t hk ?_
    refine sd ?_
    refine ca (c22 _ _) ?_
    refine sd ?_
    refine b_lt (fun t1=>?_) (fun t1=>?_)
    (exfalso; omega)
    refine sd ?_
    refine ca (c22 _ _) ?_
    refine ca c145_ ?_
    refine sd ?_
    refine sd ?_
    refine ca c110_ ?_
    refine sd ?_
    refine b_t n1 ?_
    exact rfl
end Vc
