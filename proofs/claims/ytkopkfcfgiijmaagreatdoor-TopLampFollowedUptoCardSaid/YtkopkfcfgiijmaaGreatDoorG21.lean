import Derived.Test.YtkopkfcfgiijmaaGreatDoorG20
import Derived.Test.YtkopkfcfgiijmaaGreatDoorG18
import Derived.Test.YtkopkfcfgiijmaaGreatDoorG19
import Derived.Test.YtkopkfcfgiijmaaGreatDoorG06
import Derived.Test.YtkopkfcfgiijmaaGreatDoorCards
import Derived.Test.YtkopkfcfgiijmaaGreatDoorTie
import Derived.WalkKit
import Derived.ProofKit
import Derived.Deep.DeepHandedRow
import Derived.Lib.LaidTab
import Derived.Lib.LaidU8
import Derived.LaidHandle
import Derived.LaidMore
set_option linter.unusedSectionVars false
set_option linter.unusedVariables false
set_option linter.unusedSimpArgs false
set_option maxRecDepth 10000
set_option maxHeartbeats 4000000
namespace Vc
open Go Go.Proofs
def jr5:AFun:=⟨24,1,[.tmp 2],
 (.seq
 (.reg [0] [⟨some 1,.cbx 0 2 (.tmp 0),none⟩,
  ⟨some 2,.mov (.cst (.d (.bool false))),none⟩])
 (.seq
  (.reg [] [⟨some 3,.fad 0 (.tmp 1),none⟩,
   ⟨some 4,.ld false 1 (.tmp 3),none⟩,
   ⟨some 5,.len (.tmp 4),none⟩,
   ⟨some 6,.cmp .geq (.tmp 5) (.cst (.d (.int .i64 1))),none⟩,
   ⟨some 7,.mov (.tmp 6),none⟩,
   ⟨some 8,.fad 0 (.tmp 1),some (7,true)⟩,
   ⟨some 9,.ld false 1 (.tmp 8),some (7,true)⟩,
   ⟨some 10,.len (.tmp 9),some (7,true)⟩,
   ⟨some 11,.cmp .leq (.tmp 10) (.cst (.d (.int .i64 7))),some (7,true)⟩,
   ⟨some 12,.pick (.tmp 7) (.tmp 11) (.cst (.d (.bool false))),none⟩,
   ⟨some 13,.mov (.tmp 12),none⟩,
   ⟨some 14,.fad 1 (.tmp 1),some (13,true)⟩,
   ⟨some 15,.ld false 1 (.tmp 14),some (13,true)⟩,
   ⟨some 16,.len (.tmp 15),some (13,true)⟩,
   ⟨some 17,.cmp .leq (.tmp 16) (.cst (.d (.int .i64 14))),some (13,true)⟩,
   ⟨some 18,.pick (.tmp 13) (.tmp 17) (.cst (.d (.bool false))),none⟩,
   ⟨some 19,.mov (.tmp 18),none⟩,
   ⟨some 20,.ld true 2 (.tmp 1),some (19,true)⟩,
   ⟨some 21,.call 23 [(.tmp 20)],some (19,true)⟩,
   ⟨some 22,.cmp .eql (.tmp 21) (.cst (.d (.int .i64 0))),some (19,true)⟩,
   ⟨some 23,.pick (.tmp 19) (.tmp 22) (.cst (.d (.bool false))),none⟩,
   ⟨some 2,.mov (.tmp 23),none⟩])
  .ret))⟩
def jr17:AFun:=⟨42,4,[.cell 4 3 true,.tmp 5],
 (.seq
 (.reg [0,1] [⟨some 2,.cbx 0 2 (.tmp 0),none⟩,
  ⟨some 4,.alloc 1 [(.d (.int .i64 0)),(.d (.int .i64 0)),(.nils 3)],none⟩,
  ⟨some 5,.mov (.cst (.d (.bool false))),none⟩])
 (.seq
  (.reg [2] [⟨some 12,.ld true 2 (.tmp 2),none⟩,
   ⟨some 13,.call 8 [(.tmp 12)],none⟩,
   ⟨some 14,.mov (.tmp 1),none⟩,
   ⟨some 15,.call 9 [(.tmp 13),(.tmp 14)],none⟩,
   ⟨some 11,.mov (.tmp 15),none⟩,
   ⟨some 16,.ext 0 (.tmp 11),none⟩,
   ⟨some 17,.ext 1 (.tmp 11),none⟩,
   ⟨some 6,.alloc 2 [(.d (.int .i64 0)),(.d (.int .i64 0)),(.nils 3)],none⟩,
   ⟨none,.st 3 (.tmp 6) (.tmp 16),none⟩,
   ⟨some 7,.mov (.tmp 17),none⟩])
  (.seq
  (.seq
   (.reg [] [⟨some 18,.mov (.tmp 7),none⟩,
    ⟨some 19,.cmp .neq (.tmp 18) (.cst (.d (.int .i64 0))),none⟩])
   (.cond (.tmp 19)
   (.seq
    (.reg [] [⟨some 20,.build [(.d (.int .i64 0)),(.d (.int .i64 0)),(.nils 3)] [],none⟩,
     ⟨none,.st 3 (.tmp 4) (.tmp 20),none⟩,
     ⟨some 5,.mov (.cst (.d (.bool false))),none⟩])
    .ret)
   .skip))
  (.seq
   (.regd [3] [⟨some 22,.ld true 2 (.tmp 2),none⟩,
    ⟨some 23,.call 8 [(.tmp 22)],none⟩,
    ⟨some 24,.ld true 3 (.tmp 6),none⟩,
    ⟨some 25,.call 22 [(.tmp 23),(.tmp 24)],none⟩,
    ⟨some 21,.mov (.tmp 25),none⟩,
    ⟨some 26,.ext 0 (.tmp 21),none⟩,
    ⟨some 27,.ext 1 (.tmp 21),none⟩,
    ⟨some 28,.ext 2 (.tmp 21),none⟩,
    ⟨some 8,.alloc 3 [(.d (.int .i64 0)),(.d (.int .i64 0)),(.nils 3)],none⟩,
    ⟨none,.st 3 (.tmp 8) (.tmp 26),none⟩,
    ⟨some 9,.mov (.tmp 27),none⟩,
    ⟨some 10,.mov (.tmp 28),none⟩] [(0,2),(1,2),(5,6),(5,7),(6,7),(0,8),(1,8),(2,8),(3,8),(4,8),(5,8),(6,8),(7,8),(6,9),(7,9),(7,10)])
   (.seq
   (.regd [] [⟨some 29,.ld true 3 (.tmp 8),none⟩,
    ⟨some 30,.call 11 [(.tmp 29)],none⟩,
    ⟨some 31,.mov (.tmp 10),none⟩,
    ⟨some 32,.cmp .eql (.tmp 31) (.cst (.d (.int .i64 0))),none⟩,
    ⟨some 33,.mov (.tmp 32),none⟩,
    ⟨some 34,.fad 2 (.tmp 8),some (33,true)⟩,
    ⟨some 35,.ld false 1 (.tmp 34),some (33,true)⟩,
    ⟨some 36,.len (.tmp 35),some (33,true)⟩,
    ⟨some 37,.fad 0 (.tmp 2),some (33,true)⟩,
    ⟨some 38,.ld false 1 (.tmp 37),some (33,true)⟩,
    ⟨some 39,.len (.tmp 38),some (33,true)⟩,
    ⟨some 40,.cmp .eql (.tmp 36) (.tmp 39),some (33,true)⟩,
    ⟨some 41,.pick (.tmp 33) (.tmp 40) (.cst (.d (.bool false))),none⟩,
    ⟨none,.st 3 (.tmp 4) (.tmp 30),none⟩,
    ⟨some 5,.mov (.tmp 41),none⟩] [(0,2),(1,2),(0,3),(1,3),(5,8),(6,8),(7,8),(5,9),(6,9),(7,9),(5,10),(6,10),(7,10),(5,13),(6,13),(7,13),(8,13),(9,13),(10,13),(11,13),(12,13)])
   .ret)))))⟩
def jr6:AFun:=⟨77,10,[.tmp 0],
 (.seq
 (.reg [] [⟨some 0,.mov (.cst (.d (.bool false))),none⟩])
 (.seq
  (.reg [0,1,2] [⟨some 13,.bsl 0 9 1 3 [(.str []),(.str []),(.str [])] [(0,(.cst (.d (.str [99])))),(1,(.cst (.d (.str [97])))),(2,(.cst (.d (.str [98]))))],none⟩,
   ⟨some 14,.build [(.d (.int .i64 0)),(.d (.int .i64 0)),(.d (.int .i64 0))] [(0,1,(.cst (.d (.int .i64 0)))),(1,1,(.cst (.d (.int .i64 1)))),(2,1,(.cst (.d (.int .i64 2))))],none⟩,
   ⟨some 15,.build [(.d (.int .i64 0)),(.d (.int .i64 0)),(.d (.int .i64 0))] [(0,1,(.cst (.d (.int .i64 1)))),(1,1,(.cst (.d (.int .i64 2)))),(2,1,(.cst (.d (.int .i64 3))))],none⟩,
   ⟨some 16,.bsl 1 79 3 2 [(.agg [(.int .i64 0),(.int .i64 0),(.int .i64 0)]),(.agg [(.int .i64 0),(.int .i64 0),(.int .i64 0)])] [(0,(.tmp 14)),(1,(.tmp 15))],none⟩,
   ⟨some 17,.build [(.nils 1),(.nils 3)] [(0,1,(.tmp 13)),(1,1,(.tmp 16))],none⟩,
   ⟨some 1,.alloc 2 [(.nils 1),(.nils 3)],none⟩,
   ⟨none,.st 2 (.tmp 1) (.tmp 17),none⟩])
  (.seq
  (.reg [3] [⟨some 19,.ld true 2 (.tmp 1),none⟩,
   ⟨some 20,.call 17 [(.tmp 19),(.cst (.d (.int .i64 0)))],none⟩,
   ⟨some 18,.mov (.tmp 20),none⟩,
   ⟨some 21,.ext 0 (.tmp 18),none⟩,
   ⟨some 22,.ext 1 (.tmp 18),none⟩,
   ⟨some 2,.alloc 3 [(.d (.int .i64 0)),(.d (.int .i64 0)),(.nils 3)],none⟩,
   ⟨none,.st 3 (.tmp 2) (.tmp 21),none⟩,
   ⟨some 3,.mov (.tmp 22),none⟩])
  (.seq
   (.seq
   (.reg [] [⟨some 23,.mov (.tmp 3),none⟩,
    ⟨some 24,.not (.tmp 23),none⟩])
   (.cond (.tmp 24)
    (.seq
    (.reg [] [⟨some 0,.mov (.cst (.d (.bool false))),none⟩])
    .ret)
    .skip))
   (.seq
   (.regd [] [⟨some 26,.ld true 2 (.tmp 1),none⟩,
    ⟨some 27,.call 8 [(.tmp 26)],none⟩,
    ⟨some 28,.ld true 3 (.tmp 2),none⟩,
    ⟨some 29,.call 16 [(.tmp 28)],none⟩,
    ⟨some 30,.call 24 [(.tmp 27),(.tmp 29),(.cst (.d (.int .i64 2)))],none⟩,
    ⟨some 25,.mov (.tmp 30),none⟩,
    ⟨some 31,.ext 0 (.tmp 25),none⟩,
    ⟨some 32,.ext 1 (.tmp 25),none⟩,
    ⟨some 4,.mov (.tmp 31),none⟩,
    ⟨some 5,.mov (.tmp 32),none⟩] [(0,2),(1,2),(6,7),(7,8)])
   (.seq
    (.reg [4] [⟨some 34,.bsl 4 5 1 3 [(.int .u8 0),(.int .u8 0),(.int .u8 0)] [(0,(.cst (.d (.int .u8 5)))),(1,(.cst (.d (.int .u8 6)))),(2,(.cst (.d (.int .u8 7))))],none⟩,
     ⟨some 35,.call 25 [(.cst (.d (.int .i64 9))),(.tmp 34),(.cst (.d (.int .i64 2)))],none⟩,
     ⟨some 33,.mov (.tmp 35),none⟩,
     ⟨some 36,.ext 0 (.tmp 33),none⟩,
     ⟨some 37,.ext 1 (.tmp 33),none⟩,
     ⟨some 6,.mov (.tmp 36),none⟩,
     ⟨some 7,.mov (.tmp 37),none⟩])
    (.seq
    (.reg [5,6,7] [⟨some 39,.mov (.tmp 6),none⟩,
     ⟨some 40,.build [(.nils 4),(.d (.int .i64 0)),(.d (.int .i64 0))] [(0,1,(.tmp 39)),(2,1,(.cst (.d (.int .i64 4))))],none⟩,
     ⟨some 41,.build [(.d (.int .i64 0)),(.nils 4)] [],none⟩,
     ⟨some 42,.build [(.d (.int .u8 0)),(.d (.int .u8 0)),(.d (.bool false))] [(0,1,(.cst (.d (.int .u8 1))))],none⟩,
     ⟨some 43,.bsl 5 94 3 1 [(.agg [(.int .u8 0),(.int .u8 0),(.bool false)])] [(0,(.tmp 42))],none⟩,
     ⟨some 44,.call 27 [(.tmp 43)],none⟩,
     ⟨some 45,.call 26 [(.tmp 40),(.tmp 41),(.tmp 44)],none⟩,
     ⟨some 38,.mov (.tmp 45),none⟩,
     ⟨some 46,.ext 0 (.tmp 38),none⟩,
     ⟨some 47,.ext 1 (.tmp 38),none⟩,
     ⟨some 48,.ext 2 (.tmp 38),none⟩,
     ⟨some 8,.alloc 6 [(.nils 4),(.d (.int .i64 0)),(.d (.int .i64 0))],none⟩,
     ⟨some 9,.alloc 7 [(.d (.int .i64 0)),(.nils 4)],none⟩,
     ⟨none,.st 3 (.tmp 8) (.tmp 46),none⟩,
     ⟨none,.st 2 (.tmp 9) (.tmp 47),none⟩,
     ⟨some 10,.mov (.tmp 48),none⟩])
    (.seq
     (.seq
     (.reg [] [⟨some 49,.mov (.tmp 5),none⟩,
      ⟨some 50,.cmp .neq (.tmp 49) (.cst (.d (.int .i64 0))),none⟩,
      ⟨some 51,.mov (.tmp 50),none⟩,
      ⟨some 52,.mov (.tmp 7),some (51,false)⟩,
      ⟨some 53,.cmp .neq (.tmp 52) (.cst (.d (.int .i64 0))),some (51,false)⟩,
      ⟨some 54,.pick (.tmp 51) (.cst (.d (.bool true))) (.tmp 53),none⟩,
      ⟨some 55,.mov (.tmp 54),none⟩,
      ⟨some 56,.mov (.tmp 10),some (55,false)⟩,
      ⟨some 57,.cmp .neq (.tmp 56) (.cst (.d (.int .i64 0))),some (55,false)⟩,
      ⟨some 58,.pick (.tmp 55) (.cst (.d (.bool true))) (.tmp 57),none⟩])
     (.cond (.tmp 58)
      (.seq
      (.reg [] [⟨some 0,.mov (.cst (.d (.bool false))),none⟩])
      .ret)
      .skip))
     (.seq
     (.reg [] [⟨some 60,.fad 1 (.tmp 9),none⟩,
      ⟨some 61,.ld false 1 (.tmp 60),none⟩,
      ⟨some 62,.call 28 [(.tmp 61)],none⟩,
      ⟨some 59,.mov (.tmp 62),none⟩,
      ⟨some 63,.ext 0 (.tmp 59),none⟩,
      ⟨some 64,.ext 1 (.tmp 59),none⟩,
      ⟨some 11,.mov (.tmp 63),none⟩,
      ⟨some 12,.mov (.tmp 64),none⟩])
     (.seq
      (.reg [8,9] [⟨some 65,.mov (.tmp 12),none⟩,
       ⟨some 66,.cmp .eql (.tmp 65) (.cst (.d (.int .i64 0))),none⟩,
       ⟨some 67,.mov (.tmp 66),none⟩,
       ⟨some 68,.mov (.tmp 4),some (67,true)⟩,
       ⟨some 69,.bsl 8 3 1 3 [(.int .i64 0),(.int .i64 0),(.int .i64 0)] [(0,(.cst (.d (.int .i64 2)))),(1,(.cst (.d (.int .i64 1)))),(2,(.cst (.d (.int .i64 0))))],some (67,true)⟩,
       ⟨some 70,.call 29 [(.tmp 68),(.tmp 69)],some (67,true)⟩,
       ⟨some 71,.pick (.tmp 67) (.tmp 70) (.cst (.d (.bool false))),none⟩,
       ⟨some 72,.mov (.tmp 71),none⟩,
       ⟨some 73,.mov (.tmp 11),some (72,true)⟩,
       ⟨some 74,.bsl 9 5 1 3 [(.int .u8 0),(.int .u8 0),(.int .u8 0)] [(0,(.cst (.d (.int .u8 5)))),(1,(.cst (.d (.int .u8 6)))),(2,(.cst (.d (.int .u8 7))))],some (72,true)⟩,
       ⟨some 75,.call 30 [(.tmp 73),(.tmp 74)],some (72,true)⟩,
       ⟨some 76,.pick (.tmp 72) (.tmp 75) (.cst (.d (.bool false))),none⟩,
       ⟨some 0,.mov (.tmp 76),none⟩])
      .ret))))))))))⟩
def fewT (m:Ms):Bool:=decide (1≤(m.ns.length:Int))&&(decide ((m.ns.length:Int)≤7)&&(decide ((m.ls.length:Int)≤14)&&(m.chk==0)))
theorem k5 (m:Ms) (hn:m.ns.length≤1048576) (hl:m.ls.length≤1048576):CallDet Tryz.prog 5 [.d m.d] [.bool (fewT m)]:=by
 have hsl:=strs_len m.ns
 have hll:=lks_len m.ls
 refine call_of_vc (x:=jr5) (by kernel_rfl) rfl ?_
 have c23_:=c22 m hn hl
 have fin:∀ b,b=fewT m→resV [.bool b]=resV [.bool (fewT m)]:=fun b h=>by rw [h]
 by_cases h1:1≤(m.ns.length:Int)
 ·by_cases h2:(m.ns.length:Int)≤7
  ·by_cases h3:(m.ls.length:Int)≤14
   ·have ef:fewT m=(m.chk==0):=by unfold fewT; rw [decide_eq_true h1,decide_eq_true h2,decide_eq_true h3]; rfl
    refine sd ?_
    refine b_le (fun t1=>?_) (fun t1=>?_)
    refine sd ?_
    refine b_le (fun t2=>?_) (fun t2=>?_)
    refine sd ?_
    refine b_le (fun t3=>?_) (fun t3=>?_)
    refine ca c23_ ?_
    refine sd ?_
    rotate_left
    (exfalso; omega)
    (exfalso; omega)
    (exfalso; omega)
    all_goals exact fin _ ef.symm
   ·have ef:fewT m=false:=by unfold fewT; rw [decide_eq_true h1,decide_eq_true h2,decide_eq_false h3]; rfl
    refine sd ?_
    refine b_le (fun t1=>?_) (fun t1=>?_)
    refine sd ?_
    refine b_le (fun t2=>?_) (fun t2=>?_)
    refine sd ?_
    refine b_le (fun t3=>?_) (fun t3=>?_)
    (exfalso; omega)
    refine sd ?_
    rotate_left
    (exfalso; omega)
    (exfalso; omega)
    all_goals exact fin _ ef.symm
  ·have ef:fewT m=false:=by unfold fewT; rw [decide_eq_true h1,decide_eq_false h2]; rfl
   refine sd ?_
   refine b_le (fun t1=>?_) (fun t1=>?_)
   refine sd ?_
   refine b_le (fun t2=>?_) (fun t2=>?_)
   (exfalso; omega)
   refine sd ?_
   refine sd ?_
   rotate_left
   (exfalso; omega)
   all_goals exact fin _ ef.symm
 ·have ef:fewT m=false:=by unfold fewT; rw [decide_eq_false h1]; rfl
  refine sd ?_
  refine b_le (fun t1=>?_) (fun t1=>?_)
  (exfalso; omega)
  refine sd ?_
  refine sd ?_
  refine sd ?_
  rotate_left
  all_goals exact fin _ ef.symm
def Ms.rest (m:Ms) (f:Int):Sts:=(m.begun f).allP m
theorem rest_good {m:Ms} {f:Int} (hc:m.chk=0) (h0:0≤f) (h1:f < (m.ns.length:Int)):Good m (m.rest f):=(Good.begun hc h0 h1).rounds _
theorem k17 (m:Ms) (f:Int) (hc:m.chk=0) (h0:0≤f) (h1:f < (m.ns.length:Int)):CallDet Tryz.prog 17 [.d m.d,.d (.int .i64 f)] [(m.rest f).d,.bool true]:=by
 have hf:=chk_fine hc
 have h32:=hf.n32
 have h128:=hf.l128
 have hsl:=strs_len m.ns
 have gb:=Good.begun hc h0 h1
 have hbl:=gb.len
 have gr:=rest_good hc h0 h1
 have hrl:=gr.len
 have hel:=ens_len (m.rest f).es
 have hel2:=ens_len (m.begun f).es
 have hnE:m.nodeE f=0:=by
  unfold Ms.nodeE outN
  rw [decide_eq_false (by omega),decide_eq_false (by omega)]; rfl
 have c9_:CallDet Tryz.prog 9 [.d m.d,.d (.int .i64 f)] [(m.begun f).d,.int .i64 0]:=by
  have h:=c31 m f (by omega) (by omega)
  have e:nodeD m f=0:=nodeD_good2 hc hnE
  rw [e] at h; exact h
 have c22_:CallDet Tryz.prog 22 [.d m.d,.d (m.begun f).d] [(m.rest f).d,.int .i64 ((m.begun f).K m),.int .i64 0]:=by
  have h:=c54 m (m.begun f) (by omega) (by omega) (by omega)
  rw [of_good gb] at h; exact h
 have c8_:=c18 m (by omega) (by omega)
 have c11_:=c59 (m.rest f) (by omega)
 refine call_of_vc (x:=jr17) (by kernel_rfl) rfl ?_
 have e:(((ens (m.rest f).es).length:Int)==((strs m.ns).length:Int))=true:=by rw [beq_iff_eq]; omega
 have fin:∀ b,b=true→resV [(m.rest f).d,.bool b]=resV [(m.rest f).d,.bool true]:=fun b h=>by rw [h]
 refine ca c8_ ?_
 refine ca c9_ ?_
 refine sd ?_
 refine ca c8_ ?_
 refine ca c22_ ?_
 refine ca c11_ ?_
 refine sd ?_
 refine sd ?_
 rotate_left
 all_goals exact fin _ e
def road:Ms:=⟨[[99],[97],[98]],[⟨0,1,2⟩,⟨1,2,3⟩]⟩
def roadF:List L.Fr:=L.cutL 9 [5,6,7] 2
def roadX:L.Sn × L.Rc × Int:=L.exP ⟨roadF,0,4⟩ ⟨0,[]⟩ (rdsH [(1,0,false)])
theorem k6:CallDet Tryz.prog 6 [] [.bool true]:=by
 have hc:road.chk=0:=by kernel_rfl
 have c17_:CallDet Tryz.prog 17 [.d road.d,.d (.int .i64 0)] [(road.rest 0).d,.bool true]:=k17 road 0 hc (by decide) (by decide)
 have gr:=rest_good (m:=road) (f:=0) hc (by decide) (by decide)
 have hrl:(road.rest 0).es.length=3:=gr.len
 have c8_:CallDet Tryz.prog 8 [.d road.d] [road.d]:=c18 road (by decide) (by decide)
 have c16_:CallDet Tryz.prog 16 [.d (road.rest 0).d] [(road.rest 0).d]:=c33 (road.rest 0) (by omega)
 have c24_:CallDet Tryz.prog 24 [.d road.d,.d (road.rest 0).d,.d (.int .i64 2)] [.slice 1 [.int .i64 2,.int .i64 1,.int .i64 0],.int .i64 0]:=by
  have h:=c63 road (road.rest 0) 2 (by decide) (by decide) (by omega)
  have e:routE road (road.rest 0) 2=0:=by kernel_rfl
  have e2:(road.rest 0).way 2=[2,1,0]:=by kernel_rfl
  rw [e,e2] at h; exact h
 have c25_:CallDet Tryz.prog 25 [.d (.int .i64 9),.d (.slice 1 [.int .u8 5,.int .u8 6,.int .u8 7]),.d (.int .i64 2)] [.slice 4 (L.frs roadF),.int .i64 0]:=by
  have h:=L.c13 9 2 [5,6,7]
  have e:L.checkCut 9 ([5,6,7]:List UInt8).length 2=0:=by kernel_rfl
  rw [e] at h; exact h
 have c27_:CallDet Tryz.prog 27 [.d (.slice 3 [.agg [.int .u8 1,.int .u8 0,.bool false]])] [.slice 3 (L.rds (rdsH [(1,0,false)]))]:=k27 [(1,0,false)] (by decide)
 have hfl:roadF.length=2:=by kernel_rfl
 have hfb:∀ f∈roadF,f.b.length≤1048576:=fun f hf=>by
  have e:roadF.all (fun f=>Nat.ble f.b.length 1048576)=true:=by kernel_rfl
  exact Nat.le_of_ble_eq_true (List.all_eq_true.1 e f hf)
 have c26_:CallDet Tryz.prog 26 [.d (.agg [.slice 4 (L.frs roadF),.int .i64 0,.int .i64 4]),.d (.agg [.int .i64 0,.slice 4 []]),.d (.slice 3 (L.rds (rdsH [(1,0,false)])))] [roadX.1.d,roadX.2.1.d,.int .i64 0]:=by
  have h:=L.c49 ⟨roadF,0,4⟩ ⟨0,[]⟩ (rdsH [(1,0,false)]) (by rw [hfl]; decide) (by decide) (by decide) hfb (fun f hf=>by cases hf) (fun x hx=>by
   have e:(rdsH [(1,0,false)]).all (fun x=>Nat.ble x.lost.length 1048576&&Nat.ble x.dbl.length 1048576)=true:=by kernel_rfl
   have:=List.all_eq_true.1 e x hx
   rw [Bool.and_eq_true] at this
   exact ⟨Nat.le_of_ble_eq_true this.1,Nat.le_of_ble_eq_true this.2⟩)
  have e:(L.exP ⟨roadF,0,4⟩ ⟨0,[]⟩ (rdsH [(1,0,false)])).2.2=0:=by kernel_rfl
  rw [e] at h; exact h
 have c28_:CallDet Tryz.prog 28 [.d (.slice 4 (L.frs roadX.2.1.l))] [.slice 1 [.int .u8 5,.int .u8 6,.int .u8 7],.int .i64 0]:=by
  have hl:roadX.2.1.l.length=2:=by kernel_rfl
  have h:=L.c14 roadX.2.1.l (by rw [hl]; decide)
  have ec:L.clean roadX.2.1.l:=fun x hx y hy=>by
   have h:(roadX.2.1.l.all fun x=>roadX.2.1.l.all fun y=>!(L.clash x y))=true:=by kernel_rfl
   have h2:=List.all_eq_true.1 (List.all_eq_true.1 h x hx) y hy
   simpa using h2
  have eh:=(L.head_ok (l:=roadX.2.1.l) (by kernel_rfl)).2.2
  have e0:roadX.2.1.l[0]?=some (roadX.2.1.l.headD ⟨0,0,0,[]⟩):=by kernel_rfl
  have e:L.joinL roadX.2.1.l=([5,6,7],0):=eh.trans (L.joinR_some e0 ec (by kernel_rfl))
  rw [e] at h; exact h
 have c29_:CallDet Tryz.prog 29 [.d (.slice 1 [.int .i64 2,.int .i64 1,.int .i64 0]),.d (.slice 1 [.int .i64 2,.int .i64 1,.int .i64 0])] [.bool true]:=c70 [2,1,0] [2,1,0] (by decide)
 have c30_:CallDet Tryz.prog 30 [.d (.slice 1 [.int .u8 5,.int .u8 6,.int .u8 7]),.d (.slice 1 [.int .u8 5,.int .u8 6,.int .u8 7])] [.bool true]:=L.c24 [5,6,7] [5,6,7]
 refine call_of_vc (x:=jr6) (by kernel_rfl) rfl ?_
 refine sd ?_
 refine sd ?_
 refine sd ?_
 refine sd ?_
 refine sd ?_
 refine sd ?_
 refine ca c17_ ?_
 refine sd ?_
 refine sd ?_
 refine ca c8_ ?_
 refine ca c16_ ?_
 refine ca c24_ ?_
 refine sd ?_
 refine sd ?_
 refine ca c25_ ?_
 refine sd ?_
 refine sd ?_
 refine ca c27_ ?_
 refine ca c26_ ?_
 refine sd ?_
 refine sd ?_
 refine sd ?_
 refine ca c28_ ?_
 refine sd ?_
 refine sd ?_
 refine sd ?_
 refine ca c29_ ?_
 refine sd ?_
 refine sd ?_
 refine ca c30_ ?_
 exact rfl
end Vc
set_option maxRecDepth 100000
namespace Go.Proofs.YtkopkfcfgiijmaaGreatDoor
open Go.ChangeShapes Go.WideShapes Go.ChangeAt Go.RowKit Vc
def msC:List CT:=[.sl false [.str],.sl true [.int .i64,.int .i64,.int .i64]]
theorem own:ownKnob Tryz.prog.godebug=none:=by kernel_rfl
mutual
theorem bulk_le {H:Type}:∀ (d:DataW H),bulk d≤Rows.uptoBulk d
 | .lit l=>by cases l <;> simp [bulk,Rows.uptoBulk]
 | .nil=>by simp [bulk,Rows.uptoBulk]
 | .ptr d=>by have:=bulk_le d; simp only [bulk,Rows.uptoBulk]; omega
 | .slice a b=>by have:=bulks_le a; have:=bulks_le b; simp only [bulk,Rows.uptoBulk]; omega
 | .agg a=>by have:=bulks_le a; simp only [bulk,Rows.uptoBulk]; omega
 | .iface _ d=>by have:=bulk_le d; simp only [bulk,Rows.uptoBulk]; omega
 | .map _=>by simp [bulk]
 | .held _=>by simp [bulk,Rows.uptoBulk]
theorem bulks_le {H:Type}:∀ (l:List (DataW H)),bulks l≤Rows.uptoBulkAll l
 | []=>by simp [bulks]
 | d::r=>by have:=bulk_le d; have:=bulks_le r; simp only [bulks,Rows.uptoBulkAll]; omega
end
def laidCells:Nat→DataW Unit→List Value
 | _,.lit (.int k n)=>[.int k n]
 | _,.lit (.bool b)=>[.bool b]
 | n+1,.agg l=>l.flatMap (laidCells n)
 | _,_=>[]
noncomputable def layRow (g:Nat) (cs:List Value) (w:World):World :=
 { w with heap := w.heap.modify g fun
   | .cells _ t frozen=>.cells cs.toArray t frozen
   | o=>o }
noncomputable def layAt (g:Nat) (d:DataW Unit) (w:World):World:=layRow g (laidCells 5 d) w
noncomputable def laidWorld (os:Os):World:=layAt 0 Rows.laid_kilovar_mesh_bare (World.holding Tryz.prog os ⟨#[],#[],[]⟩)
theorem laidOut:laidOutB Tryz.prog=true:=by kernel_rfl
theorem may0:Tryz.pinned.checked.prog.mayEnter=true:=by kernel_rfl
theorem out0:laidOutB Tryz.pinned.checked.prog=true:=by kernel_rfl
theorem lift0:(Rows.topLampWavesUptoRow.lifted==Tryz.pinned.checked.prog.liftsFinal)=true:=by kernel_rfl
theorem reads_plain {P:Program} {L:List (String × DataW Unit)} {W:World} (h:laidMetH P L W) {n:String} {d:DataW Unit} (hm:(n,d)∈L) (hd:d.handleName?.isNone=true):Go.Lib.VarReads P W n d:=by
 unfold laidMetH at h
 split at h
 ·exact Go.Lib.laidMet.reads h hm
 ·exact Go.Lib.laidMet.reads h.1 (List.mem_filter.2 ⟨hm,hd⟩)
theorem bare_cells {L:List (String × DataW Unit)} {W:World} (h:laidMetH Tryz.prog L W) (hm:("kilovar/mesh.bare",Rows.laid_kilovar_mesh_bare)∈L):∀ off,W.cell? ⟨0,off,none⟩=[Value.int .i64 0,.int .i64 0,.int .i64 (-1)][off]?:=by
 obtain ⟨g,t,cs,fuel,p,h1,h2,h3,h4⟩:=reads_plain h hm rfl
 have eg:g=0:=Option.some.inj (h1.symm.trans (show Tryz.prog.globalNamed "kilovar/mesh.bare" = some 0 by kernel_rfl))
 subst eg
 have et:t=52:=Option.some.inj (h2.symm.trans (show (Tryz.prog.globals[0]?).map (·.type)=some 52 by kernel_rfl))
 subst et
 have hc:cs.toList=[Value.int .i64 0,.int .i64 0,.int .i64 (-1)]:=Go.Lib.ints_of_struct (zs:=[0,0,-1]) Tryz.underlying52 (fun i f hf=>by
  match i,hf with
  | 0,hf=>cases hf; exact ⟨Tryz.underlying3,rfl,by kernel_rfl⟩
  | 1,hf=>cases hf; exact ⟨Tryz.underlying3,rfl,by kernel_rfl⟩
  | 2,hf=>cases hf; exact ⟨Tryz.underlying3,rfl,by kernel_rfl⟩
  | _+3,hf=>cases hf) (by kernel_rfl) h4
 intro off
 rw [World.var?_cell h1 h3 off,← hc]
 simp
theorem glob {L : List (String × DataW Unit)} {W : World} (h : laidMetH Tryz.prog L W) (hb : ("kilovar/mesh.bare", Rows.laid_kilovar_mesh_bare) ∈ L) :
  ∀ p∈Vc.Laid.vars Tryz.prog,DCs W (Old W) p.2 p.1 0:=by
 have cb:=bare_cells h hb
 have s0:0 < W.heap.size:=by
  have h0:=cb 0
  exact Classical.byContradiction fun hn=>by
   unfold World.cell? at h0
   rw [Array.getElem?_eq_none (show W.heap.size≤0 by omega)] at h0
   cases h0
 intro p hp
 rcases List.mem_cons.1 hp with rfl | hp
 ·show DCs W (Old W) bareD 0 0
  unfold bareD
  simp only [DCs,DRel]
  exact ⟨rfl,s0,⟨_,cb 0,rfl⟩,rfl,s0,⟨_,cb 1,rfl⟩,rfl,s0,⟨_,cb 2,rfl⟩,trivial⟩
 ·cases hp
end Go.Proofs.YtkopkfcfgiijmaaGreatDoor
