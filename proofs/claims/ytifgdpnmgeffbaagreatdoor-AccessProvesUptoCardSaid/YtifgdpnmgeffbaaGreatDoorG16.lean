import Derived.Test.YtifgdpnmgeffbaaGreatDoorG14
import Derived.Test.YtifgdpnmgeffbaaGreatDoorG15
import Derived.Test.YtifgdpnmgeffbaaGreatDoorG10
set_option linter.unusedSectionVars false
set_option linter.unusedVariables false
set_option linter.unusedSimpArgs false
set_option maxRecDepth 10000
set_option maxHeartbeats 4000000
namespace Vc
open Go Go.Proofs
def xa102:ACode:=(.seq
                  (.reg [] [⟨some 16,.mov (.tmp 48),none⟩])
                  (.reg [9] [⟨some 17,.alloc 9 [(.d (.str [])),(.d (.str [])),(.d (.str [])),(.d (.str [])),(.d (.int .i64 0)),(.d (.int .i64 0))],none⟩,
                   ⟨none,.st 6 (.tmp 17) (.tmp 49),none⟩]))
def xb102 : ACode := (.post [] [9, 10, 11, 12, 13]
                  (.block 5
                  (.seq
                   (.seq
                   (.reg [] [⟨some 50,.fad 0 (.tmp 17),none⟩,
                    ⟨some 51,.ld false 1 (.tmp 50),none⟩,
                    ⟨some 52,.fad 0 (.tmp 15),none⟩,
                    ⟨some 53,.ld false 1 (.tmp 52),none⟩,
                    ⟨some 54,.seq true (.tmp 51) (.tmp 53),none⟩,
                    ⟨some 55,.mov (.tmp 54),none⟩,
                    ⟨some 56,.ld false 1 (.tmp 10),some (55,false)⟩,
                    ⟨some 57,.fad 1 (.tmp 17),some (55,false)⟩,
                    ⟨some 58,.ld false 1 (.tmp 57),some (55,false)⟩,
                    ⟨some 59,.lkp none (.bool false) false (.tmp 56) (.tmp 58),some (55,false)⟩,
                    ⟨some 60,.pick (.tmp 55) (.cst (.d (.bool true))) (.tmp 59),none⟩])
                   (.cond (.tmp 60)
                    (.exit 5)
                    .skip))
                   (.seq
                   (.reg [10,11] [⟨some 61,.fad 1 (.tmp 15),none⟩,
                    ⟨some 62,.ld false 1 (.tmp 61),none⟩,
                    ⟨some 63,.calln 11 3 1 159 [(.tmp 62)],none⟩,
                    ⟨some 64,.mov (.tmp 16),none⟩,
                    ⟨some 65,.bsl 10 3 1 1 [(.int .i64 0)] [(0,(.tmp 64))],none⟩,
                    ⟨some 66,.app 11 3 1 8 (.tmp 63) (.tmp 65),none⟩,
                    ⟨some 18,.mov (.tmp 66),none⟩])
                   (.seq
                    (.seq
                    (.reg [] [⟨some 67,.fad 1 (.tmp 17),none⟩,
                     ⟨some 68,.ld false 1 (.tmp 67),none⟩,
                     ⟨some 69,.ld false 1 (.tmp 4),none⟩,
                     ⟨some 70,.seq false (.tmp 68) (.tmp 69),none⟩])
                    (.cond (.tmp 70)
                     (.seq
                     (.reg [] [⟨some 71,.mov (.tmp 18),none⟩,
                      ⟨none,.st 1 (.tmp 12) (.tmp 71),none⟩])
                     (.exit 0))
                     .skip))
                    (.seq
                    (.reg [] [⟨some 72,.ld false 1 (.tmp 10),none⟩,
                     ⟨some 73,.fad 1 (.tmp 17),none⟩,
                     ⟨some 74,.ld false 1 (.tmp 73),none⟩,
                     ⟨none,.mpu none (.tmp 72) (.tmp 74) (.cst (.d (.bool true))),none⟩])
                    (.reg [12,13] [⟨some 75,.ld false 1 (.tmp 13),none⟩,
                     ⟨some 76,.fad 1 (.tmp 17),none⟩,
                     ⟨some 77,.ld false 1 (.tmp 76),none⟩,
                     ⟨some 78,.mov (.tmp 18),none⟩,
                     ⟨some 79,.build [(.d (.str [])),(.nils 1)] [(0,1,(.tmp 77)),(1,1,(.tmp 78))],none⟩,
                     ⟨some 80,.bsl 12 234 2 1 [(.agg [(.str []),(.slice 1 [])])] [(0,(.tmp 79))],none⟩,
                     ⟨some 81,.app 13 234 2 40 (.tmp 75) (.tmp 80),none⟩,
                     ⟨none,.st 1 (.tmp 13) (.tmp 81),none⟩])))))))
def jr158:AFun:=⟨6,2,[.tmp 4],
 (.seq
 (.reg [0,1] [⟨some 2,.cbx 0 4 (.tmp 0),none⟩,
  ⟨some 3,.cbx 1 1 (.tmp 1),none⟩,
  ⟨some 4,.mov (.cst .undef),none⟩])
 (.seq
  (.reg [] [⟨some 5,.mkf (.func 187) [] [(.tmp 2),(.tmp 3)],none⟩,
   ⟨some 4,.mov (.tmp 5),none⟩])
  .ret))⟩
def jr187:AFun:=⟨27,1,[],
 (.seq
 (.reg [] [⟨some 6,.fad 0 (.tmp 1),none⟩,
  ⟨some 7,.fad 1 (.tmp 6),none⟩,
  ⟨some 8,.ld false 1 (.tmp 7),none⟩,
  ⟨some 9,.len (.tmp 8),none⟩,
  ⟨some 10,.mov (.cst (.d (.int .i64 0))),none⟩])
 (.post [] [0]
  (.block 0
  (.keep [0,1,2,8,9,10] []
   (.loop
   (.post [0,1,2,8,9,10] [0]
    (.seq
    (.reg [] [⟨some 11,.cmp .lss (.tmp 10) (.tmp 9),none⟩])
    (.seq
     (.cond (.tmp 11)
     .skip
     (.exit 0))
     (.seq
     (.block 1
      (.seq
      (.reg [0] [⟨some 12,.mov (.tmp 10),none⟩,
       ⟨some 13,.ixa 6 (.tmp 8) (.tmp 10),none⟩,
       ⟨some 14,.ld true 6 (.tmp 13),none⟩,
       ⟨some 5,.alloc 0 [(.d (.str [])),(.d (.str [])),(.d (.str [])),(.d (.str [])),(.d (.int .i64 0)),(.d (.int .i64 0))],none⟩,
       ⟨some 4,.mov (.tmp 12),none⟩,
       ⟨none,.st 6 (.tmp 5) (.tmp 14),none⟩])
      (.seq
       (.reg [] [⟨some 15,.ld true 4 (.tmp 1),none⟩,
        ⟨some 16,.ld true 6 (.tmp 5),none⟩,
        ⟨some 17,.ld false 1 (.tmp 2),none⟩,
        ⟨some 18,.call 108 [(.tmp 15),(.tmp 16),(.tmp 17)],none⟩,
        ⟨some 19,.mov (.tmp 18),none⟩,
        ⟨some 20,.mov (.tmp 0),some (19,true)⟩,
        ⟨some 21,.mov (.tmp 4),some (19,true)⟩,
        ⟨some 22,.ld true 6 (.tmp 5),some (19,true)⟩,
        ⟨some 23,.callv (.tmp 20) [(.tmp 21),(.tmp 22)],some (19,true)⟩,
        ⟨some 24,.not (.tmp 23),some (19,true)⟩,
        ⟨some 25,.pick (.tmp 19) (.tmp 24) (.cst (.d (.bool false))),none⟩])
       (.cond (.tmp 25)
       .ret
       .skip))))
     (.reg [] [⟨some 26,.arith .add .i64 (.tmp 10) (.cst (.d (.int .i64 1))),none⟩,
      ⟨some 10,.mov (.tmp 26),none⟩]))))))))))⟩
def wys (W:List Way):List Data:=W.map fun w=>.agg [.str w.2,.slice 1 (ints w.1)]
theorem wys_len (W:List Way):(wys W).length=W.length:=List.length_map _
def KM (R:List Nm):List (Data × Data):=R.map fun n=>(Data.str n,Data.bool true)
def sl102 (day:Int) (D:List Data) (n j:Int) (F:Data):List (Nat × AVal):=[(2,.d (.int .i64 day)),(3,.ptr 0 0),(4,.ptr 1 0),(10,.ptr 3 0),(12,.ptr 5 0),(13,.ptr 6 0),(15,.ptr 7 0),(39,.d (.slice 2 D)),(40,.d (.int .i64 n)),(41,.d (.int .i64 j)),(47,.d F)]
noncomputable def lp102 (s:LoopState) (pd:Option AJump) (day:Int) (D:List Data) (n j:Int) (F:Data):AObj:=.lp s pd 87 (sl102 day D n j F) [48,49] xa102 xb102 (ckP Tryz.prog 87 xa102 xb102)
def nx (N:List Way):AVal:=match N with | []=>.nils 2 | _::_=>.sl 13 (wys N).length
def nxo (N:List Way):AObj:=match N with | []=>.none | _::_=>.row 234 2 (wys N) false
def HP (l:List Ob) (G:List Gr) (ri ob of:Nm) (w:Way) (km:List (Data × Data)) (f nv:AVal) (lp o9 o10 o11 no o14:AObj):List AObj :=
 [.cbox [.slice 2 (obs l),.slice 6 (grs G),.str ri,.str ob],.cbox [.str of],.mapo km,.box [.mp 2],.none,.box [f],.box [nv],.box [.d (.str w.2),.d (.slice 1 (ints w.1))],lp,o9,o10,o11,.none,no,o14]
section
variable {l : List Ob} {G : List Gr} {ri ob of : Nm} {w : Way} {day n j : Int} {D : List Data} {F : Data}
theorem y_a (g:Gr) (i:Int) (R:List Nm) (N:List Way) (h1:(g.fr != w.2)=true):YieldIn Tryz.prog 8 [.d (.int .i64 i),.d (.agg [.str g.fr,.str g.to,.str g.ri,.str g.ob,.int .i64 g.a,.int .i64 g.b])] (HP l G ri ob of w (KM R) (.nils 1) (nx N) (lp102 .ready none day D n j F) .none .none .none (nxo N) (.box [.d (.str g.fr),.d (.str g.to),.d (.str g.ri),.d (.str g.ob),.d (.int .i64 g.a),.d (.int .i64 g.b)])) (.d (.bool true)) (HP l G ri ob of w (KM R) (.nils 1) (nx N) (lp102 .ready none day D n j F) .none .none .none (nxo N) (.box [.d (.str g.fr),.d (.str g.to),.d (.str g.ri),.d (.str g.ob),.d (.int .i64 g.a),.d (.int .i64 g.b)])):=by
 cases N with
 | nil =>
  refine yieldIn_of_vc (m:=87) (ps:=[48,49]) (xa:=xa102) (xb:=xb102) (sl:=sl102 day D n j F) rfl rfl rfl rfl rfl rfl ?_
  refine b_t h1 ?_
  refine sd ?_
  refine sd ?_
  exact rfl
 | cons y r =>
  refine yieldIn_of_vc (m:=87) (ps:=[48,49]) (xa:=xa102) (xb:=xb102) (sl:=sl102 day D n j F) rfl rfl rfl rfl rfl rfl ?_
  refine b_t h1 ?_
  refine sd ?_
  refine sd ?_
  exact rfl
theorem y_b (g:Gr) (i:Int) (R:List Nm) (N:List Way) (h1:(g.fr != w.2)=false) (h2:R.contains g.to=true):YieldIn Tryz.prog 8 [.d (.int .i64 i),.d (.agg [.str g.fr,.str g.to,.str g.ri,.str g.ob,.int .i64 g.a,.int .i64 g.b])] (HP l G ri ob of w (KM R) (.nils 1) (nx N) (lp102 .ready none day D n j F) .none .none .none (nxo N) (.box [.d (.str g.fr),.d (.str g.to),.d (.str g.ri),.d (.str g.ob),.d (.int .i64 g.a),.d (.int .i64 g.b)])) (.d (.bool true)) (HP l G ri ob of w (KM R) (.nils 1) (nx N) (lp102 .ready none day D n j F) .none .none .none (nxo N) (.box [.d (.str g.fr),.d (.str g.to),.d (.str g.ri),.d (.str g.ob),.d (.int .i64 g.a),.d (.int .i64 g.b)])):=by
 have hky:keysOk none (KM R)=true:=keys_names2 R
 have hlk:=lk2 g.to R
 rw [h2] at hlk
 cases N with
 | nil =>
  refine yieldIn_of_vc (m:=87) (ps:=[48,49]) (xa:=xa102) (xb:=xb102) (sl:=sl102 day D n j F) rfl rfl rfl rfl rfl rfl ?_
  refine b_f h1 ?_
  rotate_left
  refine Exists.intro [Data.bool true,Data.bool true] (And.intro ⟨rfl,hky,hlk⟩ ?_)
  refine sd ?_
  exact rfl
 | cons y r =>
  refine yieldIn_of_vc (m:=87) (ps:=[48,49]) (xa:=xa102) (xb:=xb102) (sl:=sl102 day D n j F) rfl rfl rfl rfl rfl rfl ?_
  refine b_f h1 ?_
  rotate_left
  refine Exists.intro [Data.bool true,Data.bool true] (And.intro ⟨rfl,hky,hlk⟩ ?_)
  refine sd ?_
  exact rfl
theorem y_c (g:Gr) (i:Int) (R:List Nm) (N:List Way) (h1:(g.fr != w.2)=false) (h2:R.contains g.to=false) (h3:(g.to==of)=false) (hw:w.1.length≤1000) (hN:N.length≤1000):YieldIn Tryz.prog 8 [.d (.int .i64 i),.d (.agg [.str g.fr,.str g.to,.str g.ri,.str g.ob,.int .i64 g.a,.int .i64 g.b])] (HP l G ri ob of w (KM R) (.nils 1) (nx N) (lp102 .ready none day D n j F) .none .none .none (nxo N) (.box [.d (.str g.fr),.d (.str g.to),.d (.str g.ri),.d (.str g.ob),.d (.int .i64 g.a),.d (.int .i64 g.b)])) (.d (.bool true)) (HP l G ri ob of w (KM (R++[g.to])) (.nils 1) (nx (N++[(w.1++[i],g.to)])) (lp102 .ready none day D n j F) .none .none .none (nxo (N++[(w.1++[i],g.to)])) (.box [.d (.str g.fr),.d (.str g.to),.d (.str g.ri),.d (.str g.ob),.d (.int .i64 g.a),.d (.int .i64 g.b)])):=by
 have hky:keysOk none (KM R)=true:=keys_names2 R
 have hlk:=lk2 g.to R
 rw [h2] at hlk
 have hli:=ints_len w.1
 have hpm:putM (.str g.to) (.bool true) (KM R)=KM (R++[g.to]):=putM_names2 g.to R h2
 have c159r_:=c159r (ints w.1) (by omega)
 have hin:ints (w.1++[i])=ints w.1++[Data.int .i64 i]:=List.map_append
 rw [← hpm]
 cases N with
 | nil =>
  have e1:nx ([]++[(w.1++[i],g.to)])=.sl 13 1:=rfl
  have e2:nxo ([]++[(w.1++[i],g.to)])=.row 234 2 [Data.agg [.str g.to,.slice 1 (ints w.1++[Data.int .i64 i])]] false:=by show AObj.row 234 2 [Data.agg [.str g.to,.slice 1 (ints (w.1++[i]))]] false=_; rw [hin]
  rw [e1,e2]
  refine yieldIn_of_vc (m:=87) (ps:=[48,49]) (xa:=xa102) (xb:=xb102) (sl:=sl102 day D n j F) rfl rfl rfl rfl rfl rfl ?_
  refine b_f h1 ?_
  rotate_left
  refine Exists.intro [Data.bool false,Data.bool false] (And.intro ⟨rfl,hky,hlk⟩ ?_)
  refine ca (c159r _ ?_) ?_
  (show List.length (ints (Prod.fst w))≤(1048576:Nat); omega)
  refine sd ?_
  refine sd ?_
  refine sd ?_
  refine an ?_ ?_
  refine an ?_ ?_
  exact rfl
  refine an ?_ ?_
  exact rfl
  refine an ?_ ?_
  exact rfl
  refine an ?_ ?_
  (show (List.length (ints (Prod.fst w))+(1:Nat)) * (8:Nat)≤(2:Nat) ^ (47:Nat); omega)
  (show List.length (ints (Prod.fst w))+(1:Nat)≤(2:Nat) ^ (47:Nat); omega)
  refine b_f h3 ?_
  refine an ?_ ?_
  refine an ?_ ?_
  exact rfl
  assumption
  refine sd ?_
  refine sd ?_
  refine sd ?_
  refine sd ?_
  refine sd ?_
  refine an ?_ ?_
  refine an ?_ ?_
  (show (1:Nat) * (40:Nat)≤(2:Nat) ^ (47:Nat); omega)
  (show (1:Nat)≤(2:Nat) ^ (47:Nat); omega)
  refine sd ?_
  refine sd ?_
  exact rfl
 | cons y r =>
  have hwl:=wys_len (y::r)
  have e0:wys ((y::r)++[(w.1++[i],g.to)])=(wys (y::r)++[Data.agg [.str g.to,.slice 1 (ints w.1++[Data.int .i64 i])]]):=by unfold wys; rw [List.map_append,← hin]; rfl
  have e1:nx ((y::r)++[(w.1++[i],g.to)])=.sl 13 (wys (y::r)++[Data.agg [.str g.to,.slice 1 (ints w.1++[Data.int .i64 i])]]).length:=by rw [← e0]; rfl
  have e2:nxo ((y::r)++[(w.1++[i],g.to)])=.row 234 2 (wys (y::r)++[Data.agg [.str g.to,.slice 1 (ints w.1++[Data.int .i64 i])]]) false:=by rw [← e0]; rfl
  rw [e1,e2]
  refine yieldIn_of_vc (m:=87) (ps:=[48,49]) (xa:=xa102) (xb:=xb102) (sl:=sl102 day D n j F) rfl rfl rfl rfl rfl rfl ?_
  refine b_f h1 ?_
  rotate_left
  refine Exists.intro [Data.bool false,Data.bool false] (And.intro ⟨rfl,hky,hlk⟩ ?_)
  refine ca (c159r _ ?_) ?_
  (show List.length (ints (Prod.fst w))≤(1048576:Nat); omega)
  refine sd ?_
  refine sd ?_
  refine sd ?_
  refine an ?_ ?_
  refine an ?_ ?_
  exact rfl
  refine an ?_ ?_
  exact rfl
  refine an ?_ ?_
  exact rfl
  refine an ?_ ?_
  (show (List.length (ints (Prod.fst w))+(1:Nat)) * (8:Nat)≤(2:Nat) ^ (47:Nat); omega)
  (show List.length (ints (Prod.fst w))+(1:Nat)≤(2:Nat) ^ (47:Nat); omega)
  refine b_f h3 ?_
  refine an ?_ ?_
  refine an ?_ ?_
  exact rfl
  assumption
  refine sd ?_
  refine sd ?_
  refine sd ?_
  refine sd ?_
  refine sd ?_
  refine an ?_ ?_
  refine an ?_ ?_
  exact rfl
  refine an ?_ ?_
  exact rfl
  refine an ?_ ?_
  exact rfl
  refine an ?_ ?_
  rotate_left
  rotate_left
  refine sd ?_
  refine sd ?_
  exact rfl
  ·rw [hwl,List.length_set]; show ((y::r).length+1) * 40≤2 ^ 47; omega
  ·rw [hwl,List.length_set]; show (y::r).length+1≤2 ^ 47; omega
theorem y_d (g:Gr) (i:Int) (R:List Nm) (N:List Way) (h1:(g.fr != w.2)=false) (h2:R.contains g.to=false) (h3:(g.to==of)=true) (hw:w.1.length≤1000):YieldIn Tryz.prog 8 [.d (.int .i64 i),.d (.agg [.str g.fr,.str g.to,.str g.ri,.str g.ob,.int .i64 g.a,.int .i64 g.b])] (HP l G ri ob of w (KM R) (.nils 1) (nx N) (lp102 .ready none day D n j F) .none .none .none (nxo N) (.box [.d (.str g.fr),.d (.str g.to),.d (.str g.ri),.d (.str g.ob),.d (.int .i64 g.a),.d (.int .i64 g.b)])) (.d (.bool false)) (HP l G ri ob of w (KM R) (.sl 11 (ints w.1++[Data.int .i64 i]).length) (nx N) (lp102 .done (some (.exit 0)) day D n j F) (.box [.d (.str g.fr),.d (.str g.to),.d (.str g.ri),.d (.str g.ob),.d (.int .i64 g.a),.d (.int .i64 g.b)]) (.row 3 1 [.int .i64 i] false) (.row 3 1 (ints w.1++[Data.int .i64 i]) false) (nxo N) (.box [.d (.str g.fr),.d (.str g.to),.d (.str g.ri),.d (.str g.ob),.d (.int .i64 g.a),.d (.int .i64 g.b)])):=by
 have hky:keysOk none (KM R)=true:=keys_names2 R
 have hlk:=lk2 g.to R
 rw [h2] at hlk
 have hli:=ints_len w.1
 have c159r_:=c159r (ints w.1) (by omega)
 cases N with
 | nil =>
  refine yieldIn_of_vc (m:=87) (ps:=[48,49]) (xa:=xa102) (xb:=xb102) (sl:=sl102 day D n j F) rfl rfl rfl rfl rfl rfl ?_
  refine b_f h1 ?_
  rotate_left
  refine Exists.intro [Data.bool false,Data.bool false] (And.intro ⟨rfl,hky,hlk⟩ ?_)
  refine ca (c159r _ ?_) ?_
  (show List.length (ints (Prod.fst w))≤(1048576:Nat); omega)
  refine sd ?_
  refine sd ?_
  refine sd ?_
  refine an ?_ ?_
  refine an ?_ ?_
  exact rfl
  refine an ?_ ?_
  exact rfl
  refine an ?_ ?_
  exact rfl
  refine an ?_ ?_
  (show (List.length (ints (Prod.fst w))+(1:Nat)) * (8:Nat)≤(2:Nat) ^ (47:Nat); omega)
  (show List.length (ints (Prod.fst w))+(1:Nat)≤(2:Nat) ^ (47:Nat); omega)
  refine b_t h3 ?_
  refine sd ?_
  refine sd ?_
  exact rfl
 | cons y r =>
  refine yieldIn_of_vc (m:=87) (ps:=[48,49]) (xa:=xa102) (xb:=xb102) (sl:=sl102 day D n j F) rfl rfl rfl rfl rfl rfl ?_
  refine b_f h1 ?_
  rotate_left
  refine Exists.intro [Data.bool false,Data.bool false] (And.intro ⟨rfl,hky,hlk⟩ ?_)
  refine ca (c159r _ ?_) ?_
  (show List.length (ints (Prod.fst w))≤(1048576:Nat); omega)
  refine sd ?_
  refine sd ?_
  refine sd ?_
  refine an ?_ ?_
  refine an ?_ ?_
  exact rfl
  refine an ?_ ?_
  exact rfl
  refine an ?_ ?_
  exact rfl
  refine an ?_ ?_
  (show (List.length (ints (Prod.fst w))+(1:Nat)) * (8:Nat)≤(2:Nat) ^ (47:Nat); omega)
  (show List.length (ints (Prod.fst w))+(1:Nat)≤(2:Nat) ^ (47:Nat); omega)
  refine b_t h3 ?_
  refine sd ?_
  refine sd ?_
  exact rfl
noncomputable def endH (l:List Ob) (G:List Gr) (ri ob of:Nm) (w:Way) (day n j:Int) (D:List Data) (F:Data):List Gr→Int→List Nm→List Way→List AObj
 | [],_,R,N=>(HP l G ri ob of w (KM R) (.nils 1) (nx N) (lp102 .ready none day D n j F) .none .none .none (nxo N) .none)
 | g::r,i,R,N=>bif holdB ri ob day g&&(g.fr==w.2&&!R.contains g.to) then (bif g.to==of then (HP l G ri ob of w (KM R) (.sl 11 (ints w.1++[Data.int .i64 i]).length) (nx N) (lp102 .done (some (.exit 0)) day D n j F) (.box [.d (.str g.fr),.d (.str g.to),.d (.str g.ri),.d (.str g.ob),.d (.int .i64 g.a),.d (.int .i64 g.b)]) (.row 3 1 [.int .i64 i] false) (.row 3 1 (ints w.1++[Data.int .i64 i]) false) (nxo N) (.box [.d (.str g.fr),.d (.str g.to),.d (.str g.ri),.d (.str g.ob),.d (.int .i64 g.a),.d (.int .i64 g.b)])) else endH l G ri ob of w day n j D F r (i+1) (R++[g.to]) (N++[(w.1++[i],g.to)])) else endH l G ri ob of w day n j D F r (i+1) R N
theorem endH_none:∀ {r:List Gr} {i:Int} {R R':List Nm} {N N':List Way},prG ri ob day of w r i R N=(none,R',N')→endH l G ri ob of w day n j D F r i R N=(HP l G ri ob of w (KM R') (.nils 1) (nx N') (lp102 .ready none day D n j F) .none .none .none (nxo N') .none)
 | [],i,R,R',N,N',h=>by cases h; rfl
 | g::r,i,R,R',N,N',h=>by
  rw [prG] at h
  rw [endH]
  cases hc:(holdB ri ob day g&&(g.fr==w.2&&!R.contains g.to)) with
  | false=>rw [hc] at h; exact endH_none h
  | true =>
   rw [hc] at h
   cases ho:(g.to==of) with
   | true=>rw [ho] at h; cases h
   | false=>rw [ho] at h; exact endH_none h
theorem endH_some:∀ {r:List Gr} {i:Int} {R R':List Nm} {N N':List Way} {c:List Int},prG ri ob day of w r i R N=(some c,R',N')→∃ (g:Gr) (i':Int),c=w.1++[i']∧endH l G ri ob of w day n j D F r i R N=(HP l G ri ob of w (KM R') (.sl 11 (ints w.1++[Data.int .i64 i']).length) (nx N') (lp102 .done (some (.exit 0)) day D n j F) (.box [.d (.str g.fr),.d (.str g.to),.d (.str g.ri),.d (.str g.ob),.d (.int .i64 g.a),.d (.int .i64 g.b)]) (.row 3 1 [.int .i64 i'] false) (.row 3 1 (ints w.1++[Data.int .i64 i']) false) (nxo N') (.box [.d (.str g.fr),.d (.str g.to),.d (.str g.ri),.d (.str g.ob),.d (.int .i64 g.a),.d (.int .i64 g.b)]))
 | [],i,R,R',N,N',c,h=>by cases h
 | g::r,i,R,R',N,N',c,h=>by
  rw [prG] at h
  rw [endH]
  cases hc:(holdB ri ob day g&&(g.fr==w.2&&!R.contains g.to)) with
  | false=>rw [hc] at h; exact endH_some h
  | true =>
   rw [hc] at h
   cases ho:(g.to==of) with
   | true =>
    rw [ho] at h
    cases h
    exact ⟨g,i,rfl,rfl⟩
   | false=>rw [ho] at h; exact endH_some h
theorem endH_len:∀ (r:List Gr) (i:Int) (R:List Nm) (N:List Way),(endH l G ri ob of w day n j D F r i R N).length=15
 | [],_,_,_=>rfl
 | g::r,i,R,N=>by
  rw [endH]
  cases (holdB ri ob day g&&(g.fr==w.2&&!R.contains g.to)) with
  | false=>exact endH_len r _ _ _
  | true =>
   cases (g.to==of) with
   | true=>rfl
   | false=>exact endH_len r _ _ _
theorem i187 (R0:List Nm) (N0:List Way) (hl:l.length≤1048576) (hG:G.length≤500) (hw:w.1.length≤500) (hN:N0.length≤500):CallIn Tryz.prog 187 [.yld 8,.cp [.slice 2 (obs l),.slice 6 (grs G),.str ri,.str ob] 0,.cp [.int .i64 day] 0] (HP l G ri ob of w (KM R0) (.nils 1) (nx N0) (lp102 .ready none day D n j F) .none .none .none (nxo N0) .none) (.tup []) (endH l G ri ob of w day n j D F G 0 R0 N0):=by
 have hlg:=grs_len G
 refine callIn_of_vc 14 (x:=jr187) (by kernel_rfl) rfl rfl (endH_len G 0 R0 N0) ?_
 cases N0 with
 | nil =>
  refine loop_st (fun p:Nat × List Nm × List Way=>⟨[(0,.yld 8),(1,.cp [.slice 2 (obs l),.slice 6 (grs G),.str ri,.str ob] 0),(2,.cp [.int .i64 day] 0),(8,.d (.slice 6 (grs G))),(9,.d (.int .i64 (((grs G).length:Nat):Int))),(10,.d (.int .i64 ((p.1:Nat))))],(HP l G ri ob of w (KM p.2.1) (.nils 1) (nx p.2.2) (lp102 .ready none day D n j F) .none .none .none (nxo p.2.2) .none)⟩) (fun p=>(p.1≤G.length∧p.2.2.length≤500+p.1)∧endH l G ri ob of w day n j D F G 0 R0 ([]:List Way)=endH l G ri ob of w day n j D F (G.drop p.1) (p.1:Int) p.2.1 p.2.2) (fun p=>G.length - p.1) (0,R0,([]:List Way)) rfl ⟨⟨Nat.zero_le _,by show ([]:List Way).length≤500+0; omega⟩,rfl⟩ ?_
  rintro ⟨k,R,N⟩ ⟨⟨hk,hNk⟩,hi⟩
  have hk:k≤G.length:=hk
  have hNk:N.length≤500+k:=hNk
  have hi:endH l G ri ob of w day n j D F G 0 R0 ([]:List Way)=endH l G ri ob of w day n j D F (G.drop k) (k:Int) R N:=hi
  dsimp only
  by_cases hkn:k < G.length
  ·refine Exists.elim (get_lt G hkn) fun g hx=>?_
   have hx1:=grs_at hx
   have c108_:=c108 l G g ri ob day
   rw [drop_at hx,endH] at hi
   have fin:endH l G ri ob of w day n j D F G 0 R0 ([]:List Way)=endH l G ri ob of w day n j D F (G.drop (k+1)) ((k:Int)+1) R N→∃ a':Nat × List Nm × List Way,(((a'.1≤G.length∧a'.2.2.length≤500+a'.1)∧endH l G ri ob of w day n j D F G 0 R0 ([]:List Way)=endH l G ri ob of w day n j D F (G.drop a'.1) (a'.1:Int) a'.2.1 a'.2.2)∧G.length - a'.1 < G.length - k)∧(⟨[(0,.yld 8),(1,.cp [.slice 2 (obs l),.slice 6 (grs G),.str ri,.str ob] 0),(2,.cp [.int .i64 day] 0),(8,.d (.slice 6 (grs G))),(9,.d (.int .i64 (((grs G).length:Nat):Int))),(10,.d (.int .i64 (((k:Int)+1))))],(HP l G ri ob of w (KM R) (.nils 1) (nx N) (lp102 .ready none day D n j F) .none .none .none (nxo N) .none)⟩:St)=⟨[(0,.yld 8),(1,.cp [.slice 2 (obs l),.slice 6 (grs G),.str ri,.str ob] 0),(2,.cp [.int .i64 day] 0),(8,.d (.slice 6 (grs G))),(9,.d (.int .i64 (((grs G).length:Nat):Int))),(10,.d (.int .i64 ((a'.1:Nat))))],(HP l G ri ob of w (KM a'.2.1) (.nils 1) (nx a'.2.2) (lp102 .ready none day D n j F) .none .none .none (nxo a'.2.2) .none)⟩:=fun h=>⟨(k+1,R,N),⟨⟨⟨by show k+1≤G.length; omega,by show N.length≤500+(k+1); omega⟩,h⟩,by show G.length - (k+1) < G.length - k; omega⟩,rfl⟩
   have fin2:endH l G ri ob of w day n j D F G 0 R0 ([]:List Way)=endH l G ri ob of w day n j D F (G.drop (k+1)) ((k:Int)+1) (R++[g.to]) (N++[(w.1++[(k:Int)],g.to)])→∃ a':Nat × List Nm × List Way,(((a'.1≤G.length∧a'.2.2.length≤500+a'.1)∧endH l G ri ob of w day n j D F G 0 R0 ([]:List Way)=endH l G ri ob of w day n j D F (G.drop a'.1) (a'.1:Int) a'.2.1 a'.2.2)∧G.length - a'.1 < G.length - k)∧(⟨[(0,.yld 8),(1,.cp [.slice 2 (obs l),.slice 6 (grs G),.str ri,.str ob] 0),(2,.cp [.int .i64 day] 0),(8,.d (.slice 6 (grs G))),(9,.d (.int .i64 (((grs G).length:Nat):Int))),(10,.d (.int .i64 (((k:Int)+1))))],(HP l G ri ob of w (KM (R++[g.to])) (.nils 1) (nx (N++[(w.1++[(k:Int)],g.to)])) (lp102 .ready none day D n j F) .none .none .none (nxo (N++[(w.1++[(k:Int)],g.to)])) .none)⟩:St)=⟨[(0,.yld 8),(1,.cp [.slice 2 (obs l),.slice 6 (grs G),.str ri,.str ob] 0),(2,.cp [.int .i64 day] 0),(8,.d (.slice 6 (grs G))),(9,.d (.int .i64 (((grs G).length:Nat):Int))),(10,.d (.int .i64 ((a'.1:Nat))))],(HP l G ri ob of w (KM a'.2.1) (.nils 1) (nx a'.2.2) (lp102 .ready none day D n j F) .none .none .none (nxo a'.2.2) .none)⟩:=fun h=>⟨(k+1,R++[g.to],N++[(w.1++[(k:Int)],g.to)]),⟨⟨⟨by show k+1≤G.length; omega,by show (N++[(w.1++[(k:Int)],g.to)]).length≤500+(k+1); rw [List.length_append]; show N.length+1≤_; omega⟩,h⟩,by show G.length - (k+1) < G.length - k; omega⟩,rfl⟩
   have hNk:N.length≤1000:=by omega
   cases N with
   | nil =>
    by_cases hh:holdB ri ob day g=true
    ·rw [hh] at c108_
     cases h1:(g.fr != w.2) with
     | true =>
      have he:(g.fr==w.2)=false:=by simpa [bne] using h1
      have hi:endH l G ri ob of w day n j D F G 0 R0 ([]:List Way)=endH l G ri ob of w day n j D F (G.drop (k+1)) ((k:Int)+1) R []:=by rw [hi,hh,he]; rfl
      have fin:=fin hi
      refine sd ?_
      refine b_lt (fun t1=>?_) (fun t1=>?_)
      refine ix_at hx1 ?_ ?_
      (show (0:Int)≤(↑k:Int); omega)
      refine ca c108_ ?_
      rotate_left
      (exfalso; omega)
      refine Exists.intro (.d (.bool true)) (Exists.intro [] (And.intro (y_a g (k:Int) R [] h1) ?_))
      refine ar_add ?_ ?_
      refine an ?_ ?_
      (show (-9223372036854775808:Int)≤(↑k:Int)+(1:Int); omega)
      (show (↑k:Int)+(1:Int)≤(9223372036854775807:Int); omega)
      rotate_left
      all_goals exact fin
     | false =>
      have he:(g.fr==w.2)=true:=by simpa [bne] using h1
      cases h2:R.contains g.to with
      | true =>
       have hi:endH l G ri ob of w day n j D F G 0 R0 ([]:List Way)=endH l G ri ob of w day n j D F (G.drop (k+1)) ((k:Int)+1) R []:=by rw [hi,hh,he,h2]; rfl
       have fin:=fin hi
       refine sd ?_
       refine b_lt (fun t1=>?_) (fun t1=>?_)
       refine ix_at hx1 ?_ ?_
       (show (0:Int)≤(↑k:Int); omega)
       refine ca c108_ ?_
       rotate_left
       (exfalso; omega)
       refine Exists.intro (.d (.bool true)) (Exists.intro [] (And.intro (y_b g (k:Int) R [] h1 h2) ?_))
       refine ar_add ?_ ?_
       refine an ?_ ?_
       (show (-9223372036854775808:Int)≤(↑k:Int)+(1:Int); omega)
       (show (↑k:Int)+(1:Int)≤(9223372036854775807:Int); omega)
       rotate_left
       all_goals exact fin
      | false =>
       cases h3:(g.to==of) with
       | false =>
        have hi:endH l G ri ob of w day n j D F G 0 R0 ([]:List Way)=endH l G ri ob of w day n j D F (G.drop (k+1)) ((k:Int)+1) (R++[g.to]) ([]++[(w.1++[(k:Int)],g.to)]):=by rw [hi,hh,he,h2,h3]; rfl
        have fin:=fin2 hi
        refine sd ?_
        refine b_lt (fun t1=>?_) (fun t1=>?_)
        refine ix_at hx1 ?_ ?_
        (show (0:Int)≤(↑k:Int); omega)
        refine ca c108_ ?_
        rotate_left
        (exfalso; omega)
        refine Exists.intro (.d (.bool true)) (Exists.intro [(2,.mapo (KM (R++[g.to]))),(6,.box [nx ([]++[(w.1++[(k:Int)],g.to)])]),(13,nxo ([]++[(w.1++[(k:Int)],g.to)]))] (And.intro (y_c g (k:Int) R [] h1 h2 h3 (by omega) hNk) ?_))
        refine ar_add ?_ ?_
        refine an ?_ ?_
        (show (-9223372036854775808:Int)≤(↑k:Int)+(1:Int); omega)
        (show (↑k:Int)+(1:Int)≤(9223372036854775807:Int); omega)
        rotate_left
        all_goals exact fin
       | true =>
        have hi:endH l G ri ob of w day n j D F G 0 R0 ([]:List Way)=(HP l G ri ob of w (KM R) (.sl 11 (ints w.1++[Data.int .i64 (k:Int)]).length) (nx []) (lp102 .done (some (.exit 0)) day D n j F) (.box [.d (.str g.fr),.d (.str g.to),.d (.str g.ri),.d (.str g.ob),.d (.int .i64 g.a),.d (.int .i64 g.b)]) (.row 3 1 [.int .i64 (k:Int)] false) (.row 3 1 (ints w.1++[Data.int .i64 (k:Int)]) false) (nxo []) (.box [.d (.str g.fr),.d (.str g.to),.d (.str g.ri),.d (.str g.ob),.d (.int .i64 g.a),.d (.int .i64 g.b)])):=by rw [hi,hh,he,h2,h3]; rfl
        rw [hi]
        refine sd ?_
        refine b_lt (fun t1=>?_) (fun t1=>?_)
        refine ix_at hx1 ?_ ?_
        (show (0:Int)≤(↑k:Int); omega)
        refine ca c108_ ?_
        rotate_left
        (exfalso; omega)
        refine Exists.intro (.d (.bool false)) (Exists.intro [(5,.box [.sl 11 (ints w.1++[Data.int .i64 (k:Int)]).length]),(8,lp102 .done (some (.exit 0)) day D n j F),(9,.box [.d (.str g.fr),.d (.str g.to),.d (.str g.ri),.d (.str g.ob),.d (.int .i64 g.a),.d (.int .i64 g.b)]),(10,.row 3 1 [.int .i64 (k:Int)] false),(11,.row 3 1 (ints w.1++[Data.int .i64 (k:Int)]) false)] (And.intro (y_d g (k:Int) R [] h1 h2 h3 (by omega)) ?_))
        refine sd ?_
        exact rfl
    ·have hh:holdB ri ob day g=false:=by simpa using hh
     rw [hh] at c108_
     have hi:endH l G ri ob of w day n j D F G 0 R0 ([]:List Way)=endH l G ri ob of w day n j D F (G.drop (k+1)) ((k:Int)+1) R []:=by rw [hi,hh]; rfl
     have fin:=fin hi
     refine sd ?_
     refine b_lt (fun t1=>?_) (fun t1=>?_)
     refine ix_at hx1 ?_ ?_
     (show (0:Int)≤(↑k:Int); omega)
     refine ca c108_ ?_
     refine sd ?_
     refine ar_add ?_ ?_
     refine an ?_ ?_
     (show (-9223372036854775808:Int)≤(↑k:Int)+(1:Int); omega)
     (show (↑k:Int)+(1:Int)≤(9223372036854775807:Int); omega)
     rotate_left
     (exfalso; omega)
     all_goals exact fin
   | cons y r =>
    by_cases hh:holdB ri ob day g=true
    ·rw [hh] at c108_
     cases h1:(g.fr != w.2) with
     | true =>
      have he:(g.fr==w.2)=false:=by simpa [bne] using h1
      have hi:endH l G ri ob of w day n j D F G 0 R0 ([]:List Way)=endH l G ri ob of w day n j D F (G.drop (k+1)) ((k:Int)+1) R (y::r):=by rw [hi,hh,he]; rfl
      have fin:=fin hi
      refine sd ?_
      refine b_lt (fun t1=>?_) (fun t1=>?_)
      refine ix_at hx1 ?_ ?_
      (show (0:Int)≤(↑k:Int); omega)
      refine ca c108_ ?_
      rotate_left
      (exfalso; omega)
      refine Exists.intro (.d (.bool true)) (Exists.intro [] (And.intro (y_a g (k:Int) R (y::r) h1) ?_))
      refine ar_add ?_ ?_
      refine an ?_ ?_
      (show (-9223372036854775808:Int)≤(↑k:Int)+(1:Int); omega)
      (show (↑k:Int)+(1:Int)≤(9223372036854775807:Int); omega)
      rotate_left
      all_goals exact fin
     | false =>
      have he:(g.fr==w.2)=true:=by simpa [bne] using h1
      cases h2:R.contains g.to with
      | true =>
       have hi:endH l G ri ob of w day n j D F G 0 R0 ([]:List Way)=endH l G ri ob of w day n j D F (G.drop (k+1)) ((k:Int)+1) R (y::r):=by rw [hi,hh,he,h2]; rfl
       have fin:=fin hi
       refine sd ?_
       refine b_lt (fun t1=>?_) (fun t1=>?_)
       refine ix_at hx1 ?_ ?_
       (show (0:Int)≤(↑k:Int); omega)
       refine ca c108_ ?_
       rotate_left
       (exfalso; omega)
       refine Exists.intro (.d (.bool true)) (Exists.intro [] (And.intro (y_b g (k:Int) R (y::r) h1 h2) ?_))
       refine ar_add ?_ ?_
       refine an ?_ ?_
       (show (-9223372036854775808:Int)≤(↑k:Int)+(1:Int); omega)
       (show (↑k:Int)+(1:Int)≤(9223372036854775807:Int); omega)
       rotate_left
       all_goals exact fin
      | false =>
       cases h3:(g.to==of) with
       | false =>
        have hi:endH l G ri ob of w day n j D F G 0 R0 ([]:List Way)=endH l G ri ob of w day n j D F (G.drop (k+1)) ((k:Int)+1) (R++[g.to]) ((y::r)++[(w.1++[(k:Int)],g.to)]):=by rw [hi,hh,he,h2,h3]; rfl
        have fin:=fin2 hi
        refine sd ?_
        refine b_lt (fun t1=>?_) (fun t1=>?_)
        refine ix_at hx1 ?_ ?_
        (show (0:Int)≤(↑k:Int); omega)
        refine ca c108_ ?_
        rotate_left
        (exfalso; omega)
        refine Exists.intro (.d (.bool true)) (Exists.intro [(2,.mapo (KM (R++[g.to]))),(6,.box [nx ((y::r)++[(w.1++[(k:Int)],g.to)])]),(13,nxo ((y::r)++[(w.1++[(k:Int)],g.to)]))] (And.intro (y_c g (k:Int) R (y::r) h1 h2 h3 (by omega) hNk) ?_))
        refine ar_add ?_ ?_
        refine an ?_ ?_
        (show (-9223372036854775808:Int)≤(↑k:Int)+(1:Int); omega)
        (show (↑k:Int)+(1:Int)≤(9223372036854775807:Int); omega)
        rotate_left
        all_goals exact fin
       | true =>
        have hi:endH l G ri ob of w day n j D F G 0 R0 ([]:List Way)=(HP l G ri ob of w (KM R) (.sl 11 (ints w.1++[Data.int .i64 (k:Int)]).length) (nx (y::r)) (lp102 .done (some (.exit 0)) day D n j F) (.box [.d (.str g.fr),.d (.str g.to),.d (.str g.ri),.d (.str g.ob),.d (.int .i64 g.a),.d (.int .i64 g.b)]) (.row 3 1 [.int .i64 (k:Int)] false) (.row 3 1 (ints w.1++[Data.int .i64 (k:Int)]) false) (nxo (y::r)) (.box [.d (.str g.fr),.d (.str g.to),.d (.str g.ri),.d (.str g.ob),.d (.int .i64 g.a),.d (.int .i64 g.b)])):=by rw [hi,hh,he,h2,h3]; rfl
        rw [hi]
        refine sd ?_
        refine b_lt (fun t1=>?_) (fun t1=>?_)
        refine ix_at hx1 ?_ ?_
        (show (0:Int)≤(↑k:Int); omega)
        refine ca c108_ ?_
        rotate_left
        (exfalso; omega)
        refine Exists.intro (.d (.bool false)) (Exists.intro [(5,.box [.sl 11 (ints w.1++[Data.int .i64 (k:Int)]).length]),(8,lp102 .done (some (.exit 0)) day D n j F),(9,.box [.d (.str g.fr),.d (.str g.to),.d (.str g.ri),.d (.str g.ob),.d (.int .i64 g.a),.d (.int .i64 g.b)]),(10,.row 3 1 [.int .i64 (k:Int)] false),(11,.row 3 1 (ints w.1++[Data.int .i64 (k:Int)]) false)] (And.intro (y_d g (k:Int) R (y::r) h1 h2 h3 (by omega)) ?_))
        refine sd ?_
        exact rfl
    ·have hh:holdB ri ob day g=false:=by simpa using hh
     rw [hh] at c108_
     have hi:endH l G ri ob of w day n j D F G 0 R0 ([]:List Way)=endH l G ri ob of w day n j D F (G.drop (k+1)) ((k:Int)+1) R (y::r):=by rw [hi,hh]; rfl
     have fin:=fin hi
     refine sd ?_
     refine b_lt (fun t1=>?_) (fun t1=>?_)
     refine ix_at hx1 ?_ ?_
     (show (0:Int)≤(↑k:Int); omega)
     refine ca c108_ ?_
     refine sd ?_
     refine ar_add ?_ ?_
     refine an ?_ ?_
     (show (-9223372036854775808:Int)≤(↑k:Int)+(1:Int); omega)
     (show (↑k:Int)+(1:Int)≤(9223372036854775807:Int); omega)
     rotate_left
     (exfalso; omega)
     all_goals exact fin
  ·have e:k=G.length:=by omega
   subst e
   rw [List.drop_eq_nil_of_le (Nat.le_refl _)] at hi
   rw [hi]
   cases N with
   | nil =>
    refine sd ?_
    refine b_lt (fun t1=>?_) (fun t1=>?_)
    (exfalso; omega)
    refine sd ?_
    exact rfl
   | cons y r =>
    refine sd ?_
    refine b_lt (fun t1=>?_) (fun t1=>?_)
    (exfalso; omega)
    refine sd ?_
    exact rfl
 | cons y0 r0 =>
  refine loop_st (fun p:Nat × List Nm × List Way=>⟨[(0,.yld 8),(1,.cp [.slice 2 (obs l),.slice 6 (grs G),.str ri,.str ob] 0),(2,.cp [.int .i64 day] 0),(8,.d (.slice 6 (grs G))),(9,.d (.int .i64 (((grs G).length:Nat):Int))),(10,.d (.int .i64 ((p.1:Nat))))],(HP l G ri ob of w (KM p.2.1) (.nils 1) (nx p.2.2) (lp102 .ready none day D n j F) .none .none .none (nxo p.2.2) .none)⟩) (fun p=>(p.1≤G.length∧p.2.2.length≤500+p.1)∧endH l G ri ob of w day n j D F G 0 R0 (y0::r0)=endH l G ri ob of w day n j D F (G.drop p.1) (p.1:Int) p.2.1 p.2.2) (fun p=>G.length - p.1) (0,R0,(y0::r0)) rfl ⟨⟨Nat.zero_le _,by show (y0::r0).length≤500+0; omega⟩,rfl⟩ ?_
  rintro ⟨k,R,N⟩ ⟨⟨hk,hNk⟩,hi⟩
  have hk:k≤G.length:=hk
  have hNk:N.length≤500+k:=hNk
  have hi:endH l G ri ob of w day n j D F G 0 R0 (y0::r0)=endH l G ri ob of w day n j D F (G.drop k) (k:Int) R N:=hi
  dsimp only
  by_cases hkn:k < G.length
  ·refine Exists.elim (get_lt G hkn) fun g hx=>?_
   have hx1:=grs_at hx
   have c108_:=c108 l G g ri ob day
   rw [drop_at hx,endH] at hi
   have fin:endH l G ri ob of w day n j D F G 0 R0 (y0::r0)=endH l G ri ob of w day n j D F (G.drop (k+1)) ((k:Int)+1) R N→∃ a':Nat × List Nm × List Way,(((a'.1≤G.length∧a'.2.2.length≤500+a'.1)∧endH l G ri ob of w day n j D F G 0 R0 (y0::r0)=endH l G ri ob of w day n j D F (G.drop a'.1) (a'.1:Int) a'.2.1 a'.2.2)∧G.length - a'.1 < G.length - k)∧(⟨[(0,.yld 8),(1,.cp [.slice 2 (obs l),.slice 6 (grs G),.str ri,.str ob] 0),(2,.cp [.int .i64 day] 0),(8,.d (.slice 6 (grs G))),(9,.d (.int .i64 (((grs G).length:Nat):Int))),(10,.d (.int .i64 (((k:Int)+1))))],(HP l G ri ob of w (KM R) (.nils 1) (nx N) (lp102 .ready none day D n j F) .none .none .none (nxo N) .none)⟩:St)=⟨[(0,.yld 8),(1,.cp [.slice 2 (obs l),.slice 6 (grs G),.str ri,.str ob] 0),(2,.cp [.int .i64 day] 0),(8,.d (.slice 6 (grs G))),(9,.d (.int .i64 (((grs G).length:Nat):Int))),(10,.d (.int .i64 ((a'.1:Nat))))],(HP l G ri ob of w (KM a'.2.1) (.nils 1) (nx a'.2.2) (lp102 .ready none day D n j F) .none .none .none (nxo a'.2.2) .none)⟩:=fun h=>⟨(k+1,R,N),⟨⟨⟨by show k+1≤G.length; omega,by show N.length≤500+(k+1); omega⟩,h⟩,by show G.length - (k+1) < G.length - k; omega⟩,rfl⟩
   have fin2:endH l G ri ob of w day n j D F G 0 R0 (y0::r0)=endH l G ri ob of w day n j D F (G.drop (k+1)) ((k:Int)+1) (R++[g.to]) (N++[(w.1++[(k:Int)],g.to)])→∃ a':Nat × List Nm × List Way,(((a'.1≤G.length∧a'.2.2.length≤500+a'.1)∧endH l G ri ob of w day n j D F G 0 R0 (y0::r0)=endH l G ri ob of w day n j D F (G.drop a'.1) (a'.1:Int) a'.2.1 a'.2.2)∧G.length - a'.1 < G.length - k)∧(⟨[(0,.yld 8),(1,.cp [.slice 2 (obs l),.slice 6 (grs G),.str ri,.str ob] 0),(2,.cp [.int .i64 day] 0),(8,.d (.slice 6 (grs G))),(9,.d (.int .i64 (((grs G).length:Nat):Int))),(10,.d (.int .i64 (((k:Int)+1))))],(HP l G ri ob of w (KM (R++[g.to])) (.nils 1) (nx (N++[(w.1++[(k:Int)],g.to)])) (lp102 .ready none day D n j F) .none .none .none (nxo (N++[(w.1++[(k:Int)],g.to)])) .none)⟩:St)=⟨[(0,.yld 8),(1,.cp [.slice 2 (obs l),.slice 6 (grs G),.str ri,.str ob] 0),(2,.cp [.int .i64 day] 0),(8,.d (.slice 6 (grs G))),(9,.d (.int .i64 (((grs G).length:Nat):Int))),(10,.d (.int .i64 ((a'.1:Nat))))],(HP l G ri ob of w (KM a'.2.1) (.nils 1) (nx a'.2.2) (lp102 .ready none day D n j F) .none .none .none (nxo a'.2.2) .none)⟩:=fun h=>⟨(k+1,R++[g.to],N++[(w.1++[(k:Int)],g.to)]),⟨⟨⟨by show k+1≤G.length; omega,by show (N++[(w.1++[(k:Int)],g.to)]).length≤500+(k+1); rw [List.length_append]; show N.length+1≤_; omega⟩,h⟩,by show G.length - (k+1) < G.length - k; omega⟩,rfl⟩
   have hNk:N.length≤1000:=by omega
   cases N with
   | nil =>
    by_cases hh:holdB ri ob day g=true
    ·rw [hh] at c108_
     cases h1:(g.fr != w.2) with
     | true =>
      have he:(g.fr==w.2)=false:=by simpa [bne] using h1
      have hi:endH l G ri ob of w day n j D F G 0 R0 (y0::r0)=endH l G ri ob of w day n j D F (G.drop (k+1)) ((k:Int)+1) R []:=by rw [hi,hh,he]; rfl
      have fin:=fin hi
      refine sd ?_
      refine b_lt (fun t1=>?_) (fun t1=>?_)
      refine ix_at hx1 ?_ ?_
      (show (0:Int)≤(↑k:Int); omega)
      refine ca c108_ ?_
      rotate_left
      (exfalso; omega)
      refine Exists.intro (.d (.bool true)) (Exists.intro [] (And.intro (y_a g (k:Int) R [] h1) ?_))
      refine ar_add ?_ ?_
      refine an ?_ ?_
      (show (-9223372036854775808:Int)≤(↑k:Int)+(1:Int); omega)
      (show (↑k:Int)+(1:Int)≤(9223372036854775807:Int); omega)
      rotate_left
      all_goals exact fin
     | false =>
      have he:(g.fr==w.2)=true:=by simpa [bne] using h1
      cases h2:R.contains g.to with
      | true =>
       have hi:endH l G ri ob of w day n j D F G 0 R0 (y0::r0)=endH l G ri ob of w day n j D F (G.drop (k+1)) ((k:Int)+1) R []:=by rw [hi,hh,he,h2]; rfl
       have fin:=fin hi
       refine sd ?_
       refine b_lt (fun t1=>?_) (fun t1=>?_)
       refine ix_at hx1 ?_ ?_
       (show (0:Int)≤(↑k:Int); omega)
       refine ca c108_ ?_
       rotate_left
       (exfalso; omega)
       refine Exists.intro (.d (.bool true)) (Exists.intro [] (And.intro (y_b g (k:Int) R [] h1 h2) ?_))
       refine ar_add ?_ ?_
       refine an ?_ ?_
       (show (-9223372036854775808:Int)≤(↑k:Int)+(1:Int); omega)
       (show (↑k:Int)+(1:Int)≤(9223372036854775807:Int); omega)
       rotate_left
       all_goals exact fin
      | false =>
       cases h3:(g.to==of) with
       | false =>
        have hi:endH l G ri ob of w day n j D F G 0 R0 (y0::r0)=endH l G ri ob of w day n j D F (G.drop (k+1)) ((k:Int)+1) (R++[g.to]) ([]++[(w.1++[(k:Int)],g.to)]):=by rw [hi,hh,he,h2,h3]; rfl
        have fin:=fin2 hi
        refine sd ?_
        refine b_lt (fun t1=>?_) (fun t1=>?_)
        refine ix_at hx1 ?_ ?_
        (show (0:Int)≤(↑k:Int); omega)
        refine ca c108_ ?_
        rotate_left
        (exfalso; omega)
        refine Exists.intro (.d (.bool true)) (Exists.intro [(2,.mapo (KM (R++[g.to]))),(6,.box [nx ([]++[(w.1++[(k:Int)],g.to)])]),(13,nxo ([]++[(w.1++[(k:Int)],g.to)]))] (And.intro (y_c g (k:Int) R [] h1 h2 h3 (by omega) hNk) ?_))
        refine ar_add ?_ ?_
        refine an ?_ ?_
        (show (-9223372036854775808:Int)≤(↑k:Int)+(1:Int); omega)
        (show (↑k:Int)+(1:Int)≤(9223372036854775807:Int); omega)
        rotate_left
        all_goals exact fin
       | true =>
        have hi:endH l G ri ob of w day n j D F G 0 R0 (y0::r0)=(HP l G ri ob of w (KM R) (.sl 11 (ints w.1++[Data.int .i64 (k:Int)]).length) (nx []) (lp102 .done (some (.exit 0)) day D n j F) (.box [.d (.str g.fr),.d (.str g.to),.d (.str g.ri),.d (.str g.ob),.d (.int .i64 g.a),.d (.int .i64 g.b)]) (.row 3 1 [.int .i64 (k:Int)] false) (.row 3 1 (ints w.1++[Data.int .i64 (k:Int)]) false) (nxo []) (.box [.d (.str g.fr),.d (.str g.to),.d (.str g.ri),.d (.str g.ob),.d (.int .i64 g.a),.d (.int .i64 g.b)])):=by rw [hi,hh,he,h2,h3]; rfl
        rw [hi]
        refine sd ?_
        refine b_lt (fun t1=>?_) (fun t1=>?_)
        refine ix_at hx1 ?_ ?_
        (show (0:Int)≤(↑k:Int); omega)
        refine ca c108_ ?_
        rotate_left
        (exfalso; omega)
        refine Exists.intro (.d (.bool false)) (Exists.intro [(5,.box [.sl 11 (ints w.1++[Data.int .i64 (k:Int)]).length]),(8,lp102 .done (some (.exit 0)) day D n j F),(9,.box [.d (.str g.fr),.d (.str g.to),.d (.str g.ri),.d (.str g.ob),.d (.int .i64 g.a),.d (.int .i64 g.b)]),(10,.row 3 1 [.int .i64 (k:Int)] false),(11,.row 3 1 (ints w.1++[Data.int .i64 (k:Int)]) false)] (And.intro (y_d g (k:Int) R [] h1 h2 h3 (by omega)) ?_))
        refine sd ?_
        exact rfl
    ·have hh:holdB ri ob day g=false:=by simpa using hh
     rw [hh] at c108_
     have hi:endH l G ri ob of w day n j D F G 0 R0 (y0::r0)=endH l G ri ob of w day n j D F (G.drop (k+1)) ((k:Int)+1) R []:=by rw [hi,hh]; rfl
     have fin:=fin hi
     refine sd ?_
     refine b_lt (fun t1=>?_) (fun t1=>?_)
     refine ix_at hx1 ?_ ?_
     (show (0:Int)≤(↑k:Int); omega)
     refine ca c108_ ?_
     refine sd ?_
     refine ar_add ?_ ?_
     refine an ?_ ?_
     (show (-9223372036854775808:Int)≤(↑k:Int)+(1:Int); omega)
     (show (↑k:Int)+(1:Int)≤(9223372036854775807:Int); omega)
     rotate_left
     (exfalso; omega)
     all_goals exact fin
   | cons y r =>
    by_cases hh:holdB ri ob day g=true
    ·rw [hh] at c108_
     cases h1:(g.fr != w.2) with
     | true =>
      have he:(g.fr==w.2)=false:=by simpa [bne] using h1
      have hi:endH l G ri ob of w day n j D F G 0 R0 (y0::r0)=endH l G ri ob of w day n j D F (G.drop (k+1)) ((k:Int)+1) R (y::r):=by rw [hi,hh,he]; rfl
      have fin:=fin hi
      refine sd ?_
      refine b_lt (fun t1=>?_) (fun t1=>?_)
      refine ix_at hx1 ?_ ?_
      (show (0:Int)≤(↑k:Int); omega)
      refine ca c108_ ?_
      rotate_left
      (exfalso; omega)
      refine Exists.intro (.d (.bool true)) (Exists.intro [] (And.intro (y_a g (k:Int) R (y::r) h1) ?_))
      refine ar_add ?_ ?_
      refine an ?_ ?_
      (show (-9223372036854775808:Int)≤(↑k:Int)+(1:Int); omega)
      (show (↑k:Int)+(1:Int)≤(9223372036854775807:Int); omega)
      rotate_left
      all_goals exact fin
     | false =>
      have he:(g.fr==w.2)=true:=by simpa [bne] using h1
      cases h2:R.contains g.to with
      | true =>
       have hi:endH l G ri ob of w day n j D F G 0 R0 (y0::r0)=endH l G ri ob of w day n j D F (G.drop (k+1)) ((k:Int)+1) R (y::r):=by rw [hi,hh,he,h2]; rfl
       have fin:=fin hi
       refine sd ?_
       refine b_lt (fun t1=>?_) (fun t1=>?_)
       refine ix_at hx1 ?_ ?_
       (show (0:Int)≤(↑k:Int); omega)
       refine ca c108_ ?_
       rotate_left
       (exfalso; omega)
       refine Exists.intro (.d (.bool true)) (Exists.intro [] (And.intro (y_b g (k:Int) R (y::r) h1 h2) ?_))
       refine ar_add ?_ ?_
       refine an ?_ ?_
       (show (-9223372036854775808:Int)≤(↑k:Int)+(1:Int); omega)
       (show (↑k:Int)+(1:Int)≤(9223372036854775807:Int); omega)
       rotate_left
       all_goals exact fin
      | false =>
       cases h3:(g.to==of) with
       | false =>
        have hi:endH l G ri ob of w day n j D F G 0 R0 (y0::r0)=endH l G ri ob of w day n j D F (G.drop (k+1)) ((k:Int)+1) (R++[g.to]) ((y::r)++[(w.1++[(k:Int)],g.to)]):=by rw [hi,hh,he,h2,h3]; rfl
        have fin:=fin2 hi
        refine sd ?_
        refine b_lt (fun t1=>?_) (fun t1=>?_)
        refine ix_at hx1 ?_ ?_
        (show (0:Int)≤(↑k:Int); omega)
        refine ca c108_ ?_
        rotate_left
        (exfalso; omega)
        refine Exists.intro (.d (.bool true)) (Exists.intro [(2,.mapo (KM (R++[g.to]))),(6,.box [nx ((y::r)++[(w.1++[(k:Int)],g.to)])]),(13,nxo ((y::r)++[(w.1++[(k:Int)],g.to)]))] (And.intro (y_c g (k:Int) R (y::r) h1 h2 h3 (by omega) hNk) ?_))
        refine ar_add ?_ ?_
        refine an ?_ ?_
        (show (-9223372036854775808:Int)≤(↑k:Int)+(1:Int); omega)
        (show (↑k:Int)+(1:Int)≤(9223372036854775807:Int); omega)
        rotate_left
        all_goals exact fin
       | true =>
        have hi:endH l G ri ob of w day n j D F G 0 R0 (y0::r0)=(HP l G ri ob of w (KM R) (.sl 11 (ints w.1++[Data.int .i64 (k:Int)]).length) (nx (y::r)) (lp102 .done (some (.exit 0)) day D n j F) (.box [.d (.str g.fr),.d (.str g.to),.d (.str g.ri),.d (.str g.ob),.d (.int .i64 g.a),.d (.int .i64 g.b)]) (.row 3 1 [.int .i64 (k:Int)] false) (.row 3 1 (ints w.1++[Data.int .i64 (k:Int)]) false) (nxo (y::r)) (.box [.d (.str g.fr),.d (.str g.to),.d (.str g.ri),.d (.str g.ob),.d (.int .i64 g.a),.d (.int .i64 g.b)])):=by rw [hi,hh,he,h2,h3]; rfl
        rw [hi]
        refine sd ?_
        refine b_lt (fun t1=>?_) (fun t1=>?_)
        refine ix_at hx1 ?_ ?_
        (show (0:Int)≤(↑k:Int); omega)
        refine ca c108_ ?_
        rotate_left
        (exfalso; omega)
        refine Exists.intro (.d (.bool false)) (Exists.intro [(5,.box [.sl 11 (ints w.1++[Data.int .i64 (k:Int)]).length]),(8,lp102 .done (some (.exit 0)) day D n j F),(9,.box [.d (.str g.fr),.d (.str g.to),.d (.str g.ri),.d (.str g.ob),.d (.int .i64 g.a),.d (.int .i64 g.b)]),(10,.row 3 1 [.int .i64 (k:Int)] false),(11,.row 3 1 (ints w.1++[Data.int .i64 (k:Int)]) false)] (And.intro (y_d g (k:Int) R (y::r) h1 h2 h3 (by omega)) ?_))
        refine sd ?_
        exact rfl
    ·have hh:holdB ri ob day g=false:=by simpa using hh
     rw [hh] at c108_
     have hi:endH l G ri ob of w day n j D F G 0 R0 (y0::r0)=endH l G ri ob of w day n j D F (G.drop (k+1)) ((k:Int)+1) R (y::r):=by rw [hi,hh]; rfl
     have fin:=fin hi
     refine sd ?_
     refine b_lt (fun t1=>?_) (fun t1=>?_)
     refine ix_at hx1 ?_ ?_
     (show (0:Int)≤(↑k:Int); omega)
     refine ca c108_ ?_
     refine sd ?_
     refine ar_add ?_ ?_
     refine an ?_ ?_
     (show (-9223372036854775808:Int)≤(↑k:Int)+(1:Int); omega)
     (show (↑k:Int)+(1:Int)≤(9223372036854775807:Int); omega)
     rotate_left
     (exfalso; omega)
     all_goals exact fin
  ·have e:k=G.length:=by omega
   subst e
   rw [List.drop_eq_nil_of_le (Nat.le_refl _)] at hi
   rw [hi]
   cases N with
   | nil =>
    refine sd ?_
    refine b_lt (fun t1=>?_) (fun t1=>?_)
    (exfalso; omega)
    refine sd ?_
    exact rfl
   | cons y r =>
    refine sd ?_
    refine b_lt (fun t1=>?_) (fun t1=>?_)
    (exfalso; omega)
    refine sd ?_
    exact rfl
end
end Vc
