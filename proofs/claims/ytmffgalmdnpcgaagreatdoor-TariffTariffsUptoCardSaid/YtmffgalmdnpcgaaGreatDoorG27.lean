import Derived.Test.YtmffgalmdnpcgaaGreatDoorG26
set_option linter.unusedSectionVars false
set_option linter.unusedVariables false
set_option linter.unusedSimpArgs false
set_option maxRecDepth 10000
set_option maxHeartbeats 4000000
namespace Vc
open Go Go.Proofs
def xa34:ACode:=(.reg [] [⟨some 10,.mov (.tmp 38),none⟩])
def xb34 : ACode := (.post [] [6, 7, 8, 9]
      (.block 1
      (.seq
       (.reg [6] [⟨some 40,.ld true 2 (.tmp 3),none⟩,
        ⟨some 41,.mov (.tmp 10),none⟩,
        ⟨some 42,.call 113 [(.tmp 40),(.tmp 41)],none⟩,
        ⟨some 39,.mov (.tmp 42),none⟩,
        ⟨some 43,.ext 0 (.tmp 39),none⟩,
        ⟨some 44,.ext 1 (.tmp 39),none⟩,
        ⟨some 11,.alloc 6 [(.d (.int .i64 0)),(.d (.int .i64 0)),(.d (.int .i64 0))],none⟩,
        ⟨none,.st 3 (.tmp 11) (.tmp 43),none⟩,
        ⟨some 12,.mov (.tmp 44),none⟩])
       (.seq
       (.reg [7] [⟨some 46,.ld true 2 (.tmp 3),none⟩,
        ⟨some 47,.mov (.tmp 10),none⟩,
        ⟨some 48,.arith .sub .i64 (.tmp 47) (.cst (.d (.int .i64 1))),none⟩,
        ⟨some 49,.call 113 [(.tmp 46),(.tmp 48)],none⟩,
        ⟨some 45,.mov (.tmp 49),none⟩,
        ⟨some 50,.ext 0 (.tmp 45),none⟩,
        ⟨some 51,.ext 1 (.tmp 45),none⟩,
        ⟨some 13,.alloc 7 [(.d (.int .i64 0)),(.d (.int .i64 0)),(.d (.int .i64 0))],none⟩,
        ⟨none,.st 3 (.tmp 13) (.tmp 50),none⟩,
        ⟨some 14,.mov (.tmp 51),none⟩])
       (.seq
        (.seq
        (.reg [] [⟨some 52,.mov (.tmp 12),none⟩,
         ⟨some 53,.mov (.tmp 14),none⟩,
         ⟨some 54,.beq false (.tmp 52) (.tmp 53),none⟩,
         ⟨some 55,.mov (.tmp 54),none⟩,
         ⟨some 56,.ld true 3 (.tmp 11),some (55,true)⟩,
         ⟨some 57,.ld true 3 (.tmp 13),some (55,true)⟩,
         ⟨some 58,.aeq false [0,0,0] (.tmp 56) (.tmp 57),some (55,true)⟩,
         ⟨some 59,.pick (.tmp 55) (.tmp 58) (.cst (.d (.bool false))),none⟩])
        (.cond (.tmp 59)
         (.exit 1)
         .skip))
        (.seq
        (.seq
         (.reg [] [⟨some 60,.ld false 1 (.tmp 9),none⟩,
          ⟨some 61,.len (.tmp 60),none⟩,
          ⟨some 62,.cmp .eql (.tmp 61) (.cst (.d (.int .i64 256))),none⟩])
         (.cond (.tmp 62)
         (.seq
          (.reg [] [⟨none,.st 1 (.tmp 6) (.cst (.nils 1)),none⟩,
           ⟨none,.st 1 (.tmp 7) (.cst (.d (.int .i64 5))),none⟩])
          .ret)
         .skip))
        (.reg [8,9] [⟨some 63,.ld false 1 (.tmp 9),none⟩,
         ⟨some 64,.mov (.tmp 10),none⟩,
         ⟨some 65,.bsl 8 3 1 1 [(.int .i64 0)] [(0,(.tmp 64))],none⟩,
         ⟨some 66,.app 9 3 1 8 (.tmp 63) (.tmp 65),none⟩,
         ⟨none,.st 1 (.tmp 9) (.tmp 66),none⟩])))))))
def jr34:AFun:=⟨68,13,[.cell 6 1 false,.cell 7 1 false],
 (.seq
 (.reg [0,1,2] [⟨some 3,.cbx 0 2 (.tmp 0),none⟩,
  ⟨some 6,.alloc 1 [(.nils 1)],none⟩,
  ⟨some 7,.alloc 2 [(.d (.int .i64 0))],none⟩])
 (.seq
  (.seq
  (.reg [3] [⟨some 15,.ld true 2 (.tmp 3),none⟩,
   ⟨some 16,.call 31 [(.tmp 15)],none⟩,
   ⟨some 17,.mov (.tmp 1),none⟩,
   ⟨some 18,.call 112 [(.tmp 17)],none⟩,
   ⟨some 19,.mov (.tmp 2),none⟩,
   ⟨some 20,.call 112 [(.tmp 19)],none⟩,
   ⟨some 21,.mov (.tmp 1),none⟩,
   ⟨some 22,.mov (.tmp 2),none⟩,
   ⟨some 23,.cmp .geq (.tmp 21) (.tmp 22),none⟩,
   ⟨some 24,.call 111 [(.tmp 23),(.cst (.d (.int .i64 14)))],none⟩,
   ⟨some 25,.bsl 3 34 1 4 [(.int .i64 0),(.int .i64 0),(.int .i64 0),(.int .i64 0)] [(0,(.tmp 16)),(1,(.tmp 18)),(2,(.tmp 20)),(3,(.tmp 24))],none⟩,
   ⟨some 26,.call 96 [(.tmp 25)],none⟩,
   ⟨some 8,.mov (.tmp 26),none⟩])
  (.seq
   (.reg [] [⟨some 27,.mov (.tmp 8),none⟩,
    ⟨some 28,.cmp .neq (.tmp 27) (.cst (.d (.int .i64 0))),none⟩])
   (.cond (.tmp 28)
   (.seq
    (.reg [] [⟨some 29,.mov (.tmp 8),none⟩,
     ⟨none,.st 1 (.tmp 6) (.cst (.nils 1)),none⟩,
     ⟨none,.st 1 (.tmp 7) (.tmp 29),none⟩])
    .ret)
   .skip)))
  (.seq
  (.seq
   (.reg [] [⟨some 30,.mov (.tmp 2),none⟩,
    ⟨some 31,.mov (.tmp 1),none⟩,
    ⟨some 32,.arith .sub .i64 (.tmp 30) (.tmp 31),none⟩,
    ⟨some 33,.cmp .gtr (.tmp 32) (.cst (.d (.int .i64 691200))),none⟩])
   (.cond (.tmp 33)
   (.seq
    (.reg [] [⟨none,.st 1 (.tmp 6) (.cst (.nils 1)),none⟩,
     ⟨none,.st 1 (.tmp 7) (.cst (.d (.int .i64 4))),none⟩])
    .ret)
   .skip))
  (.seq
   (.reg [4] [⟨some 9,.alloc 4 [(.nils 1)],none⟩])
   (.seq
   (.seq
    (.reg [] [⟨some 34,.ld true 2 (.tmp 3),none⟩,
     ⟨some 35,.mov (.tmp 1),none⟩,
     ⟨some 36,.mov (.tmp 2),none⟩,
     ⟨some 37,.call 114 [(.tmp 34),(.tmp 35),(.tmp 36)],none⟩])
    (.block 0
    (.keep [3,6,7,9,37] [0,1,2,3,4]
     (.rfor 5 (.tmp 37) [38]
     xa34
     xb34))))
   (.seq
    (.reg [] [⟨some 67,.ld false 1 (.tmp 9),none⟩,
     ⟨none,.st 1 (.tmp 6) (.tmp 67),none⟩,
     ⟨none,.st 1 (.tmp 7) (.cst (.d (.int .i64 0))),none⟩])
    .ret))))))⟩
def jr114:AFun:=⟨8,3,[.tmp 6],
 (.seq
 (.reg [0,1,2] [⟨some 3,.cbx 0 2 (.tmp 0),none⟩,
  ⟨some 4,.cbx 1 1 (.tmp 1),none⟩,
  ⟨some 5,.cbx 2 1 (.tmp 2),none⟩,
  ⟨some 6,.mov (.cst .undef),none⟩])
 (.seq
  (.reg [] [⟨some 7,.mkf (.func 167) [] [(.tmp 4),(.tmp 5),(.tmp 3)],none⟩,
   ⟨some 6,.mov (.tmp 7),none⟩])
  .ret))⟩
def jr168:AFun:=⟨22,3,[.tmp 4],
 (.seq
 (.reg [] [⟨some 4,.mov (.cst (.nils 1)),none⟩])
 (.seq
  (.reg [] [⟨some 5,.mov (.cst (.nils 1)),none⟩])
  (.seq
  (.seq
   (.reg [] [⟨some 8,.mov (.tmp 0),none⟩,
    ⟨some 9,.len (.tmp 8),none⟩,
    ⟨some 10,.mov (.cst (.d (.int .i64 0))),none⟩])
   (.post [5] [0,1,2]
   (.block 0
    (.asrow 2 3 1 5
    (.keep [1,5,8,9,10] []
     (.loop
     (.post [1,5,8,9,10] [0,1,2]
      (.seq
      (.reg [] [⟨some 11,.cmp .lss (.tmp 10) (.tmp 9),none⟩])
      (.seq
       (.cond (.tmp 11)
       .skip
       (.exit 0))
       (.seq
       (.block 1
        (.seq
        (.reg [0] [⟨some 12,.ixa 2 (.tmp 8) (.tmp 10),none⟩,
         ⟨some 13,.ld true 2 (.tmp 12),none⟩,
         ⟨some 7,.alloc 0 [(.d (.int .i64 0)),(.d (.int .i64 0))],none⟩,
         ⟨none,.st 2 (.tmp 7) (.tmp 13),none⟩])
        (.reg [1,2] [⟨some 14,.mov (.tmp 5),none⟩,
         ⟨some 15,.mov (.tmp 1),none⟩,
         ⟨some 16,.ld true 2 (.tmp 7),none⟩,
         ⟨some 17,.callv (.tmp 15) [(.tmp 16)],none⟩,
         ⟨some 18,.bsl 1 3 1 1 [(.int .i64 0)] [(0,(.tmp 17))],none⟩,
         ⟨some 19,.app 2 3 1 8 (.tmp 14) (.tmp 18),none⟩,
         ⟨some 5,.mov (.tmp 19),none⟩])))
       (.reg [] [⟨some 20,.arith .add .i64 (.tmp 10) (.cst (.d (.int .i64 1))),none⟩,
        ⟨some 10,.mov (.tmp 20),none⟩])))))))))))
  (.seq
   (.reg [] [⟨some 21,.mov (.tmp 5),none⟩,
    ⟨some 4,.mov (.tmp 21),none⟩])
   .ret))))⟩
def jr169:AFun:=⟨5,1,[.tmp 2],
 (.seq
 (.reg [0] [⟨some 1,.cbx 0 2 (.tmp 0),none⟩,
  ⟨some 2,.mov (.cst (.d (.int .i64 0))),none⟩])
 (.seq
  (.reg [] [⟨some 3,.fad 0 (.tmp 1),none⟩,
   ⟨some 4,.ld false 1 (.tmp 3),none⟩,
   ⟨some 2,.mov (.tmp 4),none⟩])
  .ret))⟩
theorem c169 (x:Int × Int):CallDet Tryz.prog 169 [.d (.agg [.int .i64 x.1,.int .i64 x.2])] [.int .i64 x.1]:=by
 refine call_of_vc (x:=jr169) (by kernel_rfl) rfl ?_
 exact rfl
theorem c168 (l:List (Int × Int)) (hl:l.length≤1048576):CallDet Tryz.prog 168 [.d (.slice 2 (sws l)),.d (.fn (.func 169) [])] [.slice 1 (ints (l.map (·.1)))]:=by
 have hlen:(sws l).length=l.length:=List.length_map _
 refine call_of_vc (x:=jr168) (by kernel_rfl) rfl ?_
 refine loop_st (fun k:Nat=>⟨[(1,.d (.fn (.func 169) [])),(5,.sl 2 (ints ((l.take k).map (·.1))).length),(8,.d (.slice 2 (sws l))),(9,.d (.int .i64 (((sws l).length:Nat):Int))),(10,.d (.int .i64 ((k:Nat))))],[.none,.none,.row 3 1 (ints ((l.take k).map (·.1))) false]⟩) (fun k=>k≤l.length) (fun k=>l.length - k) 0 rfl (Nat.zero_le _) ?_
 rintro k hk
 have hk:k≤l.length:=hk
 have hDl:(ints ((l.take k).map (·.1))).length=k:=by simp [ints,sws,tys,seas]; omega
 dsimp only
 by_cases hkn:k < l.length
 ·refine Exists.elim (get_lt l hkn) fun x hx=>?_
  have hx1:=sws_at hx
  have c169_:=c169 x
  have fin:∃ a':Nat,(a'≤l.length∧l.length - a' < l.length - k)∧(⟨[(1,.d (.fn (.func 169) [])),(5,.sl 2 (ints ((l.take k).map (·.1))++[Data.int .i64 x.1]).length),(8,.d (.slice 2 (sws l))),(9,.d (.int .i64 (((sws l).length:Nat):Int))),(10,.d (.int .i64 ((k:Int)+1)))],[.none,.none,.row 3 1 (ints ((l.take k).map (·.1))++[Data.int .i64 x.1]) false]⟩:St)=⟨[(1,.d (.fn (.func 169) [])),(5,.sl 2 (ints ((l.take a').map (·.1))).length),(8,.d (.slice 2 (sws l))),(9,.d (.int .i64 (((sws l).length:Nat):Int))),(10,.d (.int .i64 ((a':Nat))))],[.none,.none,.row 3 1 (ints ((l.take a').map (·.1))) false]⟩:=⟨k+1,⟨by omega,by omega⟩,by rw [take_map_succ (fun x:Int × Int=>x.1) hx,← ints_snoc]; rfl⟩
  refine sd ?_
  refine b_lt (fun t1=>?_) (fun t1=>?_)
  refine ix_at hx1 ?_ ?_
  (show (0:Int)≤(↑k:Int); omega)
  refine ca c169_ ?_
  refine sd ?_
  refine sd ?_
  refine sd ?_
  refine an ?_ ?_
  refine an ?_ ?_
  exact rfl
  refine an ?_ ?_
  exact rfl
  refine an ?_ ?_
  exact rfl
  refine an ?_ ?_
  (show (List.length (ints (List.map (fun x=>Prod.fst x) (List.take k l)))+(1:Nat)) * (8:Nat)≤(2:Nat) ^ (47:Nat); omega)
  (show List.length (ints (List.map (fun x=>Prod.fst x) (List.take k l)))+(1:Nat)≤(2:Nat) ^ (47:Nat); omega)
  refine ar_add ?_ ?_
  refine an ?_ ?_
  (show (-9223372036854775808:Int)≤(↑k:Int)+(1:Int); omega)
  (show (↑k:Int)+(1:Int)≤(9223372036854775807:Int); omega)
  rotate_left
  (exfalso; omega)
  all_goals exact fin
 ·have e:k=l.length:=by omega
  subst e
  rw [List.take_length]
  refine sd ?_
  refine b_lt (fun t1=>?_) (fun t1=>?_)
  (exfalso; omega)
  refine sd ?_
  exact rfl
def nx7 (N:List Int):AVal:=match N with | []=>.nils 1 | _::_=>.sl 9 (ints N).length
def nxo7 (N:List Int):AObj:=match N with | []=>.none | _::_=>.row 3 1 (ints N) false
def sl34 (F:Data):List (Nat × AVal):=[(3,.ptr 0 0),(6,.ptr 1 0),(7,.ptr 2 0),(9,.ptr 4 0),(37,.d F)]
noncomputable def lp34 (s:LoopState) (pd:Option AJump) (F:Data):AObj:=.lp s pd 68 (sl34 F) [38] xa34 xb34 (ckP Tryz.prog 68 xa34 xb34)
def HP7 (no:Int) (l:List Vr) (lp:AObj) (c:AVal) (o:AObj):List AObj:=[.cbox [.int .i64 no,.slice 6 (vrs l)],.box [.nils 1],.box [.d (.int .i64 0)],.none,.box [c],lp,.none,.none,.none,o,.none,.none,.none]
def HS7 (no:Int) (l:List Vr) (lp:AObj) (c:AVal) (o:AObj) (x y:List AVal):List AObj:=[.cbox [.int .i64 no,.slice 6 (vrs l)],.box [.nils 1],.box [.d (.int .i64 5)],.none,.box [c],lp,.box x,.box y,.none,o,.none,.none,.none]
theorem ints_len (l:List Int):(ints l).length=l.length:=List.length_map _
section
variable {no : Int} {l : List Vr} {F : Data}
theorem y7_a (t : Int) (R : List Int) {i n q i' n' q' : Int} {s : Bool} (ht : 1 ≤ t ∧ t ≤ 100000000) (h : (i == i' && (n == n' && (q == q' && true))) = true)
  (c113_1:CallDet Tryz.prog 113 [.d (.agg [.int .i64 no,.slice 6 (vrs l)]),.d (.int .i64 t)] [.agg [.int .i64 i,.int .i64 n,.int .i64 q],.bool s])
  (c113_2:CallDet Tryz.prog 113 [.d (.agg [.int .i64 no,.slice 6 (vrs l)]),.d (.int .i64 (t - 1))] [.agg [.int .i64 i',.int .i64 n',.int .i64 q'],.bool s]) :
  YieldIn Tryz.prog 5 [.d (.int .i64 t)] (HP7 no l (lp34 .ready none F) (nx7 R) (nxo7 R)) (.d (.bool true)) (HP7 no l (lp34 .ready none F) (nx7 R) (nxo7 R)):=by
 cases s
 ·cases R with
  | nil =>
   have hb:nx7 ([]:List Int)=.nils 1:=rfl
   have hb2:nxo7 ([]:List Int)=.none:=rfl
   rw [hb,hb2]
   refine yieldIn_of_vc (m:=68) (ps:=[38]) (xa:=xa34) (xb:=xb34) (sl:=sl34 F) rfl rfl rfl rfl rfl rfl ?_
   refine ca c113_1 ?_
   refine ar_sub ?_ ?_
   refine an ?_ ?_
   (show (-9223372036854775808:Int)≤t - (1:Int); omega)
   (show t - (1:Int)≤(9223372036854775807:Int); omega)
   refine ca c113_2 ?_
   refine ca (Exists.intro _ (And.intro rfl rfl)) ?_
   refine b_t h ?_
   refine sd ?_
   exact rfl
  | cons y r =>
   have hb:nx7 (y::r)=.sl 9 (ints (y::r)).length:=rfl
   have hb2:nxo7 (y::r)=.row 3 1 (ints (y::r)) false:=rfl
   rw [hb,hb2]
   clear hb hb2
   generalize ints (y::r)=W at *
   refine yieldIn_of_vc (m:=68) (ps:=[38]) (xa:=xa34) (xb:=xb34) (sl:=sl34 F) rfl rfl rfl rfl rfl rfl ?_
   refine ca c113_1 ?_
   refine ar_sub ?_ ?_
   refine an ?_ ?_
   (show (-9223372036854775808:Int)≤t - (1:Int); omega)
   (show t - (1:Int)≤(9223372036854775807:Int); omega)
   refine ca c113_2 ?_
   refine ca (Exists.intro _ (And.intro rfl rfl)) ?_
   refine b_t h ?_
   refine sd ?_
   exact rfl
 ·cases R with
  | nil =>
   have hb:nx7 ([]:List Int)=.nils 1:=rfl
   have hb2:nxo7 ([]:List Int)=.none:=rfl
   rw [hb,hb2]
   refine yieldIn_of_vc (m:=68) (ps:=[38]) (xa:=xa34) (xb:=xb34) (sl:=sl34 F) rfl rfl rfl rfl rfl rfl ?_
   refine ca c113_1 ?_
   refine ar_sub ?_ ?_
   refine an ?_ ?_
   (show (-9223372036854775808:Int)≤t - (1:Int); omega)
   (show t - (1:Int)≤(9223372036854775807:Int); omega)
   refine ca c113_2 ?_
   refine ca (Exists.intro _ (And.intro rfl rfl)) ?_
   refine b_t h ?_
   refine sd ?_
   exact rfl
  | cons y r =>
   have hb:nx7 (y::r)=.sl 9 (ints (y::r)).length:=rfl
   have hb2:nxo7 (y::r)=.row 3 1 (ints (y::r)) false:=rfl
   rw [hb,hb2]
   clear hb hb2
   generalize ints (y::r)=W at *
   refine yieldIn_of_vc (m:=68) (ps:=[38]) (xa:=xa34) (xb:=xb34) (sl:=sl34 F) rfl rfl rfl rfl rfl rfl ?_
   refine ca c113_1 ?_
   refine ar_sub ?_ ?_
   refine an ?_ ?_
   (show (-9223372036854775808:Int)≤t - (1:Int); omega)
   (show t - (1:Int)≤(9223372036854775807:Int); omega)
   refine ca c113_2 ?_
   refine ca (Exists.intro _ (And.intro rfl rfl)) ?_
   refine b_t h ?_
   refine sd ?_
   exact rfl
theorem y7_b (t : Int) (R : List Int) {i n q i' n' q' : Int}  (ht : 1 ≤ t ∧ t ≤ 100000000) (h : (i == i' && (n == n' && (q == q' && true))) = false) (hR : R.length < 256)
  (c113_1:CallDet Tryz.prog 113 [.d (.agg [.int .i64 no,.slice 6 (vrs l)]),.d (.int .i64 t)] [.agg [.int .i64 i,.int .i64 n,.int .i64 q],.bool true])
  (c113_2:CallDet Tryz.prog 113 [.d (.agg [.int .i64 no,.slice 6 (vrs l)]),.d (.int .i64 (t - 1))] [.agg [.int .i64 i',.int .i64 n',.int .i64 q'],.bool true]) :
  YieldIn Tryz.prog 5 [.d (.int .i64 t)] (HP7 no l (lp34 .ready none F) (nx7 R) (nxo7 R)) (.d (.bool true)) (HP7 no l (lp34 .ready none F) (nx7 (R++[t])) (nxo7 (R++[t]))):=by
 cases R with
 | nil =>
  have e1:nx7 ([]++[t])=.sl 9 1:=rfl
  have e2:nxo7 ([]++[t])=.row 3 1 [Data.int .i64 t] false:=rfl
  rw [e1,e2]
  refine yieldIn_of_vc (m:=68) (ps:=[38]) (xa:=xa34) (xb:=xb34) (sl:=sl34 F) rfl rfl rfl rfl rfl rfl ?_
  refine ca c113_1 ?_
  refine ar_sub ?_ ?_
  refine an ?_ ?_
  (show (-9223372036854775808:Int)≤t - (1:Int); omega)
  (show t - (1:Int)≤(9223372036854775807:Int); omega)
  refine ca c113_2 ?_
  refine ca (Exists.intro _ (And.intro rfl rfl)) ?_
  refine b_f h ?_
  refine sd ?_
  refine sd ?_
  refine sd ?_
  refine sd ?_
  refine an ?_ ?_
  refine an ?_ ?_
  (show (1:Nat) * (8:Nat)≤(2:Nat) ^ (47:Nat); omega)
  (show (1:Nat)≤(2:Nat) ^ (47:Nat); omega)
  refine sd ?_
  refine sd ?_
  exact rfl
 | cons y r =>
  have hlr:(ints (y::r)).length=(y::r).length:=ints_len _
  have e0:ints ((y::r)++[t])=ints (y::r)++[Data.int .i64 t]:=by unfold ints; rw [List.map_append]; rfl
  have e1:nx7 ((y::r)++[t])=.sl 9 (ints (y::r)++[Data.int .i64 t]).length:=by rw [← e0]; rfl
  have e2:nxo7 ((y::r)++[t])=.row 3 1 (ints (y::r)++[Data.int .i64 t]) false:=by rw [← e0]; rfl
  rw [e1,e2]
  have hb:nx7 (y::r)=.sl 9 (ints (y::r)).length:=rfl
  have hb2:nxo7 (y::r)=.row 3 1 (ints (y::r)) false:=rfl
  rw [hb,hb2]
  clear e0 e1 e2 hb hb2
  generalize ints (y::r)=W at *
  refine yieldIn_of_vc (m:=68) (ps:=[38]) (xa:=xa34) (xb:=xb34) (sl:=sl34 F) rfl rfl rfl rfl rfl rfl ?_
  refine ca c113_1 ?_
  refine ar_sub ?_ ?_
  refine an ?_ ?_
  (show (-9223372036854775808:Int)≤t - (1:Int); omega)
  (show t - (1:Int)≤(9223372036854775807:Int); omega)
  refine ca c113_2 ?_
  refine ca (Exists.intro _ (And.intro rfl rfl)) ?_
  refine b_f h ?_
  refine sd ?_
  refine sd ?_
  refine b_eq (fun t1=>?_) (fun t1=>?_)
  (exfalso; omega)
  refine sd ?_
  refine sd ?_
  refine sd ?_
  refine an ?_ ?_
  refine an ?_ ?_
  exact rfl
  refine an ?_ ?_
  exact rfl
  refine an ?_ ?_
  exact rfl
  refine an ?_ ?_
  (show (List.length W+(1:Nat)) * (8:Nat)≤(2:Nat) ^ (47:Nat); omega)
  (show List.length W+(1:Nat)≤(2:Nat) ^ (47:Nat); omega)
  refine sd ?_
  refine sd ?_
  exact rfl
theorem y7_c (t : Int) (R : List Int) {i n q i' n' q' : Int} {s : Bool} (ht : 1 ≤ t ∧ t ≤ 100000000) (hR : R.length < 256)
  (c113_1:CallDet Tryz.prog 113 [.d (.agg [.int .i64 no,.slice 6 (vrs l)]),.d (.int .i64 t)] [.agg [.int .i64 i,.int .i64 n,.int .i64 q],.bool s])
  (c113_2:CallDet Tryz.prog 113 [.d (.agg [.int .i64 no,.slice 6 (vrs l)]),.d (.int .i64 (t - 1))] [.agg [.int .i64 i',.int .i64 n',.int .i64 q'],.bool (!s)]) :
  YieldIn Tryz.prog 5 [.d (.int .i64 t)] (HP7 no l (lp34 .ready none F) (nx7 R) (nxo7 R)) (.d (.bool true)) (HP7 no l (lp34 .ready none F) (nx7 (R++[t])) (nxo7 (R++[t]))):=by
 cases s
 ·cases R with
  | nil =>
   have e1:nx7 ([]++[t])=.sl 9 1:=rfl
   have e2:nxo7 ([]++[t])=.row 3 1 [Data.int .i64 t] false:=rfl
   rw [e1,e2]
   refine yieldIn_of_vc (m:=68) (ps:=[38]) (xa:=xa34) (xb:=xb34) (sl:=sl34 F) rfl rfl rfl rfl rfl rfl ?_
   refine ca c113_1 ?_
   refine ar_sub ?_ ?_
   refine an ?_ ?_
   (show (-9223372036854775808:Int)≤t - (1:Int); omega)
   (show t - (1:Int)≤(9223372036854775807:Int); omega)
   refine ca c113_2 ?_
   refine sd ?_
   refine sd ?_
   refine sd ?_
   refine sd ?_
   refine sd ?_
   refine an ?_ ?_
   refine an ?_ ?_
   (show (1:Nat) * (8:Nat)≤(2:Nat) ^ (47:Nat); omega)
   (show (1:Nat)≤(2:Nat) ^ (47:Nat); omega)
   refine sd ?_
   refine sd ?_
   exact rfl
  | cons y r =>
   have hlr:(ints (y::r)).length=(y::r).length:=ints_len _
   have e0:ints ((y::r)++[t])=ints (y::r)++[Data.int .i64 t]:=by unfold ints; rw [List.map_append]; rfl
   have e1:nx7 ((y::r)++[t])=.sl 9 (ints (y::r)++[Data.int .i64 t]).length:=by rw [← e0]; rfl
   have e2:nxo7 ((y::r)++[t])=.row 3 1 (ints (y::r)++[Data.int .i64 t]) false:=by rw [← e0]; rfl
   rw [e1,e2]
   have hb:nx7 (y::r)=.sl 9 (ints (y::r)).length:=rfl
   have hb2:nxo7 (y::r)=.row 3 1 (ints (y::r)) false:=rfl
   rw [hb,hb2]
   clear e0 e1 e2 hb hb2
   generalize ints (y::r)=W at *
   refine yieldIn_of_vc (m:=68) (ps:=[38]) (xa:=xa34) (xb:=xb34) (sl:=sl34 F) rfl rfl rfl rfl rfl rfl ?_
   refine ca c113_1 ?_
   refine ar_sub ?_ ?_
   refine an ?_ ?_
   (show (-9223372036854775808:Int)≤t - (1:Int); omega)
   (show t - (1:Int)≤(9223372036854775807:Int); omega)
   refine ca c113_2 ?_
   refine sd ?_
   refine sd ?_
   refine sd ?_
   refine b_eq (fun t1=>?_) (fun t1=>?_)
   (exfalso; omega)
   refine sd ?_
   refine sd ?_
   refine sd ?_
   refine an ?_ ?_
   refine an ?_ ?_
   exact rfl
   refine an ?_ ?_
   exact rfl
   refine an ?_ ?_
   exact rfl
   refine an ?_ ?_
   (show (List.length W+(1:Nat)) * (8:Nat)≤(2:Nat) ^ (47:Nat); omega)
   (show List.length W+(1:Nat)≤(2:Nat) ^ (47:Nat); omega)
   refine sd ?_
   refine sd ?_
   exact rfl
 ·cases R with
  | nil =>
   have e1:nx7 ([]++[t])=.sl 9 1:=rfl
   have e2:nxo7 ([]++[t])=.row 3 1 [Data.int .i64 t] false:=rfl
   rw [e1,e2]
   refine yieldIn_of_vc (m:=68) (ps:=[38]) (xa:=xa34) (xb:=xb34) (sl:=sl34 F) rfl rfl rfl rfl rfl rfl ?_
   refine ca c113_1 ?_
   refine ar_sub ?_ ?_
   refine an ?_ ?_
   (show (-9223372036854775808:Int)≤t - (1:Int); omega)
   (show t - (1:Int)≤(9223372036854775807:Int); omega)
   refine ca c113_2 ?_
   refine sd ?_
   refine sd ?_
   refine sd ?_
   refine sd ?_
   refine sd ?_
   refine an ?_ ?_
   refine an ?_ ?_
   (show (1:Nat) * (8:Nat)≤(2:Nat) ^ (47:Nat); omega)
   (show (1:Nat)≤(2:Nat) ^ (47:Nat); omega)
   refine sd ?_
   refine sd ?_
   exact rfl
  | cons y r =>
   have hlr:(ints (y::r)).length=(y::r).length:=ints_len _
   have e0:ints ((y::r)++[t])=ints (y::r)++[Data.int .i64 t]:=by unfold ints; rw [List.map_append]; rfl
   have e1:nx7 ((y::r)++[t])=.sl 9 (ints (y::r)++[Data.int .i64 t]).length:=by rw [← e0]; rfl
   have e2:nxo7 ((y::r)++[t])=.row 3 1 (ints (y::r)++[Data.int .i64 t]) false:=by rw [← e0]; rfl
   rw [e1,e2]
   have hb:nx7 (y::r)=.sl 9 (ints (y::r)).length:=rfl
   have hb2:nxo7 (y::r)=.row 3 1 (ints (y::r)) false:=rfl
   rw [hb,hb2]
   clear e0 e1 e2 hb hb2
   generalize ints (y::r)=W at *
   refine yieldIn_of_vc (m:=68) (ps:=[38]) (xa:=xa34) (xb:=xb34) (sl:=sl34 F) rfl rfl rfl rfl rfl rfl ?_
   refine ca c113_1 ?_
   refine ar_sub ?_ ?_
   refine an ?_ ?_
   (show (-9223372036854775808:Int)≤t - (1:Int); omega)
   (show t - (1:Int)≤(9223372036854775807:Int); omega)
   refine ca c113_2 ?_
   refine sd ?_
   refine sd ?_
   refine sd ?_
   refine b_eq (fun t1=>?_) (fun t1=>?_)
   (exfalso; omega)
   refine sd ?_
   refine sd ?_
   refine sd ?_
   refine an ?_ ?_
   refine an ?_ ?_
   exact rfl
   refine an ?_ ?_
   exact rfl
   refine an ?_ ?_
   exact rfl
   refine an ?_ ?_
   (show (List.length W+(1:Nat)) * (8:Nat)≤(2:Nat) ^ (47:Nat); omega)
   (show List.length W+(1:Nat)≤(2:Nat) ^ (47:Nat); omega)
   refine sd ?_
   refine sd ?_
   exact rfl
theorem y7_d (t : Int) (R : List Int) {i n q i' n' q' : Int}  (ht : 1 ≤ t ∧ t ≤ 100000000) (h : (i == i' && (n == n' && (q == q' && true))) = false) (hR : R.length = 256)
  (c113_1:CallDet Tryz.prog 113 [.d (.agg [.int .i64 no,.slice 6 (vrs l)]),.d (.int .i64 t)] [.agg [.int .i64 i,.int .i64 n,.int .i64 q],.bool true])
  (c113_2:CallDet Tryz.prog 113 [.d (.agg [.int .i64 no,.slice 6 (vrs l)]),.d (.int .i64 (t - 1))] [.agg [.int .i64 i',.int .i64 n',.int .i64 q'],.bool true]) :
  YieldIn Tryz.prog 5 [.d (.int .i64 t)] (HP7 no l (lp34 .ready none F) (nx7 R) (nxo7 R)) (.d (.bool false)) (HS7 no l (lp34 .done (some .ret) F) (nx7 R) (nxo7 R) [.d (.int .i64 i),.d (.int .i64 n),.d (.int .i64 q)] [.d (.int .i64 i'),.d (.int .i64 n'),.d (.int .i64 q')]):=by
 cases R with
 | nil=>exact absurd hR (by decide)
 | cons y r =>
  have hlr:(ints (y::r)).length=(y::r).length:=ints_len _
  have hb:nx7 (y::r)=.sl 9 (ints (y::r)).length:=rfl
  have hb2:nxo7 (y::r)=.row 3 1 (ints (y::r)) false:=rfl
  rw [hb,hb2]
  clear hb hb2
  generalize ints (y::r)=W at *
  refine yieldIn_of_vc (m:=68) (ps:=[38]) (xa:=xa34) (xb:=xb34) (sl:=sl34 F) rfl rfl rfl rfl rfl rfl ?_
  refine ca c113_1 ?_
  refine ar_sub ?_ ?_
  refine an ?_ ?_
  (show (-9223372036854775808:Int)≤t - (1:Int); omega)
  (show t - (1:Int)≤(9223372036854775807:Int); omega)
  refine ca c113_2 ?_
  refine ca (Exists.intro _ (And.intro rfl rfl)) ?_
  refine b_f h ?_
  refine sd ?_
  refine sd ?_
  refine b_eq (fun t1=>?_) (fun t1=>?_)
  refine sd ?_
  exact rfl
  (exfalso; omega)
theorem y7_e (t : Int) (R : List Int) {i n q i' n' q' : Int} {s : Bool} (ht : 1 ≤ t ∧ t ≤ 100000000) (hR : R.length = 256)
  (c113_1:CallDet Tryz.prog 113 [.d (.agg [.int .i64 no,.slice 6 (vrs l)]),.d (.int .i64 t)] [.agg [.int .i64 i,.int .i64 n,.int .i64 q],.bool s])
  (c113_2:CallDet Tryz.prog 113 [.d (.agg [.int .i64 no,.slice 6 (vrs l)]),.d (.int .i64 (t - 1))] [.agg [.int .i64 i',.int .i64 n',.int .i64 q'],.bool (!s)]) :
  YieldIn Tryz.prog 5 [.d (.int .i64 t)] (HP7 no l (lp34 .ready none F) (nx7 R) (nxo7 R)) (.d (.bool false)) (HS7 no l (lp34 .done (some .ret) F) (nx7 R) (nxo7 R) [.d (.int .i64 i),.d (.int .i64 n),.d (.int .i64 q)] [.d (.int .i64 i'),.d (.int .i64 n'),.d (.int .i64 q')]):=by
 cases s
 ·cases R with
  | nil=>exact absurd hR (by decide)
  | cons y r =>
   have hlr:(ints (y::r)).length=(y::r).length:=ints_len _
   have hb:nx7 (y::r)=.sl 9 (ints (y::r)).length:=rfl
   have hb2:nxo7 (y::r)=.row 3 1 (ints (y::r)) false:=rfl
   rw [hb,hb2]
   clear hb hb2
   generalize ints (y::r)=W at *
   refine yieldIn_of_vc (m:=68) (ps:=[38]) (xa:=xa34) (xb:=xb34) (sl:=sl34 F) rfl rfl rfl rfl rfl rfl ?_
   refine ca c113_1 ?_
   refine ar_sub ?_ ?_
   refine an ?_ ?_
   (show (-9223372036854775808:Int)≤t - (1:Int); omega)
   (show t - (1:Int)≤(9223372036854775807:Int); omega)
   refine ca c113_2 ?_
   refine sd ?_
   refine sd ?_
   refine sd ?_
   refine b_eq (fun t1=>?_) (fun t1=>?_)
   refine sd ?_
   exact rfl
   (exfalso; omega)
 ·cases R with
  | nil=>exact absurd hR (by decide)
  | cons y r =>
   have hlr:(ints (y::r)).length=(y::r).length:=ints_len _
   have hb:nx7 (y::r)=.sl 9 (ints (y::r)).length:=rfl
   have hb2:nxo7 (y::r)=.row 3 1 (ints (y::r)) false:=rfl
   rw [hb,hb2]
   clear hb hb2
   generalize ints (y::r)=W at *
   refine yieldIn_of_vc (m:=68) (ps:=[38]) (xa:=xa34) (xb:=xb34) (sl:=sl34 F) rfl rfl rfl rfl rfl rfl ?_
   refine ca c113_1 ?_
   refine ar_sub ?_ ?_
   refine an ?_ ?_
   (show (-9223372036854775808:Int)≤t - (1:Int); omega)
   (show t - (1:Int)≤(9223372036854775807:Int); omega)
   refine ca c113_2 ?_
   refine sd ?_
   refine sd ?_
   refine sd ?_
   refine b_eq (fun t1=>?_) (fun t1=>?_)
   refine sd ?_
   exact rfl
   (exfalso; omega)
end
end Vc
