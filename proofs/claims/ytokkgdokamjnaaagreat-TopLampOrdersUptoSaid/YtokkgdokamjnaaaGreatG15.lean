import Derived.Test.YtokkgdokamjnaaaGreatG14
set_option linter.unusedSectionVars false
set_option linter.unusedVariables false
set_option linter.unusedSimpArgs false
set_option maxRecDepth 10000
set_option maxHeartbeats 4000000
namespace Vc.L
open Go Go.Proofs
def hr (h:Hr):Data:=.agg [.bool h.d0,.bool h.d1,.bool h.d2,.bool h.d3,.bool h.d4,.bool h.d5,.bool h.d6,.int .i64 h.f,.int .i64 h.t]
def hrs (l:List Hr):List Data:=l.map hr
theorem hrs_len (l:List Hr):(hrs l).length=l.length:=List.length_map _
theorem hrs_at {l:List Hr} {k:Nat} {h:Hr} (e:l[k]?=some h):(hrs l)[((k:Int)).toNat]?=some (.agg [.bool h.d0,.bool h.d1,.bool h.d2,.bool h.d3,.bool h.d4,.bool h.d5,.bool h.d6,.int .i64 h.f,.int .i64 h.t]):=by
 show (l.map _)[k]?=_
 rw [List.getElem?_map,e]; rfl
theorem hrs_step {l:List Hr} {k:Nat} {h:Hr} (e:l[k]?=some h):hrs (l.take (k+1))=hrs (l.take k)++[.agg [.bool h.d0,.bool h.d1,.bool h.d2,.bool h.d3,.bool h.d4,.bool h.d5,.bool h.d6,.int .i64 h.f,.int .i64 h.t]]:=by
 unfold hrs; rw [take_one e,List.map_append]; rfl
def hrE (h:Hr):Int:=bif decide (h.f < 0)||(decide (h.t≤h.f)||decide (86400 < h.t)) then 14 else 0
def hrsE:List Hr→Int
 | []=>0
 | h::r=>bif hrE h != 0 then hrE h else hrsE r
def ckH (l:List Hr):Int:=bif decide ((16:Int) < (((hrs l).length:Nat):Int)) then 5 else hrsE l
theorem hrE_ok {h:Hr} (e:hrE h=0):h.ok:=by
 unfold hrE at e
 cases hc:(decide (h.f < 0)||(decide (h.t≤h.f)||decide (86400 < h.t))) with
 | true=>rw [hc] at e; cases e
 | false=>simp at hc; unfold Hr.ok; omega
theorem hrsE_ok:∀ {l:List Hr},hrsE l=0→∀ h∈l,h.ok
 | [],_,_,hm=>by cases hm
 | x::r,e,h,hm=>by
  rw [hrsE] at e
  by_cases hx:hrE x=0
  ·rw [hx] at e
   rcases List.mem_cons.1 hm with rfl | hm
   ·exact hrE_ok hx
   ·exact hrsE_ok (l:=r) e h hm
  ·rw [bne_t hx] at e; exact absurd e hx
theorem ckH_ok {l:List Hr} (e:ckH l=0):l.length≤16∧∀ h∈l,h.ok:=by
 unfold ckH at e
 rw [hrs_len] at e
 by_cases hl:(16:Int) < ((l.length:Nat):Int)
 ·rw [decide_eq_true hl] at e; cases e
 ·rw [decide_eq_false hl] at e; exact ⟨by omega,hrsE_ok e⟩
theorem first_map:∀ (l:List Hr),firstOf (l.map hrE)=hrsE l
 | []=>rfl
 | h::r=>by
  show (bif hrE h != 0 then hrE h else firstOf (r.map hrE))=_
  rw [first_map r]; rfl
def jr47:AFun:=⟨18,3,[.tmp 2],
 (.seq
 (.reg [] [⟨some 2,.mov (.cst (.nils 9)),none⟩])
 (.seq
  (.reg [] [⟨some 3,.mov (.cst (.nils 9)),none⟩])
  (.seq
  (.seq
   (.reg [] [⟨some 6,.mov (.tmp 0),none⟩,
    ⟨some 7,.len (.tmp 6),none⟩,
    ⟨some 8,.mov (.cst (.d (.int .i64 0))),none⟩])
   (.post [3] [0,1,2]
   (.block 0
    (.asrow 2 117 9 3
    (.keep [3,6,7,8] []
     (.loop
     (.post [3,6,7,8] [0,1,2]
      (.seq
      (.reg [] [⟨some 9,.cmp .lss (.tmp 8) (.tmp 7),none⟩])
      (.seq
       (.cond (.tmp 9)
       .skip
       (.exit 0))
       (.seq
       (.block 1
        (.seq
        (.reg [0] [⟨some 10,.ixa 9 (.tmp 6) (.tmp 8),none⟩,
         ⟨some 11,.ld true 9 (.tmp 10),none⟩,
         ⟨some 5,.alloc 0 [(.d (.bool false)),(.d (.bool false)),(.d (.bool false)),(.d (.bool false)),(.d (.bool false)),(.d (.bool false)),(.d (.bool false)),(.d (.int .i64 0)),(.d (.int .i64 0))],none⟩,
         ⟨none,.st 9 (.tmp 5) (.tmp 11),none⟩])
        (.reg [1,2] [⟨some 12,.mov (.tmp 3),none⟩,
         ⟨some 13,.ld true 9 (.tmp 5),none⟩,
         ⟨some 14,.bsl 1 117 9 1 [(.agg [(.bool false),(.bool false),(.bool false),(.bool false),(.bool false),(.bool false),(.bool false),(.int .i64 0),(.int .i64 0)])] [(0,(.tmp 13))],none⟩,
         ⟨some 15,.app 2 117 9 24 (.tmp 12) (.tmp 14),none⟩,
         ⟨some 3,.mov (.tmp 15),none⟩])))
       (.reg [] [⟨some 16,.arith .add .i64 (.tmp 8) (.cst (.d (.int .i64 1))),none⟩,
        ⟨some 8,.mov (.tmp 16),none⟩])))))))))))
  (.seq
   (.reg [] [⟨some 17,.mov (.tmp 3),none⟩,
    ⟨some 2,.mov (.tmp 17),none⟩])
   .ret))))⟩
def jr117:AFun:=⟨23,1,[.tmp 2],
 (.seq
 (.reg [0] [⟨some 1,.cbx 0 9 (.tmp 0),none⟩,
  ⟨some 2,.mov (.cst (.d (.int .i64 0))),none⟩])
 (.seq
  (.reg [] [⟨some 3,.fad 7 (.tmp 1),none⟩,
   ⟨some 4,.fad 0 (.tmp 3),none⟩,
   ⟨some 5,.ld false 1 (.tmp 4),none⟩,
   ⟨some 6,.cmp .lss (.tmp 5) (.cst (.d (.int .i64 0))),none⟩,
   ⟨some 7,.mov (.tmp 6),none⟩,
   ⟨some 8,.fad 7 (.tmp 1),some (7,false)⟩,
   ⟨some 9,.fad 0 (.tmp 8),some (7,false)⟩,
   ⟨some 10,.ld false 1 (.tmp 9),some (7,false)⟩,
   ⟨some 11,.fad 7 (.tmp 1),some (7,false)⟩,
   ⟨some 12,.fad 1 (.tmp 11),some (7,false)⟩,
   ⟨some 13,.ld false 1 (.tmp 12),some (7,false)⟩,
   ⟨some 14,.cmp .geq (.tmp 10) (.tmp 13),some (7,false)⟩,
   ⟨some 15,.pick (.tmp 7) (.cst (.d (.bool true))) (.tmp 14),none⟩,
   ⟨some 16,.mov (.tmp 15),none⟩,
   ⟨some 17,.fad 7 (.tmp 1),some (16,false)⟩,
   ⟨some 18,.fad 1 (.tmp 17),some (16,false)⟩,
   ⟨some 19,.ld false 1 (.tmp 18),some (16,false)⟩,
   ⟨some 20,.cmp .gtr (.tmp 19) (.cst (.d (.int .i64 86400))),some (16,false)⟩,
   ⟨some 21,.pick (.tmp 16) (.cst (.d (.bool true))) (.tmp 20),none⟩,
   ⟨some 22,.call 37 [(.tmp 21),(.cst (.d (.int .i64 14)))],none⟩,
   ⟨some 2,.mov (.tmp 22),none⟩])
  .ret))⟩
def jr116:AFun:=⟨22,3,[.tmp 4],
 (.seq
 (.reg [] [⟨some 4,.mov (.cst (.nils 1)),none⟩])
 (.seq
  (.reg [] [⟨some 5,.mov (.cst (.nils 1)),none⟩])
  (.seq
  (.seq
   (.reg [] [⟨some 8,.mov (.tmp 0),none⟩,
    ⟨some 9,.len (.tmp 8),none⟩,
    ⟨some 10,.mov (.cst (.d (.int .i64 0))),none⟩])
   (.post [5] [0,1,2]
   (.block 0
    (.asrow 2 43 1 5
    (.keep [1,5,8,9,10] []
     (.loop
     (.post [1,5,8,9,10] [0,1,2]
      (.seq
      (.reg [] [⟨some 11,.cmp .lss (.tmp 10) (.tmp 9),none⟩])
      (.seq
       (.cond (.tmp 11)
       .skip
       (.exit 0))
       (.seq
       (.block 1
        (.seq
        (.reg [0] [⟨some 12,.ixa 9 (.tmp 8) (.tmp 10),none⟩,
         ⟨some 13,.ld true 9 (.tmp 12),none⟩,
         ⟨some 7,.alloc 0 [(.d (.bool false)),(.d (.bool false)),(.d (.bool false)),(.d (.bool false)),(.d (.bool false)),(.d (.bool false)),(.d (.bool false)),(.d (.int .i64 0)),(.d (.int .i64 0))],none⟩,
         ⟨none,.st 9 (.tmp 7) (.tmp 13),none⟩])
        (.reg [1,2] [⟨some 14,.mov (.tmp 5),none⟩,
         ⟨some 15,.mov (.tmp 1),none⟩,
         ⟨some 16,.ld true 9 (.tmp 7),none⟩,
         ⟨some 17,.callv (.tmp 15) [(.tmp 16)],none⟩,
         ⟨some 18,.bsl 1 43 1 1 [(.int .i64 0)] [(0,(.tmp 17))],none⟩,
         ⟨some 19,.app 2 43 1 8 (.tmp 14) (.tmp 18),none⟩,
         ⟨some 5,.mov (.tmp 19),none⟩])))
       (.reg [] [⟨some 20,.arith .add .i64 (.tmp 10) (.cst (.d (.int .i64 1))),none⟩,
        ⟨some 10,.mov (.tmp 20),none⟩])))))))))))
  (.seq
   (.reg [] [⟨some 21,.mov (.tmp 5),none⟩,
    ⟨some 4,.mov (.tmp 21),none⟩])
   .ret))))⟩
def jr55:AFun:=⟨9,0,[.tmp 2],
 (.seq
 (.reg [] [⟨some 2,.mov (.cst (.d (.int .i64 0))),none⟩])
 (.seq
  (.seq
  (.reg [] [⟨some 3,.mov (.tmp 0),none⟩,
   ⟨some 4,.len (.tmp 3),none⟩,
   ⟨some 5,.cmp .gtr (.tmp 4) (.cst (.d (.int .i64 16))),none⟩])
  (.cond (.tmp 5)
   (.seq
   (.reg [] [⟨some 2,.mov (.cst (.d (.int .i64 5))),none⟩])
   .ret)
   .skip))
  (.seq
  (.reg [] [⟨some 6,.mov (.tmp 0),none⟩,
   ⟨some 7,.call 76 [(.tmp 6),(.cst (.d (.fn (.func 77) [])))],none⟩,
   ⟨some 8,.call 33 [(.tmp 7)],none⟩,
   ⟨some 2,.mov (.tmp 8),none⟩])
  .ret)))⟩
def jr115:AFun:=⟨22,1,[.tmp 4],
 (.seq
 (.reg [0] [⟨some 2,.cbx 0 2 (.tmp 0),none⟩,
  ⟨some 4,.mov (.cst (.d (.int .i64 0))),none⟩])
 (.seq
  (.reg [] [⟨some 5,.fad 0 (.tmp 2),none⟩,
   ⟨some 6,.ld false 1 (.tmp 5),none⟩,
   ⟨some 7,.cmp .lss (.tmp 6) (.cst (.d (.int .i64 0))),none⟩,
   ⟨some 8,.mov (.tmp 7),none⟩,
   ⟨some 9,.fad 0 (.tmp 2),some (8,false)⟩,
   ⟨some 10,.ld false 1 (.tmp 9),some (8,false)⟩,
   ⟨some 11,.fad 1 (.tmp 2),some (8,false)⟩,
   ⟨some 12,.ld false 1 (.tmp 11),some (8,false)⟩,
   ⟨some 13,.cmp .geq (.tmp 10) (.tmp 12),some (8,false)⟩,
   ⟨some 14,.pick (.tmp 8) (.cst (.d (.bool true))) (.tmp 13),none⟩,
   ⟨some 15,.mov (.tmp 14),none⟩,
   ⟨some 16,.fad 1 (.tmp 2),some (15,false)⟩,
   ⟨some 17,.ld false 1 (.tmp 16),some (15,false)⟩,
   ⟨some 18,.mov (.tmp 1),some (15,false)⟩,
   ⟨some 19,.cmp .gtr (.tmp 17) (.tmp 18),some (15,false)⟩,
   ⟨some 20,.pick (.tmp 15) (.cst (.d (.bool true))) (.tmp 19),none⟩,
   ⟨some 21,.call 50 [(.tmp 20),(.cst (.d (.int .i64 14)))],none⟩,
   ⟨some 4,.mov (.tmp 21),none⟩])
  .ret))⟩
def jr50:AFun:=⟨23,0,[.tmp 2],
 (.seq
 (.reg [] [⟨some 2,.mov (.cst (.d (.int .i64 0))),none⟩])
 (.seq
  (.seq
  (.reg [] [⟨some 5,.mov (.tmp 0),none⟩,
   ⟨some 6,.len (.tmp 5),none⟩,
   ⟨some 7,.cmp .gtr (.tmp 6) (.cst (.d (.int .i64 16))),none⟩])
  (.cond (.tmp 7)
   (.seq
   (.reg [] [⟨some 2,.mov (.cst (.d (.int .i64 5))),none⟩])
   .ret)
   .skip))
  (.seq
  (.seq
   (.reg [] [⟨some 3,.mov (.cst (.d (.int .i64 0))),none⟩])
   (.post [] []
   (.block 0
    (.keep [0,3] []
    (.loop
     (.post [0,3] []
     (.seq
      (.seq
      (.reg [] [⟨some 8,.mov (.tmp 3),none⟩,
       ⟨some 9,.mov (.tmp 0),none⟩,
       ⟨some 10,.len (.tmp 9),none⟩,
       ⟨some 11,.cmp .lss (.tmp 8) (.tmp 10),none⟩])
      (.cond (.tmp 11)
       .skip
       (.exit 0)))
      (.seq
      (.block 1
       (.seq
       (.reg [] [⟨some 14,.mov (.tmp 0),none⟩,
        ⟨some 15,.mov (.tmp 3),none⟩,
        ⟨some 16,.ixa 9 (.tmp 14) (.tmp 15),none⟩,
        ⟨some 17,.fad 7 (.tmp 16),none⟩,
        ⟨some 18,.ld true 2 (.tmp 17),none⟩,
        ⟨some 19,.call 18 [(.tmp 18),(.cst (.d (.int .i64 86400)))],none⟩,
        ⟨some 4,.mov (.tmp 19),none⟩])
       (.seq
        (.reg [] [⟨some 20,.mov (.tmp 4),none⟩,
         ⟨some 21,.cmp .neq (.tmp 20) (.cst (.d (.int .i64 0))),none⟩])
        (.cond (.tmp 21)
        (.seq
         (.reg [] [⟨some 22,.mov (.tmp 4),none⟩,
          ⟨some 2,.mov (.tmp 22),none⟩])
         .ret)
        .skip))))
      (.reg [] [⟨some 12,.mov (.tmp 3),none⟩,
       ⟨some 13,.arith .add .i64 (.tmp 12) (.cst (.d (.int .i64 1))),none⟩,
       ⟨some 3,.mov (.tmp 13),none⟩])))))))))
  (.seq
   (.reg [] [⟨some 2,.mov (.cst (.d (.int .i64 0))),none⟩])
   .ret))))⟩
def jr112:AFun:=⟨5,0,[.tmp 2],
 (.seq
 (.reg [] [⟨some 2,.mov (.cst (.d (.int .i64 0))),none⟩])
 (.seq
  (.reg [] [⟨some 3,.mov (.tmp 0),none⟩,
   ⟨some 4,.call 73 [(.tmp 3),(.cst (.d (.int .i64 0))),(.cst (.d (.int .i64 100000000)))],none⟩,
   ⟨some 2,.mov (.tmp 4),none⟩])
  .ret))⟩
def jr46:AFun:=⟨25,1,[.tmp 4,.tmp 5],
 (.seq
 (.reg [] [⟨some 4,.mov (.cst (.d (.bool false))),none⟩,
  ⟨some 5,.mov (.cst (.d (.int .i64 0))),none⟩])
 (.seq
  (.seq
  (.reg [0] [⟨some 9,.mov (.tmp 0),none⟩,
   ⟨some 10,.call 40 [(.tmp 9)],none⟩,
   ⟨some 11,.mov (.tmp 1),none⟩,
   ⟨some 12,.call 36 [(.tmp 11)],none⟩,
   ⟨some 13,.bsl 0 43 1 2 [(.int .i64 0),(.int .i64 0)] [(0,(.tmp 10)),(1,(.tmp 12))],none⟩,
   ⟨some 14,.call 33 [(.tmp 13)],none⟩,
   ⟨some 6,.mov (.tmp 14),none⟩])
  (.seq
   (.reg [] [⟨some 15,.mov (.tmp 6),none⟩,
    ⟨some 16,.cmp .neq (.tmp 15) (.cst (.d (.int .i64 0))),none⟩])
   (.cond (.tmp 16)
   (.seq
    (.reg [] [⟨some 17,.mov (.tmp 6),none⟩,
     ⟨some 4,.mov (.cst (.d (.bool false))),none⟩,
     ⟨some 5,.mov (.tmp 17),none⟩])
    .ret)
   .skip)))
  (.seq
  (.reg [] [⟨some 19,.mov (.tmp 0),none⟩,
   ⟨some 20,.mov (.tmp 1),none⟩,
   ⟨some 21,.call 41 [(.tmp 19),(.tmp 20)],none⟩,
   ⟨some 18,.mov (.tmp 21),none⟩,
   ⟨some 22,.ext 0 (.tmp 18),none⟩,
   ⟨some 23,.ext 1 (.tmp 18),none⟩,
   ⟨some 7,.mov (.tmp 22),none⟩,
   ⟨some 8,.mov (.tmp 23),none⟩])
  (.seq
   (.reg [] [⟨some 24,.mov (.tmp 8),none⟩,
    ⟨some 4,.mov (.tmp 24),none⟩,
    ⟨some 5,.mov (.cst (.d (.int .i64 0))),none⟩])
   .ret))))⟩
def jr113:AFun:=⟨53,1,[.tmp 4,.tmp 5],
 (.seq
 (.reg [] [⟨some 4,.mov (.cst (.d (.int .i64 0))),none⟩,
  ⟨some 5,.mov (.cst (.d (.bool false))),none⟩])
 (.seq
  (.reg [] [⟨some 12,.mov (.tmp 1),none⟩,
   ⟨some 13,.arith .quo .i64 (.tmp 12) (.cst (.d (.int .i64 86400))),none⟩,
   ⟨some 14,.mov (.tmp 1),none⟩,
   ⟨some 15,.arith .rem .i64 (.tmp 14) (.cst (.d (.int .i64 86400))),none⟩,
   ⟨some 6,.mov (.tmp 13),none⟩,
   ⟨some 7,.mov (.tmp 15),none⟩])
  (.seq
  (.reg [] [⟨some 16,.mov (.tmp 1),none⟩,
   ⟨some 8,.mov (.tmp 16),none⟩,
   ⟨some 9,.mov (.cst (.d (.bool false))),none⟩])
  (.seq
   (.seq
   (.reg [] [⟨some 17,.mov (.tmp 0),none⟩,
    ⟨some 18,.len (.tmp 17),none⟩,
    ⟨some 19,.mov (.cst (.d (.int .i64 0))),none⟩])
   (.post [8,9] [0]
    (.block 0
    (.keep [6,7,8,9,17,18,19] []
     (.loop
     (.post [6,7,8,9,17,18,19] [0]
      (.seq
      (.reg [] [⟨some 20,.cmp .lss (.tmp 19) (.tmp 18),none⟩])
      (.seq
       (.cond (.tmp 20)
       .skip
       (.exit 0))
       (.seq
       (.block 1
        (.seq
        (.reg [0] [⟨some 21,.ixa 9 (.tmp 17) (.tmp 19),none⟩,
         ⟨some 22,.ld true 9 (.tmp 21),none⟩,
         ⟨some 11,.alloc 0 [(.d (.bool false)),(.d (.bool false)),(.d (.bool false)),(.d (.bool false)),(.d (.bool false)),(.d (.bool false)),(.d (.bool false)),(.d (.int .i64 0)),(.d (.int .i64 0))],none⟩,
         ⟨none,.st 9 (.tmp 11) (.tmp 22),none⟩])
        (.seq
         (.reg [] [⟨some 23,.mov (.tmp 6),none⟩,
          ⟨some 24,.arith .rem .i64 (.tmp 23) (.cst (.d (.int .i64 7))),none⟩,
          ⟨some 25,.fad 0 (.tmp 11),none⟩,
          ⟨some 26,.ixp 7 1 (.tmp 25) (.tmp 24),none⟩,
          ⟨some 27,.ld false 1 (.tmp 26),none⟩,
          ⟨some 28,.mov (.tmp 27),none⟩,
          ⟨some 29,.mov (.tmp 7),some (28,true)⟩,
          ⟨some 30,.fad 7 (.tmp 11),some (28,true)⟩,
          ⟨some 31,.fad 0 (.tmp 30),some (28,true)⟩,
          ⟨some 32,.ld false 1 (.tmp 31),some (28,true)⟩,
          ⟨some 33,.cmp .geq (.tmp 29) (.tmp 32),some (28,true)⟩,
          ⟨some 34,.pick (.tmp 28) (.tmp 33) (.cst (.d (.bool false))),none⟩,
          ⟨some 35,.mov (.tmp 34),none⟩,
          ⟨some 36,.mov (.tmp 7),some (35,true)⟩,
          ⟨some 37,.fad 7 (.tmp 11),some (35,true)⟩,
          ⟨some 38,.fad 1 (.tmp 37),some (35,true)⟩,
          ⟨some 39,.ld false 1 (.tmp 38),some (35,true)⟩,
          ⟨some 40,.cmp .lss (.tmp 36) (.tmp 39),some (35,true)⟩,
          ⟨some 41,.pick (.tmp 35) (.tmp 40) (.cst (.d (.bool false))),none⟩])
         (.cond (.tmp 41)
         (.reg [] [⟨some 42,.mov (.tmp 8),none⟩,
          ⟨some 43,.mov (.tmp 6),none⟩,
          ⟨some 44,.arith .mul .i64 (.tmp 43) (.cst (.d (.int .i64 86400))),none⟩,
          ⟨some 45,.fad 7 (.tmp 11),none⟩,
          ⟨some 46,.fad 1 (.tmp 45),none⟩,
          ⟨some 47,.ld false 1 (.tmp 46),none⟩,
          ⟨some 48,.arith .add .i64 (.tmp 44) (.tmp 47),none⟩,
          ⟨some 49,.maxi (.tmp 42) (.tmp 48),none⟩,
          ⟨some 8,.mov (.tmp 49),none⟩,
          ⟨some 9,.mov (.cst (.d (.bool true))),none⟩])
         .skip))))
       (.reg [] [⟨some 50,.arith .add .i64 (.tmp 19) (.cst (.d (.int .i64 1))),none⟩,
        ⟨some 19,.mov (.tmp 50),none⟩]))))))))))
   (.seq
   (.reg [] [⟨some 51,.mov (.tmp 8),none⟩,
    ⟨some 52,.mov (.tmp 9),none⟩,
    ⟨some 4,.mov (.tmp 51),none⟩,
    ⟨some 5,.mov (.tmp 52),none⟩])
   .ret)))))⟩
theorem c112 (n:Int):CallDet Tryz.prog 36 [.d (.int .i64 n)] [.int .i64 (within3 n 0 100000000)]:=by
 have c91_:=c91 n 0 100000000
 refine call_of_vc (x:=jr112) (by kernel_rfl) rfl ?_
 refine ca c91_ ?_
 exact rfl
theorem c117 (h:Hr):CallDet Tryz.prog 77 [.d (.agg [.bool h.d0,.bool h.d1,.bool h.d2,.bool h.d3,.bool h.d4,.bool h.d5,.bool h.d6,.int .i64 h.f,.int .i64 h.t])] [.int .i64 (hrE h)]:=by
 have c92_:=c92 (decide (h.f < 0)||(decide (h.t≤h.f)||decide (86400 < h.t))) 14
 refine call_of_vc (x:=jr117) (by kernel_rfl) rfl ?_
 refine sd ?_
 refine b_lt (fun t1=>?_) (fun t1=>?_)
 refine sd ?_
 refine sd ?_
 refine ca (c92 _ _) ?_
 rotate_left
 refine sd ?_
 refine b_le (fun t2=>?_) (fun t2=>?_)
 refine sd ?_
 refine ca (c92 _ _) ?_
 rotate_left
 refine sd ?_
 refine ca (c92 _ _) ?_
 rotate_left
 all_goals (refine resC ?_; unfold hrE; simp [cmpF, *]; done)
theorem c115 (h:Hr):CallDet Tryz.prog 18 [.d (.agg [.int .i64 h.f,.int .i64 h.t]),.d (.int .i64 86400)] [.int .i64 (hrE h)]:=by
 refine call_of_vc (x:=jr115) (by kernel_rfl) rfl ?_
 refine sd ?_
 refine b_lt (fun t1=>?_) (fun t1=>?_)
 refine sd ?_
 refine sd ?_
 refine ca (c97 _ _) ?_
 rotate_left
 refine sd ?_
 refine b_le (fun t2=>?_) (fun t2=>?_)
 refine sd ?_
 refine ca (c97 _ _) ?_
 rotate_left
 refine sd ?_
 refine ca (c97 _ _) ?_
 rotate_left
 all_goals (refine resC ?_; unfold hrE; simp [cmpF, *]; done)
theorem c47 (l:List Hr) (hl:l.length≤1048576):CallDet Tryz.prog 11 [.d (.slice 9 (hrs l))] [.slice 9 (hrs l)]:=by
 have hll:=hrs_len l
 refine call_of_vc (x:=jr47) (by kernel_rfl) rfl ?_
 refine loop_st (fun k:Nat=>⟨[(3,.sl 2 (hrs (l.take k)).length),(6,.d (.slice 9 (hrs l))),(7,.d (.int .i64 (((hrs l).length:Nat):Int))),(8,.d (.int .i64 ((k:Nat))))],[.none,.none,.row 117 9 (hrs (l.take k)) false]⟩) (fun k=>k≤l.length) (fun k=>l.length - k) 0 rfl (Nat.zero_le _) ?_
 intro k hk
 have hk:k≤l.length:=hk
 have hlk:=hrs_len (l.take k)
 rw [List.length_take] at hlk
 dsimp only
 by_cases hkn:k < l.length
 ·refine Exists.elim (get_lt l hkn) fun h hx=>?_
  have hx1:=hrs_at hx
  have fin:∃ a':Nat,(a'≤l.length∧l.length - a' < l.length - k)∧(⟨[(3,.sl 2 (hrs (l.take k)++[Data.agg [.bool h.d0,.bool h.d1,.bool h.d2,.bool h.d3,.bool h.d4,.bool h.d5,.bool h.d6,.int .i64 h.f,.int .i64 h.t]]).length),(6,.d (.slice 9 (hrs l))),(7,.d (.int .i64 (((hrs l).length:Nat):Int))),(8,.d (.int .i64 ((k:Int)+1)))],[.none,.none,.row 117 9 (hrs (l.take k)++[Data.agg [.bool h.d0,.bool h.d1,.bool h.d2,.bool h.d3,.bool h.d4,.bool h.d5,.bool h.d6,.int .i64 h.f,.int .i64 h.t]]) false]⟩:St)=⟨[(3,.sl 2 (hrs (l.take a')).length),(6,.d (.slice 9 (hrs l))),(7,.d (.int .i64 (((hrs l).length:Nat):Int))),(8,.d (.int .i64 ((a':Nat))))],[.none,.none,.row 117 9 (hrs (l.take a')) false]⟩:=⟨k+1,⟨by omega,by omega⟩,by rw [hrs_step hx]; rfl⟩
  refine sd ?_
  refine b_lt (fun t1=>?_) (fun t1=>?_)
  refine ix_at hx1 ?_ ?_
  (show (0:Int)≤(↑k:Int); omega)
  refine sd ?_
  refine sd ?_
  refine sd ?_
  refine an ?_ ?_
  refine an ?_ ?_
  exact rfl
  refine an ?_ ?_
  exact rfl
  refine an ?_ ?_
  exact rfl
  refine an ?_ ?_
  (show (List.length (hrs (List.take k l))+(1:Nat)) * (24:Nat)≤(2:Nat) ^ (47:Nat); omega)
  (show List.length (hrs (List.take k l))+(1:Nat)≤(2:Nat) ^ (47:Nat); omega)
  refine ar_add ?_ ?_
  refine an ?_ ?_
  (show (-9223372036854775808:Int)≤(↑k:Int)+(1:Int); omega)
  (show (↑k:Int)+(1:Int)≤(9223372036854775807:Int); omega)
  rotate_left
  (exfalso; omega)
  all_goals exact fin
 ·have e:l.take k=l:=List.take_of_length_le (by omega)
  rw [e]
  refine sd ?_
  refine b_lt (fun t1=>?_) (fun t1=>?_)
  (exfalso; omega)
  refine sd ?_
  exact rfl
theorem c116 (l:List Hr) (hl:l.length≤1048576):CallDet Tryz.prog 76 [.d (.slice 9 (hrs l)),.d (.fn (.func 77) [])] [.slice 1 (ints (l.map hrE))]:=by
 have hll:=hrs_len l
 refine call_of_vc (x:=jr116) (by kernel_rfl) rfl ?_
 refine loop_st (fun k:Nat=>⟨[(1,.d (.fn (.func 77) [])),(5,.sl 2 (ints ((l.take k).map hrE)).length),(8,.d (.slice 9 (hrs l))),(9,.d (.int .i64 (((hrs l).length:Nat):Int))),(10,.d (.int .i64 ((k:Nat))))],[.none,.none,.row 43 1 (ints ((l.take k).map hrE)) false]⟩) (fun k=>k≤l.length) (fun k=>l.length - k) 0 rfl (Nat.zero_le _) ?_
 intro k hk
 have hk:k≤l.length:=hk
 have hlk:(ints ((l.take k).map hrE)).length=min k l.length:=by unfold ints; rw [List.length_map,List.length_map,List.length_take]
 dsimp only
 by_cases hkn:k < l.length
 ·refine Exists.elim (get_lt l hkn) fun h hx=>?_
  have hx1:=hrs_at hx
  have c117_:=c117 h
  have fin:∃ a':Nat,(a'≤l.length∧l.length - a' < l.length - k)∧(⟨[(1,.d (.fn (.func 77) [])),(5,.sl 2 (ints ((l.take k).map hrE)++[Data.int .i64 (hrE h)]).length),(8,.d (.slice 9 (hrs l))),(9,.d (.int .i64 (((hrs l).length:Nat):Int))),(10,.d (.int .i64 ((k:Int)+1)))],[.none,.none,.row 43 1 (ints ((l.take k).map hrE)++[Data.int .i64 (hrE h)]) false]⟩:St)=⟨[(1,.d (.fn (.func 77) [])),(5,.sl 2 (ints ((l.take a').map hrE)).length),(8,.d (.slice 9 (hrs l))),(9,.d (.int .i64 (((hrs l).length:Nat):Int))),(10,.d (.int .i64 ((a':Nat))))],[.none,.none,.row 43 1 (ints ((l.take a').map hrE)) false]⟩:=⟨k+1,⟨by omega,by omega⟩,by rw [take_map_succ hrE hx]; unfold ints; rw [List.map_append]; rfl⟩
  refine sd ?_
  refine b_lt (fun t1=>?_) (fun t1=>?_)
  refine ix_at hx1 ?_ ?_
  (show (0:Int)≤(↑k:Int); omega)
  refine ca c117_ ?_
  refine sd ?_
  refine sd ?_
  refine sd ?_
  refine an ?_ ?_
  refine an ?_ ?_
  exact rfl
  refine an ?_ ?_
  exact rfl
  refine an ?_ ?_
  exact rfl
  refine an ?_ ?_
  (show (List.length (ints (List.map hrE (List.take k l)))+(1:Nat)) * (8:Nat)≤(2:Nat) ^ (47:Nat); omega)
  (show List.length (ints (List.map hrE (List.take k l)))+(1:Nat)≤(2:Nat) ^ (47:Nat); omega)
  refine ar_add ?_ ?_
  refine an ?_ ?_
  (show (-9223372036854775808:Int)≤(↑k:Int)+(1:Int); omega)
  (show (↑k:Int)+(1:Int)≤(9223372036854775807:Int); omega)
  rotate_left
  (exfalso; omega)
  all_goals exact fin
 ·have e:l.take k=l:=List.take_of_length_le (by omega)
  rw [e]
  refine sd ?_
  refine b_lt (fun t1=>?_) (fun t1=>?_)
  (exfalso; omega)
  refine sd ?_
  exact rfl
theorem c55 (l:List Hr) (hl:l.length≤1048576):CallDet Tryz.prog 40 [.d (.slice 9 (hrs l))] [.int .i64 (ckH l)]:=by
 have hll:=hrs_len l
 have c116_:=c116 l hl
 have c90_:=c90 (l.map hrE) (by rw [List.length_map]; omega)
 rw [first_map] at c90_
 refine call_of_vc (x:=jr55) (by kernel_rfl) rfl ?_
 refine sd ?_
 refine b_lt (fun t1=>?_) (fun t1=>?_)
 rotate_left
 refine ca c116_ ?_
 refine ca c90_ ?_
 rotate_left
 ·refine resC ?_
  unfold ckH
  rw [decide_eq_true t1]; rfl
 ·refine resC ?_
  unfold ckH
  rw [decide_eq_false t1]; rfl
theorem c50 (l:List Hr) (hl:l.length≤1048576):CallDet Tryz.prog 5 [.d (.slice 9 (hrs l))] [.int .i64 (ckH l)]:=by
 have hll:=hrs_len l
 have p1:(16:Int) < (((hrs l).length:Nat):Int)→5=ckH l:=fun h=>by unfold ckH; rw [decide_eq_true h]; rfl
 have p2:¬ (16:Int) < (((hrs l).length:Nat):Int)→ckH l=hrsE l:=fun h=>by unfold ckH; rw [decide_eq_false h]; rfl
 refine call_of_vc (x:=jr50) (by kernel_rfl) rfl ?_
 refine sd ?_
 refine b_lt (fun t1=>?_) (fun t1=>?_)
 rotate_left
 rotate_left
 ·exact resC (p1 t1).symm
 rw [p2 t1]
 refine loop_st (fun k:Nat=>⟨[(0,.d (.slice 9 (hrs l))),(3,.d (.int .i64 ((k:Nat))))],[]⟩) (fun k=>k≤l.length∧hrsE l=hrsE (l.drop k)) (fun k=>l.length - k) 0 rfl ⟨Nat.zero_le _,rfl⟩ ?_
 rintro k ⟨hk,hi⟩
 have hk:k≤l.length:=hk
 dsimp only
 by_cases hkn:k < l.length
 ·refine Exists.elim (get_lt l hkn) fun h hx=>?_
  have hx1:=hrs_at hx
  rw [drop_at hx,hrsE] at hi
  have c115_:=c115 h
  by_cases h0:hrE h=0
  ·rw [h0] at hi c115_
   have hi:hrsE l=hrsE (l.drop (k+1)):=hi
   have fin:∃ a':Nat,((a'≤l.length∧hrsE l=hrsE (l.drop a'))∧l.length - a' < l.length - k)∧(⟨[(0,.d (.slice 9 (hrs l))),(3,.d (.int .i64 ((k:Int)+1)))],[]⟩:St)=⟨[(0,.d (.slice 9 (hrs l))),(3,.d (.int .i64 ((a':Nat))))],[]⟩:=⟨k+1,⟨⟨by omega,hi⟩,by omega⟩,rfl⟩
   refine sd ?_
   refine b_lt (fun t2=>?_) (fun t2=>?_)
   refine ix_at hx1 ?_ ?_
   (show (0:Int)≤(↑k:Int); omega)
   refine ca c115_ ?_
   refine sd ?_
   refine ar_add ?_ ?_
   refine an ?_ ?_
   (show (-9223372036854775808:Int)≤(↑k:Int)+(1:Int); omega)
   (show (↑k:Int)+(1:Int)≤(9223372036854775807:Int); omega)
   rotate_left
   (exfalso; omega)
   all_goals exact fin
  ·rw [bne_t h0] at hi
   have hi:hrsE l=hrE h:=hi
   rw [hi]
   refine sd ?_
   refine b_lt (fun t2=>?_) (fun t2=>?_)
   refine ix_at hx1 ?_ ?_
   (show (0:Int)≤(↑k:Int); omega)
   refine ca c115_ ?_
   refine sd ?_
   refine b_ne (fun t3=>?_) (fun t3=>?_)
   exact rfl
   (exfalso; omega)
   (exfalso; omega)
 ·rw [List.drop_eq_nil_of_le (by omega)] at hi
  have hi:hrsE l=0:=hi
  rw [hi]
  refine sd ?_
  refine b_lt (fun t2=>?_) (fun t2=>?_)
  (exfalso; omega)
  exact rfl
theorem day7 (t:Int):t / 86400 % 7=0∨t / 86400 % 7=1∨t / 86400 % 7=2∨t / 86400 % 7=3∨t / 86400 % 7=4∨t / 86400 % 7=5∨t / 86400 % 7=6:=by omega
theorem rem7 {q k:Int} (h0:0≤q) (h:q % 7=k):arithF .rem .i64 q 7=some k:=by
 simp only [arithF]
 rw [if_neg (by omega),Int.tmod_eq_emod_of_nonneg h0,h]
structure Kmb where
 k:Nat
 m:Int
 b:Bool
theorem c113 (l:List Hr) (t:Int) (hl:l.length≤1048576) (h0:0≤t) (h1:t≤1000000000) (hg:∀ h∈l,h.ok):CallDet Tryz.prog 41 [.d (.slice 9 (hrs l)),.d (.int .i64 t)] [.int .i64 (nx t l t),.bool (prL l t)]:=by
 have hll:=hrs_len l
 refine call_of_vc (x:=jr113) (by kernel_rfl) rfl ?_
 refine ar_quo ?_ ?_
 refine an ?_ ?_
 assumption
 refine an ?_ ?_
 (show t≤(9223372036854775807:Int); omega)
 (show (1:Int)≤(86400:Int); omega)
 refine ar_rem ?_ ?_
 refine an ?_ ?_
 assumption
 (show (1:Int)≤(86400:Int); omega)
 rotate_left
 refine loop_st (fun p:Kmb=>⟨[(6,.d (.int .i64 (t / 86400))),(7,.d (.int .i64 (t % 86400))),(8,.d (.int .i64 (p.m))),(9,.d (.bool (p.b))),(17,.d (.slice 9 (hrs l))),(18,.d (.int .i64 (((hrs l).length:Nat):Int))),(19,.d (.int .i64 ((p.k:Nat))))],[.none]⟩) (fun p=>(p.k≤l.length∧nx t l t=nx t (l.drop p.k) p.m)∧prL l t=(p.b||prL (l.drop p.k) t)) (fun p=>l.length - p.k) ⟨0,t,false⟩ rfl ⟨⟨Nat.zero_le _,rfl⟩,by simp⟩ ?_
 rintro ⟨k,m,b⟩ ⟨⟨hk,hi⟩,hj⟩
 have hk:k≤l.length:=hk
 have hi:nx t l t=nx t (l.drop k) m:=hi
 have hj:prL l t=(b||prL (l.drop k) t):=hj
 dsimp only
 by_cases hkn:k < l.length
 ·refine Exists.elim (get_lt l hkn) fun h hx=>?_
  have hx1:=hrs_at hx
  have hok:=hg h (List.mem_of_getElem? hx)
  unfold Hr.ok at hok
  rw [drop_at hx,prL] at hj
  rw [drop_at hx,nx] at hi
  have fin0:pr h t=false→∃ a':Kmb,(((a'.k≤l.length∧nx t l t=nx t (l.drop a'.k) a'.m)∧prL l t=(a'.b||prL (l.drop a'.k) t))∧l.length - a'.k < l.length - k)∧(⟨[(6,.d (.int .i64 (t / 86400))),(7,.d (.int .i64 (t % 86400))),(8,.d (.int .i64 (m))),(9,.d (.bool (b))),(17,.d (.slice 9 (hrs l))),(18,.d (.int .i64 (((hrs l).length:Nat):Int))),(19,.d (.int .i64 ((k:Int)+1)))],[.none]⟩:St)=⟨[(6,.d (.int .i64 (t / 86400))),(7,.d (.int .i64 (t % 86400))),(8,.d (.int .i64 (a'.m))),(9,.d (.bool (a'.b))),(17,.d (.slice 9 (hrs l))),(18,.d (.int .i64 (((hrs l).length:Nat):Int))),(19,.d (.int .i64 ((a'.k:Nat))))],[.none]⟩:=fun hq=>⟨⟨k+1,m,b⟩,⟨⟨⟨by show k+1≤_; omega,by rw [hi,hq]; rfl⟩,by rw [hj,hq]; rfl⟩,by show l.length - (k+1) < _; omega⟩,rfl⟩
  have fin1:pr h t=true→∃ a':Kmb,(((a'.k≤l.length∧nx t l t=nx t (l.drop a'.k) a'.m)∧prL l t=(a'.b||prL (l.drop a'.k) t))∧l.length - a'.k < l.length - k)∧(⟨[(6,.d (.int .i64 (t / 86400))),(7,.d (.int .i64 (t % 86400))),(8,.d (.int .i64 (max m (t / 86400 * 86400+h.t)))),(9,.d (.bool (true))),(17,.d (.slice 9 (hrs l))),(18,.d (.int .i64 (((hrs l).length:Nat):Int))),(19,.d (.int .i64 ((k:Int)+1)))],[.none]⟩:St)=⟨[(6,.d (.int .i64 (t / 86400))),(7,.d (.int .i64 (t % 86400))),(8,.d (.int .i64 (a'.m))),(9,.d (.bool (a'.b))),(17,.d (.slice 9 (hrs l))),(18,.d (.int .i64 (((hrs l).length:Nat):Int))),(19,.d (.int .i64 ((a'.k:Nat))))],[.none]⟩:=fun hq=>⟨⟨k+1,_,true⟩,⟨⟨⟨by show k+1≤_; omega,by rw [hi,hq]; rfl⟩,by rw [hj,hq]; cases b <;> rfl⟩,by show l.length - (k+1) < _; omega⟩,rfl⟩
  rcases day7 t with e | e | e | e | e | e | e
  ·have hp:pr h t=(h.d0&&(decide (h.f≤t % 86400)&&decide (t % 86400 < h.t))):=by unfold pr; rw [e]; rfl
   have hr7:=rem7 (q:=t / 86400) (by omega) e
   refine sd ?_
   refine b_lt (fun t1=>?_) (fun t1=>?_)
   refine ix_at hx1 ?_ ?_
   (show (0:Int)≤(↑k:Int); omega)
   refine ar_is hr7 ?_
   refine an ?_ ?_
   refine an ?_ ?_
   (show (0:Int)≤(0:Int); omega)
   (show (0:Int) < (↑(7:Nat):Int); omega)
   refine b_intro (fun t2=>?_) (fun t2=>?_)
   refine sd ?_
   refine b_le (fun t3=>?_) (fun t3=>?_)
   refine sd ?_
   refine b_lt (fun t4=>?_) (fun t4=>?_)
   refine ar_mul ?_ ?_
   refine an ?_ ?_
   (show (-9223372036854775808:Int)≤t / (86400:Int) * (86400:Int); omega)
   (show t / (86400:Int) * (86400:Int)≤(9223372036854775807:Int); omega)
   refine ar_add ?_ ?_
   refine an ?_ ?_
   (show (-9223372036854775808:Int)≤t / (86400:Int) * (86400:Int)+Hr.t h; omega)
   (show t / (86400:Int) * (86400:Int)+Hr.t h≤(9223372036854775807:Int); omega)
   refine sd ?_
   refine ar_add ?_ ?_
   refine an ?_ ?_
   (show (-9223372036854775808:Int)≤(↑k:Int)+(1:Int); omega)
   (show (↑k:Int)+(1:Int)≤(9223372036854775807:Int); omega)
   rotate_left
   refine ar_add ?_ ?_
   refine an ?_ ?_
   (show (-9223372036854775808:Int)≤(↑k:Int)+(1:Int); omega)
   (show (↑k:Int)+(1:Int)≤(9223372036854775807:Int); omega)
   rotate_left
   refine sd ?_
   refine ar_add ?_ ?_
   refine an ?_ ?_
   (show (-9223372036854775808:Int)≤(↑k:Int)+(1:Int); omega)
   (show (↑k:Int)+(1:Int)≤(9223372036854775807:Int); omega)
   rotate_left
   refine sd ?_
   refine sd ?_
   refine ar_add ?_ ?_
   refine an ?_ ?_
   (show (-9223372036854775808:Int)≤(↑k:Int)+(1:Int); omega)
   (show (↑k:Int)+(1:Int)≤(9223372036854775807:Int); omega)
   rotate_left
   (exfalso; omega)
   all_goals first | exact fin0 (by rw [hp]; simp [*]; done) | exact fin1 (by rw [hp]; simp [*]; done)
  ·have hp:pr h t=(h.d1&&(decide (h.f≤t % 86400)&&decide (t % 86400 < h.t))):=by unfold pr; rw [e]; rfl
   have hr7:=rem7 (q:=t / 86400) (by omega) e
   refine sd ?_
   refine b_lt (fun t1=>?_) (fun t1=>?_)
   refine ix_at hx1 ?_ ?_
   (show (0:Int)≤(↑k:Int); omega)
   refine ar_is hr7 ?_
   refine an ?_ ?_
   refine an ?_ ?_
   (show (0:Int)≤(1:Int); omega)
   (show (1:Int) < (↑(7:Nat):Int); omega)
   refine b_intro (fun t2=>?_) (fun t2=>?_)
   refine sd ?_
   refine b_le (fun t3=>?_) (fun t3=>?_)
   refine sd ?_
   refine b_lt (fun t4=>?_) (fun t4=>?_)
   refine ar_mul ?_ ?_
   refine an ?_ ?_
   (show (-9223372036854775808:Int)≤t / (86400:Int) * (86400:Int); omega)
   (show t / (86400:Int) * (86400:Int)≤(9223372036854775807:Int); omega)
   refine ar_add ?_ ?_
   refine an ?_ ?_
   (show (-9223372036854775808:Int)≤t / (86400:Int) * (86400:Int)+Hr.t h; omega)
   (show t / (86400:Int) * (86400:Int)+Hr.t h≤(9223372036854775807:Int); omega)
   refine sd ?_
   refine ar_add ?_ ?_
   refine an ?_ ?_
   (show (-9223372036854775808:Int)≤(↑k:Int)+(1:Int); omega)
   (show (↑k:Int)+(1:Int)≤(9223372036854775807:Int); omega)
   rotate_left
   refine ar_add ?_ ?_
   refine an ?_ ?_
   (show (-9223372036854775808:Int)≤(↑k:Int)+(1:Int); omega)
   (show (↑k:Int)+(1:Int)≤(9223372036854775807:Int); omega)
   rotate_left
   refine sd ?_
   refine ar_add ?_ ?_
   refine an ?_ ?_
   (show (-9223372036854775808:Int)≤(↑k:Int)+(1:Int); omega)
   (show (↑k:Int)+(1:Int)≤(9223372036854775807:Int); omega)
   rotate_left
   refine sd ?_
   refine sd ?_
   refine ar_add ?_ ?_
   refine an ?_ ?_
   (show (-9223372036854775808:Int)≤(↑k:Int)+(1:Int); omega)
   (show (↑k:Int)+(1:Int)≤(9223372036854775807:Int); omega)
   rotate_left
   (exfalso; omega)
   all_goals first | exact fin0 (by rw [hp]; simp [*]; done) | exact fin1 (by rw [hp]; simp [*]; done)
  ·have hp:pr h t=(h.d2&&(decide (h.f≤t % 86400)&&decide (t % 86400 < h.t))):=by unfold pr; rw [e]; rfl
   have hr7:=rem7 (q:=t / 86400) (by omega) e
   refine sd ?_
   refine b_lt (fun t1=>?_) (fun t1=>?_)
   refine ix_at hx1 ?_ ?_
   (show (0:Int)≤(↑k:Int); omega)
   refine ar_is hr7 ?_
   refine an ?_ ?_
   refine an ?_ ?_
   (show (0:Int)≤(2:Int); omega)
   (show (2:Int) < (↑(7:Nat):Int); omega)
   refine b_intro (fun t2=>?_) (fun t2=>?_)
   refine sd ?_
   refine b_le (fun t3=>?_) (fun t3=>?_)
   refine sd ?_
   refine b_lt (fun t4=>?_) (fun t4=>?_)
   refine ar_mul ?_ ?_
   refine an ?_ ?_
   (show (-9223372036854775808:Int)≤t / (86400:Int) * (86400:Int); omega)
   (show t / (86400:Int) * (86400:Int)≤(9223372036854775807:Int); omega)
   refine ar_add ?_ ?_
   refine an ?_ ?_
   (show (-9223372036854775808:Int)≤t / (86400:Int) * (86400:Int)+Hr.t h; omega)
   (show t / (86400:Int) * (86400:Int)+Hr.t h≤(9223372036854775807:Int); omega)
   refine sd ?_
   refine ar_add ?_ ?_
   refine an ?_ ?_
   (show (-9223372036854775808:Int)≤(↑k:Int)+(1:Int); omega)
   (show (↑k:Int)+(1:Int)≤(9223372036854775807:Int); omega)
   rotate_left
   refine ar_add ?_ ?_
   refine an ?_ ?_
   (show (-9223372036854775808:Int)≤(↑k:Int)+(1:Int); omega)
   (show (↑k:Int)+(1:Int)≤(9223372036854775807:Int); omega)
   rotate_left
   refine sd ?_
   refine ar_add ?_ ?_
   refine an ?_ ?_
   (show (-9223372036854775808:Int)≤(↑k:Int)+(1:Int); omega)
   (show (↑k:Int)+(1:Int)≤(9223372036854775807:Int); omega)
   rotate_left
   refine sd ?_
   refine sd ?_
   refine ar_add ?_ ?_
   refine an ?_ ?_
   (show (-9223372036854775808:Int)≤(↑k:Int)+(1:Int); omega)
   (show (↑k:Int)+(1:Int)≤(9223372036854775807:Int); omega)
   rotate_left
   (exfalso; omega)
   all_goals first | exact fin0 (by rw [hp]; simp [*]; done) | exact fin1 (by rw [hp]; simp [*]; done)
  ·have hp:pr h t=(h.d3&&(decide (h.f≤t % 86400)&&decide (t % 86400 < h.t))):=by unfold pr; rw [e]; rfl
   have hr7:=rem7 (q:=t / 86400) (by omega) e
   refine sd ?_
   refine b_lt (fun t1=>?_) (fun t1=>?_)
   refine ix_at hx1 ?_ ?_
   (show (0:Int)≤(↑k:Int); omega)
   refine ar_is hr7 ?_
   refine an ?_ ?_
   refine an ?_ ?_
   (show (0:Int)≤(3:Int); omega)
   (show (3:Int) < (↑(7:Nat):Int); omega)
   refine b_intro (fun t2=>?_) (fun t2=>?_)
   refine sd ?_
   refine b_le (fun t3=>?_) (fun t3=>?_)
   refine sd ?_
   refine b_lt (fun t4=>?_) (fun t4=>?_)
   refine ar_mul ?_ ?_
   refine an ?_ ?_
   (show (-9223372036854775808:Int)≤t / (86400:Int) * (86400:Int); omega)
   (show t / (86400:Int) * (86400:Int)≤(9223372036854775807:Int); omega)
   refine ar_add ?_ ?_
   refine an ?_ ?_
   (show (-9223372036854775808:Int)≤t / (86400:Int) * (86400:Int)+Hr.t h; omega)
   (show t / (86400:Int) * (86400:Int)+Hr.t h≤(9223372036854775807:Int); omega)
   refine sd ?_
   refine ar_add ?_ ?_
   refine an ?_ ?_
   (show (-9223372036854775808:Int)≤(↑k:Int)+(1:Int); omega)
   (show (↑k:Int)+(1:Int)≤(9223372036854775807:Int); omega)
   rotate_left
   refine ar_add ?_ ?_
   refine an ?_ ?_
   (show (-9223372036854775808:Int)≤(↑k:Int)+(1:Int); omega)
   (show (↑k:Int)+(1:Int)≤(9223372036854775807:Int); omega)
   rotate_left
   refine sd ?_
   refine ar_add ?_ ?_
   refine an ?_ ?_
   (show (-9223372036854775808:Int)≤(↑k:Int)+(1:Int); omega)
   (show (↑k:Int)+(1:Int)≤(9223372036854775807:Int); omega)
   rotate_left
   refine sd ?_
   refine sd ?_
   refine ar_add ?_ ?_
   refine an ?_ ?_
   (show (-9223372036854775808:Int)≤(↑k:Int)+(1:Int); omega)
   (show (↑k:Int)+(1:Int)≤(9223372036854775807:Int); omega)
   rotate_left
   (exfalso; omega)
   all_goals first | exact fin0 (by rw [hp]; simp [*]; done) | exact fin1 (by rw [hp]; simp [*]; done)
  ·have hp:pr h t=(h.d4&&(decide (h.f≤t % 86400)&&decide (t % 86400 < h.t))):=by unfold pr; rw [e]; rfl
   have hr7:=rem7 (q:=t / 86400) (by omega) e
   refine sd ?_
   refine b_lt (fun t1=>?_) (fun t1=>?_)
   refine ix_at hx1 ?_ ?_
   (show (0:Int)≤(↑k:Int); omega)
   refine ar_is hr7 ?_
   refine an ?_ ?_
   refine an ?_ ?_
   (show (0:Int)≤(4:Int); omega)
   (show (4:Int) < (↑(7:Nat):Int); omega)
   refine b_intro (fun t2=>?_) (fun t2=>?_)
   refine sd ?_
   refine b_le (fun t3=>?_) (fun t3=>?_)
   refine sd ?_
   refine b_lt (fun t4=>?_) (fun t4=>?_)
   refine ar_mul ?_ ?_
   refine an ?_ ?_
   (show (-9223372036854775808:Int)≤t / (86400:Int) * (86400:Int); omega)
   (show t / (86400:Int) * (86400:Int)≤(9223372036854775807:Int); omega)
   refine ar_add ?_ ?_
   refine an ?_ ?_
   (show (-9223372036854775808:Int)≤t / (86400:Int) * (86400:Int)+Hr.t h; omega)
   (show t / (86400:Int) * (86400:Int)+Hr.t h≤(9223372036854775807:Int); omega)
   refine sd ?_
   refine ar_add ?_ ?_
   refine an ?_ ?_
   (show (-9223372036854775808:Int)≤(↑k:Int)+(1:Int); omega)
   (show (↑k:Int)+(1:Int)≤(9223372036854775807:Int); omega)
   rotate_left
   refine ar_add ?_ ?_
   refine an ?_ ?_
   (show (-9223372036854775808:Int)≤(↑k:Int)+(1:Int); omega)
   (show (↑k:Int)+(1:Int)≤(9223372036854775807:Int); omega)
   rotate_left
   refine sd ?_
   refine ar_add ?_ ?_
   refine an ?_ ?_
   (show (-9223372036854775808:Int)≤(↑k:Int)+(1:Int); omega)
   (show (↑k:Int)+(1:Int)≤(9223372036854775807:Int); omega)
   rotate_left
   refine sd ?_
   refine sd ?_
   refine ar_add ?_ ?_
   refine an ?_ ?_
   (show (-9223372036854775808:Int)≤(↑k:Int)+(1:Int); omega)
   (show (↑k:Int)+(1:Int)≤(9223372036854775807:Int); omega)
   rotate_left
   (exfalso; omega)
   all_goals first | exact fin0 (by rw [hp]; simp [*]; done) | exact fin1 (by rw [hp]; simp [*]; done)
  ·have hp:pr h t=(h.d5&&(decide (h.f≤t % 86400)&&decide (t % 86400 < h.t))):=by unfold pr; rw [e]; rfl
   have hr7:=rem7 (q:=t / 86400) (by omega) e
   refine sd ?_
   refine b_lt (fun t1=>?_) (fun t1=>?_)
   refine ix_at hx1 ?_ ?_
   (show (0:Int)≤(↑k:Int); omega)
   refine ar_is hr7 ?_
   refine an ?_ ?_
   refine an ?_ ?_
   (show (0:Int)≤(5:Int); omega)
   (show (5:Int) < (↑(7:Nat):Int); omega)
   refine b_intro (fun t2=>?_) (fun t2=>?_)
   refine sd ?_
   refine b_le (fun t3=>?_) (fun t3=>?_)
   refine sd ?_
   refine b_lt (fun t4=>?_) (fun t4=>?_)
   refine ar_mul ?_ ?_
   refine an ?_ ?_
   (show (-9223372036854775808:Int)≤t / (86400:Int) * (86400:Int); omega)
   (show t / (86400:Int) * (86400:Int)≤(9223372036854775807:Int); omega)
   refine ar_add ?_ ?_
   refine an ?_ ?_
   (show (-9223372036854775808:Int)≤t / (86400:Int) * (86400:Int)+Hr.t h; omega)
   (show t / (86400:Int) * (86400:Int)+Hr.t h≤(9223372036854775807:Int); omega)
   refine sd ?_
   refine ar_add ?_ ?_
   refine an ?_ ?_
   (show (-9223372036854775808:Int)≤(↑k:Int)+(1:Int); omega)
   (show (↑k:Int)+(1:Int)≤(9223372036854775807:Int); omega)
   rotate_left
   refine ar_add ?_ ?_
   refine an ?_ ?_
   (show (-9223372036854775808:Int)≤(↑k:Int)+(1:Int); omega)
   (show (↑k:Int)+(1:Int)≤(9223372036854775807:Int); omega)
   rotate_left
   refine sd ?_
   refine ar_add ?_ ?_
   refine an ?_ ?_
   (show (-9223372036854775808:Int)≤(↑k:Int)+(1:Int); omega)
   (show (↑k:Int)+(1:Int)≤(9223372036854775807:Int); omega)
   rotate_left
   refine sd ?_
   refine sd ?_
   refine ar_add ?_ ?_
   refine an ?_ ?_
   (show (-9223372036854775808:Int)≤(↑k:Int)+(1:Int); omega)
   (show (↑k:Int)+(1:Int)≤(9223372036854775807:Int); omega)
   rotate_left
   (exfalso; omega)
   all_goals first | exact fin0 (by rw [hp]; simp [*]; done) | exact fin1 (by rw [hp]; simp [*]; done)
  ·have hp:pr h t=(h.d6&&(decide (h.f≤t % 86400)&&decide (t % 86400 < h.t))):=by unfold pr; rw [e]; rfl
   have hr7:=rem7 (q:=t / 86400) (by omega) e
   refine sd ?_
   refine b_lt (fun t1=>?_) (fun t1=>?_)
   refine ix_at hx1 ?_ ?_
   (show (0:Int)≤(↑k:Int); omega)
   refine ar_is hr7 ?_
   refine an ?_ ?_
   refine an ?_ ?_
   (show (0:Int)≤(6:Int); omega)
   (show (6:Int) < (↑(7:Nat):Int); omega)
   refine b_intro (fun t2=>?_) (fun t2=>?_)
   refine sd ?_
   refine b_le (fun t3=>?_) (fun t3=>?_)
   refine sd ?_
   refine b_lt (fun t4=>?_) (fun t4=>?_)
   refine ar_mul ?_ ?_
   refine an ?_ ?_
   (show (-9223372036854775808:Int)≤t / (86400:Int) * (86400:Int); omega)
   (show t / (86400:Int) * (86400:Int)≤(9223372036854775807:Int); omega)
   refine ar_add ?_ ?_
   refine an ?_ ?_
   (show (-9223372036854775808:Int)≤t / (86400:Int) * (86400:Int)+Hr.t h; omega)
   (show t / (86400:Int) * (86400:Int)+Hr.t h≤(9223372036854775807:Int); omega)
   refine sd ?_
   refine ar_add ?_ ?_
   refine an ?_ ?_
   (show (-9223372036854775808:Int)≤(↑k:Int)+(1:Int); omega)
   (show (↑k:Int)+(1:Int)≤(9223372036854775807:Int); omega)
   rotate_left
   refine ar_add ?_ ?_
   refine an ?_ ?_
   (show (-9223372036854775808:Int)≤(↑k:Int)+(1:Int); omega)
   (show (↑k:Int)+(1:Int)≤(9223372036854775807:Int); omega)
   rotate_left
   refine sd ?_
   refine ar_add ?_ ?_
   refine an ?_ ?_
   (show (-9223372036854775808:Int)≤(↑k:Int)+(1:Int); omega)
   (show (↑k:Int)+(1:Int)≤(9223372036854775807:Int); omega)
   rotate_left
   refine sd ?_
   refine sd ?_
   refine ar_add ?_ ?_
   refine an ?_ ?_
   (show (-9223372036854775808:Int)≤(↑k:Int)+(1:Int); omega)
   (show (↑k:Int)+(1:Int)≤(9223372036854775807:Int); omega)
   rotate_left
   (exfalso; omega)
   all_goals first | exact fin0 (by rw [hp]; simp [*]; done) | exact fin1 (by rw [hp]; simp [*]; done)
 ·rw [List.drop_eq_nil_of_le (by omega)] at hi hj
  have hi:nx t l t=m:=hi
  have hj:prL l t=b:=by rw [hj]; show (b||false)=b; rw [Bool.or_false]
  rw [hi,hj]
  refine sd ?_
  refine b_lt (fun t1=>?_) (fun t1=>?_)
  (exfalso; omega)
  exact rfl
end Vc.L
