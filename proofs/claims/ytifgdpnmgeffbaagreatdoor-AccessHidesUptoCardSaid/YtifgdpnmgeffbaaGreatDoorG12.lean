import Derived.Test.YtifgdpnmgeffbaaGreatDoorG11
set_option linter.unusedSectionVars false
set_option linter.unusedVariables false
set_option linter.unusedSimpArgs false
set_option maxRecDepth 10000
set_option maxHeartbeats 4000000
namespace Vc
open Go Go.Proofs
def allN (h w:Int):Nat:=(powN (w+1) h.toNat).toNat
def kivs (h w:Int) (l:List An):List (Int × Int):=kiv (w+1) h.toNat l (allN h w) h.toNat
def fndA (h w:Int) (l:List An):Bool:=fndB (w+1) h.toNat l (allN h w)
def knV (h w:Int) (l:List An):List (Int × Int):=bif fndA h w l then kivs h w l else []
def knX (h w:Int) (l:List An):Int:=bif fndA h w l then 0 else 18
def knE (h w:Int) (l:List An):Int:=bif ansE h w l != 0 then ansE h w l else knX h w l
def knL (h w:Int) (l:List An):List (Int × Int):=bif ansE h w l != 0 then [] else knV h w l
theorem kivs_rng {h w:Int} {l:List An} (hw:1≤w∧w≤7):∀ x∈kivs h w l,(0≤x.1∧x.1≤7)∧(0≤x.2∧x.2≤7):=fun x hx=>by
 unfold kivs kiv at hx
 obtain ⟨j,_,rfl⟩:=List.mem_map.1 hx
 have g:∀ (o:List Int),(∀ y∈o,0≤y∧y < w+1)→0≤o[j]?.getD 0∧o[j]?.getD 0≤7:=fun o ho=>by
  cases hy:o[j]? with
  | none=>exact ⟨Int.le_refl _,by decide⟩
  | some y=>have:=ho y (List.mem_of_getElem? hy); show 0≤y∧y≤7; omega
 unfold lowAt highAt
 cases hk:kn (w+1) h.toNat l (allN h w) with
 | none=>exact (show ((0:Int)≤0∧(0:Int)≤7)∧((0:Int)≤0∧(0:Int)≤7) by decide)
 | some o=>exact ⟨g _ (kn_rng (by omega) hk).1,g _ (kn_rng (by omega) hk).2⟩
theorem kivs_len (h w:Int) (l:List An):(kivs h w l).length=h.toNat:=kiv_len _ _ _ _ _
def jr48:AFun:=⟨28,0,[.tmp 6,.tmp 7],
 (.seq
 (.reg [] [⟨some 6,.mov (.cst (.nils 2)),none⟩,
  ⟨some 7,.mov (.cst (.d (.int .i64 0))),none⟩])
 (.seq
  (.seq
  (.reg [] [⟨some 11,.mov (.tmp 0),none⟩,
   ⟨some 12,.mov (.tmp 1),none⟩,
   ⟨some 13,.mov (.tmp 2),none⟩,
   ⟨some 14,.call 132 [(.tmp 11),(.tmp 12),(.tmp 13)],none⟩,
   ⟨some 8,.mov (.tmp 14),none⟩])
  (.seq
   (.reg [] [⟨some 15,.mov (.tmp 8),none⟩,
    ⟨some 16,.cmp .neq (.tmp 15) (.cst (.d (.int .i64 0))),none⟩])
   (.cond (.tmp 16)
   (.seq
    (.reg [] [⟨some 17,.mov (.tmp 8),none⟩,
     ⟨some 6,.mov (.cst (.nils 2)),none⟩,
     ⟨some 7,.mov (.tmp 17),none⟩])
    .ret)
   .skip)))
  (.seq
  (.reg [] [⟨some 19,.mov (.tmp 0),none⟩,
   ⟨some 20,.mov (.tmp 1),none⟩,
   ⟨some 21,.mov (.tmp 2),none⟩,
   ⟨some 22,.call 133 [(.tmp 19),(.tmp 20),(.tmp 21)],none⟩,
   ⟨some 18,.mov (.tmp 22),none⟩,
   ⟨some 23,.ext 0 (.tmp 18),none⟩,
   ⟨some 24,.ext 1 (.tmp 18),none⟩,
   ⟨some 9,.mov (.tmp 23),none⟩,
   ⟨some 10,.mov (.tmp 24),none⟩])
  (.seq
   (.seq
   (.reg [] [⟨some 25,.mov (.tmp 10),none⟩,
    ⟨some 26,.not (.tmp 25),none⟩])
   (.cond (.tmp 26)
    (.seq
    (.reg [] [⟨some 6,.mov (.cst (.nils 2)),none⟩,
     ⟨some 7,.mov (.cst (.d (.int .i64 18))),none⟩])
    .ret)
    .skip))
   (.seq
   (.reg [] [⟨some 27,.mov (.tmp 9),none⟩,
    ⟨some 6,.mov (.tmp 27),none⟩,
    ⟨some 7,.mov (.cst (.d (.int .i64 0))),none⟩])
   .ret)))))⟩
def jr50:AFun:=⟨37,2,[.tmp 8,.tmp 9],
 (.seq
 (.reg [0] [⟨some 7,.cbx 0 1 (.tmp 3),none⟩,
  ⟨some 8,.mov (.cst (.d (.bool false))),none⟩,
  ⟨some 9,.mov (.cst (.d (.int .i64 0))),none⟩])
 (.seq
  (.seq
  (.regd [1] [⟨some 13,.mov (.tmp 0),none⟩,
   ⟨some 14,.mov (.tmp 1),none⟩,
   ⟨some 15,.mov (.tmp 2),none⟩,
   ⟨some 16,.call 132 [(.tmp 13),(.tmp 14),(.tmp 15)],none⟩,
   ⟨some 17,.ld false 1 (.tmp 7),none⟩,
   ⟨some 18,.call 122 [(.tmp 17),(.cst (.d (.int .i64 0))),(.cst (.d (.int .i64 7)))],none⟩,
   ⟨some 19,.bsl 1 32 1 2 [(.int .i64 0),(.int .i64 0)] [(0,(.tmp 16)),(1,(.tmp 18))],none⟩,
   ⟨some 20,.call 99 [(.tmp 19)],none⟩,
   ⟨some 10,.mov (.tmp 20),none⟩] [(0,1),(0,2),(1,2),(0,4),(1,4),(2,4),(3,4)])
  (.seq
   (.reg [] [⟨some 21,.mov (.tmp 10),none⟩,
    ⟨some 22,.cmp .neq (.tmp 21) (.cst (.d (.int .i64 0))),none⟩])
   (.cond (.tmp 22)
   (.seq
    (.reg [] [⟨some 23,.mov (.tmp 10),none⟩,
     ⟨some 8,.mov (.cst (.d (.bool false))),none⟩,
     ⟨some 9,.mov (.tmp 23),none⟩])
    .ret)
   .skip)))
  (.seq
  (.reg [] [⟨some 25,.mov (.tmp 0),none⟩,
   ⟨some 26,.mov (.tmp 1),none⟩,
   ⟨some 27,.mov (.tmp 2),none⟩,
   ⟨some 28,.call 133 [(.tmp 25),(.tmp 26),(.tmp 27)],none⟩,
   ⟨some 24,.mov (.tmp 28),none⟩,
   ⟨some 29,.ext 0 (.tmp 24),none⟩,
   ⟨some 30,.ext 1 (.tmp 24),none⟩,
   ⟨some 11,.mov (.tmp 29),none⟩,
   ⟨some 12,.mov (.tmp 30),none⟩])
  (.seq
   (.seq
   (.reg [] [⟨some 31,.mov (.tmp 12),none⟩,
    ⟨some 32,.not (.tmp 31),none⟩])
   (.cond (.tmp 32)
    (.seq
    (.reg [] [⟨some 8,.mov (.cst (.d (.bool false))),none⟩,
     ⟨some 9,.mov (.cst (.d (.int .i64 18))),none⟩])
    .ret)
    .skip))
   (.seq
   (.reg [] [⟨some 33,.mov (.tmp 11),none⟩,
    ⟨some 34,.mkf (.func 135) [] [(.tmp 7)],none⟩,
    ⟨some 35,.call 134 [(.tmp 33),(.tmp 34)],none⟩,
    ⟨some 36,.not (.tmp 35),none⟩,
    ⟨some 8,.mov (.tmp 36),none⟩,
    ⟨some 9,.mov (.cst (.d (.int .i64 0))),none⟩])
   .ret)))))⟩
theorem c48 (h w:Int) (l:List An) (hl:l.length≤1048576) (hq:∀ x∈l,x.set.length≤1048576):CallDet Tryz.prog 48 [.d (.int .i64 h),.d (.int .i64 w),.d (.slice 2 (ans l))] [.slice 2 (ivs (knL h w l)),.int .i64 (knE h w l)]:=by
 have c132_:=c132 h w l hl hq
 refine call_of_vc (x:=jr48) (by kernel_rfl) rfl ?_
 by_cases he:ansE h w l=0
 ·have n1:(ansE h w l != 0)=false:=by rw [he]; rfl
  have ho:=ans_ok he
  have c133_:CallDet Tryz.prog 133 [.d (.int .i64 h),.d (.int .i64 w),.d (.slice 2 (ans l))] [.slice 2 (ivs (kivs h w l)),.bool (fndA h w l)]:=c133 h w l ho.1 ho.2.1 hl fun x hx=>⟨hq x hx,fun i hi=>by have:=(ho.2.2.2 x hx).1 i hi; have:=ho.1; omega⟩
  unfold knL knE knV knX
  rw [n1]
  generalize fndA h w l=f at *
  cases f
  ·have c133_:=c133_
   refine ca c132_ ?_
   refine sd ?_
   refine b_f n1 ?_
   refine ca c133_ ?_
   exact rfl
  ·have c133_:=c133_
   refine ca c132_ ?_
   refine sd ?_
   refine b_f n1 ?_
   refine ca c133_ ?_
   exact rfl
 ·have n1:(ansE h w l != 0)=true:=bne_iff_ne.2 he
  unfold knL knE
  rw [n1]
  refine ca c132_ ?_
  refine sd ?_
  refine b_t n1 ?_
  exact rfl
end Vc
