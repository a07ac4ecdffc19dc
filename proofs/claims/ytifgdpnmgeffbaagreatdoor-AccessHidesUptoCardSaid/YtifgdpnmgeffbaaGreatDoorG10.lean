import Derived.Shelf.Spec.SlicesGrow
import Derived.Test.YtifgdpnmgeffbaaGreatDoorProg
import Derived.Test.YtifgdpnmgeffbaaGreatDoorG09
import Derived.Test.YtifgdpnmgeffbaaGreatDoorG07
import Derived.Test.YtifgdpnmgeffbaaGreatDoorG04
set_option linter.unusedSectionVars false
set_option linter.unusedVariables false
set_option linter.unusedSimpArgs false
namespace Go.Proofs
open Go.Shelf
def Tryz.laysGrow_ren:Go.Shelf.Ren:=⟨fun | 4=>200 | n=>n,fun | 22=>111 | 25=>5 | 3=>3 | 4=>4 | 9=>9 | 20=>20 | 0=>0 | n=>n,fun | n=>n⟩
theorem Tryz.laysGrow:Go.Proofs.Lays8.n4 Tryz.prog Tryz.laysGrow_ren:={
 mixed:=by kernel_rfl
 f4:=⟨Tryz.f200.name,by decide,Tryz.func200.trans (congrArg some (by kernel_rfl))⟩
 t0:=Tryz.underlying0
 a0:=Tryz.isAgg0
 z0:=Tryz.sizeOf0
 v0:=Tryz.zeroValue0
 t3:=Tryz.underlying3
 a3:=Tryz.isAgg3
 z3:=Tryz.sizeOf3
 v3:=Tryz.zeroValue3
 t4:=Tryz.underlying4
 a4:=Tryz.isAgg4
 z4:=Tryz.sizeOf4
 v4:=Tryz.zeroValue4
 t9:=Tryz.underlying9
 a9:=Tryz.isAgg9
 z9:=Tryz.sizeOf9
 v9:=Tryz.zeroValue9
 t20:=Tryz.underlying20
 a20:=Tryz.isAgg20
 z20:=Tryz.sizeOf20
 v20:=Tryz.zeroValue20
 t22:=Tryz.underlying111
 a22:=Tryz.isAgg111
 z22:=Tryz.sizeOf111
 v22:=Tryz.zeroValue111 }
end Go.Proofs
set_option maxRecDepth 10000
namespace Vc
open Go Go.Proofs Go.RowKit Go.Shelf
theorem grow_in {P : Program} [Laid P] {ρ : Ren} (L : Lays8.n4 P ρ) (hf : HasFn P (ρ.f 4)) (i0 : TypeInfo) (z : Value) (hi0 : P.info? (ρ.t 25) = some i0) (hz0 : i0.zero = some z) (hs0 : 0 < i0.size) (hzs : z.cells.size = i0.size)
  (k n:Nat) (hbig:n * i0.bytes≤140737488355328) (h63:n≤140737488355328) (h:List AObj) (r:Nat) (hh:h[r]?=some .none) :
  CallIn P (ρ.f 4) [.nils k,.d (.int .i64 n)] h (.sl r 0) (h.set r (.row (ρ.t 25) i0.size [] false)):=by
 refine ⟨hf,by simp,fun n' base w0 G slots a w vs hgl hr hv=>?_⟩
 simp only [VRels,VRel,DRel] at hv
 obtain ⟨v1,r1,rfl,rfl,v2,r2,rfl,rfl,rfl⟩:=hv
 have hlt:r < h.length:=(List.getElem?_eq_some_iff.1 hh).1
 by_cases hn:n=0
 ·subst hn
  refine (Any8.slices_Grow_room L none 0 0 0 w (Nat.le_refl _) (by omega) (by omega) (Nat.le_refl _)).mono ?_
  rintro e w' ⟨rfl,rfl⟩
  have h1:=hr.upd (o':=.row (ρ.t 25) i0.size [] false) (v':=.slice none 0 0) (S':=G.S) (row:=none) (w':=w') hh (.inl rfl) (fun _ _ h=>h) (fun _ _ h=>.inl h)
   ⟨rfl,rfl,rfl,Nat.le_refl _,fun _ _ _=>rfl⟩ (fun _ _ _ h=>by cases h) (fun b hb=>by cases hb) trivial
   (fun hx=>⟨hs0,[],by rw [show (⟨G.S,Vc.upd G.val r (.slice none 0 0)⟩:Gh).val r=.slice none 0 0 from upd_same _ _ _]; exact World.ownsRow_nil w' base _ _,by simp [DXs]⟩)
   (fun b off hb _ _=>by cases hb) (fun b off hs=>hr.lim b off hs)
  refine ⟨_,_,rfl,h1.1,h1.2,?_⟩
  simp only [VRel]
  exact ⟨ρ.t 25,i0.size,[],false,by simp [hlt],Nat.le_refl _,fun _=>by simp [upd]⟩
 ·have hcm:=grownCap_le_maxLen w (0+n) 0 (ρ.t 25) (by unfold maxLen; omega)
  have hge:=grownCap_ge w (0+n) 0 (ρ.t 25)
  refine (Any8.slices_Grow_grow L i0 z hi0 hz0 hs0 none 0 0 n [] w (Nat.le_refl _) (by omega) (by simpa using hbig) (by omega) (by simp) (fun _=>rfl) (fun a ha=>by cases ha)).mono ?_
  generalize grownCap w (0+n) 0 (ρ.t 25)=cap at *
  rintro e w' ⟨rfl,rfl⟩
  have h1:=hr.upd (o':=.row (ρ.t 25) i0.size [] false) (v':=.slice (some ⟨w.heap.size,0,none⟩) 0 cap) (S':=G.S) (row:=none)
   (w':=w.drew.alloc (.cells (([]:List Value).toArray++Builtin.zeroCells z.cells (0+n - 0)++Builtin.zeroCells z.cells (cap - (0+n))) (ρ.t 25))) hh (.inl rfl) (fun _ _ h=>h) (fun _ _ h=>.inl h)
   ⟨rfl,rfl,rfl,by simp,fun k hk _=>Below.heap_alloc w.drew _ k hk⟩ (fun _ _ _ h=>by cases h) (fun b hb=>by cases hb; exact .inr (Nat.le_refl _)) trivial
   (fun hx=>by
    refine ⟨hs0,[],?_,by simp [DXs]⟩
    rw [show (⟨G.S,Vc.upd G.val r (.slice (some ⟨w.heap.size,0,none⟩) 0 cap)⟩:Gh).val r=_ from upd_same _ _ _]
    refine ⟨by simp,.inr ⟨w.heap.size,cap,_,rfl,hr.old,heap_alloc_new w.drew _,Nat.zero_le _,hcm,?_,by simp⟩⟩
    simp [Builtin.zeroCells,hzs]
    rw [← Nat.add_mul]
    congr 1
    omega)
   (fun b off hb _ hs=>by cases hb; have:=hr.lim _ _ hs; simp at this) (fun b off hs=>by have:=hr.lim _ _ hs; simp; omega)
  refine ⟨_,_,rfl,h1.1,h1.2,?_⟩
  simp only [VRel]
  exact ⟨ρ.t 25,i0.size,[],false,by simp [hlt],Nat.le_refl _,fun _=>by simp [upd]⟩
theorem i200 (n:Nat) (hn:n≤1048576) (h:List AObj) (r:Nat) (hh:h[r]?=some .none):CallIn Tryz.prog 200 [.nils 1,.d (.int .i64 n)] h (.sl r 0) (h.set r (.row 5 1 [] false)):=by
 obtain ⟨i0,z,hi0,hz0,_,hzs⟩:=zeroOk_spec (show zeroOk Tryz.prog 5 [.d (.int .u8 0)]=true by kernel_rfl)
 obtain ⟨i1,_,hi1,hs,_⟩:=sizeIs_spec (show sizeIs Tryz.prog 5 1=true by kernel_rfl)
 rw [hi0] at hi1; cases hi1
 obtain ⟨i2,hi2,hb⟩:=infoOf (P:=Tryz.prog) (t:=5) (p:=fun i=>Nat.beq i.bytes 1) (show bytesIs Tryz.prog 5 1=true by kernel_rfl)
 rw [hi0] at hi2; cases hi2
 have hb:=Nat.eq_of_beq_eq_true hb
 have h1:=grow_in Tryz.laysGrow (hasFnB_spec (by kernel_rfl)) i0 z hi0 hz0 (by omega) hzs 1 n (by rw [hb]; omega) (by omega) h r hh
 rw [hs] at h1
 exact h1
end Vc
set_option maxRecDepth 10000
set_option maxHeartbeats 4000000
namespace Vc
open Go Go.Proofs
theorem get_lt {α:Type} (l:List α) {k:Nat} (h:k < l.length):∃ x,l[k]?=some x:=⟨_,List.getElem?_eq_getElem h⟩
def pcs (l:List (List Data)):List Data:=l.map (.slice 1)
theorem pcs_len (l:List (List Data)):(pcs l).length=l.length:=List.length_map _
theorem pcs_at {l:List (List Data)} {k:Nat} {x:List Data} (h:l[k]?=some x):(pcs l)[((k:Int)).toNat]?=some (.slice 1 x):=by
 show (l.map _)[k]?=_
 rw [List.getElem?_map,h]; rfl
theorem flat_snoc {α:Type} {l:List (List α)} {k:Nat} {x:List α} (h:l[k]?=some x):(l.take (k+1)).flatten=(l.take k).flatten++x:=by
 rw [take_one h,List.flatten_append,List.flatten_singleton]
theorem flat_le {α:Type}:∀ (l:List (List α)) (k:Nat),(l.take k).flatten.length≤l.flatten.length
 | [],k=>by simp
 | x::l,0=>by simp
 | x::l,k+1=>by
  have:=flat_le l k
  simp only [List.take_succ_cons,List.flatten_cons,List.length_append]
  omega
def jr159:AFun:=⟨8,2,[.tmp 2],
 (.seq
 (.reg [] [⟨some 2,.mov (.cst (.nils 1)),none⟩])
 (.seq
  (.seq
  (.reg [] [⟨some 3,.mov (.tmp 0),none⟩,
   ⟨some 4,.isnil false (.tmp 3),none⟩])
  (.cond (.tmp 4)
   (.seq
   (.reg [] [⟨some 2,.mov (.cst (.nils 1)),none⟩])
   .ret)
   .skip))
  (.seq
  (.reg [0,1] [⟨some 5,.bsl 0 3 1 0 [] [],none⟩,
   ⟨some 6,.mov (.tmp 0),none⟩,
   ⟨some 7,.app 1 3 1 8 (.tmp 5) (.tmp 6),none⟩,
   ⟨some 2,.mov (.tmp 7),none⟩])
  .ret)))⟩
def jr176:AFun:=⟨8,2,[.tmp 2],
 (.seq
 (.reg [] [⟨some 2,.mov (.cst (.nils 1)),none⟩])
 (.seq
  (.seq
  (.reg [] [⟨some 3,.mov (.tmp 0),none⟩,
   ⟨some 4,.isnil false (.tmp 3),none⟩])
  (.cond (.tmp 4)
   (.seq
   (.reg [] [⟨some 2,.mov (.cst (.nils 1)),none⟩])
   .ret)
   .skip))
  (.seq
  (.reg [0,1] [⟨some 5,.bsl 0 5 1 0 [] [],none⟩,
   ⟨some 6,.mov (.tmp 0),none⟩,
   ⟨some 7,.app 1 5 1 1 (.tmp 5) (.tmp 6),none⟩,
   ⟨some 2,.mov (.tmp 7),none⟩])
  .ret)))⟩
def jr175:AFun:=⟨36,1,[.tmp 2],
 (.seq
 (.reg [] [⟨some 2,.mov (.cst (.nils 1)),none⟩])
 (.seq
  (.reg [] [⟨some 3,.mov (.cst (.d (.int .i64 0))),none⟩])
  (.seq
  (.seq
   (.reg [] [⟨some 9,.mov (.tmp 0),none⟩,
    ⟨some 10,.len (.tmp 9),none⟩,
    ⟨some 11,.mov (.cst (.d (.int .i64 0))),none⟩])
   (.post [0,3] []
   (.block 0
    (.keep [0,3,9,10,11] []
    (.loop
     (.post [0,3,9,10,11] []
     (.seq
      (.reg [] [⟨some 12,.cmp .lss (.tmp 11) (.tmp 10),none⟩])
      (.seq
      (.cond (.tmp 12)
       .skip
       (.exit 0))
      (.seq
       (.block 1
       (.seq
        (.reg [] [⟨some 13,.ixa 1 (.tmp 9) (.tmp 11),none⟩,
         ⟨some 14,.ld false 1 (.tmp 13),none⟩,
         ⟨some 5,.mov (.tmp 14),none⟩])
        (.seq
        (.reg [] [⟨some 15,.mov (.tmp 3),none⟩,
         ⟨some 16,.mov (.tmp 5),none⟩,
         ⟨some 17,.len (.tmp 16),none⟩,
         ⟨some 18,.arith .add .i64 (.tmp 15) (.tmp 17),none⟩,
         ⟨some 3,.mov (.tmp 18),none⟩])
        (.seq
         (.reg [] [⟨some 19,.mov (.tmp 3),none⟩,
          ⟨some 20,.cmp .lss (.tmp 19) (.cst (.d (.int .i64 0))),none⟩])
         (.cond (.tmp 20)
         .dead
         .skip)))))
       (.reg [] [⟨some 22,.arith .add .i64 (.tmp 11) (.cst (.d (.int .i64 1))),none⟩,
        ⟨some 11,.mov (.tmp 22),none⟩]))))))))))
  (.seq
   (.reg [] [⟨some 23,.mov (.tmp 3),none⟩,
    ⟨some 24,.calli 200 [(.cst (.nils 1)),(.tmp 23)],none⟩,
    ⟨some 6,.mov (.tmp 24),none⟩])
   (.seq
   (.seq
    (.reg [] [⟨some 25,.mov (.tmp 0),none⟩,
     ⟨some 26,.len (.tmp 25),none⟩,
     ⟨some 27,.mov (.cst (.d (.int .i64 0))),none⟩])
    (.post [6] [0]
    (.block 2
     (.asrow 0 5 1 6
     (.keep [6,25,26,27] []
      (.loop
      (.post [6,25,26,27] [0]
       (.seq
       (.reg [] [⟨some 28,.cmp .lss (.tmp 27) (.tmp 26),none⟩])
       (.seq
        (.cond (.tmp 28)
        .skip
        (.exit 2))
        (.seq
        (.block 3
         (.seq
         (.reg [] [⟨some 29,.ixa 1 (.tmp 25) (.tmp 27),none⟩,
          ⟨some 30,.ld false 1 (.tmp 29),none⟩,
          ⟨some 8,.mov (.tmp 30),none⟩])
         (.reg [0] [⟨some 31,.mov (.tmp 6),none⟩,
          ⟨some 32,.mov (.tmp 8),none⟩,
          ⟨some 33,.app 0 5 1 1 (.tmp 31) (.tmp 32),none⟩,
          ⟨some 6,.mov (.tmp 33),none⟩])))
        (.reg [] [⟨some 34,.arith .add .i64 (.tmp 27) (.cst (.d (.int .i64 1))),none⟩,
         ⟨some 27,.mov (.tmp 34),none⟩])))))))))))
   (.seq
    (.reg [] [⟨some 35,.mov (.tmp 6),none⟩,
     ⟨some 2,.mov (.tmp 35),none⟩])
    .ret))))))⟩
theorem c176 (b:List Data) (hl:b.length≤1048576):CallDet Tryz.prog 176 [.d (.slice 1 b)] [.slice 1 b]:=by
 refine call_of_vc (x:=jr176) (by kernel_rfl) rfl ?_
 refine And.intro (fun h=>?_) ?_
 ·subst h
  exact rfl
 ·refine sd ?_
  refine sd ?_
  refine an ?_ ?_
  refine an ?_ ?_
  exact rfl
  refine an ?_ ?_
  exact rfl
  refine an ?_ ?_
  exact rfl
  refine an ?_ ?_
  (show ((0:Nat)+List.length b) * (1:Nat)≤(2:Nat) ^ (47:Nat); omega)
  (show (0:Nat)+List.length b≤(2:Nat) ^ (47:Nat); omega)
  refine sd ?_
  exact rfl
theorem c159r (b:List Data) (hl:b.length≤1048576):CallRow Tryz.prog 159 [.d (.slice 1 b)] 3 1 b:=by
 refine callRow_of_vc (x:=jr159) (by kernel_rfl) rfl ?_
 refine And.intro (fun t1=>?_) ?_
 rotate_left
 ·refine sd ?_
  refine sd ?_
  refine an ?_ ?_
  refine an ?_ ?_
  exact rfl
  refine an ?_ ?_
  exact rfl
  refine an ?_ ?_
  exact rfl
  refine an ?_ ?_
  (show ((0:Nat)+List.length b) * (8:Nat)≤(2:Nat) ^ (47:Nat); omega)
  (show (0:Nat)+List.length b≤(2:Nat) ^ (47:Nat); omega)
  rotate_left
  exact .inl ⟨0,⟨rfl,rfl⟩,rfl⟩
 ·subst t1
  exact .inr ⟨by decide,rfl,1,rfl,rfl⟩
theorem c175 (l:List (List Data)) (hl:l.length≤1048576) (hs:l.flatten.length≤1048576):CallDet Tryz.prog 175 [.d (.slice 1 (pcs l))] [.slice 1 l.flatten]:=by
 have hlen:=pcs_len l
 refine call_of_vc (x:=jr175) (by kernel_rfl) rfl ?_
 refine loop_st (fun k:Nat=>⟨[(0,.d (.slice 1 (pcs l))),(3,.d (.int .i64 ((l.take k).flatten.length:Int))),(9,.d (.slice 1 (pcs l))),(10,.d (.int .i64 ((pcs l).length:Int))),(11,.d (.int .i64 k))],[.none]⟩) (fun k=>k≤l.length) (fun k=>l.length - k) 0 rfl (Nat.zero_le _) ?_
 intro k hk
 have hk:k≤l.length:=hk
 have hf:=flat_le l k
 dsimp only
 by_cases hkn:k < l.length
 ·refine Exists.elim (get_lt l hkn) fun x hx=>?_
  have hx1:=pcs_at hx
  have hf1:=flat_le l (k+1)
  have e1:=flat_snoc hx
  rw [e1,List.length_append] at hf1
  have fin:∃ a':Nat,(a'≤l.length∧l.length - a' < l.length - k)∧(⟨[(0,.d (.slice 1 (pcs l))),(3,.d (.int .i64 (((l.take k).flatten.length:Int)+(x.length:Int)))),(9,.d (.slice 1 (pcs l))),(10,.d (.int .i64 ((pcs l).length:Int))),(11,.d (.int .i64 ((k:Int)+1)))],[.none]⟩:St)=⟨[(0,.d (.slice 1 (pcs l))),(3,.d (.int .i64 ((l.take a').flatten.length:Int))),(9,.d (.slice 1 (pcs l))),(10,.d (.int .i64 ((pcs l).length:Int))),(11,.d (.int .i64 (a':Nat)))],[.none]⟩ :=
   ⟨k+1,⟨by omega,by omega⟩,by rw [e1,List.length_append]; rfl⟩
  refine sd ?_
  refine b_lt (fun t1=>?_) (fun t1=>?_)
  refine ix_at hx1 ?_ ?_
  (show (0:Int)≤(↑k:Int); omega)
  refine ar_add ?_ ?_
  refine an ?_ ?_
  (show (-9223372036854775808:Int)≤(↑(List.length (List.flatten (List.take k l))):Int)+(↑(List.length x):Int); omega)
  (show (↑(List.length (List.flatten (List.take k l))):Int)+(↑(List.length x):Int)≤(9223372036854775807:Int); omega)
  refine sd ?_
  refine ar_add ?_ ?_
  refine an ?_ ?_
  (show (-9223372036854775808:Int)≤(↑k:Int)+(1:Int); omega)
  (show (↑k:Int)+(1:Int)≤(9223372036854775807:Int); omega)
  rotate_left
  (exfalso; omega)
  all_goals exact fin
 ·have e:l.take k=l:=List.take_of_length_le (by omega)
  rw [e]
  refine sd ?_
  refine b_f (decide_eq_false (by omega)) ?_
  refine Exists.intro (.sl 0 0) (Exists.intro [(0,.row 5 1 [] false)] (And.intro (i200 l.flatten.length (by omega) [.none] 0 rfl) ?_))
  refine loop_st (fun k:Nat=>⟨[(6,.sl 0 (l.take k).flatten.length),(25,.d (.slice 1 (pcs l))),(26,.d (.int .i64 ((pcs l).length:Int))),(27,.d (.int .i64 k))],[.row 5 1 (l.take k).flatten false]⟩) (fun k=>k≤l.length) (fun k=>l.length - k) 0 rfl (Nat.zero_le _) ?_
  intro j hj
  have hj:j≤l.length:=hj
  have hf:=flat_le l j
  dsimp only
  by_cases hjn:j < l.length
  ·refine Exists.elim (get_lt l hjn) fun x hx=>?_
   have hx1:=pcs_at hx
   have hf1:=flat_le l (j+1)
   have e1:=flat_snoc hx
   rw [e1,List.length_append] at hf1
   have fin:∃ a':Nat,(a'≤l.length∧l.length - a' < l.length - j)∧(⟨[(6,.sl 0 ((l.take j).flatten++x).length),(25,.d (.slice 1 (pcs l))),(26,.d (.int .i64 ((pcs l).length:Int))),(27,.d (.int .i64 ((j:Int)+1)))],[.row 5 1 ((l.take j).flatten++x) false]⟩:St)=⟨[(6,.sl 0 (l.take a').flatten.length),(25,.d (.slice 1 (pcs l))),(26,.d (.int .i64 ((pcs l).length:Int))),(27,.d (.int .i64 (a':Nat)))],[.row 5 1 (l.take a').flatten false]⟩ :=
    ⟨j+1,⟨by omega,by omega⟩,by rw [e1]; rfl⟩
   refine sd ?_
   refine b_lt (fun t1=>?_) (fun t1=>?_)
   refine ix_at hx1 ?_ ?_
   (show (0:Int)≤(↑j:Int); omega)
   refine sd ?_
   refine an ?_ ?_
   refine an ?_ ?_
   exact rfl
   refine an ?_ ?_
   exact rfl
   refine an ?_ ?_
   exact rfl
   refine an ?_ ?_
   (show (List.length (List.flatten (List.take j l))+List.length x) * (1:Nat)≤(2:Nat) ^ (47:Nat); omega)
   (show List.length (List.flatten (List.take j l))+List.length x≤(2:Nat) ^ (47:Nat); omega)
   refine ar_add ?_ ?_
   refine an ?_ ?_
   (show (-9223372036854775808:Int)≤(↑j:Int)+(1:Int); omega)
   (show (↑j:Int)+(1:Int)≤(9223372036854775807:Int); omega)
   rotate_left
   (exfalso; omega)
   all_goals exact fin
  ·have e:l.take j=l:=List.take_of_length_le (by omega)
   rw [e]
   refine sd ?_
   refine b_lt (fun t1=>?_) (fun t1=>?_)
   (exfalso; omega)
   refine sd ?_
   exact rfl
end Vc
namespace Vc
def setGo (h:Int):Int→List Int→Int
 | _,[]=>0
 | last,i::r=>bif decide (i < 0)||decide (h≤i) then 10 else bif decide (i≤last) then 11 else setGo h i r
def setE (h:Int) (l:List Int):Int:=bif (l.length:Int)==0 then 12 else setGo h (-1) l
def Asc (h:Int):Int→List Int→Prop
 | _,[]=>True
 | last,i::r=>0≤i∧i < h∧last < i∧Asc h i r
theorem setGo_asc {h:Int}:∀ {l:List Int} {last:Int},setGo h last l=0→Asc h last l
 | [],_,_=>trivial
 | i::r,last,e=>by
  simp only [setGo] at e
  cases h1:(decide (i < 0)||decide (h≤i)) with
  | true=>rw [h1] at e; cases e
  | false =>
   rw [h1] at e
   cases h2:decide (i≤last) with
   | true=>rw [h2] at e; cases e
   | false =>
    rw [h2] at e
    simp only [Bool.or_eq_false_iff,decide_eq_false_iff_not] at h1
    have h2:=of_decide_eq_false h2
    exact ⟨by omega,by omega,by omega,setGo_asc e⟩
theorem setE_asc {h:Int} {l:List Int} (e:setE h l=0):l≠[]∧Asc h (-1) l:=by
 unfold setE at e
 cases l with
 | nil=>cases e
 | cons x r =>
  have h1:(((x::r).length:Int)==0)=false:=by rw [beq_eq_false_iff_ne]; simp only [List.length_cons]; omega
  rw [h1] at e
  exact ⟨by simp,setGo_asc e⟩
theorem asc_mem {h:Int}:∀ {l:List Int} {a x:Int},Asc h a l→x∈l→a < x∧0≤x∧x < h
 | y::r,a,x,⟨h1,h2,h3,h4⟩,hx=>by
  rcases List.mem_cons.1 hx with rfl | hx
  ·exact ⟨h3,h1,h2⟩
  ·have:=asc_mem h4 hx
   exact ⟨by omega,by omega,by omega⟩
def xorN (a b:List Int):Nat→Int
 | 0=>0
 | k+1=>xorN a b k+(bif a.contains (k:Int) != b.contains (k:Int) then 1 else 0)
def sumIn (f:Int→Int) (a:List Int):Nat→Int
 | 0=>0
 | k+1=>sumIn f a k+(bif a.contains (k:Int) then f k else 0)
def sumL (f:Int→Int):List Int→Int
 | []=>0
 | x::r=>f x+sumL f r
theorem sumIn_nil (f:Int→Int):∀ k,sumIn f [] k=0
 | 0=>rfl
 | k+1=>by rw [sumIn,sumIn_nil f k]; rfl
theorem sumIn_cons (f:Int→Int) {x:Int} {r:List Int} (hx:r.contains x=false):∀ k,sumIn f (x::r) k=sumIn f r k+(if 0≤x∧x < (k:Int) then f x else 0)
 | 0=>by
  rw [if_neg (by omega)]; rfl
 | k+1=>by
  rw [sumIn,sumIn,sumIn_cons f hx k]
  by_cases e:(k:Int)=x
  ·subst e
   have h1:((k:Int)::r).contains (k:Int)=true:=by simp
   rw [h1,hx,if_neg (by omega),if_pos (by constructor <;> omega)]
   show _+0+f k=_+0+f k
   rfl
  ·have h1 : (x :: r).contains (k : Int) = r.contains (k : Int) := by
    rw [List.contains_cons]
    have:((k:Int)==x)=false:=beq_eq_false_iff_ne.2 e
    rw [this,Bool.false_or]
   rw [h1]
   by_cases h2:0≤x∧x < (k:Int)
   ·rw [if_pos h2,if_pos (by omega)]; omega
   ·rw [if_neg h2,if_neg (by omega)]; omega
theorem sumIn_asc (f:Int→Int) {h:Nat}:∀ {l:List Int} {a:Int},Asc h a l→sumIn f l h=sumL f l
 | [],_,_=>sumIn_nil f h
 | x::r,a,⟨h1,h2,h3,h4⟩=>by
  have hx:r.contains x=false:=by
   rw [Bool.eq_false_iff]
   intro hc
   have:=asc_mem h4 (List.contains_iff_mem.1 hc)
   omega
  rw [sumIn_cons f hx h,sumIn_asc f h4,if_pos ⟨h1,h2⟩,sumL]; omega
def apGo (b:List Int):List Int→Int→Int
 | [],n=>n
 | i::r,n=>apGo b r (bif b.contains i then n - 2 else n)
def apartN (a b:List Int):Int:=apGo b a ((a.length:Int)+(b.length:Int))
theorem apGo_sum (b:List Int):∀ (a:List Int) (n:Int),apGo b a n=n - 2 * sumL (fun i=>bif b.contains i then 1 else 0) a
 | [],n=>by show n=n - 2 * 0; omega
 | i::r,n=>by
  rw [apGo,apGo_sum b r,sumL]
  cases b.contains i
  ·show n - _=n - 2 * (0+_); omega
  ·show n - 2 - _=n - 2 * (1+_); omega
theorem sumL_one:∀ a:List Int,sumL (fun _=>1) a=a.length
 | []=>rfl
 | x::r=>by rw [sumL,sumL_one r,List.length_cons]; omega
theorem xor_sums (a b:List Int):∀ k,xorN a b k=sumIn (fun _=>1) a k+sumIn (fun _=>1) b k - 2 * sumIn (fun i=>bif b.contains i then 1 else 0) a k
 | 0=>rfl
 | k+1=>by
  rw [xorN,xor_sums a b k,sumIn,sumIn,sumIn]
  generalize sumIn (fun _=>1) a k=u
  generalize sumIn (fun _=>1) b k=v
  generalize sumIn (fun i=>bif b.contains i then 1 else 0) a k=w
  cases ha:a.contains (k:Int) <;> cases hb:b.contains (k:Int) <;> simp <;> omega
theorem apart_xor {h:Nat} {a b:List Int} {x y:Int} (ha:Asc h x a) (hb:Asc h y b):apartN a b=xorN a b h:=by
 unfold apartN
 rw [apGo_sum,xor_sums,sumIn_asc _ ha,sumIn_asc _ hb,sumIn_asc _ ha,sumL_one,sumL_one]
def nearB (k:Int) (n:Int):Bool:=decide (0 < n)&&decide (n < k)
def permP (k:Int) (asked:List (List Int)) (set:List Int):Bool:=decide (k≤(set.length:Int))&&!(asked.any fun o=>nearB k (apartN o set))
def permR (h:Nat) (k:Int) (asked:List (List Int)) (set:List Int):Bool:=!decide ((set.length:Int) < k)&&asked.all fun o=>!nearB k (xorN o set h)
theorem perm_eq {h:Nat} {k:Int} {asked:List (List Int)} {set:List Int} (hs:Asc h (-1) set) (ha:∀ o∈asked,Asc h (-1) o):permP k asked set=permR h k asked set:=by
 unfold permP permR
 have e1:decide (k≤(set.length:Int))=!decide ((set.length:Int) < k):=by
  by_cases e:k≤(set.length:Int)
  ·rw [decide_eq_true e,decide_eq_false (by omega)]; rfl
  ·rw [decide_eq_false e,decide_eq_true (by omega)]; rfl
 rw [e1]
 congr 1
 rw [List.not_any_eq_all_not]
 induction asked with
 | nil=>rfl
 | cons o r ih =>
  rw [List.all_cons,List.all_cons,ih (fun x hx=>ha x (List.mem_cons_of_mem _ hx)),apart_xor (ha o List.mem_cons_self) hs]
end Vc
namespace Vc
def restN (m n:Int):Nat→Int
 | 0=>n
 | i+1=>restN m n i / m
def digN (m n:Int):Nat→List Int
 | 0=>[]
 | i+1=>digN m n i++[restN m n i % m]
theorem digN_len (m n:Int):∀ i,(digN m n i).length=i
 | 0=>rfl
 | i+1=>by rw [digN,List.length_append,digN_len m n i]; rfl
theorem restN_rng {m n:Int} (hm:1≤m) (h:0≤n):∀ i,0≤restN m n i∧restN m n i≤n
 | 0=>⟨h,Int.le_refl _⟩
 | i+1=>by
  have ih:=restN_rng hm h i
  rw [restN]
  refine ⟨Int.ediv_nonneg ih.1 (by omega),Int.le_trans (Int.ediv_le_self _ ih.1) ih.2⟩
theorem digN_rng {m n:Int} (hm:1≤m) (h:0≤n):∀ i,∀ x∈digN m n i,0≤x∧x < m
 | 0,x,hx=>by cases hx
 | i+1,x,hx=>by
  rw [digN] at hx
  rcases List.mem_append.1 hx with hx | hx
  ·exact digN_rng hm h i x hx
  ·rw [List.mem_singleton.1 hx]
   exact ⟨Int.emod_nonneg _ (by omega),Int.emod_lt_of_pos _ (by omega)⟩
structure An where
 set:List Int
 sum:Int
def uAt (u:List Int) (i:Int):Int:=u[i.toNat]?.getD 0
def rightB (u:List Int) (l:List An):Bool:=l.all fun a=>sumL (uAt u) a.set==a.sum
def zIv (lo hi u:List Int):List Int × List Int:=(List.zipWith min lo u,List.zipWith max hi u)
def kn (m:Int) (h:Nat) (l:List An):Nat→Option (List Int × List Int)
 | 0=>none
 | n+1=>bif rightB (digN m n h) l then (match kn m h l n with
  | none=>some (digN m n h,digN m n h)
  | some o=>some (zIv o.1 o.2 (digN m n h))) else kn m h l n
def powN (m:Int):Nat→Int
 | 0=>1
 | i+1=>powN m i * m
theorem powN_rng {m:Int} (h1:2≤m) (h2:m≤8):∀ {i:Nat},i≤5→1≤powN m i∧powN m i≤32768
 | 0,_=>by simp [powN]
 | 1,_=>by simp [powN]; omega
 | 2, _ => by simp only [powN]; have : m = 2 ∨ m = 3 ∨ m = 4 ∨ m = 5 ∨ m = 6 ∨ m = 7 ∨ m = 8 := by omega
              rcases this with rfl | rfl | rfl | rfl | rfl | rfl | rfl <;> decide
 | 3, _ => by simp only [powN]; have : m = 2 ∨ m = 3 ∨ m = 4 ∨ m = 5 ∨ m = 6 ∨ m = 7 ∨ m = 8 := by omega
              rcases this with rfl | rfl | rfl | rfl | rfl | rfl | rfl <;> decide
 | 4, _ => by simp only [powN]; have : m = 2 ∨ m = 3 ∨ m = 4 ∨ m = 5 ∨ m = 6 ∨ m = 7 ∨ m = 8 := by omega
              rcases this with rfl | rfl | rfl | rfl | rfl | rfl | rfl <;> decide
 | 5, _ => by simp only [powN]; have : m = 2 ∨ m = 3 ∨ m = 4 ∨ m = 5 ∨ m = 6 ∨ m = 7 ∨ m = 8 := by omega
              rcases this with rfl | rfl | rfl | rfl | rfl | rfl | rfl <;> decide
 | _+6,h=>by omega
theorem kn_len {m:Int} {h:Nat} {l:List An}:∀ {n:Nat} {o:List Int × List Int},kn m h l n=some o→o.1.length=h∧o.2.length=h
 | n+1,o,e=>by
  rw [kn] at e
  cases hr:rightB (digN m n h) l with
  | false=>rw [hr] at e; exact kn_len e
  | true =>
   rw [hr] at e
   cases hk:kn m h l n with
   | none=>rw [hk] at e; cases e; exact ⟨digN_len _ _ _,digN_len _ _ _⟩
   | some o' =>
    rw [hk] at e; cases e
    have:=kn_len hk
    exact ⟨by show (List.zipWith min _ _).length=h; rw [List.length_zipWith,digN_len]; omega,by show (List.zipWith max _ _).length=h; rw [List.length_zipWith,digN_len]; omega⟩
theorem kn_rng {m:Int} (hm:1≤m) {h:Nat} {l:List An}:∀ {n:Nat} {o:List Int × List Int},kn m h l n=some o→(∀ x∈o.1,0≤x∧x < m)∧(∀ x∈o.2,0≤x∧x < m)
 | n+1,o,e=>by
  have hd:=digN_rng hm (n:=(n:Int)) (by omega) h
  rw [kn] at e
  cases hr:rightB (digN m n h) l with
  | false=>rw [hr] at e; exact kn_rng hm e
  | true =>
   rw [hr] at e
   cases hk:kn m h l n with
   | none=>rw [hk] at e; cases e; exact ⟨hd,hd⟩
   | some o' =>
    rw [hk] at e; cases e
    have ih:=kn_rng hm hk
    constructor
    ·intro x hx
     have hx:x∈List.zipWith min o'.1 (digN m n h):=hx
     obtain ⟨i,hi,e⟩:=List.getElem_of_mem hx
     rw [List.getElem_zipWith] at e
     have h1:=ih.1 _ (List.getElem_mem (l:=o'.1) (n:=i) (by rw [List.length_zipWith] at hi; omega))
     have h2:=hd _ (List.getElem_mem (l:=digN m n h) (n:=i) (by rw [List.length_zipWith] at hi; omega))
     omega
    ·intro x hx
     have hx:x∈List.zipWith max o'.2 (digN m n h):=hx
     obtain ⟨i,hi,e⟩:=List.getElem_of_mem hx
     rw [List.getElem_zipWith] at e
     have h1:=ih.2 _ (List.getElem_mem (l:=o'.2) (n:=i) (by rw [List.length_zipWith] at hi; omega))
     have h2:=hd _ (List.getElem_mem (l:=digN m n h) (n:=i) (by rw [List.length_zipWith] at hi; omega))
     omega
end Vc
set_option maxRecDepth 10000
set_option maxHeartbeats 4000000
namespace Vc
open Go Go.Proofs
theorem ints_step {α:Type} {l:List α} {k:Nat} {x:α} (f:α→Int) (h:l[k]?=some x):ints ((l.take (k+1)).map f)=ints ((l.take k).map f)++[.int .i64 (f x)]:=by
 rw [take_one h,List.map_append]; unfold ints; rw [List.map_append]; rfl
def ixF {α:Type} (g:α→Bool):List α→Int→Int
 | [],_=>-1
 | x::r,k=>bif g x then k else ixF g r (k+1)
theorem ixF_any {α:Type} (g:α→Bool):∀ (l:List α) (k:Int),0≤k→decide (0≤ixF g l k)=l.any g
 | [],k,h=>rfl
 | x::r,k,h=>by
  rw [ixF,List.any_cons]
  cases g x
  ·exact ixF_any g r (k+1) (by omega)
  ·exact decide_eq_true h
def iss (l:List (List Int)):List Data:=l.map fun x=>.slice 1 (ints x)
theorem iss_len (l:List (List Int)):(iss l).length=l.length:=List.length_map _
theorem iss_at {l:List (List Int)} {k:Nat} {x:List Int} (h:l[k]?=some x):(iss l)[((k:Int)).toNat]?=some (.slice 1 (ints x)):=by
 show (l.map _)[k]?=_
 rw [List.getElem?_map,h]; rfl
theorem ints_len (l:List Int):(ints l).length=l.length:=List.length_map _
def lastN (l:List Int):Nat→Int
 | 0=>-1
 | k+1=>l[k]?.getD 0
theorem lastN_succ {l:List Int} {k:Nat} {x:Int} (h:l[k]?=some x):lastN l (k+1)=x:=by
 show l[k]?.getD 0=x; rw [h]; rfl
def jr121:AFun:=⟨5,0,[.tmp 2],
 (.seq
 (.reg [] [⟨some 2,.mov (.cst (.d (.int .i64 0))),none⟩])
 (.seq
  (.reg [] [⟨some 3,.mov (.tmp 0),none⟩,
   ⟨some 4,.call 122 [(.tmp 3),(.cst (.d (.int .i64 1))),(.cst (.d (.int .i64 5)))],none⟩,
   ⟨some 2,.mov (.tmp 4),none⟩])
  .ret))⟩
def jr124:AFun:=⟨37,1,[.tmp 4],
 (.seq
 (.reg [] [⟨some 4,.mov (.cst (.d (.int .i64 0))),none⟩])
 (.seq
  (.seq
  (.reg [] [⟨some 9,.mov (.tmp 1),none⟩,
   ⟨some 10,.len (.tmp 9),none⟩,
   ⟨some 11,.cmp .eql (.tmp 10) (.cst (.d (.int .i64 0))),none⟩])
  (.cond (.tmp 11)
   (.seq
   (.reg [] [⟨some 4,.mov (.cst (.d (.int .i64 12))),none⟩])
   .ret)
   .skip))
  (.seq
  (.reg [] [⟨some 5,.mov (.cst (.d (.int .i64 (-1)))),none⟩])
  (.seq
   (.seq
   (.reg [] [⟨some 12,.mov (.tmp 1),none⟩,
    ⟨some 13,.len (.tmp 12),none⟩,
    ⟨some 14,.mov (.cst (.d (.int .i64 0))),none⟩])
   (.post [] [0]
    (.block 0
    (.keep [0,5,12,13,14] []
     (.loop
     (.post [0,5,12,13,14] [0]
      (.seq
      (.reg [] [⟨some 15,.cmp .lss (.tmp 14) (.tmp 13),none⟩])
      (.seq
       (.cond (.tmp 15)
       .skip
       (.exit 0))
       (.seq
       (.block 1
        (.seq
        (.reg [] [⟨some 16,.ixa 1 (.tmp 12) (.tmp 14),none⟩,
         ⟨some 17,.ld false 1 (.tmp 16),none⟩,
         ⟨some 7,.mov (.tmp 17),none⟩])
        (.seq
         (.seq
         (.reg [0] [⟨some 18,.mov (.tmp 7),none⟩,
          ⟨some 19,.cmp .lss (.tmp 18) (.cst (.d (.int .i64 0))),none⟩,
          ⟨some 20,.mov (.tmp 19),none⟩,
          ⟨some 21,.mov (.tmp 7),some (20,false)⟩,
          ⟨some 22,.mov (.tmp 0),some (20,false)⟩,
          ⟨some 23,.cmp .geq (.tmp 21) (.tmp 22),some (20,false)⟩,
          ⟨some 24,.pick (.tmp 20) (.cst (.d (.bool true))) (.tmp 23),none⟩,
          ⟨some 25,.call 103 [(.tmp 24),(.cst (.d (.int .i64 10)))],none⟩,
          ⟨some 26,.mov (.tmp 7),none⟩,
          ⟨some 27,.mov (.tmp 5),none⟩,
          ⟨some 28,.cmp .leq (.tmp 26) (.tmp 27),none⟩,
          ⟨some 29,.call 103 [(.tmp 28),(.cst (.d (.int .i64 11)))],none⟩,
          ⟨some 30,.bsl 0 32 1 2 [(.int .i64 0),(.int .i64 0)] [(0,(.tmp 25)),(1,(.tmp 29))],none⟩,
          ⟨some 31,.call 99 [(.tmp 30)],none⟩,
          ⟨some 8,.mov (.tmp 31),none⟩])
         (.seq
          (.reg [] [⟨some 32,.mov (.tmp 8),none⟩,
           ⟨some 33,.cmp .neq (.tmp 32) (.cst (.d (.int .i64 0))),none⟩])
          (.cond (.tmp 33)
          (.seq
           (.reg [] [⟨some 34,.mov (.tmp 8),none⟩,
            ⟨some 4,.mov (.tmp 34),none⟩])
           .ret)
          .skip)))
         (.reg [] [⟨some 35,.mov (.tmp 7),none⟩,
          ⟨some 5,.mov (.tmp 35),none⟩]))))
       (.reg [] [⟨some 36,.arith .add .i64 (.tmp 14) (.cst (.d (.int .i64 1))),none⟩,
        ⟨some 14,.mov (.tmp 36),none⟩]))))))))))
   (.seq
   (.reg [] [⟨some 4,.mov (.cst (.d (.int .i64 0))),none⟩])
   .ret)))))⟩
def jr123:AFun:=⟨7,0,[.tmp 3],
 (.seq
 (.reg [] [⟨some 3,.mov (.cst (.d (.int .i64 0))),none⟩])
 (.seq
  (.reg [] [⟨some 4,.ld false 1 (.tmp 1),none⟩,
   ⟨some 5,.mov (.tmp 0),none⟩,
   ⟨some 6,.call 124 [(.tmp 4),(.tmp 5)],none⟩,
   ⟨some 3,.mov (.tmp 6),none⟩])
  .ret))⟩
def jr125:AFun:=⟨22,2,[.tmp 4],
 (.seq
 (.reg [] [⟨some 4,.mov (.cst (.nils 1)),none⟩])
 (.seq
  (.reg [] [⟨some 5,.mov (.cst (.nils 1)),none⟩])
  (.seq
  (.seq
   (.reg [] [⟨some 8,.mov (.tmp 0),none⟩,
    ⟨some 9,.len (.tmp 8),none⟩,
    ⟨some 10,.mov (.cst (.d (.int .i64 0))),none⟩])
   (.post [5] [0,1]
   (.block 0
    (.asrow 1 32 1 5
    (.keep [1,5,8,9,10] []
     (.loop
     (.post [1,5,8,9,10] [0,1]
      (.seq
      (.reg [] [⟨some 11,.cmp .lss (.tmp 10) (.tmp 9),none⟩])
      (.seq
       (.cond (.tmp 11)
       .skip
       (.exit 0))
       (.seq
       (.block 1
        (.seq
        (.reg [] [⟨some 12,.ixa 1 (.tmp 8) (.tmp 10),none⟩,
         ⟨some 13,.ld false 1 (.tmp 12),none⟩,
         ⟨some 7,.mov (.tmp 13),none⟩])
        (.reg [0,1] [⟨some 14,.mov (.tmp 5),none⟩,
         ⟨some 15,.mov (.tmp 1),none⟩,
         ⟨some 16,.mov (.tmp 7),none⟩,
         ⟨some 17,.callv (.tmp 15) [(.tmp 16)],none⟩,
         ⟨some 18,.bsl 0 32 1 1 [(.int .i64 0)] [(0,(.tmp 17))],none⟩,
         ⟨some 19,.app 1 32 1 8 (.tmp 14) (.tmp 18),none⟩,
         ⟨some 5,.mov (.tmp 19),none⟩])))
       (.reg [] [⟨some 20,.arith .add .i64 (.tmp 10) (.cst (.d (.int .i64 1))),none⟩,
        ⟨some 10,.mov (.tmp 20),none⟩])))))))))))
  (.seq
   (.reg [] [⟨some 21,.mov (.tmp 5),none⟩,
    ⟨some 4,.mov (.tmp 21),none⟩])
   .ret))))⟩
def jr129:AFun:=⟨5,0,[.tmp 2],
 (.seq
 (.reg [] [⟨some 2,.mov (.cst (.d (.int .i64 0))),none⟩])
 (.seq
  (.reg [] [⟨some 3,.mov (.tmp 0),none⟩,
   ⟨some 4,.call 122 [(.tmp 3),(.cst (.d (.int .i64 0))),(.cst (.d (.int .i64 7)))],none⟩,
   ⟨some 2,.mov (.tmp 4),none⟩])
  .ret))⟩
def jr130:AFun:=⟨22,2,[.tmp 4],
 (.seq
 (.reg [] [⟨some 4,.mov (.cst (.nils 1)),none⟩])
 (.seq
  (.reg [] [⟨some 5,.mov (.cst (.nils 1)),none⟩])
  (.seq
  (.seq
   (.reg [] [⟨some 8,.mov (.tmp 0),none⟩,
    ⟨some 9,.len (.tmp 8),none⟩,
    ⟨some 10,.mov (.cst (.d (.int .i64 0))),none⟩])
   (.post [5] [0,1]
   (.block 0
    (.asrow 1 32 1 5
    (.keep [1,5,8,9,10] []
     (.loop
     (.post [1,5,8,9,10] [0,1]
      (.seq
      (.reg [] [⟨some 11,.cmp .lss (.tmp 10) (.tmp 9),none⟩])
      (.seq
       (.cond (.tmp 11)
       .skip
       (.exit 0))
       (.seq
       (.block 1
        (.seq
        (.reg [] [⟨some 12,.ixa 1 (.tmp 8) (.tmp 10),none⟩,
         ⟨some 13,.ld false 1 (.tmp 12),none⟩,
         ⟨some 7,.mov (.tmp 13),none⟩])
        (.reg [0,1] [⟨some 14,.mov (.tmp 5),none⟩,
         ⟨some 15,.mov (.tmp 1),none⟩,
         ⟨some 16,.mov (.tmp 7),none⟩,
         ⟨some 17,.callv (.tmp 15) [(.tmp 16)],none⟩,
         ⟨some 18,.bsl 0 32 1 1 [(.int .i64 0)] [(0,(.tmp 17))],none⟩,
         ⟨some 19,.app 1 32 1 8 (.tmp 14) (.tmp 18),none⟩,
         ⟨some 5,.mov (.tmp 19),none⟩])))
       (.reg [] [⟨some 20,.arith .add .i64 (.tmp 10) (.cst (.d (.int .i64 1))),none⟩,
        ⟨some 10,.mov (.tmp 20),none⟩])))))))))))
  (.seq
   (.reg [] [⟨some 21,.mov (.tmp 5),none⟩,
    ⟨some 4,.mov (.tmp 21),none⟩])
   .ret))))⟩
def jr131:AFun:=⟨22,0,[.tmp 4],
 (.seq
 (.reg [] [⟨some 4,.mov (.cst (.d (.int .i64 0))),none⟩])
 (.seq
  (.reg [] [⟨some 5,.mov (.cst (.d (.int .i64 0))),none⟩])
  (.seq
  (.seq
   (.reg [] [⟨some 8,.mov (.tmp 1),none⟩,
    ⟨some 9,.len (.tmp 8),none⟩,
    ⟨some 10,.mov (.cst (.d (.int .i64 0))),none⟩])
   (.post [5] []
   (.block 0
    (.keep [0,5,8,9,10] []
    (.loop
     (.post [0,5,8,9,10] []
     (.seq
      (.reg [] [⟨some 11,.cmp .lss (.tmp 10) (.tmp 9),none⟩])
      (.seq
      (.cond (.tmp 11)
       .skip
       (.exit 0))
      (.seq
       (.block 1
       (.seq
        (.reg [] [⟨some 12,.ixa 1 (.tmp 8) (.tmp 10),none⟩,
         ⟨some 13,.ld false 1 (.tmp 12),none⟩,
         ⟨some 7,.mov (.tmp 13),none⟩])
        (.reg [] [⟨some 14,.mov (.tmp 5),none⟩,
         ⟨some 15,.mov (.tmp 0),none⟩,
         ⟨some 16,.mov (.tmp 7),none⟩,
         ⟨some 17,.ixa 1 (.tmp 15) (.tmp 16),none⟩,
         ⟨some 18,.ld false 1 (.tmp 17),none⟩,
         ⟨some 19,.arith .add .i64 (.tmp 14) (.tmp 18),none⟩,
         ⟨some 5,.mov (.tmp 19),none⟩])))
       (.reg [] [⟨some 20,.arith .add .i64 (.tmp 10) (.cst (.d (.int .i64 1))),none⟩,
        ⟨some 10,.mov (.tmp 20),none⟩]))))))))))
  (.seq
   (.reg [] [⟨some 21,.mov (.tmp 5),none⟩,
    ⟨some 4,.mov (.tmp 21),none⟩])
   .ret))))⟩
def jr128:AFun:=⟨26,0,[.tmp 4],
 (.seq
 (.reg [] [⟨some 4,.mov (.cst (.d (.int .i64 0))),none⟩])
 (.seq
  (.reg [] [⟨some 8,.mov (.tmp 0),none⟩,
   ⟨some 9,.len (.tmp 8),none⟩,
   ⟨some 10,.mov (.tmp 1),none⟩,
   ⟨some 11,.len (.tmp 10),none⟩,
   ⟨some 12,.arith .add .i64 (.tmp 9) (.tmp 11),none⟩,
   ⟨some 5,.mov (.tmp 12),none⟩])
  (.seq
  (.seq
   (.reg [] [⟨some 13,.mov (.tmp 0),none⟩,
    ⟨some 14,.len (.tmp 13),none⟩,
    ⟨some 15,.mov (.cst (.d (.int .i64 0))),none⟩])
   (.post [5] []
   (.block 0
    (.keep [1,5,13,14,15] []
    (.loop
     (.post [1,5,13,14,15] []
     (.seq
      (.reg [] [⟨some 16,.cmp .lss (.tmp 15) (.tmp 14),none⟩])
      (.seq
      (.cond (.tmp 16)
       .skip
       (.exit 0))
      (.seq
       (.block 1
       (.seq
        (.reg [] [⟨some 17,.ixa 1 (.tmp 13) (.tmp 15),none⟩,
         ⟨some 18,.ld false 1 (.tmp 17),none⟩,
         ⟨some 7,.mov (.tmp 18),none⟩])
        (.seq
        (.reg [] [⟨some 19,.mov (.tmp 1),none⟩,
         ⟨some 20,.mov (.tmp 7),none⟩,
         ⟨some 21,.call 106 [(.tmp 19),(.tmp 20)],none⟩])
        (.cond (.tmp 21)
         (.reg [] [⟨some 22,.mov (.tmp 5),none⟩,
          ⟨some 23,.arith .sub .i64 (.tmp 22) (.cst (.d (.int .i64 2))),none⟩,
          ⟨some 5,.mov (.tmp 23),none⟩])
         .skip))))
       (.reg [] [⟨some 24,.arith .add .i64 (.tmp 15) (.cst (.d (.int .i64 1))),none⟩,
        ⟨some 15,.mov (.tmp 24),none⟩]))))))))))
  (.seq
   (.reg [] [⟨some 25,.mov (.tmp 5),none⟩,
    ⟨some 4,.mov (.tmp 25),none⟩])
   .ret))))⟩
def jr127:AFun:=⟨16,0,[.tmp 4],
 (.seq
 (.reg [] [⟨some 4,.mov (.cst (.d (.bool false))),none⟩])
 (.seq
  (.reg [] [⟨some 6,.mov (.tmp 0),none⟩,
   ⟨some 7,.ld false 1 (.tmp 1),none⟩,
   ⟨some 8,.call 128 [(.tmp 6),(.tmp 7)],none⟩,
   ⟨some 5,.mov (.tmp 8),none⟩])
  (.seq
  (.reg [] [⟨some 9,.mov (.tmp 5),none⟩,
   ⟨some 10,.cmp .gtr (.tmp 9) (.cst (.d (.int .i64 0))),none⟩,
   ⟨some 11,.mov (.tmp 10),none⟩,
   ⟨some 12,.mov (.tmp 5),some (11,true)⟩,
   ⟨some 13,.ld false 1 (.tmp 2),some (11,true)⟩,
   ⟨some 14,.cmp .lss (.tmp 12) (.tmp 13),some (11,true)⟩,
   ⟨some 15,.pick (.tmp 11) (.tmp 14) (.cst (.d (.bool false))),none⟩,
   ⟨some 4,.mov (.tmp 15),none⟩])
  .ret)))⟩
def jr169:AFun:=⟨19,0,[.tmp 4],
 (.seq
 (.reg [] [⟨some 4,.mov (.cst (.d (.int .i64 0))),none⟩])
 (.seq
  (.seq
  (.reg [] [⟨some 6,.mov (.tmp 0),none⟩,
   ⟨some 7,.len (.tmp 6),none⟩,
   ⟨some 8,.mov (.cst (.d (.int .i64 0))),none⟩])
  (.post [] []
   (.block 0
   (.keep [0,1,7,8] []
    (.loop
    (.post [0,1,7,8] []
     (.seq
     (.reg [] [⟨some 9,.cmp .lss (.tmp 8) (.tmp 7),none⟩])
     (.seq
      (.cond (.tmp 9)
      .skip
      (.exit 0))
      (.seq
      (.block 1
       (.seq
       (.reg [] [⟨some 10,.mov (.tmp 8),none⟩,
        ⟨some 5,.mov (.tmp 10),none⟩])
       (.seq
        (.reg [] [⟨some 11,.mov (.tmp 1),none⟩,
         ⟨some 12,.mov (.tmp 0),none⟩,
         ⟨some 13,.mov (.tmp 5),none⟩,
         ⟨some 14,.ixa 1 (.tmp 12) (.tmp 13),none⟩,
         ⟨some 15,.ld false 1 (.tmp 14),none⟩,
         ⟨some 16,.callv (.tmp 11) [(.tmp 15)],none⟩])
        (.cond (.tmp 16)
        (.seq
         (.reg [] [⟨some 17,.mov (.tmp 5),none⟩,
          ⟨some 4,.mov (.tmp 17),none⟩])
         .ret)
        .skip))))
      (.reg [] [⟨some 18,.arith .add .i64 (.tmp 8) (.cst (.d (.int .i64 1))),none⟩,
       ⟨some 8,.mov (.tmp 18),none⟩]))))))))))
  (.seq
  (.reg [] [⟨some 4,.mov (.cst (.d (.int .i64 (-1)))),none⟩])
  .ret)))⟩
def jr126:AFun:=⟨9,0,[.tmp 4],
 (.seq
 (.reg [] [⟨some 4,.mov (.cst (.d (.bool false))),none⟩])
 (.seq
  (.reg [] [⟨some 5,.mov (.tmp 0),none⟩,
   ⟨some 6,.mov (.tmp 1),none⟩,
   ⟨some 7,.call 169 [(.tmp 5),(.tmp 6)],none⟩,
   ⟨some 8,.cmp .geq (.tmp 7) (.cst (.d (.int .i64 0))),none⟩,
   ⟨some 4,.mov (.tmp 8),none⟩])
  .ret))⟩
theorem c125 (l:List (List Int)) (hl:l.length≤1048576) (f:Nat) (h:Int) (g:(List Int)→Int) (hg:∀ x∈l,CallDet Tryz.prog f [.d (.slice 1 (ints x)),.cp [.int .i64 h] 0] [.int .i64 (g x)]):CallDet Tryz.prog 125 [.d (.slice 1 (iss l)),.d (.fn (.func f) [.agg [.int .i64 h]])] [.slice 1 (ints (l.map g))]:=by
 have hlen:(iss l).length=l.length:=List.length_map _
 have hm:(ints (l.map g)).length=l.length:=by unfold ints; rw [List.length_map,List.length_map]
 refine call_of_vc (x:=jr125) (by kernel_rfl) rfl ?_
 refine loop_st (fun k:Nat=>⟨[(1,.d (.fn (.func f) [.agg [.int .i64 h]])),(5,.sl 1 (ints ((l.take k).map g)).length),(8,.d (.slice 1 (iss l))),(9,.d (.int .i64 ((iss l).length:Int))),(10,.d (.int .i64 k))],[.none,.row 32 1 (ints ((l.take k).map g)) false]⟩) (fun k=>k≤l.length) (fun k=>l.length - k) 0 rfl (Nat.zero_le _) ?_
 intro k hk
 have hk:k≤l.length:=hk
 have hb:(ints ((l.take k).map g)).length=k:=by unfold ints; rw [List.length_map,List.length_map,List.length_take]; omega
 dsimp only
 refine sd ?_
 refine b_lt (fun h=>?_) (fun h=>?_)
 ·have h:(k:Int) < ((iss l).length:Int):=h
  refine Exists.elim (get_lt l (k:=k) (by omega)) fun x hx=>?_
  refine ix_at (iss_at hx) (by omega) ?_
  refine ca (hg x (List.mem_of_getElem? hx)) ?_
  repeat refine sd ?_
  refine And.intro ⟨rfl,rfl,rfl,?_,?_⟩ ?_
  ·show ((ints ((l.take k).map g)).length+1) * 8≤2 ^ 47
   omega
  ·show (ints ((l.take k).map g)).length+1≤2 ^ 47
   omega
  refine ar_add (by omega) ?_
  refine ⟨k+1,⟨by omega,by omega⟩,?_⟩
  rw [ints_step g hx]; rfl
 ·have h:¬ (k:Int) < ((iss l).length:Int):=h
  have e:l.take k=l:=List.take_of_length_le (by omega)
  rw [e]
  exact ⟨rfl,rfl⟩
theorem c130 (l:List Int) (hl:l.length≤1048576) (f:Nat) (g:Int→Int) (hg:∀ x∈l,CallDet Tryz.prog f [.d (.int .i64 x)] [.int .i64 (g x)]):CallDet Tryz.prog 130 [.d (.slice 1 (ints l)),.d (.fn (.func f) [])] [.slice 1 (ints (l.map g))]:=by
 have hlen:(ints l).length=l.length:=List.length_map _
 have hm:(ints (l.map g)).length=l.length:=by unfold ints; rw [List.length_map,List.length_map]
 refine call_of_vc (x:=jr130) (by kernel_rfl) rfl ?_
 refine loop_st (fun k:Nat=>⟨[(1,.d (.fn (.func f) [])),(5,.sl 1 (ints ((l.take k).map g)).length),(8,.d (.slice 1 (ints l))),(9,.d (.int .i64 ((ints l).length:Int))),(10,.d (.int .i64 k))],[.none,.row 32 1 (ints ((l.take k).map g)) false]⟩) (fun k=>k≤l.length) (fun k=>l.length - k) 0 rfl (Nat.zero_le _) ?_
 intro k hk
 have hk:k≤l.length:=hk
 have hb:(ints ((l.take k).map g)).length=k:=by unfold ints; rw [List.length_map,List.length_map,List.length_take]; omega
 dsimp only
 refine sd ?_
 refine b_lt (fun h=>?_) (fun h=>?_)
 ·have h:(k:Int) < ((ints l).length:Int):=h
  refine Exists.elim (get_lt l (k:=k) (by omega)) fun x hx=>?_
  refine ix_at (ints_get hx) (by omega) ?_
  refine ca (hg x (List.mem_of_getElem? hx)) ?_
  repeat refine sd ?_
  refine And.intro ⟨rfl,rfl,rfl,?_,?_⟩ ?_
  ·show ((ints ((l.take k).map g)).length+1) * 8≤2 ^ 47
   omega
  ·show (ints ((l.take k).map g)).length+1≤2 ^ 47
   omega
  refine ar_add (by omega) ?_
  refine ⟨k+1,⟨by omega,by omega⟩,?_⟩
  rw [ints_step g hx]; rfl
 ·have h:¬ (k:Int) < ((ints l).length:Int):=h
  have e:l.take k=l:=List.take_of_length_le (by omega)
  rw [e]
  exact ⟨rfl,rfl⟩
theorem c169 (l:List (List Int)) (hl:l.length≤1048576) (f:Nat) (s:List Int) (q:Int) (g:(List Int)→Bool) (hg:∀ x∈l,CallDet Tryz.prog f [.d (.slice 1 (ints x)),.cp [.slice 1 (ints s)] 0,.cp [.int .i64 q] 0] [.bool (g x)]):CallDet Tryz.prog 169 [.d (.slice 1 (iss l)),.d (.fn (.func f) [.agg [.slice 1 (ints s)],.agg [.int .i64 q]])] [.int .i64 (ixF g l 0)]:=by
 have hlen:(iss l).length=l.length:=List.length_map _
 refine call_of_vc (x:=jr169) (by kernel_rfl) rfl ?_
 refine loop_st (fun k:Nat=>⟨[(0,.d (.slice 1 (iss l))),(1,.d (.fn (.func f) [.agg [.slice 1 (ints s)],.agg [.int .i64 q]])),(7,.d (.int .i64 ((iss l).length:Int))),(8,.d (.int .i64 k))],[]⟩) (fun k=>k≤l.length∧ixF g l 0=ixF g (l.drop k) k) (fun k=>l.length - k) 0 rfl ⟨Nat.zero_le _,rfl⟩ ?_
 rintro k ⟨hk,hi⟩
 dsimp only
 refine sd ?_
 refine b_lt (fun h=>?_) (fun h=>?_)
 ·have h:(k:Int) < ((iss l).length:Int):=h
  refine Exists.elim (get_lt l (k:=k) (by omega)) fun x hx=>?_
  refine ix_at (iss_at hx) (by omega) ?_
  refine ca (hg x (List.mem_of_getElem? hx)) ?_
  rw [drop_at hx] at hi
  refine b_intro (fun t=>?_) (fun t=>?_)
  ·show resV [.int .i64 (k:Int)]=resV [.int .i64 (ixF g l 0)]
   rw [hi,ixF,t]; rfl
  ·refine ar_add (by omega) ?_
   refine ⟨k+1,⟨⟨by omega,?_⟩,by omega⟩,rfl⟩
   rw [hi,ixF,t]; rfl
 ·have h:¬ (k:Int) < ((iss l).length:Int):=h
  have e:l.drop k=[]:=List.drop_eq_nil_of_le (by omega)
  rw [e] at hi
  show resV [.int .i64 (-1)]=resV [.int .i64 (ixF g l 0)]
  rw [hi]; rfl
theorem c126 (l:List (List Int)) (hl:l.length≤1048576) (f:Nat) (s:List Int) (q:Int) (g:(List Int)→Bool) (hg:∀ x∈l,CallDet Tryz.prog f [.d (.slice 1 (ints x)),.cp [.slice 1 (ints s)] 0,.cp [.int .i64 q] 0] [.bool (g x)]):CallDet Tryz.prog 126 [.d (.slice 1 (iss l)),.d (.fn (.func f) [.agg [.slice 1 (ints s)],.agg [.int .i64 q]])] [.bool (l.any g)]:=by
 refine call_of_vc (x:=jr126) (by kernel_rfl) rfl ?_
 refine ca (c169 l hl f s q g hg) ?_
 refine sd ?_
 show resV [.bool (decide (0≤ixF g l 0))]=resV [.bool (l.any g)]
 rw [ixF_any g l 0 (by omega)]
theorem c121 (n:Int):CallDet Tryz.prog 121 [.d (.int .i64 n)] [.int .i64 (within3 n 1 5)]:=by
 refine call_of_vc (x:=jr121) (by kernel_rfl) rfl ?_
 refine ca (c122 _ _ _) ?_
 exact rfl
theorem c129 (n:Int):CallDet Tryz.prog 129 [.d (.int .i64 n)] [.int .i64 (within3 n 0 7)]:=by
 refine call_of_vc (x:=jr129) (by kernel_rfl) rfl ?_
 refine ca (c122 _ _ _) ?_
 exact rfl
theorem c124 (h:Int) (l:List Int) (hl:l.length≤1048576):CallDet Tryz.prog 124 [.d (.int .i64 h),.d (.slice 1 (ints l))] [.int .i64 (setE h l)]:=by
 have hlen:=ints_len l
 refine call_of_vc (x:=jr124) (by kernel_rfl) rfl ?_
 refine sd ?_
 refine b_intro (fun t=>?_) (fun t=>?_)
 ·show resV [.int .i64 12]=resV [.int .i64 (setE h l)]
  unfold setE
  have t:(((ints l).length:Int)==0)=true:=t
  rw [hlen] at t; rw [t]; rfl
 have t:(((ints l).length:Int)==0)=false:=t
 have e0:setE h l=setGo h (-1) l:=by unfold setE; rw [hlen] at t; rw [t]; rfl
 rw [e0]
 refine loop_st (fun k:Nat=>⟨[(0,.d (.int .i64 h)),(5,.d (.int .i64 (lastN l k))),(12,.d (.slice 1 (ints l))),(13,.d (.int .i64 ((ints l).length:Int))),(14,.d (.int .i64 k))],[.none]⟩) (fun k=>k≤l.length∧setGo h (-1) l=setGo h (lastN l k) (l.drop k)) (fun k=>l.length - k) 0 rfl ⟨Nat.zero_le _,rfl⟩ ?_
 rintro k ⟨hk,hi⟩
 dsimp only
 by_cases hkn:k < l.length
 ·refine Exists.elim (get_lt l hkn) fun x hx=>?_
  have hx1:=ints_get hx
  have hls:=lastN_succ hx
  rw [drop_at hx,setGo] at hi
  have fin:(decide (x < 0)||decide (h≤x))=false→decide (x≤lastN l k)=false→∃ a':Nat,((a'≤l.length∧setGo h (-1) l=setGo h (lastN l a') (l.drop a'))∧l.length - a' < l.length - k)∧(⟨[(0,.d (.int .i64 h)),(5,.d (.int .i64 x)),(12,.d (.slice 1 (ints l))),(13,.d (.int .i64 ((ints l).length:Int))),(14,.d (.int .i64 ((k:Int)+1)))],[.none]⟩:St)=⟨[(0,.d (.int .i64 h)),(5,.d (.int .i64 (lastN l a'))),(12,.d (.slice 1 (ints l))),(13,.d (.int .i64 ((ints l).length:Int))),(14,.d (.int .i64 (a':Nat)))],[.none]⟩:=fun h1 h2 =>
   ⟨k+1,⟨⟨by omega,by rw [hi,h1,h2,hls]; rfl⟩,by omega⟩,by rw [hls]; rfl⟩
  generalize lastN l k=last at *
  refine sd ?_
  refine b_lt (fun t1=>?_) (fun t1=>?_)
  refine ix_at hx1 ?_ ?_
  (show (0:Int)≤(↑k:Int); omega)
  refine sd ?_
  refine b_lt (fun t2=>?_) (fun t2=>?_)
  refine sd ?_
  refine ca (c103 _ _) ?_
  refine sd ?_
  refine ca (c103 _ _) ?_
  refine sd ?_
  refine sd ?_
  refine ca (c99 [(10:Int),bif decide (x≤last) then (11:Int) else (0:Int)] (by simp)) ?_
  refine sd ?_
  rotate_left
  refine sd ?_
  refine ca (c103 _ _) ?_
  refine sd ?_
  refine ca (c103 _ _) ?_
  refine sd ?_
  refine sd ?_
  refine ca (c99 [bif decide (h≤x) then (10:Int) else (0:Int),bif decide (x≤last) then (11:Int) else (0:Int)] (by simp)) ?_
  refine sd ?_
  refine b_ne (fun t3=>?_) (fun t3=>?_)
  rotate_left
  refine ar_add ?_ ?_
  refine an ?_ ?_
  (show (-9223372036854775808:Int)≤(↑k:Int)+(1:Int); omega)
  (show (↑k:Int)+(1:Int)≤(9223372036854775807:Int); omega)
  rotate_left
  (exfalso; omega)
  ·rw [hi,decide_eq_true t2]; rfl
  ·rw [hi,decide_eq_false t2]
   revert t3
   cases decide (h≤x) <;> cases decide (x≤last) <;> intro t3 <;> first | rfl | exact absurd rfl t3
  ·rw [decide_eq_false t2] at fin
   revert t3 fin
   cases decide (h≤x) <;> cases decide (x≤last) <;> intro fin t3 <;> first | exact fin rfl rfl | exact absurd t3 (by decide)
 ·have e:l.drop k=[]:=List.drop_eq_nil_of_le (by omega)
  rw [e] at hi
  rw [hi]
  refine sd ?_
  refine b_lt (fun t1=>?_) (fun t1=>?_)
  (exfalso; omega)
  exact rfl
theorem c123 (h:Int) (l:List Int) (hl:l.length≤1048576):CallDet Tryz.prog 123 [.d (.slice 1 (ints l)),.cp [.int .i64 h] 0] [.int .i64 (setE h l)]:=by
 refine call_of_vc (x:=jr123) (by kernel_rfl) rfl ?_
 refine ca (c124 h l hl) ?_
 exact rfl
theorem uAt_get {u:List Int} {i:Int} (h0:0≤i) (h:i < (u.length:Int)):(ints u)[i.toNat]?=some (.int .i64 (uAt u i)):=by
 have hl:i.toNat < u.length:=by omega
 unfold ints uAt
 rw [List.getElem?_map,List.getElem?_eq_getElem hl]; rfl
theorem uAt_rng {u:List Int} {m:Int} (hm:0≤m) (h:∀ x∈u,0≤x∧x≤m) (i:Int):0≤uAt u i∧uAt u i≤m:=by
 unfold uAt
 cases hx:u[i.toNat]? with
 | none=>exact ⟨Int.le_refl _,hm⟩
 | some x=>exact h x (List.mem_of_getElem? hx)
theorem sumL_snoc (f:Int→Int) (x:Int):∀ l:List Int,sumL f (l++[x])=sumL f l+f x
 | []=>by show f x+0=0+f x; omega
 | y::l=>by show f y+sumL f (l++[x])=f y+sumL f l+f x; rw [sumL_snoc f x l]; omega
theorem sumL_rng {u:List Int} {m:Int} (hm:0≤m) (h:∀ x∈u,0≤x∧x≤m):∀ l:List Int,0≤sumL (uAt u) l∧sumL (uAt u) l≤m * (l.length:Int)
 | []=>⟨Int.le_refl _,by show (0:Int)≤m * 0; omega⟩
 | y::l=>by
  have ih:=sumL_rng hm h l
  have hy:=uAt_rng hm h y
  rw [sumL,List.length_cons]
  have e:m * ((l.length+1:Nat):Int)=m * (l.length:Int)+m:=by rw [Int.natCast_add,Int.mul_add]; simp
  rw [e]; omega
theorem c131 (u s:List Int) (hu:u.length≤1048576) (hs:s.length≤1048576) (hr:∀ x∈u,0≤x∧x≤7) (hi:∀ i∈s,0≤i∧i < (u.length:Int)):CallDet Tryz.prog 131 [.d (.slice 1 (ints u)),.d (.slice 1 (ints s))] [.int .i64 (sumL (uAt u) s)]:=by
 have hlu:=ints_len u
 have hls:=ints_len s
 refine call_of_vc (x:=jr131) (by kernel_rfl) rfl ?_
 refine loop_st (fun k:Nat=>⟨[(0,.d (.slice 1 (ints u))),(5,.d (.int .i64 (sumL (uAt u) (s.take k)))),(8,.d (.slice 1 (ints s))),(9,.d (.int .i64 ((ints s).length:Int))),(10,.d (.int .i64 k))],[]⟩) (fun k=>k≤s.length) (fun k=>s.length - k) 0 rfl (Nat.zero_le _) ?_
 intro k hk
 have hk:k≤s.length:=hk
 dsimp only
 by_cases hkn:k < s.length
 ·refine Exists.elim (get_lt s hkn) fun x hx=>?_
  have hx1:=ints_get hx
  have hxr:=hi x (List.mem_of_getElem? hx)
  have hx2:=uAt_get hxr.1 hxr.2
  have e1:sumL (uAt u) (s.take (k+1))=sumL (uAt u) (s.take k)+uAt u x:=by rw [take_one hx,sumL_snoc]
  have hr1:=sumL_rng (by decide) hr (s.take k)
  have hr2:=uAt_rng (by decide) hr x
  rw [List.length_take] at hr1
  have fin:∃ a':Nat,(a'≤s.length∧s.length - a' < s.length - k)∧(⟨[(0,.d (.slice 1 (ints u))),(5,.d (.int .i64 (sumL (uAt u) (s.take k)+uAt u x))),(8,.d (.slice 1 (ints s))),(9,.d (.int .i64 ((ints s).length:Int))),(10,.d (.int .i64 ((k:Int)+1)))],[]⟩:St)=⟨[(0,.d (.slice 1 (ints u))),(5,.d (.int .i64 (sumL (uAt u) (s.take a')))),(8,.d (.slice 1 (ints s))),(9,.d (.int .i64 ((ints s).length:Int))),(10,.d (.int .i64 (a':Nat)))],[]⟩ :=
   ⟨k+1,⟨by omega,by omega⟩,by rw [e1]; rfl⟩
  generalize sumL (uAt u) (s.take k)=q at *
  refine sd ?_
  refine b_lt (fun t1=>?_) (fun t1=>?_)
  refine ix_at hx1 ?_ ?_
  (show (0:Int)≤(↑k:Int); omega)
  refine ix_at hx2 ?_ ?_
  (show (0:Int)≤x; omega)
  refine ar_add ?_ ?_
  refine an ?_ ?_
  (show (-9223372036854775808:Int)≤q+uAt u x; omega)
  (show q+uAt u x≤(9223372036854775807:Int); omega)
  refine ar_add ?_ ?_
  refine an ?_ ?_
  (show (-9223372036854775808:Int)≤(↑k:Int)+(1:Int); omega)
  (show (↑k:Int)+(1:Int)≤(9223372036854775807:Int); omega)
  rotate_left
  (exfalso; omega)
  all_goals exact fin
 ·have e:s.take k=s:=List.take_of_length_le (by omega)
  rw [e]
  refine sd ?_
  refine b_lt (fun t1=>?_) (fun t1=>?_)
  (exfalso; omega)
  exact rfl
theorem apGo_drop {a b:List Int} {k:Nat} {x n:Int} (h:a[k]?=some x):apGo b (a.drop k) n=apGo b (a.drop (k+1)) (bif b.contains x then n - 2 else n):=by
 rw [drop_at h,apGo]
theorem c128 (a b:List Int) (ha:a.length≤1048576) (hb:b.length≤1048576):CallDet Tryz.prog 128 [.d (.slice 1 (ints a)),.d (.slice 1 (ints b))] [.int .i64 (apartN a b)]:=by
 have hla:=ints_len a
 have hlb:=ints_len b
 refine call_of_vc (x:=jr128) (by kernel_rfl) rfl ?_
 refine ar_add (by omega) ?_
 refine loop_st (fun p:Nat × Int=>⟨[(1,.d (.slice 1 (ints b))),(5,.d (.int .i64 p.2)),(13,.d (.slice 1 (ints a))),(14,.d (.int .i64 ((ints a).length:Int))),(15,.d (.int .i64 p.1))],[]⟩) (fun p=>p.1≤a.length∧-2097152≤p.2+2 * (p.1:Int)∧p.2≤2097152∧apartN a b=apGo b (a.drop p.1) p.2) (fun p=>a.length - p.1) (0,((ints a).length:Int)+((ints b).length:Int)) rfl ⟨Nat.zero_le _,by show (-2097152:Int)≤((ints a).length:Int)+((ints b).length:Int)+2 * 0; omega,by show ((ints a).length:Int)+((ints b).length:Int)≤2097152; omega,by show apartN a b=apGo b a (((ints a).length:Int)+((ints b).length:Int)); rw [hla,hlb]; rfl⟩ ?_
 rintro ⟨k,n⟩ ⟨hk,hn0,hn1,hi⟩
 have hk:k≤a.length:=hk
 have hn0:-2097152≤n+2 * (k:Int):=hn0
 have hn1:n≤2097152:=hn1
 have hi:apartN a b=apGo b (a.drop k) n:=hi
 dsimp only
 by_cases hkn:k < a.length
 ·refine Exists.elim (get_lt a hkn) fun x hx=>?_
  have hx1:=ints_get hx
  rw [apGo_drop hx] at hi
  have fin:∀ m:Int,m=(bif b.contains x then n - 2 else n)→∃ a':Nat × Int,((a'.1≤a.length∧-2097152≤a'.2+2 * (a'.1:Int)∧a'.2≤2097152∧apartN a b=apGo b (a.drop a'.1) a'.2)∧a.length - a'.1 < a.length - k)∧(⟨[(1,.d (.slice 1 (ints b))),(5,.d (.int .i64 m)),(13,.d (.slice 1 (ints a))),(14,.d (.int .i64 ((ints a).length:Int))),(15,.d (.int .i64 ((k:Int)+1)))],[]⟩:St)=⟨[(1,.d (.slice 1 (ints b))),(5,.d (.int .i64 a'.2)),(13,.d (.slice 1 (ints a))),(14,.d (.int .i64 ((ints a).length:Int))),(15,.d (.int .i64 (a'.1:Nat)))],[]⟩:=fun m hm=>by
   have hm2:m=n - 2∨m=n:=by
    rw [hm]; cases b.contains x
    ·exact .inr rfl
    ·exact .inl rfl
   exact ⟨(k+1,m),⟨⟨by show k+1≤a.length; omega,by show -2097152≤m+2 * ((k+1:Nat):Int); omega,by show m≤2097152; omega,by rw [hm]; exact hi⟩,by show a.length - (k+1) < a.length - k; omega⟩,rfl⟩
  refine sd ?_
  refine b_lt (fun t1=>?_) (fun t1=>?_)
  refine ix_at hx1 ?_ ?_
  (show (0:Int)≤(↑k:Int); omega)
  refine ca (c106 b x hb) ?_
  refine b_intro (fun t2=>?_) (fun t2=>?_)
  refine ar_sub ?_ ?_
  refine an ?_ ?_
  (show (-9223372036854775808:Int)≤n - (2:Int); omega)
  (show n - (2:Int)≤(9223372036854775807:Int); omega)
  refine ar_add ?_ ?_
  refine an ?_ ?_
  (show (-9223372036854775808:Int)≤(↑k:Int)+(1:Int); omega)
  (show (↑k:Int)+(1:Int)≤(9223372036854775807:Int); omega)
  rotate_left
  refine ar_add ?_ ?_
  refine an ?_ ?_
  (show (-9223372036854775808:Int)≤(↑k:Int)+(1:Int); omega)
  (show (↑k:Int)+(1:Int)≤(9223372036854775807:Int); omega)
  rotate_left
  (exfalso; omega)
  ·exact fin _ (by rw [t2]; rfl)
  ·exact fin _ (by rw [t2]; rfl)
 ·have e:a.drop k=[]:=List.drop_eq_nil_of_le (by omega)
  rw [e] at hi
  have hi:apartN a b=n:=hi
  rw [hi]
  refine sd ?_
  refine b_lt (fun t1=>?_) (fun t1=>?_)
  (exfalso; omega)
  exact rfl
theorem c127 (o s:List Int) (q:Int) (ho:o.length≤1048576) (hs:s.length≤1048576):CallDet Tryz.prog 127 [.d (.slice 1 (ints o)),.cp [.slice 1 (ints s)] 0,.cp [.int .i64 q] 0] [.bool (nearB q (apartN o s))]:=by
 refine call_of_vc (x:=jr127) (by kernel_rfl) rfl ?_
 refine ca (c128 o s ho hs) ?_
 refine sd ?_
 refine b_lt (fun t1=>?_) (fun t1=>?_)
 refine sd ?_
 rotate_left
 refine sd ?_
 rotate_left
 ·unfold nearB; rw [decide_eq_true t1]; rfl
 ·unfold nearB; rw [decide_eq_false t1]; rfl
end Vc
set_option maxRecDepth 10000
set_option maxHeartbeats 4000000
namespace Vc
open Go Go.Proofs
theorem orE_a {A B:Int} (h:¬ A=0):(bif A != 0 then A else B)=A:=by rw [show (A != 0)=true from bne_iff_ne.2 h]; rfl
theorem orE_b {A B:Int} (h:A=0):(bif A != 0 then A else B)=B:=by rw [h]; rfl
theorem nz_t {a:Int} (h:¬ a=0):(a != 0)=true:=bne_iff_ne.2 h
theorem nz_f {a:Int} (h:a=0):(a != 0)=false:=by rw [h]; rfl
def permA (h k:Int) (asked:List (List Int)):Int:=firstOf [within3 h 1 5,within3 k 1 5,bif decide ((16:Int) < (asked.length:Int)) then 5 else 0]
def permB (h:Int) (asked:List (List Int)) (set:List Int):Int:=firstOf [firstOf (asked.map (setE h)),setE h set]
def permE (h k:Int) (asked:List (List Int)) (set:List Int):Int:=bif permA h k asked != 0 then permA h k asked else permB h asked set
def sumA (u:List Int):Int:=firstOf [bif (u.length:Int)==0 then 12 else 0,bif decide ((5:Int) < (u.length:Int)) then 5 else 0]
def sumB (u s:List Int):Int:=firstOf [firstOf (u.map fun x=>within3 x 0 7),setE (u.length:Int) s]
def sumE (u s:List Int):Int:=bif sumA u != 0 then sumA u else sumB u s
theorem sumB_ok {u s:List Int} (h:sumB u s=0):(∀ x∈u,0≤x∧x≤7)∧setE (u.length:Int) s=0:=by
 have h1:=firstOf_zero h
 have h2:=h1 (firstOf (u.map fun x=>within3 x 0 7)) (by simp)
 refine ⟨fun x hx=>within_ok (firstOf_zero h2 _ (List.mem_map.2 ⟨x,hx,rfl⟩)),h1 _ (by simp)⟩
theorem asc_rng {h:Int} {l:List Int} (e:setE h l=0):∀ i∈l,0≤i∧i < h:=fun i hi=>(asc_mem (setE_asc e).2 hi).2
def jr37:AFun:=⟨51,5,[.tmp 8,.tmp 9],
 (.seq
 (.reg [0,1,2] [⟨some 4,.cbx 0 1 (.tmp 0),none⟩,
  ⟨some 5,.cbx 1 1 (.tmp 1),none⟩,
  ⟨some 7,.cbx 2 1 (.tmp 3),none⟩,
  ⟨some 8,.mov (.cst (.d (.bool false))),none⟩,
  ⟨some 9,.mov (.cst (.d (.int .i64 0))),none⟩])
 (.seq
  (.seq
  (.regd [3] [⟨some 14,.ld false 1 (.tmp 4),none⟩,
   ⟨some 15,.call 121 [(.tmp 14)],none⟩,
   ⟨some 16,.ld false 1 (.tmp 5),none⟩,
   ⟨some 17,.call 122 [(.tmp 16),(.cst (.d (.int .i64 1))),(.cst (.d (.int .i64 5)))],none⟩,
   ⟨some 18,.mov (.tmp 2),none⟩,
   ⟨some 19,.len (.tmp 18),none⟩,
   ⟨some 20,.cmp .gtr (.tmp 19) (.cst (.d (.int .i64 16))),none⟩,
   ⟨some 21,.call 103 [(.tmp 20),(.cst (.d (.int .i64 5)))],none⟩,
   ⟨some 22,.bsl 3 32 1 3 [(.int .i64 0),(.int .i64 0),(.int .i64 0)] [(0,(.tmp 15)),(1,(.tmp 17)),(2,(.tmp 21))],none⟩,
   ⟨some 23,.call 99 [(.tmp 22)],none⟩,
   ⟨some 10,.mov (.tmp 23),none⟩] [(0,2),(1,2),(0,4),(1,4),(2,4),(3,4),(0,5),(1,5),(2,5),(3,5),(0,6),(1,6),(2,6),(3,6)])
  (.seq
   (.reg [] [⟨some 24,.mov (.tmp 10),none⟩,
    ⟨some 25,.cmp .neq (.tmp 24) (.cst (.d (.int .i64 0))),none⟩])
   (.cond (.tmp 25)
   (.seq
    (.reg [] [⟨some 26,.mov (.tmp 10),none⟩,
     ⟨some 8,.mov (.cst (.d (.bool false))),none⟩,
     ⟨some 9,.mov (.tmp 26),none⟩])
    .ret)
   .skip)))
  (.seq
  (.reg [] [⟨some 27,.mkf (.func 123) [] [(.tmp 4)],none⟩,
   ⟨some 11,.mov (.tmp 27),none⟩])
  (.seq
   (.seq
   (.regd [4] [⟨some 28,.mov (.tmp 2),none⟩,
    ⟨some 29,.mov (.tmp 11),none⟩,
    ⟨some 30,.call 125 [(.tmp 28),(.tmp 29)],none⟩,
    ⟨some 31,.call 99 [(.tmp 30)],none⟩,
    ⟨some 32,.mov (.tmp 11),none⟩,
    ⟨some 33,.ld false 1 (.tmp 7),none⟩,
    ⟨some 34,.callv (.tmp 32) [(.tmp 33)],none⟩,
    ⟨some 35,.bsl 4 32 1 2 [(.int .i64 0),(.int .i64 0)] [(0,(.tmp 31)),(1,(.tmp 34))],none⟩,
    ⟨some 36,.call 99 [(.tmp 35)],none⟩,
    ⟨some 12,.mov (.tmp 36),none⟩] [(0,1),(0,4),(1,4),(2,4),(3,4),(0,5),(1,5),(2,5),(3,5),(4,5)])
   (.seq
    (.reg [] [⟨some 37,.mov (.tmp 12),none⟩,
     ⟨some 38,.cmp .neq (.tmp 37) (.cst (.d (.int .i64 0))),none⟩])
    (.cond (.tmp 38)
    (.seq
     (.reg [] [⟨some 39,.mov (.tmp 12),none⟩,
      ⟨some 8,.mov (.cst (.d (.bool false))),none⟩,
      ⟨some 9,.mov (.tmp 39),none⟩])
     .ret)
    .skip)))
   (.seq
   (.reg [] [⟨some 40,.mov (.tmp 2),none⟩,
    ⟨some 41,.mkf (.func 127) [] [(.tmp 7),(.tmp 5)],none⟩,
    ⟨some 42,.call 126 [(.tmp 40),(.tmp 41)],none⟩,
    ⟨some 13,.mov (.tmp 42),none⟩])
   (.seq
    (.reg [] [⟨some 43,.ld false 1 (.tmp 7),none⟩,
     ⟨some 44,.len (.tmp 43),none⟩,
     ⟨some 45,.ld false 1 (.tmp 5),none⟩,
     ⟨some 46,.cmp .geq (.tmp 44) (.tmp 45),none⟩,
     ⟨some 47,.mov (.tmp 46),none⟩,
     ⟨some 48,.mov (.tmp 13),some (47,true)⟩,
     ⟨some 49,.not (.tmp 48),some (47,true)⟩,
     ⟨some 50,.pick (.tmp 47) (.tmp 49) (.cst (.d (.bool false))),none⟩,
     ⟨some 8,.mov (.tmp 50),none⟩,
     ⟨some 9,.mov (.cst (.d (.int .i64 0))),none⟩])
    .ret))))))⟩
def jr39:AFun:=⟨38,2,[.tmp 4,.tmp 5],
 (.seq
 (.reg [] [⟨some 4,.mov (.cst (.d (.int .i64 0))),none⟩,
  ⟨some 5,.mov (.cst (.d (.int .i64 0))),none⟩])
 (.seq
  (.seq
  (.reg [0] [⟨some 9,.mov (.tmp 0),none⟩,
   ⟨some 10,.len (.tmp 9),none⟩,
   ⟨some 11,.cmp .eql (.tmp 10) (.cst (.d (.int .i64 0))),none⟩,
   ⟨some 12,.call 103 [(.tmp 11),(.cst (.d (.int .i64 12)))],none⟩,
   ⟨some 13,.mov (.tmp 0),none⟩,
   ⟨some 14,.len (.tmp 13),none⟩,
   ⟨some 15,.cmp .gtr (.tmp 14) (.cst (.d (.int .i64 5))),none⟩,
   ⟨some 16,.call 103 [(.tmp 15),(.cst (.d (.int .i64 5)))],none⟩,
   ⟨some 17,.bsl 0 32 1 2 [(.int .i64 0),(.int .i64 0)] [(0,(.tmp 12)),(1,(.tmp 16))],none⟩,
   ⟨some 18,.call 99 [(.tmp 17)],none⟩,
   ⟨some 6,.mov (.tmp 18),none⟩])
  (.seq
   (.reg [] [⟨some 19,.mov (.tmp 6),none⟩,
    ⟨some 20,.cmp .neq (.tmp 19) (.cst (.d (.int .i64 0))),none⟩])
   (.cond (.tmp 20)
   (.seq
    (.reg [] [⟨some 21,.mov (.tmp 6),none⟩,
     ⟨some 4,.mov (.cst (.d (.int .i64 0))),none⟩,
     ⟨some 5,.mov (.tmp 21),none⟩])
    .ret)
   .skip)))
  (.seq
  (.reg [] [⟨some 7,.mov (.cst (.d (.fn (.func 129) []))),none⟩])
  (.seq
   (.seq
   (.reg [1] [⟨some 22,.mov (.tmp 0),none⟩,
    ⟨some 23,.mov (.tmp 7),none⟩,
    ⟨some 24,.call 130 [(.tmp 22),(.tmp 23)],none⟩,
    ⟨some 25,.call 99 [(.tmp 24)],none⟩,
    ⟨some 26,.mov (.tmp 0),none⟩,
    ⟨some 27,.len (.tmp 26),none⟩,
    ⟨some 28,.mov (.tmp 1),none⟩,
    ⟨some 29,.call 124 [(.tmp 27),(.tmp 28)],none⟩,
    ⟨some 30,.bsl 1 32 1 2 [(.int .i64 0),(.int .i64 0)] [(0,(.tmp 25)),(1,(.tmp 29))],none⟩,
    ⟨some 31,.call 99 [(.tmp 30)],none⟩,
    ⟨some 8,.mov (.tmp 31),none⟩])
   (.seq
    (.reg [] [⟨some 32,.mov (.tmp 8),none⟩,
     ⟨some 33,.cmp .neq (.tmp 32) (.cst (.d (.int .i64 0))),none⟩])
    (.cond (.tmp 33)
    (.seq
     (.reg [] [⟨some 34,.mov (.tmp 8),none⟩,
      ⟨some 4,.mov (.cst (.d (.int .i64 0))),none⟩,
      ⟨some 5,.mov (.tmp 34),none⟩])
     .ret)
    .skip)))
   (.seq
   (.reg [] [⟨some 35,.mov (.tmp 0),none⟩,
    ⟨some 36,.mov (.tmp 1),none⟩,
    ⟨some 37,.call 131 [(.tmp 35),(.tmp 36)],none⟩,
    ⟨some 4,.mov (.tmp 37),none⟩,
    ⟨some 5,.mov (.cst (.d (.int .i64 0))),none⟩])
   .ret)))))⟩
theorem c37 (h k : Int) (asked : List (List Int)) (set : List Int) (ha : asked.length ≤ 1048576) (hs : set.length ≤ 1048576) (hb : ∀ o ∈ asked, o.length ≤ 1048576) :
  CallDet Tryz.prog 37 [.d (.int .i64 h),.d (.int .i64 k),.d (.slice 1 (iss asked)),.d (.slice 1 (ints set))] [.bool (bif permE h k asked set != 0 then false else permP k asked set),.int .i64 (permE h k asked set)]:=by
 have hla:=iss_len asked
 have hls:=ints_len set
 refine call_of_vc (x:=jr37) (by kernel_rfl) rfl ?_
 have c99_:CallDet Tryz.prog 99 [.d (.slice 1 [.int .i64 (within3 h 1 5),.int .i64 (within3 k 1 5),.int .i64 (bif decide ((16:Int) < ((iss asked).length:Int)) then 5 else 0)])] [.int .i64 (permA h k asked)]:=by
  rw [hla]; exact c99 [within3 h 1 5,within3 k 1 5,bif decide ((16:Int) < (asked.length:Int)) then 5 else 0] (by simp)
 have c125_:=c125 asked ha 123 h (setE h) (fun x hx=>c123 h x (hb x hx))
 have c126_:=c126 asked ha 127 set k (fun o=>nearB k (apartN o set)) (fun o ho=>c127 o set k (hb o ho) hs)
 have c99_b:CallDet Tryz.prog 99 [.d (.slice 1 (ints (asked.map (setE h))))] [.int .i64 (firstOf (asked.map (setE h)))]:=c99 _ (by rw [List.length_map]; omega)
 have c99_c:CallDet Tryz.prog 99 [.d (.slice 1 [.int .i64 (firstOf (asked.map (setE h))),.int .i64 (setE h set)])] [.int .i64 (permB h asked set)]:=c99 [firstOf (asked.map (setE h)),setE h set] (by simp)
 refine ca (c121 _) ?_
 refine ca (c122 _ _ _) ?_
 refine sd ?_
 refine ca (c103 _ _) ?_
 refine sd ?_
 refine sd ?_
 refine ca c99_ ?_
 refine sd ?_
 refine b_ne (fun t1=>?_) (fun t1=>?_)
 rotate_left
 refine ca c125_ ?_
 refine ca c99_b ?_
 refine ca (c123 h set hs) ?_
 refine sd ?_
 refine sd ?_
 refine ca c99_c ?_
 refine sd ?_
 refine b_ne (fun t2=>?_) (fun t2=>?_)
 rotate_left
 refine ca c126_ ?_
 refine sd ?_
 refine b_le (fun t3=>?_) (fun t3=>?_)
 rotate_left
 refine sd ?_
 rotate_left
 ·rw [show permE h k asked set=permA h k asked from orE_a t1,nz_t t1]; rfl
 ·rw [show permE h k asked set=permB h asked set from orE_b t1,nz_t t2]; rfl
 ·rw [show permE h k asked set=0 from (orE_b t1).trans t2]
  rw [hls] at t3
  unfold permP
  rw [decide_eq_true t3]; rfl
 ·rw [show permE h k asked set=0 from (orE_b t1).trans t2]
  rw [hls] at t3
  unfold permP
  rw [decide_eq_false t3]; rfl
theorem c39 (u s : List Int) (hu : u.length ≤ 1048576) (hs : s.length ≤ 1048576) :
  CallDet Tryz.prog 39 [.d (.slice 1 (ints u)),.d (.slice 1 (ints s))] [.int .i64 (bif sumE u s != 0 then 0 else sumL (uAt u) s),.int .i64 (sumE u s)]:=by
 have hlu:=ints_len u
 have hls:=ints_len s
 refine call_of_vc (x:=jr39) (by kernel_rfl) rfl ?_
 have c99_:CallDet Tryz.prog 99 [.d (.slice 1 [.int .i64 (bif ((ints u).length:Int)==0 then 12 else 0),.int .i64 (bif decide ((5:Int) < ((ints u).length:Int)) then 5 else 0)])] [.int .i64 (sumA u)]:=by
  rw [hlu]; exact c99 [bif (u.length:Int)==0 then 12 else 0,bif decide ((5:Int) < (u.length:Int)) then 5 else 0] (by simp)
 have c130_:=c130 u hu 129 (fun x=>within3 x 0 7) (fun x _=>c129 x)
 have c99_b:CallDet Tryz.prog 99 [.d (.slice 1 (ints (u.map fun x=>within3 x 0 7)))] [.int .i64 (firstOf (u.map fun x=>within3 x 0 7))]:=c99 _ (by rw [List.length_map]; omega)
 have c124_:CallDet Tryz.prog 124 [.d (.int .i64 ((ints u).length:Int)),.d (.slice 1 (ints s))] [.int .i64 (setE (u.length:Int) s)]:=by
  rw [hlu]; exact c124 _ s hs
 have c99_c:CallDet Tryz.prog 99 [.d (.slice 1 [.int .i64 (firstOf (u.map fun x=>within3 x 0 7)),.int .i64 (setE (u.length:Int) s)])] [.int .i64 (sumB u s)]:=c99 [firstOf (u.map fun x=>within3 x 0 7),setE (u.length:Int) s] (by simp)
 have c131_:sumB u s=0→CallDet Tryz.prog 131 [.d (.slice 1 (ints u)),.d (.slice 1 (ints s))] [.int .i64 (sumL (uAt u) s)]:=fun h=>c131 u s hu hs (sumB_ok h).1 (asc_rng (sumB_ok h).2)
 refine sd ?_
 refine ca (c103 _ _) ?_
 refine sd ?_
 refine ca (c103 _ _) ?_
 refine sd ?_
 refine sd ?_
 refine ca c99_ ?_
 refine sd ?_
 refine b_ne (fun t1=>?_) (fun t1=>?_)
 rotate_left
 refine ca c130_ ?_
 refine ca c99_b ?_
 refine ca c124_ ?_
 refine sd ?_
 refine sd ?_
 refine ca c99_c ?_
 refine sd ?_
 refine b_ne (fun t2=>?_) (fun t2=>?_)
 rotate_left
 refine ca (c131 _ _ ?_ ?_ ?_ ?_) ?_
 assumption
 assumption
 rotate_left
 rotate_left
 rotate_left
 ·rw [show sumE u s=sumA u from orE_a t1,nz_t t1]; rfl
 ·rw [show sumE u s=sumB u s from orE_b t1,nz_t t2]; rfl
 ·exact (sumB_ok t2).1
 ·exact asc_rng (sumB_ok t2).2
 ·rw [show sumE u s=0 from (orE_b t1).trans t2]; rfl
def jr38:AFun:=⟨20,4,[.tmp 2],
 (.seq
 (.reg [] [⟨some 2,.mov (.cst (.nils 1)),none⟩])
 (.seq
  (.reg [] [⟨some 3,.mov (.cst (.nils 1)),none⟩])
  (.seq
  (.seq
   (.reg [] [⟨some 6,.mov (.tmp 0),none⟩,
    ⟨some 7,.len (.tmp 6),none⟩,
    ⟨some 8,.mov (.cst (.d (.int .i64 0))),none⟩])
   (.post [3] [0,1,2,3]
   (.block 0
    (.asrow 3 28 1 3
    (.keep [3,6,7,8] []
     (.loop
     (.post [3,6,7,8] [0,1,2,3]
      (.seq
      (.reg [] [⟨some 9,.cmp .lss (.tmp 8) (.tmp 7),none⟩])
      (.seq
       (.cond (.tmp 9)
       .skip
       (.exit 0))
       (.seq
       (.block 1
        (.seq
        (.reg [] [⟨some 10,.ixa 1 (.tmp 6) (.tmp 8),none⟩,
         ⟨some 11,.ld false 1 (.tmp 10),none⟩,
         ⟨some 5,.mov (.tmp 11),none⟩])
        (.reg [0,1,2,3] [⟨some 12,.mov (.tmp 3),none⟩,
         ⟨some 13,.bsl 0 3 1 0 [] [],none⟩,
         ⟨some 14,.mov (.tmp 5),none⟩,
         ⟨some 15,.app 1 3 1 8 (.tmp 13) (.tmp 14),none⟩,
         ⟨some 16,.bsl 2 28 1 1 [(.slice 1 [])] [(0,(.tmp 15))],none⟩,
         ⟨some 17,.app 3 28 1 24 (.tmp 12) (.tmp 16),none⟩,
         ⟨some 3,.mov (.tmp 17),none⟩])))
       (.reg [] [⟨some 18,.arith .add .i64 (.tmp 8) (.cst (.d (.int .i64 1))),none⟩,
        ⟨some 8,.mov (.tmp 18),none⟩])))))))))))
  (.seq
   (.reg [] [⟨some 19,.mov (.tmp 3),none⟩,
    ⟨some 2,.mov (.tmp 19),none⟩])
   .ret))))⟩
def jr42:AFun:=⟨25,0,[.tmp 4],
 (.seq
 (.reg [] [⟨some 4,.mov (.cst (.d (.int .i64 0))),none⟩])
 (.seq
  (.seq
  (.reg [] [⟨some 7,.mov (.tmp 1),none⟩,
   ⟨some 8,.len (.tmp 7),none⟩,
   ⟨some 9,.cmp .gtr (.tmp 8) (.cst (.d (.int .i64 16))),none⟩])
  (.cond (.tmp 9)
   (.seq
   (.reg [] [⟨some 4,.mov (.cst (.d (.int .i64 5))),none⟩])
   .ret)
   .skip))
  (.seq
  (.seq
   (.reg [] [⟨some 5,.mov (.cst (.d (.int .i64 0))),none⟩])
   (.post [] []
   (.block 0
    (.keep [0,1,5] []
    (.loop
     (.post [0,1,5] []
     (.seq
      (.seq
      (.reg [] [⟨some 10,.mov (.tmp 5),none⟩,
       ⟨some 11,.mov (.tmp 1),none⟩,
       ⟨some 12,.len (.tmp 11),none⟩,
       ⟨some 13,.cmp .lss (.tmp 10) (.tmp 12),none⟩])
      (.cond (.tmp 13)
       .skip
       (.exit 0)))
      (.seq
      (.block 1
       (.seq
       (.reg [] [⟨some 16,.mov (.tmp 0),none⟩,
        ⟨some 17,.mov (.tmp 1),none⟩,
        ⟨some 18,.mov (.tmp 5),none⟩,
        ⟨some 19,.ixa 1 (.tmp 17) (.tmp 18),none⟩,
        ⟨some 20,.ld false 1 (.tmp 19),none⟩,
        ⟨some 21,.call 43 [(.tmp 16),(.tmp 20)],none⟩,
        ⟨some 6,.mov (.tmp 21),none⟩])
       (.seq
        (.reg [] [⟨some 22,.mov (.tmp 6),none⟩,
         ⟨some 23,.cmp .neq (.tmp 22) (.cst (.d (.int .i64 0))),none⟩])
        (.cond (.tmp 23)
        (.seq
         (.reg [] [⟨some 24,.mov (.tmp 6),none⟩,
          ⟨some 4,.mov (.tmp 24),none⟩])
         .ret)
        .skip))))
      (.reg [] [⟨some 14,.mov (.tmp 5),none⟩,
       ⟨some 15,.arith .add .i64 (.tmp 14) (.cst (.d (.int .i64 1))),none⟩,
       ⟨some 5,.mov (.tmp 15),none⟩])))))))))
  (.seq
   (.reg [] [⟨some 4,.mov (.cst (.d (.int .i64 0))),none⟩])
   .ret))))⟩
def jr43:AFun:=⟨51,1,[.tmp 4],
 (.seq
 (.reg [] [⟨some 4,.mov (.cst (.d (.int .i64 0))),none⟩])
 (.seq
  (.seq
  (.reg [] [⟨some 7,.mov (.tmp 1),none⟩,
   ⟨some 8,.len (.tmp 7),none⟩,
   ⟨some 9,.cmp .eql (.tmp 8) (.cst (.d (.int .i64 0))),none⟩])
  (.cond (.tmp 9)
   (.seq
   (.reg [] [⟨some 4,.mov (.cst (.d (.int .i64 12))),none⟩])
   .ret)
   .skip))
  (.seq
  (.seq
   (.reg [] [⟨some 5,.mov (.cst (.d (.int .i64 0))),none⟩])
   (.post [] [0]
   (.block 0
    (.keep [0,1,5] []
    (.loop
     (.post [0,1,5] [0]
     (.seq
      (.seq
      (.reg [] [⟨some 10,.mov (.tmp 5),none⟩,
       ⟨some 11,.mov (.tmp 1),none⟩,
       ⟨some 12,.len (.tmp 11),none⟩,
       ⟨some 13,.cmp .lss (.tmp 10) (.tmp 12),none⟩])
      (.cond (.tmp 13)
       .skip
       (.exit 0)))
      (.seq
      (.block 1
       (.seq
       (.regd [0] [⟨some 16,.mov (.tmp 1),none⟩,
        ⟨some 17,.mov (.tmp 5),none⟩,
        ⟨some 18,.ixa 1 (.tmp 16) (.tmp 17),none⟩,
        ⟨some 19,.ld false 1 (.tmp 18),none⟩,
        ⟨some 20,.cmp .lss (.tmp 19) (.cst (.d (.int .i64 0))),none⟩,
        ⟨some 21,.mov (.tmp 20),none⟩,
        ⟨some 22,.mov (.tmp 1),some (21,false)⟩,
        ⟨some 23,.mov (.tmp 5),some (21,false)⟩,
        ⟨some 24,.ixa 1 (.tmp 22) (.tmp 23),some (21,false)⟩,
        ⟨some 25,.ld false 1 (.tmp 24),some (21,false)⟩,
        ⟨some 26,.mov (.tmp 0),some (21,false)⟩,
        ⟨some 27,.cmp .geq (.tmp 25) (.tmp 26),some (21,false)⟩,
        ⟨some 28,.pick (.tmp 21) (.cst (.d (.bool true))) (.tmp 27),none⟩,
        ⟨some 29,.call 22 [(.tmp 28),(.cst (.d (.int .i64 10)))],none⟩,
        ⟨some 30,.mov (.tmp 5),none⟩,
        ⟨some 31,.cmp .gtr (.tmp 30) (.cst (.d (.int .i64 0))),none⟩,
        ⟨some 32,.mov (.tmp 31),none⟩,
        ⟨some 33,.mov (.tmp 1),some (32,true)⟩,
        ⟨some 34,.mov (.tmp 5),some (32,true)⟩,
        ⟨some 35,.ixa 1 (.tmp 33) (.tmp 34),some (32,true)⟩,
        ⟨some 36,.ld false 1 (.tmp 35),some (32,true)⟩,
        ⟨some 37,.mov (.tmp 1),some (32,true)⟩,
        ⟨some 38,.mov (.tmp 5),some (32,true)⟩,
        ⟨some 39,.arith .sub .i64 (.tmp 38) (.cst (.d (.int .i64 1))),some (32,true)⟩,
        ⟨some 40,.maxi (.cst (.d (.int .i64 0))) (.tmp 39),some (32,true)⟩,
        ⟨some 41,.ixa 1 (.tmp 37) (.tmp 40),some (32,true)⟩,
        ⟨some 42,.ld false 1 (.tmp 41),some (32,true)⟩,
        ⟨some 43,.cmp .leq (.tmp 36) (.tmp 42),some (32,true)⟩,
        ⟨some 44,.pick (.tmp 32) (.tmp 43) (.cst (.d (.bool false))),none⟩,
        ⟨some 45,.call 22 [(.tmp 44),(.cst (.d (.int .i64 11)))],none⟩,
        ⟨some 46,.bsl 0 3 1 2 [(.int .i64 0),(.int .i64 0)] [(0,(.tmp 29)),(1,(.tmp 45))],none⟩,
        ⟨some 47,.call 110 [(.tmp 46)],none⟩,
        ⟨some 6,.mov (.tmp 47),none⟩] [(0,1),(6,7),(6,10),(7,10),(8,10),(9,10),(0,14),(1,14),(2,14),(3,14),(4,14),(5,14),(6,14),(7,14),(8,14),(9,14),(10,14),(11,14),(12,14),(13,14),(0,15),(1,15),(2,15),(3,15),(4,15),(5,15),(6,15),(7,15),(8,15),(9,15),(10,15),(11,15),(12,15),(13,15),(17,18),(17,21),(18,21),(19,21),(20,21),(17,22),(18,22),(19,22),(20,22),(21,22),(17,23),(18,23),(19,23),(20,23),(21,23),(17,24),(18,24),(19,24),(20,24),(21,24),(17,25),(18,25),(19,25),(20,25),(17,26),(18,26),(19,26),(20,26)])
       (.seq
        (.reg [] [⟨some 48,.mov (.tmp 6),none⟩,
         ⟨some 49,.cmp .neq (.tmp 48) (.cst (.d (.int .i64 0))),none⟩])
        (.cond (.tmp 49)
        (.seq
         (.reg [] [⟨some 50,.mov (.tmp 6),none⟩,
          ⟨some 4,.mov (.tmp 50),none⟩])
         .ret)
        .skip))))
      (.reg [] [⟨some 14,.mov (.tmp 5),none⟩,
       ⟨some 15,.arith .add .i64 (.tmp 14) (.cst (.d (.int .i64 1))),none⟩,
       ⟨some 5,.mov (.tmp 15),none⟩])))))))))
  (.seq
   (.reg [] [⟨some 4,.mov (.cst (.d (.int .i64 0))),none⟩])
   .ret))))⟩
def jr44:AFun:=⟨33,1,[.tmp 2],
 (.seq
 (.reg [] [⟨some 2,.mov (.cst (.d (.int .i64 0))),none⟩])
 (.seq
  (.seq
  (.reg [0] [⟨some 6,.mov (.tmp 0),none⟩,
   ⟨some 7,.len (.tmp 6),none⟩,
   ⟨some 8,.cmp .eql (.tmp 7) (.cst (.d (.int .i64 0))),none⟩,
   ⟨some 9,.call 22 [(.tmp 8),(.cst (.d (.int .i64 12)))],none⟩,
   ⟨some 10,.mov (.tmp 0),none⟩,
   ⟨some 11,.len (.tmp 10),none⟩,
   ⟨some 12,.cmp .gtr (.tmp 11) (.cst (.d (.int .i64 5))),none⟩,
   ⟨some 13,.call 22 [(.tmp 12),(.cst (.d (.int .i64 5)))],none⟩,
   ⟨some 14,.bsl 0 3 1 2 [(.int .i64 0),(.int .i64 0)] [(0,(.tmp 9)),(1,(.tmp 13))],none⟩,
   ⟨some 15,.call 110 [(.tmp 14)],none⟩,
   ⟨some 3,.mov (.tmp 15),none⟩])
  (.seq
   (.reg [] [⟨some 16,.mov (.tmp 3),none⟩,
    ⟨some 17,.cmp .neq (.tmp 16) (.cst (.d (.int .i64 0))),none⟩])
   (.cond (.tmp 17)
   (.seq
    (.reg [] [⟨some 18,.mov (.tmp 3),none⟩,
     ⟨some 2,.mov (.tmp 18),none⟩])
    .ret)
   .skip)))
  (.seq
  (.seq
   (.reg [] [⟨some 4,.mov (.cst (.d (.int .i64 0))),none⟩])
   (.post [] [0]
   (.block 0
    (.keep [0,4] [0]
    (.loop
     (.post [0,4] []
     (.seq
      (.seq
      (.reg [] [⟨some 19,.mov (.tmp 4),none⟩,
       ⟨some 20,.mov (.tmp 0),none⟩,
       ⟨some 21,.len (.tmp 20),none⟩,
       ⟨some 22,.cmp .lss (.tmp 19) (.tmp 21),none⟩])
      (.cond (.tmp 22)
       .skip
       (.exit 0)))
      (.seq
      (.block 1
       (.seq
       (.reg [] [⟨some 25,.mov (.tmp 0),none⟩,
        ⟨some 26,.mov (.tmp 4),none⟩,
        ⟨some 27,.ixa 1 (.tmp 25) (.tmp 26),none⟩,
        ⟨some 28,.ld false 1 (.tmp 27),none⟩,
        ⟨some 29,.call 112 [(.tmp 28),(.cst (.d (.int .i64 0))),(.cst (.d (.int .i64 7)))],none⟩,
        ⟨some 5,.mov (.tmp 29),none⟩])
       (.seq
        (.reg [] [⟨some 30,.mov (.tmp 5),none⟩,
         ⟨some 31,.cmp .neq (.tmp 30) (.cst (.d (.int .i64 0))),none⟩])
        (.cond (.tmp 31)
        (.seq
         (.reg [] [⟨some 32,.mov (.tmp 5),none⟩,
          ⟨some 2,.mov (.tmp 32),none⟩])
         .ret)
        .skip))))
      (.reg [] [⟨some 23,.mov (.tmp 4),none⟩,
       ⟨some 24,.arith .add .i64 (.tmp 23) (.cst (.d (.int .i64 1))),none⟩,
       ⟨some 4,.mov (.tmp 24),none⟩])))))))))
  (.seq
   (.reg [] [⟨some 2,.mov (.cst (.d (.int .i64 0))),none⟩])
   .ret))))⟩
theorem iss_step {l:List (List Int)} {k:Nat} {x:List Int} (h:l[k]?=some x):iss (l.take (k+1))=iss (l.take k)++[Vc.Data.slice 1 (ints x)]:=by
 rw [take_one h]; unfold iss; rw [List.map_append]; rfl
theorem c38 (l:List (List Int)) (hl:l.length≤1048576) (hb:∀ o∈l,o.length≤1048576):CallDet Tryz.prog 38 [.d (.slice 1 (iss l))] [.slice 1 (iss l)]:=by
 have hll:=iss_len l
 refine call_of_vc (x:=jr38) (by kernel_rfl) rfl ?_
 refine loop_st (fun k:Nat=>⟨[(3,.sl 3 (iss (l.take k)).length),(6,.d (.slice 1 (iss l))),(7,.d (.int .i64 ((iss l).length:Int))),(8,.d (.int .i64 k))],[.none,.none,.none,.row 28 1 (iss (l.take k)) false]⟩) (fun k=>k≤l.length) (fun k=>l.length - k) 0 rfl (Nat.zero_le _) ?_
 intro k hk
 have hk:k≤l.length:=hk
 have hlk:=iss_len (l.take k)
 rw [List.length_take] at hlk
 dsimp only
 by_cases hkn:k < l.length
 ·refine Exists.elim (get_lt l hkn) fun x hx=>?_
  have hx1:=iss_at hx
  have hlx:=ints_len x
  have hbx:=hb x (List.mem_of_getElem? hx)
  have fin:∃ a':Nat,(a'≤l.length∧l.length - a' < l.length - k)∧(⟨[(3,.sl 3 (iss (l.take k)++[Vc.Data.slice 1 (ints x)]).length),(6,.d (.slice 1 (iss l))),(7,.d (.int .i64 ((iss l).length:Int))),(8,.d (.int .i64 ((k:Int)+1)))],[.none,.none,.none,.row 28 1 (iss (l.take k)++[Vc.Data.slice 1 (ints x)]) false]⟩:St)=⟨[(3,.sl 3 (iss (l.take a')).length),(6,.d (.slice 1 (iss l))),(7,.d (.int .i64 ((iss l).length:Int))),(8,.d (.int .i64 (a':Nat)))],[.none,.none,.none,.row 28 1 (iss (l.take a')) false]⟩ :=
   ⟨k+1,⟨by omega,by omega⟩,by rw [iss_step hx]; rfl⟩
  refine sd ?_
  refine b_lt (fun t1=>?_) (fun t1=>?_)
  refine ix_at hx1 ?_ ?_
  (show (0:Int)≤(↑k:Int); omega)
  refine sd ?_
  refine sd ?_
  refine an ?_ ?_
  refine an ?_ ?_
  exact rfl
  refine an ?_ ?_
  exact rfl
  refine an ?_ ?_
  exact rfl
  refine an ?_ ?_
  (show ((0:Nat)+List.length (ints x)) * (8:Nat)≤(2:Nat) ^ (47:Nat); omega)
  (show (0:Nat)+List.length (ints x)≤(2:Nat) ^ (47:Nat); omega)
  refine sd ?_
  refine sd ?_
  refine sd ?_
  refine sd ?_
  refine an ?_ ?_
  refine an ?_ ?_
  exact rfl
  refine an ?_ ?_
  exact rfl
  refine an ?_ ?_
  exact rfl
  refine an ?_ ?_
  (show (List.length (iss (List.take k l))+(1:Nat)) * (24:Nat)≤(2:Nat) ^ (47:Nat); omega)
  (show List.length (iss (List.take k l))+(1:Nat)≤(2:Nat) ^ (47:Nat); omega)
  refine ar_add ?_ ?_
  refine an ?_ ?_
  (show (-9223372036854775808:Int)≤(↑k:Int)+(1:Int); omega)
  (show (↑k:Int)+(1:Int)≤(9223372036854775807:Int); omega)
  rotate_left
  (exfalso; omega)
  all_goals exact fin
 ·have e:l.take k=l:=List.take_of_length_le (by omega)
  rw [e]
  refine sd ?_
  refine b_lt (fun t1=>?_) (fun t1=>?_)
  (exfalso; omega)
  refine sd ?_
  exact rfl
theorem c43 (h:Int) (l:List Int) (hl:l.length≤1048576):CallDet Tryz.prog 43 [.d (.int .i64 h),.d (.slice 1 (ints l))] [.int .i64 (setE h l)]:=by
 have hlen:=ints_len l
 refine call_of_vc (x:=jr43) (by kernel_rfl) rfl ?_
 refine sd ?_
 refine b_intro (fun t=>?_) (fun t=>?_)
 ·show resV [.int .i64 12]=resV [.int .i64 (setE h l)]
  unfold setE
  have t:(((ints l).length:Int)==0)=true:=t
  rw [hlen] at t; rw [t]; rfl
 have t:(((ints l).length:Int)==0)=false:=t
 have e0:setE h l=setGo h (-1) l:=by unfold setE; rw [hlen] at t; rw [t]; rfl
 rw [e0]
 clear t e0
 refine loop_st (fun k:Nat=>⟨[(0,.d (.int .i64 h)),(1,.d (.slice 1 (ints l))),(5,.d (.int .i64 k))],[.none]⟩) (fun k=>k≤l.length∧setGo h (-1) l=setGo h (lastN l k) (l.drop k)) (fun k=>l.length - k) 0 rfl ⟨Nat.zero_le _,rfl⟩ ?_
 rintro k ⟨hk,hi⟩
 dsimp only
 by_cases hkn:k < l.length
 ·refine Exists.elim (get_lt l hkn) fun x hx=>?_
  have hx1:=ints_get hx
  have hls:=lastN_succ hx
  rw [drop_at hx,setGo] at hi
  have fin:(decide (x < 0)||decide (h≤x))=false→decide (x≤lastN l k)=false→∃ a':Nat,((a'≤l.length∧setGo h (-1) l=setGo h (lastN l a') (l.drop a'))∧l.length - a' < l.length - k)∧(⟨[(0,.d (.int .i64 h)),(1,.d (.slice 1 (ints l))),(5,.d (.int .i64 ((k:Int)+1)))],[.none]⟩:St)=⟨[(0,.d (.int .i64 h)),(1,.d (.slice 1 (ints l))),(5,.d (.int .i64 (a':Nat)))],[.none]⟩:=fun h1 h2 =>
   ⟨k+1,⟨⟨by omega,by rw [hi,h1,h2,hls]; rfl⟩,by omega⟩,rfl⟩
  by_cases hk0:k=0
  ·subst hk0
   have hi:setGo h (-1) l=bif decide (x < 0)||decide (h≤x) then 10 else bif decide (x≤-1) then 11 else setGo h x (l.drop 1):=hi
   have fin:(decide (x < 0)||decide (h≤x))=false→decide (x≤-1)=false→_:=fin
   refine sd ?_
   refine b_lt (fun t1=>?_) (fun t1=>?_)
   refine ix_at hx1 ?_ ?_
   (show (0:Int)≤(↑(0:Nat):Int); omega)
   refine sd ?_
   refine b_lt (fun t2=>?_) (fun t2=>?_)
   refine sd ?_
   refine ca (c22 _ _) ?_
   refine sd ?_
   refine sd ?_
   refine ca (c22 _ _) ?_
   refine sd ?_
   refine sd ?_
   refine ca (c110 [(10:Int),(0:Int)] (by simp)) ?_
   refine sd ?_
   rotate_left
   refine ix_at hx1 ?_ ?_
   (show (0:Int)≤(↑(0:Nat):Int); omega)
   refine sd ?_
   refine ca (c22 _ _) ?_
   refine sd ?_
   refine sd ?_
   refine ca (c22 _ _) ?_
   refine sd ?_
   refine sd ?_
   refine ca (c110 [bif decide (h≤x) then (10:Int) else (0:Int),(0:Int)] (by simp)) ?_
   refine sd ?_
   refine b_ne (fun t3=>?_) (fun t3=>?_)
   rotate_left
   refine ar_add ?_ ?_
   refine an ?_ ?_
   (show (-9223372036854775808:Int)≤(↑(0:Nat):Int)+(1:Int); omega)
   (show (↑(0:Nat):Int)+(1:Int)≤(9223372036854775807:Int); omega)
   rotate_left
   (exfalso; omega)
   ·rw [hi,decide_eq_true t2]; rfl
   ·rw [hi,decide_eq_false t2]
    revert t3
    cases decide (h≤x) <;> intro t3 <;> first | rfl | exact absurd rfl t3
   ·rw [decide_eq_false t2] at fin
    have hn:decide (x≤-1)=false:=decide_eq_false (by omega)
    revert t3 fin
    cases decide (h≤x) <;> intro fin t3 <;> first | exact fin rfl hn | exact absurd t3 (by decide)
  ·have hj:k - 1 < l.length:=by omega
   have hy:∃ y,l[k - 1]?=some y∧lastN l k=y:=by
    refine ⟨l[k - 1],List.getElem?_eq_getElem hj,?_⟩
    have:lastN l ((k - 1)+1)=l[k - 1]:=lastN_succ (List.getElem?_eq_getElem hj)
    rw [show k - 1+1=k by omega] at this
    exact this
   refine Exists.elim hy fun y hy=>?_
   have hy1:(ints l)[(max (0:Int) ((k:Int) - 1)).toNat]?=some (.int .i64 y):=by
    rw [show (max (0:Int) ((k:Int) - 1)).toNat=k - 1 by omega]; exact ints_get hy.1
   rw [hy.2] at hi fin
   have hk1:(0:Int) < (k:Int):=by omega
   refine sd ?_
   refine b_lt (fun t1=>?_) (fun t1=>?_)
   refine ix_at hx1 ?_ ?_
   (show (0:Int)≤(↑k:Int); omega)
   refine sd ?_
   refine b_lt (fun t2=>?_) (fun t2=>?_)
   refine sd ?_
   refine ca (c22 _ _) ?_
   refine sd ?_
   refine b_lt (fun t3=>?_) (fun t3=>?_)
   refine ix_at hx1 ?_ ?_
   (show (0:Int)≤(↑k:Int); omega)
   refine ar_sub ?_ ?_
   refine an ?_ ?_
   (show (-9223372036854775808:Int)≤(↑k:Int) - (1:Int); omega)
   (show (↑k:Int) - (1:Int)≤(9223372036854775807:Int); omega)
   refine sd ?_
   refine ix_at hy1 ?_ ?_
   (show (0:Int)≤max (0:Int) ((↑k:Int) - (1:Int)); omega)
   refine sd ?_
   refine ca (c22 _ _) ?_
   refine sd ?_
   refine sd ?_
   refine ca (c110 [(10:Int),bif decide (x≤y) then (11:Int) else (0:Int)] (by simp)) ?_
   refine sd ?_
   rotate_left
   (exfalso; omega)
   refine ix_at hx1 ?_ ?_
   (show (0:Int)≤(↑k:Int); omega)
   refine sd ?_
   refine ca (c22 _ _) ?_
   refine sd ?_
   refine b_lt (fun t4=>?_) (fun t4=>?_)
   refine ix_at hx1 ?_ ?_
   (show (0:Int)≤(↑k:Int); omega)
   refine ar_sub ?_ ?_
   refine an ?_ ?_
   (show (-9223372036854775808:Int)≤(↑k:Int) - (1:Int); omega)
   (show (↑k:Int) - (1:Int)≤(9223372036854775807:Int); omega)
   refine sd ?_
   refine ix_at hy1 ?_ ?_
   (show (0:Int)≤max (0:Int) ((↑k:Int) - (1:Int)); omega)
   refine sd ?_
   refine ca (c22 _ _) ?_
   refine sd ?_
   refine sd ?_
   refine ca (c110 [bif decide (h≤x) then (10:Int) else (0:Int),bif decide (x≤y) then (11:Int) else (0:Int)] (by simp)) ?_
   refine sd ?_
   refine b_ne (fun t5=>?_) (fun t5=>?_)
   rotate_left
   refine ar_add ?_ ?_
   refine an ?_ ?_
   (show (-9223372036854775808:Int)≤(↑k:Int)+(1:Int); omega)
   (show (↑k:Int)+(1:Int)≤(9223372036854775807:Int); omega)
   rotate_left
   (exfalso; omega)
   (exfalso; omega)
   ·rw [hi,decide_eq_true t2]; rfl
   ·rw [hi,decide_eq_false t2]
    revert t5
    cases decide (h≤x) <;> cases decide (x≤y) <;> intro t3 <;> first | rfl | exact absurd rfl t3
   ·rw [decide_eq_false t2] at fin
    revert t5 fin
    cases decide (h≤x) <;> cases decide (x≤y) <;> intro fin t3 <;> first | exact fin rfl rfl | exact absurd t3 (by decide)
 ·have e:l.drop k=[]:=List.drop_eq_nil_of_le (by omega)
  rw [e] at hi
  rw [hi]
  refine sd ?_
  refine b_lt (fun t1=>?_) (fun t1=>?_)
  (exfalso; omega)
  exact rfl
def setsE (h:Int) (l:List (List Int)):Int:=bif decide ((16:Int) < (l.length:Int)) then 5 else firstOf (l.map (setE h))
theorem c42 (h:Int) (l:List (List Int)) (hl:l.length≤1048576) (hb:∀ o∈l,o.length≤1048576):CallDet Tryz.prog 42 [.d (.int .i64 h),.d (.slice 1 (iss l))] [.int .i64 (setsE h l)]:=by
 have hll:=iss_len l
 refine call_of_vc (x:=jr42) (by kernel_rfl) rfl ?_
 refine sd ?_
 refine b_intro (fun t=>?_) (fun t=>?_)
 ·have t:decide ((16:Int) < ((iss l).length:Int))=true:=t
  show resV [.int .i64 5]=resV [.int .i64 (setsE h l)]
  unfold setsE
  rw [hll] at t; rw [t]; rfl
 have t:decide ((16:Int) < ((iss l).length:Int))=false:=t
 have e0:setsE h l=firstOf (l.map (setE h)):=by unfold setsE; rw [hll] at t; rw [t]; rfl
 rw [e0]
 clear t e0
 refine loop_st (fun k:Nat=>⟨[(0,.d (.int .i64 h)),(1,.d (.slice 1 (iss l))),(5,.d (.int .i64 k))],[]⟩) (fun k=>k≤l.length∧firstOf (l.map (setE h))=firstOf ((l.drop k).map (setE h))) (fun k=>l.length - k) 0 rfl ⟨Nat.zero_le _,rfl⟩ ?_
 rintro k ⟨hk,hi⟩
 dsimp only
 by_cases hkn:k < l.length
 ·refine Exists.elim (get_lt l hkn) fun x hx=>?_
  have hx1:=iss_at hx
  rw [drop_at hx,List.map_cons,firstOf] at hi
  have fin:(setE h x != 0)=false→∃ a':Nat,((a'≤l.length∧firstOf (l.map (setE h))=firstOf ((l.drop a').map (setE h)))∧l.length - a' < l.length - k)∧(⟨[(0,.d (.int .i64 h)),(1,.d (.slice 1 (iss l))),(5,.d (.int .i64 ((k:Int)+1)))],[]⟩:St)=⟨[(0,.d (.int .i64 h)),(1,.d (.slice 1 (iss l))),(5,.d (.int .i64 (a':Nat)))],[]⟩:=fun h1 =>
   ⟨k+1,⟨⟨by omega,by rw [hi,h1]; rfl⟩,by omega⟩,rfl⟩
  refine sd ?_
  refine b_lt (fun t1=>?_) (fun t1=>?_)
  refine ix_at hx1 ?_ ?_
  (show (0:Int)≤(↑k:Int); omega)
  refine ca (c43 h x (hb x (List.mem_of_getElem? hx))) ?_
  refine sd ?_
  refine b_ne (fun t2=>?_) (fun t2=>?_)
  rotate_left
  refine ar_add ?_ ?_
  refine an ?_ ?_
  (show (-9223372036854775808:Int)≤(↑k:Int)+(1:Int); omega)
  (show (↑k:Int)+(1:Int)≤(9223372036854775807:Int); omega)
  rotate_left
  (exfalso; omega)
  ·rw [hi,nz_t t2]; rfl
  ·exact fin (nz_f t2)
 ·have e:l.drop k=[]:=List.drop_eq_nil_of_le (by omega)
  rw [e] at hi
  rw [hi]
  refine sd ?_
  refine b_lt (fun t1=>?_) (fun t1=>?_)
  (exfalso; omega)
  exact rfl
def usesE (u:List Int):Int:=bif sumA u != 0 then sumA u else firstOf (u.map fun x=>within3 x 0 7)
theorem c44 (u:List Int) (hu:u.length≤1048576):CallDet Tryz.prog 44 [.d (.slice 1 (ints u))] [.int .i64 (usesE u)]:=by
 have hlu:=ints_len u
 have c110_:CallDet Tryz.prog 110 [.d (.slice 1 [.int .i64 (bif ((ints u).length:Int)==0 then 12 else 0),.int .i64 (bif decide ((5:Int) < ((ints u).length:Int)) then 5 else 0)])] [.int .i64 (sumA u)]:=by
  rw [hlu]; exact c110 [bif (u.length:Int)==0 then 12 else 0,bif decide ((5:Int) < (u.length:Int)) then 5 else 0] (by simp)
 refine call_of_vc (x:=jr44) (by kernel_rfl) rfl ?_
 refine sd ?_
 refine ca (c22 _ _) ?_
 refine sd ?_
 refine ca (c22 _ _) ?_
 refine sd ?_
 refine sd ?_
 refine ca c110_ ?_
 refine sd ?_
 refine b_ne (fun t1=>?_) (fun t1=>?_)
 rotate_left
 rotate_left
 ·show resV [.int .i64 (sumA u)]=resV [.int .i64 (usesE u)]
  rw [show usesE u=sumA u from orE_a t1]
 rw [show usesE u=firstOf (u.map fun x=>within3 x 0 7) from orE_b t1]
 refine loop_st (fun k:Nat=>⟨[(0,.d (.slice 1 (ints u))),(4,.d (.int .i64 k))],[.none]⟩) (fun k=>k≤u.length∧firstOf (u.map fun x=>within3 x 0 7)=firstOf ((u.drop k).map fun x=>within3 x 0 7)) (fun k=>u.length - k) 0 rfl ⟨Nat.zero_le _,rfl⟩ ?_
 rintro k ⟨hk,hi⟩
 dsimp only
 by_cases hkn:k < u.length
 ·refine Exists.elim (get_lt u hkn) fun x hx=>?_
  have hx1:=ints_get hx
  rw [drop_at hx,List.map_cons,firstOf] at hi
  have fin:(within3 x 0 7 != 0)=false→∃ a':Nat,((a'≤u.length∧firstOf (u.map fun x=>within3 x 0 7)=firstOf ((u.drop a').map fun x=>within3 x 0 7))∧u.length - a' < u.length - k)∧(⟨[(0,.d (.slice 1 (ints u))),(4,.d (.int .i64 ((k:Int)+1)))],[.none]⟩:St)=⟨[(0,.d (.slice 1 (ints u))),(4,.d (.int .i64 (a':Nat)))],[.none]⟩:=fun h1 =>
   ⟨k+1,⟨⟨by omega,by rw [hi,h1]; rfl⟩,by omega⟩,rfl⟩
  refine sd ?_
  refine b_lt (fun t2=>?_) (fun t2=>?_)
  refine ix_at hx1 ?_ ?_
  (show (0:Int)≤(↑k:Int); omega)
  refine ca (c112 _ _ _) ?_
  refine sd ?_
  refine b_ne (fun t3=>?_) (fun t3=>?_)
  rotate_left
  refine ar_add ?_ ?_
  refine an ?_ ?_
  (show (-9223372036854775808:Int)≤(↑k:Int)+(1:Int); omega)
  (show (↑k:Int)+(1:Int)≤(9223372036854775807:Int); omega)
  rotate_left
  (exfalso; omega)
  ·rw [hi,nz_t t3]; rfl
  ·exact fin (nz_f t3)
 ·have e:u.drop k=[]:=List.drop_eq_nil_of_le (by omega)
  rw [e] at hi
  rw [hi]
  refine sd ?_
  refine b_lt (fun t2=>?_) (fun t2=>?_)
  (exfalso; omega)
  exact rfl
theorem xorN_rng (a b:List Int):∀ k,0≤xorN a b k∧xorN a b k≤(k:Int)
 | 0=>⟨Int.le_refl _,Int.le_refl _⟩
 | k+1=>by
  have:=xorN_rng a b k
  rw [xorN]
  cases a.contains (k:Int) != b.contains (k:Int)
  ·show 0≤xorN a b k+0∧xorN a b k+0≤_; omega
  ·show 0≤xorN a b k+1∧xorN a b k+1≤_; omega
end Vc
set_option maxRecDepth 10000
set_option maxHeartbeats 4000000
namespace Vc
open Go Go.Proofs
def ivs (l:List (Int × Int)):List Data:=l.map fun x=>.agg [.int .i64 x.1,.int .i64 x.2]
theorem ivs_len (l:List (Int × Int)):(ivs l).length=l.length:=List.length_map _
theorem ivs_at {l:List (Int × Int)} {k:Nat} {x:Int × Int} (h:l[k]?=some x):(ivs l)[((k:Int)).toNat]?=some (.agg [.int .i64 x.1,.int .i64 x.2]):=by
 show (l.map _)[k]?=_
 rw [List.getElem?_map,h]; rfl
def cI (x:Int × Int):Int:=firstOf [within3 x.1 0 1000000000,within3 x.2 0 1000000000,bif decide (x.2 < x.1) then 11 else 0]
theorem cI_ok {x:Int × Int} (h:cI x=0):(0≤x.1∧x.1≤1000000000)∧(0≤x.2∧x.2≤1000000000) :=
 ⟨within_ok (firstOf_zero h _ (by simp)),within_ok (firstOf_zero h (within3 x.2 0 1000000000) (by simp))⟩
def balA (f:Int × Int) (l:List (Int × Int)):Int:=firstOf [cI f,bif decide ((256:Int) < (l.length:Int)) then 5 else 0]
def balE (f:Int × Int) (l:List (Int × Int)):Int:=bif balA f l != 0 then balA f l else firstOf (l.map cI)
def metE (l:List (Int × Int)):Int:=bif decide ((256:Int) < (l.length:Int)) then 5 else firstOf (l.map cI)
theorem balE_eq (f:Int × Int) (l:List (Int × Int)):balE f l=firstOf [cI f,metE l]:=by
 unfold balE balA metE
 generalize cI f=c
 show (bif firstOf [c,_] != 0 then firstOf [c,_] else _)=bif c != 0 then c else (bif (bif _ then 5 else _) != 0 then _ else 0)
 by_cases hc:c=0
 ·subst hc
  cases decide ((256:Int) < (l.length:Int))
  ·show firstOf (l.map cI)=bif firstOf (l.map cI) != 0 then firstOf (l.map cI) else 0
   cases h:(firstOf (l.map cI) != 0)
   ·rw [show firstOf (l.map cI)=0 by simpa using h]; rfl
   ·rfl
  ·rfl
 ·have e:∀ r,firstOf (c::r)=c:=fun r=>by show (bif c != 0 then c else _)=c; rw [bne_iff_ne.2 hc]; rfl
  rw [e,bne_iff_ne.2 hc]; rfl
theorem bal_ok {f:Int × Int} {l:List (Int × Int)} (h:balE f l=0):cI f=0∧l.length≤256∧∀ x∈l,cI x=0:=by
 unfold balE at h
 by_cases ha:balA f l=0
 ·rw [ha] at h
  have h1:=firstOf_zero ha
  refine ⟨h1 _ (by simp),?_,fun x hx=>firstOf_zero (show firstOf (l.map cI)=0 from h) _ (List.mem_map.2 ⟨x,hx,rfl⟩)⟩
  have h2:=h1 (bif decide ((256:Int) < (l.length:Int)) then 5 else 0) (by simp)
  by_cases hl:(256:Int) < (l.length:Int)
  ·rw [decide_eq_true hl] at h2; exact absurd (show (5:Int)=0 from h2) (by decide)
  ·omega
 ·rw [bne_iff_ne.2 ha] at h; exact absurd h ha
def balG:List (Int × Int)→Int × Int→Int × Int
 | [],b=>b
 | x::r,b=>balG r (b.1 - x.2,b.2 - x.1)
def verd (x:Int × Int):Int:=bif decide (0 < x.1) then 1 else bif decide (x.2 < 0) then -1 else 0
def balV (f:Int × Int) (l:List (Int × Int)):Int × Int:=bif balE f l != 0 then (0,0) else balG l f
def jr136:AFun:=⟨17,2,[.tmp 2],
 (.seq
 (.reg [0] [⟨some 1,.cbx 0 2 (.tmp 0),none⟩,
  ⟨some 2,.mov (.cst (.d (.int .i64 0))),none⟩])
 (.seq
  (.regd [1] [⟨some 3,.fad 0 (.tmp 1),none⟩,
   ⟨some 4,.ld false 1 (.tmp 3),none⟩,
   ⟨some 5,.call 122 [(.tmp 4),(.cst (.d (.int .i64 0))),(.cst (.d (.int .i64 1000000000)))],none⟩,
   ⟨some 6,.fad 1 (.tmp 1),none⟩,
   ⟨some 7,.ld false 1 (.tmp 6),none⟩,
   ⟨some 8,.call 122 [(.tmp 7),(.cst (.d (.int .i64 0))),(.cst (.d (.int .i64 1000000000)))],none⟩,
   ⟨some 9,.fad 0 (.tmp 1),none⟩,
   ⟨some 10,.ld false 1 (.tmp 9),none⟩,
   ⟨some 11,.fad 1 (.tmp 1),none⟩,
   ⟨some 12,.ld false 1 (.tmp 11),none⟩,
   ⟨some 13,.cmp .gtr (.tmp 10) (.tmp 12),none⟩,
   ⟨some 14,.call 103 [(.tmp 13),(.cst (.d (.int .i64 11)))],none⟩,
   ⟨some 15,.bsl 1 32 1 3 [(.int .i64 0),(.int .i64 0),(.int .i64 0)] [(0,(.tmp 5)),(1,(.tmp 8)),(2,(.tmp 14))],none⟩,
   ⟨some 16,.call 99 [(.tmp 15)],none⟩,
   ⟨some 2,.mov (.tmp 16),none⟩] [(0,3),(1,3),(2,3),(0,4),(1,4),(2,4),(0,6),(1,6),(2,6),(3,6),(4,6),(5,6),(0,7),(1,7),(2,7),(3,7),(4,7),(5,7),(0,8),(1,8),(2,8),(3,8),(4,8),(5,8),(6,8),(7,8),(0,9),(1,9),(2,9),(3,9),(4,9),(5,9),(6,9),(7,9),(0,10),(1,10),(2,10),(3,10),(4,10),(5,10)])
  .ret))⟩
def jr137:AFun:=⟨22,3,[.tmp 4],
 (.seq
 (.reg [] [⟨some 4,.mov (.cst (.nils 1)),none⟩])
 (.seq
  (.reg [] [⟨some 5,.mov (.cst (.nils 1)),none⟩])
  (.seq
  (.seq
   (.reg [] [⟨some 8,.mov (.tmp 0),none⟩,
    ⟨some 9,.len (.tmp 8),none⟩,
    ⟨some 10,.mov (.cst (.d (.int .i64 0))),none⟩])
   (.post [5] [0,1,2]
   (.block 0
    (.asrow 2 32 1 5
    (.keep [1,5,8,9,10] []
     (.loop
     (.post [1,5,8,9,10] [0,1,2]
      (.seq
      (.reg [] [⟨some 11,.cmp .lss (.tmp 10) (.tmp 9),none⟩])
      (.seq
       (.cond (.tmp 11)
       .skip
       (.exit 0))
       (.seq
       (.block 1
        (.seq
        (.reg [0] [⟨some 12,.ixa 2 (.tmp 8) (.tmp 10),none⟩,
         ⟨some 13,.ld true 2 (.tmp 12),none⟩,
         ⟨some 7,.alloc 0 [(.d (.int .i64 0)),(.d (.int .i64 0))],none⟩,
         ⟨none,.st 2 (.tmp 7) (.tmp 13),none⟩])
        (.reg [1,2] [⟨some 14,.mov (.tmp 5),none⟩,
         ⟨some 15,.mov (.tmp 1),none⟩,
         ⟨some 16,.ld true 2 (.tmp 7),none⟩,
         ⟨some 17,.callv (.tmp 15) [(.tmp 16)],none⟩,
         ⟨some 18,.bsl 1 32 1 1 [(.int .i64 0)] [(0,(.tmp 17))],none⟩,
         ⟨some 19,.app 2 32 1 8 (.tmp 14) (.tmp 18),none⟩,
         ⟨some 5,.mov (.tmp 19),none⟩])))
       (.reg [] [⟨some 20,.arith .add .i64 (.tmp 10) (.cst (.d (.int .i64 1))),none⟩,
        ⟨some 10,.mov (.tmp 20),none⟩])))))))))))
  (.seq
   (.reg [] [⟨some 21,.mov (.tmp 5),none⟩,
    ⟨some 4,.mov (.tmp 21),none⟩])
   .ret))))⟩
def jr51:AFun:=⟨51,5,[.cell 4 2 true,.tmp 5],
 (.seq
 (.reg [0,1] [⟨some 2,.cbx 0 2 (.tmp 0),none⟩,
  ⟨some 4,.alloc 1 [(.d (.int .i64 0)),(.d (.int .i64 0))],none⟩,
  ⟨some 5,.mov (.cst (.d (.int .i64 0))),none⟩])
 (.seq
  (.seq
  (.reg [2] [⟨some 11,.ld true 2 (.tmp 2),none⟩,
   ⟨some 12,.call 136 [(.tmp 11)],none⟩,
   ⟨some 13,.mov (.tmp 1),none⟩,
   ⟨some 14,.len (.tmp 13),none⟩,
   ⟨some 15,.cmp .gtr (.tmp 14) (.cst (.d (.int .i64 256))),none⟩,
   ⟨some 16,.call 103 [(.tmp 15),(.cst (.d (.int .i64 5)))],none⟩,
   ⟨some 17,.bsl 2 32 1 2 [(.int .i64 0),(.int .i64 0)] [(0,(.tmp 12)),(1,(.tmp 16))],none⟩,
   ⟨some 18,.call 99 [(.tmp 17)],none⟩,
   ⟨some 6,.mov (.tmp 18),none⟩])
  (.seq
   (.reg [] [⟨some 19,.mov (.tmp 6),none⟩,
    ⟨some 20,.cmp .neq (.tmp 19) (.cst (.d (.int .i64 0))),none⟩])
   (.cond (.tmp 20)
   (.seq
    (.reg [] [⟨some 21,.build [(.d (.int .i64 0)),(.d (.int .i64 0))] [],none⟩,
     ⟨some 22,.mov (.tmp 6),none⟩,
     ⟨none,.st 2 (.tmp 4) (.tmp 21),none⟩,
     ⟨some 5,.mov (.tmp 22),none⟩])
    .ret)
   .skip)))
  (.seq
  (.seq
   (.reg [] [⟨some 23,.mov (.tmp 1),none⟩,
    ⟨some 24,.call 137 [(.tmp 23),(.cst (.d (.fn (.func 136) [])))],none⟩,
    ⟨some 25,.call 99 [(.tmp 24)],none⟩,
    ⟨some 7,.mov (.tmp 25),none⟩])
   (.seq
   (.reg [] [⟨some 26,.mov (.tmp 7),none⟩,
    ⟨some 27,.cmp .neq (.tmp 26) (.cst (.d (.int .i64 0))),none⟩])
   (.cond (.tmp 27)
    (.seq
    (.reg [] [⟨some 28,.build [(.d (.int .i64 0)),(.d (.int .i64 0))] [],none⟩,
     ⟨some 29,.mov (.tmp 7),none⟩,
     ⟨none,.st 2 (.tmp 4) (.tmp 28),none⟩,
     ⟨some 5,.mov (.tmp 29),none⟩])
    .ret)
    .skip)))
  (.seq
   (.reg [3] [⟨some 30,.ld true 2 (.tmp 2),none⟩,
    ⟨some 8,.alloc 3 [(.d (.int .i64 0)),(.d (.int .i64 0))],none⟩,
    ⟨none,.st 2 (.tmp 8) (.tmp 30),none⟩])
   (.seq
   (.seq
    (.reg [] [⟨some 31,.mov (.tmp 1),none⟩,
     ⟨some 32,.len (.tmp 31),none⟩,
     ⟨some 33,.mov (.cst (.d (.int .i64 0))),none⟩])
    (.post [4,8] [0,1,2,3,4]
    (.block 0
     (.keep [4,8,31,32,33] [0,1,2,3]
     (.loop
      (.post [4,8,31,32,33] [4]
      (.seq
       (.reg [] [⟨some 34,.cmp .lss (.tmp 33) (.tmp 32),none⟩])
       (.seq
       (.cond (.tmp 34)
        .skip
        (.exit 0))
       (.seq
        (.block 1
        (.seq
         (.reg [4] [⟨some 35,.ixa 2 (.tmp 31) (.tmp 33),none⟩,
          ⟨some 36,.ld true 2 (.tmp 35),none⟩,
          ⟨some 10,.alloc 4 [(.d (.int .i64 0)),(.d (.int .i64 0))],none⟩,
          ⟨none,.st 2 (.tmp 10) (.tmp 36),none⟩])
         (.seq
         (.reg [] [⟨some 37,.fad 0 (.tmp 8),none⟩,
          ⟨some 38,.ld false 1 (.tmp 37),none⟩,
          ⟨some 39,.fad 1 (.tmp 10),none⟩,
          ⟨some 40,.ld false 1 (.tmp 39),none⟩,
          ⟨some 41,.arith .sub .i64 (.tmp 38) (.tmp 40),none⟩,
          ⟨some 42,.fad 0 (.tmp 8),none⟩,
          ⟨none,.st 1 (.tmp 42) (.tmp 41),none⟩])
         (.reg [] [⟨some 43,.fad 1 (.tmp 8),none⟩,
          ⟨some 44,.ld false 1 (.tmp 43),none⟩,
          ⟨some 45,.fad 0 (.tmp 10),none⟩,
          ⟨some 46,.ld false 1 (.tmp 45),none⟩,
          ⟨some 47,.arith .sub .i64 (.tmp 44) (.tmp 46),none⟩,
          ⟨some 48,.fad 1 (.tmp 8),none⟩,
          ⟨none,.st 1 (.tmp 48) (.tmp 47),none⟩]))))
        (.reg [] [⟨some 49,.arith .add .i64 (.tmp 33) (.cst (.d (.int .i64 1))),none⟩,
         ⟨some 33,.mov (.tmp 49),none⟩]))))))))))
   (.seq
    (.reg [] [⟨some 50,.ld true 2 (.tmp 8),none⟩,
     ⟨none,.st 2 (.tmp 4) (.tmp 50),none⟩,
     ⟨some 5,.mov (.cst (.d (.int .i64 0))),none⟩])
    .ret))))))⟩
def jr53:AFun:=⟨26,2,[.tmp 4,.tmp 5],
 (.seq
 (.reg [0] [⟨some 2,.cbx 0 2 (.tmp 0),none⟩,
  ⟨some 4,.mov (.cst (.d (.int .i64 0))),none⟩,
  ⟨some 5,.mov (.cst (.d (.int .i64 0))),none⟩])
 (.seq
  (.reg [1] [⟨some 9,.ld true 2 (.tmp 2),none⟩,
   ⟨some 10,.mov (.tmp 1),none⟩,
   ⟨some 11,.call 51 [(.tmp 9),(.tmp 10)],none⟩,
   ⟨some 8,.mov (.tmp 11),none⟩,
   ⟨some 12,.ext 0 (.tmp 8),none⟩,
   ⟨some 13,.ext 1 (.tmp 8),none⟩,
   ⟨some 6,.alloc 1 [(.d (.int .i64 0)),(.d (.int .i64 0))],none⟩,
   ⟨none,.st 2 (.tmp 6) (.tmp 12),none⟩,
   ⟨some 7,.mov (.tmp 13),none⟩])
  (.seq
  (.block 0
   (.seq
   (.reg [] [⟨some 15,.mov (.tmp 7),none⟩,
    ⟨some 16,.cmp .neq (.tmp 15) (.cst (.d (.int .i64 0))),none⟩,
    ⟨some 14,.mov (.tmp 16),none⟩])
   (.cond (.tmp 14)
    (.seq
    (.reg [] [⟨some 17,.mov (.tmp 7),none⟩,
     ⟨some 4,.mov (.cst (.d (.int .i64 0))),none⟩,
     ⟨some 5,.mov (.tmp 17),none⟩])
    .ret)
    (.seq
    (.reg [] [⟨some 19,.fad 0 (.tmp 6),none⟩,
     ⟨some 20,.ld false 1 (.tmp 19),none⟩,
     ⟨some 21,.cmp .gtr (.tmp 20) (.cst (.d (.int .i64 0))),none⟩,
     ⟨some 18,.mov (.tmp 21),none⟩])
    (.cond (.tmp 18)
     (.seq
     (.reg [] [⟨some 4,.mov (.cst (.d (.int .i64 1))),none⟩,
      ⟨some 5,.mov (.cst (.d (.int .i64 0))),none⟩])
     .ret)
     (.seq
     (.reg [] [⟨some 23,.fad 1 (.tmp 6),none⟩,
      ⟨some 24,.ld false 1 (.tmp 23),none⟩,
      ⟨some 25,.cmp .lss (.tmp 24) (.cst (.d (.int .i64 0))),none⟩,
      ⟨some 22,.mov (.tmp 25),none⟩])
     (.cond (.tmp 22)
      (.seq
      (.reg [] [⟨some 4,.mov (.cst (.d (.int .i64 (-1)))),none⟩,
       ⟨some 5,.mov (.cst (.d (.int .i64 0))),none⟩])
      .ret)
      .skip)))))))
  (.seq
   (.reg [] [⟨some 4,.mov (.cst (.d (.int .i64 0))),none⟩,
    ⟨some 5,.mov (.cst (.d (.int .i64 0))),none⟩])
   .ret))))⟩
def jr52:AFun:=⟨6,2,[.tmp 2],
 (.seq
 (.reg [] [⟨some 2,.mov (.cst (.nils 2)),none⟩])
 (.seq
  (.reg [0,1] [⟨some 3,.bsl 0 84 2 0 [] [],none⟩,
   ⟨some 4,.mov (.tmp 0),none⟩,
   ⟨some 5,.app 1 84 2 16 (.tmp 3) (.tmp 4),none⟩,
   ⟨some 2,.mov (.tmp 5),none⟩])
  .ret))⟩
def jr57:AFun:=⟨17,2,[.tmp 2],
 (.seq
 (.reg [0] [⟨some 1,.cbx 0 2 (.tmp 0),none⟩,
  ⟨some 2,.mov (.cst (.d (.int .i64 0))),none⟩])
 (.seq
  (.regd [1] [⟨some 3,.fad 0 (.tmp 1),none⟩,
   ⟨some 4,.ld false 1 (.tmp 3),none⟩,
   ⟨some 5,.call 112 [(.tmp 4),(.cst (.d (.int .i64 0))),(.cst (.d (.int .i64 1000000000)))],none⟩,
   ⟨some 6,.fad 1 (.tmp 1),none⟩,
   ⟨some 7,.ld false 1 (.tmp 6),none⟩,
   ⟨some 8,.call 112 [(.tmp 7),(.cst (.d (.int .i64 0))),(.cst (.d (.int .i64 1000000000)))],none⟩,
   ⟨some 9,.fad 0 (.tmp 1),none⟩,
   ⟨some 10,.ld false 1 (.tmp 9),none⟩,
   ⟨some 11,.fad 1 (.tmp 1),none⟩,
   ⟨some 12,.ld false 1 (.tmp 11),none⟩,
   ⟨some 13,.cmp .gtr (.tmp 10) (.tmp 12),none⟩,
   ⟨some 14,.call 22 [(.tmp 13),(.cst (.d (.int .i64 11)))],none⟩,
   ⟨some 15,.bsl 1 3 1 3 [(.int .i64 0),(.int .i64 0),(.int .i64 0)] [(0,(.tmp 5)),(1,(.tmp 8)),(2,(.tmp 14))],none⟩,
   ⟨some 16,.call 110 [(.tmp 15)],none⟩,
   ⟨some 2,.mov (.tmp 16),none⟩] [(0,3),(1,3),(2,3),(0,4),(1,4),(2,4),(0,6),(1,6),(2,6),(3,6),(4,6),(5,6),(0,7),(1,7),(2,7),(3,7),(4,7),(5,7),(0,8),(1,8),(2,8),(3,8),(4,8),(5,8),(6,8),(7,8),(0,9),(1,9),(2,9),(3,9),(4,9),(5,9),(6,9),(7,9),(0,10),(1,10),(2,10),(3,10),(4,10),(5,10)])
  .ret))⟩
def jr58:AFun:=⟨22,0,[.tmp 2],
 (.seq
 (.reg [] [⟨some 2,.mov (.cst (.d (.int .i64 0))),none⟩])
 (.seq
  (.seq
  (.reg [] [⟨some 5,.mov (.tmp 0),none⟩,
   ⟨some 6,.len (.tmp 5),none⟩,
   ⟨some 7,.cmp .gtr (.tmp 6) (.cst (.d (.int .i64 256))),none⟩])
  (.cond (.tmp 7)
   (.seq
   (.reg [] [⟨some 2,.mov (.cst (.d (.int .i64 5))),none⟩])
   .ret)
   .skip))
  (.seq
  (.seq
   (.reg [] [⟨some 3,.mov (.cst (.d (.int .i64 0))),none⟩])
   (.post [] []
   (.block 0
    (.keep [0,3] []
    (.loop
     (.post [0,3] []
     (.seq
      (.seq
      (.reg [] [⟨some 8,.mov (.tmp 3),none⟩,
       ⟨some 9,.mov (.tmp 0),none⟩,
       ⟨some 10,.len (.tmp 9),none⟩,
       ⟨some 11,.cmp .lss (.tmp 8) (.tmp 10),none⟩])
      (.cond (.tmp 11)
       .skip
       (.exit 0)))
      (.seq
      (.block 1
       (.seq
       (.reg [] [⟨some 14,.mov (.tmp 0),none⟩,
        ⟨some 15,.mov (.tmp 3),none⟩,
        ⟨some 16,.ixa 2 (.tmp 14) (.tmp 15),none⟩,
        ⟨some 17,.ld true 2 (.tmp 16),none⟩,
        ⟨some 18,.call 57 [(.tmp 17)],none⟩,
        ⟨some 4,.mov (.tmp 18),none⟩])
       (.seq
        (.reg [] [⟨some 19,.mov (.tmp 4),none⟩,
         ⟨some 20,.cmp .neq (.tmp 19) (.cst (.d (.int .i64 0))),none⟩])
        (.cond (.tmp 20)
        (.seq
         (.reg [] [⟨some 21,.mov (.tmp 4),none⟩,
          ⟨some 2,.mov (.tmp 21),none⟩])
         .ret)
        .skip))))
      (.reg [] [⟨some 12,.mov (.tmp 3),none⟩,
       ⟨some 13,.arith .add .i64 (.tmp 12) (.cst (.d (.int .i64 1))),none⟩,
       ⟨some 3,.mov (.tmp 13),none⟩])))))))))
  (.seq
   (.reg [] [⟨some 2,.mov (.cst (.d (.int .i64 0))),none⟩])
   .ret))))⟩
def jr63:AFun:=⟨26,0,[.tmp 4],
 (.seq
 (.reg [] [⟨some 4,.mov (.cst (.d (.bool false))),none⟩])
 (.seq
  (.seq
  (.reg [] [⟨some 6,.mov (.tmp 0),none⟩,
   ⟨some 7,.len (.tmp 6),none⟩,
   ⟨some 8,.mov (.tmp 1),none⟩,
   ⟨some 9,.len (.tmp 8),none⟩,
   ⟨some 10,.cmp .neq (.tmp 7) (.tmp 9),none⟩])
  (.cond (.tmp 10)
   (.seq
   (.reg [] [⟨some 4,.mov (.cst (.d (.bool false))),none⟩])
   .ret)
   .skip))
  (.seq
  (.seq
   (.reg [] [⟨some 5,.mov (.cst (.d (.int .i64 0))),none⟩])
   (.post [] []
   (.block 0
    (.keep [0,1,5] []
    (.loop
     (.post [0,1,5] []
     (.seq
      (.seq
      (.reg [] [⟨some 11,.mov (.tmp 5),none⟩,
       ⟨some 12,.mov (.tmp 0),none⟩,
       ⟨some 13,.len (.tmp 12),none⟩,
       ⟨some 14,.cmp .lss (.tmp 11) (.tmp 13),none⟩])
      (.cond (.tmp 14)
       .skip
       (.exit 0)))
      (.seq
      (.block 1
       (.seq
       (.regd [] [⟨some 17,.mov (.tmp 0),none⟩,
        ⟨some 18,.mov (.tmp 5),none⟩,
        ⟨some 19,.ixa 2 (.tmp 17) (.tmp 18),none⟩,
        ⟨some 20,.ld true 2 (.tmp 19),none⟩,
        ⟨some 21,.mov (.tmp 1),none⟩,
        ⟨some 22,.mov (.tmp 5),none⟩,
        ⟨some 23,.ixa 2 (.tmp 21) (.tmp 22),none⟩,
        ⟨some 24,.ld true 2 (.tmp 23),none⟩,
        ⟨some 25,.aeq true [0,0] (.tmp 20) (.tmp 24),none⟩] [(0,1),(0,4),(1,4),(2,4),(3,4),(0,5),(1,5),(2,5),(3,5),(4,5),(0,6),(1,6),(2,6),(3,6),(0,7),(1,7),(2,7),(3,7)])
       (.cond (.tmp 25)
        (.seq
        (.reg [] [⟨some 4,.mov (.cst (.d (.bool false))),none⟩])
        .ret)
        .skip)))
      (.reg [] [⟨some 15,.mov (.tmp 5),none⟩,
       ⟨some 16,.arith .add .i64 (.tmp 15) (.cst (.d (.int .i64 1))),none⟩,
       ⟨some 5,.mov (.tmp 16),none⟩])))))))))
  (.seq
   (.reg [] [⟨some 4,.mov (.cst (.d (.bool true))),none⟩])
   .ret))))⟩
theorem c136 (x:Int × Int):CallDet Tryz.prog 136 [.d (.agg [.int .i64 x.1,.int .i64 x.2])] [.int .i64 (cI x)]:=by
 have c99_:CallDet Tryz.prog 99 [.d (.slice 1 [.int .i64 (within3 x.1 0 1000000000),.int .i64 (within3 x.2 0 1000000000),.int .i64 (bif decide (x.2 < x.1) then 11 else 0)])] [.int .i64 (cI x)]:=c99 [within3 x.1 0 1000000000,within3 x.2 0 1000000000,bif decide (x.2 < x.1) then 11 else 0] (by simp)
 refine call_of_vc (x:=jr136) (by kernel_rfl) rfl ?_
 refine ca (c122 _ _ _) ?_
 refine ca (c122 _ _ _) ?_
 refine sd ?_
 refine ca (c103 _ _) ?_
 refine sd ?_
 refine sd ?_
 refine ca c99_ ?_
 exact rfl
theorem c57 (x:Int × Int):CallDet Tryz.prog 57 [.d (.agg [.int .i64 x.1,.int .i64 x.2])] [.int .i64 (cI x)]:=by
 have c110_:CallDet Tryz.prog 110 [.d (.slice 1 [.int .i64 (within3 x.1 0 1000000000),.int .i64 (within3 x.2 0 1000000000),.int .i64 (bif decide (x.2 < x.1) then 11 else 0)])] [.int .i64 (cI x)]:=c110 [within3 x.1 0 1000000000,within3 x.2 0 1000000000,bif decide (x.2 < x.1) then 11 else 0] (by simp)
 refine call_of_vc (x:=jr57) (by kernel_rfl) rfl ?_
 refine ca (c112 _ _ _) ?_
 refine ca (c112 _ _ _) ?_
 refine sd ?_
 refine ca (c22 _ _) ?_
 refine sd ?_
 refine sd ?_
 refine ca c110_ ?_
 exact rfl
def BI (k:Nat) (b:Int × Int):Prop:=(-(1000000000 * (k:Int))≤b.1∧b.1≤1000000000)∧(-(1000000000 * (k:Int))≤b.2∧b.2≤1000000000)
theorem bi0 {f:Int × Int} (h:cI f=0):BI 0 f:=by have:=cI_ok h; unfold BI; omega
theorem bi_step {k:Nat} {b x:Int × Int} (hb:BI k b) (hx:(0≤x.1∧x.1≤1000000000)∧(0≤x.2∧x.2≤1000000000)):BI (k+1) (b.1 - x.2,b.2 - x.1):=by
 unfold BI at *
 show (-(1000000000 * ((k+1:Nat):Int))≤b.1 - x.2∧b.1 - x.2≤1000000000)∧(-(1000000000 * ((k+1:Nat):Int))≤b.2 - x.1∧b.2 - x.1≤1000000000)
 omega
theorem c137 (l:List (Int × Int)) (hl:l.length≤1048576):CallDet Tryz.prog 137 [.d (.slice 2 (ivs l)),.d (.fn (.func 136) [])] [.slice 1 (ints (l.map cI))]:=by
 have hlen:=ivs_len l
 have hm:(ints (l.map cI)).length=l.length:=by unfold ints; rw [List.length_map,List.length_map]
 refine call_of_vc (x:=jr137) (by kernel_rfl) rfl ?_
 refine loop_st (fun k:Nat=>⟨[(1,.d (.fn (.func 136) [])),(5,.sl 2 (ints ((l.take k).map cI)).length),(8,.d (.slice 2 (ivs l))),(9,.d (.int .i64 ((ivs l).length:Int))),(10,.d (.int .i64 (k:Nat)))],[.none,.none,.row 32 1 (ints ((l.take k).map cI)) false]⟩) (fun k=>k≤l.length) (fun k=>l.length - k) 0 rfl (Nat.zero_le _) ?_
 intro k hk
 have hk:k≤l.length:=hk
 have hb:(ints ((l.take k).map cI)).length=k:=by unfold ints; rw [List.length_map,List.length_map,List.length_take]; omega
 dsimp only
 by_cases hkn:k < l.length
 ·refine Exists.elim (get_lt l hkn) fun x hx=>?_
  have hx1:=ivs_at hx
  have c136_:=c136 x
  have fin:∃ a':Nat,(a'≤l.length∧l.length - a' < l.length - k)∧(⟨[(1,.d (.fn (.func 136) [])),(5,.sl 2 (ints ((l.take k).map cI)++[Data.int .i64 (cI x)]).length),(8,.d (.slice 2 (ivs l))),(9,.d (.int .i64 ((ivs l).length:Int))),(10,.d (.int .i64 ((k:Int)+1)))],[.none,.none,.row 32 1 (ints ((l.take k).map cI)++[Data.int .i64 (cI x)]) false]⟩:St)=⟨[(1,.d (.fn (.func 136) [])),(5,.sl 2 (ints ((l.take a').map cI)).length),(8,.d (.slice 2 (ivs l))),(9,.d (.int .i64 ((ivs l).length:Int))),(10,.d (.int .i64 (a':Nat)))],[.none,.none,.row 32 1 (ints ((l.take a').map cI)) false]⟩ :=
   ⟨k+1,⟨by omega,by omega⟩,by rw [ints_step cI hx]; rfl⟩
  refine sd ?_
  refine b_lt (fun t1=>?_) (fun t1=>?_)
  refine ix_at hx1 ?_ ?_
  (show (0:Int)≤(↑k:Int); omega)
  refine ca c136_ ?_
  refine sd ?_
  refine sd ?_
  refine sd ?_
  refine an ?_ ?_
  refine an ?_ ?_
  exact rfl
  refine an ?_ ?_
  exact rfl
  refine an ?_ ?_
  exact rfl
  refine an ?_ ?_
  (show (List.length (ints (List.map cI (List.take k l)))+(1:Nat)) * (8:Nat)≤(2:Nat) ^ (47:Nat); omega)
  (show List.length (ints (List.map cI (List.take k l)))+(1:Nat)≤(2:Nat) ^ (47:Nat); omega)
  refine ar_add ?_ ?_
  refine an ?_ ?_
  (show (-9223372036854775808:Int)≤(↑k:Int)+(1:Int); omega)
  (show (↑k:Int)+(1:Int)≤(9223372036854775807:Int); omega)
  rotate_left
  (exfalso; omega)
  all_goals exact fin
 ·have e:l.take k=l:=List.take_of_length_le (by omega)
  rw [e]
  refine sd ?_
  refine b_lt (fun t1=>?_) (fun t1=>?_)
  (exfalso; omega)
  refine sd ?_
  exact rfl
theorem c52 (l:List (Int × Int)) (hl:l.length≤1048576):CallDet Tryz.prog 52 [.d (.slice 2 (ivs l))] [.slice 2 (ivs l)]:=by
 have hlen:=ivs_len l
 refine call_of_vc (x:=jr52) (by kernel_rfl) rfl ?_
 refine sd ?_
 refine sd ?_
 refine an ?_ ?_
 refine an ?_ ?_
 exact rfl
 refine an ?_ ?_
 exact rfl
 refine an ?_ ?_
 exact rfl
 refine an ?_ ?_
 (show ((0:Nat)+List.length (ivs l)) * (16:Nat)≤(2:Nat) ^ (47:Nat); omega)
 (show (0:Nat)+List.length (ivs l)≤(2:Nat) ^ (47:Nat); omega)
 refine sd ?_
 exact rfl
theorem c58 (l:List (Int × Int)) (hl:l.length≤1048576):CallDet Tryz.prog 58 [.d (.slice 2 (ivs l))] [.int .i64 (metE l)]:=by
 have hlen:=ivs_len l
 refine call_of_vc (x:=jr58) (by kernel_rfl) rfl ?_
 have m1:(256:Int) < ((ivs l).length:Int)→metE l=5:=fun h=>by unfold metE; rw [decide_eq_true (by omega)]; rfl
 have m2:¬ (256:Int) < ((ivs l).length:Int)→metE l=firstOf (l.map cI):=fun h=>by unfold metE; rw [decide_eq_false (by omega)]; rfl
 refine sd ?_
 refine b_lt (fun t1=>?_) (fun t1=>?_)
 rotate_left
 rotate_left
 ·show resV [.int .i64 5]=resV [.int .i64 (metE l)]
  rw [m1 t1]
 rw [m2 t1]
 refine loop_st (fun k:Nat=>⟨[(0,.d (.slice 2 (ivs l))),(3,.d (.int .i64 k))],[]⟩) (fun k=>k≤l.length∧firstOf (l.map cI)=firstOf ((l.drop k).map cI)) (fun k=>l.length - k) 0 rfl ⟨Nat.zero_le _,rfl⟩ ?_
 rintro k ⟨hk,hi⟩
 dsimp only
 by_cases hkn:k < l.length
 ·refine Exists.elim (get_lt l hkn) fun x hx=>?_
  have hx1:=ivs_at hx
  have c57_:=c57 x
  rw [drop_at hx,List.map_cons,show firstOf (cI x::(l.drop (k+1)).map cI)=bif cI x != 0 then cI x else firstOf ((l.drop (k+1)).map cI) from rfl] at hi
  have fin:cI x=0→∃ a':Nat,((a'≤l.length∧firstOf (l.map cI)=firstOf ((l.drop a').map cI))∧l.length - a' < l.length - k)∧(⟨[(0,.d (.slice 2 (ivs l))),(3,.d (.int .i64 ((k:Int)+1)))],[]⟩:St)=⟨[(0,.d (.slice 2 (ivs l))),(3,.d (.int .i64 (a':Nat)))],[]⟩:=fun h =>
   ⟨k+1,⟨⟨by omega,by rw [hi,h]; rfl⟩,by omega⟩,rfl⟩
  refine sd ?_
  refine b_lt (fun t2=>?_) (fun t2=>?_)
  refine ix_at hx1 ?_ ?_
  (show (0:Int)≤(↑k:Int); omega)
  refine ca c57_ ?_
  refine sd ?_
  refine b_ne (fun t3=>?_) (fun t3=>?_)
  rotate_left
  refine ar_add ?_ ?_
  refine an ?_ ?_
  (show (-9223372036854775808:Int)≤(↑k:Int)+(1:Int); omega)
  (show (↑k:Int)+(1:Int)≤(9223372036854775807:Int); omega)
  rotate_left
  (exfalso; omega)
  ·rw [hi,bne_iff_ne.2 t3]; rfl
  ·exact fin t3
 ·have e:l.drop k=[]:=List.drop_eq_nil_of_le (by omega)
  rw [e] at hi
  rw [hi]
  refine sd ?_
  refine b_lt (fun t2=>?_) (fun t2=>?_)
  (exfalso; omega)
  exact rfl
  all_goals rfl
theorem c51 (f:Int × Int) (l:List (Int × Int)) (hl:l.length≤1048576):CallDet Tryz.prog 51 [.d (.agg [.int .i64 f.1,.int .i64 f.2]),.d (.slice 2 (ivs l))] [.agg [.int .i64 (balV f l).1,.int .i64 (balV f l).2],.int .i64 (balE f l)]:=by
 have hlen:=ivs_len l
 have c136_:=c136 f
 have c99_a:CallDet Tryz.prog 99 [.d (.slice 1 [.int .i64 (cI f),.int .i64 (bif decide ((256:Int) < ((ivs l).length:Int)) then 5 else 0)])] [.int .i64 (balA f l)]:=by rw [hlen]; exact c99 [cI f,bif decide ((256:Int) < (l.length:Int)) then 5 else 0] (by simp)
 have c137_:=c137 l hl
 have c99_b:CallDet Tryz.prog 99 [.d (.slice 1 (ints (l.map cI)))] [.int .i64 (firstOf (l.map cI))]:=c99 _ (by rw [List.length_map]; omega)
 have p1:balA f l≠0→balE f l=balA f l∧balV f l=(0,0):=fun h=>by unfold balV balE; rw [bne_iff_ne.2 h]; exact ⟨rfl,by rw [show (bif true then balA f l else firstOf (l.map cI))=balA f l from rfl,bne_iff_ne.2 h]; rfl⟩
 have p2:balA f l=0→firstOf (l.map cI)≠0→balE f l=firstOf (l.map cI)∧balV f l=(0,0):=fun h h2=>by unfold balV balE; rw [h]; exact ⟨rfl,by rw [show (bif (0:Int) != 0 then (0:Int) else firstOf (l.map cI))=firstOf (l.map cI) from rfl,bne_iff_ne.2 h2]; rfl⟩
 have p3:balA f l=0→firstOf (l.map cI)=0→balE f l=0∧balV f l=balG l f:=fun h h2=>by unfold balV balE; rw [h,h2]; exact ⟨rfl,rfl⟩
 refine call_of_vc (x:=jr51) (by kernel_rfl) rfl ?_
 refine ca c136_ ?_
 refine sd ?_
 refine ca (c103 _ _) ?_
 refine sd ?_
 refine sd ?_
 refine ca c99_a ?_
 refine sd ?_
 refine b_ne (fun t1=>?_) (fun t1=>?_)
 rotate_left
 refine ca c137_ ?_
 refine ca c99_b ?_
 refine sd ?_
 refine b_ne (fun t2=>?_) (fun t2=>?_)
 rotate_left
 rotate_left
 ·show resV [.agg [.int .i64 0,.int .i64 0],.int .i64 (balA f l)]=resV [.agg [.int .i64 (balV f l).1,.int .i64 (balV f l).2],.int .i64 (balE f l)]
  rw [(p1 t1).1,(p1 t1).2]
 ·show resV [.agg [.int .i64 0,.int .i64 0],.int .i64 (firstOf (l.map cI))]=resV [.agg [.int .i64 (balV f l).1,.int .i64 (balV f l).2],.int .i64 (balE f l)]
  rw [(p2 t1 t2).1,(p2 t1 t2).2]
 rw [(p3 t1 t2).1,(p3 t1 t2).2]
 have hok:=bal_ok (p3 t1 t2).1
 have hl256:=hok.2.1
 clear p1 p2 p3
 refine loop_st (fun q:Nat × (Int × Int)=>⟨[(4,.ptr 1 0),(8,.ptr 3 0),(31,.d (.slice 2 (ivs l))),(32,.d (.int .i64 ((ivs l).length:Int))),(33,.d (.int .i64 (q.1:Nat)))],[.none,.box [.d (.int .i64 0),.d (.int .i64 0)],.none,.box [.d (.int .i64 (q.2).1),.d (.int .i64 (q.2).2)],.none]⟩) (fun q=>q.1≤l.length∧BI q.1 q.2∧balG l f=balG (l.drop q.1) q.2) (fun q=>l.length - q.1) (0,f) rfl ⟨Nat.zero_le _,bi0 hok.1,rfl⟩ ?_
 rintro ⟨k,b⟩ ⟨hk,hb,hi⟩
 have hk:k≤l.length:=hk
 have hb:BI k b:=hb
 have hi:balG l f=balG (l.drop k) b:=hi
 dsimp only
 by_cases hkn:k < l.length
 ·refine Exists.elim (get_lt l hkn) fun x hx=>?_
  have hx1:=ivs_at hx
  have hxo:=cI_ok (hok.2.2 x (List.mem_of_getElem? hx))
  have hb1:=bi_step hb hxo
  rw [drop_at hx,balG] at hi
  have hbu:=hb
  have hbu1:=hb1
  unfold BI at hbu hbu1
  have fin:∃ a':Nat × (Int × Int),((a'.1≤l.length∧BI a'.1 a'.2∧balG l f=balG (l.drop a'.1) a'.2)∧l.length - a'.1 < l.length - k)∧(⟨[(4,.ptr 1 0),(8,.ptr 3 0),(31,.d (.slice 2 (ivs l))),(32,.d (.int .i64 ((ivs l).length:Int))),(33,.d (.int .i64 ((k:Int)+1)))],[.none,.box [.d (.int .i64 0),.d (.int .i64 0)],.none,.box [.d (.int .i64 (b.1 - x.2)),.d (.int .i64 (b.2 - x.1))],.none]⟩:St)=⟨[(4,.ptr 1 0),(8,.ptr 3 0),(31,.d (.slice 2 (ivs l))),(32,.d (.int .i64 ((ivs l).length:Int))),(33,.d (.int .i64 (a'.1:Nat)))],[.none,.box [.d (.int .i64 0),.d (.int .i64 0)],.none,.box [.d (.int .i64 (a'.2).1),.d (.int .i64 (a'.2).2)],.none]⟩ :=
   ⟨(k+1,(b.1 - x.2,b.2 - x.1)),⟨⟨by show k+1≤l.length; omega,hb1,hi⟩,by show l.length - (k+1) < l.length - k; omega⟩,rfl⟩
  refine sd ?_
  refine b_lt (fun t3=>?_) (fun t3=>?_)
  refine ix_at hx1 ?_ ?_
  (show (0:Int)≤(↑k:Int); omega)
  refine ar_sub ?_ ?_
  refine an ?_ ?_
  (show (-9223372036854775808:Int)≤Prod.fst b - Prod.snd x; omega)
  (show Prod.fst b - Prod.snd x≤(9223372036854775807:Int); omega)
  refine ar_sub ?_ ?_
  refine an ?_ ?_
  (show (-9223372036854775808:Int)≤Prod.snd b - Prod.fst x; omega)
  (show Prod.snd b - Prod.fst x≤(9223372036854775807:Int); omega)
  refine ar_add ?_ ?_
  refine an ?_ ?_
  (show (-9223372036854775808:Int)≤(↑k:Int)+(1:Int); omega)
  (show (↑k:Int)+(1:Int)≤(9223372036854775807:Int); omega)
  rotate_left
  (exfalso; omega)
  all_goals exact fin
 ·have e:l.drop k=[]:=List.drop_eq_nil_of_le (by omega)
  rw [e] at hi
  rw [show balG l f=b from hi]
  refine sd ?_
  refine b_lt (fun t3=>?_) (fun t3=>?_)
  (exfalso; omega)
  exact rfl
  all_goals rfl
theorem c53 (f:Int × Int) (l:List (Int × Int)) (hl:l.length≤1048576):CallDet Tryz.prog 53 [.d (.agg [.int .i64 f.1,.int .i64 f.2]),.d (.slice 2 (ivs l))] [.int .i64 (bif balE f l != 0 then 0 else verd (balG l f)),.int .i64 (balE f l)]:=by
 have c51_:=c51 f l hl
 have p2:balE f l=0→balV f l=balG l f:=fun h=>by unfold balV; rw [h]; rfl
 refine call_of_vc (x:=jr53) (by kernel_rfl) rfl ?_
 by_cases h0:balE f l=0
 ·rw [p2 h0] at c51_
  rw [h0] at c51_ ⊢
  unfold verd
  generalize balG l f=b at *
  refine ca c51_ ?_
  refine sd ?_
  refine sd ?_
  refine b_lt (fun t1=>?_) (fun t1=>?_)
  rotate_left
  refine sd ?_
  refine b_lt (fun t2=>?_) (fun t2=>?_)
  rotate_left
  rotate_left
  ·rw [decide_eq_true t1]; rfl
  ·rw [decide_eq_false t1,decide_eq_true t2]; rfl
  ·rw [decide_eq_false t1,decide_eq_false t2]; rfl
 ·have n1:(balE f l != 0)=true:=bne_iff_ne.2 h0
  rw [n1]
  refine ca c51_ ?_
  refine sd ?_
  refine b_t n1 ?_
  exact rfl
end Vc
set_option maxRecDepth 10000
set_option maxHeartbeats 4000000
namespace Vc
open Go Go.Proofs
def ans (l:List An):List Data:=l.map fun x=>.agg [.slice 1 (ints x.set),.int .i64 x.sum]
theorem ans_len (l:List An):(ans l).length=l.length:=List.length_map _
theorem ans_at {l:List An} {k:Nat} {x:An} (h:l[k]?=some x):(ans l)[((k:Int)).toNat]?=some (.agg [.slice 1 (ints x.set),.int .i64 x.sum]):=by
 show (l.map _)[k]?=_
 rw [List.getElem?_map,h]; rfl
theorem ans_step {l:List An} {k:Nat} {x:An} (h:l[k]?=some x):ans (l.take (k+1))=ans (l.take k)++[Data.agg [.slice 1 (ints x.set),.int .i64 x.sum]]:=by
 rw [take_one h]; unfold ans; rw [List.map_append]; rfl
def anE (h:Int) (x:An):Int:=firstOf [setE h x.set,within3 x.sum 0 35]
def ansA (h w:Int) (l:List An):Int:=firstOf [within3 h 1 5,within3 w 1 7,bif decide ((16:Int) < (l.length:Int)) then 5 else 0]
def ansE (h w:Int) (l:List An):Int:=bif ansA h w l != 0 then ansA h w l else firstOf (l.map (anE h))
theorem ans_ok {h w:Int} {l:List An} (e:ansE h w l=0):(1≤h∧h≤5)∧(1≤w∧w≤7)∧l.length≤16∧∀ x∈l,(∀ i∈x.set,0≤i∧i < h)∧(0≤x.sum∧x.sum≤35):=by
 unfold ansE at e
 by_cases ha:ansA h w l=0
 ·rw [ha] at e
  have h1:=firstOf_zero ha
  refine ⟨within_ok (h1 _ (by simp)),within_ok (h1 (within3 w 1 7) (by simp)),?_,fun x hx=>?_⟩
  ·have h2:=h1 (bif decide ((16:Int) < (l.length:Int)) then 5 else 0) (by simp)
   by_cases hl:(16:Int) < (l.length:Int)
   ·rw [decide_eq_true hl] at h2; exact absurd (show (5:Int)=0 from h2) (by decide)
   ·omega
  ·have h3:=firstOf_zero (show firstOf (l.map (anE h))=0 from e) _ (List.mem_map.2 ⟨x,hx,rfl⟩)
   have h4:=firstOf_zero h3
   exact ⟨asc_rng (h4 _ (by simp)),within_ok (h4 (within3 x.sum 0 35) (by simp))⟩
 ·rw [bne_iff_ne.2 ha] at e; exact absurd e ha
def jr132:AFun:=⟨25,2,[.tmp 6],
 (.seq
 (.reg [0] [⟨some 3,.cbx 0 1 (.tmp 0),none⟩,
  ⟨some 6,.mov (.cst (.d (.int .i64 0))),none⟩])
 (.seq
  (.seq
  (.reg [1] [⟨some 8,.ld false 1 (.tmp 3),none⟩,
   ⟨some 9,.call 121 [(.tmp 8)],none⟩,
   ⟨some 10,.mov (.tmp 1),none⟩,
   ⟨some 11,.call 122 [(.tmp 10),(.cst (.d (.int .i64 1))),(.cst (.d (.int .i64 7)))],none⟩,
   ⟨some 12,.mov (.tmp 2),none⟩,
   ⟨some 13,.len (.tmp 12),none⟩,
   ⟨some 14,.cmp .gtr (.tmp 13) (.cst (.d (.int .i64 16))),none⟩,
   ⟨some 15,.call 103 [(.tmp 14),(.cst (.d (.int .i64 5)))],none⟩,
   ⟨some 16,.bsl 1 32 1 3 [(.int .i64 0),(.int .i64 0),(.int .i64 0)] [(0,(.tmp 9)),(1,(.tmp 11)),(2,(.tmp 15))],none⟩,
   ⟨some 17,.call 99 [(.tmp 16)],none⟩,
   ⟨some 7,.mov (.tmp 17),none⟩])
  (.seq
   (.reg [] [⟨some 18,.mov (.tmp 7),none⟩,
    ⟨some 19,.cmp .neq (.tmp 18) (.cst (.d (.int .i64 0))),none⟩])
   (.cond (.tmp 19)
   (.seq
    (.reg [] [⟨some 20,.mov (.tmp 7),none⟩,
     ⟨some 6,.mov (.tmp 20),none⟩])
    .ret)
   .skip)))
  (.seq
  (.reg [] [⟨some 21,.mov (.tmp 2),none⟩,
   ⟨some 22,.mkf (.func 171) [] [(.tmp 3)],none⟩,
   ⟨some 23,.call 170 [(.tmp 21),(.tmp 22)],none⟩,
   ⟨some 24,.call 99 [(.tmp 23)],none⟩,
   ⟨some 6,.mov (.tmp 24),none⟩])
  .ret)))⟩
def jr170:AFun:=⟨22,3,[.tmp 4],
 (.seq
 (.reg [] [⟨some 4,.mov (.cst (.nils 1)),none⟩])
 (.seq
  (.reg [] [⟨some 5,.mov (.cst (.nils 1)),none⟩])
  (.seq
  (.seq
   (.reg [] [⟨some 8,.mov (.tmp 0),none⟩,
    ⟨some 9,.len (.tmp 8),none⟩,
    ⟨some 10,.mov (.cst (.d (.int .i64 0))),none⟩])
   (.post [5] [0,1,2]
   (.block 0
    (.asrow 2 32 1 5
    (.keep [1,5,8,9,10] []
     (.loop
     (.post [1,5,8,9,10] [0,1,2]
      (.seq
      (.reg [] [⟨some 11,.cmp .lss (.tmp 10) (.tmp 9),none⟩])
      (.seq
       (.cond (.tmp 11)
       .skip
       (.exit 0))
       (.seq
       (.block 1
        (.seq
        (.reg [0] [⟨some 12,.ixa 2 (.tmp 8) (.tmp 10),none⟩,
         ⟨some 13,.ld true 2 (.tmp 12),none⟩,
         ⟨some 7,.alloc 0 [(.nils 1),(.d (.int .i64 0))],none⟩,
         ⟨none,.st 2 (.tmp 7) (.tmp 13),none⟩])
        (.reg [1,2] [⟨some 14,.mov (.tmp 5),none⟩,
         ⟨some 15,.mov (.tmp 1),none⟩,
         ⟨some 16,.ld true 2 (.tmp 7),none⟩,
         ⟨some 17,.callv (.tmp 15) [(.tmp 16)],none⟩,
         ⟨some 18,.bsl 1 32 1 1 [(.int .i64 0)] [(0,(.tmp 17))],none⟩,
         ⟨some 19,.app 2 32 1 8 (.tmp 14) (.tmp 18),none⟩,
         ⟨some 5,.mov (.tmp 19),none⟩])))
       (.reg [] [⟨some 20,.arith .add .i64 (.tmp 10) (.cst (.d (.int .i64 1))),none⟩,
        ⟨some 10,.mov (.tmp 20),none⟩])))))))))))
  (.seq
   (.reg [] [⟨some 21,.mov (.tmp 5),none⟩,
    ⟨some 4,.mov (.tmp 21),none⟩])
   .ret))))⟩
def jr171:AFun:=⟨13,2,[.tmp 3],
 (.seq
 (.reg [0] [⟨some 2,.cbx 0 2 (.tmp 0),none⟩,
  ⟨some 3,.mov (.cst (.d (.int .i64 0))),none⟩])
 (.seq
  (.regd [1] [⟨some 4,.ld false 1 (.tmp 1),none⟩,
   ⟨some 5,.fad 0 (.tmp 2),none⟩,
   ⟨some 6,.ld false 1 (.tmp 5),none⟩,
   ⟨some 7,.call 124 [(.tmp 4),(.tmp 6)],none⟩,
   ⟨some 8,.fad 1 (.tmp 2),none⟩,
   ⟨some 9,.ld false 1 (.tmp 8),none⟩,
   ⟨some 10,.call 122 [(.tmp 9),(.cst (.d (.int .i64 0))),(.cst (.d (.int .i64 35)))],none⟩,
   ⟨some 11,.bsl 1 32 1 2 [(.int .i64 0),(.int .i64 0)] [(0,(.tmp 7)),(1,(.tmp 10))],none⟩,
   ⟨some 12,.call 99 [(.tmp 11)],none⟩,
   ⟨some 3,.mov (.tmp 12),none⟩] [(0,1),(0,2),(0,4),(1,4),(2,4),(3,4),(0,5),(1,5),(2,5),(3,5)])
  .ret))⟩
def jr135:AFun:=⟨11,1,[.tmp 3],
 (.seq
 (.reg [0] [⟨some 2,.cbx 0 2 (.tmp 0),none⟩,
  ⟨some 3,.mov (.cst (.d (.bool false))),none⟩])
 (.seq
  (.reg [] [⟨some 4,.fad 1 (.tmp 2),none⟩,
   ⟨some 5,.ld false 1 (.tmp 4),none⟩,
   ⟨some 6,.fad 0 (.tmp 2),none⟩,
   ⟨some 7,.ld false 1 (.tmp 6),none⟩,
   ⟨some 8,.arith .sub .i64 (.tmp 5) (.tmp 7),none⟩,
   ⟨some 9,.ld false 1 (.tmp 1),none⟩,
   ⟨some 10,.cmp .lss (.tmp 8) (.tmp 9),none⟩,
   ⟨some 3,.mov (.tmp 10),none⟩])
  .ret))⟩
def jr174:AFun:=⟨19,0,[.tmp 4],
 (.seq
 (.reg [] [⟨some 4,.mov (.cst (.d (.int .i64 0))),none⟩])
 (.seq
  (.seq
  (.reg [] [⟨some 6,.mov (.tmp 0),none⟩,
   ⟨some 7,.len (.tmp 6),none⟩,
   ⟨some 8,.mov (.cst (.d (.int .i64 0))),none⟩])
  (.post [] []
   (.block 0
   (.keep [0,1,7,8] []
    (.loop
    (.post [0,1,7,8] []
     (.seq
     (.reg [] [⟨some 9,.cmp .lss (.tmp 8) (.tmp 7),none⟩])
     (.seq
      (.cond (.tmp 9)
      .skip
      (.exit 0))
      (.seq
      (.block 1
       (.seq
       (.reg [] [⟨some 10,.mov (.tmp 8),none⟩,
        ⟨some 5,.mov (.tmp 10),none⟩])
       (.seq
        (.reg [] [⟨some 11,.mov (.tmp 1),none⟩,
         ⟨some 12,.mov (.tmp 0),none⟩,
         ⟨some 13,.mov (.tmp 5),none⟩,
         ⟨some 14,.ixa 2 (.tmp 12) (.tmp 13),none⟩,
         ⟨some 15,.ld true 2 (.tmp 14),none⟩,
         ⟨some 16,.callv (.tmp 11) [(.tmp 15)],none⟩])
        (.cond (.tmp 16)
        (.seq
         (.reg [] [⟨some 17,.mov (.tmp 5),none⟩,
          ⟨some 4,.mov (.tmp 17),none⟩])
         .ret)
        .skip))))
      (.reg [] [⟨some 18,.arith .add .i64 (.tmp 8) (.cst (.d (.int .i64 1))),none⟩,
       ⟨some 8,.mov (.tmp 18),none⟩]))))))))))
  (.seq
  (.reg [] [⟨some 4,.mov (.cst (.d (.int .i64 (-1)))),none⟩])
  .ret)))⟩
def jr134:AFun:=⟨9,0,[.tmp 4],
 (.seq
 (.reg [] [⟨some 4,.mov (.cst (.d (.bool false))),none⟩])
 (.seq
  (.reg [] [⟨some 5,.mov (.tmp 0),none⟩,
   ⟨some 6,.mov (.tmp 1),none⟩,
   ⟨some 7,.call 174 [(.tmp 5),(.tmp 6)],none⟩,
   ⟨some 8,.cmp .geq (.tmp 7) (.cst (.d (.int .i64 0))),none⟩,
   ⟨some 4,.mov (.tmp 8),none⟩])
  .ret))⟩
theorem c171 (h:Int) (x:An) (hb:x.set.length≤1048576):CallDet Tryz.prog 171 [.d (.agg [.slice 1 (ints x.set),.int .i64 x.sum]),.cp [.int .i64 h] 0] [.int .i64 (anE h x)]:=by
 have c124_:=c124 h x.set hb
 have c99_:CallDet Tryz.prog 99 [.d (.slice 1 [.int .i64 (setE h x.set),.int .i64 (within3 x.sum 0 35)])] [.int .i64 (anE h x)]:=c99 [setE h x.set,within3 x.sum 0 35] (by simp)
 refine call_of_vc (x:=jr171) (by kernel_rfl) rfl ?_
 refine ca c124_ ?_
 refine ca (c122 _ _ _) ?_
 refine sd ?_
 refine sd ?_
 refine ca c99_ ?_
 exact rfl
theorem c170 (h:Int) (l:List An) (hl:l.length≤1048576) (hq:∀ x∈l,x.set.length≤1048576):CallDet Tryz.prog 170 [.d (.slice 2 (ans l)),.d (.fn (.func 171) [.agg [.int .i64 h]])] [.slice 1 (ints (l.map (anE h)))]:=by
 have hlen:=ans_len l
 refine call_of_vc (x:=jr170) (by kernel_rfl) rfl ?_
 refine loop_st (fun k:Nat=>⟨[(1,.d (.fn (.func 171) [.agg [.int .i64 h]])),(5,.sl 2 (ints ((l.take k).map (anE h))).length),(8,.d (.slice 2 (ans l))),(9,.d (.int .i64 ((ans l).length:Int))),(10,.d (.int .i64 (k:Nat)))],[.none,.none,.row 32 1 (ints ((l.take k).map (anE h))) false]⟩) (fun k=>k≤l.length) (fun k=>l.length - k) 0 rfl (Nat.zero_le _) ?_
 intro k hk
 have hk:k≤l.length:=hk
 have hb:(ints ((l.take k).map (anE h))).length=k:=by unfold ints; rw [List.length_map,List.length_map,List.length_take]; omega
 dsimp only
 by_cases hkn:k < l.length
 ·refine Exists.elim (get_lt l hkn) fun x hx=>?_
  have hx1:=ans_at hx
  have c171_:=c171 h x (hq x (List.mem_of_getElem? hx))
  have fin:∃ a':Nat,(a'≤l.length∧l.length - a' < l.length - k)∧(⟨[(1,.d (.fn (.func 171) [.agg [.int .i64 h]])),(5,.sl 2 (ints ((l.take k).map (anE h))++[Data.int .i64 (anE h x)]).length),(8,.d (.slice 2 (ans l))),(9,.d (.int .i64 ((ans l).length:Int))),(10,.d (.int .i64 ((k:Int)+1)))],[.none,.none,.row 32 1 (ints ((l.take k).map (anE h))++[Data.int .i64 (anE h x)]) false]⟩:St)=⟨[(1,.d (.fn (.func 171) [.agg [.int .i64 h]])),(5,.sl 2 (ints ((l.take a').map (anE h))).length),(8,.d (.slice 2 (ans l))),(9,.d (.int .i64 ((ans l).length:Int))),(10,.d (.int .i64 (a':Nat)))],[.none,.none,.row 32 1 (ints ((l.take a').map (anE h))) false]⟩ :=
   ⟨k+1,⟨by omega,by omega⟩,by rw [ints_step (anE h) hx]; rfl⟩
  refine sd ?_
  refine b_lt (fun t1=>?_) (fun t1=>?_)
  refine ix_at hx1 ?_ ?_
  (show (0:Int)≤(↑k:Int); omega)
  refine ca c171_ ?_
  refine sd ?_
  refine sd ?_
  refine sd ?_
  refine an ?_ ?_
  refine an ?_ ?_
  exact rfl
  refine an ?_ ?_
  exact rfl
  refine an ?_ ?_
  exact rfl
  refine an ?_ ?_
  (show (List.length (ints (List.map (anE h) (List.take k l)))+(1:Nat)) * (8:Nat)≤(2:Nat) ^ (47:Nat); omega)
  (show List.length (ints (List.map (anE h) (List.take k l)))+(1:Nat)≤(2:Nat) ^ (47:Nat); omega)
  refine ar_add ?_ ?_
  refine an ?_ ?_
  (show (-9223372036854775808:Int)≤(↑k:Int)+(1:Int); omega)
  (show (↑k:Int)+(1:Int)≤(9223372036854775807:Int); omega)
  rotate_left
  (exfalso; omega)
  all_goals exact fin
 ·have e:l.take k=l:=List.take_of_length_le (by omega)
  rw [e]
  refine sd ?_
  refine b_lt (fun t1=>?_) (fun t1=>?_)
  (exfalso; omega)
  refine sd ?_
  exact rfl
theorem c132 (h w:Int) (l:List An) (hl:l.length≤1048576) (hq:∀ x∈l,x.set.length≤1048576):CallDet Tryz.prog 132 [.d (.int .i64 h),.d (.int .i64 w),.d (.slice 2 (ans l))] [.int .i64 (ansE h w l)]:=by
 have hlen:=ans_len l
 have c121_:=c121 h
 have c99_:CallDet Tryz.prog 99 [.d (.slice 1 [.int .i64 (within3 h 1 5),.int .i64 (within3 w 1 7),.int .i64 (bif decide ((16:Int) < ((ans l).length:Int)) then 5 else 0)])] [.int .i64 (ansA h w l)]:=by rw [hlen]; exact c99 [within3 h 1 5,within3 w 1 7,bif decide ((16:Int) < (l.length:Int)) then 5 else 0] (by simp)
 have c170_:=c170 h l hl hq
 have c99_b:CallDet Tryz.prog 99 [.d (.slice 1 (ints (l.map (anE h))))] [.int .i64 (firstOf (l.map (anE h)))]:=c99 _ (by rw [List.length_map]; omega)
 have p1:ansA h w l≠0→ansE h w l=ansA h w l:=fun t=>by unfold ansE; rw [bne_iff_ne.2 t]; rfl
 have p2:ansA h w l=0→ansE h w l=firstOf (l.map (anE h)):=fun t=>by unfold ansE; rw [t]; rfl
 refine call_of_vc (x:=jr132) (by kernel_rfl) rfl ?_
 refine ca c121_ ?_
 refine ca (c122 _ _ _) ?_
 refine sd ?_
 refine ca (c103 _ _) ?_
 refine sd ?_
 refine sd ?_
 refine ca c99_ ?_
 refine sd ?_
 refine b_ne (fun t1=>?_) (fun t1=>?_)
 rotate_left
 refine ca c170_ ?_
 refine ca c99_b ?_
 rotate_left
 ·show resV [.int .i64 (ansA h w l)]=resV [.int .i64 (ansE h w l)]
  rw [p1 t1]
 ·show resV [.int .i64 (firstOf (l.map (anE h)))]=resV [.int .i64 (ansE h w l)]
  rw [p2 t1]
end Vc
set_option maxRecDepth 10000
set_option maxHeartbeats 4000000
namespace Vc
open Go Go.Proofs
def wrongB (u:List Int) (x:An):Bool:=sumL (uAt u) x.set != x.sum
def jr173:AFun:=⟨11,1,[.tmp 3],
 (.seq
 (.reg [0] [⟨some 2,.cbx 0 2 (.tmp 0),none⟩,
  ⟨some 3,.mov (.cst (.d (.bool false))),none⟩])
 (.seq
  (.regd [] [⟨some 4,.sla 5 (.tmp 1) none none,none⟩,
   ⟨some 5,.fad 0 (.tmp 2),none⟩,
   ⟨some 6,.ld false 1 (.tmp 5),none⟩,
   ⟨some 7,.call 131 [(.tmp 4),(.tmp 6)],none⟩,
   ⟨some 8,.fad 1 (.tmp 2),none⟩,
   ⟨some 9,.ld false 1 (.tmp 8),none⟩,
   ⟨some 10,.cmp .neq (.tmp 7) (.tmp 9),none⟩,
   ⟨some 3,.mov (.tmp 10),none⟩] [(0,1),(0,2),(0,4),(1,4),(2,4),(3,4),(0,5),(1,5),(2,5),(3,5)])
  .ret))⟩
def jr199:AFun:=⟨19,0,[.tmp 4],
 (.seq
 (.reg [] [⟨some 4,.mov (.cst (.d (.int .i64 0))),none⟩])
 (.seq
  (.seq
  (.reg [] [⟨some 6,.mov (.tmp 0),none⟩,
   ⟨some 7,.len (.tmp 6),none⟩,
   ⟨some 8,.mov (.cst (.d (.int .i64 0))),none⟩])
  (.post [] []
   (.block 0
   (.keep [0,1,7,8] []
    (.loop
    (.post [0,1,7,8] []
     (.seq
     (.reg [] [⟨some 9,.cmp .lss (.tmp 8) (.tmp 7),none⟩])
     (.seq
      (.cond (.tmp 9)
      .skip
      (.exit 0))
      (.seq
      (.block 1
       (.seq
       (.reg [] [⟨some 10,.mov (.tmp 8),none⟩,
        ⟨some 5,.mov (.tmp 10),none⟩])
       (.seq
        (.reg [] [⟨some 11,.mov (.tmp 1),none⟩,
         ⟨some 12,.mov (.tmp 0),none⟩,
         ⟨some 13,.mov (.tmp 5),none⟩,
         ⟨some 14,.ixa 2 (.tmp 12) (.tmp 13),none⟩,
         ⟨some 15,.ld true 2 (.tmp 14),none⟩,
         ⟨some 16,.callv (.tmp 11) [(.tmp 15)],none⟩])
        (.cond (.tmp 16)
        (.seq
         (.reg [] [⟨some 17,.mov (.tmp 5),none⟩,
          ⟨some 4,.mov (.tmp 17),none⟩])
         .ret)
        .skip))))
      (.reg [] [⟨some 18,.arith .add .i64 (.tmp 8) (.cst (.d (.int .i64 1))),none⟩,
       ⟨some 8,.mov (.tmp 18),none⟩]))))))))))
  (.seq
  (.reg [] [⟨some 4,.mov (.cst (.d (.int .i64 (-1)))),none⟩])
  .ret)))⟩
def jr172:AFun:=⟨9,0,[.tmp 4],
 (.seq
 (.reg [] [⟨some 4,.mov (.cst (.d (.bool false))),none⟩])
 (.seq
  (.reg [] [⟨some 5,.mov (.tmp 0),none⟩,
   ⟨some 6,.mov (.tmp 1),none⟩,
   ⟨some 7,.call 199 [(.tmp 5),(.tmp 6)],none⟩,
   ⟨some 8,.cmp .geq (.tmp 7) (.cst (.d (.int .i64 0))),none⟩,
   ⟨some 4,.mov (.tmp 8),none⟩])
  .ret))⟩
theorem c173 (u0 u1 u2 u3 u4:Int) (hu:∀ y∈([u0,u1,u2,u3,u4]:List Int),0≤y∧y≤7) (x:An) (hb:x.set.length≤1048576) (hi:∀ i∈x.set,0≤i∧i < 5):CallDet Tryz.prog 173 [.d (.agg [.slice 1 (ints x.set),.int .i64 x.sum]),.cp [.int .i64 u0,.int .i64 u1,.int .i64 u2,.int .i64 u3,.int .i64 u4] 0] [.bool (wrongB [u0,u1,u2,u3,u4] x)]:=by
 have c131_:CallDet Tryz.prog 131 [.d (.slice 1 [.int .i64 u0,.int .i64 u1,.int .i64 u2,.int .i64 u3,.int .i64 u4]),.d (.slice 1 (ints x.set))] [.int .i64 (sumL (uAt [u0,u1,u2,u3,u4]) x.set)]:=c131 [u0,u1,u2,u3,u4] x.set (by simp) hb hu hi
 unfold wrongB
 refine call_of_vc (x:=jr173) (by kernel_rfl) rfl ?_
 refine an ?_ ?_
 refine an ?_ ?_
 (show (0:Int)≤(0:Int); omega)
 refine an ?_ ?_
 (show (0:Int)≤(↑(5:Nat):Int); omega)
 refine an ?_ ?_
 (show (↑(5:Nat):Int)≤(↑(5:Nat):Int); omega)
 (show (0:Nat)+(5:Nat)≤(1:Nat)+(1:Nat)+(1:Nat)+(1:Nat)+(1:Nat); omega)
 refine ca c131_ ?_
 refine sd ?_
 exact rfl
theorem c199 (u0 u1 u2 u3 u4:Int) (hu:∀ y∈([u0,u1,u2,u3,u4]:List Int),0≤y∧y≤7) (l:List An) (hl:l.length≤1048576) (hq:∀ x∈l,x.set.length≤1048576∧∀ i∈x.set,0≤i∧i < 5):CallDet Tryz.prog 199 [.d (.slice 2 (ans l)),.d (.fn (.func 173) [.agg [.int .i64 u0,.int .i64 u1,.int .i64 u2,.int .i64 u3,.int .i64 u4]])] [.int .i64 (ixF (wrongB [u0,u1,u2,u3,u4]) l 0)]:=by
 have hlen:=ans_len l
 refine call_of_vc (x:=jr199) (by kernel_rfl) rfl ?_
 refine loop_st (fun k:Nat=>⟨[(0,.d (.slice 2 (ans l))),(1,.d (.fn (.func 173) [.agg [.int .i64 u0,.int .i64 u1,.int .i64 u2,.int .i64 u3,.int .i64 u4]])),(7,.d (.int .i64 ((ans l).length:Int))),(8,.d (.int .i64 k))],[]⟩) (fun k=>k≤l.length∧ixF (wrongB [u0,u1,u2,u3,u4]) l 0=ixF (wrongB [u0,u1,u2,u3,u4]) (l.drop k) k) (fun k=>l.length - k) 0 rfl ⟨Nat.zero_le _,rfl⟩ ?_
 rintro k ⟨hk,hi⟩
 dsimp only
 by_cases hkn:k < l.length
 ·refine Exists.elim (get_lt l hkn) fun x hx=>?_
  have hx1:=ans_at hx
  have c173_:=c173 u0 u1 u2 u3 u4 hu x (hq x (List.mem_of_getElem? hx)).1 (hq x (List.mem_of_getElem? hx)).2
  rw [drop_at hx] at hi
  have f1:wrongB [u0,u1,u2,u3,u4] x=true→ixF (wrongB [u0,u1,u2,u3,u4]) l 0=k:=fun t=>by rw [hi,ixF,t]; rfl
  have fin:wrongB [u0,u1,u2,u3,u4] x=false→∃ a':Nat,((a'≤l.length∧ixF (wrongB [u0,u1,u2,u3,u4]) l 0=ixF (wrongB [u0,u1,u2,u3,u4]) (l.drop a') a')∧l.length - a' < l.length - k)∧(⟨[(0,.d (.slice 2 (ans l))),(1,.d (.fn (.func 173) [.agg [.int .i64 u0,.int .i64 u1,.int .i64 u2,.int .i64 u3,.int .i64 u4]])),(7,.d (.int .i64 ((ans l).length:Int))),(8,.d (.int .i64 ((k:Int)+1)))],[]⟩:St)=⟨[(0,.d (.slice 2 (ans l))),(1,.d (.fn (.func 173) [.agg [.int .i64 u0,.int .i64 u1,.int .i64 u2,.int .i64 u3,.int .i64 u4]])),(7,.d (.int .i64 ((ans l).length:Int))),(8,.d (.int .i64 (a':Nat)))],[]⟩:=fun t =>
   ⟨k+1,⟨⟨by omega,by rw [hi,ixF,t]; rfl⟩,by omega⟩,rfl⟩
  refine sd ?_
  refine b_lt (fun t1=>?_) (fun t1=>?_)
  refine ix_at hx1 ?_ ?_
  (show (0:Int)≤(↑k:Int); omega)
  refine ca c173_ ?_
  refine b_intro (fun t2=>?_) (fun t2=>?_)
  rotate_left
  refine ar_add ?_ ?_
  refine an ?_ ?_
  (show (-9223372036854775808:Int)≤(↑k:Int)+(1:Int); omega)
  (show (↑k:Int)+(1:Int)≤(9223372036854775807:Int); omega)
  rotate_left
  (exfalso; omega)
  ·show resV [.int .i64 (k:Int)]=resV [.int .i64 (ixF (wrongB [u0,u1,u2,u3,u4]) l 0)]
   rw [f1 t2]
  ·exact fin t2
 ·have e:l.drop k=[]:=List.drop_eq_nil_of_le (by omega)
  rw [e] at hi
  have hi:ixF (wrongB [u0,u1,u2,u3,u4]) l 0=-1:=hi
  rw [hi]
  refine sd ?_
  refine b_lt (fun t1=>?_) (fun t1=>?_)
  (exfalso; omega)
  exact rfl
  all_goals rfl
theorem c172 (u0 u1 u2 u3 u4:Int) (hu:∀ y∈([u0,u1,u2,u3,u4]:List Int),0≤y∧y≤7) (l:List An) (hl:l.length≤1048576) (hq:∀ x∈l,x.set.length≤1048576∧∀ i∈x.set,0≤i∧i < 5):CallDet Tryz.prog 172 [.d (.slice 2 (ans l)),.d (.fn (.func 173) [.agg [.int .i64 u0,.int .i64 u1,.int .i64 u2,.int .i64 u3,.int .i64 u4]])] [.bool (l.any (wrongB [u0,u1,u2,u3,u4]))]:=by
 have c199_:=c199 u0 u1 u2 u3 u4 hu l hl hq
 have e:=ixF_any (wrongB [u0,u1,u2,u3,u4]) l 0 (by omega)
 refine call_of_vc (x:=jr172) (by kernel_rfl) rfl ?_
 rw [← e]
 refine ca c199_ ?_
 refine sd ?_
 exact rfl
end Vc
