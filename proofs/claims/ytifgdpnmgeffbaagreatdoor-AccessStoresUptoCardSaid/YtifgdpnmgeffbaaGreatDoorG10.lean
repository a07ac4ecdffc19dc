import Derived.Shelf.Spec.SlicesGrow
import Derived.Test.YtifgdpnmgeffbaaGreatDoorProg
import Derived.Test.YtifgdpnmgeffbaaGreatDoorG09
import Derived.Test.YtifgdpnmgeffbaaGreatDoorG07
import Derived.Test.YtifgdpnmgeffbaaGreatDoorG04
set_option linter.unusedSectionVars false
set_option linter.unusedVariables false
set_option linter.unusedSimpArgs false
namespace Go.Proofs
open Go.Shelf
def Tryz.laysGrow_ren:Go.Shelf.Ren:=⟨fun | 4=>200 | n=>n,fun | 22=>111 | 25=>5 | 3=>3 | 4=>4 | 9=>9 | 20=>20 | 0=>0 | n=>n,fun | n=>n⟩
theorem Tryz.laysGrow:Go.Proofs.Lays8.n4 Tryz.prog Tryz.laysGrow_ren:={
 mixed:=by kernel_rfl
 f4:=⟨Tryz.f200.name,by decide,Tryz.func200.trans (congrArg some (by kernel_rfl))⟩
 t0:=Tryz.underlying0
 a0:=Tryz.isAgg0
 z0:=Tryz.sizeOf0
 v0:=Tryz.zeroValue0
 t3:=Tryz.underlying3
 a3:=Tryz.isAgg3
 z3:=Tryz.sizeOf3
 v3:=Tryz.zeroValue3
 t4:=Tryz.underlying4
 a4:=Tryz.isAgg4
 z4:=Tryz.sizeOf4
 v4:=Tryz.zeroValue4
 t9:=Tryz.underlying9
 a9:=Tryz.isAgg9
 z9:=Tryz.sizeOf9
 v9:=Tryz.zeroValue9
 t20:=Tryz.underlying20
 a20:=Tryz.isAgg20
 z20:=Tryz.sizeOf20
 v20:=Tryz.zeroValue20
 t22:=Tryz.underlying111
 a22:=Tryz.isAgg111
 z22:=Tryz.sizeOf111
 v22:=Tryz.zeroValue111 }
end Go.Proofs
set_option maxRecDepth 10000
namespace Vc
open Go Go.Proofs Go.RowKit Go.Shelf
theorem grow_in {P : Program} [Laid P] {ρ : Ren} (L : Lays8.n4 P ρ) (hf : HasFn P (ρ.f 4)) (i0 : TypeInfo) (z : Value) (hi0 : P.info? (ρ.t 25) = some i0) (hz0 : i0.zero = some z) (hs0 : 0 < i0.size) (hzs : z.cells.size = i0.size)
  (k n:Nat) (hbig:n * i0.bytes≤140737488355328) (h63:n≤140737488355328) (h:List AObj) (r:Nat) (hh:h[r]?=some .none) :
  CallIn P (ρ.f 4) [.nils k,.d (.int .i64 n)] h (.sl r 0) (h.set r (.row (ρ.t 25) i0.size [] false)):=by
 refine ⟨hf,by simp,fun n' base w0 G slots a w vs hgl hr hv=>?_⟩
 simp only [VRels,VRel,DRel] at hv
 obtain ⟨v1,r1,rfl,rfl,v2,r2,rfl,rfl,rfl⟩:=hv
 have hlt:r < h.length:=(List.getElem?_eq_some_iff.1 hh).1
 by_cases hn:n=0
 ·subst hn
  refine (Any8.slices_Grow_room L none 0 0 0 w (Nat.le_refl _) (by omega) (by omega) (Nat.le_refl _)).mono ?_
  rintro e w' ⟨rfl,rfl⟩
  have h1:=hr.upd (o':=.row (ρ.t 25) i0.size [] false) (v':=.slice none 0 0) (S':=G.S) (row:=none) (w':=w') hh (.inl rfl) (fun _ _ h=>h) (fun _ _ h=>.inl h)
   ⟨rfl,rfl,rfl,Nat.le_refl _,fun _ _ _=>rfl⟩ (fun _ _ _ h=>by cases h) (fun b hb=>by cases hb) trivial
   (fun hx=>⟨hs0,[],by rw [show (⟨G.S,Vc.upd G.val r (.slice none 0 0)⟩:Gh).val r=.slice none 0 0 from upd_same _ _ _]; exact World.ownsRow_nil w' base _ _,by simp [DXs]⟩)
   (fun b off hb _ _=>by cases hb) (fun b off hs=>hr.lim b off hs)
  refine ⟨_,_,rfl,h1.1,h1.2,?_⟩
  simp only [VRel]
  exact ⟨ρ.t 25,i0.size,[],false,by simp [hlt],Nat.le_refl _,fun _=>by simp [upd]⟩
 ·have hcm:=grownCap_le_maxLen w (0+n) 0 (ρ.t 25) (by unfold maxLen; omega)
  have hge:=grownCap_ge w (0+n) 0 (ρ.t 25)
  refine (Any8.slices_Grow_grow L i0 z hi0 hz0 hs0 none 0 0 n [] w (Nat.le_refl _) (by omega) (by simpa using hbig) (by omega) (by simp) (fun _=>rfl) (fun a ha=>by cases ha)).mono ?_
  generalize grownCap w (0+n) 0 (ρ.t 25)=cap at *
  rintro e w' ⟨rfl,rfl⟩
  have h1:=hr.upd (o':=.row (ρ.t 25) i0.size [] false) (v':=.slice (some ⟨w.heap.size,0,none⟩) 0 cap) (S':=G.S) (row:=none)
   (w':=w.drew.alloc (.cells (([]:List Value).toArray++Builtin.zeroCells z.cells (0+n - 0)++Builtin.zeroCells z.cells (cap - (0+n))) (ρ.t 25))) hh (.inl rfl) (fun _ _ h=>h) (fun _ _ h=>.inl h)
   ⟨rfl,rfl,rfl,by simp,fun k hk _=>Below.heap_alloc w.drew _ k hk⟩ (fun _ _ _ h=>by cases h) (fun b hb=>by cases hb; exact .inr (Nat.le_refl _)) trivial
   (fun hx=>by
    refine ⟨hs0,[],?_,by simp [DXs]⟩
    rw [show (⟨G.S,Vc.upd G.val r (.slice (some ⟨w.heap.size,0,none⟩) 0 cap)⟩:Gh).val r=_ from upd_same _ _ _]
    refine ⟨by simp,.inr ⟨w.heap.size,cap,_,rfl,hr.old,heap_alloc_new w.drew _,Nat.zero_le _,hcm,?_,by simp⟩⟩
    simp [Builtin.zeroCells,hzs]
    rw [← Nat.add_mul]
    congr 1
    omega)
   (fun b off hb _ hs=>by cases hb; have:=hr.lim _ _ hs; simp at this) (fun b off hs=>by have:=hr.lim _ _ hs; simp; omega)
  refine ⟨_,_,rfl,h1.1,h1.2,?_⟩
  simp only [VRel]
  exact ⟨ρ.t 25,i0.size,[],false,by simp [hlt],Nat.le_refl _,fun _=>by simp [upd]⟩
theorem i200 (n:Nat) (hn:n≤1048576) (h:List AObj) (r:Nat) (hh:h[r]?=some .none):CallIn Tryz.prog 200 [.nils 1,.d (.int .i64 n)] h (.sl r 0) (h.set r (.row 5 1 [] false)):=by
 obtain ⟨i0,z,hi0,hz0,_,hzs⟩:=zeroOk_spec (show zeroOk Tryz.prog 5 [.d (.int .u8 0)]=true by kernel_rfl)
 obtain ⟨i1,_,hi1,hs,_⟩:=sizeIs_spec (show sizeIs Tryz.prog 5 1=true by kernel_rfl)
 rw [hi0] at hi1; cases hi1
 obtain ⟨i2,hi2,hb⟩:=infoOf (P:=Tryz.prog) (t:=5) (p:=fun i=>Nat.beq i.bytes 1) (show bytesIs Tryz.prog 5 1=true by kernel_rfl)
 rw [hi0] at hi2; cases hi2
 have hb:=Nat.eq_of_beq_eq_true hb
 have h1:=grow_in Tryz.laysGrow (hasFnB_spec (by kernel_rfl)) i0 z hi0 hz0 (by omega) hzs 1 n (by rw [hb]; omega) (by omega) h r hh
 rw [hs] at h1
 exact h1
end Vc
set_option maxRecDepth 10000
set_option maxHeartbeats 4000000
namespace Vc
open Go Go.Proofs
theorem get_lt {α:Type} (l:List α) {k:Nat} (h:k < l.length):∃ x,l[k]?=some x:=⟨_,List.getElem?_eq_getElem h⟩
def pcs (l:List (List Data)):List Data:=l.map (.slice 1)
theorem pcs_len (l:List (List Data)):(pcs l).length=l.length:=List.length_map _
theorem pcs_at {l:List (List Data)} {k:Nat} {x:List Data} (h:l[k]?=some x):(pcs l)[((k:Int)).toNat]?=some (.slice 1 x):=by
 show (l.map _)[k]?=_
 rw [List.getElem?_map,h]; rfl
theorem flat_snoc {α:Type} {l:List (List α)} {k:Nat} {x:List α} (h:l[k]?=some x):(l.take (k+1)).flatten=(l.take k).flatten++x:=by
 rw [take_one h,List.flatten_append,List.flatten_singleton]
theorem flat_le {α:Type}:∀ (l:List (List α)) (k:Nat),(l.take k).flatten.length≤l.flatten.length
 | [],k=>by simp
 | x::l,0=>by simp
 | x::l,k+1=>by
  have:=flat_le l k
  simp only [List.take_succ_cons,List.flatten_cons,List.length_append]
  omega
def jr159:AFun:=⟨8,2,[.tmp 2],
 (.seq
 (.reg [] [⟨some 2,.mov (.cst (.nils 1)),none⟩])
 (.seq
  (.seq
  (.reg [] [⟨some 3,.mov (.tmp 0),none⟩,
   ⟨some 4,.isnil false (.tmp 3),none⟩])
  (.cond (.tmp 4)
   (.seq
   (.reg [] [⟨some 2,.mov (.cst (.nils 1)),none⟩])
   .ret)
   .skip))
  (.seq
  (.reg [0,1] [⟨some 5,.bsl 0 3 1 0 [] [],none⟩,
   ⟨some 6,.mov (.tmp 0),none⟩,
   ⟨some 7,.app 1 3 1 8 (.tmp 5) (.tmp 6),none⟩,
   ⟨some 2,.mov (.tmp 7),none⟩])
  .ret)))⟩
def jr176:AFun:=⟨8,2,[.tmp 2],
 (.seq
 (.reg [] [⟨some 2,.mov (.cst (.nils 1)),none⟩])
 (.seq
  (.seq
  (.reg [] [⟨some 3,.mov (.tmp 0),none⟩,
   ⟨some 4,.isnil false (.tmp 3),none⟩])
  (.cond (.tmp 4)
   (.seq
   (.reg [] [⟨some 2,.mov (.cst (.nils 1)),none⟩])
   .ret)
   .skip))
  (.seq
  (.reg [0,1] [⟨some 5,.bsl 0 5 1 0 [] [],none⟩,
   ⟨some 6,.mov (.tmp 0),none⟩,
   ⟨some 7,.app 1 5 1 1 (.tmp 5) (.tmp 6),none⟩,
   ⟨some 2,.mov (.tmp 7),none⟩])
  .ret)))⟩
def jr175:AFun:=⟨36,1,[.tmp 2],
 (.seq
 (.reg [] [⟨some 2,.mov (.cst (.nils 1)),none⟩])
 (.seq
  (.reg [] [⟨some 3,.mov (.cst (.d (.int .i64 0))),none⟩])
  (.seq
  (.seq
   (.reg [] [⟨some 9,.mov (.tmp 0),none⟩,
    ⟨some 10,.len (.tmp 9),none⟩,
    ⟨some 11,.mov (.cst (.d (.int .i64 0))),none⟩])
   (.post [0,3] []
   (.block 0
    (.keep [0,3,9,10,11] []
    (.loop
     (.post [0,3,9,10,11] []
     (.seq
      (.reg [] [⟨some 12,.cmp .lss (.tmp 11) (.tmp 10),none⟩])
      (.seq
      (.cond (.tmp 12)
       .skip
       (.exit 0))
      (.seq
       (.block 1
       (.seq
        (.reg [] [⟨some 13,.ixa 1 (.tmp 9) (.tmp 11),none⟩,
         ⟨some 14,.ld false 1 (.tmp 13),none⟩,
         ⟨some 5,.mov (.tmp 14),none⟩])
        (.seq
        (.reg [] [⟨some 15,.mov (.tmp 3),none⟩,
         ⟨some 16,.mov (.tmp 5),none⟩,
         ⟨some 17,.len (.tmp 16),none⟩,
         ⟨some 18,.arith .add .i64 (.tmp 15) (.tmp 17),none⟩,
         ⟨some 3,.mov (.tmp 18),none⟩])
        (.seq
         (.reg [] [⟨some 19,.mov (.tmp 3),none⟩,
          ⟨some 20,.cmp .lss (.tmp 19) (.cst (.d (.int .i64 0))),none⟩])
         (.cond (.tmp 20)
         .dead
         .skip)))))
       (.reg [] [⟨some 22,.arith .add .i64 (.tmp 11) (.cst (.d (.int .i64 1))),none⟩,
        ⟨some 11,.mov (.tmp 22),none⟩]))))))))))
  (.seq
   (.reg [] [⟨some 23,.mov (.tmp 3),none⟩,
    ⟨some 24,.calli 200 [(.cst (.nils 1)),(.tmp 23)],none⟩,
    ⟨some 6,.mov (.tmp 24),none⟩])
   (.seq
   (.seq
    (.reg [] [⟨some 25,.mov (.tmp 0),none⟩,
     ⟨some 26,.len (.tmp 25),none⟩,
     ⟨some 27,.mov (.cst (.d (.int .i64 0))),none⟩])
    (.post [6] [0]
    (.block 2
     (.asrow 0 5 1 6
     (.keep [6,25,26,27] []
      (.loop
      (.post [6,25,26,27] [0]
       (.seq
       (.reg [] [⟨some 28,.cmp .lss (.tmp 27) (.tmp 26),none⟩])
       (.seq
        (.cond (.tmp 28)
        .skip
        (.exit 2))
        (.seq
        (.block 3
         (.seq
         (.reg [] [⟨some 29,.ixa 1 (.tmp 25) (.tmp 27),none⟩,
          ⟨some 30,.ld false 1 (.tmp 29),none⟩,
          ⟨some 8,.mov (.tmp 30),none⟩])
         (.reg [0] [⟨some 31,.mov (.tmp 6),none⟩,
          ⟨some 32,.mov (.tmp 8),none⟩,
          ⟨some 33,.app 0 5 1 1 (.tmp 31) (.tmp 32),none⟩,
          ⟨some 6,.mov (.tmp 33),none⟩])))
        (.reg [] [⟨some 34,.arith .add .i64 (.tmp 27) (.cst (.d (.int .i64 1))),none⟩,
         ⟨some 27,.mov (.tmp 34),none⟩])))))))))))
   (.seq
    (.reg [] [⟨some 35,.mov (.tmp 6),none⟩,
     ⟨some 2,.mov (.tmp 35),none⟩])
    .ret))))))⟩
theorem c176 (b:List Data) (hl:b.length≤1048576):CallDet Tryz.prog 176 [.d (.slice 1 b)] [.slice 1 b]:=by
 refine call_of_vc (x:=jr176) (by kernel_rfl) rfl ?_
 refine And.intro (fun h=>?_) ?_
 ·subst h
  exact rfl
 ·refine sd ?_
  refine sd ?_
  refine an ?_ ?_
  refine an ?_ ?_
  exact rfl
  refine an ?_ ?_
  exact rfl
  refine an ?_ ?_
  exact rfl
  refine an ?_ ?_
  (show ((0:Nat)+List.length b) * (1:Nat)≤(2:Nat) ^ (47:Nat); omega)
  (show (0:Nat)+List.length b≤(2:Nat) ^ (47:Nat); omega)
  refine sd ?_
  exact rfl
theorem c159r (b:List Data) (hl:b.length≤1048576):CallRow Tryz.prog 159 [.d (.slice 1 b)] 3 1 b:=by
 refine callRow_of_vc (x:=jr159) (by kernel_rfl) rfl ?_
 refine And.intro (fun t1=>?_) ?_
 rotate_left
 ·refine sd ?_
  refine sd ?_
  refine an ?_ ?_
  refine an ?_ ?_
  exact rfl
  refine an ?_ ?_
  exact rfl
  refine an ?_ ?_
  exact rfl
  refine an ?_ ?_
  (show ((0:Nat)+List.length b) * (8:Nat)≤(2:Nat) ^ (47:Nat); omega)
  (show (0:Nat)+List.length b≤(2:Nat) ^ (47:Nat); omega)
  rotate_left
  exact .inl ⟨0,⟨rfl,rfl⟩,rfl⟩
 ·subst t1
  exact .inr ⟨by decide,rfl,1,rfl,rfl⟩
theorem c175 (l:List (List Data)) (hl:l.length≤1048576) (hs:l.flatten.length≤1048576):CallDet Tryz.prog 175 [.d (.slice 1 (pcs l))] [.slice 1 l.flatten]:=by
 have hlen:=pcs_len l
 refine call_of_vc (x:=jr175) (by kernel_rfl) rfl ?_
 refine loop_st (fun k:Nat=>⟨[(0,.d (.slice 1 (pcs l))),(3,.d (.int .i64 ((l.take k).flatten.length:Int))),(9,.d (.slice 1 (pcs l))),(10,.d (.int .i64 ((pcs l).length:Int))),(11,.d (.int .i64 k))],[.none]⟩) (fun k=>k≤l.length) (fun k=>l.length - k) 0 rfl (Nat.zero_le _) ?_
 intro k hk
 have hk:k≤l.length:=hk
 have hf:=flat_le l k
 dsimp only
 by_cases hkn:k < l.length
 ·refine Exists.elim (get_lt l hkn) fun x hx=>?_
  have hx1:=pcs_at hx
  have hf1:=flat_le l (k+1)
  have e1:=flat_snoc hx
  rw [e1,List.length_append] at hf1
  have fin:∃ a':Nat,(a'≤l.length∧l.length - a' < l.length - k)∧(⟨[(0,.d (.slice 1 (pcs l))),(3,.d (.int .i64 (((l.take k).flatten.length:Int)+(x.length:Int)))),(9,.d (.slice 1 (pcs l))),(10,.d (.int .i64 ((pcs l).length:Int))),(11,.d (.int .i64 ((k:Int)+1)))],[.none]⟩:St)=⟨[(0,.d (.slice 1 (pcs l))),(3,.d (.int .i64 ((l.take a').flatten.length:Int))),(9,.d (.slice 1 (pcs l))),(10,.d (.int .i64 ((pcs l).length:Int))),(11,.d (.int .i64 (a':Nat)))],[.none]⟩ :=
   ⟨k+1,⟨by omega,by omega⟩,by rw [e1,List.length_append]; rfl⟩
  refine sd ?_
  refine b_lt (fun t1=>?_) (fun t1=>?_)
  refine ix_at hx1 ?_ ?_
  (show (0:Int)≤(↑k:Int); omega)
  refine ar_add ?_ ?_
  refine an ?_ ?_
  (show (-9223372036854775808:Int)≤(↑(List.length (List.flatten (List.take k l))):Int)+(↑(List.length x):Int); omega)
  (show (↑(List.length (List.flatten (List.take k l))):Int)+(↑(List.length x):Int)≤(9223372036854775807:Int); omega)
  refine sd ?_
  refine ar_add ?_ ?_
  refine an ?_ ?_
  (show (-9223372036854775808:Int)≤(↑k:Int)+(1:Int); omega)
  (show (↑k:Int)+(1:Int)≤(9223372036854775807:Int); omega)
  rotate_left
  (exfalso; omega)
  all_goals exact fin
 ·have e:l.take k=l:=List.take_of_length_le (by omega)
  rw [e]
  refine sd ?_
  refine b_f (decide_eq_false (by omega)) ?_
  refine Exists.intro (.sl 0 0) (Exists.intro [(0,.row 5 1 [] false)] (And.intro (i200 l.flatten.length (by omega) [.none] 0 rfl) ?_))
  refine loop_st (fun k:Nat=>⟨[(6,.sl 0 (l.take k).flatten.length),(25,.d (.slice 1 (pcs l))),(26,.d (.int .i64 ((pcs l).length:Int))),(27,.d (.int .i64 k))],[.row 5 1 (l.take k).flatten false]⟩) (fun k=>k≤l.length) (fun k=>l.length - k) 0 rfl (Nat.zero_le _) ?_
  intro j hj
  have hj:j≤l.length:=hj
  have hf:=flat_le l j
  dsimp only
  by_cases hjn:j < l.length
  ·refine Exists.elim (get_lt l hjn) fun x hx=>?_
   have hx1:=pcs_at hx
   have hf1:=flat_le l (j+1)
   have e1:=flat_snoc hx
   rw [e1,List.length_append] at hf1
   have fin:∃ a':Nat,(a'≤l.length∧l.length - a' < l.length - j)∧(⟨[(6,.sl 0 ((l.take j).flatten++x).length),(25,.d (.slice 1 (pcs l))),(26,.d (.int .i64 ((pcs l).length:Int))),(27,.d (.int .i64 ((j:Int)+1)))],[.row 5 1 ((l.take j).flatten++x) false]⟩:St)=⟨[(6,.sl 0 (l.take a').flatten.length),(25,.d (.slice 1 (pcs l))),(26,.d (.int .i64 ((pcs l).length:Int))),(27,.d (.int .i64 (a':Nat)))],[.row 5 1 (l.take a').flatten false]⟩ :=
    ⟨j+1,⟨by omega,by omega⟩,by rw [e1]; rfl⟩
   refine sd ?_
   refine b_lt (fun t1=>?_) (fun t1=>?_)
   refine ix_at hx1 ?_ ?_
   (show (0:Int)≤(↑j:Int); omega)
   refine sd ?_
   refine an ?_ ?_
   refine an ?_ ?_
   exact rfl
   refine an ?_ ?_
   exact rfl
   refine an ?_ ?_
   exact rfl
   refine an ?_ ?_
   (show (List.length (List.flatten (List.take j l))+List.length x) * (1:Nat)≤(2:Nat) ^ (47:Nat); omega)
   (show List.length (List.flatten (List.take j l))+List.length x≤(2:Nat) ^ (47:Nat); omega)
   refine ar_add ?_ ?_
   refine an ?_ ?_
   (show (-9223372036854775808:Int)≤(↑j:Int)+(1:Int); omega)
   (show (↑j:Int)+(1:Int)≤(9223372036854775807:Int); omega)
   rotate_left
   (exfalso; omega)
   all_goals exact fin
  ·have e:l.take j=l:=List.take_of_length_le (by omega)
   rw [e]
   refine sd ?_
   refine b_lt (fun t1=>?_) (fun t1=>?_)
   (exfalso; omega)
   refine sd ?_
   exact rfl
end Vc
namespace Vc
def sumL (f:Int→Int):List Int→Int
 | []=>0
 | x::r=>f x+sumL f r
end Vc
namespace Vc
def restN (m n:Int):Nat→Int
 | 0=>n
 | i+1=>restN m n i / m
def digN (m n:Int):Nat→List Int
 | 0=>[]
 | i+1=>digN m n i++[restN m n i % m]
structure An where
 set:List Int
 sum:Int
def uAt (u:List Int) (i:Int):Int:=u[i.toNat]?.getD 0
def rightB (u:List Int) (l:List An):Bool:=l.all fun a=>sumL (uAt u) a.set==a.sum
def zIv (lo hi u:List Int):List Int × List Int:=(List.zipWith min lo u,List.zipWith max hi u)
def kn (m:Int) (h:Nat) (l:List An):Nat→Option (List Int × List Int)
 | 0=>none
 | n+1=>bif rightB (digN m n h) l then (match kn m h l n with
  | none=>some (digN m n h,digN m n h)
  | some o=>some (zIv o.1 o.2 (digN m n h))) else kn m h l n
end Vc
set_option maxRecDepth 10000
set_option maxHeartbeats 4000000
namespace Vc
open Go Go.Proofs
theorem ints_step {α:Type} {l:List α} {k:Nat} {x:α} (f:α→Int) (h:l[k]?=some x):ints ((l.take (k+1)).map f)=ints ((l.take k).map f)++[.int .i64 (f x)]:=by
 rw [take_one h,List.map_append]; unfold ints; rw [List.map_append]; rfl
def ixF {α:Type} (g:α→Bool):List α→Int→Int
 | [],_=>-1
 | x::r,k=>bif g x then k else ixF g r (k+1)
theorem ixF_any {α:Type} (g:α→Bool):∀ (l:List α) (k:Int),0≤k→decide (0≤ixF g l k)=l.any g
 | [],k,h=>rfl
 | x::r,k,h=>by
  rw [ixF,List.any_cons]
  cases g x
  ·exact ixF_any g r (k+1) (by omega)
  ·exact decide_eq_true h
def jr121:AFun:=⟨5,0,[.tmp 2],
 (.seq
 (.reg [] [⟨some 2,.mov (.cst (.d (.int .i64 0))),none⟩])
 (.seq
  (.reg [] [⟨some 3,.mov (.tmp 0),none⟩,
   ⟨some 4,.call 122 [(.tmp 3),(.cst (.d (.int .i64 1))),(.cst (.d (.int .i64 5)))],none⟩,
   ⟨some 2,.mov (.tmp 4),none⟩])
  .ret))⟩
def jr124:AFun:=⟨37,1,[.tmp 4],
 (.seq
 (.reg [] [⟨some 4,.mov (.cst (.d (.int .i64 0))),none⟩])
 (.seq
  (.seq
  (.reg [] [⟨some 9,.mov (.tmp 1),none⟩,
   ⟨some 10,.len (.tmp 9),none⟩,
   ⟨some 11,.cmp .eql (.tmp 10) (.cst (.d (.int .i64 0))),none⟩])
  (.cond (.tmp 11)
   (.seq
   (.reg [] [⟨some 4,.mov (.cst (.d (.int .i64 12))),none⟩])
   .ret)
   .skip))
  (.seq
  (.reg [] [⟨some 5,.mov (.cst (.d (.int .i64 (-1)))),none⟩])
  (.seq
   (.seq
   (.reg [] [⟨some 12,.mov (.tmp 1),none⟩,
    ⟨some 13,.len (.tmp 12),none⟩,
    ⟨some 14,.mov (.cst (.d (.int .i64 0))),none⟩])
   (.post [] [0]
    (.block 0
    (.keep [0,5,12,13,14] []
     (.loop
     (.post [0,5,12,13,14] [0]
      (.seq
      (.reg [] [⟨some 15,.cmp .lss (.tmp 14) (.tmp 13),none⟩])
      (.seq
       (.cond (.tmp 15)
       .skip
       (.exit 0))
       (.seq
       (.block 1
        (.seq
        (.reg [] [⟨some 16,.ixa 1 (.tmp 12) (.tmp 14),none⟩,
         ⟨some 17,.ld false 1 (.tmp 16),none⟩,
         ⟨some 7,.mov (.tmp 17),none⟩])
        (.seq
         (.seq
         (.reg [0] [⟨some 18,.mov (.tmp 7),none⟩,
          ⟨some 19,.cmp .lss (.tmp 18) (.cst (.d (.int .i64 0))),none⟩,
          ⟨some 20,.mov (.tmp 19),none⟩,
          ⟨some 21,.mov (.tmp 7),some (20,false)⟩,
          ⟨some 22,.mov (.tmp 0),some (20,false)⟩,
          ⟨some 23,.cmp .geq (.tmp 21) (.tmp 22),some (20,false)⟩,
          ⟨some 24,.pick (.tmp 20) (.cst (.d (.bool true))) (.tmp 23),none⟩,
          ⟨some 25,.call 103 [(.tmp 24),(.cst (.d (.int .i64 10)))],none⟩,
          ⟨some 26,.mov (.tmp 7),none⟩,
          ⟨some 27,.mov (.tmp 5),none⟩,
          ⟨some 28,.cmp .leq (.tmp 26) (.tmp 27),none⟩,
          ⟨some 29,.call 103 [(.tmp 28),(.cst (.d (.int .i64 11)))],none⟩,
          ⟨some 30,.bsl 0 32 1 2 [(.int .i64 0),(.int .i64 0)] [(0,(.tmp 25)),(1,(.tmp 29))],none⟩,
          ⟨some 31,.call 99 [(.tmp 30)],none⟩,
          ⟨some 8,.mov (.tmp 31),none⟩])
         (.seq
          (.reg [] [⟨some 32,.mov (.tmp 8),none⟩,
           ⟨some 33,.cmp .neq (.tmp 32) (.cst (.d (.int .i64 0))),none⟩])
          (.cond (.tmp 33)
          (.seq
           (.reg [] [⟨some 34,.mov (.tmp 8),none⟩,
            ⟨some 4,.mov (.tmp 34),none⟩])
           .ret)
          .skip)))
         (.reg [] [⟨some 35,.mov (.tmp 7),none⟩,
          ⟨some 5,.mov (.tmp 35),none⟩]))))
       (.reg [] [⟨some 36,.arith .add .i64 (.tmp 14) (.cst (.d (.int .i64 1))),none⟩,
        ⟨some 14,.mov (.tmp 36),none⟩]))))))))))
   (.seq
   (.reg [] [⟨some 4,.mov (.cst (.d (.int .i64 0))),none⟩])
   .ret)))))⟩
def jr123:AFun:=⟨7,0,[.tmp 3],
 (.seq
 (.reg [] [⟨some 3,.mov (.cst (.d (.int .i64 0))),none⟩])
 (.seq
  (.reg [] [⟨some 4,.ld false 1 (.tmp 1),none⟩,
   ⟨some 5,.mov (.tmp 0),none⟩,
   ⟨some 6,.call 124 [(.tmp 4),(.tmp 5)],none⟩,
   ⟨some 3,.mov (.tmp 6),none⟩])
  .ret))⟩
def jr125:AFun:=⟨22,2,[.tmp 4],
 (.seq
 (.reg [] [⟨some 4,.mov (.cst (.nils 1)),none⟩])
 (.seq
  (.reg [] [⟨some 5,.mov (.cst (.nils 1)),none⟩])
  (.seq
  (.seq
   (.reg [] [⟨some 8,.mov (.tmp 0),none⟩,
    ⟨some 9,.len (.tmp 8),none⟩,
    ⟨some 10,.mov (.cst (.d (.int .i64 0))),none⟩])
   (.post [5] [0,1]
   (.block 0
    (.asrow 1 32 1 5
    (.keep [1,5,8,9,10] []
     (.loop
     (.post [1,5,8,9,10] [0,1]
      (.seq
      (.reg [] [⟨some 11,.cmp .lss (.tmp 10) (.tmp 9),none⟩])
      (.seq
       (.cond (.tmp 11)
       .skip
       (.exit 0))
       (.seq
       (.block 1
        (.seq
        (.reg [] [⟨some 12,.ixa 1 (.tmp 8) (.tmp 10),none⟩,
         ⟨some 13,.ld false 1 (.tmp 12),none⟩,
         ⟨some 7,.mov (.tmp 13),none⟩])
        (.reg [0,1] [⟨some 14,.mov (.tmp 5),none⟩,
         ⟨some 15,.mov (.tmp 1),none⟩,
         ⟨some 16,.mov (.tmp 7),none⟩,
         ⟨some 17,.callv (.tmp 15) [(.tmp 16)],none⟩,
         ⟨some 18,.bsl 0 32 1 1 [(.int .i64 0)] [(0,(.tmp 17))],none⟩,
         ⟨some 19,.app 1 32 1 8 (.tmp 14) (.tmp 18),none⟩,
         ⟨some 5,.mov (.tmp 19),none⟩])))
       (.reg [] [⟨some 20,.arith .add .i64 (.tmp 10) (.cst (.d (.int .i64 1))),none⟩,
        ⟨some 10,.mov (.tmp 20),none⟩])))))))))))
  (.seq
   (.reg [] [⟨some 21,.mov (.tmp 5),none⟩,
    ⟨some 4,.mov (.tmp 21),none⟩])
   .ret))))⟩
def jr129:AFun:=⟨5,0,[.tmp 2],
 (.seq
 (.reg [] [⟨some 2,.mov (.cst (.d (.int .i64 0))),none⟩])
 (.seq
  (.reg [] [⟨some 3,.mov (.tmp 0),none⟩,
   ⟨some 4,.call 122 [(.tmp 3),(.cst (.d (.int .i64 0))),(.cst (.d (.int .i64 7)))],none⟩,
   ⟨some 2,.mov (.tmp 4),none⟩])
  .ret))⟩
def jr130:AFun:=⟨22,2,[.tmp 4],
 (.seq
 (.reg [] [⟨some 4,.mov (.cst (.nils 1)),none⟩])
 (.seq
  (.reg [] [⟨some 5,.mov (.cst (.nils 1)),none⟩])
  (.seq
  (.seq
   (.reg [] [⟨some 8,.mov (.tmp 0),none⟩,
    ⟨some 9,.len (.tmp 8),none⟩,
    ⟨some 10,.mov (.cst (.d (.int .i64 0))),none⟩])
   (.post [5] [0,1]
   (.block 0
    (.asrow 1 32 1 5
    (.keep [1,5,8,9,10] []
     (.loop
     (.post [1,5,8,9,10] [0,1]
      (.seq
      (.reg [] [⟨some 11,.cmp .lss (.tmp 10) (.tmp 9),none⟩])
      (.seq
       (.cond (.tmp 11)
       .skip
       (.exit 0))
       (.seq
       (.block 1
        (.seq
        (.reg [] [⟨some 12,.ixa 1 (.tmp 8) (.tmp 10),none⟩,
         ⟨some 13,.ld false 1 (.tmp 12),none⟩,
         ⟨some 7,.mov (.tmp 13),none⟩])
        (.reg [0,1] [⟨some 14,.mov (.tmp 5),none⟩,
         ⟨some 15,.mov (.tmp 1),none⟩,
         ⟨some 16,.mov (.tmp 7),none⟩,
         ⟨some 17,.callv (.tmp 15) [(.tmp 16)],none⟩,
         ⟨some 18,.bsl 0 32 1 1 [(.int .i64 0)] [(0,(.tmp 17))],none⟩,
         ⟨some 19,.app 1 32 1 8 (.tmp 14) (.tmp 18),none⟩,
         ⟨some 5,.mov (.tmp 19),none⟩])))
       (.reg [] [⟨some 20,.arith .add .i64 (.tmp 10) (.cst (.d (.int .i64 1))),none⟩,
        ⟨some 10,.mov (.tmp 20),none⟩])))))))))))
  (.seq
   (.reg [] [⟨some 21,.mov (.tmp 5),none⟩,
    ⟨some 4,.mov (.tmp 21),none⟩])
   .ret))))⟩
def jr131:AFun:=⟨22,0,[.tmp 4],
 (.seq
 (.reg [] [⟨some 4,.mov (.cst (.d (.int .i64 0))),none⟩])
 (.seq
  (.reg [] [⟨some 5,.mov (.cst (.d (.int .i64 0))),none⟩])
  (.seq
  (.seq
   (.reg [] [⟨some 8,.mov (.tmp 1),none⟩,
    ⟨some 9,.len (.tmp 8),none⟩,
    ⟨some 10,.mov (.cst (.d (.int .i64 0))),none⟩])
   (.post [5] []
   (.block 0
    (.keep [0,5,8,9,10] []
    (.loop
     (.post [0,5,8,9,10] []
     (.seq
      (.reg [] [⟨some 11,.cmp .lss (.tmp 10) (.tmp 9),none⟩])
      (.seq
      (.cond (.tmp 11)
       .skip
       (.exit 0))
      (.seq
       (.block 1
       (.seq
        (.reg [] [⟨some 12,.ixa 1 (.tmp 8) (.tmp 10),none⟩,
         ⟨some 13,.ld false 1 (.tmp 12),none⟩,
         ⟨some 7,.mov (.tmp 13),none⟩])
        (.reg [] [⟨some 14,.mov (.tmp 5),none⟩,
         ⟨some 15,.mov (.tmp 0),none⟩,
         ⟨some 16,.mov (.tmp 7),none⟩,
         ⟨some 17,.ixa 1 (.tmp 15) (.tmp 16),none⟩,
         ⟨some 18,.ld false 1 (.tmp 17),none⟩,
         ⟨some 19,.arith .add .i64 (.tmp 14) (.tmp 18),none⟩,
         ⟨some 5,.mov (.tmp 19),none⟩])))
       (.reg [] [⟨some 20,.arith .add .i64 (.tmp 10) (.cst (.d (.int .i64 1))),none⟩,
        ⟨some 10,.mov (.tmp 20),none⟩]))))))))))
  (.seq
   (.reg [] [⟨some 21,.mov (.tmp 5),none⟩,
    ⟨some 4,.mov (.tmp 21),none⟩])
   .ret))))⟩
def jr128:AFun:=⟨26,0,[.tmp 4],
 (.seq
 (.reg [] [⟨some 4,.mov (.cst (.d (.int .i64 0))),none⟩])
 (.seq
  (.reg [] [⟨some 8,.mov (.tmp 0),none⟩,
   ⟨some 9,.len (.tmp 8),none⟩,
   ⟨some 10,.mov (.tmp 1),none⟩,
   ⟨some 11,.len (.tmp 10),none⟩,
   ⟨some 12,.arith .add .i64 (.tmp 9) (.tmp 11),none⟩,
   ⟨some 5,.mov (.tmp 12),none⟩])
  (.seq
  (.seq
   (.reg [] [⟨some 13,.mov (.tmp 0),none⟩,
    ⟨some 14,.len (.tmp 13),none⟩,
    ⟨some 15,.mov (.cst (.d (.int .i64 0))),none⟩])
   (.post [5] []
   (.block 0
    (.keep [1,5,13,14,15] []
    (.loop
     (.post [1,5,13,14,15] []
     (.seq
      (.reg [] [⟨some 16,.cmp .lss (.tmp 15) (.tmp 14),none⟩])
      (.seq
      (.cond (.tmp 16)
       .skip
       (.exit 0))
      (.seq
       (.block 1
       (.seq
        (.reg [] [⟨some 17,.ixa 1 (.tmp 13) (.tmp 15),none⟩,
         ⟨some 18,.ld false 1 (.tmp 17),none⟩,
         ⟨some 7,.mov (.tmp 18),none⟩])
        (.seq
        (.reg [] [⟨some 19,.mov (.tmp 1),none⟩,
         ⟨some 20,.mov (.tmp 7),none⟩,
         ⟨some 21,.call 106 [(.tmp 19),(.tmp 20)],none⟩])
        (.cond (.tmp 21)
         (.reg [] [⟨some 22,.mov (.tmp 5),none⟩,
          ⟨some 23,.arith .sub .i64 (.tmp 22) (.cst (.d (.int .i64 2))),none⟩,
          ⟨some 5,.mov (.tmp 23),none⟩])
         .skip))))
       (.reg [] [⟨some 24,.arith .add .i64 (.tmp 15) (.cst (.d (.int .i64 1))),none⟩,
        ⟨some 15,.mov (.tmp 24),none⟩]))))))))))
  (.seq
   (.reg [] [⟨some 25,.mov (.tmp 5),none⟩,
    ⟨some 4,.mov (.tmp 25),none⟩])
   .ret))))⟩
def jr127:AFun:=⟨16,0,[.tmp 4],
 (.seq
 (.reg [] [⟨some 4,.mov (.cst (.d (.bool false))),none⟩])
 (.seq
  (.reg [] [⟨some 6,.mov (.tmp 0),none⟩,
   ⟨some 7,.ld false 1 (.tmp 1),none⟩,
   ⟨some 8,.call 128 [(.tmp 6),(.tmp 7)],none⟩,
   ⟨some 5,.mov (.tmp 8),none⟩])
  (.seq
  (.reg [] [⟨some 9,.mov (.tmp 5),none⟩,
   ⟨some 10,.cmp .gtr (.tmp 9) (.cst (.d (.int .i64 0))),none⟩,
   ⟨some 11,.mov (.tmp 10),none⟩,
   ⟨some 12,.mov (.tmp 5),some (11,true)⟩,
   ⟨some 13,.ld false 1 (.tmp 2),some (11,true)⟩,
   ⟨some 14,.cmp .lss (.tmp 12) (.tmp 13),some (11,true)⟩,
   ⟨some 15,.pick (.tmp 11) (.tmp 14) (.cst (.d (.bool false))),none⟩,
   ⟨some 4,.mov (.tmp 15),none⟩])
  .ret)))⟩
def jr169:AFun:=⟨19,0,[.tmp 4],
 (.seq
 (.reg [] [⟨some 4,.mov (.cst (.d (.int .i64 0))),none⟩])
 (.seq
  (.seq
  (.reg [] [⟨some 6,.mov (.tmp 0),none⟩,
   ⟨some 7,.len (.tmp 6),none⟩,
   ⟨some 8,.mov (.cst (.d (.int .i64 0))),none⟩])
  (.post [] []
   (.block 0
   (.keep [0,1,7,8] []
    (.loop
    (.post [0,1,7,8] []
     (.seq
     (.reg [] [⟨some 9,.cmp .lss (.tmp 8) (.tmp 7),none⟩])
     (.seq
      (.cond (.tmp 9)
      .skip
      (.exit 0))
      (.seq
      (.block 1
       (.seq
       (.reg [] [⟨some 10,.mov (.tmp 8),none⟩,
        ⟨some 5,.mov (.tmp 10),none⟩])
       (.seq
        (.reg [] [⟨some 11,.mov (.tmp 1),none⟩,
         ⟨some 12,.mov (.tmp 0),none⟩,
         ⟨some 13,.mov (.tmp 5),none⟩,
         ⟨some 14,.ixa 1 (.tmp 12) (.tmp 13),none⟩,
         ⟨some 15,.ld false 1 (.tmp 14),none⟩,
         ⟨some 16,.callv (.tmp 11) [(.tmp 15)],none⟩])
        (.cond (.tmp 16)
        (.seq
         (.reg [] [⟨some 17,.mov (.tmp 5),none⟩,
          ⟨some 4,.mov (.tmp 17),none⟩])
         .ret)
        .skip))))
      (.reg [] [⟨some 18,.arith .add .i64 (.tmp 8) (.cst (.d (.int .i64 1))),none⟩,
       ⟨some 8,.mov (.tmp 18),none⟩]))))))))))
  (.seq
  (.reg [] [⟨some 4,.mov (.cst (.d (.int .i64 (-1)))),none⟩])
  .ret)))⟩
def jr126:AFun:=⟨9,0,[.tmp 4],
 (.seq
 (.reg [] [⟨some 4,.mov (.cst (.d (.bool false))),none⟩])
 (.seq
  (.reg [] [⟨some 5,.mov (.tmp 0),none⟩,
   ⟨some 6,.mov (.tmp 1),none⟩,
   ⟨some 7,.call 169 [(.tmp 5),(.tmp 6)],none⟩,
   ⟨some 8,.cmp .geq (.tmp 7) (.cst (.d (.int .i64 0))),none⟩,
   ⟨some 4,.mov (.tmp 8),none⟩])
  .ret))⟩
end Vc
set_option maxRecDepth 10000
namespace Vc
open Go Go.Proofs
def byt (c:UInt8):Data:=.int .u8 c.toNat
def bys (l:List UInt8):List Data:=l.map byt
def pss (l:List (List UInt8)):List Data:=l.map fun x=>.slice 1 (bys x)
theorem bys_len (l:List UInt8):(bys l).length=l.length:=List.length_map _
theorem pss_len (l:List (List UInt8)):(pss l).length=l.length:=List.length_map _
theorem pss_pcs (l:List (List UInt8)):pss l=pcs (l.map bys):=by
 unfold pss pcs; rw [List.map_map]; rfl
theorem pss_at {l:List (List UInt8)} {k:Nat} {x:List UInt8} (h:l[k]?=some x):(pss l)[((k:Int)).toNat]?=some (.slice 1 (bys x)):=by
 show (l.map _)[k]?=_
 rw [List.getElem?_map,h]; rfl
theorem pss_ix {l:List (List UInt8)} {i:Int} (h0:0≤i) {x:List UInt8} (h:l[i.toNat]?=some x):(pss l)[i.toNat]?=some (.slice 1 (bys x)):=by
 show (l.map _)[i.toNat]?=_
 rw [List.getElem?_map,h]; rfl
theorem bys_at {l:List UInt8} {k:Nat} {x:UInt8} (h:l[k]?=some x):(bys l)[((k:Int)).toNat]?=some (.int .u8 x.toNat):=by
 show (l.map byt)[k]?=_
 rw [List.getElem?_map,h]; rfl
theorem bytesOf_bys:∀ (b:List UInt8),bytesOf (bys b)=some b
 | []=>rfl
 | c::r=>by
  show (match bytesOf (bys r) with | some l=>some (UInt8.ofNat ((c.toNat:Nat):Int).toNat::l) | none=>none)=_
  rw [bytesOf_bys r]
  simp
theorem flat_bys:∀ (l:List (List UInt8)),(l.map bys).flatten=bys l.flatten
 | []=>rfl
 | x::r=>by
  rw [List.map_cons,List.flatten_cons,flat_bys r,List.flatten_cons]
  exact (List.map_append).symm
def totF:List UInt8→Nat→Int
 | [],_=>0
 | b::r,i=>(b.toNat:Int) * ((i:Int)+1)+totF r (i+1)
theorem totF_app:∀ (a b:List UInt8) (i:Nat),totF (a++b) i=totF a i+totF b (i+a.length)
 | [],b,i=>by simp [totF]
 | x::a,b,i=>by
  rw [List.cons_append,totF,totF_app a b (i+1),totF,List.length_cons]
  have e:i+1+a.length=i+(a.length+1):=by omega
  rw [e]; omega
theorem totF_snoc (a:List UInt8) (b:UInt8):totF (a++[b]) 0=totF a 0+((a.length:Int)+1) * (b.toNat:Int):=by
 rw [totF_app]
 show _+((b.toNat:Int) * (((0+a.length:Nat):Int)+1)+0)=_
 rw [Nat.zero_add,Int.add_zero,Int.mul_comm]
theorem totF_nn:∀ (a:List UInt8) (i:Nat),0≤totF a i
 | [],_=>Int.le_refl _
 | x::a,i=>by
  have h1:=totF_nn a (i+1)
  have h2:0≤(x.toNat:Int) * ((i:Int)+1):=Int.mul_nonneg (by omega) (by omega)
  show 0≤(x.toNat:Int) * ((i:Int)+1)+totF a (i+1)
  omega
theorem step_le (x:UInt8) {i:Nat} (hi:i < 1048576):0≤(x.toNat:Int) * ((i:Int)+1)∧(x.toNat:Int) * ((i:Int)+1)≤267386880:=by
 have h1:(x.toNat:Int) < 256:=by have:=x.toNat_lt; omega
 refine ⟨Int.mul_nonneg (by omega) (by omega),?_⟩
 have h2:(x.toNat:Int) * ((i:Int)+1)≤255 * ((i:Int)+1):=Int.mul_le_mul_of_nonneg_right (by omega) (by omega)
 omega
theorem totF_le:∀ (a:List UInt8) (i:Nat),i+a.length≤1048576→totF a i≤267386880 * (a.length:Int)
 | [],_,_=>by simp [totF]
 | x::a,i,h=>by
  rw [List.length_cons] at h
  have h1:=totF_le a (i+1) (by omega)
  have h2:=step_le x (i:=i) (by omega)
  show (x.toNat:Int) * ((i:Int)+1)+totF a (i+1)≤267386880 * ((a.length+1:Nat):Int)
  omega
def psum (l:List (List UInt8)):Int:=totF l.flatten 0 % 9973
theorem mod_step (a b:Int):(a % 9973+b) % 9973=(a+b) % 9973:=by omega
structure Sto where
 ru:Int
 ol:Int
 nw:Int
 su:Int
 ps:List (List UInt8)
 ck:Bool
 tr:Bool
def Sto.d (s:Sto):Data:=.agg [.int .i64 s.ru,.int .i64 s.ol,.int .i64 s.nw,.int .i64 s.su,.slice 1 (pss s.ps),.bool s.ck,.bool s.tr]
def sto0:Sto:=⟨0,0,0,0,[],false,false⟩
def Sto.ok (s:Sto):Prop:=s.ps.length≤1048576∧s.ps.flatten.length≤1048576
theorem flat_mem:∀ {l:List (List UInt8)} {x:List UInt8},x∈l→x.length≤l.flatten.length
 | y::l,x,h=>by
  rw [List.flatten_cons,List.length_append]
  rcases List.mem_cons.1 h with rfl | h
  ·omega
  ·have:=flat_mem h; omega
def miss (l:List (List UInt8)):Bool:=l.any fun b=>(b.length:Int)==0
def formedB (s:Sto):Bool :=
 bif s.nw==0 then (((s.ps.length:Int)==0)&&(s.su==0)&&!s.ck)&&!s.tr else
 bif ((s.ps.length:Int)==0)||(s.ck&&miss s.ps) then false else
 bif s.tr then (s.nw==s.ru)&&s.ck else decide (s.ru < s.nw)
def stoA (s:Sto):Int:=firstOf [within3 s.ru 0 10000,within3 s.ol 0 10000,within3 s.nw 0 10000,bif decide ((16:Int) < (s.ps.length:Int)) then 5 else 0]
def longP (l:List (List UInt8)):Bool:=l.any fun b=>decide ((32:Int) < (b.length:Int))
def stoB (s:Sto):Int:=firstOf [bif longP s.ps then 4 else 0,within3 s.su 0 9972,bif !formedB s then 22 else 0]
def stoC (s:Sto):Int:=bif s.ck&&(psum s.ps != s.su) then 27 else 0
def chkS (s:Sto):Int:=bif stoA s != 0 then stoA s else bif stoB s != 0 then stoB s else stoC s
def chkP (b:List UInt8):Int:=firstOf [bif (b.length:Int)==0 then 12 else 0,bif decide ((32:Int) < (b.length:Int)) then 4 else 0]
def progA (v:Int) (l:List (List UInt8)):Int:=firstOf [within3 v 1 10000,bif (l.length:Int)==0 then 12 else 0,bif decide ((16:Int) < (l.length:Int)) then 5 else 0]
def progE (v:Int) (l:List (List UInt8)):Int:=bif progA v l != 0 then progA v l else firstOf (l.map chkP)
def recvE (s:Sto):Int:=bif (s.nw==0)||s.tr then 22 else 0
def shortP (l:List (List UInt8)):Bool:=bif (l.any fun b=>decide ((33:Int) < (b.length:Int))) then false else decide ((l.length:Int)≤17)
def begE (s:Sto) (v n m:Int):Int:=firstOf [within3 v 1 10000,within3 n 1 16,within3 m 0 9972,bif s.tr then 22 else 0,bif decide (v≤s.ru) then 35 else 0]
def begS (s:Sto) (v n m:Int):Sto:=⟨s.ru,s.ol,v,m,List.replicate n.toNat [],false,false⟩
def recE (s:Sto) (i:Int) (p:List UInt8):Int:=firstOf [recvE s,bif decide (i < 0)||decide ((s.ps.length:Int)≤i) then 10 else 0,chkP p]
def recS (s:Sto) (i:Int) (p:List UInt8):Sto:=⟨s.ru,s.ol,s.nw,s.su,bif (((s.ps[i.toNat]?).getD []).length:Int)==0 then s.ps.set i.toNat p else s.ps,s.ck,s.tr⟩
def cheE (s:Sto):Int:=firstOf [recvE s,bif miss s.ps then 16 else 0,bif psum s.ps != s.su then 27 else 0]
def cheS (s:Sto):Sto:=⟨s.ru,s.ol,s.nw,s.su,s.ps,true,s.tr⟩
def triE (s:Sto):Int:=bif !s.ck||s.tr then 22 else 0
def triS (s:Sto):Sto:=⟨s.nw,s.ru,s.nw,s.su,s.ps,s.ck,true⟩
def endE (s:Sto):Int:=bif !s.tr then 22 else 0
def endS (s:Sto) (r:Int):Sto:=⟨r,s.ol,0,0,[],false,false⟩
def opE (s:Sto) (e:Int):Int:=bif chkS s != 0 then chkS s else e
def opS (s:Sto) (e:Int) (t:Sto):Sto:=bif opE s e != 0 then sto0 else t
theorem first_cons (a:Int) (l:List Int):firstOf (a::l)=bif a != 0 then a else firstOf l:=rfl
theorem first_nz2 (c:Int) (h:c≠0) (l:List Int):firstOf (c::l)=c:=by
 rw [first_cons,bne_iff_ne.2 h]; rfl
theorem op_first (s:Sto) (l:List Int):firstOf (chkS s::l)=opE s (firstOf l):=rfl
theorem op_one (s:Sto) (x:Int):firstOf [chkS s,x]=opE s x:=by
 rw [op_first,first_cons]
 cases h:(x != 0)
 ·have:x=0:=by simpa using h
  rw [this]; rfl
 ·rfl
theorem form_ref {s : Sto} (h : stoA s = 0) :
  ((!(((s.nw==0)&&((s.ps.length:Int)==0)&&(s.su==0)&&!s.ck)&&!s.tr) &&
   !((decide (s.ru < s.nw)&&decide ((0:Int) < (s.ps.length:Int))&&(!s.ck||!miss s.ps))&&!s.tr)) &&
   !((((decide ((0:Int) < s.nw)&&(s.nw==s.ru))&&decide ((0:Int) < (s.ps.length:Int)))&&!miss s.ps)&&s.ck&&s.tr))=!formedB s:=by
 have h1:=within_ok (firstOf_zero h (within3 s.ru 0 10000) (by simp))
 have h2:=within_ok (firstOf_zero h (within3 s.nw 0 10000) (by simp))
 unfold formedB
 generalize miss s.ps=m
 generalize s.ps.length=n
 rcases s with ⟨ru,ol,nw,su,ps,ck,tr⟩
 dsimp only at h1 h2 ⊢
 have e1:decide ((0:Int) < (n:Int))=!((n:Int)==0):=by
  by_cases hn:n=0
  ·subst hn; rfl
  ·rw [decide_eq_true (by omega),show ((n:Int)==0)=false from beq_eq_false_iff_ne.2 (by omega)]; rfl
 rw [e1]
 by_cases hw:nw=0
 ·subst hw
  rw [decide_eq_false (show ¬ ru < 0 by omega)]
  cases ((n:Int)==0) <;> cases (su==0) <;> cases ck <;> cases tr <;> cases m <;> rfl
 ·have e2:(nw==0)=false:=beq_eq_false_iff_ne.2 hw
  rw [e2,decide_eq_true (show (0:Int) < nw by omega)]
  by_cases hr:ru < nw
  ·rw [decide_eq_true hr,show (nw==ru)=false from beq_eq_false_iff_ne.2 (by omega)]
   cases ((n:Int)==0) <;> cases ck <;> cases tr <;> cases m <;> rfl
  ·rw [decide_eq_false hr]
   cases (nw==ru) <;> cases ((n:Int)==0) <;> cases ck <;> cases tr <;> cases m <;> rfl
end Vc
set_option maxRecDepth 10000
set_option maxHeartbeats 4000000
namespace Vc
open Go Go.Proofs
theorem i64_u8 (x:UInt8):IntKind.i64.wrap (x.toNat:Int)=x.toNat:=IntWalk.i64_in _ (by have:=x.toNat_lt; omega)
theorem pss_step {l:List (List UInt8)} {k:Nat} {x:List UInt8} (h:l[k]?=some x):pss (l.take (k+1))=pss (l.take k)++[Vc.Data.slice 1 (bys x)]:=by
 rw [take_one h]; unfold pss; rw [List.map_append]; rfl
theorem lnil {l:List UInt8}:((l.length:Int)==0)=((((bys l).length:Nat):Int)==0):=by rw [bys_len]
def jr64:AFun:=⟨19,0,[.tmp 2],
 (.seq
 (.reg [] [⟨some 2,.mov (.cst (.d (.bool false))),none⟩])
 (.seq
  (.seq
  (.reg [] [⟨some 3,.mov (.cst (.d (.int .i64 0))),none⟩])
  (.post [0] []
   (.block 0
   (.keep [0,3] []
    (.loop
    (.post [0,3] []
     (.seq
     (.seq
      (.reg [] [⟨some 4,.mov (.tmp 3),none⟩,
       ⟨some 5,.mov (.tmp 0),none⟩,
       ⟨some 6,.len (.tmp 5),none⟩,
       ⟨some 7,.cmp .lss (.tmp 4) (.tmp 6),none⟩])
      (.cond (.tmp 7)
      .skip
      (.exit 0)))
     (.seq
      (.block 1
      (.seq
       (.reg [] [⟨some 10,.mov (.tmp 0),none⟩,
        ⟨some 11,.mov (.tmp 3),none⟩,
        ⟨some 12,.ixa 1 (.tmp 10) (.tmp 11),none⟩,
        ⟨some 13,.ld false 1 (.tmp 12),none⟩,
        ⟨some 14,.len (.tmp 13),none⟩,
        ⟨some 15,.cmp .gtr (.tmp 14) (.cst (.d (.int .i64 33))),none⟩])
       (.cond (.tmp 15)
       (.seq
        (.reg [] [⟨some 2,.mov (.cst (.d (.bool false))),none⟩])
        .ret)
       .skip)))
      (.reg [] [⟨some 8,.mov (.tmp 3),none⟩,
       ⟨some 9,.arith .add .i64 (.tmp 8) (.cst (.d (.int .i64 1))),none⟩,
       ⟨some 3,.mov (.tmp 9),none⟩])))))))))
  (.seq
  (.reg [] [⟨some 16,.mov (.tmp 0),none⟩,
   ⟨some 17,.len (.tmp 16),none⟩,
   ⟨some 18,.cmp .leq (.tmp 17) (.cst (.d (.int .i64 17))),none⟩,
   ⟨some 2,.mov (.tmp 18),none⟩])
  .ret)))⟩
def jr66:AFun:=⟨20,4,[.tmp 2],
 (.seq
 (.reg [] [⟨some 2,.mov (.cst (.nils 1)),none⟩])
 (.seq
  (.reg [] [⟨some 3,.mov (.cst (.nils 1)),none⟩])
  (.seq
  (.seq
   (.reg [] [⟨some 6,.mov (.tmp 0),none⟩,
    ⟨some 7,.len (.tmp 6),none⟩,
    ⟨some 8,.mov (.cst (.d (.int .i64 0))),none⟩])
   (.post [3] [0,1,2,3]
   (.block 0
    (.asrow 3 111 1 3
    (.keep [3,6,7,8] []
     (.loop
     (.post [3,6,7,8] [0,1,2,3]
      (.seq
      (.reg [] [⟨some 9,.cmp .lss (.tmp 8) (.tmp 7),none⟩])
      (.seq
       (.cond (.tmp 9)
       .skip
       (.exit 0))
       (.seq
       (.block 1
        (.seq
        (.reg [] [⟨some 10,.ixa 1 (.tmp 6) (.tmp 8),none⟩,
         ⟨some 11,.ld false 1 (.tmp 10),none⟩,
         ⟨some 5,.mov (.tmp 11),none⟩])
        (.reg [0,1,2,3] [⟨some 12,.mov (.tmp 3),none⟩,
         ⟨some 13,.bsl 0 5 1 0 [] [],none⟩,
         ⟨some 14,.mov (.tmp 5),none⟩,
         ⟨some 15,.app 1 5 1 1 (.tmp 13) (.tmp 14),none⟩,
         ⟨some 16,.bsl 2 111 1 1 [(.slice 1 [])] [(0,(.tmp 15))],none⟩,
         ⟨some 17,.app 3 111 1 24 (.tmp 12) (.tmp 16),none⟩,
         ⟨some 3,.mov (.tmp 17),none⟩])))
       (.reg [] [⟨some 18,.arith .add .i64 (.tmp 8) (.cst (.d (.int .i64 1))),none⟩,
        ⟨some 8,.mov (.tmp 18),none⟩])))))))))))
  (.seq
   (.reg [] [⟨some 19,.mov (.tmp 3),none⟩,
    ⟨some 2,.mov (.tmp 19),none⟩])
   .ret))))⟩
def jr139:AFun:=⟨13,1,[.tmp 2],
 (.seq
 (.reg [] [⟨some 2,.mov (.cst (.d (.int .i64 0))),none⟩])
 (.seq
  (.reg [0] [⟨some 3,.mov (.tmp 0),none⟩,
   ⟨some 4,.len (.tmp 3),none⟩,
   ⟨some 5,.cmp .eql (.tmp 4) (.cst (.d (.int .i64 0))),none⟩,
   ⟨some 6,.call 103 [(.tmp 5),(.cst (.d (.int .i64 12)))],none⟩,
   ⟨some 7,.mov (.tmp 0),none⟩,
   ⟨some 8,.len (.tmp 7),none⟩,
   ⟨some 9,.cmp .gtr (.tmp 8) (.cst (.d (.int .i64 32))),none⟩,
   ⟨some 10,.call 103 [(.tmp 9),(.cst (.d (.int .i64 4)))],none⟩,
   ⟨some 11,.bsl 0 32 1 2 [(.int .i64 0),(.int .i64 0)] [(0,(.tmp 6)),(1,(.tmp 10))],none⟩,
   ⟨some 12,.call 99 [(.tmp 11)],none⟩,
   ⟨some 2,.mov (.tmp 12),none⟩])
  .ret))⟩
def jr138:AFun:=⟨22,2,[.tmp 4],
 (.seq
 (.reg [] [⟨some 4,.mov (.cst (.nils 1)),none⟩])
 (.seq
  (.reg [] [⟨some 5,.mov (.cst (.nils 1)),none⟩])
  (.seq
  (.seq
   (.reg [] [⟨some 8,.mov (.tmp 0),none⟩,
    ⟨some 9,.len (.tmp 8),none⟩,
    ⟨some 10,.mov (.cst (.d (.int .i64 0))),none⟩])
   (.post [5] [0,1]
   (.block 0
    (.asrow 1 32 1 5
    (.keep [1,5,8,9,10] []
     (.loop
     (.post [1,5,8,9,10] [0,1]
      (.seq
      (.reg [] [⟨some 11,.cmp .lss (.tmp 10) (.tmp 9),none⟩])
      (.seq
       (.cond (.tmp 11)
       .skip
       (.exit 0))
       (.seq
       (.block 1
        (.seq
        (.reg [] [⟨some 12,.ixa 1 (.tmp 8) (.tmp 10),none⟩,
         ⟨some 13,.ld false 1 (.tmp 12),none⟩,
         ⟨some 7,.mov (.tmp 13),none⟩])
        (.reg [0,1] [⟨some 14,.mov (.tmp 5),none⟩,
         ⟨some 15,.mov (.tmp 1),none⟩,
         ⟨some 16,.mov (.tmp 7),none⟩,
         ⟨some 17,.callv (.tmp 15) [(.tmp 16)],none⟩,
         ⟨some 18,.bsl 0 32 1 1 [(.int .i64 0)] [(0,(.tmp 17))],none⟩,
         ⟨some 19,.app 1 32 1 8 (.tmp 14) (.tmp 18),none⟩,
         ⟨some 5,.mov (.tmp 19),none⟩])))
       (.reg [] [⟨some 20,.arith .add .i64 (.tmp 10) (.cst (.d (.int .i64 1))),none⟩,
        ⟨some 10,.mov (.tmp 20),none⟩])))))))))))
  (.seq
   (.reg [] [⟨some 21,.mov (.tmp 5),none⟩,
    ⟨some 4,.mov (.tmp 21),none⟩])
   .ret))))⟩
def jr177:AFun:=⟨6,0,[.tmp 2],
 (.seq
 (.reg [] [⟨some 2,.mov (.cst (.d (.bool false))),none⟩])
 (.seq
  (.reg [] [⟨some 3,.mov (.tmp 0),none⟩,
   ⟨some 4,.len (.tmp 3),none⟩,
   ⟨some 5,.cmp .eql (.tmp 4) (.cst (.d (.int .i64 0))),none⟩,
   ⟨some 2,.mov (.tmp 5),none⟩])
  .ret))⟩
def jr149:AFun:=⟨6,0,[.tmp 2],
 (.seq
 (.reg [] [⟨some 2,.mov (.cst (.d (.bool false))),none⟩])
 (.seq
  (.reg [] [⟨some 3,.mov (.tmp 0),none⟩,
   ⟨some 4,.len (.tmp 3),none⟩,
   ⟨some 5,.cmp .gtr (.tmp 4) (.cst (.d (.int .i64 32))),none⟩,
   ⟨some 2,.mov (.tmp 5),none⟩])
  .ret))⟩
def jr147:AFun:=⟨5,0,[.tmp 2],
 (.seq
 (.reg [] [⟨some 2,.mov (.cst (.d (.int .i64 0))),none⟩])
 (.seq
  (.reg [] [⟨some 3,.mov (.tmp 0),none⟩,
   ⟨some 4,.call 122 [(.tmp 3),(.cst (.d (.int .i64 0))),(.cst (.d (.int .i64 10000)))],none⟩,
   ⟨some 2,.mov (.tmp 4),none⟩])
  .ret))⟩
def jr178:AFun:=⟨19,0,[.tmp 4],
 (.seq
 (.reg [] [⟨some 4,.mov (.cst (.d (.int .i64 0))),none⟩])
 (.seq
  (.seq
  (.reg [] [⟨some 6,.mov (.tmp 0),none⟩,
   ⟨some 7,.len (.tmp 6),none⟩,
   ⟨some 8,.mov (.cst (.d (.int .i64 0))),none⟩])
  (.post [] []
   (.block 0
   (.keep [0,1,7,8] []
    (.loop
    (.post [0,1,7,8] []
     (.seq
     (.reg [] [⟨some 9,.cmp .lss (.tmp 8) (.tmp 7),none⟩])
     (.seq
      (.cond (.tmp 9)
      .skip
      (.exit 0))
      (.seq
      (.block 1
       (.seq
       (.reg [] [⟨some 10,.mov (.tmp 8),none⟩,
        ⟨some 5,.mov (.tmp 10),none⟩])
       (.seq
        (.reg [] [⟨some 11,.mov (.tmp 1),none⟩,
         ⟨some 12,.mov (.tmp 0),none⟩,
         ⟨some 13,.mov (.tmp 5),none⟩,
         ⟨some 14,.ixa 1 (.tmp 12) (.tmp 13),none⟩,
         ⟨some 15,.ld false 1 (.tmp 14),none⟩,
         ⟨some 16,.callv (.tmp 11) [(.tmp 15)],none⟩])
        (.cond (.tmp 16)
        (.seq
         (.reg [] [⟨some 17,.mov (.tmp 5),none⟩,
          ⟨some 4,.mov (.tmp 17),none⟩])
         .ret)
        .skip))))
      (.reg [] [⟨some 18,.arith .add .i64 (.tmp 8) (.cst (.d (.int .i64 1))),none⟩,
       ⟨some 8,.mov (.tmp 18),none⟩]))))))))))
  (.seq
  (.reg [] [⟨some 4,.mov (.cst (.d (.int .i64 (-1)))),none⟩])
  .ret)))⟩
def jr148:AFun:=⟨9,0,[.tmp 4],
 (.seq
 (.reg [] [⟨some 4,.mov (.cst (.d (.bool false))),none⟩])
 (.seq
  (.reg [] [⟨some 5,.mov (.tmp 0),none⟩,
   ⟨some 6,.mov (.tmp 1),none⟩,
   ⟨some 7,.call 178 [(.tmp 5),(.tmp 6)],none⟩,
   ⟨some 8,.cmp .geq (.tmp 7) (.cst (.d (.int .i64 0))),none⟩,
   ⟨some 4,.mov (.tmp 8),none⟩])
  .ret))⟩
def jr143:AFun:=⟨6,1,[.tmp 2],
 (.seq
 (.reg [0] [⟨some 1,.cbx 0 7 (.tmp 0),none⟩,
  ⟨some 2,.mov (.cst (.d (.bool false))),none⟩])
 (.seq
  (.reg [] [⟨some 3,.fad 4 (.tmp 1),none⟩,
   ⟨some 4,.ld false 1 (.tmp 3),none⟩,
   ⟨some 5,.call 148 [(.tmp 4),(.cst (.d (.fn (.func 177) [])))],none⟩,
   ⟨some 2,.mov (.tmp 5),none⟩])
  .ret))⟩
def jr140:AFun:=⟨24,0,[.tmp 2],
 (.seq
 (.reg [] [⟨some 2,.mov (.cst (.d (.int .i64 0))),none⟩])
 (.seq
  (.reg [] [⟨some 3,.mov (.cst (.d (.int .i64 0))),none⟩])
  (.seq
  (.seq
   (.reg [] [⟨some 6,.mov (.tmp 0),none⟩,
    ⟨some 7,.call 175 [(.tmp 6)],none⟩,
    ⟨some 8,.len (.tmp 7),none⟩,
    ⟨some 9,.mov (.cst (.d (.int .i64 0))),none⟩])
   (.post [3] []
   (.block 0
    (.keep [3,7,8,9] []
    (.loop
     (.post [3,7,8,9] []
     (.seq
      (.reg [] [⟨some 10,.cmp .lss (.tmp 9) (.tmp 8),none⟩])
      (.seq
      (.cond (.tmp 10)
       .skip
       (.exit 0))
      (.seq
       (.block 1
       (.seq
        (.reg [] [⟨some 11,.mov (.tmp 9),none⟩,
         ⟨some 12,.ixa 1 (.tmp 7) (.tmp 9),none⟩,
         ⟨some 13,.ld false 1 (.tmp 12),none⟩,
         ⟨some 4,.mov (.tmp 11),none⟩,
         ⟨some 5,.mov (.tmp 13),none⟩])
        (.reg [] [⟨some 14,.mov (.tmp 3),none⟩,
         ⟨some 15,.mov (.tmp 5),none⟩,
         ⟨some 16,.conv .i64 (.tmp 15),none⟩,
         ⟨some 17,.mov (.tmp 4),none⟩,
         ⟨some 18,.arith .add .i64 (.tmp 17) (.cst (.d (.int .i64 1))),none⟩,
         ⟨some 19,.arith .mul .i64 (.tmp 16) (.tmp 18),none⟩,
         ⟨some 20,.arith .add .i64 (.tmp 14) (.tmp 19),none⟩,
         ⟨some 21,.arith .rem .i64 (.tmp 20) (.cst (.d (.int .i64 9973))),none⟩,
         ⟨some 3,.mov (.tmp 21),none⟩])))
       (.reg [] [⟨some 22,.arith .add .i64 (.tmp 9) (.cst (.d (.int .i64 1))),none⟩,
        ⟨some 9,.mov (.tmp 22),none⟩]))))))))))
  (.seq
   (.reg [] [⟨some 23,.mov (.tmp 3),none⟩,
    ⟨some 2,.mov (.tmp 23),none⟩])
   .ret))))⟩
def jr141:AFun:=⟨11,1,[.tmp 2],
 (.seq
 (.reg [0] [⟨some 1,.cbx 0 7 (.tmp 0),none⟩,
  ⟨some 2,.mov (.cst (.d (.int .i64 0))),none⟩])
 (.seq
  (.reg [] [⟨some 3,.fad 2 (.tmp 1),none⟩,
   ⟨some 4,.ld false 1 (.tmp 3),none⟩,
   ⟨some 5,.cmp .eql (.tmp 4) (.cst (.d (.int .i64 0))),none⟩,
   ⟨some 6,.mov (.tmp 5),none⟩,
   ⟨some 7,.fad 6 (.tmp 1),some (6,false)⟩,
   ⟨some 8,.ld false 1 (.tmp 7),some (6,false)⟩,
   ⟨some 9,.pick (.tmp 6) (.cst (.d (.bool true))) (.tmp 8),none⟩,
   ⟨some 10,.call 103 [(.tmp 9),(.cst (.d (.int .i64 22)))],none⟩,
   ⟨some 2,.mov (.tmp 10),none⟩])
  .ret))⟩
def jr145:AFun:=⟨13,1,[.tmp 2],
 (.seq
 (.reg [] [⟨some 2,.mov (.cst (.d (.int .i64 0))),none⟩])
 (.seq
  (.reg [0] [⟨some 3,.mov (.tmp 0),none⟩,
   ⟨some 4,.len (.tmp 3),none⟩,
   ⟨some 5,.cmp .eql (.tmp 4) (.cst (.d (.int .i64 0))),none⟩,
   ⟨some 6,.call 22 [(.tmp 5),(.cst (.d (.int .i64 12)))],none⟩,
   ⟨some 7,.mov (.tmp 0),none⟩,
   ⟨some 8,.len (.tmp 7),none⟩,
   ⟨some 9,.cmp .gtr (.tmp 8) (.cst (.d (.int .i64 32))),none⟩,
   ⟨some 10,.call 22 [(.tmp 9),(.cst (.d (.int .i64 4)))],none⟩,
   ⟨some 11,.bsl 0 3 1 2 [(.int .i64 0),(.int .i64 0)] [(0,(.tmp 6)),(1,(.tmp 10))],none⟩,
   ⟨some 12,.call 110 [(.tmp 11)],none⟩,
   ⟨some 2,.mov (.tmp 12),none⟩])
  .ret))⟩
def jr146:AFun:=⟨16,0,[.tmp 2],
 (.seq
 (.reg [] [⟨some 2,.mov (.cst (.d (.bool false))),none⟩])
 (.seq
  (.seq
  (.reg [] [⟨some 3,.mov (.cst (.d (.int .i64 0))),none⟩])
  (.post [] []
   (.block 0
   (.keep [0,3] []
    (.loop
    (.post [0,3] []
     (.seq
     (.seq
      (.reg [] [⟨some 4,.mov (.tmp 3),none⟩,
       ⟨some 5,.mov (.tmp 0),none⟩,
       ⟨some 6,.len (.tmp 5),none⟩,
       ⟨some 7,.cmp .lss (.tmp 4) (.tmp 6),none⟩])
      (.cond (.tmp 7)
      .skip
      (.exit 0)))
     (.seq
      (.block 1
      (.seq
       (.reg [] [⟨some 10,.mov (.tmp 0),none⟩,
        ⟨some 11,.mov (.tmp 3),none⟩,
        ⟨some 12,.ixa 1 (.tmp 10) (.tmp 11),none⟩,
        ⟨some 13,.ld false 1 (.tmp 12),none⟩,
        ⟨some 14,.len (.tmp 13),none⟩,
        ⟨some 15,.cmp .eql (.tmp 14) (.cst (.d (.int .i64 0))),none⟩])
       (.cond (.tmp 15)
       (.seq
        (.reg [] [⟨some 2,.mov (.cst (.d (.bool false))),none⟩])
        .ret)
       .skip)))
      (.reg [] [⟨some 8,.mov (.tmp 3),none⟩,
       ⟨some 9,.arith .add .i64 (.tmp 8) (.cst (.d (.int .i64 1))),none⟩,
       ⟨some 3,.mov (.tmp 9),none⟩])))))))))
  (.seq
  (.reg [] [⟨some 2,.mov (.cst (.d (.bool true))),none⟩])
  .ret)))⟩
def jr76:AFun:=⟨38,0,[.tmp 2],
 (.seq
 (.reg [] [⟨some 2,.mov (.cst (.d (.int .i64 0))),none⟩])
 (.seq
  (.reg [] [⟨some 3,.mov (.cst (.d (.int .i64 0))),none⟩,
   ⟨some 4,.mov (.cst (.d (.int .i64 0))),none⟩])
  (.seq
  (.seq
   (.reg [] [⟨some 5,.mov (.cst (.d (.int .i64 0))),none⟩])
   (.post [3] []
   (.block 0
    (.keep [0,3,4,5] []
    (.loop
     (.post [0,3,4,5] []
     (.seq
      (.seq
      (.reg [] [⟨some 7,.mov (.tmp 5),none⟩,
       ⟨some 8,.mov (.tmp 0),none⟩,
       ⟨some 9,.len (.tmp 8),none⟩,
       ⟨some 10,.cmp .lss (.tmp 7) (.tmp 9),none⟩])
      (.cond (.tmp 10)
       .skip
       (.exit 0)))
      (.seq
      (.block 1
       (.seq
       (.reg [] [⟨some 6,.mov (.cst (.d (.int .i64 0))),none⟩])
       (.post [0,3,4,5] []
        (.block 2
        (.keep [0,3,4,5,6] []
         (.loop
         (.post [0,3,4,5,6] []
          (.seq
          (.seq
           (.reg [] [⟨some 13,.mov (.tmp 6),none⟩,
            ⟨some 14,.mov (.tmp 0),none⟩,
            ⟨some 15,.mov (.tmp 5),none⟩,
            ⟨some 16,.ixa 1 (.tmp 14) (.tmp 15),none⟩,
            ⟨some 17,.ld false 1 (.tmp 16),none⟩,
            ⟨some 18,.len (.tmp 17),none⟩,
            ⟨some 19,.cmp .lss (.tmp 13) (.tmp 18),none⟩])
           (.cond (.tmp 19)
           .skip
           (.exit 2)))
          (.seq
           (.block 3
           (.seq
            (.reg [] [⟨some 22,.mov (.tmp 4),none⟩,
             ⟨some 23,.arith .add .i64 (.tmp 22) (.cst (.d (.int .i64 1))),none⟩,
             ⟨some 4,.mov (.tmp 23),none⟩])
            (.reg [] [⟨some 24,.mov (.tmp 3),none⟩,
             ⟨some 25,.mov (.tmp 4),none⟩,
             ⟨some 26,.mov (.tmp 0),none⟩,
             ⟨some 27,.mov (.tmp 5),none⟩,
             ⟨some 28,.ixa 1 (.tmp 26) (.tmp 27),none⟩,
             ⟨some 29,.ld false 1 (.tmp 28),none⟩,
             ⟨some 30,.mov (.tmp 6),none⟩,
             ⟨some 31,.ixa 1 (.tmp 29) (.tmp 30),none⟩,
             ⟨some 32,.ld false 1 (.tmp 31),none⟩,
             ⟨some 33,.conv .i64 (.tmp 32),none⟩,
             ⟨some 34,.arith .mul .i64 (.tmp 25) (.tmp 33),none⟩,
             ⟨some 35,.arith .add .i64 (.tmp 24) (.tmp 34),none⟩,
             ⟨some 3,.mov (.tmp 35),none⟩])))
           (.reg [] [⟨some 20,.mov (.tmp 6),none⟩,
            ⟨some 21,.arith .add .i64 (.tmp 20) (.cst (.d (.int .i64 1))),none⟩,
            ⟨some 6,.mov (.tmp 21),none⟩]))))))))))
      (.reg [] [⟨some 11,.mov (.tmp 5),none⟩,
       ⟨some 12,.arith .add .i64 (.tmp 11) (.cst (.d (.int .i64 1))),none⟩,
       ⟨some 5,.mov (.tmp 12),none⟩])))))))))
  (.seq
   (.reg [] [⟨some 36,.mov (.tmp 3),none⟩,
    ⟨some 37,.arith .rem .i64 (.tmp 36) (.cst (.d (.int .i64 9973))),none⟩,
    ⟨some 2,.mov (.tmp 37),none⟩])
   .ret))))⟩
def jr179:AFun:=⟨10,0,[.tmp 4],
 (.seq
 (.reg [] [⟨some 4,.mov (.cst (.d (.bool false))),none⟩])
 (.seq
  (.reg [] [⟨some 5,.mov (.tmp 0),none⟩,
   ⟨some 6,.b2s (.tmp 5),none⟩,
   ⟨some 7,.mov (.tmp 1),none⟩,
   ⟨some 8,.b2s (.tmp 7),none⟩,
   ⟨some 9,.seq false (.tmp 6) (.tmp 8),none⟩,
   ⟨some 4,.mov (.tmp 9),none⟩])
  .ret))⟩
theorem c138 (l:List (List UInt8)) (hl:l.length≤1048576) (f:Nat) (g:(List UInt8)→Int) (hg:∀ x∈l,CallDet Tryz.prog f [.d (.slice 1 (bys x))] [.int .i64 (g x)]):CallDet Tryz.prog 138 [.d (.slice 1 (pss l)),.d (.fn (.func f) [])] [.slice 1 (ints (l.map g))]:=by
 have hlen:(pss l).length=l.length:=List.length_map _
 have hm:(ints (l.map g)).length=l.length:=by unfold ints; rw [List.length_map,List.length_map]
 refine call_of_vc (x:=jr138) (by kernel_rfl) rfl ?_
 refine loop_st (fun k:Nat=>⟨[(1,.d (.fn (.func f) [])),(5,.sl 1 (ints ((l.take k).map g)).length),(8,.d (.slice 1 (pss l))),(9,.d (.int .i64 ((pss l).length:Int))),(10,.d (.int .i64 k))],[.none,.row 32 1 (ints ((l.take k).map g)) false]⟩) (fun k=>k≤l.length) (fun k=>l.length - k) 0 rfl (Nat.zero_le _) ?_
 intro k hk
 have hk:k≤l.length:=hk
 have hb:(ints ((l.take k).map g)).length=k:=by unfold ints; rw [List.length_map,List.length_map,List.length_take]; omega
 dsimp only
 refine sd ?_
 refine b_lt (fun h=>?_) (fun h=>?_)
 ·have h:(k:Int) < ((pss l).length:Int):=h
  refine Exists.elim (get_lt l (k:=k) (by omega)) fun x hx=>?_
  refine ix_at (pss_at hx) (by omega) ?_
  refine ca (hg x (List.mem_of_getElem? hx)) ?_
  repeat refine sd ?_
  refine And.intro ⟨rfl,rfl,rfl,?_,?_⟩ ?_
  ·show ((ints ((l.take k).map g)).length+1) * 8≤2 ^ 47
   omega
  ·show (ints ((l.take k).map g)).length+1≤2 ^ 47
   omega
  refine ar_add (by omega) ?_
  refine ⟨k+1,⟨by omega,by omega⟩,?_⟩
  rw [ints_step g hx]; rfl
 ·have h:¬ (k:Int) < ((pss l).length:Int):=h
  have e:l.take k=l:=List.take_of_length_le (by omega)
  rw [e]
  exact ⟨rfl,rfl⟩
theorem c178 (l:List (List UInt8)) (hl:l.length≤1048576) (f:Nat) (g:(List UInt8)→Bool) (hg:∀ x∈l,CallDet Tryz.prog f [.d (.slice 1 (bys x))] [.bool (g x)]):CallDet Tryz.prog 178 [.d (.slice 1 (pss l)),.d (.fn (.func f) [])] [.int .i64 (ixF g l 0)]:=by
 have hlen:(pss l).length=l.length:=List.length_map _
 refine call_of_vc (x:=jr178) (by kernel_rfl) rfl ?_
 refine loop_st (fun k:Nat=>⟨[(0,.d (.slice 1 (pss l))),(1,.d (.fn (.func f) [])),(7,.d (.int .i64 ((pss l).length:Int))),(8,.d (.int .i64 k))],[]⟩) (fun k=>k≤l.length∧ixF g l 0=ixF g (l.drop k) k) (fun k=>l.length - k) 0 rfl ⟨Nat.zero_le _,rfl⟩ ?_
 rintro k ⟨hk,hi⟩
 dsimp only
 refine sd ?_
 refine b_lt (fun h=>?_) (fun h=>?_)
 ·have h:(k:Int) < ((pss l).length:Int):=h
  refine Exists.elim (get_lt l (k:=k) (by omega)) fun x hx=>?_
  refine ix_at (pss_at hx) (by omega) ?_
  refine ca (hg x (List.mem_of_getElem? hx)) ?_
  rw [drop_at hx] at hi
  refine b_intro (fun t=>?_) (fun t=>?_)
  ·show resV [.int .i64 (k:Int)]=resV [.int .i64 (ixF g l 0)]
   rw [hi,ixF,t]; rfl
  ·refine ar_add (by omega) ?_
   refine ⟨k+1,⟨⟨by omega,?_⟩,by omega⟩,rfl⟩
   rw [hi,ixF,t]; rfl
 ·have h:¬ (k:Int) < ((pss l).length:Int):=h
  have e:l.drop k=[]:=List.drop_eq_nil_of_le (by omega)
  rw [e] at hi
  show resV [.int .i64 (-1)]=resV [.int .i64 (ixF g l 0)]
  rw [hi]; rfl
theorem c148 (l:List (List UInt8)) (hl:l.length≤1048576) (f:Nat) (g:(List UInt8)→Bool) (hg:∀ x∈l,CallDet Tryz.prog f [.d (.slice 1 (bys x))] [.bool (g x)]):CallDet Tryz.prog 148 [.d (.slice 1 (pss l)),.d (.fn (.func f) [])] [.bool (l.any g)]:=by
 refine call_of_vc (x:=jr148) (by kernel_rfl) rfl ?_
 refine ca (c178 l hl f g hg) ?_
 refine sd ?_
 show resV [.bool (decide (0≤ixF g l 0))]=resV [.bool (l.any g)]
 rw [ixF_any g l 0 (by omega)]
theorem c64 (l:List (List UInt8)) (hl:l.length≤1048576):CallDet Tryz.prog 64 [.d (.slice 1 (pss l))] [.bool (shortP l)]:=by
 have hll:=pss_len l
 refine call_of_vc (x:=jr64) (by kernel_rfl) rfl ?_
 refine loop_st (fun k:Nat=>⟨[(0,.d (.slice 1 (pss l))),(3,.d (.int .i64 k))],[]⟩) (fun k=>k≤l.length∧(l.any fun b=>decide ((33:Int) < (b.length:Int)))=((l.drop k).any fun b=>decide ((33:Int) < (b.length:Int)))) (fun k=>l.length - k) 0 rfl ⟨Nat.zero_le _,rfl⟩ ?_
 rintro k ⟨hk,hi⟩
 dsimp only
 by_cases hkn:k < l.length
 ·refine Exists.elim (get_lt l hkn) fun x hx=>?_
  have hx1:=pss_at hx
  have hlx:=bys_len x
  rw [drop_at hx,List.any_cons] at hi
  have fin:decide ((33:Int) < (x.length:Int))=false→∃ a':Nat,((a'≤l.length∧(l.any fun b=>decide ((33:Int) < (b.length:Int)))=((l.drop a').any fun b=>decide ((33:Int) < (b.length:Int))))∧l.length - a' < l.length - k)∧(⟨[(0,.d (.slice 1 (pss l))),(3,.d (.int .i64 ((k:Int)+1)))],[]⟩:St)=⟨[(0,.d (.slice 1 (pss l))),(3,.d (.int .i64 (a':Nat)))],[]⟩:=fun h =>
   ⟨k+1,⟨⟨by omega,by rw [hi,h]; rfl⟩,by omega⟩,rfl⟩
  refine sd ?_
  refine b_lt (fun t1=>?_) (fun t1=>?_)
  refine ix_at hx1 ?_ ?_
  (show (0:Int)≤(↑k:Int); omega)
  refine sd ?_
  refine b_lt (fun t2=>?_) (fun t2=>?_)
  rotate_left
  refine ar_add ?_ ?_
  refine an ?_ ?_
  (show (-9223372036854775808:Int)≤(↑k:Int)+(1:Int); omega)
  (show (↑k:Int)+(1:Int)≤(9223372036854775807:Int); omega)
  rotate_left
  (exfalso; omega)
  ·unfold shortP
   rw [hi,decide_eq_true (show (33:Int) < (x.length:Int) by omega)]; rfl
  ·exact fin (decide_eq_false (by omega))
 ·have e:l.drop k=[]:=List.drop_eq_nil_of_le (by omega)
  rw [e] at hi
  have hs:shortP l=decide ((l.length:Int)≤17):=by unfold shortP; rw [hi]; rfl
  rw [hs,← hll]
  refine sd ?_
  refine b_lt (fun t1=>?_) (fun t1=>?_)
  (exfalso; omega)
  refine sd ?_
  exact rfl
theorem c66 (l:List (List UInt8)) (hl:l.length≤1048576) (hb:∀ o∈l,o.length≤1048576):CallDet Tryz.prog 66 [.d (.slice 1 (pss l))] [.slice 1 (pss l)]:=by
 have hll:=pss_len l
 refine call_of_vc (x:=jr66) (by kernel_rfl) rfl ?_
 refine loop_st (fun k:Nat=>⟨[(3,.sl 3 (pss (l.take k)).length),(6,.d (.slice 1 (pss l))),(7,.d (.int .i64 ((pss l).length:Int))),(8,.d (.int .i64 k))],[.none,.none,.none,.row 111 1 (pss (l.take k)) false]⟩) (fun k=>k≤l.length) (fun k=>l.length - k) 0 rfl (Nat.zero_le _) ?_
 intro k hk
 have hk:k≤l.length:=hk
 have hlk:=pss_len (l.take k)
 rw [List.length_take] at hlk
 dsimp only
 by_cases hkn:k < l.length
 ·refine Exists.elim (get_lt l hkn) fun x hx=>?_
  have hx1:=pss_at hx
  have hlx:=bys_len x
  have hbx:=hb x (List.mem_of_getElem? hx)
  have fin:∃ a':Nat,(a'≤l.length∧l.length - a' < l.length - k)∧(⟨[(3,.sl 3 (pss (l.take k)++[Vc.Data.slice 1 (bys x)]).length),(6,.d (.slice 1 (pss l))),(7,.d (.int .i64 ((pss l).length:Int))),(8,.d (.int .i64 ((k:Int)+1)))],[.none,.none,.none,.row 111 1 (pss (l.take k)++[Vc.Data.slice 1 (bys x)]) false]⟩:St)=⟨[(3,.sl 3 (pss (l.take a')).length),(6,.d (.slice 1 (pss l))),(7,.d (.int .i64 ((pss l).length:Int))),(8,.d (.int .i64 (a':Nat)))],[.none,.none,.none,.row 111 1 (pss (l.take a')) false]⟩ :=
   ⟨k+1,⟨by omega,by omega⟩,by rw [pss_step hx]; rfl⟩
  refine sd ?_
  refine b_lt (fun t1=>?_) (fun t1=>?_)
  refine ix_at hx1 ?_ ?_
  (show (0:Int)≤(↑k:Int); omega)
  refine sd ?_
  refine sd ?_
  refine an ?_ ?_
  refine an ?_ ?_
  exact rfl
  refine an ?_ ?_
  exact rfl
  refine an ?_ ?_
  exact rfl
  refine an ?_ ?_
  (show ((0:Nat)+List.length (bys x)) * (1:Nat)≤(2:Nat) ^ (47:Nat); omega)
  (show (0:Nat)+List.length (bys x)≤(2:Nat) ^ (47:Nat); omega)
  refine sd ?_
  refine sd ?_
  refine sd ?_
  refine sd ?_
  refine an ?_ ?_
  refine an ?_ ?_
  exact rfl
  refine an ?_ ?_
  exact rfl
  refine an ?_ ?_
  exact rfl
  refine an ?_ ?_
  (show (List.length (pss (List.take k l))+(1:Nat)) * (24:Nat)≤(2:Nat) ^ (47:Nat); omega)
  (show List.length (pss (List.take k l))+(1:Nat)≤(2:Nat) ^ (47:Nat); omega)
  refine ar_add ?_ ?_
  refine an ?_ ?_
  (show (-9223372036854775808:Int)≤(↑k:Int)+(1:Int); omega)
  (show (↑k:Int)+(1:Int)≤(9223372036854775807:Int); omega)
  rotate_left
  (exfalso; omega)
  all_goals exact fin
 ·have e:l.take k=l:=List.take_of_length_le (by omega)
  rw [e]
  refine sd ?_
  refine b_lt (fun t1=>?_) (fun t1=>?_)
  (exfalso; omega)
  refine sd ?_
  exact rfl
theorem c139 (b:List UInt8) (hb:b.length≤1048576):CallDet Tryz.prog 139 [.d (.slice 1 (bys b))] [.int .i64 (chkP b)]:=by
 have hl:=bys_len b
 refine call_of_vc (x:=jr139) (by kernel_rfl) rfl ?_
 have c99_:CallDet Tryz.prog 99 [.d (.slice 1 [.int .i64 (bif ((bys b).length:Int)==0 then 12 else 0),.int .i64 (bif decide ((32:Int) < ((bys b).length:Int)) then 4 else 0)])] [.int .i64 (chkP b)]:=by
  rw [hl]; exact c99 [bif (b.length:Int)==0 then 12 else 0,bif decide ((32:Int) < (b.length:Int)) then 4 else 0] (by simp)
 refine sd ?_
 refine ca (c103 _ _) ?_
 refine sd ?_
 refine ca (c103 _ _) ?_
 refine sd ?_
 refine sd ?_
 refine ca c99_ ?_
 exact rfl
theorem c145 (b:List UInt8) (hb:b.length≤1048576):CallDet Tryz.prog 145 [.d (.slice 1 (bys b))] [.int .i64 (chkP b)]:=by
 have hl:=bys_len b
 refine call_of_vc (x:=jr145) (by kernel_rfl) rfl ?_
 have c110_:CallDet Tryz.prog 110 [.d (.slice 1 [.int .i64 (bif ((bys b).length:Int)==0 then 12 else 0),.int .i64 (bif decide ((32:Int) < ((bys b).length:Int)) then 4 else 0)])] [.int .i64 (chkP b)]:=by
  rw [hl]; exact c110 [bif (b.length:Int)==0 then 12 else 0,bif decide ((32:Int) < (b.length:Int)) then 4 else 0] (by simp)
 refine sd ?_
 refine ca (c22 _ _) ?_
 refine sd ?_
 refine ca (c22 _ _) ?_
 refine sd ?_
 refine sd ?_
 refine ca c110_ ?_
 exact rfl
theorem c177 (b:List UInt8):CallDet Tryz.prog 177 [.d (.slice 1 (bys b))] [.bool ((b.length:Int)==0)]:=by
 refine call_of_vc (x:=jr177) (by kernel_rfl) rfl ?_
 rw [lnil]
 refine sd ?_
 exact rfl
theorem c149 (b:List UInt8):CallDet Tryz.prog 149 [.d (.slice 1 (bys b))] [.bool (decide ((32:Int) < (b.length:Int)))]:=by
 refine call_of_vc (x:=jr149) (by kernel_rfl) rfl ?_
 rw [show (b.length:Int)=((bys b).length:Int) by rw [bys_len]]
 refine sd ?_
 exact rfl
theorem c147 (n:Int):CallDet Tryz.prog 147 [.d (.int .i64 n)] [.int .i64 (within3 n 0 10000)]:=by
 refine call_of_vc (x:=jr147) (by kernel_rfl) rfl ?_
 refine ca (c122 _ _ _) ?_
 exact rfl
theorem c143 (s:Sto) (h:s.ok):CallDet Tryz.prog 143 [.d s.d] [.bool (miss s.ps)]:=by
 refine call_of_vc (x:=jr143) (by kernel_rfl) rfl ?_
 have c148_:=c148 s.ps h.1 177 (fun b=>(b.length:Int)==0) fun x _=>c177 x
 refine ca c148_ ?_
 exact rfl
theorem c141 (s:Sto):CallDet Tryz.prog 141 [.d s.d] [.int .i64 (recvE s)]:=by
 refine call_of_vc (x:=jr141) (by kernel_rfl) rfl ?_
 refine sd ?_
 refine b_eq (fun t1=>?_) (fun t1=>?_)
 refine sd ?_
 refine ca (c103 _ _) ?_
 rotate_left
 refine ca (c103 _ _) ?_
 rotate_left
 ·show resV [.int .i64 22]=resV [.int .i64 (recvE s)]
  unfold recvE; rw [beq_iff_eq.2 t1]; rfl
 ·show resV [.int .i64 (bif s.tr then 22 else 0)]=resV [.int .i64 (recvE s)]
  unfold recvE; rw [beq_eq_false_iff_ne.2 t1]; rfl
theorem c146 (l:List (List UInt8)) (hl:l.length≤1048576):CallDet Tryz.prog 146 [.d (.slice 1 (pss l))] [.bool (!miss l)]:=by
 have hll:=pss_len l
 refine call_of_vc (x:=jr146) (by kernel_rfl) rfl ?_
 refine loop_st (fun k:Nat=>⟨[(0,.d (.slice 1 (pss l))),(3,.d (.int .i64 k))],[]⟩) (fun k=>k≤l.length∧miss l=miss (l.drop k)) (fun k=>l.length - k) 0 rfl ⟨Nat.zero_le _,rfl⟩ ?_
 rintro k ⟨hk,hi⟩
 dsimp only
 by_cases hkn:k < l.length
 ·refine Exists.elim (get_lt l hkn) fun x hx=>?_
  have hx1:=pss_at hx
  have hlx:=bys_len x
  rw [drop_at hx,show miss (x::l.drop (k+1))=(((x.length:Int)==0)||miss (l.drop (k+1))) from List.any_cons,lnil] at hi
  have fin:((((bys x).length:Nat):Int)==0)=false→∃ a':Nat,((a'≤l.length∧miss l=miss (l.drop a'))∧l.length - a' < l.length - k)∧(⟨[(0,.d (.slice 1 (pss l))),(3,.d (.int .i64 ((k:Int)+1)))],[]⟩:St)=⟨[(0,.d (.slice 1 (pss l))),(3,.d (.int .i64 (a':Nat)))],[]⟩:=fun h =>
   ⟨k+1,⟨⟨by omega,by rw [hi,h]; rfl⟩,by omega⟩,rfl⟩
  refine sd ?_
  refine b_lt (fun t1=>?_) (fun t1=>?_)
  refine ix_at hx1 ?_ ?_
  (show (0:Int)≤(↑k:Int); omega)
  refine sd ?_
  refine b_eq (fun t2=>?_) (fun t2=>?_)
  rotate_left
  refine ar_add ?_ ?_
  refine an ?_ ?_
  (show (-9223372036854775808:Int)≤(↑k:Int)+(1:Int); omega)
  (show (↑k:Int)+(1:Int)≤(9223372036854775807:Int); omega)
  rotate_left
  (exfalso; omega)
  ·rw [hi,beq_iff_eq.2 t2]; rfl
  ·exact fin (beq_eq_false_iff_ne.2 t2)
 ·have e:l.drop k=[]:=List.drop_eq_nil_of_le (by omega)
  rw [e] at hi
  rw [hi]
  refine sd ?_
  refine b_lt (fun t1=>?_) (fun t1=>?_)
  (exfalso; omega)
  exact rfl
  all_goals rfl
theorem c179 (b:List UInt8):CallDet Tryz.prog 179 [.d (.slice 1 (bys b)),.d (.slice 1 (bys b))] [.bool true]:=by
 refine call_of_vc (x:=jr179) (by kernel_rfl) rfl ?_
 refine Exists.intro [.str b] (And.intro ⟨rfl,b,bytesOf_bys b,rfl⟩ ?_)
 refine Exists.intro [.str b] (And.intro ⟨rfl,b,bytesOf_bys b,rfl⟩ ?_)
 show resV [.bool (b==b)]=resV [.bool true]
 rw [beq_self_eq_true b]
theorem c140 (l:List (List UInt8)) (hl:l.length≤1048576) (hs:l.flatten.length≤1048576):CallDet Tryz.prog 140 [.d (.slice 1 (pss l))] [.int .i64 (psum l)]:=by
 have c175_:CallDet Tryz.prog 175 [.d (.slice 1 (pss l))] [.slice 1 (bys l.flatten)]:=by
  have h:=c175 (l.map bys) (by rw [List.length_map]; exact hl) (by rw [flat_bys,bys_len]; exact hs)
  rw [← pss_pcs,flat_bys] at h; exact h
 unfold psum
 have hlf:=bys_len l.flatten
 refine call_of_vc (x:=jr140) (by kernel_rfl) rfl ?_
 generalize l.flatten=f at *
 refine ca c175_ ?_
 refine loop_st (fun k:Nat=>⟨[(3,.d (.int .i64 (totF (f.take k) 0 % 9973))),(7,.d (.slice 1 (bys f))),(8,.d (.int .i64 ((bys f).length:Int))),(9,.d (.int .i64 k))],[]⟩) (fun k=>k≤f.length) (fun k=>f.length - k) 0 rfl (Nat.zero_le _) ?_
 intro k hk
 have hk:k≤f.length:=hk
 dsimp only
 by_cases hkn:k < f.length
 ·refine Exists.elim (get_lt f hkn) fun x hx=>?_
  have hx1:=bys_at hx
  have i64_u8_:=i64_u8 x
  have hx2:=step_le x (i:=k) (by omega)
  have e1:totF (f.take (k+1)) 0=totF (f.take k) 0+(x.toNat:Int) * ((k:Int)+1):=by
   rw [take_one hx,totF_snoc,List.length_take,Nat.min_eq_left hk,Int.mul_comm]
  have e2:(totF (f.take k) 0 % 9973+(x.toNat:Int) * ((k:Int)+1)) % 9973=totF (f.take (k+1)) 0 % 9973:=by rw [mod_step,e1]
  have hm:0≤totF (f.take k) 0 % 9973∧totF (f.take k) 0 % 9973 < 9973:=by omega
  have fin:∃ a':Nat,(a'≤f.length∧f.length - a' < f.length - k)∧(⟨[(3,.d (.int .i64 ((totF (f.take k) 0 % 9973+(x.toNat:Int) * ((k:Int)+1)) % 9973))),(7,.d (.slice 1 (bys f))),(8,.d (.int .i64 ((bys f).length:Int))),(9,.d (.int .i64 ((k:Int)+1)))],[]⟩:St)=⟨[(3,.d (.int .i64 (totF (f.take a') 0 % 9973))),(7,.d (.slice 1 (bys f))),(8,.d (.int .i64 ((bys f).length:Int))),(9,.d (.int .i64 (a':Nat)))],[]⟩ :=
   ⟨k+1,⟨by omega,by omega⟩,by rw [e2]; rfl⟩
  generalize totF (f.take k) 0 % 9973=q at *
  generalize hp:(x.toNat:Int) * ((k:Int)+1)=pr at *
  have hq:0≤q+pr:=by omega
  refine sd ?_
  refine b_lt (fun t1=>?_) (fun t1=>?_)
  refine ix_at hx1 (by omega) ?_
  refine ca i64_u8_ ?_
  refine ar_add (by omega) ?_
  refine ar_mul ⟨by omega,by omega⟩ ?_
  refine ar_add (by omega) ?_
  refine ar_rem (by omega) ?_
  refine ar_add (by omega) ?_
  rw [hp]
  exact fin
  exfalso; have t1:¬ (k:Int) < ((bys f).length:Int):=t1; omega
 ·have e:f.take k=f:=List.take_of_length_le (by omega)
  rw [e]
  refine sd ?_
  refine b_lt (fun t1=>?_) (fun t1=>?_)
  (exfalso; omega)
  exact rfl
theorem c76 (l:List (List UInt8)) (hl:l.length≤1048576) (hs:l.flatten.length≤1048576):CallDet Tryz.prog 76 [.d (.slice 1 (pss l))] [.int .i64 (psum l)]:=by
 have hll:=pss_len l
 unfold psum
 refine call_of_vc (x:=jr76) (by kernel_rfl) rfl ?_
 refine loop_st (fun k:Nat=>⟨[(0,.d (.slice 1 (pss l))),(3,.d (.int .i64 (totF (l.take k).flatten 0))),(4,.d (.int .i64 ((l.take k).flatten.length:Int))),(5,.d (.int .i64 k))],[]⟩) (fun k=>k≤l.length) (fun k=>l.length - k) 0 rfl (Nat.zero_le _) ?_
 intro k hk
 have hk:k≤l.length:=hk
 dsimp only
 by_cases hkn:k < l.length
 ·refine Exists.elim (get_lt l hkn) fun x hx=>?_
  have hx1:=pss_at hx
  have hlx:=bys_len x
  have e1:=flat_snoc hx
  have hf1:=flat_le l (k+1)
  rw [e1,List.length_append] at hf1
  refine sd ?_
  refine b_lt (fun t1=>?_) (fun t1=>?_)
  rotate_left
  ·exfalso; have t1:¬ (k:Int) < ((pss l).length:Int):=t1; omega
  refine loop_st (fun j:Nat=>⟨[(0,.d (.slice 1 (pss l))),(3,.d (.int .i64 (totF ((l.take k).flatten++x.take j) 0))),(4,.d (.int .i64 (((l.take k).flatten++x.take j).length:Int))),(5,.d (.int .i64 k)),(6,.d (.int .i64 j))],[]⟩) (fun j=>j≤x.length) (fun j=>x.length - j) 0 (by rw [List.take_zero,List.append_nil]; rfl) (Nat.zero_le _) ?_
  intro j hj
  have hj:j≤x.length:=hj
  dsimp only
  by_cases hjn:j < x.length
  ·refine Exists.elim (get_lt x hjn) fun b hb=>?_
   have hb1:=bys_at hb
   have i64_u8_:=i64_u8 b
   have e2:(l.take k).flatten++x.take (j+1)=((l.take k).flatten++x.take j)++[b]:=by rw [take_one hb,List.append_assoc]
   have hlen:((l.take k).flatten++x.take j).length=(l.take k).flatten.length+j:=by rw [List.length_append,List.length_take]; omega
   have e3:totF ((l.take k).flatten++x.take (j+1)) 0=totF ((l.take k).flatten++x.take j) 0+((((l.take k).flatten++x.take j).length:Int)+1) * (b.toNat:Int):=by rw [e2,totF_snoc]
   have e4:((l.take k).flatten++x.take (j+1)).length=((l.take k).flatten++x.take j).length+1:=by rw [e2,List.length_append]; rfl
   have h1:=totF_nn ((l.take k).flatten++x.take j) 0
   have h2:=totF_le ((l.take k).flatten++x.take j) 0 (by omega)
   have h3:=step_le b (i:=((l.take k).flatten++x.take j).length) (by omega)
   rw [Int.mul_comm] at h3
   have fin:∃ a':Nat,(a'≤x.length∧x.length - a' < x.length - j)∧(⟨[(0,.d (.slice 1 (pss l))),(3,.d (.int .i64 (totF ((l.take k).flatten++x.take j) 0+((((l.take k).flatten++x.take j).length:Int)+1) * (b.toNat:Int)))),(4,.d (.int .i64 ((((l.take k).flatten++x.take j).length:Int)+1))),(5,.d (.int .i64 k)),(6,.d (.int .i64 ((j:Int)+1)))],[]⟩:St)=⟨[(0,.d (.slice 1 (pss l))),(3,.d (.int .i64 (totF ((l.take k).flatten++x.take a') 0))),(4,.d (.int .i64 (((l.take k).flatten++x.take a').length:Int))),(5,.d (.int .i64 k)),(6,.d (.int .i64 (a':Nat)))],[]⟩ :=
    ⟨j+1,⟨by omega,by omega⟩,by rw [e3,e4]; rfl⟩
   generalize totF ((l.take k).flatten++x.take j) 0=q at *
   generalize ((l.take k).flatten++x.take j).length=w at *
   generalize hp:((w:Int)+1) * (b.toNat:Int)=pr at *
   refine ix_at hx1 (by omega) ?_
   refine sd ?_
   refine b_lt (fun t2=>?_) (fun t2=>?_)
   rotate_left
   ·exfalso; have t2:¬ (j:Int) < ((bys x).length:Int):=t2; omega
   refine ar_add (by omega) ?_
   refine ix_at hx1 (by omega) ?_
   refine ix_at hb1 (by omega) ?_
   refine ca i64_u8_ ?_
   refine ar_mul ⟨by omega,by omega⟩ ?_
   refine ar_add (by omega) ?_
   refine ar_add (by omega) ?_
   rw [hp]
   exact fin
  ·have e:x.take j=x:=List.take_of_length_le (by omega)
   rw [e,← e1]
   refine ix_at hx1 (by omega) ?_
   refine sd ?_
   refine b_lt (fun t2=>?_) (fun t2=>?_)
   ·exfalso; have t2:(j:Int) < ((bys x).length:Int):=t2; omega
   refine ar_add (by omega) ?_
   exact ⟨k+1,⟨by omega,by omega⟩,rfl⟩
 ·have e:l.take k=l:=List.take_of_length_le (by omega)
  rw [e]
  have h1:=totF_nn l.flatten 0
  refine sd ?_
  refine b_lt (fun t1=>?_) (fun t1=>?_)
  (exfalso; omega)
  refine ar_rem ?_ ?_
  refine an ?_ ?_
  assumption
  (show (1:Int)≤(9973:Int); omega)
  exact rfl
end Vc
