import Derived.Shelf.Spec.SlicesGrow
import Derived.Test.YtifgdpnmgeffbaaGreatDoorProg
import Derived.Test.YtifgdpnmgeffbaaGreatDoorG09
import Derived.Test.YtifgdpnmgeffbaaGreatDoorG07
import Derived.Test.YtifgdpnmgeffbaaGreatDoorG04
set_option linter.unusedSectionVars false
set_option linter.unusedVariables false
set_option linter.unusedSimpArgs false
namespace Go.Proofs
open Go.Shelf
def Tryz.laysGrow_ren:Go.Shelf.Ren:=⟨fun | 4=>200 | n=>n,fun | 22=>111 | 25=>5 | 3=>3 | 4=>4 | 9=>9 | 20=>20 | 0=>0 | n=>n,fun | n=>n⟩
theorem Tryz.laysGrow:Go.Proofs.Lays8.n4 Tryz.prog Tryz.laysGrow_ren:={
 mixed:=by kernel_rfl
 f4:=⟨Tryz.f200.name,by decide,Tryz.func200.trans (congrArg some (by kernel_rfl))⟩
 t0:=Tryz.underlying0
 a0:=Tryz.isAgg0
 z0:=Tryz.sizeOf0
 v0:=Tryz.zeroValue0
 t3:=Tryz.underlying3
 a3:=Tryz.isAgg3
 z3:=Tryz.sizeOf3
 v3:=Tryz.zeroValue3
 t4:=Tryz.underlying4
 a4:=Tryz.isAgg4
 z4:=Tryz.sizeOf4
 v4:=Tryz.zeroValue4
 t9:=Tryz.underlying9
 a9:=Tryz.isAgg9
 z9:=Tryz.sizeOf9
 v9:=Tryz.zeroValue9
 t20:=Tryz.underlying20
 a20:=Tryz.isAgg20
 z20:=Tryz.sizeOf20
 v20:=Tryz.zeroValue20
 t22:=Tryz.underlying111
 a22:=Tryz.isAgg111
 z22:=Tryz.sizeOf111
 v22:=Tryz.zeroValue111 }
end Go.Proofs
set_option maxRecDepth 10000
namespace Vc
open Go Go.Proofs Go.RowKit Go.Shelf
theorem grow_in {P : Program} [Laid P] {ρ : Ren} (L : Lays8.n4 P ρ) (hf : HasFn P (ρ.f 4)) (i0 : TypeInfo) (z : Value) (hi0 : P.info? (ρ.t 25) = some i0) (hz0 : i0.zero = some z) (hs0 : 0 < i0.size) (hzs : z.cells.size = i0.size)
  (k n:Nat) (hbig:n * i0.bytes≤140737488355328) (h63:n≤140737488355328) (h:List AObj) (r:Nat) (hh:h[r]?=some .none) :
  CallIn P (ρ.f 4) [.nils k,.d (.int .i64 n)] h (.sl r 0) (h.set r (.row (ρ.t 25) i0.size [] false)):=by
 refine ⟨hf,by simp,fun n' base w0 G slots a w vs hgl hr hv=>?_⟩
 simp only [VRels,VRel,DRel] at hv
 obtain ⟨v1,r1,rfl,rfl,v2,r2,rfl,rfl,rfl⟩:=hv
 have hlt:r < h.length:=(List.getElem?_eq_some_iff.1 hh).1
 by_cases hn:n=0
 ·subst hn
  refine (Any8.slices_Grow_room L none 0 0 0 w (Nat.le_refl _) (by omega) (by omega) (Nat.le_refl _)).mono ?_
  rintro e w' ⟨rfl,rfl⟩
  have h1:=hr.upd (o':=.row (ρ.t 25) i0.size [] false) (v':=.slice none 0 0) (S':=G.S) (row:=none) (w':=w') hh (.inl rfl) (fun _ _ h=>h) (fun _ _ h=>.inl h)
   ⟨rfl,rfl,rfl,Nat.le_refl _,fun _ _ _=>rfl⟩ (fun _ _ _ h=>by cases h) (fun b hb=>by cases hb) trivial
   (fun hx=>⟨hs0,[],by rw [show (⟨G.S,Vc.upd G.val r (.slice none 0 0)⟩:Gh).val r=.slice none 0 0 from upd_same _ _ _]; exact World.ownsRow_nil w' base _ _,by simp [DXs]⟩)
   (fun b off hb _ _=>by cases hb) (fun b off hs=>hr.lim b off hs)
  refine ⟨_,_,rfl,h1.1,h1.2,?_⟩
  simp only [VRel]
  exact ⟨ρ.t 25,i0.size,[],false,by simp [hlt],Nat.le_refl _,fun _=>by simp [upd]⟩
 ·have hcm:=grownCap_le_maxLen w (0+n) 0 (ρ.t 25) (by unfold maxLen; omega)
  have hge:=grownCap_ge w (0+n) 0 (ρ.t 25)
  refine (Any8.slices_Grow_grow L i0 z hi0 hz0 hs0 none 0 0 n [] w (Nat.le_refl _) (by omega) (by simpa using hbig) (by omega) (by simp) (fun _=>rfl) (fun a ha=>by cases ha)).mono ?_
  generalize grownCap w (0+n) 0 (ρ.t 25)=cap at *
  rintro e w' ⟨rfl,rfl⟩
  have h1:=hr.upd (o':=.row (ρ.t 25) i0.size [] false) (v':=.slice (some ⟨w.heap.size,0,none⟩) 0 cap) (S':=G.S) (row:=none)
   (w':=w.drew.alloc (.cells (([]:List Value).toArray++Builtin.zeroCells z.cells (0+n - 0)++Builtin.zeroCells z.cells (cap - (0+n))) (ρ.t 25))) hh (.inl rfl) (fun _ _ h=>h) (fun _ _ h=>.inl h)
   ⟨rfl,rfl,rfl,by simp,fun k hk _=>Below.heap_alloc w.drew _ k hk⟩ (fun _ _ _ h=>by cases h) (fun b hb=>by cases hb; exact .inr (Nat.le_refl _)) trivial
   (fun hx=>by
    refine ⟨hs0,[],?_,by simp [DXs]⟩
    rw [show (⟨G.S,Vc.upd G.val r (.slice (some ⟨w.heap.size,0,none⟩) 0 cap)⟩:Gh).val r=_ from upd_same _ _ _]
    refine ⟨by simp,.inr ⟨w.heap.size,cap,_,rfl,hr.old,heap_alloc_new w.drew _,Nat.zero_le _,hcm,?_,by simp⟩⟩
    simp [Builtin.zeroCells,hzs]
    rw [← Nat.add_mul]
    congr 1
    omega)
   (fun b off hb _ hs=>by cases hb; have:=hr.lim _ _ hs; simp at this) (fun b off hs=>by have:=hr.lim _ _ hs; simp; omega)
  refine ⟨_,_,rfl,h1.1,h1.2,?_⟩
  simp only [VRel]
  exact ⟨ρ.t 25,i0.size,[],false,by simp [hlt],Nat.le_refl _,fun _=>by simp [upd]⟩
theorem i200 (n:Nat) (hn:n≤1048576) (h:List AObj) (r:Nat) (hh:h[r]?=some .none):CallIn Tryz.prog 200 [.nils 1,.d (.int .i64 n)] h (.sl r 0) (h.set r (.row 5 1 [] false)):=by
 obtain ⟨i0,z,hi0,hz0,_,hzs⟩:=zeroOk_spec (show zeroOk Tryz.prog 5 [.d (.int .u8 0)]=true by kernel_rfl)
 obtain ⟨i1,_,hi1,hs,_⟩:=sizeIs_spec (show sizeIs Tryz.prog 5 1=true by kernel_rfl)
 rw [hi0] at hi1; cases hi1
 obtain ⟨i2,hi2,hb⟩:=infoOf (P:=Tryz.prog) (t:=5) (p:=fun i=>Nat.beq i.bytes 1) (show bytesIs Tryz.prog 5 1=true by kernel_rfl)
 rw [hi0] at hi2; cases hi2
 have hb:=Nat.eq_of_beq_eq_true hb
 have h1:=grow_in Tryz.laysGrow (hasFnB_spec (by kernel_rfl)) i0 z hi0 hz0 (by omega) hzs 1 n (by rw [hb]; omega) (by omega) h r hh
 rw [hs] at h1
 exact h1
end Vc
set_option maxRecDepth 10000
set_option maxHeartbeats 4000000
namespace Vc
open Go Go.Proofs
theorem get_lt {α:Type} (l:List α) {k:Nat} (h:k < l.length):∃ x,l[k]?=some x:=⟨_,List.getElem?_eq_getElem h⟩
def pcs (l:List (List Data)):List Data:=l.map (.slice 1)
theorem pcs_len (l:List (List Data)):(pcs l).length=l.length:=List.length_map _
theorem pcs_at {l:List (List Data)} {k:Nat} {x:List Data} (h:l[k]?=some x):(pcs l)[((k:Int)).toNat]?=some (.slice 1 x):=by
 show (l.map _)[k]?=_
 rw [List.getElem?_map,h]; rfl
theorem flat_snoc {α:Type} {l:List (List α)} {k:Nat} {x:List α} (h:l[k]?=some x):(l.take (k+1)).flatten=(l.take k).flatten++x:=by
 rw [take_one h,List.flatten_append,List.flatten_singleton]
theorem flat_le {α:Type}:∀ (l:List (List α)) (k:Nat),(l.take k).flatten.length≤l.flatten.length
 | [],k=>by simp
 | x::l,0=>by simp
 | x::l,k+1=>by
  have:=flat_le l k
  simp only [List.take_succ_cons,List.flatten_cons,List.length_append]
  omega
def jr159:AFun:=⟨8,2,[.tmp 2],
 (.seq
 (.reg [] [⟨some 2,.mov (.cst (.nils 1)),none⟩])
 (.seq
  (.seq
  (.reg [] [⟨some 3,.mov (.tmp 0),none⟩,
   ⟨some 4,.isnil false (.tmp 3),none⟩])
  (.cond (.tmp 4)
   (.seq
   (.reg [] [⟨some 2,.mov (.cst (.nils 1)),none⟩])
   .ret)
   .skip))
  (.seq
  (.reg [0,1] [⟨some 5,.bsl 0 3 1 0 [] [],none⟩,
   ⟨some 6,.mov (.tmp 0),none⟩,
   ⟨some 7,.app 1 3 1 8 (.tmp 5) (.tmp 6),none⟩,
   ⟨some 2,.mov (.tmp 7),none⟩])
  .ret)))⟩
def jr176:AFun:=⟨8,2,[.tmp 2],
 (.seq
 (.reg [] [⟨some 2,.mov (.cst (.nils 1)),none⟩])
 (.seq
  (.seq
  (.reg [] [⟨some 3,.mov (.tmp 0),none⟩,
   ⟨some 4,.isnil false (.tmp 3),none⟩])
  (.cond (.tmp 4)
   (.seq
   (.reg [] [⟨some 2,.mov (.cst (.nils 1)),none⟩])
   .ret)
   .skip))
  (.seq
  (.reg [0,1] [⟨some 5,.bsl 0 5 1 0 [] [],none⟩,
   ⟨some 6,.mov (.tmp 0),none⟩,
   ⟨some 7,.app 1 5 1 1 (.tmp 5) (.tmp 6),none⟩,
   ⟨some 2,.mov (.tmp 7),none⟩])
  .ret)))⟩
def jr175:AFun:=⟨36,1,[.tmp 2],
 (.seq
 (.reg [] [⟨some 2,.mov (.cst (.nils 1)),none⟩])
 (.seq
  (.reg [] [⟨some 3,.mov (.cst (.d (.int .i64 0))),none⟩])
  (.seq
  (.seq
   (.reg [] [⟨some 9,.mov (.tmp 0),none⟩,
    ⟨some 10,.len (.tmp 9),none⟩,
    ⟨some 11,.mov (.cst (.d (.int .i64 0))),none⟩])
   (.post [0,3] []
   (.block 0
    (.keep [0,3,9,10,11] []
    (.loop
     (.post [0,3,9,10,11] []
     (.seq
      (.reg [] [⟨some 12,.cmp .lss (.tmp 11) (.tmp 10),none⟩])
      (.seq
      (.cond (.tmp 12)
       .skip
       (.exit 0))
      (.seq
       (.block 1
       (.seq
        (.reg [] [⟨some 13,.ixa 1 (.tmp 9) (.tmp 11),none⟩,
         ⟨some 14,.ld false 1 (.tmp 13),none⟩,
         ⟨some 5,.mov (.tmp 14),none⟩])
        (.seq
        (.reg [] [⟨some 15,.mov (.tmp 3),none⟩,
         ⟨some 16,.mov (.tmp 5),none⟩,
         ⟨some 17,.len (.tmp 16),none⟩,
         ⟨some 18,.arith .add .i64 (.tmp 15) (.tmp 17),none⟩,
         ⟨some 3,.mov (.tmp 18),none⟩])
        (.seq
         (.reg [] [⟨some 19,.mov (.tmp 3),none⟩,
          ⟨some 20,.cmp .lss (.tmp 19) (.cst (.d (.int .i64 0))),none⟩])
         (.cond (.tmp 20)
         .dead
         .skip)))))
       (.reg [] [⟨some 22,.arith .add .i64 (.tmp 11) (.cst (.d (.int .i64 1))),none⟩,
        ⟨some 11,.mov (.tmp 22),none⟩]))))))))))
  (.seq
   (.reg [] [⟨some 23,.mov (.tmp 3),none⟩,
    ⟨some 24,.calli 200 [(.cst (.nils 1)),(.tmp 23)],none⟩,
    ⟨some 6,.mov (.tmp 24),none⟩])
   (.seq
   (.seq
    (.reg [] [⟨some 25,.mov (.tmp 0),none⟩,
     ⟨some 26,.len (.tmp 25),none⟩,
     ⟨some 27,.mov (.cst (.d (.int .i64 0))),none⟩])
    (.post [6] [0]
    (.block 2
     (.asrow 0 5 1 6
     (.keep [6,25,26,27] []
      (.loop
      (.post [6,25,26,27] [0]
       (.seq
       (.reg [] [⟨some 28,.cmp .lss (.tmp 27) (.tmp 26),none⟩])
       (.seq
        (.cond (.tmp 28)
        .skip
        (.exit 2))
        (.seq
        (.block 3
         (.seq
         (.reg [] [⟨some 29,.ixa 1 (.tmp 25) (.tmp 27),none⟩,
          ⟨some 30,.ld false 1 (.tmp 29),none⟩,
          ⟨some 8,.mov (.tmp 30),none⟩])
         (.reg [0] [⟨some 31,.mov (.tmp 6),none⟩,
          ⟨some 32,.mov (.tmp 8),none⟩,
          ⟨some 33,.app 0 5 1 1 (.tmp 31) (.tmp 32),none⟩,
          ⟨some 6,.mov (.tmp 33),none⟩])))
        (.reg [] [⟨some 34,.arith .add .i64 (.tmp 27) (.cst (.d (.int .i64 1))),none⟩,
         ⟨some 27,.mov (.tmp 34),none⟩])))))))))))
   (.seq
    (.reg [] [⟨some 35,.mov (.tmp 6),none⟩,
     ⟨some 2,.mov (.tmp 35),none⟩])
    .ret))))))⟩
theorem c176 (b:List Data) (hl:b.length≤1048576):CallDet Tryz.prog 176 [.d (.slice 1 b)] [.slice 1 b]:=by
 refine call_of_vc (x:=jr176) (by kernel_rfl) rfl ?_
 refine And.intro (fun h=>?_) ?_
 ·subst h
  exact rfl
 ·refine sd ?_
  refine sd ?_
  refine an ?_ ?_
  refine an ?_ ?_
  exact rfl
  refine an ?_ ?_
  exact rfl
  refine an ?_ ?_
  exact rfl
  refine an ?_ ?_
  (show ((0:Nat)+List.length b) * (1:Nat)≤(2:Nat) ^ (47:Nat); omega)
  (show (0:Nat)+List.length b≤(2:Nat) ^ (47:Nat); omega)
  refine sd ?_
  exact rfl
theorem c159r (b:List Data) (hl:b.length≤1048576):CallRow Tryz.prog 159 [.d (.slice 1 b)] 3 1 b:=by
 refine callRow_of_vc (x:=jr159) (by kernel_rfl) rfl ?_
 refine And.intro (fun t1=>?_) ?_
 rotate_left
 ·refine sd ?_
  refine sd ?_
  refine an ?_ ?_
  refine an ?_ ?_
  exact rfl
  refine an ?_ ?_
  exact rfl
  refine an ?_ ?_
  exact rfl
  refine an ?_ ?_
  (show ((0:Nat)+List.length b) * (8:Nat)≤(2:Nat) ^ (47:Nat); omega)
  (show (0:Nat)+List.length b≤(2:Nat) ^ (47:Nat); omega)
  rotate_left
  exact .inl ⟨0,⟨rfl,rfl⟩,rfl⟩
 ·subst t1
  exact .inr ⟨by decide,rfl,1,rfl,rfl⟩
theorem c175 (l:List (List Data)) (hl:l.length≤1048576) (hs:l.flatten.length≤1048576):CallDet Tryz.prog 175 [.d (.slice 1 (pcs l))] [.slice 1 l.flatten]:=by
 have hlen:=pcs_len l
 refine call_of_vc (x:=jr175) (by kernel_rfl) rfl ?_
 refine loop_st (fun k:Nat=>⟨[(0,.d (.slice 1 (pcs l))),(3,.d (.int .i64 ((l.take k).flatten.length:Int))),(9,.d (.slice 1 (pcs l))),(10,.d (.int .i64 ((pcs l).length:Int))),(11,.d (.int .i64 k))],[.none]⟩) (fun k=>k≤l.length) (fun k=>l.length - k) 0 rfl (Nat.zero_le _) ?_
 intro k hk
 have hk:k≤l.length:=hk
 have hf:=flat_le l k
 dsimp only
 by_cases hkn:k < l.length
 ·refine Exists.elim (get_lt l hkn) fun x hx=>?_
  have hx1:=pcs_at hx
  have hf1:=flat_le l (k+1)
  have e1:=flat_snoc hx
  rw [e1,List.length_append] at hf1
  have fin:∃ a':Nat,(a'≤l.length∧l.length - a' < l.length - k)∧(⟨[(0,.d (.slice 1 (pcs l))),(3,.d (.int .i64 (((l.take k).flatten.length:Int)+(x.length:Int)))),(9,.d (.slice 1 (pcs l))),(10,.d (.int .i64 ((pcs l).length:Int))),(11,.d (.int .i64 ((k:Int)+1)))],[.none]⟩:St)=⟨[(0,.d (.slice 1 (pcs l))),(3,.d (.int .i64 ((l.take a').flatten.length:Int))),(9,.d (.slice 1 (pcs l))),(10,.d (.int .i64 ((pcs l).length:Int))),(11,.d (.int .i64 (a':Nat)))],[.none]⟩ :=
   ⟨k+1,⟨by omega,by omega⟩,by rw [e1,List.length_append]; rfl⟩
  refine sd ?_
  refine b_lt (fun t1=>?_) (fun t1=>?_)
  refine ix_at hx1 ?_ ?_
  (show (0:Int)≤(↑k:Int); omega)
  refine ar_add ?_ ?_
  refine an ?_ ?_
  (show (-9223372036854775808:Int)≤(↑(List.length (List.flatten (List.take k l))):Int)+(↑(List.length x):Int); omega)
  (show (↑(List.length (List.flatten (List.take k l))):Int)+(↑(List.length x):Int)≤(9223372036854775807:Int); omega)
  refine sd ?_
  refine ar_add ?_ ?_
  refine an ?_ ?_
  (show (-9223372036854775808:Int)≤(↑k:Int)+(1:Int); omega)
  (show (↑k:Int)+(1:Int)≤(9223372036854775807:Int); omega)
  rotate_left
  (exfalso; omega)
  all_goals exact fin
 ·have e:l.take k=l:=List.take_of_length_le (by omega)
  rw [e]
  refine sd ?_
  refine b_f (decide_eq_false (by omega)) ?_
  refine Exists.intro (.sl 0 0) (Exists.intro [(0,.row 5 1 [] false)] (And.intro (i200 l.flatten.length (by omega) [.none] 0 rfl) ?_))
  refine loop_st (fun k:Nat=>⟨[(6,.sl 0 (l.take k).flatten.length),(25,.d (.slice 1 (pcs l))),(26,.d (.int .i64 ((pcs l).length:Int))),(27,.d (.int .i64 k))],[.row 5 1 (l.take k).flatten false]⟩) (fun k=>k≤l.length) (fun k=>l.length - k) 0 rfl (Nat.zero_le _) ?_
  intro j hj
  have hj:j≤l.length:=hj
  have hf:=flat_le l j
  dsimp only
  by_cases hjn:j < l.length
  ·refine Exists.elim (get_lt l hjn) fun x hx=>?_
   have hx1:=pcs_at hx
   have hf1:=flat_le l (j+1)
   have e1:=flat_snoc hx
   rw [e1,List.length_append] at hf1
   have fin:∃ a':Nat,(a'≤l.length∧l.length - a' < l.length - j)∧(⟨[(6,.sl 0 ((l.take j).flatten++x).length),(25,.d (.slice 1 (pcs l))),(26,.d (.int .i64 ((pcs l).length:Int))),(27,.d (.int .i64 ((j:Int)+1)))],[.row 5 1 ((l.take j).flatten++x) false]⟩:St)=⟨[(6,.sl 0 (l.take a').flatten.length),(25,.d (.slice 1 (pcs l))),(26,.d (.int .i64 ((pcs l).length:Int))),(27,.d (.int .i64 (a':Nat)))],[.row 5 1 (l.take a').flatten false]⟩ :=
    ⟨j+1,⟨by omega,by omega⟩,by rw [e1]; rfl⟩
   refine sd ?_
   refine b_lt (fun t1=>?_) (fun t1=>?_)
   refine ix_at hx1 ?_ ?_
   (show (0:Int)≤(↑j:Int); omega)
   refine sd ?_
   refine an ?_ ?_
   refine an ?_ ?_
   exact rfl
   refine an ?_ ?_
   exact rfl
   refine an ?_ ?_
   exact rfl
   refine an ?_ ?_
   (show (List.length (List.flatten (List.take j l))+List.length x) * (1:Nat)≤(2:Nat) ^ (47:Nat); omega)
   (show List.length (List.flatten (List.take j l))+List.length x≤(2:Nat) ^ (47:Nat); omega)
   refine ar_add ?_ ?_
   refine an ?_ ?_
   (show (-9223372036854775808:Int)≤(↑j:Int)+(1:Int); omega)
   (show (↑j:Int)+(1:Int)≤(9223372036854775807:Int); omega)
   rotate_left
   (exfalso; omega)
   all_goals exact fin
  ·have e:l.take j=l:=List.take_of_length_le (by omega)
   rw [e]
   refine sd ?_
   refine b_lt (fun t1=>?_) (fun t1=>?_)
   (exfalso; omega)
   refine sd ?_
   exact rfl
end Vc
namespace Vc
def sumL (f:Int→Int):List Int→Int
 | []=>0
 | x::r=>f x+sumL f r
end Vc
namespace Vc
def restN (m n:Int):Nat→Int
 | 0=>n
 | i+1=>restN m n i / m
def digN (m n:Int):Nat→List Int
 | 0=>[]
 | i+1=>digN m n i++[restN m n i % m]
structure An where
 set:List Int
 sum:Int
def uAt (u:List Int) (i:Int):Int:=u[i.toNat]?.getD 0
def rightB (u:List Int) (l:List An):Bool:=l.all fun a=>sumL (uAt u) a.set==a.sum
def zIv (lo hi u:List Int):List Int × List Int:=(List.zipWith min lo u,List.zipWith max hi u)
def kn (m:Int) (h:Nat) (l:List An):Nat→Option (List Int × List Int)
 | 0=>none
 | n+1=>bif rightB (digN m n h) l then (match kn m h l n with
  | none=>some (digN m n h,digN m n h)
  | some o=>some (zIv o.1 o.2 (digN m n h))) else kn m h l n
end Vc
set_option maxRecDepth 10000
set_option maxHeartbeats 4000000
namespace Vc
open Go Go.Proofs
def iss (l:List (List Int)):List Data:=l.map fun x=>.slice 1 (ints x)
theorem iss_len (l:List (List Int)):(iss l).length=l.length:=List.length_map _
theorem iss_at {l:List (List Int)} {k:Nat} {x:List Int} (h:l[k]?=some x):(iss l)[((k:Int)).toNat]?=some (.slice 1 (ints x)):=by
 show (l.map _)[k]?=_
 rw [List.getElem?_map,h]; rfl
def jr121:AFun:=⟨5,0,[.tmp 2],
 (.seq
 (.reg [] [⟨some 2,.mov (.cst (.d (.int .i64 0))),none⟩])
 (.seq
  (.reg [] [⟨some 3,.mov (.tmp 0),none⟩,
   ⟨some 4,.call 122 [(.tmp 3),(.cst (.d (.int .i64 1))),(.cst (.d (.int .i64 5)))],none⟩,
   ⟨some 2,.mov (.tmp 4),none⟩])
  .ret))⟩
def jr124:AFun:=⟨37,1,[.tmp 4],
 (.seq
 (.reg [] [⟨some 4,.mov (.cst (.d (.int .i64 0))),none⟩])
 (.seq
  (.seq
  (.reg [] [⟨some 9,.mov (.tmp 1),none⟩,
   ⟨some 10,.len (.tmp 9),none⟩,
   ⟨some 11,.cmp .eql (.tmp 10) (.cst (.d (.int .i64 0))),none⟩])
  (.cond (.tmp 11)
   (.seq
   (.reg [] [⟨some 4,.mov (.cst (.d (.int .i64 12))),none⟩])
   .ret)
   .skip))
  (.seq
  (.reg [] [⟨some 5,.mov (.cst (.d (.int .i64 (-1)))),none⟩])
  (.seq
   (.seq
   (.reg [] [⟨some 12,.mov (.tmp 1),none⟩,
    ⟨some 13,.len (.tmp 12),none⟩,
    ⟨some 14,.mov (.cst (.d (.int .i64 0))),none⟩])
   (.post [] [0]
    (.block 0
    (.keep [0,5,12,13,14] []
     (.loop
     (.post [0,5,12,13,14] [0]
      (.seq
      (.reg [] [⟨some 15,.cmp .lss (.tmp 14) (.tmp 13),none⟩])
      (.seq
       (.cond (.tmp 15)
       .skip
       (.exit 0))
       (.seq
       (.block 1
        (.seq
        (.reg [] [⟨some 16,.ixa 1 (.tmp 12) (.tmp 14),none⟩,
         ⟨some 17,.ld false 1 (.tmp 16),none⟩,
         ⟨some 7,.mov (.tmp 17),none⟩])
        (.seq
         (.seq
         (.reg [0] [⟨some 18,.mov (.tmp 7),none⟩,
          ⟨some 19,.cmp .lss (.tmp 18) (.cst (.d (.int .i64 0))),none⟩,
          ⟨some 20,.mov (.tmp 19),none⟩,
          ⟨some 21,.mov (.tmp 7),some (20,false)⟩,
          ⟨some 22,.mov (.tmp 0),some (20,false)⟩,
          ⟨some 23,.cmp .geq (.tmp 21) (.tmp 22),some (20,false)⟩,
          ⟨some 24,.pick (.tmp 20) (.cst (.d (.bool true))) (.tmp 23),none⟩,
          ⟨some 25,.call 103 [(.tmp 24),(.cst (.d (.int .i64 10)))],none⟩,
          ⟨some 26,.mov (.tmp 7),none⟩,
          ⟨some 27,.mov (.tmp 5),none⟩,
          ⟨some 28,.cmp .leq (.tmp 26) (.tmp 27),none⟩,
          ⟨some 29,.call 103 [(.tmp 28),(.cst (.d (.int .i64 11)))],none⟩,
          ⟨some 30,.bsl 0 32 1 2 [(.int .i64 0),(.int .i64 0)] [(0,(.tmp 25)),(1,(.tmp 29))],none⟩,
          ⟨some 31,.call 99 [(.tmp 30)],none⟩,
          ⟨some 8,.mov (.tmp 31),none⟩])
         (.seq
          (.reg [] [⟨some 32,.mov (.tmp 8),none⟩,
           ⟨some 33,.cmp .neq (.tmp 32) (.cst (.d (.int .i64 0))),none⟩])
          (.cond (.tmp 33)
          (.seq
           (.reg [] [⟨some 34,.mov (.tmp 8),none⟩,
            ⟨some 4,.mov (.tmp 34),none⟩])
           .ret)
          .skip)))
         (.reg [] [⟨some 35,.mov (.tmp 7),none⟩,
          ⟨some 5,.mov (.tmp 35),none⟩]))))
       (.reg [] [⟨some 36,.arith .add .i64 (.tmp 14) (.cst (.d (.int .i64 1))),none⟩,
        ⟨some 14,.mov (.tmp 36),none⟩]))))))))))
   (.seq
   (.reg [] [⟨some 4,.mov (.cst (.d (.int .i64 0))),none⟩])
   .ret)))))⟩
def jr123:AFun:=⟨7,0,[.tmp 3],
 (.seq
 (.reg [] [⟨some 3,.mov (.cst (.d (.int .i64 0))),none⟩])
 (.seq
  (.reg [] [⟨some 4,.ld false 1 (.tmp 1),none⟩,
   ⟨some 5,.mov (.tmp 0),none⟩,
   ⟨some 6,.call 124 [(.tmp 4),(.tmp 5)],none⟩,
   ⟨some 3,.mov (.tmp 6),none⟩])
  .ret))⟩
def jr125:AFun:=⟨22,2,[.tmp 4],
 (.seq
 (.reg [] [⟨some 4,.mov (.cst (.nils 1)),none⟩])
 (.seq
  (.reg [] [⟨some 5,.mov (.cst (.nils 1)),none⟩])
  (.seq
  (.seq
   (.reg [] [⟨some 8,.mov (.tmp 0),none⟩,
    ⟨some 9,.len (.tmp 8),none⟩,
    ⟨some 10,.mov (.cst (.d (.int .i64 0))),none⟩])
   (.post [5] [0,1]
   (.block 0
    (.asrow 1 32 1 5
    (.keep [1,5,8,9,10] []
     (.loop
     (.post [1,5,8,9,10] [0,1]
      (.seq
      (.reg [] [⟨some 11,.cmp .lss (.tmp 10) (.tmp 9),none⟩])
      (.seq
       (.cond (.tmp 11)
       .skip
       (.exit 0))
       (.seq
       (.block 1
        (.seq
        (.reg [] [⟨some 12,.ixa 1 (.tmp 8) (.tmp 10),none⟩,
         ⟨some 13,.ld false 1 (.tmp 12),none⟩,
         ⟨some 7,.mov (.tmp 13),none⟩])
        (.reg [0,1] [⟨some 14,.mov (.tmp 5),none⟩,
         ⟨some 15,.mov (.tmp 1),none⟩,
         ⟨some 16,.mov (.tmp 7),none⟩,
         ⟨some 17,.callv (.tmp 15) [(.tmp 16)],none⟩,
         ⟨some 18,.bsl 0 32 1 1 [(.int .i64 0)] [(0,(.tmp 17))],none⟩,
         ⟨some 19,.app 1 32 1 8 (.tmp 14) (.tmp 18),none⟩,
         ⟨some 5,.mov (.tmp 19),none⟩])))
       (.reg [] [⟨some 20,.arith .add .i64 (.tmp 10) (.cst (.d (.int .i64 1))),none⟩,
        ⟨some 10,.mov (.tmp 20),none⟩])))))))))))
  (.seq
   (.reg [] [⟨some 21,.mov (.tmp 5),none⟩,
    ⟨some 4,.mov (.tmp 21),none⟩])
   .ret))))⟩
def jr129:AFun:=⟨5,0,[.tmp 2],
 (.seq
 (.reg [] [⟨some 2,.mov (.cst (.d (.int .i64 0))),none⟩])
 (.seq
  (.reg [] [⟨some 3,.mov (.tmp 0),none⟩,
   ⟨some 4,.call 122 [(.tmp 3),(.cst (.d (.int .i64 0))),(.cst (.d (.int .i64 7)))],none⟩,
   ⟨some 2,.mov (.tmp 4),none⟩])
  .ret))⟩
def jr130:AFun:=⟨22,2,[.tmp 4],
 (.seq
 (.reg [] [⟨some 4,.mov (.cst (.nils 1)),none⟩])
 (.seq
  (.reg [] [⟨some 5,.mov (.cst (.nils 1)),none⟩])
  (.seq
  (.seq
   (.reg [] [⟨some 8,.mov (.tmp 0),none⟩,
    ⟨some 9,.len (.tmp 8),none⟩,
    ⟨some 10,.mov (.cst (.d (.int .i64 0))),none⟩])
   (.post [5] [0,1]
   (.block 0
    (.asrow 1 32 1 5
    (.keep [1,5,8,9,10] []
     (.loop
     (.post [1,5,8,9,10] [0,1]
      (.seq
      (.reg [] [⟨some 11,.cmp .lss (.tmp 10) (.tmp 9),none⟩])
      (.seq
       (.cond (.tmp 11)
       .skip
       (.exit 0))
       (.seq
       (.block 1
        (.seq
        (.reg [] [⟨some 12,.ixa 1 (.tmp 8) (.tmp 10),none⟩,
         ⟨some 13,.ld false 1 (.tmp 12),none⟩,
         ⟨some 7,.mov (.tmp 13),none⟩])
        (.reg [0,1] [⟨some 14,.mov (.tmp 5),none⟩,
         ⟨some 15,.mov (.tmp 1),none⟩,
         ⟨some 16,.mov (.tmp 7),none⟩,
         ⟨some 17,.callv (.tmp 15) [(.tmp 16)],none⟩,
         ⟨some 18,.bsl 0 32 1 1 [(.int .i64 0)] [(0,(.tmp 17))],none⟩,
         ⟨some 19,.app 1 32 1 8 (.tmp 14) (.tmp 18),none⟩,
         ⟨some 5,.mov (.tmp 19),none⟩])))
       (.reg [] [⟨some 20,.arith .add .i64 (.tmp 10) (.cst (.d (.int .i64 1))),none⟩,
        ⟨some 10,.mov (.tmp 20),none⟩])))))))))))
  (.seq
   (.reg [] [⟨some 21,.mov (.tmp 5),none⟩,
    ⟨some 4,.mov (.tmp 21),none⟩])
   .ret))))⟩
def jr131:AFun:=⟨22,0,[.tmp 4],
 (.seq
 (.reg [] [⟨some 4,.mov (.cst (.d (.int .i64 0))),none⟩])
 (.seq
  (.reg [] [⟨some 5,.mov (.cst (.d (.int .i64 0))),none⟩])
  (.seq
  (.seq
   (.reg [] [⟨some 8,.mov (.tmp 1),none⟩,
    ⟨some 9,.len (.tmp 8),none⟩,
    ⟨some 10,.mov (.cst (.d (.int .i64 0))),none⟩])
   (.post [5] []
   (.block 0
    (.keep [0,5,8,9,10] []
    (.loop
     (.post [0,5,8,9,10] []
     (.seq
      (.reg [] [⟨some 11,.cmp .lss (.tmp 10) (.tmp 9),none⟩])
      (.seq
      (.cond (.tmp 11)
       .skip
       (.exit 0))
      (.seq
       (.block 1
       (.seq
        (.reg [] [⟨some 12,.ixa 1 (.tmp 8) (.tmp 10),none⟩,
         ⟨some 13,.ld false 1 (.tmp 12),none⟩,
         ⟨some 7,.mov (.tmp 13),none⟩])
        (.reg [] [⟨some 14,.mov (.tmp 5),none⟩,
         ⟨some 15,.mov (.tmp 0),none⟩,
         ⟨some 16,.mov (.tmp 7),none⟩,
         ⟨some 17,.ixa 1 (.tmp 15) (.tmp 16),none⟩,
         ⟨some 18,.ld false 1 (.tmp 17),none⟩,
         ⟨some 19,.arith .add .i64 (.tmp 14) (.tmp 18),none⟩,
         ⟨some 5,.mov (.tmp 19),none⟩])))
       (.reg [] [⟨some 20,.arith .add .i64 (.tmp 10) (.cst (.d (.int .i64 1))),none⟩,
        ⟨some 10,.mov (.tmp 20),none⟩]))))))))))
  (.seq
   (.reg [] [⟨some 21,.mov (.tmp 5),none⟩,
    ⟨some 4,.mov (.tmp 21),none⟩])
   .ret))))⟩
def jr128:AFun:=⟨26,0,[.tmp 4],
 (.seq
 (.reg [] [⟨some 4,.mov (.cst (.d (.int .i64 0))),none⟩])
 (.seq
  (.reg [] [⟨some 8,.mov (.tmp 0),none⟩,
   ⟨some 9,.len (.tmp 8),none⟩,
   ⟨some 10,.mov (.tmp 1),none⟩,
   ⟨some 11,.len (.tmp 10),none⟩,
   ⟨some 12,.arith .add .i64 (.tmp 9) (.tmp 11),none⟩,
   ⟨some 5,.mov (.tmp 12),none⟩])
  (.seq
  (.seq
   (.reg [] [⟨some 13,.mov (.tmp 0),none⟩,
    ⟨some 14,.len (.tmp 13),none⟩,
    ⟨some 15,.mov (.cst (.d (.int .i64 0))),none⟩])
   (.post [5] []
   (.block 0
    (.keep [1,5,13,14,15] []
    (.loop
     (.post [1,5,13,14,15] []
     (.seq
      (.reg [] [⟨some 16,.cmp .lss (.tmp 15) (.tmp 14),none⟩])
      (.seq
      (.cond (.tmp 16)
       .skip
       (.exit 0))
      (.seq
       (.block 1
       (.seq
        (.reg [] [⟨some 17,.ixa 1 (.tmp 13) (.tmp 15),none⟩,
         ⟨some 18,.ld false 1 (.tmp 17),none⟩,
         ⟨some 7,.mov (.tmp 18),none⟩])
        (.seq
        (.reg [] [⟨some 19,.mov (.tmp 1),none⟩,
         ⟨some 20,.mov (.tmp 7),none⟩,
         ⟨some 21,.call 106 [(.tmp 19),(.tmp 20)],none⟩])
        (.cond (.tmp 21)
         (.reg [] [⟨some 22,.mov (.tmp 5),none⟩,
          ⟨some 23,.arith .sub .i64 (.tmp 22) (.cst (.d (.int .i64 2))),none⟩,
          ⟨some 5,.mov (.tmp 23),none⟩])
         .skip))))
       (.reg [] [⟨some 24,.arith .add .i64 (.tmp 15) (.cst (.d (.int .i64 1))),none⟩,
        ⟨some 15,.mov (.tmp 24),none⟩]))))))))))
  (.seq
   (.reg [] [⟨some 25,.mov (.tmp 5),none⟩,
    ⟨some 4,.mov (.tmp 25),none⟩])
   .ret))))⟩
def jr127:AFun:=⟨16,0,[.tmp 4],
 (.seq
 (.reg [] [⟨some 4,.mov (.cst (.d (.bool false))),none⟩])
 (.seq
  (.reg [] [⟨some 6,.mov (.tmp 0),none⟩,
   ⟨some 7,.ld false 1 (.tmp 1),none⟩,
   ⟨some 8,.call 128 [(.tmp 6),(.tmp 7)],none⟩,
   ⟨some 5,.mov (.tmp 8),none⟩])
  (.seq
  (.reg [] [⟨some 9,.mov (.tmp 5),none⟩,
   ⟨some 10,.cmp .gtr (.tmp 9) (.cst (.d (.int .i64 0))),none⟩,
   ⟨some 11,.mov (.tmp 10),none⟩,
   ⟨some 12,.mov (.tmp 5),some (11,true)⟩,
   ⟨some 13,.ld false 1 (.tmp 2),some (11,true)⟩,
   ⟨some 14,.cmp .lss (.tmp 12) (.tmp 13),some (11,true)⟩,
   ⟨some 15,.pick (.tmp 11) (.tmp 14) (.cst (.d (.bool false))),none⟩,
   ⟨some 4,.mov (.tmp 15),none⟩])
  .ret)))⟩
def jr169:AFun:=⟨19,0,[.tmp 4],
 (.seq
 (.reg [] [⟨some 4,.mov (.cst (.d (.int .i64 0))),none⟩])
 (.seq
  (.seq
  (.reg [] [⟨some 6,.mov (.tmp 0),none⟩,
   ⟨some 7,.len (.tmp 6),none⟩,
   ⟨some 8,.mov (.cst (.d (.int .i64 0))),none⟩])
  (.post [] []
   (.block 0
   (.keep [0,1,7,8] []
    (.loop
    (.post [0,1,7,8] []
     (.seq
     (.reg [] [⟨some 9,.cmp .lss (.tmp 8) (.tmp 7),none⟩])
     (.seq
      (.cond (.tmp 9)
      .skip
      (.exit 0))
      (.seq
      (.block 1
       (.seq
       (.reg [] [⟨some 10,.mov (.tmp 8),none⟩,
        ⟨some 5,.mov (.tmp 10),none⟩])
       (.seq
        (.reg [] [⟨some 11,.mov (.tmp 1),none⟩,
         ⟨some 12,.mov (.tmp 0),none⟩,
         ⟨some 13,.mov (.tmp 5),none⟩,
         ⟨some 14,.ixa 1 (.tmp 12) (.tmp 13),none⟩,
         ⟨some 15,.ld false 1 (.tmp 14),none⟩,
         ⟨some 16,.callv (.tmp 11) [(.tmp 15)],none⟩])
        (.cond (.tmp 16)
        (.seq
         (.reg [] [⟨some 17,.mov (.tmp 5),none⟩,
          ⟨some 4,.mov (.tmp 17),none⟩])
         .ret)
        .skip))))
      (.reg [] [⟨some 18,.arith .add .i64 (.tmp 8) (.cst (.d (.int .i64 1))),none⟩,
       ⟨some 8,.mov (.tmp 18),none⟩]))))))))))
  (.seq
  (.reg [] [⟨some 4,.mov (.cst (.d (.int .i64 (-1)))),none⟩])
  .ret)))⟩
def jr126:AFun:=⟨9,0,[.tmp 4],
 (.seq
 (.reg [] [⟨some 4,.mov (.cst (.d (.bool false))),none⟩])
 (.seq
  (.reg [] [⟨some 5,.mov (.tmp 0),none⟩,
   ⟨some 6,.mov (.tmp 1),none⟩,
   ⟨some 7,.call 169 [(.tmp 5),(.tmp 6)],none⟩,
   ⟨some 8,.cmp .geq (.tmp 7) (.cst (.d (.int .i64 0))),none⟩,
   ⟨some 4,.mov (.tmp 8),none⟩])
  .ret))⟩
end Vc
namespace Vc
structure Rn where
 nm:List UInt8
 pw:Int
 ix:Int
 tn:Int
def rless (a b:Rn):Bool:=decide (a.tn < b.tn)||(a.tn==b.tn&&decide (a.ix < b.ix))
def oins (x:Rn):List Rn→List Rn
 | []=>[x]
 | y::r=>bif rless x y then x::y::r else y::oins x r
def isortL (acc:List Rn):List Rn→List Rn
 | []=>acc
 | x::r=>isortL (oins x acc) r
def key (a b:Rn):Prop:=a.tn < b.tn∨(a.tn=b.tn∧a.ix < b.ix)
theorem rless_iff {a b:Rn}:rless a b=true↔key a b:=by
 unfold rless key
 simp
theorem key_trans {a b c:Rn} (h1:key a b) (h2:key b c):key a c:=by unfold key at *; omega
theorem key_irr {a:Rn}:¬ key a a:=by unfold key; omega
theorem key_tot {a b:Rn} (h:a.ix≠b.ix):key a b∨key b a:=by unfold key; omega
def Srt:List Rn→Prop
 | []=>True
 | x::r=>(∀ y∈r,key x y)∧Srt r
def Dst (l:List Rn):Prop:=l.Pairwise fun a b=>a.ix≠b.ix
theorem oins_perm (x:Rn):∀ l,(oins x l).Perm (x::l)
 | []=>List.Perm.refl _
 | y::r=>by
  simp only [oins]
  cases rless x y
  ·exact (List.Perm.cons y (oins_perm x r)).trans (List.Perm.swap x y r)
  ·exact List.Perm.refl _
theorem oins_srt {x:Rn}:∀ {l:List Rn},Srt l→(∀ y∈l,x.ix≠y.ix)→Srt (oins x l)
 | [],_,_=>⟨fun _ h=>(by cases h),trivial⟩
 | y::r,⟨h1,h2⟩,hd=>by
  simp only [oins]
  cases h:rless x y
  ·have hy : key y x := by
    rcases key_tot (hd y List.mem_cons_self) with h3 | h3
    ·rw [rless_iff.2 h3] at h; cases h
    ·exact h3
   refine ⟨fun z hz=>?_,oins_srt h2 fun z hz=>hd z (List.mem_cons_of_mem _ hz)⟩
   rcases List.mem_cons.1 ((oins_perm x r).mem_iff.1 hz) with rfl | hz
   ·exact hy
   ·exact h1 z hz
  ·have hk:=rless_iff.1 h
   refine ⟨fun z hz=>?_,h1,h2⟩
   rcases List.mem_cons.1 hz with rfl | hz
   ·exact hk
   ·exact key_trans hk (h1 z hz)
theorem isortL_perm:∀ (l acc:List Rn),(isortL acc l).Perm (acc++l)
 | [],acc=>by rw [List.append_nil]; exact List.Perm.refl _
 | x::r,acc=>by
  refine (isortL_perm r (oins x acc)).trans ?_
  refine ((oins_perm x acc).append_right r).trans ?_
  exact (List.perm_middle (a:=x) (l₁:=acc) (l₂:=r)).symm
theorem isortL_srt:∀ (l acc:List Rn),Srt acc→Dst (acc++l)→Srt (isortL acc l)
 | [],acc,h,_=>h
 | x::r,acc,h,hd=>by
  have hd2:Dst (x::(acc++r)):=(List.perm_middle (a:=x) (l₁:=acc) (l₂:=r)).pairwise_iff (fun h=>Ne.symm h) |>.1 hd
  have hx:=(List.pairwise_cons.1 hd2).1
  refine isortL_srt r (oins x acc) (oins_srt h fun y hy=>hx y (List.mem_append_left _ hy)) ?_
  have hp:((oins x acc)++r).Perm (x::(acc++r)):=(oins_perm x acc).append_right r
  exact hp.symm.pairwise_iff (fun h=>Ne.symm h) |>.1 hd2
theorem srt_ext:∀ {a b:List Rn},Srt a→Srt b→(∀ x,x∈a↔x∈b)→a=b
 | [],[],_,_,_=>rfl
 | [],y::s,_,_,h=>by cases (h y).2 List.mem_cons_self
 | x::r,[],_,_,h=>by cases (h x).1 List.mem_cons_self
 | x::r,y::s,⟨h1,h2⟩,⟨h3,h4⟩,h=>by
  have e:x=y:=by
   rcases List.mem_cons.1 ((h x).1 List.mem_cons_self) with e | hx
   ·exact e
   rcases List.mem_cons.1 ((h y).2 List.mem_cons_self) with e | hy
   ·exact e.symm
   exact absurd (key_trans (h1 y hy) (h3 x hx)) key_irr
  subst e
  have:r=s:=srt_ext h2 h4 fun z=>by
   constructor
   ·intro hz
    rcases List.mem_cons.1 ((h z).1 (List.mem_cons_of_mem _ hz)) with rfl | hz'
    ·exact absurd (h1 _ hz) key_irr
    ·exact hz'
   ·intro hz
    rcases List.mem_cons.1 ((h z).2 (List.mem_cons_of_mem _ hz)) with rfl | hz'
    ·exact absurd (h3 _ hz) key_irr
    ·exact hz'
  rw [this]
def sorted (l:List Rn):List Rn:=isortL [] l
theorem sorted_perm (l:List Rn):(sorted l).Perm l:=isortL_perm l []
theorem sorted_srt {l:List Rn} (h:Dst l):Srt (sorted l):=isortL_srt l [] trivial h
theorem sorted_ext {a b:List Rn} (ha:Dst a) (hb:Dst b) (h:a.Perm b):sorted a=sorted b :=
 srt_ext (sorted_srt ha) (sorted_srt hb) fun x=>((sorted_perm a).mem_iff.trans h.mem_iff).trans (sorted_perm b).mem_iff.symm
theorem oins_right {x:Rn}:∀ {a b:List Rn},Srt (a++b)→(∀ y∈b,key x y)→(∀ y∈a,∀ z,a.getLast?=some z→¬ key x z)→oins x (a++b)=a++x::b
 | [],[],_,_,_=>rfl
 | [],y::r,_,hb,_=>by
  show oins x (y::r)=x::y::r
  rw [oins,rless_iff.2 (hb y List.mem_cons_self)]; rfl
 | y::a,b,⟨h1,h2⟩,hb,ha=>by
  show oins x (y::(a++b))=y::(a++x::b)
  have hy:rless x y=false:=by
   rw [Bool.eq_false_iff]
   intro hc
   have hk:=rless_iff.1 hc
   cases hl:(y::a).getLast? with
   | none=>simp at hl
   | some z =>
    refine ha y List.mem_cons_self z hl ?_
    have hz:z∈y::a:=List.mem_of_getLast? hl
    rcases List.mem_cons.1 hz with rfl | hz
    ·exact hk
    ·exact key_trans hk (h1 z (List.mem_append_left _ hz))
  rw [oins,hy]
  show y::oins x (a++b)=_
  congr 1
  refine oins_right h2 hb fun w hw z hz=>ha w (List.mem_cons_of_mem _ hw) z ?_
  cases a with
  | nil=>cases hw
  | cons u v=>simpa [List.getLast?_cons_cons] using hz
def gGo (lim:Int):List Rn→Int→List Rn × List Int
 | [],_=>([],[])
 | r::l,p=>bif decide (lim < p+r.pw) then (r::(gGo lim l p).1,(gGo lim l p).2) else ({ r with tn:=r.tn+1 }::(gGo lim l (p+r.pw)).1,r.ix::(gGo lim l (p+r.pw)).2)
theorem gGo_sub (lim:Int):∀ (l:List Rn) (p:Int),∀ x∈(gGo lim l p).2,∃ r∈l,r.ix=x
 | [],_,x,h=>by cases h
 | r::l,p,x,h=>by
  rw [gGo] at h
  cases hc:decide (lim < p+r.pw) with
  | true =>
   rw [hc] at h
   obtain ⟨y,hy,e⟩:=gGo_sub lim l p x h
   exact ⟨y,List.mem_cons_of_mem _ hy,e⟩
  | false =>
   rw [hc] at h
   rcases List.mem_cons.1 h with rfl | h
   ·exact ⟨r,List.mem_cons_self,rfl⟩
   ·obtain ⟨y,hy,e⟩:=gGo_sub lim l _ x h
    exact ⟨y,List.mem_cons_of_mem _ hy,e⟩
def bump (run:List Int) (r:Rn):Rn:=bif run.contains r.ix then { r with tn:=r.tn+1 } else r
theorem gGo_map (lim:Int):∀ {l:List Rn} {p:Int},Dst l→(gGo lim l p).1=l.map (bump (gGo lim l p).2)
 | [],_,_=>rfl
 | r::l,p,hd=>by
  obtain ⟨h1,h2⟩:=List.pairwise_cons.1 hd
  rw [gGo]
  cases hc:decide (lim < p+r.pw) with
  | true =>
   show r::(gGo lim l p).1=bump (gGo lim l p).2 r::l.map (bump (gGo lim l p).2)
   rw [gGo_map lim h2]
   congr 1
   have:(gGo lim l p).2.contains r.ix=false:=by
    rw [Bool.eq_false_iff]
    intro h
    obtain ⟨y,hy,e⟩:=gGo_sub lim l p _ (List.contains_iff_mem.1 h)
    exact h1 y hy e.symm
   unfold bump
   rw [this]; rfl
  | false =>
   show { r with tn:=r.tn+1 }::(gGo lim l (p+r.pw)).1=bump (r.ix::(gGo lim l (p+r.pw)).2) r::l.map (bump (r.ix::(gGo lim l (p+r.pw)).2))
   rw [gGo_map lim h2]
   congr 1
   ·unfold bump
    rw [List.contains_cons,beq_self_eq_true,Bool.true_or]; rfl
   ·refine List.map_congr_left fun y hy=>?_
    unfold bump
    rw [List.contains_cons,beq_eq_false_iff_ne.2 (Ne.symm (h1 y hy)),Bool.false_or]
def ioins (x:Int):List Int→List Int
 | []=>[x]
 | y::r=>bif decide (x < y) then x::y::r else y::ioins x r
def isortI (acc:List Int):List Int→List Int
 | []=>acc
 | x::r=>isortI (ioins x acc) r
def Up:List Int→Prop
 | []=>True
 | x::r=>(∀ y∈r,x < y)∧Up r
theorem ioins_perm (x:Int):∀ l,(ioins x l).Perm (x::l)
 | []=>List.Perm.refl _
 | y::r=>by
  simp only [ioins]
  cases decide (x < y)
  ·exact (List.Perm.cons y (ioins_perm x r)).trans (List.Perm.swap x y r)
  ·exact List.Perm.refl _
theorem ioins_up {x:Int}:∀ {l:List Int},Up l→x∉l→Up (ioins x l)
 | [],_,_=>⟨fun _ h=>(by cases h),trivial⟩
 | y::r,⟨h1,h2⟩,hd=>by
  simp only [ioins]
  have hxy:x≠y:=fun e=>hd (by rw [e]; exact List.mem_cons_self)
  cases h:decide (x < y)
  ·have hy:y < x:=by have:=of_decide_eq_false h; omega
   refine ⟨fun z hz=>?_,ioins_up h2 fun hz=>hd (List.mem_cons_of_mem _ hz)⟩
   rcases List.mem_cons.1 ((ioins_perm x r).mem_iff.1 hz) with rfl | hz
   ·exact hy
   ·exact h1 z hz
  ·have hk:=of_decide_eq_true h
   refine ⟨fun z hz=>?_,h1,h2⟩
   rcases List.mem_cons.1 hz with rfl | hz
   ·exact hk
   ·have:=h1 z hz; omega
theorem isortI_perm:∀ (l acc:List Int),(isortI acc l).Perm (acc++l)
 | [],acc=>by rw [List.append_nil]; exact List.Perm.refl _
 | x::r,acc=>by
  refine (isortI_perm r (ioins x acc)).trans ?_
  refine ((ioins_perm x acc).append_right r).trans ?_
  exact (List.perm_middle (a:=x) (l₁:=acc) (l₂:=r)).symm
theorem isortI_up:∀ (l acc:List Int),Up acc→(acc++l).Nodup→Up (isortI acc l)
 | [],acc,h,_=>h
 | x::r,acc,h,hd=>by
  have hd2:(x::(acc++r)).Nodup:=(List.perm_middle (a:=x) (l₁:=acc) (l₂:=r)).nodup_iff.1 hd
  have hx:=(List.nodup_cons.1 hd2).1
  refine isortI_up r (ioins x acc) (ioins_up h fun hy=>hx (List.mem_append_left _ hy)) ?_
  exact ((ioins_perm x acc).append_right r).nodup_iff.2 hd2
theorem up_ext:∀ {a b:List Int},Up a→Up b→(∀ x,x∈a↔x∈b)→a=b
 | [],[],_,_,_=>rfl
 | [],y::s,_,_,h=>by cases (h y).2 List.mem_cons_self
 | x::r,[],_,_,h=>by cases (h x).1 List.mem_cons_self
 | x::r,y::s,⟨h1,h2⟩,⟨h3,h4⟩,h=>by
  have e:x=y:=by
   rcases List.mem_cons.1 ((h x).1 List.mem_cons_self) with e | hx
   ·exact e
   rcases List.mem_cons.1 ((h y).2 List.mem_cons_self) with e | hy
   ·exact e.symm
   have:=h1 y hy; have:=h3 x hx; omega
  subst e
  have:r=s:=up_ext h2 h4 fun z=>by
   constructor
   ·intro hz
    rcases List.mem_cons.1 ((h z).1 (List.mem_cons_of_mem _ hz)) with rfl | hz'
    ·have:=h1 _ hz; omega
    ·exact hz'
   ·intro hz
    rcases List.mem_cons.1 ((h z).2 (List.mem_cons_of_mem _ hz)) with rfl | hz'
    ·have:=h3 _ hz; omega
    ·exact hz'
  rw [this]
theorem ioins_right {x:Int}:∀ {a b:List Int},Up (a++b)→(∀ y∈b,x < y)→(∀ z,a.getLast?=some z→¬ x < z)→ioins x (a++b)=a++x::b
 | [],[],_,_,_=>rfl
 | [],y::r,_,hb,_=>by
  show ioins x (y::r)=x::y::r
  rw [ioins,decide_eq_true (hb y List.mem_cons_self)]; rfl
 | y::a,b,⟨h1,h2⟩,hb,ha=>by
  show ioins x (y::(a++b))=y::(a++x::b)
  have hy:decide (x < y)=false:=by
   refine decide_eq_false fun hk=>?_
   cases hl:(y::a).getLast? with
   | none=>simp at hl
   | some z =>
    refine ha z hl ?_
    have hz:z∈y::a:=List.mem_of_getLast? hl
    rcases List.mem_cons.1 hz with rfl | hz
    ·exact hk
    ·have:=h1 z (List.mem_append_left _ hz); omega
  rw [ioins,hy]
  show y::ioins x (a++b)=_
  congr 1
  refine ioins_right h2 hb fun z hz=>ha z ?_
  cases a with
  | nil=>cases hz
  | cons u v=>simpa [List.getLast?_cons_cons] using hz
def upTo (run:List Int):Nat→List Int
 | 0=>[]
 | k+1=>upTo run k++(bif run.contains (k:Int) then [(k:Int)] else [])
theorem upTo_mem (run:List Int):∀ (k:Nat) (x:Int),x∈upTo run k↔(x∈run∧0≤x∧x < (k:Int))
 | 0,x=>by
  constructor
  ·intro h; cases h
  ·rintro ⟨_,h1,h2⟩; omega
 | k+1,x=>by
  rw [upTo,List.mem_append,upTo_mem run k x]
  cases h:run.contains (k:Int) with
  | true =>
   have h:=List.contains_iff_mem.1 h
   simp only [cond_true,List.mem_singleton]
   constructor
   ·rintro (h1 | rfl)
    ·exact ⟨h1.1,by omega,by omega⟩
    ·exact ⟨h,by omega,by omega⟩
   ·rintro ⟨h1,h2,h3⟩
    by_cases e:x=(k:Int)
    ·exact .inr e
    ·exact .inl ⟨h1,h2,by omega⟩
  | false =>
   simp only [cond_false,List.not_mem_nil,or_false]
   constructor
   ·rintro h1; exact ⟨h1.1,by omega,by omega⟩
   ·rintro ⟨h1,h2,h3⟩
    refine ⟨h1,h2,?_⟩
    have:x≠(k:Int):=fun e=>by
     subst e
     rw [List.contains_iff_mem.2 h1] at h; cases h
    omega
theorem up_snoc:∀ {l:List Int} {x:Int},Up l→(∀ y∈l,y < x)→Up (l++[x])
 | [],x,_,_=>⟨fun _ h=>(by cases h),trivial⟩
 | y::r,x,⟨h1,h2⟩,h=>by
  refine ⟨fun z hz=>?_,up_snoc h2 fun z hz=>h z (List.mem_cons_of_mem _ hz)⟩
  rcases List.mem_append.1 hz with hz | hz
  ·exact h1 z hz
  ·rw [List.mem_singleton.1 hz]; exact h y List.mem_cons_self
theorem upTo_up (run:List Int):∀ k,Up (upTo run k)
 | 0=>trivial
 | k+1=>by
  rw [upTo]
  cases run.contains (k:Int)
  ·show Up (upTo run k++[]); rw [List.append_nil]; exact upTo_up run k
  ·exact up_snoc (upTo_up run k) fun y hy=>((upTo_mem run k y).1 hy).2.2
theorem isort_upTo {run:List Int} {n:Nat} (hd:run.Nodup) (hr:∀ x∈run,0≤x∧x < (n:Int)):isortI [] run=upTo run n :=
 up_ext (isortI_up run [] trivial hd) (upTo_up run n) fun x=>by
  rw [(isortI_perm run []).mem_iff,upTo_mem]
  exact ⟨fun h=>⟨h,hr x h⟩,fun h=>h.1⟩
end Vc
namespace Vc
theorem srt_at:∀ {l:List Rn} {i j:Nat} {a b:Rn},Srt l→l[i]?=some a→l[j]?=some b→i < j→key a b
 | [],_,_,_,_,_,h,_,_=>by cases h
 | x::r,0,j+1,a,b,⟨h1,h2⟩,ha,hb,hl=>by
  cases ha
  exact h1 b (List.mem_of_getElem? hb)
 | x::r,i+1,j+1,a,b,⟨h1,h2⟩,ha,hb,hl=>srt_at (l:=r) h2 ha hb (by omega)
abbrev Ld:=List UInt8 × Int
def tAt (t:List Int) (i:Nat):Int:=t[i]?.getD 0
def rnAt (l:List Ld) (t:List Int) (i:Nat):Rn:=⟨(l[i]?.getD ([],0)).1,(l[i]?.getD ([],0)).2,i,tAt t i⟩
def canon (l:List Ld) (t:List Int):List Rn:=(List.range l.length).map (rnAt l t)
theorem canon_mem {l:List Ld} {t:List Int} {r:Rn}:r∈canon l t↔∃ i,i < l.length∧r=rnAt l t i:=by
 unfold canon
 rw [List.mem_map]
 constructor
 ·rintro ⟨i,hi,rfl⟩; exact ⟨i,List.mem_range.1 hi,rfl⟩
 ·rintro ⟨i,hi,rfl⟩; exact ⟨i,List.mem_range.2 hi,rfl⟩
theorem canon_dst (l:List Ld) (t:List Int):Dst (canon l t):=by
 unfold Dst canon
 rw [List.pairwise_map]
 exact List.pairwise_lt_range.imp fun {a b} h e=>by
  have e:(a:Int)=(b:Int):=e
  omega
theorem canon_len (l:List Ld) (t:List Int):(canon l t).length=l.length:=by unfold canon; rw [List.length_map,List.length_range]
def ordr (l:List Ld) (t:List Int):List Rn:=sorted (canon l t)
theorem ordr_mem {l:List Ld} {t:List Int} {r:Rn}:r∈ordr l t↔∃ i,i < l.length∧r=rnAt l t i:=(sorted_perm _).mem_iff.trans canon_mem
theorem ordr_srt (l:List Ld) (t:List Int):Srt (ordr l t):=sorted_srt (canon_dst l t)
theorem ordr_len (l:List Ld) (t:List Int):(ordr l t).length=l.length:=(sorted_perm _).length_eq.trans (canon_len l t)
theorem ordr_dst (l:List Ld) (t:List Int):Dst (ordr l t):=(sorted_perm _).symm.pairwise_iff (fun h=>Ne.symm h) |>.1 (canon_dst l t)
def pick (t asked:List Int):Nat→Int
 | 0=>-1
 | k+1=>bif !asked.contains (k:Int)&&(decide (pick t asked k < 0)||decide (tAt t k < tAt t (max 0 (pick t asked k)).toNat)) then (k:Int) else pick t asked k
theorem pick_spec (t asked : List Int) : ∀ k, (pick t asked k = -1 ∧ ∀ q, q < k → asked.contains ((q : Nat) : Int) = true) ∨
  ∃ p:Nat,pick t asked k=p∧p < k∧asked.contains (p:Int)=false∧∀ q,q < k→asked.contains ((q:Nat):Int)=false→tAt t p < tAt t q∨(tAt t p=tAt t q∧p≤q)
 | 0=>.inl ⟨rfl,fun q h=>by omega⟩
 | k+1=>by
  have ih:=pick_spec t asked k
  rw [pick]
  cases ha:asked.contains (k:Int) with
  | true =>
   show (pick t asked k=-1∧_)∨_
   rcases ih with ⟨h1,h2⟩ | ⟨p,h1,h2,h3,h4⟩
   ·refine .inl ⟨h1,fun q hq=>?_⟩
    by_cases e:q=k
    ·rw [e]; exact ha
    ·exact h2 q (by omega)
   ·refine .inr ⟨p,h1,by omega,h3,fun q hq hn=>?_⟩
    by_cases e:q=k
    ·rw [e,ha] at hn; cases hn
    ·exact h4 q (by omega) hn
  | false =>
   rcases ih with ⟨h1,h2⟩ | ⟨p,h1,h2,h3,h4⟩
   ·rw [h1]
    refine .inr ⟨k,rfl,by omega,ha,fun q hq hn=>?_⟩
    by_cases e:q=k
    ·rw [e]; exact .inr ⟨rfl,Nat.le_refl _⟩
    ·rw [h2 q (by omega)] at hn; cases hn
   ·rw [h1]
    have e0:decide ((p:Int) < 0)=false:=decide_eq_false (by omega)
    have e1:(max 0 (p:Int)).toNat=p:=by omega
    rw [e0,e1]
    by_cases hlt:tAt t k < tAt t p
    ·rw [decide_eq_true hlt]
     refine .inr ⟨k,rfl,by omega,ha,fun q hq hn=>?_⟩
     by_cases e:q=k
     ·rw [e]; exact .inr ⟨rfl,Nat.le_refl _⟩
     ·have:=h4 q (by omega) hn; omega
    ·rw [decide_eq_false hlt]
     refine .inr ⟨p,rfl,by omega,h3,fun q hq hn=>?_⟩
     by_cases e:q=k
     ·subst e; omega
     ·exact h4 q (by omega) hn
theorem pick_ordr {l:List Ld} {t:List Int} {j:Nat} {r:Rn} (hr:(ordr l t)[j]?=some r):pick t (((ordr l t).take j).map Rn.ix) l.length=r.ix:=by
 obtain ⟨i0,hi0,e0⟩:=ordr_mem.1 (List.mem_of_getElem? hr)
 have hS:=ordr_srt l t
 have hno:(((ordr l t).take j).map Rn.ix).contains (i0:Int)=false:=by
  rw [Bool.eq_false_iff]
  intro hc
  obtain ⟨r',hr',e⟩:=List.mem_map.1 (List.contains_iff_mem.1 hc)
  obtain ⟨m,hm⟩:=List.getElem?_of_mem hr'
  have hmj:m < j:=by
   have:=(List.getElem?_eq_some_iff.1 hm).1
   rw [List.length_take] at this; omega
  rw [List.getElem?_take_of_lt hmj] at hm
  obtain ⟨i1,hi1,e1⟩:=ordr_mem.1 (List.mem_of_getElem? hm)
  have hk:=srt_at hS hm hr hmj
  have e2:(i1:Int)=(i0:Int):=by rw [e1] at e; exact e
  have e3:i1=i0:=by omega
  rw [e1,e0,e3] at hk
  exact key_irr hk
 rcases pick_spec t (((ordr l t).take j).map Rn.ix) l.length with ⟨_,h2⟩ | ⟨p,h1,h2,h3,h4⟩
 ·rw [h2 i0 hi0] at hno; cases hno
 ·rw [h1]
  obtain ⟨m,hm⟩:=List.getElem?_of_mem (ordr_mem.2 ⟨p,h2,rfl⟩:rnAt l t p∈ordr l t)
  have hjm:¬ m < j:=fun hlt=>by
   have:(p:Int)∈((ordr l t).take j).map Rn.ix:=List.mem_map.2 ⟨rnAt l t p,List.mem_of_getElem? (i:=m) (by rw [List.getElem?_take_of_lt hlt]; exact hm),rfl⟩
   rw [List.contains_iff_mem.2 this] at h3; cases h3
  by_cases e:m=j
  ·subst e
   rw [hm] at hr; cases hr; rfl
  ·have hk:=srt_at hS hr hm (by omega)
   have h5:=h4 i0 hi0 hno
   rw [e0] at hk ⊢
   have hk:tAt t i0 < tAt t p∨(tAt t i0=tAt t p∧(i0:Int) < (p:Int)):=hk
   omega
def gP (lim:Int):List Rn→Int→Int
 | [],p=>p
 | r::l,p=>bif decide (lim < p+r.pw) then gP lim l p else gP lim l (p+r.pw)
theorem gP_snoc (lim:Int) (r:Rn):∀ (l:List Rn) (p:Int),gP lim (l++[r]) p=bif decide (lim < gP lim l p+r.pw) then gP lim l p else gP lim l p+r.pw
 | [],p=>rfl
 | x::l,p=>by
  show gP lim (x::(l++[r])) p=_
  rw [gP,gP]
  cases decide (lim < p+x.pw)
  ·exact gP_snoc lim r l (p+x.pw)
  ·exact gP_snoc lim r l p
theorem gGo_snoc (lim:Int) (r:Rn):∀ (l:List Rn) (p:Int),(gGo lim (l++[r]) p).2=(gGo lim l p).2++bif decide (lim < gP lim l p+r.pw) then [] else [r.ix]
 | [],p=>by
  show (gGo lim [r] p).2=[]++_
  rw [gGo,gP]
  cases decide (lim < p+r.pw) <;> rfl
 | x::l,p=>by
  show (gGo lim (x::(l++[r])) p).2=_
  rw [gGo,gP,gGo]
  cases decide (lim < p+x.pw)
  ·show x.ix::(gGo lim (l++[r]) (p+x.pw)).2=x.ix::((gGo lim l (p+x.pw)).2++_)
   rw [gGo_snoc lim r l (p+x.pw)]; rfl
  ·exact gGo_snoc lim r l p
def runOf (lim:Int) (l:List Ld) (t:List Int):List Int:=(gGo lim (ordr l t) 0).2
def slotOf (lim:Int) (l:List Ld) (t:List Int):List Int:=upTo (runOf lim l t) l.length
def bumpT (run t:List Int):List Int:=(List.range t.length).map fun (i:Nat)=>tAt t i+(bif run.contains (i:Int) then 1 else 0)
def slots (lim:Int) (l:List Ld):Nat→List Int→List (List Int)
 | 0,_=>[]
 | n+1,t=>slotOf lim l t::slots lim l n (bumpT (runOf lim l t) t)
theorem bumpT_len (run t:List Int):(bumpT run t).length=t.length:=by unfold bumpT; rw [List.length_map,List.length_range]
theorem bumpT_at {run t:List Int} {i:Nat} (h:i < t.length):tAt (bumpT run t) i=tAt t i+(bif run.contains (i:Int) then 1 else 0):=by
 unfold tAt bumpT
 rw [List.getElem?_map,List.getElem?_range h]; rfl
theorem bump_canon {l:List Ld} {t:List Int} (h:t.length=l.length) (run:List Int):(canon l t).map (bump run)=canon l (bumpT run t):=by
 unfold canon
 rw [List.map_map]
 refine List.map_congr_left fun i hi=>?_
 have hi:=List.mem_range.1 hi
 show bump run (rnAt l t i)=rnAt l (bumpT run t) i
 unfold bump rnAt
 rw [bumpT_at (by omega)]
 show (bif run.contains (i:Int) then _ else _)=_
 cases run.contains (i:Int)
 ·show (⟨_,_,_,_⟩:Rn)=⟨_,_,_,_+0⟩; rw [Int.add_zero]
 ·rfl
theorem run_nodup (lim:Int):∀ {l:List Rn} {p:Int},Dst l→(gGo lim l p).2.Nodup
 | [],_,_=>List.nodup_nil
 | r::l,p,hd=>by
  obtain ⟨h1,h2⟩:=List.pairwise_cons.1 hd
  rw [gGo]
  cases decide (lim < p+r.pw)
  ·refine List.nodup_cons.2 ⟨fun h=>?_,run_nodup lim h2⟩
   obtain ⟨y,hy,e⟩:=gGo_sub lim l _ _ h
   exact h1 y hy e.symm
  ·exact run_nodup lim h2
theorem runOf_rng (lim:Int) (l:List Ld) (t:List Int):∀ x∈runOf lim l t,0≤x∧x < (l.length:Int):=fun x hx=>by
 obtain ⟨r,hr,e⟩:=gGo_sub lim _ _ x hx
 obtain ⟨i,hi,e2⟩:=ordr_mem.1 hr
 rw [← e,e2]
 show 0≤(i:Int)∧(i:Int) < _
 omega
theorem runOf_sort (lim:Int) (l:List Ld) (t:List Int):isortI [] (runOf lim l t)=slotOf lim l t:=isort_upTo (run_nodup lim (ordr_dst l t)) (runOf_rng lim l t)
theorem slot_perm {lim : Int} {l : List Ld} {t : List Int} {all : List Rn} (ht : t.length = l.length) (h : all.Perm (canon l t)) :
  sorted all=ordr l t∧(gGo lim (ordr l t) 0).1.Perm (canon l (bumpT (runOf lim l t) t)):=by
 constructor
 ·exact sorted_ext (h.symm.pairwise_iff (fun h=>Ne.symm h) |>.1 (canon_dst l t)) (canon_dst l t) h
 ·rw [gGo_map lim (ordr_dst l t),← bump_canon ht]
  exact (sorted_perm (canon l t)).map _
end Vc
set_option maxRecDepth 10000
set_option maxHeartbeats 4000000
namespace Vc
open Go Go.Proofs
def lds (l:List Ld):List Data:=l.map fun x=>.agg [.str x.1,.int .i64 x.2]
theorem lds_len (l:List Ld):(lds l).length=l.length:=List.length_map _
theorem lds_at {l:List Ld} {k:Nat} {x:Ld} (h:l[k]?=some x):(lds l)[((k:Int)).toNat]?=some (.agg [.str x.1,.int .i64 x.2]):=by
 show (l.map _)[k]?=_
 rw [List.getElem?_map,h]; rfl
theorem lds_step {l:List Ld} {k:Nat} {x:Ld} (h:l[k]?=some x):lds (l.take (k+1))=lds (l.take k)++[Data.agg [.str x.1,.int .i64 x.2]]:=by
 rw [take_one h]; unfold lds; rw [List.map_append]; rfl
def cmpI (a b:Int):Int:=bif decide (a < b) then -1 else bif decide (b < a) then 1 else 0
def cmpR (a b:Rn):Int:=bif cmpI a.tn b.tn != 0 then cmpI a.tn b.tn else cmpI a.ix b.ix
def rnD (r:Rn):Data:=.agg [.str r.nm,.int .i64 r.pw,.int .i64 r.ix,.int .i64 r.tn]
theorem cmpI_lt (a b:Int):cmpI a b < 0↔a < b:=by
 unfold cmpI
 by_cases h:a < b
 ·rw [decide_eq_true h]; exact ⟨fun _=>h,fun _=>(show (-1:Int) < 0 by decide)⟩
 ·rw [decide_eq_false h]
  by_cases h2:b < a
  ·rw [decide_eq_true h2]; exact ⟨fun t=>absurd (show (1:Int) < 0 from t) (by decide),fun t=>absurd t h⟩
  ·rw [decide_eq_false h2]; exact ⟨fun t=>absurd (show (0:Int) < 0 from t) (by decide),fun t=>absurd t h⟩
theorem cmpI_z (a b:Int):cmpI a b=0↔a=b:=by
 unfold cmpI
 by_cases h:a < b
 ·rw [decide_eq_true h]; exact ⟨fun t=>absurd (show (-1:Int)=0 from t) (by decide),fun t=>by omega⟩
 ·rw [decide_eq_false h]
  by_cases h2:b < a
  ·rw [decide_eq_true h2]; exact ⟨fun t=>absurd (show (1:Int)=0 from t) (by decide),fun t=>by omega⟩
  ·rw [decide_eq_false h2]; exact ⟨fun _=>by omega,fun _=>rfl⟩
theorem cmpR_lt (a b:Rn):decide (cmpR a b < 0)=rless a b:=by
 rw [Bool.eq_iff_iff,rless_iff]
 unfold cmpR key
 by_cases h:cmpI a.tn b.tn=0
 ·have e:=(cmpI_z _ _).1 h
  rw [h]
  have h2:=cmpI_lt a.ix b.ix
  refine ⟨fun t=>.inr ⟨e,h2.1 (of_decide_eq_true t)⟩,fun t=>decide_eq_true ?_⟩
  rcases t with t | t
  ·omega
  ·exact h2.2 t.2
 ·rw [bne_iff_ne.2 h]
  have h2:=cmpI_lt a.tn b.tn
  have h3:=fun t:a.tn=b.tn=>h ((cmpI_z _ _).2 t)
  refine ⟨fun t=>.inl (h2.1 (of_decide_eq_true t)),fun t=>decide_eq_true ?_⟩
  rcases t with t | t
  ·exact h2.2 t
  ·exact absurd t.1 h3
def shortL (l:List Ld):Bool:=bif (l.any fun x=>decide ((40:Int) < (x.1.length:Int))) then false else decide ((l.length:Int)≤9)
def jr209:AFun:=⟨6,0,[.tmp 2],
 (.seq
 (.reg [] [⟨some 2,.mov (.cst (.d (.bool false))),none⟩])
 (.seq
  (.reg [] [⟨some 3,.mov (.tmp 0),none⟩,
   ⟨some 4,.mov (.tmp 0),none⟩,
   ⟨some 5,.cmp .neq (.tmp 3) (.tmp 4),none⟩,
   ⟨some 2,.mov (.tmp 5),none⟩])
  .ret))⟩
def jr182:AFun:=⟨20,0,[.tmp 4],
 (.seq
 (.reg [] [⟨some 4,.mov (.cst (.d (.int .i64 0))),none⟩])
 (.seq
  (.reg [] [⟨some 7,.mov (.tmp 0),none⟩,
   ⟨some 8,.call 209 [(.tmp 7)],none⟩,
   ⟨some 5,.mov (.tmp 8),none⟩])
  (.seq
  (.reg [] [⟨some 9,.mov (.tmp 1),none⟩,
   ⟨some 10,.call 209 [(.tmp 9)],none⟩,
   ⟨some 6,.mov (.tmp 10),none⟩])
  (.seq
   (.seq
   (.reg [] [⟨some 11,.mov (.tmp 5),none⟩])
   (.cond (.tmp 11)
    (.seq
    (.seq
     (.reg [] [⟨some 12,.mov (.tmp 6),none⟩])
     (.cond (.tmp 12)
     (.seq
      (.reg [] [⟨some 4,.mov (.cst (.d (.int .i64 0))),none⟩])
      .ret)
     .skip))
    (.seq
     (.reg [] [⟨some 4,.mov (.cst (.d (.int .i64 (-1)))),none⟩])
     .ret))
    .skip))
   (.seq
   (.seq
    (.reg [] [⟨some 13,.mov (.tmp 6),none⟩])
    (.cond (.tmp 13)
    (.seq
     (.reg [] [⟨some 4,.mov (.cst (.d (.int .i64 1))),none⟩])
     .ret)
    .skip))
   (.seq
    (.seq
    (.reg [] [⟨some 14,.mov (.tmp 0),none⟩,
     ⟨some 15,.mov (.tmp 1),none⟩,
     ⟨some 16,.cmp .lss (.tmp 14) (.tmp 15),none⟩])
    (.cond (.tmp 16)
     (.seq
     (.reg [] [⟨some 4,.mov (.cst (.d (.int .i64 (-1)))),none⟩])
     .ret)
     .skip))
    (.seq
    (.seq
     (.reg [] [⟨some 17,.mov (.tmp 0),none⟩,
      ⟨some 18,.mov (.tmp 1),none⟩,
      ⟨some 19,.cmp .gtr (.tmp 17) (.tmp 18),none⟩])
     (.cond (.tmp 19)
     (.seq
      (.reg [] [⟨some 4,.mov (.cst (.d (.int .i64 1))),none⟩])
      .ret)
     .skip))
    (.seq
     (.reg [] [⟨some 4,.mov (.cst (.d (.int .i64 0))),none⟩])
     .ret))))))))⟩
def jr181:AFun:=⟨18,0,[.tmp 2],
 (.seq
 (.reg [] [⟨some 2,.mov (.cst (.d (.int .i64 0))),none⟩])
 (.seq
  (.reg [] [⟨some 3,.mov (.cst (.d (.int .i64 0))),none⟩])
  (.seq
  (.seq
   (.reg [] [⟨some 6,.mov (.tmp 0),none⟩,
    ⟨some 7,.len (.tmp 6),none⟩,
    ⟨some 8,.mov (.cst (.d (.int .i64 0))),none⟩])
   (.post [3] []
   (.block 0
    (.keep [3,6,7,8] []
    (.loop
     (.post [3,6,7,8] []
     (.seq
      (.reg [] [⟨some 9,.cmp .lss (.tmp 8) (.tmp 7),none⟩])
      (.seq
      (.cond (.tmp 9)
       .skip
       (.exit 0))
      (.seq
       (.block 1
       (.seq
        (.reg [] [⟨some 10,.ixa 1 (.tmp 6) (.tmp 8),none⟩,
         ⟨some 11,.ld false 1 (.tmp 10),none⟩,
         ⟨some 5,.mov (.tmp 11),none⟩])
        (.seq
        (.reg [] [⟨some 12,.mov (.tmp 5),none⟩,
         ⟨some 13,.mov (.tmp 3),none⟩,
         ⟨some 14,.cmp .neq (.tmp 12) (.tmp 13),none⟩])
        (.cond (.tmp 14)
         (.seq
         (.reg [] [⟨some 15,.mov (.tmp 5),none⟩,
          ⟨some 2,.mov (.tmp 15),none⟩])
         .ret)
         .skip))))
       (.reg [] [⟨some 16,.arith .add .i64 (.tmp 8) (.cst (.d (.int .i64 1))),none⟩,
        ⟨some 8,.mov (.tmp 16),none⟩]))))))))))
  (.seq
   (.reg [] [⟨some 17,.mov (.tmp 3),none⟩,
    ⟨some 2,.mov (.tmp 17),none⟩])
   .ret))))⟩
def jr154:AFun:=⟨17,3,[.tmp 4],
 (.seq
 (.reg [0,1] [⟨some 2,.cbx 0 4 (.tmp 0),none⟩,
  ⟨some 3,.cbx 1 4 (.tmp 1),none⟩,
  ⟨some 4,.mov (.cst (.d (.int .i64 0))),none⟩])
 (.seq
  (.regd [2] [⟨some 5,.fad 3 (.tmp 2),none⟩,
   ⟨some 6,.ld false 1 (.tmp 5),none⟩,
   ⟨some 7,.fad 3 (.tmp 3),none⟩,
   ⟨some 8,.ld false 1 (.tmp 7),none⟩,
   ⟨some 9,.call 182 [(.tmp 6),(.tmp 8)],none⟩,
   ⟨some 10,.fad 2 (.tmp 2),none⟩,
   ⟨some 11,.ld false 1 (.tmp 10),none⟩,
   ⟨some 12,.fad 2 (.tmp 3),none⟩,
   ⟨some 13,.ld false 1 (.tmp 12),none⟩,
   ⟨some 14,.call 182 [(.tmp 11),(.tmp 13)],none⟩,
   ⟨some 15,.bsl 2 3 1 2 [(.int .i64 0),(.int .i64 0)] [(0,(.tmp 9)),(1,(.tmp 14))],none⟩,
   ⟨some 16,.call 181 [(.tmp 15)],none⟩,
   ⟨some 4,.mov (.tmp 16),none⟩] [(0,2),(1,2),(0,3),(1,3),(0,5),(1,5),(2,5),(3,5),(4,5),(0,6),(1,6),(2,6),(3,6),(4,6),(0,7),(1,7),(2,7),(3,7),(4,7),(5,7),(6,7),(0,8),(1,8),(2,8),(3,8),(4,8),(5,8),(6,8)])
  .ret))⟩
def jr85:AFun:=⟨20,0,[.tmp 2],
 (.seq
 (.reg [] [⟨some 2,.mov (.cst (.d (.bool false))),none⟩])
 (.seq
  (.seq
  (.reg [] [⟨some 3,.mov (.cst (.d (.int .i64 0))),none⟩])
  (.post [0] []
   (.block 0
   (.keep [0,3] []
    (.loop
    (.post [0,3] []
     (.seq
     (.seq
      (.reg [] [⟨some 4,.mov (.tmp 3),none⟩,
       ⟨some 5,.mov (.tmp 0),none⟩,
       ⟨some 6,.len (.tmp 5),none⟩,
       ⟨some 7,.cmp .lss (.tmp 4) (.tmp 6),none⟩])
      (.cond (.tmp 7)
      .skip
      (.exit 0)))
     (.seq
      (.block 1
      (.seq
       (.reg [] [⟨some 10,.mov (.tmp 0),none⟩,
        ⟨some 11,.mov (.tmp 3),none⟩,
        ⟨some 12,.ixa 2 (.tmp 10) (.tmp 11),none⟩,
        ⟨some 13,.fad 0 (.tmp 12),none⟩,
        ⟨some 14,.ld false 1 (.tmp 13),none⟩,
        ⟨some 15,.lens (.tmp 14),none⟩,
        ⟨some 16,.cmp .gtr (.tmp 15) (.cst (.d (.int .i64 40))),none⟩])
       (.cond (.tmp 16)
       (.seq
        (.reg [] [⟨some 2,.mov (.cst (.d (.bool false))),none⟩])
        .ret)
       .skip)))
      (.reg [] [⟨some 8,.mov (.tmp 3),none⟩,
       ⟨some 9,.arith .add .i64 (.tmp 8) (.cst (.d (.int .i64 1))),none⟩,
       ⟨some 3,.mov (.tmp 9),none⟩])))))))))
  (.seq
  (.reg [] [⟨some 17,.mov (.tmp 0),none⟩,
   ⟨some 18,.len (.tmp 17),none⟩,
   ⟨some 19,.cmp .leq (.tmp 18) (.cst (.d (.int .i64 9))),none⟩,
   ⟨some 2,.mov (.tmp 19),none⟩])
  .ret)))⟩
def jr87:AFun:=⟨18,3,[.tmp 2],
 (.seq
 (.reg [] [⟨some 2,.mov (.cst (.nils 2)),none⟩])
 (.seq
  (.reg [] [⟨some 3,.mov (.cst (.nils 2)),none⟩])
  (.seq
  (.seq
   (.reg [] [⟨some 6,.mov (.tmp 0),none⟩,
    ⟨some 7,.len (.tmp 6),none⟩,
    ⟨some 8,.mov (.cst (.d (.int .i64 0))),none⟩])
   (.post [3] [0,1,2]
   (.block 0
    (.asrow 2 164 2 3
    (.keep [3,6,7,8] []
     (.loop
     (.post [3,6,7,8] [0,1,2]
      (.seq
      (.reg [] [⟨some 9,.cmp .lss (.tmp 8) (.tmp 7),none⟩])
      (.seq
       (.cond (.tmp 9)
       .skip
       (.exit 0))
       (.seq
       (.block 1
        (.seq
        (.reg [0] [⟨some 10,.ixa 2 (.tmp 6) (.tmp 8),none⟩,
         ⟨some 11,.ld true 2 (.tmp 10),none⟩,
         ⟨some 5,.alloc 0 [(.d (.str [])),(.d (.int .i64 0))],none⟩,
         ⟨none,.st 2 (.tmp 5) (.tmp 11),none⟩])
        (.reg [1,2] [⟨some 12,.mov (.tmp 3),none⟩,
         ⟨some 13,.ld true 2 (.tmp 5),none⟩,
         ⟨some 14,.bsl 1 164 2 1 [(.agg [(.str []),(.int .i64 0)])] [(0,(.tmp 13))],none⟩,
         ⟨some 15,.app 2 164 2 24 (.tmp 12) (.tmp 14),none⟩,
         ⟨some 3,.mov (.tmp 15),none⟩])))
       (.reg [] [⟨some 16,.arith .add .i64 (.tmp 8) (.cst (.d (.int .i64 1))),none⟩,
        ⟨some 8,.mov (.tmp 16),none⟩])))))))))))
  (.seq
   (.reg [] [⟨some 17,.mov (.tmp 3),none⟩,
    ⟨some 2,.mov (.tmp 17),none⟩])
   .ret))))⟩
def jr91:AFun:=⟨27,0,[.tmp 4],
 (.seq
 (.reg [] [⟨some 4,.mov (.cst (.d (.bool false))),none⟩])
 (.seq
  (.seq
  (.reg [] [⟨some 6,.mov (.tmp 0),none⟩,
   ⟨some 7,.len (.tmp 6),none⟩,
   ⟨some 8,.mov (.tmp 1),none⟩,
   ⟨some 9,.len (.tmp 8),none⟩,
   ⟨some 10,.cmp .neq (.tmp 7) (.tmp 9),none⟩])
  (.cond (.tmp 10)
   (.seq
   (.reg [] [⟨some 4,.mov (.cst (.d (.bool false))),none⟩])
   .ret)
   .skip))
  (.seq
  (.seq
   (.reg [] [⟨some 5,.mov (.cst (.d (.int .i64 0))),none⟩])
   (.post [] []
   (.block 0
    (.keep [0,1,5] []
    (.loop
     (.post [0,1,5] []
     (.seq
      (.seq
      (.reg [] [⟨some 11,.mov (.tmp 5),none⟩,
       ⟨some 12,.mov (.tmp 0),none⟩,
       ⟨some 13,.len (.tmp 12),none⟩,
       ⟨some 14,.cmp .lss (.tmp 11) (.tmp 13),none⟩])
      (.cond (.tmp 14)
       .skip
       (.exit 0)))
      (.seq
      (.block 1
       (.seq
       (.regd [] [⟨some 17,.mov (.tmp 0),none⟩,
        ⟨some 18,.mov (.tmp 5),none⟩,
        ⟨some 19,.ixa 1 (.tmp 17) (.tmp 18),none⟩,
        ⟨some 20,.ld false 1 (.tmp 19),none⟩,
        ⟨some 21,.mov (.tmp 1),none⟩,
        ⟨some 22,.mov (.tmp 5),none⟩,
        ⟨some 23,.ixa 1 (.tmp 21) (.tmp 22),none⟩,
        ⟨some 24,.ld false 1 (.tmp 23),none⟩,
        ⟨some 25,.call 28 [(.tmp 20),(.tmp 24)],none⟩,
        ⟨some 26,.not (.tmp 25),none⟩] [(0,1),(0,4),(1,4),(2,4),(3,4),(0,5),(1,5),(2,5),(3,5),(4,5),(0,6),(1,6),(2,6),(3,6),(0,7),(1,7),(2,7),(3,7)])
       (.cond (.tmp 26)
        (.seq
        (.reg [] [⟨some 4,.mov (.cst (.d (.bool false))),none⟩])
        .ret)
        .skip)))
      (.reg [] [⟨some 15,.mov (.tmp 5),none⟩,
       ⟨some 16,.arith .add .i64 (.tmp 15) (.cst (.d (.int .i64 1))),none⟩,
       ⟨some 5,.mov (.tmp 16),none⟩])))))))))
  (.seq
   (.reg [] [⟨some 4,.mov (.cst (.d (.bool true))),none⟩])
   .ret))))⟩
def jr89:AFun:=⟨11,1,[.tmp 4],
 (.seq
 (.reg [] [⟨some 4,.mov (.cst (.d (.int .i64 0))),none⟩])
 (.seq
  (.reg [0] [⟨some 5,.mov (.tmp 0),none⟩,
   ⟨some 6,.call 112 [(.tmp 5),(.cst (.d (.int .i64 0))),(.cst (.d (.int .i64 8000)))],none⟩,
   ⟨some 7,.mov (.tmp 1),none⟩,
   ⟨some 8,.call 112 [(.tmp 7),(.cst (.d (.int .i64 0))),(.cst (.d (.int .i64 64)))],none⟩,
   ⟨some 9,.bsl 0 3 1 2 [(.int .i64 0),(.int .i64 0)] [(0,(.tmp 6)),(1,(.tmp 8))],none⟩,
   ⟨some 10,.call 110 [(.tmp 9)],none⟩,
   ⟨some 4,.mov (.tmp 10),none⟩])
  .ret))⟩
def jr116:AFun:=⟨7,0,[.tmp 2],
 (.seq
 (.reg [] [⟨some 2,.mov (.cst (.d (.int .i64 0))),none⟩])
 (.seq
  (.reg [] [⟨some 3,.mov (.tmp 0),none⟩,
   ⟨some 4,.call 165 [(.tmp 3)],none⟩,
   ⟨some 5,.not (.tmp 4),none⟩,
   ⟨some 6,.call 103 [(.tmp 5),(.cst (.d (.int .i64 8)))],none⟩,
   ⟨some 2,.mov (.tmp 6),none⟩])
  .ret))⟩
theorem c209 (a:Int):CallDet Tryz.prog 209 [.d (.int .i64 a)] [.bool false]:=by
 have n1:(a != a)=false:=bne_self_eq_false _
 refine call_of_vc (x:=jr209) (by kernel_rfl) rfl ?_
 refine sd ?_
 rotate_left
 show resV [.bool (a != a)]=resV [.bool false]
 rw [n1]
theorem c182 (a b:Int):CallDet Tryz.prog 182 [.d (.int .i64 a),.d (.int .i64 b)] [.int .i64 (cmpI a b)]:=by
 have c209_:=c209 a
 have c209_b:=c209 b
 unfold cmpI
 refine call_of_vc (x:=jr182) (by kernel_rfl) rfl ?_
 refine ca c209_ ?_
 refine ca c209_b ?_
 refine sd ?_
 refine b_lt (fun t1=>?_) (fun t1=>?_)
 rotate_left
 refine sd ?_
 refine b_lt (fun t2=>?_) (fun t2=>?_)
 rotate_left
 rotate_left
 ·rw [decide_eq_true t1]; rfl
 ·rw [decide_eq_false t1,decide_eq_true t2]; rfl
 ·rw [decide_eq_false t1,decide_eq_false t2]; rfl
theorem c181 (a b:Int):CallDet Tryz.prog 181 [.d (.slice 1 [.int .i64 a,.int .i64 b])] [.int .i64 (bif a != 0 then a else b)]:=by
 refine call_of_vc (x:=jr181) (by kernel_rfl) rfl ?_
 refine loop_st (fun k:Nat=>⟨[(3,.d (.int .i64 0)),(6,.d (.slice 1 [.int .i64 a,.int .i64 b])),(7,.d (.int .i64 2)),(8,.d (.int .i64 k))],[]⟩) (fun k=>k≤2∧(k=0∨a=0)∧(k=2→b=0)) (fun k=>2 - k) 0 rfl ⟨by decide,.inl rfl,fun h=>by cases h⟩ ?_
 rintro k ⟨hk,ha,hb⟩
 have hk3:k=0∨k=1∨k=2:=by omega
 have g0:([Data.int .i64 a,Data.int .i64 b]:List Data)[(0:Int).toNat]?=some (.int .i64 a):=rfl
 have g1:([Data.int .i64 a,Data.int .i64 b]:List Data)[(1:Int).toNat]?=some (.int .i64 b):=rfl
 rcases hk3 with rfl | rfl | rfl
 ·dsimp only
  refine sd ?_
  refine ix_at g0 ?_ ?_
  (show (0:Int)≤(↑(0:Nat):Int); omega)
  refine sd ?_
  refine b_ne (fun t1=>?_) (fun t1=>?_)
  rotate_left
  refine ar_add ?_ ?_
  refine an ?_ ?_
  (show (-9223372036854775808:Int)≤(↑(0:Nat):Int)+(1:Int); omega)
  (show (↑(0:Nat):Int)+(1:Int)≤(9223372036854775807:Int); omega)
  rotate_left
  ·rw [bne_iff_ne.2 t1]; rfl
  ·exact ⟨1,⟨⟨by decide,.inr t1,fun h=>by cases h⟩,by decide⟩,rfl⟩
 ·have ha:a=0:=ha.resolve_left (by decide)
  subst ha
  dsimp only
  refine sd ?_
  refine ix_at g1 ?_ ?_
  (show (0:Int)≤(↑(1:Nat):Int); omega)
  refine sd ?_
  refine b_ne (fun t1=>?_) (fun t1=>?_)
  exact rfl
  refine ar_add ?_ ?_
  refine an ?_ ?_
  (show (-9223372036854775808:Int)≤(↑(1:Nat):Int)+(1:Int); omega)
  (show (↑(1:Nat):Int)+(1:Int)≤(9223372036854775807:Int); omega)
  rotate_left
  exact ⟨2,⟨⟨by decide,.inr rfl,fun _=>t1⟩,by decide⟩,rfl⟩
 ·have ha:a=0:=ha.resolve_left (by decide)
  have hb:=hb rfl
  subst ha; subst hb
  dsimp only
  refine sd ?_
  exact rfl
theorem c154 (a b:Rn):CallDet Tryz.prog 154 [.d (rnD a),.d (rnD b)] [.int .i64 (cmpR a b)]:=by
 have c182_:=c182 a.tn b.tn
 have c182_b:=c182 a.ix b.ix
 have c181_:=c181 (cmpI a.tn b.tn) (cmpI a.ix b.ix)
 refine call_of_vc (x:=jr154) (by kernel_rfl) rfl ?_
 refine ca c182_ ?_
 refine ca c182_b ?_
 refine sd ?_
 refine sd ?_
 refine ca c181_ ?_
 exact rfl
theorem c116 (b:List UInt8):CallDet Tryz.prog 116 [.d (.str b)] [.int .i64 (bif !(isNm b) then 8 else 0)]:=by
 have c165_:=c165 b
 refine call_of_vc (x:=jr116) (by kernel_rfl) rfl ?_
 refine ca c165_ ?_
 refine ca (c103 _ _) ?_
 exact rfl
theorem c89 (a b:Int):CallDet Tryz.prog 89 [.d (.int .i64 a),.d (.int .i64 b)] [.int .i64 (firstOf [within3 a 0 8000,within3 b 0 64])]:=by
 have c110_:CallDet Tryz.prog 110 [.d (.slice 1 [.int .i64 (within3 a 0 8000),.int .i64 (within3 b 0 64)])] [.int .i64 (firstOf [within3 a 0 8000,within3 b 0 64])]:=c110 [within3 a 0 8000,within3 b 0 64] (by simp)
 refine call_of_vc (x:=jr89) (by kernel_rfl) rfl ?_
 refine ca (c112 _ _ _) ?_
 refine ca (c112 _ _ _) ?_
 refine sd ?_
 refine sd ?_
 refine ca c110_ ?_
 exact rfl
theorem c91 (l:List (List Int)) (hl:l.length≤1048576) (hb:∀ x∈l,x.length≤1048576):CallDet Tryz.prog 91 [.d (.slice 1 (iss l)),.d (.slice 1 (iss l))] [.bool true]:=by
 have hlen:=iss_len l
 refine call_of_vc (x:=jr91) (by kernel_rfl) rfl ?_
 refine sd ?_
 refine b_ne (fun t1=>?_) (fun t1=>?_)
 (exfalso; omega)
 rotate_left
 refine loop_st (fun k:Nat=>⟨[(0,.d (.slice 1 (iss l))),(1,.d (.slice 1 (iss l))),(5,.d (.int .i64 k))],[]⟩) (fun k=>k≤l.length) (fun k=>l.length - k) 0 rfl (Nat.zero_le _) ?_
 intro k hk
 have hk:k≤l.length:=hk
 dsimp only
 by_cases hkn:k < l.length
 ·refine Exists.elim (get_lt l hkn) fun x hx=>?_
  have hx1:=iss_at hx
  have c28_:CallDet Tryz.prog 28 [.d (.slice 1 (ints x)),.d (.slice 1 (ints x))] [.bool true]:=by
   have h:=c28 x x (hb x (List.mem_of_getElem? hx))
   rw [beq_self_eq_true] at h; exact h
  have fin:∃ a':Nat,(a'≤l.length∧l.length - a' < l.length - k)∧(⟨[(0,.d (.slice 1 (iss l))),(1,.d (.slice 1 (iss l))),(5,.d (.int .i64 ((k:Int)+1)))],[]⟩:St)=⟨[(0,.d (.slice 1 (iss l))),(1,.d (.slice 1 (iss l))),(5,.d (.int .i64 (a':Nat)))],[]⟩ :=
   ⟨k+1,⟨by omega,by omega⟩,rfl⟩
  refine sd ?_
  refine b_lt (fun t2=>?_) (fun t2=>?_)
  refine ix_at hx1 ?_ ?_
  (show (0:Int)≤(↑k:Int); omega)
  refine ix_at hx1 ?_ ?_
  (show (0:Int)≤(↑k:Int); omega)
  refine ca c28_ ?_
  refine ar_add ?_ ?_
  refine an ?_ ?_
  (show (-9223372036854775808:Int)≤(↑k:Int)+(1:Int); omega)
  (show (↑k:Int)+(1:Int)≤(9223372036854775807:Int); omega)
  rotate_left
  (exfalso; omega)
  all_goals exact fin
 ·refine sd ?_
  refine b_lt (fun t2=>?_) (fun t2=>?_)
  (exfalso; omega)
  exact rfl
  all_goals rfl
theorem c85 (l:List Ld) (hl:l.length≤1048576):CallDet Tryz.prog 85 [.d (.slice 2 (lds l))] [.bool (shortL l)]:=by
 have hll:=lds_len l
 refine call_of_vc (x:=jr85) (by kernel_rfl) rfl ?_
 refine loop_st (fun k:Nat=>⟨[(0,.d (.slice 2 (lds l))),(3,.d (.int .i64 k))],[]⟩) (fun k=>k≤l.length∧(l.any fun x=>decide ((40:Int) < (x.1.length:Int)))=((l.drop k).any fun x=>decide ((40:Int) < (x.1.length:Int)))) (fun k=>l.length - k) 0 rfl ⟨Nat.zero_le _,rfl⟩ ?_
 rintro k ⟨hk,hi⟩
 dsimp only
 by_cases hkn:k < l.length
 ·refine Exists.elim (get_lt l hkn) fun x hx=>?_
  have hx1:=lds_at hx
  rw [drop_at hx,List.any_cons] at hi
  have fin:decide ((40:Int) < (x.1.length:Int))=false→∃ a':Nat,((a'≤l.length∧(l.any fun x=>decide ((40:Int) < (x.1.length:Int)))=((l.drop a').any fun x=>decide ((40:Int) < (x.1.length:Int))))∧l.length - a' < l.length - k)∧(⟨[(0,.d (.slice 2 (lds l))),(3,.d (.int .i64 ((k:Int)+1)))],[]⟩:St)=⟨[(0,.d (.slice 2 (lds l))),(3,.d (.int .i64 (a':Nat)))],[]⟩:=fun h =>
   ⟨k+1,⟨⟨by omega,by rw [hi,h]; rfl⟩,by omega⟩,rfl⟩
  refine sd ?_
  refine b_lt (fun t1=>?_) (fun t1=>?_)
  refine ix_at hx1 ?_ ?_
  (show (0:Int)≤(↑k:Int); omega)
  refine sd ?_
  refine b_lt (fun t2=>?_) (fun t2=>?_)
  rotate_left
  refine ar_add ?_ ?_
  refine an ?_ ?_
  (show (-9223372036854775808:Int)≤(↑k:Int)+(1:Int); omega)
  (show (↑k:Int)+(1:Int)≤(9223372036854775807:Int); omega)
  rotate_left
  (exfalso; omega)
  ·unfold shortL
   rw [hi,decide_eq_true (show (40:Int) < (x.1.length:Int) by omega)]; rfl
  ·exact fin (decide_eq_false (by omega))
 ·have e:l.drop k=[]:=List.drop_eq_nil_of_le (by omega)
  rw [e] at hi
  have hs:shortL l=decide ((l.length:Int)≤9):=by unfold shortL; rw [hi]; rfl
  rw [hs,← hll]
  refine sd ?_
  refine b_lt (fun t1=>?_) (fun t1=>?_)
  (exfalso; omega)
  refine sd ?_
  exact rfl
theorem c87 (l:List Ld) (hl:l.length≤1048576):CallDet Tryz.prog 87 [.d (.slice 2 (lds l))] [.slice 2 (lds l)]:=by
 have hll:=lds_len l
 refine call_of_vc (x:=jr87) (by kernel_rfl) rfl ?_
 refine loop_st (fun k:Nat=>⟨[(3,.sl 2 (lds (l.take k)).length),(6,.d (.slice 2 (lds l))),(7,.d (.int .i64 ((lds l).length:Int))),(8,.d (.int .i64 (k:Nat)))],[.none,.none,.row 164 2 (lds (l.take k)) false]⟩) (fun k=>k≤l.length) (fun k=>l.length - k) 0 rfl (Nat.zero_le _) ?_
 intro k hk
 have hk:k≤l.length:=hk
 have hlk:=lds_len (l.take k)
 rw [List.length_take] at hlk
 dsimp only
 by_cases hkn:k < l.length
 ·refine Exists.elim (get_lt l hkn) fun x hx=>?_
  have hx1:=lds_at hx
  have fin:∃ a':Nat,(a'≤l.length∧l.length - a' < l.length - k)∧(⟨[(3,.sl 2 (lds (l.take k)++[Data.agg [.str x.1,.int .i64 x.2]]).length),(6,.d (.slice 2 (lds l))),(7,.d (.int .i64 ((lds l).length:Int))),(8,.d (.int .i64 ((k:Int)+1)))],[.none,.none,.row 164 2 (lds (l.take k)++[Data.agg [.str x.1,.int .i64 x.2]]) false]⟩:St)=⟨[(3,.sl 2 (lds (l.take a')).length),(6,.d (.slice 2 (lds l))),(7,.d (.int .i64 ((lds l).length:Int))),(8,.d (.int .i64 (a':Nat)))],[.none,.none,.row 164 2 (lds (l.take a')) false]⟩ :=
   ⟨k+1,⟨by omega,by omega⟩,by rw [lds_step hx]; rfl⟩
  refine sd ?_
  refine b_lt (fun t1=>?_) (fun t1=>?_)
  refine ix_at hx1 ?_ ?_
  (show (0:Int)≤(↑k:Int); omega)
  refine sd ?_
  refine sd ?_
  refine sd ?_
  refine an ?_ ?_
  refine an ?_ ?_
  exact rfl
  refine an ?_ ?_
  exact rfl
  refine an ?_ ?_
  exact rfl
  refine an ?_ ?_
  (show (List.length (lds (List.take k l))+(1:Nat)) * (24:Nat)≤(2:Nat) ^ (47:Nat); omega)
  (show List.length (lds (List.take k l))+(1:Nat)≤(2:Nat) ^ (47:Nat); omega)
  refine ar_add ?_ ?_
  refine an ?_ ?_
  (show (-9223372036854775808:Int)≤(↑k:Int)+(1:Int); omega)
  (show (↑k:Int)+(1:Int)≤(9223372036854775807:Int); omega)
  rotate_left
  (exfalso; omega)
  all_goals exact fin
 ·have e:l.take k=l:=List.take_of_length_le (by omega)
  rw [e]
  refine sd ?_
  refine b_lt (fun t1=>?_) (fun t1=>?_)
  (exfalso; omega)
  refine sd ?_
  exact rfl
end Vc
