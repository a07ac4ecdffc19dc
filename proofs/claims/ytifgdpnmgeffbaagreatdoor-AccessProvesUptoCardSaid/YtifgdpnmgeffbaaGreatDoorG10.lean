import Derived.Test.YtifgdpnmgeffbaaGreatDoorG04
import Derived.Shelf.Spec.SlicesGrow
import Derived.Test.YtifgdpnmgeffbaaGreatDoorProg
import Derived.Test.YtifgdpnmgeffbaaGreatDoorG09
import Derived.Test.YtifgdpnmgeffbaaGreatDoorG07
set_option linter.unusedSectionVars false
set_option linter.unusedVariables false
set_option linter.unusedSimpArgs false
namespace Vc
structure Rn where
 nm:List UInt8
 pw:Int
 ix:Int
 tn:Int
def rless (a b:Rn):Bool:=decide (a.tn < b.tn)||(a.tn==b.tn&&decide (a.ix < b.ix))
def oins (x:Rn):List Rn→List Rn
 | []=>[x]
 | y::r=>bif rless x y then x::y::r else y::oins x r
def isortL (acc:List Rn):List Rn→List Rn
 | []=>acc
 | x::r=>isortL (oins x acc) r
def key (a b:Rn):Prop:=a.tn < b.tn∨(a.tn=b.tn∧a.ix < b.ix)
def sorted (l:List Rn):List Rn:=isortL [] l
def gGo (lim:Int):List Rn→Int→List Rn × List Int
 | [],_=>([],[])
 | r::l,p=>bif decide (lim < p+r.pw) then (r::(gGo lim l p).1,(gGo lim l p).2) else ({ r with tn:=r.tn+1 }::(gGo lim l (p+r.pw)).1,r.ix::(gGo lim l (p+r.pw)).2)
def upTo (run:List Int):Nat→List Int
 | 0=>[]
 | k+1=>upTo run k++(bif run.contains (k:Int) then [(k:Int)] else [])
end Vc
namespace Vc
abbrev Ld:=List UInt8 × Int
def tAt (t:List Int) (i:Nat):Int:=t[i]?.getD 0
def rnAt (l:List Ld) (t:List Int) (i:Nat):Rn:=⟨(l[i]?.getD ([],0)).1,(l[i]?.getD ([],0)).2,i,tAt t i⟩
def canon (l:List Ld) (t:List Int):List Rn:=(List.range l.length).map (rnAt l t)
def ordr (l:List Ld) (t:List Int):List Rn:=sorted (canon l t)
def pick (t asked:List Int):Nat→Int
 | 0=>-1
 | k+1=>bif !asked.contains (k:Int)&&(decide (pick t asked k < 0)||decide (tAt t k < tAt t (max 0 (pick t asked k)).toNat)) then (k:Int) else pick t asked k
def runOf (lim:Int) (l:List Ld) (t:List Int):List Int:=(gGo lim (ordr l t) 0).2
def slotOf (lim:Int) (l:List Ld) (t:List Int):List Int:=upTo (runOf lim l t) l.length
def bumpT (run t:List Int):List Int:=(List.range t.length).map fun (i:Nat)=>tAt t i+(bif run.contains (i:Int) then 1 else 0)
def slots (lim:Int) (l:List Ld):Nat→List Int→List (List Int)
 | 0,_=>[]
 | n+1,t=>slotOf lim l t::slots lim l n (bumpT (runOf lim l t) t)
end Vc
namespace Go.Proofs
open Go.Shelf
def Tryz.laysGrow_ren:Go.Shelf.Ren:=⟨fun | 4=>200 | n=>n,fun | 22=>111 | 25=>5 | 3=>3 | 4=>4 | 9=>9 | 20=>20 | 0=>0 | n=>n,fun | n=>n⟩
theorem Tryz.laysGrow:Go.Proofs.Lays8.n4 Tryz.prog Tryz.laysGrow_ren:={
 mixed:=by kernel_rfl
 f4:=⟨Tryz.f200.name,by decide,Tryz.func200.trans (congrArg some (by kernel_rfl))⟩
 t0:=Tryz.underlying0
 a0:=Tryz.isAgg0
 z0:=Tryz.sizeOf0
 v0:=Tryz.zeroValue0
 t3:=Tryz.underlying3
 a3:=Tryz.isAgg3
 z3:=Tryz.sizeOf3
 v3:=Tryz.zeroValue3
 t4:=Tryz.underlying4
 a4:=Tryz.isAgg4
 z4:=Tryz.sizeOf4
 v4:=Tryz.zeroValue4
 t9:=Tryz.underlying9
 a9:=Tryz.isAgg9
 z9:=Tryz.sizeOf9
 v9:=Tryz.zeroValue9
 t20:=Tryz.underlying20
 a20:=Tryz.isAgg20
 z20:=Tryz.sizeOf20
 v20:=Tryz.zeroValue20
 t22:=Tryz.underlying111
 a22:=Tryz.isAgg111
 z22:=Tryz.sizeOf111
 v22:=Tryz.zeroValue111 }
end Go.Proofs
set_option maxRecDepth 10000
namespace Vc
open Go Go.Proofs Go.RowKit Go.Shelf
theorem grow_in {P : Program} [Laid P] {ρ : Ren} (L : Lays8.n4 P ρ) (hf : HasFn P (ρ.f 4)) (i0 : TypeInfo) (z : Value) (hi0 : P.info? (ρ.t 25) = some i0) (hz0 : i0.zero = some z) (hs0 : 0 < i0.size) (hzs : z.cells.size = i0.size)
  (k n:Nat) (hbig:n * i0.bytes≤140737488355328) (h63:n≤140737488355328) (h:List AObj) (r:Nat) (hh:h[r]?=some .none) :
  CallIn P (ρ.f 4) [.nils k,.d (.int .i64 n)] h (.sl r 0) (h.set r (.row (ρ.t 25) i0.size [] false)):=by
 refine ⟨hf,by simp,fun n' base w0 G slots a w vs hgl hr hv=>?_⟩
 simp only [VRels,VRel,DRel] at hv
 obtain ⟨v1,r1,rfl,rfl,v2,r2,rfl,rfl,rfl⟩:=hv
 have hlt:r < h.length:=(List.getElem?_eq_some_iff.1 hh).1
 by_cases hn:n=0
 ·subst hn
  refine (Any8.slices_Grow_room L none 0 0 0 w (Nat.le_refl _) (by omega) (by omega) (Nat.le_refl _)).mono ?_
  rintro e w' ⟨rfl,rfl⟩
  have h1:=hr.upd (o':=.row (ρ.t 25) i0.size [] false) (v':=.slice none 0 0) (S':=G.S) (row:=none) (w':=w') hh (.inl rfl) (fun _ _ h=>h) (fun _ _ h=>.inl h)
   ⟨rfl,rfl,rfl,Nat.le_refl _,fun _ _ _=>rfl⟩ (fun _ _ _ h=>by cases h) (fun b hb=>by cases hb) trivial
   (fun hx=>⟨hs0,[],by rw [show (⟨G.S,Vc.upd G.val r (.slice none 0 0)⟩:Gh).val r=.slice none 0 0 from upd_same _ _ _]; exact World.ownsRow_nil w' base _ _,by simp [DXs]⟩)
   (fun b off hb _ _=>by cases hb) (fun b off hs=>hr.lim b off hs)
  refine ⟨_,_,rfl,h1.1,h1.2,?_⟩
  simp only [VRel]
  exact ⟨ρ.t 25,i0.size,[],false,by simp [hlt],Nat.le_refl _,fun _=>by simp [upd]⟩
 ·have hcm:=grownCap_le_maxLen w (0+n) 0 (ρ.t 25) (by unfold maxLen; omega)
  have hge:=grownCap_ge w (0+n) 0 (ρ.t 25)
  refine (Any8.slices_Grow_grow L i0 z hi0 hz0 hs0 none 0 0 n [] w (Nat.le_refl _) (by omega) (by simpa using hbig) (by omega) (by simp) (fun _=>rfl) (fun a ha=>by cases ha)).mono ?_
  generalize grownCap w (0+n) 0 (ρ.t 25)=cap at *
  rintro e w' ⟨rfl,rfl⟩
  have h1:=hr.upd (o':=.row (ρ.t 25) i0.size [] false) (v':=.slice (some ⟨w.heap.size,0,none⟩) 0 cap) (S':=G.S) (row:=none)
   (w':=w.drew.alloc (.cells (([]:List Value).toArray++Builtin.zeroCells z.cells (0+n - 0)++Builtin.zeroCells z.cells (cap - (0+n))) (ρ.t 25))) hh (.inl rfl) (fun _ _ h=>h) (fun _ _ h=>.inl h)
   ⟨rfl,rfl,rfl,by simp,fun k hk _=>Below.heap_alloc w.drew _ k hk⟩ (fun _ _ _ h=>by cases h) (fun b hb=>by cases hb; exact .inr (Nat.le_refl _)) trivial
   (fun hx=>by
    refine ⟨hs0,[],?_,by simp [DXs]⟩
    rw [show (⟨G.S,Vc.upd G.val r (.slice (some ⟨w.heap.size,0,none⟩) 0 cap)⟩:Gh).val r=_ from upd_same _ _ _]
    refine ⟨by simp,.inr ⟨w.heap.size,cap,_,rfl,hr.old,heap_alloc_new w.drew _,Nat.zero_le _,hcm,?_,by simp⟩⟩
    simp [Builtin.zeroCells,hzs]
    rw [← Nat.add_mul]
    congr 1
    omega)
   (fun b off hb _ hs=>by cases hb; have:=hr.lim _ _ hs; simp at this) (fun b off hs=>by have:=hr.lim _ _ hs; simp; omega)
  refine ⟨_,_,rfl,h1.1,h1.2,?_⟩
  simp only [VRel]
  exact ⟨ρ.t 25,i0.size,[],false,by simp [hlt],Nat.le_refl _,fun _=>by simp [upd]⟩
theorem i200 (n:Nat) (hn:n≤1048576) (h:List AObj) (r:Nat) (hh:h[r]?=some .none):CallIn Tryz.prog 200 [.nils 1,.d (.int .i64 n)] h (.sl r 0) (h.set r (.row 5 1 [] false)):=by
 obtain ⟨i0,z,hi0,hz0,_,hzs⟩:=zeroOk_spec (show zeroOk Tryz.prog 5 [.d (.int .u8 0)]=true by kernel_rfl)
 obtain ⟨i1,_,hi1,hs,_⟩:=sizeIs_spec (show sizeIs Tryz.prog 5 1=true by kernel_rfl)
 rw [hi0] at hi1; cases hi1
 obtain ⟨i2,hi2,hb⟩:=infoOf (P:=Tryz.prog) (t:=5) (p:=fun i=>Nat.beq i.bytes 1) (show bytesIs Tryz.prog 5 1=true by kernel_rfl)
 rw [hi0] at hi2; cases hi2
 have hb:=Nat.eq_of_beq_eq_true hb
 have h1:=grow_in Tryz.laysGrow (hasFnB_spec (by kernel_rfl)) i0 z hi0 hz0 (by omega) hzs 1 n (by rw [hb]; omega) (by omega) h r hh
 rw [hs] at h1
 exact h1
end Vc
set_option maxRecDepth 10000
set_option maxHeartbeats 4000000
namespace Vc
open Go Go.Proofs
theorem get_lt {α:Type} (l:List α) {k:Nat} (h:k < l.length):∃ x,l[k]?=some x:=⟨_,List.getElem?_eq_getElem h⟩
def pcs (l:List (List Data)):List Data:=l.map (.slice 1)
theorem pcs_len (l:List (List Data)):(pcs l).length=l.length:=List.length_map _
theorem pcs_at {l:List (List Data)} {k:Nat} {x:List Data} (h:l[k]?=some x):(pcs l)[((k:Int)).toNat]?=some (.slice 1 x):=by
 show (l.map _)[k]?=_
 rw [List.getElem?_map,h]; rfl
theorem flat_snoc {α:Type} {l:List (List α)} {k:Nat} {x:List α} (h:l[k]?=some x):(l.take (k+1)).flatten=(l.take k).flatten++x:=by
 rw [take_one h,List.flatten_append,List.flatten_singleton]
theorem flat_le {α:Type}:∀ (l:List (List α)) (k:Nat),(l.take k).flatten.length≤l.flatten.length
 | [],k=>by simp
 | x::l,0=>by simp
 | x::l,k+1=>by
  have:=flat_le l k
  simp only [List.take_succ_cons,List.flatten_cons,List.length_append]
  omega
def jr159:AFun:=⟨8,2,[.tmp 2],
 (.seq
 (.reg [] [⟨some 2,.mov (.cst (.nils 1)),none⟩])
 (.seq
  (.seq
  (.reg [] [⟨some 3,.mov (.tmp 0),none⟩,
   ⟨some 4,.isnil false (.tmp 3),none⟩])
  (.cond (.tmp 4)
   (.seq
   (.reg [] [⟨some 2,.mov (.cst (.nils 1)),none⟩])
   .ret)
   .skip))
  (.seq
  (.reg [0,1] [⟨some 5,.bsl 0 3 1 0 [] [],none⟩,
   ⟨some 6,.mov (.tmp 0),none⟩,
   ⟨some 7,.app 1 3 1 8 (.tmp 5) (.tmp 6),none⟩,
   ⟨some 2,.mov (.tmp 7),none⟩])
  .ret)))⟩
def jr176:AFun:=⟨8,2,[.tmp 2],
 (.seq
 (.reg [] [⟨some 2,.mov (.cst (.nils 1)),none⟩])
 (.seq
  (.seq
  (.reg [] [⟨some 3,.mov (.tmp 0),none⟩,
   ⟨some 4,.isnil false (.tmp 3),none⟩])
  (.cond (.tmp 4)
   (.seq
   (.reg [] [⟨some 2,.mov (.cst (.nils 1)),none⟩])
   .ret)
   .skip))
  (.seq
  (.reg [0,1] [⟨some 5,.bsl 0 5 1 0 [] [],none⟩,
   ⟨some 6,.mov (.tmp 0),none⟩,
   ⟨some 7,.app 1 5 1 1 (.tmp 5) (.tmp 6),none⟩,
   ⟨some 2,.mov (.tmp 7),none⟩])
  .ret)))⟩
def jr175:AFun:=⟨36,1,[.tmp 2],
 (.seq
 (.reg [] [⟨some 2,.mov (.cst (.nils 1)),none⟩])
 (.seq
  (.reg [] [⟨some 3,.mov (.cst (.d (.int .i64 0))),none⟩])
  (.seq
  (.seq
   (.reg [] [⟨some 9,.mov (.tmp 0),none⟩,
    ⟨some 10,.len (.tmp 9),none⟩,
    ⟨some 11,.mov (.cst (.d (.int .i64 0))),none⟩])
   (.post [0,3] []
   (.block 0
    (.keep [0,3,9,10,11] []
    (.loop
     (.post [0,3,9,10,11] []
     (.seq
      (.reg [] [⟨some 12,.cmp .lss (.tmp 11) (.tmp 10),none⟩])
      (.seq
      (.cond (.tmp 12)
       .skip
       (.exit 0))
      (.seq
       (.block 1
       (.seq
        (.reg [] [⟨some 13,.ixa 1 (.tmp 9) (.tmp 11),none⟩,
         ⟨some 14,.ld false 1 (.tmp 13),none⟩,
         ⟨some 5,.mov (.tmp 14),none⟩])
        (.seq
        (.reg [] [⟨some 15,.mov (.tmp 3),none⟩,
         ⟨some 16,.mov (.tmp 5),none⟩,
         ⟨some 17,.len (.tmp 16),none⟩,
         ⟨some 18,.arith .add .i64 (.tmp 15) (.tmp 17),none⟩,
         ⟨some 3,.mov (.tmp 18),none⟩])
        (.seq
         (.reg [] [⟨some 19,.mov (.tmp 3),none⟩,
          ⟨some 20,.cmp .lss (.tmp 19) (.cst (.d (.int .i64 0))),none⟩])
         (.cond (.tmp 20)
         .dead
         .skip)))))
       (.reg [] [⟨some 22,.arith .add .i64 (.tmp 11) (.cst (.d (.int .i64 1))),none⟩,
        ⟨some 11,.mov (.tmp 22),none⟩]))))))))))
  (.seq
   (.reg [] [⟨some 23,.mov (.tmp 3),none⟩,
    ⟨some 24,.calli 200 [(.cst (.nils 1)),(.tmp 23)],none⟩,
    ⟨some 6,.mov (.tmp 24),none⟩])
   (.seq
   (.seq
    (.reg [] [⟨some 25,.mov (.tmp 0),none⟩,
     ⟨some 26,.len (.tmp 25),none⟩,
     ⟨some 27,.mov (.cst (.d (.int .i64 0))),none⟩])
    (.post [6] [0]
    (.block 2
     (.asrow 0 5 1 6
     (.keep [6,25,26,27] []
      (.loop
      (.post [6,25,26,27] [0]
       (.seq
       (.reg [] [⟨some 28,.cmp .lss (.tmp 27) (.tmp 26),none⟩])
       (.seq
        (.cond (.tmp 28)
        .skip
        (.exit 2))
        (.seq
        (.block 3
         (.seq
         (.reg [] [⟨some 29,.ixa 1 (.tmp 25) (.tmp 27),none⟩,
          ⟨some 30,.ld false 1 (.tmp 29),none⟩,
          ⟨some 8,.mov (.tmp 30),none⟩])
         (.reg [0] [⟨some 31,.mov (.tmp 6),none⟩,
          ⟨some 32,.mov (.tmp 8),none⟩,
          ⟨some 33,.app 0 5 1 1 (.tmp 31) (.tmp 32),none⟩,
          ⟨some 6,.mov (.tmp 33),none⟩])))
        (.reg [] [⟨some 34,.arith .add .i64 (.tmp 27) (.cst (.d (.int .i64 1))),none⟩,
         ⟨some 27,.mov (.tmp 34),none⟩])))))))))))
   (.seq
    (.reg [] [⟨some 35,.mov (.tmp 6),none⟩,
     ⟨some 2,.mov (.tmp 35),none⟩])
    .ret))))))⟩
theorem c176 (b:List Data) (hl:b.length≤1048576):CallDet Tryz.prog 176 [.d (.slice 1 b)] [.slice 1 b]:=by
 refine call_of_vc (x:=jr176) (by kernel_rfl) rfl ?_
 refine And.intro (fun h=>?_) ?_
 ·subst h
  exact rfl
 ·refine sd ?_
  refine sd ?_
  refine an ?_ ?_
  refine an ?_ ?_
  exact rfl
  refine an ?_ ?_
  exact rfl
  refine an ?_ ?_
  exact rfl
  refine an ?_ ?_
  (show ((0:Nat)+List.length b) * (1:Nat)≤(2:Nat) ^ (47:Nat); omega)
  (show (0:Nat)+List.length b≤(2:Nat) ^ (47:Nat); omega)
  refine sd ?_
  exact rfl
theorem c159r (b:List Data) (hl:b.length≤1048576):CallRow Tryz.prog 159 [.d (.slice 1 b)] 3 1 b:=by
 refine callRow_of_vc (x:=jr159) (by kernel_rfl) rfl ?_
 refine And.intro (fun t1=>?_) ?_
 rotate_left
 ·refine sd ?_
  refine sd ?_
  refine an ?_ ?_
  refine an ?_ ?_
  exact rfl
  refine an ?_ ?_
  exact rfl
  refine an ?_ ?_
  exact rfl
  refine an ?_ ?_
  (show ((0:Nat)+List.length b) * (8:Nat)≤(2:Nat) ^ (47:Nat); omega)
  (show (0:Nat)+List.length b≤(2:Nat) ^ (47:Nat); omega)
  rotate_left
  exact .inl ⟨0,⟨rfl,rfl⟩,rfl⟩
 ·subst t1
  exact .inr ⟨by decide,rfl,1,rfl,rfl⟩
theorem c175 (l:List (List Data)) (hl:l.length≤1048576) (hs:l.flatten.length≤1048576):CallDet Tryz.prog 175 [.d (.slice 1 (pcs l))] [.slice 1 l.flatten]:=by
 have hlen:=pcs_len l
 refine call_of_vc (x:=jr175) (by kernel_rfl) rfl ?_
 refine loop_st (fun k:Nat=>⟨[(0,.d (.slice 1 (pcs l))),(3,.d (.int .i64 ((l.take k).flatten.length:Int))),(9,.d (.slice 1 (pcs l))),(10,.d (.int .i64 ((pcs l).length:Int))),(11,.d (.int .i64 k))],[.none]⟩) (fun k=>k≤l.length) (fun k=>l.length - k) 0 rfl (Nat.zero_le _) ?_
 intro k hk
 have hk:k≤l.length:=hk
 have hf:=flat_le l k
 dsimp only
 by_cases hkn:k < l.length
 ·refine Exists.elim (get_lt l hkn) fun x hx=>?_
  have hx1:=pcs_at hx
  have hf1:=flat_le l (k+1)
  have e1:=flat_snoc hx
  rw [e1,List.length_append] at hf1
  have fin:∃ a':Nat,(a'≤l.length∧l.length - a' < l.length - k)∧(⟨[(0,.d (.slice 1 (pcs l))),(3,.d (.int .i64 (((l.take k).flatten.length:Int)+(x.length:Int)))),(9,.d (.slice 1 (pcs l))),(10,.d (.int .i64 ((pcs l).length:Int))),(11,.d (.int .i64 ((k:Int)+1)))],[.none]⟩:St)=⟨[(0,.d (.slice 1 (pcs l))),(3,.d (.int .i64 ((l.take a').flatten.length:Int))),(9,.d (.slice 1 (pcs l))),(10,.d (.int .i64 ((pcs l).length:Int))),(11,.d (.int .i64 (a':Nat)))],[.none]⟩ :=
   ⟨k+1,⟨by omega,by omega⟩,by rw [e1,List.length_append]; rfl⟩
  refine sd ?_
  refine b_lt (fun t1=>?_) (fun t1=>?_)
  refine ix_at hx1 ?_ ?_
  (show (0:Int)≤(↑k:Int); omega)
  refine ar_add ?_ ?_
  refine an ?_ ?_
  (show (-9223372036854775808:Int)≤(↑(List.length (List.flatten (List.take k l))):Int)+(↑(List.length x):Int); omega)
  (show (↑(List.length (List.flatten (List.take k l))):Int)+(↑(List.length x):Int)≤(9223372036854775807:Int); omega)
  refine sd ?_
  refine ar_add ?_ ?_
  refine an ?_ ?_
  (show (-9223372036854775808:Int)≤(↑k:Int)+(1:Int); omega)
  (show (↑k:Int)+(1:Int)≤(9223372036854775807:Int); omega)
  rotate_left
  (exfalso; omega)
  all_goals exact fin
 ·have e:l.take k=l:=List.take_of_length_le (by omega)
  rw [e]
  refine sd ?_
  refine b_f (decide_eq_false (by omega)) ?_
  refine Exists.intro (.sl 0 0) (Exists.intro [(0,.row 5 1 [] false)] (And.intro (i200 l.flatten.length (by omega) [.none] 0 rfl) ?_))
  refine loop_st (fun k:Nat=>⟨[(6,.sl 0 (l.take k).flatten.length),(25,.d (.slice 1 (pcs l))),(26,.d (.int .i64 ((pcs l).length:Int))),(27,.d (.int .i64 k))],[.row 5 1 (l.take k).flatten false]⟩) (fun k=>k≤l.length) (fun k=>l.length - k) 0 rfl (Nat.zero_le _) ?_
  intro j hj
  have hj:j≤l.length:=hj
  have hf:=flat_le l j
  dsimp only
  by_cases hjn:j < l.length
  ·refine Exists.elim (get_lt l hjn) fun x hx=>?_
   have hx1:=pcs_at hx
   have hf1:=flat_le l (j+1)
   have e1:=flat_snoc hx
   rw [e1,List.length_append] at hf1
   have fin:∃ a':Nat,(a'≤l.length∧l.length - a' < l.length - j)∧(⟨[(6,.sl 0 ((l.take j).flatten++x).length),(25,.d (.slice 1 (pcs l))),(26,.d (.int .i64 ((pcs l).length:Int))),(27,.d (.int .i64 ((j:Int)+1)))],[.row 5 1 ((l.take j).flatten++x) false]⟩:St)=⟨[(6,.sl 0 (l.take a').flatten.length),(25,.d (.slice 1 (pcs l))),(26,.d (.int .i64 ((pcs l).length:Int))),(27,.d (.int .i64 (a':Nat)))],[.row 5 1 (l.take a').flatten false]⟩ :=
    ⟨j+1,⟨by omega,by omega⟩,by rw [e1]; rfl⟩
   refine sd ?_
   refine b_lt (fun t1=>?_) (fun t1=>?_)
   refine ix_at hx1 ?_ ?_
   (show (0:Int)≤(↑j:Int); omega)
   refine sd ?_
   refine an ?_ ?_
   refine an ?_ ?_
   exact rfl
   refine an ?_ ?_
   exact rfl
   refine an ?_ ?_
   exact rfl
   refine an ?_ ?_
   (show (List.length (List.flatten (List.take j l))+List.length x) * (1:Nat)≤(2:Nat) ^ (47:Nat); omega)
   (show List.length (List.flatten (List.take j l))+List.length x≤(2:Nat) ^ (47:Nat); omega)
   refine ar_add ?_ ?_
   refine an ?_ ?_
   (show (-9223372036854775808:Int)≤(↑j:Int)+(1:Int); omega)
   (show (↑j:Int)+(1:Int)≤(9223372036854775807:Int); omega)
   rotate_left
   (exfalso; omega)
   all_goals exact fin
  ·have e:l.take j=l:=List.take_of_length_le (by omega)
   rw [e]
   refine sd ?_
   refine b_lt (fun t1=>?_) (fun t1=>?_)
   (exfalso; omega)
   refine sd ?_
   exact rfl
end Vc
namespace Vc
def sumL (f:Int→Int):List Int→Int
 | []=>0
 | x::r=>f x+sumL f r
end Vc
namespace Vc
def restN (m n:Int):Nat→Int
 | 0=>n
 | i+1=>restN m n i / m
def digN (m n:Int):Nat→List Int
 | 0=>[]
 | i+1=>digN m n i++[restN m n i % m]
structure An where
 set:List Int
 sum:Int
def uAt (u:List Int) (i:Int):Int:=u[i.toNat]?.getD 0
def rightB (u:List Int) (l:List An):Bool:=l.all fun a=>sumL (uAt u) a.set==a.sum
def zIv (lo hi u:List Int):List Int × List Int:=(List.zipWith min lo u,List.zipWith max hi u)
def kn (m:Int) (h:Nat) (l:List An):Nat→Option (List Int × List Int)
 | 0=>none
 | n+1=>bif rightB (digN m n h) l then (match kn m h l n with
  | none=>some (digN m n h,digN m n h)
  | some o=>some (zIv o.1 o.2 (digN m n h))) else kn m h l n
end Vc
set_option maxRecDepth 10000
set_option maxHeartbeats 4000000
namespace Vc
open Go Go.Proofs
def ixF {α:Type} (g:α→Bool):List α→Int→Int
 | [],_=>-1
 | x::r,k=>bif g x then k else ixF g r (k+1)
theorem ixF_any {α:Type} (g:α→Bool):∀ (l:List α) (k:Int),0≤k→decide (0≤ixF g l k)=l.any g
 | [],k,h=>rfl
 | x::r,k,h=>by
  rw [ixF,List.any_cons]
  cases g x
  ·exact ixF_any g r (k+1) (by omega)
  ·exact decide_eq_true h
theorem ints_len (l:List Int):(ints l).length=l.length:=List.length_map _
def jr121:AFun:=⟨5,0,[.tmp 2],
 (.seq
 (.reg [] [⟨some 2,.mov (.cst (.d (.int .i64 0))),none⟩])
 (.seq
  (.reg [] [⟨some 3,.mov (.tmp 0),none⟩,
   ⟨some 4,.call 122 [(.tmp 3),(.cst (.d (.int .i64 1))),(.cst (.d (.int .i64 5)))],none⟩,
   ⟨some 2,.mov (.tmp 4),none⟩])
  .ret))⟩
def jr124:AFun:=⟨37,1,[.tmp 4],
 (.seq
 (.reg [] [⟨some 4,.mov (.cst (.d (.int .i64 0))),none⟩])
 (.seq
  (.seq
  (.reg [] [⟨some 9,.mov (.tmp 1),none⟩,
   ⟨some 10,.len (.tmp 9),none⟩,
   ⟨some 11,.cmp .eql (.tmp 10) (.cst (.d (.int .i64 0))),none⟩])
  (.cond (.tmp 11)
   (.seq
   (.reg [] [⟨some 4,.mov (.cst (.d (.int .i64 12))),none⟩])
   .ret)
   .skip))
  (.seq
  (.reg [] [⟨some 5,.mov (.cst (.d (.int .i64 (-1)))),none⟩])
  (.seq
   (.seq
   (.reg [] [⟨some 12,.mov (.tmp 1),none⟩,
    ⟨some 13,.len (.tmp 12),none⟩,
    ⟨some 14,.mov (.cst (.d (.int .i64 0))),none⟩])
   (.post [] [0]
    (.block 0
    (.keep [0,5,12,13,14] []
     (.loop
     (.post [0,5,12,13,14] [0]
      (.seq
      (.reg [] [⟨some 15,.cmp .lss (.tmp 14) (.tmp 13),none⟩])
      (.seq
       (.cond (.tmp 15)
       .skip
       (.exit 0))
       (.seq
       (.block 1
        (.seq
        (.reg [] [⟨some 16,.ixa 1 (.tmp 12) (.tmp 14),none⟩,
         ⟨some 17,.ld false 1 (.tmp 16),none⟩,
         ⟨some 7,.mov (.tmp 17),none⟩])
        (.seq
         (.seq
         (.reg [0] [⟨some 18,.mov (.tmp 7),none⟩,
          ⟨some 19,.cmp .lss (.tmp 18) (.cst (.d (.int .i64 0))),none⟩,
          ⟨some 20,.mov (.tmp 19),none⟩,
          ⟨some 21,.mov (.tmp 7),some (20,false)⟩,
          ⟨some 22,.mov (.tmp 0),some (20,false)⟩,
          ⟨some 23,.cmp .geq (.tmp 21) (.tmp 22),some (20,false)⟩,
          ⟨some 24,.pick (.tmp 20) (.cst (.d (.bool true))) (.tmp 23),none⟩,
          ⟨some 25,.call 103 [(.tmp 24),(.cst (.d (.int .i64 10)))],none⟩,
          ⟨some 26,.mov (.tmp 7),none⟩,
          ⟨some 27,.mov (.tmp 5),none⟩,
          ⟨some 28,.cmp .leq (.tmp 26) (.tmp 27),none⟩,
          ⟨some 29,.call 103 [(.tmp 28),(.cst (.d (.int .i64 11)))],none⟩,
          ⟨some 30,.bsl 0 32 1 2 [(.int .i64 0),(.int .i64 0)] [(0,(.tmp 25)),(1,(.tmp 29))],none⟩,
          ⟨some 31,.call 99 [(.tmp 30)],none⟩,
          ⟨some 8,.mov (.tmp 31),none⟩])
         (.seq
          (.reg [] [⟨some 32,.mov (.tmp 8),none⟩,
           ⟨some 33,.cmp .neq (.tmp 32) (.cst (.d (.int .i64 0))),none⟩])
          (.cond (.tmp 33)
          (.seq
           (.reg [] [⟨some 34,.mov (.tmp 8),none⟩,
            ⟨some 4,.mov (.tmp 34),none⟩])
           .ret)
          .skip)))
         (.reg [] [⟨some 35,.mov (.tmp 7),none⟩,
          ⟨some 5,.mov (.tmp 35),none⟩]))))
       (.reg [] [⟨some 36,.arith .add .i64 (.tmp 14) (.cst (.d (.int .i64 1))),none⟩,
        ⟨some 14,.mov (.tmp 36),none⟩]))))))))))
   (.seq
   (.reg [] [⟨some 4,.mov (.cst (.d (.int .i64 0))),none⟩])
   .ret)))))⟩
def jr123:AFun:=⟨7,0,[.tmp 3],
 (.seq
 (.reg [] [⟨some 3,.mov (.cst (.d (.int .i64 0))),none⟩])
 (.seq
  (.reg [] [⟨some 4,.ld false 1 (.tmp 1),none⟩,
   ⟨some 5,.mov (.tmp 0),none⟩,
   ⟨some 6,.call 124 [(.tmp 4),(.tmp 5)],none⟩,
   ⟨some 3,.mov (.tmp 6),none⟩])
  .ret))⟩
def jr125:AFun:=⟨22,2,[.tmp 4],
 (.seq
 (.reg [] [⟨some 4,.mov (.cst (.nils 1)),none⟩])
 (.seq
  (.reg [] [⟨some 5,.mov (.cst (.nils 1)),none⟩])
  (.seq
  (.seq
   (.reg [] [⟨some 8,.mov (.tmp 0),none⟩,
    ⟨some 9,.len (.tmp 8),none⟩,
    ⟨some 10,.mov (.cst (.d (.int .i64 0))),none⟩])
   (.post [5] [0,1]
   (.block 0
    (.asrow 1 32 1 5
    (.keep [1,5,8,9,10] []
     (.loop
     (.post [1,5,8,9,10] [0,1]
      (.seq
      (.reg [] [⟨some 11,.cmp .lss (.tmp 10) (.tmp 9),none⟩])
      (.seq
       (.cond (.tmp 11)
       .skip
       (.exit 0))
       (.seq
       (.block 1
        (.seq
        (.reg [] [⟨some 12,.ixa 1 (.tmp 8) (.tmp 10),none⟩,
         ⟨some 13,.ld false 1 (.tmp 12),none⟩,
         ⟨some 7,.mov (.tmp 13),none⟩])
        (.reg [0,1] [⟨some 14,.mov (.tmp 5),none⟩,
         ⟨some 15,.mov (.tmp 1),none⟩,
         ⟨some 16,.mov (.tmp 7),none⟩,
         ⟨some 17,.callv (.tmp 15) [(.tmp 16)],none⟩,
         ⟨some 18,.bsl 0 32 1 1 [(.int .i64 0)] [(0,(.tmp 17))],none⟩,
         ⟨some 19,.app 1 32 1 8 (.tmp 14) (.tmp 18),none⟩,
         ⟨some 5,.mov (.tmp 19),none⟩])))
       (.reg [] [⟨some 20,.arith .add .i64 (.tmp 10) (.cst (.d (.int .i64 1))),none⟩,
        ⟨some 10,.mov (.tmp 20),none⟩])))))))))))
  (.seq
   (.reg [] [⟨some 21,.mov (.tmp 5),none⟩,
    ⟨some 4,.mov (.tmp 21),none⟩])
   .ret))))⟩
def jr129:AFun:=⟨5,0,[.tmp 2],
 (.seq
 (.reg [] [⟨some 2,.mov (.cst (.d (.int .i64 0))),none⟩])
 (.seq
  (.reg [] [⟨some 3,.mov (.tmp 0),none⟩,
   ⟨some 4,.call 122 [(.tmp 3),(.cst (.d (.int .i64 0))),(.cst (.d (.int .i64 7)))],none⟩,
   ⟨some 2,.mov (.tmp 4),none⟩])
  .ret))⟩
def jr130:AFun:=⟨22,2,[.tmp 4],
 (.seq
 (.reg [] [⟨some 4,.mov (.cst (.nils 1)),none⟩])
 (.seq
  (.reg [] [⟨some 5,.mov (.cst (.nils 1)),none⟩])
  (.seq
  (.seq
   (.reg [] [⟨some 8,.mov (.tmp 0),none⟩,
    ⟨some 9,.len (.tmp 8),none⟩,
    ⟨some 10,.mov (.cst (.d (.int .i64 0))),none⟩])
   (.post [5] [0,1]
   (.block 0
    (.asrow 1 32 1 5
    (.keep [1,5,8,9,10] []
     (.loop
     (.post [1,5,8,9,10] [0,1]
      (.seq
      (.reg [] [⟨some 11,.cmp .lss (.tmp 10) (.tmp 9),none⟩])
      (.seq
       (.cond (.tmp 11)
       .skip
       (.exit 0))
       (.seq
       (.block 1
        (.seq
        (.reg [] [⟨some 12,.ixa 1 (.tmp 8) (.tmp 10),none⟩,
         ⟨some 13,.ld false 1 (.tmp 12),none⟩,
         ⟨some 7,.mov (.tmp 13),none⟩])
        (.reg [0,1] [⟨some 14,.mov (.tmp 5),none⟩,
         ⟨some 15,.mov (.tmp 1),none⟩,
         ⟨some 16,.mov (.tmp 7),none⟩,
         ⟨some 17,.callv (.tmp 15) [(.tmp 16)],none⟩,
         ⟨some 18,.bsl 0 32 1 1 [(.int .i64 0)] [(0,(.tmp 17))],none⟩,
         ⟨some 19,.app 1 32 1 8 (.tmp 14) (.tmp 18),none⟩,
         ⟨some 5,.mov (.tmp 19),none⟩])))
       (.reg [] [⟨some 20,.arith .add .i64 (.tmp 10) (.cst (.d (.int .i64 1))),none⟩,
        ⟨some 10,.mov (.tmp 20),none⟩])))))))))))
  (.seq
   (.reg [] [⟨some 21,.mov (.tmp 5),none⟩,
    ⟨some 4,.mov (.tmp 21),none⟩])
   .ret))))⟩
def jr131:AFun:=⟨22,0,[.tmp 4],
 (.seq
 (.reg [] [⟨some 4,.mov (.cst (.d (.int .i64 0))),none⟩])
 (.seq
  (.reg [] [⟨some 5,.mov (.cst (.d (.int .i64 0))),none⟩])
  (.seq
  (.seq
   (.reg [] [⟨some 8,.mov (.tmp 1),none⟩,
    ⟨some 9,.len (.tmp 8),none⟩,
    ⟨some 10,.mov (.cst (.d (.int .i64 0))),none⟩])
   (.post [5] []
   (.block 0
    (.keep [0,5,8,9,10] []
    (.loop
     (.post [0,5,8,9,10] []
     (.seq
      (.reg [] [⟨some 11,.cmp .lss (.tmp 10) (.tmp 9),none⟩])
      (.seq
      (.cond (.tmp 11)
       .skip
       (.exit 0))
      (.seq
       (.block 1
       (.seq
        (.reg [] [⟨some 12,.ixa 1 (.tmp 8) (.tmp 10),none⟩,
         ⟨some 13,.ld false 1 (.tmp 12),none⟩,
         ⟨some 7,.mov (.tmp 13),none⟩])
        (.reg [] [⟨some 14,.mov (.tmp 5),none⟩,
         ⟨some 15,.mov (.tmp 0),none⟩,
         ⟨some 16,.mov (.tmp 7),none⟩,
         ⟨some 17,.ixa 1 (.tmp 15) (.tmp 16),none⟩,
         ⟨some 18,.ld false 1 (.tmp 17),none⟩,
         ⟨some 19,.arith .add .i64 (.tmp 14) (.tmp 18),none⟩,
         ⟨some 5,.mov (.tmp 19),none⟩])))
       (.reg [] [⟨some 20,.arith .add .i64 (.tmp 10) (.cst (.d (.int .i64 1))),none⟩,
        ⟨some 10,.mov (.tmp 20),none⟩]))))))))))
  (.seq
   (.reg [] [⟨some 21,.mov (.tmp 5),none⟩,
    ⟨some 4,.mov (.tmp 21),none⟩])
   .ret))))⟩
def jr128:AFun:=⟨26,0,[.tmp 4],
 (.seq
 (.reg [] [⟨some 4,.mov (.cst (.d (.int .i64 0))),none⟩])
 (.seq
  (.reg [] [⟨some 8,.mov (.tmp 0),none⟩,
   ⟨some 9,.len (.tmp 8),none⟩,
   ⟨some 10,.mov (.tmp 1),none⟩,
   ⟨some 11,.len (.tmp 10),none⟩,
   ⟨some 12,.arith .add .i64 (.tmp 9) (.tmp 11),none⟩,
   ⟨some 5,.mov (.tmp 12),none⟩])
  (.seq
  (.seq
   (.reg [] [⟨some 13,.mov (.tmp 0),none⟩,
    ⟨some 14,.len (.tmp 13),none⟩,
    ⟨some 15,.mov (.cst (.d (.int .i64 0))),none⟩])
   (.post [5] []
   (.block 0
    (.keep [1,5,13,14,15] []
    (.loop
     (.post [1,5,13,14,15] []
     (.seq
      (.reg [] [⟨some 16,.cmp .lss (.tmp 15) (.tmp 14),none⟩])
      (.seq
      (.cond (.tmp 16)
       .skip
       (.exit 0))
      (.seq
       (.block 1
       (.seq
        (.reg [] [⟨some 17,.ixa 1 (.tmp 13) (.tmp 15),none⟩,
         ⟨some 18,.ld false 1 (.tmp 17),none⟩,
         ⟨some 7,.mov (.tmp 18),none⟩])
        (.seq
        (.reg [] [⟨some 19,.mov (.tmp 1),none⟩,
         ⟨some 20,.mov (.tmp 7),none⟩,
         ⟨some 21,.call 106 [(.tmp 19),(.tmp 20)],none⟩])
        (.cond (.tmp 21)
         (.reg [] [⟨some 22,.mov (.tmp 5),none⟩,
          ⟨some 23,.arith .sub .i64 (.tmp 22) (.cst (.d (.int .i64 2))),none⟩,
          ⟨some 5,.mov (.tmp 23),none⟩])
         .skip))))
       (.reg [] [⟨some 24,.arith .add .i64 (.tmp 15) (.cst (.d (.int .i64 1))),none⟩,
        ⟨some 15,.mov (.tmp 24),none⟩]))))))))))
  (.seq
   (.reg [] [⟨some 25,.mov (.tmp 5),none⟩,
    ⟨some 4,.mov (.tmp 25),none⟩])
   .ret))))⟩
def jr127:AFun:=⟨16,0,[.tmp 4],
 (.seq
 (.reg [] [⟨some 4,.mov (.cst (.d (.bool false))),none⟩])
 (.seq
  (.reg [] [⟨some 6,.mov (.tmp 0),none⟩,
   ⟨some 7,.ld false 1 (.tmp 1),none⟩,
   ⟨some 8,.call 128 [(.tmp 6),(.tmp 7)],none⟩,
   ⟨some 5,.mov (.tmp 8),none⟩])
  (.seq
  (.reg [] [⟨some 9,.mov (.tmp 5),none⟩,
   ⟨some 10,.cmp .gtr (.tmp 9) (.cst (.d (.int .i64 0))),none⟩,
   ⟨some 11,.mov (.tmp 10),none⟩,
   ⟨some 12,.mov (.tmp 5),some (11,true)⟩,
   ⟨some 13,.ld false 1 (.tmp 2),some (11,true)⟩,
   ⟨some 14,.cmp .lss (.tmp 12) (.tmp 13),some (11,true)⟩,
   ⟨some 15,.pick (.tmp 11) (.tmp 14) (.cst (.d (.bool false))),none⟩,
   ⟨some 4,.mov (.tmp 15),none⟩])
  .ret)))⟩
def jr169:AFun:=⟨19,0,[.tmp 4],
 (.seq
 (.reg [] [⟨some 4,.mov (.cst (.d (.int .i64 0))),none⟩])
 (.seq
  (.seq
  (.reg [] [⟨some 6,.mov (.tmp 0),none⟩,
   ⟨some 7,.len (.tmp 6),none⟩,
   ⟨some 8,.mov (.cst (.d (.int .i64 0))),none⟩])
  (.post [] []
   (.block 0
   (.keep [0,1,7,8] []
    (.loop
    (.post [0,1,7,8] []
     (.seq
     (.reg [] [⟨some 9,.cmp .lss (.tmp 8) (.tmp 7),none⟩])
     (.seq
      (.cond (.tmp 9)
      .skip
      (.exit 0))
      (.seq
      (.block 1
       (.seq
       (.reg [] [⟨some 10,.mov (.tmp 8),none⟩,
        ⟨some 5,.mov (.tmp 10),none⟩])
       (.seq
        (.reg [] [⟨some 11,.mov (.tmp 1),none⟩,
         ⟨some 12,.mov (.tmp 0),none⟩,
         ⟨some 13,.mov (.tmp 5),none⟩,
         ⟨some 14,.ixa 1 (.tmp 12) (.tmp 13),none⟩,
         ⟨some 15,.ld false 1 (.tmp 14),none⟩,
         ⟨some 16,.callv (.tmp 11) [(.tmp 15)],none⟩])
        (.cond (.tmp 16)
        (.seq
         (.reg [] [⟨some 17,.mov (.tmp 5),none⟩,
          ⟨some 4,.mov (.tmp 17),none⟩])
         .ret)
        .skip))))
      (.reg [] [⟨some 18,.arith .add .i64 (.tmp 8) (.cst (.d (.int .i64 1))),none⟩,
       ⟨some 8,.mov (.tmp 18),none⟩]))))))))))
  (.seq
  (.reg [] [⟨some 4,.mov (.cst (.d (.int .i64 (-1)))),none⟩])
  .ret)))⟩
def jr126:AFun:=⟨9,0,[.tmp 4],
 (.seq
 (.reg [] [⟨some 4,.mov (.cst (.d (.bool false))),none⟩])
 (.seq
  (.reg [] [⟨some 5,.mov (.tmp 0),none⟩,
   ⟨some 6,.mov (.tmp 1),none⟩,
   ⟨some 7,.call 169 [(.tmp 5),(.tmp 6)],none⟩,
   ⟨some 8,.cmp .geq (.tmp 7) (.cst (.d (.int .i64 0))),none⟩,
   ⟨some 4,.mov (.tmp 8),none⟩])
  .ret))⟩
end Vc
set_option maxRecDepth 10000
set_option maxHeartbeats 4000000
namespace Vc
open Go Go.Proofs
def jr209:AFun:=⟨6,0,[.tmp 2],
 (.seq
 (.reg [] [⟨some 2,.mov (.cst (.d (.bool false))),none⟩])
 (.seq
  (.reg [] [⟨some 3,.mov (.tmp 0),none⟩,
   ⟨some 4,.mov (.tmp 0),none⟩,
   ⟨some 5,.cmp .neq (.tmp 3) (.tmp 4),none⟩,
   ⟨some 2,.mov (.tmp 5),none⟩])
  .ret))⟩
def jr182:AFun:=⟨20,0,[.tmp 4],
 (.seq
 (.reg [] [⟨some 4,.mov (.cst (.d (.int .i64 0))),none⟩])
 (.seq
  (.reg [] [⟨some 7,.mov (.tmp 0),none⟩,
   ⟨some 8,.call 209 [(.tmp 7)],none⟩,
   ⟨some 5,.mov (.tmp 8),none⟩])
  (.seq
  (.reg [] [⟨some 9,.mov (.tmp 1),none⟩,
   ⟨some 10,.call 209 [(.tmp 9)],none⟩,
   ⟨some 6,.mov (.tmp 10),none⟩])
  (.seq
   (.seq
   (.reg [] [⟨some 11,.mov (.tmp 5),none⟩])
   (.cond (.tmp 11)
    (.seq
    (.seq
     (.reg [] [⟨some 12,.mov (.tmp 6),none⟩])
     (.cond (.tmp 12)
     (.seq
      (.reg [] [⟨some 4,.mov (.cst (.d (.int .i64 0))),none⟩])
      .ret)
     .skip))
    (.seq
     (.reg [] [⟨some 4,.mov (.cst (.d (.int .i64 (-1)))),none⟩])
     .ret))
    .skip))
   (.seq
   (.seq
    (.reg [] [⟨some 13,.mov (.tmp 6),none⟩])
    (.cond (.tmp 13)
    (.seq
     (.reg [] [⟨some 4,.mov (.cst (.d (.int .i64 1))),none⟩])
     .ret)
    .skip))
   (.seq
    (.seq
    (.reg [] [⟨some 14,.mov (.tmp 0),none⟩,
     ⟨some 15,.mov (.tmp 1),none⟩,
     ⟨some 16,.cmp .lss (.tmp 14) (.tmp 15),none⟩])
    (.cond (.tmp 16)
     (.seq
     (.reg [] [⟨some 4,.mov (.cst (.d (.int .i64 (-1)))),none⟩])
     .ret)
     .skip))
    (.seq
    (.seq
     (.reg [] [⟨some 17,.mov (.tmp 0),none⟩,
      ⟨some 18,.mov (.tmp 1),none⟩,
      ⟨some 19,.cmp .gtr (.tmp 17) (.tmp 18),none⟩])
     (.cond (.tmp 19)
     (.seq
      (.reg [] [⟨some 4,.mov (.cst (.d (.int .i64 1))),none⟩])
      .ret)
     .skip))
    (.seq
     (.reg [] [⟨some 4,.mov (.cst (.d (.int .i64 0))),none⟩])
     .ret))))))))⟩
def jr181:AFun:=⟨18,0,[.tmp 2],
 (.seq
 (.reg [] [⟨some 2,.mov (.cst (.d (.int .i64 0))),none⟩])
 (.seq
  (.reg [] [⟨some 3,.mov (.cst (.d (.int .i64 0))),none⟩])
  (.seq
  (.seq
   (.reg [] [⟨some 6,.mov (.tmp 0),none⟩,
    ⟨some 7,.len (.tmp 6),none⟩,
    ⟨some 8,.mov (.cst (.d (.int .i64 0))),none⟩])
   (.post [3] []
   (.block 0
    (.keep [3,6,7,8] []
    (.loop
     (.post [3,6,7,8] []
     (.seq
      (.reg [] [⟨some 9,.cmp .lss (.tmp 8) (.tmp 7),none⟩])
      (.seq
      (.cond (.tmp 9)
       .skip
       (.exit 0))
      (.seq
       (.block 1
       (.seq
        (.reg [] [⟨some 10,.ixa 1 (.tmp 6) (.tmp 8),none⟩,
         ⟨some 11,.ld false 1 (.tmp 10),none⟩,
         ⟨some 5,.mov (.tmp 11),none⟩])
        (.seq
        (.reg [] [⟨some 12,.mov (.tmp 5),none⟩,
         ⟨some 13,.mov (.tmp 3),none⟩,
         ⟨some 14,.cmp .neq (.tmp 12) (.tmp 13),none⟩])
        (.cond (.tmp 14)
         (.seq
         (.reg [] [⟨some 15,.mov (.tmp 5),none⟩,
          ⟨some 2,.mov (.tmp 15),none⟩])
         .ret)
         .skip))))
       (.reg [] [⟨some 16,.arith .add .i64 (.tmp 8) (.cst (.d (.int .i64 1))),none⟩,
        ⟨some 8,.mov (.tmp 16),none⟩]))))))))))
  (.seq
   (.reg [] [⟨some 17,.mov (.tmp 3),none⟩,
    ⟨some 2,.mov (.tmp 17),none⟩])
   .ret))))⟩
def jr154:AFun:=⟨17,3,[.tmp 4],
 (.seq
 (.reg [0,1] [⟨some 2,.cbx 0 4 (.tmp 0),none⟩,
  ⟨some 3,.cbx 1 4 (.tmp 1),none⟩,
  ⟨some 4,.mov (.cst (.d (.int .i64 0))),none⟩])
 (.seq
  (.regd [2] [⟨some 5,.fad 3 (.tmp 2),none⟩,
   ⟨some 6,.ld false 1 (.tmp 5),none⟩,
   ⟨some 7,.fad 3 (.tmp 3),none⟩,
   ⟨some 8,.ld false 1 (.tmp 7),none⟩,
   ⟨some 9,.call 182 [(.tmp 6),(.tmp 8)],none⟩,
   ⟨some 10,.fad 2 (.tmp 2),none⟩,
   ⟨some 11,.ld false 1 (.tmp 10),none⟩,
   ⟨some 12,.fad 2 (.tmp 3),none⟩,
   ⟨some 13,.ld false 1 (.tmp 12),none⟩,
   ⟨some 14,.call 182 [(.tmp 11),(.tmp 13)],none⟩,
   ⟨some 15,.bsl 2 3 1 2 [(.int .i64 0),(.int .i64 0)] [(0,(.tmp 9)),(1,(.tmp 14))],none⟩,
   ⟨some 16,.call 181 [(.tmp 15)],none⟩,
   ⟨some 4,.mov (.tmp 16),none⟩] [(0,2),(1,2),(0,3),(1,3),(0,5),(1,5),(2,5),(3,5),(4,5),(0,6),(1,6),(2,6),(3,6),(4,6),(0,7),(1,7),(2,7),(3,7),(4,7),(5,7),(6,7),(0,8),(1,8),(2,8),(3,8),(4,8),(5,8),(6,8)])
  .ret))⟩
def jr91:AFun:=⟨27,0,[.tmp 4],
 (.seq
 (.reg [] [⟨some 4,.mov (.cst (.d (.bool false))),none⟩])
 (.seq
  (.seq
  (.reg [] [⟨some 6,.mov (.tmp 0),none⟩,
   ⟨some 7,.len (.tmp 6),none⟩,
   ⟨some 8,.mov (.tmp 1),none⟩,
   ⟨some 9,.len (.tmp 8),none⟩,
   ⟨some 10,.cmp .neq (.tmp 7) (.tmp 9),none⟩])
  (.cond (.tmp 10)
   (.seq
   (.reg [] [⟨some 4,.mov (.cst (.d (.bool false))),none⟩])
   .ret)
   .skip))
  (.seq
  (.seq
   (.reg [] [⟨some 5,.mov (.cst (.d (.int .i64 0))),none⟩])
   (.post [] []
   (.block 0
    (.keep [0,1,5] []
    (.loop
     (.post [0,1,5] []
     (.seq
      (.seq
      (.reg [] [⟨some 11,.mov (.tmp 5),none⟩,
       ⟨some 12,.mov (.tmp 0),none⟩,
       ⟨some 13,.len (.tmp 12),none⟩,
       ⟨some 14,.cmp .lss (.tmp 11) (.tmp 13),none⟩])
      (.cond (.tmp 14)
       .skip
       (.exit 0)))
      (.seq
      (.block 1
       (.seq
       (.regd [] [⟨some 17,.mov (.tmp 0),none⟩,
        ⟨some 18,.mov (.tmp 5),none⟩,
        ⟨some 19,.ixa 1 (.tmp 17) (.tmp 18),none⟩,
        ⟨some 20,.ld false 1 (.tmp 19),none⟩,
        ⟨some 21,.mov (.tmp 1),none⟩,
        ⟨some 22,.mov (.tmp 5),none⟩,
        ⟨some 23,.ixa 1 (.tmp 21) (.tmp 22),none⟩,
        ⟨some 24,.ld false 1 (.tmp 23),none⟩,
        ⟨some 25,.call 28 [(.tmp 20),(.tmp 24)],none⟩,
        ⟨some 26,.not (.tmp 25),none⟩] [(0,1),(0,4),(1,4),(2,4),(3,4),(0,5),(1,5),(2,5),(3,5),(4,5),(0,6),(1,6),(2,6),(3,6),(0,7),(1,7),(2,7),(3,7)])
       (.cond (.tmp 26)
        (.seq
        (.reg [] [⟨some 4,.mov (.cst (.d (.bool false))),none⟩])
        .ret)
        .skip)))
      (.reg [] [⟨some 15,.mov (.tmp 5),none⟩,
       ⟨some 16,.arith .add .i64 (.tmp 15) (.cst (.d (.int .i64 1))),none⟩,
       ⟨some 5,.mov (.tmp 16),none⟩])))))))))
  (.seq
   (.reg [] [⟨some 4,.mov (.cst (.d (.bool true))),none⟩])
   .ret))))⟩
def jr116:AFun:=⟨7,0,[.tmp 2],
 (.seq
 (.reg [] [⟨some 2,.mov (.cst (.d (.int .i64 0))),none⟩])
 (.seq
  (.reg [] [⟨some 3,.mov (.tmp 0),none⟩,
   ⟨some 4,.call 165 [(.tmp 3)],none⟩,
   ⟨some 5,.not (.tmp 4),none⟩,
   ⟨some 6,.call 103 [(.tmp 5),(.cst (.d (.int .i64 8)))],none⟩,
   ⟨some 2,.mov (.tmp 6),none⟩])
  .ret))⟩
theorem c116 (b:List UInt8):CallDet Tryz.prog 116 [.d (.str b)] [.int .i64 (bif !(isNm b) then 8 else 0)]:=by
 have c165_:=c165 b
 refine call_of_vc (x:=jr116) (by kernel_rfl) rfl ?_
 refine ca c165_ ?_
 refine ca (c103 _ _) ?_
 exact rfl
end Vc
