import Derived.Test.YtokkgdokamjnaaaGreatG07
import Derived.Test.YtokkgdokamjnaaaGreatG13
set_option linter.unusedSectionVars false
set_option linter.unusedVariables false
set_option linter.unusedSimpArgs false
set_option linter.unusedVariables false
namespace Vc.L
open Go Go.RowKit
def endRW (res:List ARes) (t sz:Nat) (es:List Data) (st:St):Prop :=
 ∃ id n j es',endI res (.rv id n 0 j) st.heap st∧st.heap[id]?=some (.row t sz es' false)∧es'.length=n∧0 < n∧j≤n∧es=es'.take j
def postRW (x:AFun) (t sz:Nat) (es:List Data):AExit→St→Prop:=fun e st=>match e with
 | .normal=>endRW x.res t sz es st
 | .ret=>endRW x.res t sz es st
 | .exit _=>False
theorem callRow_win {P : Program} [Laid P] {f : FuncId} {x : AFun} {args : List AVal} {t sz : Nat} {es : List Data} (hf : chkFun P f x = true) (hargs : Nat.ble args.length x.n = true)
  (h:vc P x.n x.body (startS x args) (postRW x t sz es)):CallRow P f args t sz es:=by
 unfold chkFun at hf
 split at hf
 ·rename_i fn hfn
  split at hf
  ·rename_i c hb
   simp only [Bool.and_eq_true] at hf
   obtain ⟨⟨⟨h1,h2⟩,h3⟩,h4⟩:=hf
   have hn:=nbeq h2
   refine ⟨⟨fn,hfn,by simp [hb],by simpa using h4⟩,fun w S vs hv hS hgl=>?_⟩
   refine callsIn_wide.1 (callsIn_of_wp_marks (n:=0) hfn hb trivial ?_)
   have hT:=vc_sound (C:=fun _=>True) (r:=none) h1 ⟨clrs_true _,.inl rfl⟩ (hn ▸ h)
   have hlen:=VRels_length hv
   have hle:args.length≤fn.ntmps:=by rw [hn]; exact Nat.le_of_ble_eq_true hargs
   have hext:Ext w ⟨S,fun _=>undef⟩ [] w ⟨S,fun _=>undef⟩ (nones x.heap) :=
    ⟨fun _ _ h=>h,fun _ _ _=>rfl,fun _ _ _ _ _ h=>by simp at h,fun _ _ h=>by simp at h,fun _ _ h=>by simp at h,fun _ _ h=>by simp at h,fun _ _ _ h=>by simp at h,fun _ _ _ _ _ _ _ _ _ h=>by simp at h,fun _ _ _ h=>by simp at h,fun _ _ _ h=>by simp at h⟩
   have hr:Rel fn.ntmps w.heap.size ⟨w,S,Laid.vars P,w,⟨S,fun _=>undef⟩,[],fun _=>False,ckP P⟩ ⟨S,fun _=>undef⟩ (startS x args) { tmps:=vs.toArray++Array.replicate (fn.ntmps - vs.toArray.size) undef,defers:=[] } w:=by
    refine ⟨by simp [hlen]; omega,⟨List.nodup_nil,by simp⟩,fun i=>?_,fun id o ho=>?_,fun id o b off ho _ hown=>?_,fun i j oi oj b _ hi _ hli=>?_,hS,Below.refl _ _,fun _ _ h=>h,fun _ _ h=>.inl h,Nat.le_refl _,fun b hb=>by simp at hb,hext,hgl,fun id s pd m sl ps xa xb ck h=>by have:=nones_get _ _ _ h; cases this⟩
    ·simp only [startS,zipSlots_get,Nat.zero_le,if_true,Nat.sub_zero]
     by_cases hi:i < args.length
     ·have h5:=VRel_mono hext _ (VRels_get i hv)
      have h6:(vs.toArray++Array.replicate (fn.ntmps - vs.toArray.size) undef).getD i undef=vs[i]?.getD undef:=by
       simp only [Array.getD_eq_getD_getElem?]
       rw [Array.getElem?_append_left (by simpa [hlen] using hi)]
       simp
      rw [h6]
      exact h5
     ·have:args[i]?.getD .undef=.undef:=by rw [List.getElem?_eq_none (by omega)]; rfl
      rw [this]; simp [VRel]
    ·rw [nones_get _ _ _ ho]; trivial
    ·rw [nones_get _ _ _ ho] at hown; exact hown.elim
    ·exact absurd (nones_get _ _ _ hi) hli
   refine wpIn_mono (hT _ _ _ _ _ ⟨rfl,rfl⟩ (fun id _=>.inl (by simp)) hr) fun e a w' ⟨G,st,k1,k2⟩=>?_
   have fin:endRW x.res t sz es st→LeavesInM Fence.wide 0 P fn a.tmps (fun e w'=>∃ v' S',e=.returned v'∧Below w.heap.size w w'∧(∀ b o,S b o→S' b o)∧(∀ b o,S' b o→S b o∨w.heap.size≤b)∧(∀ b o,S' b o→b < w'.heap.size)∧0 < sz∧(∃ xs,w'.ownsRow w.heap.size t sz v' es.length xs∧DXs w' S' es sz xs)∧∀ b o,blockOf v'=some b→¬ S' b o) a.defers .returning w':=by
    intro he
    refine leaves_of_rel (show Rel _ _ _ _ _ ⟨a.tmps,a.defers⟩ _ from k1) fun w'' k3=>?_
    obtain ⟨id,m,j,es',he,hid,hm,h0,hj,rfl⟩:=he
    obtain ⟨v,q1,q2,_⟩:=endI_rel k3 h3 he
    obtain ⟨hsz,xs,q3,q4⟩:=k3.objs id _ hid
    simp only [VRel] at q2
    obtain ⟨t',sz',es'',fz',q5,_,q6⟩:=q2
    rw [hid] at q5; cases q5
    obtain ⟨b,cap,p1,p,p2,p3,p4,rfl⟩:=q6 hm
    have p4:=p4 (by omega)
    rw [Nat.zero_mul] at p4
    subst p4
    rw [Nat.sub_zero,Nat.sub_zero] at *
    have hlen:(es'.take j).length=j:=by rw [List.length_take]; omega
    refine ⟨_,q1,_,G.S,rfl,k3.below,k3.sub,k3.sup,k3.lim,hsz,⟨xs.take (j * sz),?_,DXs_take j q4⟩,fun b' o hb hs=>?_⟩
    ·rw [hlen]
     rcases q3.2 with ⟨e1,e2⟩ | ⟨g,cap',cur,e1,e2,e3,e4,e5,e6,e7⟩
     ·omega
     ·rw [p1] at e1
      cases e1
      have hjs:j * sz≤es'.length * sz:=Nat.mul_le_mul_right sz (by omega)
      refine ⟨by rw [List.length_take,q3.1]; omega,.inr ⟨b,cap,cur,rfl,e2,e3,by omega,e5,e6,?_⟩⟩
      rw [← e7,List.take_take]
      congr 1
      omega
    ·cases hb
     exact k3.free id _ _ o hid (by rw [p1]; rfl) (fun h=>by cases h) hs
   cases e with
   | normal=>exact fin k2
   | ret=>exact fin k2
   | exit i=>exact k2.elim
   | goto l=>exact k2.elim
   | panic ch=>exact k2.elim
   | outgrown=>exact k2.elim
  ·cases hf
 ·cases hf
end Vc.L
set_option maxRecDepth 10000
set_option maxHeartbeats 4000000
namespace Vc.L
open Go Go.Proofs
theorem get_lt {α:Type} (l:List α) {k:Nat} (h:k < l.length):∃ x,l[k]?=some x:=⟨_,List.getElem?_eq_getElem h⟩
abbrev Nm:=List UInt8
structure Od where
 o:Nm
 t:Int
def od (x:Od):Data:=.agg [.str x.o,.int .i64 x.t]
def ods (l:List Od):List Data:=l.map od
theorem ods_len (l:List Od):(ods l).length=l.length:=List.length_map _
theorem ods_at {l:List Od} {k:Nat} {x:Od} (h:l[k]?=some x):(ods l)[((k:Int)).toNat]?=some (.agg [.str x.o,.int .i64 x.t]):=by
 show (l.map _)[k]?=_
 rw [List.getElem?_map,h]; rfl
theorem ods_app (a b:List Od):ods (a++b)=ods a++ods b:=List.map_append
theorem ods_set (l:List Od) (i:Nat) (x:Od):ods (l.set i x)=(ods l).set i (od x):=List.map_set
theorem ods_take (l:List Od) (i:Nat):ods (l.take i)=(ods l).take i:=List.map_take
def ixO (off:Nm):List Od→Int→Int
 | [],_=>-1
 | x::r,k=>bif (x.o==off) then k else ixO off r (k+1)
def keepO (off:Nm) (l:List Od):List Od:=l.filter fun x=>!(x.o==off)
theorem keepO_snoc (off:Nm) (l:List Od) (x:Od):keepO off (l++[x])=bif (x.o==off) then keepO off l else keepO off l++[x]:=by
 unfold keepO
 rw [List.filter_append]
 cases e:(x.o==off) <;> simp [e]
theorem keepO_le (off:Nm) (l:List Od):(keepO off l).length≤l.length:=List.length_filter_le _ _
theorem ixO_none (off:Nm):∀ (l:List Od) (k:Int),0≤k→ixO off l k=-1→keepO off l=l
 | [],_,_,_=>rfl
 | x::r,k,h0,h=>by
  rw [ixO] at h
  cases e:(x.o==off) with
  | true=>rw [e] at h; have h:k=-1:=h; omega
  | false =>
   rw [e] at h
   have:=ixO_none off r (k+1) (by omega) h
   unfold keepO at this ⊢
   rw [List.filter_cons_of_pos (by simp [e]),this]
theorem ixO_some (off:Nm):∀ (l:List Od) (k:Int),0≤k→ixO off l k≠-1→∃ j:Nat,ixO off l k=k+j∧j < l.length∧(∃ x,l[j]?=some x∧(x.o==off)=true)∧keepO off (l.take j)=l.take j
 | [],_,_,h=>absurd rfl h
 | x::r,k,h0,h=>by
  rw [ixO] at h ⊢
  cases e:(x.o==off) with
  | true=>exact ⟨0,by simp,by simp,⟨x,rfl,e⟩,rfl⟩
  | false =>
   rw [e] at h
   obtain ⟨j,h1,h2,h3,h4⟩:=ixO_some off r (k+1) (by omega) h
   refine ⟨j+1,?_,by simp; omega,by simpa using h3,?_⟩
   ·show ixO off r (k+1)=_
    rw [h1]; omega
   ·unfold keepO at h4 ⊢
    rw [List.take_succ_cons,List.filter_cons_of_pos (by simp [e]),h4]
def jr149:AFun:=⟨8,1,[.tmp 3],
 (.seq
 (.reg [0] [⟨some 2,.cbx 0 2 (.tmp 0),none⟩,
  ⟨some 3,.mov (.cst (.d (.bool false))),none⟩])
 (.seq
  (.reg [] [⟨some 4,.fad 0 (.tmp 2),none⟩,
   ⟨some 5,.ld false 1 (.tmp 4),none⟩,
   ⟨some 6,.ld false 1 (.tmp 1),none⟩,
   ⟨some 7,.seq false (.tmp 5) (.tmp 6),none⟩,
   ⟨some 3,.mov (.tmp 7),none⟩])
  .ret))⟩
def jr168:AFun:=⟨19,0,[.tmp 4],
 (.seq
 (.reg [] [⟨some 4,.mov (.cst (.d (.int .i64 0))),none⟩])
 (.seq
  (.seq
  (.reg [] [⟨some 6,.mov (.tmp 0),none⟩,
   ⟨some 7,.len (.tmp 6),none⟩,
   ⟨some 8,.mov (.cst (.d (.int .i64 0))),none⟩])
  (.post [] []
   (.block 0
   (.keep [0,1,7,8] []
    (.loop
    (.post [0,1,7,8] []
     (.seq
     (.reg [] [⟨some 9,.cmp .lss (.tmp 8) (.tmp 7),none⟩])
     (.seq
      (.cond (.tmp 9)
      .skip
      (.exit 0))
      (.seq
      (.block 1
       (.seq
       (.reg [] [⟨some 10,.mov (.tmp 8),none⟩,
        ⟨some 5,.mov (.tmp 10),none⟩])
       (.seq
        (.reg [] [⟨some 11,.mov (.tmp 1),none⟩,
         ⟨some 12,.mov (.tmp 0),none⟩,
         ⟨some 13,.mov (.tmp 5),none⟩,
         ⟨some 14,.ixa 2 (.tmp 12) (.tmp 13),none⟩,
         ⟨some 15,.ld true 2 (.tmp 14),none⟩,
         ⟨some 16,.callv (.tmp 11) [(.tmp 15)],none⟩])
        (.cond (.tmp 16)
        (.seq
         (.reg [] [⟨some 17,.mov (.tmp 5),none⟩,
          ⟨some 4,.mov (.tmp 17),none⟩])
         .ret)
        .skip))))
      (.reg [] [⟨some 18,.arith .add .i64 (.tmp 8) (.cst (.d (.int .i64 1))),none⟩,
       ⟨some 8,.mov (.tmp 18),none⟩]))))))))))
  (.seq
  (.reg [] [⟨some 4,.mov (.cst (.d (.int .i64 (-1)))),none⟩])
  .ret)))⟩
def jr148:AFun:=⟨42,1,[.tmp 4],
 (.seq
 (.reg [] [⟨some 4,.mov (.cst (.nils 2)),none⟩])
 (.seq
  (.reg [] [⟨some 8,.mov (.tmp 0),none⟩,
   ⟨some 9,.mov (.tmp 1),none⟩,
   ⟨some 10,.calli 98 [(.tmp 8),(.tmp 9)],none⟩,
   ⟨some 5,.mov (.tmp 10),none⟩])
  (.seq
  (.seq
   (.reg [] [⟨some 11,.mov (.tmp 5),none⟩,
    ⟨some 12,.cmp .eql (.tmp 11) (.cst (.d (.int .i64 (-1)))),none⟩])
   (.cond (.tmp 12)
   (.seq
    (.reg [] [⟨some 13,.mov (.tmp 0),none⟩,
     ⟨some 4,.mov (.tmp 13),none⟩])
    .ret)
   .skip))
  (.seq
   (.seq
   (.reg [] [⟨some 14,.mov (.tmp 5),none⟩,
    ⟨some 15,.arith .add .i64 (.tmp 14) (.cst (.d (.int .i64 1))),none⟩,
    ⟨some 6,.mov (.tmp 15),none⟩])
   (.post [0,5] [0]
    (.block 0
    (.keep [0,1,5,6] []
     (.loop
     (.post [0,1,5,6] [0]
      (.seq
      (.seq
       (.reg [] [⟨some 16,.mov (.tmp 6),none⟩,
        ⟨some 17,.mov (.tmp 0),none⟩,
        ⟨some 18,.len (.tmp 17),none⟩,
        ⟨some 19,.cmp .lss (.tmp 16) (.tmp 18),none⟩])
       (.cond (.tmp 19)
       .skip
       (.exit 0)))
      (.seq
       (.block 1
       (.seq
        (.reg [0] [⟨some 22,.mov (.tmp 0),none⟩,
         ⟨some 23,.mov (.tmp 6),none⟩,
         ⟨some 24,.ixa 2 (.tmp 22) (.tmp 23),none⟩,
         ⟨some 25,.ld true 2 (.tmp 24),none⟩,
         ⟨some 7,.alloc 0 [(.d (.str [])),(.d (.int .i64 0))],none⟩,
         ⟨none,.st 2 (.tmp 7) (.tmp 25),none⟩])
        (.seq
        (.reg [] [⟨some 26,.mov (.tmp 1),none⟩,
         ⟨some 27,.ld true 2 (.tmp 7),none⟩,
         ⟨some 28,.callv (.tmp 26) [(.tmp 27)],none⟩,
         ⟨some 29,.not (.tmp 28),none⟩])
        (.cond (.tmp 29)
         (.seq
         (.reg [] [⟨some 30,.mov (.tmp 0),none⟩,
          ⟨some 31,.mov (.tmp 5),none⟩,
          ⟨some 32,.ld true 2 (.tmp 7),none⟩,
          ⟨some 33,.ixa 2 (.tmp 30) (.tmp 31),none⟩,
          ⟨none,.st 2 (.tmp 33) (.tmp 32),none⟩])
         (.reg [] [⟨some 34,.mov (.tmp 5),none⟩,
          ⟨some 35,.arith .add .i64 (.tmp 34) (.cst (.d (.int .i64 1))),none⟩,
          ⟨some 5,.mov (.tmp 35),none⟩]))
         .skip))))
       (.reg [] [⟨some 20,.mov (.tmp 6),none⟩,
        ⟨some 21,.arith .add .i64 (.tmp 20) (.cst (.d (.int .i64 1))),none⟩,
        ⟨some 6,.mov (.tmp 21),none⟩])))))))))
   (.seq
   (.reg [] [⟨some 36,.mov (.tmp 0),none⟩,
    ⟨some 37,.mov (.tmp 5),none⟩,
    ⟨some 38,.slw 2 (.tmp 36) (some (.tmp 37)) none,none⟩,
    ⟨none,.clrw 2 (.agg [(.str []),(.int .i64 0)]) (.tmp 38),none⟩])
   (.seq
    (.reg [] [⟨some 39,.mov (.tmp 0),none⟩,
     ⟨some 40,.mov (.tmp 5),none⟩,
     ⟨some 41,.slw 2 (.tmp 39) none (some (.tmp 40)),none⟩,
     ⟨some 4,.mov (.tmp 41),none⟩])
    .ret))))))⟩
def jr128:AFun:=⟨17,4,[.tmp 4],
 (.seq
 (.reg [0,1] [⟨some 2,.cbx 0 3 (.tmp 0),none⟩,
  ⟨some 3,.cbx 1 1 (.tmp 1),none⟩,
  ⟨some 4,.mov (.cst (.nils 2)),none⟩])
 (.seq
  (.reg [2] [⟨some 6,.fad 2 (.tmp 2),none⟩,
   ⟨some 7,.ld false 1 (.tmp 6),none⟩,
   ⟨some 8,.len (.tmp 7),none⟩,
   ⟨some 9,.msl 2 113 2 24 (.agg [(.str []),(.int .i64 0)]) (.tmp 8),none⟩,
   ⟨some 5,.mov (.tmp 9),none⟩])
  (.seq
  (.reg [] [⟨some 10,.mov (.tmp 5),none⟩,
   ⟨some 11,.fad 2 (.tmp 2),none⟩,
   ⟨some 12,.ld false 1 (.tmp 11),none⟩,
   ⟨some 13,.copy 2 (.tmp 10) (.tmp 12),none⟩])
  (.seq
   (.reg [] [⟨some 14,.mov (.tmp 5),none⟩,
    ⟨some 15,.mkf (.func 75) [] [(.tmp 3)],none⟩,
    ⟨some 16,.calli 74 [(.tmp 14),(.tmp 15)],none⟩,
    ⟨some 4,.mov (.tmp 16),none⟩])
   .ret))))⟩
theorem c149 (p off:Nm) (t:Int):CallDet Tryz.prog 75 [.d (.agg [.str p,.int .i64 t]),.cp [.str off] 0] [.bool (p==off)]:=by
 refine call_of_vc (x:=jr149) (by kernel_rfl) rfl ?_
 exact rfl
theorem i168 (X Y:List Data) (l:List Od) (off:Nm) (hl:l.length≤1048576):CallIn Tryz.prog 98 [.sl 2 (ods l).length,.d (.fn (.func 75) [.agg [.str off]])] [.cbox X,.cbox Y,.row 113 2 (ods l) false,.none] (.d (.int .i64 (ixO off l 0))) (setAll [.cbox X,.cbox Y,.row 113 2 (ods l) false,.none] []):=by
 have hlen:=ods_len l
 refine callIn_of_vc 3 (x:=jr168) (by kernel_rfl) rfl rfl rfl ?_
 refine sd ?_
 rotate_left
 refine loop_st (fun k:Nat=>⟨[(0,.sl 2 (ods l).length),(1,.d (.fn (.func 75) [.agg [.str off]])),(7,.d (.int .i64 (((ods l).length:Nat):Int))),(8,.d (.int .i64 (k:Nat)))],[.cbox X,.cbox Y,.row 113 2 (ods l) false,.none]⟩) (fun k=>k≤l.length∧ixO off l 0=ixO off (l.drop k) (k:Int)) (fun k=>l.length - k) 0 rfl ⟨Nat.zero_le _,rfl⟩ ?_
 rintro k ⟨hk,hi⟩
 have hk:k≤l.length:=hk
 dsimp only
 by_cases hkn:k < l.length
 ·refine Exists.elim (get_lt l hkn) fun x hx=>?_
  have hx1:=ods_at hx
  have c149_:=c149 x.o off x.t
  rw [drop_at hx,ixO] at hi
  cases e:(x.o==off) with
  | true =>
   rw [e] at hi c149_
   have hi:ixO off l 0=(k:Int):=hi
   rw [hi]
   refine sd ?_
   refine b_lt (fun t1=>?_) (fun t1=>?_)
   refine an ?_ ?_
   refine an ?_ ?_
   exact rfl
   refine an ?_ ?_
   exact rfl
   refine an ?_ ?_
   (show (0:Int)≤(↑k:Int); omega)
   assumption
   refine sd ?_
   refine ca hx1 ?_
   refine ca c149_ ?_
   refine sd ?_
   exact rfl
   (exfalso; omega)
  | false =>
   rw [e] at hi c149_
   have hi:ixO off l 0=ixO off (l.drop (k+1)) ((k:Int)+1):=hi
   have fin:∃ a':Nat,((a'≤l.length∧ixO off l 0=ixO off (l.drop a') (a':Int))∧l.length - a' < l.length - k)∧(⟨[(0,.sl 2 (ods l).length),(1,.d (.fn (.func 75) [.agg [.str off]])),(7,.d (.int .i64 (((ods l).length:Nat):Int))),(8,.d (.int .i64 ((k:Int)+1)))],[.cbox X,.cbox Y,.row 113 2 (ods l) false,.none]⟩:St)=⟨[(0,.sl 2 (ods l).length),(1,.d (.fn (.func 75) [.agg [.str off]])),(7,.d (.int .i64 (((ods l).length:Nat):Int))),(8,.d (.int .i64 (a':Nat)))],[.cbox X,.cbox Y,.row 113 2 (ods l) false,.none]⟩:=⟨k+1,⟨⟨by omega,hi⟩,by omega⟩,rfl⟩
   refine sd ?_
   refine b_lt (fun t1=>?_) (fun t1=>?_)
   refine an ?_ ?_
   refine an ?_ ?_
   exact rfl
   refine an ?_ ?_
   exact rfl
   refine an ?_ ?_
   (show (0:Int)≤(↑k:Int); omega)
   assumption
   refine sd ?_
   refine ca hx1 ?_
   refine ca c149_ ?_
   refine ar_add ?_ ?_
   refine an ?_ ?_
   (show (-9223372036854775808:Int)≤(↑k:Int)+(1:Int); omega)
   (show (↑k:Int)+(1:Int)≤(9223372036854775807:Int); omega)
   rotate_left
   (exfalso; omega)
   all_goals exact fin
 ·have e:k=l.length:=by omega
  subst e
  rw [List.drop_eq_nil_of_le (Nat.le_refl _)] at hi
  have hi:ixO off l 0=-1:=hi
  rw [hi]
  refine sd ?_
  refine b_lt (fun t1=>?_) (fun t1=>?_)
  (exfalso; omega)
  refine sd ?_
  exact rfl
theorem i148n (X Y:List Data) (l:List Od) (off:Nm) (hl:l.length≤1048576) (h:ixO off l 0=-1):CallIn Tryz.prog 74 [.sl 2 (ods l).length,.d (.fn (.func 75) [.agg [.str off]])] [.cbox X,.cbox Y,.row 113 2 (ods l) false,.none] (.sl 2 (ods l).length) (setAll [.cbox X,.cbox Y,.row 113 2 (ods l) false,.none] []):=by
 have c168i_:=i168 X Y l off hl
 rw [h] at c168i_
 refine callIn_of_vc 3 (x:=jr148) (by kernel_rfl) rfl rfl rfl ?_
 refine Exists.intro _ (Exists.intro _ (And.intro (c168i_) ?_))
 refine sd ?_
 refine sd ?_
 exact rfl
structure Dl where
 i:Nat
 j:Nat
 R:List Od
theorem i148s (X Y : List Data) (l : List Od) (off : Nm) (hl : l.length ≤ 1048576) (h : ixO off l 0 ≠ -1) : CallIn Tryz.prog 74 [.sl 2 (ods l).length, .d (.fn (.func 75) [.agg [.str off]])] [.cbox X, .cbox Y, .row 113 2 (ods l) false, .none] (.rv 2 (ods l).length 0 (keepO off l).length)
  (setAll [.cbox X,.cbox Y,.row 113 2 (ods l) false,.none] [(2,.row 113 2 (ods (keepO off l)++List.replicate ((ods l).length - (keepO off l).length) (.agg [.str [],.int .i64 0])) false)]):=by
 obtain ⟨j0,h1,h2,⟨x0,hx0,he0⟩,h4⟩:=ixO_some off l 0 (Int.le_refl _) h
 have h1:ixO off l 0=(j0:Int):=by omega
 have c168i_:=i168 X Y l off hl
 rw [h1] at c168i_
 have hlen:=ods_len l
 have hk0:keepO off (l.take (j0+1))=l.take j0:=by rw [take_one hx0,keepO_snoc,he0]; exact h4
 refine callIn_of_vc 3 (x:=jr148) (by kernel_rfl) rfl rfl rfl ?_
 refine Exists.intro _ (Exists.intro _ (And.intro (c168i_) ?_))
 refine sd ?_
 refine ar_add ?_ ?_
 refine an ?_ ?_
 (show (-9223372036854775808:Int)≤(↑j0:Int)+(1:Int); omega)
 (show (↑j0:Int)+(1:Int)≤(9223372036854775807:Int); omega)
 rotate_left
 rotate_left
 refine loop_st (fun p:Dl=>⟨[(0,.sl 2 (ods l).length),(1,.d (.fn (.func 75) [.agg [.str off]])),(5,.d (.int .i64 (p.i:Nat))),(6,.d (.int .i64 (p.j:Nat)))],[.cbox X,.cbox Y,.row 113 2 (ods p.R) false,.none]⟩) (fun p=>((p.i < p.j∧p.j≤l.length)∧p.R.length=l.length)∧p.R.take p.i=keepO off (l.take p.j)∧p.R.drop p.j=l.drop p.j) (fun p=>l.length - p.j) ⟨j0,j0+1,l⟩ rfl ⟨⟨⟨Nat.lt_succ_self _,h2⟩,rfl⟩,hk0.symm,rfl⟩ ?_
 rintro ⟨i,j,R⟩ ⟨⟨⟨hij,hj⟩,hR⟩,ht,hd⟩
 have hij:i < j:=hij
 have hj:j≤l.length:=hj
 have hR:R.length=l.length:=hR
 have ht:R.take i=keepO off (l.take j):=ht
 have hd:R.drop j=l.drop j:=hd
 have hlR:(ods R).length=(ods l).length:=by rw [ods_len,hlen,hR]
 dsimp only
 by_cases hjn:j < l.length
 ·refine Exists.elim (get_lt l hjn) fun x hx=>?_
  have hxR:R[j]?=some x:=by
   have e1:=drop_at hx
   rw [← hd] at e1
   have:=congrArg (fun q=>q[0]?) e1
   simpa using this
  have hx1:=ods_at hxR
  refine Exists.elim (get_lt R (k:=i) (by omega)) fun y hy=>?_
  have hy1:=ods_at hy
  have c149_:=c149 x.o off x.t
  have ek:=take_one hx
  cases e:(x.o==off) with
  | true =>
   rw [e] at c149_
   have fin:∃ a':Dl,((((a'.i < a'.j∧a'.j≤l.length)∧a'.R.length=l.length)∧a'.R.take a'.i=keepO off (l.take a'.j)∧a'.R.drop a'.j=l.drop a'.j)∧l.length - a'.j < l.length - j)∧(⟨[(0,.sl 2 (ods l).length),(1,.d (.fn (.func 75) [.agg [.str off]])),(5,.d (.int .i64 (i:Int))),(6,.d (.int .i64 ((j:Int)+1)))],[.cbox X,.cbox Y,.row 113 2 (ods R) false,.none]⟩:St)=⟨[(0,.sl 2 (ods l).length),(1,.d (.fn (.func 75) [.agg [.str off]])),(5,.d (.int .i64 (a'.i:Nat))),(6,.d (.int .i64 (a'.j:Nat)))],[.cbox X,.cbox Y,.row 113 2 (ods a'.R) false,.none]⟩ :=
    ⟨⟨i,j+1,R⟩,⟨⟨⟨⟨by show i < j+1; omega,by show j+1≤l.length; omega⟩,hR⟩,by show R.take i=keepO off (l.take (j+1)); rw [ek,keepO_snoc,e,ht]; rfl,by show R.drop (j+1)=l.drop (j+1); rw [← List.drop_drop,← List.drop_drop,hd]⟩,by show l.length - (j+1) < l.length - j; omega⟩,rfl⟩
   refine an ?_ ?_
   assumption
   refine sd ?_
   refine b_lt (fun t1=>?_) (fun t1=>?_)
   refine an ?_ ?_
   refine an ?_ ?_
   exact rfl
   refine an ?_ ?_
   assumption
   refine an ?_ ?_
   (show (0:Int)≤(↑j:Int); omega)
   (show (↑j:Int) < (↑(List.length (ods l)):Int); omega)
   refine an ?_ ?_
   assumption
   refine ca hx1 ?_
   refine ca c149_ ?_
   refine ar_add ?_ ?_
   refine an ?_ ?_
   (show (-9223372036854775808:Int)≤(↑j:Int)+(1:Int); omega)
   (show (↑j:Int)+(1:Int)≤(9223372036854775807:Int); omega)
   rotate_left
   (exfalso; omega)
   all_goals exact fin
  | false =>
   rw [e] at c149_
   have fin:∃ a':Dl,((((a'.i < a'.j∧a'.j≤l.length)∧a'.R.length=l.length)∧a'.R.take a'.i=keepO off (l.take a'.j)∧a'.R.drop a'.j=l.drop a'.j)∧l.length - a'.j < l.length - j)∧(⟨[(0,.sl 2 (ods l).length),(1,.d (.fn (.func 75) [.agg [.str off]])),(5,.d (.int .i64 ((i:Int)+1))),(6,.d (.int .i64 ((j:Int)+1)))],[.cbox X,.cbox Y,.row 113 2 ((ods R).set i (.agg [.str x.o,.int .i64 x.t])) false,.none]⟩:St)=⟨[(0,.sl 2 (ods l).length),(1,.d (.fn (.func 75) [.agg [.str off]])),(5,.d (.int .i64 (a'.i:Nat))),(6,.d (.int .i64 (a'.j:Nat)))],[.cbox X,.cbox Y,.row 113 2 (ods a'.R) false,.none]⟩ :=
    ⟨⟨i+1,j+1,R.set i x⟩,⟨⟨⟨⟨by show i+1 < j+1; omega,by show j+1≤l.length; omega⟩,by show (R.set i x).length=_; rw [List.length_set]; exact hR⟩,by
     show (R.set i x).take (i+1)=keepO off (l.take (j+1))
     rw [ek,keepO_snoc,e,← ht,take_one (show (R.set i x)[i]?=some x by rw [List.getElem?_set_self (by omega)]),List.take_set_of_le (Nat.le_refl _)]; rfl,by
     show (R.set i x).drop (j+1)=l.drop (j+1)
     rw [List.drop_set_of_lt (by omega),← List.drop_drop,← List.drop_drop,hd]⟩,by show l.length - (j+1) < l.length - j; omega⟩,by rw [ods_set]; rfl⟩
   refine an ?_ ?_
   assumption
   refine sd ?_
   refine b_lt (fun t1=>?_) (fun t1=>?_)
   refine an ?_ ?_
   refine an ?_ ?_
   exact rfl
   refine an ?_ ?_
   assumption
   refine an ?_ ?_
   (show (0:Int)≤(↑j:Int); omega)
   (show (↑j:Int) < (↑(List.length (ods l)):Int); omega)
   refine an ?_ ?_
   assumption
   refine ca hx1 ?_
   refine ca c149_ ?_
   refine an ?_ ?_
   refine an ?_ ?_
   exact rfl
   refine an ?_ ?_
   assumption
   refine an ?_ ?_
   (show (0:Int)≤(↑i:Int); omega)
   (show (↑i:Int) < (↑(List.length (ods l)):Int); omega)
   refine Exists.intro _ (Exists.intro (Vc.Data.agg [Data.str (Od.o x),Data.int IntKind.i64 (Od.t x)]) (And.intro (And.intro ?_ (And.intro hy1 (And.intro rfl (And.intro ?_ (And.intro rfl rfl))))) ?_))
   assumption
   (show (0:Nat)+(2:Nat)≤(1:Nat)+(1:Nat); omega)
   refine ar_add ?_ ?_
   refine an ?_ ?_
   (show (-9223372036854775808:Int)≤(↑i:Int)+(1:Int); omega)
   (show (↑i:Int)+(1:Int)≤(9223372036854775807:Int); omega)
   refine ar_add ?_ ?_
   refine an ?_ ?_
   (show (-9223372036854775808:Int)≤(↑j:Int)+(1:Int); omega)
   (show (↑j:Int)+(1:Int)≤(9223372036854775807:Int); omega)
   rotate_left
   (exfalso; omega)
   all_goals exact fin
 ·have e:j=l.length:=by omega
  subst e
  rw [List.take_of_length_le (Nat.le_refl _)] at ht
  have hi:(keepO off l).length=i:=by rw [← ht,List.length_take]; omega
  have et:ods (keepO off l)=(ods R).take i:=by rw [← ht,ods_take]
  rw [et,hi]
  have fin:([.cbox X,.cbox Y,.row 113 2 ((ods R).take i++List.replicate ((ods R).length - i) (.agg [.str [],.int .i64 0])++(ods R).drop (ods R).length) false,.none]:List AObj)=[.cbox X,.cbox Y,.row 113 2 ((ods R).take i++List.replicate ((ods l).length - i) (.agg [.str [],.int .i64 0])) false,.none]:=by rw [List.drop_length,List.append_nil,hlR]
  refine an ?_ ?_
  assumption
  refine sd ?_
  refine b_lt (fun t1=>?_) (fun t1=>?_)
  (exfalso; omega)
  refine an ?_ ?_
  refine an ?_ ?_
  exact rfl
  refine an ?_ ?_
  assumption
  refine an ?_ ?_
  (show (0:Int)≤(↑i:Int); omega)
  refine an ?_ ?_
  (show (↑i:Int)≤(↑(List.length (ods R)):Int); omega)
  refine an ?_ ?_
  (show (↑(List.length (ods R)):Int)≤(↑(List.length (ods R)):Int); omega)
  (show (0:Nat) < List.length (ods R); omega)
  refine an ?_ ?_
  refine an ?_ ?_
  exact rfl
  refine an ?_ ?_
  assumption
  (show i < List.length (ods R); omega)
  refine an ?_ ?_
  refine an ?_ ?_
  exact rfl
  refine an ?_ ?_
  (show List.length (List.take i (ods R)++List.replicate (List.length (ods R) - i) (Data.agg [Data.str [],Data.int IntKind.i64 (0:Int)])++List.drop (List.length (ods R)) (ods R))=List.length (ods l); simp only [List.length_replicate,List.length_set,List.length_append,List.length_take,List.length_drop]; omega)
  refine an ?_ ?_
  (show (0:Int)≤(0:Int); omega)
  refine an ?_ ?_
  (show (0:Int)≤(↑i:Int); omega)
  refine an ?_ ?_
  (show (↑i:Int)≤(↑(List.length (List.take i (ods R)++List.replicate (List.length (ods R) - i) (Data.agg [Data.str [],Data.int IntKind.i64 (0:Int)])++List.drop (List.length (ods R)) (ods R))):Int); simp only [List.length_replicate,List.length_set,List.length_append,List.length_take,List.length_drop]; omega)
  (show (0:Nat) < List.length (List.take i (ods R)++List.replicate (List.length (ods R) - i) (Data.agg [Data.str [],Data.int IntKind.i64 (0:Int)])++List.drop (List.length (ods R)) (ods R)); simp only [List.length_replicate,List.length_set,List.length_append,List.length_take,List.length_drop]; omega)
  refine sd ?_
  assumption
  all_goals exact fin
theorem copy_all (es:List Data) (z:Data):List.take es.length es++List.drop es.length (List.replicate es.length z)=es:=by simp
theorem c128n (b1 b2:Bool) (l:List Od) (off:Nm) (hl:l.length≤1048576) (h:ixO off l 0=-1):CallRow Tryz.prog 39 [.d (.agg [.bool b1,.bool b2,.slice 2 (ods l)]),.d (.str off)] 113 2 (ods (keepO off l)):=by
 have hlen:=ods_len l
 have c148i_:=i148n [.bool b1,.bool b2,.slice 2 (ods l)] [.str off] l off hl h
 have c148i_:CallIn Tryz.prog 74 [.sl 2 (ods l).length,.d (.fn (.func 75) [.agg [.str off]])] [.cbox [.bool b1,.bool b2,.slice 2 (ods l)],.cbox [.str off],.row 113 2 (List.take (ods l).length (ods l)++List.drop (ods l).length (List.replicate (ods l).length (.agg [.str [],.int .i64 0]))) false,.none] (.sl 2 (ods l).length) (setAll [.cbox [.bool b1,.bool b2,.slice 2 (ods l)],.cbox [.str off],.row 113 2 (List.take (ods l).length (ods l)++List.drop (ods l).length (List.replicate (ods l).length (.agg [.str [],.int .i64 0]))) false,.none] [(2,.row 113 2 (ods l) false)]):=by
  rw [copy_all]; exact c148i_
 rw [ixO_none off l 0 (Int.le_refl _) h]
 refine callRow_of_vc (x:=jr128) (by kernel_rfl) rfl ?_
 refine an ?_ ?_
 refine an ?_ ?_
 (show (0:Int)≤(↑(List.length (ods l)):Int); omega)
 refine an ?_ ?_
 (show (↑(List.length (ods l)):Int) * (↑(24:Nat):Int)≤(2:Int) ^ (47:Nat); omega)
 (show (↑(List.length (ods l)):Int)≤(2:Int) ^ (47:Nat); omega)
 refine ca (And.intro rfl (And.intro rfl (And.intro ?_ rfl))) ?_
 focus (show List.length (List.replicate (List.length (ods l)) (Data.agg [Data.str [],Data.int IntKind.i64 (0:Int)]))=List.length (ods l); simp only [List.length_replicate,List.length_set,List.length_append,List.length_take,List.length_drop]; done)
 refine Exists.intro _ (Exists.intro _ (And.intro (c148i_) ?_))
 rotate_left
 exact .inl ⟨2,⟨rfl,rfl⟩,rfl⟩
theorem c128s (b1 b2:Bool) (l:List Od) (off:Nm) (hl:l.length≤1048576) (h:ixO off l 0≠-1):CallRow Tryz.prog 39 [.d (.agg [.bool b1,.bool b2,.slice 2 (ods l)]),.d (.str off)] 113 2 (ods (keepO off l)):=by
 have hlen:=ods_len l
 have c148i_:=i148s [.bool b1,.bool b2,.slice 2 (ods l)] [.str off] l off hl h
 have c148i_:CallIn Tryz.prog 74 [.sl 2 (ods l).length,.d (.fn (.func 75) [.agg [.str off]])] [.cbox [.bool b1,.bool b2,.slice 2 (ods l)],.cbox [.str off],.row 113 2 (List.take (ods l).length (ods l)++List.drop (ods l).length (List.replicate (ods l).length (.agg [.str [],.int .i64 0]))) false,.none] (.rv 2 (ods l).length 0 (keepO off l).length) (setAll [.cbox [.bool b1,.bool b2,.slice 2 (ods l)],.cbox [.str off],.row 113 2 (List.take (ods l).length (ods l)++List.drop (ods l).length (List.replicate (ods l).length (.agg [.str [],.int .i64 0]))) false,.none] [(2,.row 113 2 (ods (keepO off l)++List.replicate ((ods l).length - (keepO off l).length) (.agg [.str [],.int .i64 0])) false)]):=by
  rw [copy_all]; exact c148i_
 have hkl:(ods (keepO off l)).length=(keepO off l).length:=ods_len _
 have hkle:=keepO_le off l
 have h0:0 < l.length:=by
  obtain ⟨j,_,h2,_⟩:=ixO_some off l 0 (Int.le_refl _) h
  omega
 refine callRow_win (x:=jr128) (by kernel_rfl) rfl ?_
 refine an ?_ ?_
 refine an ?_ ?_
 (show (0:Int)≤(↑(List.length (ods l)):Int); omega)
 refine an ?_ ?_
 (show (↑(List.length (ods l)):Int) * (↑(24:Nat):Int)≤(2:Int) ^ (47:Nat); omega)
 (show (↑(List.length (ods l)):Int)≤(2:Int) ^ (47:Nat); omega)
 refine ca (And.intro rfl (And.intro rfl (And.intro ?_ rfl))) ?_
 focus (show List.length (List.replicate (List.length (ods l)) (Data.agg [Data.str [],Data.int IntKind.i64 (0:Int)]))=List.length (ods l); simp only [List.length_replicate,List.length_set,List.length_append,List.length_take,List.length_drop]; done)
 refine Exists.intro _ (Exists.intro _ (And.intro (c148i_) ?_))
 rotate_left
 refine ⟨2,(ods l).length,(keepO off l).length,ods (keepO off l)++List.replicate ((ods l).length - (keepO off l).length) (.agg [.str [],.int .i64 0]),⟨rfl,rfl⟩,rfl,?_,by omega,by omega,?_⟩
 ·rw [List.length_append,List.length_replicate,hkl]; omega
 ·rw [← hkl,List.take_left]
theorem c128r (b1 b2:Bool) (l:List Od) (off:Nm) (hl:l.length≤1048576):CallRow Tryz.prog 39 [.d (.agg [.bool b1,.bool b2,.slice 2 (ods l)]),.d (.str off)] 113 2 (ods (keepO off l)):=by
 by_cases h:ixO off l 0=-1
 ·exact c128n b1 b2 l off hl h
 ·exact c128s b1 b2 l off hl h
end Vc.L
namespace Vc.L
open Go
structure Hr where
 d0:Bool
 d1:Bool
 d2:Bool
 d3:Bool
 d4:Bool
 d5:Bool
 d6:Bool
 f:Int
 t:Int
def Hr.day (h:Hr):Nat→Bool
 | 0=>h.d0
 | 1=>h.d1
 | 2=>h.d2
 | 3=>h.d3
 | 4=>h.d4
 | 5=>h.d5
 | 6=>h.d6
 | _=>false
def pr (h:Hr) (t:Int):Bool:=h.day (t / 86400 % 7).toNat&&(decide (h.f≤t % 86400)&&decide (t % 86400 < h.t))
def prL:List Hr→Int→Bool
 | [],_=>false
 | h::r,t=>bif pr h t then true else prL r t
def nx (t:Int):List Hr→Int→Int
 | [],a=>a
 | h::r,a=>nx t r (bif pr h t then max a (t / 86400 * 86400+h.t) else a)
def nxR (t:Int):List Hr→Int→Int
 | [],a=>a
 | h::r,a=>nxR t r (bif h.day (t / 86400 % 7).toNat&&(decide (h.f≤t % 86400)&&decide (a < t / 86400 * 86400+h.t)) then t / 86400 * 86400+h.t else a)
def Hr.ok (h:Hr):Prop:=0≤h.f∧h.f < h.t∧h.t≤86400
theorem pr_iff {h:Hr} {t:Int}:pr h t=true↔h.day (t / 86400 % 7).toNat=true∧h.f≤t % 86400∧t % 86400 < h.t:=by simp [pr]
theorem prL_iff {t:Int}:∀ {l:List Hr},prL l t=true↔∃ h∈l,pr h t=true
 | []=>by simp [prL]
 | h::r=>by
  rw [prL]
  cases e:pr h t with
  | true=>simp [e]
  | false =>
   show prL r t=true↔_
   rw [prL_iff (l:=r)]
   simp [e]
theorem nx_spec (t:Int):∀ (l:List Hr) (a:Int),a≤nx t l a∧(∀ h∈l,pr h t=true→t / 86400 * 86400+h.t≤nx t l a)∧(nx t l a=a∨∃ h∈l,pr h t=true∧nx t l a=t / 86400 * 86400+h.t)
 | [],a=>⟨Int.le_refl _,by simp,.inl rfl⟩
 | h::r,a=>by
  rw [nx]
  cases e:pr h t with
  | false =>
   obtain ⟨h1,h2,h3⟩:=nx_spec t r a
   refine ⟨h1,fun x hx hp=>?_,h3.imp id fun ⟨x,hx,hh⟩=>⟨x,List.mem_cons_of_mem _ hx,hh⟩⟩
   rcases List.mem_cons.1 hx with rfl | hx
   ·rw [e] at hp; cases hp
   ·exact h2 x hx hp
  | true =>
   obtain ⟨h1,h2,h3⟩:=nx_spec t r (max a (t / 86400 * 86400+h.t))
   simp only [cond_true]
   refine ⟨by omega,fun x hx hp=>?_,?_⟩
   ·rcases List.mem_cons.1 hx with rfl | hx
    ·omega
    ·exact h2 x hx hp
   ·rcases h3 with h3 | ⟨x,hx,hh⟩
    ·by_cases ha:t / 86400 * 86400+h.t≤a
     ·left; omega
     ·right; exact ⟨h,List.mem_cons_self,e,by omega⟩
    ·exact .inr ⟨x,List.mem_cons_of_mem _ hx,hh⟩
theorem nxR_spec (t:Int):∀ (l:List Hr) (a:Int),a≤nxR t l a∧(∀ h∈l,h.day (t / 86400 % 7).toNat=true→h.f≤t % 86400→t / 86400 * 86400+h.t≤nxR t l a)∧(nxR t l a=a∨∃ h∈l,h.day (t / 86400 % 7).toNat=true∧h.f≤t % 86400∧nxR t l a=t / 86400 * 86400+h.t∧a < nxR t l a)
 | [],a=>⟨Int.le_refl _,by simp,.inl rfl⟩
 | h::r,a=>by
  rw [nxR]
  cases e:(h.day (t / 86400 % 7).toNat&&(decide (h.f≤t % 86400)&&decide (a < t / 86400 * 86400+h.t))) with
  | false =>
   obtain ⟨h1,h2,h3⟩:=nxR_spec t r a
   refine ⟨h1,fun x hx hd hf=>?_,h3.imp id fun ⟨x,hx,hh⟩=>⟨x,List.mem_cons_of_mem _ hx,hh⟩⟩
   rcases List.mem_cons.1 hx with rfl | hx
   ·simp [hd,hf] at e
    simp only [cond_false]; omega
   ·exact h2 x hx hd hf
  | true =>
   obtain ⟨h1,h2,h3⟩:=nxR_spec t r (t / 86400 * 86400+h.t)
   simp at e
   simp only [cond_true]
   refine ⟨by omega,fun x hx hd hf=>?_,?_⟩
   ·rcases List.mem_cons.1 hx with rfl | hx
    ·omega
    ·exact h2 x hx hd hf
   ·rcases h3 with h3 | ⟨x,hx,hh⟩
    ·exact .inr ⟨h,List.mem_cons_self,e.1,e.2.1,h3,by omega⟩
    ·exact .inr ⟨x,List.mem_cons_of_mem _ hx,hh.1,hh.2.1,hh.2.2.1,by omega⟩
theorem nx_R {l:List Hr} {t:Int} (hp:prL l t=true):nxR t l (t+1)=nx t l t:=by
 obtain ⟨h,hm,hh⟩:=prL_iff.1 hp
 obtain ⟨a1,a2,a3⟩:=nx_spec t l t
 obtain ⟨b1,b2,b3⟩:=nxR_spec t l (t+1)
 have h1:=a2 h hm hh
 have h2:=(pr_iff.1 hh)
 have hd:t / 86400 * 86400+t % 86400=t:=by omega
 apply Int.le_antisymm
 ·rcases b3 with b3 | ⟨x,hx,k1,k2,k3,k4⟩
  ·omega
  ·have:=a2 x hx (pr_iff.2 ⟨k1,k2,by omega⟩)
   omega
 ·rcases a3 with a3 | ⟨x,hx,k1,k2⟩
  ·omega
  ·have k:=pr_iff.1 k1
   have:=b2 x hx k.1 k.2.1
   omega
def fr (l:List Hr) (t:Int):Nat→Int
 | 0=>-1
 | n+1=>bif prL l t then fr l (t+1) n else t
end Vc.L
set_option maxRecDepth 10000
set_option maxHeartbeats 4000000
namespace Vc.L
open Go Go.Proofs
structure Ky where
 a:Int
 b:Int
 c:Int
 d:Int
 e:Int
 f:Int
 g:Int
 h:Int
structure Ac where
 b:Int
 d:Int
 s:Int
 e:Int
 k:Ky
 n:Ky
 c:Bool
 u:List Int
def jr93:AFun:=⟨15,3,[.cell 2 22 true],
 (.seq
 (.reg [0,1] [⟨some 1,.box 0 22 (.tmp 0),none⟩,
  ⟨some 2,.alloc 1 [(.d (.int .i64 0)),(.d (.int .i64 0)),(.d (.int .i64 0)),(.d (.int .i64 0)),(.d (.int .u8 0)),(.d (.int .u8 0)),(.d (.int .u8 0)),(.d (.int .u8 0)),(.d (.int .u8 0)),(.d (.int .u8 0)),(.d (.int .u8 0)),(.d (.int .u8 0)),(.d (.int .u8 0)),(.d (.int .u8 0)),(.d (.int .u8 0)),(.d (.int .u8 0)),(.d (.int .u8 0)),(.d (.int .u8 0)),(.d (.int .u8 0)),(.d (.int .u8 0)),(.d (.bool false)),(.nils 1)],none⟩])
 (.seq
  (.reg [2] [⟨some 4,.fad 21 (.tmp 1),none⟩,
   ⟨some 5,.ld false 1 (.tmp 4),none⟩,
   ⟨some 6,.len (.tmp 5),none⟩,
   ⟨some 7,.msl 2 3 1 8 (.int .i64 0) (.tmp 6),none⟩,
   ⟨some 3,.mov (.tmp 7),none⟩])
  (.seq
  (.reg [] [⟨some 8,.mov (.tmp 3),none⟩,
   ⟨some 9,.fad 21 (.tmp 1),none⟩,
   ⟨some 10,.ld false 1 (.tmp 9),none⟩,
   ⟨some 11,.copy 1 (.tmp 8) (.tmp 10),none⟩])
  (.seq
   (.reg [] [⟨some 12,.mov (.tmp 3),none⟩,
    ⟨some 13,.fad 21 (.tmp 1),none⟩,
    ⟨none,.st 1 (.tmp 13) (.tmp 12),none⟩])
   (.seq
   (.reg [] [⟨some 14,.ld true 22 (.tmp 1),none⟩,
    ⟨none,.st 22 (.tmp 2) (.tmp 14),none⟩])
   .ret)))))⟩
theorem c93 (a:Ac) (c:Bool) (hl:a.u.length≤1048576):CallDet Tryz.prog 61 [.d (.agg [.int .i64 (a.b),.int .i64 (a.d),.int .i64 a.s,.int .i64 a.e,.int .u8 a.k.a,.int .u8 a.k.b,.int .u8 a.k.c,.int .u8 a.k.d,.int .u8 a.k.e,.int .u8 a.k.f,.int .u8 a.k.g,.int .u8 a.k.h,.int .u8 a.n.a,.int .u8 a.n.b,.int .u8 a.n.c,.int .u8 a.n.d,.int .u8 a.n.e,.int .u8 a.n.f,.int .u8 a.n.g,.int .u8 a.n.h,.bool c,.slice 1 (ints a.u)])] [.agg [.int .i64 (a.b),.int .i64 (a.d),.int .i64 a.s,.int .i64 a.e,.int .u8 a.k.a,.int .u8 a.k.b,.int .u8 a.k.c,.int .u8 a.k.d,.int .u8 a.k.e,.int .u8 a.k.f,.int .u8 a.k.g,.int .u8 a.k.h,.int .u8 a.n.a,.int .u8 a.n.b,.int .u8 a.n.c,.int .u8 a.n.d,.int .u8 a.n.e,.int .u8 a.n.f,.int .u8 a.n.g,.int .u8 a.n.h,.bool c,.slice 1 (ints a.u)]]:=by
 have hlen:(ints a.u).length=a.u.length:=List.length_map _
 have e:=copy_all (ints a.u) (.int .i64 0)
 have fin:resV [.agg [.int .i64 (a.b),.int .i64 (a.d),.int .i64 a.s,.int .i64 a.e,.int .u8 a.k.a,.int .u8 a.k.b,.int .u8 a.k.c,.int .u8 a.k.d,.int .u8 a.k.e,.int .u8 a.k.f,.int .u8 a.k.g,.int .u8 a.k.h,.int .u8 a.n.a,.int .u8 a.n.b,.int .u8 a.n.c,.int .u8 a.n.d,.int .u8 a.n.e,.int .u8 a.n.f,.int .u8 a.n.g,.int .u8 a.n.h,.bool c,.slice 1 (List.take (ints a.u).length (ints a.u)++List.drop (ints a.u).length (List.replicate (ints a.u).length (.int .i64 0)))]]=resV [.agg [.int .i64 (a.b),.int .i64 (a.d),.int .i64 a.s,.int .i64 a.e,.int .u8 a.k.a,.int .u8 a.k.b,.int .u8 a.k.c,.int .u8 a.k.d,.int .u8 a.k.e,.int .u8 a.k.f,.int .u8 a.k.g,.int .u8 a.k.h,.int .u8 a.n.a,.int .u8 a.n.b,.int .u8 a.n.c,.int .u8 a.n.d,.int .u8 a.n.e,.int .u8 a.n.f,.int .u8 a.n.g,.int .u8 a.n.h,.bool c,.slice 1 (ints a.u)]]:=by rw [e]
 refine call_of_vc (x:=jr93) (by kernel_rfl) rfl ?_
 refine an ?_ ?_
 refine an ?_ ?_
 (show (0:Int)≤(↑(List.length (ints (Ac.u a))):Int); omega)
 refine an ?_ ?_
 (show (↑(List.length (ints (Ac.u a))):Int) * (↑(8:Nat):Int)≤(2:Int) ^ (47:Nat); omega)
 (show (↑(List.length (ints (Ac.u a))):Int)≤(2:Int) ^ (47:Nat); omega)
 refine ca (And.intro rfl (And.intro rfl (And.intro ?_ rfl))) ?_
 focus (show List.length (List.replicate (List.length (ints (Ac.u a))) (Data.int IntKind.i64 (0:Int)))=List.length (ints (Ac.u a)); simp only [List.length_replicate,List.length_set,List.length_append,List.length_take,List.length_drop]; done)
 refine an ?_ ?_
 (show List.length (List.take (List.length (ints (Ac.u a))) (ints (Ac.u a))++List.drop (List.length (ints (Ac.u a))) (List.replicate (List.length (ints (Ac.u a))) (Data.int IntKind.i64 (0:Int))))=List.length (ints (Ac.u a)); simp only [List.length_replicate,List.length_set,List.length_append,List.length_take,List.length_drop]; omega)
 refine an ?_ ?_
 (show List.length (List.take (List.length (ints (Ac.u a))) (ints (Ac.u a))++List.drop (List.length (ints (Ac.u a))) (List.replicate (List.length (ints (Ac.u a))) (Data.int IntKind.i64 (0:Int))))=List.length (ints (Ac.u a)); simp only [List.length_replicate,List.length_set,List.length_append,List.length_take,List.length_drop]; omega)
 assumption
theorem bne_t {x:Int} (h:¬ x=0):(x != 0)=true:=by simpa using h
structure Kl where
 k:Nat
 l:Int
end Vc.L
set_option maxRecDepth 10000
set_option maxHeartbeats 4000000
namespace Vc.L
open Go Go.Proofs
def jr14:AFun:=⟨19,1,[.tmp 2],
 (.seq
 (.reg [0] [⟨some 1,.cbx 0 22 (.tmp 0),none⟩,
  ⟨some 2,.mov (.cst (.d (.bool false))),none⟩])
 (.seq
  (.reg [] [⟨some 3,.fad 21 (.tmp 1),none⟩,
   ⟨some 4,.ld false 1 (.tmp 3),none⟩,
   ⟨some 5,.len (.tmp 4),none⟩,
   ⟨some 6,.cmp .leq (.tmp 5) (.cst (.d (.int .i64 12))),none⟩,
   ⟨some 7,.mov (.tmp 6),none⟩,
   ⟨some 8,.fad 21 (.tmp 1),some (7,false)⟩,
   ⟨some 9,.ld false 1 (.tmp 8),some (7,false)⟩,
   ⟨some 10,.len (.tmp 9),some (7,false)⟩,
   ⟨some 11,.cmp .eql (.tmp 10) (.cst (.d (.int .i64 256))),some (7,false)⟩,
   ⟨some 12,.pick (.tmp 7) (.cst (.d (.bool true))) (.tmp 11),none⟩,
   ⟨some 13,.mov (.tmp 12),none⟩,
   ⟨some 14,.fad 21 (.tmp 1),some (13,false)⟩,
   ⟨some 15,.ld false 1 (.tmp 14),some (13,false)⟩,
   ⟨some 16,.len (.tmp 15),some (13,false)⟩,
   ⟨some 17,.cmp .eql (.tmp 16) (.cst (.d (.int .i64 257))),some (13,false)⟩,
   ⟨some 18,.pick (.tmp 13) (.cst (.d (.bool true))) (.tmp 17),none⟩,
   ⟨some 2,.mov (.tmp 18),none⟩])
  .ret))⟩
theorem resC {x y:Int} (h:y=x):resV [.int .i64 x]=resV [.int .i64 y]:=by rw [h]
end Vc.L
set_option maxRecDepth 10000
set_option maxHeartbeats 4000000
namespace Vc.L
open Go Go.Proofs
end Vc.L
