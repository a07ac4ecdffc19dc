import Derived.Test.YtmjbifmndhianaaGreatDoorG09
import Derived.Test.YtmjbifmndhianaaGreatDoorG10
set_option linter.unusedSectionVars false
set_option linter.unusedVariables false
set_option linter.unusedSimpArgs false
set_option maxRecDepth 10000
set_option maxHeartbeats 4000000
namespace Vc
open Go Go.Proofs
theorem get_lt {α:Type} (l:List α) {k:Nat} (h:k < l.length):∃ x,l[k]?=some x:=⟨_,List.getElem?_eq_getElem h⟩
abbrev Nm:=List UInt8
structure Od where
 o:Nm
 t:Int
def od (x:Od):Data:=.agg [.str x.o,.int .i64 x.t]
def ods (l:List Od):List Data:=l.map od
theorem ods_len (l:List Od):(ods l).length=l.length:=List.length_map _
theorem ods_at {l:List Od} {k:Nat} {x:Od} (h:l[k]?=some x):(ods l)[((k:Int)).toNat]?=some (.agg [.str x.o,.int .i64 x.t]):=by
 show (l.map _)[k]?=_
 rw [List.getElem?_map,h]; rfl
theorem ods_set (l:List Od) (i:Nat) (x:Od):ods (l.set i x)=(ods l).set i (od x):=List.map_set
theorem ods_take (l:List Od) (i:Nat):ods (l.take i)=(ods l).take i:=List.map_take
def ixO (off:Nm):List Od→Int→Int
 | [],_=>-1
 | x::r,k=>bif (x.o==off) then k else ixO off r (k+1)
def keepO (off:Nm) (l:List Od):List Od:=l.filter fun x=>!(x.o==off)
theorem keepO_snoc (off:Nm) (l:List Od) (x:Od):keepO off (l++[x])=bif (x.o==off) then keepO off l else keepO off l++[x]:=by
 unfold keepO
 rw [List.filter_append]
 cases e:(x.o==off) <;> simp [e]
theorem keepO_le (off:Nm) (l:List Od):(keepO off l).length≤l.length:=List.length_filter_le _ _
theorem ixO_none (off:Nm):∀ (l:List Od) (k:Int),0≤k→ixO off l k=-1→keepO off l=l
 | [],_,_,_=>rfl
 | x::r,k,h0,h=>by
  rw [ixO] at h
  cases e:(x.o==off) with
  | true=>rw [e] at h; have h:k=-1:=h; omega
  | false =>
   rw [e] at h
   have:=ixO_none off r (k+1) (by omega) h
   unfold keepO at this ⊢
   rw [List.filter_cons_of_pos (by simp [e]),this]
theorem ixO_some (off:Nm):∀ (l:List Od) (k:Int),0≤k→ixO off l k≠-1→∃ j:Nat,ixO off l k=k+j∧j < l.length∧(∃ x,l[j]?=some x∧(x.o==off)=true)∧keepO off (l.take j)=l.take j
 | [],_,_,h=>absurd rfl h
 | x::r,k,h0,h=>by
  rw [ixO] at h ⊢
  cases e:(x.o==off) with
  | true=>exact ⟨0,by simp,by simp,⟨x,rfl,e⟩,rfl⟩
  | false =>
   rw [e] at h
   obtain ⟨j,h1,h2,h3,h4⟩:=ixO_some off r (k+1) (by omega) h
   refine ⟨j+1,?_,by simp; omega,by simpa using h3,?_⟩
   ·show ixO off r (k+1)=_
    rw [h1]; omega
   ·unfold keepO at h4 ⊢
    rw [List.take_succ_cons,List.filter_cons_of_pos (by simp [e]),h4]
def jr149:AFun:=⟨8,1,[.tmp 3],
 (.seq
 (.reg [0] [⟨some 2,.cbx 0 2 (.tmp 0),none⟩,
  ⟨some 3,.mov (.cst (.d (.bool false))),none⟩])
 (.seq
  (.reg [] [⟨some 4,.fad 0 (.tmp 2),none⟩,
   ⟨some 5,.ld false 1 (.tmp 4),none⟩,
   ⟨some 6,.ld false 1 (.tmp 1),none⟩,
   ⟨some 7,.seq false (.tmp 5) (.tmp 6),none⟩,
   ⟨some 3,.mov (.tmp 7),none⟩])
  .ret))⟩
def jr168:AFun:=⟨19,0,[.tmp 4],
 (.seq
 (.reg [] [⟨some 4,.mov (.cst (.d (.int .i64 0))),none⟩])
 (.seq
  (.seq
  (.reg [] [⟨some 6,.mov (.tmp 0),none⟩,
   ⟨some 7,.len (.tmp 6),none⟩,
   ⟨some 8,.mov (.cst (.d (.int .i64 0))),none⟩])
  (.post [] []
   (.block 0
   (.keep [0,1,7,8] []
    (.loop
    (.post [0,1,7,8] []
     (.seq
     (.reg [] [⟨some 9,.cmp .lss (.tmp 8) (.tmp 7),none⟩])
     (.seq
      (.cond (.tmp 9)
      .skip
      (.exit 0))
      (.seq
      (.block 1
       (.seq
       (.reg [] [⟨some 10,.mov (.tmp 8),none⟩,
        ⟨some 5,.mov (.tmp 10),none⟩])
       (.seq
        (.reg [] [⟨some 11,.mov (.tmp 1),none⟩,
         ⟨some 12,.mov (.tmp 0),none⟩,
         ⟨some 13,.mov (.tmp 5),none⟩,
         ⟨some 14,.ixa 2 (.tmp 12) (.tmp 13),none⟩,
         ⟨some 15,.ld true 2 (.tmp 14),none⟩,
         ⟨some 16,.callv (.tmp 11) [(.tmp 15)],none⟩])
        (.cond (.tmp 16)
        (.seq
         (.reg [] [⟨some 17,.mov (.tmp 5),none⟩,
          ⟨some 4,.mov (.tmp 17),none⟩])
         .ret)
        .skip))))
      (.reg [] [⟨some 18,.arith .add .i64 (.tmp 8) (.cst (.d (.int .i64 1))),none⟩,
       ⟨some 8,.mov (.tmp 18),none⟩]))))))))))
  (.seq
  (.reg [] [⟨some 4,.mov (.cst (.d (.int .i64 (-1)))),none⟩])
  .ret)))⟩
def jr148:AFun:=⟨42,1,[.tmp 4],
 (.seq
 (.reg [] [⟨some 4,.mov (.cst (.nils 2)),none⟩])
 (.seq
  (.reg [] [⟨some 8,.mov (.tmp 0),none⟩,
   ⟨some 9,.mov (.tmp 1),none⟩,
   ⟨some 10,.calli 168 [(.tmp 8),(.tmp 9)],none⟩,
   ⟨some 5,.mov (.tmp 10),none⟩])
  (.seq
  (.seq
   (.reg [] [⟨some 11,.mov (.tmp 5),none⟩,
    ⟨some 12,.cmp .eql (.tmp 11) (.cst (.d (.int .i64 (-1)))),none⟩])
   (.cond (.tmp 12)
   (.seq
    (.reg [] [⟨some 13,.mov (.tmp 0),none⟩,
     ⟨some 4,.mov (.tmp 13),none⟩])
    .ret)
   .skip))
  (.seq
   (.seq
   (.reg [] [⟨some 14,.mov (.tmp 5),none⟩,
    ⟨some 15,.arith .add .i64 (.tmp 14) (.cst (.d (.int .i64 1))),none⟩,
    ⟨some 6,.mov (.tmp 15),none⟩])
   (.post [0,5] [0]
    (.block 0
    (.keep [0,1,5,6] []
     (.loop
     (.post [0,1,5,6] [0]
      (.seq
      (.seq
       (.reg [] [⟨some 16,.mov (.tmp 6),none⟩,
        ⟨some 17,.mov (.tmp 0),none⟩,
        ⟨some 18,.len (.tmp 17),none⟩,
        ⟨some 19,.cmp .lss (.tmp 16) (.tmp 18),none⟩])
       (.cond (.tmp 19)
       .skip
       (.exit 0)))
      (.seq
       (.block 1
       (.seq
        (.reg [0] [⟨some 22,.mov (.tmp 0),none⟩,
         ⟨some 23,.mov (.tmp 6),none⟩,
         ⟨some 24,.ixa 2 (.tmp 22) (.tmp 23),none⟩,
         ⟨some 25,.ld true 2 (.tmp 24),none⟩,
         ⟨some 7,.alloc 0 [(.d (.str [])),(.d (.int .i64 0))],none⟩,
         ⟨none,.st 2 (.tmp 7) (.tmp 25),none⟩])
        (.seq
        (.reg [] [⟨some 26,.mov (.tmp 1),none⟩,
         ⟨some 27,.ld true 2 (.tmp 7),none⟩,
         ⟨some 28,.callv (.tmp 26) [(.tmp 27)],none⟩,
         ⟨some 29,.not (.tmp 28),none⟩])
        (.cond (.tmp 29)
         (.seq
         (.reg [] [⟨some 30,.mov (.tmp 0),none⟩,
          ⟨some 31,.mov (.tmp 5),none⟩,
          ⟨some 32,.ld true 2 (.tmp 7),none⟩,
          ⟨some 33,.ixa 2 (.tmp 30) (.tmp 31),none⟩,
          ⟨none,.st 2 (.tmp 33) (.tmp 32),none⟩])
         (.reg [] [⟨some 34,.mov (.tmp 5),none⟩,
          ⟨some 35,.arith .add .i64 (.tmp 34) (.cst (.d (.int .i64 1))),none⟩,
          ⟨some 5,.mov (.tmp 35),none⟩]))
         .skip))))
       (.reg [] [⟨some 20,.mov (.tmp 6),none⟩,
        ⟨some 21,.arith .add .i64 (.tmp 20) (.cst (.d (.int .i64 1))),none⟩,
        ⟨some 6,.mov (.tmp 21),none⟩])))))))))
   (.seq
   (.reg [] [⟨some 36,.mov (.tmp 0),none⟩,
    ⟨some 37,.mov (.tmp 5),none⟩,
    ⟨some 38,.slw 2 (.tmp 36) (some (.tmp 37)) none,none⟩,
    ⟨none,.clrw 2 (.agg [(.str []),(.int .i64 0)]) (.tmp 38),none⟩])
   (.seq
    (.reg [] [⟨some 39,.mov (.tmp 0),none⟩,
     ⟨some 40,.mov (.tmp 5),none⟩,
     ⟨some 41,.slw 2 (.tmp 39) none (some (.tmp 40)),none⟩,
     ⟨some 4,.mov (.tmp 41),none⟩])
    .ret))))))⟩
def jr128:AFun:=⟨17,4,[.tmp 4],
 (.seq
 (.reg [0,1] [⟨some 2,.cbx 0 3 (.tmp 0),none⟩,
  ⟨some 3,.cbx 1 1 (.tmp 1),none⟩,
  ⟨some 4,.mov (.cst (.nils 2)),none⟩])
 (.seq
  (.reg [2] [⟨some 6,.fad 2 (.tmp 2),none⟩,
   ⟨some 7,.ld false 1 (.tmp 6),none⟩,
   ⟨some 8,.len (.tmp 7),none⟩,
   ⟨some 9,.msl 2 156 2 24 (.agg [(.str []),(.int .i64 0)]) (.tmp 8),none⟩,
   ⟨some 5,.mov (.tmp 9),none⟩])
  (.seq
  (.reg [] [⟨some 10,.mov (.tmp 5),none⟩,
   ⟨some 11,.fad 2 (.tmp 2),none⟩,
   ⟨some 12,.ld false 1 (.tmp 11),none⟩,
   ⟨some 13,.copy 2 (.tmp 10) (.tmp 12),none⟩])
  (.seq
   (.reg [] [⟨some 14,.mov (.tmp 5),none⟩,
    ⟨some 15,.mkf (.func 149) [] [(.tmp 3)],none⟩,
    ⟨some 16,.calli 148 [(.tmp 14),(.tmp 15)],none⟩,
    ⟨some 4,.mov (.tmp 16),none⟩])
   .ret))))⟩
theorem c149 (p off:Nm) (t:Int):CallDet Tryz.prog 149 [.d (.agg [.str p,.int .i64 t]),.cp [.str off] 0] [.bool (p==off)]:=by
 refine call_of_vc (x:=jr149) (by kernel_rfl) rfl ?_
 exact rfl
theorem i168 (X Y:List Data) (l:List Od) (off:Nm) (hl:l.length≤1048576):CallIn Tryz.prog 168 [.sl 2 (ods l).length,.d (.fn (.func 149) [.agg [.str off]])] [.cbox X,.cbox Y,.row 156 2 (ods l) false,.none] (.d (.int .i64 (ixO off l 0))) (setAll [.cbox X,.cbox Y,.row 156 2 (ods l) false,.none] []):=by
 have hlen:=ods_len l
 refine callIn_of_vc 3 (x:=jr168) (by kernel_rfl) rfl rfl rfl ?_
 refine sd ?_
 rotate_left
 refine loop_st (fun k:Nat=>⟨[(0,.sl 2 (ods l).length),(1,.d (.fn (.func 149) [.agg [.str off]])),(7,.d (.int .i64 (((ods l).length:Nat):Int))),(8,.d (.int .i64 (k:Nat)))],[.cbox X,.cbox Y,.row 156 2 (ods l) false,.none]⟩) (fun k=>k≤l.length∧ixO off l 0=ixO off (l.drop k) (k:Int)) (fun k=>l.length - k) 0 rfl ⟨Nat.zero_le _,rfl⟩ ?_
 rintro k ⟨hk,hi⟩
 have hk:k≤l.length:=hk
 dsimp only
 by_cases hkn:k < l.length
 ·refine Exists.elim (get_lt l hkn) fun x hx=>?_
  have hx1:=ods_at hx
  have c149_:=c149 x.o off x.t
  rw [drop_at hx,ixO] at hi
  cases e:(x.o==off) with
  | true =>
   rw [e] at hi c149_
   have hi:ixO off l 0=(k:Int):=hi
   rw [hi]
   refine sd ?_
   refine b_lt (fun t1=>?_) (fun t1=>?_)
   refine an ?_ ?_
   refine an ?_ ?_
   exact rfl
   refine an ?_ ?_
   exact rfl
   refine an ?_ ?_
   (show (0:Int)≤(↑k:Int); omega)
   assumption
   refine sd ?_
   refine ca hx1 ?_
   refine ca c149_ ?_
   refine sd ?_
   exact rfl
   (exfalso; omega)
  | false =>
   rw [e] at hi c149_
   have hi:ixO off l 0=ixO off (l.drop (k+1)) ((k:Int)+1):=hi
   have fin:∃ a':Nat,((a'≤l.length∧ixO off l 0=ixO off (l.drop a') (a':Int))∧l.length - a' < l.length - k)∧(⟨[(0,.sl 2 (ods l).length),(1,.d (.fn (.func 149) [.agg [.str off]])),(7,.d (.int .i64 (((ods l).length:Nat):Int))),(8,.d (.int .i64 ((k:Int)+1)))],[.cbox X,.cbox Y,.row 156 2 (ods l) false,.none]⟩:St)=⟨[(0,.sl 2 (ods l).length),(1,.d (.fn (.func 149) [.agg [.str off]])),(7,.d (.int .i64 (((ods l).length:Nat):Int))),(8,.d (.int .i64 (a':Nat)))],[.cbox X,.cbox Y,.row 156 2 (ods l) false,.none]⟩:=⟨k+1,⟨⟨by omega,hi⟩,by omega⟩,rfl⟩
   refine sd ?_
   refine b_lt (fun t1=>?_) (fun t1=>?_)
   refine an ?_ ?_
   refine an ?_ ?_
   exact rfl
   refine an ?_ ?_
   exact rfl
   refine an ?_ ?_
   (show (0:Int)≤(↑k:Int); omega)
   assumption
   refine sd ?_
   refine ca hx1 ?_
   refine ca c149_ ?_
   refine ar_add ?_ ?_
   refine an ?_ ?_
   (show (-9223372036854775808:Int)≤(↑k:Int)+(1:Int); omega)
   (show (↑k:Int)+(1:Int)≤(9223372036854775807:Int); omega)
   rotate_left
   (exfalso; omega)
   all_goals exact fin
 ·have e:k=l.length:=by omega
  subst e
  rw [List.drop_eq_nil_of_le (Nat.le_refl _)] at hi
  have hi:ixO off l 0=-1:=hi
  rw [hi]
  refine sd ?_
  refine b_lt (fun t1=>?_) (fun t1=>?_)
  (exfalso; omega)
  refine sd ?_
  exact rfl
theorem i148n (X Y:List Data) (l:List Od) (off:Nm) (hl:l.length≤1048576) (h:ixO off l 0=-1):CallIn Tryz.prog 148 [.sl 2 (ods l).length,.d (.fn (.func 149) [.agg [.str off]])] [.cbox X,.cbox Y,.row 156 2 (ods l) false,.none] (.sl 2 (ods l).length) (setAll [.cbox X,.cbox Y,.row 156 2 (ods l) false,.none] []):=by
 have c168i_:=i168 X Y l off hl
 rw [h] at c168i_
 refine callIn_of_vc 3 (x:=jr148) (by kernel_rfl) rfl rfl rfl ?_
 refine Exists.intro _ (Exists.intro _ (And.intro (c168i_) ?_))
 refine sd ?_
 refine sd ?_
 exact rfl
structure Dl where
 i:Nat
 j:Nat
 R:List Od
theorem i148s (X Y : List Data) (l : List Od) (off : Nm) (hl : l.length ≤ 1048576) (h : ixO off l 0 ≠ -1) : CallIn Tryz.prog 148 [.sl 2 (ods l).length, .d (.fn (.func 149) [.agg [.str off]])] [.cbox X, .cbox Y, .row 156 2 (ods l) false, .none] (.rv 2 (ods l).length 0 (keepO off l).length)
  (setAll [.cbox X,.cbox Y,.row 156 2 (ods l) false,.none] [(2,.row 156 2 (ods (keepO off l)++List.replicate ((ods l).length - (keepO off l).length) (.agg [.str [],.int .i64 0])) false)]):=by
 obtain ⟨j0,h1,h2,⟨x0,hx0,he0⟩,h4⟩:=ixO_some off l 0 (Int.le_refl _) h
 have h1:ixO off l 0=(j0:Int):=by omega
 have c168i_:=i168 X Y l off hl
 rw [h1] at c168i_
 have hlen:=ods_len l
 have hk0:keepO off (l.take (j0+1))=l.take j0:=by rw [take_one hx0,keepO_snoc,he0]; exact h4
 refine callIn_of_vc 3 (x:=jr148) (by kernel_rfl) rfl rfl rfl ?_
 refine Exists.intro _ (Exists.intro _ (And.intro (c168i_) ?_))
 refine sd ?_
 refine ar_add ?_ ?_
 refine an ?_ ?_
 (show (-9223372036854775808:Int)≤(↑j0:Int)+(1:Int); omega)
 (show (↑j0:Int)+(1:Int)≤(9223372036854775807:Int); omega)
 rotate_left
 rotate_left
 refine loop_st (fun p:Dl=>⟨[(0,.sl 2 (ods l).length),(1,.d (.fn (.func 149) [.agg [.str off]])),(5,.d (.int .i64 (p.i:Nat))),(6,.d (.int .i64 (p.j:Nat)))],[.cbox X,.cbox Y,.row 156 2 (ods p.R) false,.none]⟩) (fun p=>((p.i < p.j∧p.j≤l.length)∧p.R.length=l.length)∧p.R.take p.i=keepO off (l.take p.j)∧p.R.drop p.j=l.drop p.j) (fun p=>l.length - p.j) ⟨j0,j0+1,l⟩ rfl ⟨⟨⟨Nat.lt_succ_self _,h2⟩,rfl⟩,hk0.symm,rfl⟩ ?_
 rintro ⟨i,j,R⟩ ⟨⟨⟨hij,hj⟩,hR⟩,ht,hd⟩
 have hij:i < j:=hij
 have hj:j≤l.length:=hj
 have hR:R.length=l.length:=hR
 have ht:R.take i=keepO off (l.take j):=ht
 have hd:R.drop j=l.drop j:=hd
 have hlR:(ods R).length=(ods l).length:=by rw [ods_len,hlen,hR]
 dsimp only
 by_cases hjn:j < l.length
 ·refine Exists.elim (get_lt l hjn) fun x hx=>?_
  have hxR:R[j]?=some x:=by
   have e1:=drop_at hx
   rw [← hd] at e1
   have:=congrArg (fun q=>q[0]?) e1
   simpa using this
  have hx1:=ods_at hxR
  refine Exists.elim (get_lt R (k:=i) (by omega)) fun y hy=>?_
  have hy1:=ods_at hy
  have c149_:=c149 x.o off x.t
  have ek:=take_one hx
  cases e:(x.o==off) with
  | true =>
   rw [e] at c149_
   have fin:∃ a':Dl,((((a'.i < a'.j∧a'.j≤l.length)∧a'.R.length=l.length)∧a'.R.take a'.i=keepO off (l.take a'.j)∧a'.R.drop a'.j=l.drop a'.j)∧l.length - a'.j < l.length - j)∧(⟨[(0,.sl 2 (ods l).length),(1,.d (.fn (.func 149) [.agg [.str off]])),(5,.d (.int .i64 (i:Int))),(6,.d (.int .i64 ((j:Int)+1)))],[.cbox X,.cbox Y,.row 156 2 (ods R) false,.none]⟩:St)=⟨[(0,.sl 2 (ods l).length),(1,.d (.fn (.func 149) [.agg [.str off]])),(5,.d (.int .i64 (a'.i:Nat))),(6,.d (.int .i64 (a'.j:Nat)))],[.cbox X,.cbox Y,.row 156 2 (ods a'.R) false,.none]⟩ :=
    ⟨⟨i,j+1,R⟩,⟨⟨⟨⟨by show i < j+1; omega,by show j+1≤l.length; omega⟩,hR⟩,by show R.take i=keepO off (l.take (j+1)); rw [ek,keepO_snoc,e,ht]; rfl,by show R.drop (j+1)=l.drop (j+1); rw [← List.drop_drop,← List.drop_drop,hd]⟩,by show l.length - (j+1) < l.length - j; omega⟩,rfl⟩
   refine an ?_ ?_
   assumption
   refine sd ?_
   refine b_lt (fun t1=>?_) (fun t1=>?_)
   refine an ?_ ?_
   refine an ?_ ?_
   exact rfl
   refine an ?_ ?_
   assumption
   refine an ?_ ?_
   (show (0:Int)≤(↑j:Int); omega)
   (show (↑j:Int) < (↑(List.length (ods l)):Int); omega)
   refine an ?_ ?_
   assumption
   refine ca hx1 ?_
   refine ca c149_ ?_
   refine ar_add ?_ ?_
   refine an ?_ ?_
   (show (-9223372036854775808:Int)≤(↑j:Int)+(1:Int); omega)
   (show (↑j:Int)+(1:Int)≤(9223372036854775807:Int); omega)
   rotate_left
   (exfalso; omega)
   all_goals exact fin
  | false =>
   rw [e] at c149_
   have fin:∃ a':Dl,((((a'.i < a'.j∧a'.j≤l.length)∧a'.R.length=l.length)∧a'.R.take a'.i=keepO off (l.take a'.j)∧a'.R.drop a'.j=l.drop a'.j)∧l.length - a'.j < l.length - j)∧(⟨[(0,.sl 2 (ods l).length),(1,.d (.fn (.func 149) [.agg [.str off]])),(5,.d (.int .i64 ((i:Int)+1))),(6,.d (.int .i64 ((j:Int)+1)))],[.cbox X,.cbox Y,.row 156 2 ((ods R).set i (.agg [.str x.o,.int .i64 x.t])) false,.none]⟩:St)=⟨[(0,.sl 2 (ods l).length),(1,.d (.fn (.func 149) [.agg [.str off]])),(5,.d (.int .i64 (a'.i:Nat))),(6,.d (.int .i64 (a'.j:Nat)))],[.cbox X,.cbox Y,.row 156 2 (ods a'.R) false,.none]⟩ :=
    ⟨⟨i+1,j+1,R.set i x⟩,⟨⟨⟨⟨by show i+1 < j+1; omega,by show j+1≤l.length; omega⟩,by show (R.set i x).length=_; rw [List.length_set]; exact hR⟩,by
     show (R.set i x).take (i+1)=keepO off (l.take (j+1))
     rw [ek,keepO_snoc,e,← ht,take_one (show (R.set i x)[i]?=some x by rw [List.getElem?_set_self (by omega)]),List.take_set_of_le (Nat.le_refl _)]; rfl,by
     show (R.set i x).drop (j+1)=l.drop (j+1)
     rw [List.drop_set_of_lt (by omega),← List.drop_drop,← List.drop_drop,hd]⟩,by show l.length - (j+1) < l.length - j; omega⟩,by rw [ods_set]; rfl⟩
   refine an ?_ ?_
   assumption
   refine sd ?_
   refine b_lt (fun t1=>?_) (fun t1=>?_)
   refine an ?_ ?_
   refine an ?_ ?_
   exact rfl
   refine an ?_ ?_
   assumption
   refine an ?_ ?_
   (show (0:Int)≤(↑j:Int); omega)
   (show (↑j:Int) < (↑(List.length (ods l)):Int); omega)
   refine an ?_ ?_
   assumption
   refine ca hx1 ?_
   refine ca c149_ ?_
   refine an ?_ ?_
   refine an ?_ ?_
   exact rfl
   refine an ?_ ?_
   assumption
   refine an ?_ ?_
   (show (0:Int)≤(↑i:Int); omega)
   (show (↑i:Int) < (↑(List.length (ods l)):Int); omega)
   refine Exists.intro _ (Exists.intro (Vc.Data.agg [Data.str (Od.o x),Data.int IntKind.i64 (Od.t x)]) (And.intro (And.intro ?_ (And.intro hy1 (And.intro rfl (And.intro ?_ (And.intro rfl rfl))))) ?_))
   assumption
   (show (0:Nat)+(2:Nat)≤(1:Nat)+(1:Nat); omega)
   refine ar_add ?_ ?_
   refine an ?_ ?_
   (show (-9223372036854775808:Int)≤(↑i:Int)+(1:Int); omega)
   (show (↑i:Int)+(1:Int)≤(9223372036854775807:Int); omega)
   refine ar_add ?_ ?_
   refine an ?_ ?_
   (show (-9223372036854775808:Int)≤(↑j:Int)+(1:Int); omega)
   (show (↑j:Int)+(1:Int)≤(9223372036854775807:Int); omega)
   rotate_left
   (exfalso; omega)
   all_goals exact fin
 ·have e:j=l.length:=by omega
  subst e
  rw [List.take_of_length_le (Nat.le_refl _)] at ht
  have hi:(keepO off l).length=i:=by rw [← ht,List.length_take]; omega
  have et:ods (keepO off l)=(ods R).take i:=by rw [← ht,ods_take]
  rw [et,hi]
  have fin:([.cbox X,.cbox Y,.row 156 2 ((ods R).take i++List.replicate ((ods R).length - i) (.agg [.str [],.int .i64 0])++(ods R).drop (ods R).length) false,.none]:List AObj)=[.cbox X,.cbox Y,.row 156 2 ((ods R).take i++List.replicate ((ods l).length - i) (.agg [.str [],.int .i64 0])) false,.none]:=by rw [List.drop_length,List.append_nil,hlR]
  refine an ?_ ?_
  assumption
  refine sd ?_
  refine b_lt (fun t1=>?_) (fun t1=>?_)
  (exfalso; omega)
  refine an ?_ ?_
  refine an ?_ ?_
  exact rfl
  refine an ?_ ?_
  assumption
  refine an ?_ ?_
  (show (0:Int)≤(↑i:Int); omega)
  refine an ?_ ?_
  (show (↑i:Int)≤(↑(List.length (ods R)):Int); omega)
  refine an ?_ ?_
  (show (↑(List.length (ods R)):Int)≤(↑(List.length (ods R)):Int); omega)
  (show (0:Nat) < List.length (ods R); omega)
  refine an ?_ ?_
  refine an ?_ ?_
  exact rfl
  refine an ?_ ?_
  assumption
  (show i < List.length (ods R); omega)
  refine an ?_ ?_
  refine an ?_ ?_
  exact rfl
  refine an ?_ ?_
  (show List.length (List.take i (ods R)++List.replicate (List.length (ods R) - i) (Data.agg [Data.str [],Data.int IntKind.i64 (0:Int)])++List.drop (List.length (ods R)) (ods R))=List.length (ods l); simp only [List.length_replicate,List.length_set,List.length_append,List.length_take,List.length_drop]; omega)
  refine an ?_ ?_
  (show (0:Int)≤(0:Int); omega)
  refine an ?_ ?_
  (show (0:Int)≤(↑i:Int); omega)
  refine an ?_ ?_
  (show (↑i:Int)≤(↑(List.length (List.take i (ods R)++List.replicate (List.length (ods R) - i) (Data.agg [Data.str [],Data.int IntKind.i64 (0:Int)])++List.drop (List.length (ods R)) (ods R))):Int); simp only [List.length_replicate,List.length_set,List.length_append,List.length_take,List.length_drop]; omega)
  (show (0:Nat) < List.length (List.take i (ods R)++List.replicate (List.length (ods R) - i) (Data.agg [Data.str [],Data.int IntKind.i64 (0:Int)])++List.drop (List.length (ods R)) (ods R)); simp only [List.length_replicate,List.length_set,List.length_append,List.length_take,List.length_drop]; omega)
  refine sd ?_
  assumption
  all_goals exact fin
theorem copy_all (es:List Data) (z:Data):List.take es.length es++List.drop es.length (List.replicate es.length z)=es:=by simp
theorem c128n (b1 b2:Bool) (l:List Od) (off:Nm) (hl:l.length≤1048576) (h:ixO off l 0=-1):CallRow Tryz.prog 128 [.d (.agg [.bool b1,.bool b2,.slice 2 (ods l)]),.d (.str off)] 156 2 (ods (keepO off l)):=by
 have hlen:=ods_len l
 have c148i_:=i148n [.bool b1,.bool b2,.slice 2 (ods l)] [.str off] l off hl h
 have c148i_:CallIn Tryz.prog 148 [.sl 2 (ods l).length,.d (.fn (.func 149) [.agg [.str off]])] [.cbox [.bool b1,.bool b2,.slice 2 (ods l)],.cbox [.str off],.row 156 2 (List.take (ods l).length (ods l)++List.drop (ods l).length (List.replicate (ods l).length (.agg [.str [],.int .i64 0]))) false,.none] (.sl 2 (ods l).length) (setAll [.cbox [.bool b1,.bool b2,.slice 2 (ods l)],.cbox [.str off],.row 156 2 (List.take (ods l).length (ods l)++List.drop (ods l).length (List.replicate (ods l).length (.agg [.str [],.int .i64 0]))) false,.none] [(2,.row 156 2 (ods l) false)]):=by
  rw [copy_all]; exact c148i_
 rw [ixO_none off l 0 (Int.le_refl _) h]
 refine callRow_of_vc (x:=jr128) (by kernel_rfl) rfl ?_
 refine an ?_ ?_
 refine an ?_ ?_
 (show (0:Int)≤(↑(List.length (ods l)):Int); omega)
 refine an ?_ ?_
 (show (↑(List.length (ods l)):Int) * (↑(24:Nat):Int)≤(2:Int) ^ (47:Nat); omega)
 (show (↑(List.length (ods l)):Int)≤(2:Int) ^ (47:Nat); omega)
 refine ca (And.intro rfl (And.intro rfl (And.intro ?_ rfl))) ?_
 focus (show List.length (List.replicate (List.length (ods l)) (Data.agg [Data.str [],Data.int IntKind.i64 (0:Int)]))=List.length (ods l); simp only [List.length_replicate,List.length_set,List.length_append,List.length_take,List.length_drop]; done)
 refine Exists.intro _ (Exists.intro _ (And.intro (c148i_) ?_))
 rotate_left
 exact .inl ⟨2,⟨rfl,rfl⟩,rfl⟩
theorem c128s (b1 b2:Bool) (l:List Od) (off:Nm) (hl:l.length≤1048576) (h:ixO off l 0≠-1):CallRow Tryz.prog 128 [.d (.agg [.bool b1,.bool b2,.slice 2 (ods l)]),.d (.str off)] 156 2 (ods (keepO off l)):=by
 have hlen:=ods_len l
 have c148i_:=i148s [.bool b1,.bool b2,.slice 2 (ods l)] [.str off] l off hl h
 have c148i_:CallIn Tryz.prog 148 [.sl 2 (ods l).length,.d (.fn (.func 149) [.agg [.str off]])] [.cbox [.bool b1,.bool b2,.slice 2 (ods l)],.cbox [.str off],.row 156 2 (List.take (ods l).length (ods l)++List.drop (ods l).length (List.replicate (ods l).length (.agg [.str [],.int .i64 0]))) false,.none] (.rv 2 (ods l).length 0 (keepO off l).length) (setAll [.cbox [.bool b1,.bool b2,.slice 2 (ods l)],.cbox [.str off],.row 156 2 (List.take (ods l).length (ods l)++List.drop (ods l).length (List.replicate (ods l).length (.agg [.str [],.int .i64 0]))) false,.none] [(2,.row 156 2 (ods (keepO off l)++List.replicate ((ods l).length - (keepO off l).length) (.agg [.str [],.int .i64 0])) false)]):=by
  rw [copy_all]; exact c148i_
 have hkl:(ods (keepO off l)).length=(keepO off l).length:=ods_len _
 have hkle:=keepO_le off l
 have h0:0 < l.length:=by
  obtain ⟨j,_,h2,_⟩:=ixO_some off l 0 (Int.le_refl _) h
  omega
 refine callRow_win (x:=jr128) (by kernel_rfl) rfl ?_
 refine an ?_ ?_
 refine an ?_ ?_
 (show (0:Int)≤(↑(List.length (ods l)):Int); omega)
 refine an ?_ ?_
 (show (↑(List.length (ods l)):Int) * (↑(24:Nat):Int)≤(2:Int) ^ (47:Nat); omega)
 (show (↑(List.length (ods l)):Int)≤(2:Int) ^ (47:Nat); omega)
 refine ca (And.intro rfl (And.intro rfl (And.intro ?_ rfl))) ?_
 focus (show List.length (List.replicate (List.length (ods l)) (Data.agg [Data.str [],Data.int IntKind.i64 (0:Int)]))=List.length (ods l); simp only [List.length_replicate,List.length_set,List.length_append,List.length_take,List.length_drop]; done)
 refine Exists.intro _ (Exists.intro _ (And.intro (c148i_) ?_))
 rotate_left
 refine ⟨2,(ods l).length,(keepO off l).length,ods (keepO off l)++List.replicate ((ods l).length - (keepO off l).length) (.agg [.str [],.int .i64 0]),⟨rfl,rfl⟩,rfl,?_,by omega,by omega,?_⟩
 ·rw [List.length_append,List.length_replicate,hkl]; omega
 ·rw [← hkl,List.take_left]
theorem c128r (b1 b2:Bool) (l:List Od) (off:Nm) (hl:l.length≤1048576):CallRow Tryz.prog 128 [.d (.agg [.bool b1,.bool b2,.slice 2 (ods l)]),.d (.str off)] 156 2 (ods (keepO off l)):=by
 by_cases h:ixO off l 0=-1
 ·exact c128n b1 b2 l off hl h
 ·exact c128s b1 b2 l off hl h
end Vc
