import Derived.Test.YtmjbifmndhianaaGreatDoorG27
import Derived.Test.YtmjbifmndhianaaGreatDoorG28
import Derived.Test.YtmjbifmndhianaaGreatDoorG16
set_option linter.unusedSectionVars false
set_option linter.unusedVariables false
set_option linter.unusedSimpArgs false
set_option maxRecDepth 10000
set_option maxHeartbeats 4000000
namespace Vc
open Go Go.Proofs
@[irreducible] def seg9:ACode:=(.loop
 (.post [3,4,5,7,8] [5,6]
 (.seq
 (.seq
 (.reg [] [⟨some 71,.ld false 1 (.tmp 7),none⟩,
 ⟨some 72,.len (.tmp 71),none⟩,
 ⟨some 73,.cmp .lss (.tmp 72) (.cst (.d (.int .i64 4))),none⟩])
 (.cond (.tmp 73)
 .skip
 (.exit 0)))
 (.seq
 (.block 1
 (.seq
 (.reg [] [⟨some 76,.fad 21 (.tmp 3),none⟩,
 ⟨some 77,.ld false 1 (.tmp 76),none⟩,
 ⟨some 78,.mov (.tmp 8),none⟩,
 ⟨some 79,.call 66 [(.tmp 77),(.tmp 78)],none⟩,
 ⟨some 80,.not (.tmp 79),none⟩])
 (.cond (.tmp 80)
 (.reg [5,6] [⟨some 81,.ld false 1 (.tmp 7),none⟩,
 ⟨some 82,.mov (.tmp 8),none⟩,
 ⟨some 83,.bsl 5 3 1 1 [(.int .i64 0)] [(0,(.tmp 82))],none⟩,
 ⟨some 84,.app 6 3 1 8 (.tmp 81) (.tmp 83),none⟩,
 ⟨none,.st 1 (.tmp 7) (.tmp 84),none⟩])
 .skip)))
 (.reg [] [⟨some 74,.mov (.tmp 8),none⟩,
 ⟨some 75,.arith .add .i64 (.tmp 74) (.cst (.d (.int .i64 1))),none⟩,
 ⟨some 8,.mov (.tmp 75),none⟩])))))
def cn:List Int→Int→Nat
 | [],_=>0
 | x::r,n=>(if x < n then 1 else 0)+cn r n
theorem cn_le:∀ (l:List Int) (n:Int),cn l n≤l.length
 | [],_=>Nat.le_refl _
 | x::r,n=>by
  have:=cn_le r n
  rw [cn,List.length_cons]
  split <;> omega
theorem cn_out:∀ {l:List Int} {n:Int},n∉l→cn l (n+1)=cn l n
 | [],_,_=>rfl
 | x::r,n,h=>by
  have h1:n≠x:=fun e=>h (by rw [e]; exact List.mem_cons_self)
  have h2:=cn_out (l:=r) (n:=n) fun e=>h (List.mem_cons_of_mem _ e)
  rw [cn,cn,h2]
  by_cases hx:x < n
  ·rw [if_pos hx,if_pos (by omega)]
  ·rw [if_neg hx,if_neg (by omega)]
theorem cn_in:∀ {l:List Int} {n:Int},Asc l→n∈l→cn l (n+1)=cn l n+1
 | [],_,_,h=>by cases h
 | x::r,n,ha,h=>by
  obtain ⟨a1,a2⟩:=List.pairwise_cons.1 ha
  rw [cn,cn]
  rcases List.mem_cons.1 h with e | e
  ·subst e
   have hn:n∉r:=fun e=>by have:=a1 n e; omega
   rw [cn_out hn,if_pos (by omega),if_neg (by omega)]; omega
  ·have:=a1 n e
   rw [cn_in a2 e,if_pos (by omega),if_pos (by omega)]; omega
theorem keq_self (k:Ky):keq k k=true:=by unfold keq; simp
section
variable {a : Ac}
end
theorem cn_one:∀ {l:List Int},(∀ x∈l,0 < x)→cn l 1=0
 | [],_=>rfl
 | x::r,h=>by
  have:=h x List.mem_cons_self
  rw [cn,if_neg (by omega),cn_one (l:=r) fun y hy=>h y (List.mem_cons_of_mem _ hy)]
structure P9 where
 n:Int
 R:List Int
theorem v9 {a:Ac} {c:Bool} {q:Ky} {am:Int} {Q:AExit→St→Prop} (ha:Asc a.u) (hpos:∀ x∈a.u,0 < x) (hl:a.u.length≤12) (hQ:∀ (R:List Int) (x:Int),R.length=4→R.Nodup→(∀ z∈R,z∉a.u∧1≤z∧z≤17)→∀ y:Bool,Q (.exit 0) ⟨[(3,.ptr 0 0),(4,.ptr 1 0),(5,.ptr 2 0),(7,.ptr 4 0),(8,.d (.int .i64 (x))),(71,.sl 3 (ints R).length),(72,.d (.int .i64 (((ints R).length:Nat):Int))),(73,.d (.bool y))],[.cbox [.int .i64 (a.b),.int .i64 (a.d),.int .i64 a.s,.int .i64 a.e,.int .u8 a.k.a,.int .u8 a.k.b,.int .u8 a.k.c,.int .u8 a.k.d,.int .u8 a.k.e,.int .u8 a.k.f,.int .u8 a.k.g,.int .u8 a.k.h,.int .u8 a.n.a,.int .u8 a.n.b,.int .u8 a.n.c,.int .u8 a.n.d,.int .u8 a.n.e,.int .u8 a.n.f,.int .u8 a.n.g,.int .u8 a.n.h,.bool c,.slice 1 (ints a.u)],.cbox [.int .u8 q.a,.int .u8 q.b,.int .u8 q.c,.int .u8 q.d,.int .u8 q.e,.int .u8 q.f,.int .u8 q.g,.int .u8 q.h],.cbox [.int .u16 am],.row 3 1 (ints R) false,.box [.sl 3 (ints R).length],.none,.none,.none,.none,.none,.none,.none,.none,.none,.none,.none,.none,.none,.none]⟩):vc Tryz.prog 268 seg9 ⟨[(3,.ptr 0 0),(4,.ptr 1 0),(5,.ptr 2 0),(7,.ptr 4 0),(8,.d (.int .i64 (1)))],[.cbox [.int .i64 (a.b),.int .i64 (a.d),.int .i64 a.s,.int .i64 a.e,.int .u8 a.k.a,.int .u8 a.k.b,.int .u8 a.k.c,.int .u8 a.k.d,.int .u8 a.k.e,.int .u8 a.k.f,.int .u8 a.k.g,.int .u8 a.k.h,.int .u8 a.n.a,.int .u8 a.n.b,.int .u8 a.n.c,.int .u8 a.n.d,.int .u8 a.n.e,.int .u8 a.n.f,.int .u8 a.n.g,.int .u8 a.n.h,.bool c,.slice 1 (ints a.u)],.cbox [.int .u8 q.a,.int .u8 q.b,.int .u8 q.c,.int .u8 q.d,.int .u8 q.e,.int .u8 q.f,.int .u8 q.g,.int .u8 q.h],.cbox [.int .u16 am],.row 3 1 (([]:List Data)) false,.box [.sl 3 (([]:List Data)).length],.none,.none,.none,.none,.none,.none,.none,.none,.none,.none,.none,.none,.none,.none]⟩ Q:=by
 have hia:∀ (A:List Int) (z:Int),ints (A++[z])=ints A++[Data.int .i64 z]:=fun A z=>List.map_append
 unfold seg9
 refine loop_st (fun p:P9=>⟨[(3,.ptr 0 0),(4,.ptr 1 0),(5,.ptr 2 0),(7,.ptr 4 0),(8,.d (.int .i64 (p.n)))],[.cbox [.int .i64 (a.b),.int .i64 (a.d),.int .i64 a.s,.int .i64 a.e,.int .u8 a.k.a,.int .u8 a.k.b,.int .u8 a.k.c,.int .u8 a.k.d,.int .u8 a.k.e,.int .u8 a.k.f,.int .u8 a.k.g,.int .u8 a.k.h,.int .u8 a.n.a,.int .u8 a.n.b,.int .u8 a.n.c,.int .u8 a.n.d,.int .u8 a.n.e,.int .u8 a.n.f,.int .u8 a.n.g,.int .u8 a.n.h,.bool c,.slice 1 (ints a.u)],.cbox [.int .u8 q.a,.int .u8 q.b,.int .u8 q.c,.int .u8 q.d,.int .u8 q.e,.int .u8 q.f,.int .u8 q.g,.int .u8 q.h],.cbox [.int .u16 am],.row 3 1 (ints p.R) false,.box [.sl 3 (ints p.R).length],.none,.none,.none,.none,.none,.none,.none,.none,.none,.none,.none,.none,.none,.none]⟩) (fun p=>((1≤p.n∧p.R.length≤4)∧((cn a.u p.n+p.R.length:Nat):Int)+1=p.n)∧p.R.Nodup∧∀ z∈p.R,z∉a.u∧1≤z∧z < p.n) (fun p=>(100 - p.n).toNat) ⟨1,[]⟩ rfl ⟨⟨⟨by decide,by decide⟩,by
  have:=cn_one hpos
  show ((cn a.u 1+0:Nat):Int)+1=1
  omega⟩,List.nodup_nil,fun z hz=>by cases hz⟩ ?_
 rintro ⟨x,R⟩ ⟨⟨⟨h1,hR4⟩,hc⟩,hnd,hz⟩
 have h1:1≤x:=h1
 have hR4:R.length≤4:=hR4
 have hc:((cn a.u x+R.length:Nat):Int)+1=x:=hc
 have hnd:R.Nodup:=hnd
 have hz:∀ z∈R,z∉a.u∧1≤z∧z < x:=hz
 have hcl:=cn_le a.u x
 have hil:(ints R).length=R.length:=List.length_map _
 have c66_:=c66 a.u x (by omega)
 dsimp only
 by_cases h4:R.length < 4
 ·by_cases hm:x∈a.u
  ·rw [List.contains_iff_mem.2 hm] at c66_
   have fin:∃ a':P9,((((1≤a'.n∧a'.R.length≤4)∧((cn a.u a'.n+a'.R.length:Nat):Int)+1=a'.n)∧a'.R.Nodup∧∀ z∈a'.R,z∉a.u∧1≤z∧z < a'.n)∧(100 - a'.n).toNat < (100 - x).toNat)∧(⟨[(3,.ptr 0 0),(4,.ptr 1 0),(5,.ptr 2 0),(7,.ptr 4 0),(8,.d (.int .i64 (x+1)))],[.cbox [.int .i64 (a.b),.int .i64 (a.d),.int .i64 a.s,.int .i64 a.e,.int .u8 a.k.a,.int .u8 a.k.b,.int .u8 a.k.c,.int .u8 a.k.d,.int .u8 a.k.e,.int .u8 a.k.f,.int .u8 a.k.g,.int .u8 a.k.h,.int .u8 a.n.a,.int .u8 a.n.b,.int .u8 a.n.c,.int .u8 a.n.d,.int .u8 a.n.e,.int .u8 a.n.f,.int .u8 a.n.g,.int .u8 a.n.h,.bool c,.slice 1 (ints a.u)],.cbox [.int .u8 q.a,.int .u8 q.b,.int .u8 q.c,.int .u8 q.d,.int .u8 q.e,.int .u8 q.f,.int .u8 q.g,.int .u8 q.h],.cbox [.int .u16 am],.row 3 1 (ints R) false,.box [.sl 3 (ints R).length],.none,.none,.none,.none,.none,.none,.none,.none,.none,.none,.none,.none,.none,.none]⟩:St)=⟨[(3,.ptr 0 0),(4,.ptr 1 0),(5,.ptr 2 0),(7,.ptr 4 0),(8,.d (.int .i64 (a'.n)))],[.cbox [.int .i64 (a.b),.int .i64 (a.d),.int .i64 a.s,.int .i64 a.e,.int .u8 a.k.a,.int .u8 a.k.b,.int .u8 a.k.c,.int .u8 a.k.d,.int .u8 a.k.e,.int .u8 a.k.f,.int .u8 a.k.g,.int .u8 a.k.h,.int .u8 a.n.a,.int .u8 a.n.b,.int .u8 a.n.c,.int .u8 a.n.d,.int .u8 a.n.e,.int .u8 a.n.f,.int .u8 a.n.g,.int .u8 a.n.h,.bool c,.slice 1 (ints a.u)],.cbox [.int .u8 q.a,.int .u8 q.b,.int .u8 q.c,.int .u8 q.d,.int .u8 q.e,.int .u8 q.f,.int .u8 q.g,.int .u8 q.h],.cbox [.int .u16 am],.row 3 1 (ints a'.R) false,.box [.sl 3 (ints a'.R).length],.none,.none,.none,.none,.none,.none,.none,.none,.none,.none,.none,.none,.none,.none]⟩:=⟨⟨x+1,R⟩,⟨⟨⟨⟨by show 1≤x+1; omega,hR4⟩,by show ((cn a.u (x+1)+R.length:Nat):Int)+1=x+1; rw [cn_in ha hm]; omega⟩,hnd,fun z h=>⟨(hz z h).1,(hz z h).2.1,by show z < x+1; have:=(hz z h).2.2; omega⟩⟩,by show (100 - (x+1)).toNat < _; omega⟩,rfl⟩
   refine sd ?_
   refine sd ?_
   refine b_lt (fun t1=>?_) (fun t1=>?_)
   refine ca c66_ ?_
   refine ar_add ?_ ?_
   refine an ?_ ?_
   (show (-9223372036854775808:Int)≤x+(1:Int); omega)
   (show x+(1:Int)≤(9223372036854775807:Int); omega)
   rotate_left
   (exfalso; omega)
   all_goals exact fin
  ·rw [show a.u.contains x=false by rw [Bool.eq_false_iff]; intro e; exact hm (List.contains_iff_mem.1 e)] at c66_
   have hnew:(R++[x]).Nodup∧∀ z∈R++[x],z∉a.u∧1≤z∧z < x+1:=by
    refine ⟨?_,fun z h=>?_⟩
    ·rw [List.nodup_append]
     refine ⟨hnd,by simp,fun y hy b hb=>?_⟩
     rw [List.mem_singleton] at hb
     subst hb
     have:=(hz y hy).2.2
     omega
    ·rcases List.mem_append.1 h with h | h
     ·exact ⟨(hz z h).1,(hz z h).2.1,by have:=(hz z h).2.2; omega⟩
     ·rw [List.mem_singleton.1 h]; exact ⟨hm,h1,by omega⟩
   have fin:∃ a':P9,((((1≤a'.n∧a'.R.length≤4)∧((cn a.u a'.n+a'.R.length:Nat):Int)+1=a'.n)∧a'.R.Nodup∧∀ z∈a'.R,z∉a.u∧1≤z∧z < a'.n)∧(100 - a'.n).toNat < (100 - x).toNat)∧(⟨[(3,.ptr 0 0),(4,.ptr 1 0),(5,.ptr 2 0),(7,.ptr 4 0),(8,.d (.int .i64 (x+1)))],[.cbox [.int .i64 (a.b),.int .i64 (a.d),.int .i64 a.s,.int .i64 a.e,.int .u8 a.k.a,.int .u8 a.k.b,.int .u8 a.k.c,.int .u8 a.k.d,.int .u8 a.k.e,.int .u8 a.k.f,.int .u8 a.k.g,.int .u8 a.k.h,.int .u8 a.n.a,.int .u8 a.n.b,.int .u8 a.n.c,.int .u8 a.n.d,.int .u8 a.n.e,.int .u8 a.n.f,.int .u8 a.n.g,.int .u8 a.n.h,.bool c,.slice 1 (ints a.u)],.cbox [.int .u8 q.a,.int .u8 q.b,.int .u8 q.c,.int .u8 q.d,.int .u8 q.e,.int .u8 q.f,.int .u8 q.g,.int .u8 q.h],.cbox [.int .u16 am],.row 3 1 (ints R++[Data.int .i64 x]) false,.box [.sl 3 (ints R++[Data.int .i64 x]).length],.none,.none,.none,.none,.none,.none,.none,.none,.none,.none,.none,.none,.none,.none]⟩:St)=⟨[(3,.ptr 0 0),(4,.ptr 1 0),(5,.ptr 2 0),(7,.ptr 4 0),(8,.d (.int .i64 (a'.n)))],[.cbox [.int .i64 (a.b),.int .i64 (a.d),.int .i64 a.s,.int .i64 a.e,.int .u8 a.k.a,.int .u8 a.k.b,.int .u8 a.k.c,.int .u8 a.k.d,.int .u8 a.k.e,.int .u8 a.k.f,.int .u8 a.k.g,.int .u8 a.k.h,.int .u8 a.n.a,.int .u8 a.n.b,.int .u8 a.n.c,.int .u8 a.n.d,.int .u8 a.n.e,.int .u8 a.n.f,.int .u8 a.n.g,.int .u8 a.n.h,.bool c,.slice 1 (ints a.u)],.cbox [.int .u8 q.a,.int .u8 q.b,.int .u8 q.c,.int .u8 q.d,.int .u8 q.e,.int .u8 q.f,.int .u8 q.g,.int .u8 q.h],.cbox [.int .u16 am],.row 3 1 (ints a'.R) false,.box [.sl 3 (ints a'.R).length],.none,.none,.none,.none,.none,.none,.none,.none,.none,.none,.none,.none,.none,.none]⟩:=⟨⟨x+1,R++[x]⟩,⟨⟨⟨⟨by show 1≤x+1; omega,by show (R++[x]).length≤4; simp only [List.length_append,List.length_cons,List.length_nil]; omega⟩,by show ((cn a.u (x+1)+(R++[x]).length:Nat):Int)+1=x+1; rw [cn_out hm]; simp only [List.length_append,List.length_cons,List.length_nil]; omega⟩,hnew⟩,by show (100 - (x+1)).toNat < _; omega⟩,by rw [← hia]⟩
   refine sd ?_
   refine sd ?_
   refine b_lt (fun t1=>?_) (fun t1=>?_)
   refine ca c66_ ?_
   refine sd ?_
   refine sd ?_
   refine sd ?_
   refine an ?_ ?_
   refine an ?_ ?_
   exact rfl
   refine an ?_ ?_
   exact rfl
   refine an ?_ ?_
   exact rfl
   refine an ?_ ?_
   (show (List.length (ints R)+(1:Nat)) * (8:Nat)≤(2:Nat) ^ (47:Nat); omega)
   (show List.length (ints R)+(1:Nat)≤(2:Nat) ^ (47:Nat); omega)
   refine sd ?_
   refine ar_add ?_ ?_
   refine an ?_ ?_
   (show (-9223372036854775808:Int)≤x+(1:Int); omega)
   (show x+(1:Int)≤(9223372036854775807:Int); omega)
   rotate_left
   (exfalso; omega)
   all_goals exact fin
 ·have e:R.length=4:=by omega
  have hQ:=hQ R x e hnd (fun z h=>⟨(hz z h).1,(hz z h).2.1,by have:=(hz z h).2.2; omega⟩)
  refine sd ?_
  refine sd ?_
  refine b_lt (fun t1=>?_) (fun t1=>?_)
  (exfalso; omega)
  rotate_left
  all_goals exact hQ _
end Vc
namespace Vc
open Go
def u16s (l:List (Int × Int)):List Data:=l.map fun x=>.agg [.int .u16 x.1,.int .u16 x.2]
theorem u16s_len (l:List (Int × Int)):(u16s l).length=l.length:=List.length_map _
theorem u16s_at {l:List (Int × Int)} {k:Nat} {x:Int × Int} (h:l[k]?=some x):(u16s l)[((k:Int)).toNat]?=some (.agg [.int .u16 x.1,.int .u16 x.2]):=by
 show (l.map _)[k]?=_
 rw [List.getElem?_map,h]; rfl
def frR (u:List Int):List (Int × Int)→Int
 | []=>0
 | x::r=>bif u.contains x.1||(r.map Prod.fst).contains x.1 then frR u r else frR u r+1
def woR (u:List Int):List (Int × Int)→Int
 | []=>0
 | x::r=>bif u.contains x.1||(r.map Prod.fst).contains x.1 then woR u r else woR u r+x.2
def fr8 (u:List Int) (S:List (Int × Int)):Int:=frR u S.reverse
def wo8 (u:List Int) (S:List (Int × Int)):Int:=woR u S.reverse
def old8 (u:List Int) (S:List (Int × Int)) (n:Int):Bool:=u.contains n||(S.map Prod.fst).contains n
theorem rev_c (S:List (Int × Int)) (n:Int):(S.reverse.map Prod.fst).contains n=(S.map Prod.fst).contains n:=by
 rw [List.map_reverse]
 rw [Bool.eq_iff_iff,List.contains_iff_mem,List.contains_iff_mem,List.mem_reverse]
theorem fr8_s (u:List Int) (S:List (Int × Int)) (x:Int × Int):fr8 u (S++[x])=bif old8 u S x.1 then fr8 u S else fr8 u S+1:=by
 unfold fr8
 rw [List.reverse_append]
 show (bif u.contains x.1||(S.reverse.map Prod.fst).contains x.1 then _ else _)=_
 rw [rev_c]; rfl
theorem wo8_s (u:List Int) (S:List (Int × Int)) (x:Int × Int):wo8 u (S++[x])=bif old8 u S x.1 then wo8 u S else wo8 u S+x.2:=by
 unfold wo8
 rw [List.reverse_append]
 show (bif u.contains x.1||(S.reverse.map Prod.fst).contains x.1 then _ else _)=_
 rw [rev_c]; rfl
theorem old8_t {u:List Int} {S:List (Int × Int)} {n:Int}:old8 u S n=true↔n∈u∨n∈S.map Prod.fst:=by
 unfold old8
 rw [Bool.or_eq_true,List.contains_iff_mem,List.contains_iff_mem]
theorem old8_f {u:List Int} {S:List (Int × Int)} {n:Int} (h:¬ (n∈u∨n∈S.map Prod.fst)):old8 u S n=false:=by
 rw [Bool.eq_false_iff]; exact fun e=>h (old8_t.1 e)
def Lg (S:List (Int × Int)):Prop:=∀ x∈S,(1≤x.1∧x.1≤65536)∧1≤x.2∧x.2≤65536
theorem frR_b (u:List Int):∀ {S:List (Int × Int)},Lg S→(0≤frR u S∧frR u S≤S.length)∧0≤woR u S∧woR u S≤65536 * S.length
 | [],_=>by simp [frR,woR]
 | x::r,h=>by
  have hr:=frR_b u (S:=r) fun y hy=>h y (List.mem_cons_of_mem _ hy)
  have hx:=h x List.mem_cons_self
  rw [frR,woR,List.length_cons]
  cases u.contains x.1||(r.map Prod.fst).contains x.1 with
  | true=>exact ⟨⟨hr.1.1,by show frR u r≤_; omega⟩,hr.2.1,by show woR u r≤_; omega⟩
  | false=>exact ⟨⟨by show 0≤frR u r+1; omega,by show frR u r+1≤_; omega⟩,by show 0≤woR u r+x.2; omega,by show woR u r+x.2≤_; omega⟩
theorem Lg_rev {S:List (Int × Int)} (h:Lg S):Lg S.reverse:=fun x hx=>h x (List.mem_reverse.1 hx)
theorem fr8_b {u:List Int} {S:List (Int × Int)} (h:Lg S):(0≤fr8 u S∧fr8 u S≤S.length)∧0≤wo8 u S∧wo8 u S≤65536 * S.length:=by
 have:=frR_b u (Lg_rev h)
 rw [List.length_reverse] at this
 exact this
structure Cr (a:Ac) (S:List (Int × Int)) (X:Ac):Prop where
 ok:ckA X false=0
 k:X.k=a.k
 n:X.n=a.n
 s:X.s=a.s
 e:X.e=a.e
 d:X.d≤a.d
 b:X.b - X.d=a.b - a.d+wo8 a.u S
 l:((X.u.length:Nat):Int)=a.u.length+fr8 a.u S
 m:∀ z,z∈X.u↔z∈a.u∨z∈S.map Prod.fst
theorem Cr.nil {a:Ac} (h:ckA a false=0):Cr a [] a:=⟨h,rfl,rfl,rfl,rfl,Int.le_refl _,by show _=a.b - a.d+0; omega,by show _=(a.u.length:Int)+0; omega,fun z=>by simp⟩
theorem map_s (S:List (Int × Int)) (x:Int × Int) (z:Int):z∈(S++[x]).map Prod.fst↔z∈S.map Prod.fst∨z=x.1:=by simp
theorem Cr.old {a:Ac} {S:List (Int × Int)} {X:Ac} (h:Cr a S X) {x:Int × Int} (hx:x.1∈X.u):Cr a (S++[x]) X:=by
 have ho:old8 a.u S x.1=true:=old8_t.2 ((h.m _).1 hx)
 refine ⟨h.ok,h.k,h.n,h.s,h.e,h.d,?_,?_,fun z=>?_⟩
 ·rw [wo8_s,ho]; exact h.b
 ·rw [fr8_s,ho]; exact h.l
 ·rw [map_s,h.m z]
  constructor
  ·rintro (e | e)
   ·exact .inl e
   ·exact .inr (.inl e)
  ·rintro (e | e | e)
   ·exact .inl e
   ·exact .inr e
   ·subst e; exact (h.m _).1 hx
theorem ckT_in {n m:Int} (h:(1≤n∧n≤65536)∧1≤m∧m≤65536):ckT n m=0:=by
 unfold ckT; rw [wi_in (by omega) (by omega),wi_in (by omega) (by omega)]; rfl
theorem Cr.new {a:Ac} {S:List (Int × Int)} {X:Ac} (h:Cr a S X) {x:Int × Int} (hL:(1≤x.1∧x.1≤65536)∧1≤x.2∧x.2≤65536) (hx:x.1∉X.u) {q:Ky} (hc:crE X false x.1 x.2 q=0):Cr a (S++[x]) (crO X x.1 x.2):=by
 have ho:old8 a.u S x.1=false:=old8_f fun e=>hx ((h.m _).2 e)
 have hp:=pay_b h.ok (m:=x.2) (by omega) (by omega)
 have hd:=h.d
 have hb:=h.b
 have hl:=h.l
 refine ⟨crO_ok h.ok (ckT_in hL) hc,h.k,h.n,h.s,h.e,?_,?_,?_,fun z=>?_⟩
 ·show X.d - pay X x.2≤a.d; omega
 ·rw [wo8_s,ho]; show X.b+(x.2 - pay X x.2) - (X.d - pay X x.2)=a.b - a.d+(wo8 a.u S+x.2); omega
 ·rw [fr8_s,ho]; show (((insI x.1 X.u).length:Nat):Int)=a.u.length+(fr8 a.u S+1); rw [insI_len]; omega
 ·show z∈insI x.1 X.u↔_
  rw [insI_mem,map_s,h.m z]
  constructor
  ·rintro (e | e | e)
   ·exact .inr (.inr e)
   ·exact .inl e
   ·exact .inr (.inl e)
  ·rintro (e | e | e)
   ·exact .inr (.inl e)
   ·exact .inr (.inr e)
   ·exact .inl e
theorem Cr.bal {a:Ac} {S:List (Int × Int)} {X:Ac} (h:Cr a S X) (hS:Lg S) (hl:S.length≤20) (hb:a.b≤1000000000) (hu:a.u.length≤12):X.b≤1010000000∧X.u.length≤32:=by
 have h1:=fr8_b (u:=a.u) hS
 have h2:=h.b; have h3:=h.d; have h4:=h.l
 omega
theorem Cr.crE {a:Ac} {S:List (Int × Int)} {X:Ac} (h:Cr a S X) (hS:Lg S) (hl:S.length≤20) (hb:a.b≤1000000000) (hu:a.u.length≤12) {n m:Int} (hL:(1≤n∧n≤65536)∧1≤m∧m≤65536):Vc.crE X false n m (sealK a.k (o4 n++o4 m))=bif X.u.contains n then 9 else 0:=by
 obtain ⟨h1,h2⟩:=h.bal hS hl hb hu
 have hp:=pay_b h.ok (m:=m) (by omega) (by omega)
 have hi:(ints X.u).length=X.u.length:=List.length_map _
 unfold Vc.crE va
 rw [h.k,keq_self]
 show crR X n m=_
 unfold crR
 rw [hi,beq_eq_false_iff_ne.2 (show ((X.u.length:Nat):Int)≠256 by omega),decide_eq_false (by omega)]
 cases X.u.contains n <;> rfl
def tk8 (k:Ky) (x:Int × Int):Tk:=⟨x.1,x.2,sealK k (o4 x.1++o4 x.2)⟩
theorem all8 {a:Ac} (hb:a.b≤1000000000) (hu:a.u.length≤12):∀ (T S:List (Int × Int)) (X:Ac) (i:Int) (L:List Int),Lg S→Lg T→S.length+T.length≤20→Cr a S X→Cr a (S++T) (allX false (T.map (tk8 a.k)) i X L).1∧(((allX false (T.map (tk8 a.k)) i X L).2.length:Nat):Int)=L.length+fr8 a.u (S++T) - fr8 a.u S
 | [],S,X,i,L,_,_,_,h=>by rw [List.append_nil]; exact ⟨h,by show ((L.length:Nat):Int)=_; omega⟩
 | x::r,S,X,i,L,hS,hT,hl,h=>by
  have hx:=hT x List.mem_cons_self
  have hr:Lg r:=fun y hy=>hT y (List.mem_cons_of_mem _ hy)
  have hS2:Lg (S++[x]):=fun y hy=>by
   rcases List.mem_append.1 hy with e | e
   ·exact hS y e
   ·rw [List.mem_singleton.1 e]; exact hx
  rw [List.length_cons] at hl
  have hl2:(S++[x]).length+r.length≤20:=by rw [List.length_append]; show S.length+1+_≤_; omega
  have e:=h.crE hS (by omega) hb hu hx
  rw [show S++x::r=(S++[x])++r by simp]
  show Cr a _ (bif Vc.crE X false x.1 x.2 (sealK a.k (o4 x.1++o4 x.2)) != 0 then allX false (r.map (tk8 a.k)) (i+1) X L else allX false (r.map (tk8 a.k)) (i+1) (crO X x.1 x.2) (L++[i])).1∧((((bif Vc.crE X false x.1 x.2 (sealK a.k (o4 x.1++o4 x.2)) != 0 then allX false (r.map (tk8 a.k)) (i+1) X L else allX false (r.map (tk8 a.k)) (i+1) (crO X x.1 x.2) (L++[i])).2.length:Nat):Int))=_
  by_cases hm:x.1∈X.u
  ·rw [List.contains_iff_mem.2 hm] at e
   rw [e]
   have ho:old8 a.u S x.1=true:=old8_t.2 ((h.m _).1 hm)
   have z:=all8 hb hu r (S++[x]) X (i+1) L hS2 hr hl2 (h.old hm)
   have f:fr8 a.u (S++[x])=fr8 a.u S:=by rw [fr8_s,ho]; rfl
   rw [f] at z
   exact z
  ·rw [show X.u.contains x.1=false by rw [Bool.eq_false_iff]; exact fun e=>hm (List.contains_iff_mem.1 e)] at e
   rw [e]
   have ho:old8 a.u S x.1=false:=old8_f fun e=>hm ((h.m _).2 e)
   have z:=all8 hb hu r (S++[x]) (crO X x.1 x.2) (i+1) (L++[i]) hS2 hr hl2 (h.new hx hm e)
   have f:fr8 a.u (S++[x])=fr8 a.u S+1:=by rw [fr8_s,ho]; rfl
   rw [f,List.length_append] at z
   refine ⟨z.1,?_⟩
   have z2:=z.2
   have z3:(L.length+[i].length:Nat)=L.length+1:=rfl
   rw [z3] at z2
   show (((allX false (r.map (tk8 a.k)) (i+1) (crO X x.1 x.2) (L++[i])).2.length:Nat):Int)=_
   omega
theorem again8 {u:List Int}:∀ (T:List (Int × Int)) {S:List (Int × Int)},(∀ x∈T,x∈S)→fr8 u (S++T)=fr8 u S∧wo8 u (S++T)=wo8 u S
 | [],S,_=>by rw [List.append_nil]; exact ⟨rfl,rfl⟩
 | x::r,S,h=>by
  have hx:=h x List.mem_cons_self
  have ho:old8 u S x.1=true:=old8_t.2 (.inr (List.mem_map_of_mem hx))
  rw [show S++x::r=(S++[x])++r by simp]
  obtain ⟨h1,h2⟩:=again8 (u:=u) r (S:=S++[x]) fun y hy=>List.mem_append_left _ (h y (List.mem_cons_of_mem _ hy))
  rw [h1,h2,fr8_s,wo8_s,ho]
  exact ⟨rfl,rfl⟩
def sm8 (f:Int × Int→Int):List (Int × Int)→Int
 | []=>0
 | x::r=>sm8 f r+f x
theorem sm8_a (f:Int × Int→Int):∀ (S T:List (Int × Int)),sm8 f (S++T)=sm8 f S+sm8 f T
 | [],T=>by show sm8 f T=0+sm8 f T; omega
 | x::r,T=>by show sm8 f (r++T)+f x=sm8 f r+f x+sm8 f T; rw [sm8_a f r T]; omega
theorem sm8_r (f:Int × Int→Int):∀ S:List (Int × Int),sm8 f S.reverse=sm8 f S
 | []=>rfl
 | x::r=>by rw [List.reverse_cons,sm8_a,sm8_r f r]; show sm8 f r+(0+f x)=sm8 f r+f x; omega
theorem fr_sm (u:List Int):∀ {S:List (Int × Int)},(S.map Prod.fst).Nodup→frR u S=sm8 (fun x=>bif u.contains x.1 then 0 else 1) S∧woR u S=sm8 (fun x=>bif u.contains x.1 then 0 else x.2) S
 | [],_=>⟨rfl,rfl⟩
 | x::r,h=>by
  rw [List.map_cons,List.nodup_cons] at h
  obtain ⟨h1,h2⟩:=fr_sm u h.2
  have hx:(r.map Prod.fst).contains x.1=false:=by rw [Bool.eq_false_iff]; exact fun e=>h.1 (List.contains_iff_mem.1 e)
  rw [frR,woR,sm8,sm8,hx,h1,h2,Bool.or_false]
  cases u.contains x.1
  ·exact ⟨rfl,rfl⟩
  ·exact ⟨(Int.add_zero _).symm,(Int.add_zero _).symm⟩
theorem rev8 {u:List Int} {S:List (Int × Int)} (h:(S.map Prod.fst).Nodup):fr8 u S.reverse=fr8 u S∧wo8 u S.reverse=wo8 u S:=by
 have h2:(S.reverse.map Prod.fst).Nodup:=by rw [List.map_reverse]; exact List.pairwise_reverse.2 (h.imp fun e=>e.symm)
 unfold fr8 wo8
 rw [List.reverse_reverse,(fr_sm u h).1,(fr_sm u h).2,(fr_sm u h2).1,(fr_sm u h2).2,sm8_r,sm8_r]
 exact ⟨rfl,rfl⟩
theorem Cr.eq {a:Ac} {S T:List (Int × Int)} {X Y:Ac} (h:Cr a S X) (h2:Cr a T Y) (hd:a.d=0) (hw:wo8 a.u S=wo8 a.u T) (hm:∀ z,z∈S.map Prod.fst↔z∈T.map Prod.fst):(Y.b=X.b∧Y.d=X.d)∧(Y.s=X.s∧Y.e=X.e)∧(Y.k=X.k∧Y.n=X.n)∧Y.u=X.u:=by
 have d1:=(ckA_ds h.ok).1.1
 have d2:=(ckA_ds h2.ok).1.1
 have b1:=h.b; have b2:=h2.b; have e1:=h.d; have e2:=h2.d
 refine ⟨⟨by omega,by omega⟩,⟨by rw [h2.s,h.s],by rw [h2.e,h.e]⟩,⟨by rw [h2.k,h.k],by rw [h2.n,h.n]⟩,?_⟩
 exact asc_ext (ckA_asc h2.ok).1 (ckA_asc h.ok).1 fun z=>by rw [h.m,h2.m,hm]
def pk8 (x:Int × Int):Ky:=⟨x.1 / 16777216 % 256,x.1 / 65536 % 256,x.1 / 256 % 256,x.1 % 256,x.2 / 16777216 % 256,x.2 / 65536 % 256,x.2 / 256 % 256,x.2 % 256⟩
def ls8 (p:Ky):List Int:=[p.a,p.b,p.c,p.d,p.e,p.f,p.g,p.h]
theorem ls8_pk (x:Int × Int):ls8 (pk8 x)=o4 x.1++o4 x.2:=rfl
theorem ls8_b {p:Ky} (h:p.ok):∀ b∈ls8 p,0≤b∧b≤255:=by
 obtain ⟨h0,h1,h2,h3,h4,h5,h6,h7⟩:=h
 intro b hb
 simp only [ls8,List.mem_cons,List.not_mem_nil,or_false] at hb
 rcases hb with rfl | rfl | rfl | rfl | rfl | rfl | rfl | rfl <;> assumption
theorem pk8_ok (x:Int × Int):(pk8 x).ok:=by
 unfold pk8 Ky.ok
 refine ⟨?_,?_,?_,?_,?_,?_,?_,?_⟩ <;> constructor <;> dsimp only <;> omega
theorem sk_ok (j x:Int) (s:List Int):0≤sk j x s∧sk j x s≤255:=by
 unfold sk
 have e:∀ z:Int,IntKind.wrap .u8 z=z % 256:=fun z=>rfl
 rw [e]; omega
theorem sl8_ok (k:Ky) (s:List Int):(sealK k s).ok:=⟨sk_ok _ _ _,sk_ok _ _ _,sk_ok _ _ _,sk_ok _ _ _,sk_ok _ _ _,sk_ok _ _ _,sk_ok _ _ _,sk_ok _ _ _⟩
theorem o4_nu {a b c d:Int} (h0:0≤a∧a≤255) (h1:0≤b∧b≤255) (h2:0≤c∧c≤255) (h3:0≤d∧d≤255):o4 (nu a b c d 4)=[a,b,c,d]:=by
 show [_,_,_,_]=_
 simp only [nu]
 rw [show ((((0 * 256+a) * 256+b) * 256+c) * 256+d) / 16777216 % 256=a by omega,show ((((0 * 256+a) * 256+b) * 256+c) * 256+d) / 65536 % 256=b by omega,show ((((0 * 256+a) * 256+b) * 256+c) * 256+d) / 256 % 256=c by omega,show ((((0 * 256+a) * 256+b) * 256+c) * 256+d) % 256=d by omega]
theorem nu_o4 {n:Int} (h:0≤n∧n≤999999999):nu (n / 16777216 % 256) (n / 65536 % 256) (n / 256 % 256) (n % 256) 4=n:=by
 simp only [nu]
 omega
def Brk (p q p' q':Ky):Prop:=(q'=q∧∃ (A:List Int) (x y:Int) (B:List Int),ls8 p=A++x::B∧ls8 p'=A++y::B∧x≠y)∨(p'=p∧keq q' q=false)
theorem blk_seal {k p p' q':Ky} (hk:k.ok) (hp:p.ok) (hp':p'.ok) (h:Brk p (sealK k (ls8 p)) p' q'):keq q' (sealK k (ls8 p'))=false:=by
 rcases h with ⟨rfl,A,x,y,B,e1,e2,hne⟩ | ⟨rfl,h⟩
 ·rw [Bool.eq_false_iff]
  intro h
  unfold keq at h
  rw [Bool.and_eq_true,beq_iff_eq] at h
  have h0:sk 0 k.a (ls8 p)=sk 0 k.a (ls8 p'):=h.1
  rw [sk_b (by decide) hk.1 (ls8_b hp),sk_b (by decide) hk.1 (ls8_b hp'),e1,e2] at h0
  have b1:=ls8_b hp x (by rw [e1]; simp)
  have b2:=ls8_b hp' y (by rw [e2]; simp)
  exact hne (sealJ_b1 (by decide) b1 b2 h0)
 ·exact h
def beq8 (p q p' q':Ky):Bool:=p.a==p'.a&&(p.b==p'.b&&(p.c==p'.c&&(p.d==p'.d&&(p.e==p'.e&&(p.f==p'.f&&(p.g==p'.g&&(p.h==p'.h&&(q.a==q'.a&&(q.b==q'.b&&(q.c==q'.c&&(q.d==q'.d&&(q.e==q'.e&&(q.f==q'.f&&(q.g==q'.g&&(q.h==q'.h&&true)))))))))))))))
theorem beq8_s (p q:Ky):beq8 p q p q=true:=by unfold beq8; simp
theorem beq8_e {p q p' q':Ky} (h:beq8 p q p' q'=true):p=p'∧q=q':=by
 unfold beq8 at h
 simp only [Bool.and_eq_true,beq_iff_eq] at h
 obtain ⟨h0,h1,h2,h3,h4,h5,h6,h7,h8,h9,h10,h11,h12,h13,h14,h15,_⟩:=h
 cases p; cases q; cases p'; cases q'
 simp only [Ky.mk.injEq]
 exact ⟨⟨h0,h1,h2,h3,h4,h5,h6,h7⟩,h8,h9,h10,h11,h12,h13,h14,h15⟩
theorem blk_ne {k p p' q':Ky} (hk:k.ok) (hp:p.ok) (hp':p'.ok) (h:Brk p (sealK k (ls8 p)) p' q') (x:Int × Int):beq8 (pk8 x) (sealK k (o4 x.1++o4 x.2)) p' q'=false:=by
 rw [Bool.eq_false_iff]
 intro e
 obtain ⟨e1,e2⟩:=beq8_e e
 have z:=blk_seal hk hp hp' h
 rw [← e1,ls8_pk,e2,keq_self] at z
 cases z
theorem blk_va {k p p' q':Ky} {X:Ac} (hk:k.ok) (hp:p.ok) (hp':p'.ok) (h:Brk p (sealK k (ls8 p)) p' q') (hX:X.k=k):va X false (nu p'.a p'.b p'.c p'.d 4) (nu p'.e p'.f p'.g p'.h 4) q'=false:=by
 obtain ⟨h0,h1,h2,h3,h4,h5,h6,h7⟩:=id hp'
 have z:=blk_seal hk hp hp' h
 unfold va
 rw [hX,o4_nu h0 h1 h2 h3,o4_nu h4 h5 h6 h7]
 show (keq q' (sealK k (ls8 p'))||(false&&_))=false
 rw [z]; rfl
end Vc
namespace Vc
open Go Go.Proofs
theorem u16s_fit:∀ {es:List Data},(∀ e∈es,∃ ds,e=.agg ds∧Fits' [.int .u16,.int .u16] ds)→∃ l:List (Int × Int),es=u16s l∧∀ x∈l,(0≤x.1∧x.1≤65535)∧0≤x.2∧x.2≤65535
 | [],_=>⟨[],rfl,fun _ h=>by cases h⟩
 | e::r,h=>by
  obtain ⟨ds,rfl,hd⟩:=h e List.mem_cons_self
  obtain ⟨a,t1,rfl,ha,h1⟩:=u16_fit hd
  obtain ⟨b,t2,rfl,hb,h2⟩:=u16_fit h1
  obtain rfl:=fits_nil h2
  obtain ⟨l,rfl,hl⟩:=u16s_fit (es:=r) fun x hx=>h x (List.mem_cons_of_mem _ hx)
  exact ⟨(a,b)::l,rfl,fun p hp=>by
   rcases List.mem_cons.1 hp with rfl | hp
   ·exact ⟨ha,hb⟩
   ·exact hl p hp⟩
theorem u16l_fit {r:List CT} {ds:List Data} (h:Fits' (.sl true [.int .u16,.int .u16]::r) ds):∃ (l:List (Int × Int)) (t:List Data),ds=.slice 2 (u16s l)::t∧(∀ x∈l,(0≤x.1∧x.1≤65535)∧0≤x.2∧x.2≤65535)∧Fits' r t:=by
 simp only [Fits'] at h
 obtain ⟨d,t,rfl,hd,ht⟩:=h
 simp only [Fit] at hd
 obtain ⟨es,rfl,he⟩:=hd
 obtain ⟨l,rfl,hl⟩:=u16s_fit (es:=es) fun e h=>by
  obtain ⟨ds,h1,h2⟩:=he e h
  exact ⟨ds,h1,by simpa only [Fits'] using h2⟩
 exact ⟨l,t,rfl,hl,ht⟩
theorem wgts_u16s:∀ (l:List (Int × Int)),l.length≤wgts (u16s l)
 | []=>Nat.zero_le _
 | x::r=>by
  have h:=wgts_u16s r
  have e:wgts (u16s (x::r))=(1+(1+0))+wgts (u16s r):=rfl
  rw [e]; simp only [List.length_cons]; omega
end Vc
set_option maxRecDepth 10000
set_option maxHeartbeats 4000000
namespace Vc
open Go Go.Proofs
def bkd (k:Ky) (x:Int × Int):Data:=.agg [.int .u8 (x.1 / 16777216 % 256),.int .u8 (x.1 / 65536 % 256),.int .u8 (x.1 / 256 % 256),.int .u8 (x.1 % 256),.int .u8 (x.2 / 16777216 % 256),.int .u8 (x.2 / 65536 % 256),.int .u8 (x.2 / 256 % 256),.int .u8 (x.2 % 256),.int .u8 (sealK k (o4 x.1++o4 x.2)).a,.int .u8 (sealK k (o4 x.1++o4 x.2)).b,.int .u8 (sealK k (o4 x.1++o4 x.2)).c,.int .u8 (sealK k (o4 x.1++o4 x.2)).d,.int .u8 (sealK k (o4 x.1++o4 x.2)).e,.int .u8 (sealK k (o4 x.1++o4 x.2)).f,.int .u8 (sealK k (o4 x.1++o4 x.2)).g,.int .u8 (sealK k (o4 x.1++o4 x.2)).h]
def blks (k:Ky) (S:List (Int × Int)):List Data:=S.map (bkd k)
theorem blks_len (k:Ky) (S:List (Int × Int)):(blks k S).length=S.length:=List.length_map _
theorem blks_at {k:Ky} {S:List (Int × Int)} {i:Nat} {x:Int × Int} (h:S[i]?=some x):(blks k S)[((i:Int)).toNat]?=some (.agg [.int .u8 (x.1 / 16777216 % 256),.int .u8 (x.1 / 65536 % 256),.int .u8 (x.1 / 256 % 256),.int .u8 (x.1 % 256),.int .u8 (x.2 / 16777216 % 256),.int .u8 (x.2 / 65536 % 256),.int .u8 (x.2 / 256 % 256),.int .u8 (x.2 % 256),.int .u8 (sealK k (o4 x.1++o4 x.2)).a,.int .u8 (sealK k (o4 x.1++o4 x.2)).b,.int .u8 (sealK k (o4 x.1++o4 x.2)).c,.int .u8 (sealK k (o4 x.1++o4 x.2)).d,.int .u8 (sealK k (o4 x.1++o4 x.2)).e,.int .u8 (sealK k (o4 x.1++o4 x.2)).f,.int .u8 (sealK k (o4 x.1++o4 x.2)).g,.int .u8 (sealK k (o4 x.1++o4 x.2)).h]):=by
 show (S.map _)[i]?=_
 rw [List.getElem?_map,h]; rfl
theorem blks_s (k:Ky) (S:List (Int × Int)) (x:Int × Int):blks k S++[Data.agg [.int .u8 (x.1 / 16777216 % 256),.int .u8 (x.1 / 65536 % 256),.int .u8 (x.1 / 256 % 256),.int .u8 (x.1 % 256),.int .u8 (x.2 / 16777216 % 256),.int .u8 (x.2 / 65536 % 256),.int .u8 (x.2 / 256 % 256),.int .u8 (x.2 % 256),.int .u8 (sealK k (o4 x.1++o4 x.2)).a,.int .u8 (sealK k (o4 x.1++o4 x.2)).b,.int .u8 (sealK k (o4 x.1++o4 x.2)).c,.int .u8 (sealK k (o4 x.1++o4 x.2)).d,.int .u8 (sealK k (o4 x.1++o4 x.2)).e,.int .u8 (sealK k (o4 x.1++o4 x.2)).f,.int .u8 (sealK k (o4 x.1++o4 x.2)).g,.int .u8 (sealK k (o4 x.1++o4 x.2)).h]]=blks k (S++[x]):=by unfold blks; rw [List.map_append]; rfl
theorem c40_l (k:Ky) {x:Int × Int} (hx:(1≤x.1∧x.1≤65536)∧1≤x.2∧x.2≤65536):CallDet Tryz.prog 40 [.d (.agg [.int .u8 (x.1 / 16777216 % 256),.int .u8 (x.1 / 65536 % 256),.int .u8 (x.1 / 256 % 256),.int .u8 (x.1 % 256),.int .u8 (x.2 / 16777216 % 256),.int .u8 (x.2 / 65536 % 256),.int .u8 (x.2 / 256 % 256),.int .u8 (x.2 % 256),.int .u8 (sealK k (o4 x.1++o4 x.2)).a,.int .u8 (sealK k (o4 x.1++o4 x.2)).b,.int .u8 (sealK k (o4 x.1++o4 x.2)).c,.int .u8 (sealK k (o4 x.1++o4 x.2)).d,.int .u8 (sealK k (o4 x.1++o4 x.2)).e,.int .u8 (sealK k (o4 x.1++o4 x.2)).f,.int .u8 (sealK k (o4 x.1++o4 x.2)).g,.int .u8 (sealK k (o4 x.1++o4 x.2)).h])] [.agg [.int .i64 x.1,.int .i64 x.2,.int .u8 (sealK k (o4 x.1++o4 x.2)).a,.int .u8 (sealK k (o4 x.1++o4 x.2)).b,.int .u8 (sealK k (o4 x.1++o4 x.2)).c,.int .u8 (sealK k (o4 x.1++o4 x.2)).d,.int .u8 (sealK k (o4 x.1++o4 x.2)).e,.int .u8 (sealK k (o4 x.1++o4 x.2)).f,.int .u8 (sealK k (o4 x.1++o4 x.2)).g,.int .u8 (sealK k (o4 x.1++o4 x.2)).h],.int .i64 0]:=by
 have z:=c40 (pk8 x) (sealK k (o4 x.1++o4 x.2)) (pk8_ok x)
 rw [show nu (pk8 x).a (pk8 x).b (pk8 x).c (pk8 x).d 4=x.1 from nu_o4 (by omega),show nu (pk8 x).e (pk8 x).f (pk8 x).g (pk8 x).h 4=x.2 from nu_o4 (by omega),ckT_in hx] at z
 exact z
theorem c39_l (k:Ky) {n m:Int} (hx:(1≤n∧n≤65536)∧1≤m∧m≤65536):CallDet Tryz.prog 39 [.d (.agg [.int .i64 n,.int .i64 m,.int .u8 (sealK k (o4 n++o4 m)).a,.int .u8 (sealK k (o4 n++o4 m)).b,.int .u8 (sealK k (o4 n++o4 m)).c,.int .u8 (sealK k (o4 n++o4 m)).d,.int .u8 (sealK k (o4 n++o4 m)).e,.int .u8 (sealK k (o4 n++o4 m)).f,.int .u8 (sealK k (o4 n++o4 m)).g,.int .u8 (sealK k (o4 n++o4 m)).h])] [.agg [.int .u8 (n / 16777216 % 256),.int .u8 (n / 65536 % 256),.int .u8 (n / 256 % 256),.int .u8 (n % 256),.int .u8 (m / 16777216 % 256),.int .u8 (m / 65536 % 256),.int .u8 (m / 256 % 256),.int .u8 (m % 256),.int .u8 (sealK k (o4 n++o4 m)).a,.int .u8 (sealK k (o4 n++o4 m)).b,.int .u8 (sealK k (o4 n++o4 m)).c,.int .u8 (sealK k (o4 n++o4 m)).d,.int .u8 (sealK k (o4 n++o4 m)).e,.int .u8 (sealK k (o4 n++o4 m)).f,.int .u8 (sealK k (o4 n++o4 m)).g,.int .u8 (sealK k (o4 n++o4 m)).h],.int .i64 0]:=by
 have z:=c39 n m (sealK k (o4 n++o4 m))
 rw [ckT_in hx] at z
 exact z
theorem c38_l {k:Ky} (hk:k.ok) {n m:Int} (hx:(1≤n∧n≤65536)∧1≤m∧m≤65536):CallDet Tryz.prog 38 [.d (.agg [.int .u8 k.a,.int .u8 k.b,.int .u8 k.c,.int .u8 k.d,.int .u8 k.e,.int .u8 k.f,.int .u8 k.g,.int .u8 k.h]),.d (.int .i64 n),.d (.int .i64 m)] [.agg [.int .i64 n,.int .i64 m,.int .u8 (sealK k (o4 n++o4 m)).a,.int .u8 (sealK k (o4 n++o4 m)).b,.int .u8 (sealK k (o4 n++o4 m)).c,.int .u8 (sealK k (o4 n++o4 m)).d,.int .u8 (sealK k (o4 n++o4 m)).e,.int .u8 (sealK k (o4 n++o4 m)).f,.int .u8 (sealK k (o4 n++o4 m)).g,.int .u8 (sealK k (o4 n++o4 m)).h],.int .i64 0]:=by
 have z:=c38 n m k hk
 rw [ckT_in hx] at z
 exact z
theorem c28_n {a X:Ac} {S:List (Int × Int)} {x:Int × Int} (h:Cr a S X) (hS:Lg S) (hl:S.length≤20) (hb:a.b≤1000000000) (hu:a.u.length≤12) (hk:a.k.ok) (hn:a.n.ok) (hx:(1≤x.1∧x.1≤65536)∧1≤x.2∧x.2≤65536) (hm:x.1∉X.u):CallDet Tryz.prog 28 [.d (.agg [.int .i64 (X.b),.int .i64 (X.d),.int .i64 X.s,.int .i64 X.e,.int .u8 X.k.a,.int .u8 X.k.b,.int .u8 X.k.c,.int .u8 X.k.d,.int .u8 X.k.e,.int .u8 X.k.f,.int .u8 X.k.g,.int .u8 X.k.h,.int .u8 X.n.a,.int .u8 X.n.b,.int .u8 X.n.c,.int .u8 X.n.d,.int .u8 X.n.e,.int .u8 X.n.f,.int .u8 X.n.g,.int .u8 X.n.h,.bool false,.slice 1 (ints X.u)]),.d (.agg [.int .i64 x.1,.int .i64 x.2,.int .u8 (sealK a.k (o4 x.1++o4 x.2)).a,.int .u8 (sealK a.k (o4 x.1++o4 x.2)).b,.int .u8 (sealK a.k (o4 x.1++o4 x.2)).c,.int .u8 (sealK a.k (o4 x.1++o4 x.2)).d,.int .u8 (sealK a.k (o4 x.1++o4 x.2)).e,.int .u8 (sealK a.k (o4 x.1++o4 x.2)).f,.int .u8 (sealK a.k (o4 x.1++o4 x.2)).g,.int .u8 (sealK a.k (o4 x.1++o4 x.2)).h])] [.agg [.int .i64 (X.b+(x.2 - pay X x.2)),.int .i64 (X.d - pay X x.2),.int .i64 X.s,.int .i64 X.e,.int .u8 X.k.a,.int .u8 X.k.b,.int .u8 X.k.c,.int .u8 X.k.d,.int .u8 X.k.e,.int .u8 X.k.f,.int .u8 X.k.g,.int .u8 X.k.h,.int .u8 X.n.a,.int .u8 X.n.b,.int .u8 X.n.c,.int .u8 X.n.d,.int .u8 X.n.e,.int .u8 X.n.f,.int .u8 X.n.g,.int .u8 X.n.h,.bool false,.slice 1 (ints (insI x.1 X.u))],.int .i64 0]∧Cr a (S++[x]) (crO X x.1 x.2):=by
 have e:=h.crE hS hl hb hu hx
 rw [show X.u.contains x.1=false by rw [Bool.eq_false_iff]; exact fun e=>hm (List.contains_iff_mem.1 e)] at e
 obtain ⟨_,h2⟩:=h.bal hS hl hb hu
 have z:=c28 X false x.1 x.2 (sealK a.k (o4 x.1++o4 x.2)) (by omega) (by rw [h.k]; exact hk) (by rw [h.n]; exact hn)
 rw [h.ok,ckT_in hx,e] at z
 exact ⟨z,h.new hx hm e⟩
theorem c28_o {a X:Ac} {S:List (Int × Int)} {x:Int × Int} (h:Cr a S X) (hS:Lg S) (hl:S.length≤20) (hb:a.b≤1000000000) (hu:a.u.length≤12) (hk:a.k.ok) (hn:a.n.ok) (hx:(1≤x.1∧x.1≤65536)∧1≤x.2∧x.2≤65536) (hm:x.1∈X.u):CallDet Tryz.prog 28 [.d (.agg [.int .i64 (X.b),.int .i64 (X.d),.int .i64 X.s,.int .i64 X.e,.int .u8 X.k.a,.int .u8 X.k.b,.int .u8 X.k.c,.int .u8 X.k.d,.int .u8 X.k.e,.int .u8 X.k.f,.int .u8 X.k.g,.int .u8 X.k.h,.int .u8 X.n.a,.int .u8 X.n.b,.int .u8 X.n.c,.int .u8 X.n.d,.int .u8 X.n.e,.int .u8 X.n.f,.int .u8 X.n.g,.int .u8 X.n.h,.bool false,.slice 1 (ints X.u)]),.d (.agg [.int .i64 x.1,.int .i64 x.2,.int .u8 (sealK a.k (o4 x.1++o4 x.2)).a,.int .u8 (sealK a.k (o4 x.1++o4 x.2)).b,.int .u8 (sealK a.k (o4 x.1++o4 x.2)).c,.int .u8 (sealK a.k (o4 x.1++o4 x.2)).d,.int .u8 (sealK a.k (o4 x.1++o4 x.2)).e,.int .u8 (sealK a.k (o4 x.1++o4 x.2)).f,.int .u8 (sealK a.k (o4 x.1++o4 x.2)).g,.int .u8 (sealK a.k (o4 x.1++o4 x.2)).h])] [.agg [.int .i64 0,.int .i64 0,.int .i64 0,.int .i64 0,.int .u8 0,.int .u8 0,.int .u8 0,.int .u8 0,.int .u8 0,.int .u8 0,.int .u8 0,.int .u8 0,.int .u8 0,.int .u8 0,.int .u8 0,.int .u8 0,.int .u8 0,.int .u8 0,.int .u8 0,.int .u8 0,.bool false,.slice 1 []],.int .i64 9]∧Cr a (S++[x]) X:=by
 have e:=h.crE hS hl hb hu hx
 rw [List.contains_iff_mem.2 hm] at e
 obtain ⟨_,h2⟩:=h.bal hS hl hb hu
 have z:=c28 X false x.1 x.2 (sealK a.k (o4 x.1++o4 x.2)) (by omega) (by rw [h.k]; exact hk) (by rw [h.n]; exact hn)
 rw [h.ok,ckT_in hx,e] at z
 exact ⟨z,h.old hm⟩
theorem c28_b {a X:Ac} {S:List (Int × Int)} {p p' q':Ky} (h:Cr a S X) (hS:Lg S) (hl:S.length≤20) (hb:a.b≤1000000000) (hu:a.u.length≤12) (hk:a.k.ok) (hn:a.n.ok) (hp:p.ok) (hp':p'.ok) (hB:Brk p (sealK a.k (ls8 p)) p' q') (ht:ckT (nu p'.a p'.b p'.c p'.d 4) (nu p'.e p'.f p'.g p'.h 4)=0):CallDet Tryz.prog 28 [.d (.agg [.int .i64 (X.b),.int .i64 (X.d),.int .i64 X.s,.int .i64 X.e,.int .u8 X.k.a,.int .u8 X.k.b,.int .u8 X.k.c,.int .u8 X.k.d,.int .u8 X.k.e,.int .u8 X.k.f,.int .u8 X.k.g,.int .u8 X.k.h,.int .u8 X.n.a,.int .u8 X.n.b,.int .u8 X.n.c,.int .u8 X.n.d,.int .u8 X.n.e,.int .u8 X.n.f,.int .u8 X.n.g,.int .u8 X.n.h,.bool false,.slice 1 (ints X.u)]),.d (.agg [.int .i64 (nu p'.a p'.b p'.c p'.d 4),.int .i64 (nu p'.e p'.f p'.g p'.h 4),.int .u8 q'.a,.int .u8 q'.b,.int .u8 q'.c,.int .u8 q'.d,.int .u8 q'.e,.int .u8 q'.f,.int .u8 q'.g,.int .u8 q'.h])] [.agg [.int .i64 0,.int .i64 0,.int .i64 0,.int .i64 0,.int .u8 0,.int .u8 0,.int .u8 0,.int .u8 0,.int .u8 0,.int .u8 0,.int .u8 0,.int .u8 0,.int .u8 0,.int .u8 0,.int .u8 0,.int .u8 0,.int .u8 0,.int .u8 0,.int .u8 0,.int .u8 0,.bool false,.slice 1 []],.int .i64 27]:=by
 obtain ⟨_,h2⟩:=h.bal hS hl hb hu
 have z:=c28 X false (nu p'.a p'.b p'.c p'.d 4) (nu p'.e p'.f p'.g p'.h 4) q' (by omega) (by rw [h.k]; exact hk) (by rw [h.n]; exact hn)
 rw [h.ok,ht,show crE X false (nu p'.a p'.b p'.c p'.d 4) (nu p'.e p'.f p'.g p'.h 4) q'=27 by unfold crE; rw [blk_va hk hp hp' hB h.k]; rfl] at z
 exact z
end Vc
set_option maxRecDepth 10000
namespace Vc
open Go Go.Proofs
@[irreducible] def seg8a:ACode :=
 (.loop
 (.post [1,3,5,7,8,9,10,67,68,69] [2,3,4,5,6,7,8]
 (.seq
 (.reg [] [⟨some 70,.cmp .lss (.tmp 69) (.tmp 68),none⟩])
 (.seq
 (.cond (.tmp 70)
 .skip
 (.exit 0))
 (.seq
 (.block 1
 (.seq
 (.reg [2] [⟨some 71,.ixa 2 (.tmp 67) (.tmp 69),none⟩,
 ⟨some 72,.ld true 2 (.tmp 71),none⟩,
 ⟨some 12,.alloc 2 [(.d (.int .u16 0)),(.d (.int .u16 0))],none⟩,
 ⟨none,.st 2 (.tmp 12) (.tmp 72),none⟩])
 (.seq
 (.reg [3] [⟨some 74,.fad 4 (.tmp 3),none⟩,
 ⟨some 75,.ld true 8 (.tmp 74),none⟩,
 ⟨some 76,.ixp 2 1 (.tmp 12) (.cst (.d (.int .i64 0))),none⟩,
 ⟨some 77,.ld false 1 (.tmp 76),none⟩,
 ⟨some 78,.conv .i64 (.tmp 77),none⟩,
 ⟨some 79,.arith .add .i64 (.cst (.d (.int .i64 1))) (.tmp 78),none⟩,
 ⟨some 80,.ixp 2 1 (.tmp 12) (.cst (.d (.int .i64 1))),none⟩,
 ⟨some 81,.ld false 1 (.tmp 80),none⟩,
 ⟨some 82,.conv .i64 (.tmp 81),none⟩,
 ⟨some 83,.arith .add .i64 (.cst (.d (.int .i64 1))) (.tmp 82),none⟩,
 ⟨some 84,.call 38 [(.tmp 75),(.tmp 79),(.tmp 83)],none⟩,
 ⟨some 73,.mov (.tmp 84),none⟩,
 ⟨some 85,.ext 0 (.tmp 73),none⟩,
 ⟨some 86,.ext 1 (.tmp 73),none⟩,
 ⟨some 13,.alloc 3 [(.d (.int .i64 0)),(.d (.int .i64 0)),(.d (.int .u8 0)),(.d (.int .u8 0)),(.d (.int .u8 0)),(.d (.int .u8 0)),(.d (.int .u8 0)),(.d (.int .u8 0)),(.d (.int .u8 0)),(.d (.int .u8 0))],none⟩,
 ⟨none,.st 10 (.tmp 13) (.tmp 85),none⟩,
 ⟨some 14,.mov (.tmp 86),none⟩])
 (.seq
 (.seq
 (.reg [] [⟨some 87,.mov (.tmp 14),none⟩,
 ⟨some 88,.cmp .neq (.tmp 87) (.cst (.d (.int .i64 0))),none⟩])
 (.cond (.tmp 88)
 (.seq
 (.reg [] [⟨some 6,.mov (.cst (.d (.bool false))),none⟩])
 .ret)
 .skip))
 (.seq
 (.reg [4] [⟨some 90,.ld true 10 (.tmp 13),none⟩,
 ⟨some 91,.call 39 [(.tmp 90)],none⟩,
 ⟨some 89,.mov (.tmp 91),none⟩,
 ⟨some 92,.ext 0 (.tmp 89),none⟩,
 ⟨some 93,.ext 1 (.tmp 89),none⟩,
 ⟨some 15,.alloc 4 [(.d (.int .u8 0)),(.d (.int .u8 0)),(.d (.int .u8 0)),(.d (.int .u8 0)),(.d (.int .u8 0)),(.d (.int .u8 0)),(.d (.int .u8 0)),(.d (.int .u8 0)),(.d (.int .u8 0)),(.d (.int .u8 0)),(.d (.int .u8 0)),(.d (.int .u8 0)),(.d (.int .u8 0)),(.d (.int .u8 0)),(.d (.int .u8 0)),(.d (.int .u8 0))],none⟩,
 ⟨none,.st 16 (.tmp 15) (.tmp 92),none⟩,
 ⟨some 16,.mov (.tmp 93),none⟩])
 (.seq
 (.seq
 (.reg [] [⟨some 94,.mov (.tmp 16),none⟩,
 ⟨some 95,.cmp .neq (.tmp 94) (.cst (.d (.int .i64 0))),none⟩])
 (.cond (.tmp 95)
 (.seq
 (.reg [] [⟨some 6,.mov (.cst (.d (.bool false))),none⟩])
 .ret)
 .skip))
 (.seq
 (.reg [5,6] [⟨some 96,.mov (.tmp 7),none⟩,
 ⟨some 97,.ld true 16 (.tmp 15),none⟩,
 ⟨some 98,.bsl 5 64 16 1 [(.agg [(.int .u8 0),(.int .u8 0),(.int .u8 0),(.int .u8 0),(.int .u8 0),(.int .u8 0),(.int .u8 0),(.int .u8 0),(.int .u8 0),(.int .u8 0),(.int .u8 0),(.int .u8 0),(.int .u8 0),(.int .u8 0),(.int .u8 0),(.int .u8 0)])] [(0,(.tmp 97))],none⟩,
 ⟨some 99,.app 6 64 16 16 (.tmp 96) (.tmp 98),none⟩,
 ⟨some 7,.mov (.tmp 99),none⟩])
 (.seq
 (.seq
 (.reg [] [⟨some 100,.fad 21 (.tmp 3),none⟩,
 ⟨some 101,.ld false 1 (.tmp 100),none⟩,
 ⟨some 102,.fad 0 (.tmp 13),none⟩,
 ⟨some 103,.ld false 1 (.tmp 102),none⟩,
 ⟨some 104,.call 66 [(.tmp 101),(.tmp 103)],none⟩,
 ⟨some 105,.not (.tmp 104),none⟩,
 ⟨some 106,.mov (.tmp 105),none⟩,
 ⟨some 107,.mov (.tmp 10),some (106,true)⟩,
 ⟨some 108,.fad 0 (.tmp 13),some (106,true)⟩,
 ⟨some 109,.ld false 1 (.tmp 108),some (106,true)⟩,
 ⟨some 110,.call 66 [(.tmp 107),(.tmp 109)],some (106,true)⟩,
 ⟨some 111,.not (.tmp 110),some (106,true)⟩,
 ⟨some 112,.pick (.tmp 106) (.tmp 111) (.cst (.d (.bool false))),none⟩])
 (.cond (.tmp 112)
 (.seq
 (.reg [] [⟨some 113,.mov (.tmp 8),none⟩,
 ⟨some 114,.fad 1 (.tmp 13),none⟩,
 ⟨some 115,.ld false 1 (.tmp 114),none⟩,
 ⟨some 116,.arith .add .i64 (.tmp 113) (.tmp 115),none⟩,
 ⟨some 8,.mov (.tmp 116),none⟩])
 (.reg [] [⟨some 117,.mov (.tmp 9),none⟩,
 ⟨some 118,.arith .add .i64 (.tmp 117) (.cst (.d (.int .i64 1))),none⟩,
 ⟨some 9,.mov (.tmp 118),none⟩]))
 .skip))
 (.reg [7,8] [⟨some 119,.mov (.tmp 10),none⟩,
 ⟨some 120,.fad 0 (.tmp 13),none⟩,
 ⟨some 121,.ld false 1 (.tmp 120),none⟩,
 ⟨some 122,.bsl 7 3 1 1 [(.int .i64 0)] [(0,(.tmp 121))],none⟩,
 ⟨some 123,.app 8 3 1 8 (.tmp 119) (.tmp 122),none⟩,
 ⟨some 10,.mov (.tmp 123),none⟩])))))))))
 (.reg [] [⟨some 124,.arith .add .i64 (.tmp 69) (.cst (.d (.int .i64 1))),none⟩,
 ⟨some 69,.mov (.tmp 124),none⟩]))))))
@[irreducible] def seg8b:ACode :=
 (.loop
 (.post [1,3,7,8,9,19,20,21,164,165,166] [17,18,19]
 (.seq
 (.reg [] [⟨some 167,.cmp .lss (.tmp 166) (.tmp 165),none⟩])
 (.seq
 (.cond (.tmp 167)
 .skip
 (.exit 2))
 (.seq
 (.block 3
 (.seq
 (.reg [17] [⟨some 168,.ixa 16 (.tmp 164) (.tmp 166),none⟩,
 ⟨some 169,.ld true 16 (.tmp 168),none⟩,
 ⟨some 23,.alloc 17 [(.d (.int .u8 0)),(.d (.int .u8 0)),(.d (.int .u8 0)),(.d (.int .u8 0)),(.d (.int .u8 0)),(.d (.int .u8 0)),(.d (.int .u8 0)),(.d (.int .u8 0)),(.d (.int .u8 0)),(.d (.int .u8 0)),(.d (.int .u8 0)),(.d (.int .u8 0)),(.d (.int .u8 0)),(.d (.int .u8 0)),(.d (.int .u8 0)),(.d (.int .u8 0))],none⟩,
 ⟨none,.st 16 (.tmp 23) (.tmp 169),none⟩])
 (.seq
 (.reg [18] [⟨some 171,.ld true 16 (.tmp 23),none⟩,
 ⟨some 172,.call 40 [(.tmp 171)],none⟩,
 ⟨some 170,.mov (.tmp 172),none⟩,
 ⟨some 173,.ext 0 (.tmp 170),none⟩,
 ⟨some 174,.ext 1 (.tmp 170),none⟩,
 ⟨some 24,.alloc 18 [(.d (.int .i64 0)),(.d (.int .i64 0)),(.d (.int .u8 0)),(.d (.int .u8 0)),(.d (.int .u8 0)),(.d (.int .u8 0)),(.d (.int .u8 0)),(.d (.int .u8 0)),(.d (.int .u8 0)),(.d (.int .u8 0))],none⟩,
 ⟨none,.st 10 (.tmp 24) (.tmp 173),none⟩,
 ⟨some 25,.mov (.tmp 174),none⟩])
 (.seq
 (.seq
 (.reg [] [⟨some 175,.mov (.tmp 25),none⟩,
 ⟨some 176,.cmp .neq (.tmp 175) (.cst (.d (.int .i64 0))),none⟩])
 (.cond (.tmp 176)
 (.seq
 (.seq
 (.reg [] [⟨some 177,.ld true 16 (.tmp 23),none⟩,
 ⟨some 178,.ld true 16 (.tmp 19),none⟩,
 ⟨some 179,.aeq false [0,0,0,0,0,0,0,0,0,0,0,0,0,0,0,0] (.tmp 177) (.tmp 178),none⟩,
 ⟨some 180,.mov (.tmp 179),none⟩,
 ⟨some 181,.mov (.tmp 25),some (180,true)⟩,
 ⟨some 182,.cmp .eql (.tmp 181) (.cst (.d (.int .i64 3))),some (180,true)⟩,
 ⟨some 183,.pick (.tmp 180) (.tmp 182) (.cst (.d (.bool false))),none⟩])
 (.cond (.tmp 183)
 (.exit 3)
 .skip))
 (.seq
 (.reg [] [⟨some 6,.mov (.cst (.d (.bool false))),none⟩])
 .ret))
 .skip))
 (.seq
 (.regd [19] [⟨some 185,.ld true 22 (.tmp 20),none⟩,
 ⟨some 186,.call 67 [(.tmp 185)],none⟩,
 ⟨some 187,.call 17 [(.tmp 186)],none⟩,
 ⟨some 188,.ld true 10 (.tmp 24),none⟩,
 ⟨some 189,.call 28 [(.tmp 187),(.tmp 188)],none⟩,
 ⟨some 184,.mov (.tmp 189),none⟩,
 ⟨some 190,.ext 0 (.tmp 184),none⟩,
 ⟨some 191,.ext 1 (.tmp 184),none⟩,
 ⟨some 26,.alloc 19 [(.d (.int .i64 0)),(.d (.int .i64 0)),(.d (.int .i64 0)),(.d (.int .i64 0)),(.d (.int .u8 0)),(.d (.int .u8 0)),(.d (.int .u8 0)),(.d (.int .u8 0)),(.d (.int .u8 0)),(.d (.int .u8 0)),(.d (.int .u8 0)),(.d (.int .u8 0)),(.d (.int .u8 0)),(.d (.int .u8 0)),(.d (.int .u8 0)),(.d (.int .u8 0)),(.d (.int .u8 0)),(.d (.int .u8 0)),(.d (.int .u8 0)),(.d (.int .u8 0)),(.d (.bool false)),(.nils 1)],none⟩,
 ⟨none,.st 22 (.tmp 26) (.tmp 190),none⟩,
 ⟨some 27,.mov (.tmp 191),none⟩] [(0,3),(1,3),(2,3),(6,7),(0,8),(1,8),(2,8),(3,8),(4,8),(5,8),(6,8),(7,8),(7,9)])
 (.seq
 (.seq
 (.reg [] [⟨some 192,.ld true 16 (.tmp 23),none⟩,
 ⟨some 193,.ld true 16 (.tmp 19),none⟩,
 ⟨some 194,.aeq false [0,0,0,0,0,0,0,0,0,0,0,0,0,0,0,0] (.tmp 192) (.tmp 193),none⟩])
 (.cond (.tmp 194)
 (.seq
 (.seq
 (.reg [] [⟨some 195,.mov (.tmp 27),none⟩,
 ⟨some 196,.cmp .neq (.tmp 195) (.cst (.d (.int .i64 27))),none⟩])
 (.cond (.tmp 196)
 (.seq
 (.reg [] [⟨some 6,.mov (.cst (.d (.bool false))),none⟩])
 .ret)
 .skip))
 (.exit 3))
 .skip))
 (.seq
 (.seq
 (.reg [] [⟨some 197,.mov (.tmp 27),none⟩,
 ⟨some 198,.cmp .eql (.tmp 197) (.cst (.d (.int .i64 9))),none⟩])
 (.cond (.tmp 198)
 (.exit 3)
 .skip))
 (.seq
 (.reg [] [⟨some 199,.fad 1 (.tmp 20),none⟩,
 ⟨some 200,.ld false 1 (.tmp 199),none⟩,
 ⟨some 201,.fad 1 (.tmp 26),none⟩,
 ⟨some 202,.ld false 1 (.tmp 201),none⟩,
 ⟨some 203,.arith .sub .i64 (.tmp 200) (.tmp 202),none⟩,
 ⟨some 28,.mov (.tmp 203),none⟩])
 (.seq
 (.seq
 (.reg [] [⟨some 204,.mov (.tmp 27),none⟩,
 ⟨some 205,.cmp .neq (.tmp 204) (.cst (.d (.int .i64 0))),none⟩,
 ⟨some 206,.mov (.tmp 205),none⟩,
 ⟨some 207,.fad 21 (.tmp 26),some (206,false)⟩,
 ⟨some 208,.ld false 1 (.tmp 207),some (206,false)⟩,
 ⟨some 209,.len (.tmp 208),some (206,false)⟩,
 ⟨some 210,.fad 21 (.tmp 20),some (206,false)⟩,
 ⟨some 211,.ld false 1 (.tmp 210),some (206,false)⟩,
 ⟨some 212,.len (.tmp 211),some (206,false)⟩,
 ⟨some 213,.arith .add .i64 (.tmp 212) (.cst (.d (.int .i64 1))),some (206,false)⟩,
 ⟨some 214,.cmp .neq (.tmp 209) (.tmp 213),some (206,false)⟩,
 ⟨some 215,.pick (.tmp 206) (.cst (.d (.bool true))) (.tmp 214),none⟩,
 ⟨some 216,.mov (.tmp 215),none⟩,
 ⟨some 217,.fad 21 (.tmp 26),some (216,false)⟩,
 ⟨some 218,.ld false 1 (.tmp 217),some (216,false)⟩,
 ⟨some 219,.len (.tmp 218),some (216,false)⟩,
 ⟨some 220,.cmp .gtr (.tmp 219) (.cst (.d (.int .i64 40))),some (216,false)⟩,
 ⟨some 221,.pick (.tmp 216) (.cst (.d (.bool true))) (.tmp 220),none⟩,
 ⟨some 222,.mov (.tmp 221),none⟩,
 ⟨some 223,.fad 0 (.tmp 26),some (222,false)⟩,
 ⟨some 224,.ld false 1 (.tmp 223),some (222,false)⟩,
 ⟨some 225,.fad 0 (.tmp 20),some (222,false)⟩,
 ⟨some 226,.ld false 1 (.tmp 225),some (222,false)⟩,
 ⟨some 227,.arith .sub .i64 (.tmp 224) (.tmp 226),some (222,false)⟩,
 ⟨some 228,.mov (.tmp 28),some (222,false)⟩,
 ⟨some 229,.arith .add .i64 (.tmp 227) (.tmp 228),some (222,false)⟩,
 ⟨some 230,.fad 1 (.tmp 24),some (222,false)⟩,
 ⟨some 231,.ld false 1 (.tmp 230),some (222,false)⟩,
 ⟨some 232,.cmp .neq (.tmp 229) (.tmp 231),some (222,false)⟩,
 ⟨some 233,.pick (.tmp 222) (.cst (.d (.bool true))) (.tmp 232),none⟩,
 ⟨some 234,.mov (.tmp 233),none⟩,
 ⟨some 235,.mov (.tmp 28),some (234,false)⟩,
 ⟨some 236,.cmp .lss (.tmp 235) (.cst (.d (.int .i64 0))),some (234,false)⟩,
 ⟨some 237,.pick (.tmp 234) (.cst (.d (.bool true))) (.tmp 236),none⟩,
 ⟨some 238,.mov (.tmp 237),none⟩,
 ⟨some 239,.mov (.tmp 28),some (238,false)⟩,
 ⟨some 240,.arith .mul .i64 (.cst (.d (.int .i64 100))) (.tmp 239),some (238,false)⟩,
 ⟨some 241,.fad 1 (.tmp 24),some (238,false)⟩,
 ⟨some 242,.ld false 1 (.tmp 241),some (238,false)⟩,
 ⟨some 243,.fad 2 (.tmp 3),some (238,false)⟩,
 ⟨some 244,.ld false 1 (.tmp 243),some (238,false)⟩,
 ⟨some 245,.arith .mul .i64 (.tmp 242) (.tmp 244),some (238,false)⟩,
 ⟨some 246,.cmp .gtr (.tmp 240) (.tmp 245),some (238,false)⟩,
 ⟨some 247,.pick (.tmp 238) (.cst (.d (.bool true))) (.tmp 246),none⟩,
 ⟨some 248,.mov (.tmp 247),none⟩,
 ⟨some 249,.fad 21 (.tmp 26),some (248,false)⟩,
 ⟨some 250,.ld false 1 (.tmp 249),some (248,false)⟩,
 ⟨some 251,.fad 0 (.tmp 24),some (248,false)⟩,
 ⟨some 252,.ld false 1 (.tmp 251),some (248,false)⟩,
 ⟨some 253,.call 66 [(.tmp 250),(.tmp 252)],some (248,false)⟩,
 ⟨some 254,.not (.tmp 253),some (248,false)⟩,
 ⟨some 255,.pick (.tmp 248) (.cst (.d (.bool true))) (.tmp 254),none⟩,
 ⟨some 256,.mov (.tmp 255),none⟩,
 ⟨some 257,.fad 4 (.tmp 26),some (256,false)⟩,
 ⟨some 258,.ld true 8 (.tmp 257),some (256,false)⟩,
 ⟨some 259,.fad 4 (.tmp 3),some (256,false)⟩,
 ⟨some 260,.ld true 8 (.tmp 259),some (256,false)⟩,
 ⟨some 261,.aeq true [0,0,0,0,0,0,0,0] (.tmp 258) (.tmp 260),some (256,false)⟩,
 ⟨some 262,.pick (.tmp 256) (.cst (.d (.bool true))) (.tmp 261),none⟩])
 (.cond (.tmp 262)
 (.seq
 (.reg [] [⟨some 6,.mov (.cst (.d (.bool false))),none⟩])
 .ret)
 .skip))
 (.seq
 (.reg [] [⟨some 263,.ld true 22 (.tmp 26),none⟩,
 ⟨none,.st 22 (.tmp 20) (.tmp 263),none⟩])
 (.reg [] [⟨some 264,.mov (.tmp 21),none⟩,
 ⟨some 265,.arith .add .i64 (.tmp 264) (.cst (.d (.int .i64 1))),none⟩,
 ⟨some 21,.mov (.tmp 265),none⟩])))))))))))
 (.reg [] [⟨some 266,.arith .add .i64 (.tmp 166) (.cst (.d (.int .i64 1))),none⟩,
 ⟨some 166,.mov (.tmp 266),none⟩]))))))
@[irreducible] def seg8d:ACode :=
 (.loop
 (.post [1,3,7,9,20,29,292,293,296,297] []
 (.seq
 (.reg [] [⟨some 298,.cmp .lss (.tmp 297) (.tmp 296),none⟩])
 (.seq
 (.cond (.tmp 298)
 .skip
 (.exit 6))
 (.seq
 (.block 7
 (.seq
 (.reg [] [⟨some 299,.mov (.tmp 297),none⟩,
 ⟨some 30,.mov (.tmp 299),none⟩])
 (.seq
 (.regd [] [⟨some 300,.mov (.tmp 1),none⟩,
 ⟨some 301,.mov (.tmp 29),none⟩,
 ⟨some 302,.ixa 2 (.tmp 300) (.tmp 301),none⟩,
 ⟨some 303,.ixp 2 1 (.tmp 302) (.cst (.d (.int .i64 0))),none⟩,
 ⟨some 304,.ld false 1 (.tmp 303),none⟩,
 ⟨some 305,.mov (.tmp 1),none⟩,
 ⟨some 306,.mov (.tmp 30),none⟩,
 ⟨some 307,.ixa 2 (.tmp 305) (.tmp 306),none⟩,
 ⟨some 308,.ixp 2 1 (.tmp 307) (.cst (.d (.int .i64 0))),none⟩,
 ⟨some 309,.ld false 1 (.tmp 308),none⟩,
 ⟨some 310,.cmp .eql (.tmp 304) (.tmp 309),none⟩] [(0,1),(0,5),(1,5),(2,5),(3,5),(4,5),(0,6),(1,6),(2,6),(3,6),(4,6),(5,6),(0,7),(1,7),(2,7),(3,7),(4,7),(0,8),(1,8),(2,8),(3,8),(4,8),(0,9),(1,9),(2,9),(3,9),(4,9)])
 (.cond (.tmp 310)
 (.seq
 (.reg [] [⟨some 311,.call 15 [],none⟩,
 ⟨some 6,.mov (.tmp 311),none⟩])
 .ret)
 .skip))))
 (.reg [] [⟨some 312,.arith .add .i64 (.tmp 297) (.cst (.d (.int .i64 1))),none⟩,
 ⟨some 297,.mov (.tmp 312),none⟩]))))))
@[irreducible] def seg8c:ACode :=
 (.loop
 (.post [1,3,7,9,20,292,293] []
 (.seq
 (.reg [] [⟨some 294,.cmp .lss (.tmp 293) (.tmp 292),none⟩])
 (.seq
 (.cond (.tmp 294)
 .skip
 (.exit 4))
 (.seq
 (.block 5
 (.seq
 (.reg [] [⟨some 295,.mov (.tmp 293),none⟩,
 ⟨some 29,.mov (.tmp 295),none⟩])
 (.seq
 (.reg [] [⟨some 296,.mov (.tmp 29),none⟩,
 ⟨some 297,.mov (.cst (.d (.int .i64 0))),none⟩])
 (.post [1,3,7,9,20,292,293] [0,1,2,3,4,5,6,7,8,9,10,11,12,13,14,15,16,17,18,19]
 (.block 6
 (.keep [1,3,7,9,20,29,292,293,296,297] [0,1,2,3,4,5,6,7,8,9,10,11,12,13,14,15,16,17,18,19]
 seg8d))))))
 (.reg [] [⟨some 313,.arith .add .i64 (.tmp 293) (.cst (.d (.int .i64 1))),none⟩,
 ⟨some 293,.mov (.tmp 313),none⟩]))))))
@[irreducible] def seg8e:ACode :=
 (.loop
 (.post [3,7,9,20,31,32] [20,21,22]
 (.seq
 (.seq
 (.reg [] [⟨some 321,.mov (.tmp 32),none⟩,
 ⟨some 322,.cmp .geq (.tmp 321) (.cst (.d (.int .i64 0))),none⟩])
 (.cond (.tmp 322)
 .skip
 (.exit 8)))
 (.seq
 (.block 9
 (.seq
 (.reg [20] [⟨some 326,.mov (.tmp 7),none⟩,
 ⟨some 327,.mov (.tmp 32),none⟩,
 ⟨some 328,.ixa 16 (.tmp 326) (.tmp 327),none⟩,
 ⟨some 329,.ld true 16 (.tmp 328),none⟩,
 ⟨some 330,.call 40 [(.tmp 329)],none⟩,
 ⟨some 325,.mov (.tmp 330),none⟩,
 ⟨some 331,.ext 0 (.tmp 325),none⟩,
 ⟨some 332,.ext 1 (.tmp 325),none⟩,
 ⟨some 33,.alloc 20 [(.d (.int .i64 0)),(.d (.int .i64 0)),(.d (.int .u8 0)),(.d (.int .u8 0)),(.d (.int .u8 0)),(.d (.int .u8 0)),(.d (.int .u8 0)),(.d (.int .u8 0)),(.d (.int .u8 0)),(.d (.int .u8 0))],none⟩,
 ⟨none,.st 10 (.tmp 33) (.tmp 331),none⟩,
 ⟨some 34,.mov (.tmp 332),none⟩])
 (.seq
 (.seq
 (.reg [] [⟨some 333,.mov (.tmp 34),none⟩,
 ⟨some 334,.cmp .neq (.tmp 333) (.cst (.d (.int .i64 0))),none⟩])
 (.cond (.tmp 334)
 (.seq
 (.reg [] [⟨some 6,.mov (.cst (.d (.bool false))),none⟩])
 .ret)
 .skip))
 (.reg [21,22] [⟨some 335,.mov (.tmp 31),none⟩,
 ⟨some 336,.ld true 10 (.tmp 33),none⟩,
 ⟨some 337,.bsl 21 51 10 1 [(.agg [(.int .i64 0),(.int .i64 0),(.int .u8 0),(.int .u8 0),(.int .u8 0),(.int .u8 0),(.int .u8 0),(.int .u8 0),(.int .u8 0),(.int .u8 0)])] [(0,(.tmp 336))],none⟩,
 ⟨some 338,.app 22 51 10 24 (.tmp 335) (.tmp 337),none⟩,
 ⟨some 31,.mov (.tmp 338),none⟩]))))
 (.reg [] [⟨some 323,.mov (.tmp 32),none⟩,
 ⟨some 324,.arith .sub .i64 (.tmp 323) (.cst (.d (.int .i64 1))),none⟩,
 ⟨some 32,.mov (.tmp 324),none⟩])))))
@[irreducible] def rest8e:ACode :=
 (.seq
          (.reg [23] [⟨some 340,.ld true 22 (.tmp 3),none⟩,
           ⟨some 341,.call 17 [(.tmp 340)],none⟩,
           ⟨some 342,.mov (.tmp 31),none⟩,
           ⟨some 343,.call 29 [(.tmp 341),(.tmp 342)],none⟩,
           ⟨some 339,.mov (.tmp 343),none⟩,
           ⟨some 344,.ext 0 (.tmp 339),none⟩,
           ⟨some 345,.ext 1 (.tmp 339),none⟩,
           ⟨some 346,.ext 2 (.tmp 339),none⟩,
           ⟨some 35,.alloc 23 [(.d (.int .i64 0)),(.d (.int .i64 0)),(.d (.int .i64 0)),(.d (.int .i64 0)),(.d (.int .u8 0)),(.d (.int .u8 0)),(.d (.int .u8 0)),(.d (.int .u8 0)),(.d (.int .u8 0)),(.d (.int .u8 0)),(.d (.int .u8 0)),(.d (.int .u8 0)),(.d (.int .u8 0)),(.d (.int .u8 0)),(.d (.int .u8 0)),(.d (.int .u8 0)),(.d (.int .u8 0)),(.d (.int .u8 0)),(.d (.int .u8 0)),(.d (.int .u8 0)),(.d (.bool false)),(.nils 1)],none⟩,
           ⟨none,.st 22 (.tmp 35) (.tmp 344),none⟩,
           ⟨some 36,.mov (.tmp 345),none⟩,
           ⟨some 37,.mov (.tmp 346),none⟩])
          (.seq
           (.regd [] [⟨some 347,.mov (.tmp 37),none⟩,
            ⟨some 348,.cmp .eql (.tmp 347) (.cst (.d (.int .i64 0))),none⟩,
            ⟨some 349,.mov (.tmp 348),none⟩,
            ⟨some 350,.mov (.tmp 36),some (349,true)⟩,
            ⟨some 351,.len (.tmp 350),some (349,true)⟩,
            ⟨some 352,.mov (.tmp 9),some (349,true)⟩,
            ⟨some 353,.cmp .eql (.tmp 351) (.tmp 352),some (349,true)⟩,
            ⟨some 354,.pick (.tmp 349) (.tmp 353) (.cst (.d (.bool false))),none⟩,
            ⟨some 355,.mov (.tmp 354),none⟩,
            ⟨some 356,.ld true 22 (.tmp 35),some (355,true)⟩,
            ⟨some 357,.call 67 [(.tmp 356)],some (355,true)⟩,
            ⟨some 358,.ld true 22 (.tmp 20),some (355,true)⟩,
            ⟨some 359,.call 67 [(.tmp 358)],some (355,true)⟩,
            ⟨some 360,.call 68 [(.tmp 357),(.tmp 359)],some (355,true)⟩,
            ⟨some 361,.pick (.tmp 355) (.tmp 360) (.cst (.d (.bool false))),none⟩,
            ⟨some 362,.mov (.tmp 361),none⟩,
            ⟨some 363,.call 15 [],some (362,true)⟩,
            ⟨some 364,.pick (.tmp 362) (.tmp 363) (.cst (.d (.bool false))),none⟩,
            ⟨some 6,.mov (.tmp 364),none⟩] [(3,5),(4,5),(9,11),(10,11)])
           .ret))
@[irreducible] def rest8d:ACode :=
 (.seq
         (.seq
         (.reg [] [⟨some 314,.fad 1 (.tmp 3),none⟩,
          ⟨some 315,.ld false 1 (.tmp 314),none⟩,
          ⟨some 316,.cmp .gtr (.tmp 315) (.cst (.d (.int .i64 0))),none⟩])
         (.cond (.tmp 316)
          (.seq
          (.reg [] [⟨some 317,.call 15 [],none⟩,
           ⟨some 6,.mov (.tmp 317),none⟩])
          .ret)
          .skip))
         (.seq
         (.reg [] [⟨some 31,.mov (.cst (.nils 10)),none⟩])
         (.seq
          (.seq
          (.reg [] [⟨some 318,.mov (.tmp 7),none⟩,
           ⟨some 319,.len (.tmp 318),none⟩,
           ⟨some 320,.arith .sub .i64 (.tmp 319) (.cst (.d (.int .i64 1))),none⟩,
           ⟨some 32,.mov (.tmp 320),none⟩])
          (.post [3,9,20,31] [0,1,2,3,4,5,6,7,8,9,10,11,12,13,14,15,16,17,18,19,20,21,22]
           (.block 8
           (.asrow 22 51 10 31
            (.keep [3,7,9,20,31,32] [0,1,2,3,4,5,6,7,8,9,10,11,12,13,14,15,16,17,18,19]
            seg8e)))))
          (.asdat 31 rest8e))))
@[irreducible] def rest8c:ACode :=
 (.seq
        (.seq
        (.reg [] [⟨some 267,.mov (.tmp 21),none⟩,
         ⟨some 268,.mov (.tmp 9),none⟩,
         ⟨some 269,.cmp .neq (.tmp 267) (.tmp 268),none⟩,
         ⟨some 270,.mov (.tmp 269),none⟩,
         ⟨some 271,.fad 0 (.tmp 20),some (270,false)⟩,
         ⟨some 272,.ld false 1 (.tmp 271),some (270,false)⟩,
         ⟨some 273,.fad 1 (.tmp 3),some (270,false)⟩,
         ⟨some 274,.ld false 1 (.tmp 273),some (270,false)⟩,
         ⟨some 275,.arith .add .i64 (.tmp 272) (.tmp 274),some (270,false)⟩,
         ⟨some 276,.fad 1 (.tmp 20),some (270,false)⟩,
         ⟨some 277,.ld false 1 (.tmp 276),some (270,false)⟩,
         ⟨some 278,.arith .sub .i64 (.tmp 275) (.tmp 277),some (270,false)⟩,
         ⟨some 279,.fad 0 (.tmp 3),some (270,false)⟩,
         ⟨some 280,.ld false 1 (.tmp 279),some (270,false)⟩,
         ⟨some 281,.mov (.tmp 8),some (270,false)⟩,
         ⟨some 282,.arith .add .i64 (.tmp 280) (.tmp 281),some (270,false)⟩,
         ⟨some 283,.cmp .neq (.tmp 278) (.tmp 282),some (270,false)⟩,
         ⟨some 284,.pick (.tmp 270) (.cst (.d (.bool true))) (.tmp 283),none⟩,
         ⟨some 285,.mov (.tmp 284),none⟩,
         ⟨some 286,.ld true 22 (.tmp 20),some (285,false)⟩,
         ⟨some 287,.call 67 [(.tmp 286)],some (285,false)⟩,
         ⟨some 288,.call 20 [(.tmp 287)],some (285,false)⟩,
         ⟨some 289,.cmp .neq (.tmp 288) (.cst (.d (.int .i64 0))),some (285,false)⟩,
         ⟨some 290,.pick (.tmp 285) (.cst (.d (.bool true))) (.tmp 289),none⟩])
        (.cond (.tmp 290)
         (.seq
         (.reg [] [⟨some 6,.mov (.cst (.d (.bool false))),none⟩])
         .ret)
         .skip))
        (.seq
        (.seq
         (.reg [] [⟨some 291,.mov (.tmp 1),none⟩,
          ⟨some 292,.len (.tmp 291),none⟩,
          ⟨some 293,.mov (.cst (.d (.int .i64 0))),none⟩])
         (.post [3,7,9,20] [0,1,2,3,4,5,6,7,8,9,10,11,12,13,14,15,16,17,18,19]
         (.block 4
          (.keep [1,3,7,9,20,292,293] [0,1,2,3,4,5,6,7,8,9,10,11,12,13,14,15,16,17,18,19]
          seg8c))))
        rest8d))
@[irreducible] def rest8b:ACode :=
 (.seq
      (.reg [14] [⟨some 159,.ld true 22 (.tmp 3),none⟩,
       ⟨some 160,.call 17 [(.tmp 159)],none⟩,
       ⟨some 20,.alloc 14 [(.d (.int .i64 0)),(.d (.int .i64 0)),(.d (.int .i64 0)),(.d (.int .i64 0)),(.d (.int .u8 0)),(.d (.int .u8 0)),(.d (.int .u8 0)),(.d (.int .u8 0)),(.d (.int .u8 0)),(.d (.int .u8 0)),(.d (.int .u8 0)),(.d (.int .u8 0)),(.d (.int .u8 0)),(.d (.int .u8 0)),(.d (.int .u8 0)),(.d (.int .u8 0)),(.d (.int .u8 0)),(.d (.int .u8 0)),(.d (.int .u8 0)),(.d (.int .u8 0)),(.d (.bool false)),(.nils 1)],none⟩,
       ⟨none,.st 22 (.tmp 20) (.tmp 160),none⟩])
      (.seq
       (.reg [] [⟨some 21,.mov (.cst (.d (.int .i64 0))),none⟩])
       (.seq
       (.seq
        (.reg [15,16] [⟨some 161,.mov (.tmp 18),none⟩,
         ⟨some 162,.ld true 16 (.tmp 19),none⟩,
         ⟨some 163,.bsl 15 64 16 1 [(.agg [(.int .u8 0),(.int .u8 0),(.int .u8 0),(.int .u8 0),(.int .u8 0),(.int .u8 0),(.int .u8 0),(.int .u8 0),(.int .u8 0),(.int .u8 0),(.int .u8 0),(.int .u8 0),(.int .u8 0),(.int .u8 0),(.int .u8 0),(.int .u8 0)])] [(0,(.tmp 162))],none⟩,
         ⟨some 164,.app 16 64 16 16 (.tmp 161) (.tmp 163),none⟩,
         ⟨some 165,.len (.tmp 164),none⟩,
         ⟨some 166,.mov (.cst (.d (.int .i64 0))),none⟩])
        (.post [1,3,7,8,9,20,21] [0,1,2,3,4,5,6,7,8,9,10,11,12,13,14,15,16,17,18,19]
        (.block 2
         (.keep [1,3,7,8,9,19,20,21,164,165,166] [0,1,2,3,4,5,6,7,8,9,10,11,12,13,14,15,16]
         seg8b))))
       rest8c)))
@[irreducible] def rest8a:ACode :=
 (.seq
    (.reg [] [⟨some 125,.ixp 3 1 (.tmp 5) (.cst (.d (.int .i64 0))),none⟩,
     ⟨some 126,.ld false 1 (.tmp 125),none⟩,
     ⟨some 127,.conv .i64 (.tmp 126),none⟩,
     ⟨some 128,.mov (.tmp 7),none⟩,
     ⟨some 129,.len (.tmp 128),none⟩,
     ⟨some 130,.arith .rem .i64 (.tmp 127) (.tmp 129),none⟩,
     ⟨some 17,.mov (.tmp 130),none⟩])
    (.seq
     (.regd [9,10,11,12] [⟨some 131,.bsl 9 64 16 0 [] [],none⟩,
      ⟨some 132,.mov (.tmp 7),none⟩,
      ⟨some 133,.app 10 64 16 16 (.tmp 131) (.tmp 132),none⟩,
      ⟨some 134,.mov (.tmp 7),none⟩,
      ⟨some 135,.mov (.tmp 17),none⟩,
      ⟨some 136,.ixa 16 (.tmp 134) (.tmp 135),none⟩,
      ⟨some 137,.ld true 16 (.tmp 136),none⟩,
      ⟨some 138,.mov (.tmp 7),none⟩,
      ⟨some 139,.ixa 16 (.tmp 138) (.cst (.d (.int .i64 0))),none⟩,
      ⟨some 140,.ld true 16 (.tmp 139),none⟩,
      ⟨some 141,.bsl 11 64 16 2 [(.agg [(.int .u8 0),(.int .u8 0),(.int .u8 0),(.int .u8 0),(.int .u8 0),(.int .u8 0),(.int .u8 0),(.int .u8 0),(.int .u8 0),(.int .u8 0),(.int .u8 0),(.int .u8 0),(.int .u8 0),(.int .u8 0),(.int .u8 0),(.int .u8 0)]),(.agg [(.int .u8 0),(.int .u8 0),(.int .u8 0),(.int .u8 0),(.int .u8 0),(.int .u8 0),(.int .u8 0),(.int .u8 0),(.int .u8 0),(.int .u8 0),(.int .u8 0),(.int .u8 0),(.int .u8 0),(.int .u8 0),(.int .u8 0),(.int .u8 0)])] [(0,(.tmp 137)),(1,(.tmp 140))],none⟩,
      ⟨some 142,.app 12 64 16 16 (.tmp 133) (.tmp 141),none⟩,
      ⟨some 18,.mov (.tmp 142),none⟩] [(0,1),(0,3),(1,3),(2,3),(0,4),(1,4),(2,4),(3,4),(0,5),(1,5),(2,5),(0,6),(1,6),(2,6),(0,7),(1,7),(2,7),(3,7),(4,7),(5,7),(6,7),(0,8),(1,8),(2,8),(3,8),(4,8),(5,8),(6,8),(0,9),(1,9),(2,9),(3,9),(4,9),(5,9),(6,9),(0,10),(1,10),(2,10)])
     (.seq
     (.reg [13] [⟨some 143,.mov (.tmp 7),none⟩,
      ⟨some 144,.mov (.tmp 17),none⟩,
      ⟨some 145,.ixa 16 (.tmp 143) (.tmp 144),none⟩,
      ⟨some 146,.ld true 16 (.tmp 145),none⟩,
      ⟨some 19,.alloc 13 [(.d (.int .u8 0)),(.d (.int .u8 0)),(.d (.int .u8 0)),(.d (.int .u8 0)),(.d (.int .u8 0)),(.d (.int .u8 0)),(.d (.int .u8 0)),(.d (.int .u8 0)),(.d (.int .u8 0)),(.d (.int .u8 0)),(.d (.int .u8 0)),(.d (.int .u8 0)),(.d (.int .u8 0)),(.d (.int .u8 0)),(.d (.int .u8 0)),(.d (.int .u8 0))],none⟩,
      ⟨none,.st 16 (.tmp 19) (.tmp 146),none⟩])
     (.seq
      (.regd [] [⟨some 147,.ixp 3 1 (.tmp 5) (.cst (.d (.int .i64 1))),none⟩,
       ⟨some 148,.ld false 1 (.tmp 147),none⟩,
       ⟨some 149,.conv .i64 (.tmp 148),none⟩,
       ⟨some 150,.arith .rem .i64 (.tmp 149) (.cst (.d (.int .i64 16))),none⟩,
       ⟨some 151,.ixp 16 1 (.tmp 19) (.tmp 150),none⟩,
       ⟨some 152,.ld false 1 (.tmp 151),none⟩,
       ⟨some 153,.ixp 3 1 (.tmp 5) (.cst (.d (.int .i64 2))),none⟩,
       ⟨some 154,.ld false 1 (.tmp 153),none⟩,
       ⟨some 155,.arith .rem .u8 (.tmp 154) (.cst (.d (.int .u8 255))),none⟩,
       ⟨some 156,.arith .add .u8 (.cst (.d (.int .u8 1))) (.tmp 155),none⟩,
       ⟨some 157,.arith .add .u8 (.tmp 152) (.tmp 156),none⟩,
       ⟨some 158,.ixp 16 1 (.tmp 19) (.tmp 150),none⟩,
       ⟨none,.st 1 (.tmp 158) (.tmp 157),none⟩] [(0,6),(1,6),(2,6),(3,6),(4,6),(5,6),(0,7),(1,7),(2,7),(3,7),(4,7),(5,7),(0,8),(1,8),(2,8),(3,8),(4,8),(5,8),(0,9),(1,9),(2,9),(3,9),(4,9),(5,9)])
      (.keep [1,3,7,8,9,18,19] [0,1,2,3,4,5,6,7,8,9,10,11,12,13]
rest8b)))))
def tk8s (l:List (Int × Int)):List (Int × Int):=l.map fun x=>(1+IntKind.wrap .i64 x.1,1+IntKind.wrap .i64 x.2)
def U16 (l:List (Int × Int)):Prop:=∀ x∈l,(0≤x.1∧x.1≤65535)∧0≤x.2∧x.2≤65535
theorem wr16 {x:Int} (h:0≤x∧x≤65535):IntKind.wrap .i64 x=x:=IntWalk.i64_in _ (by omega)
theorem tk8s_lg {l:List (Int × Int)} (h:U16 l):Lg (tk8s l):=by
 intro y hy
 obtain ⟨x,hx,rfl⟩:=List.mem_map.1 hy
 obtain ⟨h1,h2⟩:=h x hx
 show (1≤1+IntKind.wrap .i64 x.1∧1+IntKind.wrap .i64 x.1≤65536)∧1≤1+IntKind.wrap .i64 x.2∧1+IntKind.wrap .i64 x.2≤65536
 rw [wr16 h1,wr16 h2]; omega
theorem tk8s_len (l:List (Int × Int)):(tk8s l).length=l.length:=List.length_map _
theorem U16_take {l:List (Int × Int)} (h:U16 l) (k:Nat):U16 (l.take k):=fun x hx=>h x (List.mem_of_mem_take hx)
theorem tk8s_step {l:List (Int × Int)} {k:Nat} {x:Int × Int} (h:l[k]?=some x):tk8s (l.take (k+1))=tk8s (l.take k)++[(1+IntKind.wrap .i64 x.1,1+IntKind.wrap .i64 x.2)]:=by unfold tk8s; rw [take_one h,List.map_append]; rfl
theorem tk8s_at {l:List (Int × Int)} {k:Nat} {x:Int × Int} (h:l[k]?=some x):(tk8s l)[k]?=some (1+IntKind.wrap .i64 x.1,1+IntKind.wrap .i64 x.2):=by
 show (l.map _)[k]?=_
 rw [List.getElem?_map,h]; rfl
end Vc
