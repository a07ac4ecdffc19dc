import Derived.Test.YtmjbifmndhianaaGreatDoorG29
import Derived.Test.YtmjbifmndhianaaGreatDoorG24
import Derived.Test.YtmjbifmndhianaaGreatDoorG14
import Derived.Test.YtmjbifmndhianaaGreatDoorG30
import Derived.Test.YtmjbifmndhianaaGreatDoorG31
import Derived.Test.YtmjbifmndhianaaGreatDoorG32
set_option linter.unusedSectionVars false
set_option linter.unusedVariables false
set_option linter.unusedSimpArgs false
set_option maxRecDepth 10000
set_option maxHeartbeats 4000000
namespace Vc
open Go Go.Proofs
theorem nod_s {l:List (Int × Int)} {k:Nat} {x:Int × Int} (h:l[k]?=some x) (hd:((l.take k).map Prod.fst).Nodup) (hn:x.1∉(l.take k).map Prod.fst):((l.take (k+1)).map Prod.fst).Nodup:=by
 rw [take_one h,List.map_append,List.nodup_append]
 refine ⟨hd,by simp,fun y hy b hb=>?_⟩
 have hb:b=x.1:=by simpa using hb
 subst hb
 exact fun e=>hn (e ▸ hy)
theorem nin_s {l:List (Int × Int)} {k:Nat} {x:Int × Int} {z:Int} (h:l[k]?=some x) (hd:z∉(l.take k).map Prod.fst) (hn:¬ z=x.1):z∉(l.take (k+1)).map Prod.fst:=by
 rw [take_one h,List.map_append,List.mem_append]
 rintro (e | e)
 ·exact hd e
 ·exact hn (by simpa using e)
theorem v8d {a:Ac} {l:List (Int × Int)} {B D:Int} {U:List Int} {i:Nat} {x:Int × Int} {Q:AExit→St→Prop} (hl:l.length≤8) (hx:l[i]?=some x) (hR:∀ st,endP [.tmp 6] [.bool true] st→Q .ret st) (hQ:∀ z:Bool,x.1∉(l.take i).map Prod.fst→Q (.exit 6) ⟨[(1,.d (.slice 2 (u16s l))),(3,.ptr 0 0),(7,.sl 6 (blks a.k (tk8s l)).length),(9,.d (.int .i64 (fr8 a.u (tk8s l)))),(20,.ptr 14 0),(29,.d (.int .i64 (((i:Nat):Int)))),(292,.d (.int .i64 (((u16s l).length:Nat):Int))),(293,.d (.int .i64 (((i:Nat):Int)))),(296,.d (.int .i64 (((i:Nat):Int)))),(297,.d (.int .i64 (((i:Nat):Int)))),(298,.d (.bool z))],[.cbox [.int .i64 (a.b),.int .i64 (a.d),.int .i64 a.s,.int .i64 a.e,.int .u8 a.k.a,.int .u8 a.k.b,.int .u8 a.k.c,.int .u8 a.k.d,.int .u8 a.k.e,.int .u8 a.k.f,.int .u8 a.k.g,.int .u8 a.k.h,.int .u8 a.n.a,.int .u8 a.n.b,.int .u8 a.n.c,.int .u8 a.n.d,.int .u8 a.n.e,.int .u8 a.n.f,.int .u8 a.n.g,.int .u8 a.n.h,.bool false,.slice 1 (ints a.u)],.none,.none,.none,.none,.none,.row 64 16 (blks a.k (tk8s l)) false,.none,.none,.none,.none,.none,.none,.none,.box [.d (.int .i64 (B)),.d (.int .i64 (D)),.d (.int .i64 a.s),.d (.int .i64 a.e),.d (.int .u8 a.k.a),.d (.int .u8 a.k.b),.d (.int .u8 a.k.c),.d (.int .u8 a.k.d),.d (.int .u8 a.k.e),.d (.int .u8 a.k.f),.d (.int .u8 a.k.g),.d (.int .u8 a.k.h),.d (.int .u8 a.n.a),.d (.int .u8 a.n.b),.d (.int .u8 a.n.c),.d (.int .u8 a.n.d),.d (.int .u8 a.n.e),.d (.int .u8 a.n.f),.d (.int .u8 a.n.g),.d (.int .u8 a.n.h),.d (.bool false),.d (.slice 1 (ints U))],.none,.none,.none,.none,.none,.none,.none,.none,.none]⟩):vc Tryz.prog 365 seg8d ⟨[(1,.d (.slice 2 (u16s l))),(3,.ptr 0 0),(7,.sl 6 (blks a.k (tk8s l)).length),(9,.d (.int .i64 (fr8 a.u (tk8s l)))),(20,.ptr 14 0),(29,.d (.int .i64 (((i:Nat):Int)))),(292,.d (.int .i64 (((u16s l).length:Nat):Int))),(293,.d (.int .i64 (((i:Nat):Int)))),(296,.d (.int .i64 (((i:Nat):Int)))),(297,.d (.int .i64 (0)))],[.cbox [.int .i64 (a.b),.int .i64 (a.d),.int .i64 a.s,.int .i64 a.e,.int .u8 a.k.a,.int .u8 a.k.b,.int .u8 a.k.c,.int .u8 a.k.d,.int .u8 a.k.e,.int .u8 a.k.f,.int .u8 a.k.g,.int .u8 a.k.h,.int .u8 a.n.a,.int .u8 a.n.b,.int .u8 a.n.c,.int .u8 a.n.d,.int .u8 a.n.e,.int .u8 a.n.f,.int .u8 a.n.g,.int .u8 a.n.h,.bool false,.slice 1 (ints a.u)],.none,.none,.none,.none,.none,.row 64 16 (blks a.k (tk8s l)) false,.none,.none,.none,.none,.none,.none,.none,.box [.d (.int .i64 (B)),.d (.int .i64 (D)),.d (.int .i64 a.s),.d (.int .i64 a.e),.d (.int .u8 a.k.a),.d (.int .u8 a.k.b),.d (.int .u8 a.k.c),.d (.int .u8 a.k.d),.d (.int .u8 a.k.e),.d (.int .u8 a.k.f),.d (.int .u8 a.k.g),.d (.int .u8 a.k.h),.d (.int .u8 a.n.a),.d (.int .u8 a.n.b),.d (.int .u8 a.n.c),.d (.int .u8 a.n.d),.d (.int .u8 a.n.e),.d (.int .u8 a.n.f),.d (.int .u8 a.n.g),.d (.int .u8 a.n.h),.d (.bool false),.d (.slice 1 (ints U))],.none,.none,.none,.none,.none,.none,.none,.none,.none]⟩ Q:=by
 unfold seg8d
 have hil:i < l.length:=(List.getElem?_eq_some_iff.1 hx).1
 have hll:=u16s_len l
 have hxa:=u16s_at hx
 refine loop_st (fun k:Nat=>⟨[(1,.d (.slice 2 (u16s l))),(3,.ptr 0 0),(7,.sl 6 (blks a.k (tk8s l)).length),(9,.d (.int .i64 (fr8 a.u (tk8s l)))),(20,.ptr 14 0),(29,.d (.int .i64 (((i:Nat):Int)))),(292,.d (.int .i64 (((u16s l).length:Nat):Int))),(293,.d (.int .i64 (((i:Nat):Int)))),(296,.d (.int .i64 (((i:Nat):Int)))),(297,.d (.int .i64 (((k:Nat):Int))))],[.cbox [.int .i64 (a.b),.int .i64 (a.d),.int .i64 a.s,.int .i64 a.e,.int .u8 a.k.a,.int .u8 a.k.b,.int .u8 a.k.c,.int .u8 a.k.d,.int .u8 a.k.e,.int .u8 a.k.f,.int .u8 a.k.g,.int .u8 a.k.h,.int .u8 a.n.a,.int .u8 a.n.b,.int .u8 a.n.c,.int .u8 a.n.d,.int .u8 a.n.e,.int .u8 a.n.f,.int .u8 a.n.g,.int .u8 a.n.h,.bool false,.slice 1 (ints a.u)],.none,.none,.none,.none,.none,.row 64 16 (blks a.k (tk8s l)) false,.none,.none,.none,.none,.none,.none,.none,.box [.d (.int .i64 (B)),.d (.int .i64 (D)),.d (.int .i64 a.s),.d (.int .i64 a.e),.d (.int .u8 a.k.a),.d (.int .u8 a.k.b),.d (.int .u8 a.k.c),.d (.int .u8 a.k.d),.d (.int .u8 a.k.e),.d (.int .u8 a.k.f),.d (.int .u8 a.k.g),.d (.int .u8 a.k.h),.d (.int .u8 a.n.a),.d (.int .u8 a.n.b),.d (.int .u8 a.n.c),.d (.int .u8 a.n.d),.d (.int .u8 a.n.e),.d (.int .u8 a.n.f),.d (.int .u8 a.n.g),.d (.int .u8 a.n.h),.d (.bool false),.d (.slice 1 (ints U))],.none,.none,.none,.none,.none,.none,.none,.none,.none]⟩) (fun k=>k≤i∧x.1∉(l.take k).map Prod.fst) (fun k=>i - k) 0 rfl ⟨Nat.zero_le _,by simp⟩ ?_
 rintro k ⟨hk,hd⟩
 have hk:k≤i:=hk
 by_cases hki:k < i
 ·refine Exists.elim (get_lt l (k:=k) (by omega)) fun y hy=>?_
  have hya:=u16s_at hy
  by_cases e:x.1=y.1
  ·rw [e] at hxa ⊢
   refine sd ?_
   refine b_lt (fun t1=>?_) (fun t1=>?_)
   refine ix_at hxa ?_ ?_
   (show (0:Int)≤(↑i:Int); omega)
   refine an ?_ ?_
   refine an ?_ ?_
   (show (0:Int)≤(0:Int); omega)
   (show (0:Int) < (↑(2:Nat):Int); omega)
   refine ix_at hya ?_ ?_
   (show (0:Int)≤(↑k:Int); omega)
   refine an ?_ ?_
   refine an ?_ ?_
   (show (0:Int)≤(0:Int); omega)
   (show (0:Int) < (↑(2:Nat):Int); omega)
   refine sd ?_
   refine b_eq (fun t2=>?_) (fun t2=>?_)
   refine ca (c15) ?_
   rotate_left
   (exfalso; omega)
   (exfalso; omega)
   all_goals exact hR _ rfl
  ·have fin:∃ a':Nat,((a'≤i∧x.1∉(l.take a').map Prod.fst)∧i - a' < i - k)∧(⟨[(1,.d (.slice 2 (u16s l))),(3,.ptr 0 0),(7,.sl 6 (blks a.k (tk8s l)).length),(9,.d (.int .i64 (fr8 a.u (tk8s l)))),(20,.ptr 14 0),(29,.d (.int .i64 (((i:Nat):Int)))),(292,.d (.int .i64 (((u16s l).length:Nat):Int))),(293,.d (.int .i64 (((i:Nat):Int)))),(296,.d (.int .i64 (((i:Nat):Int)))),(297,.d (.int .i64 (((k:Nat):Int)+1)))],[.cbox [.int .i64 (a.b),.int .i64 (a.d),.int .i64 a.s,.int .i64 a.e,.int .u8 a.k.a,.int .u8 a.k.b,.int .u8 a.k.c,.int .u8 a.k.d,.int .u8 a.k.e,.int .u8 a.k.f,.int .u8 a.k.g,.int .u8 a.k.h,.int .u8 a.n.a,.int .u8 a.n.b,.int .u8 a.n.c,.int .u8 a.n.d,.int .u8 a.n.e,.int .u8 a.n.f,.int .u8 a.n.g,.int .u8 a.n.h,.bool false,.slice 1 (ints a.u)],.none,.none,.none,.none,.none,.row 64 16 (blks a.k (tk8s l)) false,.none,.none,.none,.none,.none,.none,.none,.box [.d (.int .i64 (B)),.d (.int .i64 (D)),.d (.int .i64 a.s),.d (.int .i64 a.e),.d (.int .u8 a.k.a),.d (.int .u8 a.k.b),.d (.int .u8 a.k.c),.d (.int .u8 a.k.d),.d (.int .u8 a.k.e),.d (.int .u8 a.k.f),.d (.int .u8 a.k.g),.d (.int .u8 a.k.h),.d (.int .u8 a.n.a),.d (.int .u8 a.n.b),.d (.int .u8 a.n.c),.d (.int .u8 a.n.d),.d (.int .u8 a.n.e),.d (.int .u8 a.n.f),.d (.int .u8 a.n.g),.d (.int .u8 a.n.h),.d (.bool false),.d (.slice 1 (ints U))],.none,.none,.none,.none,.none,.none,.none,.none,.none]⟩:St)=⟨[(1,.d (.slice 2 (u16s l))),(3,.ptr 0 0),(7,.sl 6 (blks a.k (tk8s l)).length),(9,.d (.int .i64 (fr8 a.u (tk8s l)))),(20,.ptr 14 0),(29,.d (.int .i64 (((i:Nat):Int)))),(292,.d (.int .i64 (((u16s l).length:Nat):Int))),(293,.d (.int .i64 (((i:Nat):Int)))),(296,.d (.int .i64 (((i:Nat):Int)))),(297,.d (.int .i64 (((a':Nat):Int))))],[.cbox [.int .i64 (a.b),.int .i64 (a.d),.int .i64 a.s,.int .i64 a.e,.int .u8 a.k.a,.int .u8 a.k.b,.int .u8 a.k.c,.int .u8 a.k.d,.int .u8 a.k.e,.int .u8 a.k.f,.int .u8 a.k.g,.int .u8 a.k.h,.int .u8 a.n.a,.int .u8 a.n.b,.int .u8 a.n.c,.int .u8 a.n.d,.int .u8 a.n.e,.int .u8 a.n.f,.int .u8 a.n.g,.int .u8 a.n.h,.bool false,.slice 1 (ints a.u)],.none,.none,.none,.none,.none,.row 64 16 (blks a.k (tk8s l)) false,.none,.none,.none,.none,.none,.none,.none,.box [.d (.int .i64 (B)),.d (.int .i64 (D)),.d (.int .i64 a.s),.d (.int .i64 a.e),.d (.int .u8 a.k.a),.d (.int .u8 a.k.b),.d (.int .u8 a.k.c),.d (.int .u8 a.k.d),.d (.int .u8 a.k.e),.d (.int .u8 a.k.f),.d (.int .u8 a.k.g),.d (.int .u8 a.k.h),.d (.int .u8 a.n.a),.d (.int .u8 a.n.b),.d (.int .u8 a.n.c),.d (.int .u8 a.n.d),.d (.int .u8 a.n.e),.d (.int .u8 a.n.f),.d (.int .u8 a.n.g),.d (.int .u8 a.n.h),.d (.bool false),.d (.slice 1 (ints U))],.none,.none,.none,.none,.none,.none,.none,.none,.none]⟩:=⟨k+1,⟨⟨by omega,nin_s hy hd e⟩,by omega⟩,rfl⟩
   refine sd ?_
   refine b_lt (fun t1=>?_) (fun t1=>?_)
   refine ix_at hxa ?_ ?_
   (show (0:Int)≤(↑i:Int); omega)
   refine an ?_ ?_
   refine an ?_ ?_
   (show (0:Int)≤(0:Int); omega)
   (show (0:Int) < (↑(2:Nat):Int); omega)
   refine ix_at hya ?_ ?_
   (show (0:Int)≤(↑k:Int); omega)
   refine an ?_ ?_
   refine an ?_ ?_
   (show (0:Int)≤(0:Int); omega)
   (show (0:Int) < (↑(2:Nat):Int); omega)
   refine sd ?_
   refine b_eq (fun t2=>?_) (fun t2=>?_)
   (exfalso; omega)
   refine ar_add ?_ ?_
   refine an ?_ ?_
   (show (-9223372036854775808:Int)≤(↑k:Int)+(1:Int); omega)
   (show (↑k:Int)+(1:Int)≤(9223372036854775807:Int); omega)
   rotate_left
   (exfalso; omega)
   all_goals exact fin
 ·have e:k=i:=by omega
  subst e
  have hQ:=fun z=>hQ z hd
  refine sd ?_
  refine b_lt (fun t1=>?_) (fun t1=>?_)
  (exfalso; omega)
  rotate_left
  all_goals exact hQ _
theorem v8c {a:Ac} {l:List (Int × Int)} {B D:Int} {U:List Int} {Q:AExit→St→Prop} (hl:l.length≤8) (hR:∀ st,endP [.tmp 6] [.bool true] st→Q .ret st) (hQ:∀ z:Bool,(l.map Prod.fst).Nodup→Q (.exit 4) ⟨[(1,.d (.slice 2 (u16s l))),(3,.ptr 0 0),(7,.sl 6 (blks a.k (tk8s l)).length),(9,.d (.int .i64 (fr8 a.u (tk8s l)))),(20,.ptr 14 0),(292,.d (.int .i64 (((u16s l).length:Nat):Int))),(293,.d (.int .i64 (((l.length:Nat):Int)))),(294,.d (.bool z))],[.cbox [.int .i64 (a.b),.int .i64 (a.d),.int .i64 a.s,.int .i64 a.e,.int .u8 a.k.a,.int .u8 a.k.b,.int .u8 a.k.c,.int .u8 a.k.d,.int .u8 a.k.e,.int .u8 a.k.f,.int .u8 a.k.g,.int .u8 a.k.h,.int .u8 a.n.a,.int .u8 a.n.b,.int .u8 a.n.c,.int .u8 a.n.d,.int .u8 a.n.e,.int .u8 a.n.f,.int .u8 a.n.g,.int .u8 a.n.h,.bool false,.slice 1 (ints a.u)],.none,.none,.none,.none,.none,.row 64 16 (blks a.k (tk8s l)) false,.none,.none,.none,.none,.none,.none,.none,.box [.d (.int .i64 (B)),.d (.int .i64 (D)),.d (.int .i64 a.s),.d (.int .i64 a.e),.d (.int .u8 a.k.a),.d (.int .u8 a.k.b),.d (.int .u8 a.k.c),.d (.int .u8 a.k.d),.d (.int .u8 a.k.e),.d (.int .u8 a.k.f),.d (.int .u8 a.k.g),.d (.int .u8 a.k.h),.d (.int .u8 a.n.a),.d (.int .u8 a.n.b),.d (.int .u8 a.n.c),.d (.int .u8 a.n.d),.d (.int .u8 a.n.e),.d (.int .u8 a.n.f),.d (.int .u8 a.n.g),.d (.int .u8 a.n.h),.d (.bool false),.d (.slice 1 (ints U))],.none,.none,.none,.none,.none,.none,.none,.none,.none]⟩):vc Tryz.prog 365 seg8c ⟨[(1,.d (.slice 2 (u16s l))),(3,.ptr 0 0),(7,.sl 6 (blks a.k (tk8s l)).length),(9,.d (.int .i64 (fr8 a.u (tk8s l)))),(20,.ptr 14 0),(292,.d (.int .i64 (((u16s l).length:Nat):Int))),(293,.d (.int .i64 (0)))],[.cbox [.int .i64 (a.b),.int .i64 (a.d),.int .i64 a.s,.int .i64 a.e,.int .u8 a.k.a,.int .u8 a.k.b,.int .u8 a.k.c,.int .u8 a.k.d,.int .u8 a.k.e,.int .u8 a.k.f,.int .u8 a.k.g,.int .u8 a.k.h,.int .u8 a.n.a,.int .u8 a.n.b,.int .u8 a.n.c,.int .u8 a.n.d,.int .u8 a.n.e,.int .u8 a.n.f,.int .u8 a.n.g,.int .u8 a.n.h,.bool false,.slice 1 (ints a.u)],.none,.none,.none,.none,.none,.row 64 16 (blks a.k (tk8s l)) false,.none,.none,.none,.none,.none,.none,.none,.box [.d (.int .i64 (B)),.d (.int .i64 (D)),.d (.int .i64 a.s),.d (.int .i64 a.e),.d (.int .u8 a.k.a),.d (.int .u8 a.k.b),.d (.int .u8 a.k.c),.d (.int .u8 a.k.d),.d (.int .u8 a.k.e),.d (.int .u8 a.k.f),.d (.int .u8 a.k.g),.d (.int .u8 a.k.h),.d (.int .u8 a.n.a),.d (.int .u8 a.n.b),.d (.int .u8 a.n.c),.d (.int .u8 a.n.d),.d (.int .u8 a.n.e),.d (.int .u8 a.n.f),.d (.int .u8 a.n.g),.d (.int .u8 a.n.h),.d (.bool false),.d (.slice 1 (ints U))],.none,.none,.none,.none,.none,.none,.none,.none,.none]⟩ Q:=by
 unfold seg8c
 have hll:=u16s_len l
 refine loop_st (fun i:Nat=>⟨[(1,.d (.slice 2 (u16s l))),(3,.ptr 0 0),(7,.sl 6 (blks a.k (tk8s l)).length),(9,.d (.int .i64 (fr8 a.u (tk8s l)))),(20,.ptr 14 0),(292,.d (.int .i64 (((u16s l).length:Nat):Int))),(293,.d (.int .i64 (((i:Nat):Int))))],[.cbox [.int .i64 (a.b),.int .i64 (a.d),.int .i64 a.s,.int .i64 a.e,.int .u8 a.k.a,.int .u8 a.k.b,.int .u8 a.k.c,.int .u8 a.k.d,.int .u8 a.k.e,.int .u8 a.k.f,.int .u8 a.k.g,.int .u8 a.k.h,.int .u8 a.n.a,.int .u8 a.n.b,.int .u8 a.n.c,.int .u8 a.n.d,.int .u8 a.n.e,.int .u8 a.n.f,.int .u8 a.n.g,.int .u8 a.n.h,.bool false,.slice 1 (ints a.u)],.none,.none,.none,.none,.none,.row 64 16 (blks a.k (tk8s l)) false,.none,.none,.none,.none,.none,.none,.none,.box [.d (.int .i64 (B)),.d (.int .i64 (D)),.d (.int .i64 a.s),.d (.int .i64 a.e),.d (.int .u8 a.k.a),.d (.int .u8 a.k.b),.d (.int .u8 a.k.c),.d (.int .u8 a.k.d),.d (.int .u8 a.k.e),.d (.int .u8 a.k.f),.d (.int .u8 a.k.g),.d (.int .u8 a.k.h),.d (.int .u8 a.n.a),.d (.int .u8 a.n.b),.d (.int .u8 a.n.c),.d (.int .u8 a.n.d),.d (.int .u8 a.n.e),.d (.int .u8 a.n.f),.d (.int .u8 a.n.g),.d (.int .u8 a.n.h),.d (.bool false),.d (.slice 1 (ints U))],.none,.none,.none,.none,.none,.none,.none,.none,.none]⟩) (fun i=>i≤l.length∧((l.take i).map Prod.fst).Nodup) (fun i=>l.length - i) 0 rfl ⟨Nat.zero_le _,by simp⟩ ?_
 rintro i ⟨hi,hd⟩
 have hi:i≤l.length:=hi
 by_cases hil:i < l.length
 ·refine Exists.elim (get_lt l hil) fun x hx=>?_
  have fin:x.1∉(l.take i).map Prod.fst→∃ a':Nat,((a'≤l.length∧((l.take a').map Prod.fst).Nodup)∧l.length - a' < l.length - i)∧(⟨[(1,.d (.slice 2 (u16s l))),(3,.ptr 0 0),(7,.sl 6 (blks a.k (tk8s l)).length),(9,.d (.int .i64 (fr8 a.u (tk8s l)))),(20,.ptr 14 0),(292,.d (.int .i64 (((u16s l).length:Nat):Int))),(293,.d (.int .i64 (((i:Nat):Int)+1)))],[.cbox [.int .i64 (a.b),.int .i64 (a.d),.int .i64 a.s,.int .i64 a.e,.int .u8 a.k.a,.int .u8 a.k.b,.int .u8 a.k.c,.int .u8 a.k.d,.int .u8 a.k.e,.int .u8 a.k.f,.int .u8 a.k.g,.int .u8 a.k.h,.int .u8 a.n.a,.int .u8 a.n.b,.int .u8 a.n.c,.int .u8 a.n.d,.int .u8 a.n.e,.int .u8 a.n.f,.int .u8 a.n.g,.int .u8 a.n.h,.bool false,.slice 1 (ints a.u)],.none,.none,.none,.none,.none,.row 64 16 (blks a.k (tk8s l)) false,.none,.none,.none,.none,.none,.none,.none,.box [.d (.int .i64 (B)),.d (.int .i64 (D)),.d (.int .i64 a.s),.d (.int .i64 a.e),.d (.int .u8 a.k.a),.d (.int .u8 a.k.b),.d (.int .u8 a.k.c),.d (.int .u8 a.k.d),.d (.int .u8 a.k.e),.d (.int .u8 a.k.f),.d (.int .u8 a.k.g),.d (.int .u8 a.k.h),.d (.int .u8 a.n.a),.d (.int .u8 a.n.b),.d (.int .u8 a.n.c),.d (.int .u8 a.n.d),.d (.int .u8 a.n.e),.d (.int .u8 a.n.f),.d (.int .u8 a.n.g),.d (.int .u8 a.n.h),.d (.bool false),.d (.slice 1 (ints U))],.none,.none,.none,.none,.none,.none,.none,.none,.none]⟩:St)=⟨[(1,.d (.slice 2 (u16s l))),(3,.ptr 0 0),(7,.sl 6 (blks a.k (tk8s l)).length),(9,.d (.int .i64 (fr8 a.u (tk8s l)))),(20,.ptr 14 0),(292,.d (.int .i64 (((u16s l).length:Nat):Int))),(293,.d (.int .i64 (((a':Nat):Int))))],[.cbox [.int .i64 (a.b),.int .i64 (a.d),.int .i64 a.s,.int .i64 a.e,.int .u8 a.k.a,.int .u8 a.k.b,.int .u8 a.k.c,.int .u8 a.k.d,.int .u8 a.k.e,.int .u8 a.k.f,.int .u8 a.k.g,.int .u8 a.k.h,.int .u8 a.n.a,.int .u8 a.n.b,.int .u8 a.n.c,.int .u8 a.n.d,.int .u8 a.n.e,.int .u8 a.n.f,.int .u8 a.n.g,.int .u8 a.n.h,.bool false,.slice 1 (ints a.u)],.none,.none,.none,.none,.none,.row 64 16 (blks a.k (tk8s l)) false,.none,.none,.none,.none,.none,.none,.none,.box [.d (.int .i64 (B)),.d (.int .i64 (D)),.d (.int .i64 a.s),.d (.int .i64 a.e),.d (.int .u8 a.k.a),.d (.int .u8 a.k.b),.d (.int .u8 a.k.c),.d (.int .u8 a.k.d),.d (.int .u8 a.k.e),.d (.int .u8 a.k.f),.d (.int .u8 a.k.g),.d (.int .u8 a.k.h),.d (.int .u8 a.n.a),.d (.int .u8 a.n.b),.d (.int .u8 a.n.c),.d (.int .u8 a.n.d),.d (.int .u8 a.n.e),.d (.int .u8 a.n.f),.d (.int .u8 a.n.g),.d (.int .u8 a.n.h),.d (.bool false),.d (.slice 1 (ints U))],.none,.none,.none,.none,.none,.none,.none,.none,.none]⟩:=fun hn=>⟨i+1,⟨⟨by omega,nod_s hx hd hn⟩,by omega⟩,rfl⟩
  refine sd ?_
  refine b_lt (fun t1=>?_) (fun t1=>?_)
  rotate_left
  (exfalso; omega)
  refine v8d hl hx (fun st h=>hR st h) (fun z hn=>?_)
  have fin:=fin hn
  refine ar_add ?_ ?_
  refine an ?_ ?_
  (show (-9223372036854775808:Int)≤(↑i:Int)+(1:Int); omega)
  (show (↑i:Int)+(1:Int)≤(9223372036854775807:Int); omega)
  rotate_left
  all_goals exact fin
 ·have e:i=l.length:=by omega
  subst e
  rw [List.take_of_length_le (Nat.le_refl _)] at hd
  have hQ:=fun z=>hQ z hd
  refine sd ?_
  refine b_lt (fun t1=>?_) (fun t1=>?_)
  (exfalso; omega)
  rotate_left
  all_goals exact hQ _
end Vc
set_option maxRecDepth 10000
set_option maxHeartbeats 4000000
namespace Vc
open Go Go.Proofs
theorem rev_at {l:List (Int × Int)} {m:Nat} (h:m < l.length):∃ x,l[l.length - 1 - m]?=some x∧l.reverse[m]?=some x:=by
 refine ⟨l[l.length - 1 - m],List.getElem?_eq_getElem (by omega),?_⟩
 rw [List.getElem?_reverse h,List.getElem?_eq_getElem (by omega)]
theorem v8e {a:Ac} {l:List (Int × Int)} {B D:Int} {U:List Int} {Q:AExit→St→Prop} (hL:U16 l) (hl:l.length≤8) (hQ:∀ z:Bool,Q (.exit 8) ⟨[(3,.ptr 0 0),(7,.sl 6 (blks a.k (tk8s l)).length),(9,.d (.int .i64 (fr8 a.u (tk8s l)))),(20,.ptr 14 0),(31,.sl 22 (tks ((tk8s l).reverse.map (tk8 a.k))).length),(32,.d (.int .i64 (-1))),(321,.d (.int .i64 (-1))),(322,.d (.bool z))],[.cbox [.int .i64 (a.b),.int .i64 (a.d),.int .i64 a.s,.int .i64 a.e,.int .u8 a.k.a,.int .u8 a.k.b,.int .u8 a.k.c,.int .u8 a.k.d,.int .u8 a.k.e,.int .u8 a.k.f,.int .u8 a.k.g,.int .u8 a.k.h,.int .u8 a.n.a,.int .u8 a.n.b,.int .u8 a.n.c,.int .u8 a.n.d,.int .u8 a.n.e,.int .u8 a.n.f,.int .u8 a.n.g,.int .u8 a.n.h,.bool false,.slice 1 (ints a.u)],.none,.none,.none,.none,.none,.row 64 16 (blks a.k (tk8s l)) false,.none,.none,.none,.none,.none,.none,.none,.box [.d (.int .i64 (B)),.d (.int .i64 (D)),.d (.int .i64 a.s),.d (.int .i64 a.e),.d (.int .u8 a.k.a),.d (.int .u8 a.k.b),.d (.int .u8 a.k.c),.d (.int .u8 a.k.d),.d (.int .u8 a.k.e),.d (.int .u8 a.k.f),.d (.int .u8 a.k.g),.d (.int .u8 a.k.h),.d (.int .u8 a.n.a),.d (.int .u8 a.n.b),.d (.int .u8 a.n.c),.d (.int .u8 a.n.d),.d (.int .u8 a.n.e),.d (.int .u8 a.n.f),.d (.int .u8 a.n.g),.d (.int .u8 a.n.h),.d (.bool false),.d (.slice 1 (ints U))],.none,.none,.none,.none,.none,.none,.none,.row 51 10 (tks ((tk8s l).reverse.map (tk8 a.k))) false,.none]⟩):vc Tryz.prog 365 seg8e ⟨[(3,.ptr 0 0),(7,.sl 6 (blks a.k (tk8s l)).length),(9,.d (.int .i64 (fr8 a.u (tk8s l)))),(20,.ptr 14 0),(31,.sl 22 (([]:List Data)).length),(32,.d (.int .i64 ((((blks a.k (tk8s l)).length:Nat):Int) - 1)))],[.cbox [.int .i64 (a.b),.int .i64 (a.d),.int .i64 a.s,.int .i64 a.e,.int .u8 a.k.a,.int .u8 a.k.b,.int .u8 a.k.c,.int .u8 a.k.d,.int .u8 a.k.e,.int .u8 a.k.f,.int .u8 a.k.g,.int .u8 a.k.h,.int .u8 a.n.a,.int .u8 a.n.b,.int .u8 a.n.c,.int .u8 a.n.d,.int .u8 a.n.e,.int .u8 a.n.f,.int .u8 a.n.g,.int .u8 a.n.h,.bool false,.slice 1 (ints a.u)],.none,.none,.none,.none,.none,.row 64 16 (blks a.k (tk8s l)) false,.none,.none,.none,.none,.none,.none,.none,.box [.d (.int .i64 (B)),.d (.int .i64 (D)),.d (.int .i64 a.s),.d (.int .i64 a.e),.d (.int .u8 a.k.a),.d (.int .u8 a.k.b),.d (.int .u8 a.k.c),.d (.int .u8 a.k.d),.d (.int .u8 a.k.e),.d (.int .u8 a.k.f),.d (.int .u8 a.k.g),.d (.int .u8 a.k.h),.d (.int .u8 a.n.a),.d (.int .u8 a.n.b),.d (.int .u8 a.n.c),.d (.int .u8 a.n.d),.d (.int .u8 a.n.e),.d (.int .u8 a.n.f),.d (.int .u8 a.n.g),.d (.int .u8 a.n.h),.d (.bool false),.d (.slice 1 (ints U))],.none,.none,.none,.none,.none,.none,.none,.row 51 10 (([]:List Data)) false,.none]⟩ Q:=by
 unfold seg8e
 have hbl:=blks_len a.k (tk8s l)
 have htl:=tk8s_len l
 refine loop_st (fun m:Nat=>⟨[(3,.ptr 0 0),(7,.sl 6 (blks a.k (tk8s l)).length),(9,.d (.int .i64 (fr8 a.u (tk8s l)))),(20,.ptr 14 0),(31,.sl 22 ((tks (((tk8s l).reverse.take m).map (tk8 a.k)))).length),(32,.d (.int .i64 ((((blks a.k (tk8s l)).length:Nat):Int) - 1 - ((m:Nat):Int))))],[.cbox [.int .i64 (a.b),.int .i64 (a.d),.int .i64 a.s,.int .i64 a.e,.int .u8 a.k.a,.int .u8 a.k.b,.int .u8 a.k.c,.int .u8 a.k.d,.int .u8 a.k.e,.int .u8 a.k.f,.int .u8 a.k.g,.int .u8 a.k.h,.int .u8 a.n.a,.int .u8 a.n.b,.int .u8 a.n.c,.int .u8 a.n.d,.int .u8 a.n.e,.int .u8 a.n.f,.int .u8 a.n.g,.int .u8 a.n.h,.bool false,.slice 1 (ints a.u)],.none,.none,.none,.none,.none,.row 64 16 (blks a.k (tk8s l)) false,.none,.none,.none,.none,.none,.none,.none,.box [.d (.int .i64 (B)),.d (.int .i64 (D)),.d (.int .i64 a.s),.d (.int .i64 a.e),.d (.int .u8 a.k.a),.d (.int .u8 a.k.b),.d (.int .u8 a.k.c),.d (.int .u8 a.k.d),.d (.int .u8 a.k.e),.d (.int .u8 a.k.f),.d (.int .u8 a.k.g),.d (.int .u8 a.k.h),.d (.int .u8 a.n.a),.d (.int .u8 a.n.b),.d (.int .u8 a.n.c),.d (.int .u8 a.n.d),.d (.int .u8 a.n.e),.d (.int .u8 a.n.f),.d (.int .u8 a.n.g),.d (.int .u8 a.n.h),.d (.bool false),.d (.slice 1 (ints U))],.none,.none,.none,.none,.none,.none,.none,.row 51 10 ((tks (((tk8s l).reverse.take m).map (tk8 a.k)))) false,.none]⟩) (fun m=>m≤l.length) (fun m=>l.length - m) 0 (by rw [show (((blks a.k (tk8s l)).length:Nat):Int) - 1 - ((0:Nat):Int)=(((blks a.k (tk8s l)).length:Nat):Int) - 1 by omega]; rfl) (Nat.zero_le _) ?_
 intro m hm
 have hm:m≤l.length:=hm
 have hrl:(tks (((tk8s l).reverse.take m).map (tk8 a.k))).length=m:=by rw [tks_len,List.length_map,List.length_take,List.length_reverse,htl]; omega
 by_cases hml:m < l.length
 ·obtain ⟨x,hx,hx2⟩:=rev_at (l:=tk8s l) (m:=m) (by omega)
  have hj:(((blks a.k (tk8s l)).length:Nat):Int) - 1 - ((m:Nat):Int)=(((tk8s l).length - 1 - m:Nat):Int):=by omega
  have hj2:(((tk8s l).length - 1 - m:Nat):Int) - 1=(((blks a.k (tk8s l)).length:Nat):Int) - 1 - ((m+1:Nat):Int):=by omega
  have hji:(tk8s l).length - 1 - m < l.length:=by omega
  have hxa:=blks_at (k:=a.k) hx
  have hy:=tk8s_lg hL x (List.mem_of_getElem? hx)
  have c40_:=c40_l a.k hy
  rw [hj]
  generalize (tk8s l).length - 1 - m=j at *
  have fin:∃ a':Nat,(a'≤l.length∧l.length - a' < l.length - m)∧(⟨[(3,.ptr 0 0),(7,.sl 6 (blks a.k (tk8s l)).length),(9,.d (.int .i64 (fr8 a.u (tk8s l)))),(20,.ptr 14 0),(31,.sl 22 ((tks (((tk8s l).reverse.take m).map (tk8 a.k)))++[Data.agg [.int .i64 x.1,.int .i64 x.2,.int .u8 (sealK a.k (o4 x.1++o4 x.2)).a,.int .u8 (sealK a.k (o4 x.1++o4 x.2)).b,.int .u8 (sealK a.k (o4 x.1++o4 x.2)).c,.int .u8 (sealK a.k (o4 x.1++o4 x.2)).d,.int .u8 (sealK a.k (o4 x.1++o4 x.2)).e,.int .u8 (sealK a.k (o4 x.1++o4 x.2)).f,.int .u8 (sealK a.k (o4 x.1++o4 x.2)).g,.int .u8 (sealK a.k (o4 x.1++o4 x.2)).h]]).length),(32,.d (.int .i64 ((j:Int) - 1)))],[.cbox [.int .i64 (a.b),.int .i64 (a.d),.int .i64 a.s,.int .i64 a.e,.int .u8 a.k.a,.int .u8 a.k.b,.int .u8 a.k.c,.int .u8 a.k.d,.int .u8 a.k.e,.int .u8 a.k.f,.int .u8 a.k.g,.int .u8 a.k.h,.int .u8 a.n.a,.int .u8 a.n.b,.int .u8 a.n.c,.int .u8 a.n.d,.int .u8 a.n.e,.int .u8 a.n.f,.int .u8 a.n.g,.int .u8 a.n.h,.bool false,.slice 1 (ints a.u)],.none,.none,.none,.none,.none,.row 64 16 (blks a.k (tk8s l)) false,.none,.none,.none,.none,.none,.none,.none,.box [.d (.int .i64 (B)),.d (.int .i64 (D)),.d (.int .i64 a.s),.d (.int .i64 a.e),.d (.int .u8 a.k.a),.d (.int .u8 a.k.b),.d (.int .u8 a.k.c),.d (.int .u8 a.k.d),.d (.int .u8 a.k.e),.d (.int .u8 a.k.f),.d (.int .u8 a.k.g),.d (.int .u8 a.k.h),.d (.int .u8 a.n.a),.d (.int .u8 a.n.b),.d (.int .u8 a.n.c),.d (.int .u8 a.n.d),.d (.int .u8 a.n.e),.d (.int .u8 a.n.f),.d (.int .u8 a.n.g),.d (.int .u8 a.n.h),.d (.bool false),.d (.slice 1 (ints U))],.none,.none,.none,.none,.none,.none,.none,.row 51 10 ((tks (((tk8s l).reverse.take m).map (tk8 a.k)))++[Data.agg [.int .i64 x.1,.int .i64 x.2,.int .u8 (sealK a.k (o4 x.1++o4 x.2)).a,.int .u8 (sealK a.k (o4 x.1++o4 x.2)).b,.int .u8 (sealK a.k (o4 x.1++o4 x.2)).c,.int .u8 (sealK a.k (o4 x.1++o4 x.2)).d,.int .u8 (sealK a.k (o4 x.1++o4 x.2)).e,.int .u8 (sealK a.k (o4 x.1++o4 x.2)).f,.int .u8 (sealK a.k (o4 x.1++o4 x.2)).g,.int .u8 (sealK a.k (o4 x.1++o4 x.2)).h]]) false,.none]⟩:St)=⟨[(3,.ptr 0 0),(7,.sl 6 (blks a.k (tk8s l)).length),(9,.d (.int .i64 (fr8 a.u (tk8s l)))),(20,.ptr 14 0),(31,.sl 22 ((tks (((tk8s l).reverse.take a').map (tk8 a.k)))).length),(32,.d (.int .i64 ((((blks a.k (tk8s l)).length:Nat):Int) - 1 - ((a':Nat):Int))))],[.cbox [.int .i64 (a.b),.int .i64 (a.d),.int .i64 a.s,.int .i64 a.e,.int .u8 a.k.a,.int .u8 a.k.b,.int .u8 a.k.c,.int .u8 a.k.d,.int .u8 a.k.e,.int .u8 a.k.f,.int .u8 a.k.g,.int .u8 a.k.h,.int .u8 a.n.a,.int .u8 a.n.b,.int .u8 a.n.c,.int .u8 a.n.d,.int .u8 a.n.e,.int .u8 a.n.f,.int .u8 a.n.g,.int .u8 a.n.h,.bool false,.slice 1 (ints a.u)],.none,.none,.none,.none,.none,.row 64 16 (blks a.k (tk8s l)) false,.none,.none,.none,.none,.none,.none,.none,.box [.d (.int .i64 (B)),.d (.int .i64 (D)),.d (.int .i64 a.s),.d (.int .i64 a.e),.d (.int .u8 a.k.a),.d (.int .u8 a.k.b),.d (.int .u8 a.k.c),.d (.int .u8 a.k.d),.d (.int .u8 a.k.e),.d (.int .u8 a.k.f),.d (.int .u8 a.k.g),.d (.int .u8 a.k.h),.d (.int .u8 a.n.a),.d (.int .u8 a.n.b),.d (.int .u8 a.n.c),.d (.int .u8 a.n.d),.d (.int .u8 a.n.e),.d (.int .u8 a.n.f),.d (.int .u8 a.n.g),.d (.int .u8 a.n.h),.d (.bool false),.d (.slice 1 (ints U))],.none,.none,.none,.none,.none,.none,.none,.row 51 10 ((tks (((tk8s l).reverse.take a').map (tk8 a.k)))) false,.none]⟩:=⟨m+1,⟨by omega,by omega⟩,by
   rw [hj2,show (tks (((tk8s l).reverse.take (m+1)).map (tk8 a.k)))=(tks (((tk8s l).reverse.take m).map (tk8 a.k)))++[Data.agg [.int .i64 x.1,.int .i64 x.2,.int .u8 (sealK a.k (o4 x.1++o4 x.2)).a,.int .u8 (sealK a.k (o4 x.1++o4 x.2)).b,.int .u8 (sealK a.k (o4 x.1++o4 x.2)).c,.int .u8 (sealK a.k (o4 x.1++o4 x.2)).d,.int .u8 (sealK a.k (o4 x.1++o4 x.2)).e,.int .u8 (sealK a.k (o4 x.1++o4 x.2)).f,.int .u8 (sealK a.k (o4 x.1++o4 x.2)).g,.int .u8 (sealK a.k (o4 x.1++o4 x.2)).h] ] by unfold tks; rw [take_one hx2,List.map_append,List.map_append]; rfl]⟩
  refine sd ?_
  refine an ?_ ?_
  refine an ?_ ?_
  exact rfl
  refine an ?_ ?_
  exact rfl
  refine an ?_ ?_
  (show (0:Int)≤(↑j:Int); omega)
  (show (↑j:Int) < (↑(List.length (blks (Ac.k a) (tk8s l))):Int); omega)
  refine sd ?_
  refine ca hxa ?_
  refine ca c40_ ?_
  refine sd ?_
  refine sd ?_
  refine sd ?_
  refine sd ?_
  refine an ?_ ?_
  refine an ?_ ?_
  exact rfl
  refine an ?_ ?_
  exact rfl
  refine an ?_ ?_
  exact rfl
  refine an ?_ ?_
  (show (List.length (tks (List.map (tk8 (Ac.k a)) (List.take m (List.reverse (tk8s l)))))+(1:Nat)) * (24:Nat)≤(2:Nat) ^ (47:Nat); omega)
  (show List.length (tks (List.map (tk8 (Ac.k a)) (List.take m (List.reverse (tk8s l)))))+(1:Nat)≤(2:Nat) ^ (47:Nat); omega)
  refine ar_sub ?_ ?_
  refine an ?_ ?_
  (show (-9223372036854775808:Int)≤(↑j:Int) - (1:Int); omega)
  (show (↑j:Int) - (1:Int)≤(9223372036854775807:Int); omega)
  rotate_left
  all_goals exact fin
 ·have e:m=l.length:=by omega
  subst e
  rw [List.take_of_length_le (by rw [List.length_reverse,htl]; exact Nat.le_refl _),show (((blks a.k (tk8s l)).length:Nat):Int) - 1 - ((l.length:Nat):Int)=-1 by omega]
  refine sd ?_
  rotate_left
  all_goals exact hQ _
theorem tksE_8 {a:Ac} {T:List (Int × Int)} (hT:Lg T) (hl:T.length≤20):tksE (T.map (tk8 a.k))=0:=by
 unfold tksE
 rw [tks_len,List.length_map,decide_eq_false (by omega)]
 show firstOf ((T.map (tk8 a.k)).map ckt)=0
 rw [List.map_map]
 clear hl
 induction T with
 | nil=>rfl
 | cons x r ih =>
  rw [List.map_cons,show (ckt ∘ tk8 a.k) x=0 from ckT_in (hT x List.mem_cons_self),fo_z]
  exact ih fun y hy=>hT y (List.mem_cons_of_mem _ hy)
theorem w8e {a:Ac} {l:List (Int × Int)} {x y:Int × Int} {B D:Int} {U:List Int} {Q:AExit→St→Prop} (hA:ckA a false=0) (hk:a.k.ok) (hn:a.n.ok) (hu:a.u.length≤12) (hb:a.b≤1000000000) (hL:U16 l) (hl:l.length≤8) (hC:Cr a (tk8s l++[x,y]) (⟨B,D,a.s,a.e,a.k,a.n,a.c,U⟩:Ac)) (hxm:x∈tk8s l) (hym:y∈tk8s l) (hd:a.d=0) (hnd:((tk8s l).map Prod.fst).Nodup) (hR:∀ st,endP [.tmp 6] [.bool true] st→Q .ret st):vc Tryz.prog 365 rest8e ⟨[(3,.ptr 0 0),(9,.d (.int .i64 (fr8 a.u (tk8s l)))),(20,.ptr 14 0),(31,.d (.slice 10 (tks ((tk8s l).reverse.map (tk8 a.k)))))],[.cbox [.int .i64 (a.b),.int .i64 (a.d),.int .i64 a.s,.int .i64 a.e,.int .u8 a.k.a,.int .u8 a.k.b,.int .u8 a.k.c,.int .u8 a.k.d,.int .u8 a.k.e,.int .u8 a.k.f,.int .u8 a.k.g,.int .u8 a.k.h,.int .u8 a.n.a,.int .u8 a.n.b,.int .u8 a.n.c,.int .u8 a.n.d,.int .u8 a.n.e,.int .u8 a.n.f,.int .u8 a.n.g,.int .u8 a.n.h,.bool false,.slice 1 (ints a.u)],.none,.none,.none,.none,.none,.none,.none,.none,.none,.none,.none,.none,.none,.box [.d (.int .i64 (B)),.d (.int .i64 (D)),.d (.int .i64 a.s),.d (.int .i64 a.e),.d (.int .u8 a.k.a),.d (.int .u8 a.k.b),.d (.int .u8 a.k.c),.d (.int .u8 a.k.d),.d (.int .u8 a.k.e),.d (.int .u8 a.k.f),.d (.int .u8 a.k.g),.d (.int .u8 a.k.h),.d (.int .u8 a.n.a),.d (.int .u8 a.n.b),.d (.int .u8 a.n.c),.d (.int .u8 a.n.d),.d (.int .u8 a.n.e),.d (.int .u8 a.n.f),.d (.int .u8 a.n.g),.d (.int .u8 a.n.h),.d (.bool false),.d (.slice 1 (ints U))],.none,.none,.none,.none,.none,.none,.none,.row 51 10 (tks ((tk8s l).reverse.map (tk8 a.k))) true,.none]⟩ Q:=by
 have hlg:=tk8s_lg hL
 have htl:=tk8s_len l
 have hrl:(tk8s l).reverse.length=l.length:=by rw [List.length_reverse,htl]
 obtain ⟨hY,hYl⟩:=all8 (a:=a) hb hu (tk8s l).reverse [] a 0 [] (fun z hz=>by cases hz) (Lg_rev hlg) (by rw [hrl]; show 0+l.length≤20; omega) (Cr.nil hA)
 rw [List.nil_append] at hY hYl
 obtain ⟨r1,r2⟩:=rev8 (u:=a.u) hnd
 obtain ⟨g1,g2⟩:=again8 (u:=a.u) [x,y] (S:=tk8s l) (by simp [hxm,hym])
 have hmem:∀ z,z∈(tk8s l++[x,y]).map Prod.fst↔z∈(tk8s l).reverse.map Prod.fst:=fun z=>by
  rw [List.map_reverse,List.mem_reverse,List.map_append,List.mem_append]
  constructor
  ·rintro (e | e)
   ·exact e
   ·simp only [List.map_cons,List.map_nil,List.mem_cons,List.not_mem_nil,or_false] at e
    rcases e with rfl | rfl
    ·exact List.mem_map_of_mem hxm
    ·exact List.mem_map_of_mem hym
  ·exact .inl
 obtain ⟨⟨eb,ed⟩,⟨es,ee⟩,⟨ek,en⟩,eu⟩:=hC.eq hY hd (by rw [g2,r2]) hmem
 have c29z:=c29 a false ((tk8s l).reverse.map (tk8 a.k)) (by omega) (by rw [List.length_map,hrl]; omega) hk hn hA (tksE_8 (Lg_rev hlg) (by omega))
 rw [r1] at hYl
 have hul:U.length≤32:=(hC.bal (fun z hz=>by
  rcases List.mem_append.1 hz with e | e
  ·exact hlg z e
  ·simp only [List.mem_cons,List.not_mem_nil,or_false] at e
   rcases e with rfl | rfl
   ·exact hlg _ hxm
   ·exact hlg _ hym) (by rw [List.length_append,htl]; show l.length+2≤20; omega) hb hu).2
 rw [eb,ed,es,ee,ek,en,eu] at c29z
 generalize (allX false ((tk8s l).reverse.map (tk8 a.k)) 0 a []).2=W at *
 have c29_:CallDet Tryz.prog 29 [.d (.agg [.int .i64 (a.b),.int .i64 (a.d),.int .i64 a.s,.int .i64 a.e,.int .u8 a.k.a,.int .u8 a.k.b,.int .u8 a.k.c,.int .u8 a.k.d,.int .u8 a.k.e,.int .u8 a.k.f,.int .u8 a.k.g,.int .u8 a.k.h,.int .u8 a.n.a,.int .u8 a.n.b,.int .u8 a.n.c,.int .u8 a.n.d,.int .u8 a.n.e,.int .u8 a.n.f,.int .u8 a.n.g,.int .u8 a.n.h,.bool false,.slice 1 (ints a.u)]),.d (.slice 10 (tks ((tk8s l).reverse.map (tk8 a.k))))] [.agg [.int .i64 (B),.int .i64 (D),.int .i64 a.s,.int .i64 a.e,.int .u8 a.k.a,.int .u8 a.k.b,.int .u8 a.k.c,.int .u8 a.k.d,.int .u8 a.k.e,.int .u8 a.k.f,.int .u8 a.k.g,.int .u8 a.k.h,.int .u8 a.n.a,.int .u8 a.n.b,.int .u8 a.n.c,.int .u8 a.n.d,.int .u8 a.n.e,.int .u8 a.n.f,.int .u8 a.n.g,.int .u8 a.n.h,.bool false,.slice 1 (ints U)],.slice 1 (ints W),.int .i64 0]:=c29z
 have hWl:(((ints W).length:Nat):Int)=fr8 a.u (tk8s l):=by
  have e:(ints W).length=W.length:=List.length_map _
  have e2:(([]:List Int).length:Int)+fr8 a.u (tk8s l) - fr8 a.u []=fr8 a.u (tk8s l):=by show (0:Int)+_ - 0=_; omega
  rw [e,hYl,e2]
 have c17_:=c17 a false (by omega)
 have c67_:=c67 (⟨B,D,a.s,a.e,a.k,a.n,a.c,U⟩:Ac) false
 have c68_:=c68 (⟨B,D,a.s,a.e,a.k,a.n,a.c,U⟩:Ac) false (by show U.length≤_; omega)
 clear c29z hYl hY hC hmem hlg hL hnd r1 r2 g1 g2 eb ed es ee ek en eu
 unfold rest8e
 refine ca c17_ ?_
 refine ca c29_ ?_
 refine sd ?_
 refine sd ?_
 refine b_eq (fun t1=>?_) (fun t1=>?_)
 refine ca c67_ ?_
 refine ca c67_ ?_
 refine ca c68_ ?_
 refine ca (c15) ?_
 rotate_left
 (exfalso; omega)
 all_goals exact hR _ rfl
theorem w8d {a:Ac} {l:List (Int × Int)} {x y:Int × Int} {B D:Int} {U:List Int} {Q:AExit→St→Prop} (hA:ckA a false=0) (hk:a.k.ok) (hn:a.n.ok) (hu:a.u.length≤12) (hb:a.b≤1000000000) (hL:U16 l) (hl:l.length≤8) (hC:Cr a (tk8s l++[x,y]) (⟨B,D,a.s,a.e,a.k,a.n,a.c,U⟩:Ac)) (hxm:x∈tk8s l) (hym:y∈tk8s l) (hnd:(l.map Prod.fst).Nodup) (hR:∀ st,endP [.tmp 6] [.bool true] st→Q .ret st):vc Tryz.prog 365 rest8d ⟨[(3,.ptr 0 0),(7,.sl 6 (blks a.k (tk8s l)).length),(9,.d (.int .i64 (fr8 a.u (tk8s l)))),(20,.ptr 14 0)],[.cbox [.int .i64 (a.b),.int .i64 (a.d),.int .i64 a.s,.int .i64 a.e,.int .u8 a.k.a,.int .u8 a.k.b,.int .u8 a.k.c,.int .u8 a.k.d,.int .u8 a.k.e,.int .u8 a.k.f,.int .u8 a.k.g,.int .u8 a.k.h,.int .u8 a.n.a,.int .u8 a.n.b,.int .u8 a.n.c,.int .u8 a.n.d,.int .u8 a.n.e,.int .u8 a.n.f,.int .u8 a.n.g,.int .u8 a.n.h,.bool false,.slice 1 (ints a.u)],.none,.none,.none,.none,.none,.row 64 16 (blks a.k (tk8s l)) false,.none,.none,.none,.none,.none,.none,.none,.box [.d (.int .i64 (B)),.d (.int .i64 (D)),.d (.int .i64 a.s),.d (.int .i64 a.e),.d (.int .u8 a.k.a),.d (.int .u8 a.k.b),.d (.int .u8 a.k.c),.d (.int .u8 a.k.d),.d (.int .u8 a.k.e),.d (.int .u8 a.k.f),.d (.int .u8 a.k.g),.d (.int .u8 a.k.h),.d (.int .u8 a.n.a),.d (.int .u8 a.n.b),.d (.int .u8 a.n.c),.d (.int .u8 a.n.d),.d (.int .u8 a.n.e),.d (.int .u8 a.n.f),.d (.int .u8 a.n.g),.d (.int .u8 a.n.h),.d (.bool false),.d (.slice 1 (ints U))],.none,.none,.none,.none,.none,.none,.none,.none,.none]⟩ Q:=by
 have hnd2:((tk8s l).map Prod.fst).Nodup:=by
  have e:(tk8s l).map Prod.fst=l.map fun x=>1+IntKind.wrap .i64 x.1:=by unfold tk8s; rw [List.map_map]; rfl
  rw [e]
  clear hC hxm hym hl
  induction l with
  | nil=>exact List.nodup_nil
  | cons z r ih =>
   rw [List.map_cons,List.nodup_cons] at hnd ⊢
   refine ⟨fun hm=>hnd.1 ?_,ih (fun w hw=>hL w (List.mem_cons_of_mem _ hw)) hnd.2 (by unfold tk8s; rw [List.map_map]; rfl)⟩
   obtain ⟨w,hw,he⟩:=List.mem_map.1 hm
   have h1:=(hL z List.mem_cons_self).1
   have h2:=(hL w (List.mem_cons_of_mem _ hw)).1
   rw [wr16 h1,wr16 h2] at he
   rw [show z.1=w.1 by omega]
   exact List.mem_map_of_mem hw
 have hbl:=blks_len a.k (tk8s l)
 have htl:=tk8s_len l
 have hd0:=(ckA_ds hA).1.1
 unfold rest8d
 by_cases hd:a.d=0
 ·refine sd ?_
  refine b_lt (fun t1=>?_) (fun t1=>?_)
  (exfalso; omega)
  refine sd ?_
  refine ar_sub ?_ ?_
  refine an ?_ ?_
  (show (-9223372036854775808:Int)≤(↑(List.length (blks (Ac.k a) (tk8s l))):Int) - (1:Int); omega)
  (show (↑(List.length (blks (Ac.k a) (tk8s l))):Int) - (1:Int)≤(9223372036854775807:Int); omega)
  rotate_left
  refine v8e hL hl (fun z=>?_)
  conv=>whnf
  rw [Nat.beq_refl]
  rotate_left
  refine w8e hA hk hn hu hb hL hl hC hxm hym hd hnd2 (fun st h=>hR st h)
 ·refine sd ?_
  refine b_lt (fun t1=>?_) (fun t1=>?_)
  refine ca (c15) ?_
  rotate_left
  (exfalso; omega)
  all_goals exact hR _ rfl
end Vc
set_option maxRecDepth 10000
set_option maxHeartbeats 4000000
namespace Vc
open Go Go.Proofs
theorem lg_xy {l:List (Int × Int)} {x y:Int × Int} (hL:U16 l) (hxm:x∈tk8s l) (hym:y∈tk8s l):Lg (tk8s l++[x,y]):=fun z hz=>by
 rcases List.mem_append.1 hz with e | e
 ·exact tk8s_lg hL z e
 ·simp only [List.mem_cons,List.not_mem_nil,or_false] at e
  rcases e with rfl | rfl
  ·exact tk8s_lg hL _ hxm
  ·exact tk8s_lg hL _ hym
theorem w8c {a:Ac} {l:List (Int × Int)} {x y:Int × Int} {B D:Int} {U:List Int} {Q:AExit→St→Prop} (hA:ckA a false=0) (hk:a.k.ok) (hn:a.n.ok) (hu:a.u.length≤12) (hb:a.b≤1000000000) (hL:U16 l) (hl:l.length≤8) (hC:Cr a (tk8s l++[x,y]) (⟨B,D,a.s,a.e,a.k,a.n,a.c,U⟩:Ac)) (hxm:x∈tk8s l) (hym:y∈tk8s l) (hR:∀ st,endP [.tmp 6] [.bool true] st→Q .ret st):vc Tryz.prog 365 rest8c ⟨[(1,.d (.slice 2 (u16s l))),(3,.ptr 0 0),(7,.sl 6 (blks a.k (tk8s l)).length),(8,.d (.int .i64 (wo8 a.u (tk8s l)))),(9,.d (.int .i64 (fr8 a.u (tk8s l)))),(20,.ptr 14 0),(21,.d (.int .i64 ((((U).length:Nat):Int) - ((a.u.length:Nat):Int))))],[.cbox [.int .i64 (a.b),.int .i64 (a.d),.int .i64 a.s,.int .i64 a.e,.int .u8 a.k.a,.int .u8 a.k.b,.int .u8 a.k.c,.int .u8 a.k.d,.int .u8 a.k.e,.int .u8 a.k.f,.int .u8 a.k.g,.int .u8 a.k.h,.int .u8 a.n.a,.int .u8 a.n.b,.int .u8 a.n.c,.int .u8 a.n.d,.int .u8 a.n.e,.int .u8 a.n.f,.int .u8 a.n.g,.int .u8 a.n.h,.bool false,.slice 1 (ints a.u)],.none,.none,.none,.none,.none,.row 64 16 (blks a.k (tk8s l)) false,.none,.none,.none,.none,.none,.none,.none,.box [.d (.int .i64 (B)),.d (.int .i64 (D)),.d (.int .i64 a.s),.d (.int .i64 a.e),.d (.int .u8 a.k.a),.d (.int .u8 a.k.b),.d (.int .u8 a.k.c),.d (.int .u8 a.k.d),.d (.int .u8 a.k.e),.d (.int .u8 a.k.f),.d (.int .u8 a.k.g),.d (.int .u8 a.k.h),.d (.int .u8 a.n.a),.d (.int .u8 a.n.b),.d (.int .u8 a.n.c),.d (.int .u8 a.n.d),.d (.int .u8 a.n.e),.d (.int .u8 a.n.f),.d (.int .u8 a.n.g),.d (.int .u8 a.n.h),.d (.bool false),.d (.slice 1 (ints U))],.none,.none,.none,.none,.none,.none,.none,.none,.none]⟩ Q:=by
 have htl:=tk8s_len l
 have hlx:(tk8s l++[x,y]).length=l.length+2:=by rw [List.length_append,htl]; rfl
 obtain ⟨g1,g2⟩:=again8 (u:=a.u) [x,y] (S:=tk8s l) (by simp [hxm,hym])
 have hg:=hC.l
 rw [g1] at hg
 have hg:((U.length:Nat):Int)=a.u.length+fr8 a.u (tk8s l):=hg
 have hbd:=hC.b
 rw [g2] at hbd
 have hbd:B - D=a.b - a.d+wo8 a.u (tk8s l):=hbd
 have hUb:=hC.bal (lg_xy hL hxm hym) (by omega) hb hu
 have hUl:U.length≤32:=hUb.2
 have hB1:B≤1010000000:=hUb.1
 have hok:ckA (⟨B,D,a.s,a.e,a.k,a.n,a.c,U⟩:Ac) false=0:=hC.ok
 have hB0:-1000000000000≤B:=(ckA_b hok).1.1
 have hD0:0≤D:=(ckA_ds hok).1.1
 have hD1:D≤1000000000000:=(ckA_ds hok).1.2
 have hb0:-1000000000000≤a.b:=(ckA_b hA).1.1
 have hd0:0≤a.d:=(ckA_ds hA).1.1
 have hd1:a.d≤1000000000000:=(ckA_ds hA).1.2
 have c67_:=c67 (⟨B,D,a.s,a.e,a.k,a.n,a.c,U⟩:Ac) false
 have c20_:=c20 (⟨B,D,a.s,a.e,a.k,a.n,a.c,U⟩:Ac) false (by show U.length≤_; omega)
 rw [hok] at c20_
 unfold rest8c
 refine sd ?_
 refine b_ne (fun t1=>?_) (fun t1=>?_)
 (exfalso; omega)
 refine ar_add ?_ ?_
 refine an ?_ ?_
 (show (-9223372036854775808:Int)≤B+Ac.d a; omega)
 (show B+Ac.d a≤(9223372036854775807:Int); omega)
 refine ar_sub ?_ ?_
 refine an ?_ ?_
 (show (-9223372036854775808:Int)≤B+Ac.d a - D; omega)
 (show B+Ac.d a - D≤(9223372036854775807:Int); omega)
 refine ar_add ?_ ?_
 refine an ?_ ?_
 (show (-9223372036854775808:Int)≤Ac.b a+wo8 (Ac.u a) (tk8s l); omega)
 (show Ac.b a+wo8 (Ac.u a) (tk8s l)≤(9223372036854775807:Int); omega)
 refine sd ?_
 refine b_ne (fun t2=>?_) (fun t2=>?_)
 (exfalso; omega)
 refine ca c67_ ?_
 refine ca c20_ ?_
 refine sd ?_
 rotate_left
 refine v8c hl (fun st h=>hR st h) (fun z hnd=>?_)
 rotate_left
 refine w8d hA hk hn hu hb hL hl hC hxm hym hnd (fun st h=>hR st h)
theorem w8b {a:Ac} {l:List (Int × Int)} {x y:Int × Int} {p' q':Ky} {Q:AExit→St→Prop} (hA:ckA a false=0) (hk:a.k.ok) (hn:a.n.ok) (hu:a.u.length≤12) (hb:a.b≤1000000000) (hL:U16 l) (hl:l.length≤8) (hxm:x∈tk8s l) (hym:y∈tk8s l) (hp':p'.ok) (hB:Brk (pk8 x) (sealK a.k (ls8 (pk8 x))) p' q') (hR:∀ st,endP [.tmp 6] [.bool true] st→Q .ret st):vc Tryz.prog 365 rest8b ⟨[(1,.d (.slice 2 (u16s l))),(3,.ptr 0 0),(7,.sl 6 (blks a.k (tk8s l)).length),(8,.d (.int .i64 (wo8 a.u (tk8s l)))),(9,.d (.int .i64 (fr8 a.u (tk8s l)))),(18,.sl 9 (blks a.k (tk8s l++[x,y])).length),(19,.ptr 13 0)],[.cbox [.int .i64 (a.b),.int .i64 (a.d),.int .i64 a.s,.int .i64 a.e,.int .u8 a.k.a,.int .u8 a.k.b,.int .u8 a.k.c,.int .u8 a.k.d,.int .u8 a.k.e,.int .u8 a.k.f,.int .u8 a.k.g,.int .u8 a.k.h,.int .u8 a.n.a,.int .u8 a.n.b,.int .u8 a.n.c,.int .u8 a.n.d,.int .u8 a.n.e,.int .u8 a.n.f,.int .u8 a.n.g,.int .u8 a.n.h,.bool false,.slice 1 (ints a.u)],.none,.none,.none,.none,.none,.row 64 16 (blks a.k (tk8s l)) false,.none,.none,.row 64 16 (blks a.k (tk8s l++[x,y])) false,.none,.none,.none,.box [.d (.int .u8 p'.a),.d (.int .u8 p'.b),.d (.int .u8 p'.c),.d (.int .u8 p'.d),.d (.int .u8 p'.e),.d (.int .u8 p'.f),.d (.int .u8 p'.g),.d (.int .u8 p'.h),.d (.int .u8 q'.a),.d (.int .u8 q'.b),.d (.int .u8 q'.c),.d (.int .u8 q'.d),.d (.int .u8 q'.e),.d (.int .u8 q'.f),.d (.int .u8 q'.g),.d (.int .u8 q'.h)],.none,.none,.none,.none,.none,.none,.none,.none,.none,.none]⟩ Q:=by
 have htl:=tk8s_len l
 have hlx:(tk8s l++[x,y]).length=l.length+2:=by rw [List.length_append,htl]; rfl
 have hbx:=blks_len a.k (tk8s l++[x,y])
 have c17_:=c17 a false (by omega)
 unfold rest8b
 refine ca c17_ ?_
 refine sd ?_
 refine sd ?_
 refine sd ?_
 refine an ?_ ?_
 refine an ?_ ?_
 exact rfl
 refine an ?_ ?_
 exact rfl
 refine an ?_ ?_
 exact rfl
 refine an ?_ ?_
 (show (List.length (blks (Ac.k a) (tk8s l++[x,y]))+(1:Nat)) * (16:Nat)≤(2:Nat) ^ (47:Nat); omega)
 (show List.length (blks (Ac.k a) (tk8s l++[x,y]))+(1:Nat)≤(2:Nat) ^ (47:Nat); omega)
 refine sd ?_
 rotate_left
 refine v8b hA hk hn hu hb hL hl (O:=tk8s l++[x,y]) (p:=pk8 x) (lg_xy hL hxm hym) (by omega) (pk8_ok x) hp' hB (fun B D U z hC=>?_)
 rotate_left
 refine w8c hA hk hn hu hb hL hl hC hxm hym (fun st h=>hR st h)
def jr8:AFun:=⟨365,24,[.tmp 6],
 (.seq
 (.reg [0,1] [⟨some 3,.cbx 0 22 (.tmp 0),none⟩,
  ⟨some 5,.cbx 1 3 (.tmp 2),none⟩,
  ⟨some 6,.mov (.cst (.d (.bool false))),none⟩])
 (.seq
  (.seq
  (.reg [] [⟨some 38,.fad 21 (.tmp 3),none⟩,
   ⟨some 39,.ld false 1 (.tmp 38),none⟩,
   ⟨some 40,.len (.tmp 39),none⟩,
   ⟨some 41,.cmp .gtr (.tmp 40) (.cst (.d (.int .i64 12))),none⟩,
   ⟨some 42,.mov (.tmp 41),none⟩,
   ⟨some 43,.ld true 22 (.tmp 3),some (42,false)⟩,
   ⟨some 44,.call 20 [(.tmp 43)],some (42,false)⟩,
   ⟨some 45,.cmp .neq (.tmp 44) (.cst (.d (.int .i64 0))),some (42,false)⟩,
   ⟨some 46,.pick (.tmp 42) (.cst (.d (.bool true))) (.tmp 45),none⟩,
   ⟨some 47,.mov (.tmp 46),none⟩,
   ⟨some 48,.fad 20 (.tmp 3),some (47,false)⟩,
   ⟨some 49,.ld false 1 (.tmp 48),some (47,false)⟩,
   ⟨some 50,.pick (.tmp 47) (.cst (.d (.bool true))) (.tmp 49),none⟩,
   ⟨some 51,.mov (.tmp 50),none⟩,
   ⟨some 52,.fad 0 (.tmp 3),some (51,false)⟩,
   ⟨some 53,.ld false 1 (.tmp 52),some (51,false)⟩,
   ⟨some 54,.cmp .gtr (.tmp 53) (.cst (.d (.int .i64 1000000000))),some (51,false)⟩,
   ⟨some 55,.pick (.tmp 51) (.cst (.d (.bool true))) (.tmp 54),none⟩,
   ⟨some 56,.mov (.tmp 55),none⟩,
   ⟨some 57,.mov (.tmp 1),some (56,false)⟩,
   ⟨some 58,.len (.tmp 57),some (56,false)⟩,
   ⟨some 59,.cmp .lss (.tmp 58) (.cst (.d (.int .i64 1))),some (56,false)⟩,
   ⟨some 60,.pick (.tmp 56) (.cst (.d (.bool true))) (.tmp 59),none⟩,
   ⟨some 61,.mov (.tmp 60),none⟩,
   ⟨some 62,.mov (.tmp 1),some (61,false)⟩,
   ⟨some 63,.len (.tmp 62),some (61,false)⟩,
   ⟨some 64,.cmp .gtr (.tmp 63) (.cst (.d (.int .i64 8))),some (61,false)⟩,
   ⟨some 65,.pick (.tmp 61) (.cst (.d (.bool true))) (.tmp 64),none⟩])
  (.cond (.tmp 65)
   (.seq
   (.reg [] [⟨some 66,.call 15 [],none⟩,
    ⟨some 6,.mov (.tmp 66),none⟩])
   .ret)
   .skip))
  (.seq
  (.reg [] [⟨some 7,.mov (.cst (.nils 16)),none⟩])
  (.seq
   (.reg [] [⟨some 8,.mov (.cst (.d (.int .i64 0))),none⟩,
    ⟨some 9,.mov (.cst (.d (.int .i64 0))),none⟩])
   (.seq
   (.reg [] [⟨some 10,.mov (.cst (.nils 1)),none⟩])
   (.seq
    (.seq
    (.reg [] [⟨some 67,.mov (.tmp 1),none⟩,
     ⟨some 68,.len (.tmp 67),none⟩,
     ⟨some 69,.mov (.cst (.d (.int .i64 0))),none⟩])
    (.post [1,3,5,7,8,9] [0,1,2,3,4,5,6,7,8]
     (.block 0
     (.asrow 8 3 1 10
      (.asrow 6 64 16 7
      (.keep [1,3,5,7,8,9,10,67,68,69] [0,1]
       seg8a))))))
    rest8a))))))⟩
theorem c8 (a:Ac) (c:Bool) (l:List (Int × Int)) (n0 n1 n2:Int) (hla:a.u.length≤1048576) (hll:l.length≤1048576) (hk:a.k.ok) (hn:a.n.ok) (hL:U16 l) (h0:0≤n0∧n0≤255) (h1:0≤n1∧n1≤255) (h2:0≤n2∧n2≤255):CallDet Tryz.prog 8 [.d (.agg [.int .i64 (a.b),.int .i64 (a.d),.int .i64 a.s,.int .i64 a.e,.int .u8 a.k.a,.int .u8 a.k.b,.int .u8 a.k.c,.int .u8 a.k.d,.int .u8 a.k.e,.int .u8 a.k.f,.int .u8 a.k.g,.int .u8 a.k.h,.int .u8 a.n.a,.int .u8 a.n.b,.int .u8 a.n.c,.int .u8 a.n.d,.int .u8 a.n.e,.int .u8 a.n.f,.int .u8 a.n.g,.int .u8 a.n.h,.bool c,.slice 1 (ints a.u)]),.d (.slice 2 (u16s l)),.d (.agg [.int .u8 n0,.int .u8 n1,.int .u8 n2])] [.bool true]:=by
 have c20_:=c20 a c hla
 have hul:(ints a.u).length=a.u.length:=List.length_map _
 have hsl:=u16s_len l
 by_cases hA:ckA a c=0
 ·rw [hA] at c20_
  cases c with
  | true =>
   refine call_of_vc (x:=jr8) (by kernel_rfl) rfl ?_
   refine sd ?_
   refine b_lt (fun t1=>?_) (fun t1=>?_)
   refine sd ?_
   refine sd ?_
   refine sd ?_
   refine sd ?_
   refine sd ?_
   refine ca (c15) ?_
   exact rfl
   refine ca c20_ ?_
   refine sd ?_
   refine sd ?_
   refine sd ?_
   refine sd ?_
   refine ca (c15) ?_
   exact rfl
  | false =>
   refine call_of_vc (x:=jr8) (by kernel_rfl) rfl ?_
   refine sd ?_
   refine b_lt (fun t1=>?_) (fun t1=>?_)
   refine sd ?_
   refine sd ?_
   refine sd ?_
   refine sd ?_
   refine sd ?_
   refine ca (c15) ?_
   exact rfl
   refine ca c20_ ?_
   refine sd ?_
   refine sd ?_
   refine b_lt (fun t2=>?_) (fun t2=>?_)
   refine sd ?_
   refine sd ?_
   refine ca (c15) ?_
   exact rfl
   refine sd ?_
   refine b_lt (fun t3=>?_) (fun t3=>?_)
   refine sd ?_
   refine ca (c15) ?_
   exact rfl
   refine sd ?_
   refine b_lt (fun t4=>?_) (fun t4=>?_)
   refine ca (c15) ?_
   exact rfl
   rotate_left
   have hu:a.u.length≤12:=by omega
   have hb:a.b≤1000000000:=by omega
   have hl:l.length≤8:=by omega
   refine v8a hA hk hn hu hb hL hl (fun z=>?_)
   rotate_left
   refine w8a hA hk hn hu hb hL hl (by omega) h0 h1 h2 (fun x y p' q' hxm hym hp' hq' hB=>?_)
   refine w8b hA hk hn hu hb hL hl hxm hym hp' hB (fun st h=>h)
 ·refine call_of_vc (x:=jr8) (by kernel_rfl) rfl ?_
  refine sd ?_
  refine b_lt (fun t1=>?_) (fun t1=>?_)
  refine sd ?_
  refine sd ?_
  refine sd ?_
  refine sd ?_
  refine sd ?_
  refine ca (c15) ?_
  exact rfl
  refine ca c20_ ?_
  refine sd ?_
  refine b_ne (fun t2=>?_) (fun t2=>?_)
  refine sd ?_
  refine sd ?_
  refine sd ?_
  refine sd ?_
  refine ca (c15) ?_
  exact rfl
  (exfalso; omega)
end Vc
