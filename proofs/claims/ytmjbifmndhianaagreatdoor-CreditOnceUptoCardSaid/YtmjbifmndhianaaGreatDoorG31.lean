import Derived.Test.YtmjbifmndhianaaGreatDoorG29
import Derived.Test.YtmjbifmndhianaaGreatDoorG13
set_option linter.unusedSectionVars false
set_option linter.unusedVariables false
set_option linter.unusedSimpArgs false
set_option maxRecDepth 10000
set_option maxHeartbeats 4000000
namespace Vc
open Go Go.Proofs
theorem ckT_3 {n m:Int} (h:¬ ckT n m=0):ckT n m=3:=by
 unfold ckT at h ⊢
 rcases within3_or n 1 999999999 with e | e <;> rcases within3_or m 1 100000000 with e2 | e2 <;> rw [e,e2] at h ⊢ <;> first | rfl | exact absurd rfl h
structure P8 where
 k:Nat
 B:Int
 D:Int
 U:List Int
theorem row_at {k:Ky} {O:List (Int × Int)} {i:Nat} {x:Int × Int} {e:Data} (h:O[i]?=some x):(blks k O++[e])[((i:Int)).toNat]?=some (.agg [.int .u8 (x.1 / 16777216 % 256),.int .u8 (x.1 / 65536 % 256),.int .u8 (x.1 / 256 % 256),.int .u8 (x.1 % 256),.int .u8 (x.2 / 16777216 % 256),.int .u8 (x.2 / 65536 % 256),.int .u8 (x.2 / 256 % 256),.int .u8 (x.2 % 256),.int .u8 (sealK k (o4 x.1++o4 x.2)).a,.int .u8 (sealK k (o4 x.1++o4 x.2)).b,.int .u8 (sealK k (o4 x.1++o4 x.2)).c,.int .u8 (sealK k (o4 x.1++o4 x.2)).d,.int .u8 (sealK k (o4 x.1++o4 x.2)).e,.int .u8 (sealK k (o4 x.1++o4 x.2)).f,.int .u8 (sealK k (o4 x.1++o4 x.2)).g,.int .u8 (sealK k (o4 x.1++o4 x.2)).h]):=by
 show (blks k O++[e])[i]?=_
 have hi:i < (blks k O).length:=by rw [blks_len]; exact (List.getElem?_eq_some_iff.1 h).1
 rw [List.getElem?_append_left hi]
 exact blks_at h
theorem row_end {k:Ky} {O:List (Int × Int)} {e:Data}:(blks k O++[e])[((O.length:Nat):Int).toNat]?=some e:=by
 show (blks k O++[e])[O.length]?=_
 rw [← blks_len k O,List.getElem?_concat_length]
theorem v8b {a:Ac} {l O:List (Int × Int)} {p p' q':Ky} {Q:AExit→St→Prop} (hA:ckA a false=0) (hk:a.k.ok) (hn:a.n.ok) (hu:a.u.length≤12) (hb:a.b≤1000000000) (hL:U16 l) (hl:l.length≤8) (hO:Lg O) (hOl:O.length≤10) (hp:p.ok) (hp':p'.ok) (hB:Brk p (sealK a.k (ls8 p)) p' q') (hQ:∀ (B D:Int) (U:List Int) (y:Bool),Cr a O (⟨B,D,a.s,a.e,a.k,a.n,a.c,U⟩:Ac)→Q (.exit 2) ⟨[(1,.d (.slice 2 (u16s l))),(3,.ptr 0 0),(7,.sl 6 (blks a.k (tk8s l)).length),(8,.d (.int .i64 (wo8 a.u (tk8s l)))),(9,.d (.int .i64 (fr8 a.u (tk8s l)))),(19,.ptr 13 0),(20,.ptr 14 0),(21,.d (.int .i64 ((((U).length:Nat):Int) - ((a.u.length:Nat):Int)))),(164,.sl 9 (blks a.k O++[Data.agg [.int .u8 p'.a,.int .u8 p'.b,.int .u8 p'.c,.int .u8 p'.d,.int .u8 p'.e,.int .u8 p'.f,.int .u8 p'.g,.int .u8 p'.h,.int .u8 q'.a,.int .u8 q'.b,.int .u8 q'.c,.int .u8 q'.d,.int .u8 q'.e,.int .u8 q'.f,.int .u8 q'.g,.int .u8 q'.h]]).length),(165,.d (.int .i64 (((blks a.k O++[Data.agg [.int .u8 p'.a,.int .u8 p'.b,.int .u8 p'.c,.int .u8 p'.d,.int .u8 p'.e,.int .u8 p'.f,.int .u8 p'.g,.int .u8 p'.h,.int .u8 q'.a,.int .u8 q'.b,.int .u8 q'.c,.int .u8 q'.d,.int .u8 q'.e,.int .u8 q'.f,.int .u8 q'.g,.int .u8 q'.h]]).length:Nat):Int))),(166,.d (.int .i64 (((O.length+1:Nat):Int)))),(167,.d (.bool y))],[.cbox [.int .i64 (a.b),.int .i64 (a.d),.int .i64 a.s,.int .i64 a.e,.int .u8 a.k.a,.int .u8 a.k.b,.int .u8 a.k.c,.int .u8 a.k.d,.int .u8 a.k.e,.int .u8 a.k.f,.int .u8 a.k.g,.int .u8 a.k.h,.int .u8 a.n.a,.int .u8 a.n.b,.int .u8 a.n.c,.int .u8 a.n.d,.int .u8 a.n.e,.int .u8 a.n.f,.int .u8 a.n.g,.int .u8 a.n.h,.bool false,.slice 1 (ints a.u)],.none,.none,.none,.none,.none,.row 64 16 (blks a.k (tk8s l)) false,.none,.none,.row 64 16 (blks a.k O++[Data.agg [.int .u8 p'.a,.int .u8 p'.b,.int .u8 p'.c,.int .u8 p'.d,.int .u8 p'.e,.int .u8 p'.f,.int .u8 p'.g,.int .u8 p'.h,.int .u8 q'.a,.int .u8 q'.b,.int .u8 q'.c,.int .u8 q'.d,.int .u8 q'.e,.int .u8 q'.f,.int .u8 q'.g,.int .u8 q'.h]]) false,.none,.none,.none,.box [.d (.int .u8 p'.a),.d (.int .u8 p'.b),.d (.int .u8 p'.c),.d (.int .u8 p'.d),.d (.int .u8 p'.e),.d (.int .u8 p'.f),.d (.int .u8 p'.g),.d (.int .u8 p'.h),.d (.int .u8 q'.a),.d (.int .u8 q'.b),.d (.int .u8 q'.c),.d (.int .u8 q'.d),.d (.int .u8 q'.e),.d (.int .u8 q'.f),.d (.int .u8 q'.g),.d (.int .u8 q'.h)],.box [.d (.int .i64 (B)),.d (.int .i64 (D)),.d (.int .i64 a.s),.d (.int .i64 a.e),.d (.int .u8 a.k.a),.d (.int .u8 a.k.b),.d (.int .u8 a.k.c),.d (.int .u8 a.k.d),.d (.int .u8 a.k.e),.d (.int .u8 a.k.f),.d (.int .u8 a.k.g),.d (.int .u8 a.k.h),.d (.int .u8 a.n.a),.d (.int .u8 a.n.b),.d (.int .u8 a.n.c),.d (.int .u8 a.n.d),.d (.int .u8 a.n.e),.d (.int .u8 a.n.f),.d (.int .u8 a.n.g),.d (.int .u8 a.n.h),.d (.bool false),.d (.slice 1 (ints U))],.none,.none,.none,.none,.none,.none,.none,.none,.none]⟩):vc Tryz.prog 365 seg8b ⟨[(1,.d (.slice 2 (u16s l))),(3,.ptr 0 0),(7,.sl 6 (blks a.k (tk8s l)).length),(8,.d (.int .i64 (wo8 a.u (tk8s l)))),(9,.d (.int .i64 (fr8 a.u (tk8s l)))),(19,.ptr 13 0),(20,.ptr 14 0),(21,.d (.int .i64 (0))),(164,.sl 9 (blks a.k O++[Data.agg [.int .u8 p'.a,.int .u8 p'.b,.int .u8 p'.c,.int .u8 p'.d,.int .u8 p'.e,.int .u8 p'.f,.int .u8 p'.g,.int .u8 p'.h,.int .u8 q'.a,.int .u8 q'.b,.int .u8 q'.c,.int .u8 q'.d,.int .u8 q'.e,.int .u8 q'.f,.int .u8 q'.g,.int .u8 q'.h]]).length),(165,.d (.int .i64 (((blks a.k O++[Data.agg [.int .u8 p'.a,.int .u8 p'.b,.int .u8 p'.c,.int .u8 p'.d,.int .u8 p'.e,.int .u8 p'.f,.int .u8 p'.g,.int .u8 p'.h,.int .u8 q'.a,.int .u8 q'.b,.int .u8 q'.c,.int .u8 q'.d,.int .u8 q'.e,.int .u8 q'.f,.int .u8 q'.g,.int .u8 q'.h]]).length:Nat):Int))),(166,.d (.int .i64 (0)))],[.cbox [.int .i64 (a.b),.int .i64 (a.d),.int .i64 a.s,.int .i64 a.e,.int .u8 a.k.a,.int .u8 a.k.b,.int .u8 a.k.c,.int .u8 a.k.d,.int .u8 a.k.e,.int .u8 a.k.f,.int .u8 a.k.g,.int .u8 a.k.h,.int .u8 a.n.a,.int .u8 a.n.b,.int .u8 a.n.c,.int .u8 a.n.d,.int .u8 a.n.e,.int .u8 a.n.f,.int .u8 a.n.g,.int .u8 a.n.h,.bool false,.slice 1 (ints a.u)],.none,.none,.none,.none,.none,.row 64 16 (blks a.k (tk8s l)) false,.none,.none,.row 64 16 (blks a.k O++[Data.agg [.int .u8 p'.a,.int .u8 p'.b,.int .u8 p'.c,.int .u8 p'.d,.int .u8 p'.e,.int .u8 p'.f,.int .u8 p'.g,.int .u8 p'.h,.int .u8 q'.a,.int .u8 q'.b,.int .u8 q'.c,.int .u8 q'.d,.int .u8 q'.e,.int .u8 q'.f,.int .u8 q'.g,.int .u8 q'.h]]) false,.none,.none,.none,.box [.d (.int .u8 p'.a),.d (.int .u8 p'.b),.d (.int .u8 p'.c),.d (.int .u8 p'.d),.d (.int .u8 p'.e),.d (.int .u8 p'.f),.d (.int .u8 p'.g),.d (.int .u8 p'.h),.d (.int .u8 q'.a),.d (.int .u8 q'.b),.d (.int .u8 q'.c),.d (.int .u8 q'.d),.d (.int .u8 q'.e),.d (.int .u8 q'.f),.d (.int .u8 q'.g),.d (.int .u8 q'.h)],.box [.d (.int .i64 (a.b)),.d (.int .i64 (a.d)),.d (.int .i64 a.s),.d (.int .i64 a.e),.d (.int .u8 a.k.a),.d (.int .u8 a.k.b),.d (.int .u8 a.k.c),.d (.int .u8 a.k.d),.d (.int .u8 a.k.e),.d (.int .u8 a.k.f),.d (.int .u8 a.k.g),.d (.int .u8 a.k.h),.d (.int .u8 a.n.a),.d (.int .u8 a.n.b),.d (.int .u8 a.n.c),.d (.int .u8 a.n.d),.d (.int .u8 a.n.e),.d (.int .u8 a.n.f),.d (.int .u8 a.n.g),.d (.int .u8 a.n.h),.d (.bool false),.d (.slice 1 (ints a.u))],.none,.none,.none,.none,.none,.none,.none,.none,.none]⟩ Q:=by
 unfold seg8b
 have hrl:(blks a.k O++[Data.agg [.int .u8 p'.a,.int .u8 p'.b,.int .u8 p'.c,.int .u8 p'.d,.int .u8 p'.e,.int .u8 p'.f,.int .u8 p'.g,.int .u8 p'.h,.int .u8 q'.a,.int .u8 q'.b,.int .u8 q'.c,.int .u8 q'.d,.int .u8 q'.e,.int .u8 q'.f,.int .u8 q'.g,.int .u8 q'.h]]).length=O.length+1:=by rw [List.length_append,blks_len]; rfl
 refine loop_st (fun p:P8=>⟨[(1,.d (.slice 2 (u16s l))),(3,.ptr 0 0),(7,.sl 6 (blks a.k (tk8s l)).length),(8,.d (.int .i64 (wo8 a.u (tk8s l)))),(9,.d (.int .i64 (fr8 a.u (tk8s l)))),(19,.ptr 13 0),(20,.ptr 14 0),(21,.d (.int .i64 ((((p.U).length:Nat):Int) - ((a.u.length:Nat):Int)))),(164,.sl 9 (blks a.k O++[Data.agg [.int .u8 p'.a,.int .u8 p'.b,.int .u8 p'.c,.int .u8 p'.d,.int .u8 p'.e,.int .u8 p'.f,.int .u8 p'.g,.int .u8 p'.h,.int .u8 q'.a,.int .u8 q'.b,.int .u8 q'.c,.int .u8 q'.d,.int .u8 q'.e,.int .u8 q'.f,.int .u8 q'.g,.int .u8 q'.h]]).length),(165,.d (.int .i64 (((blks a.k O++[Data.agg [.int .u8 p'.a,.int .u8 p'.b,.int .u8 p'.c,.int .u8 p'.d,.int .u8 p'.e,.int .u8 p'.f,.int .u8 p'.g,.int .u8 p'.h,.int .u8 q'.a,.int .u8 q'.b,.int .u8 q'.c,.int .u8 q'.d,.int .u8 q'.e,.int .u8 q'.f,.int .u8 q'.g,.int .u8 q'.h]]).length:Nat):Int))),(166,.d (.int .i64 (((p.k:Nat):Int))))],[.cbox [.int .i64 (a.b),.int .i64 (a.d),.int .i64 a.s,.int .i64 a.e,.int .u8 a.k.a,.int .u8 a.k.b,.int .u8 a.k.c,.int .u8 a.k.d,.int .u8 a.k.e,.int .u8 a.k.f,.int .u8 a.k.g,.int .u8 a.k.h,.int .u8 a.n.a,.int .u8 a.n.b,.int .u8 a.n.c,.int .u8 a.n.d,.int .u8 a.n.e,.int .u8 a.n.f,.int .u8 a.n.g,.int .u8 a.n.h,.bool false,.slice 1 (ints a.u)],.none,.none,.none,.none,.none,.row 64 16 (blks a.k (tk8s l)) false,.none,.none,.row 64 16 (blks a.k O++[Data.agg [.int .u8 p'.a,.int .u8 p'.b,.int .u8 p'.c,.int .u8 p'.d,.int .u8 p'.e,.int .u8 p'.f,.int .u8 p'.g,.int .u8 p'.h,.int .u8 q'.a,.int .u8 q'.b,.int .u8 q'.c,.int .u8 q'.d,.int .u8 q'.e,.int .u8 q'.f,.int .u8 q'.g,.int .u8 q'.h]]) false,.none,.none,.none,.box [.d (.int .u8 p'.a),.d (.int .u8 p'.b),.d (.int .u8 p'.c),.d (.int .u8 p'.d),.d (.int .u8 p'.e),.d (.int .u8 p'.f),.d (.int .u8 p'.g),.d (.int .u8 p'.h),.d (.int .u8 q'.a),.d (.int .u8 q'.b),.d (.int .u8 q'.c),.d (.int .u8 q'.d),.d (.int .u8 q'.e),.d (.int .u8 q'.f),.d (.int .u8 q'.g),.d (.int .u8 q'.h)],.box [.d (.int .i64 (p.B)),.d (.int .i64 (p.D)),.d (.int .i64 a.s),.d (.int .i64 a.e),.d (.int .u8 a.k.a),.d (.int .u8 a.k.b),.d (.int .u8 a.k.c),.d (.int .u8 a.k.d),.d (.int .u8 a.k.e),.d (.int .u8 a.k.f),.d (.int .u8 a.k.g),.d (.int .u8 a.k.h),.d (.int .u8 a.n.a),.d (.int .u8 a.n.b),.d (.int .u8 a.n.c),.d (.int .u8 a.n.d),.d (.int .u8 a.n.e),.d (.int .u8 a.n.f),.d (.int .u8 a.n.g),.d (.int .u8 a.n.h),.d (.bool false),.d (.slice 1 (ints p.U))],.none,.none,.none,.none,.none,.none,.none,.none,.none]⟩) (fun p=>(p.k≤O.length+1∧Cr a (O.take p.k) (⟨p.B,p.D,a.s,a.e,a.k,a.n,a.c,p.U⟩:Ac))) (fun p=>O.length+1 - p.k) ⟨0,a.b,a.d,a.u⟩ (by rw [Int.sub_self]; rfl) ⟨Nat.zero_le _,Cr.nil hA⟩ ?_
 rintro ⟨k,B,D,U⟩ ⟨hkl,hC⟩
 have hkl:k≤O.length+1:=hkl
 have hC:Cr a (O.take k) (⟨B,D,a.s,a.e,a.k,a.n,a.c,U⟩:Ac):=hC
 have hS:Lg (O.take k):=fun x hx=>hO x (List.mem_of_mem_take hx)
 have hSl:(O.take k).length≤20:=by rw [List.length_take]; omega
 obtain ⟨hb1,hb2⟩:=hC.bal hS hSl hb hu
 have hb1:B≤1010000000:=hb1
 have hb2:U.length≤32:=hb2
 have hCk:ckA (⟨B,D,a.s,a.e,a.k,a.n,a.c,U⟩:Ac) false=0:=hC.ok
 have hbb:=(ckA_b hCk).1
 have hdd:=(ckA_ds hCk).1
 have hb0:-1000000000000≤B:=hbb.1
 have hd0:0≤D:=hdd.1
 have hd1:D≤1000000000000:=hdd.2
 have hul:(ints U).length=U.length:=List.length_map _
 have hg1:(((U).length:Nat):Int) - ((a.u.length:Nat):Int)≤32:=by omega
 have hg0:-12≤(((U).length:Nat):Int) - ((a.u.length:Nat):Int):=by omega
 have c67_:=c67 (⟨B,D,a.s,a.e,a.k,a.n,a.c,U⟩:Ac) false
 have c17_:=c17 (⟨B,D,a.s,a.e,a.k,a.n,a.c,U⟩:Ac) false (by show U.length≤_; omega)
 dsimp only
 by_cases hkn:k < O.length
 ·refine Exists.elim (get_lt O hkn) fun x hx=>?_
  have hx1:=row_at (k:=a.k) (e:=Data.agg [.int .u8 p'.a,.int .u8 p'.b,.int .u8 p'.c,.int .u8 p'.d,.int .u8 p'.e,.int .u8 p'.f,.int .u8 p'.g,.int .u8 p'.h,.int .u8 q'.a,.int .u8 q'.b,.int .u8 q'.c,.int .u8 q'.d,.int .u8 q'.e,.int .u8 q'.f,.int .u8 q'.g,.int .u8 q'.h]) hx
  have hy:=hO x (List.mem_of_getElem? hx)
  have hy1:=hy.1
  have hy2:=hy.2
  have c40_:=c40_l a.k hy
  have hne:=blk_ne (k:=a.k) hk hp hp' hB x
  have htk:O.take (k+1)=O.take k++[x]:=take_one hx
  by_cases hm:x.1∈U
  ·obtain ⟨c28_,hC2⟩:=c28_o hC hS hSl hb hu hk hn hy hm
   rw [← htk] at hC2
   have fin:∃ a':P8,(((a'.k≤O.length+1∧Cr a (O.take a'.k) (⟨a'.B,a'.D,a.s,a.e,a.k,a.n,a.c,a'.U⟩:Ac)))∧O.length+1 - a'.k < O.length+1 - k)∧(⟨[(1,.d (.slice 2 (u16s l))),(3,.ptr 0 0),(7,.sl 6 (blks a.k (tk8s l)).length),(8,.d (.int .i64 (wo8 a.u (tk8s l)))),(9,.d (.int .i64 (fr8 a.u (tk8s l)))),(19,.ptr 13 0),(20,.ptr 14 0),(21,.d (.int .i64 ((((U).length:Nat):Int) - ((a.u.length:Nat):Int)))),(164,.sl 9 (blks a.k O++[Data.agg [.int .u8 p'.a,.int .u8 p'.b,.int .u8 p'.c,.int .u8 p'.d,.int .u8 p'.e,.int .u8 p'.f,.int .u8 p'.g,.int .u8 p'.h,.int .u8 q'.a,.int .u8 q'.b,.int .u8 q'.c,.int .u8 q'.d,.int .u8 q'.e,.int .u8 q'.f,.int .u8 q'.g,.int .u8 q'.h]]).length),(165,.d (.int .i64 (((blks a.k O++[Data.agg [.int .u8 p'.a,.int .u8 p'.b,.int .u8 p'.c,.int .u8 p'.d,.int .u8 p'.e,.int .u8 p'.f,.int .u8 p'.g,.int .u8 p'.h,.int .u8 q'.a,.int .u8 q'.b,.int .u8 q'.c,.int .u8 q'.d,.int .u8 q'.e,.int .u8 q'.f,.int .u8 q'.g,.int .u8 q'.h]]).length:Nat):Int))),(166,.d (.int .i64 ((k:Int)+1)))],[.cbox [.int .i64 (a.b),.int .i64 (a.d),.int .i64 a.s,.int .i64 a.e,.int .u8 a.k.a,.int .u8 a.k.b,.int .u8 a.k.c,.int .u8 a.k.d,.int .u8 a.k.e,.int .u8 a.k.f,.int .u8 a.k.g,.int .u8 a.k.h,.int .u8 a.n.a,.int .u8 a.n.b,.int .u8 a.n.c,.int .u8 a.n.d,.int .u8 a.n.e,.int .u8 a.n.f,.int .u8 a.n.g,.int .u8 a.n.h,.bool false,.slice 1 (ints a.u)],.none,.none,.none,.none,.none,.row 64 16 (blks a.k (tk8s l)) false,.none,.none,.row 64 16 (blks a.k O++[Data.agg [.int .u8 p'.a,.int .u8 p'.b,.int .u8 p'.c,.int .u8 p'.d,.int .u8 p'.e,.int .u8 p'.f,.int .u8 p'.g,.int .u8 p'.h,.int .u8 q'.a,.int .u8 q'.b,.int .u8 q'.c,.int .u8 q'.d,.int .u8 q'.e,.int .u8 q'.f,.int .u8 q'.g,.int .u8 q'.h]]) false,.none,.none,.none,.box [.d (.int .u8 p'.a),.d (.int .u8 p'.b),.d (.int .u8 p'.c),.d (.int .u8 p'.d),.d (.int .u8 p'.e),.d (.int .u8 p'.f),.d (.int .u8 p'.g),.d (.int .u8 p'.h),.d (.int .u8 q'.a),.d (.int .u8 q'.b),.d (.int .u8 q'.c),.d (.int .u8 q'.d),.d (.int .u8 q'.e),.d (.int .u8 q'.f),.d (.int .u8 q'.g),.d (.int .u8 q'.h)],.box [.d (.int .i64 (B)),.d (.int .i64 (D)),.d (.int .i64 a.s),.d (.int .i64 a.e),.d (.int .u8 a.k.a),.d (.int .u8 a.k.b),.d (.int .u8 a.k.c),.d (.int .u8 a.k.d),.d (.int .u8 a.k.e),.d (.int .u8 a.k.f),.d (.int .u8 a.k.g),.d (.int .u8 a.k.h),.d (.int .u8 a.n.a),.d (.int .u8 a.n.b),.d (.int .u8 a.n.c),.d (.int .u8 a.n.d),.d (.int .u8 a.n.e),.d (.int .u8 a.n.f),.d (.int .u8 a.n.g),.d (.int .u8 a.n.h),.d (.bool false),.d (.slice 1 (ints U))],.none,.none,.none,.none,.none,.none,.none,.none,.none]⟩:St)=⟨[(1,.d (.slice 2 (u16s l))),(3,.ptr 0 0),(7,.sl 6 (blks a.k (tk8s l)).length),(8,.d (.int .i64 (wo8 a.u (tk8s l)))),(9,.d (.int .i64 (fr8 a.u (tk8s l)))),(19,.ptr 13 0),(20,.ptr 14 0),(21,.d (.int .i64 ((((a'.U).length:Nat):Int) - ((a.u.length:Nat):Int)))),(164,.sl 9 (blks a.k O++[Data.agg [.int .u8 p'.a,.int .u8 p'.b,.int .u8 p'.c,.int .u8 p'.d,.int .u8 p'.e,.int .u8 p'.f,.int .u8 p'.g,.int .u8 p'.h,.int .u8 q'.a,.int .u8 q'.b,.int .u8 q'.c,.int .u8 q'.d,.int .u8 q'.e,.int .u8 q'.f,.int .u8 q'.g,.int .u8 q'.h]]).length),(165,.d (.int .i64 (((blks a.k O++[Data.agg [.int .u8 p'.a,.int .u8 p'.b,.int .u8 p'.c,.int .u8 p'.d,.int .u8 p'.e,.int .u8 p'.f,.int .u8 p'.g,.int .u8 p'.h,.int .u8 q'.a,.int .u8 q'.b,.int .u8 q'.c,.int .u8 q'.d,.int .u8 q'.e,.int .u8 q'.f,.int .u8 q'.g,.int .u8 q'.h]]).length:Nat):Int))),(166,.d (.int .i64 (((a'.k:Nat):Int))))],[.cbox [.int .i64 (a.b),.int .i64 (a.d),.int .i64 a.s,.int .i64 a.e,.int .u8 a.k.a,.int .u8 a.k.b,.int .u8 a.k.c,.int .u8 a.k.d,.int .u8 a.k.e,.int .u8 a.k.f,.int .u8 a.k.g,.int .u8 a.k.h,.int .u8 a.n.a,.int .u8 a.n.b,.int .u8 a.n.c,.int .u8 a.n.d,.int .u8 a.n.e,.int .u8 a.n.f,.int .u8 a.n.g,.int .u8 a.n.h,.bool false,.slice 1 (ints a.u)],.none,.none,.none,.none,.none,.row 64 16 (blks a.k (tk8s l)) false,.none,.none,.row 64 16 (blks a.k O++[Data.agg [.int .u8 p'.a,.int .u8 p'.b,.int .u8 p'.c,.int .u8 p'.d,.int .u8 p'.e,.int .u8 p'.f,.int .u8 p'.g,.int .u8 p'.h,.int .u8 q'.a,.int .u8 q'.b,.int .u8 q'.c,.int .u8 q'.d,.int .u8 q'.e,.int .u8 q'.f,.int .u8 q'.g,.int .u8 q'.h]]) false,.none,.none,.none,.box [.d (.int .u8 p'.a),.d (.int .u8 p'.b),.d (.int .u8 p'.c),.d (.int .u8 p'.d),.d (.int .u8 p'.e),.d (.int .u8 p'.f),.d (.int .u8 p'.g),.d (.int .u8 p'.h),.d (.int .u8 q'.a),.d (.int .u8 q'.b),.d (.int .u8 q'.c),.d (.int .u8 q'.d),.d (.int .u8 q'.e),.d (.int .u8 q'.f),.d (.int .u8 q'.g),.d (.int .u8 q'.h)],.box [.d (.int .i64 (a'.B)),.d (.int .i64 (a'.D)),.d (.int .i64 a.s),.d (.int .i64 a.e),.d (.int .u8 a.k.a),.d (.int .u8 a.k.b),.d (.int .u8 a.k.c),.d (.int .u8 a.k.d),.d (.int .u8 a.k.e),.d (.int .u8 a.k.f),.d (.int .u8 a.k.g),.d (.int .u8 a.k.h),.d (.int .u8 a.n.a),.d (.int .u8 a.n.b),.d (.int .u8 a.n.c),.d (.int .u8 a.n.d),.d (.int .u8 a.n.e),.d (.int .u8 a.n.f),.d (.int .u8 a.n.g),.d (.int .u8 a.n.h),.d (.bool false),.d (.slice 1 (ints a'.U))],.none,.none,.none,.none,.none,.none,.none,.none,.none]⟩:=⟨⟨k+1,B,D,U⟩,⟨⟨by show k+1≤_; omega,hC2⟩,by show O.length+1 - (k+1) < _; omega⟩,rfl⟩
   refine sd ?_
   refine b_lt (fun t1=>?_) (fun t1=>?_)
   refine an ?_ ?_
   refine an ?_ ?_
   exact rfl
   refine an ?_ ?_
   exact rfl
   refine an ?_ ?_
   (show (0:Int)≤(↑k:Int); omega)
   assumption
   refine sd ?_
   refine ca hx1 ?_
   refine ca c40_ ?_
   refine sd ?_
   refine ca c67_ ?_
   refine ca c17_ ?_
   refine ca c28_ ?_
   refine ca (Exists.intro _ (And.intro rfl rfl)) ?_
   refine b_intro (fun t2=>?_) (fun t2=>?_)
   replace t2:(Prod.fst x / (16777216:Int) % (256:Int)==Ky.a p'&&(Prod.fst x / (65536:Int) % (256:Int)==Ky.b p'&&(Prod.fst x / (256:Int) % (256:Int)==Ky.c p'&&(Prod.fst x % (256:Int)==Ky.d p'&&(Prod.snd x / (16777216:Int) % (256:Int)==Ky.e p'&&(Prod.snd x / (65536:Int) % (256:Int)==Ky.f p'&&(Prod.snd x / (256:Int) % (256:Int)==Ky.g p'&&(Prod.snd x % (256:Int)==Ky.h p'&&(Ky.a (sealK (Ac.k a) (o4 (Prod.fst x)++o4 (Prod.snd x)))==Ky.a q'&&(Ky.b (sealK (Ac.k a) (o4 (Prod.fst x)++o4 (Prod.snd x)))==Ky.b q'&&(Ky.c (sealK (Ac.k a) (o4 (Prod.fst x)++o4 (Prod.snd x)))==Ky.c q'&&(Ky.d (sealK (Ac.k a) (o4 (Prod.fst x)++o4 (Prod.snd x)))==Ky.d q'&&(Ky.e (sealK (Ac.k a) (o4 (Prod.fst x)++o4 (Prod.snd x)))==Ky.e q'&&(Ky.f (sealK (Ac.k a) (o4 (Prod.fst x)++o4 (Prod.snd x)))==Ky.f q'&&(Ky.g (sealK (Ac.k a) (o4 (Prod.fst x)++o4 (Prod.snd x)))==Ky.g q'&&(Ky.h (sealK (Ac.k a) (o4 (Prod.fst x)++o4 (Prod.snd x)))==Ky.h q'&&true))))))))))))))))=true:=t2
   refine sd ?_
   rotate_left
   replace t2:(Prod.fst x / (16777216:Int) % (256:Int)==Ky.a p'&&(Prod.fst x / (65536:Int) % (256:Int)==Ky.b p'&&(Prod.fst x / (256:Int) % (256:Int)==Ky.c p'&&(Prod.fst x % (256:Int)==Ky.d p'&&(Prod.snd x / (16777216:Int) % (256:Int)==Ky.e p'&&(Prod.snd x / (65536:Int) % (256:Int)==Ky.f p'&&(Prod.snd x / (256:Int) % (256:Int)==Ky.g p'&&(Prod.snd x % (256:Int)==Ky.h p'&&(Ky.a (sealK (Ac.k a) (o4 (Prod.fst x)++o4 (Prod.snd x)))==Ky.a q'&&(Ky.b (sealK (Ac.k a) (o4 (Prod.fst x)++o4 (Prod.snd x)))==Ky.b q'&&(Ky.c (sealK (Ac.k a) (o4 (Prod.fst x)++o4 (Prod.snd x)))==Ky.c q'&&(Ky.d (sealK (Ac.k a) (o4 (Prod.fst x)++o4 (Prod.snd x)))==Ky.d q'&&(Ky.e (sealK (Ac.k a) (o4 (Prod.fst x)++o4 (Prod.snd x)))==Ky.e q'&&(Ky.f (sealK (Ac.k a) (o4 (Prod.fst x)++o4 (Prod.snd x)))==Ky.f q'&&(Ky.g (sealK (Ac.k a) (o4 (Prod.fst x)++o4 (Prod.snd x)))==Ky.g q'&&(Ky.h (sealK (Ac.k a) (o4 (Prod.fst x)++o4 (Prod.snd x)))==Ky.h q'&&true))))))))))))))))=false:=t2
   refine sd ?_
   refine ar_add ?_ ?_
   refine an ?_ ?_
   (show (-9223372036854775808:Int)≤(↑k:Int)+(1:Int); omega)
   (show (↑k:Int)+(1:Int)≤(9223372036854775807:Int); omega)
   rotate_left
   (exfalso; omega)
   all_goals first | exact fin | exact absurd (hne.symm.trans t2) (by decide) | exact absurd (t8.symm.trans (congrArg not (keq_self a.k))) (by decide)
  ·obtain ⟨c28x,hC2⟩:=c28_n hC hS hSl hb hu hk hn hy hm
   rw [← htk] at hC2
   have hpb:=pay_b hCk (m:=x.2) (by omega) (by omega)
   obtain ⟨⟨hm0,hm1⟩,hp0,hp1,hp2,hp3⟩:=hpb
   have hm0:0≤x.2 * a.s:=hm0
   have hm1:x.2 * a.s≤10000000000:=hm1
   have hp3:100 * pay (⟨B,D,a.s,a.e,a.k,a.n,a.c,U⟩:Ac) x.2≤x.2 * a.s:=hp3
   have hp1:pay (⟨B,D,a.s,a.e,a.k,a.n,a.c,U⟩:Ac) x.2≤D:=hp1
   have hC2:Cr a (O.take (k+1)) (⟨B+(x.2 - pay (⟨B,D,a.s,a.e,a.k,a.n,a.c,U⟩:Ac) x.2),D - pay (⟨B,D,a.s,a.e,a.k,a.n,a.c,U⟩:Ac) x.2,a.s,a.e,a.k,a.n,a.c,insI x.1 U⟩:Ac):=hC2
   have c28_:CallDet Tryz.prog 28 [.d (.agg [.int .i64 (B),.int .i64 (D),.int .i64 a.s,.int .i64 a.e,.int .u8 a.k.a,.int .u8 a.k.b,.int .u8 a.k.c,.int .u8 a.k.d,.int .u8 a.k.e,.int .u8 a.k.f,.int .u8 a.k.g,.int .u8 a.k.h,.int .u8 a.n.a,.int .u8 a.n.b,.int .u8 a.n.c,.int .u8 a.n.d,.int .u8 a.n.e,.int .u8 a.n.f,.int .u8 a.n.g,.int .u8 a.n.h,.bool false,.slice 1 (ints U)]),.d (.agg [.int .i64 x.1,.int .i64 x.2,.int .u8 (sealK a.k (o4 x.1++o4 x.2)).a,.int .u8 (sealK a.k (o4 x.1++o4 x.2)).b,.int .u8 (sealK a.k (o4 x.1++o4 x.2)).c,.int .u8 (sealK a.k (o4 x.1++o4 x.2)).d,.int .u8 (sealK a.k (o4 x.1++o4 x.2)).e,.int .u8 (sealK a.k (o4 x.1++o4 x.2)).f,.int .u8 (sealK a.k (o4 x.1++o4 x.2)).g,.int .u8 (sealK a.k (o4 x.1++o4 x.2)).h])] [.agg [.int .i64 (B+(x.2 - pay (⟨B,D,a.s,a.e,a.k,a.n,a.c,U⟩:Ac) x.2)),.int .i64 (D - pay (⟨B,D,a.s,a.e,a.k,a.n,a.c,U⟩:Ac) x.2),.int .i64 a.s,.int .i64 a.e,.int .u8 a.k.a,.int .u8 a.k.b,.int .u8 a.k.c,.int .u8 a.k.d,.int .u8 a.k.e,.int .u8 a.k.f,.int .u8 a.k.g,.int .u8 a.k.h,.int .u8 a.n.a,.int .u8 a.n.b,.int .u8 a.n.c,.int .u8 a.n.d,.int .u8 a.n.e,.int .u8 a.n.f,.int .u8 a.n.g,.int .u8 a.n.h,.bool false,.slice 1 (ints (insI x.1 U))],.int .i64 0]:=c28x
   generalize pay (⟨B,D,a.s,a.e,a.k,a.n,a.c,U⟩:Ac) x.2=P at *
   have hil:(ints (insI x.1 U)).length=U.length+1:=by unfold ints; rw [List.length_map,insI_len]
   have hil2:(insI x.1 U).length=U.length+1:=insI_len _ _
   have c66_:=c66 (insI x.1 U) x.1 (by omega)
   rw [List.contains_iff_mem.2 ((insI_mem _ _ _).2 (.inl rfl))] at c66_
   have fin:∃ a':P8,(((a'.k≤O.length+1∧Cr a (O.take a'.k) (⟨a'.B,a'.D,a.s,a.e,a.k,a.n,a.c,a'.U⟩:Ac)))∧O.length+1 - a'.k < O.length+1 - k)∧(⟨[(1,.d (.slice 2 (u16s l))),(3,.ptr 0 0),(7,.sl 6 (blks a.k (tk8s l)).length),(8,.d (.int .i64 (wo8 a.u (tk8s l)))),(9,.d (.int .i64 (fr8 a.u (tk8s l)))),(19,.ptr 13 0),(20,.ptr 14 0),(21,.d (.int .i64 ((((U).length:Nat):Int) - ((a.u.length:Nat):Int)+1))),(164,.sl 9 (blks a.k O++[Data.agg [.int .u8 p'.a,.int .u8 p'.b,.int .u8 p'.c,.int .u8 p'.d,.int .u8 p'.e,.int .u8 p'.f,.int .u8 p'.g,.int .u8 p'.h,.int .u8 q'.a,.int .u8 q'.b,.int .u8 q'.c,.int .u8 q'.d,.int .u8 q'.e,.int .u8 q'.f,.int .u8 q'.g,.int .u8 q'.h]]).length),(165,.d (.int .i64 (((blks a.k O++[Data.agg [.int .u8 p'.a,.int .u8 p'.b,.int .u8 p'.c,.int .u8 p'.d,.int .u8 p'.e,.int .u8 p'.f,.int .u8 p'.g,.int .u8 p'.h,.int .u8 q'.a,.int .u8 q'.b,.int .u8 q'.c,.int .u8 q'.d,.int .u8 q'.e,.int .u8 q'.f,.int .u8 q'.g,.int .u8 q'.h]]).length:Nat):Int))),(166,.d (.int .i64 ((k:Int)+1)))],[.cbox [.int .i64 (a.b),.int .i64 (a.d),.int .i64 a.s,.int .i64 a.e,.int .u8 a.k.a,.int .u8 a.k.b,.int .u8 a.k.c,.int .u8 a.k.d,.int .u8 a.k.e,.int .u8 a.k.f,.int .u8 a.k.g,.int .u8 a.k.h,.int .u8 a.n.a,.int .u8 a.n.b,.int .u8 a.n.c,.int .u8 a.n.d,.int .u8 a.n.e,.int .u8 a.n.f,.int .u8 a.n.g,.int .u8 a.n.h,.bool false,.slice 1 (ints a.u)],.none,.none,.none,.none,.none,.row 64 16 (blks a.k (tk8s l)) false,.none,.none,.row 64 16 (blks a.k O++[Data.agg [.int .u8 p'.a,.int .u8 p'.b,.int .u8 p'.c,.int .u8 p'.d,.int .u8 p'.e,.int .u8 p'.f,.int .u8 p'.g,.int .u8 p'.h,.int .u8 q'.a,.int .u8 q'.b,.int .u8 q'.c,.int .u8 q'.d,.int .u8 q'.e,.int .u8 q'.f,.int .u8 q'.g,.int .u8 q'.h]]) false,.none,.none,.none,.box [.d (.int .u8 p'.a),.d (.int .u8 p'.b),.d (.int .u8 p'.c),.d (.int .u8 p'.d),.d (.int .u8 p'.e),.d (.int .u8 p'.f),.d (.int .u8 p'.g),.d (.int .u8 p'.h),.d (.int .u8 q'.a),.d (.int .u8 q'.b),.d (.int .u8 q'.c),.d (.int .u8 q'.d),.d (.int .u8 q'.e),.d (.int .u8 q'.f),.d (.int .u8 q'.g),.d (.int .u8 q'.h)],.box [.d (.int .i64 (B+(x.2 - P))),.d (.int .i64 (D - P)),.d (.int .i64 a.s),.d (.int .i64 a.e),.d (.int .u8 a.k.a),.d (.int .u8 a.k.b),.d (.int .u8 a.k.c),.d (.int .u8 a.k.d),.d (.int .u8 a.k.e),.d (.int .u8 a.k.f),.d (.int .u8 a.k.g),.d (.int .u8 a.k.h),.d (.int .u8 a.n.a),.d (.int .u8 a.n.b),.d (.int .u8 a.n.c),.d (.int .u8 a.n.d),.d (.int .u8 a.n.e),.d (.int .u8 a.n.f),.d (.int .u8 a.n.g),.d (.int .u8 a.n.h),.d (.bool false),.d (.slice 1 (ints (insI x.1 U)))],.none,.none,.none,.none,.none,.none,.none,.none,.none]⟩:St)=⟨[(1,.d (.slice 2 (u16s l))),(3,.ptr 0 0),(7,.sl 6 (blks a.k (tk8s l)).length),(8,.d (.int .i64 (wo8 a.u (tk8s l)))),(9,.d (.int .i64 (fr8 a.u (tk8s l)))),(19,.ptr 13 0),(20,.ptr 14 0),(21,.d (.int .i64 ((((a'.U).length:Nat):Int) - ((a.u.length:Nat):Int)))),(164,.sl 9 (blks a.k O++[Data.agg [.int .u8 p'.a,.int .u8 p'.b,.int .u8 p'.c,.int .u8 p'.d,.int .u8 p'.e,.int .u8 p'.f,.int .u8 p'.g,.int .u8 p'.h,.int .u8 q'.a,.int .u8 q'.b,.int .u8 q'.c,.int .u8 q'.d,.int .u8 q'.e,.int .u8 q'.f,.int .u8 q'.g,.int .u8 q'.h]]).length),(165,.d (.int .i64 (((blks a.k O++[Data.agg [.int .u8 p'.a,.int .u8 p'.b,.int .u8 p'.c,.int .u8 p'.d,.int .u8 p'.e,.int .u8 p'.f,.int .u8 p'.g,.int .u8 p'.h,.int .u8 q'.a,.int .u8 q'.b,.int .u8 q'.c,.int .u8 q'.d,.int .u8 q'.e,.int .u8 q'.f,.int .u8 q'.g,.int .u8 q'.h]]).length:Nat):Int))),(166,.d (.int .i64 (((a'.k:Nat):Int))))],[.cbox [.int .i64 (a.b),.int .i64 (a.d),.int .i64 a.s,.int .i64 a.e,.int .u8 a.k.a,.int .u8 a.k.b,.int .u8 a.k.c,.int .u8 a.k.d,.int .u8 a.k.e,.int .u8 a.k.f,.int .u8 a.k.g,.int .u8 a.k.h,.int .u8 a.n.a,.int .u8 a.n.b,.int .u8 a.n.c,.int .u8 a.n.d,.int .u8 a.n.e,.int .u8 a.n.f,.int .u8 a.n.g,.int .u8 a.n.h,.bool false,.slice 1 (ints a.u)],.none,.none,.none,.none,.none,.row 64 16 (blks a.k (tk8s l)) false,.none,.none,.row 64 16 (blks a.k O++[Data.agg [.int .u8 p'.a,.int .u8 p'.b,.int .u8 p'.c,.int .u8 p'.d,.int .u8 p'.e,.int .u8 p'.f,.int .u8 p'.g,.int .u8 p'.h,.int .u8 q'.a,.int .u8 q'.b,.int .u8 q'.c,.int .u8 q'.d,.int .u8 q'.e,.int .u8 q'.f,.int .u8 q'.g,.int .u8 q'.h]]) false,.none,.none,.none,.box [.d (.int .u8 p'.a),.d (.int .u8 p'.b),.d (.int .u8 p'.c),.d (.int .u8 p'.d),.d (.int .u8 p'.e),.d (.int .u8 p'.f),.d (.int .u8 p'.g),.d (.int .u8 p'.h),.d (.int .u8 q'.a),.d (.int .u8 q'.b),.d (.int .u8 q'.c),.d (.int .u8 q'.d),.d (.int .u8 q'.e),.d (.int .u8 q'.f),.d (.int .u8 q'.g),.d (.int .u8 q'.h)],.box [.d (.int .i64 (a'.B)),.d (.int .i64 (a'.D)),.d (.int .i64 a.s),.d (.int .i64 a.e),.d (.int .u8 a.k.a),.d (.int .u8 a.k.b),.d (.int .u8 a.k.c),.d (.int .u8 a.k.d),.d (.int .u8 a.k.e),.d (.int .u8 a.k.f),.d (.int .u8 a.k.g),.d (.int .u8 a.k.h),.d (.int .u8 a.n.a),.d (.int .u8 a.n.b),.d (.int .u8 a.n.c),.d (.int .u8 a.n.d),.d (.int .u8 a.n.e),.d (.int .u8 a.n.f),.d (.int .u8 a.n.g),.d (.int .u8 a.n.h),.d (.bool false),.d (.slice 1 (ints a'.U))],.none,.none,.none,.none,.none,.none,.none,.none,.none]⟩:=⟨⟨k+1,B+(x.2 - P),D - P,insI x.1 U⟩,⟨⟨by show k+1≤_; omega,hC2⟩,by show O.length+1 - (k+1) < _; omega⟩,by rw [hil2]; rw [show (((U).length:Nat):Int) - ((a.u.length:Nat):Int)+1=(((U.length+1:Nat)):Int) - ((a.u.length:Nat):Int) by omega]; rfl⟩
   refine sd ?_
   refine b_lt (fun t1=>?_) (fun t1=>?_)
   refine an ?_ ?_
   refine an ?_ ?_
   exact rfl
   refine an ?_ ?_
   exact rfl
   refine an ?_ ?_
   (show (0:Int)≤(↑k:Int); omega)
   assumption
   refine sd ?_
   refine ca hx1 ?_
   refine ca c40_ ?_
   refine sd ?_
   refine ca c67_ ?_
   refine ca c17_ ?_
   refine ca c28_ ?_
   refine ca (Exists.intro _ (And.intro rfl rfl)) ?_
   refine b_intro (fun t2=>?_) (fun t2=>?_)
   replace t2:(Prod.fst x / (16777216:Int) % (256:Int)==Ky.a p'&&(Prod.fst x / (65536:Int) % (256:Int)==Ky.b p'&&(Prod.fst x / (256:Int) % (256:Int)==Ky.c p'&&(Prod.fst x % (256:Int)==Ky.d p'&&(Prod.snd x / (16777216:Int) % (256:Int)==Ky.e p'&&(Prod.snd x / (65536:Int) % (256:Int)==Ky.f p'&&(Prod.snd x / (256:Int) % (256:Int)==Ky.g p'&&(Prod.snd x % (256:Int)==Ky.h p'&&(Ky.a (sealK (Ac.k a) (o4 (Prod.fst x)++o4 (Prod.snd x)))==Ky.a q'&&(Ky.b (sealK (Ac.k a) (o4 (Prod.fst x)++o4 (Prod.snd x)))==Ky.b q'&&(Ky.c (sealK (Ac.k a) (o4 (Prod.fst x)++o4 (Prod.snd x)))==Ky.c q'&&(Ky.d (sealK (Ac.k a) (o4 (Prod.fst x)++o4 (Prod.snd x)))==Ky.d q'&&(Ky.e (sealK (Ac.k a) (o4 (Prod.fst x)++o4 (Prod.snd x)))==Ky.e q'&&(Ky.f (sealK (Ac.k a) (o4 (Prod.fst x)++o4 (Prod.snd x)))==Ky.f q'&&(Ky.g (sealK (Ac.k a) (o4 (Prod.fst x)++o4 (Prod.snd x)))==Ky.g q'&&(Ky.h (sealK (Ac.k a) (o4 (Prod.fst x)++o4 (Prod.snd x)))==Ky.h q'&&true))))))))))))))))=true:=t2
   refine sd ?_
   rotate_left
   replace t2:(Prod.fst x / (16777216:Int) % (256:Int)==Ky.a p'&&(Prod.fst x / (65536:Int) % (256:Int)==Ky.b p'&&(Prod.fst x / (256:Int) % (256:Int)==Ky.c p'&&(Prod.fst x % (256:Int)==Ky.d p'&&(Prod.snd x / (16777216:Int) % (256:Int)==Ky.e p'&&(Prod.snd x / (65536:Int) % (256:Int)==Ky.f p'&&(Prod.snd x / (256:Int) % (256:Int)==Ky.g p'&&(Prod.snd x % (256:Int)==Ky.h p'&&(Ky.a (sealK (Ac.k a) (o4 (Prod.fst x)++o4 (Prod.snd x)))==Ky.a q'&&(Ky.b (sealK (Ac.k a) (o4 (Prod.fst x)++o4 (Prod.snd x)))==Ky.b q'&&(Ky.c (sealK (Ac.k a) (o4 (Prod.fst x)++o4 (Prod.snd x)))==Ky.c q'&&(Ky.d (sealK (Ac.k a) (o4 (Prod.fst x)++o4 (Prod.snd x)))==Ky.d q'&&(Ky.e (sealK (Ac.k a) (o4 (Prod.fst x)++o4 (Prod.snd x)))==Ky.e q'&&(Ky.f (sealK (Ac.k a) (o4 (Prod.fst x)++o4 (Prod.snd x)))==Ky.f q'&&(Ky.g (sealK (Ac.k a) (o4 (Prod.fst x)++o4 (Prod.snd x)))==Ky.g q'&&(Ky.h (sealK (Ac.k a) (o4 (Prod.fst x)++o4 (Prod.snd x)))==Ky.h q'&&true))))))))))))))))=false:=t2
   refine sd ?_
   refine ar_sub ?_ ?_
   refine an ?_ ?_
   (show (-9223372036854775808:Int)≤D - (D - P); omega)
   (show D - (D - P)≤(9223372036854775807:Int); omega)
   refine sd ?_
   refine ar_add ?_ ?_
   refine an ?_ ?_
   (show (-9223372036854775808:Int)≤(↑(List.length (ints U)):Int)+(1:Int); omega)
   (show (↑(List.length (ints U)):Int)+(1:Int)≤(9223372036854775807:Int); omega)
   refine sd ?_
   refine b_ne (fun t3=>?_) (fun t3=>?_)
   (exfalso; omega)
   refine sd ?_
   refine b_lt (fun t4=>?_) (fun t4=>?_)
   (exfalso; omega)
   refine ar_sub ?_ ?_
   refine an ?_ ?_
   (show (-9223372036854775808:Int)≤B+(Prod.snd x - P) - B; omega)
   (show B+(Prod.snd x - P) - B≤(9223372036854775807:Int); omega)
   refine ar_add ?_ ?_
   refine an ?_ ?_
   (show (-9223372036854775808:Int)≤B+(Prod.snd x - P) - B+(D - (D - P)); omega)
   (show B+(Prod.snd x - P) - B+(D - (D - P))≤(9223372036854775807:Int); omega)
   refine sd ?_
   refine b_ne (fun t5=>?_) (fun t5=>?_)
   (exfalso; omega)
   refine sd ?_
   refine b_lt (fun t6=>?_) (fun t6=>?_)
   (exfalso; omega)
   refine ar_mul ?_ ?_
   refine an ?_ ?_
   (show (-9223372036854775808:Int)≤(100:Int) * (D - (D - P)); omega)
   (show (100:Int) * (D - (D - P))≤(9223372036854775807:Int); omega)
   refine ar_mul ?_ ?_
   refine an ?_ ?_
   (show (-9223372036854775808:Int)≤Prod.snd x * Ac.s a; omega)
   (show Prod.snd x * Ac.s a≤(9223372036854775807:Int); omega)
   refine sd ?_
   refine b_lt (fun t7=>?_) (fun t7=>?_)
   (exfalso; omega)
   refine ca c66_ ?_
   refine ca (Exists.intro _ (And.intro rfl rfl)) ?_
   refine b_intro (fun t8=>?_) (fun t8=>?_)
   replace t8:(!(Ky.a (Ac.k a)==Ky.a (Ac.k a)&&(Ky.b (Ac.k a)==Ky.b (Ac.k a)&&(Ky.c (Ac.k a)==Ky.c (Ac.k a)&&(Ky.d (Ac.k a)==Ky.d (Ac.k a)&&(Ky.e (Ac.k a)==Ky.e (Ac.k a)&&(Ky.f (Ac.k a)==Ky.f (Ac.k a)&&(Ky.g (Ac.k a)==Ky.g (Ac.k a)&&(Ky.h (Ac.k a)==Ky.h (Ac.k a)&&true)))))))))=true:=t8
   rotate_left
   replace t8:(!(Ky.a (Ac.k a)==Ky.a (Ac.k a)&&(Ky.b (Ac.k a)==Ky.b (Ac.k a)&&(Ky.c (Ac.k a)==Ky.c (Ac.k a)&&(Ky.d (Ac.k a)==Ky.d (Ac.k a)&&(Ky.e (Ac.k a)==Ky.e (Ac.k a)&&(Ky.f (Ac.k a)==Ky.f (Ac.k a)&&(Ky.g (Ac.k a)==Ky.g (Ac.k a)&&(Ky.h (Ac.k a)==Ky.h (Ac.k a)&&true)))))))))=false:=t8
   refine ar_add ?_ ?_
   refine an ?_ ?_
   (show (-9223372036854775808:Int)≤(↑(List.length U):Int) - (↑(List.length (Ac.u a)):Int)+(1:Int); omega)
   (show (↑(List.length U):Int) - (↑(List.length (Ac.u a)):Int)+(1:Int)≤(9223372036854775807:Int); omega)
   refine ar_add ?_ ?_
   refine an ?_ ?_
   (show (-9223372036854775808:Int)≤(↑k:Int)+(1:Int); omega)
   (show (↑k:Int)+(1:Int)≤(9223372036854775807:Int); omega)
   rotate_left
   (exfalso; omega)
   all_goals first | exact fin | exact absurd (hne.symm.trans t2) (by decide) | exact absurd (t8.symm.trans (congrArg not (keq_self a.k))) (by decide)
 ·by_cases hke:k=O.length
  ·subst hke
   have hx1:=row_end (k:=a.k) (O:=O) (e:=Data.agg [.int .u8 p'.a,.int .u8 p'.b,.int .u8 p'.c,.int .u8 p'.d,.int .u8 p'.e,.int .u8 p'.f,.int .u8 p'.g,.int .u8 p'.h,.int .u8 q'.a,.int .u8 q'.b,.int .u8 q'.c,.int .u8 q'.d,.int .u8 q'.e,.int .u8 q'.f,.int .u8 q'.g,.int .u8 q'.h])
   have c40_:=c40 p' q' hp'
   have heq:=beq8_s p' q'
   have hC2:Cr a (O.take (O.length+1)) (⟨B,D,a.s,a.e,a.k,a.n,a.c,U⟩:Ac):=by rw [List.take_of_length_le (by omega)]; rw [List.take_of_length_le (Nat.le_refl _)] at hC; exact hC
   have fin:∃ a':P8,(((a'.k≤O.length+1∧Cr a (O.take a'.k) (⟨a'.B,a'.D,a.s,a.e,a.k,a.n,a.c,a'.U⟩:Ac)))∧O.length+1 - a'.k < O.length+1 - O.length)∧(⟨[(1,.d (.slice 2 (u16s l))),(3,.ptr 0 0),(7,.sl 6 (blks a.k (tk8s l)).length),(8,.d (.int .i64 (wo8 a.u (tk8s l)))),(9,.d (.int .i64 (fr8 a.u (tk8s l)))),(19,.ptr 13 0),(20,.ptr 14 0),(21,.d (.int .i64 ((((U).length:Nat):Int) - ((a.u.length:Nat):Int)))),(164,.sl 9 (blks a.k O++[Data.agg [.int .u8 p'.a,.int .u8 p'.b,.int .u8 p'.c,.int .u8 p'.d,.int .u8 p'.e,.int .u8 p'.f,.int .u8 p'.g,.int .u8 p'.h,.int .u8 q'.a,.int .u8 q'.b,.int .u8 q'.c,.int .u8 q'.d,.int .u8 q'.e,.int .u8 q'.f,.int .u8 q'.g,.int .u8 q'.h]]).length),(165,.d (.int .i64 (((blks a.k O++[Data.agg [.int .u8 p'.a,.int .u8 p'.b,.int .u8 p'.c,.int .u8 p'.d,.int .u8 p'.e,.int .u8 p'.f,.int .u8 p'.g,.int .u8 p'.h,.int .u8 q'.a,.int .u8 q'.b,.int .u8 q'.c,.int .u8 q'.d,.int .u8 q'.e,.int .u8 q'.f,.int .u8 q'.g,.int .u8 q'.h]]).length:Nat):Int))),(166,.d (.int .i64 ((O.length:Int)+1)))],[.cbox [.int .i64 (a.b),.int .i64 (a.d),.int .i64 a.s,.int .i64 a.e,.int .u8 a.k.a,.int .u8 a.k.b,.int .u8 a.k.c,.int .u8 a.k.d,.int .u8 a.k.e,.int .u8 a.k.f,.int .u8 a.k.g,.int .u8 a.k.h,.int .u8 a.n.a,.int .u8 a.n.b,.int .u8 a.n.c,.int .u8 a.n.d,.int .u8 a.n.e,.int .u8 a.n.f,.int .u8 a.n.g,.int .u8 a.n.h,.bool false,.slice 1 (ints a.u)],.none,.none,.none,.none,.none,.row 64 16 (blks a.k (tk8s l)) false,.none,.none,.row 64 16 (blks a.k O++[Data.agg [.int .u8 p'.a,.int .u8 p'.b,.int .u8 p'.c,.int .u8 p'.d,.int .u8 p'.e,.int .u8 p'.f,.int .u8 p'.g,.int .u8 p'.h,.int .u8 q'.a,.int .u8 q'.b,.int .u8 q'.c,.int .u8 q'.d,.int .u8 q'.e,.int .u8 q'.f,.int .u8 q'.g,.int .u8 q'.h]]) false,.none,.none,.none,.box [.d (.int .u8 p'.a),.d (.int .u8 p'.b),.d (.int .u8 p'.c),.d (.int .u8 p'.d),.d (.int .u8 p'.e),.d (.int .u8 p'.f),.d (.int .u8 p'.g),.d (.int .u8 p'.h),.d (.int .u8 q'.a),.d (.int .u8 q'.b),.d (.int .u8 q'.c),.d (.int .u8 q'.d),.d (.int .u8 q'.e),.d (.int .u8 q'.f),.d (.int .u8 q'.g),.d (.int .u8 q'.h)],.box [.d (.int .i64 (B)),.d (.int .i64 (D)),.d (.int .i64 a.s),.d (.int .i64 a.e),.d (.int .u8 a.k.a),.d (.int .u8 a.k.b),.d (.int .u8 a.k.c),.d (.int .u8 a.k.d),.d (.int .u8 a.k.e),.d (.int .u8 a.k.f),.d (.int .u8 a.k.g),.d (.int .u8 a.k.h),.d (.int .u8 a.n.a),.d (.int .u8 a.n.b),.d (.int .u8 a.n.c),.d (.int .u8 a.n.d),.d (.int .u8 a.n.e),.d (.int .u8 a.n.f),.d (.int .u8 a.n.g),.d (.int .u8 a.n.h),.d (.bool false),.d (.slice 1 (ints U))],.none,.none,.none,.none,.none,.none,.none,.none,.none]⟩:St)=⟨[(1,.d (.slice 2 (u16s l))),(3,.ptr 0 0),(7,.sl 6 (blks a.k (tk8s l)).length),(8,.d (.int .i64 (wo8 a.u (tk8s l)))),(9,.d (.int .i64 (fr8 a.u (tk8s l)))),(19,.ptr 13 0),(20,.ptr 14 0),(21,.d (.int .i64 ((((a'.U).length:Nat):Int) - ((a.u.length:Nat):Int)))),(164,.sl 9 (blks a.k O++[Data.agg [.int .u8 p'.a,.int .u8 p'.b,.int .u8 p'.c,.int .u8 p'.d,.int .u8 p'.e,.int .u8 p'.f,.int .u8 p'.g,.int .u8 p'.h,.int .u8 q'.a,.int .u8 q'.b,.int .u8 q'.c,.int .u8 q'.d,.int .u8 q'.e,.int .u8 q'.f,.int .u8 q'.g,.int .u8 q'.h]]).length),(165,.d (.int .i64 (((blks a.k O++[Data.agg [.int .u8 p'.a,.int .u8 p'.b,.int .u8 p'.c,.int .u8 p'.d,.int .u8 p'.e,.int .u8 p'.f,.int .u8 p'.g,.int .u8 p'.h,.int .u8 q'.a,.int .u8 q'.b,.int .u8 q'.c,.int .u8 q'.d,.int .u8 q'.e,.int .u8 q'.f,.int .u8 q'.g,.int .u8 q'.h]]).length:Nat):Int))),(166,.d (.int .i64 (((a'.k:Nat):Int))))],[.cbox [.int .i64 (a.b),.int .i64 (a.d),.int .i64 a.s,.int .i64 a.e,.int .u8 a.k.a,.int .u8 a.k.b,.int .u8 a.k.c,.int .u8 a.k.d,.int .u8 a.k.e,.int .u8 a.k.f,.int .u8 a.k.g,.int .u8 a.k.h,.int .u8 a.n.a,.int .u8 a.n.b,.int .u8 a.n.c,.int .u8 a.n.d,.int .u8 a.n.e,.int .u8 a.n.f,.int .u8 a.n.g,.int .u8 a.n.h,.bool false,.slice 1 (ints a.u)],.none,.none,.none,.none,.none,.row 64 16 (blks a.k (tk8s l)) false,.none,.none,.row 64 16 (blks a.k O++[Data.agg [.int .u8 p'.a,.int .u8 p'.b,.int .u8 p'.c,.int .u8 p'.d,.int .u8 p'.e,.int .u8 p'.f,.int .u8 p'.g,.int .u8 p'.h,.int .u8 q'.a,.int .u8 q'.b,.int .u8 q'.c,.int .u8 q'.d,.int .u8 q'.e,.int .u8 q'.f,.int .u8 q'.g,.int .u8 q'.h]]) false,.none,.none,.none,.box [.d (.int .u8 p'.a),.d (.int .u8 p'.b),.d (.int .u8 p'.c),.d (.int .u8 p'.d),.d (.int .u8 p'.e),.d (.int .u8 p'.f),.d (.int .u8 p'.g),.d (.int .u8 p'.h),.d (.int .u8 q'.a),.d (.int .u8 q'.b),.d (.int .u8 q'.c),.d (.int .u8 q'.d),.d (.int .u8 q'.e),.d (.int .u8 q'.f),.d (.int .u8 q'.g),.d (.int .u8 q'.h)],.box [.d (.int .i64 (a'.B)),.d (.int .i64 (a'.D)),.d (.int .i64 a.s),.d (.int .i64 a.e),.d (.int .u8 a.k.a),.d (.int .u8 a.k.b),.d (.int .u8 a.k.c),.d (.int .u8 a.k.d),.d (.int .u8 a.k.e),.d (.int .u8 a.k.f),.d (.int .u8 a.k.g),.d (.int .u8 a.k.h),.d (.int .u8 a.n.a),.d (.int .u8 a.n.b),.d (.int .u8 a.n.c),.d (.int .u8 a.n.d),.d (.int .u8 a.n.e),.d (.int .u8 a.n.f),.d (.int .u8 a.n.g),.d (.int .u8 a.n.h),.d (.bool false),.d (.slice 1 (ints a'.U))],.none,.none,.none,.none,.none,.none,.none,.none,.none]⟩:=⟨⟨O.length+1,B,D,U⟩,⟨⟨Nat.le_refl _,hC2⟩,by show O.length+1 - (O.length+1) < O.length+1 - O.length; omega⟩,rfl⟩
   by_cases ht:ckT (nu p'.a p'.b p'.c p'.d 4) (nu p'.e p'.f p'.g p'.h 4)=0
   ·have c28_:=c28_b hC hS hSl hb hu hk hn hp hp' hB ht
    rw [ht] at c40_
    refine sd ?_
    refine b_lt (fun t1=>?_) (fun t1=>?_)
    refine an ?_ ?_
    refine an ?_ ?_
    exact rfl
    refine an ?_ ?_
    exact rfl
    refine an ?_ ?_
    (show (0:Int)≤(↑(List.length O):Int); omega)
    assumption
    refine sd ?_
    refine ca hx1 ?_
    refine ca c40_ ?_
    refine sd ?_
    refine ca c67_ ?_
    refine ca c17_ ?_
    refine ca c28_ ?_
    refine ca (Exists.intro _ (And.intro rfl rfl)) ?_
    refine b_intro (fun t2=>?_) (fun t2=>?_)
    replace t2:(Ky.a p'==Ky.a p'&&(Ky.b p'==Ky.b p'&&(Ky.c p'==Ky.c p'&&(Ky.d p'==Ky.d p'&&(Ky.e p'==Ky.e p'&&(Ky.f p'==Ky.f p'&&(Ky.g p'==Ky.g p'&&(Ky.h p'==Ky.h p'&&(Ky.a q'==Ky.a q'&&(Ky.b q'==Ky.b q'&&(Ky.c q'==Ky.c q'&&(Ky.d q'==Ky.d q'&&(Ky.e q'==Ky.e q'&&(Ky.f q'==Ky.f q'&&(Ky.g q'==Ky.g q'&&(Ky.h q'==Ky.h q'&&true))))))))))))))))=true:=t2
    refine sd ?_
    refine ar_add ?_ ?_
    refine an ?_ ?_
    (show (-9223372036854775808:Int)≤(↑(List.length O):Int)+(1:Int); omega)
    (show (↑(List.length O):Int)+(1:Int)≤(9223372036854775807:Int); omega)
    rotate_left
    replace t2:(Ky.a p'==Ky.a p'&&(Ky.b p'==Ky.b p'&&(Ky.c p'==Ky.c p'&&(Ky.d p'==Ky.d p'&&(Ky.e p'==Ky.e p'&&(Ky.f p'==Ky.f p'&&(Ky.g p'==Ky.g p'&&(Ky.h p'==Ky.h p'&&(Ky.a q'==Ky.a q'&&(Ky.b q'==Ky.b q'&&(Ky.c q'==Ky.c q'&&(Ky.d q'==Ky.d q'&&(Ky.e q'==Ky.e q'&&(Ky.f q'==Ky.f q'&&(Ky.g q'==Ky.g q'&&(Ky.h q'==Ky.h q'&&true))))))))))))))))=false:=t2
    refine sd ?_
    refine ar_sub ?_ ?_
    refine an ?_ ?_
    (show (-9223372036854775808:Int)≤D - (0:Int); omega)
    (show D - (0:Int)≤(9223372036854775807:Int); omega)
    refine sd ?_
    refine sd ?_
    refine sd ?_
    refine sd ?_
    refine sd ?_
    refine sd ?_
    refine sd ?_
    refine sd ?_
    rotate_left
    (exfalso; omega)
    all_goals first | exact fin | exact absurd (heq.symm.trans t2) (by decide)
   ·have hr:ckT (nu p'.a p'.b p'.c p'.d 4) (nu p'.e p'.f p'.g p'.h 4)=3:=ckT_3 ht
    rw [hr] at c40_
    refine sd ?_
    refine b_lt (fun t1=>?_) (fun t1=>?_)
    refine an ?_ ?_
    refine an ?_ ?_
    exact rfl
    refine an ?_ ?_
    exact rfl
    refine an ?_ ?_
    (show (0:Int)≤(↑(List.length O):Int); omega)
    assumption
    refine sd ?_
    refine ca hx1 ?_
    refine ca c40_ ?_
    refine sd ?_
    refine ca (Exists.intro _ (And.intro rfl rfl)) ?_
    refine b_intro (fun t2=>?_) (fun t2=>?_)
    replace t2:(Ky.a p'==Ky.a p'&&(Ky.b p'==Ky.b p'&&(Ky.c p'==Ky.c p'&&(Ky.d p'==Ky.d p'&&(Ky.e p'==Ky.e p'&&(Ky.f p'==Ky.f p'&&(Ky.g p'==Ky.g p'&&(Ky.h p'==Ky.h p'&&(Ky.a q'==Ky.a q'&&(Ky.b q'==Ky.b q'&&(Ky.c q'==Ky.c q'&&(Ky.d q'==Ky.d q'&&(Ky.e q'==Ky.e q'&&(Ky.f q'==Ky.f q'&&(Ky.g q'==Ky.g q'&&(Ky.h q'==Ky.h q'&&true))))))))))))))))=true:=t2
    refine sd ?_
    refine ar_add ?_ ?_
    refine an ?_ ?_
    (show (-9223372036854775808:Int)≤(↑(List.length O):Int)+(1:Int); omega)
    (show (↑(List.length O):Int)+(1:Int)≤(9223372036854775807:Int); omega)
    rotate_left
    replace t2:(Ky.a p'==Ky.a p'&&(Ky.b p'==Ky.b p'&&(Ky.c p'==Ky.c p'&&(Ky.d p'==Ky.d p'&&(Ky.e p'==Ky.e p'&&(Ky.f p'==Ky.f p'&&(Ky.g p'==Ky.g p'&&(Ky.h p'==Ky.h p'&&(Ky.a q'==Ky.a q'&&(Ky.b q'==Ky.b q'&&(Ky.c q'==Ky.c q'&&(Ky.d q'==Ky.d q'&&(Ky.e q'==Ky.e q'&&(Ky.f q'==Ky.f q'&&(Ky.g q'==Ky.g q'&&(Ky.h q'==Ky.h q'&&true))))))))))))))))=false:=t2
    refine sd ?_
    rotate_left
    (exfalso; omega)
    all_goals first | exact fin | exact absurd (heq.symm.trans t2) (by decide)
  ·have e:k=O.length+1:=by omega
   subst e
   have hC3:Cr a O (⟨B,D,a.s,a.e,a.k,a.n,a.c,U⟩:Ac):=by rw [List.take_of_length_le (by omega)] at hC; exact hC
   have hQ:=fun y=>hQ B D U y hC3
   refine sd ?_
   refine b_lt (fun t1=>?_) (fun t1=>?_)
   (exfalso; omega)
   rotate_left
   all_goals exact hQ _
end Vc
