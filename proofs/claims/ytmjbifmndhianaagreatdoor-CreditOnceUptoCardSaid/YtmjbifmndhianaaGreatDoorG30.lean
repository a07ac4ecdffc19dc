import Derived.Test.YtmjbifmndhianaaGreatDoorG29
set_option linter.unusedSectionVars false
set_option linter.unusedVariables false
set_option linter.unusedSimpArgs false
set_option maxRecDepth 10000
set_option maxHeartbeats 4000000
namespace Vc
open Go Go.Proofs
theorem v8a {a:Ac} {l:List (Int × Int)} {n0 n1 n2:Int} {Q:AExit→St→Prop} (hA:ckA a false=0) (hk:a.k.ok) (hn:a.n.ok) (hu:a.u.length≤12) (hb:a.b≤1000000000) (hL:U16 l) (hl:l.length≤8) (hQ:∀ y:Bool,Q (.exit 0) ⟨[(1,.d (.slice 2 (u16s l))),(3,.ptr 0 0),(5,.ptr 1 0),(7,.sl 6 (blks a.k (tk8s l)).length),(8,.d (.int .i64 (wo8 a.u (tk8s l)))),(9,.d (.int .i64 (fr8 a.u (tk8s l)))),(10,.sl 8 (ints ((tk8s l).map Prod.fst)).length),(67,.d (.slice 2 (u16s l))),(68,.d (.int .i64 (((u16s l).length:Nat):Int))),(69,.d (.int .i64 (((l.length:Nat):Int)))),(70,.d (.bool y))],[.cbox [.int .i64 (a.b),.int .i64 (a.d),.int .i64 a.s,.int .i64 a.e,.int .u8 a.k.a,.int .u8 a.k.b,.int .u8 a.k.c,.int .u8 a.k.d,.int .u8 a.k.e,.int .u8 a.k.f,.int .u8 a.k.g,.int .u8 a.k.h,.int .u8 a.n.a,.int .u8 a.n.b,.int .u8 a.n.c,.int .u8 a.n.d,.int .u8 a.n.e,.int .u8 a.n.f,.int .u8 a.n.g,.int .u8 a.n.h,.bool false,.slice 1 (ints a.u)],.cbox [.int .u8 n0,.int .u8 n1,.int .u8 n2],.none,.none,.none,.none,.row 64 16 (blks a.k (tk8s l)) false,.none,.row 3 1 (ints ((tk8s l).map Prod.fst)) false,.none,.none,.none,.none,.none,.none,.none,.none,.none,.none,.none,.none,.none,.none,.none]⟩):vc Tryz.prog 365 seg8a ⟨[(1,.d (.slice 2 (u16s l))),(3,.ptr 0 0),(5,.ptr 1 0),(7,.sl 6 (blks a.k (tk8s (l.take 0))).length),(8,.d (.int .i64 (wo8 a.u (tk8s (l.take 0))))),(9,.d (.int .i64 (fr8 a.u (tk8s (l.take 0))))),(10,.sl 8 (ints ((tk8s (l.take 0)).map Prod.fst)).length),(67,.d (.slice 2 (u16s l))),(68,.d (.int .i64 (((u16s l).length:Nat):Int))),(69,.d (.int .i64 (((0:Nat):Int))))],[.cbox [.int .i64 (a.b),.int .i64 (a.d),.int .i64 a.s,.int .i64 a.e,.int .u8 a.k.a,.int .u8 a.k.b,.int .u8 a.k.c,.int .u8 a.k.d,.int .u8 a.k.e,.int .u8 a.k.f,.int .u8 a.k.g,.int .u8 a.k.h,.int .u8 a.n.a,.int .u8 a.n.b,.int .u8 a.n.c,.int .u8 a.n.d,.int .u8 a.n.e,.int .u8 a.n.f,.int .u8 a.n.g,.int .u8 a.n.h,.bool false,.slice 1 (ints a.u)],.cbox [.int .u8 n0,.int .u8 n1,.int .u8 n2],.none,.none,.none,.none,.row 64 16 (blks a.k (tk8s (l.take 0))) false,.none,.row 3 1 (ints ((tk8s (l.take 0)).map Prod.fst)) false,.none,.none,.none,.none,.none,.none,.none,.none,.none,.none,.none,.none,.none,.none,.none]⟩ Q:=by
 unfold seg8a
 have hll:=u16s_len l
 refine loop_st (fun k:Nat=>⟨[(1,.d (.slice 2 (u16s l))),(3,.ptr 0 0),(5,.ptr 1 0),(7,.sl 6 (blks a.k (tk8s (l.take k))).length),(8,.d (.int .i64 (wo8 a.u (tk8s (l.take k))))),(9,.d (.int .i64 (fr8 a.u (tk8s (l.take k))))),(10,.sl 8 (ints ((tk8s (l.take k)).map Prod.fst)).length),(67,.d (.slice 2 (u16s l))),(68,.d (.int .i64 (((u16s l).length:Nat):Int))),(69,.d (.int .i64 (((k:Nat):Int))))],[.cbox [.int .i64 (a.b),.int .i64 (a.d),.int .i64 a.s,.int .i64 a.e,.int .u8 a.k.a,.int .u8 a.k.b,.int .u8 a.k.c,.int .u8 a.k.d,.int .u8 a.k.e,.int .u8 a.k.f,.int .u8 a.k.g,.int .u8 a.k.h,.int .u8 a.n.a,.int .u8 a.n.b,.int .u8 a.n.c,.int .u8 a.n.d,.int .u8 a.n.e,.int .u8 a.n.f,.int .u8 a.n.g,.int .u8 a.n.h,.bool false,.slice 1 (ints a.u)],.cbox [.int .u8 n0,.int .u8 n1,.int .u8 n2],.none,.none,.none,.none,.row 64 16 (blks a.k (tk8s (l.take k))) false,.none,.row 3 1 (ints ((tk8s (l.take k)).map Prod.fst)) false,.none,.none,.none,.none,.none,.none,.none,.none,.none,.none,.none,.none,.none,.none,.none]⟩) (fun k=>k≤l.length) (fun k=>l.length - k) 0 rfl (Nat.zero_le _) ?_
 intro k hkl
 have hkl:k≤l.length:=hkl
 have hlg:Lg (tk8s (l.take k)):=tk8s_lg (U16_take hL k)
 have hlen:(tk8s (l.take k)).length≤8:=by rw [tk8s_len,List.length_take]; omega
 have hfr:=fr8_b (u:=a.u) hlg
 have hw1:wo8 a.u (tk8s (l.take k))≤1000000:=by omega
 have hf1:fr8 a.u (tk8s (l.take k))≤8:=by omega
 have hw0:=hfr.2.1
 have hf0:=hfr.1.1
 have hbl:=blks_len a.k (tk8s (l.take k))
 have hia:∀ (x:Int × Int),ints (((tk8s (l.take k))++[x]).map Prod.fst)=ints ((tk8s (l.take k)).map Prod.fst)++[Data.int .i64 x.1]:=fun x=>by rw [List.map_append]; exact List.map_append
 have hil:(ints ((tk8s (l.take k)).map Prod.fst)).length≤8:=by unfold ints; rw [List.length_map,List.length_map]; exact hlen
 clear hfr
 by_cases hkn:k < l.length
 ·refine Exists.elim (get_lt l hkn) fun x hx=>?_
  have hx1:=u16s_at hx
  have hy:(1≤(1+IntKind.wrap .i64 x.1)∧(1+IntKind.wrap .i64 x.1)≤65536)∧1≤(1+IntKind.wrap .i64 x.2)∧(1+IntKind.wrap .i64 x.2)≤65536:=tk8s_lg hL ((1+IntKind.wrap .i64 x.1),(1+IntKind.wrap .i64 x.2)) (List.mem_of_getElem? (tk8s_at hx))
  have hy1:=hy.1
  have hy2:=hy.2
  have c38_:=c38_l (k:=a.k) hk hy
  have c39_:=c39_l a.k hy
  have c66_1:=c66 a.u (1+IntKind.wrap .i64 x.1) (by omega)
  have c66_2:=c66 ((tk8s (l.take k)).map Prod.fst) (1+IntKind.wrap .i64 x.1) (by rw [List.length_map]; omega)
  have ho:old8 a.u (tk8s (l.take k)) (1+IntKind.wrap .i64 x.1)=(a.u.contains (1+IntKind.wrap .i64 x.1)||((tk8s (l.take k)).map Prod.fst).contains (1+IntKind.wrap .i64 x.1)):=rfl
  rcases Bool.eq_false_or_eq_true (a.u.contains (1+IntKind.wrap .i64 x.1)) with h1 | h1
  ·rw [h1] at c66_1 ho
   have ho:old8 a.u (tk8s (l.take k)) (1+IntKind.wrap .i64 x.1)=true:=ho
   have fin:∃ a':Nat,(a'≤l.length∧l.length - a' < l.length - k)∧(⟨[(1,.d (.slice 2 (u16s l))),(3,.ptr 0 0),(5,.ptr 1 0),(7,.sl 6 (blks a.k (tk8s (l.take k))++[Data.agg [.int .u8 ((1+IntKind.wrap .i64 x.1) / 16777216 % 256),.int .u8 ((1+IntKind.wrap .i64 x.1) / 65536 % 256),.int .u8 ((1+IntKind.wrap .i64 x.1) / 256 % 256),.int .u8 ((1+IntKind.wrap .i64 x.1) % 256),.int .u8 ((1+IntKind.wrap .i64 x.2) / 16777216 % 256),.int .u8 ((1+IntKind.wrap .i64 x.2) / 65536 % 256),.int .u8 ((1+IntKind.wrap .i64 x.2) / 256 % 256),.int .u8 ((1+IntKind.wrap .i64 x.2) % 256),.int .u8 (sealK a.k (o4 (1+IntKind.wrap .i64 x.1)++o4 (1+IntKind.wrap .i64 x.2))).a,.int .u8 (sealK a.k (o4 (1+IntKind.wrap .i64 x.1)++o4 (1+IntKind.wrap .i64 x.2))).b,.int .u8 (sealK a.k (o4 (1+IntKind.wrap .i64 x.1)++o4 (1+IntKind.wrap .i64 x.2))).c,.int .u8 (sealK a.k (o4 (1+IntKind.wrap .i64 x.1)++o4 (1+IntKind.wrap .i64 x.2))).d,.int .u8 (sealK a.k (o4 (1+IntKind.wrap .i64 x.1)++o4 (1+IntKind.wrap .i64 x.2))).e,.int .u8 (sealK a.k (o4 (1+IntKind.wrap .i64 x.1)++o4 (1+IntKind.wrap .i64 x.2))).f,.int .u8 (sealK a.k (o4 (1+IntKind.wrap .i64 x.1)++o4 (1+IntKind.wrap .i64 x.2))).g,.int .u8 (sealK a.k (o4 (1+IntKind.wrap .i64 x.1)++o4 (1+IntKind.wrap .i64 x.2))).h]]).length),(8,.d (.int .i64 (wo8 a.u (tk8s (l.take k))))),(9,.d (.int .i64 (fr8 a.u (tk8s (l.take k))))),(10,.sl 8 (ints ((tk8s (l.take k)).map Prod.fst)++[Data.int .i64 (1+IntKind.wrap .i64 x.1)]).length),(67,.d (.slice 2 (u16s l))),(68,.d (.int .i64 (((u16s l).length:Nat):Int))),(69,.d (.int .i64 ((k:Int)+1)))],[.cbox [.int .i64 (a.b),.int .i64 (a.d),.int .i64 a.s,.int .i64 a.e,.int .u8 a.k.a,.int .u8 a.k.b,.int .u8 a.k.c,.int .u8 a.k.d,.int .u8 a.k.e,.int .u8 a.k.f,.int .u8 a.k.g,.int .u8 a.k.h,.int .u8 a.n.a,.int .u8 a.n.b,.int .u8 a.n.c,.int .u8 a.n.d,.int .u8 a.n.e,.int .u8 a.n.f,.int .u8 a.n.g,.int .u8 a.n.h,.bool false,.slice 1 (ints a.u)],.cbox [.int .u8 n0,.int .u8 n1,.int .u8 n2],.none,.none,.none,.none,.row 64 16 (blks a.k (tk8s (l.take k))++[Data.agg [.int .u8 ((1+IntKind.wrap .i64 x.1) / 16777216 % 256),.int .u8 ((1+IntKind.wrap .i64 x.1) / 65536 % 256),.int .u8 ((1+IntKind.wrap .i64 x.1) / 256 % 256),.int .u8 ((1+IntKind.wrap .i64 x.1) % 256),.int .u8 ((1+IntKind.wrap .i64 x.2) / 16777216 % 256),.int .u8 ((1+IntKind.wrap .i64 x.2) / 65536 % 256),.int .u8 ((1+IntKind.wrap .i64 x.2) / 256 % 256),.int .u8 ((1+IntKind.wrap .i64 x.2) % 256),.int .u8 (sealK a.k (o4 (1+IntKind.wrap .i64 x.1)++o4 (1+IntKind.wrap .i64 x.2))).a,.int .u8 (sealK a.k (o4 (1+IntKind.wrap .i64 x.1)++o4 (1+IntKind.wrap .i64 x.2))).b,.int .u8 (sealK a.k (o4 (1+IntKind.wrap .i64 x.1)++o4 (1+IntKind.wrap .i64 x.2))).c,.int .u8 (sealK a.k (o4 (1+IntKind.wrap .i64 x.1)++o4 (1+IntKind.wrap .i64 x.2))).d,.int .u8 (sealK a.k (o4 (1+IntKind.wrap .i64 x.1)++o4 (1+IntKind.wrap .i64 x.2))).e,.int .u8 (sealK a.k (o4 (1+IntKind.wrap .i64 x.1)++o4 (1+IntKind.wrap .i64 x.2))).f,.int .u8 (sealK a.k (o4 (1+IntKind.wrap .i64 x.1)++o4 (1+IntKind.wrap .i64 x.2))).g,.int .u8 (sealK a.k (o4 (1+IntKind.wrap .i64 x.1)++o4 (1+IntKind.wrap .i64 x.2))).h]]) false,.none,.row 3 1 (ints ((tk8s (l.take k)).map Prod.fst)++[Data.int .i64 (1+IntKind.wrap .i64 x.1)]) false,.none,.none,.none,.none,.none,.none,.none,.none,.none,.none,.none,.none,.none,.none,.none]⟩:St)=⟨[(1,.d (.slice 2 (u16s l))),(3,.ptr 0 0),(5,.ptr 1 0),(7,.sl 6 (blks a.k (tk8s (l.take a'))).length),(8,.d (.int .i64 (wo8 a.u (tk8s (l.take a'))))),(9,.d (.int .i64 (fr8 a.u (tk8s (l.take a'))))),(10,.sl 8 (ints ((tk8s (l.take a')).map Prod.fst)).length),(67,.d (.slice 2 (u16s l))),(68,.d (.int .i64 (((u16s l).length:Nat):Int))),(69,.d (.int .i64 (((a':Nat):Int))))],[.cbox [.int .i64 (a.b),.int .i64 (a.d),.int .i64 a.s,.int .i64 a.e,.int .u8 a.k.a,.int .u8 a.k.b,.int .u8 a.k.c,.int .u8 a.k.d,.int .u8 a.k.e,.int .u8 a.k.f,.int .u8 a.k.g,.int .u8 a.k.h,.int .u8 a.n.a,.int .u8 a.n.b,.int .u8 a.n.c,.int .u8 a.n.d,.int .u8 a.n.e,.int .u8 a.n.f,.int .u8 a.n.g,.int .u8 a.n.h,.bool false,.slice 1 (ints a.u)],.cbox [.int .u8 n0,.int .u8 n1,.int .u8 n2],.none,.none,.none,.none,.row 64 16 (blks a.k (tk8s (l.take a'))) false,.none,.row 3 1 (ints ((tk8s (l.take a')).map Prod.fst)) false,.none,.none,.none,.none,.none,.none,.none,.none,.none,.none,.none,.none,.none,.none,.none]⟩:=⟨k+1,⟨by omega,by omega⟩,by rw [blks_s a.k (tk8s (l.take k)) ((1+IntKind.wrap .i64 x.1),(1+IntKind.wrap .i64 x.2)),tk8s_step hx,fr8_s,wo8_s,ho,hia]; rfl⟩
   refine sd ?_
   refine b_lt (fun t1=>?_) (fun t1=>?_)
   refine ix_at hx1 ?_ ?_
   (show (0:Int)≤(↑k:Int); omega)
   refine an ?_ ?_
   refine an ?_ ?_
   (show (0:Int)≤(0:Int); omega)
   (show (0:Int) < (↑(2:Nat):Int); omega)
   refine ca rfl ?_
   refine ar_add ?_ ?_
   refine an ?_ ?_
   (show (-9223372036854775808:Int)≤(1:Int)+IntKind.wrap IntKind.i64 (Prod.fst x); omega)
   (show (1:Int)+IntKind.wrap IntKind.i64 (Prod.fst x)≤(9223372036854775807:Int); omega)
   refine an ?_ ?_
   refine an ?_ ?_
   (show (0:Int)≤(1:Int); omega)
   (show (1:Int) < (↑(2:Nat):Int); omega)
   refine ca rfl ?_
   refine ar_add ?_ ?_
   refine an ?_ ?_
   (show (-9223372036854775808:Int)≤(1:Int)+IntKind.wrap IntKind.i64 (Prod.snd x); omega)
   (show (1:Int)+IntKind.wrap IntKind.i64 (Prod.snd x)≤(9223372036854775807:Int); omega)
   refine ca c38_ ?_
   refine sd ?_
   refine ca c39_ ?_
   refine sd ?_
   refine sd ?_
   refine sd ?_
   refine sd ?_
   refine an ?_ ?_
   refine an ?_ ?_
   exact rfl
   refine an ?_ ?_
   exact rfl
   refine an ?_ ?_
   exact rfl
   refine an ?_ ?_
   (show (List.length (blks (Ac.k a) (tk8s (List.take k l)))+(1:Nat)) * (16:Nat)≤(2:Nat) ^ (47:Nat); omega)
   (show List.length (blks (Ac.k a) (tk8s (List.take k l)))+(1:Nat)≤(2:Nat) ^ (47:Nat); omega)
   refine ca c66_1 ?_
   refine sd ?_
   refine sd ?_
   refine sd ?_
   refine sd ?_
   refine an ?_ ?_
   refine an ?_ ?_
   exact rfl
   refine an ?_ ?_
   exact rfl
   refine an ?_ ?_
   exact rfl
   refine an ?_ ?_
   (show (List.length (ints (List.map Prod.fst (tk8s (List.take k l))))+(1:Nat)) * (8:Nat)≤(2:Nat) ^ (47:Nat); omega)
   (show List.length (ints (List.map Prod.fst (tk8s (List.take k l))))+(1:Nat)≤(2:Nat) ^ (47:Nat); omega)
   refine ar_add ?_ ?_
   refine an ?_ ?_
   (show (-9223372036854775808:Int)≤(↑k:Int)+(1:Int); omega)
   (show (↑k:Int)+(1:Int)≤(9223372036854775807:Int); omega)
   rotate_left
   (exfalso; omega)
   all_goals exact fin
  rcases Bool.eq_false_or_eq_true (((tk8s (l.take k)).map Prod.fst).contains (1+IntKind.wrap .i64 x.1)) with h2 | h2
  ·rw [h1] at c66_1 ho
   rw [h2] at c66_2 ho
   have ho:old8 a.u (tk8s (l.take k)) (1+IntKind.wrap .i64 x.1)=true:=ho
   have fin:∃ a':Nat,(a'≤l.length∧l.length - a' < l.length - k)∧(⟨[(1,.d (.slice 2 (u16s l))),(3,.ptr 0 0),(5,.ptr 1 0),(7,.sl 6 (blks a.k (tk8s (l.take k))++[Data.agg [.int .u8 ((1+IntKind.wrap .i64 x.1) / 16777216 % 256),.int .u8 ((1+IntKind.wrap .i64 x.1) / 65536 % 256),.int .u8 ((1+IntKind.wrap .i64 x.1) / 256 % 256),.int .u8 ((1+IntKind.wrap .i64 x.1) % 256),.int .u8 ((1+IntKind.wrap .i64 x.2) / 16777216 % 256),.int .u8 ((1+IntKind.wrap .i64 x.2) / 65536 % 256),.int .u8 ((1+IntKind.wrap .i64 x.2) / 256 % 256),.int .u8 ((1+IntKind.wrap .i64 x.2) % 256),.int .u8 (sealK a.k (o4 (1+IntKind.wrap .i64 x.1)++o4 (1+IntKind.wrap .i64 x.2))).a,.int .u8 (sealK a.k (o4 (1+IntKind.wrap .i64 x.1)++o4 (1+IntKind.wrap .i64 x.2))).b,.int .u8 (sealK a.k (o4 (1+IntKind.wrap .i64 x.1)++o4 (1+IntKind.wrap .i64 x.2))).c,.int .u8 (sealK a.k (o4 (1+IntKind.wrap .i64 x.1)++o4 (1+IntKind.wrap .i64 x.2))).d,.int .u8 (sealK a.k (o4 (1+IntKind.wrap .i64 x.1)++o4 (1+IntKind.wrap .i64 x.2))).e,.int .u8 (sealK a.k (o4 (1+IntKind.wrap .i64 x.1)++o4 (1+IntKind.wrap .i64 x.2))).f,.int .u8 (sealK a.k (o4 (1+IntKind.wrap .i64 x.1)++o4 (1+IntKind.wrap .i64 x.2))).g,.int .u8 (sealK a.k (o4 (1+IntKind.wrap .i64 x.1)++o4 (1+IntKind.wrap .i64 x.2))).h]]).length),(8,.d (.int .i64 (wo8 a.u (tk8s (l.take k))))),(9,.d (.int .i64 (fr8 a.u (tk8s (l.take k))))),(10,.sl 8 (ints ((tk8s (l.take k)).map Prod.fst)++[Data.int .i64 (1+IntKind.wrap .i64 x.1)]).length),(67,.d (.slice 2 (u16s l))),(68,.d (.int .i64 (((u16s l).length:Nat):Int))),(69,.d (.int .i64 ((k:Int)+1)))],[.cbox [.int .i64 (a.b),.int .i64 (a.d),.int .i64 a.s,.int .i64 a.e,.int .u8 a.k.a,.int .u8 a.k.b,.int .u8 a.k.c,.int .u8 a.k.d,.int .u8 a.k.e,.int .u8 a.k.f,.int .u8 a.k.g,.int .u8 a.k.h,.int .u8 a.n.a,.int .u8 a.n.b,.int .u8 a.n.c,.int .u8 a.n.d,.int .u8 a.n.e,.int .u8 a.n.f,.int .u8 a.n.g,.int .u8 a.n.h,.bool false,.slice 1 (ints a.u)],.cbox [.int .u8 n0,.int .u8 n1,.int .u8 n2],.none,.none,.none,.none,.row 64 16 (blks a.k (tk8s (l.take k))++[Data.agg [.int .u8 ((1+IntKind.wrap .i64 x.1) / 16777216 % 256),.int .u8 ((1+IntKind.wrap .i64 x.1) / 65536 % 256),.int .u8 ((1+IntKind.wrap .i64 x.1) / 256 % 256),.int .u8 ((1+IntKind.wrap .i64 x.1) % 256),.int .u8 ((1+IntKind.wrap .i64 x.2) / 16777216 % 256),.int .u8 ((1+IntKind.wrap .i64 x.2) / 65536 % 256),.int .u8 ((1+IntKind.wrap .i64 x.2) / 256 % 256),.int .u8 ((1+IntKind.wrap .i64 x.2) % 256),.int .u8 (sealK a.k (o4 (1+IntKind.wrap .i64 x.1)++o4 (1+IntKind.wrap .i64 x.2))).a,.int .u8 (sealK a.k (o4 (1+IntKind.wrap .i64 x.1)++o4 (1+IntKind.wrap .i64 x.2))).b,.int .u8 (sealK a.k (o4 (1+IntKind.wrap .i64 x.1)++o4 (1+IntKind.wrap .i64 x.2))).c,.int .u8 (sealK a.k (o4 (1+IntKind.wrap .i64 x.1)++o4 (1+IntKind.wrap .i64 x.2))).d,.int .u8 (sealK a.k (o4 (1+IntKind.wrap .i64 x.1)++o4 (1+IntKind.wrap .i64 x.2))).e,.int .u8 (sealK a.k (o4 (1+IntKind.wrap .i64 x.1)++o4 (1+IntKind.wrap .i64 x.2))).f,.int .u8 (sealK a.k (o4 (1+IntKind.wrap .i64 x.1)++o4 (1+IntKind.wrap .i64 x.2))).g,.int .u8 (sealK a.k (o4 (1+IntKind.wrap .i64 x.1)++o4 (1+IntKind.wrap .i64 x.2))).h]]) false,.none,.row 3 1 (ints ((tk8s (l.take k)).map Prod.fst)++[Data.int .i64 (1+IntKind.wrap .i64 x.1)]) false,.none,.none,.none,.none,.none,.none,.none,.none,.none,.none,.none,.none,.none,.none,.none]⟩:St)=⟨[(1,.d (.slice 2 (u16s l))),(3,.ptr 0 0),(5,.ptr 1 0),(7,.sl 6 (blks a.k (tk8s (l.take a'))).length),(8,.d (.int .i64 (wo8 a.u (tk8s (l.take a'))))),(9,.d (.int .i64 (fr8 a.u (tk8s (l.take a'))))),(10,.sl 8 (ints ((tk8s (l.take a')).map Prod.fst)).length),(67,.d (.slice 2 (u16s l))),(68,.d (.int .i64 (((u16s l).length:Nat):Int))),(69,.d (.int .i64 (((a':Nat):Int))))],[.cbox [.int .i64 (a.b),.int .i64 (a.d),.int .i64 a.s,.int .i64 a.e,.int .u8 a.k.a,.int .u8 a.k.b,.int .u8 a.k.c,.int .u8 a.k.d,.int .u8 a.k.e,.int .u8 a.k.f,.int .u8 a.k.g,.int .u8 a.k.h,.int .u8 a.n.a,.int .u8 a.n.b,.int .u8 a.n.c,.int .u8 a.n.d,.int .u8 a.n.e,.int .u8 a.n.f,.int .u8 a.n.g,.int .u8 a.n.h,.bool false,.slice 1 (ints a.u)],.cbox [.int .u8 n0,.int .u8 n1,.int .u8 n2],.none,.none,.none,.none,.row 64 16 (blks a.k (tk8s (l.take a'))) false,.none,.row 3 1 (ints ((tk8s (l.take a')).map Prod.fst)) false,.none,.none,.none,.none,.none,.none,.none,.none,.none,.none,.none,.none,.none,.none,.none]⟩:=⟨k+1,⟨by omega,by omega⟩,by rw [blks_s a.k (tk8s (l.take k)) ((1+IntKind.wrap .i64 x.1),(1+IntKind.wrap .i64 x.2)),tk8s_step hx,fr8_s,wo8_s,ho,hia]; rfl⟩
   refine sd ?_
   refine b_lt (fun t1=>?_) (fun t1=>?_)
   refine ix_at hx1 ?_ ?_
   (show (0:Int)≤(↑k:Int); omega)
   refine an ?_ ?_
   refine an ?_ ?_
   (show (0:Int)≤(0:Int); omega)
   (show (0:Int) < (↑(2:Nat):Int); omega)
   refine ca rfl ?_
   refine ar_add ?_ ?_
   refine an ?_ ?_
   (show (-9223372036854775808:Int)≤(1:Int)+IntKind.wrap IntKind.i64 (Prod.fst x); omega)
   (show (1:Int)+IntKind.wrap IntKind.i64 (Prod.fst x)≤(9223372036854775807:Int); omega)
   refine an ?_ ?_
   refine an ?_ ?_
   (show (0:Int)≤(1:Int); omega)
   (show (1:Int) < (↑(2:Nat):Int); omega)
   refine ca rfl ?_
   refine ar_add ?_ ?_
   refine an ?_ ?_
   (show (-9223372036854775808:Int)≤(1:Int)+IntKind.wrap IntKind.i64 (Prod.snd x); omega)
   (show (1:Int)+IntKind.wrap IntKind.i64 (Prod.snd x)≤(9223372036854775807:Int); omega)
   refine ca c38_ ?_
   refine sd ?_
   refine ca c39_ ?_
   refine sd ?_
   refine sd ?_
   refine sd ?_
   refine sd ?_
   refine an ?_ ?_
   refine an ?_ ?_
   exact rfl
   refine an ?_ ?_
   exact rfl
   refine an ?_ ?_
   exact rfl
   refine an ?_ ?_
   (show (List.length (blks (Ac.k a) (tk8s (List.take k l)))+(1:Nat)) * (16:Nat)≤(2:Nat) ^ (47:Nat); omega)
   (show List.length (blks (Ac.k a) (tk8s (List.take k l)))+(1:Nat)≤(2:Nat) ^ (47:Nat); omega)
   refine ca c66_1 ?_
   refine sd ?_
   refine ca c66_2 ?_
   refine sd ?_
   refine sd ?_
   refine sd ?_
   refine an ?_ ?_
   refine an ?_ ?_
   exact rfl
   refine an ?_ ?_
   exact rfl
   refine an ?_ ?_
   exact rfl
   refine an ?_ ?_
   (show (List.length (ints (List.map Prod.fst (tk8s (List.take k l))))+(1:Nat)) * (8:Nat)≤(2:Nat) ^ (47:Nat); omega)
   (show List.length (ints (List.map Prod.fst (tk8s (List.take k l))))+(1:Nat)≤(2:Nat) ^ (47:Nat); omega)
   refine ar_add ?_ ?_
   refine an ?_ ?_
   (show (-9223372036854775808:Int)≤(↑k:Int)+(1:Int); omega)
   (show (↑k:Int)+(1:Int)≤(9223372036854775807:Int); omega)
   rotate_left
   (exfalso; omega)
   all_goals exact fin
  ·rw [h1] at c66_1 ho
   rw [h2] at c66_2 ho
   have ho:old8 a.u (tk8s (l.take k)) (1+IntKind.wrap .i64 x.1)=false:=ho
   have fin:∃ a':Nat,(a'≤l.length∧l.length - a' < l.length - k)∧(⟨[(1,.d (.slice 2 (u16s l))),(3,.ptr 0 0),(5,.ptr 1 0),(7,.sl 6 (blks a.k (tk8s (l.take k))++[Data.agg [.int .u8 ((1+IntKind.wrap .i64 x.1) / 16777216 % 256),.int .u8 ((1+IntKind.wrap .i64 x.1) / 65536 % 256),.int .u8 ((1+IntKind.wrap .i64 x.1) / 256 % 256),.int .u8 ((1+IntKind.wrap .i64 x.1) % 256),.int .u8 ((1+IntKind.wrap .i64 x.2) / 16777216 % 256),.int .u8 ((1+IntKind.wrap .i64 x.2) / 65536 % 256),.int .u8 ((1+IntKind.wrap .i64 x.2) / 256 % 256),.int .u8 ((1+IntKind.wrap .i64 x.2) % 256),.int .u8 (sealK a.k (o4 (1+IntKind.wrap .i64 x.1)++o4 (1+IntKind.wrap .i64 x.2))).a,.int .u8 (sealK a.k (o4 (1+IntKind.wrap .i64 x.1)++o4 (1+IntKind.wrap .i64 x.2))).b,.int .u8 (sealK a.k (o4 (1+IntKind.wrap .i64 x.1)++o4 (1+IntKind.wrap .i64 x.2))).c,.int .u8 (sealK a.k (o4 (1+IntKind.wrap .i64 x.1)++o4 (1+IntKind.wrap .i64 x.2))).d,.int .u8 (sealK a.k (o4 (1+IntKind.wrap .i64 x.1)++o4 (1+IntKind.wrap .i64 x.2))).e,.int .u8 (sealK a.k (o4 (1+IntKind.wrap .i64 x.1)++o4 (1+IntKind.wrap .i64 x.2))).f,.int .u8 (sealK a.k (o4 (1+IntKind.wrap .i64 x.1)++o4 (1+IntKind.wrap .i64 x.2))).g,.int .u8 (sealK a.k (o4 (1+IntKind.wrap .i64 x.1)++o4 (1+IntKind.wrap .i64 x.2))).h]]).length),(8,.d (.int .i64 (wo8 a.u (tk8s (l.take k))+(1+IntKind.wrap .i64 x.2)))),(9,.d (.int .i64 (fr8 a.u (tk8s (l.take k))+1))),(10,.sl 8 (ints ((tk8s (l.take k)).map Prod.fst)++[Data.int .i64 (1+IntKind.wrap .i64 x.1)]).length),(67,.d (.slice 2 (u16s l))),(68,.d (.int .i64 (((u16s l).length:Nat):Int))),(69,.d (.int .i64 ((k:Int)+1)))],[.cbox [.int .i64 (a.b),.int .i64 (a.d),.int .i64 a.s,.int .i64 a.e,.int .u8 a.k.a,.int .u8 a.k.b,.int .u8 a.k.c,.int .u8 a.k.d,.int .u8 a.k.e,.int .u8 a.k.f,.int .u8 a.k.g,.int .u8 a.k.h,.int .u8 a.n.a,.int .u8 a.n.b,.int .u8 a.n.c,.int .u8 a.n.d,.int .u8 a.n.e,.int .u8 a.n.f,.int .u8 a.n.g,.int .u8 a.n.h,.bool false,.slice 1 (ints a.u)],.cbox [.int .u8 n0,.int .u8 n1,.int .u8 n2],.none,.none,.none,.none,.row 64 16 (blks a.k (tk8s (l.take k))++[Data.agg [.int .u8 ((1+IntKind.wrap .i64 x.1) / 16777216 % 256),.int .u8 ((1+IntKind.wrap .i64 x.1) / 65536 % 256),.int .u8 ((1+IntKind.wrap .i64 x.1) / 256 % 256),.int .u8 ((1+IntKind.wrap .i64 x.1) % 256),.int .u8 ((1+IntKind.wrap .i64 x.2) / 16777216 % 256),.int .u8 ((1+IntKind.wrap .i64 x.2) / 65536 % 256),.int .u8 ((1+IntKind.wrap .i64 x.2) / 256 % 256),.int .u8 ((1+IntKind.wrap .i64 x.2) % 256),.int .u8 (sealK a.k (o4 (1+IntKind.wrap .i64 x.1)++o4 (1+IntKind.wrap .i64 x.2))).a,.int .u8 (sealK a.k (o4 (1+IntKind.wrap .i64 x.1)++o4 (1+IntKind.wrap .i64 x.2))).b,.int .u8 (sealK a.k (o4 (1+IntKind.wrap .i64 x.1)++o4 (1+IntKind.wrap .i64 x.2))).c,.int .u8 (sealK a.k (o4 (1+IntKind.wrap .i64 x.1)++o4 (1+IntKind.wrap .i64 x.2))).d,.int .u8 (sealK a.k (o4 (1+IntKind.wrap .i64 x.1)++o4 (1+IntKind.wrap .i64 x.2))).e,.int .u8 (sealK a.k (o4 (1+IntKind.wrap .i64 x.1)++o4 (1+IntKind.wrap .i64 x.2))).f,.int .u8 (sealK a.k (o4 (1+IntKind.wrap .i64 x.1)++o4 (1+IntKind.wrap .i64 x.2))).g,.int .u8 (sealK a.k (o4 (1+IntKind.wrap .i64 x.1)++o4 (1+IntKind.wrap .i64 x.2))).h]]) false,.none,.row 3 1 (ints ((tk8s (l.take k)).map Prod.fst)++[Data.int .i64 (1+IntKind.wrap .i64 x.1)]) false,.none,.none,.none,.none,.none,.none,.none,.none,.none,.none,.none,.none,.none,.none,.none]⟩:St)=⟨[(1,.d (.slice 2 (u16s l))),(3,.ptr 0 0),(5,.ptr 1 0),(7,.sl 6 (blks a.k (tk8s (l.take a'))).length),(8,.d (.int .i64 (wo8 a.u (tk8s (l.take a'))))),(9,.d (.int .i64 (fr8 a.u (tk8s (l.take a'))))),(10,.sl 8 (ints ((tk8s (l.take a')).map Prod.fst)).length),(67,.d (.slice 2 (u16s l))),(68,.d (.int .i64 (((u16s l).length:Nat):Int))),(69,.d (.int .i64 (((a':Nat):Int))))],[.cbox [.int .i64 (a.b),.int .i64 (a.d),.int .i64 a.s,.int .i64 a.e,.int .u8 a.k.a,.int .u8 a.k.b,.int .u8 a.k.c,.int .u8 a.k.d,.int .u8 a.k.e,.int .u8 a.k.f,.int .u8 a.k.g,.int .u8 a.k.h,.int .u8 a.n.a,.int .u8 a.n.b,.int .u8 a.n.c,.int .u8 a.n.d,.int .u8 a.n.e,.int .u8 a.n.f,.int .u8 a.n.g,.int .u8 a.n.h,.bool false,.slice 1 (ints a.u)],.cbox [.int .u8 n0,.int .u8 n1,.int .u8 n2],.none,.none,.none,.none,.row 64 16 (blks a.k (tk8s (l.take a'))) false,.none,.row 3 1 (ints ((tk8s (l.take a')).map Prod.fst)) false,.none,.none,.none,.none,.none,.none,.none,.none,.none,.none,.none,.none,.none,.none,.none]⟩:=⟨k+1,⟨by omega,by omega⟩,by rw [blks_s a.k (tk8s (l.take k)) ((1+IntKind.wrap .i64 x.1),(1+IntKind.wrap .i64 x.2)),tk8s_step hx,fr8_s,wo8_s,ho,hia]; rfl⟩
   refine sd ?_
   refine b_lt (fun t1=>?_) (fun t1=>?_)
   refine ix_at hx1 ?_ ?_
   (show (0:Int)≤(↑k:Int); omega)
   refine an ?_ ?_
   refine an ?_ ?_
   (show (0:Int)≤(0:Int); omega)
   (show (0:Int) < (↑(2:Nat):Int); omega)
   refine ca rfl ?_
   refine ar_add ?_ ?_
   refine an ?_ ?_
   (show (-9223372036854775808:Int)≤(1:Int)+IntKind.wrap IntKind.i64 (Prod.fst x); omega)
   (show (1:Int)+IntKind.wrap IntKind.i64 (Prod.fst x)≤(9223372036854775807:Int); omega)
   refine an ?_ ?_
   refine an ?_ ?_
   (show (0:Int)≤(1:Int); omega)
   (show (1:Int) < (↑(2:Nat):Int); omega)
   refine ca rfl ?_
   refine ar_add ?_ ?_
   refine an ?_ ?_
   (show (-9223372036854775808:Int)≤(1:Int)+IntKind.wrap IntKind.i64 (Prod.snd x); omega)
   (show (1:Int)+IntKind.wrap IntKind.i64 (Prod.snd x)≤(9223372036854775807:Int); omega)
   refine ca c38_ ?_
   refine sd ?_
   refine ca c39_ ?_
   refine sd ?_
   refine sd ?_
   refine sd ?_
   refine sd ?_
   refine an ?_ ?_
   refine an ?_ ?_
   exact rfl
   refine an ?_ ?_
   exact rfl
   refine an ?_ ?_
   exact rfl
   refine an ?_ ?_
   (show (List.length (blks (Ac.k a) (tk8s (List.take k l)))+(1:Nat)) * (16:Nat)≤(2:Nat) ^ (47:Nat); omega)
   (show List.length (blks (Ac.k a) (tk8s (List.take k l)))+(1:Nat)≤(2:Nat) ^ (47:Nat); omega)
   refine ca c66_1 ?_
   refine sd ?_
   refine ca c66_2 ?_
   refine ar_add ?_ ?_
   refine an ?_ ?_
   (show (-9223372036854775808:Int)≤wo8 (Ac.u a) (tk8s (List.take k l))+((1:Int)+IntKind.wrap IntKind.i64 (Prod.snd x)); omega)
   (show wo8 (Ac.u a) (tk8s (List.take k l))+((1:Int)+IntKind.wrap IntKind.i64 (Prod.snd x))≤(9223372036854775807:Int); omega)
   refine ar_add ?_ ?_
   refine an ?_ ?_
   (show (-9223372036854775808:Int)≤fr8 (Ac.u a) (tk8s (List.take k l))+(1:Int); omega)
   (show fr8 (Ac.u a) (tk8s (List.take k l))+(1:Int)≤(9223372036854775807:Int); omega)
   refine sd ?_
   refine sd ?_
   refine sd ?_
   refine an ?_ ?_
   refine an ?_ ?_
   exact rfl
   refine an ?_ ?_
   exact rfl
   refine an ?_ ?_
   exact rfl
   refine an ?_ ?_
   (show (List.length (ints (List.map Prod.fst (tk8s (List.take k l))))+(1:Nat)) * (8:Nat)≤(2:Nat) ^ (47:Nat); omega)
   (show List.length (ints (List.map Prod.fst (tk8s (List.take k l))))+(1:Nat)≤(2:Nat) ^ (47:Nat); omega)
   refine ar_add ?_ ?_
   refine an ?_ ?_
   (show (-9223372036854775808:Int)≤(↑k:Int)+(1:Int); omega)
   (show (↑k:Int)+(1:Int)≤(9223372036854775807:Int); omega)
   rotate_left
   (exfalso; omega)
   all_goals exact fin
 ·have e:l.take k=l:=List.take_of_length_le (by omega)
  have e2:k=l.length:=by omega
  rw [e,e2]
  refine sd ?_
  refine b_lt (fun t1=>?_) (fun t1=>?_)
  (exfalso; omega)
  rotate_left
  all_goals exact hQ _
end Vc
