import Derived.Test.YtmjbifmndhianaaGreatDoorG29
set_option linter.unusedSectionVars false
set_option linter.unusedVariables false
set_option linter.unusedSimpArgs false
set_option maxRecDepth 10000
set_option maxHeartbeats 4000000
namespace Vc
open Go Go.Proofs
theorem rem_i {a:Int} {b:Nat} (h:0≤a) (hb:1≤b):∃ i:Nat,arithF .rem .i64 a (b:Int)=some (i:Int)∧i < b:=by
 refine ⟨(a % (b:Int)).toNat,?_,?_⟩
 ·simp only [arithF]
  rw [if_neg (by omega),Int.tmod_eq_emod_of_nonneg h]
  have:=Int.emod_nonneg a (show (b:Int)≠0 by omega)
  congr 1
  omega
 ·have h1:=Int.emod_nonneg a (show (b:Int)≠0 by omega)
  have h2:=Int.emod_lt_of_pos a (show (0:Int) < b by omega)
  omega
theorem ar_isk {o : BinOp} {k : IntKind} {a b r : Int} {K : Int → Prop} (h : arithF o k a b = some r) (hK : K r) :
  ∃ r,(k=k∧k=k∧arithF o k a b=some r)∧K r:=⟨r,⟨rfl,rfl,h⟩,hK⟩
theorem wr8 {z:Int} (h:0≤z∧z≤255):IntKind.wrap .u8 z=z:=by rw [wrap8m]; omega
theorem blks_xy (k:Ky) (S:List (Int × Int)) (x y:Int × Int):([]++blks k S)++[Data.agg [.int .u8 (x.1 / 16777216 % 256),.int .u8 (x.1 / 65536 % 256),.int .u8 (x.1 / 256 % 256),.int .u8 (x.1 % 256),.int .u8 (x.2 / 16777216 % 256),.int .u8 (x.2 / 65536 % 256),.int .u8 (x.2 / 256 % 256),.int .u8 (x.2 % 256),.int .u8 (sealK k (o4 x.1++o4 x.2)).a,.int .u8 (sealK k (o4 x.1++o4 x.2)).b,.int .u8 (sealK k (o4 x.1++o4 x.2)).c,.int .u8 (sealK k (o4 x.1++o4 x.2)).d,.int .u8 (sealK k (o4 x.1++o4 x.2)).e,.int .u8 (sealK k (o4 x.1++o4 x.2)).f,.int .u8 (sealK k (o4 x.1++o4 x.2)).g,.int .u8 (sealK k (o4 x.1++o4 x.2)).h],Data.agg [.int .u8 (y.1 / 16777216 % 256),.int .u8 (y.1 / 65536 % 256),.int .u8 (y.1 / 256 % 256),.int .u8 (y.1 % 256),.int .u8 (y.2 / 16777216 % 256),.int .u8 (y.2 / 65536 % 256),.int .u8 (y.2 / 256 % 256),.int .u8 (y.2 % 256),.int .u8 (sealK k (o4 y.1++o4 y.2)).a,.int .u8 (sealK k (o4 y.1++o4 y.2)).b,.int .u8 (sealK k (o4 y.1++o4 y.2)).c,.int .u8 (sealK k (o4 y.1++o4 y.2)).d,.int .u8 (sealK k (o4 y.1++o4 y.2)).e,.int .u8 (sealK k (o4 y.1++o4 y.2)).f,.int .u8 (sealK k (o4 y.1++o4 y.2)).g,.int .u8 (sealK k (o4 y.1++o4 y.2)).h]]=blks k (S++[x,y]):=by unfold blks; rw [List.map_append]; rfl
theorem kne_a {k:Ky} {d:Int} (hd:1≤d∧d≤255) (h:k.ok):keq (⟨(k.a+d) % 256,k.b,k.c,k.d,k.e,k.f,k.g,k.h⟩:Ky) k=false:=by
 obtain ⟨h0,h1,h2,h3,h4,h5,h6,h7⟩:=h
 rw [Bool.eq_false_iff]
 intro e
 unfold keq at e
 simp only [Bool.and_eq_true,beq_iff_eq] at e
 omega
theorem ok_a {k:Ky} {z:Int} (h:k.ok) (hz:0≤z∧z≤255):(⟨z,k.b,k.c,k.d,k.e,k.f,k.g,k.h⟩:Ky).ok:=by
 obtain ⟨h0,h1,h2,h3,h4,h5,h6,h7⟩:=h
 exact ⟨hz,h1,h2,h3,h4,h5,h6,h7⟩
theorem kne_b {k:Ky} {d:Int} (hd:1≤d∧d≤255) (h:k.ok):keq (⟨k.a,(k.b+d) % 256,k.c,k.d,k.e,k.f,k.g,k.h⟩:Ky) k=false:=by
 obtain ⟨h0,h1,h2,h3,h4,h5,h6,h7⟩:=h
 rw [Bool.eq_false_iff]
 intro e
 unfold keq at e
 simp only [Bool.and_eq_true,beq_iff_eq] at e
 omega
theorem ok_b {k:Ky} {z:Int} (h:k.ok) (hz:0≤z∧z≤255):(⟨k.a,z,k.c,k.d,k.e,k.f,k.g,k.h⟩:Ky).ok:=by
 obtain ⟨h0,h1,h2,h3,h4,h5,h6,h7⟩:=h
 exact ⟨h0,hz,h2,h3,h4,h5,h6,h7⟩
theorem kne_c {k:Ky} {d:Int} (hd:1≤d∧d≤255) (h:k.ok):keq (⟨k.a,k.b,(k.c+d) % 256,k.d,k.e,k.f,k.g,k.h⟩:Ky) k=false:=by
 obtain ⟨h0,h1,h2,h3,h4,h5,h6,h7⟩:=h
 rw [Bool.eq_false_iff]
 intro e
 unfold keq at e
 simp only [Bool.and_eq_true,beq_iff_eq] at e
 omega
theorem ok_c {k:Ky} {z:Int} (h:k.ok) (hz:0≤z∧z≤255):(⟨k.a,k.b,z,k.d,k.e,k.f,k.g,k.h⟩:Ky).ok:=by
 obtain ⟨h0,h1,h2,h3,h4,h5,h6,h7⟩:=h
 exact ⟨h0,h1,hz,h3,h4,h5,h6,h7⟩
theorem kne_d {k:Ky} {d:Int} (hd:1≤d∧d≤255) (h:k.ok):keq (⟨k.a,k.b,k.c,(k.d+d) % 256,k.e,k.f,k.g,k.h⟩:Ky) k=false:=by
 obtain ⟨h0,h1,h2,h3,h4,h5,h6,h7⟩:=h
 rw [Bool.eq_false_iff]
 intro e
 unfold keq at e
 simp only [Bool.and_eq_true,beq_iff_eq] at e
 omega
theorem ok_d {k:Ky} {z:Int} (h:k.ok) (hz:0≤z∧z≤255):(⟨k.a,k.b,k.c,z,k.e,k.f,k.g,k.h⟩:Ky).ok:=by
 obtain ⟨h0,h1,h2,h3,h4,h5,h6,h7⟩:=h
 exact ⟨h0,h1,h2,hz,h4,h5,h6,h7⟩
theorem kne_e {k:Ky} {d:Int} (hd:1≤d∧d≤255) (h:k.ok):keq (⟨k.a,k.b,k.c,k.d,(k.e+d) % 256,k.f,k.g,k.h⟩:Ky) k=false:=by
 obtain ⟨h0,h1,h2,h3,h4,h5,h6,h7⟩:=h
 rw [Bool.eq_false_iff]
 intro e
 unfold keq at e
 simp only [Bool.and_eq_true,beq_iff_eq] at e
 omega
theorem ok_e {k:Ky} {z:Int} (h:k.ok) (hz:0≤z∧z≤255):(⟨k.a,k.b,k.c,k.d,z,k.f,k.g,k.h⟩:Ky).ok:=by
 obtain ⟨h0,h1,h2,h3,h4,h5,h6,h7⟩:=h
 exact ⟨h0,h1,h2,h3,hz,h5,h6,h7⟩
theorem kne_f {k:Ky} {d:Int} (hd:1≤d∧d≤255) (h:k.ok):keq (⟨k.a,k.b,k.c,k.d,k.e,(k.f+d) % 256,k.g,k.h⟩:Ky) k=false:=by
 obtain ⟨h0,h1,h2,h3,h4,h5,h6,h7⟩:=h
 rw [Bool.eq_false_iff]
 intro e
 unfold keq at e
 simp only [Bool.and_eq_true,beq_iff_eq] at e
 omega
theorem ok_f {k:Ky} {z:Int} (h:k.ok) (hz:0≤z∧z≤255):(⟨k.a,k.b,k.c,k.d,k.e,z,k.g,k.h⟩:Ky).ok:=by
 obtain ⟨h0,h1,h2,h3,h4,h5,h6,h7⟩:=h
 exact ⟨h0,h1,h2,h3,h4,hz,h6,h7⟩
theorem kne_g {k:Ky} {d:Int} (hd:1≤d∧d≤255) (h:k.ok):keq (⟨k.a,k.b,k.c,k.d,k.e,k.f,(k.g+d) % 256,k.h⟩:Ky) k=false:=by
 obtain ⟨h0,h1,h2,h3,h4,h5,h6,h7⟩:=h
 rw [Bool.eq_false_iff]
 intro e
 unfold keq at e
 simp only [Bool.and_eq_true,beq_iff_eq] at e
 omega
theorem ok_g {k:Ky} {z:Int} (h:k.ok) (hz:0≤z∧z≤255):(⟨k.a,k.b,k.c,k.d,k.e,k.f,z,k.h⟩:Ky).ok:=by
 obtain ⟨h0,h1,h2,h3,h4,h5,h6,h7⟩:=h
 exact ⟨h0,h1,h2,h3,h4,h5,hz,h7⟩
theorem kne_h {k:Ky} {d:Int} (hd:1≤d∧d≤255) (h:k.ok):keq (⟨k.a,k.b,k.c,k.d,k.e,k.f,k.g,(k.h+d) % 256⟩:Ky) k=false:=by
 obtain ⟨h0,h1,h2,h3,h4,h5,h6,h7⟩:=h
 rw [Bool.eq_false_iff]
 intro e
 unfold keq at e
 simp only [Bool.and_eq_true,beq_iff_eq] at e
 omega
theorem ok_h {k:Ky} {z:Int} (h:k.ok) (hz:0≤z∧z≤255):(⟨k.a,k.b,k.c,k.d,k.e,k.f,k.g,z⟩:Ky).ok:=by
 obtain ⟨h0,h1,h2,h3,h4,h5,h6,h7⟩:=h
 exact ⟨h0,h1,h2,h3,h4,h5,h6,hz⟩
theorem w8a {a:Ac} {l:List (Int × Int)} {n0 n1 n2:Int} {Q:AExit→St→Prop} (hA:ckA a false=0) (hk:a.k.ok) (hn:a.n.ok) (hu:a.u.length≤12) (hb:a.b≤1000000000) (hL:U16 l) (hl:l.length≤8) (hl0:1≤l.length) (h0:0≤n0∧n0≤255) (h1:0≤n1∧n1≤255) (h2:0≤n2∧n2≤255) (hW:∀ (x y:Int × Int) (p' q':Ky),x∈tk8s l→y∈tk8s l→p'.ok→q'.ok→Brk (pk8 x) (sealK a.k (ls8 (pk8 x))) p' q'→vc Tryz.prog 365 rest8b ⟨[(1,.d (.slice 2 (u16s l))),(3,.ptr 0 0),(7,.sl 6 (blks a.k (tk8s l)).length),(8,.d (.int .i64 (wo8 a.u (tk8s l)))),(9,.d (.int .i64 (fr8 a.u (tk8s l)))),(18,.sl 9 (blks a.k (tk8s l++[x,y])).length),(19,.ptr 13 0)],[.cbox [.int .i64 (a.b),.int .i64 (a.d),.int .i64 a.s,.int .i64 a.e,.int .u8 a.k.a,.int .u8 a.k.b,.int .u8 a.k.c,.int .u8 a.k.d,.int .u8 a.k.e,.int .u8 a.k.f,.int .u8 a.k.g,.int .u8 a.k.h,.int .u8 a.n.a,.int .u8 a.n.b,.int .u8 a.n.c,.int .u8 a.n.d,.int .u8 a.n.e,.int .u8 a.n.f,.int .u8 a.n.g,.int .u8 a.n.h,.bool false,.slice 1 (ints a.u)],.none,.none,.none,.none,.none,.row 64 16 (blks a.k (tk8s l)) false,.none,.none,.row 64 16 (blks a.k (tk8s l++[x,y])) false,.none,.none,.none,.box [.d (.int .u8 p'.a),.d (.int .u8 p'.b),.d (.int .u8 p'.c),.d (.int .u8 p'.d),.d (.int .u8 p'.e),.d (.int .u8 p'.f),.d (.int .u8 p'.g),.d (.int .u8 p'.h),.d (.int .u8 q'.a),.d (.int .u8 q'.b),.d (.int .u8 q'.c),.d (.int .u8 q'.d),.d (.int .u8 q'.e),.d (.int .u8 q'.f),.d (.int .u8 q'.g),.d (.int .u8 q'.h)],.none,.none,.none,.none,.none,.none,.none,.none,.none,.none]⟩ Q):vc Tryz.prog 365 rest8a ⟨[(1,.d (.slice 2 (u16s l))),(3,.ptr 0 0),(5,.ptr 1 0),(7,.sl 6 (blks a.k (tk8s l)).length),(8,.d (.int .i64 (wo8 a.u (tk8s l)))),(9,.d (.int .i64 (fr8 a.u (tk8s l))))],[.cbox [.int .i64 (a.b),.int .i64 (a.d),.int .i64 a.s,.int .i64 a.e,.int .u8 a.k.a,.int .u8 a.k.b,.int .u8 a.k.c,.int .u8 a.k.d,.int .u8 a.k.e,.int .u8 a.k.f,.int .u8 a.k.g,.int .u8 a.k.h,.int .u8 a.n.a,.int .u8 a.n.b,.int .u8 a.n.c,.int .u8 a.n.d,.int .u8 a.n.e,.int .u8 a.n.f,.int .u8 a.n.g,.int .u8 a.n.h,.bool false,.slice 1 (ints a.u)],.cbox [.int .u8 n0,.int .u8 n1,.int .u8 n2],.none,.none,.none,.none,.row 64 16 (blks a.k (tk8s l)) false,.none,.none,.none,.none,.none,.none,.none,.none,.none,.none,.none,.none,.none,.none,.none,.none,.none]⟩ Q:=by
 unfold rest8a
 have hbl:=blks_len a.k (tk8s l)
 have htl:=tk8s_len l
 obtain ⟨i,hr0,hi⟩:=rem_i (a:=IntKind.wrap .i64 n0) (b:=(blks a.k (tk8s l)).length) (by rw [wr16 (by omega)]; exact h0.1) (by omega)
 rw [hbl,htl] at hi
 obtain ⟨x,hx⟩:∃ x,(tk8s l)[i]?=some x:=⟨_,List.getElem?_eq_getElem (by omega)⟩
 obtain ⟨y,hy⟩:∃ y,(tk8s l)[0]?=some y:=⟨_,List.getElem?_eq_getElem (by omega)⟩
 have hxa:=blks_at (k:=a.k) hx
 have hya:(blks a.k (tk8s l))[Int.toNat 0]?=some (.agg [.int .u8 (y.1 / 16777216 % 256),.int .u8 (y.1 / 65536 % 256),.int .u8 (y.1 / 256 % 256),.int .u8 (y.1 % 256),.int .u8 (y.2 / 16777216 % 256),.int .u8 (y.2 / 65536 % 256),.int .u8 (y.2 / 256 % 256),.int .u8 (y.2 % 256),.int .u8 (sealK a.k (o4 y.1++o4 y.2)).a,.int .u8 (sealK a.k (o4 y.1++o4 y.2)).b,.int .u8 (sealK a.k (o4 y.1++o4 y.2)).c,.int .u8 (sealK a.k (o4 y.1++o4 y.2)).d,.int .u8 (sealK a.k (o4 y.1++o4 y.2)).e,.int .u8 (sealK a.k (o4 y.1++o4 y.2)).f,.int .u8 (sealK a.k (o4 y.1++o4 y.2)).g,.int .u8 (sealK a.k (o4 y.1++o4 y.2)).h]):=blks_at (k:=a.k) hy
 have hxm:=List.mem_of_getElem? hx
 have hym:=List.mem_of_getElem? hy
 have hxs:(sealK a.k (o4 x.1++o4 x.2)).ok:=sl8_ok a.k _
 have hxp:=pk8_ok x
 have hnl:([]++blks a.k (tk8s l)).length=l.length:=by rw [List.nil_append,hbl,htl]
 obtain ⟨j,hr1,hj⟩:=rem_i (a:=IntKind.wrap .i64 n1) (b:=16) (by rw [wr16 (by omega)]; exact h1.1) (by omega)
 have hd:1≤1+n2 % 255∧1+n2 % 255≤255:=by omega
 have ha1:arithF .rem .u8 n2 255=some (n2 % 255):=by simp only [arithF]; rw [if_neg (by omega),Int.tmod_eq_emod_of_nonneg h2.1]
 have ha2:arithF .add .u8 1 (n2 % 255)=some (1+n2 % 255):=by simp only [arithF]; rw [wr8 (by omega)]
 have ha3:∀ z:Int,arithF .add .u8 z (1+n2 % 255)=some ((z+(1+n2 % 255)) % 256):=fun z=>by simp only [arithF]; rw [wrap8m]
 clear hxp
 rcases (show j=0∨j=1∨j=2∨j=3∨j=4∨j=5∨j=6∨j=7∨j=8∨j=9∨j=10∨j=11∨j=12∨j=13∨j=14∨j=15 by omega) with hj | hj | hj | hj | hj | hj | hj | hj | hj | hj | hj | hj | hj | hj | hj | hj
 ·have hr1:arithF .rem .i64 (IntKind.wrap .i64 n1) 16=some 0:=by rw [hj] at hr1; exact hr1
  have hW:=hW x y (⟨((x.1 / 16777216 % 256)+(1+n2 % 255)) % 256,(x.1 / 65536 % 256),(x.1 / 256 % 256),(x.1 % 256),(x.2 / 16777216 % 256),(x.2 / 65536 % 256),(x.2 / 256 % 256),(x.2 % 256)⟩:Ky) (⟨(sealK a.k (o4 x.1++o4 x.2)).a,(sealK a.k (o4 x.1++o4 x.2)).b,(sealK a.k (o4 x.1++o4 x.2)).c,(sealK a.k (o4 x.1++o4 x.2)).d,(sealK a.k (o4 x.1++o4 x.2)).e,(sealK a.k (o4 x.1++o4 x.2)).f,(sealK a.k (o4 x.1++o4 x.2)).g,(sealK a.k (o4 x.1++o4 x.2)).h⟩:Ky) hxm hym (ok_a (pk8_ok x) (by omega)) (sl8_ok a.k _) (.inl ⟨rfl,[],(x.1 / 16777216 % 256),((x.1 / 16777216 % 256)+(1+n2 % 255)) % 256,[(x.1 / 65536 % 256),(x.1 / 256 % 256),(x.1 % 256),(x.2 / 16777216 % 256),(x.2 / 65536 % 256),(x.2 / 256 % 256),(x.2 % 256)],rfl,rfl,by omega⟩)
  rw [← blks_xy] at hW
  refine an ?_ ?_
  refine an ?_ ?_
  (show (0:Int)≤(0:Int); omega)
  (show (0:Int) < (↑(3:Nat):Int); omega)
  refine ca rfl ?_
  refine sd ?_
  refine ar_is hr0 ?_
  refine sd ?_
  refine sd ?_
  refine sd ?_
  refine an ?_ ?_
  refine an ?_ ?_
  exact rfl
  refine an ?_ ?_
  exact rfl
  refine an ?_ ?_
  exact rfl
  refine an ?_ ?_
  (show ((0:Nat)+List.length (blks (Ac.k a) (tk8s l))) * (16:Nat)≤(2:Nat) ^ (47:Nat); omega)
  (show (0:Nat)+List.length (blks (Ac.k a) (tk8s l))≤(2:Nat) ^ (47:Nat); omega)
  refine an ?_ ?_
  refine an ?_ ?_
  exact rfl
  refine an ?_ ?_
  exact rfl
  refine an ?_ ?_
  (show (0:Int)≤(↑i:Int); omega)
  (show (↑i:Int) < (↑(List.length (blks (Ac.k a) (tk8s l))):Int); omega)
  refine sd ?_
  refine ca hxa ?_
  refine an ?_ ?_
  refine an ?_ ?_
  exact rfl
  refine an ?_ ?_
  exact rfl
  refine an ?_ ?_
  (show (0:Int)≤(0:Int); omega)
  (show (0:Int) < (↑(List.length (blks (Ac.k a) (tk8s l))):Int); omega)
  refine sd ?_
  refine ca hya ?_
  refine sd ?_
  refine sd ?_
  refine sd ?_
  refine an ?_ ?_
  refine an ?_ ?_
  exact rfl
  refine an ?_ ?_
  exact rfl
  refine an ?_ ?_
  exact rfl
  refine an ?_ ?_
  (show (List.length ([]++blks (Ac.k a) (tk8s l))+((1:Nat)+(1:Nat))) * (16:Nat)≤(2:Nat) ^ (47:Nat); omega)
  (show List.length ([]++blks (Ac.k a) (tk8s l))+((1:Nat)+(1:Nat))≤(2:Nat) ^ (47:Nat); omega)
  refine an ?_ ?_
  refine an ?_ ?_
  exact rfl
  refine an ?_ ?_
  exact rfl
  refine an ?_ ?_
  (show (0:Int)≤(↑i:Int); omega)
  (show (↑i:Int) < (↑(List.length (blks (Ac.k a) (tk8s l))):Int); omega)
  refine sd ?_
  refine ca hxa ?_
  refine an ?_ ?_
  refine an ?_ ?_
  (show (0:Int)≤(1:Int); omega)
  (show (1:Int) < (↑(3:Nat):Int); omega)
  refine ca rfl ?_
  refine ar_is hr1 ?_
  refine an ?_ ?_
  refine an ?_ ?_
  (show (0:Int)≤(0:Int); omega)
  (show (0:Int) < (↑(16:Nat):Int); omega)
  refine an ?_ ?_
  refine an ?_ ?_
  (show (0:Int)≤(2:Int); omega)
  (show (2:Int) < (↑(3:Nat):Int); omega)
  refine ar_isk ha1 ?_
  refine ar_isk ha2 ?_
  refine ar_isk (ha3 _) ?_
  refine an ?_ ?_
  refine an ?_ ?_
  (show (0:Int)≤(0:Int); omega)
  (show (0:Int) < (↑(16:Nat):Int); omega)
  rotate_left
  exact hW
 ·have hr1:arithF .rem .i64 (IntKind.wrap .i64 n1) 16=some 1:=by rw [hj] at hr1; exact hr1
  have hW:=hW x y (⟨(x.1 / 16777216 % 256),((x.1 / 65536 % 256)+(1+n2 % 255)) % 256,(x.1 / 256 % 256),(x.1 % 256),(x.2 / 16777216 % 256),(x.2 / 65536 % 256),(x.2 / 256 % 256),(x.2 % 256)⟩:Ky) (⟨(sealK a.k (o4 x.1++o4 x.2)).a,(sealK a.k (o4 x.1++o4 x.2)).b,(sealK a.k (o4 x.1++o4 x.2)).c,(sealK a.k (o4 x.1++o4 x.2)).d,(sealK a.k (o4 x.1++o4 x.2)).e,(sealK a.k (o4 x.1++o4 x.2)).f,(sealK a.k (o4 x.1++o4 x.2)).g,(sealK a.k (o4 x.1++o4 x.2)).h⟩:Ky) hxm hym (ok_b (pk8_ok x) (by omega)) (sl8_ok a.k _) (.inl ⟨rfl,[(x.1 / 16777216 % 256)],(x.1 / 65536 % 256),((x.1 / 65536 % 256)+(1+n2 % 255)) % 256,[(x.1 / 256 % 256),(x.1 % 256),(x.2 / 16777216 % 256),(x.2 / 65536 % 256),(x.2 / 256 % 256),(x.2 % 256)],rfl,rfl,by omega⟩)
  rw [← blks_xy] at hW
  refine an ?_ ?_
  refine an ?_ ?_
  (show (0:Int)≤(0:Int); omega)
  (show (0:Int) < (↑(3:Nat):Int); omega)
  refine ca rfl ?_
  refine sd ?_
  refine ar_is hr0 ?_
  refine sd ?_
  refine sd ?_
  refine sd ?_
  refine an ?_ ?_
  refine an ?_ ?_
  exact rfl
  refine an ?_ ?_
  exact rfl
  refine an ?_ ?_
  exact rfl
  refine an ?_ ?_
  (show ((0:Nat)+List.length (blks (Ac.k a) (tk8s l))) * (16:Nat)≤(2:Nat) ^ (47:Nat); omega)
  (show (0:Nat)+List.length (blks (Ac.k a) (tk8s l))≤(2:Nat) ^ (47:Nat); omega)
  refine an ?_ ?_
  refine an ?_ ?_
  exact rfl
  refine an ?_ ?_
  exact rfl
  refine an ?_ ?_
  (show (0:Int)≤(↑i:Int); omega)
  (show (↑i:Int) < (↑(List.length (blks (Ac.k a) (tk8s l))):Int); omega)
  refine sd ?_
  refine ca hxa ?_
  refine an ?_ ?_
  refine an ?_ ?_
  exact rfl
  refine an ?_ ?_
  exact rfl
  refine an ?_ ?_
  (show (0:Int)≤(0:Int); omega)
  (show (0:Int) < (↑(List.length (blks (Ac.k a) (tk8s l))):Int); omega)
  refine sd ?_
  refine ca hya ?_
  refine sd ?_
  refine sd ?_
  refine sd ?_
  refine an ?_ ?_
  refine an ?_ ?_
  exact rfl
  refine an ?_ ?_
  exact rfl
  refine an ?_ ?_
  exact rfl
  refine an ?_ ?_
  (show (List.length ([]++blks (Ac.k a) (tk8s l))+((1:Nat)+(1:Nat))) * (16:Nat)≤(2:Nat) ^ (47:Nat); omega)
  (show List.length ([]++blks (Ac.k a) (tk8s l))+((1:Nat)+(1:Nat))≤(2:Nat) ^ (47:Nat); omega)
  refine an ?_ ?_
  refine an ?_ ?_
  exact rfl
  refine an ?_ ?_
  exact rfl
  refine an ?_ ?_
  (show (0:Int)≤(↑i:Int); omega)
  (show (↑i:Int) < (↑(List.length (blks (Ac.k a) (tk8s l))):Int); omega)
  refine sd ?_
  refine ca hxa ?_
  refine an ?_ ?_
  refine an ?_ ?_
  (show (0:Int)≤(1:Int); omega)
  (show (1:Int) < (↑(3:Nat):Int); omega)
  refine ca rfl ?_
  refine ar_is hr1 ?_
  refine an ?_ ?_
  refine an ?_ ?_
  (show (0:Int)≤(1:Int); omega)
  (show (1:Int) < (↑(16:Nat):Int); omega)
  refine an ?_ ?_
  refine an ?_ ?_
  (show (0:Int)≤(2:Int); omega)
  (show (2:Int) < (↑(3:Nat):Int); omega)
  refine ar_isk ha1 ?_
  refine ar_isk ha2 ?_
  refine ar_isk (ha3 _) ?_
  refine an ?_ ?_
  refine an ?_ ?_
  (show (0:Int)≤(1:Int); omega)
  (show (1:Int) < (↑(16:Nat):Int); omega)
  rotate_left
  exact hW
 ·have hr1:arithF .rem .i64 (IntKind.wrap .i64 n1) 16=some 2:=by rw [hj] at hr1; exact hr1
  have hW:=hW x y (⟨(x.1 / 16777216 % 256),(x.1 / 65536 % 256),((x.1 / 256 % 256)+(1+n2 % 255)) % 256,(x.1 % 256),(x.2 / 16777216 % 256),(x.2 / 65536 % 256),(x.2 / 256 % 256),(x.2 % 256)⟩:Ky) (⟨(sealK a.k (o4 x.1++o4 x.2)).a,(sealK a.k (o4 x.1++o4 x.2)).b,(sealK a.k (o4 x.1++o4 x.2)).c,(sealK a.k (o4 x.1++o4 x.2)).d,(sealK a.k (o4 x.1++o4 x.2)).e,(sealK a.k (o4 x.1++o4 x.2)).f,(sealK a.k (o4 x.1++o4 x.2)).g,(sealK a.k (o4 x.1++o4 x.2)).h⟩:Ky) hxm hym (ok_c (pk8_ok x) (by omega)) (sl8_ok a.k _) (.inl ⟨rfl,[(x.1 / 16777216 % 256),(x.1 / 65536 % 256)],(x.1 / 256 % 256),((x.1 / 256 % 256)+(1+n2 % 255)) % 256,[(x.1 % 256),(x.2 / 16777216 % 256),(x.2 / 65536 % 256),(x.2 / 256 % 256),(x.2 % 256)],rfl,rfl,by omega⟩)
  rw [← blks_xy] at hW
  refine an ?_ ?_
  refine an ?_ ?_
  (show (0:Int)≤(0:Int); omega)
  (show (0:Int) < (↑(3:Nat):Int); omega)
  refine ca rfl ?_
  refine sd ?_
  refine ar_is hr0 ?_
  refine sd ?_
  refine sd ?_
  refine sd ?_
  refine an ?_ ?_
  refine an ?_ ?_
  exact rfl
  refine an ?_ ?_
  exact rfl
  refine an ?_ ?_
  exact rfl
  refine an ?_ ?_
  (show ((0:Nat)+List.length (blks (Ac.k a) (tk8s l))) * (16:Nat)≤(2:Nat) ^ (47:Nat); omega)
  (show (0:Nat)+List.length (blks (Ac.k a) (tk8s l))≤(2:Nat) ^ (47:Nat); omega)
  refine an ?_ ?_
  refine an ?_ ?_
  exact rfl
  refine an ?_ ?_
  exact rfl
  refine an ?_ ?_
  (show (0:Int)≤(↑i:Int); omega)
  (show (↑i:Int) < (↑(List.length (blks (Ac.k a) (tk8s l))):Int); omega)
  refine sd ?_
  refine ca hxa ?_
  refine an ?_ ?_
  refine an ?_ ?_
  exact rfl
  refine an ?_ ?_
  exact rfl
  refine an ?_ ?_
  (show (0:Int)≤(0:Int); omega)
  (show (0:Int) < (↑(List.length (blks (Ac.k a) (tk8s l))):Int); omega)
  refine sd ?_
  refine ca hya ?_
  refine sd ?_
  refine sd ?_
  refine sd ?_
  refine an ?_ ?_
  refine an ?_ ?_
  exact rfl
  refine an ?_ ?_
  exact rfl
  refine an ?_ ?_
  exact rfl
  refine an ?_ ?_
  (show (List.length ([]++blks (Ac.k a) (tk8s l))+((1:Nat)+(1:Nat))) * (16:Nat)≤(2:Nat) ^ (47:Nat); omega)
  (show List.length ([]++blks (Ac.k a) (tk8s l))+((1:Nat)+(1:Nat))≤(2:Nat) ^ (47:Nat); omega)
  refine an ?_ ?_
  refine an ?_ ?_
  exact rfl
  refine an ?_ ?_
  exact rfl
  refine an ?_ ?_
  (show (0:Int)≤(↑i:Int); omega)
  (show (↑i:Int) < (↑(List.length (blks (Ac.k a) (tk8s l))):Int); omega)
  refine sd ?_
  refine ca hxa ?_
  refine an ?_ ?_
  refine an ?_ ?_
  (show (0:Int)≤(1:Int); omega)
  (show (1:Int) < (↑(3:Nat):Int); omega)
  refine ca rfl ?_
  refine ar_is hr1 ?_
  refine an ?_ ?_
  refine an ?_ ?_
  (show (0:Int)≤(2:Int); omega)
  (show (2:Int) < (↑(16:Nat):Int); omega)
  refine an ?_ ?_
  refine an ?_ ?_
  (show (0:Int)≤(2:Int); omega)
  (show (2:Int) < (↑(3:Nat):Int); omega)
  refine ar_isk ha1 ?_
  refine ar_isk ha2 ?_
  refine ar_isk (ha3 _) ?_
  refine an ?_ ?_
  refine an ?_ ?_
  (show (0:Int)≤(2:Int); omega)
  (show (2:Int) < (↑(16:Nat):Int); omega)
  rotate_left
  exact hW
 ·have hr1:arithF .rem .i64 (IntKind.wrap .i64 n1) 16=some 3:=by rw [hj] at hr1; exact hr1
  have hW:=hW x y (⟨(x.1 / 16777216 % 256),(x.1 / 65536 % 256),(x.1 / 256 % 256),((x.1 % 256)+(1+n2 % 255)) % 256,(x.2 / 16777216 % 256),(x.2 / 65536 % 256),(x.2 / 256 % 256),(x.2 % 256)⟩:Ky) (⟨(sealK a.k (o4 x.1++o4 x.2)).a,(sealK a.k (o4 x.1++o4 x.2)).b,(sealK a.k (o4 x.1++o4 x.2)).c,(sealK a.k (o4 x.1++o4 x.2)).d,(sealK a.k (o4 x.1++o4 x.2)).e,(sealK a.k (o4 x.1++o4 x.2)).f,(sealK a.k (o4 x.1++o4 x.2)).g,(sealK a.k (o4 x.1++o4 x.2)).h⟩:Ky) hxm hym (ok_d (pk8_ok x) (by omega)) (sl8_ok a.k _) (.inl ⟨rfl,[(x.1 / 16777216 % 256),(x.1 / 65536 % 256),(x.1 / 256 % 256)],(x.1 % 256),((x.1 % 256)+(1+n2 % 255)) % 256,[(x.2 / 16777216 % 256),(x.2 / 65536 % 256),(x.2 / 256 % 256),(x.2 % 256)],rfl,rfl,by omega⟩)
  rw [← blks_xy] at hW
  refine an ?_ ?_
  refine an ?_ ?_
  (show (0:Int)≤(0:Int); omega)
  (show (0:Int) < (↑(3:Nat):Int); omega)
  refine ca rfl ?_
  refine sd ?_
  refine ar_is hr0 ?_
  refine sd ?_
  refine sd ?_
  refine sd ?_
  refine an ?_ ?_
  refine an ?_ ?_
  exact rfl
  refine an ?_ ?_
  exact rfl
  refine an ?_ ?_
  exact rfl
  refine an ?_ ?_
  (show ((0:Nat)+List.length (blks (Ac.k a) (tk8s l))) * (16:Nat)≤(2:Nat) ^ (47:Nat); omega)
  (show (0:Nat)+List.length (blks (Ac.k a) (tk8s l))≤(2:Nat) ^ (47:Nat); omega)
  refine an ?_ ?_
  refine an ?_ ?_
  exact rfl
  refine an ?_ ?_
  exact rfl
  refine an ?_ ?_
  (show (0:Int)≤(↑i:Int); omega)
  (show (↑i:Int) < (↑(List.length (blks (Ac.k a) (tk8s l))):Int); omega)
  refine sd ?_
  refine ca hxa ?_
  refine an ?_ ?_
  refine an ?_ ?_
  exact rfl
  refine an ?_ ?_
  exact rfl
  refine an ?_ ?_
  (show (0:Int)≤(0:Int); omega)
  (show (0:Int) < (↑(List.length (blks (Ac.k a) (tk8s l))):Int); omega)
  refine sd ?_
  refine ca hya ?_
  refine sd ?_
  refine sd ?_
  refine sd ?_
  refine an ?_ ?_
  refine an ?_ ?_
  exact rfl
  refine an ?_ ?_
  exact rfl
  refine an ?_ ?_
  exact rfl
  refine an ?_ ?_
  (show (List.length ([]++blks (Ac.k a) (tk8s l))+((1:Nat)+(1:Nat))) * (16:Nat)≤(2:Nat) ^ (47:Nat); omega)
  (show List.length ([]++blks (Ac.k a) (tk8s l))+((1:Nat)+(1:Nat))≤(2:Nat) ^ (47:Nat); omega)
  refine an ?_ ?_
  refine an ?_ ?_
  exact rfl
  refine an ?_ ?_
  exact rfl
  refine an ?_ ?_
  (show (0:Int)≤(↑i:Int); omega)
  (show (↑i:Int) < (↑(List.length (blks (Ac.k a) (tk8s l))):Int); omega)
  refine sd ?_
  refine ca hxa ?_
  refine an ?_ ?_
  refine an ?_ ?_
  (show (0:Int)≤(1:Int); omega)
  (show (1:Int) < (↑(3:Nat):Int); omega)
  refine ca rfl ?_
  refine ar_is hr1 ?_
  refine an ?_ ?_
  refine an ?_ ?_
  (show (0:Int)≤(3:Int); omega)
  (show (3:Int) < (↑(16:Nat):Int); omega)
  refine an ?_ ?_
  refine an ?_ ?_
  (show (0:Int)≤(2:Int); omega)
  (show (2:Int) < (↑(3:Nat):Int); omega)
  refine ar_isk ha1 ?_
  refine ar_isk ha2 ?_
  refine ar_isk (ha3 _) ?_
  refine an ?_ ?_
  refine an ?_ ?_
  (show (0:Int)≤(3:Int); omega)
  (show (3:Int) < (↑(16:Nat):Int); omega)
  rotate_left
  exact hW
 ·have hr1:arithF .rem .i64 (IntKind.wrap .i64 n1) 16=some 4:=by rw [hj] at hr1; exact hr1
  have hW:=hW x y (⟨(x.1 / 16777216 % 256),(x.1 / 65536 % 256),(x.1 / 256 % 256),(x.1 % 256),((x.2 / 16777216 % 256)+(1+n2 % 255)) % 256,(x.2 / 65536 % 256),(x.2 / 256 % 256),(x.2 % 256)⟩:Ky) (⟨(sealK a.k (o4 x.1++o4 x.2)).a,(sealK a.k (o4 x.1++o4 x.2)).b,(sealK a.k (o4 x.1++o4 x.2)).c,(sealK a.k (o4 x.1++o4 x.2)).d,(sealK a.k (o4 x.1++o4 x.2)).e,(sealK a.k (o4 x.1++o4 x.2)).f,(sealK a.k (o4 x.1++o4 x.2)).g,(sealK a.k (o4 x.1++o4 x.2)).h⟩:Ky) hxm hym (ok_e (pk8_ok x) (by omega)) (sl8_ok a.k _) (.inl ⟨rfl,[(x.1 / 16777216 % 256),(x.1 / 65536 % 256),(x.1 / 256 % 256),(x.1 % 256)],(x.2 / 16777216 % 256),((x.2 / 16777216 % 256)+(1+n2 % 255)) % 256,[(x.2 / 65536 % 256),(x.2 / 256 % 256),(x.2 % 256)],rfl,rfl,by omega⟩)
  rw [← blks_xy] at hW
  refine an ?_ ?_
  refine an ?_ ?_
  (show (0:Int)≤(0:Int); omega)
  (show (0:Int) < (↑(3:Nat):Int); omega)
  refine ca rfl ?_
  refine sd ?_
  refine ar_is hr0 ?_
  refine sd ?_
  refine sd ?_
  refine sd ?_
  refine an ?_ ?_
  refine an ?_ ?_
  exact rfl
  refine an ?_ ?_
  exact rfl
  refine an ?_ ?_
  exact rfl
  refine an ?_ ?_
  (show ((0:Nat)+List.length (blks (Ac.k a) (tk8s l))) * (16:Nat)≤(2:Nat) ^ (47:Nat); omega)
  (show (0:Nat)+List.length (blks (Ac.k a) (tk8s l))≤(2:Nat) ^ (47:Nat); omega)
  refine an ?_ ?_
  refine an ?_ ?_
  exact rfl
  refine an ?_ ?_
  exact rfl
  refine an ?_ ?_
  (show (0:Int)≤(↑i:Int); omega)
  (show (↑i:Int) < (↑(List.length (blks (Ac.k a) (tk8s l))):Int); omega)
  refine sd ?_
  refine ca hxa ?_
  refine an ?_ ?_
  refine an ?_ ?_
  exact rfl
  refine an ?_ ?_
  exact rfl
  refine an ?_ ?_
  (show (0:Int)≤(0:Int); omega)
  (show (0:Int) < (↑(List.length (blks (Ac.k a) (tk8s l))):Int); omega)
  refine sd ?_
  refine ca hya ?_
  refine sd ?_
  refine sd ?_
  refine sd ?_
  refine an ?_ ?_
  refine an ?_ ?_
  exact rfl
  refine an ?_ ?_
  exact rfl
  refine an ?_ ?_
  exact rfl
  refine an ?_ ?_
  (show (List.length ([]++blks (Ac.k a) (tk8s l))+((1:Nat)+(1:Nat))) * (16:Nat)≤(2:Nat) ^ (47:Nat); omega)
  (show List.length ([]++blks (Ac.k a) (tk8s l))+((1:Nat)+(1:Nat))≤(2:Nat) ^ (47:Nat); omega)
  refine an ?_ ?_
  refine an ?_ ?_
  exact rfl
  refine an ?_ ?_
  exact rfl
  refine an ?_ ?_
  (show (0:Int)≤(↑i:Int); omega)
  (show (↑i:Int) < (↑(List.length (blks (Ac.k a) (tk8s l))):Int); omega)
  refine sd ?_
  refine ca hxa ?_
  refine an ?_ ?_
  refine an ?_ ?_
  (show (0:Int)≤(1:Int); omega)
  (show (1:Int) < (↑(3:Nat):Int); omega)
  refine ca rfl ?_
  refine ar_is hr1 ?_
  refine an ?_ ?_
  refine an ?_ ?_
  (show (0:Int)≤(4:Int); omega)
  (show (4:Int) < (↑(16:Nat):Int); omega)
  refine an ?_ ?_
  refine an ?_ ?_
  (show (0:Int)≤(2:Int); omega)
  (show (2:Int) < (↑(3:Nat):Int); omega)
  refine ar_isk ha1 ?_
  refine ar_isk ha2 ?_
  refine ar_isk (ha3 _) ?_
  refine an ?_ ?_
  refine an ?_ ?_
  (show (0:Int)≤(4:Int); omega)
  (show (4:Int) < (↑(16:Nat):Int); omega)
  rotate_left
  exact hW
 ·have hr1:arithF .rem .i64 (IntKind.wrap .i64 n1) 16=some 5:=by rw [hj] at hr1; exact hr1
  have hW:=hW x y (⟨(x.1 / 16777216 % 256),(x.1 / 65536 % 256),(x.1 / 256 % 256),(x.1 % 256),(x.2 / 16777216 % 256),((x.2 / 65536 % 256)+(1+n2 % 255)) % 256,(x.2 / 256 % 256),(x.2 % 256)⟩:Ky) (⟨(sealK a.k (o4 x.1++o4 x.2)).a,(sealK a.k (o4 x.1++o4 x.2)).b,(sealK a.k (o4 x.1++o4 x.2)).c,(sealK a.k (o4 x.1++o4 x.2)).d,(sealK a.k (o4 x.1++o4 x.2)).e,(sealK a.k (o4 x.1++o4 x.2)).f,(sealK a.k (o4 x.1++o4 x.2)).g,(sealK a.k (o4 x.1++o4 x.2)).h⟩:Ky) hxm hym (ok_f (pk8_ok x) (by omega)) (sl8_ok a.k _) (.inl ⟨rfl,[(x.1 / 16777216 % 256),(x.1 / 65536 % 256),(x.1 / 256 % 256),(x.1 % 256),(x.2 / 16777216 % 256)],(x.2 / 65536 % 256),((x.2 / 65536 % 256)+(1+n2 % 255)) % 256,[(x.2 / 256 % 256),(x.2 % 256)],rfl,rfl,by omega⟩)
  rw [← blks_xy] at hW
  refine an ?_ ?_
  refine an ?_ ?_
  (show (0:Int)≤(0:Int); omega)
  (show (0:Int) < (↑(3:Nat):Int); omega)
  refine ca rfl ?_
  refine sd ?_
  refine ar_is hr0 ?_
  refine sd ?_
  refine sd ?_
  refine sd ?_
  refine an ?_ ?_
  refine an ?_ ?_
  exact rfl
  refine an ?_ ?_
  exact rfl
  refine an ?_ ?_
  exact rfl
  refine an ?_ ?_
  (show ((0:Nat)+List.length (blks (Ac.k a) (tk8s l))) * (16:Nat)≤(2:Nat) ^ (47:Nat); omega)
  (show (0:Nat)+List.length (blks (Ac.k a) (tk8s l))≤(2:Nat) ^ (47:Nat); omega)
  refine an ?_ ?_
  refine an ?_ ?_
  exact rfl
  refine an ?_ ?_
  exact rfl
  refine an ?_ ?_
  (show (0:Int)≤(↑i:Int); omega)
  (show (↑i:Int) < (↑(List.length (blks (Ac.k a) (tk8s l))):Int); omega)
  refine sd ?_
  refine ca hxa ?_
  refine an ?_ ?_
  refine an ?_ ?_
  exact rfl
  refine an ?_ ?_
  exact rfl
  refine an ?_ ?_
  (show (0:Int)≤(0:Int); omega)
  (show (0:Int) < (↑(List.length (blks (Ac.k a) (tk8s l))):Int); omega)
  refine sd ?_
  refine ca hya ?_
  refine sd ?_
  refine sd ?_
  refine sd ?_
  refine an ?_ ?_
  refine an ?_ ?_
  exact rfl
  refine an ?_ ?_
  exact rfl
  refine an ?_ ?_
  exact rfl
  refine an ?_ ?_
  (show (List.length ([]++blks (Ac.k a) (tk8s l))+((1:Nat)+(1:Nat))) * (16:Nat)≤(2:Nat) ^ (47:Nat); omega)
  (show List.length ([]++blks (Ac.k a) (tk8s l))+((1:Nat)+(1:Nat))≤(2:Nat) ^ (47:Nat); omega)
  refine an ?_ ?_
  refine an ?_ ?_
  exact rfl
  refine an ?_ ?_
  exact rfl
  refine an ?_ ?_
  (show (0:Int)≤(↑i:Int); omega)
  (show (↑i:Int) < (↑(List.length (blks (Ac.k a) (tk8s l))):Int); omega)
  refine sd ?_
  refine ca hxa ?_
  refine an ?_ ?_
  refine an ?_ ?_
  (show (0:Int)≤(1:Int); omega)
  (show (1:Int) < (↑(3:Nat):Int); omega)
  refine ca rfl ?_
  refine ar_is hr1 ?_
  refine an ?_ ?_
  refine an ?_ ?_
  (show (0:Int)≤(5:Int); omega)
  (show (5:Int) < (↑(16:Nat):Int); omega)
  refine an ?_ ?_
  refine an ?_ ?_
  (show (0:Int)≤(2:Int); omega)
  (show (2:Int) < (↑(3:Nat):Int); omega)
  refine ar_isk ha1 ?_
  refine ar_isk ha2 ?_
  refine ar_isk (ha3 _) ?_
  refine an ?_ ?_
  refine an ?_ ?_
  (show (0:Int)≤(5:Int); omega)
  (show (5:Int) < (↑(16:Nat):Int); omega)
  rotate_left
  exact hW
 ·have hr1:arithF .rem .i64 (IntKind.wrap .i64 n1) 16=some 6:=by rw [hj] at hr1; exact hr1
  have hW:=hW x y (⟨(x.1 / 16777216 % 256),(x.1 / 65536 % 256),(x.1 / 256 % 256),(x.1 % 256),(x.2 / 16777216 % 256),(x.2 / 65536 % 256),((x.2 / 256 % 256)+(1+n2 % 255)) % 256,(x.2 % 256)⟩:Ky) (⟨(sealK a.k (o4 x.1++o4 x.2)).a,(sealK a.k (o4 x.1++o4 x.2)).b,(sealK a.k (o4 x.1++o4 x.2)).c,(sealK a.k (o4 x.1++o4 x.2)).d,(sealK a.k (o4 x.1++o4 x.2)).e,(sealK a.k (o4 x.1++o4 x.2)).f,(sealK a.k (o4 x.1++o4 x.2)).g,(sealK a.k (o4 x.1++o4 x.2)).h⟩:Ky) hxm hym (ok_g (pk8_ok x) (by omega)) (sl8_ok a.k _) (.inl ⟨rfl,[(x.1 / 16777216 % 256),(x.1 / 65536 % 256),(x.1 / 256 % 256),(x.1 % 256),(x.2 / 16777216 % 256),(x.2 / 65536 % 256)],(x.2 / 256 % 256),((x.2 / 256 % 256)+(1+n2 % 255)) % 256,[(x.2 % 256)],rfl,rfl,by omega⟩)
  rw [← blks_xy] at hW
  refine an ?_ ?_
  refine an ?_ ?_
  (show (0:Int)≤(0:Int); omega)
  (show (0:Int) < (↑(3:Nat):Int); omega)
  refine ca rfl ?_
  refine sd ?_
  refine ar_is hr0 ?_
  refine sd ?_
  refine sd ?_
  refine sd ?_
  refine an ?_ ?_
  refine an ?_ ?_
  exact rfl
  refine an ?_ ?_
  exact rfl
  refine an ?_ ?_
  exact rfl
  refine an ?_ ?_
  (show ((0:Nat)+List.length (blks (Ac.k a) (tk8s l))) * (16:Nat)≤(2:Nat) ^ (47:Nat); omega)
  (show (0:Nat)+List.length (blks (Ac.k a) (tk8s l))≤(2:Nat) ^ (47:Nat); omega)
  refine an ?_ ?_
  refine an ?_ ?_
  exact rfl
  refine an ?_ ?_
  exact rfl
  refine an ?_ ?_
  (show (0:Int)≤(↑i:Int); omega)
  (show (↑i:Int) < (↑(List.length (blks (Ac.k a) (tk8s l))):Int); omega)
  refine sd ?_
  refine ca hxa ?_
  refine an ?_ ?_
  refine an ?_ ?_
  exact rfl
  refine an ?_ ?_
  exact rfl
  refine an ?_ ?_
  (show (0:Int)≤(0:Int); omega)
  (show (0:Int) < (↑(List.length (blks (Ac.k a) (tk8s l))):Int); omega)
  refine sd ?_
  refine ca hya ?_
  refine sd ?_
  refine sd ?_
  refine sd ?_
  refine an ?_ ?_
  refine an ?_ ?_
  exact rfl
  refine an ?_ ?_
  exact rfl
  refine an ?_ ?_
  exact rfl
  refine an ?_ ?_
  (show (List.length ([]++blks (Ac.k a) (tk8s l))+((1:Nat)+(1:Nat))) * (16:Nat)≤(2:Nat) ^ (47:Nat); omega)
  (show List.length ([]++blks (Ac.k a) (tk8s l))+((1:Nat)+(1:Nat))≤(2:Nat) ^ (47:Nat); omega)
  refine an ?_ ?_
  refine an ?_ ?_
  exact rfl
  refine an ?_ ?_
  exact rfl
  refine an ?_ ?_
  (show (0:Int)≤(↑i:Int); omega)
  (show (↑i:Int) < (↑(List.length (blks (Ac.k a) (tk8s l))):Int); omega)
  refine sd ?_
  refine ca hxa ?_
  refine an ?_ ?_
  refine an ?_ ?_
  (show (0:Int)≤(1:Int); omega)
  (show (1:Int) < (↑(3:Nat):Int); omega)
  refine ca rfl ?_
  refine ar_is hr1 ?_
  refine an ?_ ?_
  refine an ?_ ?_
  (show (0:Int)≤(6:Int); omega)
  (show (6:Int) < (↑(16:Nat):Int); omega)
  refine an ?_ ?_
  refine an ?_ ?_
  (show (0:Int)≤(2:Int); omega)
  (show (2:Int) < (↑(3:Nat):Int); omega)
  refine ar_isk ha1 ?_
  refine ar_isk ha2 ?_
  refine ar_isk (ha3 _) ?_
  refine an ?_ ?_
  refine an ?_ ?_
  (show (0:Int)≤(6:Int); omega)
  (show (6:Int) < (↑(16:Nat):Int); omega)
  rotate_left
  exact hW
 ·have hr1:arithF .rem .i64 (IntKind.wrap .i64 n1) 16=some 7:=by rw [hj] at hr1; exact hr1
  have hW:=hW x y (⟨(x.1 / 16777216 % 256),(x.1 / 65536 % 256),(x.1 / 256 % 256),(x.1 % 256),(x.2 / 16777216 % 256),(x.2 / 65536 % 256),(x.2 / 256 % 256),((x.2 % 256)+(1+n2 % 255)) % 256⟩:Ky) (⟨(sealK a.k (o4 x.1++o4 x.2)).a,(sealK a.k (o4 x.1++o4 x.2)).b,(sealK a.k (o4 x.1++o4 x.2)).c,(sealK a.k (o4 x.1++o4 x.2)).d,(sealK a.k (o4 x.1++o4 x.2)).e,(sealK a.k (o4 x.1++o4 x.2)).f,(sealK a.k (o4 x.1++o4 x.2)).g,(sealK a.k (o4 x.1++o4 x.2)).h⟩:Ky) hxm hym (ok_h (pk8_ok x) (by omega)) (sl8_ok a.k _) (.inl ⟨rfl,[(x.1 / 16777216 % 256),(x.1 / 65536 % 256),(x.1 / 256 % 256),(x.1 % 256),(x.2 / 16777216 % 256),(x.2 / 65536 % 256),(x.2 / 256 % 256)],(x.2 % 256),((x.2 % 256)+(1+n2 % 255)) % 256,[],rfl,rfl,by omega⟩)
  rw [← blks_xy] at hW
  refine an ?_ ?_
  refine an ?_ ?_
  (show (0:Int)≤(0:Int); omega)
  (show (0:Int) < (↑(3:Nat):Int); omega)
  refine ca rfl ?_
  refine sd ?_
  refine ar_is hr0 ?_
  refine sd ?_
  refine sd ?_
  refine sd ?_
  refine an ?_ ?_
  refine an ?_ ?_
  exact rfl
  refine an ?_ ?_
  exact rfl
  refine an ?_ ?_
  exact rfl
  refine an ?_ ?_
  (show ((0:Nat)+List.length (blks (Ac.k a) (tk8s l))) * (16:Nat)≤(2:Nat) ^ (47:Nat); omega)
  (show (0:Nat)+List.length (blks (Ac.k a) (tk8s l))≤(2:Nat) ^ (47:Nat); omega)
  refine an ?_ ?_
  refine an ?_ ?_
  exact rfl
  refine an ?_ ?_
  exact rfl
  refine an ?_ ?_
  (show (0:Int)≤(↑i:Int); omega)
  (show (↑i:Int) < (↑(List.length (blks (Ac.k a) (tk8s l))):Int); omega)
  refine sd ?_
  refine ca hxa ?_
  refine an ?_ ?_
  refine an ?_ ?_
  exact rfl
  refine an ?_ ?_
  exact rfl
  refine an ?_ ?_
  (show (0:Int)≤(0:Int); omega)
  (show (0:Int) < (↑(List.length (blks (Ac.k a) (tk8s l))):Int); omega)
  refine sd ?_
  refine ca hya ?_
  refine sd ?_
  refine sd ?_
  refine sd ?_
  refine an ?_ ?_
  refine an ?_ ?_
  exact rfl
  refine an ?_ ?_
  exact rfl
  refine an ?_ ?_
  exact rfl
  refine an ?_ ?_
  (show (List.length ([]++blks (Ac.k a) (tk8s l))+((1:Nat)+(1:Nat))) * (16:Nat)≤(2:Nat) ^ (47:Nat); omega)
  (show List.length ([]++blks (Ac.k a) (tk8s l))+((1:Nat)+(1:Nat))≤(2:Nat) ^ (47:Nat); omega)
  refine an ?_ ?_
  refine an ?_ ?_
  exact rfl
  refine an ?_ ?_
  exact rfl
  refine an ?_ ?_
  (show (0:Int)≤(↑i:Int); omega)
  (show (↑i:Int) < (↑(List.length (blks (Ac.k a) (tk8s l))):Int); omega)
  refine sd ?_
  refine ca hxa ?_
  refine an ?_ ?_
  refine an ?_ ?_
  (show (0:Int)≤(1:Int); omega)
  (show (1:Int) < (↑(3:Nat):Int); omega)
  refine ca rfl ?_
  refine ar_is hr1 ?_
  refine an ?_ ?_
  refine an ?_ ?_
  (show (0:Int)≤(7:Int); omega)
  (show (7:Int) < (↑(16:Nat):Int); omega)
  refine an ?_ ?_
  refine an ?_ ?_
  (show (0:Int)≤(2:Int); omega)
  (show (2:Int) < (↑(3:Nat):Int); omega)
  refine ar_isk ha1 ?_
  refine ar_isk ha2 ?_
  refine ar_isk (ha3 _) ?_
  refine an ?_ ?_
  refine an ?_ ?_
  (show (0:Int)≤(7:Int); omega)
  (show (7:Int) < (↑(16:Nat):Int); omega)
  rotate_left
  exact hW
 ·have hr1:arithF .rem .i64 (IntKind.wrap .i64 n1) 16=some 8:=by rw [hj] at hr1; exact hr1
  have hW:=hW x y (⟨(x.1 / 16777216 % 256),(x.1 / 65536 % 256),(x.1 / 256 % 256),(x.1 % 256),(x.2 / 16777216 % 256),(x.2 / 65536 % 256),(x.2 / 256 % 256),(x.2 % 256)⟩:Ky) (⟨((sealK a.k (o4 x.1++o4 x.2)).a+(1+n2 % 255)) % 256,(sealK a.k (o4 x.1++o4 x.2)).b,(sealK a.k (o4 x.1++o4 x.2)).c,(sealK a.k (o4 x.1++o4 x.2)).d,(sealK a.k (o4 x.1++o4 x.2)).e,(sealK a.k (o4 x.1++o4 x.2)).f,(sealK a.k (o4 x.1++o4 x.2)).g,(sealK a.k (o4 x.1++o4 x.2)).h⟩:Ky) hxm hym (pk8_ok x) (ok_a (sl8_ok a.k _) (by omega)) (.inr ⟨rfl,kne_a hd hxs⟩)
  rw [← blks_xy] at hW
  refine an ?_ ?_
  refine an ?_ ?_
  (show (0:Int)≤(0:Int); omega)
  (show (0:Int) < (↑(3:Nat):Int); omega)
  refine ca rfl ?_
  refine sd ?_
  refine ar_is hr0 ?_
  refine sd ?_
  refine sd ?_
  refine sd ?_
  refine an ?_ ?_
  refine an ?_ ?_
  exact rfl
  refine an ?_ ?_
  exact rfl
  refine an ?_ ?_
  exact rfl
  refine an ?_ ?_
  (show ((0:Nat)+List.length (blks (Ac.k a) (tk8s l))) * (16:Nat)≤(2:Nat) ^ (47:Nat); omega)
  (show (0:Nat)+List.length (blks (Ac.k a) (tk8s l))≤(2:Nat) ^ (47:Nat); omega)
  refine an ?_ ?_
  refine an ?_ ?_
  exact rfl
  refine an ?_ ?_
  exact rfl
  refine an ?_ ?_
  (show (0:Int)≤(↑i:Int); omega)
  (show (↑i:Int) < (↑(List.length (blks (Ac.k a) (tk8s l))):Int); omega)
  refine sd ?_
  refine ca hxa ?_
  refine an ?_ ?_
  refine an ?_ ?_
  exact rfl
  refine an ?_ ?_
  exact rfl
  refine an ?_ ?_
  (show (0:Int)≤(0:Int); omega)
  (show (0:Int) < (↑(List.length (blks (Ac.k a) (tk8s l))):Int); omega)
  refine sd ?_
  refine ca hya ?_
  refine sd ?_
  refine sd ?_
  refine sd ?_
  refine an ?_ ?_
  refine an ?_ ?_
  exact rfl
  refine an ?_ ?_
  exact rfl
  refine an ?_ ?_
  exact rfl
  refine an ?_ ?_
  (show (List.length ([]++blks (Ac.k a) (tk8s l))+((1:Nat)+(1:Nat))) * (16:Nat)≤(2:Nat) ^ (47:Nat); omega)
  (show List.length ([]++blks (Ac.k a) (tk8s l))+((1:Nat)+(1:Nat))≤(2:Nat) ^ (47:Nat); omega)
  refine an ?_ ?_
  refine an ?_ ?_
  exact rfl
  refine an ?_ ?_
  exact rfl
  refine an ?_ ?_
  (show (0:Int)≤(↑i:Int); omega)
  (show (↑i:Int) < (↑(List.length (blks (Ac.k a) (tk8s l))):Int); omega)
  refine sd ?_
  refine ca hxa ?_
  refine an ?_ ?_
  refine an ?_ ?_
  (show (0:Int)≤(1:Int); omega)
  (show (1:Int) < (↑(3:Nat):Int); omega)
  refine ca rfl ?_
  refine ar_is hr1 ?_
  refine an ?_ ?_
  refine an ?_ ?_
  (show (0:Int)≤(8:Int); omega)
  (show (8:Int) < (↑(16:Nat):Int); omega)
  refine an ?_ ?_
  refine an ?_ ?_
  (show (0:Int)≤(2:Int); omega)
  (show (2:Int) < (↑(3:Nat):Int); omega)
  refine ar_isk ha1 ?_
  refine ar_isk ha2 ?_
  refine ar_isk (ha3 _) ?_
  refine an ?_ ?_
  refine an ?_ ?_
  (show (0:Int)≤(8:Int); omega)
  (show (8:Int) < (↑(16:Nat):Int); omega)
  rotate_left
  exact hW
 ·have hr1:arithF .rem .i64 (IntKind.wrap .i64 n1) 16=some 9:=by rw [hj] at hr1; exact hr1
  have hW:=hW x y (⟨(x.1 / 16777216 % 256),(x.1 / 65536 % 256),(x.1 / 256 % 256),(x.1 % 256),(x.2 / 16777216 % 256),(x.2 / 65536 % 256),(x.2 / 256 % 256),(x.2 % 256)⟩:Ky) (⟨(sealK a.k (o4 x.1++o4 x.2)).a,((sealK a.k (o4 x.1++o4 x.2)).b+(1+n2 % 255)) % 256,(sealK a.k (o4 x.1++o4 x.2)).c,(sealK a.k (o4 x.1++o4 x.2)).d,(sealK a.k (o4 x.1++o4 x.2)).e,(sealK a.k (o4 x.1++o4 x.2)).f,(sealK a.k (o4 x.1++o4 x.2)).g,(sealK a.k (o4 x.1++o4 x.2)).h⟩:Ky) hxm hym (pk8_ok x) (ok_b (sl8_ok a.k _) (by omega)) (.inr ⟨rfl,kne_b hd hxs⟩)
  rw [← blks_xy] at hW
  refine an ?_ ?_
  refine an ?_ ?_
  (show (0:Int)≤(0:Int); omega)
  (show (0:Int) < (↑(3:Nat):Int); omega)
  refine ca rfl ?_
  refine sd ?_
  refine ar_is hr0 ?_
  refine sd ?_
  refine sd ?_
  refine sd ?_
  refine an ?_ ?_
  refine an ?_ ?_
  exact rfl
  refine an ?_ ?_
  exact rfl
  refine an ?_ ?_
  exact rfl
  refine an ?_ ?_
  (show ((0:Nat)+List.length (blks (Ac.k a) (tk8s l))) * (16:Nat)≤(2:Nat) ^ (47:Nat); omega)
  (show (0:Nat)+List.length (blks (Ac.k a) (tk8s l))≤(2:Nat) ^ (47:Nat); omega)
  refine an ?_ ?_
  refine an ?_ ?_
  exact rfl
  refine an ?_ ?_
  exact rfl
  refine an ?_ ?_
  (show (0:Int)≤(↑i:Int); omega)
  (show (↑i:Int) < (↑(List.length (blks (Ac.k a) (tk8s l))):Int); omega)
  refine sd ?_
  refine ca hxa ?_
  refine an ?_ ?_
  refine an ?_ ?_
  exact rfl
  refine an ?_ ?_
  exact rfl
  refine an ?_ ?_
  (show (0:Int)≤(0:Int); omega)
  (show (0:Int) < (↑(List.length (blks (Ac.k a) (tk8s l))):Int); omega)
  refine sd ?_
  refine ca hya ?_
  refine sd ?_
  refine sd ?_
  refine sd ?_
  refine an ?_ ?_
  refine an ?_ ?_
  exact rfl
  refine an ?_ ?_
  exact rfl
  refine an ?_ ?_
  exact rfl
  refine an ?_ ?_
  (show (List.length ([]++blks (Ac.k a) (tk8s l))+((1:Nat)+(1:Nat))) * (16:Nat)≤(2:Nat) ^ (47:Nat); omega)
  (show List.length ([]++blks (Ac.k a) (tk8s l))+((1:Nat)+(1:Nat))≤(2:Nat) ^ (47:Nat); omega)
  refine an ?_ ?_
  refine an ?_ ?_
  exact rfl
  refine an ?_ ?_
  exact rfl
  refine an ?_ ?_
  (show (0:Int)≤(↑i:Int); omega)
  (show (↑i:Int) < (↑(List.length (blks (Ac.k a) (tk8s l))):Int); omega)
  refine sd ?_
  refine ca hxa ?_
  refine an ?_ ?_
  refine an ?_ ?_
  (show (0:Int)≤(1:Int); omega)
  (show (1:Int) < (↑(3:Nat):Int); omega)
  refine ca rfl ?_
  refine ar_is hr1 ?_
  refine an ?_ ?_
  refine an ?_ ?_
  (show (0:Int)≤(9:Int); omega)
  (show (9:Int) < (↑(16:Nat):Int); omega)
  refine an ?_ ?_
  refine an ?_ ?_
  (show (0:Int)≤(2:Int); omega)
  (show (2:Int) < (↑(3:Nat):Int); omega)
  refine ar_isk ha1 ?_
  refine ar_isk ha2 ?_
  refine ar_isk (ha3 _) ?_
  refine an ?_ ?_
  refine an ?_ ?_
  (show (0:Int)≤(9:Int); omega)
  (show (9:Int) < (↑(16:Nat):Int); omega)
  rotate_left
  exact hW
 ·have hr1:arithF .rem .i64 (IntKind.wrap .i64 n1) 16=some 10:=by rw [hj] at hr1; exact hr1
  have hW:=hW x y (⟨(x.1 / 16777216 % 256),(x.1 / 65536 % 256),(x.1 / 256 % 256),(x.1 % 256),(x.2 / 16777216 % 256),(x.2 / 65536 % 256),(x.2 / 256 % 256),(x.2 % 256)⟩:Ky) (⟨(sealK a.k (o4 x.1++o4 x.2)).a,(sealK a.k (o4 x.1++o4 x.2)).b,((sealK a.k (o4 x.1++o4 x.2)).c+(1+n2 % 255)) % 256,(sealK a.k (o4 x.1++o4 x.2)).d,(sealK a.k (o4 x.1++o4 x.2)).e,(sealK a.k (o4 x.1++o4 x.2)).f,(sealK a.k (o4 x.1++o4 x.2)).g,(sealK a.k (o4 x.1++o4 x.2)).h⟩:Ky) hxm hym (pk8_ok x) (ok_c (sl8_ok a.k _) (by omega)) (.inr ⟨rfl,kne_c hd hxs⟩)
  rw [← blks_xy] at hW
  refine an ?_ ?_
  refine an ?_ ?_
  (show (0:Int)≤(0:Int); omega)
  (show (0:Int) < (↑(3:Nat):Int); omega)
  refine ca rfl ?_
  refine sd ?_
  refine ar_is hr0 ?_
  refine sd ?_
  refine sd ?_
  refine sd ?_
  refine an ?_ ?_
  refine an ?_ ?_
  exact rfl
  refine an ?_ ?_
  exact rfl
  refine an ?_ ?_
  exact rfl
  refine an ?_ ?_
  (show ((0:Nat)+List.length (blks (Ac.k a) (tk8s l))) * (16:Nat)≤(2:Nat) ^ (47:Nat); omega)
  (show (0:Nat)+List.length (blks (Ac.k a) (tk8s l))≤(2:Nat) ^ (47:Nat); omega)
  refine an ?_ ?_
  refine an ?_ ?_
  exact rfl
  refine an ?_ ?_
  exact rfl
  refine an ?_ ?_
  (show (0:Int)≤(↑i:Int); omega)
  (show (↑i:Int) < (↑(List.length (blks (Ac.k a) (tk8s l))):Int); omega)
  refine sd ?_
  refine ca hxa ?_
  refine an ?_ ?_
  refine an ?_ ?_
  exact rfl
  refine an ?_ ?_
  exact rfl
  refine an ?_ ?_
  (show (0:Int)≤(0:Int); omega)
  (show (0:Int) < (↑(List.length (blks (Ac.k a) (tk8s l))):Int); omega)
  refine sd ?_
  refine ca hya ?_
  refine sd ?_
  refine sd ?_
  refine sd ?_
  refine an ?_ ?_
  refine an ?_ ?_
  exact rfl
  refine an ?_ ?_
  exact rfl
  refine an ?_ ?_
  exact rfl
  refine an ?_ ?_
  (show (List.length ([]++blks (Ac.k a) (tk8s l))+((1:Nat)+(1:Nat))) * (16:Nat)≤(2:Nat) ^ (47:Nat); omega)
  (show List.length ([]++blks (Ac.k a) (tk8s l))+((1:Nat)+(1:Nat))≤(2:Nat) ^ (47:Nat); omega)
  refine an ?_ ?_
  refine an ?_ ?_
  exact rfl
  refine an ?_ ?_
  exact rfl
  refine an ?_ ?_
  (show (0:Int)≤(↑i:Int); omega)
  (show (↑i:Int) < (↑(List.length (blks (Ac.k a) (tk8s l))):Int); omega)
  refine sd ?_
  refine ca hxa ?_
  refine an ?_ ?_
  refine an ?_ ?_
  (show (0:Int)≤(1:Int); omega)
  (show (1:Int) < (↑(3:Nat):Int); omega)
  refine ca rfl ?_
  refine ar_is hr1 ?_
  refine an ?_ ?_
  refine an ?_ ?_
  (show (0:Int)≤(10:Int); omega)
  (show (10:Int) < (↑(16:Nat):Int); omega)
  refine an ?_ ?_
  refine an ?_ ?_
  (show (0:Int)≤(2:Int); omega)
  (show (2:Int) < (↑(3:Nat):Int); omega)
  refine ar_isk ha1 ?_
  refine ar_isk ha2 ?_
  refine ar_isk (ha3 _) ?_
  refine an ?_ ?_
  refine an ?_ ?_
  (show (0:Int)≤(10:Int); omega)
  (show (10:Int) < (↑(16:Nat):Int); omega)
  rotate_left
  exact hW
 ·have hr1:arithF .rem .i64 (IntKind.wrap .i64 n1) 16=some 11:=by rw [hj] at hr1; exact hr1
  have hW:=hW x y (⟨(x.1 / 16777216 % 256),(x.1 / 65536 % 256),(x.1 / 256 % 256),(x.1 % 256),(x.2 / 16777216 % 256),(x.2 / 65536 % 256),(x.2 / 256 % 256),(x.2 % 256)⟩:Ky) (⟨(sealK a.k (o4 x.1++o4 x.2)).a,(sealK a.k (o4 x.1++o4 x.2)).b,(sealK a.k (o4 x.1++o4 x.2)).c,((sealK a.k (o4 x.1++o4 x.2)).d+(1+n2 % 255)) % 256,(sealK a.k (o4 x.1++o4 x.2)).e,(sealK a.k (o4 x.1++o4 x.2)).f,(sealK a.k (o4 x.1++o4 x.2)).g,(sealK a.k (o4 x.1++o4 x.2)).h⟩:Ky) hxm hym (pk8_ok x) (ok_d (sl8_ok a.k _) (by omega)) (.inr ⟨rfl,kne_d hd hxs⟩)
  rw [← blks_xy] at hW
  refine an ?_ ?_
  refine an ?_ ?_
  (show (0:Int)≤(0:Int); omega)
  (show (0:Int) < (↑(3:Nat):Int); omega)
  refine ca rfl ?_
  refine sd ?_
  refine ar_is hr0 ?_
  refine sd ?_
  refine sd ?_
  refine sd ?_
  refine an ?_ ?_
  refine an ?_ ?_
  exact rfl
  refine an ?_ ?_
  exact rfl
  refine an ?_ ?_
  exact rfl
  refine an ?_ ?_
  (show ((0:Nat)+List.length (blks (Ac.k a) (tk8s l))) * (16:Nat)≤(2:Nat) ^ (47:Nat); omega)
  (show (0:Nat)+List.length (blks (Ac.k a) (tk8s l))≤(2:Nat) ^ (47:Nat); omega)
  refine an ?_ ?_
  refine an ?_ ?_
  exact rfl
  refine an ?_ ?_
  exact rfl
  refine an ?_ ?_
  (show (0:Int)≤(↑i:Int); omega)
  (show (↑i:Int) < (↑(List.length (blks (Ac.k a) (tk8s l))):Int); omega)
  refine sd ?_
  refine ca hxa ?_
  refine an ?_ ?_
  refine an ?_ ?_
  exact rfl
  refine an ?_ ?_
  exact rfl
  refine an ?_ ?_
  (show (0:Int)≤(0:Int); omega)
  (show (0:Int) < (↑(List.length (blks (Ac.k a) (tk8s l))):Int); omega)
  refine sd ?_
  refine ca hya ?_
  refine sd ?_
  refine sd ?_
  refine sd ?_
  refine an ?_ ?_
  refine an ?_ ?_
  exact rfl
  refine an ?_ ?_
  exact rfl
  refine an ?_ ?_
  exact rfl
  refine an ?_ ?_
  (show (List.length ([]++blks (Ac.k a) (tk8s l))+((1:Nat)+(1:Nat))) * (16:Nat)≤(2:Nat) ^ (47:Nat); omega)
  (show List.length ([]++blks (Ac.k a) (tk8s l))+((1:Nat)+(1:Nat))≤(2:Nat) ^ (47:Nat); omega)
  refine an ?_ ?_
  refine an ?_ ?_
  exact rfl
  refine an ?_ ?_
  exact rfl
  refine an ?_ ?_
  (show (0:Int)≤(↑i:Int); omega)
  (show (↑i:Int) < (↑(List.length (blks (Ac.k a) (tk8s l))):Int); omega)
  refine sd ?_
  refine ca hxa ?_
  refine an ?_ ?_
  refine an ?_ ?_
  (show (0:Int)≤(1:Int); omega)
  (show (1:Int) < (↑(3:Nat):Int); omega)
  refine ca rfl ?_
  refine ar_is hr1 ?_
  refine an ?_ ?_
  refine an ?_ ?_
  (show (0:Int)≤(11:Int); omega)
  (show (11:Int) < (↑(16:Nat):Int); omega)
  refine an ?_ ?_
  refine an ?_ ?_
  (show (0:Int)≤(2:Int); omega)
  (show (2:Int) < (↑(3:Nat):Int); omega)
  refine ar_isk ha1 ?_
  refine ar_isk ha2 ?_
  refine ar_isk (ha3 _) ?_
  refine an ?_ ?_
  refine an ?_ ?_
  (show (0:Int)≤(11:Int); omega)
  (show (11:Int) < (↑(16:Nat):Int); omega)
  rotate_left
  exact hW
 ·have hr1:arithF .rem .i64 (IntKind.wrap .i64 n1) 16=some 12:=by rw [hj] at hr1; exact hr1
  have hW:=hW x y (⟨(x.1 / 16777216 % 256),(x.1 / 65536 % 256),(x.1 / 256 % 256),(x.1 % 256),(x.2 / 16777216 % 256),(x.2 / 65536 % 256),(x.2 / 256 % 256),(x.2 % 256)⟩:Ky) (⟨(sealK a.k (o4 x.1++o4 x.2)).a,(sealK a.k (o4 x.1++o4 x.2)).b,(sealK a.k (o4 x.1++o4 x.2)).c,(sealK a.k (o4 x.1++o4 x.2)).d,((sealK a.k (o4 x.1++o4 x.2)).e+(1+n2 % 255)) % 256,(sealK a.k (o4 x.1++o4 x.2)).f,(sealK a.k (o4 x.1++o4 x.2)).g,(sealK a.k (o4 x.1++o4 x.2)).h⟩:Ky) hxm hym (pk8_ok x) (ok_e (sl8_ok a.k _) (by omega)) (.inr ⟨rfl,kne_e hd hxs⟩)
  rw [← blks_xy] at hW
  refine an ?_ ?_
  refine an ?_ ?_
  (show (0:Int)≤(0:Int); omega)
  (show (0:Int) < (↑(3:Nat):Int); omega)
  refine ca rfl ?_
  refine sd ?_
  refine ar_is hr0 ?_
  refine sd ?_
  refine sd ?_
  refine sd ?_
  refine an ?_ ?_
  refine an ?_ ?_
  exact rfl
  refine an ?_ ?_
  exact rfl
  refine an ?_ ?_
  exact rfl
  refine an ?_ ?_
  (show ((0:Nat)+List.length (blks (Ac.k a) (tk8s l))) * (16:Nat)≤(2:Nat) ^ (47:Nat); omega)
  (show (0:Nat)+List.length (blks (Ac.k a) (tk8s l))≤(2:Nat) ^ (47:Nat); omega)
  refine an ?_ ?_
  refine an ?_ ?_
  exact rfl
  refine an ?_ ?_
  exact rfl
  refine an ?_ ?_
  (show (0:Int)≤(↑i:Int); omega)
  (show (↑i:Int) < (↑(List.length (blks (Ac.k a) (tk8s l))):Int); omega)
  refine sd ?_
  refine ca hxa ?_
  refine an ?_ ?_
  refine an ?_ ?_
  exact rfl
  refine an ?_ ?_
  exact rfl
  refine an ?_ ?_
  (show (0:Int)≤(0:Int); omega)
  (show (0:Int) < (↑(List.length (blks (Ac.k a) (tk8s l))):Int); omega)
  refine sd ?_
  refine ca hya ?_
  refine sd ?_
  refine sd ?_
  refine sd ?_
  refine an ?_ ?_
  refine an ?_ ?_
  exact rfl
  refine an ?_ ?_
  exact rfl
  refine an ?_ ?_
  exact rfl
  refine an ?_ ?_
  (show (List.length ([]++blks (Ac.k a) (tk8s l))+((1:Nat)+(1:Nat))) * (16:Nat)≤(2:Nat) ^ (47:Nat); omega)
  (show List.length ([]++blks (Ac.k a) (tk8s l))+((1:Nat)+(1:Nat))≤(2:Nat) ^ (47:Nat); omega)
  refine an ?_ ?_
  refine an ?_ ?_
  exact rfl
  refine an ?_ ?_
  exact rfl
  refine an ?_ ?_
  (show (0:Int)≤(↑i:Int); omega)
  (show (↑i:Int) < (↑(List.length (blks (Ac.k a) (tk8s l))):Int); omega)
  refine sd ?_
  refine ca hxa ?_
  refine an ?_ ?_
  refine an ?_ ?_
  (show (0:Int)≤(1:Int); omega)
  (show (1:Int) < (↑(3:Nat):Int); omega)
  refine ca rfl ?_
  refine ar_is hr1 ?_
  refine an ?_ ?_
  refine an ?_ ?_
  (show (0:Int)≤(12:Int); omega)
  (show (12:Int) < (↑(16:Nat):Int); omega)
  refine an ?_ ?_
  refine an ?_ ?_
  (show (0:Int)≤(2:Int); omega)
  (show (2:Int) < (↑(3:Nat):Int); omega)
  refine ar_isk ha1 ?_
  refine ar_isk ha2 ?_
  refine ar_isk (ha3 _) ?_
  refine an ?_ ?_
  refine an ?_ ?_
  (show (0:Int)≤(12:Int); omega)
  (show (12:Int) < (↑(16:Nat):Int); omega)
  rotate_left
  exact hW
 ·have hr1:arithF .rem .i64 (IntKind.wrap .i64 n1) 16=some 13:=by rw [hj] at hr1; exact hr1
  have hW:=hW x y (⟨(x.1 / 16777216 % 256),(x.1 / 65536 % 256),(x.1 / 256 % 256),(x.1 % 256),(x.2 / 16777216 % 256),(x.2 / 65536 % 256),(x.2 / 256 % 256),(x.2 % 256)⟩:Ky) (⟨(sealK a.k (o4 x.1++o4 x.2)).a,(sealK a.k (o4 x.1++o4 x.2)).b,(sealK a.k (o4 x.1++o4 x.2)).c,(sealK a.k (o4 x.1++o4 x.2)).d,(sealK a.k (o4 x.1++o4 x.2)).e,((sealK a.k (o4 x.1++o4 x.2)).f+(1+n2 % 255)) % 256,(sealK a.k (o4 x.1++o4 x.2)).g,(sealK a.k (o4 x.1++o4 x.2)).h⟩:Ky) hxm hym (pk8_ok x) (ok_f (sl8_ok a.k _) (by omega)) (.inr ⟨rfl,kne_f hd hxs⟩)
  rw [← blks_xy] at hW
  refine an ?_ ?_
  refine an ?_ ?_
  (show (0:Int)≤(0:Int); omega)
  (show (0:Int) < (↑(3:Nat):Int); omega)
  refine ca rfl ?_
  refine sd ?_
  refine ar_is hr0 ?_
  refine sd ?_
  refine sd ?_
  refine sd ?_
  refine an ?_ ?_
  refine an ?_ ?_
  exact rfl
  refine an ?_ ?_
  exact rfl
  refine an ?_ ?_
  exact rfl
  refine an ?_ ?_
  (show ((0:Nat)+List.length (blks (Ac.k a) (tk8s l))) * (16:Nat)≤(2:Nat) ^ (47:Nat); omega)
  (show (0:Nat)+List.length (blks (Ac.k a) (tk8s l))≤(2:Nat) ^ (47:Nat); omega)
  refine an ?_ ?_
  refine an ?_ ?_
  exact rfl
  refine an ?_ ?_
  exact rfl
  refine an ?_ ?_
  (show (0:Int)≤(↑i:Int); omega)
  (show (↑i:Int) < (↑(List.length (blks (Ac.k a) (tk8s l))):Int); omega)
  refine sd ?_
  refine ca hxa ?_
  refine an ?_ ?_
  refine an ?_ ?_
  exact rfl
  refine an ?_ ?_
  exact rfl
  refine an ?_ ?_
  (show (0:Int)≤(0:Int); omega)
  (show (0:Int) < (↑(List.length (blks (Ac.k a) (tk8s l))):Int); omega)
  refine sd ?_
  refine ca hya ?_
  refine sd ?_
  refine sd ?_
  refine sd ?_
  refine an ?_ ?_
  refine an ?_ ?_
  exact rfl
  refine an ?_ ?_
  exact rfl
  refine an ?_ ?_
  exact rfl
  refine an ?_ ?_
  (show (List.length ([]++blks (Ac.k a) (tk8s l))+((1:Nat)+(1:Nat))) * (16:Nat)≤(2:Nat) ^ (47:Nat); omega)
  (show List.length ([]++blks (Ac.k a) (tk8s l))+((1:Nat)+(1:Nat))≤(2:Nat) ^ (47:Nat); omega)
  refine an ?_ ?_
  refine an ?_ ?_
  exact rfl
  refine an ?_ ?_
  exact rfl
  refine an ?_ ?_
  (show (0:Int)≤(↑i:Int); omega)
  (show (↑i:Int) < (↑(List.length (blks (Ac.k a) (tk8s l))):Int); omega)
  refine sd ?_
  refine ca hxa ?_
  refine an ?_ ?_
  refine an ?_ ?_
  (show (0:Int)≤(1:Int); omega)
  (show (1:Int) < (↑(3:Nat):Int); omega)
  refine ca rfl ?_
  refine ar_is hr1 ?_
  refine an ?_ ?_
  refine an ?_ ?_
  (show (0:Int)≤(13:Int); omega)
  (show (13:Int) < (↑(16:Nat):Int); omega)
  refine an ?_ ?_
  refine an ?_ ?_
  (show (0:Int)≤(2:Int); omega)
  (show (2:Int) < (↑(3:Nat):Int); omega)
  refine ar_isk ha1 ?_
  refine ar_isk ha2 ?_
  refine ar_isk (ha3 _) ?_
  refine an ?_ ?_
  refine an ?_ ?_
  (show (0:Int)≤(13:Int); omega)
  (show (13:Int) < (↑(16:Nat):Int); omega)
  rotate_left
  exact hW
 ·have hr1:arithF .rem .i64 (IntKind.wrap .i64 n1) 16=some 14:=by rw [hj] at hr1; exact hr1
  have hW:=hW x y (⟨(x.1 / 16777216 % 256),(x.1 / 65536 % 256),(x.1 / 256 % 256),(x.1 % 256),(x.2 / 16777216 % 256),(x.2 / 65536 % 256),(x.2 / 256 % 256),(x.2 % 256)⟩:Ky) (⟨(sealK a.k (o4 x.1++o4 x.2)).a,(sealK a.k (o4 x.1++o4 x.2)).b,(sealK a.k (o4 x.1++o4 x.2)).c,(sealK a.k (o4 x.1++o4 x.2)).d,(sealK a.k (o4 x.1++o4 x.2)).e,(sealK a.k (o4 x.1++o4 x.2)).f,((sealK a.k (o4 x.1++o4 x.2)).g+(1+n2 % 255)) % 256,(sealK a.k (o4 x.1++o4 x.2)).h⟩:Ky) hxm hym (pk8_ok x) (ok_g (sl8_ok a.k _) (by omega)) (.inr ⟨rfl,kne_g hd hxs⟩)
  rw [← blks_xy] at hW
  refine an ?_ ?_
  refine an ?_ ?_
  (show (0:Int)≤(0:Int); omega)
  (show (0:Int) < (↑(3:Nat):Int); omega)
  refine ca rfl ?_
  refine sd ?_
  refine ar_is hr0 ?_
  refine sd ?_
  refine sd ?_
  refine sd ?_
  refine an ?_ ?_
  refine an ?_ ?_
  exact rfl
  refine an ?_ ?_
  exact rfl
  refine an ?_ ?_
  exact rfl
  refine an ?_ ?_
  (show ((0:Nat)+List.length (blks (Ac.k a) (tk8s l))) * (16:Nat)≤(2:Nat) ^ (47:Nat); omega)
  (show (0:Nat)+List.length (blks (Ac.k a) (tk8s l))≤(2:Nat) ^ (47:Nat); omega)
  refine an ?_ ?_
  refine an ?_ ?_
  exact rfl
  refine an ?_ ?_
  exact rfl
  refine an ?_ ?_
  (show (0:Int)≤(↑i:Int); omega)
  (show (↑i:Int) < (↑(List.length (blks (Ac.k a) (tk8s l))):Int); omega)
  refine sd ?_
  refine ca hxa ?_
  refine an ?_ ?_
  refine an ?_ ?_
  exact rfl
  refine an ?_ ?_
  exact rfl
  refine an ?_ ?_
  (show (0:Int)≤(0:Int); omega)
  (show (0:Int) < (↑(List.length (blks (Ac.k a) (tk8s l))):Int); omega)
  refine sd ?_
  refine ca hya ?_
  refine sd ?_
  refine sd ?_
  refine sd ?_
  refine an ?_ ?_
  refine an ?_ ?_
  exact rfl
  refine an ?_ ?_
  exact rfl
  refine an ?_ ?_
  exact rfl
  refine an ?_ ?_
  (show (List.length ([]++blks (Ac.k a) (tk8s l))+((1:Nat)+(1:Nat))) * (16:Nat)≤(2:Nat) ^ (47:Nat); omega)
  (show List.length ([]++blks (Ac.k a) (tk8s l))+((1:Nat)+(1:Nat))≤(2:Nat) ^ (47:Nat); omega)
  refine an ?_ ?_
  refine an ?_ ?_
  exact rfl
  refine an ?_ ?_
  exact rfl
  refine an ?_ ?_
  (show (0:Int)≤(↑i:Int); omega)
  (show (↑i:Int) < (↑(List.length (blks (Ac.k a) (tk8s l))):Int); omega)
  refine sd ?_
  refine ca hxa ?_
  refine an ?_ ?_
  refine an ?_ ?_
  (show (0:Int)≤(1:Int); omega)
  (show (1:Int) < (↑(3:Nat):Int); omega)
  refine ca rfl ?_
  refine ar_is hr1 ?_
  refine an ?_ ?_
  refine an ?_ ?_
  (show (0:Int)≤(14:Int); omega)
  (show (14:Int) < (↑(16:Nat):Int); omega)
  refine an ?_ ?_
  refine an ?_ ?_
  (show (0:Int)≤(2:Int); omega)
  (show (2:Int) < (↑(3:Nat):Int); omega)
  refine ar_isk ha1 ?_
  refine ar_isk ha2 ?_
  refine ar_isk (ha3 _) ?_
  refine an ?_ ?_
  refine an ?_ ?_
  (show (0:Int)≤(14:Int); omega)
  (show (14:Int) < (↑(16:Nat):Int); omega)
  rotate_left
  exact hW
 ·have hr1:arithF .rem .i64 (IntKind.wrap .i64 n1) 16=some 15:=by rw [hj] at hr1; exact hr1
  have hW:=hW x y (⟨(x.1 / 16777216 % 256),(x.1 / 65536 % 256),(x.1 / 256 % 256),(x.1 % 256),(x.2 / 16777216 % 256),(x.2 / 65536 % 256),(x.2 / 256 % 256),(x.2 % 256)⟩:Ky) (⟨(sealK a.k (o4 x.1++o4 x.2)).a,(sealK a.k (o4 x.1++o4 x.2)).b,(sealK a.k (o4 x.1++o4 x.2)).c,(sealK a.k (o4 x.1++o4 x.2)).d,(sealK a.k (o4 x.1++o4 x.2)).e,(sealK a.k (o4 x.1++o4 x.2)).f,(sealK a.k (o4 x.1++o4 x.2)).g,((sealK a.k (o4 x.1++o4 x.2)).h+(1+n2 % 255)) % 256⟩:Ky) hxm hym (pk8_ok x) (ok_h (sl8_ok a.k _) (by omega)) (.inr ⟨rfl,kne_h hd hxs⟩)
  rw [← blks_xy] at hW
  refine an ?_ ?_
  refine an ?_ ?_
  (show (0:Int)≤(0:Int); omega)
  (show (0:Int) < (↑(3:Nat):Int); omega)
  refine ca rfl ?_
  refine sd ?_
  refine ar_is hr0 ?_
  refine sd ?_
  refine sd ?_
  refine sd ?_
  refine an ?_ ?_
  refine an ?_ ?_
  exact rfl
  refine an ?_ ?_
  exact rfl
  refine an ?_ ?_
  exact rfl
  refine an ?_ ?_
  (show ((0:Nat)+List.length (blks (Ac.k a) (tk8s l))) * (16:Nat)≤(2:Nat) ^ (47:Nat); omega)
  (show (0:Nat)+List.length (blks (Ac.k a) (tk8s l))≤(2:Nat) ^ (47:Nat); omega)
  refine an ?_ ?_
  refine an ?_ ?_
  exact rfl
  refine an ?_ ?_
  exact rfl
  refine an ?_ ?_
  (show (0:Int)≤(↑i:Int); omega)
  (show (↑i:Int) < (↑(List.length (blks (Ac.k a) (tk8s l))):Int); omega)
  refine sd ?_
  refine ca hxa ?_
  refine an ?_ ?_
  refine an ?_ ?_
  exact rfl
  refine an ?_ ?_
  exact rfl
  refine an ?_ ?_
  (show (0:Int)≤(0:Int); omega)
  (show (0:Int) < (↑(List.length (blks (Ac.k a) (tk8s l))):Int); omega)
  refine sd ?_
  refine ca hya ?_
  refine sd ?_
  refine sd ?_
  refine sd ?_
  refine an ?_ ?_
  refine an ?_ ?_
  exact rfl
  refine an ?_ ?_
  exact rfl
  refine an ?_ ?_
  exact rfl
  refine an ?_ ?_
  (show (List.length ([]++blks (Ac.k a) (tk8s l))+((1:Nat)+(1:Nat))) * (16:Nat)≤(2:Nat) ^ (47:Nat); omega)
  (show List.length ([]++blks (Ac.k a) (tk8s l))+((1:Nat)+(1:Nat))≤(2:Nat) ^ (47:Nat); omega)
  refine an ?_ ?_
  refine an ?_ ?_
  exact rfl
  refine an ?_ ?_
  exact rfl
  refine an ?_ ?_
  (show (0:Int)≤(↑i:Int); omega)
  (show (↑i:Int) < (↑(List.length (blks (Ac.k a) (tk8s l))):Int); omega)
  refine sd ?_
  refine ca hxa ?_
  refine an ?_ ?_
  refine an ?_ ?_
  (show (0:Int)≤(1:Int); omega)
  (show (1:Int) < (↑(3:Nat):Int); omega)
  refine ca rfl ?_
  refine ar_is hr1 ?_
  refine an ?_ ?_
  refine an ?_ ?_
  (show (0:Int)≤(15:Int); omega)
  (show (15:Int) < (↑(16:Nat):Int); omega)
  refine an ?_ ?_
  refine an ?_ ?_
  (show (0:Int)≤(2:Int); omega)
  (show (2:Int) < (↑(3:Nat):Int); omega)
  refine ar_isk ha1 ?_
  refine ar_isk ha2 ?_
  refine ar_isk (ha3 _) ?_
  refine an ?_ ?_
  refine an ?_ ?_
  (show (0:Int)≤(15:Int); omega)
  (show (15:Int) < (↑(16:Nat):Int); omega)
  rotate_left
  exact hW
end Vc
