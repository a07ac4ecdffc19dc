import Derived.Test.YtokkgdokamjnaaaGreatG20
set_option linter.unusedSectionVars false
set_option linter.unusedVariables false
set_option linter.unusedSimpArgs false
set_option maxRecDepth 10000
set_option maxHeartbeats 4000000
namespace Vc
open Go Go.Proofs
theorem v3b {m:Ms} {H:List L.Hr} {xs:List (Int × Int)} {n0 n1 n2 T0 la f0:Int} {mi T F:Nat} {Q:AExit→St→Prop} (hc:m.chk=0) (hn1:1≤m.ns.length) (hn7:m.ns.length≤7) (hl14:m.ls.length≤14) (hb0:0≤n0∧n0≤255) (hb1:0≤n1∧n1≤255) (hxl:xs.length≤6) (hm:mi < m.ns.length) (hT:T≤1000000) (hQ:∀ (w0 w1 t0 t1:Int),-1≤w0∧w0 < m.ns.length→-1≤w1∧w1 < m.ns.length→t0=(bif decide (0≤w0) then (T:Int)+100 * ((((strs m.ns).length:Nat):Int) * 0+w0) else -1)→t1=(bif decide (0≤w1) then (T:Int)+100 * ((((strs m.ns).length:Nat):Int) * 1+w1) else -1)→∀ z:Bool,Q (.exit 2) ⟨[(1,.d (.slice 9 (L.hrs H))),(3,.ptr 0 0),(5,.ptr 1 0),(7,.d (.int .i64 (((strs m.ns).length:Nat):Int))),(8,.d (.int .i64 ((mi:Nat):Int))),(9,.d (.int .i64 ((T:Nat):Int))),(10,.d (.int .i64 ((F:Nat):Int))),(11,.sl 4 (prs (loP (((strs m.ns).length:Nat):Int) xs)).length),(14,.ptr 5 0),(15,.ptr 6 0),(104,.d (.int .i64 (2))),(105,.d (.bool z))],[.cbox [.slice 1 (strs m.ns),.slice 3 (lks m.ls)],.cbox [.int .u8 n0,.int .u8 n1,.int .u8 n2,.int .u32 T0,.int .u16 la,.int .u16 f0,.slice 2 (lo8 xs)],.none,.none,.row 38 2 (prs (loP (((strs m.ns).length:Nat):Int) xs)) false,.box [.d (.bool true),.d (.bool false),.d (.slice 2 ([]))],.box [.d (.int .i64 (t0)),.d (.int .i64 (t1))],.none,.none,.none,.none,.none,.none,.none,.none,.none,.none,.none,.none,.none,.none]⟩):vc Tryz.prog 340 seg3b ⟨[(1,.d (.slice 9 (L.hrs H))),(3,.ptr 0 0),(5,.ptr 1 0),(7,.d (.int .i64 (((strs m.ns).length:Nat):Int))),(8,.d (.int .i64 ((mi:Nat):Int))),(9,.d (.int .i64 ((T:Nat):Int))),(10,.d (.int .i64 ((F:Nat):Int))),(11,.sl 4 (prs (loP (((strs m.ns).length:Nat):Int) xs)).length),(14,.ptr 5 0),(15,.ptr 6 0),(104,.d (.int .i64 (0)))],[.cbox [.slice 1 (strs m.ns),.slice 3 (lks m.ls)],.cbox [.int .u8 n0,.int .u8 n1,.int .u8 n2,.int .u32 T0,.int .u16 la,.int .u16 f0,.slice 2 (lo8 xs)],.none,.none,.row 38 2 (prs (loP (((strs m.ns).length:Nat):Int) xs)) false,.box [.d (.bool true),.d (.bool false),.d (.slice 2 ([]))],.box [.d (.int .i64 (-1)),.d (.int .i64 (-1))],.none,.none,.none,.none,.none,.none,.none,.none,.none,.none,.none,.none,.none,.none]⟩ Q:=by
 unfold seg3b
 have hsl:=strs_len m.ns
 have c8_:=c18 m (by omega) (by omega)
 obtain ⟨i0,hr0,hi0⟩:=rem_i (a:=IntKind.wrap .i64 n0) (b:=(strs m.ns).length) (by rw [wru (by omega) (by omega)]; omega) (by omega)
 rw [hsl] at hi0
 obtain ⟨hE0,hl0,w0,hx0,hlo0,hhi0⟩:=fl_at (P:=loP (((strs m.ns).length:Nat):Int) xs) (f:=i0) (mi:=mi) hc (loP_E hn1 hxl) hi0 hm
 have c7_0:=c40 m (i0:Int) (loP (((strs m.ns).length:Nat):Int) xs) (by omega) (by omega) (by rw [loP_len]; omega)
 rw [hE0] at c7_0
 obtain ⟨i1,hr1,hi1⟩:=rem_i (a:=IntKind.wrap .i64 n1) (b:=(strs m.ns).length) (by rw [wru (by omega) (by omega)]; omega) (by omega)
 rw [hsl] at hi1
 obtain ⟨hE1,hl1,w1,hx1,hlo1,hhi1⟩:=fl_at (P:=loP (((strs m.ns).length:Nat):Int) xs) (f:=i1) (mi:=mi) hc (loP_E hn1 hxl) hi1 hm
 have c7_1:=c40 m (i1:Int) (loP (((strs m.ns).length:Nat):Int) xs) (by omega) (by omega) (by rw [loP_len]; omega)
 rw [hE1] at c7_1
 obtain ⟨t0,ht0⟩:∃ t0:Int,t0=(bif decide (0≤w0) then (T:Int)+100 * ((((strs m.ns).length:Nat):Int) * 0+w0) else -1):=⟨_,rfl⟩
 obtain ⟨t1,ht1⟩:∃ t1:Int,t1=(bif decide (0≤w1) then (T:Int)+100 * ((((strs m.ns).length:Nat):Int) * 1+w1) else -1):=⟨_,rfl⟩
 have hQ:=hQ w0 w1 t0 t1 ⟨hlo0,hhi0⟩ ⟨hlo1,hhi1⟩ ht0 ht1
 have hpl:=loP_len (((strs m.ns).length:Nat):Int) xs
 have hprl:=prs_len (loP (((strs m.ns).length:Nat):Int) xs)
 refine loop_st (fun i:Nat=>⟨[(1,.d (.slice 9 (L.hrs H))),(3,.ptr 0 0),(5,.ptr 1 0),(7,.d (.int .i64 (((strs m.ns).length:Nat):Int))),(8,.d (.int .i64 ((mi:Nat):Int))),(9,.d (.int .i64 ((T:Nat):Int))),(10,.d (.int .i64 ((F:Nat):Int))),(11,.sl 4 (prs (loP (((strs m.ns).length:Nat):Int) xs)).length),(14,.ptr 5 0),(15,.ptr 6 0),(104,.d (.int .i64 (((i:Nat):Int))))],[.cbox [.slice 1 (strs m.ns),.slice 3 (lks m.ls)],.cbox [.int .u8 n0,.int .u8 n1,.int .u8 n2,.int .u32 T0,.int .u16 la,.int .u16 f0,.slice 2 (lo8 xs)],.none,.none,.row 38 2 (prs (loP (((strs m.ns).length:Nat):Int) xs)) false,.box [.d (.bool true),.d (.bool false),.d (.slice 2 ([]))],.box [.d (.int .i64 (fO (-1) t0 t0 i)),.d (.int .i64 (fO (-1) (-1) t1 i))],.none,.none,.none,.none,.none,.none,.none,.none,.none,.none,.none,.none,.none,.none]⟩) (fun i=>i≤2) (fun i=>2 - i) 0 rfl (by decide) ?_
 intro i hi
 have hi:i≤2:=hi
 match i,hi with
 | 0,_ =>
  dsimp only [fO]
  by_cases hw:0≤w0
  ·have e:(T:Int)+100 * ((((strs m.ns).length:Nat):Int) * 0+w0)=t0:=by rw [ht0,decide_eq_true hw]; rfl
   have fin:∃ a':Nat,(a'≤2∧2 - a' < 2 - 0)∧(⟨[(1,.d (.slice 9 (L.hrs H))),(3,.ptr 0 0),(5,.ptr 1 0),(7,.d (.int .i64 (((strs m.ns).length:Nat):Int))),(8,.d (.int .i64 ((mi:Nat):Int))),(9,.d (.int .i64 ((T:Nat):Int))),(10,.d (.int .i64 ((F:Nat):Int))),(11,.sl 4 (prs (loP (((strs m.ns).length:Nat):Int) xs)).length),(14,.ptr 5 0),(15,.ptr 6 0),(104,.d (.int .i64 (0+1)))],[.cbox [.slice 1 (strs m.ns),.slice 3 (lks m.ls)],.cbox [.int .u8 n0,.int .u8 n1,.int .u8 n2,.int .u32 T0,.int .u16 la,.int .u16 f0,.slice 2 (lo8 xs)],.none,.none,.row 38 2 (prs (loP (((strs m.ns).length:Nat):Int) xs)) false,.box [.d (.bool true),.d (.bool false),.d (.slice 2 ([]))],.box [.d (.int .i64 ((T:Int)+100 * ((((strs m.ns).length:Nat):Int) * 0+w0))),.d (.int .i64 ((-1)))],.none,.none,.none,.none,.none,.none,.none,.none,.none,.none,.none,.none,.none,.none]⟩:St)=⟨[(1,.d (.slice 9 (L.hrs H))),(3,.ptr 0 0),(5,.ptr 1 0),(7,.d (.int .i64 (((strs m.ns).length:Nat):Int))),(8,.d (.int .i64 ((mi:Nat):Int))),(9,.d (.int .i64 ((T:Nat):Int))),(10,.d (.int .i64 ((F:Nat):Int))),(11,.sl 4 (prs (loP (((strs m.ns).length:Nat):Int) xs)).length),(14,.ptr 5 0),(15,.ptr 6 0),(104,.d (.int .i64 (((a':Nat):Int))))],[.cbox [.slice 1 (strs m.ns),.slice 3 (lks m.ls)],.cbox [.int .u8 n0,.int .u8 n1,.int .u8 n2,.int .u32 T0,.int .u16 la,.int .u16 f0,.slice 2 (lo8 xs)],.none,.none,.row 38 2 (prs (loP (((strs m.ns).length:Nat):Int) xs)) false,.box [.d (.bool true),.d (.bool false),.d (.slice 2 ([]))],.box [.d (.int .i64 (fO (-1) t0 t0 a')),.d (.int .i64 (fO (-1) (-1) t1 a'))],.none,.none,.none,.none,.none,.none,.none,.none,.none,.none,.none,.none,.none,.none]⟩:=⟨1,⟨by decide,by decide⟩,by rw [e]; rfl⟩
   refine sd ?_
   refine ca c8_ ?_
   refine an ?_ ?_
   refine an ?_ ?_
   (show (0:Int)≤(↑(0:Nat):Int); omega)
   (show (↑(0:Nat):Int) < (↑(3:Nat):Int); omega)
   refine ca rfl ?_
   refine ar_is hr0 ?_
   refine sd ?_
   refine sd ?_
   refine sd ?_
   refine an ?_ ?_
   refine an ?_ ?_
   exact rfl
   refine an ?_ ?_
   exact rfl
   refine an ?_ ?_
   exact rfl
   refine an ?_ ?_
   (show ((0:Nat)+List.length (prs (loP (↑(List.length (strs (Ms.ns m))):Int) xs))) * (16:Nat)≤(2:Nat) ^ (47:Nat); omega)
   (show (0:Nat)+List.length (prs (loP (↑(List.length (strs (Ms.ns m))):Int) xs))≤(2:Nat) ^ (47:Nat); omega)
   refine sd ?_
   refine ca c7_0 ?_
   refine sd ?_
   refine sd ?_
   refine b_ne (fun t2=>?_) (fun t2=>?_)
   (exfalso; omega)
   refine ix_at hx0 ?_ ?_
   (show (0:Int)≤(↑mi:Int); omega)
   refine sd ?_
   refine b_lt (fun t3=>?_) (fun t3=>?_)
   (exfalso; omega)
   refine ix_at hx0 ?_ ?_
   (show (0:Int)≤(↑mi:Int); omega)
   refine sd ?_
   refine b_le (fun t4=>?_) (fun t4=>?_)
   (exfalso; omega)
   refine ix_at hx0 ?_ ?_
   (show (0:Int)≤(↑mi:Int); omega)
   refine sd ?_
   refine b_le (fun t5=>?_) (fun t5=>?_)
   refine ar_mul ?_ ?_
   refine an ?_ ?_
   (show (-9223372036854775808:Int)≤(↑(List.length (strs (Ms.ns m))):Int) * (↑(0:Nat):Int); omega)
   (show (↑(List.length (strs (Ms.ns m))):Int) * (↑(0:Nat):Int)≤(9223372036854775807:Int); omega)
   refine ix_at hx0 ?_ ?_
   (show (0:Int)≤(↑mi:Int); omega)
   refine ar_add ?_ ?_
   refine an ?_ ?_
   (show (-9223372036854775808:Int)≤(↑(List.length (strs (Ms.ns m))):Int) * (↑(0:Nat):Int)+w0; omega)
   (show (↑(List.length (strs (Ms.ns m))):Int) * (↑(0:Nat):Int)+w0≤(9223372036854775807:Int); omega)
   refine ar_mul ?_ ?_
   refine an ?_ ?_
   (show (-9223372036854775808:Int)≤(100:Int) * ((↑(List.length (strs (Ms.ns m))):Int) * (↑(0:Nat):Int)+w0); omega)
   (show (100:Int) * ((↑(List.length (strs (Ms.ns m))):Int) * (↑(0:Nat):Int)+w0)≤(9223372036854775807:Int); omega)
   refine ar_add ?_ ?_
   refine an ?_ ?_
   (show (-9223372036854775808:Int)≤(↑T:Int)+(100:Int) * ((↑(List.length (strs (Ms.ns m))):Int) * (↑(0:Nat):Int)+w0); omega)
   (show (↑T:Int)+(100:Int) * ((↑(List.length (strs (Ms.ns m))):Int) * (↑(0:Nat):Int)+w0)≤(9223372036854775807:Int); omega)
   refine an ?_ ?_
   refine an ?_ ?_
   (show (0:Int)≤(↑(0:Nat):Int); omega)
   (show (↑(0:Nat):Int) < (↑(2:Nat):Int); omega)
   refine ar_add ?_ ?_
   refine an ?_ ?_
   (show (-9223372036854775808:Int)≤(↑(0:Nat):Int)+(1:Int); omega)
   (show (↑(0:Nat):Int)+(1:Int)≤(9223372036854775807:Int); omega)
   rotate_left
   (exfalso; omega)
   all_goals exact fin
  ·have e:t0=-1:=by rw [ht0,decide_eq_false hw]; rfl
   have fin:∃ a':Nat,(a'≤2∧2 - a' < 2 - 0)∧(⟨[(1,.d (.slice 9 (L.hrs H))),(3,.ptr 0 0),(5,.ptr 1 0),(7,.d (.int .i64 (((strs m.ns).length:Nat):Int))),(8,.d (.int .i64 ((mi:Nat):Int))),(9,.d (.int .i64 ((T:Nat):Int))),(10,.d (.int .i64 ((F:Nat):Int))),(11,.sl 4 (prs (loP (((strs m.ns).length:Nat):Int) xs)).length),(14,.ptr 5 0),(15,.ptr 6 0),(104,.d (.int .i64 (0+1)))],[.cbox [.slice 1 (strs m.ns),.slice 3 (lks m.ls)],.cbox [.int .u8 n0,.int .u8 n1,.int .u8 n2,.int .u32 T0,.int .u16 la,.int .u16 f0,.slice 2 (lo8 xs)],.none,.none,.row 38 2 (prs (loP (((strs m.ns).length:Nat):Int) xs)) false,.box [.d (.bool true),.d (.bool false),.d (.slice 2 ([]))],.box [.d (.int .i64 ((-1))),.d (.int .i64 ((-1)))],.none,.none,.none,.none,.none,.none,.none,.none,.none,.none,.none,.none,.none,.none]⟩:St)=⟨[(1,.d (.slice 9 (L.hrs H))),(3,.ptr 0 0),(5,.ptr 1 0),(7,.d (.int .i64 (((strs m.ns).length:Nat):Int))),(8,.d (.int .i64 ((mi:Nat):Int))),(9,.d (.int .i64 ((T:Nat):Int))),(10,.d (.int .i64 ((F:Nat):Int))),(11,.sl 4 (prs (loP (((strs m.ns).length:Nat):Int) xs)).length),(14,.ptr 5 0),(15,.ptr 6 0),(104,.d (.int .i64 (((a':Nat):Int))))],[.cbox [.slice 1 (strs m.ns),.slice 3 (lks m.ls)],.cbox [.int .u8 n0,.int .u8 n1,.int .u8 n2,.int .u32 T0,.int .u16 la,.int .u16 f0,.slice 2 (lo8 xs)],.none,.none,.row 38 2 (prs (loP (((strs m.ns).length:Nat):Int) xs)) false,.box [.d (.bool true),.d (.bool false),.d (.slice 2 ([]))],.box [.d (.int .i64 (fO (-1) t0 t0 a')),.d (.int .i64 (fO (-1) (-1) t1 a'))],.none,.none,.none,.none,.none,.none,.none,.none,.none,.none,.none,.none,.none,.none]⟩:=⟨1,⟨by decide,by decide⟩,by rw [e]; rfl⟩
   refine sd ?_
   refine ca c8_ ?_
   refine an ?_ ?_
   refine an ?_ ?_
   (show (0:Int)≤(↑(0:Nat):Int); omega)
   (show (↑(0:Nat):Int) < (↑(3:Nat):Int); omega)
   refine ca rfl ?_
   refine ar_is hr0 ?_
   refine sd ?_
   refine sd ?_
   refine sd ?_
   refine an ?_ ?_
   refine an ?_ ?_
   exact rfl
   refine an ?_ ?_
   exact rfl
   refine an ?_ ?_
   exact rfl
   refine an ?_ ?_
   (show ((0:Nat)+List.length (prs (loP (↑(List.length (strs (Ms.ns m))):Int) xs))) * (16:Nat)≤(2:Nat) ^ (47:Nat); omega)
   (show (0:Nat)+List.length (prs (loP (↑(List.length (strs (Ms.ns m))):Int) xs))≤(2:Nat) ^ (47:Nat); omega)
   refine sd ?_
   refine ca c7_0 ?_
   refine sd ?_
   refine sd ?_
   refine b_ne (fun t2=>?_) (fun t2=>?_)
   (exfalso; omega)
   refine ix_at hx0 ?_ ?_
   (show (0:Int)≤(↑mi:Int); omega)
   refine sd ?_
   refine b_lt (fun t3=>?_) (fun t3=>?_)
   (exfalso; omega)
   refine ix_at hx0 ?_ ?_
   (show (0:Int)≤(↑mi:Int); omega)
   refine sd ?_
   refine b_le (fun t4=>?_) (fun t4=>?_)
   (exfalso; omega)
   refine ix_at hx0 ?_ ?_
   (show (0:Int)≤(↑mi:Int); omega)
   refine sd ?_
   refine b_le (fun t5=>?_) (fun t5=>?_)
   (exfalso; omega)
   refine ar_add ?_ ?_
   refine an ?_ ?_
   (show (-9223372036854775808:Int)≤(↑(0:Nat):Int)+(1:Int); omega)
   (show (↑(0:Nat):Int)+(1:Int)≤(9223372036854775807:Int); omega)
   rotate_left
   all_goals exact fin
 | 1,_ =>
  dsimp only [fO]
  by_cases hw:0≤w1
  ·have e:(T:Int)+100 * ((((strs m.ns).length:Nat):Int) * 1+w1)=t1:=by rw [ht1,decide_eq_true hw]; rfl
   have fin:∃ a':Nat,(a'≤2∧2 - a' < 2 - 1)∧(⟨[(1,.d (.slice 9 (L.hrs H))),(3,.ptr 0 0),(5,.ptr 1 0),(7,.d (.int .i64 (((strs m.ns).length:Nat):Int))),(8,.d (.int .i64 ((mi:Nat):Int))),(9,.d (.int .i64 ((T:Nat):Int))),(10,.d (.int .i64 ((F:Nat):Int))),(11,.sl 4 (prs (loP (((strs m.ns).length:Nat):Int) xs)).length),(14,.ptr 5 0),(15,.ptr 6 0),(104,.d (.int .i64 (1+1)))],[.cbox [.slice 1 (strs m.ns),.slice 3 (lks m.ls)],.cbox [.int .u8 n0,.int .u8 n1,.int .u8 n2,.int .u32 T0,.int .u16 la,.int .u16 f0,.slice 2 (lo8 xs)],.none,.none,.row 38 2 (prs (loP (((strs m.ns).length:Nat):Int) xs)) false,.box [.d (.bool true),.d (.bool false),.d (.slice 2 ([]))],.box [.d (.int .i64 (t0)),.d (.int .i64 ((T:Int)+100 * ((((strs m.ns).length:Nat):Int) * 1+w1)))],.none,.none,.none,.none,.none,.none,.none,.none,.none,.none,.none,.none,.none,.none]⟩:St)=⟨[(1,.d (.slice 9 (L.hrs H))),(3,.ptr 0 0),(5,.ptr 1 0),(7,.d (.int .i64 (((strs m.ns).length:Nat):Int))),(8,.d (.int .i64 ((mi:Nat):Int))),(9,.d (.int .i64 ((T:Nat):Int))),(10,.d (.int .i64 ((F:Nat):Int))),(11,.sl 4 (prs (loP (((strs m.ns).length:Nat):Int) xs)).length),(14,.ptr 5 0),(15,.ptr 6 0),(104,.d (.int .i64 (((a':Nat):Int))))],[.cbox [.slice 1 (strs m.ns),.slice 3 (lks m.ls)],.cbox [.int .u8 n0,.int .u8 n1,.int .u8 n2,.int .u32 T0,.int .u16 la,.int .u16 f0,.slice 2 (lo8 xs)],.none,.none,.row 38 2 (prs (loP (((strs m.ns).length:Nat):Int) xs)) false,.box [.d (.bool true),.d (.bool false),.d (.slice 2 ([]))],.box [.d (.int .i64 (fO (-1) t0 t0 a')),.d (.int .i64 (fO (-1) (-1) t1 a'))],.none,.none,.none,.none,.none,.none,.none,.none,.none,.none,.none,.none,.none,.none]⟩:=⟨2,⟨by decide,by decide⟩,by rw [e]; rfl⟩
   refine sd ?_
   refine ca c8_ ?_
   refine an ?_ ?_
   refine an ?_ ?_
   (show (0:Int)≤(↑(1:Nat):Int); omega)
   (show (↑(1:Nat):Int) < (↑(3:Nat):Int); omega)
   refine ca rfl ?_
   refine ar_is hr1 ?_
   refine sd ?_
   refine sd ?_
   refine sd ?_
   refine an ?_ ?_
   refine an ?_ ?_
   exact rfl
   refine an ?_ ?_
   exact rfl
   refine an ?_ ?_
   exact rfl
   refine an ?_ ?_
   (show ((0:Nat)+List.length (prs (loP (↑(List.length (strs (Ms.ns m))):Int) xs))) * (16:Nat)≤(2:Nat) ^ (47:Nat); omega)
   (show (0:Nat)+List.length (prs (loP (↑(List.length (strs (Ms.ns m))):Int) xs))≤(2:Nat) ^ (47:Nat); omega)
   refine sd ?_
   refine ca c7_1 ?_
   refine sd ?_
   refine sd ?_
   refine b_ne (fun t2=>?_) (fun t2=>?_)
   (exfalso; omega)
   refine ix_at hx1 ?_ ?_
   (show (0:Int)≤(↑mi:Int); omega)
   refine sd ?_
   refine b_lt (fun t3=>?_) (fun t3=>?_)
   (exfalso; omega)
   refine ix_at hx1 ?_ ?_
   (show (0:Int)≤(↑mi:Int); omega)
   refine sd ?_
   refine b_le (fun t4=>?_) (fun t4=>?_)
   (exfalso; omega)
   refine ix_at hx1 ?_ ?_
   (show (0:Int)≤(↑mi:Int); omega)
   refine sd ?_
   refine b_le (fun t5=>?_) (fun t5=>?_)
   refine ar_mul ?_ ?_
   refine an ?_ ?_
   (show (-9223372036854775808:Int)≤(↑(List.length (strs (Ms.ns m))):Int) * (↑(1:Nat):Int); omega)
   (show (↑(List.length (strs (Ms.ns m))):Int) * (↑(1:Nat):Int)≤(9223372036854775807:Int); omega)
   refine ix_at hx1 ?_ ?_
   (show (0:Int)≤(↑mi:Int); omega)
   refine ar_add ?_ ?_
   refine an ?_ ?_
   (show (-9223372036854775808:Int)≤(↑(List.length (strs (Ms.ns m))):Int) * (↑(1:Nat):Int)+w1; omega)
   (show (↑(List.length (strs (Ms.ns m))):Int) * (↑(1:Nat):Int)+w1≤(9223372036854775807:Int); omega)
   refine ar_mul ?_ ?_
   refine an ?_ ?_
   (show (-9223372036854775808:Int)≤(100:Int) * ((↑(List.length (strs (Ms.ns m))):Int) * (↑(1:Nat):Int)+w1); omega)
   (show (100:Int) * ((↑(List.length (strs (Ms.ns m))):Int) * (↑(1:Nat):Int)+w1)≤(9223372036854775807:Int); omega)
   refine ar_add ?_ ?_
   refine an ?_ ?_
   (show (-9223372036854775808:Int)≤(↑T:Int)+(100:Int) * ((↑(List.length (strs (Ms.ns m))):Int) * (↑(1:Nat):Int)+w1); omega)
   (show (↑T:Int)+(100:Int) * ((↑(List.length (strs (Ms.ns m))):Int) * (↑(1:Nat):Int)+w1)≤(9223372036854775807:Int); omega)
   refine an ?_ ?_
   refine an ?_ ?_
   (show (0:Int)≤(↑(1:Nat):Int); omega)
   (show (↑(1:Nat):Int) < (↑(2:Nat):Int); omega)
   refine ar_add ?_ ?_
   refine an ?_ ?_
   (show (-9223372036854775808:Int)≤(↑(1:Nat):Int)+(1:Int); omega)
   (show (↑(1:Nat):Int)+(1:Int)≤(9223372036854775807:Int); omega)
   rotate_left
   (exfalso; omega)
   all_goals exact fin
  ·have e:t1=-1:=by rw [ht1,decide_eq_false hw]; rfl
   have fin:∃ a':Nat,(a'≤2∧2 - a' < 2 - 1)∧(⟨[(1,.d (.slice 9 (L.hrs H))),(3,.ptr 0 0),(5,.ptr 1 0),(7,.d (.int .i64 (((strs m.ns).length:Nat):Int))),(8,.d (.int .i64 ((mi:Nat):Int))),(9,.d (.int .i64 ((T:Nat):Int))),(10,.d (.int .i64 ((F:Nat):Int))),(11,.sl 4 (prs (loP (((strs m.ns).length:Nat):Int) xs)).length),(14,.ptr 5 0),(15,.ptr 6 0),(104,.d (.int .i64 (1+1)))],[.cbox [.slice 1 (strs m.ns),.slice 3 (lks m.ls)],.cbox [.int .u8 n0,.int .u8 n1,.int .u8 n2,.int .u32 T0,.int .u16 la,.int .u16 f0,.slice 2 (lo8 xs)],.none,.none,.row 38 2 (prs (loP (((strs m.ns).length:Nat):Int) xs)) false,.box [.d (.bool true),.d (.bool false),.d (.slice 2 ([]))],.box [.d (.int .i64 (t0)),.d (.int .i64 ((-1)))],.none,.none,.none,.none,.none,.none,.none,.none,.none,.none,.none,.none,.none,.none]⟩:St)=⟨[(1,.d (.slice 9 (L.hrs H))),(3,.ptr 0 0),(5,.ptr 1 0),(7,.d (.int .i64 (((strs m.ns).length:Nat):Int))),(8,.d (.int .i64 ((mi:Nat):Int))),(9,.d (.int .i64 ((T:Nat):Int))),(10,.d (.int .i64 ((F:Nat):Int))),(11,.sl 4 (prs (loP (((strs m.ns).length:Nat):Int) xs)).length),(14,.ptr 5 0),(15,.ptr 6 0),(104,.d (.int .i64 (((a':Nat):Int))))],[.cbox [.slice 1 (strs m.ns),.slice 3 (lks m.ls)],.cbox [.int .u8 n0,.int .u8 n1,.int .u8 n2,.int .u32 T0,.int .u16 la,.int .u16 f0,.slice 2 (lo8 xs)],.none,.none,.row 38 2 (prs (loP (((strs m.ns).length:Nat):Int) xs)) false,.box [.d (.bool true),.d (.bool false),.d (.slice 2 ([]))],.box [.d (.int .i64 (fO (-1) t0 t0 a')),.d (.int .i64 (fO (-1) (-1) t1 a'))],.none,.none,.none,.none,.none,.none,.none,.none,.none,.none,.none,.none,.none,.none]⟩:=⟨2,⟨by decide,by decide⟩,by rw [e]; rfl⟩
   refine sd ?_
   refine ca c8_ ?_
   refine an ?_ ?_
   refine an ?_ ?_
   (show (0:Int)≤(↑(1:Nat):Int); omega)
   (show (↑(1:Nat):Int) < (↑(3:Nat):Int); omega)
   refine ca rfl ?_
   refine ar_is hr1 ?_
   refine sd ?_
   refine sd ?_
   refine sd ?_
   refine an ?_ ?_
   refine an ?_ ?_
   exact rfl
   refine an ?_ ?_
   exact rfl
   refine an ?_ ?_
   exact rfl
   refine an ?_ ?_
   (show ((0:Nat)+List.length (prs (loP (↑(List.length (strs (Ms.ns m))):Int) xs))) * (16:Nat)≤(2:Nat) ^ (47:Nat); omega)
   (show (0:Nat)+List.length (prs (loP (↑(List.length (strs (Ms.ns m))):Int) xs))≤(2:Nat) ^ (47:Nat); omega)
   refine sd ?_
   refine ca c7_1 ?_
   refine sd ?_
   refine sd ?_
   refine b_ne (fun t2=>?_) (fun t2=>?_)
   (exfalso; omega)
   refine ix_at hx1 ?_ ?_
   (show (0:Int)≤(↑mi:Int); omega)
   refine sd ?_
   refine b_lt (fun t3=>?_) (fun t3=>?_)
   (exfalso; omega)
   refine ix_at hx1 ?_ ?_
   (show (0:Int)≤(↑mi:Int); omega)
   refine sd ?_
   refine b_le (fun t4=>?_) (fun t4=>?_)
   (exfalso; omega)
   refine ix_at hx1 ?_ ?_
   (show (0:Int)≤(↑mi:Int); omega)
   refine sd ?_
   refine b_le (fun t5=>?_) (fun t5=>?_)
   (exfalso; omega)
   refine ar_add ?_ ?_
   refine an ?_ ?_
   (show (-9223372036854775808:Int)≤(↑(1:Nat):Int)+(1:Int); omega)
   (show (↑(1:Nat):Int)+(1:Int)≤(9223372036854775807:Int); omega)
   rotate_left
   all_goals exact fin
 | 2,_ =>
  dsimp only [fO]
  refine sd ?_
  rotate_left
  all_goals exact hQ _
 | n+3,h=>exact absurd h (by omega)
end Vc
