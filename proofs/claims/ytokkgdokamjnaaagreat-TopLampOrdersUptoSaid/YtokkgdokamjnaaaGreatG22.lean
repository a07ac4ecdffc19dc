import Derived.Test.YtokkgdokamjnaaaGreatG20
set_option linter.unusedSectionVars false
set_option linter.unusedVariables false
set_option linter.unusedSimpArgs false
set_option maxRecDepth 10000
set_option maxHeartbeats 4000000
namespace Vc
open Go Go.Proofs
theorem v3c {m:Ms} {H:List L.Hr} {xs:List (Int × Int)} {n0 n1 n2 T0 la f0:Int} {mi T F:Nat} {Q:AExit→St→Prop} {b0 b1:Bool} {t0 t1:Int} (hb0:(b0=true∧0≤t0∧t0≤2000000)∨(b0=false∧t0=-1)) (hb1:(b1=true∧0≤t1∧t1≤2000000)∨(b1=false∧t1=-1)) (h01:b0=true→b1=true→t0≤t1) (hQ:∀ (y:Int) (z:Bool),Q (.exit 4) ⟨[(1,.d (.slice 9 (L.hrs H))),(5,.ptr 1 0),(7,.d (.int .i64 (((strs m.ns).length:Nat):Int))),(9,.d (.int .i64 ((T:Nat):Int))),(10,.d (.int .i64 ((F:Nat):Int))),(14,.ptr 5 0),(15,.ptr 6 0),(20,.d (.int .i64 (y))),(166,.d (.agg [.str [103,114,105,100],.str [115,97,108,101,115]])),(167,.d (.int .i64 (2))),(168,.d (.bool z))],[.none,.cbox [.int .u8 n0,.int .u8 n1,.int .u8 n2,.int .u32 T0,.int .u16 la,.int .u16 f0,.slice 2 (lo8 xs)],.none,.none,.none,.box [.d (.bool true),.d (.bool false),.d (.slice 2 (L.ods (osF b0 b1 t0 t1)))],.box [.d (.int .i64 t0),.d (.int .i64 t1)],.none,.none,.none,.none,.none,.none,.none,.none,.none,.none,.none,.none,.none,.none]⟩):vc Tryz.prog 340 seg3c ⟨[(1,.d (.slice 9 (L.hrs H))),(5,.ptr 1 0),(7,.d (.int .i64 (((strs m.ns).length:Nat):Int))),(9,.d (.int .i64 ((T:Nat):Int))),(10,.d (.int .i64 ((F:Nat):Int))),(14,.ptr 5 0),(15,.ptr 6 0),(20,.d (.int .i64 (0))),(166,.d (.agg [.str [103,114,105,100],.str [115,97,108,101,115]])),(167,.d (.int .i64 (0)))],[.none,.cbox [.int .u8 n0,.int .u8 n1,.int .u8 n2,.int .u32 T0,.int .u16 la,.int .u16 f0,.slice 2 (lo8 xs)],.none,.none,.none,.box [.d (.bool true),.d (.bool false),.d (.slice 2 ([]))],.box [.d (.int .i64 t0),.d (.int .i64 t1)],.none,.none,.none,.none,.none,.none,.none,.none,.none,.none,.none,.none,.none,.none]⟩ Q:=by
 unfold seg3c
 rcases hb0 with ⟨rfl,h0⟩ | ⟨rfl,h0⟩ <;> rcases hb1 with ⟨rfl,h1⟩ | ⟨rfl,h1⟩
 ·have h01:=h01 rfl rfl
  have hQ:∀ (y:Int) (z:Bool),Q (.exit 4) ⟨[(1,.d (.slice 9 (L.hrs H))),(5,.ptr 1 0),(7,.d (.int .i64 (((strs m.ns).length:Nat):Int))),(9,.d (.int .i64 ((T:Nat):Int))),(10,.d (.int .i64 ((F:Nat):Int))),(14,.ptr 5 0),(15,.ptr 6 0),(20,.d (.int .i64 (y))),(166,.d (.agg [.str [103,114,105,100],.str [115,97,108,101,115]])),(167,.d (.int .i64 (2))),(168,.d (.bool z))],[.none,.cbox [.int .u8 n0,.int .u8 n1,.int .u8 n2,.int .u32 T0,.int .u16 la,.int .u16 f0,.slice 2 (lo8 xs)],.none,.none,.none,.box [.d (.bool true),.d (.bool false),.d (.slice 2 (L.ods ([⟨gridW,t0⟩,⟨salesW,t1⟩]:List L.Od)))],.box [.d (.int .i64 t0),.d (.int .i64 t1)],.none,.none,.none,.none,.none,.none,.none,.none,.none,.none,.none,.none,.none,.none]⟩:=hQ
  have c9_0:CallDet Tryz.prog 9 [.d (.agg [.bool true,.bool false,.slice 2 ([])]),.d (.str [103,114,105,100]),.d (.int .i64 t0)] [.agg [.bool true,.bool false,.slice 2 (L.ods ([⟨gridW,t0⟩]:List L.Od))],.int .i64 0]:=or_ok (os:=[]) (n:=gridW) (osF_ck false false (t0:=0) (t1:=0) (by decide) (by decide) (by decide)) rfl (by omega) (by show (0:Int)≤t0; omega) (by decide) rfl
  have hol1:(L.ods ([⟨gridW,t0⟩]:List L.Od)).length=1:=rfl
  have c9_1:CallDet Tryz.prog 9 [.d (.agg [.bool true,.bool false,.slice 2 (L.ods ([⟨gridW,t0⟩]:List L.Od))]),.d (.str [115,97,108,101,115]),.d (.int .i64 t1)] [.agg [.bool true,.bool false,.slice 2 (L.ods ([⟨gridW,t0⟩,⟨salesW,t1⟩]:List L.Od))],.int .i64 0]:=or_ok (os:=[⟨gridW,t0⟩]) (n:=salesW) (osF_ck true false (t0:=t0) (t1:=t0) (by omega) (by omega) (by omega)) rfl (by omega) (by show t0≤t1; omega) (by simp) rfl
  have hol2:(L.ods ([⟨gridW,t0⟩,⟨salesW,t1⟩]:List L.Od)).length=2:=rfl
  refine loop_st (fun i:Nat=>⟨[(1,.d (.slice 9 (L.hrs H))),(5,.ptr 1 0),(7,.d (.int .i64 (((strs m.ns).length:Nat):Int))),(9,.d (.int .i64 ((T:Nat):Int))),(10,.d (.int .i64 ((F:Nat):Int))),(14,.ptr 5 0),(15,.ptr 6 0),(20,.d (.int .i64 ((fO (0:Int) (0+1) ((0+1)+1) i)))),(166,.d (.agg [.str [103,114,105,100],.str [115,97,108,101,115]])),(167,.d (.int .i64 (((i:Nat):Int))))],[.none,.cbox [.int .u8 n0,.int .u8 n1,.int .u8 n2,.int .u32 T0,.int .u16 la,.int .u16 f0,.slice 2 (lo8 xs)],.none,.none,.none,.box [.d (.bool true),.d (.bool false),.d (.slice 2 (L.ods (fO ([]:List L.Od) ([⟨gridW,t0⟩]:List L.Od) ([⟨gridW,t0⟩,⟨salesW,t1⟩]:List L.Od) i)))],.box [.d (.int .i64 t0),.d (.int .i64 t1)],.none,.none,.none,.none,.none,.none,.none,.none,.none,.none,.none,.none,.none,.none]⟩) (fun i=>i≤2) (fun i=>2 - i) 0 rfl (by decide) ?_
  intro i hi
  have hi:i≤2:=hi
  match i,hi with
  | 0,_ =>
   have fin:∃ a':Nat,(a'≤2∧2 - a' < 2 - 0)∧(⟨[(1,.d (.slice 9 (L.hrs H))),(5,.ptr 1 0),(7,.d (.int .i64 (((strs m.ns).length:Nat):Int))),(9,.d (.int .i64 ((T:Nat):Int))),(10,.d (.int .i64 ((F:Nat):Int))),(14,.ptr 5 0),(15,.ptr 6 0),(20,.d (.int .i64 ((0+1)))),(166,.d (.agg [.str [103,114,105,100],.str [115,97,108,101,115]])),(167,.d (.int .i64 (0+1)))],[.none,.cbox [.int .u8 n0,.int .u8 n1,.int .u8 n2,.int .u32 T0,.int .u16 la,.int .u16 f0,.slice 2 (lo8 xs)],.none,.none,.none,.box [.d (.bool true),.d (.bool false),.d (.slice 2 (L.ods ([⟨gridW,t0⟩]:List L.Od)))],.box [.d (.int .i64 t0),.d (.int .i64 t1)],.none,.none,.none,.none,.none,.none,.none,.none,.none,.none,.none,.none,.none,.none]⟩:St)=⟨[(1,.d (.slice 9 (L.hrs H))),(5,.ptr 1 0),(7,.d (.int .i64 (((strs m.ns).length:Nat):Int))),(9,.d (.int .i64 ((T:Nat):Int))),(10,.d (.int .i64 ((F:Nat):Int))),(14,.ptr 5 0),(15,.ptr 6 0),(20,.d (.int .i64 ((fO (0:Int) (0+1) ((0+1)+1) a')))),(166,.d (.agg [.str [103,114,105,100],.str [115,97,108,101,115]])),(167,.d (.int .i64 (((a':Nat):Int))))],[.none,.cbox [.int .u8 n0,.int .u8 n1,.int .u8 n2,.int .u32 T0,.int .u16 la,.int .u16 f0,.slice 2 (lo8 xs)],.none,.none,.none,.box [.d (.bool true),.d (.bool false),.d (.slice 2 (L.ods (fO ([]:List L.Od) ([⟨gridW,t0⟩]:List L.Od) ([⟨gridW,t0⟩,⟨salesW,t1⟩]:List L.Od) a')))],.box [.d (.int .i64 t0),.d (.int .i64 t1)],.none,.none,.none,.none,.none,.none,.none,.none,.none,.none,.none,.none,.none,.none]⟩:=⟨1,⟨by decide,by decide⟩,rfl⟩
   dsimp only [fO]
   refine sd ?_
   refine an ?_ ?_
   refine an ?_ ?_
   (show (0:Int)≤(↑(0:Nat):Int); omega)
   (show (↑(0:Nat):Int) < (↑(2:Nat):Int); omega)
   refine an ?_ ?_
   refine an ?_ ?_
   (show (0:Int)≤(↑(0:Nat):Int); omega)
   (show (↑(0:Nat):Int) < (↑(2:Nat):Int); omega)
   refine sd ?_
   refine b_lt (fun t2=>?_) (fun t2=>?_)
   (exfalso; omega)
   refine an ?_ ?_
   refine an ?_ ?_
   (show (0:Int)≤(↑(0:Nat):Int); omega)
   (show (↑(0:Nat):Int) < (↑(2:Nat):Int); omega)
   refine ca c9_0 ?_
   refine ar_add ?_ ?_
   refine an ?_ ?_
   (show (-9223372036854775808:Int) ≤
    (match (0:Nat) with
     | (0:Nat)=>(0:Int)
     | (1:Nat)=>(0:Int)+(1:Int)
     | x=>(0:Int)+(1:Int)+(1:Int)) +
     (1:Int); simp only [List.length_replicate,List.length_set,List.length_append,List.length_take,List.length_drop]; omega)
   (show (match (0 : Nat) with
     | (0:Nat)=>(0:Int)
     | (1:Nat)=>(0:Int)+(1:Int)
     | x=>(0:Int)+(1:Int)+(1:Int)) +
     (1:Int) ≤
    (9223372036854775807:Int); simp only [List.length_replicate,List.length_set,List.length_append,List.length_take,List.length_drop]; omega)
   refine sd ?_
   refine sd ?_
   refine ar_add ?_ ?_
   refine an ?_ ?_
   (show (-9223372036854775808:Int)≤(↑(0:Nat):Int)+(1:Int); omega)
   (show (↑(0:Nat):Int)+(1:Int)≤(9223372036854775807:Int); omega)
   rotate_left
   all_goals exact fin
  | 1,_ =>
   have fin:∃ a':Nat,(a'≤2∧2 - a' < 2 - 1)∧(⟨[(1,.d (.slice 9 (L.hrs H))),(5,.ptr 1 0),(7,.d (.int .i64 (((strs m.ns).length:Nat):Int))),(9,.d (.int .i64 ((T:Nat):Int))),(10,.d (.int .i64 ((F:Nat):Int))),(14,.ptr 5 0),(15,.ptr 6 0),(20,.d (.int .i64 (((0+1)+1)))),(166,.d (.agg [.str [103,114,105,100],.str [115,97,108,101,115]])),(167,.d (.int .i64 (1+1)))],[.none,.cbox [.int .u8 n0,.int .u8 n1,.int .u8 n2,.int .u32 T0,.int .u16 la,.int .u16 f0,.slice 2 (lo8 xs)],.none,.none,.none,.box [.d (.bool true),.d (.bool false),.d (.slice 2 (L.ods ([⟨gridW,t0⟩,⟨salesW,t1⟩]:List L.Od)))],.box [.d (.int .i64 t0),.d (.int .i64 t1)],.none,.none,.none,.none,.none,.none,.none,.none,.none,.none,.none,.none,.none,.none]⟩:St)=⟨[(1,.d (.slice 9 (L.hrs H))),(5,.ptr 1 0),(7,.d (.int .i64 (((strs m.ns).length:Nat):Int))),(9,.d (.int .i64 ((T:Nat):Int))),(10,.d (.int .i64 ((F:Nat):Int))),(14,.ptr 5 0),(15,.ptr 6 0),(20,.d (.int .i64 ((fO (0:Int) (0+1) ((0+1)+1) a')))),(166,.d (.agg [.str [103,114,105,100],.str [115,97,108,101,115]])),(167,.d (.int .i64 (((a':Nat):Int))))],[.none,.cbox [.int .u8 n0,.int .u8 n1,.int .u8 n2,.int .u32 T0,.int .u16 la,.int .u16 f0,.slice 2 (lo8 xs)],.none,.none,.none,.box [.d (.bool true),.d (.bool false),.d (.slice 2 (L.ods (fO ([]:List L.Od) ([⟨gridW,t0⟩]:List L.Od) ([⟨gridW,t0⟩,⟨salesW,t1⟩]:List L.Od) a')))],.box [.d (.int .i64 t0),.d (.int .i64 t1)],.none,.none,.none,.none,.none,.none,.none,.none,.none,.none,.none,.none,.none,.none]⟩:=⟨2,⟨by decide,by decide⟩,rfl⟩
   dsimp only [fO]
   refine sd ?_
   refine an ?_ ?_
   refine an ?_ ?_
   (show (0:Int)≤(↑(1:Nat):Int); omega)
   (show (↑(1:Nat):Int) < (↑(2:Nat):Int); omega)
   refine an ?_ ?_
   refine an ?_ ?_
   (show (0:Int)≤(↑(1:Nat):Int); omega)
   (show (↑(1:Nat):Int) < (↑(2:Nat):Int); omega)
   refine sd ?_
   refine b_lt (fun t2=>?_) (fun t2=>?_)
   (exfalso; omega)
   refine an ?_ ?_
   refine an ?_ ?_
   (show (0:Int)≤(↑(1:Nat):Int); omega)
   (show (↑(1:Nat):Int) < (↑(2:Nat):Int); omega)
   refine ca c9_1 ?_
   refine ar_add ?_ ?_
   refine an ?_ ?_
   decide
   decide
   refine sd ?_
   refine sd ?_
   refine ar_add ?_ ?_
   refine an ?_ ?_
   (show (-9223372036854775808:Int)≤(↑(1:Nat):Int)+(1:Int); omega)
   (show (↑(1:Nat):Int)+(1:Int)≤(9223372036854775807:Int); omega)
   rotate_left
   all_goals exact fin
  | 2,_ =>
   dsimp only [fO]
   refine sd ?_
   rotate_left
   all_goals exact hQ _ _
  | n+3,h=>exact absurd h (by omega)
 ·have hQ:∀ (y:Int) (z:Bool),Q (.exit 4) ⟨[(1,.d (.slice 9 (L.hrs H))),(5,.ptr 1 0),(7,.d (.int .i64 (((strs m.ns).length:Nat):Int))),(9,.d (.int .i64 ((T:Nat):Int))),(10,.d (.int .i64 ((F:Nat):Int))),(14,.ptr 5 0),(15,.ptr 6 0),(20,.d (.int .i64 (y))),(166,.d (.agg [.str [103,114,105,100],.str [115,97,108,101,115]])),(167,.d (.int .i64 (2))),(168,.d (.bool z))],[.none,.cbox [.int .u8 n0,.int .u8 n1,.int .u8 n2,.int .u32 T0,.int .u16 la,.int .u16 f0,.slice 2 (lo8 xs)],.none,.none,.none,.box [.d (.bool true),.d (.bool false),.d (.slice 2 (L.ods ([⟨gridW,t0⟩]:List L.Od)))],.box [.d (.int .i64 t0),.d (.int .i64 t1)],.none,.none,.none,.none,.none,.none,.none,.none,.none,.none,.none,.none,.none,.none]⟩:=hQ
  have c9_0:CallDet Tryz.prog 9 [.d (.agg [.bool true,.bool false,.slice 2 ([])]),.d (.str [103,114,105,100]),.d (.int .i64 t0)] [.agg [.bool true,.bool false,.slice 2 (L.ods ([⟨gridW,t0⟩]:List L.Od))],.int .i64 0]:=or_ok (os:=[]) (n:=gridW) (osF_ck false false (t0:=0) (t1:=0) (by decide) (by decide) (by decide)) rfl (by omega) (by show (0:Int)≤t0; omega) (by decide) rfl
  have hol1:(L.ods ([⟨gridW,t0⟩]:List L.Od)).length=1:=rfl
  refine loop_st (fun i:Nat=>⟨[(1,.d (.slice 9 (L.hrs H))),(5,.ptr 1 0),(7,.d (.int .i64 (((strs m.ns).length:Nat):Int))),(9,.d (.int .i64 ((T:Nat):Int))),(10,.d (.int .i64 ((F:Nat):Int))),(14,.ptr 5 0),(15,.ptr 6 0),(20,.d (.int .i64 ((fO (0:Int) (0+1) (0+1) i)))),(166,.d (.agg [.str [103,114,105,100],.str [115,97,108,101,115]])),(167,.d (.int .i64 (((i:Nat):Int))))],[.none,.cbox [.int .u8 n0,.int .u8 n1,.int .u8 n2,.int .u32 T0,.int .u16 la,.int .u16 f0,.slice 2 (lo8 xs)],.none,.none,.none,.box [.d (.bool true),.d (.bool false),.d (.slice 2 (L.ods (fO ([]:List L.Od) ([⟨gridW,t0⟩]:List L.Od) ([⟨gridW,t0⟩]:List L.Od) i)))],.box [.d (.int .i64 t0),.d (.int .i64 t1)],.none,.none,.none,.none,.none,.none,.none,.none,.none,.none,.none,.none,.none,.none]⟩) (fun i=>i≤2) (fun i=>2 - i) 0 rfl (by decide) ?_
  intro i hi
  have hi:i≤2:=hi
  match i,hi with
  | 0,_ =>
   have fin:∃ a':Nat,(a'≤2∧2 - a' < 2 - 0)∧(⟨[(1,.d (.slice 9 (L.hrs H))),(5,.ptr 1 0),(7,.d (.int .i64 (((strs m.ns).length:Nat):Int))),(9,.d (.int .i64 ((T:Nat):Int))),(10,.d (.int .i64 ((F:Nat):Int))),(14,.ptr 5 0),(15,.ptr 6 0),(20,.d (.int .i64 ((0+1)))),(166,.d (.agg [.str [103,114,105,100],.str [115,97,108,101,115]])),(167,.d (.int .i64 (0+1)))],[.none,.cbox [.int .u8 n0,.int .u8 n1,.int .u8 n2,.int .u32 T0,.int .u16 la,.int .u16 f0,.slice 2 (lo8 xs)],.none,.none,.none,.box [.d (.bool true),.d (.bool false),.d (.slice 2 (L.ods ([⟨gridW,t0⟩]:List L.Od)))],.box [.d (.int .i64 t0),.d (.int .i64 t1)],.none,.none,.none,.none,.none,.none,.none,.none,.none,.none,.none,.none,.none,.none]⟩:St)=⟨[(1,.d (.slice 9 (L.hrs H))),(5,.ptr 1 0),(7,.d (.int .i64 (((strs m.ns).length:Nat):Int))),(9,.d (.int .i64 ((T:Nat):Int))),(10,.d (.int .i64 ((F:Nat):Int))),(14,.ptr 5 0),(15,.ptr 6 0),(20,.d (.int .i64 ((fO (0:Int) (0+1) (0+1) a')))),(166,.d (.agg [.str [103,114,105,100],.str [115,97,108,101,115]])),(167,.d (.int .i64 (((a':Nat):Int))))],[.none,.cbox [.int .u8 n0,.int .u8 n1,.int .u8 n2,.int .u32 T0,.int .u16 la,.int .u16 f0,.slice 2 (lo8 xs)],.none,.none,.none,.box [.d (.bool true),.d (.bool false),.d (.slice 2 (L.ods (fO ([]:List L.Od) ([⟨gridW,t0⟩]:List L.Od) ([⟨gridW,t0⟩]:List L.Od) a')))],.box [.d (.int .i64 t0),.d (.int .i64 t1)],.none,.none,.none,.none,.none,.none,.none,.none,.none,.none,.none,.none,.none,.none]⟩:=⟨1,⟨by decide,by decide⟩,rfl⟩
   dsimp only [fO]
   refine sd ?_
   refine an ?_ ?_
   refine an ?_ ?_
   (show (0:Int)≤(↑(0:Nat):Int); omega)
   (show (↑(0:Nat):Int) < (↑(2:Nat):Int); omega)
   refine an ?_ ?_
   refine an ?_ ?_
   (show (0:Int)≤(↑(0:Nat):Int); omega)
   (show (↑(0:Nat):Int) < (↑(2:Nat):Int); omega)
   refine sd ?_
   refine b_lt (fun t2=>?_) (fun t2=>?_)
   (exfalso; omega)
   refine an ?_ ?_
   refine an ?_ ?_
   (show (0:Int)≤(↑(0:Nat):Int); omega)
   (show (↑(0:Nat):Int) < (↑(2:Nat):Int); omega)
   refine ca c9_0 ?_
   refine ar_add ?_ ?_
   refine an ?_ ?_
   (show (-9223372036854775808:Int) ≤
    (match (0:Nat) with
     | (0:Nat)=>(0:Int)
     | (1:Nat)=>(0:Int)+(1:Int)
     | x=>(0:Int)+(1:Int)) +
     (1:Int); simp only [List.length_replicate,List.length_set,List.length_append,List.length_take,List.length_drop]; omega)
   (show (match (0 : Nat) with
     | (0:Nat)=>(0:Int)
     | (1:Nat)=>(0:Int)+(1:Int)
     | x=>(0:Int)+(1:Int)) +
     (1:Int) ≤
    (9223372036854775807:Int); simp only [List.length_replicate,List.length_set,List.length_append,List.length_take,List.length_drop]; omega)
   refine sd ?_
   refine sd ?_
   refine ar_add ?_ ?_
   refine an ?_ ?_
   (show (-9223372036854775808:Int)≤(↑(0:Nat):Int)+(1:Int); omega)
   (show (↑(0:Nat):Int)+(1:Int)≤(9223372036854775807:Int); omega)
   rotate_left
   all_goals exact fin
  | 1,_ =>
   have fin:∃ a':Nat,(a'≤2∧2 - a' < 2 - 1)∧(⟨[(1,.d (.slice 9 (L.hrs H))),(5,.ptr 1 0),(7,.d (.int .i64 (((strs m.ns).length:Nat):Int))),(9,.d (.int .i64 ((T:Nat):Int))),(10,.d (.int .i64 ((F:Nat):Int))),(14,.ptr 5 0),(15,.ptr 6 0),(20,.d (.int .i64 ((0+1)))),(166,.d (.agg [.str [103,114,105,100],.str [115,97,108,101,115]])),(167,.d (.int .i64 (1+1)))],[.none,.cbox [.int .u8 n0,.int .u8 n1,.int .u8 n2,.int .u32 T0,.int .u16 la,.int .u16 f0,.slice 2 (lo8 xs)],.none,.none,.none,.box [.d (.bool true),.d (.bool false),.d (.slice 2 (L.ods ([⟨gridW,t0⟩]:List L.Od)))],.box [.d (.int .i64 t0),.d (.int .i64 t1)],.none,.none,.none,.none,.none,.none,.none,.none,.none,.none,.none,.none,.none,.none]⟩:St)=⟨[(1,.d (.slice 9 (L.hrs H))),(5,.ptr 1 0),(7,.d (.int .i64 (((strs m.ns).length:Nat):Int))),(9,.d (.int .i64 ((T:Nat):Int))),(10,.d (.int .i64 ((F:Nat):Int))),(14,.ptr 5 0),(15,.ptr 6 0),(20,.d (.int .i64 ((fO (0:Int) (0+1) (0+1) a')))),(166,.d (.agg [.str [103,114,105,100],.str [115,97,108,101,115]])),(167,.d (.int .i64 (((a':Nat):Int))))],[.none,.cbox [.int .u8 n0,.int .u8 n1,.int .u8 n2,.int .u32 T0,.int .u16 la,.int .u16 f0,.slice 2 (lo8 xs)],.none,.none,.none,.box [.d (.bool true),.d (.bool false),.d (.slice 2 (L.ods (fO ([]:List L.Od) ([⟨gridW,t0⟩]:List L.Od) ([⟨gridW,t0⟩]:List L.Od) a')))],.box [.d (.int .i64 t0),.d (.int .i64 t1)],.none,.none,.none,.none,.none,.none,.none,.none,.none,.none,.none,.none,.none,.none]⟩:=⟨2,⟨by decide,by decide⟩,rfl⟩
   dsimp only [fO]
   refine sd ?_
   refine an ?_ ?_
   refine an ?_ ?_
   (show (0:Int)≤(↑(1:Nat):Int); omega)
   (show (↑(1:Nat):Int) < (↑(2:Nat):Int); omega)
   refine an ?_ ?_
   refine an ?_ ?_
   (show (0:Int)≤(↑(1:Nat):Int); omega)
   (show (↑(1:Nat):Int) < (↑(2:Nat):Int); omega)
   refine sd ?_
   refine b_lt (fun t2=>?_) (fun t2=>?_)
   refine ar_add ?_ ?_
   refine an ?_ ?_
   (show (-9223372036854775808:Int)≤(↑(1:Nat):Int)+(1:Int); omega)
   (show (↑(1:Nat):Int)+(1:Int)≤(9223372036854775807:Int); omega)
   rotate_left
   (exfalso; omega)
   all_goals exact fin
  | 2,_ =>
   dsimp only [fO]
   refine sd ?_
   rotate_left
   all_goals exact hQ _ _
  | n+3,h=>exact absurd h (by omega)
 ·have hQ:∀ (y:Int) (z:Bool),Q (.exit 4) ⟨[(1,.d (.slice 9 (L.hrs H))),(5,.ptr 1 0),(7,.d (.int .i64 (((strs m.ns).length:Nat):Int))),(9,.d (.int .i64 ((T:Nat):Int))),(10,.d (.int .i64 ((F:Nat):Int))),(14,.ptr 5 0),(15,.ptr 6 0),(20,.d (.int .i64 (y))),(166,.d (.agg [.str [103,114,105,100],.str [115,97,108,101,115]])),(167,.d (.int .i64 (2))),(168,.d (.bool z))],[.none,.cbox [.int .u8 n0,.int .u8 n1,.int .u8 n2,.int .u32 T0,.int .u16 la,.int .u16 f0,.slice 2 (lo8 xs)],.none,.none,.none,.box [.d (.bool true),.d (.bool false),.d (.slice 2 (L.ods ([⟨salesW,t1⟩]:List L.Od)))],.box [.d (.int .i64 t0),.d (.int .i64 t1)],.none,.none,.none,.none,.none,.none,.none,.none,.none,.none,.none,.none,.none,.none]⟩:=hQ
  have c9_1:CallDet Tryz.prog 9 [.d (.agg [.bool true,.bool false,.slice 2 ([])]),.d (.str [115,97,108,101,115]),.d (.int .i64 t1)] [.agg [.bool true,.bool false,.slice 2 (L.ods ([⟨salesW,t1⟩]:List L.Od))],.int .i64 0]:=or_ok (os:=[]) (n:=salesW) (osF_ck false false (t0:=0) (t1:=0) (by decide) (by decide) (by decide)) rfl (by omega) (by show (0:Int)≤t1; omega) (by decide) rfl
  have hol2:(L.ods ([⟨salesW,t1⟩]:List L.Od)).length=1:=rfl
  refine loop_st (fun i:Nat=>⟨[(1,.d (.slice 9 (L.hrs H))),(5,.ptr 1 0),(7,.d (.int .i64 (((strs m.ns).length:Nat):Int))),(9,.d (.int .i64 ((T:Nat):Int))),(10,.d (.int .i64 ((F:Nat):Int))),(14,.ptr 5 0),(15,.ptr 6 0),(20,.d (.int .i64 ((fO (0:Int) 0 (0+1) i)))),(166,.d (.agg [.str [103,114,105,100],.str [115,97,108,101,115]])),(167,.d (.int .i64 (((i:Nat):Int))))],[.none,.cbox [.int .u8 n0,.int .u8 n1,.int .u8 n2,.int .u32 T0,.int .u16 la,.int .u16 f0,.slice 2 (lo8 xs)],.none,.none,.none,.box [.d (.bool true),.d (.bool false),.d (.slice 2 (L.ods (fO ([]:List L.Od) ([]:List L.Od) ([⟨salesW,t1⟩]:List L.Od) i)))],.box [.d (.int .i64 t0),.d (.int .i64 t1)],.none,.none,.none,.none,.none,.none,.none,.none,.none,.none,.none,.none,.none,.none]⟩) (fun i=>i≤2) (fun i=>2 - i) 0 rfl (by decide) ?_
  intro i hi
  have hi:i≤2:=hi
  match i,hi with
  | 0,_ =>
   have fin:∃ a':Nat,(a'≤2∧2 - a' < 2 - 0)∧(⟨[(1,.d (.slice 9 (L.hrs H))),(5,.ptr 1 0),(7,.d (.int .i64 (((strs m.ns).length:Nat):Int))),(9,.d (.int .i64 ((T:Nat):Int))),(10,.d (.int .i64 ((F:Nat):Int))),(14,.ptr 5 0),(15,.ptr 6 0),(20,.d (.int .i64 (0))),(166,.d (.agg [.str [103,114,105,100],.str [115,97,108,101,115]])),(167,.d (.int .i64 (0+1)))],[.none,.cbox [.int .u8 n0,.int .u8 n1,.int .u8 n2,.int .u32 T0,.int .u16 la,.int .u16 f0,.slice 2 (lo8 xs)],.none,.none,.none,.box [.d (.bool true),.d (.bool false),.d (.slice 2 (L.ods ([]:List L.Od)))],.box [.d (.int .i64 t0),.d (.int .i64 t1)],.none,.none,.none,.none,.none,.none,.none,.none,.none,.none,.none,.none,.none,.none]⟩:St)=⟨[(1,.d (.slice 9 (L.hrs H))),(5,.ptr 1 0),(7,.d (.int .i64 (((strs m.ns).length:Nat):Int))),(9,.d (.int .i64 ((T:Nat):Int))),(10,.d (.int .i64 ((F:Nat):Int))),(14,.ptr 5 0),(15,.ptr 6 0),(20,.d (.int .i64 ((fO (0:Int) 0 (0+1) a')))),(166,.d (.agg [.str [103,114,105,100],.str [115,97,108,101,115]])),(167,.d (.int .i64 (((a':Nat):Int))))],[.none,.cbox [.int .u8 n0,.int .u8 n1,.int .u8 n2,.int .u32 T0,.int .u16 la,.int .u16 f0,.slice 2 (lo8 xs)],.none,.none,.none,.box [.d (.bool true),.d (.bool false),.d (.slice 2 (L.ods (fO ([]:List L.Od) ([]:List L.Od) ([⟨salesW,t1⟩]:List L.Od) a')))],.box [.d (.int .i64 t0),.d (.int .i64 t1)],.none,.none,.none,.none,.none,.none,.none,.none,.none,.none,.none,.none,.none,.none]⟩:=⟨1,⟨by decide,by decide⟩,rfl⟩
   dsimp only [fO]
   refine sd ?_
   refine an ?_ ?_
   refine an ?_ ?_
   (show (0:Int)≤(↑(0:Nat):Int); omega)
   (show (↑(0:Nat):Int) < (↑(2:Nat):Int); omega)
   refine an ?_ ?_
   refine an ?_ ?_
   (show (0:Int)≤(↑(0:Nat):Int); omega)
   (show (↑(0:Nat):Int) < (↑(2:Nat):Int); omega)
   refine sd ?_
   refine b_lt (fun t2=>?_) (fun t2=>?_)
   refine ar_add ?_ ?_
   refine an ?_ ?_
   (show (-9223372036854775808:Int)≤(↑(0:Nat):Int)+(1:Int); omega)
   (show (↑(0:Nat):Int)+(1:Int)≤(9223372036854775807:Int); omega)
   rotate_left
   (exfalso; omega)
   all_goals exact fin
  | 1,_ =>
   have fin:∃ a':Nat,(a'≤2∧2 - a' < 2 - 1)∧(⟨[(1,.d (.slice 9 (L.hrs H))),(5,.ptr 1 0),(7,.d (.int .i64 (((strs m.ns).length:Nat):Int))),(9,.d (.int .i64 ((T:Nat):Int))),(10,.d (.int .i64 ((F:Nat):Int))),(14,.ptr 5 0),(15,.ptr 6 0),(20,.d (.int .i64 ((0+1)))),(166,.d (.agg [.str [103,114,105,100],.str [115,97,108,101,115]])),(167,.d (.int .i64 (1+1)))],[.none,.cbox [.int .u8 n0,.int .u8 n1,.int .u8 n2,.int .u32 T0,.int .u16 la,.int .u16 f0,.slice 2 (lo8 xs)],.none,.none,.none,.box [.d (.bool true),.d (.bool false),.d (.slice 2 (L.ods ([⟨salesW,t1⟩]:List L.Od)))],.box [.d (.int .i64 t0),.d (.int .i64 t1)],.none,.none,.none,.none,.none,.none,.none,.none,.none,.none,.none,.none,.none,.none]⟩:St)=⟨[(1,.d (.slice 9 (L.hrs H))),(5,.ptr 1 0),(7,.d (.int .i64 (((strs m.ns).length:Nat):Int))),(9,.d (.int .i64 ((T:Nat):Int))),(10,.d (.int .i64 ((F:Nat):Int))),(14,.ptr 5 0),(15,.ptr 6 0),(20,.d (.int .i64 ((fO (0:Int) 0 (0+1) a')))),(166,.d (.agg [.str [103,114,105,100],.str [115,97,108,101,115]])),(167,.d (.int .i64 (((a':Nat):Int))))],[.none,.cbox [.int .u8 n0,.int .u8 n1,.int .u8 n2,.int .u32 T0,.int .u16 la,.int .u16 f0,.slice 2 (lo8 xs)],.none,.none,.none,.box [.d (.bool true),.d (.bool false),.d (.slice 2 (L.ods (fO ([]:List L.Od) ([]:List L.Od) ([⟨salesW,t1⟩]:List L.Od) a')))],.box [.d (.int .i64 t0),.d (.int .i64 t1)],.none,.none,.none,.none,.none,.none,.none,.none,.none,.none,.none,.none,.none,.none]⟩:=⟨2,⟨by decide,by decide⟩,rfl⟩
   dsimp only [fO]
   refine sd ?_
   refine an ?_ ?_
   refine an ?_ ?_
   (show (0:Int)≤(↑(1:Nat):Int); omega)
   (show (↑(1:Nat):Int) < (↑(2:Nat):Int); omega)
   refine an ?_ ?_
   refine an ?_ ?_
   (show (0:Int)≤(↑(1:Nat):Int); omega)
   (show (↑(1:Nat):Int) < (↑(2:Nat):Int); omega)
   refine sd ?_
   refine b_lt (fun t2=>?_) (fun t2=>?_)
   (exfalso; omega)
   refine an ?_ ?_
   refine an ?_ ?_
   (show (0:Int)≤(↑(1:Nat):Int); omega)
   (show (↑(1:Nat):Int) < (↑(2:Nat):Int); omega)
   refine ca c9_1 ?_
   refine ar_add ?_ ?_
   refine an ?_ ?_
   (show (-9223372036854775808:Int) ≤
    (match (1:Nat) with
     | (0:Nat)=>(0:Int)
     | (1:Nat)=>(0:Int)
     | x=>(0:Int)+(1:Int)) +
     (1:Int); simp only [List.length_replicate,List.length_set,List.length_append,List.length_take,List.length_drop]; omega)
   (show (match (1 : Nat) with
     | (0:Nat)=>(0:Int)
     | (1:Nat)=>(0:Int)
     | x=>(0:Int)+(1:Int)) +
     (1:Int) ≤
    (9223372036854775807:Int); simp only [List.length_replicate,List.length_set,List.length_append,List.length_take,List.length_drop]; omega)
   refine sd ?_
   refine sd ?_
   refine ar_add ?_ ?_
   refine an ?_ ?_
   (show (-9223372036854775808:Int)≤(↑(1:Nat):Int)+(1:Int); omega)
   (show (↑(1:Nat):Int)+(1:Int)≤(9223372036854775807:Int); omega)
   rotate_left
   all_goals exact fin
  | 2,_ =>
   dsimp only [fO]
   refine sd ?_
   rotate_left
   all_goals exact hQ _ _
  | n+3,h=>exact absurd h (by omega)
 ·have hQ:∀ (y:Int) (z:Bool),Q (.exit 4) ⟨[(1,.d (.slice 9 (L.hrs H))),(5,.ptr 1 0),(7,.d (.int .i64 (((strs m.ns).length:Nat):Int))),(9,.d (.int .i64 ((T:Nat):Int))),(10,.d (.int .i64 ((F:Nat):Int))),(14,.ptr 5 0),(15,.ptr 6 0),(20,.d (.int .i64 (y))),(166,.d (.agg [.str [103,114,105,100],.str [115,97,108,101,115]])),(167,.d (.int .i64 (2))),(168,.d (.bool z))],[.none,.cbox [.int .u8 n0,.int .u8 n1,.int .u8 n2,.int .u32 T0,.int .u16 la,.int .u16 f0,.slice 2 (lo8 xs)],.none,.none,.none,.box [.d (.bool true),.d (.bool false),.d (.slice 2 (L.ods ([]:List L.Od)))],.box [.d (.int .i64 t0),.d (.int .i64 t1)],.none,.none,.none,.none,.none,.none,.none,.none,.none,.none,.none,.none,.none,.none]⟩:=hQ
  refine loop_st (fun i:Nat=>⟨[(1,.d (.slice 9 (L.hrs H))),(5,.ptr 1 0),(7,.d (.int .i64 (((strs m.ns).length:Nat):Int))),(9,.d (.int .i64 ((T:Nat):Int))),(10,.d (.int .i64 ((F:Nat):Int))),(14,.ptr 5 0),(15,.ptr 6 0),(20,.d (.int .i64 ((fO (0:Int) 0 0 i)))),(166,.d (.agg [.str [103,114,105,100],.str [115,97,108,101,115]])),(167,.d (.int .i64 (((i:Nat):Int))))],[.none,.cbox [.int .u8 n0,.int .u8 n1,.int .u8 n2,.int .u32 T0,.int .u16 la,.int .u16 f0,.slice 2 (lo8 xs)],.none,.none,.none,.box [.d (.bool true),.d (.bool false),.d (.slice 2 (L.ods (fO ([]:List L.Od) ([]:List L.Od) ([]:List L.Od) i)))],.box [.d (.int .i64 t0),.d (.int .i64 t1)],.none,.none,.none,.none,.none,.none,.none,.none,.none,.none,.none,.none,.none,.none]⟩) (fun i=>i≤2) (fun i=>2 - i) 0 rfl (by decide) ?_
  intro i hi
  have hi:i≤2:=hi
  match i,hi with
  | 0,_ =>
   have fin:∃ a':Nat,(a'≤2∧2 - a' < 2 - 0)∧(⟨[(1,.d (.slice 9 (L.hrs H))),(5,.ptr 1 0),(7,.d (.int .i64 (((strs m.ns).length:Nat):Int))),(9,.d (.int .i64 ((T:Nat):Int))),(10,.d (.int .i64 ((F:Nat):Int))),(14,.ptr 5 0),(15,.ptr 6 0),(20,.d (.int .i64 (0))),(166,.d (.agg [.str [103,114,105,100],.str [115,97,108,101,115]])),(167,.d (.int .i64 (0+1)))],[.none,.cbox [.int .u8 n0,.int .u8 n1,.int .u8 n2,.int .u32 T0,.int .u16 la,.int .u16 f0,.slice 2 (lo8 xs)],.none,.none,.none,.box [.d (.bool true),.d (.bool false),.d (.slice 2 (L.ods ([]:List L.Od)))],.box [.d (.int .i64 t0),.d (.int .i64 t1)],.none,.none,.none,.none,.none,.none,.none,.none,.none,.none,.none,.none,.none,.none]⟩:St)=⟨[(1,.d (.slice 9 (L.hrs H))),(5,.ptr 1 0),(7,.d (.int .i64 (((strs m.ns).length:Nat):Int))),(9,.d (.int .i64 ((T:Nat):Int))),(10,.d (.int .i64 ((F:Nat):Int))),(14,.ptr 5 0),(15,.ptr 6 0),(20,.d (.int .i64 ((fO (0:Int) 0 0 a')))),(166,.d (.agg [.str [103,114,105,100],.str [115,97,108,101,115]])),(167,.d (.int .i64 (((a':Nat):Int))))],[.none,.cbox [.int .u8 n0,.int .u8 n1,.int .u8 n2,.int .u32 T0,.int .u16 la,.int .u16 f0,.slice 2 (lo8 xs)],.none,.none,.none,.box [.d (.bool true),.d (.bool false),.d (.slice 2 (L.ods (fO ([]:List L.Od) ([]:List L.Od) ([]:List L.Od) a')))],.box [.d (.int .i64 t0),.d (.int .i64 t1)],.none,.none,.none,.none,.none,.none,.none,.none,.none,.none,.none,.none,.none,.none]⟩:=⟨1,⟨by decide,by decide⟩,rfl⟩
   dsimp only [fO]
   refine sd ?_
   refine an ?_ ?_
   refine an ?_ ?_
   (show (0:Int)≤(↑(0:Nat):Int); omega)
   (show (↑(0:Nat):Int) < (↑(2:Nat):Int); omega)
   refine an ?_ ?_
   refine an ?_ ?_
   (show (0:Int)≤(↑(0:Nat):Int); omega)
   (show (↑(0:Nat):Int) < (↑(2:Nat):Int); omega)
   refine sd ?_
   refine b_lt (fun t2=>?_) (fun t2=>?_)
   refine ar_add ?_ ?_
   refine an ?_ ?_
   (show (-9223372036854775808:Int)≤(↑(0:Nat):Int)+(1:Int); omega)
   (show (↑(0:Nat):Int)+(1:Int)≤(9223372036854775807:Int); omega)
   rotate_left
   (exfalso; omega)
   all_goals exact fin
  | 1,_ =>
   have fin:∃ a':Nat,(a'≤2∧2 - a' < 2 - 1)∧(⟨[(1,.d (.slice 9 (L.hrs H))),(5,.ptr 1 0),(7,.d (.int .i64 (((strs m.ns).length:Nat):Int))),(9,.d (.int .i64 ((T:Nat):Int))),(10,.d (.int .i64 ((F:Nat):Int))),(14,.ptr 5 0),(15,.ptr 6 0),(20,.d (.int .i64 (0))),(166,.d (.agg [.str [103,114,105,100],.str [115,97,108,101,115]])),(167,.d (.int .i64 (1+1)))],[.none,.cbox [.int .u8 n0,.int .u8 n1,.int .u8 n2,.int .u32 T0,.int .u16 la,.int .u16 f0,.slice 2 (lo8 xs)],.none,.none,.none,.box [.d (.bool true),.d (.bool false),.d (.slice 2 (L.ods ([]:List L.Od)))],.box [.d (.int .i64 t0),.d (.int .i64 t1)],.none,.none,.none,.none,.none,.none,.none,.none,.none,.none,.none,.none,.none,.none]⟩:St)=⟨[(1,.d (.slice 9 (L.hrs H))),(5,.ptr 1 0),(7,.d (.int .i64 (((strs m.ns).length:Nat):Int))),(9,.d (.int .i64 ((T:Nat):Int))),(10,.d (.int .i64 ((F:Nat):Int))),(14,.ptr 5 0),(15,.ptr 6 0),(20,.d (.int .i64 ((fO (0:Int) 0 0 a')))),(166,.d (.agg [.str [103,114,105,100],.str [115,97,108,101,115]])),(167,.d (.int .i64 (((a':Nat):Int))))],[.none,.cbox [.int .u8 n0,.int .u8 n1,.int .u8 n2,.int .u32 T0,.int .u16 la,.int .u16 f0,.slice 2 (lo8 xs)],.none,.none,.none,.box [.d (.bool true),.d (.bool false),.d (.slice 2 (L.ods (fO ([]:List L.Od) ([]:List L.Od) ([]:List L.Od) a')))],.box [.d (.int .i64 t0),.d (.int .i64 t1)],.none,.none,.none,.none,.none,.none,.none,.none,.none,.none,.none,.none,.none,.none]⟩:=⟨2,⟨by decide,by decide⟩,rfl⟩
   dsimp only [fO]
   refine sd ?_
   refine an ?_ ?_
   refine an ?_ ?_
   (show (0:Int)≤(↑(1:Nat):Int); omega)
   (show (↑(1:Nat):Int) < (↑(2:Nat):Int); omega)
   refine an ?_ ?_
   refine an ?_ ?_
   (show (0:Int)≤(↑(1:Nat):Int); omega)
   (show (↑(1:Nat):Int) < (↑(2:Nat):Int); omega)
   refine sd ?_
   refine b_lt (fun t2=>?_) (fun t2=>?_)
   refine ar_add ?_ ?_
   refine an ?_ ?_
   (show (-9223372036854775808:Int)≤(↑(1:Nat):Int)+(1:Int); omega)
   (show (↑(1:Nat):Int)+(1:Int)≤(9223372036854775807:Int); omega)
   rotate_left
   (exfalso; omega)
   all_goals exact fin
  | 2,_ =>
   dsimp only [fO]
   refine sd ?_
   rotate_left
   all_goals exact hQ _ _
  | n+3,h=>exact absurd h (by omega)
theorem frI_b (b:Bool) (now F t:Int):0≤frI b now F t∧frI b now F t≤1:=by
 unfold frI
 cases b&&decide (now - t≤F)
 ·exact ⟨by decide,by decide⟩
 ·exact ⟨by decide,by decide⟩
theorem v3d {m:Ms} {H:List L.Hr} {xs:List (Int × Int)} {n0 n1 n2 T0 la f0:Int} {mi T F:Nat} {Q:AExit→St→Prop} {t0 t1 N:Int} {os:List L.Od} (hN:0≤N∧N≤100000000) (h0:-1≤t0∧t0≤2000000) (h1:-1≤t1∧t1≤2000000) (hQ:∀ z:Bool,Q (.exit 6) ⟨[(1,.d (.slice 9 (L.hrs H))),(10,.d (.int .i64 ((F:Nat):Int))),(14,.ptr 5 0),(25,.d (.int .i64 N)),(26,.d (.int .i64 ((frI (decide (0≤t0)) N (F:Int) t0)+(frI (decide (0≤t1)) N (F:Int) t1)))),(206,.d (.agg [.int .i64 t0,.int .i64 t1])),(207,.d (.int .i64 (2))),(208,.d (.bool z))],[.none,.none,.none,.none,.none,.box [.d (.bool true),.d (.bool false),.d (.slice 2 (L.ods os))],.none,.none,.none,.none,.none,.none,.none,.none,.none,.none,.none,.none,.none,.none,.none]⟩):vc Tryz.prog 340 seg3d ⟨[(1,.d (.slice 9 (L.hrs H))),(10,.d (.int .i64 ((F:Nat):Int))),(14,.ptr 5 0),(25,.d (.int .i64 N)),(26,.d (.int .i64 (0))),(206,.d (.agg [.int .i64 t0,.int .i64 t1])),(207,.d (.int .i64 (0)))],[.none,.none,.none,.none,.none,.box [.d (.bool true),.d (.bool false),.d (.slice 2 (L.ods os))],.none,.none,.none,.none,.none,.none,.none,.none,.none,.none,.none,.none,.none,.none,.none]⟩ Q:=by
 unfold seg3d
 have hf0:=frI_b (decide (0≤t0)) N (F:Int) t0
 have hf1:=frI_b (decide (0≤t1)) N (F:Int) t1
 refine loop_st (fun i:Nat=>⟨[(1,.d (.slice 9 (L.hrs H))),(10,.d (.int .i64 ((F:Nat):Int))),(14,.ptr 5 0),(25,.d (.int .i64 N)),(26,.d (.int .i64 (fO 0 (frI (decide (0≤t0)) N (F:Int) t0) ((frI (decide (0≤t0)) N (F:Int) t0)+(frI (decide (0≤t1)) N (F:Int) t1)) i))),(206,.d (.agg [.int .i64 t0,.int .i64 t1])),(207,.d (.int .i64 (((i:Nat):Int))))],[.none,.none,.none,.none,.none,.box [.d (.bool true),.d (.bool false),.d (.slice 2 (L.ods os))],.none,.none,.none,.none,.none,.none,.none,.none,.none,.none,.none,.none,.none,.none,.none]⟩) (fun i=>i≤2) (fun i=>2 - i) 0 rfl (by decide) ?_
 intro i hi
 have hi:i≤2:=hi
 match i,hi with
 | 0,_ =>
  dsimp only [fO]
  by_cases h1:0≤t0
  ·by_cases h2:N - t0≤(F:Int)
   ·have e:(frI (decide (0≤t0)) N (F:Int) t0)=1:=by unfold frI; rw [decide_eq_true h1,decide_eq_true h2]; rfl
    have fin:∃ a':Nat,(a'≤2∧2 - a' < 2 - 0)∧(⟨[(1,.d (.slice 9 (L.hrs H))),(10,.d (.int .i64 ((F:Nat):Int))),(14,.ptr 5 0),(25,.d (.int .i64 N)),(26,.d (.int .i64 (0+1))),(206,.d (.agg [.int .i64 t0,.int .i64 t1])),(207,.d (.int .i64 (0+1)))],[.none,.none,.none,.none,.none,.box [.d (.bool true),.d (.bool false),.d (.slice 2 (L.ods os))],.none,.none,.none,.none,.none,.none,.none,.none,.none,.none,.none,.none,.none,.none,.none]⟩:St)=⟨[(1,.d (.slice 9 (L.hrs H))),(10,.d (.int .i64 ((F:Nat):Int))),(14,.ptr 5 0),(25,.d (.int .i64 N)),(26,.d (.int .i64 (fO 0 (frI (decide (0≤t0)) N (F:Int) t0) ((frI (decide (0≤t0)) N (F:Int) t0)+(frI (decide (0≤t1)) N (F:Int) t1)) a'))),(206,.d (.agg [.int .i64 t0,.int .i64 t1])),(207,.d (.int .i64 (((a':Nat):Int))))],[.none,.none,.none,.none,.none,.box [.d (.bool true),.d (.bool false),.d (.slice 2 (L.ods os))],.none,.none,.none,.none,.none,.none,.none,.none,.none,.none,.none,.none,.none,.none,.none]⟩:=⟨1,⟨by decide,by decide⟩,by
     show (⟨[(1,.d (.slice 9 (L.hrs H))),(10,.d (.int .i64 ((F:Nat):Int))),(14,.ptr 5 0),(25,.d (.int .i64 N)),(26,.d (.int .i64 (0+1))),(206,.d (.agg [.int .i64 t0,.int .i64 t1])),(207,.d (.int .i64 (0+1)))],[.none,.none,.none,.none,.none,.box [.d (.bool true),.d (.bool false),.d (.slice 2 (L.ods os))],.none,.none,.none,.none,.none,.none,.none,.none,.none,.none,.none,.none,.none,.none,.none]⟩:St)=⟨[(1,.d (.slice 9 (L.hrs H))),(10,.d (.int .i64 ((F:Nat):Int))),(14,.ptr 5 0),(25,.d (.int .i64 N)),(26,.d (.int .i64 ((frI (decide (0≤t0)) N (F:Int) t0)))),(206,.d (.agg [.int .i64 t0,.int .i64 t1])),(207,.d (.int .i64 (((1:Nat):Int))))],[.none,.none,.none,.none,.none,.box [.d (.bool true),.d (.bool false),.d (.slice 2 (L.ods os))],.none,.none,.none,.none,.none,.none,.none,.none,.none,.none,.none,.none,.none,.none,.none]⟩
     rw [e]; rfl⟩
    refine sd ?_
    refine an ?_ ?_
    refine an ?_ ?_
    (show (0:Int)≤(↑(0:Nat):Int); omega)
    (show (↑(0:Nat):Int) < (↑(2:Nat):Int); omega)
    refine sd ?_
    refine b_le (fun t2=>?_) (fun t2=>?_)
    refine ar_sub ?_ ?_
    refine an ?_ ?_
    (show (-9223372036854775808:Int)≤N - t0; omega)
    (show N - t0≤(9223372036854775807:Int); omega)
    refine sd ?_
    refine b_le (fun t3=>?_) (fun t3=>?_)
    refine ar_add ?_ ?_
    refine an ?_ ?_
    (show (-9223372036854775808:Int) ≤
     (match (0:Nat) with
      | (0:Nat)=>(0:Int)
      | (1:Nat)=>frI (decide ((0:Int)≤t0)) N (↑F:Int) t0
      | x=>frI (decide ((0:Int)≤t0)) N (↑F:Int) t0+frI (decide ((0:Int)≤t1)) N (↑F:Int) t1) +
      (1:Int); simp only [List.length_replicate,List.length_set,List.length_append,List.length_take,List.length_drop]; omega)
    (show (match (0 : Nat) with
      | (0:Nat)=>(0:Int)
      | (1:Nat)=>frI (decide ((0:Int)≤t0)) N (↑F:Int) t0
      | x=>frI (decide ((0:Int)≤t0)) N (↑F:Int) t0+frI (decide ((0:Int)≤t1)) N (↑F:Int) t1) +
      (1:Int) ≤
     (9223372036854775807:Int); simp only [List.length_replicate,List.length_set,List.length_append,List.length_take,List.length_drop]; omega)
    refine ar_add ?_ ?_
    refine an ?_ ?_
    (show (-9223372036854775808:Int)≤(↑(0:Nat):Int)+(1:Int); omega)
    (show (↑(0:Nat):Int)+(1:Int)≤(9223372036854775807:Int); omega)
    rotate_left
    (exfalso; omega)
    (exfalso; omega)
    all_goals exact fin
   ·have e:(frI (decide (0≤t0)) N (F:Int) t0)=0:=by unfold frI; rw [decide_eq_true h1,decide_eq_false h2]; rfl
    have fin:∃ a':Nat,(a'≤2∧2 - a' < 2 - 0)∧(⟨[(1,.d (.slice 9 (L.hrs H))),(10,.d (.int .i64 ((F:Nat):Int))),(14,.ptr 5 0),(25,.d (.int .i64 N)),(26,.d (.int .i64 (0))),(206,.d (.agg [.int .i64 t0,.int .i64 t1])),(207,.d (.int .i64 (0+1)))],[.none,.none,.none,.none,.none,.box [.d (.bool true),.d (.bool false),.d (.slice 2 (L.ods os))],.none,.none,.none,.none,.none,.none,.none,.none,.none,.none,.none,.none,.none,.none,.none]⟩:St)=⟨[(1,.d (.slice 9 (L.hrs H))),(10,.d (.int .i64 ((F:Nat):Int))),(14,.ptr 5 0),(25,.d (.int .i64 N)),(26,.d (.int .i64 (fO 0 (frI (decide (0≤t0)) N (F:Int) t0) ((frI (decide (0≤t0)) N (F:Int) t0)+(frI (decide (0≤t1)) N (F:Int) t1)) a'))),(206,.d (.agg [.int .i64 t0,.int .i64 t1])),(207,.d (.int .i64 (((a':Nat):Int))))],[.none,.none,.none,.none,.none,.box [.d (.bool true),.d (.bool false),.d (.slice 2 (L.ods os))],.none,.none,.none,.none,.none,.none,.none,.none,.none,.none,.none,.none,.none,.none,.none]⟩:=⟨1,⟨by decide,by decide⟩,by
     show (⟨[(1,.d (.slice 9 (L.hrs H))),(10,.d (.int .i64 ((F:Nat):Int))),(14,.ptr 5 0),(25,.d (.int .i64 N)),(26,.d (.int .i64 (0))),(206,.d (.agg [.int .i64 t0,.int .i64 t1])),(207,.d (.int .i64 (0+1)))],[.none,.none,.none,.none,.none,.box [.d (.bool true),.d (.bool false),.d (.slice 2 (L.ods os))],.none,.none,.none,.none,.none,.none,.none,.none,.none,.none,.none,.none,.none,.none,.none]⟩:St)=⟨[(1,.d (.slice 9 (L.hrs H))),(10,.d (.int .i64 ((F:Nat):Int))),(14,.ptr 5 0),(25,.d (.int .i64 N)),(26,.d (.int .i64 ((frI (decide (0≤t0)) N (F:Int) t0)))),(206,.d (.agg [.int .i64 t0,.int .i64 t1])),(207,.d (.int .i64 (((1:Nat):Int))))],[.none,.none,.none,.none,.none,.box [.d (.bool true),.d (.bool false),.d (.slice 2 (L.ods os))],.none,.none,.none,.none,.none,.none,.none,.none,.none,.none,.none,.none,.none,.none,.none]⟩
     rw [e]; rfl⟩
    refine sd ?_
    refine an ?_ ?_
    refine an ?_ ?_
    (show (0:Int)≤(↑(0:Nat):Int); omega)
    (show (↑(0:Nat):Int) < (↑(2:Nat):Int); omega)
    refine sd ?_
    refine b_le (fun t2=>?_) (fun t2=>?_)
    refine ar_sub ?_ ?_
    refine an ?_ ?_
    (show (-9223372036854775808:Int)≤N - t0; omega)
    (show N - t0≤(9223372036854775807:Int); omega)
    refine sd ?_
    refine b_le (fun t3=>?_) (fun t3=>?_)
    (exfalso; omega)
    refine ar_add ?_ ?_
    refine an ?_ ?_
    (show (-9223372036854775808:Int)≤(↑(0:Nat):Int)+(1:Int); omega)
    (show (↑(0:Nat):Int)+(1:Int)≤(9223372036854775807:Int); omega)
    rotate_left
    (exfalso; omega)
    all_goals exact fin
  ·have e:(frI (decide (0≤t0)) N (F:Int) t0)=0:=by unfold frI; rw [decide_eq_false h1]; rfl
   have fin:∃ a':Nat,(a'≤2∧2 - a' < 2 - 0)∧(⟨[(1,.d (.slice 9 (L.hrs H))),(10,.d (.int .i64 ((F:Nat):Int))),(14,.ptr 5 0),(25,.d (.int .i64 N)),(26,.d (.int .i64 (0))),(206,.d (.agg [.int .i64 t0,.int .i64 t1])),(207,.d (.int .i64 (0+1)))],[.none,.none,.none,.none,.none,.box [.d (.bool true),.d (.bool false),.d (.slice 2 (L.ods os))],.none,.none,.none,.none,.none,.none,.none,.none,.none,.none,.none,.none,.none,.none,.none]⟩:St)=⟨[(1,.d (.slice 9 (L.hrs H))),(10,.d (.int .i64 ((F:Nat):Int))),(14,.ptr 5 0),(25,.d (.int .i64 N)),(26,.d (.int .i64 (fO 0 (frI (decide (0≤t0)) N (F:Int) t0) ((frI (decide (0≤t0)) N (F:Int) t0)+(frI (decide (0≤t1)) N (F:Int) t1)) a'))),(206,.d (.agg [.int .i64 t0,.int .i64 t1])),(207,.d (.int .i64 (((a':Nat):Int))))],[.none,.none,.none,.none,.none,.box [.d (.bool true),.d (.bool false),.d (.slice 2 (L.ods os))],.none,.none,.none,.none,.none,.none,.none,.none,.none,.none,.none,.none,.none,.none,.none]⟩:=⟨1,⟨by decide,by decide⟩,by
    show (⟨[(1,.d (.slice 9 (L.hrs H))),(10,.d (.int .i64 ((F:Nat):Int))),(14,.ptr 5 0),(25,.d (.int .i64 N)),(26,.d (.int .i64 (0))),(206,.d (.agg [.int .i64 t0,.int .i64 t1])),(207,.d (.int .i64 (0+1)))],[.none,.none,.none,.none,.none,.box [.d (.bool true),.d (.bool false),.d (.slice 2 (L.ods os))],.none,.none,.none,.none,.none,.none,.none,.none,.none,.none,.none,.none,.none,.none,.none]⟩:St)=⟨[(1,.d (.slice 9 (L.hrs H))),(10,.d (.int .i64 ((F:Nat):Int))),(14,.ptr 5 0),(25,.d (.int .i64 N)),(26,.d (.int .i64 ((frI (decide (0≤t0)) N (F:Int) t0)))),(206,.d (.agg [.int .i64 t0,.int .i64 t1])),(207,.d (.int .i64 (((1:Nat):Int))))],[.none,.none,.none,.none,.none,.box [.d (.bool true),.d (.bool false),.d (.slice 2 (L.ods os))],.none,.none,.none,.none,.none,.none,.none,.none,.none,.none,.none,.none,.none,.none,.none]⟩
    rw [e]; rfl⟩
   refine sd ?_
   refine an ?_ ?_
   refine an ?_ ?_
   (show (0:Int)≤(↑(0:Nat):Int); omega)
   (show (↑(0:Nat):Int) < (↑(2:Nat):Int); omega)
   refine sd ?_
   refine b_le (fun t2=>?_) (fun t2=>?_)
   (exfalso; omega)
   refine sd ?_
   refine ar_add ?_ ?_
   refine an ?_ ?_
   (show (-9223372036854775808:Int)≤(↑(0:Nat):Int)+(1:Int); omega)
   (show (↑(0:Nat):Int)+(1:Int)≤(9223372036854775807:Int); omega)
   rotate_left
   all_goals exact fin
 | 1,_ =>
  dsimp only [fO]
  by_cases h1:0≤t1
  ·by_cases h2:N - t1≤(F:Int)
   ·have e:(frI (decide (0≤t1)) N (F:Int) t1)=1:=by unfold frI; rw [decide_eq_true h1,decide_eq_true h2]; rfl
    have fin:∃ a':Nat,(a'≤2∧2 - a' < 2 - 1)∧(⟨[(1,.d (.slice 9 (L.hrs H))),(10,.d (.int .i64 ((F:Nat):Int))),(14,.ptr 5 0),(25,.d (.int .i64 N)),(26,.d (.int .i64 ((frI (decide (0≤t0)) N (F:Int) t0)+1))),(206,.d (.agg [.int .i64 t0,.int .i64 t1])),(207,.d (.int .i64 (1+1)))],[.none,.none,.none,.none,.none,.box [.d (.bool true),.d (.bool false),.d (.slice 2 (L.ods os))],.none,.none,.none,.none,.none,.none,.none,.none,.none,.none,.none,.none,.none,.none,.none]⟩:St)=⟨[(1,.d (.slice 9 (L.hrs H))),(10,.d (.int .i64 ((F:Nat):Int))),(14,.ptr 5 0),(25,.d (.int .i64 N)),(26,.d (.int .i64 (fO 0 (frI (decide (0≤t0)) N (F:Int) t0) ((frI (decide (0≤t0)) N (F:Int) t0)+(frI (decide (0≤t1)) N (F:Int) t1)) a'))),(206,.d (.agg [.int .i64 t0,.int .i64 t1])),(207,.d (.int .i64 (((a':Nat):Int))))],[.none,.none,.none,.none,.none,.box [.d (.bool true),.d (.bool false),.d (.slice 2 (L.ods os))],.none,.none,.none,.none,.none,.none,.none,.none,.none,.none,.none,.none,.none,.none,.none]⟩:=⟨2,⟨by decide,by decide⟩,by
     show (⟨[(1,.d (.slice 9 (L.hrs H))),(10,.d (.int .i64 ((F:Nat):Int))),(14,.ptr 5 0),(25,.d (.int .i64 N)),(26,.d (.int .i64 ((frI (decide (0≤t0)) N (F:Int) t0)+1))),(206,.d (.agg [.int .i64 t0,.int .i64 t1])),(207,.d (.int .i64 (1+1)))],[.none,.none,.none,.none,.none,.box [.d (.bool true),.d (.bool false),.d (.slice 2 (L.ods os))],.none,.none,.none,.none,.none,.none,.none,.none,.none,.none,.none,.none,.none,.none,.none]⟩:St)=⟨[(1,.d (.slice 9 (L.hrs H))),(10,.d (.int .i64 ((F:Nat):Int))),(14,.ptr 5 0),(25,.d (.int .i64 N)),(26,.d (.int .i64 ((frI (decide (0≤t0)) N (F:Int) t0)+(frI (decide (0≤t1)) N (F:Int) t1)))),(206,.d (.agg [.int .i64 t0,.int .i64 t1])),(207,.d (.int .i64 (((2:Nat):Int))))],[.none,.none,.none,.none,.none,.box [.d (.bool true),.d (.bool false),.d (.slice 2 (L.ods os))],.none,.none,.none,.none,.none,.none,.none,.none,.none,.none,.none,.none,.none,.none,.none]⟩
     rw [e]; rfl⟩
    refine sd ?_
    refine an ?_ ?_
    refine an ?_ ?_
    (show (0:Int)≤(↑(1:Nat):Int); omega)
    (show (↑(1:Nat):Int) < (↑(2:Nat):Int); omega)
    refine sd ?_
    refine b_le (fun t2=>?_) (fun t2=>?_)
    refine ar_sub ?_ ?_
    refine an ?_ ?_
    (show (-9223372036854775808:Int)≤N - t1; omega)
    (show N - t1≤(9223372036854775807:Int); omega)
    refine sd ?_
    refine b_le (fun t3=>?_) (fun t3=>?_)
    refine ar_add ?_ ?_
    refine an ?_ ?_
    (show (-9223372036854775808:Int) ≤
     (match (1:Nat) with
      | (0:Nat)=>(0:Int)
      | (1:Nat)=>frI (decide ((0:Int)≤t0)) N (↑F:Int) t0
      | x=>frI (decide ((0:Int)≤t0)) N (↑F:Int) t0+frI (decide ((0:Int)≤t1)) N (↑F:Int) t1) +
      (1:Int); simp only [List.length_replicate,List.length_set,List.length_append,List.length_take,List.length_drop]; omega)
    (show (match (1 : Nat) with
      | (0:Nat)=>(0:Int)
      | (1:Nat)=>frI (decide ((0:Int)≤t0)) N (↑F:Int) t0
      | x=>frI (decide ((0:Int)≤t0)) N (↑F:Int) t0+frI (decide ((0:Int)≤t1)) N (↑F:Int) t1) +
      (1:Int) ≤
     (9223372036854775807:Int); simp only [List.length_replicate,List.length_set,List.length_append,List.length_take,List.length_drop]; omega)
    refine ar_add ?_ ?_
    refine an ?_ ?_
    (show (-9223372036854775808:Int)≤(↑(1:Nat):Int)+(1:Int); omega)
    (show (↑(1:Nat):Int)+(1:Int)≤(9223372036854775807:Int); omega)
    rotate_left
    (exfalso; omega)
    (exfalso; omega)
    all_goals exact fin
   ·have e:(frI (decide (0≤t1)) N (F:Int) t1)=0:=by unfold frI; rw [decide_eq_true h1,decide_eq_false h2]; rfl
    have fin:∃ a':Nat,(a'≤2∧2 - a' < 2 - 1)∧(⟨[(1,.d (.slice 9 (L.hrs H))),(10,.d (.int .i64 ((F:Nat):Int))),(14,.ptr 5 0),(25,.d (.int .i64 N)),(26,.d (.int .i64 ((frI (decide (0≤t0)) N (F:Int) t0)))),(206,.d (.agg [.int .i64 t0,.int .i64 t1])),(207,.d (.int .i64 (1+1)))],[.none,.none,.none,.none,.none,.box [.d (.bool true),.d (.bool false),.d (.slice 2 (L.ods os))],.none,.none,.none,.none,.none,.none,.none,.none,.none,.none,.none,.none,.none,.none,.none]⟩:St)=⟨[(1,.d (.slice 9 (L.hrs H))),(10,.d (.int .i64 ((F:Nat):Int))),(14,.ptr 5 0),(25,.d (.int .i64 N)),(26,.d (.int .i64 (fO 0 (frI (decide (0≤t0)) N (F:Int) t0) ((frI (decide (0≤t0)) N (F:Int) t0)+(frI (decide (0≤t1)) N (F:Int) t1)) a'))),(206,.d (.agg [.int .i64 t0,.int .i64 t1])),(207,.d (.int .i64 (((a':Nat):Int))))],[.none,.none,.none,.none,.none,.box [.d (.bool true),.d (.bool false),.d (.slice 2 (L.ods os))],.none,.none,.none,.none,.none,.none,.none,.none,.none,.none,.none,.none,.none,.none,.none]⟩:=⟨2,⟨by decide,by decide⟩,by
     show (⟨[(1,.d (.slice 9 (L.hrs H))),(10,.d (.int .i64 ((F:Nat):Int))),(14,.ptr 5 0),(25,.d (.int .i64 N)),(26,.d (.int .i64 ((frI (decide (0≤t0)) N (F:Int) t0)))),(206,.d (.agg [.int .i64 t0,.int .i64 t1])),(207,.d (.int .i64 (1+1)))],[.none,.none,.none,.none,.none,.box [.d (.bool true),.d (.bool false),.d (.slice 2 (L.ods os))],.none,.none,.none,.none,.none,.none,.none,.none,.none,.none,.none,.none,.none,.none,.none]⟩:St)=⟨[(1,.d (.slice 9 (L.hrs H))),(10,.d (.int .i64 ((F:Nat):Int))),(14,.ptr 5 0),(25,.d (.int .i64 N)),(26,.d (.int .i64 ((frI (decide (0≤t0)) N (F:Int) t0)+(frI (decide (0≤t1)) N (F:Int) t1)))),(206,.d (.agg [.int .i64 t0,.int .i64 t1])),(207,.d (.int .i64 (((2:Nat):Int))))],[.none,.none,.none,.none,.none,.box [.d (.bool true),.d (.bool false),.d (.slice 2 (L.ods os))],.none,.none,.none,.none,.none,.none,.none,.none,.none,.none,.none,.none,.none,.none,.none]⟩
     rw [e,Int.add_zero]; rfl⟩
    refine sd ?_
    refine an ?_ ?_
    refine an ?_ ?_
    (show (0:Int)≤(↑(1:Nat):Int); omega)
    (show (↑(1:Nat):Int) < (↑(2:Nat):Int); omega)
    refine sd ?_
    refine b_le (fun t2=>?_) (fun t2=>?_)
    refine ar_sub ?_ ?_
    refine an ?_ ?_
    (show (-9223372036854775808:Int)≤N - t1; omega)
    (show N - t1≤(9223372036854775807:Int); omega)
    refine sd ?_
    refine b_le (fun t3=>?_) (fun t3=>?_)
    (exfalso; omega)
    refine ar_add ?_ ?_
    refine an ?_ ?_
    (show (-9223372036854775808:Int)≤(↑(1:Nat):Int)+(1:Int); omega)
    (show (↑(1:Nat):Int)+(1:Int)≤(9223372036854775807:Int); omega)
    rotate_left
    (exfalso; omega)
    all_goals exact fin
  ·have e:(frI (decide (0≤t1)) N (F:Int) t1)=0:=by unfold frI; rw [decide_eq_false h1]; rfl
   have fin:∃ a':Nat,(a'≤2∧2 - a' < 2 - 1)∧(⟨[(1,.d (.slice 9 (L.hrs H))),(10,.d (.int .i64 ((F:Nat):Int))),(14,.ptr 5 0),(25,.d (.int .i64 N)),(26,.d (.int .i64 ((frI (decide (0≤t0)) N (F:Int) t0)))),(206,.d (.agg [.int .i64 t0,.int .i64 t1])),(207,.d (.int .i64 (1+1)))],[.none,.none,.none,.none,.none,.box [.d (.bool true),.d (.bool false),.d (.slice 2 (L.ods os))],.none,.none,.none,.none,.none,.none,.none,.none,.none,.none,.none,.none,.none,.none,.none]⟩:St)=⟨[(1,.d (.slice 9 (L.hrs H))),(10,.d (.int .i64 ((F:Nat):Int))),(14,.ptr 5 0),(25,.d (.int .i64 N)),(26,.d (.int .i64 (fO 0 (frI (decide (0≤t0)) N (F:Int) t0) ((frI (decide (0≤t0)) N (F:Int) t0)+(frI (decide (0≤t1)) N (F:Int) t1)) a'))),(206,.d (.agg [.int .i64 t0,.int .i64 t1])),(207,.d (.int .i64 (((a':Nat):Int))))],[.none,.none,.none,.none,.none,.box [.d (.bool true),.d (.bool false),.d (.slice 2 (L.ods os))],.none,.none,.none,.none,.none,.none,.none,.none,.none,.none,.none,.none,.none,.none,.none]⟩:=⟨2,⟨by decide,by decide⟩,by
    show (⟨[(1,.d (.slice 9 (L.hrs H))),(10,.d (.int .i64 ((F:Nat):Int))),(14,.ptr 5 0),(25,.d (.int .i64 N)),(26,.d (.int .i64 ((frI (decide (0≤t0)) N (F:Int) t0)))),(206,.d (.agg [.int .i64 t0,.int .i64 t1])),(207,.d (.int .i64 (1+1)))],[.none,.none,.none,.none,.none,.box [.d (.bool true),.d (.bool false),.d (.slice 2 (L.ods os))],.none,.none,.none,.none,.none,.none,.none,.none,.none,.none,.none,.none,.none,.none,.none]⟩:St)=⟨[(1,.d (.slice 9 (L.hrs H))),(10,.d (.int .i64 ((F:Nat):Int))),(14,.ptr 5 0),(25,.d (.int .i64 N)),(26,.d (.int .i64 ((frI (decide (0≤t0)) N (F:Int) t0)+(frI (decide (0≤t1)) N (F:Int) t1)))),(206,.d (.agg [.int .i64 t0,.int .i64 t1])),(207,.d (.int .i64 (((2:Nat):Int))))],[.none,.none,.none,.none,.none,.box [.d (.bool true),.d (.bool false),.d (.slice 2 (L.ods os))],.none,.none,.none,.none,.none,.none,.none,.none,.none,.none,.none,.none,.none,.none,.none]⟩
    rw [e,Int.add_zero]; rfl⟩
   refine sd ?_
   refine an ?_ ?_
   refine an ?_ ?_
   (show (0:Int)≤(↑(1:Nat):Int); omega)
   (show (↑(1:Nat):Int) < (↑(2:Nat):Int); omega)
   refine sd ?_
   refine b_le (fun t2=>?_) (fun t2=>?_)
   (exfalso; omega)
   refine sd ?_
   refine ar_add ?_ ?_
   refine an ?_ ?_
   (show (-9223372036854775808:Int)≤(↑(1:Nat):Int)+(1:Int); omega)
   (show (↑(1:Nat):Int)+(1:Int)≤(9223372036854775807:Int); omega)
   rotate_left
   all_goals exact fin
 | 2,_ =>
  dsimp only [fO]
  refine sd ?_
  rotate_left
  all_goals exact hQ _
 | n+3,h=>exact absurd h (by omega)
end Vc
