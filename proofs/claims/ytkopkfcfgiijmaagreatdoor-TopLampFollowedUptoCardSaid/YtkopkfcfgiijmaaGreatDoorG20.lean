import Derived.Test.YtkopkfcfgiijmaaGreatDoorG18
import Derived.Test.YtkopkfcfgiijmaaGreatDoorG19
set_option linter.unusedSectionVars false
set_option linter.unusedVariables false
set_option linter.unusedSimpArgs false
set_option maxRecDepth 10000
set_option maxHeartbeats 4000000
namespace Vc
open Go Go.Proofs
def bitB (v:Int) (i:Nat):Bool:=IntKind.u8.wrap ((BitVec.ofInt IntKind.u8.bits (v.fdiv (2 ^ min i IntKind.u8.bits)) &&& BitVec.ofInt IntKind.u8.bits 1).toNat:Int)==1
theorem shr_u8 {a:Int} {i:Nat} {K:Int→Prop} (hK:K (a.fdiv (2 ^ min i IntKind.u8.bits))):∃ r,(IntKind.u8=IntKind.u8∧shfF .shr .u8 a (i:Int)=some r)∧K r :=
 ⟨_,⟨rfl,by simp only [shfF]; rw [if_neg (by omega)]; rfl⟩,hK⟩
theorem and_u8 {a:Int} {K:Int→Prop} (hK:K (IntKind.u8.wrap ((BitVec.ofInt IntKind.u8.bits a &&& BitVec.ofInt IntKind.u8.bits 1).toNat:Int))):∃ r,(IntKind.u8=IntKind.u8∧IntKind.u8=IntKind.u8∧bitF .and .u8 a 1=some r)∧K r :=
 ⟨_,⟨rfl,rfl,rfl⟩,hK⟩
def bitsN (v:Int):Nat→List Int
 | 0=>[]
 | k+1=>bitsN v k++(bif bitB v k then [(k:Int)] else [])
theorem bitsN_yes {v:Int} {k:Nat} (h:bitB v k=true):bitsN v (k+1)=bitsN v k++[(k:Int)]:=by rw [bitsN,h]; rfl
theorem bitsN_no {v:Int} {k:Nat} (h:bitB v k=false):bitsN v (k+1)=bitsN v k:=by rw [bitsN,h]; exact List.append_nil _
theorem bitsN_len (v:Int):∀ k,(bitsN v k).length≤k
 | 0=>Nat.le_refl _
 | k+1=>by
  have:=bitsN_len v k
  rw [bitsN,List.length_append]
  cases bitB v k
  ·show _+0≤_; omega
  ·show _+1≤_; omega
def hop (h:Int × Int × Bool):Data:=.agg [.int .u8 h.1,.int .u8 h.2.1,.bool h.2.2]
def hops (l:List (Int × Int × Bool)):List Data:=l.map hop
theorem hops_len (l:List (Int × Int × Bool)):(hops l).length=l.length:=List.length_map _
def rdH (h:Int × Int × Bool):L.Rd:=⟨bitsN h.1 4,bitsN h.2.1 4,h.2.2⟩
def rdsH (l:List (Int × Int × Bool)):List L.Rd:=l.map rdH++[⟨[],[],false⟩,⟨[],[],false⟩,⟨[],[],false⟩]
def cellL:List Int→Nat→AVal
 | [],_=>.nils 1
 | a::r,id=>.sl id (ints (a::r)).length
def objL:List Int→AObj
 | []=>.none
 | a::r=>.row 3 1 (ints (a::r)) false
theorem cellL_app {l:List Int} {x:Int} {id:Nat}:cellL (l++[x]) id=.sl id (ints l++[Data.int .i64 x]).length:=by
 rw [← ints_app1]
 cases l <;> rfl
theorem objL_app {l:List Int} {x:Int}:objL (l++[x])=.row 3 1 (ints l++[.int .i64 x]) false:=by
 rw [← ints_app1]
 cases l <;> rfl
@[irreducible] def seg27i:ACode:=(.post [3,6,8,9,10] [0,1,2,3,4,5]
 (.block 2
 (.keep [3,5,6,8,9,10,17] [0,1]
 (.loop
 (.post [3,5,6,8,9,10,17] [2,3,4,5]
 (.seq
 (.reg [] [⟨some 18,.cmp .lss (.tmp 17) (.cst (.d (.int .i64 4))),none⟩])
 (.seq
 (.cond (.tmp 18)
 .skip
 (.exit 2))
 (.seq
 (.block 3
 (.seq
 (.reg [] [⟨some 19,.mov (.tmp 17),none⟩,
 ⟨some 7,.mov (.tmp 19),none⟩])
 (.seq
 (.seq
 (.reg [] [⟨some 20,.fad 0 (.tmp 5),none⟩,
 ⟨some 21,.ld false 1 (.tmp 20),none⟩,
 ⟨some 22,.mov (.tmp 7),none⟩,
 ⟨some 23,.shf .shr .u8 (.tmp 21) (.tmp 22),none⟩,
 ⟨some 24,.bit .and .u8 (.tmp 23) (.cst (.d (.int .u8 1))),none⟩,
 ⟨some 25,.cmp .eql (.tmp 24) (.cst (.d (.int .u8 1))),none⟩])
 (.cond (.tmp 25)
 (.reg [2,3] [⟨some 26,.fad 0 (.tmp 6),none⟩,
 ⟨some 27,.ld false 1 (.tmp 26),none⟩,
 ⟨some 28,.mov (.tmp 7),none⟩,
 ⟨some 29,.bsl 2 3 1 1 [(.int .i64 0)] [(0,(.tmp 28))],none⟩,
 ⟨some 30,.app 3 3 1 8 (.tmp 27) (.tmp 29),none⟩,
 ⟨some 31,.fad 0 (.tmp 6),none⟩,
 ⟨none,.st 1 (.tmp 31) (.tmp 30),none⟩])
 .skip))
 (.seq
 (.reg [] [⟨some 32,.fad 1 (.tmp 5),none⟩,
 ⟨some 33,.ld false 1 (.tmp 32),none⟩,
 ⟨some 34,.mov (.tmp 7),none⟩,
 ⟨some 35,.shf .shr .u8 (.tmp 33) (.tmp 34),none⟩,
 ⟨some 36,.bit .and .u8 (.tmp 35) (.cst (.d (.int .u8 1))),none⟩,
 ⟨some 37,.cmp .eql (.tmp 36) (.cst (.d (.int .u8 1))),none⟩])
 (.cond (.tmp 37)
 (.reg [4,5] [⟨some 38,.fad 1 (.tmp 6),none⟩,
 ⟨some 39,.ld false 1 (.tmp 38),none⟩,
 ⟨some 40,.mov (.tmp 7),none⟩,
 ⟨some 41,.bsl 4 3 1 1 [(.int .i64 0)] [(0,(.tmp 40))],none⟩,
 ⟨some 42,.app 5 3 1 8 (.tmp 39) (.tmp 41),none⟩,
 ⟨some 43,.fad 1 (.tmp 6),none⟩,
 ⟨none,.st 1 (.tmp 43) (.tmp 42),none⟩])
 .skip)))))
 (.reg [] [⟨some 44,.arith .add .i64 (.tmp 17) (.cst (.d (.int .i64 1))),none⟩,
 ⟨some 17,.mov (.tmp 44),none⟩])))))))))
theorem v27i {n N : Nat} {l : List (Int × Int × Bool)} {h : Int × Int × Bool} {j : Int} {R : List Data} {Q : AExit → St → Prop}
  (hq:Q .normal ⟨[(3,.sl 7 N),(6,.ptr 1 0),(8,.d (.slice 3 (hops l))),(9,.d (.int .i64 (hops l).length)),(10,.d (.int .i64 j))],[.none,.box [cellL (bitsN h.1 4) 3,cellL (bitsN h.2.1 4) 5,.d (.bool h.2.2)],.none,objL (bitsN h.1 4),.none,objL (bitsN h.2.1 4),.none,.row 148 3 R false,.none]⟩) :
  vc Tryz.prog n seg27i ⟨[(3,.sl 7 N),(5,.ptr 0 0),(6,.ptr 1 0),(8,.d (.slice 3 (hops l))),(9,.d (.int .i64 (hops l).length)),(10,.d (.int .i64 j)),(17,.d (.int .i64 0))],[.box [.d (.int .u8 h.1),.d (.int .u8 h.2.1),.d (.bool h.2.2)],.box [cellL [] 3,cellL [] 5,.d (.bool h.2.2)],.none,objL [],.none,objL [],.none,.row 148 3 R false,.none]⟩ Q:=by
 unfold seg27i
 rotate_left
 refine loop_u (fun k:Nat=>[(17,.d (.int .i64 k))]) (fun k=>[(1,.box [cellL (bitsN h.1 k) 3,cellL (bitsN h.2.1 k) 5,.d (.bool h.2.2)]),(3,objL (bitsN h.1 k)),(5,objL (bitsN h.2.1 k))]) (fun k=>k≤4) (fun k=>4 - k) 0 rfl (Nat.zero_le _) ?_
 intro k hk
 have hk:k≤4:=hk
 dsimp only
 have hl1:=bitsN_len h.1 k
 have hl2:=bitsN_len h.2.1 k
 have hi1:=ints_len (bitsN h.1 k)
 have hi2:=ints_len (bitsN h.2.1 k)
 by_cases hk4:k < 4
 ·have fin : ∀ c1 c2 o1 o2, c1 = cellL (bitsN h.1 (k + 1)) 3 → c2 = cellL (bitsN h.2.1 (k + 1)) 5 → o1 = objL (bitsN h.1 (k + 1)) → o2 = objL (bitsN h.2.1 (k + 1)) →
    ∃ a':Nat,(a'≤4∧4 - a' < 4 - k)∧(⟨[(3,.sl 7 N),(5,.ptr 0 0),(6,.ptr 1 0),(8,.d (.slice 3 (hops l))),(9,.d (.int .i64 (hops l).length)),(10,.d (.int .i64 j)),(17,.d (.int .i64 ((k:Int)+1)))],[.box [.d (.int .u8 h.1),.d (.int .u8 h.2.1),.d (.bool h.2.2)],.box [c1,c2,.d (.bool h.2.2)],.none,o1,.none,o2,.none,.row 148 3 R false,.none]⟩:St) =
     ⟨[(3,.sl 7 N),(5,.ptr 0 0),(6,.ptr 1 0),(8,.d (.slice 3 (hops l))),(9,.d (.int .i64 (hops l).length)),(10,.d (.int .i64 j)),(17,.d (.int .i64 (a':Nat)))],[.box [.d (.int .u8 h.1),.d (.int .u8 h.2.1),.d (.bool h.2.2)],.box [cellL (bitsN h.1 a') 3,cellL (bitsN h.2.1 a') 5,.d (.bool h.2.2)],.none,objL (bitsN h.1 a'),.none,objL (bitsN h.2.1 a'),.none,.row 148 3 R false,.none]⟩:=fun c1 c2 o1 o2 e1 e2 e3 e4=>⟨k+1,⟨by omega,by omega⟩,by rw [e1,e2,e3,e4]; rfl⟩
  cases hb1:bitB h.1 k <;> cases hb2:bitB h.2.1 k
  ·rw [bitsN_no hb1,bitsN_no hb2] at fin
   have hb1':=hb1
   have hb2':=hb2
   unfold bitB at hb1' hb2'
   generalize bitsN h.1 k=A at *
   generalize bitsN h.2.1 k=B at *
   cases A with
   | nil =>
    cases B with
    | nil =>
     refine sd ?_
     refine b_lt (fun t1=>?_) (fun t1=>?_)
     refine shr_u8 ?_
     refine and_u8 ?_
     refine sd ?_
     refine b_f hb1' ?_
     refine shr_u8 ?_
     refine and_u8 ?_
     refine sd ?_
     refine b_f hb2' ?_
     refine ar_add ?_ ?_
     refine an ?_ ?_
     (show (-9223372036854775808:Int)≤(↑k:Int)+(1:Int); omega)
     (show (↑k:Int)+(1:Int)≤(9223372036854775807:Int); omega)
     rotate_left
     (exfalso; omega)
     all_goals exact fin _ _ _ _ rfl rfl rfl rfl
    | cons b B =>
     have hB0:=ints_len (b::B)
     have hB1:(ints (b::B)).length+1≤2 ^ 47:=by omega
     have hB8:((ints (b::B)).length+1) * 8≤2 ^ 47:=by omega
     refine sd ?_
     refine b_lt (fun t1=>?_) (fun t1=>?_)
     refine shr_u8 ?_
     refine and_u8 ?_
     refine sd ?_
     refine b_f hb1' ?_
     refine shr_u8 ?_
     refine and_u8 ?_
     refine sd ?_
     refine b_f hb2' ?_
     refine ar_add ?_ ?_
     refine an ?_ ?_
     (show (-9223372036854775808:Int)≤(↑k:Int)+(1:Int); omega)
     (show (↑k:Int)+(1:Int)≤(9223372036854775807:Int); omega)
     rotate_left
     (exfalso; omega)
     all_goals exact fin _ _ _ _ rfl rfl rfl rfl
   | cons a A =>
    have hA0:=ints_len (a::A)
    have hA1:(ints (a::A)).length+1≤2 ^ 47:=by omega
    have hA8:((ints (a::A)).length+1) * 8≤2 ^ 47:=by omega
    cases B with
    | nil =>
     refine sd ?_
     refine b_lt (fun t1=>?_) (fun t1=>?_)
     refine shr_u8 ?_
     refine and_u8 ?_
     refine sd ?_
     refine b_f hb1' ?_
     refine shr_u8 ?_
     refine and_u8 ?_
     refine sd ?_
     refine b_f hb2' ?_
     refine ar_add ?_ ?_
     refine an ?_ ?_
     (show (-9223372036854775808:Int)≤(↑k:Int)+(1:Int); omega)
     (show (↑k:Int)+(1:Int)≤(9223372036854775807:Int); omega)
     rotate_left
     (exfalso; omega)
     all_goals exact fin _ _ _ _ rfl rfl rfl rfl
    | cons b B =>
     have hB0:=ints_len (b::B)
     have hB1:(ints (b::B)).length+1≤2 ^ 47:=by omega
     have hB8:((ints (b::B)).length+1) * 8≤2 ^ 47:=by omega
     refine sd ?_
     refine b_lt (fun t1=>?_) (fun t1=>?_)
     refine shr_u8 ?_
     refine and_u8 ?_
     refine sd ?_
     refine b_f hb1' ?_
     refine shr_u8 ?_
     refine and_u8 ?_
     refine sd ?_
     refine b_f hb2' ?_
     refine ar_add ?_ ?_
     refine an ?_ ?_
     (show (-9223372036854775808:Int)≤(↑k:Int)+(1:Int); omega)
     (show (↑k:Int)+(1:Int)≤(9223372036854775807:Int); omega)
     rotate_left
     (exfalso; omega)
     all_goals exact fin _ _ _ _ rfl rfl rfl rfl
  ·rw [bitsN_no hb1,bitsN_yes hb2,cellL_app,objL_app] at fin
   have hb1':=hb1
   have hb2':=hb2
   unfold bitB at hb1' hb2'
   generalize bitsN h.1 k=A at *
   generalize bitsN h.2.1 k=B at *
   cases A with
   | nil =>
    cases B with
    | nil =>
     refine sd ?_
     refine b_lt (fun t1=>?_) (fun t1=>?_)
     refine shr_u8 ?_
     refine and_u8 ?_
     refine sd ?_
     refine b_f hb1' ?_
     refine shr_u8 ?_
     refine and_u8 ?_
     refine sd ?_
     refine b_t hb2' ?_
     refine sd ?_
     refine sd ?_
     refine sd ?_
     refine an ?_ ?_
     refine an ?_ ?_
     (show (1:Nat) * (8:Nat)≤(2:Nat) ^ (47:Nat); omega)
     (show (1:Nat)≤(2:Nat) ^ (47:Nat); omega)
     refine sd ?_
     refine ar_add ?_ ?_
     refine an ?_ ?_
     (show (-9223372036854775808:Int)≤(↑k:Int)+(1:Int); omega)
     (show (↑k:Int)+(1:Int)≤(9223372036854775807:Int); omega)
     rotate_left
     (exfalso; omega)
     all_goals exact fin _ _ _ _ rfl rfl rfl rfl
    | cons b B =>
     have hB0:=ints_len (b::B)
     have hB1:(ints (b::B)).length+1≤2 ^ 47:=by omega
     have hB8:((ints (b::B)).length+1) * 8≤2 ^ 47:=by omega
     refine sd ?_
     refine b_lt (fun t1=>?_) (fun t1=>?_)
     refine shr_u8 ?_
     refine and_u8 ?_
     refine sd ?_
     refine b_f hb1' ?_
     refine shr_u8 ?_
     refine and_u8 ?_
     refine sd ?_
     refine b_t hb2' ?_
     refine sd ?_
     refine sd ?_
     refine sd ?_
     refine an ?_ ?_
     refine an ?_ ?_
     exact rfl
     refine an ?_ ?_
     exact rfl
     refine an ?_ ?_
     exact rfl
     refine an ?_ ?_
     assumption
     assumption
     refine sd ?_
     refine ar_add ?_ ?_
     refine an ?_ ?_
     (show (-9223372036854775808:Int)≤(↑k:Int)+(1:Int); omega)
     (show (↑k:Int)+(1:Int)≤(9223372036854775807:Int); omega)
     rotate_left
     (exfalso; omega)
     all_goals exact fin _ _ _ _ rfl rfl rfl rfl
   | cons a A =>
    have hA0:=ints_len (a::A)
    have hA1:(ints (a::A)).length+1≤2 ^ 47:=by omega
    have hA8:((ints (a::A)).length+1) * 8≤2 ^ 47:=by omega
    cases B with
    | nil =>
     refine sd ?_
     refine b_lt (fun t1=>?_) (fun t1=>?_)
     refine shr_u8 ?_
     refine and_u8 ?_
     refine sd ?_
     refine b_f hb1' ?_
     refine shr_u8 ?_
     refine and_u8 ?_
     refine sd ?_
     refine b_t hb2' ?_
     refine sd ?_
     refine sd ?_
     refine sd ?_
     refine an ?_ ?_
     refine an ?_ ?_
     (show (1:Nat) * (8:Nat)≤(2:Nat) ^ (47:Nat); omega)
     (show (1:Nat)≤(2:Nat) ^ (47:Nat); omega)
     refine sd ?_
     refine ar_add ?_ ?_
     refine an ?_ ?_
     (show (-9223372036854775808:Int)≤(↑k:Int)+(1:Int); omega)
     (show (↑k:Int)+(1:Int)≤(9223372036854775807:Int); omega)
     rotate_left
     (exfalso; omega)
     all_goals exact fin _ _ _ _ rfl rfl rfl rfl
    | cons b B =>
     have hB0:=ints_len (b::B)
     have hB1:(ints (b::B)).length+1≤2 ^ 47:=by omega
     have hB8:((ints (b::B)).length+1) * 8≤2 ^ 47:=by omega
     refine sd ?_
     refine b_lt (fun t1=>?_) (fun t1=>?_)
     refine shr_u8 ?_
     refine and_u8 ?_
     refine sd ?_
     refine b_f hb1' ?_
     refine shr_u8 ?_
     refine and_u8 ?_
     refine sd ?_
     refine b_t hb2' ?_
     refine sd ?_
     refine sd ?_
     refine sd ?_
     refine an ?_ ?_
     refine an ?_ ?_
     exact rfl
     refine an ?_ ?_
     exact rfl
     refine an ?_ ?_
     exact rfl
     refine an ?_ ?_
     assumption
     assumption
     refine sd ?_
     refine ar_add ?_ ?_
     refine an ?_ ?_
     (show (-9223372036854775808:Int)≤(↑k:Int)+(1:Int); omega)
     (show (↑k:Int)+(1:Int)≤(9223372036854775807:Int); omega)
     rotate_left
     (exfalso; omega)
     all_goals exact fin _ _ _ _ rfl rfl rfl rfl
  ·rw [bitsN_yes hb1,bitsN_no hb2,cellL_app,objL_app] at fin
   have hb1':=hb1
   have hb2':=hb2
   unfold bitB at hb1' hb2'
   generalize bitsN h.1 k=A at *
   generalize bitsN h.2.1 k=B at *
   cases A with
   | nil =>
    cases B with
    | nil =>
     refine sd ?_
     refine b_lt (fun t1=>?_) (fun t1=>?_)
     refine shr_u8 ?_
     refine and_u8 ?_
     refine sd ?_
     refine b_t hb1' ?_
     refine sd ?_
     refine sd ?_
     refine sd ?_
     refine an ?_ ?_
     refine an ?_ ?_
     (show (1:Nat) * (8:Nat)≤(2:Nat) ^ (47:Nat); omega)
     (show (1:Nat)≤(2:Nat) ^ (47:Nat); omega)
     refine sd ?_
     refine shr_u8 ?_
     refine and_u8 ?_
     refine sd ?_
     refine b_f hb2' ?_
     refine ar_add ?_ ?_
     refine an ?_ ?_
     (show (-9223372036854775808:Int)≤(↑k:Int)+(1:Int); omega)
     (show (↑k:Int)+(1:Int)≤(9223372036854775807:Int); omega)
     rotate_left
     (exfalso; omega)
     all_goals exact fin _ _ _ _ rfl rfl rfl rfl
    | cons b B =>
     have hB0:=ints_len (b::B)
     have hB1:(ints (b::B)).length+1≤2 ^ 47:=by omega
     have hB8:((ints (b::B)).length+1) * 8≤2 ^ 47:=by omega
     refine sd ?_
     refine b_lt (fun t1=>?_) (fun t1=>?_)
     refine shr_u8 ?_
     refine and_u8 ?_
     refine sd ?_
     refine b_t hb1' ?_
     refine sd ?_
     refine sd ?_
     refine sd ?_
     refine an ?_ ?_
     refine an ?_ ?_
     (show (1:Nat) * (8:Nat)≤(2:Nat) ^ (47:Nat); omega)
     (show (1:Nat)≤(2:Nat) ^ (47:Nat); omega)
     refine sd ?_
     refine shr_u8 ?_
     refine and_u8 ?_
     refine sd ?_
     refine b_f hb2' ?_
     refine ar_add ?_ ?_
     refine an ?_ ?_
     (show (-9223372036854775808:Int)≤(↑k:Int)+(1:Int); omega)
     (show (↑k:Int)+(1:Int)≤(9223372036854775807:Int); omega)
     rotate_left
     (exfalso; omega)
     all_goals exact fin _ _ _ _ rfl rfl rfl rfl
   | cons a A =>
    have hA0:=ints_len (a::A)
    have hA1:(ints (a::A)).length+1≤2 ^ 47:=by omega
    have hA8:((ints (a::A)).length+1) * 8≤2 ^ 47:=by omega
    cases B with
    | nil =>
     refine sd ?_
     refine b_lt (fun t1=>?_) (fun t1=>?_)
     refine shr_u8 ?_
     refine and_u8 ?_
     refine sd ?_
     refine b_t hb1' ?_
     refine sd ?_
     refine sd ?_
     refine sd ?_
     refine an ?_ ?_
     refine an ?_ ?_
     exact rfl
     refine an ?_ ?_
     exact rfl
     refine an ?_ ?_
     exact rfl
     refine an ?_ ?_
     assumption
     assumption
     refine sd ?_
     refine shr_u8 ?_
     refine and_u8 ?_
     refine sd ?_
     refine b_f hb2' ?_
     refine ar_add ?_ ?_
     refine an ?_ ?_
     (show (-9223372036854775808:Int)≤(↑k:Int)+(1:Int); omega)
     (show (↑k:Int)+(1:Int)≤(9223372036854775807:Int); omega)
     rotate_left
     (exfalso; omega)
     all_goals exact fin _ _ _ _ rfl rfl rfl rfl
    | cons b B =>
     have hB0:=ints_len (b::B)
     have hB1:(ints (b::B)).length+1≤2 ^ 47:=by omega
     have hB8:((ints (b::B)).length+1) * 8≤2 ^ 47:=by omega
     refine sd ?_
     refine b_lt (fun t1=>?_) (fun t1=>?_)
     refine shr_u8 ?_
     refine and_u8 ?_
     refine sd ?_
     refine b_t hb1' ?_
     refine sd ?_
     refine sd ?_
     refine sd ?_
     refine an ?_ ?_
     refine an ?_ ?_
     exact rfl
     refine an ?_ ?_
     exact rfl
     refine an ?_ ?_
     exact rfl
     refine an ?_ ?_
     assumption
     assumption
     refine sd ?_
     refine shr_u8 ?_
     refine and_u8 ?_
     refine sd ?_
     refine b_f hb2' ?_
     refine ar_add ?_ ?_
     refine an ?_ ?_
     (show (-9223372036854775808:Int)≤(↑k:Int)+(1:Int); omega)
     (show (↑k:Int)+(1:Int)≤(9223372036854775807:Int); omega)
     rotate_left
     (exfalso; omega)
     all_goals exact fin _ _ _ _ rfl rfl rfl rfl
  ·rw [bitsN_yes hb1,bitsN_yes hb2,cellL_app,objL_app,cellL_app,objL_app] at fin
   have hb1':=hb1
   have hb2':=hb2
   unfold bitB at hb1' hb2'
   generalize bitsN h.1 k=A at *
   generalize bitsN h.2.1 k=B at *
   cases A with
   | nil =>
    cases B with
    | nil =>
     refine sd ?_
     refine b_lt (fun t1=>?_) (fun t1=>?_)
     refine shr_u8 ?_
     refine and_u8 ?_
     refine sd ?_
     refine b_t hb1' ?_
     refine sd ?_
     refine sd ?_
     refine sd ?_
     refine an ?_ ?_
     refine an ?_ ?_
     (show (1:Nat) * (8:Nat)≤(2:Nat) ^ (47:Nat); omega)
     (show (1:Nat)≤(2:Nat) ^ (47:Nat); omega)
     refine sd ?_
     refine shr_u8 ?_
     refine and_u8 ?_
     refine sd ?_
     refine b_t hb2' ?_
     refine sd ?_
     refine sd ?_
     refine sd ?_
     refine an ?_ ?_
     refine an ?_ ?_
     (show (1:Nat) * (8:Nat)≤(2:Nat) ^ (47:Nat); omega)
     (show (1:Nat)≤(2:Nat) ^ (47:Nat); omega)
     refine sd ?_
     refine ar_add ?_ ?_
     refine an ?_ ?_
     (show (-9223372036854775808:Int)≤(↑k:Int)+(1:Int); omega)
     (show (↑k:Int)+(1:Int)≤(9223372036854775807:Int); omega)
     rotate_left
     (exfalso; omega)
     all_goals exact fin _ _ _ _ rfl rfl rfl rfl
    | cons b B =>
     have hB0:=ints_len (b::B)
     have hB1:(ints (b::B)).length+1≤2 ^ 47:=by omega
     have hB8:((ints (b::B)).length+1) * 8≤2 ^ 47:=by omega
     refine sd ?_
     refine b_lt (fun t1=>?_) (fun t1=>?_)
     refine shr_u8 ?_
     refine and_u8 ?_
     refine sd ?_
     refine b_t hb1' ?_
     refine sd ?_
     refine sd ?_
     refine sd ?_
     refine an ?_ ?_
     refine an ?_ ?_
     (show (1:Nat) * (8:Nat)≤(2:Nat) ^ (47:Nat); omega)
     (show (1:Nat)≤(2:Nat) ^ (47:Nat); omega)
     refine sd ?_
     refine shr_u8 ?_
     refine and_u8 ?_
     refine sd ?_
     refine b_t hb2' ?_
     refine sd ?_
     refine sd ?_
     refine sd ?_
     refine an ?_ ?_
     refine an ?_ ?_
     exact rfl
     refine an ?_ ?_
     exact rfl
     refine an ?_ ?_
     exact rfl
     refine an ?_ ?_
     assumption
     assumption
     refine sd ?_
     refine ar_add ?_ ?_
     refine an ?_ ?_
     (show (-9223372036854775808:Int)≤(↑k:Int)+(1:Int); omega)
     (show (↑k:Int)+(1:Int)≤(9223372036854775807:Int); omega)
     rotate_left
     (exfalso; omega)
     all_goals exact fin _ _ _ _ rfl rfl rfl rfl
   | cons a A =>
    have hA0:=ints_len (a::A)
    have hA1:(ints (a::A)).length+1≤2 ^ 47:=by omega
    have hA8:((ints (a::A)).length+1) * 8≤2 ^ 47:=by omega
    cases B with
    | nil =>
     refine sd ?_
     refine b_lt (fun t1=>?_) (fun t1=>?_)
     refine shr_u8 ?_
     refine and_u8 ?_
     refine sd ?_
     refine b_t hb1' ?_
     refine sd ?_
     refine sd ?_
     refine sd ?_
     refine an ?_ ?_
     refine an ?_ ?_
     exact rfl
     refine an ?_ ?_
     exact rfl
     refine an ?_ ?_
     exact rfl
     refine an ?_ ?_
     assumption
     assumption
     refine sd ?_
     refine shr_u8 ?_
     refine and_u8 ?_
     refine sd ?_
     refine b_t hb2' ?_
     refine sd ?_
     refine sd ?_
     refine sd ?_
     refine an ?_ ?_
     refine an ?_ ?_
     (show (1:Nat) * (8:Nat)≤(2:Nat) ^ (47:Nat); omega)
     (show (1:Nat)≤(2:Nat) ^ (47:Nat); omega)
     refine sd ?_
     refine ar_add ?_ ?_
     refine an ?_ ?_
     (show (-9223372036854775808:Int)≤(↑k:Int)+(1:Int); omega)
     (show (↑k:Int)+(1:Int)≤(9223372036854775807:Int); omega)
     rotate_left
     (exfalso; omega)
     all_goals exact fin _ _ _ _ rfl rfl rfl rfl
    | cons b B =>
     have hB0:=ints_len (b::B)
     have hB1:(ints (b::B)).length+1≤2 ^ 47:=by omega
     have hB8:((ints (b::B)).length+1) * 8≤2 ^ 47:=by omega
     refine sd ?_
     refine b_lt (fun t1=>?_) (fun t1=>?_)
     refine shr_u8 ?_
     refine and_u8 ?_
     refine sd ?_
     refine b_t hb1' ?_
     refine sd ?_
     refine sd ?_
     refine sd ?_
     refine an ?_ ?_
     refine an ?_ ?_
     exact rfl
     refine an ?_ ?_
     exact rfl
     refine an ?_ ?_
     exact rfl
     refine an ?_ ?_
     assumption
     assumption
     refine sd ?_
     refine shr_u8 ?_
     refine and_u8 ?_
     refine sd ?_
     refine b_t hb2' ?_
     refine sd ?_
     refine sd ?_
     refine sd ?_
     refine an ?_ ?_
     refine an ?_ ?_
     exact rfl
     refine an ?_ ?_
     exact rfl
     refine an ?_ ?_
     exact rfl
     refine an ?_ ?_
     assumption
     assumption
     refine sd ?_
     refine ar_add ?_ ?_
     refine an ?_ ?_
     (show (-9223372036854775808:Int)≤(↑k:Int)+(1:Int); omega)
     (show (↑k:Int)+(1:Int)≤(9223372036854775807:Int); omega)
     rotate_left
     (exfalso; omega)
     all_goals exact fin _ _ _ _ rfl rfl rfl rfl
 ·have ek:k=4:=by omega
  subst ek
  generalize bitsN h.1 4=A at *
  generalize bitsN h.2.1 4=B at *
  cases A with
  | nil =>
   cases B with
   | nil =>
    refine sd ?_
    rotate_left
    all_goals exact hq
   | cons b B =>
    refine sd ?_
    rotate_left
    all_goals exact hq
  | cons a A =>
   cases B with
   | nil =>
    refine sd ?_
    rotate_left
    all_goals exact hq
   | cons b B =>
    refine sd ?_
    rotate_left
    all_goals exact hq
def jr27:AFun:=⟨52,9,[.tmp 2],
 (.seq
 (.reg [] [⟨some 2,.mov (.cst (.nils 3)),none⟩])
 (.seq
  (.reg [] [⟨some 3,.mov (.cst (.nils 3)),none⟩])
  (.seq
  (.seq
   (.reg [] [⟨some 8,.mov (.tmp 0),none⟩,
    ⟨some 9,.len (.tmp 8),none⟩,
    ⟨some 10,.mov (.cst (.d (.int .i64 0))),none⟩])
   (.post [3] [0,1,2,3,4,5,6,7]
   (.block 0
    (.asrow 7 148 3 3
    (.keep [3,8,9,10] []
     (.loop
     (.post [3,8,9,10] [0,1,2,3,4,5,6,7]
      (.seq
      (.reg [] [⟨some 11,.cmp .lss (.tmp 10) (.tmp 9),none⟩])
      (.seq
       (.cond (.tmp 11)
       .skip
       (.exit 0))
       (.seq
       (.block 1
        (.seq
        (.reg [0] [⟨some 12,.ixa 3 (.tmp 8) (.tmp 10),none⟩,
         ⟨some 13,.ld true 3 (.tmp 12),none⟩,
         ⟨some 5,.alloc 0 [(.d (.int .u8 0)),(.d (.int .u8 0)),(.d (.bool false))],none⟩,
         ⟨none,.st 3 (.tmp 5) (.tmp 13),none⟩])
        (.seq
         (.reg [1] [⟨some 14,.fad 2 (.tmp 5),none⟩,
          ⟨some 15,.ld false 1 (.tmp 14),none⟩,
          ⟨some 16,.build [(.nils 1),(.nils 1),(.d (.bool false))] [(2,1,(.tmp 15))],none⟩,
          ⟨some 6,.alloc 1 [(.nils 1),(.nils 1),(.d (.bool false))],none⟩,
          ⟨none,.st 3 (.tmp 6) (.tmp 16),none⟩])
         (.seq
         (.seq
          (.reg [] [⟨some 17,.mov (.cst (.d (.int .i64 0))),none⟩])
          (.keep [3,5,6,8,9,10,17] [0,1] seg27i))
         (.reg [6,7] [⟨some 45,.mov (.tmp 3),none⟩,
          ⟨some 46,.ld true 3 (.tmp 6),none⟩,
          ⟨some 47,.bsl 6 148 3 1 [(.agg [(.slice 1 []),(.slice 1 []),(.bool false)])] [(0,(.tmp 46))],none⟩,
          ⟨some 48,.app 7 148 3 56 (.tmp 45) (.tmp 47),none⟩,
          ⟨some 3,.mov (.tmp 48),none⟩])))))
       (.reg [] [⟨some 49,.arith .add .i64 (.tmp 10) (.cst (.d (.int .i64 1))),none⟩,
        ⟨some 10,.mov (.tmp 49),none⟩])))))))))))
  (.seq
   (.reg [8] [⟨some 50,.mov (.tmp 3),none⟩,
    ⟨some 51,.appz 8 148 3 56 (.agg [(.slice 1 []),(.slice 1 []),(.bool false)]) (.tmp 50) (.cst (.d (.int .i64 3))),none⟩,
    ⟨some 2,.mov (.tmp 51),none⟩])
   .ret))))⟩
theorem k27 (l:List (Int × Int × Bool)) (hl:l.length≤1048576):CallDet Tryz.prog 27 [.d (.slice 3 (hops l))] [.slice 3 (L.rds (rdsH l))]:=by
 have hhl:=hops_len l
 refine call_of_vc (x:=jr27) (by kernel_rfl) rfl ?_
 rotate_left
 refine loop_u (fun k:Nat=>[(3,.sl 7 (L.rds ((l.take k).map rdH)).length),(10,.d (.int .i64 k))]) (fun k=>[(7,.row 148 3 (L.rds ((l.take k).map rdH)) false)]) (fun k=>k≤l.length) (fun k=>l.length - k) 0 rfl (Nat.zero_le _) ?_
 intro k hk
 have hk:k≤l.length:=hk
 have hlt:(L.rds ((l.take k).map rdH)).length=k:=by unfold L.rds; rw [List.length_map,List.length_map,List.length_take]; omega
 dsimp only
 by_cases hkl:k < l.length
 ·refine Exists.elim (get_lt l hkl) fun h hh=>?_
  have hx:(hops l)[((k:Int)).toNat]?=some (.agg [.int .u8 h.1,.int .u8 h.2.1,.bool h.2.2]):=by
   show (hops l)[k]?=_
   unfold hops; rw [List.getElem?_map,hh]; rfl
  have e:L.rds ((l.take (k+1)).map rdH)=L.rds ((l.take k).map rdH)++[.agg [.slice 1 (ints (bitsN h.1 4)),.slice 1 (ints (bitsN h.2.1 4)),.bool h.2.2]]:=by
   rw [take_map_succ _ hh]; unfold L.rds; rw [List.map_append]; rfl
  have fin : ∀ A B, A = bitsN h.1 4 → B = bitsN h.2.1 4 → ∀ X, X = L.rds ((l.take k).map rdH) ++ [.agg [.slice 1 (ints A), .slice 1 (ints B), .bool h.2.2]] → ∃ a' : Nat, (a' ≤ l.length ∧ l.length - a' < l.length - k) ∧ (⟨[(3, .sl 7 X.length), (8, .d (.slice 3 (hops l))), (9, .d (.int .i64 (hops l).length)), (10, .d (.int .i64 ((k : Int) + 1)))], [.none, .none, .none, .none, .none, .none, .none, .row 148 3 X false, .none]⟩ : St) =
    ⟨[(3,.sl 7 (L.rds ((l.take a').map rdH)).length),(8,.d (.slice 3 (hops l))),(9,.d (.int .i64 (hops l).length)),(10,.d (.int .i64 (a':Nat)))],[.none,.none,.none,.none,.none,.none,.none,.row 148 3 (L.rds ((l.take a').map rdH)) false,.none]⟩:=fun A B hA hB X hX=>⟨k+1,⟨by omega,by omega⟩,by rw [hX,hA,hB,← e]; rfl⟩
  refine sd ?_
  refine b_lt (fun t1=>?_) (fun t1=>?_)
  refine ix_at hx ?_ ?_
  (show (0:Int)≤(↑k:Int); omega)
  rotate_left
  (exfalso; omega)
  refine v27i ?_
  have fin2:=fin _ _ rfl rfl
  clear fin
  generalize bitsN h.1 4=A at *
  generalize bitsN h.2.1 4=B at *
  cases A with
  | nil =>
   cases B with
   | nil =>
    refine sd ?_
    refine sd ?_
    refine sd ?_
    refine an ?_ ?_
    refine an ?_ ?_
    exact rfl
    refine an ?_ ?_
    exact rfl
    refine an ?_ ?_
    exact rfl
    refine an ?_ ?_
    (show (List.length (L.rds (List.map rdH (List.take k l)))+(1:Nat)) * (56:Nat)≤(2:Nat) ^ (47:Nat); omega)
    (show List.length (L.rds (List.map rdH (List.take k l)))+(1:Nat)≤(2:Nat) ^ (47:Nat); omega)
    refine ar_add ?_ ?_
    refine an ?_ ?_
    (show (-9223372036854775808:Int)≤(↑k:Int)+(1:Int); omega)
    (show (↑k:Int)+(1:Int)≤(9223372036854775807:Int); omega)
    rotate_left
    all_goals exact fin2 _ rfl
   | cons b B =>
    refine sd ?_
    refine sd ?_
    refine sd ?_
    refine sd ?_
    refine an ?_ ?_
    refine an ?_ ?_
    exact rfl
    refine an ?_ ?_
    exact rfl
    refine an ?_ ?_
    exact rfl
    refine an ?_ ?_
    (show (List.length (L.rds (List.map rdH (List.take k l)))+(1:Nat)) * (56:Nat)≤(2:Nat) ^ (47:Nat); omega)
    (show List.length (L.rds (List.map rdH (List.take k l)))+(1:Nat)≤(2:Nat) ^ (47:Nat); omega)
    refine ar_add ?_ ?_
    refine an ?_ ?_
    (show (-9223372036854775808:Int)≤(↑k:Int)+(1:Int); omega)
    (show (↑k:Int)+(1:Int)≤(9223372036854775807:Int); omega)
    rotate_left
    all_goals exact fin2 _ rfl
  | cons a A =>
   cases B with
   | nil =>
    refine sd ?_
    refine sd ?_
    refine sd ?_
    refine sd ?_
    refine an ?_ ?_
    refine an ?_ ?_
    exact rfl
    refine an ?_ ?_
    exact rfl
    refine an ?_ ?_
    exact rfl
    refine an ?_ ?_
    (show (List.length (L.rds (List.map rdH (List.take k l)))+(1:Nat)) * (56:Nat)≤(2:Nat) ^ (47:Nat); omega)
    (show List.length (L.rds (List.map rdH (List.take k l)))+(1:Nat)≤(2:Nat) ^ (47:Nat); omega)
    refine ar_add ?_ ?_
    refine an ?_ ?_
    (show (-9223372036854775808:Int)≤(↑k:Int)+(1:Int); omega)
    (show (↑k:Int)+(1:Int)≤(9223372036854775807:Int); omega)
    rotate_left
    all_goals exact fin2 _ rfl
   | cons b B =>
    refine sd ?_
    refine sd ?_
    refine sd ?_
    refine sd ?_
    refine sd ?_
    refine an ?_ ?_
    refine an ?_ ?_
    exact rfl
    refine an ?_ ?_
    exact rfl
    refine an ?_ ?_
    exact rfl
    refine an ?_ ?_
    (show (List.length (L.rds (List.map rdH (List.take k l)))+(1:Nat)) * (56:Nat)≤(2:Nat) ^ (47:Nat); omega)
    (show List.length (L.rds (List.map rdH (List.take k l)))+(1:Nat)≤(2:Nat) ^ (47:Nat); omega)
    refine ar_add ?_ ?_
    refine an ?_ ?_
    (show (-9223372036854775808:Int)≤(↑k:Int)+(1:Int); omega)
    (show (↑k:Int)+(1:Int)≤(9223372036854775807:Int); omega)
    rotate_left
    all_goals exact fin2 _ rfl
 ·have ek:l.take k=l:=List.take_of_length_le (by omega)
  rw [ek]
  have hle:(L.rds (l.map rdH)).length=l.length:=by unfold L.rds; rw [List.length_map,List.length_map]
  have er:∀ X,X=L.rds (l.map rdH)++List.replicate 3 (.agg [.slice 1 [],.slice 1 [],.bool false])→resV [.slice 3 X]=resV [.slice 3 (L.rds (rdsH l))]:=fun X hX=>by
   rw [hX]; unfold L.rds rdsH; rw [List.map_append]; rfl
  refine sd ?_
  refine b_lt (fun t1=>?_) (fun t1=>?_)
  (exfalso; omega)
  refine an ?_ ?_
  (show (0:Int)≤(3:Int); omega)
  refine an ?_ ?_
  refine an ?_ ?_
  exact rfl
  refine an ?_ ?_
  exact rfl
  refine an ?_ ?_
  exact rfl
  refine an ?_ ?_
  (show (List.length (L.rds (List.map rdH l))+Int.toNat (3:Int)) * (56:Nat)≤(2:Nat) ^ (47:Nat); omega)
  (show List.length (L.rds (List.map rdH l))+Int.toNat (3:Int)≤(2:Nat) ^ (47:Nat); omega)
  refine sd ?_
  rotate_left
  all_goals exact er _ rfl
end Vc
