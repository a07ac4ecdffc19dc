import Derived.Test.YthociffnlhdenaaGreatDoorG16
import Derived.Test.YthociffnlhdenaaGreatDoorG12
import Derived.Test.YthociffnlhdenaaGreatDoorG15
import Derived.Test.YthociffnlhdenaaGreatDoorG06
import Derived.Test.YthociffnlhdenaaGreatDoorG11
import Derived.Test.YthociffnlhdenaaGreatDoorG07
import Derived.Test.YthociffnlhdenaaGreatDoorG14
import Derived.Test.YthociffnlhdenaaGreatDoorG10
set_option linter.unusedSectionVars false
set_option linter.unusedVariables false
set_option linter.unusedSimpArgs false
set_option maxRecDepth 10000
namespace Vc
open Go Go.Proofs Go.RowKit
theorem c156_ (l : List (List UInt8)) (sep : List UInt8) (h1 : l.length ≤ 140737488355328) (h2 : (Lib.join l sep).length ≤ 140737488355328) :
  CallDet Tryz.prog 156 [.d (.slice 1 (l.map .str)),.d (.str sep)] [.str (Lib.join l sep)]:=by
 refine ⟨hasFnB_spec (by kernel_rfl),fun w S vs hv hS _=>?_⟩
 simp only [VRels,VRel,DRel] at hv
 obtain ⟨v1,r,rfl,⟨a,cap,rfl,hcap,hrow⟩,v2,r2,rfl,rfl,rfl⟩:=hv
 have fin : ∀ (w' : World), Below w.heap.size w w' → ∀ v, v = str (Lib.join l sep) → ∃ v' S', (Ending.returned v : Ending) = .returned v' ∧ Below w.heap.size w w' ∧ (∀ b o, S b o → S' b o) ∧ (∀ b o, S' b o → S b o ∨ w.heap.size ≤ b) ∧
   (∀ b o,S' b o→b < w'.heap.size)∧VRel w' ⟨S',fun _=>undef⟩ [] (resV [.str (Lib.join l sep)]) v' :=
  fun w' hb v hv=>⟨v,S,rfl,hb,fun _ _ h=>h,fun _ _ h=>.inl h,fun b o h=>Nat.lt_of_lt_of_le (hS b o h) hb.size,by simp only [resV,VRel,DRel]; exact hv⟩
 rcases hrow with he | ⟨b,off,rfl,hrow⟩
 ·have hl:l=[]:=by simpa using he
  subst hl
  refine (Tryz.strings_Join_none a cap ⟨sep.toArray⟩ w).mono ?_
  rintro e w' ⟨rfl,rfl⟩
  exact fin _ (Below.refl _ _) _ rfl
 ·cases l with
  | nil =>
   refine (Tryz.strings_Join_none _ cap ⟨sep.toArray⟩ w).mono ?_
   rintro e w' ⟨rfl,rfl⟩
   exact fin _ (Below.refl _ _) _ rfl
  | cons s l =>
   have hb:b < w.heap.size:=hS _ _ (rows_str hrow 0 s rfl).2
   have e1:(((s::l).map fun x=>(⟨x.toArray⟩:ByteArray)).map (·.data.toList))=s::l:=by simp [List.map_map,Function.comp_def]
   have h:=Tryz.strings_Join b off cap ((s::l).map fun x=>⟨x.toArray⟩) ⟨sep.toArray⟩ w (fun j x hx=>by
    rw [List.getElem?_map] at hx
    cases hj:(s::l)[j]? with
    | none=>rw [hj] at hx; cases hx
    | some y =>
     rw [hj] at hx
     cases hx
     exact (rows_str hrow j y hj).1) hb (by simpa using h1) (by simpa using hcap) (by rw [e1]; simpa using h2)
   rw [e1] at h
   simp only [List.length_map] at h ⊢
   refine h.mono ?_
   rintro e w' ⟨rfl,hb⟩
   exact fin _ hb _ rfl
theorem c133_ (n:Nat) (hn:n < 100):CallDet Tryz.prog 133 [.d (.int .i64 n)] [.str (Lib.decDigits n)]:=by
 refine ⟨hasFnB_spec (by kernel_rfl),fun w S vs hv hS _=>?_⟩
 simp only [VRels,VRel,DRel] at hv
 obtain ⟨v1,r,rfl,rfl,rfl⟩:=hv
 refine (Tryz.strconv_Itoa_small n hn w).mono ?_
 rintro e w' ⟨rfl,rfl⟩
 exact ⟨_,S,rfl,Below.refl _ _,fun _ _ h=>h,fun _ _ h=>.inl h,fun b o h=>hS b o h,by simp only [resV,VRel,DRel]; rfl⟩
end Vc
set_option maxRecDepth 10000
set_option maxHeartbeats 4000000
namespace Vc
open Go Go.Proofs
def ir77:AFun:=⟨56,4,[.tmp 2,.tmp 3],
 (.seq
 (.reg [0] [⟨some 1,.cbx 0 2 (.tmp 0),none⟩,
 ⟨some 2,.mov (.cst (.d (.str []))),none⟩,
 ⟨some 3,.mov (.cst (.d (.int .i64 0))),none⟩])
 (.seq
 (.seq
 (.reg [] [⟨some 10,.ld true 2 (.tmp 1),none⟩,
 ⟨some 11,.call 27 [(.tmp 10)],none⟩,
 ⟨some 4,.mov (.tmp 11),none⟩])
 (.seq
 (.reg [] [⟨some 12,.mov (.tmp 4),none⟩,
 ⟨some 13,.cmp .neq (.tmp 12) (.cst (.d (.int .i64 0))),none⟩])
 (.cond (.tmp 13)
 (.seq
 (.reg [] [⟨some 14,.mov (.tmp 4),none⟩,
 ⟨some 2,.mov (.cst (.d (.str []))),none⟩,
 ⟨some 3,.mov (.tmp 14),none⟩])
 .ret)
 .skip)))
 (.seq
 (.reg [] [⟨some 5,.mov (.cst (.d (.str []))),none⟩])
 (.seq
 (.seq
 (.reg [] [⟨some 15,.fad 0 (.tmp 1),none⟩,
 ⟨some 16,.ld false 1 (.tmp 15),none⟩,
 ⟨some 17,.len (.tmp 16),none⟩,
 ⟨some 18,.mov (.cst (.d (.int .i64 0))),none⟩])
 (.post [1,5] [0,1]
 (.block 0
 (.keep [1,5,16,17,18] [0]
 (.loop
 (.post [1,5,16,17,18] [1]
 (.seq
 (.reg [] [⟨some 19,.cmp .lss (.tmp 18) (.tmp 17),none⟩])
 (.seq
 (.cond (.tmp 19)
 .skip
 (.exit 0))
 (.seq
 (.block 1
 (.seq
 (.reg [] [⟨some 20,.ixa 1 (.tmp 16) (.tmp 18),none⟩,
 ⟨some 21,.ld false 1 (.tmp 20),none⟩,
 ⟨some 7,.mov (.tmp 21),none⟩])
 (.reg [1] [⟨some 22,.mov (.tmp 5),none⟩,
 ⟨some 23,.ixp 2 2 (.cst (.gp 1 0)) (.cst (.d (.int .i64 0))),none⟩,
 ⟨some 24,.fad 0 (.tmp 23),none⟩,
 ⟨some 25,.ld false 1 (.tmp 24),none⟩,
 ⟨some 26,.mov (.tmp 7),none⟩,
 ⟨some 27,.bsl 1 9 1 2 [(.str []),(.str [])] [(0,(.tmp 25)),(1,(.tmp 26))],none⟩,
 ⟨some 28,.call 132 [(.tmp 27)],none⟩,
 ⟨some 29,.cat (.tmp 22) (.tmp 28),none⟩,
 ⟨some 5,.mov (.tmp 29),none⟩])))
 (.reg [] [⟨some 30,.arith .add .i64 (.tmp 18) (.cst (.d (.int .i64 1))),none⟩,
 ⟨some 18,.mov (.tmp 30),none⟩]))))))))))
 (.seq
 (.seq
 (.reg [] [⟨some 31,.fad 1 (.tmp 1),none⟩,
 ⟨some 32,.ld false 1 (.tmp 31),none⟩,
 ⟨some 33,.len (.tmp 32),none⟩,
 ⟨some 34,.mov (.cst (.d (.int .i64 0))),none⟩])
 (.post [5] [0,1,2,3]
 (.block 2
 (.keep [5,32,33,34] [0,1]
 (.loop
 (.post [5,32,33,34] [2,3]
 (.seq
 (.reg [] [⟨some 35,.cmp .lss (.tmp 34) (.tmp 33),none⟩])
 (.seq
 (.cond (.tmp 35)
 .skip
 (.exit 2))
 (.seq
 (.block 3
 (.seq
 (.reg [2] [⟨some 36,.ixa 3 (.tmp 32) (.tmp 34),none⟩,
 ⟨some 37,.ld true 3 (.tmp 36),none⟩,
 ⟨some 9,.alloc 2 [(.d (.int .i64 0)),(.d (.int .i64 0)),(.d (.int .i64 0))],none⟩,
 ⟨none,.st 3 (.tmp 9) (.tmp 37),none⟩])
 (.regd [3] [⟨some 38,.mov (.tmp 5),none⟩,
 ⟨some 39,.ixp 2 2 (.cst (.gp 1 0)) (.cst (.d (.int .i64 1))),none⟩,
 ⟨some 40,.fad 0 (.tmp 39),none⟩,
 ⟨some 41,.ld false 1 (.tmp 40),none⟩,
 ⟨some 42,.fad 0 (.tmp 9),none⟩,
 ⟨some 43,.ld false 1 (.tmp 42),none⟩,
 ⟨some 44,.call 133 [(.tmp 43)],none⟩,
 ⟨some 45,.fad 1 (.tmp 9),none⟩,
 ⟨some 46,.ld false 1 (.tmp 45),none⟩,
 ⟨some 47,.call 133 [(.tmp 46)],none⟩,
 ⟨some 48,.fad 2 (.tmp 9),none⟩,
 ⟨some 49,.ld false 1 (.tmp 48),none⟩,
 ⟨some 50,.call 133 [(.tmp 49)],none⟩,
 ⟨some 51,.bsl 3 9 1 4 [(.str []),(.str []),(.str []),(.str [])] [(0,(.tmp 41)),(1,(.tmp 44)),(2,(.tmp 47)),(3,(.tmp 50))],none⟩,
 ⟨some 52,.call 132 [(.tmp 51)],none⟩,
 ⟨some 53,.cat (.tmp 38) (.tmp 52),none⟩,
 ⟨some 5,.mov (.tmp 53),none⟩] [(0,1),(0,2),(0,3),(0,4),(1,4),(2,4),(3,4),(0,5),(1,5),(2,5),(3,5),(0,6),(1,6),(2,6),(3,6),(0,7),(1,7),(2,7),(3,7),(4,7),(5,7),(6,7),(0,8),(1,8),(2,8),(3,8),(4,8),(5,8),(6,8),(0,9),(1,9),(2,9),(3,9),(0,10),(1,10),(2,10),(3,10),(4,10),(5,10),(6,10),(7,10),(8,10),(9,10),(0,11),(1,11),(2,11),(3,11),(4,11),(5,11),(6,11),(7,11),(8,11),(9,11),(0,12),(1,12),(2,12),(3,12),(0,13),(0,14)])))
 (.reg [] [⟨some 54,.arith .add .i64 (.tmp 34) (.cst (.d (.int .i64 1))),none⟩,
 ⟨some 34,.mov (.tmp 54),none⟩]))))))))))
 (.seq
 (.reg [] [⟨some 55,.mov (.tmp 5),none⟩,
 ⟨some 2,.mov (.tmp 55),none⟩,
 ⟨some 3,.mov (.cst (.d (.int .i64 0))),none⟩])
 .ret))))))⟩
def ir132:AFun:=⟨6,0,[.tmp 2],
 (.seq
 (.reg [] [⟨some 2,.mov (.cst (.d (.str []))),none⟩])
 (.seq
 (.reg [] [⟨some 3,.mov (.tmp 0),none⟩,
 ⟨some 4,.call 156 [(.tmp 3),(.cst (.d (.str [32])))],none⟩,
 ⟨some 5,.cat (.tmp 4) (.cst (.d (.str [10]))),none⟩,
 ⟨some 2,.mov (.tmp 5),none⟩])
 .ret))⟩
def lineT (l:List (List UInt8)):List UInt8:=Lib.join l [32]++[10]
theorem c132 (l:List (List UInt8)) (h1:l.length≤1048576) (h2:(Lib.join l [32]).length≤1048576):CallDet Tryz.prog 132 [.d (.slice 1 (strs l))] [.str (lineT l)]:=by
 refine call_of_vc (x:=ir132) (by kernel_rfl) rfl ?_
 refine ca (c156_ l [32] (by omega) (by omega)) ?_
 refine an ?_ ?_
 (show List.length (Lib.join l [(32:UInt8)])+(1:Nat)≤(9223372036854775807:Nat); omega)
 exact rfl
theorem dec_len {n:Nat} (h:n < 100):(Lib.decDigits n).length≤2:=by
 rw [Lib.decDigits]
 by_cases h1:n < 10
 ·rw [dif_pos h1]; exact Nat.le_succ _
 ·rw [dif_neg h1,List.length_append,Lib.decDigits,dif_pos (show n / 10 < 10 by omega)]; exact Nat.le_refl _
def kwN:List UInt8:=[110,111,100,101]
def kwL:List UInt8:=[108,105,110,107]
@[irreducible] def nodeT (x:List UInt8):List UInt8:=lineT [kwN,x]
@[irreducible] def linkT (l:Lk):List UInt8:=lineT [kwL,Lib.decDigits l.a.toNat,Lib.decDigits l.b.toNat,Lib.decDigits l.c.toNat]
def catT {α:Type} (f:α→List UInt8):List α→List UInt8
 | []=>[]
 | x::r=>f x++catT f r
theorem catT_snoc {α:Type} (f:α→List UInt8) {l:List α} {k:Nat} {x:α} (h:l[k]?=some x):catT f (l.take (k+1))=catT f (l.take k)++f x:=by
 rw [take_one h]
 generalize l.take k=a
 induction a with
 | nil=>show f x++[]=[]++f x; simp
 | cons y a ih=>show f y++catT f (a++[x])=f y++catT f a++f x; rw [ih,List.append_assoc]
theorem join2 (x y:List UInt8):Lib.join [x,y] [32]=x++[32]++y:=by
 unfold Lib.join; simp [Lib.join]
theorem join4 (x y z w:List UInt8):Lib.join [x,y,z,w] [32]=x++[32]++(y++[32]++(z++[32]++w)):=by
 simp [Lib.join]
theorem c132_n (x:List UInt8) (hx:x.length≤1000):CallDet Tryz.prog 132 [.d (.slice 1 [.str [110,111,100,101],.str x])] [.str (nodeT x)]:=by
 unfold nodeT
 refine c132 [kwN,x] (by simp) ?_
 rw [join2]; simp [kwN]; omega
theorem c132_l (a b c:Nat) (ha:a < 100) (hb:b < 100) (hc:c < 100):CallDet Tryz.prog 132 [.d (.slice 1 [.str [108,105,110,107],.str (Lib.decDigits a),.str (Lib.decDigits b),.str (Lib.decDigits c)])] [.str (linkT ⟨a,b,c⟩)]:=by
 unfold linkT
 refine c132 [kwL,Lib.decDigits a,Lib.decDigits b,Lib.decDigits c] (by simp) ?_
 have h1:=dec_len ha
 have h2:=dec_len hb
 have h3:=dec_len hc
 rw [join4]; simp [kwL]; omega
theorem catT_le {α:Type} {f:α→List UInt8} (B:Nat):∀ {l:List α},(∀ x∈l,(f x).length≤B)→(catT f l).length≤l.length * B
 | [],_=>Nat.zero_le _
 | x::r,h=>by
  have ih:=catT_le (f:=f) B (l:=r) (fun y hy=>h y (by simp [hy]))
  have hx:=h x (by simp)
  show (f x++catT f r).length≤(r.length+1) * B
  rw [List.length_append,Nat.add_mul,Nat.one_mul]; omega
theorem nodeT_le {x:List UInt8} (h:x.length≤1000):(nodeT x).length≤1100:=by
 unfold nodeT lineT
 rw [join2]; simp [kwN]; omega
theorem linkT_le {l:Lk} (ha:l.a.toNat < 100) (hb:l.b.toNat < 100) (hc:l.c.toNat < 100):(linkT l).length≤14:=by
 unfold linkT lineT
 have h1:=dec_len ha
 have h2:=dec_len hb
 have h3:=dec_len hc
 rw [join4]; simp [kwL]; omega
def Ms.print (m:Ms):List UInt8:=catT nodeT m.ns++catT linkT m.ls
theorem c77 (m:Ms) (hn:m.ns.length≤1048576) (hl:m.ls.length≤1048576) (hs:∀ x∈m.ns,x.length≤1000) (hc:∀ l∈m.ls,l.c < 100):CallDet Tryz.prog 77 [.d m.d] [.str (bif m.chk != 0 then [] else m.print),.int .i64 m.chk]:=by
 have hsl:=strs_len m.ns
 have hll:=lks_len m.ls
 have bad:¬ m.chk=0→resV [.str [],.int .i64 m.chk]=resV [.str (bif m.chk != 0 then [] else m.print),.int .i64 m.chk]:=fun h=>by
  rw [show (m.chk != 0)=true by rw [bne_iff_ne]; exact h]; rfl
 have fin:m.chk=0→∀ X,X=m.print→resV [.str X,.int .i64 0]=resV [.str (bif m.chk != 0 then [] else m.print),.int .i64 m.chk]:=fun h X hX=>by
  rw [h,hX]; rfl
 refine call_of_vc (x:=ir77) (by kernel_rfl) rfl ?_
 by_cases hz:m.chk=0
 ·have hf:=chk_fine hz
  refine ca (c27 m (by omega) (by omega)) ?_
  refine sd ?_
  refine b_ne (fun t1=>?_) (fun t1=>?_)
  (exfalso; omega)
  rotate_left
  refine loop_u (fun a:Nat × List UInt8=>[(5,.d (.str a.2)),(18,.d (.int .i64 a.1))]) (fun a=>[]) (fun a=>a.1≤m.ns.length∧a.2=catT nodeT (m.ns.take a.1)) (fun a=>m.ns.length - a.1) (0,[]) rfl ⟨Nat.zero_le _,rfl⟩ ?_
  rintro ⟨k,acc⟩ ⟨hk,ha⟩
  have hk:k≤m.ns.length:=hk
  have ha:acc=catT nodeT (m.ns.take k):=ha
  have hal:acc.length≤32 * 1100:=by
   have h:=catT_le (f:=nodeT) 1100 (l:=m.ns.take k) (fun x hx=>nodeT_le (hs x (List.mem_of_mem_take hx)))
   have h32:=hf.n32
   rw [List.length_take] at h
   rw [ha]; omega
  have hlb14:∀ l∈m.ls,(linkT l).length≤14:=fun l hlm=>by
   have hin:=hf.okIn l hlm
   have hcl:=hc l hlm
   have h32:=hf.n32
   have hla:=hin.1
   have hlb:=hin.2.1
   have hlc:=hin.2.2
   exact linkT_le (by omega) (by omega) (by omega)
  dsimp only
  by_cases hkk:k < m.ns.length
  ·refine Exists.elim (get_lt m.ns hkk) fun x hx=>?_
   have hxd:=strs_at hx
   have hxl:=hs x (List.mem_of_getElem? hx)
   have hnt:=nodeT_le (x:=x) (by omega)
   refine sd ?_
   refine b_lt (fun t2=>?_) (fun t2=>?_)
   refine ix_at hxd ?_ ?_
   (show (0:Int)≤(↑k:Int); omega)
   refine an ?_ ?_
   refine an ?_ ?_
   (show (0:Int)≤(0:Int); omega)
   (show (0:Int) < (↑(2:Nat):Int); omega)
   refine sd ?_
   refine sd ?_
   refine ca (c132_n x (by omega)) ?_
   refine an ?_ ?_
   (show List.length acc+List.length (nodeT x)≤(9223372036854775807:Nat); omega)
   refine ar_add ?_ ?_
   refine an ?_ ?_
   (show (-9223372036854775808:Int)≤(↑k:Int)+(1:Int); omega)
   (show (↑k:Int)+(1:Int)≤(9223372036854775807:Int); omega)
   rotate_left
   (exfalso; omega)
   exact ⟨(k+1,acc++nodeT x),⟨⟨by show k+1≤m.ns.length; omega,by show acc++nodeT x=_; rw [catT_snoc nodeT hx,ha]⟩,by show m.ns.length - (k+1) < m.ns.length - k; omega⟩,rfl⟩
  ·have hka:m.ns.take k=m.ns:=List.take_of_length_le (by omega)
   rw [hka] at ha
   refine sd ?_
   refine b_lt (fun t2=>?_) (fun t2=>?_)
   (exfalso; omega)
   rotate_left
   refine loop_u (fun a:Nat × List UInt8=>[(5,.d (.str a.2)),(34,.d (.int .i64 a.1))]) (fun a=>[]) (fun a=>a.1≤m.ls.length∧a.2=acc++catT linkT (m.ls.take a.1)) (fun a=>m.ls.length - a.1) (0,acc) rfl ⟨Nat.zero_le _,(List.append_nil _).symm⟩ ?_
   rintro ⟨q,ac2⟩ ⟨hq,ha2⟩
   have hq:q≤m.ls.length:=hq
   have ha2:ac2=acc++catT linkT (m.ls.take q):=ha2
   dsimp only
   by_cases hqq:q < m.ls.length
   ·refine Exists.elim (get_lt m.ls hqq) fun l hlk=>?_
    have hxd:=lks_at hlk
    have hin:=hf.okIn l (List.mem_of_getElem? hlk)
    have hcl:=hc l (List.mem_of_getElem? hlk)
    have h32:=hf.n32
    have hla:=hin.1
    have hlb:=hin.2.1
    have hlc:=hin.2.2
    have ea:((l.a.toNat:Nat):Int)=l.a:=by omega
    have eb:((l.b.toNat:Nat):Int)=l.b:=by omega
    have ec:((l.c.toNat:Nat):Int)=l.c:=by omega
    have c133_a:=c133_ l.a.toNat (by omega)
    have c133_b:=c133_ l.b.toNat (by omega)
    have c133_c:=c133_ l.c.toNat (by omega)
    rw [ea] at c133_a
    rw [eb] at c133_b
    rw [ec] at c133_c
    have c132_k:=c132_l l.a.toNat l.b.toNat l.c.toNat (by omega) (by omega) (by omega)
    rw [ea,eb,ec] at c132_k
    have hll2:=linkT_le (l:=l) (by omega) (by omega) (by omega)
    have hal2:ac2.length≤acc.length+128 * 14:=by
     have h:=catT_le (f:=linkT) 14 (l:=m.ls.take q) (fun x hx=>hlb14 x (List.mem_of_mem_take hx))
     have h128:=hf.l128
     rw [List.length_take] at h
     rw [ha2,List.length_append]; omega
    refine sd ?_
    refine b_lt (fun t3=>?_) (fun t3=>?_)
    refine ix_at hxd ?_ ?_
    (show (0:Int)≤(↑q:Int); omega)
    refine an ?_ ?_
    refine an ?_ ?_
    (show (0:Int)≤(1:Int); omega)
    (show (1:Int) < (↑(2:Nat):Int); omega)
    refine ca c133_a ?_
    refine ca c133_b ?_
    refine ca c133_c ?_
    refine sd ?_
    refine sd ?_
    refine ca c132_k ?_
    refine an ?_ ?_
    (show List.length ac2+List.length (linkT { a:=Lk.a l,b:=Lk.b l,c:=Lk.c l })≤(9223372036854775807:Nat); omega)
    refine ar_add ?_ ?_
    refine an ?_ ?_
    (show (-9223372036854775808:Int)≤(↑q:Int)+(1:Int); omega)
    (show (↑q:Int)+(1:Int)≤(9223372036854775807:Int); omega)
    rotate_left
    (exfalso; omega)
    exact ⟨(q+1,ac2++linkT l),⟨⟨by show q+1≤m.ls.length; omega,by show ac2++linkT l=_; rw [catT_snoc linkT hlk,ha2,List.append_assoc]⟩,by show m.ls.length - (q+1) < m.ls.length - q; omega⟩,rfl⟩
   ·have hqa:m.ls.take q=m.ls:=List.take_of_length_le (by omega)
    refine sd ?_
    refine b_lt (fun t3=>?_) (fun t3=>?_)
    (exfalso; omega)
    rotate_left
    exact fin hz _ (by rw [ha2,ha,hqa]; rfl)
 ·refine ca (c27 m (by omega) (by omega)) ?_
  refine sd ?_
  refine b_ne (fun t1=>?_) (fun t1=>?_)
  rotate_left
  (exfalso; omega)
  exact bad hz
end Vc
set_option maxRecDepth 10000
namespace Vc
open Go Go.Proofs
def strsOf:List Data→Option (List (List UInt8))
 | []=>some []
 | .str s::r=>match strsOf r with
  | some l=>some (s::l)
  | none=>none
 | _::_=>none
theorem strsOf_map:∀ {es:List Data} {l:List (List UInt8)},strsOf es=some l→es=strs l
 | [],l,h=>by simp [strsOf] at h; subst h; rfl
 | d::r,l,h=>by
  cases d <;> simp only [strsOf] at h <;> try (cases h; done)
  split at h
  ·rename_i l' h'
   cases h
   rw [strsOf_map h']; rfl
  ·cases h
def lksOf:List Data→Option (List Lk)
 | []=>some []
 | .agg [.int .i64 a,.int .i64 b,.int .i64 c]::r=>match lksOf r with
  | some l=>some (⟨a,b,c⟩::l)
  | none=>none
 | _::_=>none
theorem lksOf_map:∀ {es:List Data} {l:List Lk},lksOf es=some l→es=lks l
 | [],l,h=>by simp [lksOf] at h; subst h; rfl
 | d::r,l,h=>by
  unfold lksOf at h
  split at h
  ·cases h; rename_i h0; cases h0
  ·rename_i a b c r' h0
   cases h0
   split at h
   ·rename_i l' h'
    cases h
    rw [lksOf_map h']; rfl
   ·cases h
  ·cases h
def ensOf:List Data→Option (List En)
 | []=>some []
 | .agg [.int .i64 a,.int .i64 b,.int .i64 c]::r=>match ensOf r with
  | some l=>some (⟨a,b,c⟩::l)
  | none=>none
 | _::_=>none
theorem ensOf_map:∀ {es:List Data} {l:List En},ensOf es=some l→es=ens l
 | [],l,h=>by simp [ensOf] at h; subst h; rfl
 | d::r,l,h=>by
  unfold ensOf at h
  split at h
  ·cases h; rename_i h0; cases h0
  ·rename_i a b c r' h0
   cases h0
   split at h
   ·rename_i l' h'
    cases h
    rw [ensOf_map h']; rfl
   ·cases h
  ·cases h
def prsOf:List Data→Option (List (Int × Int))
 | []=>some []
 | .agg [.int .i64 a,.int .i64 b]::r=>match prsOf r with
  | some l=>some ((a,b)::l)
  | none=>none
 | _::_=>none
theorem prsOf_map:∀ {es:List Data} {l:List (Int × Int)},prsOf es=some l→es=prs l
 | [],l,h=>by simp [prsOf] at h; subst h; rfl
 | d::r,l,h=>by
  unfold prsOf at h
  split at h
  ·cases h; rename_i h0; cases h0
  ·rename_i a b r' h0
   cases h0
   split at h
   ·rename_i l' h'
    cases h
    rw [prsOf_map h']; rfl
   ·cases h
  ·cases h
def msOf:Data→Option Ms
 | .agg [.slice 1 ns,.slice 3 ls]=>match strsOf ns with
  | some a=>match lksOf ls with
   | some b=>some ⟨a,b⟩
   | none=>none
  | none=>none
 | _=>none
theorem msOf_spec {d:Data} {m:Ms} (h:msOf d=some m):d=m.d:=by
 unfold msOf at h
 split at h
 ·split at h
  ·rename_i a ha
   split at h
   ·rename_i b hb
    cases h
    rw [strsOf_map ha,lksOf_map hb]; rfl
   ·cases h
  ·cases h
 ·cases h
def stOf:Data→Option Sts
 | .agg [.int .i64 a,.int .i64 b,.slice 3 es]=>match ensOf es with
  | some l=>some ⟨a,b,l⟩
  | none=>none
 | _=>none
theorem stOf_spec {d:Data} {s:Sts} (h:stOf d=some s):d=s.d:=by
 unfold stOf at h
 split at h
 ·split at h
  ·rename_i l hl
   cases h
   rw [ensOf_map hl]; rfl
  ·cases h
 ·cases h
def Ms.sm (m:Ms):Bool:=Nat.ble m.ns.length 1048576&&Nat.ble m.ls.length 1048576
theorem Ms.sm_spec {m:Ms} (h:m.sm=true):m.ns.length≤1048576∧m.ls.length≤1048576:=by
 unfold Ms.sm at h
 rw [Bool.and_eq_true] at h
 exact ⟨Nat.le_of_ble_eq_true h.1,Nat.le_of_ble_eq_true h.2⟩
def forceIs {α:Type}:List Int→(List Int→α)→α
 | [],K=>K []
 | x::r,K=>forceI x fun x=>forceIs r fun r=>K (x::r)
theorem forceIs_eq {α:Type}:∀ (l:List Int) (K:List Int→α),forceIs l K=K l
 | [],_=>rfl
 | x::r,K=>by unfold forceIs; rw [forceI_eq,forceIs_eq r]
def forceE {α:Type}:List En→(List En→α)→α
 | [],K=>K []
 | x::r,K=>forceI x.nu fun a=>forceI x.di fun b=>forceI x.ne fun c=>forceE r fun r=>K (⟨a,b,c⟩::r)
theorem forceE_eq {α:Type}:∀ (l:List En) (K:List En→α),forceE l K=K l
 | [],_=>rfl
 | x::r,K=>by unfold forceE; rw [forceI_eq,forceI_eq,forceI_eq,forceE_eq r]
def forceS {α:Type} (s:Sts) (K:Sts→α):α:=forceI s.co fun a=>forceI s.nu fun b=>forceE s.es fun l=>K ⟨a,b,l⟩
theorem forceS_eq {α:Type} (s:Sts) (K:Sts→α):forceS s K=K s:=by unfold forceS; rw [forceI_eq,forceI_eq,forceE_eq]
def forceM {α:Type} (m:Ms) (K:Ms→α):α:=forceLs m.ns fun a=>forceLs m.ls fun b=>K ⟨a,b⟩
theorem forceM_eq {α:Type} (m:Ms) (K:Ms→α):forceM m K=K m:=by unfold forceM; rw [forceLs_eq,forceLs_eq]
def o37:List AVal→Option (List Data)
 | [.d a,.d b]=>match msOf a with
  | some m=>match stOf b with
   | some s=>match m.sm&&Nat.ble s.es.length 1048576 with
    | true=>forceI (m.chkS s) fun e=>some [.int .i64 e]
    | false=>none
   | none=>none
  | none=>none
 | _=>none
theorem o37_good {xs:List AVal} {rs:List Data} (h:o37 xs=some rs):CallDet Tryz.prog 37 xs rs:=by
 unfold o37 at h
 split at h
 ·split at h
  ·rename_i m hm
   split at h
   ·rename_i s hs
    split at h
    ·rename_i hb
     rw [Bool.and_eq_true] at hb
     rw [forceI_eq] at h
     cases h
     rw [msOf_spec hm,stOf_spec hs]
     exact c37 m s (Ms.sm_spec hb.1).1 (Ms.sm_spec hb.1).2 (Nat.le_of_ble_eq_true hb.2)
    ·cases h
   ·cases h
  ·cases h
 ·cases h
def o92:List AVal→Option (List Data)
 | [.d a,.d (.int .i64 f)]=>match msOf a with
  | some m=>match (m.chk==0)&&(decide (0≤f)&&decide (f < (m.ns.length:Int))) with
   | true=>forceIs (m.dist f) fun l=>some [.slice 1 (ints l)]
   | false=>none
  | none=>none
 | _=>none
theorem o92_good {xs:List AVal} {rs:List Data} (h:o92 xs=some rs):CallDet Tryz.prog 92 xs rs:=by
 unfold o92 at h
 split at h
 ·rename_i a f
  split at h
  ·rename_i m hm
   split at h
   ·rename_i hb
    rw [Bool.and_eq_true,Bool.and_eq_true] at hb
    rw [forceIs_eq] at h
    cases h
    rw [msOf_spec hm]
    exact c92 m f (chk_fine (by simpa using hb.1)) (of_decide_eq_true hb.2.1) (of_decide_eq_true hb.2.2)
   ·cases h
  ·cases h
 ·cases h
def o31:List AVal→Option (List Data)
 | [.d a,.d (.int .i64 f)]=>match msOf a with
  | some m=>match m.sm with
   | true=>forceI (nodeD m f) fun e=>forceS (bif e != 0 then Sts.zero else m.begun f) fun s=>some [s.d,.int .i64 e]
   | false=>none
  | none=>none
 | _=>none
theorem o31_good {xs:List AVal} {rs:List Data} (h:o31 xs=some rs):CallDet Tryz.prog 31 xs rs:=by
 unfold o31 at h
 split at h
 ·rename_i a f
  split at h
  ·rename_i m hm
   split at h
   ·rename_i hb
    rw [forceI_eq,forceS_eq] at h
    cases h
    rw [msOf_spec hm]
    exact c31 m f (Ms.sm_spec hb).1 (Ms.sm_spec hb).2
   ·cases h
  ·cases h
 ·cases h
theorem floods_P (m:Ms) (lost:List (Int × Int)) (f:Int) (h1:f.toNat < m.ns.length):m.floods lost f=(floodP m.ns.length m.nbs (qqL lost) f.toNat m.ns.length).1:=by
 rw [(floodP_is (qq:=qqL lost) h1 (nbs_in m) m.ns.length).out]
 exact (lvls_congr (gP_gL m lost) _).symm
def o40:List AVal→Option (List Data)
 | [.d a,.d (.int .i64 f),.d (.slice 2 b)]=>match msOf a with
  | some m=>match prsOf b with
   | some l=>match (m.sm&&Nat.ble l.length 1048576)&&((floodE m f l==0)&&Nat.blt f.toNat m.ns.length) with
    | true=>forceIs (floodP m.ns.length m.nbs (qqL l) f.toNat m.ns.length).1 fun d=>forceI (known d:Int) fun k=>some [.slice 1 (ints d),.int .i64 k,.int .i64 0]
    | false=>none
   | none=>none
  | none=>none
 | _=>none
theorem o40_good {xs:List AVal} {rs:List Data} (h:o40 xs=some rs):CallDet Tryz.prog 40 xs rs:=by
 unfold o40 at h
 split at h
 ·rename_i a f b
  split at h
  ·rename_i m hm
   split at h
   ·rename_i l hl
    split at h
    ·rename_i hb
     rw [Bool.and_eq_true,Bool.and_eq_true,Bool.and_eq_true] at hb
     rw [forceIs_eq,forceI_eq] at h
     cases h
     have hlt:f.toNat < m.ns.length:=Nat.le_of_ble_eq_true hb.2.2
     have he:floodE m f l=0:=by simpa using hb.2.1
     have hc:=c40 m f l (Ms.sm_spec hb.1.1).1 (Ms.sm_spec hb.1.1).2 (Nat.le_of_ble_eq_true hb.1.2)
     have e1:m.floodsP l f=m.floods l f:=by unfold Ms.floodsP; rw [he]; rfl
     have e2:m.floodsN l f=(known (m.floods l f):Int):=by unfold Ms.floodsN; rw [he]; rfl
     rw [e1,e2,he,floods_P m l f hlt] at hc
     rw [msOf_spec hm,prsOf_map hl]
     exact hc
    ·cases h
   ·cases h
  ·cases h
 ·cases h
def o60:List AVal→Option (List Data)
 | [.d a,.d b,.d (.int .i64 i)]=>match msOf a with
  | some m=>match stOf b with
   | some s=>match m.sm&&Nat.ble s.es.length 1048576 with
    | true=>forceI (brokE m s i) fun e=>forceM (bif e != 0 then Ms.zero else m.brok i) fun m2=>forceS (bif e != 0 then Sts.zero else s.brok m i) fun s2=>some [m2.d,s2.d,.int .i64 e]
    | false=>none
   | none=>none
  | none=>none
 | _=>none
theorem o60_good {xs:List AVal} {rs:List Data} (h:o60 xs=some rs):CallDet Tryz.prog 60 xs rs:=by
 unfold o60 at h
 split at h
 ·split at h
  ·rename_i m hm
   split at h
   ·rename_i s hs
    split at h
    ·rename_i hb
     rw [Bool.and_eq_true] at hb
     rw [forceI_eq,forceM_eq,forceS_eq] at h
     cases h
     rw [msOf_spec hm,stOf_spec hs]
     exact c60 m s _ (Ms.sm_spec hb.1).1 (Ms.sm_spec hb.1).2 (Nat.le_of_ble_eq_true hb.2)
    ·cases h
   ·cases h
  ·cases h
 ·cases h
def o77:List AVal→Option (List Data)
 | [.d a]=>match msOf a with
  | some m=>match m.sm&&(m.ns.all (fun x=>Nat.ble x.length 1000)&&m.ls.all (fun l=>decide (l.c < 100))) with
   | true=>forceI m.chk fun e=>forceLs (bif e != 0 then [] else m.print) fun t=>some [.str t,.int .i64 e]
   | false=>none
  | none=>none
 | _=>none
theorem o77_good {xs:List AVal} {rs:List Data} (h:o77 xs=some rs):CallDet Tryz.prog 77 xs rs:=by
 unfold o77 at h
 split at h
 ·split at h
  ·rename_i m hm
   split at h
   ·rename_i hb
    rw [Bool.and_eq_true,Bool.and_eq_true,List.all_eq_true,List.all_eq_true] at hb
    rw [forceI_eq,forceLs_eq] at h
    cases h
    rw [msOf_spec hm]
    exact c77 m (Ms.sm_spec hb.1).1 (Ms.sm_spec hb.1).2 (fun x hx=>Nat.le_of_ble_eq_true (hb.2.1 x hx)) (fun l hl=>of_decide_eq_true (hb.2.2 l hl))
   ·cases h
  ·cases h
 ·cases h
def lib05 (f:FuncId) (xs:List AVal):Option (List Data) :=
 match Nat.beq f 37 with
 | true=>o37 xs
 | false=>match Nat.beq f 92 with
  | true=>o92 xs
  | false=>match Nat.beq f 31 with
   | true=>o31 xs
   | false=>match Nat.beq f 40 with
    | true=>o40 xs
    | false=>match Nat.beq f 60 with
     | true=>o60 xs
     | false=>match Nat.beq f 77 with
      | true=>o77 xs
      | false=>none
theorem lib05_good (f:FuncId) (xs:List AVal) (rs:List Data) (h:lib05 f xs=some rs):CallDet Tryz.prog f xs rs:=by
 unfold lib05 at h
 split at h
 ·rename_i hf
  have:=Nat.eq_of_beq_eq_true hf
  subst this
  exact o37_good h
 split at h
 ·rename_i hf
  have:=Nat.eq_of_beq_eq_true hf
  subst this
  exact o92_good h
 split at h
 ·rename_i hf
  have:=Nat.eq_of_beq_eq_true hf
  subst this
  exact o31_good h
 split at h
 ·rename_i hf
  have:=Nat.eq_of_beq_eq_true hf
  subst this
  exact o40_good h
 split at h
 ·rename_i hf
  have:=Nat.eq_of_beq_eq_true hf
  subst this
  exact o60_good h
 split at h
 ·rename_i hf
  have:=Nat.eq_of_beq_eq_true hf
  subst this
  exact o77_good h
 ·cases h
end Vc
namespace Vc
open Go Go.Proofs
theorem int_fit {k:IntKind} {r:List CT} {ds:List Data} (h:Fits' (.int k::r) ds):∃ n t,ds=.int k n::t∧(Lit.int k n).wf=true∧Fits' r t:=by
 simp only [Fits',Fit] at h
 obtain ⟨d,t,rfl,⟨n,rfl,hn⟩,ht⟩:=h
 exact ⟨n,t,rfl,hn,ht⟩
theorem i64_fit {r:List CT} {ds:List Data} (h:Fits' (.int .i64::r) ds):∃ (n:Int) (t:List Data),ds=.int .i64 n::t∧(-9223372036854775808≤n∧n≤9223372036854775807)∧Fits' r t:=by
 obtain ⟨n,t,rfl,hn,ht⟩:=int_fit h
 refine ⟨n,t,rfl,?_,ht⟩
 simp [Lit.wf] at hn
 have h1:IntKind.i64.min=-9223372036854775808:=rfl
 have h2:IntKind.i64.max=9223372036854775807:=rfl
 omega
theorem str_fit {r:List CT} {ds:List Data} (h:Fits' (.str::r) ds):∃ b t,ds=.str b::t∧Fits' r t:=by
 simp only [Fits',Fit] at h
 obtain ⟨d,t,rfl,⟨b,rfl⟩,ht⟩:=h
 exact ⟨b,t,rfl,ht⟩
theorem fits_nil {ds:List Vc.Data} (h:Fits' [] ds):ds=[]:=by simpa only [Fits'] using h
theorem strs_fit:∀ {es:List Data},(∀ e∈es,Fits' [.str] [e])→∃ l:List (List UInt8),es=strs l
 | [],_=>⟨[],rfl⟩
 | e::r,h=>by
  obtain ⟨c,t,h1,_⟩:=str_fit (h e List.mem_cons_self)
  obtain ⟨b,rfl⟩:=strs_fit (es:=r) fun x hx=>h x (List.mem_cons_of_mem _ hx)
  cases h1
  exact ⟨c::b,rfl⟩
theorem strl_fit {r:List CT} {ds:List Data} (h:Fits' (.sl false [.str]::r) ds):∃ (b:List (List UInt8)) (t:List Data),ds=.slice 1 (strs b)::t∧Fits' r t:=by
 simp only [Fits'] at h
 obtain ⟨d,t,rfl,hd,ht⟩:=h
 simp only [Fit] at hd
 obtain ⟨es,rfl,he⟩:=hd
 obtain ⟨b,rfl⟩:=strs_fit (es:=es) fun e h=>by
  have:=he e h
  simpa [Fits',Fit] using this
 exact ⟨b,t,rfl,ht⟩
theorem lks_fit:∀ {es:List Data},(∀ e∈es,∃ ds,e=.agg ds∧Fits' [.int .i64,.int .i64,.int .i64] ds)→∃ l:List Lk,es=lks l
 | [],_=>⟨[],rfl⟩
 | e::r,h=>by
  obtain ⟨ds,rfl,hd⟩:=h e List.mem_cons_self
  obtain ⟨a,t1,rfl,_,h1⟩:=i64_fit hd
  obtain ⟨b,t2,rfl,_,h2⟩:=i64_fit h1
  obtain ⟨c,t3,rfl,_,h3⟩:=i64_fit h2
  obtain rfl:=fits_nil h3
  obtain ⟨l,rfl⟩:=lks_fit (es:=r) fun x hx=>h x (List.mem_cons_of_mem _ hx)
  exact ⟨⟨a,b,c⟩::l,rfl⟩
theorem lkl_fit {r:List CT} {ds:List Data} (h:Fits' (.sl true [.int .i64,.int .i64,.int .i64]::r) ds):∃ (l:List Lk) (t:List Data),ds=.slice 3 (lks l)::t∧Fits' r t:=by
 simp only [Fits'] at h
 obtain ⟨d,t,rfl,hd,ht⟩:=h
 simp only [Fit] at hd
 obtain ⟨es,rfl,he⟩:=hd
 obtain ⟨l,rfl⟩:=lks_fit (es:=es) fun e h=>by
  obtain ⟨ds,h1,h2⟩:=he e h
  exact ⟨ds,h1,by simpa only [Fits'] using h2⟩
 exact ⟨l,t,rfl,ht⟩
theorem lks_ens (l:List Lk):lks l=ens (l.map fun x=>⟨x.a,x.b,x.c⟩):=by
 unfold lks ens; rw [List.map_map]; rfl
theorem enl_fit {r:List CT} {ds:List Data} (h:Fits' (.sl true [.int .i64,.int .i64,.int .i64]::r) ds):∃ (l:List En) (t:List Data),ds=.slice 3 (ens l)::t∧Fits' r t:=by
 obtain ⟨l,t,e,ht⟩:=lkl_fit h
 exact ⟨l.map fun x=>⟨x.a,x.b,x.c⟩,t,by rw [e,lks_ens],ht⟩
theorem ms_fit {ds:List Data} (h:Fits' [.sl false [.str],.sl true [.int .i64,.int .i64,.int .i64]] ds):∃ m:Ms,Data.agg ds=m.d:=by
 obtain ⟨a,t1,rfl,h1⟩:=strl_fit h
 obtain ⟨b,t2,rfl,h2⟩:=lkl_fit h1
 obtain rfl:=fits_nil h2
 exact ⟨⟨a,b⟩,rfl⟩
theorem st_fit {ds:List Data} (h:Fits' [.int .i64,.int .i64,.sl true [.int .i64,.int .i64,.int .i64]] ds):∃ s:Sts,Data.agg ds=s.d:=by
 obtain ⟨a,t1,rfl,_,h1⟩:=i64_fit h
 obtain ⟨b,t2,rfl,_,h2⟩:=i64_fit h1
 obtain ⟨l,t3,rfl,h3⟩:=enl_fit h2
 obtain rfl:=fits_nil h3
 exact ⟨⟨a,b,l⟩,rfl⟩
theorem wgts_strs:∀ (l:List (List UInt8)),l.length≤wgts (strs l)
 | []=>Nat.zero_le _
 | s::r=>by
  have h:=wgts_strs r
  have e:wgts (strs (s::r))=(s.length+1)+wgts (strs r):=rfl
  rw [e]; simp only [List.length_cons]; omega
theorem wgts_lks:∀ (l:List Lk),l.length≤wgts (lks l)
 | []=>Nat.zero_le _
 | x::r=>by
  have h:=wgts_lks r
  have e:wgts (lks (x::r))=(1+(1+(1+0)))+wgts (lks r):=rfl
  rw [e]; simp only [List.length_cons]; omega
theorem wgts_ens:∀ (l:List En),l.length≤wgts (ens l)
 | []=>Nat.zero_le _
 | x::r=>by
  have h:=wgts_ens r
  have e:wgts (ens (x::r))=(1+(1+(1+0)))+wgts (ens r):=rfl
  rw [e]; simp only [List.length_cons]; omega
theorem wgt_ms (m:Ms):m.ns.length≤wgt m.d∧m.ls.length≤wgt m.d:=by
 have e:wgt m.d=(wgts (strs m.ns)+1)+((wgts (lks m.ls)+1)+0):=rfl
 have h1:=wgts_strs m.ns
 have h2:=wgts_lks m.ls
 omega
theorem wgt_st (s:Sts):s.es.length≤wgt s.d:=by
 have e:wgt s.d=1+(1+((wgts (ens s.es)+1)+0)):=rfl
 have h1:=wgts_ens s.es
 omega
end Vc
set_option maxRecDepth 10000
namespace Vc
open Go Go.Proofs
def ofE (m:Ms) (s:Sts) (fr w:Int):En:=⟨(s.at fr).nu,(s.at fr).di+betw m.ls fr w,fr⟩
def ofB (m:Ms) (s:Sts) (fr w:Int):Bool:=!((s.at fr).ne==-1)&&decide ((s.at fr).di+betw m.ls fr w≤3200)
def En.betB (x o:En):Bool:=decide (o.nu < x.nu)||((x.nu==o.nu)&&decide (x.di < o.di))
theorem betB_iff {x o:En}:x.betB o=true↔x.bet o:=by
 unfold En.betB En.bet
 simp only [Bool.or_eq_true,Bool.and_eq_true,decide_eq_true_eq,beq_iff_eq]
 constructor
 ·rintro (h | ⟨h1,h2⟩)
  ·exact .inl h
  ·exact .inr ⟨h1.symm,h2⟩
 ·rintro (h | ⟨h1,h2⟩)
  ·exact .inl h
  ·exact .inr ⟨h1.symm,h2⟩
def hrB (m:Ms) (s:Sts) (lost:List (Int × Int)) (w fr:Int) (acc:En):Bool:=!(w==s.co)&&(ofB m s fr w&&(!(lostB lost w fr)&&(ofE m s fr w).betB acc))
def hr (m:Ms) (s:Sts) (lost:List (Int × Int)) (w:Int) (acc:En) (fr:Int):En:=bif hrB m s lost w fr acc then ofE m s fr w else acc
def roundE (m:Ms) (s:Sts) (lost:List (Int × Int)) (w:Int):En:=(m.nbs w).foldl (hr m s lost w) (s.at w)
def rndL (m:Ms) (s:Sts) (lost:List (Int × Int)) (n:Nat):List En:=(List.range s.es.length).map fun i=>if i < n then roundE m s lost i else s.at i
def Sts.round (m:Ms) (s:Sts) (lost:List (Int × Int)):Sts:=⟨s.co,s.nu,rndL m s lost s.es.length⟩
theorem rndL_len (m:Ms) (s:Sts) (lost:List (Int × Int)) (n:Nat):(rndL m s lost n).length=s.es.length:=by unfold rndL; rw [List.length_map,List.length_range]
theorem rndL_get (m:Ms) (s:Sts) (lost:List (Int × Int)) (n:Nat) {i:Nat} (h:i < s.es.length):(rndL m s lost n)[i]?=some (if i < n then roundE m s lost i else s.at i):=by
 unfold rndL; rw [List.getElem?_map,List.getElem?_range h]; rfl
theorem betw_comm (ls:List Lk) (a b:Int):betw ls a b=betw ls b a:=by
 induction ls with
 | nil=>rfl
 | cons l r ih =>
  unfold betw
  rw [ih,show hit l a b=hit l b a by unfold hit; rw [Int.min_comm,Int.max_comm]]
theorem hr_fold (m : Ms) (s : Sts) (lost : List (Int × Int)) (w : Int) : ∀ (L : List Int) (acc : En),
  (L.foldl (hr m s lost w) acc=acc∨∃ fr∈L,hrB m s lost w fr acc=true∧L.foldl (hr m s lost w) acc=ofE m s fr w)∧(∀ fr∈L,hrB m s lost w fr (L.foldl (hr m s lost w) acc)=false)∧¬ acc.bet (L.foldl (hr m s lost w) acc)
 | [],acc=>⟨.inl rfl,fun _ h=>(by cases h),fun h=>by unfold En.bet at h; simp only [List.foldl] at h; omega⟩
 | x::L,acc=>by
  have ih:=hr_fold m s lost w L (hr m s lost w acc x)
  have e0:(x::L).foldl (hr m s lost w) acc=L.foldl (hr m s lost w) (hr m s lost w acc x):=rfl
  rw [e0]
  generalize hR:L.foldl (hr m s lost w) (hr m s lost w acc x)=R at ih ⊢
  obtain ⟨i1,i2,i3⟩:=ih
  have mono:∀ fr (a b:En),¬ a.bet b→hrB m s lost w fr b=true→hrB m s lost w fr a=true→True:=fun _ _ _ _ _ _=>trivial
  have up:∀ fr,¬ acc.bet (hr m s lost w acc x)→hrB m s lost w fr (hr m s lost w acc x)=true→hrB m s lost w fr acc=true:=by
   intro fr hn hb
   unfold hrB at hb ⊢
   simp only [Bool.and_eq_true,Bool.not_eq_true'] at hb ⊢
   refine ⟨hb.1,hb.2.1,hb.2.2.1,betB_iff.2 ?_⟩
   have h:=betB_iff.1 hb.2.2.2
   unfold En.bet at h hn ⊢
   omega
  have h1:¬ acc.bet (hr m s lost w acc x):=by
   unfold hr
   cases hb:hrB m s lost w x acc
   ·intro h; unfold En.bet at h; simp only [cond_false] at h; omega
   ·intro h
    unfold hrB at hb
    simp only [Bool.and_eq_true] at hb
    have h2:=betB_iff.1 hb.2.2.2
    simp only [cond_true] at h
    unfold En.bet at h h2
    omega
  refine ⟨?_,?_,?_⟩
  ·rcases i1 with e | ⟨fr,hm,hb,e⟩
   ·rw [e]
    cases hb:hrB m s lost w x acc
    ·left; unfold hr; rw [hb]; rfl
    ·right; exact ⟨x,List.mem_cons_self,hb,by unfold hr; rw [hb]; rfl⟩
   ·exact .inr ⟨fr,List.mem_cons_of_mem _ hm,up fr h1 hb,e⟩
  ·intro fr hm
   rcases List.mem_cons.1 hm with rfl | hm
   ·cases hb:hrB m s lost w fr R
    ·rfl
    ·exfalso
     have hb2:=hb
     unfold hrB at hb2
     simp only [Bool.and_eq_true,Bool.not_eq_true'] at hb2
     have h2:=betB_iff.1 hb2.2.2.2
     cases hc:hrB m s lost w fr acc
     ·-- then acc was no worse
      have hc2:¬ (ofE m s fr w).betB acc=true:=by
       intro h
       unfold hrB at hc
       rw [hb2.1,hb2.2.1,hb2.2.2.1,h] at hc
       cases hc
      have e:hr m s lost w acc fr=acc:=by unfold hr; rw [hc]; rfl
      rw [e] at i3
      have h3:¬ (ofE m s fr w).bet acc:=fun h=>hc2 (betB_iff.2 h)
      unfold En.bet at h2 h3 i3
      omega
     ·have e:hr m s lost w acc fr=ofE m s fr w:=by unfold hr; rw [hc]; rfl
      rw [e] at i3
      exact i3 h2
   ·exact i2 fr hm
  ·intro h
   unfold En.bet at h h1 i3
   omega
end Vc
set_option maxRecDepth 10000
namespace Vc
open Go Go.Proofs
structure Good (m:Ms) (s:Sts):Prop where
 chk:m.chk=0
 co:0≤s.co∧s.co < (m.ns.length:Int)
 nu:1≤s.nu∧s.nu≤1000000
 len:s.es.length=m.ns.length
 rng:∀ k:Int,0≤k→k < (m.ns.length:Int)→(0≤(s.at k).nu∧(s.at k).nu≤s.nu)∧(0≤(s.at k).di∧(s.at k).di≤3200)∧(-1≤(s.at k).ne∧(s.at k).ne < (m.ns.length:Int))
 coE:s.at s.co=⟨s.nu,0,s.co⟩
 bare:∀ k:Int,0≤k→k < (m.ns.length:Int)→k≠s.co→(s.at k).nu=0→s.at k=⟨0,0,-1⟩
 lnk:∀ k:Int,0≤k→k < (m.ns.length:Int)→k≠s.co→(s.at k).ne≠-1→betw m.ls k (s.at k).ne≠0
 lead:∀ k:Int,0≤k→k < (m.ns.length:Int)→k≠s.co→(s.at k).ne≠-1→(s.at k).nu < (s.at (s.at k).ne).nu∨((s.at (s.at k).ne).nu=(s.at k).nu∧(s.at (s.at k).ne).di+betw m.ls k (s.at k).ne≤(s.at k).di)
theorem En.same_iff {x y:En}:En.same x y=true↔x=y:=by
 unfold En.same
 simp only [Bool.and_eq_true,beq_iff_eq,and_true]
 constructor
 ·rintro ⟨h1,h2,h3⟩
  cases x; cases y
  simp only at h1 h2 h3
  subst h1; subst h2; subst h3; rfl
 ·rintro rfl; exact ⟨rfl,rfl,rfl⟩
theorem good_of {m:Ms} {s:Sts} (h:m.chkS s=0):Good m s:=by
 have hf:=chkS_fine h
 have h1:stH m s=0:=Classical.byContradiction fun hn=>hn ((chkS_1 hn).symm.trans h)
 have hlen:=hf.len
 have gt:∀ k:Int,0≤k→k < (m.ns.length:Int)→s.es[k.toNat]?=some (s.at k):=fun k h0 h2=>Sts.at_getI (by omega)
 have ent:∀ k:Int,0≤k→k < (m.ns.length:Int)→entE m s k (s.at k)=0:=fun k h0 h2=>by
  have:=hf.ent k.toNat (s.at k) (gt k h0 h2)
  rwa [show ((k.toNat:Nat):Int)=k by omega] at this
 have hd:∀ k:Int,0≤k→k < (m.ns.length:Int)→entH m s (s.at k)=0:=fun k h0 h2=>Classical.byContradiction fun hn=>hn ((entE_bad rfl hn).symm.trans (ent k h0 h2))
 have no:∀ k:Int,0≤k→k < (m.ns.length:Int)→k≠s.co→(bif ((s.at k).nu==0)&&!(En.same (s.at k) ⟨0,0,-1⟩) then 1 else 0:Int)=0∧(bif ((s.at k).ne != -1)&&(betw m.ls k (s.at k).ne==0) then 7 else 0:Int)=0:=fun k h0 h2 hc=>by
  have e:=ent k h0 h2
  rw [entE_no rfl (hd k h0 h2) hc rfl rfl] at e
  have:=firstOf_zero e
  exact ⟨this _ (by simp),this _ (by simp)⟩
 refine ⟨firstOf_zero h1 m.chk (by simp),hf.co,hf.nu,hlen,fun k h0 h2=>ent_ok (ent k h0 h2),?_,?_,?_,?_⟩
 ·have e:=ent s.co hf.co.1 hf.co.2
  rw [entE_co rfl (hd _ hf.co.1 hf.co.2) rfl] at e
  cases hs:En.same (s.at s.co) ⟨s.nu,0,s.co⟩
  ·rw [hs] at e; cases e
  ·exact En.same_iff.1 hs
 ·intro k h0 h2 hc hn
  have e:=(no k h0 h2 hc).1
  rw [hn] at e
  cases hs:En.same (s.at k) ⟨0,0,-1⟩
  ·rw [hs] at e; cases e
  ·exact En.same_iff.1 hs
 ·intro k h0 h2 hc hn hz
  have e:=(no k h0 h2 hc).2
  rw [hz,show ((s.at k).ne != -1)=true by rw [bne_iff_ne]; exact hn] at e
  cases e
 ·intro k h0 h2 hc hn
  have e:=hf.lead k.toNat (s.at k) (gt k h0 h2)
  rw [show ((k.toNat:Nat):Int)=k by omega,leads_3 hc hn] at e
  simp only [Bool.or_eq_true,Bool.and_eq_true,decide_eq_true_eq,beq_iff_eq] at e
  exact e
theorem Good.hears {m : Ms} {s t : Sts} (g : Good m s) (hc : t.co = s.co) (hn : t.nu = s.nu) (hl : t.es.length = s.es.length)
  (hs:∀ k:Int,0≤k→k < (m.ns.length:Int)→t.at k=s.at k∨(k≠s.co∧∃ u:Int,0≤u∧u < (m.ns.length:Int)∧(s.at u).ne≠-1∧0 < betw m.ls u k∧(s.at u).di+betw m.ls u k≤3200∧t.at k=ofE m s u k∧(t.at k).bet (s.at k))):Good m t:=by
 have nw:∀ k:Int,0≤k→k < (m.ns.length:Int)→(s.at k).nu < (t.at k).nu∨((t.at k).nu=(s.at k).nu∧(t.at k).di≤(s.at k).di):=fun k h0 h1=>by
  rcases hs k h0 h1 with e | ⟨_,u,_,_,_,_,_,_,hb⟩
  ·rw [e]; exact .inr ⟨rfl,Int.le_refl _⟩
  ·unfold En.bet at hb; omega
 refine ⟨g.chk,by rw [hc]; exact g.co,by rw [hn]; exact g.nu,hl.trans g.len,?_,?_,?_,?_,?_⟩
 ·intro k h0 h1
  rw [hn]
  rcases hs k h0 h1 with e | ⟨_,u,u0,u1,u2,u3,u4,e,_⟩
  ·rw [e]; exact g.rng k h0 h1
  ·rw [e]
   have r:=g.rng u u0 u1
   unfold ofE
   exact ⟨r.1,⟨by show 0≤(s.at u).di+betw m.ls u k; omega,u4⟩,by show -1≤u; omega,u1⟩
 ·rw [hc]
  rcases hs s.co g.co.1 g.co.2 with e | ⟨h,_⟩
  ·rw [e,g.coE,hn]
  ·exact absurd rfl h
 ·intro k h0 h1 hk hz
  rw [hc] at hk
  rcases hs k h0 h1 with e | ⟨_,u,u0,u1,u2,u3,u4,e,_⟩
  ·rw [e] at hz ⊢; exact g.bare k h0 h1 hk hz
  ·exfalso
   rw [e] at hz
   have hz:(s.at u).nu=0:=hz
   by_cases hu:u=s.co
   ·rw [hu,g.coE] at hz
    have:=g.nu
    have hz:s.nu=0:=hz
    omega
   ·have:=g.bare u u0 u1 hu hz
    rw [this] at u2; exact u2 rfl
 ·intro k h0 h1 hk hz
  rw [hc] at hk
  rcases hs k h0 h1 with e | ⟨_,u,u0,u1,u2,u3,u4,e,_⟩
  ·rw [e] at hz ⊢; exact g.lnk k h0 h1 hk hz
  ·rw [e]
   show betw m.ls k u≠0
   rw [betw_comm]; omega
 ·intro k h0 h1 hk hz
  rw [hc] at hk
  rcases hs k h0 h1 with e | ⟨_,u,u0,u1,u2,u3,u4,e,_⟩
  ·rw [e] at hz ⊢
   have l:=g.lead k h0 h1 hk hz
   have r:=g.rng k h0 h1
   have:=nw (s.at k).ne (by omega) (by omega)
   omega
  ·rw [e]
   show (s.at u).nu < (t.at u).nu∨((t.at u).nu=(s.at u).nu∧(t.at u).di+betw m.ls k u≤(s.at u).di+betw m.ls u k)
   rw [betw_comm m.ls k u]
   have:=nw u u0 u1
   omega
end Vc
