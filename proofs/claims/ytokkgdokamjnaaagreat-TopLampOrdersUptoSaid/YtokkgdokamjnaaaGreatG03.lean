import Derived.Test.YtokkgdokamjnaaaGreatG02
import Derived.ChangeKeysEq
import Derived.Laws.StructEq
import Derived.Laws.BytesString
import Derived.RangeFuncRecord
import Derived.MapKept
set_option linter.unusedSectionVars false
set_option linter.unusedVariables false
set_option linter.unusedSimpArgs false
set_option linter.unusedSimpArgs false
set_option linter.unusedVariables false
namespace Vc
open Go Go.RowKit
section
variable {P : Program} [Laid P] {n base : Nat} {w0 : W0} {w : World} {G : Gh} {st : St} {a : Act} {o : Oper} {r : Option Nat} {v : AVal} {ws : List (Nat × AObj)} {rs : List Nat}
theorem go_bit (hr : Rel n base w0 G st a w) {op op' : BinOp} {t t' : TypeId} {x y : Operand} {k : IntKind} {x' y' : Opd} (ho : o.op = .binOp op t x y t')
  (hop:bitOk op op'=true) (hx:chkOpd x x'=true) (hy:chkOpd y y'=true)
  (he:ERun (eff P (getL st.slots) (.bit op' k x' y')) st.heap v ws rs):Goes P n base w0 w st a o r v ws:=by
 have h1:=chkOpd_rel hr hx
 have h2:=chkOpd_rel hr hy
 simp only [eff] at he
 split at he
 ·rename_i k1 m1 k2 m2 e1 e2
  rw [e1] at h1; rw [e2] at h2
  have e3:=int_of h1
  have e4:=int_of h2
  obtain ⟨q,⟨rfl,rfl,hq⟩,rfl,rfl,rfl⟩:=he
  refine goes_value (by simp [ho]) (x:=.int k2 q) (w':=w) (G':=G) ?_ hr (by simp [VRel,DRel])
  simp only [execOp,ho,e3,e4]
  cases op <;> cases op' <;> simp [bitOk] at hop <;> simp only [bitF] at hq <;> cases hq <;> simp [eqGuard,binOp,Op.intBits]
 ·exact he.elim
theorem go_shf (hr : Rel n base w0 G st a w) {op op' : BinOp} {t t' : TypeId} {x y : Operand} {k : IntKind} {x' y' : Opd} (ho : o.op = .binOp op t x y t')
  (hop:shfOk op op'=true) (hx:chkOpd x x'=true) (hy:chkOpd y y'=true)
  (he:ERun (eff P (getL st.slots) (.shf op' k x' y')) st.heap v ws rs):Goes P n base w0 w st a o r v ws:=by
 have h1:=chkOpd_rel hr hx
 have h2:=chkOpd_rel hr hy
 simp only [eff] at he
 split at he
 ·rename_i k1 m1 k2 m2 e1 e2
  rw [e1] at h1; rw [e2] at h2
  have e3:=int_of h1
  have e4:=int_of h2
  obtain ⟨q,⟨rfl,hq⟩,rfl,rfl,rfl⟩:=he
  refine goes_value (by simp [ho]) (x:=.int k1 q) (w':=w) (G':=G) ?_ hr (by simp [VRel,DRel])
  simp only [execOp,ho,e3,e4]
  cases op <;> cases op' <;> simp [shfOk] at hop <;> simp only [shfF] at hq <;> split at hq <;> first | cases hq; done | (rename_i hz; cases hq; simp [eqGuard,binOp,Op.shift,hz])
 ·exact he.elim
theorem go_neg (hr : Rel n base w0 G st a w) {t : TypeId} {x : Operand} {k : IntKind} {x' : Opd} (ho : o.op = .unOp .neg t x) (hx : chkOpd x x' = true)
  (he:ERun (eff P (getL st.slots) (.neg k x')) st.heap v ws rs):Goes P n base w0 w st a o r v ws:=by
 have h1:=chkOpd_rel hr hx
 simp only [eff] at he
 split at he
 ·rename_i k1 m e1
  rw [e1] at h1
  obtain ⟨q,⟨rfl,hq⟩,rfl,rfl,rfl⟩:=he
  exact goes_value (by simp [ho]) (x:=.int k1 q) (w':=w) (G':=G) (by simp [execOp,ho,int_of h1,Op.unary,Op.intArith,← hq]) hr (by simp [VRel,DRel])
 ·exact he.elim
theorem eq_cell {t k : Nat} (hb : basicT P t k = true) {ks : List Nat} {x y : AVal} {xs ys : List AVal} {u u' : Value} {h : List AObj} {b : Bool} {d : Nat} (hx : VRel w G h x u) (hy : VRel w G h y u')
  (he:eqCells (k::ks) (x::xs) (y::ys)=some b):∃ b1 b2,b=(b1&&b2)∧eqCells ks xs ys=some b2∧(Op.equalIn (d+1) t u u').run P w=.ok b1 w:=by
 unfold basicT at hb
 unfold eqCells at he
 split at he
 ·rename_i h1 _ _; cases h1
 ·rename_i h1 h2 h3
  cases h1; cases h2; cases h3
  split at he
  ·rename_i r hk hr
   cases he
   have hk:=of_decide_eq_true hk
   subst hk
   rw [int_of hx,int_of hy]
   split at hb
   ·rename_i k' hu _
    exact ⟨_,r,rfl,hr,run_equalIn_int w d t _ k' _ _ hu⟩
   ·rename_i h9; cases h9
   ·rename_i h9; cases h9
   ·cases hb
  ·cases he
 ·rename_i h1 h2 h3
  cases h1; cases h2; cases h3
  split at he
  ·rename_i r hr
   cases he
   rw [bool_of hx,bool_of hy]
   split at hb
   ·rename_i h9; cases h9
   ·rename_i hu _
    exact ⟨_,r,rfl,hr,run_equalIn_bool' w d t _ _ hu⟩
   ·rename_i h9; cases h9
   ·cases hb
  ·cases he
 ·rename_i h1 h2 h3
  cases h1; cases h2; cases h3
  split at he
  ·rename_i r hr
   cases he
   rw [str_of hx,str_of hy]
   split at hb
   ·rename_i h9; cases h9
   ·rename_i h9; cases h9
   ·rename_i hu _
    refine ⟨_,r,rfl,hr,?_⟩
    rw [str,str,run_equalIn_string w d t _ _ hu]
    simp [ByteArray.toList_mk]
   ·cases hb
  ·cases he
 ·cases he
theorem basic_notAgg {t k:Nat} (hb:basicT P t k=true):isAggT P t=false∧∃ d,P.underlying t=some d:=by
 unfold basicT at hb
 unfold isAggT
 split at hb <;> simp_all
theorem run_part_basic {t k:Nat} (hb:basicT P t k=true) {cs:Array Value} {off:Nat} {u:Value} (hu:cs[off]?=some u):(part t cs off).run P w=.ok u w:=by
 obtain ⟨h1,d,h2⟩:=basic_notAgg hb
 simp [part,run_isAgg h2,h1,hu]
theorem eqFields_run {d : Nat} {us us' : Array Value} {h : List AObj} : ∀ {fs : List Field} {ks : List Nat} {i : Nat} {xs ys : List AVal} {b : Bool}, fieldsEq P fs ks i = true → VRels w G h xs (us.toList.drop i) → VRels w G h ys (us'.toList.drop i) →
  eqCells ks xs ys=some b→(Op.eqFields (d+1) us us' fs).run P w=.ok b w
 | [],[],i,xs,ys,b,hf,hx,hy,he=>by
  cases xs <;> cases ys <;> simp [eqCells] at he
  subst he
  simp [Op.eqFields]
 | [],_::_,i,xs,ys,b,hf,hx,hy,he=>by simp [fieldsEq] at hf
 | _::_,[],i,xs,ys,b,hf,hx,hy,he=>by simp [fieldsEq] at hf
 | f::fs,k::ks,i,xs,ys,b,hf,hx,hy,he=>by
  simp only [fieldsEq,Bool.and_eq_true,Bool.not_eq_true',beq_eq_false_iff_ne] at hf
  obtain ⟨⟨⟨hn,ho⟩,hb⟩,hrest⟩:=hf
  have ho:=Nat.eq_of_beq_eq_true ho
  match xs,ys with
  | [],_=>simp [eqCells] at he
  | _::_,[]=>simp [eqCells] at he
  | x::xs,y::ys =>
   obtain ⟨u,r1,e1,h1,h2⟩:=(by simpa only [VRels] using hx:∃ v r,us.toList.drop i=v::r∧VRel w G h x v∧VRels w G h xs r)
   obtain ⟨u',r2,e2,h3,h4⟩:=(by simpa only [VRels] using hy:∃ v r,us'.toList.drop i=v::r∧VRel w G h y v∧VRels w G h ys r)
   have g1:us[i]?=some u:=by rw [← Array.getElem?_toList,← Nat.add_zero i,← List.getElem?_drop,e1]; rfl
   have g2:us'[i]?=some u':=by rw [← Array.getElem?_toList,← Nat.add_zero i,← List.getElem?_drop,e2]; rfl
   have d1:r1=us.toList.drop (i+1):=by rw [← List.drop_drop,e1]; rfl
   have d2:r2=us'.toList.drop (i+1):=by rw [← List.drop_drop,e2]; rfl
   obtain ⟨b1,b2,rfl,h5,h6⟩:=eq_cell (d:=d) hb h1 h3 he
   have ih:=eqFields_run (d:=d) (us:=us) (us':=us') hrest (d1 ▸ h2) (d2 ▸ h4) h5
   rw [← ho] at g1 g2
   simp only [Op.eqFields,hn,ne_eq,not_false_eq_true,if_true,Sem.run_bind,run_part_basic hb g1,run_part_basic hb g2,Result.andThen_ok,h6]
   cases b1
   ·simp
   ·simpa using ih
theorem eqItems_run {d e : Nat} {us us' : Array Value} {h : List AObj} : ∀ {m : Nat} {ks : List Nat} {i : Nat} {xs ys : List AVal} {b : Bool}, ks.all (basicT P e) = true → ks.length = m → VRels w G h xs (us.toList.drop i) → VRels w G h ys (us'.toList.drop i) →
  eqCells ks xs ys=some b→(Op.eqItems (d+1) e 1 us us' (List.range' i m)).run P w=.ok b w
 | 0,[],i,xs,ys,b,hf,hm,hx,hy,he=>by
  cases xs <;> cases ys <;> simp [eqCells] at he
  subst he
  simp [Op.eqItems]
 | _+1,[],i,xs,ys,b,hf,hm,hx,hy,he=>by simp at hm
 | 0,_::_,i,xs,ys,b,hf,hm,hx,hy,he=>by simp at hm
 | m+1,k::ks,i,xs,ys,b,hf,hm,hx,hy,he=>by
  simp only [List.all_cons,Bool.and_eq_true] at hf
  obtain ⟨hb,hrest⟩:=hf
  match xs,ys with
  | [],_=>simp [eqCells] at he
  | _::_,[]=>simp [eqCells] at he
  | x::xs,y::ys =>
   obtain ⟨u,r1,e1,h1,h2⟩:=(by simpa only [VRels] using hx:∃ v r,us.toList.drop i=v::r∧VRel w G h x v∧VRels w G h xs r)
   obtain ⟨u',r2,e2,h3,h4⟩:=(by simpa only [VRels] using hy:∃ v r,us'.toList.drop i=v::r∧VRel w G h y v∧VRels w G h ys r)
   have g1:us[i]?=some u:=by rw [← Array.getElem?_toList,← Nat.add_zero i,← List.getElem?_drop,e1]; rfl
   have g2:us'[i]?=some u':=by rw [← Array.getElem?_toList,← Nat.add_zero i,← List.getElem?_drop,e2]; rfl
   have d1:r1=us.toList.drop (i+1):=by rw [← List.drop_drop,e1]; rfl
   have d2:r2=us'.toList.drop (i+1):=by rw [← List.drop_drop,e2]; rfl
   obtain ⟨b1,b2,rfl,h5,h6⟩:=eq_cell (d:=d) hb h1 h3 he
   have ih:=eqItems_run (d:=d) (us:=us) (us':=us') hrest (by simpa using hm) (d1 ▸ h2) (d2 ▸ h4) h5
   simp only [List.range'_succ,Op.eqItems,Nat.mul_one,Sem.run_bind,run_part_basic hb g1,run_part_basic hb g2,Result.andThen_ok,h6]
   cases b1
   ·simp
   ·simpa using ih
theorem eqCells_split : ∀ (m : Nat) {ks : List Nat} {xs ys : List AVal} {b : Bool}, m ≤ ks.length → eqCells ks xs ys = some b →
  ∃ b1 b2,b=(b1&&b2)∧eqCells (ks.take m) (xs.take m) (ys.take m)=some b1∧eqCells (ks.drop m) (xs.drop m) (ys.drop m)=some b2
 | 0,ks,xs,ys,b,_,h=>⟨true,b,by simp,by simp [eqCells],by simpa using h⟩
 | m+1,[],_,_,_,hm,_=>absurd hm (by simp)
 | m+1,k::ks,xs,ys,b,hm,h=>by
  unfold eqCells at h
  split at h
  ·rename_i h1; cases h1
  ·rename_i h1; cases h1
   split at h
   ·rename_i r hk hr
    cases h
    obtain ⟨b1,b2,e,e1,e2⟩:=eqCells_split m (by simpa using hm) hr
    refine ⟨_,b2,?_,by simp only [List.take_succ_cons,eqCells,hk,e1]; rfl,by simpa using e2⟩
    rw [e,Bool.and_assoc]
   ·cases h
  ·rename_i h1; cases h1
   split at h
   ·rename_i r hr
    cases h
    obtain ⟨b1,b2,e,e1,e2⟩:=eqCells_split m (by simpa using hm) hr
    refine ⟨_,b2,?_,by simp only [List.take_succ_cons,eqCells,e1]; rfl,by simpa using e2⟩
    rw [e,Bool.and_assoc]
   ·cases h
  ·rename_i h1; cases h1
   split at h
   ·rename_i r hr
    cases h
    obtain ⟨b1,b2,e,e1,e2⟩:=eqCells_split m (by simpa using hm) hr
    refine ⟨_,b2,?_,by simp only [List.take_succ_cons,eqCells,e1]; rfl,by simpa using e2⟩
    rw [e,Bool.and_assoc]
   ·cases h
  ·cases h
theorem part_agg {t:TypeId} {k off:Nat} (hs:sizeIs P t k=true) (ha:isAggT P t=true) (us:Array Value):(part t us off).run P w=.ok (.agg ((us.toList.drop off).take k).toArray) w:=by
 obtain ⟨i,d,hi,hk,hd⟩:=sizeIs_spec hs
 have h:=(run_part (P:=P) (w:=w) hi hd (off:=off) (vs:=us.toList) hk ha).1 rfl
 simpa using h
theorem eqFields_run2 {d : Nat} {us us' : Array Value} {h : List AObj} : ∀ {fs : List Field} {ks : List Nat} {i : Nat} {xs ys : List AVal} {b : Bool}, fieldsEq2 P fs ks i = true → VRels w G h xs (us.toList.drop i) → VRels w G h ys (us'.toList.drop i) →
  eqCells ks xs ys=some b→(Op.eqFields (d+2) us us' fs).run P w=.ok b w
 | [],[],i,xs,ys,b,hf,hx,hy,he=>by
  cases xs <;> cases ys <;> simp [eqCells] at he
  subst he
  simp [Op.eqFields]
 | [],_::_,i,xs,ys,b,hf,hx,hy,he=>by simp [fieldsEq2] at hf
 | f::fs,ks,i,xs,ys,b,hf,hx,hy,he=>by
  unfold fieldsEq2 at hf
  simp only [Bool.and_eq_true,Bool.not_eq_true',beq_eq_false_iff_ne] at hf
  obtain ⟨⟨hn,ho⟩,hf⟩:=hf
  have ho:=Nat.eq_of_beq_eq_true ho
  split at hf
  ·rename_i gs hu
   simp only [Bool.and_eq_true,Bool.not_eq_true'] at hf
   obtain ⟨⟨⟨⟨⟨hl,hg⟩,hsi⟩,hsz⟩,hag⟩,hrest⟩:=hf
   have hl:=Nat.le_of_ble_eq_true hl
   obtain ⟨b1,b2,rfl,e1,e2⟩:=eqCells_split gs.size hl he
   have p1:=part_agg (w:=w) hsz hag (off:=i) us
   have p2:=part_agg (w:=w) hsz hag (off:=i) us'
   have hfo:P.fieldsOf f.type=gs:=by simp [Program.fieldsOf,hu]
   have inner:=eqFields_run (w:=w) (G:=G) (d:=d) (h:=h) (us:=((us.toList.drop i).take gs.size).toArray) (us':=((us'.toList.drop i).take gs.size).toArray) hg
    (by simpa using VRels_take gs.size hx) (by simpa using VRels_take gs.size hy) e1
   have eq:=run_equalIn_struct (P:=P) w (d+1) f.type ((us.toList.drop i).take gs.size).toArray ((us'.toList.drop i).take gs.size).toArray (by rw [hfo]; exact hu) hsi
   rw [hfo,inner] at eq
   have ih:=eqFields_run2 (d:=d) (us:=us) (us':=us') hrest
    (by have:=VRels_drop gs.size hx; rwa [List.drop_drop] at this) (by have:=VRels_drop gs.size hy; rwa [List.drop_drop] at this) e2
   rw [← ho] at p1 p2
   have eq2:(Op.equalIn (d+2) f.type (.agg ((us.toList.drop f.offset).take gs.size).toArray) (.agg ((us'.toList.drop f.offset).take gs.size).toArray)).run P w=.ok b1 w:=by rw [ho]; exact eq
   simp only [Op.eqFields,hn,ne_eq,not_false_eq_true,if_true,Sem.run_bind,p1,p2,Result.andThen_ok,eq2]
   cases b1
   ·simp
   ·simpa using ih
  ·rename_i len e hu
   simp only [Bool.and_eq_true] at hf
   obtain ⟨⟨⟨⟨⟨hl,hg⟩,hse⟩,hsz⟩,hag⟩,hrest⟩:=hf
   have hl:=Nat.le_of_ble_eq_true hl
   obtain ⟨b1,b2,rfl,e1,e2⟩:=eqCells_split len hl he
   have p1:=part_agg (w:=w) hsz hag (off:=i) us
   have p2:=part_agg (w:=w) hsz hag (off:=i) us'
   obtain ⟨ie,td,hi,hsz1,_⟩:=sizeIs_spec hse
   have inner:=eqItems_run (w:=w) (G:=G) (d:=d) (h:=h) (us:=((us.toList.drop i).take len).toArray) (us':=((us'.toList.drop i).take len).toArray) (i:=0) (m:=len) hg (by rw [List.length_take]; omega)
    (by simpa using VRels_take len hx) (by simpa using VRels_take len hy) e1
   have eq:=run_equalIn_array (P:=P) w (d+1) ((us.toList.drop i).take len).toArray ((us'.toList.drop i).take len).toArray hu hi
   have hco:P.cellsOf e=1:=by simp [Program.cellsOf,hi,hsz1]
   rw [hco,List.range_eq_range',inner] at eq
   have ih:=eqFields_run2 (d:=d) (us:=us) (us':=us') hrest
    (by have:=VRels_drop len hx; rwa [List.drop_drop] at this) (by have:=VRels_drop len hy; rwa [List.drop_drop] at this) e2
   rw [← ho] at p1 p2
   have eq2:(Op.equalIn (d+2) f.type (.agg ((us.toList.drop f.offset).take len).toArray) (.agg ((us'.toList.drop f.offset).take len).toArray)).run P w=.ok b1 w:=by rw [ho]; exact eq
   simp only [Op.eqFields,hn,ne_eq,not_false_eq_true,if_true,Sem.run_bind,p1,p2,Result.andThen_ok,eq2]
   cases b1
   ·simp
   ·simpa using ih
  ·split at hf
   ·rename_i k ks _
    simp only [Bool.and_eq_true] at hf
    obtain ⟨hb,hrest⟩:=hf
    match xs,ys with
    | [],_=>simp [eqCells] at he
    | _::_,[]=>simp [eqCells] at he
    | x::xs,y::ys =>
     obtain ⟨u,r1,e1,h1,h2⟩:=(by simpa only [VRels] using hx:∃ v r,us.toList.drop i=v::r∧VRel w G h x v∧VRels w G h xs r)
     obtain ⟨u',r2,e2,h3,h4⟩:=(by simpa only [VRels] using hy:∃ v r,us'.toList.drop i=v::r∧VRel w G h y v∧VRels w G h ys r)
     have g1:us[i]?=some u:=by rw [← Array.getElem?_toList,← Nat.add_zero i,← List.getElem?_drop,e1]; rfl
     have g2:us'[i]?=some u':=by rw [← Array.getElem?_toList,← Nat.add_zero i,← List.getElem?_drop,e2]; rfl
     have d1:r1=us.toList.drop (i+1):=by rw [← List.drop_drop,e1]; rfl
     have d2:r2=us'.toList.drop (i+1):=by rw [← List.drop_drop,e2]; rfl
     obtain ⟨b1,b2,rfl,h5,h6⟩:=eq_cell (d:=d+1) hb h1 h3 he
     have ih:=eqFields_run2 (d:=d) (us:=us) (us':=us') hrest (d1 ▸ h2) (d2 ▸ h4) h5
     rw [← ho] at g1 g2
     simp only [Op.eqFields,hn,ne_eq,not_false_eq_true,if_true,Sem.run_bind,run_part_basic hb g1,run_part_basic hb g2,Result.andThen_ok,h6]
     cases b1
     ·simp
     ·simpa using ih
   ·cases hf
theorem go_aeq (hr : Rel n base w0 G st a w) {op : BinOp} {neg : Bool} {ks : List Nat} {t t' : TypeId} {x y : Operand} {x' y' : Opd} (ho : o.op = .binOp op t x y t')
  (hop:negOk op neg=true) (hq:eqOk P t ks=true) (hx:chkOpd x x'=true) (hy:chkOpd y y'=true)
  (he:ERun (eff P (getL st.slots) (.aeq neg ks x' y')) st.heap v ws rs):Goes P n base w0 w st a o r v ws:=by
 have h1:=chkOpd_rel hr hx
 have h2:=chkOpd_rel hr hy
 simp only [eff] at he
 split at he
 ·rename_i xs ys c1 c2
  obtain ⟨us,h3,e1,_⟩:=aggCells_of h1 c1
  obtain ⟨us',h4,e2,_⟩:=aggCells_of h2 c2
  obtain ⟨dd,⟨b,hb,rfl⟩,rfl,rfl,rfl⟩:=he
  simp only [eqOk,Bool.and_eq_true,Bool.not_eq_true'] at hq
  obtain ⟨hg,hq⟩:=hq
  have heq:(Op.equal t (.agg us.toArray) (.agg us'.toArray)).run P w=.ok b w:=by
   unfold Op.equal
   split at hq
   ·rename_i fs hu
    simp only [Bool.and_eq_true,Bool.not_eq_true'] at hq
    have hfo:P.fieldsOf t=fs:=by simp [Program.fieldsOf,hu]
    rw [show Op.maxDepth=9999+1 from rfl,run_equalIn_struct w 9999 t _ _ (by rw [hfo]; exact hu) hq.2,hfo]
    exact eqFields_run2 (d:=9997) hq.1 (by simpa using h3) (by simpa using h4) hb
   ·rename_i len e hu
    simp only [Bool.and_eq_true] at hq
    obtain ⟨i,td,hi,hsz,_⟩:=sizeIs_spec hq.2
    rw [show Op.maxDepth=9999+1 from rfl,run_equalIn_array w 9999 _ _ hu hi]
    have:P.cellsOf e=1:=by simp [Program.cellsOf,hi,hsz]
    rw [this,List.range_eq_range']
    exact eqItems_run (d:=9998) hq.1.2 (Nat.eq_of_beq_eq_true hq.1.1) (by simpa using h3) (by simpa using h4) hb
   ·cases hq
  refine goes_value (by simp [ho]) (x:=.bool (cond neg (!b) b)) (w':=w) (G':=G) ?_ hr (by simp [VRel,DRel])
  simp only [execOp,ho,e1,e2]
  cases op <;> cases neg <;> simp [negOk] at hop <;> simp [eqGuard,binOp,heq,hg]
 ·exact he.elim
end
end Vc
set_option linter.unusedSimpArgs false
set_option linter.unusedVariables false
namespace Vc
open Go Go.RowKit
section
variable {P : Program} [Laid P] {n base : Nat} {w0 : W0} {w : World} {G : Gh} {st : St} {a : Act} {o : Oper} {r : Option Nat} {v : AVal} {ws : List (Nat × AObj)} {rs : List Nat}
theorem notW_spec {id:Nat}:∀ {ws:List (Nat × AObj)} {h:List AObj},notW id ws=true→(applyW h ws)[id]?=h[id]?
 | [],h,_=>rfl
 | (i,o)::r,h,hn=>by
  simp only [notW,Bool.and_eq_true,Bool.not_eq_true'] at hn
  simp only [applyW]
  rw [notW_spec hn.2,List.getElem?_set_ne]
  intro e
  subst e
  simp [Nat.beq_refl] at hn
theorem take_write {α:Type} (l:List α) (p m:Nat) (vs:List α) (h:p+vs.length≤m) (hm:m≤l.length):(l.take p++vs++l.drop (p+vs.length)).take m=(l.take m).take p++vs++(l.take m).drop (p+vs.length):=by
 have h1:(l.take p).length=p:=by rw [List.length_take]; omega
 have e1:(l.take p).take m=l.take p:=List.take_of_length_le (by omega)
 have e2:(vs++l.drop (p+vs.length)).take (m - p)=vs++(l.drop (p+vs.length)).take (m - p - vs.length):=by
  rw [List.take_append,List.take_of_length_le (by omega)]
 have e3:(l.take m).take p=l.take p:=by rw [List.take_take,Nat.min_eq_left (by omega)]
 have e4:(l.take m).drop (p+vs.length)=(l.drop (p+vs.length)).take (m - p - vs.length):=by rw [List.drop_take,Nat.sub_sub]
 rw [List.append_assoc,List.take_append,h1,e1,e2,e3,e4,List.append_assoc]
theorem row_write (hr : Rel n base w0 G st a w) {id : Nat} {t : TypeId} {sz : Nat} {es es' : List Data} (ho : st.heap[id]? = some (.row t sz es false)) (hlen : es'.length = es.length)
  {g:Nat} {cap:Nat} (hv:G.val id=.slice (some ⟨g,0,none⟩) es.length cap) {p:Nat} {vs:List Value} (hfit:p+vs.length≤es.length * sz) (hone:∀ u∈vs,u.oneCell'=true)
  (hdx:∀ xs,xs.length=es.length * sz→DXs w G.S es sz xs→DXs w G.S es' sz (xs.take p++vs++xs.drop (p+vs.length))) :
  ∃ w' G',(storeCells ⟨g,p,none⟩ vs).run P w=.ok () w'∧Ext w G st.heap w' G' (st.heap.set id (.row t sz es' false))∧Rel n base w0 G' ⟨st.slots,st.heap.set id (.row t sz es' false)⟩ a w':=by
 obtain ⟨h0,xs,hown,hd⟩:=hr.objs id _ ho
 have hown':=hown
 rcases hown.2 with ⟨h9,h10⟩ | ⟨g',cap',cur,h9,h10,h11,h12,h13,h14,h15⟩
 ·rw [hv] at h9; cases h9
 ·rw [hv] at h9
  simp only [Value.slice.injEq,Option.some.injEq,Addr.mk.injEq,and_true,true_and] at h9
  obtain ⟨rfl,rfl⟩:=h9
  have hmul:es.length * sz≤cap * sz:=Nat.mul_le_mul_right _ h12
  have hrun:=run_storeCells_at P g p t vs 0 cur w h11 (by simp; omega) hone
  simp only [Nat.add_zero] at hrun
  have hc:cur.toList.length=cap * sz:=by simpa using h14
  have hx':((cur.toList.take p++vs++cur.toList.drop (p+vs.length)).take (es.length * sz))=xs.take p++vs++xs.drop (p+vs.length):=by
   rw [← h15]
   exact take_write cur.toList p (es.length * sz) vs hfit (by omega)
  have h:=hr.upd (o':=.row t sz es' false) (v':=G.val id) (S':=G.S) (row:=some g)
   (w':=w.setRow g (cur.toList.take p++vs++cur.toList.drop (p+vs.length)).toArray) ho (.inr ⟨by simp,by rw [hv]; rfl⟩) (fun _ _ h=>h) (fun _ _ h=>.inl h)
   ⟨rfl,rfl,rfl,by simp [World.setRow],fun k _ hk=>setRow_other w g k _ (fun e=>hk (by rw [e]))⟩
   (fun b1 off1 hS hb1=>by
    cases hb1
    exact absurd hS (hr.free id _ g off1 ho (by rw [hv]; rfl) (fun h=>by cases h)))
   (fun b1 hb1=>.inl ⟨by simp,hb1⟩) ⟨rfl,rfl,by omega,fun _=>rfl⟩
   (fun hx => ⟨h0, xs.take p ++ vs ++ xs.drop (p + vs.length), by
     rw [show (⟨G.S,upd G.val id (G.val id)⟩:Gh).val id=G.val id from upd_same _ _ _,hlen]
     refine ⟨by rw [← hx']; simp; omega,.inr ⟨g,cap,_,hv,h10,setRow_heap w g cur _ t _ h11,h12,h13,?_,by simpa using hx'⟩⟩
     simp
     omega,DXs_mono hx.keeps hx.seals es' (hdx xs hown.1 hd)⟩)
   (fun b1 off1 hb1 _ hS=>hr.free id _ b1 off1 ho hb1 (fun h=>by cases h) hS) (fun b1 off1 hS=>by have:=hr.lim b1 off1 hS; simpa [World.setRow] using this)
  exact ⟨_,_,hrun,h.1,h.2⟩
theorem DRels_append {S:Nat→Nat→Prop}:∀ {ds ds':List Data} {vs vs':List Value},DRels w S ds vs→DRels w S ds' vs'→DRels w S (ds++ds') (vs++vs')
 | [],ds',vs,vs',h,h'=>by simp only [DRels] at h; subst h; simpa using h'
 | d::ds,ds',vs,vs',h,h'=>by
  simp only [DRels] at h
  obtain ⟨v,r,rfl,h1,h2,h3⟩:=h
  simp only [List.cons_append,DRels]
  exact ⟨v,_,rfl,h1,h2,DRels_append h3 h'⟩
theorem DXs_elem {S : Nat → Nat → Prop} : ∀ {es : List Data} {sz : Nat} {xs : List Value} {i : Nat} {d : Data}, DXs w S es sz xs → es[i]? = some d →
  DRels w S d.cells ((xs.drop (i * sz)).take sz)∧i * sz+sz≤xs.length∧d.cells.length=sz
 | e::es,sz,xs,0,d,h,hd=>by
  simp at hd; subst hd
  simp only [DXs] at h
  obtain ⟨x,r,rfl,h1,h2,h3⟩:=h
  refine ⟨by simpa [h1] using h2,by simp [h1],by rw [← DRels_length h2,h1]⟩
 | e::es,sz,xs,i+1,d,h,hd=>by
  simp only [DXs] at h
  obtain ⟨x,r,rfl,h1,h2,h3⟩:=h
  obtain ⟨h4,h5,h6⟩:=DXs_elem (i:=i) h3 (by simpa using hd)
  have e1:(i+1) * sz=x.length+i * sz:=by rw [Nat.add_mul,h1]; omega
  refine ⟨?_,by rw [e1]; simp; omega,h6⟩
  rw [e1,← List.drop_drop]
  simpa using h4
 | [],_,_,_,_,_,hd=>by simp at hd
theorem go_st (hr : Rel n base w0 G st a w) {t : TypeId} {x y : Operand} {k : Nat} {x' y' : Opd} (ho : o.op = .store t x y) (hs : sizeIs P t k = true) (hx : chkOpd x x' = true) (hy : chkOpd y y' = true)
  (he:ERun (eff P (getL st.slots) (.st k x' y')) st.heap v ws rs):Goes P n base w0 w st a o r v ws:=by
 refine go_st_box hr ho hs hx hy (fun id m i off e1=>?_) he
 have h1:=chkOpd_rel hr hx
 have h2:=chkOpd_rel hr hy
 obtain ⟨ti,td,hti,rfl,htd⟩:=sizeIs_spec hs
 simp only [eff,e1] at he
 rw [e1] at h1
 obtain ⟨x1,fws,rs1,he,hf,hpv⟩:=pv_rel hr h2 he
 split at he
 ·rename_i yd hnw
  obtain ⟨ob,rs2,hob,rfl,he⟩:=he
  dsimp only at he
  split at he
  ·rename_i t1 sz es
   obtain ⟨d,d',⟨hm,hd,hyl,hoff,hag,hcs⟩,rfl,rfl,rfl⟩:=he
   obtain ⟨G1,hr1,hS,hval,hsl,_,hext⟩:=freeze_rel hr hf
   have hob1:(applyW st.heap fws)[id]?=some (.row t1 sz es false):=(notW_spec hnw).trans hob
   have h3:=hpv G1.S hS (by rw [← hval]; exact hsl) G1.val
   simp only [VRel] at h3
   have h4:=DRel_cells h3
   have hl4:(a.eval y).cells.toList.length=ti.size:=by rw [DRels_length h4,hyl]
   simp only [VRel] at h1
   obtain ⟨t2,sz2,es2,fz2,h5,h6,h7⟩:=h1
   rw [hob] at h5; cases h5
   obtain ⟨g,cap,h8,h9⟩:=h7 hm
   have hv1:G1.val id=.slice (some ⟨g,0,none⟩) es.length cap:=by rw [hval,h8,hm]
   have hobj1:=hr1.objs id _ hob1
   obtain ⟨hsz0,xs0,hown0,hdx0⟩:=hobj1
   obtain ⟨q1,q2,q3⟩:=DXs_elem hdx0 hd
   have hxl:=hown0.1
   have hone:∀ u∈(a.eval y).cells.toList,u.oneCell'=true:=DRels_one h4
   obtain ⟨w',G',h10,h11,h12⟩:=row_write (P:=P) hr1 (es':=es.set i d') hob1 (by simp) hv1 (p:=i * sz+off) (vs:=(a.eval y).cells.toList) (by omega) hone (fun xs hxs hdx=>by
    obtain ⟨p1,p2,p3⟩:=DXs_elem hdx hd
    have hnew:=DRels_append (DRels_append (DRels_take off p1) h4) (DRels_drop (off+ti.size) p1)
    rw [← hcs] at hnew
    have hset:=DXs_set (es:=es) (i:=i) (d:=d') hdx (by have:=(List.getElem?_eq_some_iff.1 hd).1; omega) (x:=((xs.drop (i * sz)).take sz).take off++(a.eval y).cells.toList++((xs.drop (i * sz)).take sz).drop (off+ti.size)) (by
     simp [hl4]; omega) hnew
    have heq : xs.take (i * sz) ++ (((xs.drop (i * sz)).take sz).take off ++ (a.eval y).cells.toList ++ ((xs.drop (i * sz)).take sz).drop (off + ti.size)) ++ xs.drop (i * sz + sz) =
      xs.take (i * sz+off)++(a.eval y).cells.toList++xs.drop (i * sz+off+(a.eval y).cells.toList.length):=by
     rw [hl4]
     have a1:((xs.drop (i * sz)).take sz).take off=(xs.drop (i * sz)).take off:=by rw [List.take_take,Nat.min_eq_left (by omega)]
     have a2:xs.take (i * sz+off)=xs.take (i * sz)++(xs.drop (i * sz)).take off:=by rw [List.take_add]
     have a3:xs.drop (i * sz+off+ti.size)=((xs.drop (i * sz)).take sz).drop (off+ti.size)++xs.drop (i * sz+sz):=by
      have:xs.drop (i * sz)=(xs.drop (i * sz)).take sz++xs.drop (i * sz+sz):=by rw [← List.drop_drop,List.take_append_drop]
      rw [show i * sz+off+ti.size=i * sz+(off+ti.size) by omega,← List.drop_drop]
      conv=>lhs; rw [this]
      rw [List.drop_append_of_le_length (by simp; omega)]
     rw [a1,a2,a3]
     simp
    rw [heq] at hset
    exact hset)
   refine goes_skip (by simp [ho]) (w':=w') (G':=G') ?_ (by rw [applyW_append]; exact h12)
   simp only [execOp,ho,Instr.storeAt,h9,Instr.sureAddr,storeVar]
   have hsz:(a.eval y).cells.size=ti.size:=by rw [← hl4]; simp
   simp only [Sem.run_bind,run_sizeOf hti,Result.andThen_ok,hsz,ne_eq,not_true_eq_false,if_false,h10,Sem.run_pure]
  ·exact he.elim
 ·exact he.elim
theorem DXs_take {S:Nat→Nat→Prop}:∀ {es:List Data} {sz:Nat} {xs:List Value} (k:Nat),DXs w S es sz xs→DXs w S (es.take k) sz (xs.take (k * sz))
 | es,sz,xs,0,_=>by simp [DXs]
 | [],sz,xs,k+1,h=>by simp only [DXs] at h; subst h; simp [DXs]
 | d::ds,sz,xs,k+1,h=>by
  simp only [DXs] at h
  obtain ⟨x,r,rfl,h1,h2,h3⟩:=h
  have e1:(k+1) * sz=x.length+k * sz:=by rw [Nat.add_mul,h1]; omega
  have e2:(x++r).take (x.length+k * sz)=x++r.take (k * sz):=by rw [List.take_append,Nat.add_sub_cancel_left,List.take_of_length_le (by omega)]
  rw [e1,e2]
  simp only [List.take_succ_cons,DXs]
  exact ⟨x,_,rfl,h1,h2,DXs_take k h3⟩
theorem DXs_drop {S:Nat→Nat→Prop}:∀ {es:List Data} {sz:Nat} {xs:List Value} (k:Nat),DXs w S es sz xs→DXs w S (es.drop k) sz (xs.drop (k * sz))
 | es,sz,xs,0,h=>by simpa using h
 | [],sz,xs,k+1,h=>by simp only [DXs] at h; subst h; simp [DXs]
 | d::ds,sz,xs,k+1,h=>by
  simp only [DXs] at h
  obtain ⟨x,r,rfl,h1,h2,h3⟩:=h
  have e1:(k+1) * sz=x.length+k * sz:=by rw [Nat.add_mul,h1]; omega
  rw [e1,← List.drop_drop]
  simpa using DXs_drop k h3
theorem go_isnil (hr : Rel n base w0 G st a w) {op : BinOp} {neg : Bool} {t t' e : TypeId} {x y : Operand} {x' : Opd} (ho : o.op = .binOp op t x y t')
  (hop:negOk op neg=true) (hu:P.underlying t=some (.slice e)) (hx:chkOpd x x'=true) (hy:isNilC y=true)
  (he:ERun (eff P (getL st.slots) (.isnil neg x')) st.heap v ws rs):Goes P n base w0 w st a o r v ws:=by
 have h1:=chkOpd_rel hr hx
 have hyv:a.eval y=.slice none 0 0:=by
  unfold isNilC at hy
  split at hy
  ·rfl
  ·cases hy
 have hg:P.eqGuardType P.depth t=false:=by
  have:P.depth=(2 * (P.types.size+Made.depth)+1)+1:=rfl
  rw [this]
  unfold Program.eqGuardType
  rw [hu]
 have hgen:∀ (ad:Option Addr) (len cap:Nat) (d:Nat),(Op.equalIn (d+1) t (.slice ad len cap) (.slice none 0 0)).run P w=.ok ad.isNone w:=by
  intro ad len cap d
  cases ad <;> simp [Op.equalIn,run_underlying hu]
 simp only [eff] at he
 split at he
 ·rename_i sz e1
  obtain ⟨rfl,rfl,rfl⟩:=he
  rw [e1] at h1
  simp only [VRel] at h1
  have heq:(Op.equal t (.slice none 0 0) (.slice none 0 0)).run P w=.ok true w:=by
   have h0:∀ d,(Op.equalIn (d+1) t (.slice none 0 0) (.slice none 0 0)).run P w=.ok true w:=by
    intro d
    simp [Op.equalIn,run_underlying hu]
   exact h0 9999
  refine goes_value (by simp [ho]) (x:=.bool (!neg)) (w':=w) (G':=G) ?_ hr ?_
  ·simp only [execOp,ho,h1,hyv]
   cases op <;> cases neg <;> simp [negOk] at hop <;> simp [eqGuard,binOp,heq,hg]
  ·simp only [VRel,DRel]
 obtain ⟨sz,es,rs',ad,cap,⟨rfl,rfl,rfl⟩,h2,_,h3⟩:=readE_rel hr h1 he
 have heq:(Op.equal t (.slice ad es.length cap) (.slice none 0 0)).run P w=.ok ad.isNone w:=hgen ad es.length cap 9999
 refine goes_value (by simp [ho]) (x:=.bool (cond neg (!ad.isNone) ad.isNone)) (w':=w) (G':=G) ?_ hr ?_
 ·simp only [execOp,ho,h2,hyv]
  cases op <;> cases neg <;> simp [negOk] at hop <;> simp [eqGuard,binOp,heq,hg]
 ·simp only [VRel]
  refine ⟨ad.isNone,rfl,fun hb=>?_⟩
  rcases h3 with h3 | ⟨b,off,xs,h4,_⟩
  ·exact h3
  ·subst h4; simp at hb
theorem go_copy (hr : Rel n base w0 G st a w) {c : Call} {t e : TypeId} {x y : Operand} {x' y' : Opd} {sz : Nat} (ho : o.op = .call c) (hcal : c.callee = .builtin .copy) (hargs : c.args.toList = [x, y]) (ht : c.argTypes[0]? = some t)
  (hu:P.underlying t=some (.slice e)) (hs:sizeIs P e sz=true) (hx:chkOpd x x'=true) (hy:chkOpd y y'=true)
  (he:ERun (eff P (getL st.slots) (.copy sz x' y')) st.heap v ws rs):Goes P n base w0 w st a o r v ws:=by
 have h1:=chkOpd_rel hr hx
 have h2:=chkOpd_rel hr hy
 have hargs':c.args=#[x,y]:=by rw [← Array.toArray_toList (xs:=c.args),hargs]
 obtain ⟨ti,td,hti,hsz,_⟩:=sizeIs_spec hs
 simp only [eff] at he
 obtain ⟨sz',ys,rs',ad,cap,he,h3,h4,h5⟩:=readE_rel hr h2 he
 split at he
 ·rename_i id m e1
  rw [e1] at h1
  obtain ⟨ob,rs2,hob,rfl,he⟩:=he
  dsimp only at he
  split at he
  ·rename_i t1 sz2 es
   obtain ⟨k,⟨rfl,rfl,hm,rfl⟩,rfl,rfl,rfl⟩:=he
   simp only [VRel] at h1
   obtain ⟨t2,sz3,es2,fz2,h6,h7,h8⟩:=h1
   rw [hob] at h6; cases h6
   have hxv:=h8 hm
   obtain ⟨h0,xs,hown,hdx⟩:=hr.objs id _ hob
   have hlt:id < st.heap.length:=(List.getElem?_eq_some_iff.1 hob).1
   obtain ⟨cs,hcl,hcx,hcr⟩:∃ cs:List Value,cs.length=Nat.min ys.length m * sz2∧DXs w G.S (ys.take m) sz2 cs∧(Builtin.firstCells sz2 (Nat.min ys.length m) (.slice ad ys.length cap)).run P w=.ok cs.toArray w:=by
    rcases h5 with rfl | ⟨b,off,zs,rfl,h9,h10,h11⟩
    ·refine ⟨[],by simp,by simp [DXs],?_⟩
     cases ad
     ·simp [Builtin.firstCells]
     ·simp [Builtin.firstCells]
      exact run_loadCells_list (P:=P) w _ [] (fun j v hj=>by simp at hj)
    ·have hl : (zs.take (m * sz2)).length = Nat.min ys.length m * sz2 := by
      rw [List.length_take,h10]
      show min _ _=min _ _ * _
      rw [Nat.mul_min_mul_right,Nat.min_comm]
     refine ⟨zs.take (m * sz2),hl,DXs_take m h9,?_⟩
     refine run_firstCells_some (P:=P) w sz2 (Nat.min ys.length m) _ _ _ _ hl (fun j u hj=>?_)
     rw [addr_add]
     refine h11 j u ?_
     rw [List.getElem?_take] at hj
     split at hj
     ·exact hj
     ·cases hj
   have hrunc : ∀ {w' : World}, ((if let some q := (match G.val id with | .slice b _ _ => b | _ => none) then storeCells q cs else pure ()) : Sem Unit).run P w = .ok () w' → (∃ b c2, G.val id = .slice b m c2) →
     (execOp a.eval o).run P w=.ok (.value (.int .i64 ((min ys.length m:Nat):Int))) w':=by
    rintro w' hst ⟨b,c2,hb⟩
    rw [hb] at hst
    simp only [execOp,ho,resolve,hcal,hargs',List.map_toArray,List.map_cons,List.map_nil,hxv,h3,hb,invoke,builtin,Builtin.copy_,ht,Sem.run_bind,Sem.run_pure,Result.andThen_ok]
    simp only [List.getElem?_toArray,List.getElem?_cons_zero,List.getElem?_cons_succ,run_underlying hu,Sem.run_bind,Result.andThen_ok,Builtin.lenOf,Sem.run_pure,run_sizeOf hti,hsz,hcr]
    cases b with
    | none=>simp at hst; subst hst; simp [goInt]
    | some q=>simp at hst; simp [hst,goInt]
   rcases hown.2 with ⟨h9,h10⟩ | ⟨g,cap2,cur,h9,h10,h11,h12,h13,h14,h15⟩
   ·have hes:es=[]:=List.eq_nil_of_length_eq_zero h10
    subst hes
    have hm0:m=0:=by simpa using hm.symm
    subst hm0
    have hset:st.heap.set id (.row t1 sz2 (ys.take 0++([]:List Data).drop ys.length) false)=st.heap:=by
     have:(ys.take 0++([]:List Data).drop ys.length)=[]:=by simp
     rw [this]
     obtain ⟨h16,h17⟩:=List.getElem?_eq_some_iff.1 hob
     rw [← h17]
     exact List.set_getElem_self h16
    refine goes_value (by simp [ho]) (hrunc (w':=w) (by rw [h9]; simp) ⟨none,0,h9⟩) (G':=G) ?_ ?_
    ·simp only [applyW,hset]; exact hr
    ·simp [VRel,DRel]
   ·obtain ⟨w', G', h16, h17, h18⟩ := row_write (P := P) hr (es' := ys.take m ++ es.drop ys.length) hob (by simp; omega) (g := g) (cap := cap2) h9 (p := 0) (vs := cs) (by
      rw [hcl,Nat.zero_add]
      refine Nat.mul_le_mul_right _ ?_
      show min _ _≤_
      omega) (DXs_one hcx) (fun xs2 hxs2 hdx2=>by
     simp only [List.take_zero,List.nil_append,Nat.zero_add]
     refine DXs_append hcx ?_
     rw [hcl]
     have h19:=DXs_drop (min ys.length m) hdx2
     have:es.drop ys.length=es.drop (min ys.length m):=by
      rcases Nat.le_total ys.length m with h | h
      ·rw [Nat.min_eq_left h]
      ·rw [Nat.min_eq_right h,List.drop_eq_nil_of_le (by omega),List.drop_eq_nil_of_le (by omega)]
     rw [this]
     exact h19)
    refine goes_value (by simp [ho]) (hrunc (w':=w') (by rw [h9]; simpa using h16) ⟨_,cap2,by rw [h9,hm]⟩) (G':=G') h18 (by simp [VRel,DRel])
  ·exact he.elim
 ·rename_i id off m e1
  rw [e1] at h1
  obtain ⟨ob,rs2,hob,rfl,he⟩:=he
  dsimp only at he
  split at he
  ·rename_i cs
   obtain ⟨k,ds,⟨rfl,rfl,rfl,rfl,hag⟩,he⟩:=he
   split at he
   ·rename_i l hl
    obtain ⟨rfl,rfl,rfl⟩:=he
    obtain ⟨_,hfit⟩:=cut_eq hl
    obtain ⟨b,arr,tt,h6,h7,h8,h9,h12⟩:=hr.objs id _ hob
    simp only [VRel] at h1
    obtain ⟨b',cap2,_,h10,h11⟩:=h1
    rw [h6] at h10; cases h10
    have harr:=VRels_length h9
    obtain ⟨vs,hvl,hvr,hrun⟩:∃ vs:List Value,vs.length=Nat.min ys.length m∧DRels w G.S (ys.take m) vs∧(Builtin.firstCells 1 (Nat.min ys.length m) (.slice ad ys.length cap)).run P w=.ok vs.toArray w:=by
     have conv:∀ {es:List Data} {xs:List Value},DXs w G.S es 1 xs→(∀ d∈es,d.isAgg=false)→DRels w G.S es xs:=by
      intro es
      induction es with
      | nil=>intro xs h _; simpa [DXs,DRels] using h
      | cons d ds ih =>
       intro xs h hg
       simp only [DXs] at h
       obtain ⟨x,r,rfl,q1,q2,q3⟩:=h
       have hd:d.cells=[d]:=by have:=hg d List.mem_cons_self; cases d <;> simp_all [Data.isAgg,Data.cells]
       rw [hd] at q2
       simp only [DRels] at q2
       obtain ⟨v,r2,rfl,q4,q5,rfl⟩:=q2
       simp only [List.cons_append,List.nil_append,DRels]
       exact ⟨v,r,rfl,q4,q5,ih q3 fun d hd=>hg d (List.mem_cons_of_mem _ hd)⟩
     rcases h5 with rfl | ⟨b2,off2,zs,rfl,q9,q10,q11⟩
     ·refine ⟨[],by simp,by simp [DRels],?_⟩
      cases ad
      ·simp [Builtin.firstCells]
      ·simp [Builtin.firstCells]
       exact run_loadCells_list (P:=P) w _ [] (fun j v hj=>by simp at hj)
     ·have hl2 : (zs.take (m * 1)).length = Nat.min ys.length m * 1 := by
       rw [List.length_take,q10]
       show min _ _=min _ _ * _
       rw [Nat.mul_min_mul_right,Nat.min_comm]
      refine ⟨zs.take (m * 1),by simpa using hl2,conv (DXs_take m q9) hag,?_⟩
      refine run_firstCells_some (P:=P) w 1 (Nat.min ys.length m) _ _ _ _ hl2 (fun j u hj=>?_)
      rw [addr_add]
      refine q11 j u ?_
      rw [List.getElem?_take] at hj
      split at hj
      ·exact hj
      ·cases hj
    have hone:∀ u∈vs,u.oneCell'=true:=DRels_one hvr
    have hvv:VRels w G st.heap (dcells (ys.take m)) vs:=DRels_VRels hvr
    have hlen2:(dcells (ys.take m)).length=vs.length:=(VRels_length hvv).symm
    have hmin:Nat.min ys.length m≤m:=Nat.min_le_right _ _
    have hst:=run_storeCells_at P b off tt vs 0 arr w h8 (by simp at *; omega) hone
    simp only [Nat.add_zero] at hst
    have hlt:id < st.heap.length:=(List.getElem?_eq_some_iff.1 hob).1
    have hnew:lay cs off (dcells (ys.take m))=cs.take off++dcells (ys.take m)++cs.drop (off+vs.length):=by rw [← hlen2]; exact lay_eq off cs _ (by omega)
    have h13:=hr.upd (o':=.box (lay cs off (dcells (ys.take m)))) (v':=G.val id) (S':=G.S) (row:=blockOf (G.val id))
     (w':=w.setRow b (arr.toList.take off++vs++arr.toList.drop (off+vs.length)).toArray) hob (.inr ⟨by simp,rfl⟩) (fun _ _ h=>h) (fun _ _ h=>.inl h)
     ⟨rfl,rfl,rfl,by simp [World.setRow],fun k _ hk=>setRow_other w b k _ (fun e=>hk (by rw [h6,e]; rfl))⟩
     (fun b1 off1 hS hb1=>absurd hS (hr.free id _ b1 off1 hob hb1 trivial)) (fun b1 hb1=>.inl ⟨by simp,hb1⟩) rfl
     (fun hx=>⟨b,_,tt,(upd_same _ _ _).trans h6,h7,setRow_heap w b arr _ tt _ h8,
      Eq.mpr (congrArg (fun z=>VRels _ _ (st.heap.set id (AObj.box (lay cs off (dcells (ys.take m))))) z _) hnew)
       (VRels_append (VRels_append (VRels_take off (VRels_mono hx _ h9)) (VRels_mono hx _ hvv)) (VRels_drop _ (VRels_mono hx _ h9))),by
      intro u hu
      simp only [List.mem_append] at hu
      rcases hu with (hu | hu) | hu
      ·exact h12 u (List.mem_of_mem_take hu)
      ·exact hone u hu
      ·exact h12 u (List.mem_of_mem_drop hu)⟩)
     (fun b1 off1 hb1 _ hS=>hr.free id _ b1 off1 hob hb1 trivial hS) (fun b1 off1 hS=>by have:=hr.lim b1 off1 hS; simpa [World.setRow] using this)
    refine goes_value (by simp [ho]) (x:=.int .i64 ((min ys.length m:Nat):Int)) (G':=_) ?_ h13.2 (by simp [VRel,DRel])
    simp only [execOp,ho,resolve,hcal,hargs',List.map_toArray,List.map_cons,List.map_nil,h11,h3,invoke,builtin,Builtin.copy_,ht,Sem.run_bind,Sem.run_pure,Result.andThen_ok]
    simp only [List.getElem?_toArray,List.getElem?_cons_zero,List.getElem?_cons_succ,run_underlying hu,Sem.run_bind,Result.andThen_ok,Builtin.lenOf,Sem.run_pure,run_sizeOf hti,hsz,hrun]
    simp [hst,goInt]
   ·exact he.elim
  ·exact he.elim
 ·exact he.elim
theorem run_sliceBounds2 {len cap : Nat} {s : Bool} {lo hi : Option Value} {i h : Int} (hlo : (lo = none ∧ i = 0) ∨ ∃ kd, lo = some (.int kd i)) (hhi : (hi = none ∧ h = len) ∨ ∃ kd, hi = some (.int kd h))
  (h0:0≤i) (h1:i≤h) (h2:h≤cap):(Instr.sliceBounds s len cap lo hi none).run P w=.ok (i.toNat,h.toNat,cap) w:=by
 have hh:∀ kd code,(Instr.sliceBound (.int kd h) cap code).run P w=.ok h.toNat w:=by
  intro kd code
  have h0':0≤h:=by omega
  simp [Instr.sliceBound,asIntOf,h0',h2]
 have hl:∀ kd code,(Instr.sliceBound (.int kd i) h.toNat code).run P w=.ok i.toNat w:=by
  intro kd code
  have:i≤((h.toNat:Nat):Int):=by omega
  simp [Instr.sliceBound,asIntOf,h0,h1]
  omega
 unfold Instr.sliceBounds
 rcases hhi with ⟨rfl,rfl⟩ | ⟨kd,rfl⟩ <;> rcases hlo with ⟨rfl,rfl⟩ | ⟨kd2,rfl⟩ <;> simp only [Sem.run_bind,Sem.run_pure,Result.andThen_ok,Option.isSome_none,Bool.false_eq_true,if_false,hh,Int.toNat_natCast,Int.toNat_zero]
 ·have:=hl kd2 .sliceB
  simp only [Int.toNat_natCast] at this
  simp [this]
 ·simp [hl kd2 .sliceB]
theorem run_sliceBounds3 {len cap : Nat} {k1 k2 k3 : IntKind} {i h m : Int} (h0 : 0 ≤ i) (h1 : i ≤ h) (h2 : h ≤ m) (h3 : m ≤ cap) :
  (Instr.sliceBounds true len cap (some (.int k1 i)) (some (.int k2 h)) (some (.int k3 m))).run P w=.ok (i.toNat,h.toNat,m.toNat) w:=by
 have ha:0≤h:=by omega
 have hb:0≤m:=by omega
 have hc:h≤((m.toNat:Nat):Int):=by omega
 have hd:i≤((h.toNat:Nat):Int):=by omega
 simp [Instr.sliceBounds,Instr.sliceBound,asIntOf,h0,h1,h2,h3,ha,hb,hc,hd]
 rw [if_pos (by omega),if_pos (by omega)]
theorem go_slw (hr : Rel n base w0 G st a w) {t e : TypeId} {x : Operand} {lo hi : Option Operand} {sz : Nat} {x' : Opd} {lo' hi' : Option Opd} (ho : o.op = .slice t x lo hi none)
  (hu:P.underlying t=some (.slice e)) (hs:sizeIs P e sz=true) (hx:chkOpd x x'=true) (hlo:chkOpt lo lo'=true) (hhi:chkOpt hi hi'=true)
  (he:ERun (eff P (getL st.slots) (.slw sz x' lo' hi')) st.heap v ws rs):Goes P n base w0 w st a o r v ws:=by
 have h1:=chkOpd_rel hr hx
 obtain ⟨ti,td,hti,hsz,htd⟩:=sizeIs_spec hs
 simp only [eff] at he
 split at he
 ·rename_i id m e1
  rw [e1] at h1
  simp only [VRel] at h1
  obtain ⟨t1,sz1,es,fz,h5,h6,h7⟩:=h1
  obtain ⟨ob,rs2,hob,rfl,he⟩:=he
  rw [h5] at hob; cases hob
  dsimp only at he
  obtain ⟨h,he,hh⟩:=boundE_rel hr hhi he
  obtain ⟨i,he,hi⟩:=boundE_rel hr hlo he
  obtain ⟨⟨rfl,h8,h9,h10,h11,h12⟩,rfl,rfl,rfl⟩:=he
  obtain ⟨h0,xs,hown,hdx⟩:=hr.objs id _ h5
  have hval:=h7 h8
  rcases hown.2 with ⟨q1,q2⟩ | ⟨g,cap,cur,q1,q2,q3,q4,q5⟩
  ·exfalso; rw [q2] at h12; simp at h12
  ·have hb:=run_sliceBounds (P:=P) (w:=w) (s:=true) (len:=es.length) (cap:=cap) hi hh h9 h10 h11 q4
   refine goes_value (by simp [ho]) (x:=.slice (if cap=i.toNat then some ⟨g,0,none⟩ else some ⟨g,i.toNat * ti.size,none⟩) (h.toNat - i.toNat) (cap - i.toNat)) (w':=w) (G':=G) ?_ hr ?_
   ·simp only [execOp,ho,hval,q1,Instr.sliceAt,Instr.slice,run_underlying hu,Sem.run_bind,Result.andThen_ok,Option.map_none,hb,Sem.run_pure,run_sizeOf hti]
    simp [addr_add]
   ·simp only [VRel]
    refine ⟨t1,sz1,es,fz,h5,h6,fun _=>⟨g,cap,by rw [q1,h8],_,by omega,by omega,fun hlt=>?_,rfl⟩⟩
    rw [if_neg (by omega),hsz]
 ·rename_i id m i0 j0 e1
  rw [e1] at h1
  simp only [VRel] at h1
  obtain ⟨t1,sz1,es,fz,h5,h6,h7⟩:=h1
  obtain ⟨ob,rs2,hob,rfl,he⟩:=he
  rw [h5] at hob; cases hob
  dsimp only at he
  obtain ⟨h,he,hh⟩:=boundE_rel hr hhi he
  obtain ⟨i,he,hi⟩:=boundE_rel hr hlo he
  obtain ⟨⟨rfl,h8,rfl,h9,h10,h11,h12⟩,rfl,rfl,rfl⟩:=he
  obtain ⟨b,cap,p1,p,p2,p3,p4,p5⟩:=h7 h8
  obtain ⟨h0,xs,hown,hdx⟩:=hr.objs id _ h5
  have hcap:es.length≤cap:=by
   rcases hown.2 with ⟨q1,q2⟩ | ⟨g,cap',cur,q1,q2,q3,q4,q5⟩
   ·rw [p1] at q1; cases q1
   ·rw [p1] at q1; cases q1; exact q4
  have hp:=p4 (by omega)
  subst hp
  have hb:=run_sliceBounds2 (P:=P) (w:=w) (s:=true) (len:=j0) (cap:=cap) hi hh h9 h10 (by omega)
  simp only [Nat.sub_zero,Nat.zero_mul] at p5
  refine goes_value (by simp [ho]) (x:=.slice (if cap=i.toNat then some ⟨b,0,none⟩ else some ⟨b,i.toNat * ti.size,none⟩) (h.toNat - i.toNat) (cap - i.toNat)) (w':=w) (G':=G) ?_ hr ?_
  ·simp only [execOp,ho,p5,Instr.sliceAt,Instr.slice,run_underlying hu,Sem.run_bind,Result.andThen_ok,Option.map_none,hb,Sem.run_pure,run_sizeOf hti]
   simp [addr_add]
  ·simp only [VRel]
   refine ⟨t1,sz1,es,fz,h5,h6,fun _=>⟨b,cap,p1,_,by omega,by omega,fun hlt=>?_,rfl⟩⟩
   rw [if_neg (by omega),hsz]
 ·exact he.elim
theorem go_slm (hr : Rel n base w0 G st a w) {t e : TypeId} {x lo hi mx : Operand} {sz : Nat} {x' lo' hi' mx' : Opd} (ho : o.op = .slice t x (some lo) (some hi) (some mx))
  (hu:P.underlying t=some (.slice e)) (hs:sizeIs P e sz=true) (hx:chkOpd x x'=true) (hlo:chkOpd lo lo'=true) (hhi:chkOpd hi hi'=true) (hmx:chkOpd mx mx'=true)
  (he:ERun (eff P (getL st.slots) (.slm sz x' lo' hi' mx')) st.heap v ws rs):Goes P n base w0 w st a o r v ws:=by
 have h1:=chkOpd_rel hr hx
 have h2:=chkOpd_rel hr hlo
 have h3:=chkOpd_rel hr hhi
 have h4:=chkOpd_rel hr hmx
 obtain ⟨ti,td,hti,hsz,htd⟩:=sizeIs_spec hs
 simp only [eff] at he
 split at he
 ·rename_i id m e1
  rw [e1] at h1
  simp only [VRel] at h1
  obtain ⟨t1,sz1,es,fz,h5,h6,h7⟩:=h1
  obtain ⟨ob,rs2,hob,rfl,he⟩:=he
  rw [h5] at hob; cases hob
  dsimp only at he
  split at he
  ·rename_i k1 i k2 h k3 u e2 e3 e4
   rw [e2] at h2
   rw [e3] at h3
   rw [e4] at h4
   have f2:=int_of h2
   have f3:=int_of h3
   have f4:=int_of h4
   obtain ⟨⟨rfl,h8,h9,h10,h11,h12⟩,rfl,rfl,rfl⟩:=he
   obtain ⟨h0,xs,hown,hdx⟩:=hr.objs id _ h5
   have hval:=h7 h8
   obtain ⟨ad,cap,hv,hc⟩:∃ ad cap,G.val id=.slice ad es.length cap∧es.length≤cap:=by
    rcases hown.2 with ⟨q1,q2⟩ | ⟨g,cap,cur,q1,q2,q3,q4,q5⟩
    ·exact ⟨none,0,by rw [q1,q2],by omega⟩
    ·exact ⟨_,cap,q1,q4⟩
   have hb:=run_sliceBounds3 (P:=P) (w:=w) (len:=es.length) (cap:=cap) (k1:=k1) (k2:=k2) (k3:=k3) h9 h10 h11 (by omega)
   refine goes_value (by simp [ho]) (x:=.slice (if u.toNat=i.toNat then ad else ad.map (·.add (i.toNat * ti.size))) (h.toNat - i.toNat) (u.toNat - i.toNat)) (w':=w) (G':=G) ?_ hr (by simp [VRel])
   simp only [execOp,ho,hval,hv,Instr.sliceAt,Instr.slice,run_underlying hu,Sem.run_bind,Result.andThen_ok,Option.map_some,f2,f3,f4,hb,Sem.run_pure,run_sizeOf hti]
  ·exact he.elim
 ·exact he.elim
theorem go_lenw (hr : Rel n base w0 G st a w) {c : Call} {t e : TypeId} {x : Operand} {x' : Opd} (ho : o.op = .call c) (hcal : c.callee = .builtin .len) (hargs : c.args.toList = [x]) (ht : c.argTypes[0]? = some t)
  (hu:P.underlying t=some (.slice e)) (hx:chkOpd x x'=true)
  (he:ERun (eff P (getL st.slots) (.lenw x')) st.heap v ws rs):Goes P n base w0 w st a o r v ws:=by
 have h1:=chkOpd_rel hr hx
 have hargs':c.args=#[x]:=by rw [← Array.toArray_toList (xs:=c.args),hargs]
 simp only [eff] at he
 split at he
 ·rename_i id m i j e1
  rw [e1] at h1
  simp only [VRel] at h1
  obtain ⟨t1,sz1,es,fz,h5,h6,h7⟩:=h1
  obtain ⟨ob,rs2,hob,rfl,he⟩:=he
  rw [h5] at hob; cases hob
  obtain ⟨h8,rfl,rfl,rfl⟩:=he
  obtain ⟨b,cap,p1,p,p2,p3,p4,p5⟩:=h7 h8
  exact goes_value (by simp [ho]) (x:=.int .i64 ((j - i:Nat):Int)) (w':=w) (G':=G) (by simp [execOp,ho,resolve,hcal,hargs',invoke,builtin,Builtin.len_,ht,run_underlying hu,p5,goInt]) hr (by simp [VRel,DRel])
 ·exact he.elim
theorem go_appw (hr : Rel n base w0 G st a w) {c : Call} {t e : TypeId} {x y : Operand} {x' y' : Opd} {sz : Nat} (ho : o.op = .call c) (hcal : c.callee = .builtin .append) (hargs : c.args.toList = [x, y])
  (ht:c.argTypes.toList=[t,t]) (hu:P.underlying t=some (.slice e)) (hs:sizeIs P e sz=true) (hx:chkOpd x x'=true) (hy:chkOpd y y'=true)
  (he:ERun (eff P (getL st.slots) (.appw sz x' y')) st.heap v ws rs):Goes P n base w0 w st a o r v ws:=by
 have h1:=chkOpd_rel hr hx
 have h2:=chkOpd_rel hr hy
 have hargs':c.args=#[x,y]:=by rw [← Array.toArray_toList (xs:=c.args),hargs]
 have ht':c.argTypes=#[t,t]:=by rw [← Array.toArray_toList (xs:=c.argTypes),ht]
 obtain ⟨ti,td,hti,hsz,_⟩:=sizeIs_spec hs
 simp only [eff] at he
 split at he
 ·rename_i id m i j id' m' i' j' e1 e2
  split at he
  ·rename_i hb
   have e3:=Nat.eq_of_beq_eq_true hb
   subst e3
   rw [e1] at h1
   rw [e2] at h2
   simp only [VRel] at h1 h2
   obtain ⟨ob,rs2,hob,rfl,he⟩:=he
   dsimp only at he
   split at he
   ·rename_i t1 sz2 es
    obtain ⟨⟨rfl,hm,rfl,him,hfit⟩,rfl,rfl,rfl⟩:=he
    obtain ⟨t2,sz3,es2,fz2,h6,h7,h8⟩:=h1
    rw [hob] at h6; cases h6
    obtain ⟨t4,sz4,es4,fz4,g6,g7,g8⟩:=h2
    rw [hob] at g6; cases g6
    obtain ⟨b,cap,p1,pp,p2,p3,p0,p4⟩:=h8 hm
    obtain ⟨b',cap',r1,rp,r2,r3,r0,r4⟩:=g8 hm
    rw [p1] at r1
    simp only [Value.slice.injEq,Option.some.injEq,Addr.mk.injEq,and_true,true_and] at r1
    obtain ⟨rfl,rfl⟩:=r1
    have hpp:=p0 him
    subst hpp
    obtain ⟨h0,xs,hown,hdx⟩:=hr.objs id _ hob
    have hxl:xs.length=es.length * sz2:=hown.1
    have hcells:=hown.cells (g:=b) (by rw [p1]; rfl)
    have hcap:es.length≤cap:=by
     rcases hown.2 with ⟨q1,q2⟩ | ⟨g,cap',cur,q1,q2,q3,q4,q5⟩
     ·rw [p1] at q1; cases q1
     ·rw [p1] at q1; cases q1; exact q4
    generalize hk:j' - i'=k at *
    have hcl:((xs.drop (i' * sz2)).take (k * sz2)).length=k * sz2:=by
     rw [List.length_take,List.length_drop,hxl,← Nat.sub_mul]
     exact Nat.min_eq_left (Nat.mul_le_mul_right _ (by omega))
    have hcx:DXs w G.S ((es.drop i').take k) sz2 ((xs.drop (i' * sz2)).take (k * sz2)):=DXs_take k (DXs_drop i' hdx)
    have hcr:(Builtin.firstCells sz2 k (.slice rp k (cap - i'))).run P w=.ok ((xs.drop (i' * sz2)).take (k * sz2)).toArray w:=by
     rcases Nat.lt_or_ge i' m with hlt | hge
     ·rw [r0 hlt]
      refine run_firstCells_some (P:=P) w sz2 k _ _ _ _ hcl (fun q u hq=>?_)
      rw [addr_add]
      rw [List.getElem?_take] at hq
      split at hq
      ·rw [List.getElem?_drop] at hq
       have:=hcells _ _ hq
       rw [addr_add,Nat.zero_add] at this
       exact this
      ·cases hq
     ·have hk0:k=0:=by omega
      subst hk0
      cases rp with
      | none=>simp [Builtin.firstCells]
      | some q => 
       have:=run_firstCells_some (P:=P) w sz2 0 q 0 (cap - i') [] (by simp) (fun j u hj=>by simp at hj)
       simpa using this
    obtain ⟨w', G', h16, h17, h18⟩ := row_write (P := P) hr (es' := es.take j ++ (es.drop i').take k ++ es.drop (j + k)) hob (by simp; omega) (g := b) (cap := cap) (by rw [p1, hm]) (p := j * sz2) (vs := (xs.drop (i' * sz2)).take (k * sz2)) (by
      rw [hcl,← Nat.add_mul]
      exact Nat.mul_le_mul_right _ (by omega)) (DXs_one hcx) (fun xs2 hxs2 hdx2=>by
     refine DXs_append (DXs_append (DXs_take j hdx2) hcx) ?_
     rw [hcl,← Nat.add_mul]
     exact DXs_drop (j+k) hdx2)
    have hneed:j - i+k≤cap - i:=by omega
    refine goes_value (by simp [ho]) (x:=.slice (some ⟨b,i * sz2,none⟩) (j - i+k) (cap - i)) (w':=w') (G':=G') ?_ h18 ?_
    ·have hoff:i * sz2+(j - i) * sz2=j * sz2:=by rw [← Nat.add_mul]; congr 1; omega
     have hst:(storeCells (Addr.add ⟨b,i * sz2,none⟩ ((j - i) * sz2)) ((xs.drop (i' * sz2)).take (k * sz2))).run P w=.ok () w':=by
      rw [addr_add,hoff]; exact h16
     simp only [execOp,ho,resolve,hcal,hargs',List.map_toArray,List.map_cons,List.map_nil,p4,r4,invoke,builtin,Builtin.append_,ht',Sem.run_bind,Sem.run_pure,Result.andThen_ok]
     simp [run_underlying hu,Builtin.lenOf,run_sizeOf hti,hsz,hneed,hcr,hst]
    ·simp only [VRel]
     have hnl:(es.take j++(es.drop i').take k++es.drop (j+k)).length=m:=by simp; omega
     have hlt:id < st.heap.length:=(List.getElem?_eq_some_iff.1 hob).1
     refine ⟨t1,sz2,es.take j++(es.drop i').take k++es.drop (j+k),false,?_,by omega,fun _=>⟨b,cap,?_,_,by omega,by omega,fun _=>rfl,?_⟩⟩
     ·simp only [applyW]; rw [List.getElem?_set_self hlt]
     ·obtain ⟨es',fz',k1,k2,k3⟩:=h17.row _ _ _ _ _ hob
      rw [List.getElem?_set_self hlt] at k1
      cases k1
      rw [k3 (by omega),p1]
     ·congr 1; omega
   ·exact he.elim
  ·exact he.elim
 ·exact he.elim
theorem go_clrw (hr : Rel n base w0 G st a w) {c : Call} {t e : TypeId} {x : Operand} {x' : Opd} {sz : Nat} {zero : Data} (ho : o.op = .call c) (hcal : c.callee = .builtin .clear) (hargs : c.args.toList = [x]) (ht : c.argTypes[0]? = some t)
  (hu:P.underlying t=some (.slice e)) {i0:TypeInfo} {z:Value} (hi0:P.info? e=some i0) (hz:i0.zero=some z) (hsz0:i0.size=sz) (hzs:z.cells.size=sz) (hz0:zerosOk P e sz [zero]=true) (hx:chkOpd x x'=true)
  (he:ERun (eff P (getL st.slots) (.clrw sz zero x')) st.heap v ws rs):Goes P n base w0 w st a o r v ws:=by
 have h1:=chkOpd_rel hr hx
 have hargs':c.args=#[x]:=by rw [← Array.toArray_toList (xs:=c.args),hargs]
 simp only [eff] at he
 split at he
 ·rename_i id m i j e1
  rw [e1] at h1
  simp only [VRel] at h1
  obtain ⟨ob,rs2,hob,rfl,he⟩:=he
  dsimp only at he
  split at he
  ·rename_i t1 sz2 es
   obtain ⟨⟨rfl,hm,hij⟩,rfl,rfl,rfl⟩:=he
   obtain ⟨t2,sz3,es2,fz2,h6,h7,h8⟩:=h1
   rw [hob] at h6; cases h6
   obtain ⟨b,cap,p1,pp,p2,p3,p0,p4⟩:=h8 hm
   have hpp:=p0 (by omega)
   subst hpp
   have hdx:DXs w G.S (List.replicate (j - i) zero) sz2 (Builtin.zeroCells z.cells (j - i)).toList:=by
    have:=DXs_zero (w:=w) (S:=G.S) (z:=z.cells) (ds:=List.replicate (j - i) zero) (fun d hd=>by
     rw [List.eq_of_mem_replicate hd]
     exact zero_DRels (zerosOk_spec hi0 hz hz0 zero (by simp)))
    rw [← range_flat,hzs,List.length_replicate] at this
    simpa [Builtin.zeroCells,hzs] using this
   have hcl:(Builtin.zeroCells z.cells (j - i)).toList.length=(j - i) * sz2:=by simp [Builtin.zeroCells,hzs]
   obtain ⟨w', G', h16, h17, h18⟩ := row_write (P := P) hr (es' := es.take i ++ List.replicate (j - i) zero ++ es.drop j) hob (by simp; omega) (g := b) (cap := cap) (by rw [p1, hm]) (p := i * sz2) (vs := (Builtin.zeroCells z.cells (j - i)).toList) (by
     rw [hcl,← Nat.add_mul]
     exact Nat.mul_le_mul_right _ (by omega)) (DXs_one hdx) (fun xs2 hxs2 hdx2=>by
    refine DXs_append (DXs_append (DXs_take i hdx2) hdx) ?_
    rw [hcl,← Nat.add_mul]
    have:i+(j - i)=j:=by omega
    rw [this]
    exact DXs_drop j hdx2)
   obtain ⟨q,hq⟩:∃ q,j - i=q+1:=⟨j - i - 1,by omega⟩
   refine goes_value (by simp [ho]) (x:=.tuple #[]) (w':=w') (G':=G') ?_ h18 (by simp [VRel,VRels])
   simp only [execOp,ho,resolve,hcal,hargs',List.map_toArray,List.map_cons,List.map_nil,p4,invoke,builtin,Builtin.clear_,ht,Sem.run_bind,Sem.run_pure,Result.andThen_ok]
   rw [hq] at h16 ⊢
   simp [run_underlying hu,zeroValue,typeInfo,hi0,hz,h16]
  ·exact he.elim
 ·exact he.elim
theorem go_copyw (hr : Rel n base w0 G st a w) {c : Call} {t e : TypeId} {x y : Operand} {x' y' : Opd} {sz : Nat} (ho : o.op = .call c) (hcal : c.callee = .builtin .copy) (hargs : c.args.toList = [x, y]) (ht : c.argTypes[0]? = some t)
  (hu:P.underlying t=some (.slice e)) (hs:sizeIs P e sz=true) (hx:chkOpd x x'=true) (hy:chkOpd y y'=true)
  (he:ERun (eff P (getL st.slots) (.copyw sz x' y')) st.heap v ws rs):Goes P n base w0 w st a o r v ws:=by
 have h1:=chkOpd_rel hr hx
 have h2:=chkOpd_rel hr hy
 have hargs':c.args=#[x,y]:=by rw [← Array.toArray_toList (xs:=c.args),hargs]
 obtain ⟨ti,td,hti,hsz,_⟩:=sizeIs_spec hs
 simp only [eff] at he
 split at he
 ·rename_i id m i j id' m' i' j' e1 e2
  split at he
  ·rename_i hb
   have e3:=Nat.eq_of_beq_eq_true hb
   subst e3
   rw [e1] at h1
   rw [e2] at h2
   simp only [VRel] at h1 h2
   obtain ⟨ob,rs2,hob,rfl,he⟩:=he
   dsimp only at he
   split at he
   ·rename_i t1 sz2 es
    obtain ⟨⟨rfl,hm,rfl,him,him'⟩,rfl,rfl,rfl⟩:=he
    obtain ⟨t2,sz3,es2,fz2,h6,h7,h8⟩:=h1
    rw [hob] at h6; cases h6
    obtain ⟨t4,sz4,es4,fz4,g6,g7,g8⟩:=h2
    rw [hob] at g6; cases g6
    obtain ⟨b,cap,p1,pp,p2,p3,p0,p4⟩:=h8 hm
    obtain ⟨b',cap',r1,rp,r2,r3,r0,r4⟩:=g8 hm
    have hpp:=p0 him
    have hrp:=r0 him'
    subst hpp hrp
    rw [p1] at r1
    simp only [Value.slice.injEq,Option.some.injEq,Addr.mk.injEq,and_true,true_and] at r1
    obtain ⟨rfl,rfl⟩:=r1
    obtain ⟨h0,xs,hown,hdx⟩:=hr.objs id _ hob
    have hxl:xs.length=es.length * sz2:=hown.1
    have hcells:=hown.cells (g:=b) (by rw [p1]; rfl)
    generalize hk:min (j' - i') (j - i)=k at *
    have hk1:k≤j' - i':=by omega
    have hk2:k≤j - i:=by omega
    have hcl:((xs.drop (i' * sz2)).take (k * sz2)).length=k * sz2:=by
     rw [List.length_take,List.length_drop,hxl,← Nat.sub_mul]
     exact Nat.min_eq_left (Nat.mul_le_mul_right _ (by omega))
    have hcx:DXs w G.S ((es.drop i').take k) sz2 ((xs.drop (i' * sz2)).take (k * sz2)):=DXs_take k (DXs_drop i' hdx)
    have hcr:(Builtin.firstCells sz2 k (.slice (some ⟨b,i' * sz2,none⟩) (j' - i') (cap - i'))).run P w=.ok ((xs.drop (i' * sz2)).take (k * sz2)).toArray w:=by
     refine run_firstCells_some (P:=P) w sz2 k _ _ _ _ hcl (fun q u hq=>?_)
     rw [addr_add]
     rw [List.getElem?_take] at hq
     split at hq
     ·rw [List.getElem?_drop] at hq
      have:=hcells _ _ hq
      rw [addr_add,Nat.zero_add] at this
      exact this
     ·cases hq
    obtain ⟨w', G', h16, h17, h18⟩ := row_write (P := P) hr (es' := es.take i ++ (es.drop i').take k ++ es.drop (i + k)) hob (by simp; omega) (g := b) (cap := cap) (by rw [p1, hm]) (p := i * sz2) (vs := (xs.drop (i' * sz2)).take (k * sz2)) (by
      rw [hcl,← Nat.add_mul]
      exact Nat.mul_le_mul_right _ (by omega)) (DXs_one hcx) (fun xs2 hxs2 hdx2=>by
     refine DXs_append (DXs_append (DXs_take i hdx2) hcx) ?_
     rw [hcl,← Nat.add_mul]
     exact DXs_drop (i+k) hdx2)
    refine goes_value (by simp [ho]) (x:=.int .i64 ((k:Nat):Int)) (w':=w') (G':=G') ?_ h18 (by simp [VRel,DRel])
    simp only [execOp,ho,resolve,hcal,hargs',List.map_toArray,List.map_cons,List.map_nil,p4,r4,invoke,builtin,Builtin.copy_,ht,Sem.run_bind,Sem.run_pure,Result.andThen_ok]
    simp only [List.getElem?_toArray,List.getElem?_cons_zero,List.getElem?_cons_succ,run_underlying hu,Sem.run_bind,Result.andThen_ok,Builtin.lenOf,Sem.run_pure,run_sizeOf hti,hsz]
    rw [show Nat.min (j' - i') (j - i)=k from hk] at *
    simp [hcr,h16,goInt]
   ·exact he.elim
  ·exact he.elim
 ·exact he.elim
theorem bytesOf_cells {S:Nat→Nat→Prop}:∀ {es:List Data} {xs:List Value} {l:List UInt8},bytesOf es=some l→DXs w S es 1 xs→∃ ns:List Int,xs=ns.map (Value.int .u8)∧l=ns.map fun n=>UInt8.ofNat n.toNat
 | [],xs,l,hb,hd=>by
  simp only [bytesOf] at hb; cases hb
  simp only [DXs] at hd
  exact ⟨[],by simpa using hd,rfl⟩
 | d::es,xs,l,hb,hd=>by
  unfold bytesOf at hb
  split at hb
  ·rename_i h1; cases h1
  ·rename_i n r h1
   cases h1
   split at hb
   ·rename_i l' hl'
    cases hb
    simp only [DXs] at hd
    obtain ⟨x,q,rfl,h2,h3,h4⟩:=hd
    obtain ⟨ns,rfl,rfl⟩:=bytesOf_cells hl' h4
    simp only [Data.cells,DRels,DRel] at h3
    obtain ⟨v,r2,rfl,_,rfl,rfl⟩:=h3
    exact ⟨n::ns,by simp,by simp⟩
   ·cases hb
  ·cases hb
theorem foldl_push (ns:List Int):∀ (r:List UInt8),ns.foldl (fun r n=>r.push (UInt8.ofNat n.toNat)) (⟨r.toArray⟩:ByteArray)=⟨(r++ns.map fun n=>UInt8.ofNat n.toNat).toArray⟩:=by
 induction ns with
 | nil=>intro r; simp
 | cons n ns ih =>
  intro r
  simp only [List.foldl_cons,List.map_cons]
  have:(⟨r.toArray⟩:ByteArray).push (UInt8.ofNat n.toNat)=⟨(r++[UInt8.ofNat n.toNat]).toArray⟩:=by
   simp [ByteArray.push]
  rw [this,ih]
  simp
theorem go_b2s (hr : Rel n base w0 G st a w) {s t e : TypeId} {x : Operand} {x' : Opd} (ho : o.op = .convert s t x) (hs : P.underlying s = some (.slice e)) (he8 : P.underlying e = some (.int .u8)) (ht : P.underlying t = some .string) (hx : chkOpd x x' = true)
  (he:ERun (eff P (getL st.slots) (.b2s x')) st.heap v ws rs):Goes P n base w0 w st a o r v ws:=by
 have h1:=chkOpd_rel hr hx
 simp only [eff] at he
 obtain ⟨sz,es,rs',ad,cap,he,h2,_,h3⟩:=readE_rel hr h1 he
 obtain ⟨l,⟨rfl,b,hb,rfl⟩,rfl,rfl,rfl⟩:=he
 refine goes_value (by simp [ho]) (x:=str b) (w':=w) (G':=G) ?_ hr (by simp [VRel,DRel])
 have hrun:(Conv.bytesToString (.slice ad es.length cap)).run P w=.ok (str b) w:=by
  rcases h3 with rfl | ⟨b0,off,xs,rfl,h4,h5,h6⟩
  ·simp only [bytesOf] at hb; cases hb
   cases ad with
   | none=>simp [Conv.bytesToString,str]; rfl
   | some q =>
    have:=run_bytesToString (P:=P) w q 0 cap [] (by simpa using run_loadCells_list (P:=P) w q [] (fun j v hj=>by simp at hj))
    exact this
  ·obtain ⟨ns,rfl,rfl⟩:=bytesOf_cells hb h4
   have hl:ns.length=es.length:=by simpa using h5
   have h7:=run_loadCells_list (P:=P) w ⟨b0,off,none⟩ (ns.map (Value.int .u8)) (fun j v hj=>by rw [addr_add]; exact h6 j v hj)
   rw [List.length_map,hl] at h7
   rw [run_bytesToString w _ _ _ ns h7]
   have:=foldl_push ns []
   simp only [List.nil_append] at this
   rw [str,← this]
   rfl
 simp only [execOp,ho,h2,convert,run_underlying hs,run_underlying ht,run_underlying he8,Sem.run_bind,Result.andThen_ok,hrun,Sem.run_pure]
theorem go_cbx (hr : Rel n base w0 G st a w) {t : TypeId} {x : Operand} {id k : Nat} {x' : Opd} (ho : o.op = .box t x) (hx : chkOpd x x' = true)
  (he:ERun (eff P (getL st.slots) (.cbx id k x')) st.heap v ws rs):Goes P n base w0 w st a o r v ws:=by
 have h1:=chkOpd_rel hr hx
 simp only [eff] at he
 obtain ⟨ob,rs',hob,rfl,he⟩:=he
 dsimp only at he
 split at he
 ·obtain ⟨cs,rs2,he,h2,h3⟩:=cellsE_rel hr h1 he
  split at he
  ·rename_i ds hds
   obtain ⟨rfl,rfl,rfl⟩:=he
   obtain ⟨rfl,hag⟩:=allD_some hds
   obtain ⟨G',h3,h4,h5⟩:=box_rel (t:=t) hr hob h2 h3
   have hlt:id < st.heap.length:=(List.getElem?_eq_some_iff.1 hob).1
   obtain ⟨G1,h6,h7,h8⟩:=cfreeze_one h4 (id:=id) (ds:=ds) (by simp [hlt]) hag
   simp only [List.set_set] at h6
   refine goes_value (by simp [ho]) (x:=.pointer (some ⟨w.heap.size,0,none⟩)) (G':=G1) (by simp [execOp,ho,Instr.box,newVar,newRow]) h6 ?_
   simp only [VRel] at h5 ⊢
   obtain ⟨b,_,h9,h10⟩:=h5
   exact ⟨b,.inr ⟨ds,by simp [applyW,hlt]⟩,by rw [h8]; exact h9,h10⟩
  ·exact he.elim
 ·exact he.elim
theorem DCs_rows {S:Nat→Nat→Prop}:∀ {ds:List Data} {b off:Nat},DCs w S ds b off→DRows w S ds b off 1
 | [],_,_,_=>by simp [DRows]
 | d::ds,b,off,h=>by
  simp only [DCs] at h
  obtain ⟨h1,h2,h3,h4⟩:=h
  refine DRows_cons.2 ⟨?_,DCs_rows h4⟩
  have hd:d.cells=[d]:=by cases d <;> simp_all [Data.isAgg,Data.cells]
  refine ⟨by rw [hd]; rfl,?_⟩
  rw [hd]
  simp only [DCs]
  exact ⟨h1,h2,h3,trivial⟩
theorem DCs_drop {S:Nat→Nat→Prop}:∀ {ds:List Data} {b off:Nat} (k:Nat),DCs w S ds b off→DCs w S (ds.drop k) b (off+k)
 | ds,b,off,0,h=>by simpa using h
 | [],b,off,k+1,_=>by simp [DCs]
 | d::ds,b,off,k+1,h=>by
  simp only [DCs] at h
  have:=DCs_drop k h.2.2.2
  simp only [List.drop_succ_cons]
  rwa [show off+(k+1)=off+1+k by omega]
theorem sla_run {t e : TypeId} {x : Operand} {lo hi : Option Operand} {len : Nat} (ho : o.op = .slice t x lo hi none) (hu : P.underlying t = some (.array len e)) (hs : sizeIs P e 1 = true)
  {b q:Nat} (hy:a.eval x=.pointer (some ⟨b,q,none⟩)) {i h:Int} (hlo:(lo.map a.eval=none∧i=0)∨∃ kd,lo.map a.eval=some (.int kd i))
  (hhi:(hi.map a.eval=none∧h=len)∨∃ kd,hi.map a.eval=some (.int kd h)) (h0:0≤i) (h1:i≤h) (h2:h≤len) :
  (execOp a.eval o).run P w=.ok (.value (.slice (some ⟨b,if len=i.toNat then q else q+i.toNat,none⟩) (h.toNat - i.toNat) (len - i.toNat))) w:=by
 obtain ⟨ti,td,hti,hsz,htd⟩:=sizeIs_spec hs
 have hb:=run_sliceBounds (P:=P) (w:=w) (s:=false) (len:=len) (cap:=len) hlo hhi h0 h1 h2 (Nat.le_refl _)
 simp only [execOp,ho,hy,Instr.sliceAt,Instr.sureAddr,run_underlying hu,Sem.run_bind,Result.andThen_ok,Option.map_none,hb,Sem.run_pure,run_sizeOf hti,hsz,Nat.mul_one]
 split <;> simp [addr_add]
theorem go_sla (hr : Rel n base w0 G st a w) {t e : TypeId} {x : Operand} {lo hi : Option Operand} {len : Nat} {x' : Opd} {lo' hi' : Option Opd} (ho : o.op = .slice t x lo hi none)
  (hu:P.underlying t=some (.array len e)) (hs:sizeIs P e 1=true) (hx:chkOpd x x'=true) (hlo:chkOpt lo lo'=true) (hhi:chkOpt hi hi'=true)
  (he:ERun (eff P (getL st.slots) (.sla len x' lo' hi')) st.heap v ws rs):Goes P n base w0 w st a o r v ws:=by
 have h1:=chkOpd_rel hr hx
 have fin : ∀ {ds : List Data} {b b0 off : Nat} {i h : Int}, a.eval x = .pointer (some ⟨b, b0 + off, none⟩) → DCs w G.S ds b b0 → ((lo.map a.eval = none ∧ i = 0) ∨ ∃ kd, lo.map a.eval = some (.int kd i)) →
   ((hi.map a.eval=none∧h=len)∨∃ kd,hi.map a.eval=some (.int kd h))→0≤i→i≤h→h≤len→off+len≤ds.length →
   ∃ y,(execOp a.eval o).run P w=.ok (.value y) w∧VRel w G st.heap (.d (.slice 1 ((ds.drop (off+i.toNat)).take (h.toNat - i.toNat)))) y:=by
  intro ds b b0 off i h hp hd hlo hhi h0 h1 h2 h3
  refine ⟨_,sla_run ho hu hs hp hlo hhi h0 h1 h2,?_⟩
  simp only [VRel,DRel]
  have hlen:((ds.drop (off+i.toNat)).take (h.toNat - i.toNat)).length=h.toNat - i.toNat:=by simp; omega
  refine ⟨_,_,by rw [hlen],by omega,?_⟩
  by_cases hz:len=i.toNat
  ·left
   exact List.eq_nil_of_length_eq_zero (by omega)
  ·right
   refine ⟨b,b0+off+i.toNat,by rw [if_neg hz],?_⟩
   have:=DRows_take (h.toNat - i.toNat) (DCs_rows (DCs_drop (off+i.toNat) hd))
   rwa [show b0+(off+i.toNat)=b0+off+i.toNat by omega] at this
 simp only [eff] at he
 split at he
 ·rename_i id off e1
  rw [e1] at h1
  obtain ⟨ob,rs',hob,rfl,he⟩:=he
  dsimp only at he
  split at he
  ·rename_i cs
   split at he
   ·obtain ⟨⟨rfl,h3,h4⟩,rfl,rfl,rfl⟩:=he
    have elo:lo=none:=by cases lo <;> simp_all [chkOpt]
    have ehi:hi=none:=by cases hi <;> simp_all [chkOpt]
    subst elo ehi
    simp only [VRel] at h1
    obtain ⟨b,q4,q5,q6⟩:=h1
    have q7:=sla_run (w:=w) ho hu hs q6 (i:=0) (h:=len) (.inl ⟨rfl,rfl⟩) (.inl ⟨rfl,rfl⟩) (Int.le_refl _) (by omega) (Int.le_refl _)
    rw [if_neg (by simp; omega)] at q7
    refine goes_value (by simp [ho]) q7 hr ?_
    simp only [VRel]
    exact ⟨b,.inl ⟨_,hob⟩,q5,by simp⟩
   ·exact he.elim
  ·rename_i ds
   obtain ⟨h,he,hh⟩:=boundE_rel hr hhi he
   obtain ⟨i,he,hi⟩:=boundE_rel hr hlo he
   obtain ⟨⟨h3,h4,h5,h6⟩,rfl,rfl,rfl⟩:=he
   obtain ⟨b,arr,tt,q1,q2,q3,q4⟩:=hr.objs id _ hob
   simp only [VRel] at h1
   obtain ⟨b',_,q5,q6⟩:=h1
   rw [q1] at q5; cases q5
   obtain ⟨y,q7,q8⟩:=fin (b0:=0) (by rw [q6,Nat.zero_add]) q4 hi hh h3 h4 h5 h6
   exact goes_value (by simp [ho]) q7 hr q8
  ·exact he.elim
 ·rename_i ds off e1
  rw [e1] at h1
  obtain ⟨h,he,hh⟩:=boundE_rel hr hhi he
  obtain ⟨i,he,hi⟩:=boundE_rel hr hlo he
  obtain ⟨⟨h3,h4,h5,h6⟩,rfl,rfl,rfl⟩:=he
  simp only [VRel] at h1
  obtain ⟨b,b0,q1,q2⟩:=h1
  obtain ⟨y,q7,q8⟩:=fin q1 q2 hi hh h3 h4 h5 h6
  exact goes_value (by simp [ho]) q7 hr q8
 ·exact he.elim
theorem go_slv (hr : Rel n base w0 G st a w) {t e : TypeId} {x : Operand} {lo hi : Option Operand} {len : Nat} {x' : Opd} {lo' hi' : Option Opd} (ho : o.op = .slice t x lo hi none)
  (hu:P.underlying t=some (.array len e)) (hs:sizeIs P e 1=true) (hx:chkOpd x x'=true) (hlo:chkOpt lo lo'=true) (hhi:chkOpt hi hi'=true)
  (he:ERun (eff P (getL st.slots) (.slv len x' lo' hi')) st.heap v ws rs):Goes P n base w0 w st a o r v ws:=by
 have h1:=chkOpd_rel hr hx
 simp only [eff] at he
 split at he
 ·rename_i id off e1
  rw [e1] at h1
  obtain ⟨h,he,hh⟩:=boundE_rel hr hhi he
  obtain ⟨i,he,hi⟩:=boundE_rel hr hlo he
  obtain ⟨⟨h3,h3',h4,h5⟩,rfl,rfl,rfl⟩:=he
  simp only [VRel] at h1
  obtain ⟨b,q4,q5,q6⟩:=h1
  refine goes_value (by simp [ho]) (sla_run ho hu hs q6 hi hh h3 h4 h5) hr ?_
  simp only [VRel]
  refine ⟨b,len - h.toNat,q4,q5,?_⟩
  rw [if_neg (by omega)]
  congr 1
  omega
 ·exact he.elim
end
end Vc
set_option linter.unusedSimpArgs false
set_option linter.unusedVariables false
namespace Vc
open Go Go.RowKit
section
variable {P : Program} [Laid P] {n base : Nat} {w0 : W0} {w : World} {G : Gh} {st : St} {a : Act} {o : Oper} {r : Option Nat} {v : AVal} {ws : List (Nat × AObj)} {rs : List Nat}
theorem go_i2s (hr : Rel n base w0 G st a w) {s t : TypeId} {ks : IntKind} {x : Operand} {x' : Opd} (ho : o.op = .convert s t x) (hs : P.underlying s = some (.int ks)) (ht : P.underlying t = some .string) (hx : chkOpd x x' = true)
  (he:ERun (eff P (getL st.slots) (.i2s x')) st.heap v ws rs):Goes P n base w0 w st a o r v ws:=by
 have h1:=chkOpd_rel hr hx
 simp only [eff] at he
 split at he
 ·rename_i k1 m e1
  rw [e1] at h1
  obtain ⟨d,rfl,rfl,rfl,rfl⟩:=he
  refine goes_value (by simp [ho]) (x:=.string (Utf8.encode m)) (w':=w) (G':=G) (by simp [execOp,ho,int_of h1,convert,run_underlying hs,run_underlying ht,Conv.intToString]) hr ?_
  simp [VRel,DRel,str]
 ·exact he.elim
theorem go_rng (hr : Rel n base w0 G st a w) {t : TypeId} {x : Operand} {id : Nat} {x' : Opd} (ho : o.op = .range t x) (ht : P.underlying t = some .string) (hx : chkOpd x x' = true)
  (he:ERun (eff P (getL st.slots) (.rng id x')) st.heap v ws rs):Goes P n base w0 w st a o r v ws:=by
 have h1:=chkOpd_rel hr hx
 simp only [eff] at he
 obtain ⟨ob,rs',hob,rfl,he⟩:=he
 dsimp only at he
 split at he
 ·split at he
  ·rename_i l e1
   obtain ⟨rfl,rfl,rfl⟩:=he
   rw [e1] at h1
   have e2:=str_of h1
   have hlt:id < st.heap.length:=(List.getElem?_eq_some_iff.1 hob).1
   have h:=hr.upd (o':=.sit l 0) (v':=.pointer (some ⟨w.heap.size,0,none⟩)) (S':=G.S) (row:=none) (w':=w.alloc (.stringIter ⟨l.toArray⟩ 0)) hob (.inl rfl) (fun _ _ h=>h) (fun _ _ h=>.inl h)
    (World.grownBy_alloc w _ none) (fun _ _ _ h=>by cases h) (fun b hb=>by cases hb; exact .inr (Nat.le_refl _)) trivial
    (fun hx=>⟨w.heap.size,by simp [upd],hr.old,heap_alloc_new w _⟩)
    (fun b off hb _ hs=>by cases hb; have:=hr.lim _ _ hs; simp at this) (fun b off hs=>by have:=hr.lim _ _ hs; simp; omega)
   refine goes_value (by simp [ho]) (x:=.pointer (some ⟨w.heap.size,0,none⟩)) (G':=_) ?_ h.2 ?_
   ·simp only [execOp,ho,e2,Instr.range,run_underlying ht,Sem.run_bind,Result.andThen_ok,str,Sem.run_pure,run_newObj_alloc]
   ·simp only [VRel]
    exact ⟨l,0,by simp [applyW,hlt],by simp [upd]⟩
  ·exact he.elim
 ·exact he.elim
theorem go_nxt (hr : Rel n base w0 G st a w) {x : Operand} {x' : Opd} (ho : o.op = .next x true) (hx : chkOpd x x' = true)
  (he:ERun (eff P (getL st.slots) (.nxt x')) st.heap v ws rs):Goes P n base w0 w st a o r v ws:=by
 have h1:=chkOpd_rel hr hx
 simp only [eff] at he
 split at he
 ·rename_i id e1
  rw [e1] at h1
  obtain ⟨ob,rs',hob,rfl,he⟩:=he
  dsimp only at he
  split at he
  ·rename_i l pos
   obtain ⟨ds,p,hcase,rfl,rfl,rfl⟩:=he
   obtain ⟨b,h2,h3,h4⟩:=hr.objs id _ hob
   simp only [VRel] at h1
   obtain ⟨l',p',_,h5⟩:=h1
   rw [h2] at h5
   have hget:(getObj b).run P w=.ok (.stringIter ⟨l.toArray⟩ pos) w:=by simp [getObj,Sem.run,h4]
   have hlt:id < st.heap.length:=(List.getElem?_eq_some_iff.1 hob).1
   have hblt:b < w.heap.size:=(Array.getElem?_eq_some_iff.1 h4).1
   rcases hcase with ⟨h6,rfl,rfl⟩ | ⟨h6,rfl,rfl⟩
   ·have hset:∀ q,(setObj b (.stringIter ⟨l.toArray⟩ q)).run P w=.ok () (w.putObj b (.stringIter ⟨l.toArray⟩ q)):=fun q=>by simp [setObj,Sem.run,h4,World.putObj]
    simp only [Int.toNat_natCast]
    have h:=hr.upd (o':=.sit l (pos+(decA l pos).2)) (v':=G.val id) (S':=G.S) (row:=some b) (w':=w.putObj b (.stringIter ⟨l.toArray⟩ (pos+(decA l pos).2))) hob
     (.inr ⟨by simp,by rw [h2]; rfl⟩) (fun _ _ h=>h) (fun _ _ h=>.inl h)
     ⟨rfl,rfl,rfl,by simp,fun k _ hk=>World.putObj_heap_other (fun e=>hk (by rw [e]))⟩
     (fun b1 off1 hS hb1=>by
      cases hb1
      exact absurd hS (hr.free id _ b off1 hob (by rw [h2]; rfl) trivial))
     (fun b1 hb1=>.inl ⟨by simp,hb1⟩) rfl
     (fun hx=>⟨b,(upd_same _ _ _).trans h2,h3,World.putObj_heap_same hblt⟩)
     (fun b1 off1 hb1 _ hS=>hr.free id _ b1 off1 hob hb1 trivial hS) (fun b1 off1 hS=>by have:=hr.lim b1 off1 hS; simpa using this)
    refine goes_value (by simp [ho]) (x:=.tuple #[.bool true,.int .i64 pos,.int .i32 (decA l pos).1]) (G':=_) ?_ h.2 ?_
    ·have hsz:pos < (⟨l.toArray⟩:ByteArray).size:=by rw [str_size]; exact h6
     simp only [execOp,ho,h5,Instr.next,hget,Sem.run_bind,Result.andThen_ok,hsz,if_true,Sem.run_pure,goInt]
     rw [show Utf8.decode ⟨l.toArray⟩ pos=decA l pos from rfl]
     simp only [hset,Result.andThen_ok,Sem.run_bind,Sem.run_pure]
    ·simp only [VRel,dcells,List.map_cons,List.map_nil]
     exact ⟨_,rfl,by simp [VRels,VRel,DRel]⟩
   ·have hset : st.heap.set id (.sit l (((pos : Nat) : Int)).toNat) = st.heap := by
     rw [Int.toNat_natCast]
     obtain ⟨h16,h17⟩:=List.getElem?_eq_some_iff.1 hob
     rw [← h17]
     exact List.set_getElem_self h16
    refine goes_value (by simp [ho]) (x:=.tuple #[.bool false]) (w':=w) (G':=G) ?_ (by simp only [applyW,hset]; exact hr) ?_
    ·have hsz:¬ pos < (⟨l.toArray⟩:ByteArray).size:=by rw [str_size]; omega
     simp only [execOp,ho,h5,Instr.next,hget,Sem.run_bind,Result.andThen_ok,hsz,if_false,Sem.run_pure]
    ·simp only [VRel,dcells,List.map_cons,List.map_nil]
     exact ⟨_,rfl,by simp [VRels,VRel,DRel]⟩
  ·exact he.elim
 ·exact he.elim
end
end Vc
set_option linter.unusedSimpArgs false
set_option linter.unusedVariables false
namespace Vc
open Go Go.RowKit Go.MapKept
section
variable {P : Program} [Laid P] {n base : Nat} {w0 : W0} {w : World} {G : Gh} {st : St} {a : Act} {o : Oper} {r : Option Nat} {v : AVal} {ws : List (Nat × AObj)} {rs : List Nat}
theorem key_is {S:Nat→Nat→Prop} {ck:Option IntKind} {kt:TypeId} {k:Data} {u:Value} (hk:keyT P kt ck=true) (hd:keyD ck k=true) (hr:DRel w S k u):∃ d,P.underlying kt=some d∧IsKey d u:=by
 unfold keyT at hk
 split at hk
 ·rename_i k1 k2 hu
  have hk:=of_decide_eq_true hk
  subst hk
  refine ⟨_,hu,?_⟩
  unfold keyD at hd
  split at hd
  ·rename_i k3 k4 q he
   cases he
   simp only [DRel] at hr
   subst hr
   have:=of_decide_eq_true hd
   exact this
  ·rename_i he; cases he
  ·cases hd
 ·rename_i hu
  refine ⟨_,hu,?_⟩
  unfold keyD at hd
  split at hd
  ·rename_i he; cases he
  ·simp only [DRel] at hr
   subst hr
   trivial
  ·cases hd
 ·cases hk
theorem key_eq {S:Nat→Nat→Prop} {ck:Option IntKind} {k k':Data} {u u':Value} (hd:keyD ck k=true) (hd':keyD ck k'=true) (hr:DRel w S k u) (hr':DRel w S k' u'):(dEq k k'=true↔u'=u):=by
 unfold keyD at hd hd'
 split at hd
 ·rename_i k3 k4 q
  split at hd'
  ·rename_i k5 k6 q' he
   cases he
   have e1:=of_decide_eq_true hd
   have e2:=of_decide_eq_true hd'
   subst e1; subst e2
   simp only [DRel] at hr hr'
   subst hr; subst hr'
   simp only [dEq,beq_iff_eq,Value.int.injEq,true_and]
   exact eq_comm
  ·rename_i he; cases he
  ·cases hd'
 ·split at hd'
  ·rename_i he; cases he
  ·simp only [DRel] at hr hr'
   subst hr; subst hr'
   simp only [dEq,str,beq_iff_eq,Value.string.injEq,ByteArray.mk.injEq]
   constructor
   ·intro h; rw [h]
   ·intro h; have:=congrArg Array.toList h; simpa using this.symm
  ·cases hd'
 ·cases hd
theorem keys_is {S:Nat→Nat→Prop} {ck:Option IntKind} {kt:TypeId} {d:TypeDesc} (hk:keyT P kt ck=true) (hu:P.underlying kt=some d):∀ {es:List (Data × Data)} {ms:List MapEntry},keysOk ck es=true→MRel w S es ms→∀ m∈ms,IsKey d m.key
 | [],ms,_,h=>by simp only [MRel] at h; subst h; simp
 | (k,x)::es,ms,ho,h=>by
  simp only [keysOk,Bool.and_eq_true] at ho
  simp only [MRel] at h
  obtain ⟨m,q,rfl,h1,h2,h3⟩:=h
  intro y hy
  rcases List.mem_cons.1 hy with e | e
  ·subst e
   obtain ⟨d',hu',hi⟩:=key_is hk ho.1 h1
   rw [hu] at hu'; cases hu'
   exact hi
  ·exact keys_is hk hu ho.2 h3 y e
theorem find_none {S:Nat→Nat→Prop} {ck:Option IntKind} {kd:Data} {u:Value} (hd:keyD ck kd=true) (hr:DRel w S kd u):∀ {es:List (Data × Data)} {ms:List MapEntry},keysOk ck es=true→MRel w S es ms→(∀ m∈ms,m.key≠u)→findM kd es=none∧∀ vd,putM kd vd es=es++[(kd,vd)]
 | [],ms,_,h,_=>⟨rfl,fun _=>rfl⟩
 | (k,x)::es,ms,ho,h,hn=>by
  simp only [keysOk,Bool.and_eq_true] at ho
  simp only [MRel] at h
  obtain ⟨m,q,rfl,h1,h2,h3⟩:=h
  have:dEq kd k=false:=by
   cases hb:dEq kd k
   ·rfl
   ·exact absurd ((key_eq hd ho.1 hr h1).1 hb) (hn m List.mem_cons_self)
  obtain ⟨h4,h5⟩:=find_none hd hr ho.2 h3 fun m hm=>hn m (List.mem_cons_of_mem _ hm)
  exact ⟨by simp only [findM,this]; exact h4,fun vd=>by simp only [putM,this,h5 vd]; rfl⟩
theorem MRel_app {S:Nat→Nat→Prop} {k x:Data} {e:MapEntry} (hk:DRel w S k e.key) (hx:DRel w S x e.val):∀ {es:List (Data × Data)} {ms:List MapEntry},MRel w S es ms→MRel w S (es++[(k,x)]) (ms++[e])
 | [],ms,h=>by simp only [MRel] at h; subst h; simp only [List.nil_append,MRel]; exact ⟨e,[],rfl,hk,hx,rfl⟩
 | (k',x')::es,ms,h=>by
  simp only [MRel] at h
  obtain ⟨m,q,rfl,h1,h2,h3⟩:=h
  simp only [List.cons_append,MRel]
  exact ⟨m,_,rfl,h1,h2,MRel_app hk hx h3⟩
theorem find_some {S : Nat → Nat → Prop} {ck : Option IntKind} {kd : Data} {u : Value} (hd : keyD ck kd = true) (hr : DRel w S kd u) : ∀ {es : List (Data × Data)} {ms : List MapEntry} {j : Nat} {e : MapEntry}, keysOk ck es = true → MRel w S es ms →
  ms[j]?=some e→e.key=u→(∀ i m,i < j→ms[i]?=some m→m.key≠u) →
  (∃ y,findM kd es=some y∧DRel w S y e.val)∧∀ (vd:Data) (x:Value),DRel w S vd x→MRel w S (putM kd vd es) (ms.modify j fun e=>{ e with key:=u,val:=x })
 | [],ms,j,e,_,h,hj,_,_=>by simp only [MRel] at h; subst h; simp at hj
 | (k,x)::es,ms,j,e,ho,h,hj,he,hf=>by
  simp only [keysOk,Bool.and_eq_true] at ho
  simp only [MRel] at h
  obtain ⟨m,q,rfl,h1,h2,h3⟩:=h
  cases j with
  | zero =>
   simp at hj
   subst hj
   have:dEq kd k=true:=(key_eq hd ho.1 hr h1).2 he
   refine ⟨⟨x,by simp only [findM,this],h2⟩,fun vd x hx=>?_⟩
   simp only [putM,this,List.modify_zero_cons,MRel]
   exact ⟨_,q,rfl,hr,hx,h3⟩
  | succ j =>
   have:dEq kd k=false:=by
    cases hb:dEq kd k
    ·rfl
    ·exact absurd ((key_eq hd ho.1 hr h1).1 hb) (hf 0 m (Nat.succ_pos _) rfl)
   obtain ⟨⟨y,h4,h5⟩,h6⟩:=find_some hd hr ho.2 h3 (j:=j) (by simpa using hj) he (fun i m hi hm=>hf (i+1) m (by omega) (by simpa using hm))
   refine ⟨⟨y,by simp only [findM,this]; exact h4,h5⟩,fun vd x hx=>?_⟩
   simp only [putM,this,List.modify_succ_cons,MRel]
   exact ⟨m,_,rfl,h1,h2,h6 vd x hx⟩
theorem findNow_first {d : TypeDesc} {k : Value} (hk : IsKey d k) : ∀ (l : List MapEntry) (i : Nat), (∀ x ∈ l, IsKey d x.key) →
  (Instr.findNow d k l i=some none∧∀ x∈l,x.key≠k)∨∃ j e,Instr.findNow d k l i=some (some (i+j,e.val))∧l[j]?=some e∧e.key=k∧∀ i' m,i' < j→l[i']?=some m→m.key≠k
 | [],_,_=>.inl ⟨rfl,by simp⟩
 | e::es,i,h=>by
  obtain ⟨r,hr,hiff⟩:=sameNow_of_keys hk (h e (.head _))
  cases r with
  | true=>exact .inr ⟨0,e,by simp [Instr.findNow,hr],rfl,(hiff.1 rfl).symm,fun _ _ h=>absurd h (Nat.not_lt_zero _)⟩
  | false =>
   have hne:e.key≠k:=fun q=>by have:=hiff.2 q.symm; cases this
   rcases findNow_first hk es (i+1) (fun x hx=>h x (.tail _ hx)) with ⟨h1,h2⟩ | ⟨j,e',h1,h2,h3,h4⟩
   ·exact .inl ⟨by simp [Instr.findNow, hr, h1], fun x hx => by
     cases hx with
     | head=>exact hne
     | tail _ hx=>exact h2 x hx⟩
   ·refine .inr ⟨j+1,e',by simp [Instr.findNow,hr,h1]; omega,by simpa using h2,h3,fun i' m hi hm=>?_⟩
    cases i' with
    | zero=>simp at hm; subst hm; exact hne
    | succ i'=>exact h4 i' m (by omega) (by simpa using hm)
theorem go_mkm (hr : Rel n base w0 G st a w) {t : TypeId} {id : Nat} (ho : o.op = .makeMap t none)
  (he:ERun (eff P (getL st.slots) (.mkm id)) st.heap v ws rs):Goes P n base w0 w st a o r v ws:=by
 simp only [eff] at he
 obtain ⟨ob,rs',hob,rfl,he⟩:=he
 dsimp only at he
 split at he
 ·obtain ⟨rfl,rfl,rfl⟩:=he
  have hlt:id < st.heap.length:=(List.getElem?_eq_some_iff.1 hob).1
  have h:=hr.upd (o':=.mapo []) (v':=.map (some w.heap.size)) (S':=G.S) (row:=none) (w':=w.alloc (.map #[] 0)) hob (.inl rfl) (fun _ _ h=>h) (fun _ _ h=>.inl h)
   (World.grownBy_alloc w _ none) (fun _ _ _ h=>by cases h) (fun b hb=>by cases hb; exact .inr (Nat.le_refl _)) trivial
   (fun hx=>⟨w.heap.size,#[],0,by simp [upd],hr.old,heap_alloc_new w _,by simp [MRel]⟩)
   (fun b off hb _ hs=>by cases hb; have:=hr.lim _ _ hs; simp at this) (fun b off hs=>by have:=hr.lim _ _ hs; simp; omega)
  refine goes_value (by simp [ho]) (x:=.map (some w.heap.size)) (G':=_) ?_ h.2 ?_
  ·simp [execOp,ho,Instr.makeMap]
  ·simp only [VRel]
   exact ⟨[],by simp [applyW,hlt],by simp [upd]⟩
 ·exact he.elim
theorem go_lenm (hr : Rel n base w0 G st a w) {c : Call} {t kt et : TypeId} {x : Operand} {x' : Opd} (ho : o.op = .call c) (hcal : c.callee = .builtin .len) (hargs : c.args.toList = [x]) (ht : c.argTypes[0]? = some t)
  (hu:P.underlying t=some (.map kt et)) (hx:chkOpd x x'=true)
  (he:ERun (eff P (getL st.slots) (.lenm x')) st.heap v ws rs):Goes P n base w0 w st a o r v ws:=by
 have h1:=chkOpd_rel hr hx
 have hargs':c.args=#[x]:=by rw [← Array.toArray_toList (xs:=c.args),hargs]
 simp only [eff] at he
 split at he
 ·rename_i id e1
  rw [e1] at h1
  obtain ⟨ob,rs',hob,rfl,he⟩:=he
  dsimp only at he
  split at he
  ·rename_i es
   obtain ⟨rfl,rfl,rfl⟩:=he
   obtain ⟨b,mes,clock,h2,h3,h4,h5⟩:=hr.objs id _ hob
   simp only [VRel] at h1
   obtain ⟨_,_,h6⟩:=h1
   rw [h2] at h6
   have hl:∀ {es:List (Data × Data)} {ms:List MapEntry},MRel w G.S es ms→ms.length=es.length:=by
    intro es
    induction es with
    | nil=>intro ms h; simp only [MRel] at h; subst h; rfl
    | cons p es ih=>intro ms h; obtain ⟨k,x⟩:=p; simp only [MRel] at h; obtain ⟨m,q,rfl,_,_,h3⟩:=h; simp [ih h3]
   have hsz:mes.size=es.length:=by rw [← hl h5]; simp
   exact goes_value (by simp [ho]) (x:=.int .i64 es.length) (w':=w) (G':=G) (by simp [execOp,ho,resolve,hcal,hargs',invoke,builtin,Builtin.len_,ht,run_underlying hu,h6,run_getObj_map (P:=P) h4,goInt,hsz]) hr (by simp [VRel,DRel])
  ·exact he.elim
 ·exact he.elim
theorem go_lkp (hr : Rel n base w0 G st a w) {t : TypeId} {x y : Operand} {ck : Option IntKind} {zero : Data} {comma : Bool} {x' y' : Opd} (ho : o.op = .lookup t x y comma) (hk : lkpOk P t ck zero = true) (hx : chkOpd x x' = true) (hy : chkOpd y y' = true)
  (he:ERun (eff P (getL st.slots) (.lkp ck zero comma x' y')) st.heap v ws rs):Goes P n base w0 w st a o r v ws:=by
 have h1:=chkOpd_rel hr hx
 have h2:=chkOpd_rel hr hy
 unfold lkpOk at hk
 split at hk
 ·rename_i kt et hu
  simp only [Bool.and_eq_true] at hk
  obtain ⟨hkt,hz⟩:=hk
  obtain ⟨i,z,hi,hzz,hzc,_⟩:=zeroOk_spec hz.1
  simp only [eff] at he
  split at he
  ·rename_i kd e2
   rw [e2] at h2
   simp only [VRel] at h2
   split at he
   ·rename_i id e1
    rw [e1] at h1
    obtain ⟨ob,rs',hob,rfl,he⟩:=he
    dsimp only at he
    split at he
    ·rename_i es
     obtain ⟨ds,⟨hkd,hks,hcase⟩,he⟩:=he
     obtain ⟨b,mes,clock,h3,h4,h5,h6⟩:=hr.objs id _ hob
     simp only [VRel] at h1
     obtain ⟨_,_,h7⟩:=h1
     rw [h3] at h7
     obtain ⟨d,hd,hik⟩:=key_is hkt hkd h2
     have hrel:∀ {y:Data} {u:Value} {b:Bool},ds=[y,.bool b]→DRel w G.S y u→(execOp a.eval o).run P w=.ok (.value (if comma then .tuple #[u,.bool b] else u)) w→Goes P n base w0 w st a o r v ws:=by
      intro y u b hds hyu hrun
      subst hds
      cases comma with
      | true =>
       obtain ⟨rfl,rfl,rfl⟩:=he
       refine goes_value (by simp [ho]) hrun hr ?_
       simp only [if_true,VRel,dcells,List.map_cons,List.map_nil]
       exact ⟨[u,.bool b],rfl,by simp [VRels,VRel,DRel,hyu]⟩
      | false =>
       obtain ⟨rfl,rfl,rfl⟩:=he
       exact goes_value (by simp [ho]) hrun hr (by simpa [VRel] using hyu)
     rcases findNow_first hik mes.toList 0 (keys_is hkt hd hks h6) with ⟨q1,q2⟩ | ⟨j,e,q1,q2,q3,q4⟩
     ·obtain ⟨q5,_⟩:=find_none hkd h2 hks h6 q2
      rcases hcase with ⟨y,q6,_⟩ | ⟨_,hds⟩
      ·rw [q5] at q6; cases q6
      ·refine hrel hds (u:=z) ?_ ?_
       ·have h8:=zero_DRels (w:=w) (S:=G.S) hzc
        have h9:=hz.2
        unfold zform at h9
        rw [hi] at h9
        simp only [hzz] at h9
        cases zero with
        | agg cs =>
         have hz2:∃ zs,z=.agg zs:=by cases z <;> first | exact ⟨_,rfl⟩ | (simp [Data.isAgg] at h9)
         obtain ⟨zs,rfl⟩:=hz2
         simp only [DRel]
         exact ⟨zs.toList,by simp,by simpa [Data.cells,Value.cells] using h8⟩
        | _ =>
         have hzc':z.cells=#[z]:=by cases z <;> simp_all [Data.isAgg,Value.cells]
         rw [hzc'] at h8
         simp only [Data.cells,DRels] at h8
         obtain ⟨v1,r1,q8,_,q9,_⟩:=h8
         simp at q8
         rw [q8.1]
         exact q9
       ·simp only [execOp,ho,h7,Instr.lookup,run_underlying hu,run_getObj_map (P:=P) h5,Sem.run_bind,Result.andThen_ok,Sem.run_pure,run_checkKey hd hik,run_findKey hd q1,run_zero hi hzz]
     ·obtain ⟨⟨y,q5,q6⟩,_⟩:=find_some hkd h2 hks h6 q2 q3 q4
      rcases hcase with ⟨y',q7,hds⟩ | ⟨q7,_⟩
      ·rw [q5] at q7; cases q7
       refine hrel hds q6 ?_
       simp only [execOp,ho,h7,Instr.lookup,run_underlying hu,run_getObj_map (P:=P) h5,Sem.run_bind,Result.andThen_ok,Sem.run_pure,run_checkKey hd hik,run_findKey hd q1]
      ·rw [q5] at q7; cases q7
    ·exact he.elim
   ·exact he.elim
  ·exact he.elim
 ·cases hk
theorem applyW_keep {id:Nat}:∀ {ws:List (Nat × AObj)} {h:List AObj},(∀ i o,(i,o)∈ws→i≠id)→(applyW h ws)[id]?=h[id]?
 | [],h,_=>rfl
 | (i,o)::r,h,hn=>by
  simp only [applyW]
  rw [applyW_keep fun j q hm=>hn j q (List.mem_cons_of_mem _ hm),List.getElem?_set_ne (hn i o List.mem_cons_self)]
theorem go_mpu (hr : Rel n base w0 G st a w) {t : TypeId} {x y z : Operand} {ck : Option IntKind} {x' y' z' : Opd} (ho : o.op = .mapUpdate t x y z) (hk : mpuOk P t ck = true) (hx : chkOpd x x' = true) (hy : chkOpd y y' = true) (hz : chkOpd z z' = true)
  (he:ERun (eff P (getL st.slots) (.mpu ck x' y' z')) st.heap v ws rs):Goes P n base w0 w st a o r v ws:=by
 have h1:=chkOpd_rel hr hx
 have h2:=chkOpd_rel hr hy
 have h3:=chkOpd_rel hr hz
 unfold mpuOk at hk
 split at hk
 ·rename_i kt et hu
  simp only [eff] at he
  split at he
  ·rename_i kd e2
   rw [e2] at h2
   simp only [VRel] at h2
   obtain ⟨u,fws,rs1,he,hf,hpv⟩:=pv_rel hr h3 he
   split at he
   ·rename_i vd
    split at he
    ·rename_i id e1
     rw [e1] at h1
     obtain ⟨ob,rs',hob,rfl,he⟩:=he
     dsimp only at he
     split at he
     ·rename_i es
      obtain ⟨⟨hkd,hks⟩,rfl,rfl,rfl⟩:=he
      obtain ⟨G1,hr1,hS,hval,hsl,_,_⟩:=freeze_rel hr hf
      have hob1:(applyW st.heap fws)[id]?=some (.mapo es):=by
       rw [applyW_keep fun i q hm e=>?_]
       ·exact hob
       ·obtain ⟨t1,sz,es1,fz,_,h9⟩:=hf i q hm
        rw [e,hob] at h9; cases h9
      have hvd:=hpv G1.S hS (by rw [← hval]; exact hsl) G1.val
      simp only [VRel] at hvd
      have hkr:DRel w G1.S kd (a.eval y):=DRel_mono (fun _ _ _=>rfl) hS kd h2
      obtain ⟨b,mes,clock,q1,q2,q3,q4⟩:=hr1.objs id _ hob1
      simp only [VRel] at h1
      obtain ⟨_,_,h7⟩:=h1
      rw [← hval,q1] at h7
      obtain ⟨d,hd,hik⟩:=key_is hk hkd hkr
      have hblt:b < w.heap.size:=(Array.getElem?_eq_some_iff.1 q3).1
      have fin:∀ {mes':Array MapEntry} {clock':Nat},MRel w G1.S (putM kd vd es) mes'.toList→(execOp a.eval o).run P w=.ok .skip (w.putObj b (.map mes' clock'))→Goes P n base w0 w st a o r .undef (fws++[(id,.mapo (putM kd vd es))]):=by
       intro mes' clock' hm hrun
       have h:=hr1.upd (o':=.mapo (putM kd vd es)) (v':=G1.val id) (S':=G1.S) (row:=some b) (w':=w.putObj b (.map mes' clock')) hob1
        (.inr ⟨by simp,by rw [q1]; rfl⟩) (fun _ _ h=>h) (fun _ _ h=>.inl h)
        ⟨rfl,rfl,rfl,by simp,fun k _ hk=>World.putObj_heap_other (fun e=>hk (by rw [e]))⟩
        (fun b1 off1 hS hb1=>by
         cases hb1
         exact absurd hS (hr1.free id _ b off1 hob1 (by rw [q1]; rfl) trivial))
        (fun b1 hb1=>.inl ⟨by simp,hb1⟩) rfl
        (fun hx=>⟨b,mes',clock',(upd_same _ _ _).trans q1,q2,World.putObj_heap_same hblt,MRel_mono hx.keeps hx.seals _ hm⟩)
        (fun b1 off1 hb1 _ hS=>hr1.free id _ b1 off1 hob1 hb1 trivial hS) (fun b1 off1 hS=>by have:=hr1.lim b1 off1 hS; simpa using this)
       exact goes_skip (by simp [ho]) hrun (by rw [applyW_append]; exact h.2)
      rcases findNow_first hik mes.toList 0 (keys_is hk hd hks q4) with ⟨p1,p2⟩ | ⟨j,e,p1,p2,p3,p4⟩
      ·obtain ⟨_,p5⟩:=find_none hkd hkr hks q4 p2
       refine fin (mes':=mes.push { key:=a.eval y,val:=a.eval z,born:=clock }) (clock':=clock+1) ?_ ?_
       ·rw [p5 vd,Array.toList_push]
        exact MRel_app (e:={ key:=a.eval y,val:=a.eval z,born:=clock }) hkr hvd q4
       ·simp only [execOp,ho,h7,Instr.mapUpdate,run_underlying hu,run_getObj_map (P:=P) q3,Sem.run_bind,Result.andThen_ok,Sem.run_pure,run_checkKey hd hik,run_findKey hd p1,run_setObj_map (P:=P) _ q3]
        rfl
      ·obtain ⟨_,p5⟩:=find_some hkd hkr hks q4 p2 p3 p4
       refine fin (mes':=mes.modify j fun e=>{ e with key:=a.eval y,val:=a.eval z }) (clock':=clock) ?_ ?_
       ·rw [Array.toList_modify]
        exact p5 vd (a.eval z) hvd
       ·have hj:mes[j]?=some e:=by simpa using p2
        simp only [execOp,ho,h7,Instr.mapUpdate,run_underlying hu,run_getObj_map (P:=P) q3,Sem.run_bind,Result.andThen_ok,Sem.run_pure,run_checkKey hd hik,run_findKey hd p1,Nat.zero_add,hj,Option.map_some,Option.getD_some,p3,run_keyThatStays hik,run_setObj_map (P:=P) _ q3]
        rfl
     ·exact he.elim
    ·exact he.elim
   ·exact he.elim
  ·exact he.elim
 ·cases hk
theorem go_ins (hr : Rel n base w0 G st a w) {t : TypeId} {x y z : Operand} {ck : Option IntKind} {x' y' z' : Opd} (ho : o.op = .insert t x y z) (hk : mpuOk P t ck = true) (hx : chkOpd x x' = true) (hy : chkOpd y y' = true) (hz : chkOpd z z' = true)
  (he:ERun (eff P (getL st.slots) (.mpu ck x' y' z')) st.heap v ws rs):Goes P n base w0 w st a o r v ws:=by
 have h1:=chkOpd_rel hr hx
 have h2:=chkOpd_rel hr hy
 have h3:=chkOpd_rel hr hz
 unfold mpuOk at hk
 split at hk
 ·rename_i kt et hu
  simp only [eff] at he
  split at he
  ·rename_i kd e2
   rw [e2] at h2
   simp only [VRel] at h2
   obtain ⟨u,fws,rs1,he,hf,hpv⟩:=pv_rel hr h3 he
   split at he
   ·rename_i vd
    split at he
    ·rename_i id e1
     rw [e1] at h1
     obtain ⟨ob,rs',hob,rfl,he⟩:=he
     dsimp only at he
     split at he
     ·rename_i es
      obtain ⟨⟨hkd,hks⟩,rfl,rfl,rfl⟩:=he
      obtain ⟨G1,hr1,hS,hval,hsl,_,_⟩:=freeze_rel hr hf
      have hob1:(applyW st.heap fws)[id]?=some (.mapo es):=by
       rw [applyW_keep fun i q hm e=>?_]
       ·exact hob
       ·obtain ⟨t1,sz,es1,fz,_,h9⟩:=hf i q hm
        rw [e,hob] at h9; cases h9
      have hvd:=hpv G1.S hS (by rw [← hval]; exact hsl) G1.val
      simp only [VRel] at hvd
      have hkr:DRel w G1.S kd (a.eval y):=DRel_mono (fun _ _ _=>rfl) hS kd h2
      obtain ⟨b,mes,clock,q1,q2,q3,q4⟩:=hr1.objs id _ hob1
      simp only [VRel] at h1
      obtain ⟨_,_,h7⟩:=h1
      rw [← hval,q1] at h7
      obtain ⟨d,hd,hik⟩:=key_is hk hkd hkr
      have hblt:b < w.heap.size:=(Array.getElem?_eq_some_iff.1 q3).1
      have fin:∀ {mes':Array MapEntry} {clock':Nat},MRel w G1.S (putM kd vd es) mes'.toList→(execOp a.eval o).run P w=.ok .skip (w.putObj b (.map mes' clock'))→Goes P n base w0 w st a o r .undef (fws++[(id,.mapo (putM kd vd es))]):=by
       intro mes' clock' hm hrun
       have h:=hr1.upd (o':=.mapo (putM kd vd es)) (v':=G1.val id) (S':=G1.S) (row:=some b) (w':=w.putObj b (.map mes' clock')) hob1
        (.inr ⟨by simp,by rw [q1]; rfl⟩) (fun _ _ h=>h) (fun _ _ h=>.inl h)
        ⟨rfl,rfl,rfl,by simp,fun k _ hk=>World.putObj_heap_other (fun e=>hk (by rw [e]))⟩
        (fun b1 off1 hS hb1=>by
         cases hb1
         exact absurd hS (hr1.free id _ b off1 hob1 (by rw [q1]; rfl) trivial))
        (fun b1 hb1=>.inl ⟨by simp,hb1⟩) rfl
        (fun hx=>⟨b,mes',clock',(upd_same _ _ _).trans q1,q2,World.putObj_heap_same hblt,MRel_mono hx.keeps hx.seals _ hm⟩)
        (fun b1 off1 hb1 _ hS=>hr1.free id _ b1 off1 hob1 hb1 trivial hS) (fun b1 off1 hS=>by have:=hr1.lim b1 off1 hS; simpa using this)
       exact goes_skip (by simp [ho]) hrun (by rw [applyW_append]; exact h.2)
      rcases findNow_first hik mes.toList 0 (keys_is hk hd hks q4) with ⟨p1,p2⟩ | ⟨j,e,p1,p2,p3,p4⟩
      ·obtain ⟨_,p5⟩:=find_none hkd hkr hks q4 p2
       refine fin (mes':=mes.push { key:=a.eval y,val:=a.eval z,born:=clock }) (clock':=clock+1) ?_ ?_
       ·rw [p5 vd,Array.toList_push]
        exact MRel_app (e:={ key:=a.eval y,val:=a.eval z,born:=clock }) hkr hvd q4
       ·simp only [execOp,ho,h7,Instr.mapUpdate,run_underlying hu,run_getObj_map (P:=P) q3,Sem.run_bind,Result.andThen_ok,Sem.run_pure,run_checkKey hd hik,run_findKey hd p1,run_setObj_map (P:=P) _ q3]
        rfl
      ·obtain ⟨_,p5⟩:=find_some hkd hkr hks q4 p2 p3 p4
       refine fin (mes':=mes.modify j fun e=>{ e with key:=a.eval y,val:=a.eval z }) (clock':=clock) ?_ ?_
       ·rw [Array.toList_modify]
        exact p5 vd (a.eval z) hvd
       ·have hj:mes[j]?=some e:=by simpa using p2
        simp only [execOp,ho,h7,Instr.mapUpdate,run_underlying hu,run_getObj_map (P:=P) q3,Sem.run_bind,Result.andThen_ok,Sem.run_pure,run_checkKey hd hik,run_findKey hd p1,Nat.zero_add,hj,Option.map_some,Option.getD_some,p3,run_keyThatStays hik,run_setObj_map (P:=P) _ q3]
        rfl
     ·exact he.elim
    ·exact he.elim
   ·exact he.elim
  ·exact he.elim
 ·cases hk
end
end Vc
set_option linter.unusedSimpArgs false
set_option linter.unusedVariables false
namespace Vc
open Go Go.RowKit
section
variable {P : Program} [Laid P] {n base : Nat} {w0 : W0} {w w' : World} {G : Gh} {st : St} {a : Act} {o : Oper} {r : Option Nat} {v : AVal} {ws : List (Nat × AObj)} {rs : List Nat}
theorem nbeq {a b:Nat} (h:Nat.beq a b=true):a=b:=Nat.eq_of_beq_eq_true h
theorem nbeq_f {a b:Nat} (h:(!Nat.beq a b)=true):a≠b:=by
 intro e; subst e; simp [Nat.beq_refl] at h
theorem sliceOf {t:TypeId} {p:TypeId→Bool} (h:(match P.underlying t with | some (.slice e)=>p e | _=>false)=true):∃ e,P.underlying t=some (.slice e)∧p e=true:=by
 split at h
 ·rename_i e he; exact ⟨e,he,h⟩
 ·cases h
theorem arrayOf {t:TypeId} {p:Nat→TypeId→Bool} (h:(match P.underlying t with | some (.array l e)=>p l e | _=>false)=true):∃ l e,P.underlying t=some (.array l e)∧p l e=true:=by
 split at h
 ·rename_i l e he; exact ⟨l,e,he,h⟩
 ·cases h
theorem stringOf {t:TypeId} (h:(match P.underlying t with | some .string=>true | _=>false)=true):P.underlying t=some .string:=by
 split at h
 ·assumption
 ·cases h
theorem infoOf {t:TypeId} {p:TypeInfo→Bool} (h:(match P.info? t with | some i=>p i | none=>false)=true):∃ i,P.info? t=some i∧p i=true:=by
 split at h
 ·rename_i e he; exact ⟨e,he,h⟩
 ·cases h
theorem isLen_spec {c:Call} {p:TypeId→Bool} {b:Opd} (h:isLen c p b=true):∃ y t,c.callee=.builtin .len∧c.args.toList=[y]∧c.argTypes[0]?=some t∧p t=true∧chkOpd y b=true:=by
 unfold isLen at h
 split at h
 ·rename_i a hcal hargs
  simp only [Bool.and_eq_true] at h
  obtain ⟨h1,h2⟩:=h
  split at h1
  ·rename_i t ht
   exact ⟨a,t,hcal,hargs,ht,h1,h2⟩
  ·cases h1
 ·cases h
theorem isTwo_spec {c:Call} {bl:Builtin→Bool} {x y:Opd} (h:isTwo c bl x y=true):∃ b p q,c.callee=.builtin b∧bl b=true∧c.args.toList=[p,q]∧chkOpd p x=true∧chkOpd q y=true:=by
 unfold isTwo at h
 split at h
 ·rename_i b a b' hcal hargs
  simp only [Bool.and_eq_true] at h
  exact ⟨b,a,b',hcal,h.1.1,hargs,h.1.2,h.2⟩
 ·cases h
set_option maxHeartbeats 4000000 in
theorem op_sound {x:AOp} (hgl:W0Ok P w0) (hr:Rel n base w0 G st a w) (he:ERun (eff P (getL st.slots) x) st.heap v ws rs) (hc:chkOp P o.op x=true):Goes P n base w0 w st a o r v ws:=by
 cases x with
 | mov y =>
  cases hop:o.op <;> rw [hop] at hc <;> simp only [chkOp,chkCall] at hc <;> try (cases hc; done)
  ·obtain ⟨rfl,rfl,rfl⟩:=he; exact go_mov hr (.inl hop) hc
  ·obtain ⟨rfl,rfl,rfl⟩:=he; exact go_mov hr (.inr hop) hc
 | pick c x y =>
  cases hop:o.op <;> rw [hop] at hc <;> simp only [chkOp,chkCall] at hc <;> try (cases hc; done)
  ·simp only [Bool.and_eq_true] at hc; exact go_pick hr hop hc.1.1 hc.1.2 hc.2 he
 | alloc id cs =>
  cases hop:o.op <;> rw [hop] at hc <;> simp only [chkOp,chkCall] at hc <;> try (cases hc; done)
  ·exact go_alloc hr hop hc he
 | s2a k y =>
  cases hop:o.op <;> rw [hop] at hc <;> simp only [chkOp,chkCall] at hc <;> try (cases hc; done)
  ·simp only [Bool.and_eq_true] at hc
   obtain ⟨h1,h2⟩:=hc
   split at h1
   ·rename_i k' e' hu
    simp only [Bool.and_eq_true] at h1
    have e:=nbeq h1.1
    subst e
    exact go_s2a hr hop hu (by simpa [Nat.ble_eq] using h1.2) h2 he
   ·cases h1
 | aps id e x y =>
  cases hop:o.op <;> rw [hop] at hc <;> simp only [chkOp,chkCall] at hc <;> try (cases hc; done)
  simp only [Bool.and_eq_true] at hc
  obtain ⟨h0,h6⟩:=hc
  obtain ⟨b,p,q,h1,h2,h3,h4,h5⟩:=isTwo_spec h0
  have hb:b=.append:=by split at h2 <;> simp_all
  subst hb
  unfold apsT at h6
  split at h6
  ·rename_i t1 t2 hts
   simp only [Bool.and_eq_true] at h6
   obtain ⟨⟨⟨h7,h10⟩,h11⟩,h13⟩:=h6
   split at h7
   ·rename_i e' hu1 hu2
    have e1:=nbeq h7
    subst e1
    obtain ⟨i,td,hi,hsz,_⟩:=sizeIs_spec h10
    obtain ⟨i'',h18,h19⟩:=infoOf (p:=fun i=>Nat.beq i.bytes 1) h11
    rw [hi] at h18; cases h18
    rw [hi] at h13
    dsimp only at h13
    split at h13
    ·rename_i hz
     exact go_aps hr hop h1 h3 hts hu1 hu2 hi hz hsz (nbeq h19) h4 h5 he
    ·cases h13
   ·cases h7
  ·cases h6
 | usd x =>
  cases hop:o.op <;> rw [hop] at hc <;> simp only [chkOp,chkCall] at hc <;> try (cases hc; done)
  unfold usdT at hc
  split at hc
  ·rename_i h1 h2
   exact go_usd hr hop h1 h2 hc he
  ·cases hc
 | ust e x y =>
  cases hop:o.op <;> rw [hop] at hc <;> simp only [chkOp,chkCall] at hc <;> try (cases hc; done)
  unfold ustT at hc
  split at hc
  ·rename_i h1 h2 h3
   simp only [Bool.and_eq_true] at hc
   obtain ⟨⟨h4,h5⟩,h6⟩:=hc
   split at h6
   ·rename_i e' hp
    simp only [Bool.and_eq_true] at h6
    have e1:=nbeq h6.2
    subst e1
    exact go_ust hr hop h1 h2 h3 hp (nbeq h6.1) h4 h5 he
   ·cases h6
  ·cases hc
 | alt id t cs =>
  cases hop:o.op <;> rw [hop] at hc <;> simp only [chkOp,chkCall] at hc <;> try (cases hc; done)
  ·simp only [Bool.and_eq_true] at hc
   have e:=nbeq hc.1
   subst e
   exact go_alt hr hop hc.2 he
 | box id k x =>
  cases hop:o.op <;> rw [hop] at hc <;> simp only [chkOp,chkCall] at hc <;> try (cases hc; done)
  ·simp only [Bool.and_eq_true] at hc; exact go_box hr hop hc.2 he
 | ld ag k x =>
  cases hop:o.op <;> rw [hop] at hc <;> simp only [chkOp,chkCall] at hc <;> try (cases hc; done)
  ·simp only [Bool.and_eq_true,beq_iff_eq] at hc; exact go_ld hgl hr hop hc.1.1 hc.1.2 hc.2 he
 | st k x y =>
  cases hop:o.op <;> rw [hop] at hc <;> simp only [chkOp,chkCall] at hc <;> try (cases hc; done)
  ·simp only [Bool.and_eq_true] at hc; exact go_st hr hop hc.1.1 hc.1.2 hc.2 he
 | arith op k x y =>
  cases hop:o.op <;> rw [hop] at hc <;> simp only [chkOp,chkCall] at hc <;> try (cases hc; done)
  ·simp only [Bool.and_eq_true] at hc; exact go_arith hr hop hc.1.1.1 hc.1.2 hc.2 he
 | cmp op x y =>
  cases hop:o.op <;> rw [hop] at hc <;> simp only [chkOp,chkCall] at hc <;> try (cases hc; done)
  ·simp only [Bool.and_eq_true] at hc; exact go_cmp hr hop hc.1.1.1 hc.1.2 hc.2 he
 | beq neg x y =>
  cases hop:o.op <;> rw [hop] at hc <;> simp only [chkOp,chkCall] at hc <;> try (cases hc; done)
  ·simp only [Bool.and_eq_true] at hc
   refine go_beq hr hop hc.1.1.1 ?_ hc.1.2 hc.2 he
   have:=hc.1.1.2
   unfold boolT at this
   split at this
   ·assumption
   ·cases this
 | seq neg x y =>
  cases hop:o.op <;> rw [hop] at hc <;> simp only [chkOp,chkCall] at hc <;> try (cases hc; done)
  ·simp only [Bool.and_eq_true] at hc; exact go_seq hr hop hc.1.1 hc.1.2 hc.2 he
 | slt op x y =>
  cases hop:o.op <;> rw [hop] at hc <;> simp only [chkOp,chkCall] at hc <;> try (cases hc; done)
  ·simp only [Bool.and_eq_true] at hc; exact go_slt hr hop hc.1.1 hc.1.2 hc.2 he
 | cat x y =>
  cases hop:o.op with
  | binOp op t p q u =>
   rw [hop] at hc
   cases op <;> simp only [chkOp,chkCall] at hc <;> try (cases hc; done)
   simp only [Bool.and_eq_true] at hc; exact go_cat hr hop hc.1.2 hc.2 he
  | _=>rw [hop] at hc; simp [chkOp,chkCall] at hc
 | not x =>
  cases hop:o.op with
  | unOp op t p =>
   rw [hop] at hc
   cases op <;> simp only [chkOp,chkCall] at hc <;> try (cases hc; done)
   exact go_not hr hop hc he
  | _=>rw [hop] at hc; simp [chkOp,chkCall] at hc
 | conv k x =>
  cases hop:o.op <;> rw [hop] at hc <;> simp only [chkOp,chkCall] at hc <;> try (cases hc; done)
  ·simp only [Bool.and_eq_true] at hc
   obtain ⟨⟨h1,h2⟩,h3⟩:=hc
   split at h1
   ·rename_i ks hks
    split at h2
    ·rename_i k' hk'
     simp at h2
     subst h2
     exact go_conv hr hop hks hk' h3 he
    ·cases h2
   ·cases h1
 | fad off x =>
  cases hop:o.op <;> rw [hop] at hc <;> simp only [chkOp,chkCall] at hc <;> try (cases hc; done)
  ·simp only [Bool.and_eq_true] at hc
   obtain ⟨h1,h2⟩:=hc
   unfold fadOk at h1
   split at h1
   ·rename_i fs h3
    split at h1
    ·rename_i f hf
     simp only [Bool.and_eq_true] at h1
     obtain ⟨ti,h5,h6⟩:=infoOf (p:=fun i=>!Nat.beq i.size 0) h1.2
     exact go_fad hr hop h3 hf (nbeq h1.1) h5 (nbeq_f h6) h2 he
    ·cases h1
   ·cases h1
 | fld ag off k x =>
  cases hop:o.op <;> rw [hop] at hc <;> simp only [chkOp,chkCall] at hc <;> try (cases hc; done)
  ·simp only [Bool.and_eq_true] at hc
   obtain ⟨h1,h2⟩:=hc
   unfold fldOk at h1
   split at h1
   ·rename_i fs h3
    split at h1
    ·rename_i f hf
     simp only [Bool.and_eq_true,beq_iff_eq] at h1
     exact go_fld hr hop h3 hf (nbeq h1.1.1) h1.1.2 h1.2 h2 he
    ·cases h1
   ·cases h1
 | ixa sz x i =>
  cases hop:o.op <;> rw [hop] at hc <;> simp only [chkOp,chkCall] at hc <;> try (cases hc; done)
  ·simp only [Bool.and_eq_true] at hc
   obtain ⟨e,h1,h2⟩:=sliceOf (p:=fun e=>sizeIs P e sz) hc.1.1
   exact go_ixa hr hop h1 h2 hc.1.2 hc.2 he
 | ixp len sz x i =>
  cases hop:o.op <;> rw [hop] at hc <;> simp only [chkOp,chkCall] at hc <;> try (cases hc; done)
  ·simp only [Bool.and_eq_true] at hc
   obtain ⟨l,e,h1,h2⟩:=arrayOf (p:=fun l e=>Nat.beq l len&&sizeIs P e sz) hc.1.1
   simp only [Bool.and_eq_true] at h2
   rw [nbeq h2.1] at h1
   exact go_ixp hr hop h1 h2.2 hc.1.2 hc.2 he
 | ixv ag len sz x i =>
  cases hop:o.op <;> rw [hop] at hc <;> simp only [chkOp,chkCall] at hc <;> try (cases hc; done)
  ·simp only [Bool.and_eq_true] at hc
   obtain ⟨l,e,h1,h2⟩:=arrayOf (p:=fun l e=>Nat.beq l len&&sizeIs P e sz&&(isAggT P e==ag)) hc.1.1
   simp only [Bool.and_eq_true,beq_iff_eq] at h2
   rw [nbeq h2.1.1] at h1
   exact go_ixv hr hop h1 h2.1.2 h2.2 hc.1.2 hc.2 he
 | ixs x i =>
  cases hop:o.op <;> rw [hop] at hc <;> simp only [chkOp,chkCall] at hc <;> try (cases hc; done)
  ·simp only [Bool.and_eq_true] at hc
   exact go_ixs hr hop (stringOf hc.1.1) hc.1.2 hc.2 he
 | build zero parts =>
  cases hop:o.op <;> rw [hop] at hc <;> simp only [chkOp,chkCall] at hc <;> try (cases hc; done)
  ·simp only [Bool.and_eq_true] at hc
   exact go_build hr hop hc.1.1.1 hc.1.2 hc.2 hc.1.1.2 he
 | bsl id t sz k zero parts =>
  cases hop:o.op <;> rw [hop] at hc <;> simp only [chkOp,chkCall] at hc <;> try (cases hc; done)
  ·simp only [Bool.and_eq_true] at hc
   obtain ⟨⟨⟨⟨⟨h1,h2⟩,h3⟩,h4⟩,h5⟩,h6⟩:=hc
   obtain ⟨e,h7,h8⟩:=sliceOf (p:=fun e'=>Nat.beq e' t&&sizeIs P t sz&&!Nat.beq sz 0) h1
   simp only [Bool.and_eq_true] at h8
   obtain ⟨⟨h9,h10⟩,h11⟩:=h8
   rw [nbeq h9] at h7
   obtain ⟨i,td,hi,hsz,_⟩:=sizeIs_spec h10
   have h12:=nbeq_f h11
   refine go_bsl (z:=(i.zero).getD undef) hr hop h7 hi hsz (by omega) (nbeq h2) (nbeq h3) (Nat.le_of_ble_eq_true h4) ?_ h6 he
   by_cases hk:k=0
   ·exact .inl hk
   ·right
    cases zero with
    | nil=>simp at h3; omega
    | cons d ds =>
     rcases Bool.or_eq_true_iff.1 h5 with h5 | h5
     ·have h13:=h5
      simp only [zerosOk,Bool.and_eq_true] at h13
      obtain ⟨i',z',h14,h15,_,h16⟩:=zeroOk_spec h13.1.1.1
      rw [hi] at h14; cases h14
      exact ⟨by simp [h15],by simp [h15,h16,hsz],.inl h5⟩
     ·simp only [Bool.and_eq_true] at h5
      obtain ⟨⟨p1,p2⟩,p3⟩:=h5
      unfold zeroSz at p3
      rw [hi] at p3
      dsimp only at p3
      split at p3
      ·rename_i z' hz'
       refine ⟨by simp [hz'],by simp [hz']; exact nbeq p3,.inr ⟨nbeq p1,?_⟩⟩
       unfold one0 at p2
       split at p2
       ·rename_i y
        exact ⟨y,rfl⟩
       ·cases p2
      ·cases p3
 | msl id t sz bytes zero x =>
  cases hop:o.op <;> rw [hop] at hc <;> simp only [chkOp,chkCall] at hc <;> try (cases hc; done)
  ·simp only [Bool.and_eq_true] at hc
   obtain ⟨⟨⟨h1,h2⟩,h3⟩,h4⟩:=hc
   obtain ⟨e,h7,h8⟩:=sliceOf (p:=fun e'=>Nat.beq e' t&&sizeIs P t sz&&bytesIs P t bytes&&!Nat.beq sz 0) h1
   simp only [Bool.and_eq_true] at h8
   obtain ⟨⟨⟨h9,h10⟩,h17⟩,h11⟩:=h8
   rw [nbeq h9] at h7
   obtain ⟨i,td,hi,hsz,_⟩:=sizeIs_spec h10
   have h12:=nbeq_f h11
   have h13:=h2
   simp only [zerosOk,Bool.and_eq_true] at h13
   obtain ⟨i',z',h14,h15,_,h16⟩:=zeroOk_spec h13.1.1.1
   rw [hi] at h14; cases h14
   obtain ⟨i'',h18,h19⟩:=infoOf (p:=fun i=>Nat.beq i.bytes bytes) h17
   rw [hi] at h18; cases h18
   exact go_msl hr hop h7 hi h15 hsz (nbeq h19) (by omega) (by omega) h2 h3 h4 he
 | mk0 id t sz bytes c =>
  cases hop:o.op <;> rw [hop] at hc <;> simp only [chkOp,chkCall] at hc <;> try (cases hc; done)
  ·simp only [Bool.and_eq_true] at hc
   obtain ⟨⟨⟨h1,h2⟩,h3⟩,h4⟩:=hc
   obtain ⟨e,h7,h8⟩:=sliceOf (p:=fun e'=>Nat.beq e' t&&sizeIs P t sz&&bytesIs P t bytes&&!Nat.beq sz 0) h1
   simp only [Bool.and_eq_true] at h8
   obtain ⟨⟨⟨h9,h10⟩,h17⟩,h11⟩:=h8
   rw [nbeq h9] at h7
   obtain ⟨i,td,hi,hsz,_⟩:=sizeIs_spec h10
   have h12:=nbeq_f h11
   obtain ⟨i',z',h14,h15⟩:=zeroes0_spec h2
   rw [hi] at h14; cases h14
   obtain ⟨i'',h18,h19⟩:=infoOf (p:=fun i=>Nat.beq i.bytes bytes) h17
   rw [hi] at h18; cases h18
   exact go_mk0 hr hop h7 hi h15 hsz (nbeq h19) (by omega) h3 h4 he
 | mkb id t k bytes z x =>
  cases hop:o.op <;> rw [hop] at hc <;> simp only [chkOp,chkCall] at hc <;> try (cases hc; done)
  ·simp only [Bool.and_eq_true] at hc
   obtain ⟨⟨⟨h1,h2⟩,h3⟩,h4⟩:=hc
   obtain ⟨e,h7,h8⟩:=sliceOf (p:=fun e'=>Nat.beq e' t&&sizeIs P t 1&&bytesIs P t bytes&&Nat.ble 1 k) h1
   simp only [Bool.and_eq_true] at h8
   obtain ⟨⟨⟨h9,h10⟩,h17⟩,h11⟩:=h8
   rw [nbeq h9] at h7
   obtain ⟨i,td,hi,hsz,_⟩:=sizeIs_spec h10
   obtain ⟨i',z',h14,h15,h16,_⟩:=zeroOk_spec h2
   rw [hi] at h14; cases h14
   obtain ⟨i'',h18,h19⟩:=infoOf (p:=fun i=>Nat.beq i.bytes bytes) h17
   rw [hi] at h18; cases h18
   exact go_mkb hr hop h7 hi h15 hsz (nbeq h19) h16 h3 h4 he
 | mkf f first caps =>
  cases hop:o.op <;> rw [hop] at hc <;> simp only [chkOp,chkCall] at hc <;> try (cases hc; done)
  ·simp only [Bool.and_eq_true,beq_iff_eq] at hc
   obtain ⟨⟨rfl,h1⟩,h2⟩:=hc
   exact go_mkf hr hop h1 h2 he
 | ext i x =>
  cases hop:o.op <;> rw [hop] at hc <;> simp only [chkOp,chkCall] at hc <;> try (cases hc; done)
  ·simp only [Bool.and_eq_true] at hc
   have:=nbeq hc.1
   subst this
   exact go_ext hr hop hc.2 he
 | slc sz x lo hi =>
  cases hop:o.op with
  | slice t p l h m =>
   rw [hop] at hc
   cases m <;> simp only [chkOp,chkCall] at hc <;> try (cases hc; done)
   simp only [Bool.and_eq_true] at hc
   obtain ⟨e,h1,h2⟩:=sliceOf (p:=fun e=>sizeIs P e sz) hc.1.1.1
   exact go_slc hr hop h1 h2 hc.1.1.2 hc.1.2 hc.2 he
  | _=>rw [hop] at hc; simp [chkOp,chkCall] at hc
 | slw sz x lo hi =>
  cases hop:o.op with
  | slice t p l h m =>
   rw [hop] at hc
   cases m <;> simp only [chkOp,chkCall] at hc <;> try (cases hc; done)
   simp only [Bool.and_eq_true] at hc
   obtain ⟨e,h1,h2⟩:=sliceOf (p:=fun e=>sizeIs P e sz) hc.1.1.1
   exact go_slw hr hop h1 h2 hc.1.1.2 hc.1.2 hc.2 he
  | _=>rw [hop] at hc; simp [chkOp,chkCall] at hc
 | slm sz x lo hi mx =>
  cases hop:o.op with
  | slice t p l h m =>
   rw [hop] at hc
   cases m <;> cases l <;> cases h <;> simp only [chkOp,chkCall,chkOpt,Bool.and_false,Bool.false_and] at hc <;> try (cases hc; done)
   simp only [Bool.and_eq_true] at hc
   obtain ⟨e,h1,h2⟩:=sliceOf (p:=fun e=>sizeIs P e sz) hc.1.1.1.1
   exact go_slm hr hop h1 h2 hc.1.1.1.2 hc.1.1.2 hc.1.2 hc.2 he
  | _=>rw [hop] at hc; simp [chkOp,chkCall] at hc
 | lenw x =>
  cases hop:o.op <;> rw [hop] at hc <;> simp only [chkOp,chkCall] at hc <;> try (cases hc; done)
  obtain ⟨y,t,h1,h2,h3,h4,h5⟩:=isLen_spec hc
  unfold sliceT at h4
  split at h4
  ·rename_i e he'
   exact go_lenw hr hop h1 h2 h3 he' h5 he
  ·cases h4
 | appw sz x y =>
  cases hop:o.op <;> rw [hop] at hc <;> simp only [chkOp,chkCall] at hc <;> try (cases hc; done)
  simp only [Bool.and_eq_true] at hc
  obtain ⟨h0,h6⟩:=hc
  obtain ⟨b,p,q,h1,h2,h3,h4,h5⟩:=isTwo_spec h0
  have hb:b=.append:=by split at h2 <;> simp_all
  subst hb
  unfold appW at h6
  split at h6
  ·rename_i t1 t2 hts
   simp only [Bool.and_eq_true] at h6
   have:=nbeq h6.1
   subst this
   obtain ⟨e,h7,h8⟩:=sliceOf (p:=fun e=>sizeIs P e sz) h6.2
   exact go_appw hr hop h1 h3 hts h7 h8 h4 h5 he
  ·cases h6
 | clrw sz z x =>
  cases hop:o.op <;> rw [hop] at hc <;> simp only [chkOp,chkCall] at hc <;> try (cases hc; done)
  unfold isClear at hc
  split at hc
  ·rename_i p t hcal hargs ht
   simp only [Bool.and_eq_true] at hc
   obtain ⟨h1,h3⟩:=hc
   split at h3
   ·rename_i e hu
    simp only [Bool.and_eq_true] at h3
    obtain ⟨⟨h4,h5⟩,h6⟩:=h3
    obtain ⟨i,td,hi,hsz,_⟩:=sizeIs_spec h4
    have h13:=h6
    simp only [zerosOk,Bool.and_eq_true] at h13
    obtain ⟨i',z',h14,h15,_,h16⟩:=zeroOk_spec h13.1.1.1
    rw [hi] at h14; cases h14
    exact go_clrw hr hop hcal hargs ht hu hi h15 hsz (by omega) h6 h1 he
   ·cases h3
  ·cases hc
 | slcs x lo hi =>
  cases hop:o.op with
  | slice t p l h m =>
   rw [hop] at hc
   cases m <;> simp only [chkOp,chkCall] at hc <;> try (cases hc; done)
   simp only [Bool.and_eq_true] at hc
   exact go_slcs hr hop (stringOf hc.1.1.1) hc.1.1.2 hc.1.2 hc.2 he
  | _=>rw [hop] at hc; simp [chkOp,chkCall] at hc
 | nck x =>
  cases hop:o.op <;> rw [hop] at hc <;> simp only [chkOp,chkCall] at hc <;> try (cases hc; done)
  ·exact go_nck hr hop hc he
 | len x =>
  cases hop:o.op <;> rw [hop] at hc <;> simp only [chkOp,chkCall] at hc <;> try (cases hc; done)
  obtain ⟨y,t,h1,h2,h3,h4,h5⟩:=isLen_spec hc
  unfold sliceT at h4
  split at h4
  ·rename_i e he'
   exact go_len hr hop h1 h2 h3 he' h5 he
  ·cases h4
 | lens x =>
  cases hop:o.op <;> rw [hop] at hc <;> simp only [chkOp,chkCall] at hc <;> try (cases hc; done)
  obtain ⟨y,t,h1,h2,h3,h4,h5⟩:=isLen_spec hc
  unfold stringT at h4
  split at h4
  ·rename_i he'
   exact go_lens hr hop h1 h2 h3 he' h5 he
  ·cases h4
 | app id t sz bytes x y =>
  cases hop:o.op <;> rw [hop] at hc <;> simp only [chkOp,chkCall] at hc <;> try (cases hc; done)
  simp only [Bool.and_eq_true] at hc
  obtain ⟨h0,h6⟩:=hc
  obtain ⟨b,p,q,h1,h2,h3,h4,h5⟩:=isTwo_spec h0
  have hb:b=.append:=by split at h2 <;> simp_all
  subst hb
  unfold appT at h6
  split at h6
  ·rename_i t1 t2 hts
   simp only [Bool.and_eq_true] at h6
   have:=nbeq h6.1
   subst this
   obtain ⟨e,h7,h8⟩:=sliceOf (p:=fun e'=>Nat.beq e' t&&sizeIs P t sz&&bytesIs P t bytes&&!Nat.beq sz 0&&zeroSize P t sz) h6.2
   simp only [Bool.and_eq_true] at h8
   obtain ⟨⟨⟨⟨h9,h10⟩,h11⟩,h12⟩,h13⟩:=h8
   rw [nbeq h9] at h7
   obtain ⟨i,td,hi,hsz,_⟩:=sizeIs_spec h10
   obtain ⟨i'',h18,h19⟩:=infoOf (p:=fun i=>Nat.beq i.bytes bytes) h11
   rw [hi] at h18; cases h18
   unfold zeroSize at h13
   rw [hi] at h13
   simp only at h13
   split at h13
   ·rename_i z hz
    have:=nbeq_f h12
    exact go_app hr hop h1 h3 hts h7 hi hz hsz (nbeq h19) (nbeq h13) (by omega) h4 h5 he
   ·cases h13
  ·cases h6
 | appz id t sz bytes zero x y =>
  cases hop:o.op <;> rw [hop] at hc <;> simp only [chkOp,chkCall] at hc <;> try (cases hc; done)
  simp only [Bool.and_eq_true] at hc
  obtain ⟨h0,h6⟩:=hc
  obtain ⟨b,p,q,h1,h2,h3,h4,h5⟩:=isTwo_spec h0
  have hb:b=.append:=by split at h2 <;> simp_all
  subst hb
  unfold appZT at h6
  split at h6
  ·rename_i t1 t2 hts
   simp only [Bool.and_eq_true] at h6
   obtain ⟨h61,h62⟩:=h6
   obtain ⟨e,h7,h8⟩:=sliceOf (p:=fun e'=>Nat.beq e' t&&sizeIs P t sz&&bytesIs P t bytes&&!Nat.beq sz 0&&zeroSize P t sz&&zerosOk P t sz [zero]) h61
   simp only [Bool.and_eq_true] at h8
   obtain ⟨⟨⟨⟨⟨h9,h10⟩,h11⟩,h12⟩,h13⟩,h20⟩:=h8
   rw [nbeq h9] at h7
   obtain ⟨i,td,hi,hsz,_⟩:=sizeIs_spec h10
   obtain ⟨i'',h18,h19⟩:=infoOf (p:=fun i=>Nat.beq i.bytes bytes) h11
   rw [hi] at h18; cases h18
   unfold zeroSize at h13
   rw [hi] at h13
   simp only at h13
   split at h62
   ·rename_i kn htn
    split at h13
    ·rename_i z hz
     have:=nbeq_f h12
     exact go_appz hr hop h1 h3 hts h7 htn hi hz hsz (nbeq h19) (nbeq h13) (by omega) h20 h4 h5 he
    ·cases h13
   ·cases h62
  ·cases h6
 | mini x y =>
  cases hop:o.op <;> rw [hop] at hc <;> simp only [chkOp,chkCall] at hc <;> try (cases hc; done)
  obtain ⟨b,p,q,h1,h2,h3,h4,h5⟩:=isTwo_spec hc
  have hb:b=.min:=by split at h2 <;> simp_all
  subst hb
  exact go_mini hr hop h1 h3 h4 h5 he
 | maxi x y =>
  cases hop:o.op <;> rw [hop] at hc <;> simp only [chkOp,chkCall] at hc <;> try (cases hc; done)
  obtain ⟨b,p,q,h1,h2,h3,h4,h5⟩:=isTwo_spec hc
  have hb:b=.max:=by split at h2 <;> simp_all
  subst hb
  exact go_maxi hr hop h1 h3 h4 h5 he
 | call f args =>
  cases hop:o.op <;> rw [hop] at hc <;> simp only [chkOp,chkCall] at hc <;> try (cases hc; done)
  split at hc
  ·rename_i fo hcal
   simp only [Bool.and_eq_true] at hc
   exact go_call hgl hr hop hcal hc.1 hc.2 he
  ·cases hc
 | callv f args =>
  cases hop:o.op <;> rw [hop] at hc <;> simp only [chkOp,chkCall] at hc <;> try (cases hc; done)
  split at hc
  ·rename_i fo hcal
   simp only [Bool.and_eq_true] at hc
   exact go_callv hgl hr hop hcal hc.1 hc.2 he
  ·cases hc
 | calli f args =>
  cases hop:o.op <;> rw [hop] at hc <;> simp only [chkOp,chkCall] at hc <;> try (cases hc; done)
  split at hc
  ·rename_i fo hcal
   simp only [Bool.and_eq_true] at hc
   exact go_calli hgl hr hop hcal hc.1 hc.2 he
  ·cases hc
 | calln rid t sz f args =>
  cases hop:o.op <;> rw [hop] at hc <;> simp only [chkOp,chkCall] at hc <;> try (cases hc; done)
  split at hc
  ·rename_i fo hcal
   simp only [Bool.and_eq_true] at hc
   exact go_calln hgl hr hop hcal hc.1 hc.2 he
  ·cases hc
 | callx ids f args =>
  cases hop:o.op <;> rw [hop] at hc <;> simp only [chkOp,chkCall] at hc <;> try (cases hc; done)
  split at hc
  ·rename_i fo hcal
   simp only [Bool.and_eq_true] at hc
   exact go_callx hgl hr hop hcal hc.1 hc.2 he
  ·cases hc
 | callvi f args =>
  cases hop:o.op <;> rw [hop] at hc <;> simp only [chkOp,chkCall] at hc <;> try (cases hc; done)
  split at hc
  ·rename_i fo hcal
   simp only [Bool.and_eq_true] at hc
   exact go_callvi hgl hr hop hcal hc.1 hc.2 he
  ·cases hc
 | mkr f a b =>
  cases hop:o.op <;> rw [hop] at hc <;> simp only [chkOp,chkCall] at hc <;> try (cases hc; done)
  simp only [Bool.and_eq_true,beq_iff_eq] at hc
  obtain ⟨⟨rfl,hc1⟩,hc2⟩:=hc
  exact go_mkr hr hop hc1 hc2 he
 | aeq neg ks x y =>
  cases hop:o.op <;> rw [hop] at hc <;> simp only [chkOp,chkCall] at hc <;> try (cases hc; done)
  simp only [Bool.and_eq_true] at hc
  exact go_aeq hr hop hc.1.1.1 hc.1.1.2 hc.1.2 hc.2 he
 | bit op k x y =>
  cases hop:o.op <;> rw [hop] at hc <;> simp only [chkOp,chkCall] at hc <;> try (cases hc; done)
  simp only [Bool.and_eq_true] at hc
  exact go_bit hr hop hc.1.1.1 hc.1.2 hc.2 he
 | shf op k x y =>
  cases hop:o.op <;> rw [hop] at hc <;> simp only [chkOp,chkCall] at hc <;> try (cases hc; done)
  simp only [Bool.and_eq_true] at hc
  exact go_shf hr hop hc.1.1.1.1 hc.1.2 hc.2 he
 | neg k x =>
  cases hop:o.op with
  | unOp u t p =>
   rw [hop] at hc
   cases u <;> simp only [chkOp,chkCall] at hc <;> try (cases hc; done)
   simp only [Bool.and_eq_true] at hc
   exact go_neg hr hop hc.2 he
  | _=>rw [hop] at hc; simp [chkOp,chkCall] at hc
 | isnil neg x =>
  cases hop:o.op <;> rw [hop] at hc <;> simp only [chkOp,chkCall] at hc <;> try (cases hc; done)
  simp only [Bool.and_eq_true] at hc
  obtain ⟨⟨⟨h1,h2⟩,h3⟩,h4⟩:=hc
  unfold sliceT at h2
  split at h2
  ·rename_i e hu
   exact go_isnil hr hop h1 hu h3 h4 he
  ·cases h2
 | b2s x =>
  cases hop:o.op <;> rw [hop] at hc <;> simp only [chkOp,chkCall] at hc <;> try (cases hc; done)
  simp only [Bool.and_eq_true] at hc
  obtain ⟨⟨h1,h2⟩,h3⟩:=hc
  unfold byteSliceT at h1
  split at h1
  ·rename_i e hu
   split at h1
   ·rename_i hu8
    unfold stringT at h2
    split at h2
    ·rename_i ht
     exact go_b2s hr hop hu hu8 ht h3 he
    ·cases h2
   ·cases h1
  ·cases h1
 | copy sz x y =>
  cases hop:o.op <;> rw [hop] at hc <;> simp only [chkOp,chkCall] at hc <;> try (cases hc; done)
  unfold isCopy at hc
  split at hc
  ·rename_i p q t hcal hargs ht
   simp only [Bool.and_eq_true] at hc
   obtain ⟨⟨h1,h2⟩,h3⟩:=hc
   split at h3
   ·rename_i e hu
    simp only [Bool.and_eq_true] at h3
    exact go_copy hr hop hcal hargs ht hu h3.1 h1 h2 he
   ·cases h3
  ·cases hc
 | copyw sz x y =>
  cases hop:o.op <;> rw [hop] at hc <;> simp only [chkOp,chkCall] at hc <;> try (cases hc; done)
  unfold isCopy at hc
  split at hc
  ·rename_i p q t hcal hargs ht
   simp only [Bool.and_eq_true] at hc
   obtain ⟨⟨h1,h2⟩,h3⟩:=hc
   split at h3
   ·rename_i e hu
    simp only [Bool.and_eq_true] at h3
    exact go_copyw hr hop hcal hargs ht hu h3.1 h1 h2 he
   ·cases h3
  ·cases hc
 | cbx id k x =>
  cases hop:o.op <;> rw [hop] at hc <;> simp only [chkOp,chkCall] at hc <;> try (cases hc; done)
  simp only [Bool.and_eq_true] at hc
  exact go_cbx hr hop hc.2 he
 | sla len x lo hi =>
  cases hop:o.op with
  | slice t p l h m =>
   rw [hop] at hc
   cases m <;> simp only [chkOp,chkCall] at hc <;> try (cases hc; done)
   simp only [Bool.and_eq_true] at hc
   obtain ⟨l',e,h1,h2⟩:=arrayOf (p:=fun l e=>Nat.beq l len&&sizeIs P e 1) hc.1.1.1
   simp only [Bool.and_eq_true] at h2
   rw [nbeq h2.1] at h1
   exact go_sla hr hop h1 h2.2 hc.1.1.2 hc.1.2 hc.2 he
  | _=>rw [hop] at hc; simp [chkOp,chkCall] at hc
 | slv len x lo hi =>
  cases hop:o.op with
  | slice t p l h m =>
   rw [hop] at hc
   cases m <;> simp only [chkOp,chkCall] at hc <;> try (cases hc; done)
   simp only [Bool.and_eq_true] at hc
   obtain ⟨l',e,h1,h2⟩:=arrayOf (p:=fun l e=>Nat.beq l len&&sizeIs P e 1) hc.1.1.1
   simp only [Bool.and_eq_true] at h2
   rw [nbeq h2.1] at h1
   exact go_slv hr hop h1 h2.2 hc.1.1.2 hc.1.2 hc.2 he
  | _=>rw [hop] at hc; simp [chkOp,chkCall] at hc
 | rng id x =>
  cases hop:o.op <;> rw [hop] at hc <;> simp only [chkOp,chkCall] at hc <;> try (cases hc; done)
  simp only [Bool.and_eq_true] at hc
  obtain ⟨h1,h2⟩:=hc
  unfold stringT at h1
  split at h1
  ·rename_i hu
   exact go_rng hr hop hu h2 he
  ·cases h1
 | nxt x =>
  cases hop:o.op with
  | next p b =>
   rw [hop] at hc
   cases b <;> simp only [chkOp,chkCall] at hc <;> try (cases hc; done)
   exact go_nxt hr hop hc he
  | _=>rw [hop] at hc; simp [chkOp,chkCall] at hc
 | i2s x =>
  cases hop:o.op <;> rw [hop] at hc <;> simp only [chkOp,chkCall] at hc <;> try (cases hc; done)
  simp only [Bool.and_eq_true] at hc
  obtain ⟨⟨h1,h2⟩,h3⟩:=hc
  unfold stringT at h2
  split at h2
  ·rename_i hu
   split at h1
   ·rename_i k hk
    exact go_i2s hr hop hk hu h3 he
   ·cases h1
  ·cases h2
 | mkm id =>
  cases hop:o.op with
  | makeMap t m =>
   rw [hop] at hc
   cases m <;> simp only [chkOp,chkCall] at hc <;> try (cases hc; done)
   exact go_mkm hr hop he
  | _=>rw [hop] at hc; simp [chkOp,chkCall] at hc
 | lkp ck zero comma x y =>
  cases hop:o.op <;> rw [hop] at hc <;> simp only [chkOp,chkCall] at hc <;> try (cases hc; done)
  simp only [Bool.and_eq_true,beq_iff_eq] at hc
  obtain ⟨⟨⟨h1,rfl⟩,h2⟩,h3⟩:=hc
  exact go_lkp hr hop h1 h2 h3 he
 | mpu ck x y z =>
  cases hop:o.op <;> rw [hop] at hc <;> simp only [chkOp,chkCall] at hc <;> try (cases hc; done)
  all_goals simp only [Bool.and_eq_true] at hc
  all_goals first | exact go_mpu hr hop hc.1.1.1 hc.1.1.2 hc.1.2 hc.2 he | exact go_ins hr hop hc.1.1.1 hc.1.1.2 hc.1.2 hc.2 he
 | lenm x =>
  cases hop:o.op <;> rw [hop] at hc <;> simp only [chkOp,chkCall] at hc <;> try (cases hc; done)
  obtain ⟨y,t,h1,h2,h3,h4,h5⟩:=isLen_spec hc
  unfold mapT at h4
  split at h4
  ·rename_i kt et hu
   exact go_lenm hr hop h1 h2 h3 hu h5 he
  ·cases h4
end
end Vc
