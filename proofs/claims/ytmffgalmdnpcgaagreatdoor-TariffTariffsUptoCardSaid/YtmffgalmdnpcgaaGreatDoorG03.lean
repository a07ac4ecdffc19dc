import Derived.Test.YtmffgalmdnpcgaaGreatDoorG02
import Derived.ChangeKeysEq
import Derived.Laws.StructEq
import Derived.Laws.BytesString
import Derived.RangeFuncRecord
import Derived.MapKept
import Derived.Maps.RangeRun
import Derived.WideKeyRuns
set_option linter.unusedSectionVars false
set_option linter.unusedVariables false
set_option linter.unusedSimpArgs false
set_option linter.unusedSimpArgs false
set_option linter.unusedVariables false
namespace Vc
open Go Go.RowKit
section
variable {P : Program} [Laid P] {n base : Nat} {w0 : W0} {w : World} {G : Gh} {st : St} {a : Act} {o : Oper} {r : Option Nat} {v : AVal} {ws : List (Nat × AObj)} {rs : List Nat}
theorem go_shf (hr : Rel n base w0 G st a w) {op op' : BinOp} {t t' : TypeId} {x y : Operand} {k : IntKind} {x' y' : Opd} (ho : o.op = .binOp op t x y t')
  (hop:shfOk op op'=true) (hx:chkOpd x x'=true) (hy:chkOpd y y'=true)
  (he:ERun (eff P (getL st.slots) (.shf op' k x' y')) st.heap v ws rs):Goes P n base w0 w st a o r v ws:=by
 have h1:=chkOpd_rel hr hx
 have h2:=chkOpd_rel hr hy
 simp only [eff] at he
 split at he
 ·rename_i k1 m1 k2 m2 e1 e2
  rw [e1] at h1; rw [e2] at h2
  have e3:=int_of h1
  have e4:=int_of h2
  obtain ⟨q,⟨rfl,hq⟩,rfl,rfl,rfl⟩:=he
  refine goes_value (by simp [ho]) (x:=.int k1 q) (w':=w) (G':=G) ?_ hr (by simp [VRel,DRel])
  simp only [execOp,ho,e3,e4]
  cases op <;> cases op' <;> simp [shfOk] at hop <;> simp only [shfF] at hq <;> split at hq <;> first | cases hq; done | (rename_i hz; cases hq; simp [eqGuard,binOp,Op.shift,hz])
 ·exact he.elim
theorem go_neg (hr : Rel n base w0 G st a w) {t : TypeId} {x : Operand} {k : IntKind} {x' : Opd} (ho : o.op = .unOp .neg t x) (hx : chkOpd x x' = true)
  (he:ERun (eff P (getL st.slots) (.neg k x')) st.heap v ws rs):Goes P n base w0 w st a o r v ws:=by
 have h1:=chkOpd_rel hr hx
 simp only [eff] at he
 split at he
 ·rename_i k1 m e1
  rw [e1] at h1
  obtain ⟨q,⟨rfl,hq⟩,rfl,rfl,rfl⟩:=he
  exact goes_value (by simp [ho]) (x:=.int k1 q) (w':=w) (G':=G) (by simp [execOp,ho,int_of h1,Op.unary,Op.intArith,← hq]) hr (by simp [VRel,DRel])
 ·exact he.elim
theorem eq_cell {t k : Nat} (hb : basicT P t k = true) {ks : List Nat} {x y : AVal} {xs ys : List AVal} {u u' : Value} {h : List AObj} {b : Bool} {d : Nat} (hx : VRel w G h x u) (hy : VRel w G h y u')
  (he:eqCells (k::ks) (x::xs) (y::ys)=some b):∃ b1 b2,b=(b1&&b2)∧eqCells ks xs ys=some b2∧(Op.equalIn (d+1) t u u').run P w=.ok b1 w:=by
 unfold basicT at hb
 unfold eqCells at he
 split at he
 ·rename_i h1 _ _; cases h1
 ·rename_i h1 h2 h3
  cases h1; cases h2; cases h3
  split at he
  ·rename_i r hk hr
   cases he
   have hk:=of_decide_eq_true hk
   subst hk
   rw [int_of hx,int_of hy]
   split at hb
   ·rename_i k' hu _
    exact ⟨_,r,rfl,hr,run_equalIn_int w d t _ k' _ _ hu⟩
   ·rename_i h9; cases h9
   ·rename_i h9; cases h9
   ·cases hb
  ·cases he
 ·rename_i h1 h2 h3
  cases h1; cases h2; cases h3
  split at he
  ·rename_i r hr
   cases he
   rw [bool_of hx,bool_of hy]
   split at hb
   ·rename_i h9; cases h9
   ·rename_i hu _
    exact ⟨_,r,rfl,hr,run_equalIn_bool' w d t _ _ hu⟩
   ·rename_i h9; cases h9
   ·cases hb
  ·cases he
 ·rename_i h1 h2 h3
  cases h1; cases h2; cases h3
  split at he
  ·rename_i r hr
   cases he
   rw [str_of hx,str_of hy]
   split at hb
   ·rename_i h9; cases h9
   ·rename_i h9; cases h9
   ·rename_i hu _
    refine ⟨_,r,rfl,hr,?_⟩
    rw [str,str,run_equalIn_string w d t _ _ hu]
    simp [ByteArray.toList_mk]
   ·cases hb
  ·cases he
 ·cases he
theorem basic_notAgg {t k:Nat} (hb:basicT P t k=true):isAggT P t=false∧∃ d,P.underlying t=some d:=by
 unfold basicT at hb
 unfold isAggT
 split at hb <;> simp_all
theorem run_part_basic {t k:Nat} (hb:basicT P t k=true) {cs:Array Value} {off:Nat} {u:Value} (hu:cs[off]?=some u):(part t cs off).run P w=.ok u w:=by
 obtain ⟨h1,d,h2⟩:=basic_notAgg hb
 simp [part,run_isAgg h2,h1,hu]
theorem eqFields_run {d : Nat} {us us' : Array Value} {h : List AObj} : ∀ {fs : List Field} {ks : List Nat} {i : Nat} {xs ys : List AVal} {b : Bool}, fieldsEq P fs ks i = true → VRels w G h xs (us.toList.drop i) → VRels w G h ys (us'.toList.drop i) →
  eqCells ks xs ys=some b→(Op.eqFields (d+1) us us' fs).run P w=.ok b w
 | [],[],i,xs,ys,b,hf,hx,hy,he=>by
  cases xs <;> cases ys <;> simp [eqCells] at he
  subst he
  simp [Op.eqFields]
 | [],_::_,i,xs,ys,b,hf,hx,hy,he=>by simp [fieldsEq] at hf
 | _::_,[],i,xs,ys,b,hf,hx,hy,he=>by simp [fieldsEq] at hf
 | f::fs,k::ks,i,xs,ys,b,hf,hx,hy,he=>by
  simp only [fieldsEq,Bool.and_eq_true,Bool.not_eq_true',beq_eq_false_iff_ne] at hf
  obtain ⟨⟨⟨hn,ho⟩,hb⟩,hrest⟩:=hf
  have ho:=Nat.eq_of_beq_eq_true ho
  match xs,ys with
  | [],_=>simp [eqCells] at he
  | _::_,[]=>simp [eqCells] at he
  | x::xs,y::ys =>
   obtain ⟨u,r1,e1,h1,h2⟩:=(by simpa only [VRels] using hx:∃ v r,us.toList.drop i=v::r∧VRel w G h x v∧VRels w G h xs r)
   obtain ⟨u',r2,e2,h3,h4⟩:=(by simpa only [VRels] using hy:∃ v r,us'.toList.drop i=v::r∧VRel w G h y v∧VRels w G h ys r)
   have g1:us[i]?=some u:=by rw [← Array.getElem?_toList,← Nat.add_zero i,← List.getElem?_drop,e1]; rfl
   have g2:us'[i]?=some u':=by rw [← Array.getElem?_toList,← Nat.add_zero i,← List.getElem?_drop,e2]; rfl
   have d1:r1=us.toList.drop (i+1):=by rw [← List.drop_drop,e1]; rfl
   have d2:r2=us'.toList.drop (i+1):=by rw [← List.drop_drop,e2]; rfl
   obtain ⟨b1,b2,rfl,h5,h6⟩:=eq_cell (d:=d) hb h1 h3 he
   have ih:=eqFields_run (d:=d) (us:=us) (us':=us') hrest (d1 ▸ h2) (d2 ▸ h4) h5
   rw [← ho] at g1 g2
   simp only [Op.eqFields,hn,ne_eq,not_false_eq_true,if_true,Sem.run_bind,run_part_basic hb g1,run_part_basic hb g2,Result.andThen_ok,h6]
   cases b1
   ·simp
   ·simpa using ih
theorem eqItems_run {d e : Nat} {us us' : Array Value} {h : List AObj} : ∀ {m : Nat} {ks : List Nat} {i : Nat} {xs ys : List AVal} {b : Bool}, ks.all (basicT P e) = true → ks.length = m → VRels w G h xs (us.toList.drop i) → VRels w G h ys (us'.toList.drop i) →
  eqCells ks xs ys=some b→(Op.eqItems (d+1) e 1 us us' (List.range' i m)).run P w=.ok b w
 | 0,[],i,xs,ys,b,hf,hm,hx,hy,he=>by
  cases xs <;> cases ys <;> simp [eqCells] at he
  subst he
  simp [Op.eqItems]
 | _+1,[],i,xs,ys,b,hf,hm,hx,hy,he=>by simp at hm
 | 0,_::_,i,xs,ys,b,hf,hm,hx,hy,he=>by simp at hm
 | m+1,k::ks,i,xs,ys,b,hf,hm,hx,hy,he=>by
  simp only [List.all_cons,Bool.and_eq_true] at hf
  obtain ⟨hb,hrest⟩:=hf
  match xs,ys with
  | [],_=>simp [eqCells] at he
  | _::_,[]=>simp [eqCells] at he
  | x::xs,y::ys =>
   obtain ⟨u,r1,e1,h1,h2⟩:=(by simpa only [VRels] using hx:∃ v r,us.toList.drop i=v::r∧VRel w G h x v∧VRels w G h xs r)
   obtain ⟨u',r2,e2,h3,h4⟩:=(by simpa only [VRels] using hy:∃ v r,us'.toList.drop i=v::r∧VRel w G h y v∧VRels w G h ys r)
   have g1:us[i]?=some u:=by rw [← Array.getElem?_toList,← Nat.add_zero i,← List.getElem?_drop,e1]; rfl
   have g2:us'[i]?=some u':=by rw [← Array.getElem?_toList,← Nat.add_zero i,← List.getElem?_drop,e2]; rfl
   have d1:r1=us.toList.drop (i+1):=by rw [← List.drop_drop,e1]; rfl
   have d2:r2=us'.toList.drop (i+1):=by rw [← List.drop_drop,e2]; rfl
   obtain ⟨b1,b2,rfl,h5,h6⟩:=eq_cell (d:=d) hb h1 h3 he
   have ih:=eqItems_run (d:=d) (us:=us) (us':=us') hrest (by simpa using hm) (d1 ▸ h2) (d2 ▸ h4) h5
   simp only [List.range'_succ,Op.eqItems,Nat.mul_one,Sem.run_bind,run_part_basic hb g1,run_part_basic hb g2,Result.andThen_ok,h6]
   cases b1
   ·simp
   ·simpa using ih
theorem eqCells_split : ∀ (m : Nat) {ks : List Nat} {xs ys : List AVal} {b : Bool}, m ≤ ks.length → eqCells ks xs ys = some b →
  ∃ b1 b2,b=(b1&&b2)∧eqCells (ks.take m) (xs.take m) (ys.take m)=some b1∧eqCells (ks.drop m) (xs.drop m) (ys.drop m)=some b2
 | 0,ks,xs,ys,b,_,h=>⟨true,b,by simp,by simp [eqCells],by simpa using h⟩
 | m+1,[],_,_,_,hm,_=>absurd hm (by simp)
 | m+1,k::ks,xs,ys,b,hm,h=>by
  unfold eqCells at h
  split at h
  ·rename_i h1; cases h1
  ·rename_i h1; cases h1
   split at h
   ·rename_i r hk hr
    cases h
    obtain ⟨b1,b2,e,e1,e2⟩:=eqCells_split m (by simpa using hm) hr
    refine ⟨_,b2,?_,by simp only [List.take_succ_cons,eqCells,hk,e1]; rfl,by simpa using e2⟩
    rw [e,Bool.and_assoc]
   ·cases h
  ·rename_i h1; cases h1
   split at h
   ·rename_i r hr
    cases h
    obtain ⟨b1,b2,e,e1,e2⟩:=eqCells_split m (by simpa using hm) hr
    refine ⟨_,b2,?_,by simp only [List.take_succ_cons,eqCells,e1]; rfl,by simpa using e2⟩
    rw [e,Bool.and_assoc]
   ·cases h
  ·rename_i h1; cases h1
   split at h
   ·rename_i r hr
    cases h
    obtain ⟨b1,b2,e,e1,e2⟩:=eqCells_split m (by simpa using hm) hr
    refine ⟨_,b2,?_,by simp only [List.take_succ_cons,eqCells,e1]; rfl,by simpa using e2⟩
    rw [e,Bool.and_assoc]
   ·cases h
  ·cases h
theorem part_agg {t:TypeId} {k off:Nat} (hs:sizeIs P t k=true) (ha:isAggT P t=true) (us:Array Value):(part t us off).run P w=.ok (.agg ((us.toList.drop off).take k).toArray) w:=by
 obtain ⟨i,d,hi,hk,hd⟩:=sizeIs_spec hs
 have h:=(run_part (P:=P) (w:=w) hi hd (off:=off) (vs:=us.toList) hk ha).1 rfl
 simpa using h
theorem eqFields_run2 {d : Nat} {us us' : Array Value} {h : List AObj} : ∀ {fs : List Field} {ks : List Nat} {i : Nat} {xs ys : List AVal} {b : Bool}, fieldsEq2 P fs ks i = true → VRels w G h xs (us.toList.drop i) → VRels w G h ys (us'.toList.drop i) →
  eqCells ks xs ys=some b→(Op.eqFields (d+2) us us' fs).run P w=.ok b w
 | [],[],i,xs,ys,b,hf,hx,hy,he=>by
  cases xs <;> cases ys <;> simp [eqCells] at he
  subst he
  simp [Op.eqFields]
 | [],_::_,i,xs,ys,b,hf,hx,hy,he=>by simp [fieldsEq2] at hf
 | f::fs,ks,i,xs,ys,b,hf,hx,hy,he=>by
  unfold fieldsEq2 at hf
  simp only [Bool.and_eq_true,Bool.not_eq_true',beq_eq_false_iff_ne] at hf
  obtain ⟨⟨hn,ho⟩,hf⟩:=hf
  have ho:=Nat.eq_of_beq_eq_true ho
  split at hf
  ·rename_i gs hu
   simp only [Bool.and_eq_true,Bool.not_eq_true'] at hf
   obtain ⟨⟨⟨⟨⟨hl,hg⟩,hsi⟩,hsz⟩,hag⟩,hrest⟩:=hf
   have hl:=Nat.le_of_ble_eq_true hl
   obtain ⟨b1,b2,rfl,e1,e2⟩:=eqCells_split gs.size hl he
   have p1:=part_agg (w:=w) hsz hag (off:=i) us
   have p2:=part_agg (w:=w) hsz hag (off:=i) us'
   have hfo:P.fieldsOf f.type=gs:=by simp [Program.fieldsOf,hu]
   have inner:=eqFields_run (w:=w) (G:=G) (d:=d) (h:=h) (us:=((us.toList.drop i).take gs.size).toArray) (us':=((us'.toList.drop i).take gs.size).toArray) hg
    (by simpa using VRels_take gs.size hx) (by simpa using VRels_take gs.size hy) e1
   have eq:=run_equalIn_struct (P:=P) w (d+1) f.type ((us.toList.drop i).take gs.size).toArray ((us'.toList.drop i).take gs.size).toArray (by rw [hfo]; exact hu) hsi
   rw [hfo,inner] at eq
   have ih:=eqFields_run2 (d:=d) (us:=us) (us':=us') hrest
    (by have:=VRels_drop gs.size hx; rwa [List.drop_drop] at this) (by have:=VRels_drop gs.size hy; rwa [List.drop_drop] at this) e2
   rw [← ho] at p1 p2
   have eq2:(Op.equalIn (d+2) f.type (.agg ((us.toList.drop f.offset).take gs.size).toArray) (.agg ((us'.toList.drop f.offset).take gs.size).toArray)).run P w=.ok b1 w:=by rw [ho]; exact eq
   simp only [Op.eqFields,hn,ne_eq,not_false_eq_true,if_true,Sem.run_bind,p1,p2,Result.andThen_ok,eq2]
   cases b1
   ·simp
   ·simpa using ih
  ·rename_i len e hu
   simp only [Bool.and_eq_true] at hf
   obtain ⟨⟨⟨⟨⟨hl,hg⟩,hse⟩,hsz⟩,hag⟩,hrest⟩:=hf
   have hl:=Nat.le_of_ble_eq_true hl
   obtain ⟨b1,b2,rfl,e1,e2⟩:=eqCells_split len hl he
   have p1:=part_agg (w:=w) hsz hag (off:=i) us
   have p2:=part_agg (w:=w) hsz hag (off:=i) us'
   obtain ⟨ie,td,hi,hsz1,_⟩:=sizeIs_spec hse
   have inner:=eqItems_run (w:=w) (G:=G) (d:=d) (h:=h) (us:=((us.toList.drop i).take len).toArray) (us':=((us'.toList.drop i).take len).toArray) (i:=0) (m:=len) hg (by rw [List.length_take]; omega)
    (by simpa using VRels_take len hx) (by simpa using VRels_take len hy) e1
   have eq:=run_equalIn_array (P:=P) w (d+1) ((us.toList.drop i).take len).toArray ((us'.toList.drop i).take len).toArray hu hi
   have hco:P.cellsOf e=1:=by simp [Program.cellsOf,hi,hsz1]
   rw [hco,List.range_eq_range',inner] at eq
   have ih:=eqFields_run2 (d:=d) (us:=us) (us':=us') hrest
    (by have:=VRels_drop len hx; rwa [List.drop_drop] at this) (by have:=VRels_drop len hy; rwa [List.drop_drop] at this) e2
   rw [← ho] at p1 p2
   have eq2:(Op.equalIn (d+2) f.type (.agg ((us.toList.drop f.offset).take len).toArray) (.agg ((us'.toList.drop f.offset).take len).toArray)).run P w=.ok b1 w:=by rw [ho]; exact eq
   simp only [Op.eqFields,hn,ne_eq,not_false_eq_true,if_true,Sem.run_bind,p1,p2,Result.andThen_ok,eq2]
   cases b1
   ·simp
   ·simpa using ih
  ·split at hf
   ·rename_i k ks _
    simp only [Bool.and_eq_true] at hf
    obtain ⟨hb,hrest⟩:=hf
    match xs,ys with
    | [],_=>simp [eqCells] at he
    | _::_,[]=>simp [eqCells] at he
    | x::xs,y::ys =>
     obtain ⟨u,r1,e1,h1,h2⟩:=(by simpa only [VRels] using hx:∃ v r,us.toList.drop i=v::r∧VRel w G h x v∧VRels w G h xs r)
     obtain ⟨u',r2,e2,h3,h4⟩:=(by simpa only [VRels] using hy:∃ v r,us'.toList.drop i=v::r∧VRel w G h y v∧VRels w G h ys r)
     have g1:us[i]?=some u:=by rw [← Array.getElem?_toList,← Nat.add_zero i,← List.getElem?_drop,e1]; rfl
     have g2:us'[i]?=some u':=by rw [← Array.getElem?_toList,← Nat.add_zero i,← List.getElem?_drop,e2]; rfl
     have d1:r1=us.toList.drop (i+1):=by rw [← List.drop_drop,e1]; rfl
     have d2:r2=us'.toList.drop (i+1):=by rw [← List.drop_drop,e2]; rfl
     obtain ⟨b1,b2,rfl,h5,h6⟩:=eq_cell (d:=d+1) hb h1 h3 he
     have ih:=eqFields_run2 (d:=d) (us:=us) (us':=us') hrest (d1 ▸ h2) (d2 ▸ h4) h5
     rw [← ho] at g1 g2
     simp only [Op.eqFields,hn,ne_eq,not_false_eq_true,if_true,Sem.run_bind,run_part_basic hb g1,run_part_basic hb g2,Result.andThen_ok,h6]
     cases b1
     ·simp
     ·simpa using ih
   ·cases hf
theorem go_aeq (hr : Rel n base w0 G st a w) {op : BinOp} {neg : Bool} {ks : List Nat} {t t' : TypeId} {x y : Operand} {x' y' : Opd} (ho : o.op = .binOp op t x y t')
  (hop:negOk op neg=true) (hq:eqOk P t ks=true) (hx:chkOpd x x'=true) (hy:chkOpd y y'=true)
  (he:ERun (eff P (getL st.slots) (.aeq neg ks x' y')) st.heap v ws rs):Goes P n base w0 w st a o r v ws:=by
 have h1:=chkOpd_rel hr hx
 have h2:=chkOpd_rel hr hy
 simp only [eff] at he
 split at he
 ·rename_i xs ys c1 c2
  obtain ⟨us,h3,e1,_⟩:=aggCells_of h1 c1
  obtain ⟨us',h4,e2,_⟩:=aggCells_of h2 c2
  obtain ⟨dd,⟨b,hb,rfl⟩,rfl,rfl,rfl⟩:=he
  simp only [eqOk,Bool.and_eq_true,Bool.not_eq_true'] at hq
  obtain ⟨hg,hq⟩:=hq
  have heq:(Op.equal t (.agg us.toArray) (.agg us'.toArray)).run P w=.ok b w:=by
   unfold Op.equal
   split at hq
   ·rename_i fs hu
    simp only [Bool.and_eq_true,Bool.not_eq_true'] at hq
    have hfo:P.fieldsOf t=fs:=by simp [Program.fieldsOf,hu]
    rw [show Op.maxDepth=9999+1 from rfl,run_equalIn_struct w 9999 t _ _ (by rw [hfo]; exact hu) hq.2,hfo]
    exact eqFields_run2 (d:=9997) hq.1 (by simpa using h3) (by simpa using h4) hb
   ·rename_i len e hu
    simp only [Bool.and_eq_true] at hq
    obtain ⟨i,td,hi,hsz,_⟩:=sizeIs_spec hq.2
    rw [show Op.maxDepth=9999+1 from rfl,run_equalIn_array w 9999 _ _ hu hi]
    have:P.cellsOf e=1:=by simp [Program.cellsOf,hi,hsz]
    rw [this,List.range_eq_range']
    exact eqItems_run (d:=9998) hq.1.2 (Nat.eq_of_beq_eq_true hq.1.1) (by simpa using h3) (by simpa using h4) hb
   ·cases hq
  refine goes_value (by simp [ho]) (x:=.bool (cond neg (!b) b)) (w':=w) (G':=G) ?_ hr (by simp [VRel,DRel])
  simp only [execOp,ho,e1,e2]
  cases op <;> cases neg <;> simp [negOk] at hop <;> simp [eqGuard,binOp,heq,hg]
 ·exact he.elim
end
end Vc
set_option linter.unusedSimpArgs false
set_option linter.unusedVariables false
namespace Vc
open Go Go.RowKit
section
variable {P : Program} [Laid P] {n base : Nat} {w0 : W0} {w : World} {G : Gh} {st : St} {a : Act} {o : Oper} {r : Option Nat} {v : AVal} {ws : List (Nat × AObj)} {rs : List Nat}
theorem notW_spec {id:Nat}:∀ {ws:List (Nat × AObj)} {h:List AObj},notW id ws=true→(applyW h ws)[id]?=h[id]?
 | [],h,_=>rfl
 | (i,o)::r,h,hn=>by
  simp only [notW,Bool.and_eq_true,Bool.not_eq_true'] at hn
  simp only [applyW]
  rw [notW_spec hn.2,List.getElem?_set_ne]
  intro e
  subst e
  simp [Nat.beq_refl] at hn
theorem take_write {α:Type} (l:List α) (p m:Nat) (vs:List α) (h:p+vs.length≤m) (hm:m≤l.length):(l.take p++vs++l.drop (p+vs.length)).take m=(l.take m).take p++vs++(l.take m).drop (p+vs.length):=by
 have h1:(l.take p).length=p:=by rw [List.length_take]; omega
 have e1:(l.take p).take m=l.take p:=List.take_of_length_le (by omega)
 have e2:(vs++l.drop (p+vs.length)).take (m - p)=vs++(l.drop (p+vs.length)).take (m - p - vs.length):=by
  rw [List.take_append,List.take_of_length_le (by omega)]
 have e3:(l.take m).take p=l.take p:=by rw [List.take_take,Nat.min_eq_left (by omega)]
 have e4:(l.take m).drop (p+vs.length)=(l.drop (p+vs.length)).take (m - p - vs.length):=by rw [List.drop_take,Nat.sub_sub]
 rw [List.append_assoc,List.take_append,h1,e1,e2,e3,e4,List.append_assoc]
theorem row_write (hr : Rel n base w0 G st a w) {id : Nat} {t : TypeId} {sz : Nat} {es es' : List Data} (ho : st.heap[id]? = some (.row t sz es false)) (hlen : es'.length = es.length)
  {g:Nat} {cap:Nat} (hv:G.val id=.slice (some ⟨g,0,none⟩) es.length cap) {p:Nat} {vs:List Value} (hfit:p+vs.length≤es.length * sz) (hone:∀ u∈vs,u.oneCell'=true)
  (hdx:∀ xs,xs.length=es.length * sz→DXs w G.S es sz xs→DXs w G.S es' sz (xs.take p++vs++xs.drop (p+vs.length))) :
  ∃ w' G',(storeCells ⟨g,p,none⟩ vs).run P w=.ok () w'∧Ext w G st.heap w' G' (st.heap.set id (.row t sz es' false))∧Rel n base w0 G' ⟨st.slots,st.heap.set id (.row t sz es' false)⟩ a w':=by
 obtain ⟨h0,xs,hown,hd⟩:=hr.objs id _ ho
 have hown':=hown
 rcases hown.2 with ⟨h9,h10⟩ | ⟨g',cap',cur,h9,h10,h11,h12,h13,h14,h15⟩
 ·rw [hv] at h9; cases h9
 ·rw [hv] at h9
  simp only [Value.slice.injEq,Option.some.injEq,Addr.mk.injEq,and_true,true_and] at h9
  obtain ⟨rfl,rfl⟩:=h9
  have hmul:es.length * sz≤cap * sz:=Nat.mul_le_mul_right _ h12
  have hrun:=run_storeCells_at P g p t vs 0 cur w h11 (by simp; omega) hone
  simp only [Nat.add_zero] at hrun
  have hc:cur.toList.length=cap * sz:=by simpa using h14
  have hx':((cur.toList.take p++vs++cur.toList.drop (p+vs.length)).take (es.length * sz))=xs.take p++vs++xs.drop (p+vs.length):=by
   rw [← h15]
   exact take_write cur.toList p (es.length * sz) vs hfit (by omega)
  have h:=hr.upd (o':=.row t sz es' false) (v':=G.val id) (S':=G.S) (row:=some g)
   (w':=w.setRow g (cur.toList.take p++vs++cur.toList.drop (p+vs.length)).toArray) ho (.inr ⟨by simp,by rw [hv]; rfl⟩) (fun _ _ h=>h) (fun _ _ h=>.inl h)
   ⟨rfl,rfl,rfl,by simp [World.setRow],fun k _ hk=>setRow_other w g k _ (fun e=>hk (by rw [e]))⟩
   (fun b1 off1 hS hb1=>by
    cases hb1
    exact absurd hS (hr.free id _ g off1 ho (by rw [hv]; rfl) (fun h=>by cases h)))
   (fun b1 hb1=>.inl ⟨by simp,hb1⟩) ⟨rfl,rfl,by omega,fun _=>rfl⟩
   (fun hx => ⟨h0, xs.take p ++ vs ++ xs.drop (p + vs.length), by
     rw [show (⟨G.S,upd G.val id (G.val id)⟩:Gh).val id=G.val id from upd_same _ _ _,hlen]
     refine ⟨by rw [← hx']; simp; omega,.inr ⟨g,cap,_,hv,h10,setRow_heap w g cur _ t _ h11,h12,h13,?_,by simpa using hx'⟩⟩
     simp
     omega,DXs_mono hx.keeps hx.seals es' (hdx xs hown.1 hd)⟩)
   (fun b1 off1 hb1 _ hS=>hr.free id _ b1 off1 ho hb1 (fun h=>by cases h) hS) (fun b1 off1 hS=>by have:=hr.lim b1 off1 hS; simpa [World.setRow] using this)
  exact ⟨_,_,hrun,h.1,h.2⟩
theorem DRels_len {S:Nat→Nat→Prop} {ds:List Data} {vs:List Value} (h:DRels w S ds vs):vs.length=ds.length:=DRels_length h
theorem DRels_append {S:Nat→Nat→Prop}:∀ {ds ds':List Data} {vs vs':List Value},DRels w S ds vs→DRels w S ds' vs'→DRels w S (ds++ds') (vs++vs')
 | [],ds',vs,vs',h,h'=>by simp only [DRels] at h; subst h; simpa using h'
 | d::ds,ds',vs,vs',h,h'=>by
  simp only [DRels] at h
  obtain ⟨v,r,rfl,h1,h2,h3⟩:=h
  simp only [List.cons_append,DRels]
  exact ⟨v,_,rfl,h1,h2,DRels_append h3 h'⟩
theorem DXs_elem {S : Nat → Nat → Prop} : ∀ {es : List Data} {sz : Nat} {xs : List Value} {i : Nat} {d : Data}, DXs w S es sz xs → es[i]? = some d →
  DRels w S d.cells ((xs.drop (i * sz)).take sz)∧i * sz+sz≤xs.length∧d.cells.length=sz
 | e::es,sz,xs,0,d,h,hd=>by
  simp at hd; subst hd
  simp only [DXs] at h
  obtain ⟨x,r,rfl,h1,h2,h3⟩:=h
  refine ⟨by simpa [h1] using h2,by simp [h1],by rw [← DRels_length h2,h1]⟩
 | e::es,sz,xs,i+1,d,h,hd=>by
  simp only [DXs] at h
  obtain ⟨x,r,rfl,h1,h2,h3⟩:=h
  obtain ⟨h4,h5,h6⟩:=DXs_elem (i:=i) h3 (by simpa using hd)
  have e1:(i+1) * sz=x.length+i * sz:=by rw [Nat.add_mul,h1]; omega
  refine ⟨?_,by rw [e1]; simp; omega,h6⟩
  rw [e1,← List.drop_drop]
  simpa using h4
 | [],_,_,_,_,_,hd=>by simp at hd
theorem go_st (hr : Rel n base w0 G st a w) {t : TypeId} {x y : Operand} {k : Nat} {x' y' : Opd} (ho : o.op = .store t x y) (hs : sizeIs P t k = true) (hx : chkOpd x x' = true) (hy : chkOpd y y' = true)
  (he:ERun (eff P (getL st.slots) (.st k x' y')) st.heap v ws rs):Goes P n base w0 w st a o r v ws:=by
 refine go_st_box hr ho hs hx hy (fun id m i off e1=>?_) he
 have h1:=chkOpd_rel hr hx
 have h2:=chkOpd_rel hr hy
 obtain ⟨ti,td,hti,rfl,htd⟩:=sizeIs_spec hs
 simp only [eff,e1] at he
 rw [e1] at h1
 obtain ⟨x1,fws,rs1,he,hf,hpv⟩:=pv_rel hr h2 he
 split at he
 ·rename_i yd hnw
  obtain ⟨ob,rs2,hob,rfl,he⟩:=he
  dsimp only at he
  split at he
  ·rename_i t1 sz es
   obtain ⟨d,d',⟨hm,hd,hyl,hoff,hag,hcs⟩,rfl,rfl,rfl⟩:=he
   obtain ⟨G1,hr1,hS,hval,hsl,_,hext⟩:=freeze_rel hr hf
   have hob1:(applyW st.heap fws)[id]?=some (.row t1 sz es false):=(notW_spec hnw).trans hob
   have h3:=hpv G1.S hS (by rw [← hval]; exact hsl) G1.val
   simp only [VRel] at h3
   have h4:=DRel_cells h3
   have hl4:(a.eval y).cells.toList.length=ti.size:=by rw [DRels_length h4,hyl]
   simp only [VRel] at h1
   obtain ⟨t2,sz2,es2,fz2,h5,h6,h7⟩:=h1
   rw [hob] at h5; cases h5
   obtain ⟨g,cap,h8,h9⟩:=h7 hm
   have hv1:G1.val id=.slice (some ⟨g,0,none⟩) es.length cap:=by rw [hval,h8,hm]
   have hobj1:=hr1.objs id _ hob1
   obtain ⟨hsz0,xs0,hown0,hdx0⟩:=hobj1
   obtain ⟨q1,q2,q3⟩:=DXs_elem hdx0 hd
   have hxl:=hown0.1
   have hone:∀ u∈(a.eval y).cells.toList,u.oneCell'=true:=DRels_one h4
   obtain ⟨w',G',h10,h11,h12⟩:=row_write (P:=P) hr1 (es':=es.set i d') hob1 (by simp) hv1 (p:=i * sz+off) (vs:=(a.eval y).cells.toList) (by omega) hone (fun xs hxs hdx=>by
    obtain ⟨p1,p2,p3⟩:=DXs_elem hdx hd
    have hnew:=DRels_append (DRels_append (DRels_take off p1) h4) (DRels_drop (off+ti.size) p1)
    rw [← hcs] at hnew
    have hset:=DXs_set (es:=es) (i:=i) (d:=d') hdx (by have:=(List.getElem?_eq_some_iff.1 hd).1; omega) (x:=((xs.drop (i * sz)).take sz).take off++(a.eval y).cells.toList++((xs.drop (i * sz)).take sz).drop (off+ti.size)) (by
     simp [hl4]; omega) hnew
    have heq : xs.take (i * sz) ++ (((xs.drop (i * sz)).take sz).take off ++ (a.eval y).cells.toList ++ ((xs.drop (i * sz)).take sz).drop (off + ti.size)) ++ xs.drop (i * sz + sz) =
      xs.take (i * sz+off)++(a.eval y).cells.toList++xs.drop (i * sz+off+(a.eval y).cells.toList.length):=by
     rw [hl4]
     have a1:((xs.drop (i * sz)).take sz).take off=(xs.drop (i * sz)).take off:=by rw [List.take_take,Nat.min_eq_left (by omega)]
     have a2:xs.take (i * sz+off)=xs.take (i * sz)++(xs.drop (i * sz)).take off:=by rw [List.take_add]
     have a3:xs.drop (i * sz+off+ti.size)=((xs.drop (i * sz)).take sz).drop (off+ti.size)++xs.drop (i * sz+sz):=by
      have:xs.drop (i * sz)=(xs.drop (i * sz)).take sz++xs.drop (i * sz+sz):=by rw [← List.drop_drop,List.take_append_drop]
      rw [show i * sz+off+ti.size=i * sz+(off+ti.size) by omega,← List.drop_drop]
      conv=>lhs; rw [this]
      rw [List.drop_append_of_le_length (by simp; omega)]
     rw [a1,a2,a3]
     simp
    rw [heq] at hset
    exact hset)
   refine goes_skip (by simp [ho]) (w':=w') (G':=G') ?_ (by rw [applyW_append]; exact h12)
   simp only [execOp,ho,Instr.storeAt,h9,Instr.sureAddr,storeVar]
   have hsz:(a.eval y).cells.size=ti.size:=by rw [← hl4]; simp
   simp only [Sem.run_bind,run_sizeOf hti,Result.andThen_ok,hsz,ne_eq,not_true_eq_false,if_false,h10,Sem.run_pure]
  ·exact he.elim
 ·exact he.elim
theorem DXs_take {S:Nat→Nat→Prop}:∀ {es:List Data} {sz:Nat} {xs:List Value} (k:Nat),DXs w S es sz xs→DXs w S (es.take k) sz (xs.take (k * sz))
 | es,sz,xs,0,_=>by simp [DXs]
 | [],sz,xs,k+1,h=>by simp only [DXs] at h; subst h; simp [DXs]
 | d::ds,sz,xs,k+1,h=>by
  simp only [DXs] at h
  obtain ⟨x,r,rfl,h1,h2,h3⟩:=h
  have e1:(k+1) * sz=x.length+k * sz:=by rw [Nat.add_mul,h1]; omega
  have e2:(x++r).take (x.length+k * sz)=x++r.take (k * sz):=by rw [List.take_append,Nat.add_sub_cancel_left,List.take_of_length_le (by omega)]
  rw [e1,e2]
  simp only [List.take_succ_cons,DXs]
  exact ⟨x,_,rfl,h1,h2,DXs_take k h3⟩
theorem DXs_drop {S:Nat→Nat→Prop}:∀ {es:List Data} {sz:Nat} {xs:List Value} (k:Nat),DXs w S es sz xs→DXs w S (es.drop k) sz (xs.drop (k * sz))
 | es,sz,xs,0,h=>by simpa using h
 | [],sz,xs,k+1,h=>by simp only [DXs] at h; subst h; simp [DXs]
 | d::ds,sz,xs,k+1,h=>by
  simp only [DXs] at h
  obtain ⟨x,r,rfl,h1,h2,h3⟩:=h
  have e1:(k+1) * sz=x.length+k * sz:=by rw [Nat.add_mul,h1]; omega
  rw [e1,← List.drop_drop]
  simpa using DXs_drop k h3
theorem go_isnil (hr : Rel n base w0 G st a w) {op : BinOp} {neg : Bool} {t t' e : TypeId} {x y : Operand} {x' : Opd} (ho : o.op = .binOp op t x y t')
  (hop:negOk op neg=true) (hu:P.underlying t=some (.slice e)) (hx:chkOpd x x'=true) (hy:isNilC y=true)
  (he:ERun (eff P (getL st.slots) (.isnil neg x')) st.heap v ws rs):Goes P n base w0 w st a o r v ws:=by
 have h1:=chkOpd_rel hr hx
 have hyv:a.eval y=.slice none 0 0:=by
  unfold isNilC at hy
  split at hy
  ·rfl
  ·cases hy
 have hg:P.eqGuardType P.depth t=false:=by
  have:P.depth=(2 * (P.types.size+Made.depth)+1)+1:=rfl
  rw [this]
  unfold Program.eqGuardType
  rw [hu]
 have hgen:∀ (ad:Option Addr) (len cap:Nat) (d:Nat),(Op.equalIn (d+1) t (.slice ad len cap) (.slice none 0 0)).run P w=.ok ad.isNone w:=by
  intro ad len cap d
  cases ad <;> simp [Op.equalIn,run_underlying hu]
 simp only [eff] at he
 split at he
 ·rename_i sz e1
  obtain ⟨rfl,rfl,rfl⟩:=he
  rw [e1] at h1
  simp only [VRel] at h1
  have heq:(Op.equal t (.slice none 0 0) (.slice none 0 0)).run P w=.ok true w:=by
   have h0:∀ d,(Op.equalIn (d+1) t (.slice none 0 0) (.slice none 0 0)).run P w=.ok true w:=by
    intro d
    simp [Op.equalIn,run_underlying hu]
   exact h0 9999
  refine goes_value (by simp [ho]) (x:=.bool (!neg)) (w':=w) (G':=G) ?_ hr ?_
  ·simp only [execOp,ho,h1,hyv]
   cases op <;> cases neg <;> simp [negOk] at hop <;> simp [eqGuard,binOp,heq,hg]
  ·simp only [VRel,DRel]
 obtain ⟨sz,es,rs',ad,cap,⟨rfl,rfl,rfl⟩,h2,_,h3⟩:=readE_rel hr h1 he
 have heq:(Op.equal t (.slice ad es.length cap) (.slice none 0 0)).run P w=.ok ad.isNone w:=hgen ad es.length cap 9999
 refine goes_value (by simp [ho]) (x:=.bool (cond neg (!ad.isNone) ad.isNone)) (w':=w) (G':=G) ?_ hr ?_
 ·simp only [execOp,ho,h2,hyv]
  cases op <;> cases neg <;> simp [negOk] at hop <;> simp [eqGuard,binOp,heq,hg]
 ·simp only [VRel]
  refine ⟨ad.isNone,rfl,fun hb=>?_⟩
  rcases h3 with h3 | ⟨b,off,xs,h4,_⟩
  ·exact h3
  ·subst h4; simp at hb
theorem go_copy (hr : Rel n base w0 G st a w) {c : Call} {t e : TypeId} {x y : Operand} {x' y' : Opd} {sz : Nat} (ho : o.op = .call c) (hcal : c.callee = .builtin .copy) (hargs : c.args.toList = [x, y]) (ht : c.argTypes[0]? = some t)
  (hu:P.underlying t=some (.slice e)) (hs:sizeIs P e sz=true) (hx:chkOpd x x'=true) (hy:chkOpd y y'=true)
  (he:ERun (eff P (getL st.slots) (.copy sz x' y')) st.heap v ws rs):Goes P n base w0 w st a o r v ws:=by
 have h1:=chkOpd_rel hr hx
 have h2:=chkOpd_rel hr hy
 have hargs':c.args=#[x,y]:=by rw [← Array.toArray_toList (xs:=c.args),hargs]
 obtain ⟨ti,td,hti,hsz,_⟩:=sizeIs_spec hs
 simp only [eff] at he
 obtain ⟨sz',ys,rs',ad,cap,he,h3,h4,h5⟩:=readE_rel hr h2 he
 split at he
 ·rename_i id m e1
  rw [e1] at h1
  obtain ⟨ob,rs2,hob,rfl,he⟩:=he
  dsimp only at he
  split at he
  ·rename_i t1 sz2 es
   obtain ⟨k,⟨rfl,rfl,hm,rfl⟩,rfl,rfl,rfl⟩:=he
   simp only [VRel] at h1
   obtain ⟨t2,sz3,es2,fz2,h6,h7,h8⟩:=h1
   rw [hob] at h6; cases h6
   have hxv:=h8 hm
   obtain ⟨h0,xs,hown,hdx⟩:=hr.objs id _ hob
   have hlt:id < st.heap.length:=(List.getElem?_eq_some_iff.1 hob).1
   obtain ⟨cs,hcl,hcx,hcr⟩:∃ cs:List Value,cs.length=Nat.min ys.length m * sz2∧DXs w G.S (ys.take m) sz2 cs∧(Builtin.firstCells sz2 (Nat.min ys.length m) (.slice ad ys.length cap)).run P w=.ok cs.toArray w:=by
    rcases h5 with rfl | ⟨b,off,zs,rfl,h9,h10,h11⟩
    ·refine ⟨[],by simp,by simp [DXs],?_⟩
     cases ad
     ·simp [Builtin.firstCells]
     ·simp [Builtin.firstCells]
      exact run_loadCells_list (P:=P) w _ [] (fun j v hj=>by simp at hj)
    ·have hl : (zs.take (m * sz2)).length = Nat.min ys.length m * sz2 := by
      rw [List.length_take,h10]
      show min _ _=min _ _ * _
      rw [Nat.mul_min_mul_right,Nat.min_comm]
     refine ⟨zs.take (m * sz2),hl,DXs_take m h9,?_⟩
     refine run_firstCells_some (P:=P) w sz2 (Nat.min ys.length m) _ _ _ _ hl (fun j u hj=>?_)
     rw [addr_add]
     refine h11 j u ?_
     rw [List.getElem?_take] at hj
     split at hj
     ·exact hj
     ·cases hj
   have hrunc : ∀ {w' : World}, ((if let some q := (match G.val id with | .slice b _ _ => b | _ => none) then storeCells q cs else pure ()) : Sem Unit).run P w = .ok () w' → (∃ b c2, G.val id = .slice b m c2) →
     (execOp a.eval o).run P w=.ok (.value (.int .i64 ((min ys.length m:Nat):Int))) w':=by
    rintro w' hst ⟨b,c2,hb⟩
    rw [hb] at hst
    simp only [execOp,ho,resolve,hcal,hargs',List.map_toArray,List.map_cons,List.map_nil,hxv,h3,hb,invoke,builtin,Builtin.copy_,ht,Sem.run_bind,Sem.run_pure,Result.andThen_ok]
    simp only [List.getElem?_toArray,List.getElem?_cons_zero,List.getElem?_cons_succ,run_underlying hu,Sem.run_bind,Result.andThen_ok,Builtin.lenOf,Sem.run_pure,run_sizeOf hti,hsz,hcr]
    cases b with
    | none=>simp at hst; subst hst; simp [goInt]
    | some q=>simp at hst; simp [hst,goInt]
   rcases hown.2 with ⟨h9,h10⟩ | ⟨g,cap2,cur,h9,h10,h11,h12,h13,h14,h15⟩
   ·have hes:es=[]:=List.eq_nil_of_length_eq_zero h10
    subst hes
    have hm0:m=0:=by simpa using hm.symm
    subst hm0
    have hset:st.heap.set id (.row t1 sz2 (ys.take 0++([]:List Data).drop ys.length) false)=st.heap:=by
     have:(ys.take 0++([]:List Data).drop ys.length)=[]:=by simp
     rw [this]
     obtain ⟨h16,h17⟩:=List.getElem?_eq_some_iff.1 hob
     rw [← h17]
     exact List.set_getElem_self h16
    refine goes_value (by simp [ho]) (hrunc (w':=w) (by rw [h9]; simp) ⟨none,0,h9⟩) (G':=G) ?_ ?_
    ·simp only [applyW,hset]; exact hr
    ·simp [VRel,DRel]
   ·obtain ⟨w', G', h16, h17, h18⟩ := row_write (P := P) hr (es' := ys.take m ++ es.drop ys.length) hob (by simp; omega) (g := g) (cap := cap2) h9 (p := 0) (vs := cs) (by
      rw [hcl,Nat.zero_add]
      refine Nat.mul_le_mul_right _ ?_
      show min _ _≤_
      omega) (DXs_one hcx) (fun xs2 hxs2 hdx2=>by
     simp only [List.take_zero,List.nil_append,Nat.zero_add]
     refine DXs_append hcx ?_
     rw [hcl]
     have h19:=DXs_drop (min ys.length m) hdx2
     have:es.drop ys.length=es.drop (min ys.length m):=by
      rcases Nat.le_total ys.length m with h | h
      ·rw [Nat.min_eq_left h]
      ·rw [Nat.min_eq_right h,List.drop_eq_nil_of_le (by omega),List.drop_eq_nil_of_le (by omega)]
     rw [this]
     exact h19)
    refine goes_value (by simp [ho]) (hrunc (w':=w') (by rw [h9]; simpa using h16) ⟨_,cap2,by rw [h9,hm]⟩) (G':=G') h18 (by simp [VRel,DRel])
  ·exact he.elim
 ·rename_i id off m e1
  rw [e1] at h1
  obtain ⟨ob,rs2,hob,rfl,he⟩:=he
  dsimp only at he
  split at he
  ·rename_i cs
   obtain ⟨k,ds,⟨rfl,rfl,rfl,rfl,hag⟩,he⟩:=he
   split at he
   ·rename_i l hl
    obtain ⟨rfl,rfl,rfl⟩:=he
    obtain ⟨_,hfit⟩:=cut_eq hl
    obtain ⟨b,arr,tt,h6,h7,h8,h9,h12⟩:=hr.objs id _ hob
    simp only [VRel] at h1
    obtain ⟨b',cap2,_,h10,h11⟩:=h1
    rw [h6] at h10; cases h10
    have harr:=VRels_length h9
    obtain ⟨vs,hvl,hvr,hrun⟩:∃ vs:List Value,vs.length=Nat.min ys.length m∧DRels w G.S (ys.take m) vs∧(Builtin.firstCells 1 (Nat.min ys.length m) (.slice ad ys.length cap)).run P w=.ok vs.toArray w:=by
     have conv:∀ {es:List Data} {xs:List Value},DXs w G.S es 1 xs→(∀ d∈es,d.isAgg=false)→DRels w G.S es xs:=by
      intro es
      induction es with
      | nil=>intro xs h _; simpa [DXs,DRels] using h
      | cons d ds ih =>
       intro xs h hg
       simp only [DXs] at h
       obtain ⟨x,r,rfl,q1,q2,q3⟩:=h
       have hd:d.cells=[d]:=by have:=hg d List.mem_cons_self; cases d <;> simp_all [Data.isAgg,Data.cells]
       rw [hd] at q2
       simp only [DRels] at q2
       obtain ⟨v,r2,rfl,q4,q5,rfl⟩:=q2
       simp only [List.cons_append,List.nil_append,DRels]
       exact ⟨v,r,rfl,q4,q5,ih q3 fun d hd=>hg d (List.mem_cons_of_mem _ hd)⟩
     rcases h5 with rfl | ⟨b2,off2,zs,rfl,q9,q10,q11⟩
     ·refine ⟨[],by simp,by simp [DRels],?_⟩
      cases ad
      ·simp [Builtin.firstCells]
      ·simp [Builtin.firstCells]
       exact run_loadCells_list (P:=P) w _ [] (fun j v hj=>by simp at hj)
     ·have hl2 : (zs.take (m * 1)).length = Nat.min ys.length m * 1 := by
       rw [List.length_take,q10]
       show min _ _=min _ _ * _
       rw [Nat.mul_min_mul_right,Nat.min_comm]
      refine ⟨zs.take (m * 1),by simpa using hl2,conv (DXs_take m q9) hag,?_⟩
      refine run_firstCells_some (P:=P) w 1 (Nat.min ys.length m) _ _ _ _ hl2 (fun j u hj=>?_)
      rw [addr_add]
      refine q11 j u ?_
      rw [List.getElem?_take] at hj
      split at hj
      ·exact hj
      ·cases hj
    have hone:∀ u∈vs,u.oneCell'=true:=DRels_one hvr
    have hvv:VRels w G st.heap (dcells (ys.take m)) vs:=DRels_VRels hvr
    have hlen2:(dcells (ys.take m)).length=vs.length:=(VRels_length hvv).symm
    have hmin:Nat.min ys.length m≤m:=Nat.min_le_right _ _
    have hst:=run_storeCells_at P b off tt vs 0 arr w h8 (by simp at *; omega) hone
    simp only [Nat.add_zero] at hst
    have hlt:id < st.heap.length:=(List.getElem?_eq_some_iff.1 hob).1
    have hnew:lay cs off (dcells (ys.take m))=cs.take off++dcells (ys.take m)++cs.drop (off+vs.length):=by rw [← hlen2]; exact lay_eq off cs _ (by omega)
    have h13:=hr.upd (o':=.box (lay cs off (dcells (ys.take m)))) (v':=G.val id) (S':=G.S) (row:=blockOf (G.val id))
     (w':=w.setRow b (arr.toList.take off++vs++arr.toList.drop (off+vs.length)).toArray) hob (.inr ⟨by simp,rfl⟩) (fun _ _ h=>h) (fun _ _ h=>.inl h)
     ⟨rfl,rfl,rfl,by simp [World.setRow],fun k _ hk=>setRow_other w b k _ (fun e=>hk (by rw [h6,e]; rfl))⟩
     (fun b1 off1 hS hb1=>absurd hS (hr.free id _ b1 off1 hob hb1 trivial)) (fun b1 hb1=>.inl ⟨by simp,hb1⟩) rfl
     (fun hx=>⟨b,_,tt,(upd_same _ _ _).trans h6,h7,setRow_heap w b arr _ tt _ h8,
      Eq.mpr (congrArg (fun z=>VRels _ _ (st.heap.set id (AObj.box (lay cs off (dcells (ys.take m))))) z _) hnew)
       (VRels_append (VRels_append (VRels_take off (VRels_mono hx _ h9)) (VRels_mono hx _ hvv)) (VRels_drop _ (VRels_mono hx _ h9))),by
      intro u hu
      simp only [List.mem_append] at hu
      rcases hu with (hu | hu) | hu
      ·exact h12 u (List.mem_of_mem_take hu)
      ·exact hone u hu
      ·exact h12 u (List.mem_of_mem_drop hu)⟩)
     (fun b1 off1 hb1 _ hS=>hr.free id _ b1 off1 hob hb1 trivial hS) (fun b1 off1 hS=>by have:=hr.lim b1 off1 hS; simpa [World.setRow] using this)
    refine goes_value (by simp [ho]) (x:=.int .i64 ((min ys.length m:Nat):Int)) (G':=_) ?_ h13.2 (by simp [VRel,DRel])
    simp only [execOp,ho,resolve,hcal,hargs',List.map_toArray,List.map_cons,List.map_nil,h11,h3,invoke,builtin,Builtin.copy_,ht,Sem.run_bind,Sem.run_pure,Result.andThen_ok]
    simp only [List.getElem?_toArray,List.getElem?_cons_zero,List.getElem?_cons_succ,run_underlying hu,Sem.run_bind,Result.andThen_ok,Builtin.lenOf,Sem.run_pure,run_sizeOf hti,hsz,hrun]
    simp [hst,goInt]
   ·exact he.elim
  ·exact he.elim
 ·exact he.elim
theorem bytesOf_cells {S:Nat→Nat→Prop}:∀ {es:List Data} {xs:List Value} {l:List UInt8},bytesOf es=some l→DXs w S es 1 xs→∃ ns:List Int,xs=ns.map (Value.int .u8)∧l=ns.map fun n=>UInt8.ofNat n.toNat
 | [],xs,l,hb,hd=>by
  simp only [bytesOf] at hb; cases hb
  simp only [DXs] at hd
  exact ⟨[],by simpa using hd,rfl⟩
 | d::es,xs,l,hb,hd=>by
  unfold bytesOf at hb
  split at hb
  ·rename_i h1; cases h1
  ·rename_i n r h1
   cases h1
   split at hb
   ·rename_i l' hl'
    cases hb
    simp only [DXs] at hd
    obtain ⟨x,q,rfl,h2,h3,h4⟩:=hd
    obtain ⟨ns,rfl,rfl⟩:=bytesOf_cells hl' h4
    simp only [Data.cells,DRels,DRel] at h3
    obtain ⟨v,r2,rfl,_,rfl,rfl⟩:=h3
    exact ⟨n::ns,by simp,by simp⟩
   ·cases hb
  ·cases hb
theorem foldl_push (ns:List Int):∀ (r:List UInt8),ns.foldl (fun r n=>r.push (UInt8.ofNat n.toNat)) (⟨r.toArray⟩:ByteArray)=⟨(r++ns.map fun n=>UInt8.ofNat n.toNat).toArray⟩:=by
 induction ns with
 | nil=>intro r; simp
 | cons n ns ih =>
  intro r
  simp only [List.foldl_cons,List.map_cons]
  have:(⟨r.toArray⟩:ByteArray).push (UInt8.ofNat n.toNat)=⟨(r++[UInt8.ofNat n.toNat]).toArray⟩:=by
   simp [ByteArray.push]
  rw [this,ih]
  simp
theorem go_b2s (hr : Rel n base w0 G st a w) {s t e : TypeId} {x : Operand} {x' : Opd} (ho : o.op = .convert s t x) (hs : P.underlying s = some (.slice e)) (he8 : P.underlying e = some (.int .u8)) (ht : P.underlying t = some .string) (hx : chkOpd x x' = true)
  (he:ERun (eff P (getL st.slots) (.b2s x')) st.heap v ws rs):Goes P n base w0 w st a o r v ws:=by
 have h1:=chkOpd_rel hr hx
 simp only [eff] at he
 obtain ⟨sz,es,rs',ad,cap,he,h2,_,h3⟩:=readE_rel hr h1 he
 obtain ⟨l,⟨rfl,b,hb,rfl⟩,rfl,rfl,rfl⟩:=he
 refine goes_value (by simp [ho]) (x:=str b) (w':=w) (G':=G) ?_ hr (by simp [VRel,DRel])
 have hrun:(Conv.bytesToString (.slice ad es.length cap)).run P w=.ok (str b) w:=by
  rcases h3 with rfl | ⟨b0,off,xs,rfl,h4,h5,h6⟩
  ·simp only [bytesOf] at hb; cases hb
   cases ad with
   | none=>simp [Conv.bytesToString,str]; rfl
   | some q =>
    have:=run_bytesToString (P:=P) w q 0 cap [] (by simpa using run_loadCells_list (P:=P) w q [] (fun j v hj=>by simp at hj))
    exact this
  ·obtain ⟨ns,rfl,rfl⟩:=bytesOf_cells hb h4
   have hl:ns.length=es.length:=by simpa using h5
   have h7:=run_loadCells_list (P:=P) w ⟨b0,off,none⟩ (ns.map (Value.int .u8)) (fun j v hj=>by rw [addr_add]; exact h6 j v hj)
   rw [List.length_map,hl] at h7
   rw [run_bytesToString w _ _ _ ns h7]
   have:=foldl_push ns []
   simp only [List.nil_append] at this
   rw [str,← this]
   rfl
 simp only [execOp,ho,h2,convert,run_underlying hs,run_underlying ht,run_underlying he8,Sem.run_bind,Result.andThen_ok,hrun,Sem.run_pure]
theorem go_cbx (hr : Rel n base w0 G st a w) {t : TypeId} {x : Operand} {id k : Nat} {x' : Opd} (ho : o.op = .box t x) (hx : chkOpd x x' = true)
  (he:ERun (eff P (getL st.slots) (.cbx id k x')) st.heap v ws rs):Goes P n base w0 w st a o r v ws:=by
 have h1:=chkOpd_rel hr hx
 simp only [eff] at he
 obtain ⟨ob,rs',hob,rfl,he⟩:=he
 dsimp only at he
 split at he
 ·obtain ⟨cs,rs2,he,h2,h3⟩:=cellsE_rel hr h1 he
  split at he
  ·rename_i ds hds
   obtain ⟨rfl,rfl,rfl⟩:=he
   obtain ⟨rfl,hag⟩:=allD_some hds
   obtain ⟨G',h3,h4,h5⟩:=box_rel (t:=t) hr hob h2 h3
   have hlt:id < st.heap.length:=(List.getElem?_eq_some_iff.1 hob).1
   obtain ⟨G1,h6,h7,h8⟩:=cfreeze_one h4 (id:=id) (ds:=ds) (by simp [hlt]) hag
   simp only [List.set_set] at h6
   refine goes_value (by simp [ho]) (x:=.pointer (some ⟨w.heap.size,0,none⟩)) (G':=G1) (by simp [execOp,ho,Instr.box,newVar,newRow]) h6 ?_
   simp only [VRel] at h5 ⊢
   obtain ⟨b,_,h9,h10⟩:=h5
   exact ⟨b,.inr ⟨ds,by simp [applyW,hlt]⟩,by rw [h8]; exact h9,h10⟩
  ·exact he.elim
 ·exact he.elim
theorem DCs_rows {S:Nat→Nat→Prop}:∀ {ds:List Data} {b off:Nat},DCs w S ds b off→DRows w S ds b off 1
 | [],_,_,_=>by simp [DRows]
 | d::ds,b,off,h=>by
  simp only [DCs] at h
  obtain ⟨h1,h2,h3,h4⟩:=h
  refine DRows_cons.2 ⟨?_,DCs_rows h4⟩
  have hd:d.cells=[d]:=by cases d <;> simp_all [Data.isAgg,Data.cells]
  refine ⟨by rw [hd]; rfl,?_⟩
  rw [hd]
  simp only [DCs]
  exact ⟨h1,h2,h3,trivial⟩
theorem DCs_drop {S:Nat→Nat→Prop}:∀ {ds:List Data} {b off:Nat} (k:Nat),DCs w S ds b off→DCs w S (ds.drop k) b (off+k)
 | ds,b,off,0,h=>by simpa using h
 | [],b,off,k+1,_=>by simp [DCs]
 | d::ds,b,off,k+1,h=>by
  simp only [DCs] at h
  have:=DCs_drop k h.2.2.2
  simp only [List.drop_succ_cons]
  rwa [show off+(k+1)=off+1+k by omega]
theorem sla_run {t e : TypeId} {x : Operand} {lo hi : Option Operand} {len : Nat} (ho : o.op = .slice t x lo hi none) (hu : P.underlying t = some (.array len e)) (hs : sizeIs P e 1 = true)
  {b q:Nat} (hy:a.eval x=.pointer (some ⟨b,q,none⟩)) {i h:Int} (hlo:(lo.map a.eval=none∧i=0)∨∃ kd,lo.map a.eval=some (.int kd i))
  (hhi:(hi.map a.eval=none∧h=len)∨∃ kd,hi.map a.eval=some (.int kd h)) (h0:0≤i) (h1:i≤h) (h2:h≤len) :
  (execOp a.eval o).run P w=.ok (.value (.slice (some ⟨b,if len=i.toNat then q else q+i.toNat,none⟩) (h.toNat - i.toNat) (len - i.toNat))) w:=by
 obtain ⟨ti,td,hti,hsz,htd⟩:=sizeIs_spec hs
 have hb:=run_sliceBounds (P:=P) (w:=w) (s:=false) (len:=len) (cap:=len) hlo hhi h0 h1 h2 (Nat.le_refl _)
 simp only [execOp,ho,hy,Instr.sliceAt,Instr.sureAddr,run_underlying hu,Sem.run_bind,Result.andThen_ok,Option.map_none,hb,Sem.run_pure,run_sizeOf hti,hsz,Nat.mul_one]
 split <;> simp [addr_add]
theorem go_sla (hgl : W0Ok P w0) (hr : Rel n base w0 G st a w) {t e : TypeId} {x : Operand} {lo hi : Option Operand} {len : Nat} {x' : Opd} {lo' hi' : Option Opd} (ho : o.op = .slice t x lo hi none)
  (hu:P.underlying t=some (.array len e)) (hs:sizeIs P e 1=true) (hx:chkOpd x x'=true) (hlo:chkOpt lo lo'=true) (hhi:chkOpt hi hi'=true)
  (he:ERun (eff P (getL st.slots) (.sla len x' lo' hi')) st.heap v ws rs):Goes P n base w0 w st a o r v ws:=by
 have h1:=chkOpd_rel hr hx
 have fin : ∀ {ds : List Data} {b b0 off : Nat} {i h : Int}, a.eval x = .pointer (some ⟨b, b0 + off, none⟩) → DCs w G.S ds b b0 → ((lo.map a.eval = none ∧ i = 0) ∨ ∃ kd, lo.map a.eval = some (.int kd i)) →
   ((hi.map a.eval=none∧h=len)∨∃ kd,hi.map a.eval=some (.int kd h))→0≤i→i≤h→h≤len→off+len≤ds.length →
   ∃ y,(execOp a.eval o).run P w=.ok (.value y) w∧VRel w G st.heap (.d (.slice 1 ((ds.drop (off+i.toNat)).take (h.toNat - i.toNat)))) y:=by
  intro ds b b0 off i h hp hd hlo hhi h0 h1 h2 h3
  refine ⟨_,sla_run ho hu hs hp hlo hhi h0 h1 h2,?_⟩
  simp only [VRel,DRel]
  have hlen:((ds.drop (off+i.toNat)).take (h.toNat - i.toNat)).length=h.toNat - i.toNat:=by simp; omega
  refine ⟨_,_,by rw [hlen],by omega,?_⟩
  by_cases hz:len=i.toNat
  ·left
   exact List.eq_nil_of_length_eq_zero (by omega)
  ·right
   refine ⟨b,b0+off+i.toNat,by rw [if_neg hz],?_⟩
   have:=DRows_take (h.toNat - i.toNat) (DCs_rows (DCs_drop (off+i.toNat) hd))
   rwa [show b0+(off+i.toNat)=b0+off+i.toNat by omega] at this
 simp only [eff] at he
 split at he
 ·rename_i id off e1
  rw [e1] at h1
  obtain ⟨ob,rs',hob,rfl,he⟩:=he
  dsimp only at he
  split at he
  ·rename_i cs
   split at he
   ·obtain ⟨⟨rfl,h3,h4⟩,rfl,rfl,rfl⟩:=he
    have elo:lo=none:=by cases lo <;> simp_all [chkOpt]
    have ehi:hi=none:=by cases hi <;> simp_all [chkOpt]
    subst elo ehi
    simp only [VRel] at h1
    obtain ⟨b,q4,q5,q6⟩:=h1
    have q7:=sla_run (w:=w) ho hu hs q6 (i:=0) (h:=len) (.inl ⟨rfl,rfl⟩) (.inl ⟨rfl,rfl⟩) (Int.le_refl _) (by omega) (Int.le_refl _)
    rw [if_neg (by simp; omega)] at q7
    refine goes_value (by simp [ho]) q7 hr ?_
    simp only [VRel]
    exact ⟨b,.inl ⟨_,hob⟩,q5,by simp⟩
   ·exact he.elim
  ·rename_i ds
   obtain ⟨h,he,hh⟩:=boundE_rel hr hhi he
   obtain ⟨i,he,hi⟩:=boundE_rel hr hlo he
   obtain ⟨⟨h3,h4,h5,h6⟩,rfl,rfl,rfl⟩:=he
   obtain ⟨b,arr,tt,q1,q2,q3,q4⟩:=hr.objs id _ hob
   simp only [VRel] at h1
   obtain ⟨b',_,q5,q6⟩:=h1
   rw [q1] at q5; cases q5
   obtain ⟨y,q7,q8⟩:=fin (b0:=0) (by rw [q6,Nat.zero_add]) q4 hi hh h3 h4 h5 h6
   exact goes_value (by simp [ho]) q7 hr q8
  ·exact he.elim
 ·rename_i ds off e1
  rw [e1] at h1
  obtain ⟨h,he,hh⟩:=boundE_rel hr hhi he
  obtain ⟨i,he,hi⟩:=boundE_rel hr hlo he
  obtain ⟨⟨h3,h4,h5,h6⟩,rfl,rfl,rfl⟩:=he
  simp only [VRel] at h1
  obtain ⟨b,b0,q1,q2⟩:=h1
  obtain ⟨y,q7,q8⟩:=fin q1 q2 hi hh h3 h4 h5 h6
  exact goes_value (by simp [ho]) q7 hr q8
 ·rename_i g off e1
  rw [e1] at h1
  split at he
  ·rename_i ds hds
   obtain ⟨h,he,hh⟩:=boundE_rel hr hhi he
   obtain ⟨i,he,hi⟩:=boundE_rel hr hlo he
   obtain ⟨⟨h3,h4,h5,h6⟩,rfl,rfl,rfl⟩:=he
   simp only [VRel] at h1
   have q2:=hr.glob (g,ds) (by rw [hgl.gl]; exact gfind_mem hds)
   obtain ⟨y,q7,q8⟩:=fin (b0:=0) (by rw [h1,Nat.zero_add]) q2 hi hh h3 h4 h5 h6
   exact goes_value (by simp [ho]) q7 hr q8
  ·exact he.elim
 ·exact he.elim
theorem go_slv (hr : Rel n base w0 G st a w) {t e : TypeId} {x : Operand} {lo hi : Option Operand} {len : Nat} {x' : Opd} {lo' hi' : Option Opd} (ho : o.op = .slice t x lo hi none)
  (hu:P.underlying t=some (.array len e)) (hs:sizeIs P e 1=true) (hx:chkOpd x x'=true) (hlo:chkOpt lo lo'=true) (hhi:chkOpt hi hi'=true)
  (he:ERun (eff P (getL st.slots) (.slv len x' lo' hi')) st.heap v ws rs):Goes P n base w0 w st a o r v ws:=by
 have h1:=chkOpd_rel hr hx
 simp only [eff] at he
 split at he
 ·rename_i id off e1
  rw [e1] at h1
  obtain ⟨h,he,hh⟩:=boundE_rel hr hhi he
  obtain ⟨i,he,hi⟩:=boundE_rel hr hlo he
  obtain ⟨⟨h3,h3',h4,h5⟩,rfl,rfl,rfl⟩:=he
  simp only [VRel] at h1
  obtain ⟨b,q4,q5,q6⟩:=h1
  refine goes_value (by simp [ho]) (sla_run ho hu hs q6 hi hh h3 h4 h5) hr ?_
  simp only [VRel]
  refine ⟨b,len - h.toNat,q4,q5,?_⟩
  rw [if_neg (by omega)]
  congr 1
  omega
 ·exact he.elim
end
end Vc
set_option linter.unusedSimpArgs false
set_option linter.unusedVariables false
namespace Vc
open Go Go.RowKit
section
variable {P : Program} [Laid P] {n base : Nat} {w0 : W0} {w : World} {G : Gh} {st : St} {a : Act} {o : Oper} {r : Option Nat} {v : AVal} {ws : List (Nat × AObj)} {rs : List Nat}
theorem go_rng (hr : Rel n base w0 G st a w) {t : TypeId} {x : Operand} {id : Nat} {x' : Opd} (ho : o.op = .range t x) (ht : P.underlying t = some .string) (hx : chkOpd x x' = true)
  (he:ERun (eff P (getL st.slots) (.rng id x')) st.heap v ws rs):Goes P n base w0 w st a o r v ws:=by
 have h1:=chkOpd_rel hr hx
 simp only [eff] at he
 obtain ⟨ob,rs',hob,rfl,he⟩:=he
 dsimp only at he
 split at he
 ·split at he
  ·rename_i l e1
   obtain ⟨rfl,rfl,rfl⟩:=he
   rw [e1] at h1
   have e2:=str_of h1
   have hlt:id < st.heap.length:=(List.getElem?_eq_some_iff.1 hob).1
   have h:=hr.upd (o':=.sit l 0) (v':=.pointer (some ⟨w.heap.size,0,none⟩)) (S':=G.S) (row:=none) (w':=w.alloc (.stringIter ⟨l.toArray⟩ 0)) hob (.inl rfl) (fun _ _ h=>h) (fun _ _ h=>.inl h)
    (World.grownBy_alloc w _ none) (fun _ _ _ h=>by cases h) (fun b hb=>by cases hb; exact .inr (Nat.le_refl _)) trivial
    (fun hx=>⟨w.heap.size,by simp [upd],hr.old,heap_alloc_new w _⟩)
    (fun b off hb _ hs=>by cases hb; have:=hr.lim _ _ hs; simp at this) (fun b off hs=>by have:=hr.lim _ _ hs; simp; omega)
   refine goes_value (by simp [ho]) (x:=.pointer (some ⟨w.heap.size,0,none⟩)) (G':=_) ?_ h.2 ?_
   ·simp only [execOp,ho,e2,Instr.range,run_underlying ht,Sem.run_bind,Result.andThen_ok,str,Sem.run_pure,run_newObj_alloc]
   ·simp only [VRel]
    exact ⟨l,0,by simp [applyW,hlt],by simp [upd]⟩
  ·exact he.elim
 ·exact he.elim
end
end Vc
set_option linter.unusedSimpArgs false
set_option linter.unusedVariables false
namespace Vc
open Go Go.RowKit Go.MapKept
section
variable {P : Program} [Laid P] {n base : Nat} {w0 : W0} {w : World} {G : Gh} {st : St} {a : Act} {o : Oper} {r : Option Nat} {v : AVal} {ws : List (Nat × AObj)} {rs : List Nat}
theorem MRel_app {S:Nat→Nat→Prop} {k x:Data} {e:MapEntry} (hk:DRel w S k e.key) (hx:DRel w S x e.val):∀ {es:List (Data × Data)} {ms:List MapEntry},MRel w S es ms→MRel w S (es++[(k,x)]) (ms++[e])
 | [],ms,h=>by simp only [MRel] at h; subst h; simp only [List.nil_append,MRel]; exact ⟨e,[],rfl,hk,hx,rfl⟩
 | (k',x')::es,ms,h=>by
  simp only [MRel] at h
  obtain ⟨m,q,rfl,h1,h2,h3⟩:=h
  simp only [List.cons_append,MRel]
  exact ⟨m,_,rfl,h1,h2,MRel_app hk hx h3⟩
theorem Born.push {mes:Array MapEntry} {clock:Nat} {e:MapEntry} (h:Born mes clock) (he:e.born=clock):Born (mes.push e) (clock+1):=by
 refine ⟨fun x hx=>?_,?_⟩
 ·simp only [Array.toList_push,List.mem_append,List.mem_singleton] at hx
  rcases hx with hx | rfl
  ·exact Nat.lt_succ_of_lt (h.1 x hx)
  ·omega
 ·simp only [Array.toList_push,List.map_append,List.map_cons,List.map_nil]
  refine List.nodup_append.2 ⟨h.2,by simp,fun a ha b hb=>?_⟩
  simp only [List.mem_singleton] at hb
  subst hb
  obtain ⟨x,hx,rfl⟩:=List.mem_map.1 ha
  have:=h.1 x hx
  omega
theorem Born.modify {mes:Array MapEntry} {clock:Nat} (h:Born mes clock) (i:Nat) (f:MapEntry→MapEntry) (hf:∀ e,(f e).born=e.born):Born (mes.modify i f) clock:=by
 have hborn:(mes.modify i f).toList.map (·.born)=mes.toList.map (·.born):=by
  apply List.ext_getElem?
  intro j
  simp only [List.getElem?_map,Array.getElem?_toList,Array.getElem?_modify]
  by_cases hij:i=j
  ·subst hij
   cases he:mes[i]? with
   | none=>simp
   | some e=>simp [hf]
  ·simp [hij]
 refine ⟨fun x hx=>?_,hborn ▸ h.2⟩
 have:x.born∈(mes.modify i f).toList.map (·.born):=List.mem_map.2 ⟨x,hx,rfl⟩
 rw [hborn] at this
 obtain ⟨y,hy,e⟩:=List.mem_map.1 this
 rw [← e]; exact h.1 y hy
theorem go_mkm (hr : Rel n base w0 G st a w) {t : TypeId} {id : Nat} (ho : o.op = .makeMap t none)
  (he:ERun (eff P (getL st.slots) (.mkm id)) st.heap v ws rs):Goes P n base w0 w st a o r v ws:=by
 simp only [eff] at he
 obtain ⟨ob,rs',hob,rfl,he⟩:=he
 dsimp only at he
 split at he
 ·obtain ⟨rfl,rfl,rfl⟩:=he
  have hlt:id < st.heap.length:=(List.getElem?_eq_some_iff.1 hob).1
  have h:=hr.upd (o':=.mapo []) (v':=.map (some w.heap.size)) (S':=G.S) (row:=none) (w':=w.alloc (.map #[] 0)) hob (.inl rfl) (fun _ _ h=>h) (fun _ _ h=>.inl h)
   (World.grownBy_alloc w _ none) (fun _ _ _ h=>by cases h) (fun b hb=>by cases hb; exact .inr (Nat.le_refl _)) trivial
   (fun hx=>⟨w.heap.size,#[],0,by simp [upd],hr.old,heap_alloc_new w _,by simp [MRel],by simp [Born]⟩)
   (fun b off hb _ hs=>by cases hb; have:=hr.lim _ _ hs; simp at this) (fun b off hs=>by have:=hr.lim _ _ hs; simp; omega)
  refine goes_value (by simp [ho]) (x:=.map (some w.heap.size)) (G':=_) ?_ h.2 ?_
  ·simp [execOp,ho,Instr.makeMap]
  ·simp only [VRel]
   exact ⟨[],.inl (by simp [applyW,hlt]),by simp [upd]⟩
 ·exact he.elim
theorem applyW_keep {id:Nat}:∀ {ws:List (Nat × AObj)} {h:List AObj},(∀ i o,(i,o)∈ws→i≠id)→(applyW h ws)[id]?=h[id]?
 | [],h,_=>rfl
 | (i,o)::r,h,hn=>by
  simp only [applyW]
  rw [applyW_keep fun j q hm=>hn j q (List.mem_cons_of_mem _ hm),List.getElem?_set_ne (hn i o List.mem_cons_self)]
theorem keyC_cases {k:Nat} {c c':Data} (h:keyC k c=true) (h':keyC k c'=true):(∃ a b,k=0∧c=.int .i64 a∧c'=.int .i64 b)∨(∃ a b,k=1∧c=.bool a∧c'=.bool b)∨(∃ a b,k=2∧c=.str a∧c'=.str b):=by
 unfold keyC at h h'
 split at h
 ·split at h' <;> first | (cases h'; done) | contradiction | simp
 ·split at h' <;> first | (cases h'; done) | contradiction | simp
 ·split at h' <;> first | (cases h'; done) | contradiction | simp
 ·cases h
theorem cells_eqS {S:Nat→Nat→Prop}:∀ {ks:List Nat} {cs cs':List Data} {vs vs':List Value},keyCs ks cs=true→keyCs ks cs'=true→DRels w S cs vs→DRels w S cs' vs'→(dEqL cs cs'=true↔vs'=vs)
 | [],[],[],vs,vs',_,_,h1,h2=>by simp only [DRels] at h1 h2; subst h1; subst h2; simp [dEqL]
 | [],_::_,_,_,_,h,_,_,_=>by simp [keyCs] at h
 | [],[],_::_,_,_,_,h,_,_=>by simp [keyCs] at h
 | _::_,[],_,_,_,h,_,_,_=>by simp [keyCs] at h
 | _::_,_::_,[],_,_,_,h,_,_=>by simp [keyCs] at h
 | k::ks,c::cs,c'::cs',vs,vs',hk,hk',h1,h2=>by
  simp only [keyCs,Bool.and_eq_true] at hk hk'
  simp only [DRels] at h1 h2
  obtain ⟨v,r,rfl,_,h3,h4⟩:=h1
  obtain ⟨v',r',rfl,_,h5,h6⟩:=h2
  have ih:=cells_eqS hk.2 hk'.2 h4 h6
  have h0:dEq1 c c'=true↔v'=v:=by
   obtain ⟨q,_⟩:=hk
   obtain ⟨q',_⟩:=hk'
   rcases keyC_cases q q' with ⟨x,y,rfl,rfl,rfl⟩ | ⟨x,y,rfl,rfl,rfl⟩ | ⟨x,y,rfl,rfl,rfl⟩
   ·simp only [DRel] at h3 h5
    subst h3; subst h5
    simp only [dEq1,beq_iff_eq,Value.int.injEq,true_and]
    exact eq_comm
   ·simp only [DRel] at h3 h5
    subst h3; subst h5
    simp only [dEq1,beq_iff_eq,Value.bool.injEq]
    exact eq_comm
   ·simp only [DRel] at h3 h5
    subst h3; subst h5
    simp only [dEq1,str,beq_iff_eq,Value.string.injEq,ByteArray.mk.injEq]
    constructor
    ·intro h; rw [h]
    ·intro h; have:=congrArg Array.toList h; simpa using this.symm
  simp only [dEqL,Bool.and_eq_true,h0,ih,List.cons.injEq]
theorem keyS_eq {S:Nat→Nat→Prop} {ks:List Nat} {k k':Data} {u u':Value} (hd:keyS ks k=true) (hd':keyS ks k'=true) (hr:DRel w S k u) (hr':DRel w S k' u'):(dEq k k'=true↔u'=u):=by
 unfold keyS at hd hd'
 split at hd
 ·split at hd'
  ·simp only [DRel] at hr hr'
   obtain ⟨vs,rfl,h1⟩:=hr
   obtain ⟨vs',rfl,h2⟩:=hr'
   simp only [dEq,Value.agg.injEq]
   rw [cells_eqS hd hd' h1 h2]
   constructor
   ·intro h; rw [h]
   ·intro h; have:=congrArg Array.toList h; simpa using this
  ·cases hd'
 ·cases hd
theorem VRels_dcells {h:List AObj}:∀ {cs:List Data} {vs:List Value},DRels w G.S cs vs→VRels w G h (dcells cs) vs
 | [],vs,hv=>by simpa [dcells,VRels,DRels] using hv
 | d::ds,vs,hv=>by
  simp only [DRels] at hv
  obtain ⟨v,r,rfl,_,h1,h2⟩:=hv
  simp only [dcells,List.map_cons,VRels,VRel]
  exact ⟨v,r,rfl,h1,VRels_dcells h2⟩
theorem eqCellsS:∀ {ks:List Nat} {cs cs':List Data},keyCs ks cs=true→keyCs ks cs'=true→eqCells ks (dcells cs) (dcells cs')=some (dEqL cs cs')
 | [],[],[],_,_=>by simp [eqCells,dcells,dEqL]
 | [],_::_,_,h,_=>by simp [keyCs] at h
 | [],[],_::_,_,h=>by simp [keyCs] at h
 | _::_,[],_,h,_=>by simp [keyCs] at h
 | _::_,_::_,[],_,h=>by simp [keyCs] at h
 | k::ks,c::cs,c'::cs',hk,hk'=>by
  simp only [keyCs,Bool.and_eq_true] at hk hk'
  have ih:=eqCellsS hk.2 hk'.2
  simp only [dcells] at ih
  obtain ⟨q,_⟩:=hk
  obtain ⟨q',_⟩:=hk'
  rcases keyC_cases q q' with ⟨x,y,rfl,rfl,rfl⟩ | ⟨x,y,rfl,rfl,rfl⟩ | ⟨x,y,rfl,rfl,rfl⟩ <;> simp [dcells,eqCells,ih,dEqL,dEq1]
theorem equalS {ks : List Nat} {kt : TypeId} {k k' : Data} {u u' : Value} (hk : keyST P kt ks = true) (hd : keyS ks k = true) (hd' : keyS ks k' = true) (hr : DRel w G.S k u) (hr' : DRel w G.S k' u') :
  (Op.equal kt u u').run P w=.ok (dEq k k') w:=by
 unfold keyS at hd hd'
 split at hd
 ·split at hd'
  ·simp only [DRel] at hr hr'
   obtain ⟨vs,rfl,h1⟩:=hr
   obtain ⟨vs',rfl,h2⟩:=hr'
   unfold keyST at hk
   split at hk
   ·rename_i fs hu
    simp only [Bool.and_eq_true,Bool.not_eq_true'] at hk
    have hfo:P.fieldsOf kt=fs:=by simp [Program.fieldsOf,hu]
    unfold Op.equal
    rw [show Op.maxDepth=9999+1 from rfl,run_equalIn_struct w 9999 kt _ _ (by rw [hfo]; exact hu) hk.2,hfo]
    exact eqFields_run (d:=9998) (h:=[]) (G:=G) hk.1 (by simpa using VRels_dcells h1) (by simpa using VRels_dcells h2) (eqCellsS hd hd')
   ·cases hk
  ·cases hd'
 ·cases hd
theorem findAsking_first {ks : List Nat} {kt : TypeId} {kd : Data} {u : Value} (hk : keyST P kt ks = true) (hd : keyS ks kd = true) (hr : DRel w G.S kd u) : ∀ {es : List (Data × Data)} {l : List MapEntry} (i : Nat), keysOkS ks es = true → MRel w G.S es l →
  ((Instr.findAsking kt u l i).run P w=.ok none w∧∀ x∈l,x.key≠u)∨∃ j e,(Instr.findAsking kt u l i).run P w=.ok (some (i+j,e.val)) w∧l[j]?=some e∧e.key=u∧∀ i' m,i' < j→l[i']?=some m→m.key≠u
 | [],l,i,_,hm=>by simp only [MRel] at hm; subst hm; exact .inl ⟨by simp [Instr.findAsking],by simp⟩
 | (k,x)::es,l,i,ho,hm=>by
  simp only [keysOkS,Bool.and_eq_true] at ho
  simp only [MRel] at hm
  obtain ⟨m,q,rfl,h1,h2,h3⟩:=hm
  have he:=equalS hk hd ho.1 hr h1
  have hiff:=keyS_eq hd ho.1 hr h1
  cases hb:dEq kd k with
  | true =>
   rw [hb] at he
   exact .inr ⟨0,m,by simp [Instr.findAsking,he],rfl,hiff.1 hb,fun _ _ h=>absurd h (Nat.not_lt_zero _)⟩
  | false =>
   rw [hb] at he
   have hne:m.key≠u:=fun e=>by have:=hiff.2 e; rw [hb] at this; cases this
   rcases findAsking_first hk hd hr (i+1) ho.2 h3 with ⟨k1,k2⟩ | ⟨j,e,k1,k2,k3,k4⟩
   ·exact .inl ⟨by simp [Instr.findAsking, he, k1], fun x hx => by
     rcases List.mem_cons.1 hx with e | e
     ·subst e; exact hne
     ·exact k2 x e⟩
   ·refine .inr ⟨j+1,e,by simp [Instr.findAsking,he,k1]; omega,by simpa using k2,k3,fun i' m' hi hm'=>?_⟩
    cases i' with
    | zero=>simp at hm'; subst hm'; exact hne
    | succ i'=>exact k4 i' m' (by omega) (by simpa using hm')
theorem keyST_spec {ks:List Nat} {kt:TypeId} (hk:keyST P kt ks=true):∃ fs,P.underlying kt=some (.struct fs)∧fieldsEq P fs.toList ks 0=true:=by
 unfold keyST at hk
 split at hk
 ·rename_i fs hu
  simp only [Bool.and_eq_true] at hk
  exact ⟨fs,hu,hk.1⟩
 ·cases hk
theorem findKey_first {ks : List Nat} {kt : TypeId} {kd : Data} {u : Value} (hk : keyST P kt ks = true) (hd : keyS ks kd = true) (hr : DRel w G.S kd u) {es : List (Data × Data)} {l : List MapEntry} (ho : keysOkS ks es = true) (hm : MRel w G.S es l) :
  ((Instr.findKey kt u l).run P w=.ok none w∧∀ x∈l,x.key≠u)∨∃ j e,(Instr.findKey kt u l).run P w=.ok (some (j,e.val)) w∧l[j]?=some e∧e.key=u∧∀ i' m,i' < j→l[i']?=some m→m.key≠u:=by
 obtain ⟨fs,hu,_⟩:=keyST_spec hk
 rw [run_findKey_eq w (by rw [hu])]
 rcases findAsking_first hk hd hr 0 ho hm with h | ⟨j,e,h1,h2⟩
 ·exact .inl h
 ·exact .inr ⟨j,e,by simpa using h1,h2⟩
theorem checkFields {em : Bool} {d : Nat} {cs : List Data} {vs : List Value} {S : Nat → Nat → Prop} : ∀ {fs : List Field} {ks : List Nat} {i : Nat}, fieldsEq P fs ks i = true → ks.length + i = vs.length →
  (forIn fs PUnit.unit (fun (f:Field) (_:PUnit)=>(do
   if f.name ≠ "_" then Instr.checkKey em (d+1) f.type (← part f.type vs.toArray f.offset)
   pure (ForInStep.yield PUnit.unit):Sem (ForInStep PUnit)))).run P w=.ok PUnit.unit w
 | [],ks,i,_,_=>by simp
 | f::fs,[],i,hf,_=>by simp [fieldsEq] at hf
 | f::fs,k::ks,i,hf,hl=>by
  simp only [fieldsEq,Bool.and_eq_true,Bool.not_eq_true',beq_eq_false_iff_ne] at hf
  obtain ⟨⟨⟨hn,ho⟩,hb⟩,hrest⟩:=hf
  have ho:=Nat.eq_of_beq_eq_true ho
  have hlt:i < vs.length:=by simp at hl; omega
  have hp:=run_part_basic (w:=w) hb (cs:=vs.toArray) (off:=f.offset) (u:=vs[i]) (by rw [ho]; simp [hlt])
  have hc:(Instr.checkKey em (d+1) f.type vs[i]).run P w=.ok () w:=by
   obtain ⟨_,dd,hu⟩:=basic_notAgg hb
   unfold basicT at hb
   split at hb <;> first | (cases hb; done) | (rename_i q; unfold Instr.checkKey; simp only [Sem.run_bind,run_underlying q,Result.andThen_ok]; cases vs[i] <;> rfl)
  have ih:=checkFields (ks:=ks) (vs:=vs) (em:=em) (d:=d) (cs:=cs) (S:=S) hrest (by simp only [List.length_cons] at hl; omega)
  simp only [List.forIn_cons,Sem.run_bind,hn,ne_eq,not_false_eq_true,if_true,Result.andThen_ok,hp,hc,Sem.run_pure]
  exact ih
theorem keyCs_len:∀ {ks:List Nat} {cs:List Data},keyCs ks cs=true→cs.length=ks.length
 | [],[],_=>rfl
 | [],_::_,h=>by simp [keyCs] at h
 | _::_,[],h=>by simp [keyCs] at h
 | k::ks,c::cs,h=>by
  simp only [keyCs,Bool.and_eq_true] at h
  simp [keyCs_len h.2]
theorem checkKeyS {ks:List Nat} {kt:TypeId} {kd:Data} {u:Value} (hk:keyST P kt ks=true) (hd:keyS ks kd=true) (hr:DRel w G.S kd u) (em:Bool):(Instr.checkKey em 10000 kt u).run P w=.ok () w:=by
 obtain ⟨fs,hu,hf⟩:=keyST_spec hk
 unfold keyS at hd
 split at hd
 ·rename_i cs
  simp only [DRel] at hr
  obtain ⟨vs,rfl,h1⟩:=hr
  have hl:ks.length+0=vs.length:=by rw [DRels_len h1,keyCs_len hd]; rfl
  show (Instr.checkKey em (9998+1+1) kt (.agg vs.toArray)).run P w=_
  rw [Instr.checkKey]
  simp only [Sem.run_bind,run_underlying hu,Result.andThen_ok]
  rw [← Array.forIn_toList]
  have:=checkFields (P:=P) (w:=w) (em:=em) (d:=9998) (cs:=cs) (S:=G.S) hf hl
  simp at this ⊢
  rw [this]
  rfl
 ·cases hd
theorem sameBitsS {S:Nat→Nat→Prop}:∀ {ks:List Nat} {cs:List Data} {vs:List Value},keyCs ks cs=true→DRels w S cs vs→((vs.zip vs).all fun (x,y)=>Instr.sameBits 9999 x y)=true
 | [],[],vs,_,h=>by simp only [DRels] at h; subst h; rfl
 | [],_::_,_,h,_=>by simp [keyCs] at h
 | _::_,[],_,h,_=>by simp [keyCs] at h
 | k::ks,c::cs,vs,hk,h=>by
  simp only [keyCs,Bool.and_eq_true] at hk
  simp only [DRels] at h
  obtain ⟨v,r,rfl,_,h1,h2⟩:=h
  have ih:=sameBitsS hk.2 h2
  have h0:Instr.sameBits 9999 v v=true:=by
   obtain ⟨q,_⟩:=hk
   unfold keyC at q
   split at q <;> first | (cases q; done) | (simp only [DRel] at h1; subst h1; simp [Instr.sameBits]; done) | (simp only [DRel] at h1; subst h1; simp only [Instr.sameBits,str]; exact (bytes_beq _ _).2 rfl)
  simp only [List.zip_cons_cons,List.all_cons,h0,Bool.true_and]
  exact ih
theorem staysS {ks:List Nat} {kd:Data} {u:Value} (hd:keyS ks kd=true) (hr:DRel w G.S kd u):(Instr.keyThatStays u u).run P w=.ok u w:=by
 unfold keyS at hd
 split at hd
 ·simp only [DRel] at hr
  obtain ⟨vs,rfl,h1⟩:=hr
  have hs:Instr.sameBits 10000 (.agg vs.toArray) (.agg vs.toArray)=true:=by
   show Instr.sameBits (9999+1) _ _=true
   simp only [Instr.sameBits,beq_self_eq_true,Bool.true_and]
   exact sameBitsS hd h1
  simp [Instr.keyThatStays,hs]
 ·cases hd
theorem keyV_rel {h:List AObj} {v:AVal} {u:Value} {kd:Data} (hv:VRel w G h v u) (hk:keyV v=some kd):DRel w G.S kd u:=by
 unfold keyV at hk
 split at hk
 ·rename_i vs hc
  split at hk
  ·rename_i ds hall
   cases hk
   obtain ⟨us,h1,e,_⟩:=aggCells_of hv hc
   obtain ⟨rfl,hag⟩:=allD_some hall
   rw [e]
   simp only [DRel]
   exact ⟨us,rfl,DRels_of hag h1⟩
  ·cases hk
 ·cases hk
theorem find_noneS {S:Nat→Nat→Prop} {ks:List Nat} {kd:Data} {u:Value} (hd:keyS ks kd=true) (hr:DRel w S kd u):∀ {es:List (Data × Data)} {ms:List MapEntry},keysOkS ks es=true→MRel w S es ms→(∀ m∈ms,m.key≠u)→findM kd es=none∧∀ vd,putM kd vd es=es++[(kd,vd)]
 | [],ms,_,h,_=>⟨rfl,fun _=>rfl⟩
 | (k,x)::es,ms,ho,h,hn=>by
  simp only [keysOkS,Bool.and_eq_true] at ho
  simp only [MRel] at h
  obtain ⟨m,q,rfl,h1,h2,h3⟩:=h
  have:dEq kd k=false:=by
   cases hb:dEq kd k
   ·rfl
   ·exact absurd ((keyS_eq hd ho.1 hr h1).1 hb) (hn m List.mem_cons_self)
  obtain ⟨h4,h5⟩:=find_noneS hd hr ho.2 h3 fun m hm=>hn m (List.mem_cons_of_mem _ hm)
  exact ⟨by simp only [findM,this]; exact h4,fun vd=>by simp only [putM,this,h5 vd]; rfl⟩
theorem find_someS {S : Nat → Nat → Prop} {ks : List Nat} {kd : Data} {u : Value} (hd : keyS ks kd = true) (hr : DRel w S kd u) : ∀ {es : List (Data × Data)} {ms : List MapEntry} {j : Nat} {e : MapEntry}, keysOkS ks es = true → MRel w S es ms →
  ms[j]?=some e→e.key=u→(∀ i m,i < j→ms[i]?=some m→m.key≠u) →
  (∃ y,findM kd es=some y∧DRel w S y e.val)∧∀ (vd:Data) (x:Value),DRel w S vd x→MRel w S (putM kd vd es) (ms.modify j fun e=>{ e with key:=u,val:=x })
 | [],ms,j,e,_,h,hj,_,_=>by simp only [MRel] at h; subst h; simp at hj
 | (k,x)::es,ms,j,e,ho,h,hj,he,hf=>by
  simp only [keysOkS,Bool.and_eq_true] at ho
  simp only [MRel] at h
  obtain ⟨m,q,rfl,h1,h2,h3⟩:=h
  cases j with
  | zero =>
   simp at hj
   subst hj
   have:dEq kd k=true:=(keyS_eq hd ho.1 hr h1).2 he
   refine ⟨⟨x,by simp only [findM,this],h2⟩,fun vd x hx=>?_⟩
   simp only [putM,this,List.modify_zero_cons,MRel]
   exact ⟨_,q,rfl,hr,hx,h3⟩
  | succ j =>
   have:dEq kd k=false:=by
    cases hb:dEq kd k
    ·rfl
    ·exact absurd ((keyS_eq hd ho.1 hr h1).1 hb) (hf 0 m (Nat.succ_pos _) rfl)
   obtain ⟨⟨y,h4,h5⟩,h6⟩:=find_someS hd hr ho.2 h3 (j:=j) (by simpa using hj) he (fun i m hi hm=>hf (i+1) m (by omega) (by simpa using hm))
   refine ⟨⟨y,by simp only [findM,this]; exact h4,h5⟩,fun vd x hx=>?_⟩
   simp only [putM,this,List.modify_succ_cons,MRel]
   exact ⟨m,_,rfl,h1,h2,h6 vd x hx⟩
theorem go_lkps (hr : Rel n base w0 G st a w) {t : TypeId} {x y : Operand} {ks : List Nat} {zero : Data} {comma : Bool} {x' y' : Opd} (ho : o.op = .lookup t x y comma) (hk : lkpsOk P t ks zero = true) (hx : chkOpd x x' = true) (hy : chkOpd y y' = true)
  (he:ERun (eff P (getL st.slots) (.lkps ks zero comma x' y')) st.heap v ws rs):Goes P n base w0 w st a o r v ws:=by
 have h1:=chkOpd_rel hr hx
 have h2:=chkOpd_rel hr hy
 unfold lkpsOk at hk
 split at hk
 ·rename_i kt et hu
  simp only [Bool.and_eq_true] at hk
  obtain ⟨hkt,hz⟩:=hk
  obtain ⟨i,z,hi,hzz,hzc,_⟩:=zeroOk_spec hz.1
  simp only [eff] at he
  split at he
  ·rename_i kd e2
   have h2:=keyV_rel h2 e2
   split at he
   ·rename_i id e1
    rw [e1] at h1
    obtain ⟨ob,rs',hob,rfl,he⟩:=he
    dsimp only at he
    split at he
    ·rename_i es hes
     obtain ⟨ds,⟨hkd,hks,hcase⟩,he⟩:=he
     obtain ⟨b,mes,clock,h3,h4,h5,h6,_⟩:∃ b mes clock,G.val id=.map (some b)∧base≤b∧w.heap[b]?=some (.map mes clock)∧MRel w G.S es mes.toList∧Born mes clock:=by
      have:=hr.objs id _ hob
      unfold mapE at hes
      split at hes <;> cases hes <;> exact this
     simp only [VRel] at h1
     obtain ⟨_,_,h7⟩:=h1
     rw [h3] at h7
     have hck:∀ em,(Instr.checkKey em 10000 kt (a.eval y)).run P w=.ok () w:=checkKeyS hkt hkd h2
     have hrel:∀ {y:Data} {u:Value} {b:Bool},ds=[y,.bool b]→DRel w G.S y u→(execOp a.eval o).run P w=.ok (.value (if comma then .tuple #[u,.bool b] else u)) w→Goes P n base w0 w st a o r v ws:=by
      intro y u b hds hyu hrun
      subst hds
      cases comma with
      | true =>
       obtain ⟨rfl,rfl,rfl⟩:=he
       refine goes_value (by simp [ho]) hrun hr ?_
       simp only [if_true,VRel,dcells,List.map_cons,List.map_nil]
       exact ⟨[u,.bool b],rfl,by simp [VRels,VRel,DRel,hyu]⟩
      | false =>
       obtain ⟨rfl,rfl,rfl⟩:=he
       exact goes_value (by simp [ho]) hrun hr (by simpa [VRel] using hyu)
     rcases findKey_first hkt hkd h2 hks h6 with ⟨q1,q2⟩ | ⟨j,e,q1,q2,q3,q4⟩
     ·obtain ⟨q5,_⟩:=find_noneS hkd h2 hks h6 q2
      rcases hcase with ⟨y,q6,_⟩ | ⟨_,hds⟩
      ·rw [q5] at q6; cases q6
      ·refine hrel hds (u:=z) ?_ ?_
       ·have h8:=zero_DRels (w:=w) (S:=G.S) hzc
        have h9:=hz.2
        unfold zform at h9
        rw [hi] at h9
        simp only [hzz] at h9
        cases zero with
        | agg cs =>
         have hz2:∃ zs,z=.agg zs:=by cases z <;> first | exact ⟨_,rfl⟩ | (simp [Data.isAgg] at h9)
         obtain ⟨zs,rfl⟩:=hz2
         simp only [DRel]
         exact ⟨zs.toList,by simp,by simpa [Data.cells,Value.cells] using h8⟩
        | _ =>
         have hzc':z.cells=#[z]:=by cases z <;> simp_all [Data.isAgg,Value.cells]
         rw [hzc'] at h8
         simp only [Data.cells,DRels] at h8
         obtain ⟨v1,r1,q8,_,q9,_⟩:=h8
         simp at q8
         rw [q8.1]
         exact q9
       ·simp only [execOp,ho,h7,Instr.lookup,run_underlying hu,run_getObj_map (P:=P) h5,Sem.run_bind,Result.andThen_ok,Sem.run_pure,hck,q1,run_zero hi hzz]
     ·obtain ⟨⟨y,q5,q6⟩,_⟩:=find_someS hkd h2 hks h6 q2 q3 q4
      rcases hcase with ⟨y',q7,hds⟩ | ⟨q7,_⟩
      ·rw [q5] at q7; cases q7
       refine hrel hds q6 ?_
       simp only [execOp,ho,h7,Instr.lookup,run_underlying hu,run_getObj_map (P:=P) h5,Sem.run_bind,Result.andThen_ok,Sem.run_pure,hck,q1]
      ·rw [q5] at q7; cases q7
    ·exact he.elim
   ·exact he.elim
  ·exact he.elim
 ·cases hk
theorem go_mpus (hr : Rel n base w0 G st a w) {t : TypeId} {x y z : Operand} {ks : List Nat} {x' y' z' : Opd} (ho : o.op = .mapUpdate t x y z) (hk : mpusOk P t ks = true) (hx : chkOpd x x' = true) (hy : chkOpd y y' = true) (hz : chkOpd z z' = true)
  (he:ERun (eff P (getL st.slots) (.mpus ks x' y' z')) st.heap v ws rs):Goes P n base w0 w st a o r v ws:=by
 have h1:=chkOpd_rel hr hx
 have h2:=chkOpd_rel hr hy
 have h3:=chkOpd_rel hr hz
 unfold mpusOk at hk
 split at hk
 ·rename_i kt et hu
  simp only [eff] at he
  split at he
  ·rename_i kd e2
   have h2:=keyV_rel h2 e2
   obtain ⟨u,fws,rs1,he,hf,hpv⟩:=pv_rel hr h3 he
   split at he
   ·rename_i vd
    split at he
    ·rename_i id e1
     rw [e1] at h1
     obtain ⟨ob,rs',hob,rfl,he⟩:=he
     dsimp only at he
     split at he
     ·rename_i es
      obtain ⟨⟨hkd,hks⟩,rfl,rfl,rfl⟩:=he
      obtain ⟨G1,hr1,hS,hval,hsl,_,_⟩:=freeze_rel hr hf
      have hob1:(applyW st.heap fws)[id]?=some (.mapo es):=by
       rw [applyW_keep fun i q hm e=>?_]
       ·exact hob
       ·obtain ⟨t1,sz,es1,fz,_,h9⟩:=hf i q hm
        rw [e,hob] at h9; cases h9
      have hvd:=hpv G1.S hS (by rw [← hval]; exact hsl) G1.val
      simp only [VRel] at hvd
      have hkr:DRel w G1.S kd (a.eval y):=DRel_mono (fun _ _ _=>rfl) hS kd h2
      obtain ⟨b,mes,clock,q1,q2,q3,q4,q9⟩:=hr1.objs id _ hob1
      simp only [VRel] at h1
      obtain ⟨_,_,h7⟩:=h1
      rw [← hval,q1] at h7
      have hck:∀ em,(Instr.checkKey em 10000 kt (a.eval y)).run P w=.ok () w:=checkKeyS hk hkd hkr
      have hblt:b < w.heap.size:=(Array.getElem?_eq_some_iff.1 q3).1
      have fin:∀ {mes':Array MapEntry} {clock':Nat},MRel w G1.S (putM kd vd es) mes'.toList→Born mes' clock'→(execOp a.eval o).run P w=.ok .skip (w.putObj b (.map mes' clock'))→Goes P n base w0 w st a o r .undef (fws++[(id,.mapo (putM kd vd es))]):=by
       intro mes' clock' hm hbo hrun
       have h:=hr1.upd (o':=.mapo (putM kd vd es)) (v':=G1.val id) (S':=G1.S) (row:=some b) (w':=w.putObj b (.map mes' clock')) hob1
        (.inr ⟨by simp,by rw [q1]; rfl⟩) (fun _ _ h=>h) (fun _ _ h=>.inl h)
        ⟨rfl,rfl,rfl,by simp,fun k _ hk=>World.putObj_heap_other (fun e=>hk (by rw [e]))⟩
        (fun b1 off1 hS hb1=>by
         cases hb1
         exact absurd hS (hr1.free id _ b off1 hob1 (by rw [q1]; rfl) trivial))
        (fun b1 hb1=>.inl ⟨by simp,hb1⟩) rfl
        (fun hx=>⟨b,mes',clock',(upd_same _ _ _).trans q1,q2,World.putObj_heap_same hblt,MRel_mono hx.keeps hx.seals _ hm,hbo⟩)
        (fun b1 off1 hb1 _ hS=>hr1.free id _ b1 off1 hob1 hb1 trivial hS) (fun b1 off1 hS=>by have:=hr1.lim b1 off1 hS; simpa using this)
       exact goes_skip (by simp [ho]) hrun (by rw [applyW_append]; exact h.2)
      rcases findKey_first hk hkd hkr hks q4 with ⟨p1,p2⟩ | ⟨j,e,p1,p2,p3,p4⟩
      ·obtain ⟨_,p5⟩:=find_noneS hkd hkr hks q4 p2
       refine fin (mes':=mes.push { key:=a.eval y,val:=a.eval z,born:=clock }) (clock':=clock+1) ?_ (q9.push rfl) ?_
       ·rw [p5 vd,Array.toList_push]
        exact MRel_app (e:={ key:=a.eval y,val:=a.eval z,born:=clock }) hkr hvd q4
       ·simp only [execOp,ho,h7,Instr.mapUpdate,run_underlying hu,run_getObj_map (P:=P) q3,Sem.run_bind,Result.andThen_ok,Sem.run_pure,hck,p1,run_setObj_map (P:=P) _ q3]
        rfl
      ·obtain ⟨_,p5⟩:=find_someS hkd hkr hks q4 p2 p3 p4
       refine fin (mes':=mes.modify j fun e=>{ e with key:=a.eval y,val:=a.eval z }) (clock':=clock) ?_ (q9.modify _ _ fun _=>rfl) ?_
       ·rw [Array.toList_modify]
        exact p5 vd (a.eval z) hvd
       ·have hj:mes[j]?=some e:=by simpa using p2
        simp only [execOp,ho,h7,Instr.mapUpdate,run_underlying hu,run_getObj_map (P:=P) q3,Sem.run_bind,Result.andThen_ok,Sem.run_pure,hck,p1,hj,Option.map_some,Option.getD_some,p3,staysS hkd hkr,run_setObj_map (P:=P) _ q3]
        rfl
     ·exact he.elim
    ·exact he.elim
   ·exact he.elim
  ·exact he.elim
 ·cases hk
theorem go_rngm (hr : Rel n base w0 G st a w) {t : TypeId} {x : Operand} {id : Nat} {x' : Opd} {kt et : TypeId} (ho : o.op = .range t x) (ht : P.underlying t = some (.map kt et)) (hx : chkOpd x x' = true)
  (he:ERun (eff P (getL st.slots) (.rngm id x')) st.heap v ws rs):Goes P n base w0 w st a o r v ws:=by
 have h1:=chkOpd_rel hr hx
 simp only [eff] at he
 obtain ⟨ob,rs',hob,rfl,he⟩:=he
 dsimp only at he
 split at he
 ·split at he
  ·rename_i mid e1
   rw [e1] at h1
   obtain ⟨ob2,rs2,hob2,rfl,he⟩:=he
   simp only [VRel] at h1
   obtain ⟨_,_,h7⟩:=h1
   have hlt:id < st.heap.length:=(List.getElem?_eq_some_iff.1 hob).1
   have hne:id≠mid:=fun e=>by
    subst e
    rw [hob] at hob2; cases hob2
    exact he.elim
   have fin : ∀ {G1 : Gh} {es : List (Data × Data)} {h0 : List AObj}, Rel n base w0 G1 ⟨st.slots, h0⟩ a w → h0[id]? = some .none → h0[mid]? = some (.mapf es) → G1.val mid = a.eval x →
     ∃ G2,(execOp a.eval o).run P w=.ok (.value (.pointer (some ⟨w.heap.size,0,none⟩))) (w.alloc (match a.eval x with | .map (some b)=>.mapIter (some b) (match w.heap[b]? with | some (.map _ c)=>c | _=>0) #[] (match w.heap[b]? with | some (.map _ c)=>c | _=>0) | _=>.mapIter none 0 #[] 0)) ∧
      Rel n base w0 G2 ⟨st.slots,h0.set id (.mit mid .start es)⟩ a (w.alloc (match a.eval x with | .map (some b)=>.mapIter (some b) (match w.heap[b]? with | some (.map _ c)=>c | _=>0) #[] (match w.heap[b]? with | some (.map _ c)=>c | _=>0) | _=>.mapIter none 0 #[] 0)) ∧
      VRel (w.alloc (match a.eval x with | .map (some b)=>.mapIter (some b) (match w.heap[b]? with | some (.map _ c)=>c | _=>0) #[] (match w.heap[b]? with | some (.map _ c)=>c | _=>0) | _=>.mapIter none 0 #[] 0)) G2 (h0.set id (.mit mid .start es)) (.mi id) (.pointer (some ⟨w.heap.size,0,none⟩)):=by
    intro G1 es h0 hr1 hid hmid hval
    obtain ⟨b,mes,clock,k1,k2,k3,k4,k5⟩:=hr1.objs mid _ hmid
    rw [k1] at hval
    rw [← hval]
    simp only [k3]
    have hlt0:id < h0.length:=(List.getElem?_eq_some_iff.1 hid).1
    have h:=hr1.upd (o':=.mit mid .start es) (v':=.pointer (some ⟨w.heap.size,0,none⟩)) (S':=G1.S) (row:=none) (w':=w.alloc (.mapIter (some b) clock #[] clock)) hid (.inl rfl) (fun _ _ h=>h) (fun _ _ h=>.inl h)
     (World.grownBy_alloc w _ none) (fun _ _ _ h=>by cases h) (fun b hb=>by cases hb; exact .inr (Nat.le_refl _)) trivial
     (fun hx=>by
      obtain ⟨q1,q2,q3⟩:=hx.mapf mid es hmid
      refine ⟨w.heap.size,b,mes,clock,#[],es,by simp [upd],hr1.old,heap_alloc_new w _,q1,q2.trans k1,(q3 b k1).trans k3,k5,mes.toList,?_,MRel_mono hx.keeps hx.seals _ k4⟩
      have:(leftOf mes #[]).toList=mes.toList:=by
       unfold leftOf
       rw [Array.toList_filter]
       exact List.filter_eq_self.2 fun _ _=>by simp
      rw [this])
     (fun b off hb _ hs=>by cases hb; have:=hr1.lim _ _ hs; simp at this) (fun b off hs=>by have:=hr1.lim _ _ hs; simp; omega)
    refine ⟨_,?_,h.2,?_⟩
    ·have hx':a.eval x=.map (some b):=hval.symm
     simp only [execOp,ho,hx',run_range_map w t kt et b mes clock ht k3,Sem.run_bind,Result.andThen_ok,Sem.run_pure]
    ·simp only [VRel]
     exact ⟨mid,.start,es,by simp [hlt0],by simp [upd]⟩
   dsimp only at he
   split at he
   ·rename_i es
    obtain ⟨rfl,rfl,rfl⟩:=he
    obtain ⟨b,mes,clock,k1,k2,k3,k4,k5⟩:=hr.objs mid _ hob2
    have hlt2:mid < st.heap.length:=(List.getElem?_eq_some_iff.1 hob2).1
    have h:=hr.upd (o':=.mapf es) (v':=G.val mid) (S':=G.S) (row:=none) (w':=w) hob2 (.inl rfl) (fun _ _ h=>h) (fun _ _ h=>.inl h)
     ⟨rfl,rfl,rfl,Nat.le_refl _,fun _ _ _=>rfl⟩ (fun _ _ _ h=>by cases h) (fun b1 hb1=>.inl ⟨by simp,hb1⟩) rfl
     (fun hx=>⟨b,mes,clock,(upd_same _ _ _).trans k1,k2,k3,k4,k5⟩)
     (fun b1 off1 hb1 _ hS=>hr.free mid _ b1 off1 hob2 hb1 trivial hS) (fun b1 off1 hS=>hr.lim b1 off1 hS)
    have hval:upd G.val mid (G.val mid)=G.val:=by funext j; unfold upd; split <;> simp_all
    rw [hval] at h
    obtain ⟨G2,g1,g2,g3⟩:=fin (es:=es) h.2 (by rw [List.getElem?_set_ne (Ne.symm hne)]; exact hob) (by simp [hlt2]) h7.symm
    exact goes_value (by simp [ho]) g1 g2 g3
   ·rename_i es
    obtain ⟨rfl,rfl,rfl⟩:=he
    obtain ⟨G2,g1,g2,g3⟩:=fin hr hob hob2 h7.symm
    exact goes_value (by simp [ho]) g1 g2 g3
   ·exact he.elim
  ·exact he.elim
 ·exact he.elim
theorem go_nxm (hr : Rel n base w0 G st a w) {x : Operand} {x' : Opd} {ty : TypeId} (ho : o.op = .next x false) (hx : chkOpd x x' = true)
  (he:ERun (eff P (getL st.slots) (.nxm x')) st.heap v ws rs):Goes P n base w0 w st a o r v ws:=by
 have h1:=chkOpd_rel hr hx
 simp only [eff] at he
 split at he
 ·rename_i id e1
  rw [e1] at h1
  obtain ⟨ob,rs',hob,rfl,he⟩:=he
  dsimp only at he
  split at he
  ·rename_i m cur left
   obtain ⟨b,bm,mes,clock,seen,es,k1,k2,k3,k4,k5,k6,k7,k8⟩:=hr.objs id _ hob
   simp only [VRel] at h1
   obtain ⟨_,_,_,_,h5⟩:=h1
   rw [k1] at h5
   have hlt:id < st.heap.length:=(List.getElem?_eq_some_iff.1 hob).1
   have hblt:b < w.heap.size:=(Array.getElem?_eq_some_iff.1 k3).1
   have hmne:m≠id:=fun q=>by rw [q,hob] at k4; cases k4
   have hnext:=run_next_at (P:=P) w o.type b bm clock clock seen mes clock k3 k6 k7.1 (Nat.le_refl _)
   have hperm:cur≠.pend→∃ ms:List MapEntry,ms.Perm (leftOf mes seen).toList∧MRel w G.S left ms:=by
    intro hc
    cases cur with
    | start=>exact k8
    | pend=>exact absurd rfl hc
    | here k v=>obtain ⟨e,s,ms,_,_,_,_,q1,q2⟩:=k8; exact ⟨ms,q1,q2⟩
   split at he
   ·exact he.elim
   ·rename_i cur left hc
    obtain ⟨rfl,rfl,rfl⟩:=he
    obtain ⟨ms,q1,q2⟩:=hperm (by intro e; exact hc e)
    simp only [MRel] at q2
    subst q2
    have hl0:(leftOf mes seen).toList=[]:=(List.nil_perm.1 q1)
    rcases hnext with ⟨_,g⟩ | ⟨e,he,_⟩
    ·refine goes_value (by simp [ho]) (x:=.tuple #[.bool false]) (w':=w) (G':=G) ?_ hr ?_
     ·simp only [execOp,ho,h5,g,Sem.run_bind,Result.andThen_ok,Sem.run_pure]
     ·simp only [VRel]
      exact ⟨_,rfl,by simp [VRels,VRel,DRel]⟩
    ·rw [hl0] at he; cases he
   ·rename_i cur p l hc
    obtain ⟨rfl,rfl,rfl⟩:=he
    obtain ⟨ms,q1,q2⟩:=hperm (by intro e; exact hc e)
    rcases hnext with ⟨g,_⟩ | ⟨e,he,w1,hw1,g⟩
    ·have hl : ms.length = (p :: l).length := by
      have:∀ {es:List (Data × Data)} {ms:List MapEntry},MRel w G.S es ms→ms.length=es.length:=by
       intro es
       induction es with
       | nil=>intro ms h; simp only [MRel] at h; subst h; rfl
       | cons p es ih=>intro ms h; obtain ⟨k,x⟩:=p; simp only [MRel] at h; obtain ⟨m,q,rfl,_,_,h3⟩:=h; simp [ih h3]
      exact this q2
     have:=q1.length_eq
     have hz:(leftOf mes seen).toList.length=0:=by rw [Array.length_toList]; exact g
     rw [hl,hz] at this
     simp at this
    ·have fin : ∀ {w1 : World}, Rel n base w0 G st a w1 → w1.heap = w.heap → (Instr.next (.pointer (some ⟨b, 0, none⟩)) false o.type).run P w = .ok (.tuple #[.bool true, e.key, e.val]) (ChangeMaps.setBlock w1 b (.mapIter (some bm) clock (seen.push e.born) clock)) → MRel w1 G.S (p :: l) ms → Goes P n base w0 w st a o r (.tup [.d (.bool true), .undef, .undef]) [(id, .mit m .pend (p :: l))] := by
      intro w1 hr1 hh hrun hm1
      have hblt1:b < w1.heap.size:=by rw [hh]; exact hblt
      have h:=hr1.upd (o':=.mit m .pend (p::l)) (v':=G.val id) (S':=G.S) (row:=some b) (w':=ChangeMaps.setBlock w1 b (.mapIter (some bm) clock (seen.push e.born) clock)) hob
       (.inr ⟨by simp,by rw [k1]; rfl⟩) (fun _ _ h=>h) (fun _ _ h=>.inl h)
       ⟨rfl,rfl,rfl,by simp [ChangeMaps.setBlock],fun k _ hk=>by
        simp only [ChangeMaps.setBlock]
        exact Array.getElem?_setIfInBounds_ne (fun q=>hk (by rw [q]))⟩
       (fun b1 off1 hS hb1=>by
        cases hb1
        exact absurd hS (hr1.free id _ b off1 hob (by rw [k1]; rfl) trivial))
       (fun b1 hb1=>.inl ⟨by simp,hb1⟩) ⟨rfl,rfl⟩
       (fun hx=>by
        obtain ⟨z1,z2,z3⟩:=hx.mapf m es k4
        refine ⟨b,bm,mes,clock,seen.push e.born,es,(upd_same _ _ _).trans k1,k2,by simp [ChangeMaps.setBlock,hblt1],z1,z2.trans k5,(z3 bm k5).trans (by rw [hh]; exact k6),k7,e,seen,ms,rfl,he,q1,MRel_mono hx.keeps hx.seals _ hm1⟩)
       (fun b1 off1 hb1 _ hS=>hr1.free id _ b1 off1 hob hb1 trivial hS) (fun b1 off1 hS=>by have:=hr1.lim b1 off1 hS; simpa [ChangeMaps.setBlock] using this)
      refine goes_value (by simp [ho]) (x:=.tuple #[.bool true,e.key,e.val]) (G':=_) ?_ h.2 ?_
      ·simp only [execOp,ho,h5,hrun,Sem.run_bind,Result.andThen_ok,Sem.run_pure]
      ·simp only [VRel]
       refine ⟨[.bool true,e.key,e.val],rfl,?_⟩
       simp only [VRels]
       exact ⟨_,_,rfl,by simp [VRel,DRel],_,_,rfl,by simp [VRel],_,_,rfl,by simp [VRel],rfl⟩
     rcases hw1 with rfl | rfl
     ·exact fin hr rfl g q2
     ·exact fin (w1:=w.drew) hr.drew rfl g (MRel_mono (w:=w) (w':=w.drew) (fun _ _ _=>rfl) (fun _ _ h=>h) _ q2)
  ·exact he.elim
 ·exact he.elim
theorem go_ent (hr : Rel n base w0 G st a w) {x : Operand} {x' : Opd} (ho : o.op = .entry x) (hx : chkOpd x x' = true)
  (he:ERun (eff P (getL st.slots) (.ent x')) st.heap v ws rs):Goes P n base w0 w st a o r v ws:=by
 have h1:=chkOpd_rel hr hx
 simp only [eff] at he
 split at he
 ·rename_i id e1
  rw [e1] at h1
  obtain ⟨ob,rs',hob,rfl,he⟩:=he
  dsimp only at he
  split at he
  ·rename_i m k u left
   obtain ⟨rfl,rfl,rfl⟩:=he
   obtain ⟨b,bm,mes,clock,seen,es,k1,k2,k3,k4,k5,k6,k7,k8⟩:=hr.objs id _ hob
   obtain ⟨e,s,ms,rfl,hem,q1,q2,_⟩:=k8
   simp only [VRel] at h1
   obtain ⟨_,_,_,_,h5⟩:=h1
   rw [k1] at h5
   refine goes_value (by simp [ho]) (x:=.tuple #[e.key,e.val]) (w':=w) (G':=G) ?_ hr ?_
   ·simp only [execOp,ho,h5,run_entry_at (P:=P) w b bm clock s mes clock e k3 k6 hem k7.2,Sem.run_bind,Result.andThen_ok,Sem.run_pure]
   ·simp only [VRel]
    refine ⟨[e.key,e.val],rfl,?_⟩
    simp only [VRels]
    exact ⟨_,_,rfl,by simpa [VRel] using q1,_,_,rfl,by simpa [VRel] using q2,rfl⟩
  ·exact he.elim
 ·exact he.elim
end
end Vc
set_option linter.unusedSimpArgs false
set_option linter.unusedVariables false
namespace Vc
open Go Go.RowKit
section
variable {P : Program} [Laid P] {n base : Nat} {w0 : W0} {w w' : World} {G : Gh} {st : St} {a : Act} {o : Oper} {r : Option Nat} {v : AVal} {ws : List (Nat × AObj)} {rs : List Nat}
theorem nbeq {a b:Nat} (h:Nat.beq a b=true):a=b:=Nat.eq_of_beq_eq_true h
theorem nbeq_f {a b:Nat} (h:(!Nat.beq a b)=true):a≠b:=by
 intro e; subst e; simp [Nat.beq_refl] at h
theorem sliceOf {t:TypeId} {p:TypeId→Bool} (h:(match P.underlying t with | some (.slice e)=>p e | _=>false)=true):∃ e,P.underlying t=some (.slice e)∧p e=true:=by
 split at h
 ·rename_i e he; exact ⟨e,he,h⟩
 ·cases h
theorem arrayOf {t:TypeId} {p:Nat→TypeId→Bool} (h:(match P.underlying t with | some (.array l e)=>p l e | _=>false)=true):∃ l e,P.underlying t=some (.array l e)∧p l e=true:=by
 split at h
 ·rename_i l e he; exact ⟨l,e,he,h⟩
 ·cases h
theorem stringOf {t:TypeId} (h:(match P.underlying t with | some .string=>true | _=>false)=true):P.underlying t=some .string:=by
 split at h
 ·assumption
 ·cases h
theorem infoOf {t:TypeId} {p:TypeInfo→Bool} (h:(match P.info? t with | some i=>p i | none=>false)=true):∃ i,P.info? t=some i∧p i=true:=by
 split at h
 ·rename_i e he; exact ⟨e,he,h⟩
 ·cases h
theorem isLen_spec {c:Call} {p:TypeId→Bool} {b:Opd} (h:isLen c p b=true):∃ y t,c.callee=.builtin .len∧c.args.toList=[y]∧c.argTypes[0]?=some t∧p t=true∧chkOpd y b=true:=by
 unfold isLen at h
 split at h
 ·rename_i a hcal hargs
  simp only [Bool.and_eq_true] at h
  obtain ⟨h1,h2⟩:=h
  split at h1
  ·rename_i t ht
   exact ⟨a,t,hcal,hargs,ht,h1,h2⟩
  ·cases h1
 ·cases h
theorem isTwo_spec {c:Call} {bl:Builtin→Bool} {x y:Opd} (h:isTwo c bl x y=true):∃ b p q,c.callee=.builtin b∧bl b=true∧c.args.toList=[p,q]∧chkOpd p x=true∧chkOpd q y=true:=by
 unfold isTwo at h
 split at h
 ·rename_i b a b' hcal hargs
  simp only [Bool.and_eq_true] at h
  exact ⟨b,a,b',hcal,h.1.1,hargs,h.1.2,h.2⟩
 ·cases h
set_option maxHeartbeats 4000000 in
theorem op_sound {x:AOp} (hgl:W0Ok P w0) (hr:Rel n base w0 G st a w) (he:ERun (eff P (getL st.slots) x) st.heap v ws rs) (hc:chkOp P o.op x=true):Goes P n base w0 w st a o r v ws:=by
 cases x with
 | mov y =>
  cases hop:o.op <;> rw [hop] at hc <;> simp only [chkOp,chkCall] at hc <;> try (cases hc; done)
  ·obtain ⟨rfl,rfl,rfl⟩:=he; exact go_mov hr (.inl hop) hc
  ·obtain ⟨rfl,rfl,rfl⟩:=he; exact go_mov hr (.inr hop) hc
 | pick c x y =>
  cases hop:o.op <;> rw [hop] at hc <;> simp only [chkOp,chkCall] at hc <;> try (cases hc; done)
  ·simp only [Bool.and_eq_true] at hc; exact go_pick hr hop hc.1.1 hc.1.2 hc.2 he
 | alloc id cs =>
  cases hop:o.op <;> rw [hop] at hc <;> simp only [chkOp,chkCall] at hc <;> try (cases hc; done)
  ·exact go_alloc hr hop hc he
 | s2a k y =>
  cases hop:o.op <;> rw [hop] at hc <;> simp only [chkOp,chkCall] at hc <;> try (cases hc; done)
 | aps id e x y =>
  cases hop:o.op <;> rw [hop] at hc <;> simp only [chkOp,chkCall] at hc <;> try (cases hc; done)
 | usd x =>
  cases hop:o.op <;> rw [hop] at hc <;> simp only [chkOp,chkCall] at hc <;> try (cases hc; done)
 | ust e x y =>
  cases hop:o.op <;> rw [hop] at hc <;> simp only [chkOp,chkCall] at hc <;> try (cases hc; done)
 | alt id t cs =>
  cases hop:o.op <;> rw [hop] at hc <;> simp only [chkOp,chkCall] at hc <;> try (cases hc; done)
 | box id k x =>
  cases hop:o.op <;> rw [hop] at hc <;> simp only [chkOp,chkCall] at hc <;> try (cases hc; done)
  ·simp only [Bool.and_eq_true] at hc; exact go_box hr hop hc.2 he
 | ld ag k x =>
  cases hop:o.op <;> rw [hop] at hc <;> simp only [chkOp,chkCall] at hc <;> try (cases hc; done)
  ·simp only [Bool.and_eq_true,beq_iff_eq] at hc; exact go_ld hgl hr hop hc.1.1 hc.1.2 hc.2 he
 | st k x y =>
  cases hop:o.op <;> rw [hop] at hc <;> simp only [chkOp,chkCall] at hc <;> try (cases hc; done)
  ·simp only [Bool.and_eq_true] at hc; exact go_st hr hop hc.1.1 hc.1.2 hc.2 he
 | arith op k x y =>
  cases hop:o.op <;> rw [hop] at hc <;> simp only [chkOp,chkCall] at hc <;> try (cases hc; done)
  ·simp only [Bool.and_eq_true] at hc; exact go_arith hr hop hc.1.1.1 hc.1.2 hc.2 he
 | cmp op x y =>
  cases hop:o.op <;> rw [hop] at hc <;> simp only [chkOp,chkCall] at hc <;> try (cases hc; done)
  ·simp only [Bool.and_eq_true] at hc; exact go_cmp hr hop hc.1.1.1 hc.1.2 hc.2 he
 | beq neg x y =>
  cases hop:o.op <;> rw [hop] at hc <;> simp only [chkOp,chkCall] at hc <;> try (cases hc; done)
  ·simp only [Bool.and_eq_true] at hc
   refine go_beq hr hop hc.1.1.1 ?_ hc.1.2 hc.2 he
   have:=hc.1.1.2
   unfold boolT at this
   split at this
   ·assumption
   ·cases this
 | seq neg x y =>
  cases hop:o.op <;> rw [hop] at hc <;> simp only [chkOp,chkCall] at hc <;> try (cases hc; done)
  ·simp only [Bool.and_eq_true] at hc; exact go_seq hr hop hc.1.1 hc.1.2 hc.2 he
 | slt op x y =>
  cases hop:o.op <;> rw [hop] at hc <;> simp only [chkOp,chkCall] at hc <;> try (cases hc; done)
 | cat x y =>
  cases hop:o.op with
  | binOp op t p q u =>
   rw [hop] at hc
   cases op <;> simp only [chkOp,chkCall] at hc <;> try (cases hc; done)
   simp only [Bool.and_eq_true] at hc; exact go_cat hr hop hc.1.2 hc.2 he
  | _=>rw [hop] at hc; simp [chkOp,chkCall] at hc
 | not x =>
  cases hop:o.op with
  | unOp op t p =>
   rw [hop] at hc
   cases op <;> simp only [chkOp,chkCall] at hc <;> try (cases hc; done)
   exact go_not hr hop hc he
  | _=>rw [hop] at hc; simp [chkOp,chkCall] at hc
 | conv k x =>
  cases hop:o.op <;> rw [hop] at hc <;> simp only [chkOp,chkCall] at hc <;> try (cases hc; done)
  ·simp only [Bool.and_eq_true] at hc
   obtain ⟨⟨h1,h2⟩,h3⟩:=hc
   split at h1
   ·rename_i ks hks
    split at h2
    ·rename_i k' hk'
     simp at h2
     subst h2
     exact go_conv hr hop hks hk' h3 he
    ·cases h2
   ·cases h1
 | fad off x =>
  cases hop:o.op <;> rw [hop] at hc <;> simp only [chkOp,chkCall] at hc <;> try (cases hc; done)
  ·simp only [Bool.and_eq_true] at hc
   obtain ⟨h1,h2⟩:=hc
   unfold fadOk at h1
   split at h1
   ·rename_i fs h3
    split at h1
    ·rename_i f hf
     simp only [Bool.and_eq_true] at h1
     obtain ⟨ti,h5,h6⟩:=infoOf (p:=fun i=>!Nat.beq i.size 0) h1.2
     exact go_fad hr hop h3 hf (nbeq h1.1) h5 (nbeq_f h6) h2 he
    ·cases h1
   ·cases h1
 | fld ag off k x =>
  cases hop:o.op <;> rw [hop] at hc <;> simp only [chkOp,chkCall] at hc <;> try (cases hc; done)
  ·simp only [Bool.and_eq_true] at hc
   obtain ⟨h1,h2⟩:=hc
   unfold fldOk at h1
   split at h1
   ·rename_i fs h3
    split at h1
    ·rename_i f hf
     simp only [Bool.and_eq_true,beq_iff_eq] at h1
     exact go_fld hr hop h3 hf (nbeq h1.1.1) h1.1.2 h1.2 h2 he
    ·cases h1
   ·cases h1
 | ixa sz x i =>
  cases hop:o.op <;> rw [hop] at hc <;> simp only [chkOp,chkCall] at hc <;> try (cases hc; done)
  ·simp only [Bool.and_eq_true] at hc
   obtain ⟨e,h1,h2⟩:=sliceOf (p:=fun e=>sizeIs P e sz) hc.1.1
   exact go_ixa hr hop h1 h2 hc.1.2 hc.2 he
 | ixp len sz x i =>
  cases hop:o.op <;> rw [hop] at hc <;> simp only [chkOp,chkCall] at hc <;> try (cases hc; done)
  ·simp only [Bool.and_eq_true] at hc
   obtain ⟨l,e,h1,h2⟩:=arrayOf (p:=fun l e=>Nat.beq l len&&sizeIs P e sz) hc.1.1
   simp only [Bool.and_eq_true] at h2
   rw [nbeq h2.1] at h1
   exact go_ixp hr hop h1 h2.2 hc.1.2 hc.2 he
 | ixv ag len sz x i =>
  cases hop:o.op <;> rw [hop] at hc <;> simp only [chkOp,chkCall] at hc <;> try (cases hc; done)
 | ixs x i =>
  cases hop:o.op <;> rw [hop] at hc <;> simp only [chkOp,chkCall] at hc <;> try (cases hc; done)
  ·simp only [Bool.and_eq_true] at hc
   exact go_ixs hr hop (stringOf hc.1.1) hc.1.2 hc.2 he
 | build zero parts =>
  cases hop:o.op <;> rw [hop] at hc <;> simp only [chkOp,chkCall] at hc <;> try (cases hc; done)
  ·simp only [Bool.and_eq_true] at hc
   exact go_build hr hop hc.1.1.1 hc.1.2 hc.2 hc.1.1.2 he
 | bsl id t sz k zero parts =>
  cases hop:o.op <;> rw [hop] at hc <;> simp only [chkOp,chkCall] at hc <;> try (cases hc; done)
  ·simp only [Bool.and_eq_true] at hc
   obtain ⟨⟨⟨⟨⟨h1,h2⟩,h3⟩,h4⟩,h5⟩,h6⟩:=hc
   obtain ⟨e,h7,h8⟩:=sliceOf (p:=fun e'=>Nat.beq e' t&&sizeIs P t sz&&!Nat.beq sz 0) h1
   simp only [Bool.and_eq_true] at h8
   obtain ⟨⟨h9,h10⟩,h11⟩:=h8
   rw [nbeq h9] at h7
   obtain ⟨i,td,hi,hsz,_⟩:=sizeIs_spec h10
   have h12:=nbeq_f h11
   refine go_bsl (z:=(i.zero).getD undef) hr hop h7 hi hsz (by omega) (nbeq h2) (nbeq h3) (Nat.le_of_ble_eq_true h4) ?_ h6 he
   by_cases hk:k=0
   ·exact .inl hk
   ·right
    cases zero with
    | nil=>simp at h3; omega
    | cons d ds =>
     rcases Bool.or_eq_true_iff.1 h5 with h5 | h5
     ·have h13:=h5
      simp only [zerosOk,Bool.and_eq_true] at h13
      obtain ⟨i',z',h14,h15,_,h16⟩:=zeroOk_spec h13.1.1.1
      rw [hi] at h14; cases h14
      exact ⟨by simp [h15],by simp [h15,h16,hsz],.inl h5⟩
     ·simp only [Bool.and_eq_true] at h5
      obtain ⟨⟨p1,p2⟩,p3⟩:=h5
      unfold zeroSz at p3
      rw [hi] at p3
      dsimp only at p3
      split at p3
      ·rename_i z' hz'
       refine ⟨by simp [hz'],by simp [hz']; exact nbeq p3,.inr ⟨nbeq p1,?_⟩⟩
       unfold one0 at p2
       split at p2
       ·rename_i y
        exact ⟨y,rfl⟩
       ·cases p2
      ·cases p3
 | msl id t sz bytes zero x =>
  cases hop:o.op <;> rw [hop] at hc <;> simp only [chkOp,chkCall] at hc <;> try (cases hc; done)
  ·simp only [Bool.and_eq_true] at hc
   obtain ⟨⟨⟨h1,h2⟩,h3⟩,h4⟩:=hc
   obtain ⟨e,h7,h8⟩:=sliceOf (p:=fun e'=>Nat.beq e' t&&sizeIs P t sz&&bytesIs P t bytes&&!Nat.beq sz 0) h1
   simp only [Bool.and_eq_true] at h8
   obtain ⟨⟨⟨h9,h10⟩,h17⟩,h11⟩:=h8
   rw [nbeq h9] at h7
   obtain ⟨i,td,hi,hsz,_⟩:=sizeIs_spec h10
   have h12:=nbeq_f h11
   have h13:=h2
   simp only [zerosOk,Bool.and_eq_true] at h13
   obtain ⟨i',z',h14,h15,_,h16⟩:=zeroOk_spec h13.1.1.1
   rw [hi] at h14; cases h14
   obtain ⟨i'',h18,h19⟩:=infoOf (p:=fun i=>Nat.beq i.bytes bytes) h17
   rw [hi] at h18; cases h18
   exact go_msl hr hop h7 hi h15 hsz (nbeq h19) (by omega) (by omega) h2 h3 h4 he
 | mk0 id t sz bytes c =>
  cases hop:o.op <;> rw [hop] at hc <;> simp only [chkOp,chkCall] at hc <;> try (cases hc; done)
 | mkb id t k bytes z x =>
  cases hop:o.op <;> rw [hop] at hc <;> simp only [chkOp,chkCall] at hc <;> try (cases hc; done)
 | mkf f first caps =>
  cases hop:o.op <;> rw [hop] at hc <;> simp only [chkOp,chkCall] at hc <;> try (cases hc; done)
  ·simp only [Bool.and_eq_true,beq_iff_eq] at hc
   obtain ⟨⟨rfl,h1⟩,h2⟩:=hc
   exact go_mkf hr hop h1 h2 he
 | ext i x =>
  cases hop:o.op <;> rw [hop] at hc <;> simp only [chkOp,chkCall] at hc <;> try (cases hc; done)
  ·simp only [Bool.and_eq_true] at hc
   have:=nbeq hc.1
   subst this
   exact go_ext hr hop hc.2 he
 | slc sz x lo hi =>
  cases hop:o.op <;> rw [hop] at hc <;> simp only [chkOp,chkCall] at hc <;> try (cases hc; done)
 | slw sz x lo hi =>
  cases hop:o.op <;> rw [hop] at hc <;> simp only [chkOp,chkCall] at hc <;> try (cases hc; done)
 | slm sz x lo hi mx =>
  cases hop:o.op <;> rw [hop] at hc <;> simp only [chkOp,chkCall] at hc <;> try (cases hc; done)
 | lenw x =>
  cases hop:o.op <;> rw [hop] at hc <;> simp only [chkOp,chkCall] at hc <;> try (cases hc; done)
 | appw sz x y =>
  cases hop:o.op <;> rw [hop] at hc <;> simp only [chkOp,chkCall] at hc <;> try (cases hc; done)
 | clrw sz z x =>
  cases hop:o.op <;> rw [hop] at hc <;> simp only [chkOp,chkCall] at hc <;> try (cases hc; done)
 | slcs x lo hi =>
  cases hop:o.op with
  | slice t p l h m =>
   rw [hop] at hc
   cases m <;> simp only [chkOp,chkCall] at hc <;> try (cases hc; done)
   simp only [Bool.and_eq_true] at hc
   exact go_slcs hr hop (stringOf hc.1.1.1) hc.1.1.2 hc.1.2 hc.2 he
  | _=>rw [hop] at hc; simp [chkOp,chkCall] at hc
 | nck x =>
  cases hop:o.op <;> rw [hop] at hc <;> simp only [chkOp,chkCall] at hc <;> try (cases hc; done)
 | len x =>
  cases hop:o.op <;> rw [hop] at hc <;> simp only [chkOp,chkCall] at hc <;> try (cases hc; done)
  obtain ⟨y,t,h1,h2,h3,h4,h5⟩:=isLen_spec hc
  unfold sliceT at h4
  split at h4
  ·rename_i e he'
   exact go_len hr hop h1 h2 h3 he' h5 he
  ·cases h4
 | lens x =>
  cases hop:o.op <;> rw [hop] at hc <;> simp only [chkOp,chkCall] at hc <;> try (cases hc; done)
 | app id t sz bytes x y =>
  cases hop:o.op <;> rw [hop] at hc <;> simp only [chkOp,chkCall] at hc <;> try (cases hc; done)
  simp only [Bool.and_eq_true] at hc
  obtain ⟨h0,h6⟩:=hc
  obtain ⟨b,p,q,h1,h2,h3,h4,h5⟩:=isTwo_spec h0
  have hb:b=.append:=by split at h2 <;> simp_all
  subst hb
  unfold appT at h6
  split at h6
  ·rename_i t1 t2 hts
   simp only [Bool.and_eq_true] at h6
   have:=nbeq h6.1
   subst this
   obtain ⟨e,h7,h8⟩:=sliceOf (p:=fun e'=>Nat.beq e' t&&sizeIs P t sz&&bytesIs P t bytes&&!Nat.beq sz 0&&zeroSize P t sz) h6.2
   simp only [Bool.and_eq_true] at h8
   obtain ⟨⟨⟨⟨h9,h10⟩,h11⟩,h12⟩,h13⟩:=h8
   rw [nbeq h9] at h7
   obtain ⟨i,td,hi,hsz,_⟩:=sizeIs_spec h10
   obtain ⟨i'',h18,h19⟩:=infoOf (p:=fun i=>Nat.beq i.bytes bytes) h11
   rw [hi] at h18; cases h18
   unfold zeroSize at h13
   rw [hi] at h13
   simp only at h13
   split at h13
   ·rename_i z hz
    have:=nbeq_f h12
    exact go_app hr hop h1 h3 hts h7 hi hz hsz (nbeq h19) (nbeq h13) (by omega) h4 h5 he
   ·cases h13
  ·cases h6
 | appz id t sz bytes zero x y =>
  cases hop:o.op <;> rw [hop] at hc <;> simp only [chkOp,chkCall] at hc <;> try (cases hc; done)
 | mini x y =>
  cases hop:o.op <;> rw [hop] at hc <;> simp only [chkOp,chkCall] at hc <;> try (cases hc; done)
  obtain ⟨b,p,q,h1,h2,h3,h4,h5⟩:=isTwo_spec hc
  have hb:b=.min:=by split at h2 <;> simp_all
  subst hb
  exact go_mini hr hop h1 h3 h4 h5 he
 | maxi x y =>
  cases hop:o.op <;> rw [hop] at hc <;> simp only [chkOp,chkCall] at hc <;> try (cases hc; done)
  obtain ⟨b,p,q,h1,h2,h3,h4,h5⟩:=isTwo_spec hc
  have hb:b=.max:=by split at h2 <;> simp_all
  subst hb
  exact go_maxi hr hop h1 h3 h4 h5 he
 | call f args =>
  cases hop:o.op <;> rw [hop] at hc <;> simp only [chkOp,chkCall] at hc <;> try (cases hc; done)
  split at hc
  ·rename_i fo hcal
   simp only [Bool.and_eq_true] at hc
   exact go_call hgl hr hop hcal hc.1 hc.2 he
  ·cases hc
 | callv f args =>
  cases hop:o.op <;> rw [hop] at hc <;> simp only [chkOp,chkCall] at hc <;> try (cases hc; done)
  split at hc
  ·rename_i fo hcal
   simp only [Bool.and_eq_true] at hc
   exact go_callv hgl hr hop hcal hc.1 hc.2 he
  ·cases hc
 | calli f args =>
  cases hop:o.op <;> rw [hop] at hc <;> simp only [chkOp,chkCall] at hc <;> try (cases hc; done)
  split at hc
  ·rename_i fo hcal
   simp only [Bool.and_eq_true] at hc
   exact go_calli hgl hr hop hcal hc.1 hc.2 he
  ·cases hc
 | calln rid t sz f args =>
  cases hop:o.op <;> rw [hop] at hc <;> simp only [chkOp,chkCall] at hc <;> try (cases hc; done)
  split at hc
  ·rename_i fo hcal
   simp only [Bool.and_eq_true] at hc
   exact go_calln hgl hr hop hcal hc.1 hc.2 he
  ·cases hc
 | callx ids f args =>
  cases hop:o.op <;> rw [hop] at hc <;> simp only [chkOp,chkCall] at hc <;> try (cases hc; done)
 | callvi f args =>
  cases hop:o.op <;> rw [hop] at hc <;> simp only [chkOp,chkCall] at hc <;> try (cases hc; done)
  split at hc
  ·rename_i fo hcal
   simp only [Bool.and_eq_true] at hc
   exact go_callvi hgl hr hop hcal hc.1 hc.2 he
  ·cases hc
 | mkr f a b =>
  cases hop:o.op <;> rw [hop] at hc <;> simp only [chkOp,chkCall] at hc <;> try (cases hc; done)
  simp only [Bool.and_eq_true,beq_iff_eq] at hc
  obtain ⟨⟨rfl,hc1⟩,hc2⟩:=hc
  exact go_mkr hr hop hc1 hc2 he
 | aeq neg ks x y =>
  cases hop:o.op <;> rw [hop] at hc <;> simp only [chkOp,chkCall] at hc <;> try (cases hc; done)
  simp only [Bool.and_eq_true] at hc
  exact go_aeq hr hop hc.1.1.1 hc.1.1.2 hc.1.2 hc.2 he
 | bit op k x y =>
  cases hop:o.op <;> rw [hop] at hc <;> simp only [chkOp,chkCall] at hc <;> try (cases hc; done)
 | shf op k x y =>
  cases hop:o.op <;> rw [hop] at hc <;> simp only [chkOp,chkCall] at hc <;> try (cases hc; done)
  simp only [Bool.and_eq_true] at hc
  exact go_shf hr hop hc.1.1.1.1 hc.1.2 hc.2 he
 | neg k x =>
  cases hop:o.op with
  | unOp u t p =>
   rw [hop] at hc
   cases u <;> simp only [chkOp,chkCall] at hc <;> try (cases hc; done)
   simp only [Bool.and_eq_true] at hc
   exact go_neg hr hop hc.2 he
  | _=>rw [hop] at hc; simp [chkOp,chkCall] at hc
 | isnil neg x =>
  cases hop:o.op <;> rw [hop] at hc <;> simp only [chkOp,chkCall] at hc <;> try (cases hc; done)
  simp only [Bool.and_eq_true] at hc
  obtain ⟨⟨⟨h1,h2⟩,h3⟩,h4⟩:=hc
  unfold sliceT at h2
  split at h2
  ·rename_i e hu
   exact go_isnil hr hop h1 hu h3 h4 he
  ·cases h2
 | b2s x =>
  cases hop:o.op <;> rw [hop] at hc <;> simp only [chkOp,chkCall] at hc <;> try (cases hc; done)
  simp only [Bool.and_eq_true] at hc
  obtain ⟨⟨h1,h2⟩,h3⟩:=hc
  unfold byteSliceT at h1
  split at h1
  ·rename_i e hu
   split at h1
   ·rename_i hu8
    unfold stringT at h2
    split at h2
    ·rename_i ht
     exact go_b2s hr hop hu hu8 ht h3 he
    ·cases h2
   ·cases h1
  ·cases h1
 | copy sz x y =>
  cases hop:o.op <;> rw [hop] at hc <;> simp only [chkOp,chkCall] at hc <;> try (cases hc; done)
  unfold isCopy at hc
  split at hc
  ·rename_i p q t hcal hargs ht
   simp only [Bool.and_eq_true] at hc
   obtain ⟨⟨h1,h2⟩,h3⟩:=hc
   split at h3
   ·rename_i e hu
    simp only [Bool.and_eq_true] at h3
    exact go_copy hr hop hcal hargs ht hu h3.1 h1 h2 he
   ·cases h3
  ·cases hc
 | copyw sz x y =>
  cases hop:o.op <;> rw [hop] at hc <;> simp only [chkOp,chkCall] at hc <;> try (cases hc; done)
 | cbx id k x =>
  cases hop:o.op <;> rw [hop] at hc <;> simp only [chkOp,chkCall] at hc <;> try (cases hc; done)
  simp only [Bool.and_eq_true] at hc
  exact go_cbx hr hop hc.2 he
 | sla len x lo hi =>
  cases hop:o.op with
  | slice t p l h m =>
   rw [hop] at hc
   cases m <;> simp only [chkOp,chkCall] at hc <;> try (cases hc; done)
   simp only [Bool.and_eq_true] at hc
   obtain ⟨l',e,h1,h2⟩:=arrayOf (p:=fun l e=>Nat.beq l len&&sizeIs P e 1) hc.1.1.1
   simp only [Bool.and_eq_true] at h2
   rw [nbeq h2.1] at h1
   exact go_sla hgl hr hop h1 h2.2 hc.1.1.2 hc.1.2 hc.2 he
  | _=>rw [hop] at hc; simp [chkOp,chkCall] at hc
 | slv len x lo hi =>
  cases hop:o.op with
  | slice t p l h m =>
   rw [hop] at hc
   cases m <;> simp only [chkOp,chkCall] at hc <;> try (cases hc; done)
   simp only [Bool.and_eq_true] at hc
   obtain ⟨l',e,h1,h2⟩:=arrayOf (p:=fun l e=>Nat.beq l len&&sizeIs P e 1) hc.1.1.1
   simp only [Bool.and_eq_true] at h2
   rw [nbeq h2.1] at h1
   exact go_slv hr hop h1 h2.2 hc.1.1.2 hc.1.2 hc.2 he
  | _=>rw [hop] at hc; simp [chkOp,chkCall] at hc
 | rng id x =>
  cases hop:o.op <;> rw [hop] at hc <;> simp only [chkOp,chkCall] at hc <;> try (cases hc; done)
  simp only [Bool.and_eq_true] at hc
  obtain ⟨h1,h2⟩:=hc
  unfold stringT at h1
  split at h1
  ·rename_i hu
   exact go_rng hr hop hu h2 he
  ·cases h1
 | nxt x =>
  cases hop:o.op <;> rw [hop] at hc <;> simp only [chkOp,chkCall] at hc <;> try (cases hc; done)
 | i2s x =>
  cases hop:o.op <;> rw [hop] at hc <;> simp only [chkOp,chkCall] at hc <;> try (cases hc; done)
 | mkm id =>
  cases hop:o.op with
  | makeMap t m =>
   rw [hop] at hc
   cases m <;> simp only [chkOp,chkCall] at hc <;> try (cases hc; done)
   exact go_mkm hr hop he
  | _=>rw [hop] at hc; simp [chkOp,chkCall] at hc
 | lkps ks zero comma x y =>
  cases hop:o.op <;> rw [hop] at hc <;> simp only [chkOp,chkCall] at hc <;> try (cases hc; done)
  simp only [Bool.and_eq_true,beq_iff_eq] at hc
  obtain ⟨⟨⟨h1,rfl⟩,h2⟩,h3⟩:=hc
  exact go_lkps hr hop h1 h2 h3 he
 | mpus ks x y z =>
  cases hop:o.op <;> rw [hop] at hc <;> simp only [chkOp,chkCall] at hc <;> try (cases hc; done)
  all_goals simp only [Bool.and_eq_true] at hc
  all_goals exact go_mpus hr hop hc.1.1.1 hc.1.1.2 hc.1.2 hc.2 he
 | rngm id x =>
  cases hop:o.op <;> rw [hop] at hc <;> simp only [chkOp,chkCall] at hc <;> try (cases hc; done)
  simp only [Bool.and_eq_true] at hc
  obtain ⟨h1,h2⟩:=hc
  unfold mapT at h1
  split at h1
  ·rename_i kt et hu
   exact go_rngm hr hop hu h2 he
  ·cases h1
 | nxm x =>
  cases hop:o.op with
  | next p s =>
   rw [hop] at hc
   cases s <;> simp only [chkOp,chkCall] at hc <;> try (cases hc; done)
   exact go_nxm (ty:=o.type) hr hop hc he
  | _=>rw [hop] at hc; simp [chkOp,chkCall] at hc
 | ent x =>
  cases hop:o.op <;> rw [hop] at hc <;> simp only [chkOp,chkCall] at hc <;> try (cases hc; done)
  exact go_ent hr hop hc he
 | sln sz x hi mx =>
  cases hop:o.op <;> rw [hop] at hc <;> simp only [chkOp,chkCall] at hc <;> try (cases hc; done)
 | lkp ck zero comma x y =>
  cases hop:o.op <;> rw [hop] at hc <;> simp only [chkOp,chkCall] at hc <;> try (cases hc; done)
 | mpu ck x y z =>
  cases hop:o.op <;> rw [hop] at hc <;> simp only [chkOp,chkCall] at hc <;> try (cases hc; done)
 | lenm x =>
  cases hop:o.op <;> rw [hop] at hc <;> simp only [chkOp,chkCall] at hc <;> try (cases hc; done)
end
end Vc
