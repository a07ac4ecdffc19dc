import Derived.Test.YtmffgalmdnpcgaaGreatDoorG24
import Derived.Test.YtmffgalmdnpcgaaGreatDoorG07
import Derived.Sort.OwnSortedInts
import Derived.Lib.SlicesCompact
set_option linter.unusedSectionVars false
set_option linter.unusedVariables false
set_option linter.unusedSimpArgs false
set_option maxRecDepth 10000
set_option maxHeartbeats 4000000
namespace Vc
open Go Go.Proofs
end Vc
set_option linter.unusedVariables false
namespace Vc
open Go Go.RowKit Go.Sort Go.Proofs
def srtI (zs:List Int):List Int:=zs.mergeSort fun x y=>decide (x≤y)
theorem srtI_len (zs:List Int):(srtI zs).length=zs.length:=List.length_mergeSort zs
theorem srtI_mem (zs:List Int) (e:Int):e∈srtI zs↔e∈zs:=List.mem_mergeSort
theorem srtI_sorted (zs:List Int):(srtI zs).Pairwise (·≤·):=by
 have h:=List.pairwise_mergeSort (le:=fun x y:Int=>decide (x≤y)) (fun a b c h1 h2=>by simp at *; omega) (fun a b=>by simp; omega) zs
 exact h.imp fun h=>by simpa using h
theorem DXs_ints {w:World} {S:Nat→Nat→Prop}:∀ {zs:List Int} {xs:List Value},DXs w S (zs.map (Data.int .i64)) 1 xs↔xs=zs.map (Value.int .i64)
 | [],xs=>by simp [DXs]
 | z::zs,xs=>by
  simp only [List.map_cons,DXs]
  constructor
  ·rintro ⟨x,r,rfl,hx,hd,hr⟩
   rw [DXs_ints.1 hr]
   match x,hx with
   | [v],_ =>
    simp [Data.cells,DRels,DRel] at hd
    obtain ⟨v',r',⟨e1,_⟩,_,e2,_⟩:=hd
    rw [e1,e2]; rfl
  ·rintro rfl
   refine ⟨[.int .i64 z],zs.map (Value.int .i64),rfl,rfl,?_,DXs_ints.2 rfl⟩
   simp [Data.cells,DRels,DRel]
   exact ⟨_,_,⟨rfl,rfl⟩,rfl,rfl,rfl⟩
theorem inplace_callIn {P : Program} [Laid P] {f : FuncId} {h : List AObj} {id t : Nat} {zs ts : List Int} {v : AVal} {res : Nat → Nat → Value} (hf : HasFn P f)
  (hc:∀ (blk cap:Nat) (w:World),Holds (Value.int .i64) w blk 0 zs.toArray→blk < w.heap.size→zs.length≤cap →
   Calls P f #[.slice (some ⟨blk,0,none⟩) zs.length cap] w fun e w'=>e=.returned (res blk cap)∧∃ n os,w'=grow (putRow (Value.int .i64) (Sort.ahead w n) blk 0 ts.toArray) os)
  (hl:ts.length=zs.length) (hh:h[id]?=some (.row t 1 (zs.map (Data.int .i64)) false)) (h0:0 < zs.length)
  (hv:∀ (w':World) (G':Gh) (blk cap:Nat),G'.val id=.slice (some ⟨blk,0,none⟩) zs.length cap→VRel w' G' (h.set id (.row t 1 (ts.map (Data.int .i64)) false)) v (res blk cap)) :
  CallIn P f [.sl id zs.length] h v (h.set id (.row t 1 (ts.map (Data.int .i64)) false)):=by
 refine ⟨hf,by rw [List.length_set],fun n base w0 G slots a w vs hgl hr hvs=>?_⟩
 have hlt:id < h.length:=(List.getElem?_eq_some_iff.1 hh).1
 simp only [VRels] at hvs
 obtain ⟨v1,r,rfl,hv1,rfl⟩:=hvs
 simp only [VRel] at hv1
 obtain ⟨t',sz',es',fz',e1,_,e2⟩:=hv1
 rw [hh] at e1; cases e1
 have e2:=e2 (by simp)
 obtain ⟨_,xs,hown,hdx⟩:=hr.objs id _ hh
 have hxs:=DXs_ints.1 hdx
 subst hxs
 rcases hown.2 with ⟨_,h3⟩ | ⟨g,cap,cur,h3,h4,h5,h6,h7,h8,h9⟩
 ·rw [List.length_map] at h3; omega
 ·rw [List.length_map] at h3 h6 h9
  rw [Nat.mul_one] at h9
  have hg:g < w.heap.size:=(Array.getElem?_eq_some_iff.1 h5).1
  have hb:blockOf (G.val id)=some g:=by rw [h3]; rfl
  rw [e2,h3]
  refine (hc g cap w (holds_of_blockI h5 h9) hg h6).mono ?_
  rintro e w' ⟨rfl,k,os,rfl⟩
  have hno:∀ off,¬ G.S g off:=fun off=>hr.free id _ g off hh hb (fun h=>by cases h)
  have h:=hr.upd (o':=.row t 1 (ts.map (Data.int .i64)) false) (v':=G.val id) (S':=G.S) (row:=some g) (w':=grow (putRow (Value.int .i64) (Sort.ahead w k) g 0 ts.toArray) os) hh
   (.inr ⟨by simp,hb.symm⟩) (fun _ _ h=>h) (fun _ _ h=>.inl h) (grownBy_sortedI _)
   (fun b off hs hbb=>by cases hbb; exact absurd hs (hno off))
   (fun b hbb=>.inl ⟨by simp,hbb⟩)
   ⟨rfl,rfl,by simp [hl],fun _=>rfl⟩
   (fun hx=>by
    refine ⟨by decide,ts.map (Value.int .i64),?_,DXs_ints.2 rfl⟩
    rw [show (⟨G.S,Vc.upd G.val id (G.val id)⟩:Gh).val id=G.val id from upd_same _ _ _,h3,List.length_map,hl]
    exact ownsRow_sortedI hl h4 h5 h6 h7 h8)
   (fun b off hbb _ hs=>by rw [hb] at hbb; cases hbb; exact hno off hs)
   (fun b off hs=>Nat.lt_of_lt_of_le (hr.lim b off hs) (grownBy_sortedI (w:=w) (g:=g) (n:=k) (os:=os) ts.toArray).size)
  exact ⟨_,⟨G.S,Vc.upd G.val id (G.val id)⟩,rfl,h.1,h.2,hv _ _ g cap (by rw [show (⟨G.S,Vc.upd G.val id (G.val id)⟩:Gh).val id=G.val id from upd_same _ _ _,h3])⟩
theorem sort_callIn {P : Program} [Laid P] {f : FuncId} (hf : HasFn P f)
  (hc:∀ (blk off cap:Nat) (zs:List Int) (w:World),Holds (Value.int .i64) w blk off zs.toArray→blk < w.heap.size→zs.length < 4611686018427387904 →
   Calls P f #[.slice (some ⟨blk,off,none⟩) zs.length cap] w fun e w'=>e=.returned (.tuple #[])∧∃ n os,w'=grow (putRow (Value.int .i64) (Sort.ahead w n) blk off (zs.mergeSort fun x y=>decide (x≤y)).toArray) os)
  {h:List AObj} {id t:Nat} {zs:List Int} (hh:h[id]?=some (.row t 1 (zs.map (Data.int .i64)) false)) (h0:0 < zs.length) (h1:zs.length < 4611686018427387904) :
  CallIn P f [.sl id zs.length] h (.tup []) (h.set id (.row t 1 ((srtI zs).map (Data.int .i64)) false)) :=
 inplace_callIn (res:=fun _ _=>.tuple #[]) hf (fun blk cap w hH hb _=>hc blk 0 cap zs w hH hb h1) (srtI_len zs) hh h0 (fun _ _ _ _ _=>by
  simp only [VRel]
  exact ⟨[],rfl,by simp [VRels]⟩)
theorem cmp_len (zs:List Int):(Lib.compact zs).length≤zs.length:=by
 unfold Lib.compact Lib.compactUpTo
 rw [List.length_map]
 exact Nat.le_trans (List.length_filter_le _ _) (by simp)
theorem cmp_mem (zs:List Int) (e:Int):e∈Lib.compact zs↔e∈zs:=by
 unfold Lib.compact Lib.compactUpTo
 constructor
 ·intro h
  obtain ⟨j,hj,rfl⟩:=List.mem_map.1 h
  have hj:=List.mem_range.1 (List.mem_filter.1 hj).1
  have:zs.toArray[j]! = zs[j]:=by simp [hj]
  rw [this]
  exact List.getElem_mem hj
 ·intro h
  obtain ⟨j,hj,he⟩:=List.mem_iff_getElem.1 h
  have key:∀ j,∀ hj:j < zs.length,zs[j]=e→∃ i,i < zs.length∧Lib.keeps zs.toArray i=true∧zs.toArray[i]! = e:=by
   intro j
   induction j with
   | zero=>intro hj he; exact ⟨0,hj,by simp [Lib.keeps],by simp [hj,he]⟩
   | succ j ih =>
    intro hj he
    by_cases hk:zs[j]=e
    ·exact ih (by omega) hk
    ·refine ⟨j+1,hj,?_,by simp [hj,he]⟩
     have h1:zs.toArray[j+1]! = zs[j+1]:=by simp [hj]
     have h2:zs.toArray[j]! = zs[j]:=by simp [show j < zs.length by omega]
     simp only [Lib.keeps,Nat.add_sub_cancel,decide_eq_true_eq]
     right
     rw [h1,h2,he]
     exact fun e2=>hk e2.symm
  obtain ⟨i,h1,h2,h3⟩:=key j hj he
  exact List.mem_map.2 ⟨i,List.mem_filter.2 ⟨List.mem_range.2 h1,h2⟩,h3⟩
theorem cmp_sorted (zs:List Int) (hs:zs.Pairwise (·≤·)):(Lib.compact zs).Pairwise (· < ·):=by
 unfold Lib.compact Lib.compactUpTo
 rw [List.pairwise_map]
 have hr:((List.range zs.length).filter (Lib.keeps zs.toArray)).Pairwise (· < ·):=(List.pairwise_lt_range).filter _
 refine List.Pairwise.imp_of_mem (fun {i j} hi hj hij=>?_) hr
 have hj1:=List.mem_range.1 (List.mem_filter.1 hj).1
 have hj2:=(List.mem_filter.1 hj).2
 simp only [Lib.keeps,decide_eq_true_eq] at hj2
 have h1:zs.toArray[i]! = zs[i]:=by simp [show i < zs.length by omega]
 have h2:zs.toArray[j]! = zs[j]:=by simp [hj1]
 have h3:zs.toArray[j - 1]! = zs[j - 1]:=by simp [show j - 1 < zs.length by omega]
 rw [h2,h3] at hj2
 rw [h1,h2]
 have h4:zs[i]≤zs[j - 1]:=by
  by_cases e:i=j - 1
  ·subst e; exact Int.le_refl _
  ·exact List.pairwise_iff_getElem.1 hs i (j - 1) (by omega) (by omega) (by omega)
 have h5:zs[j - 1]≤zs[j]:=List.pairwise_iff_getElem.1 hs (j - 1) j (by omega) (by omega) (by omega)
 rcases hj2 with h6 | h6
 ·omega
 ·omega
theorem grow_nil (w:World):grow w #[]=w:=by cases w; simp [grow]
theorem compact_callIn {P : Program} [Laid P] {f : FuncId} (hf : HasFn P f)
  (hc:∀ (blk off cap:Nat) (zs:List Int) (w:World),Holds (Value.int .i64) w blk off zs.toArray→zs.length≤9223372036854775807→zs.length≤cap →
   Calls P f #[.slice (some ⟨blk,off,none⟩) zs.length cap] w fun e w'=>e=.returned (.slice (some ⟨blk,off,none⟩) (Lib.compact zs).length cap)∧∃ q,w'=putRow (Value.int .i64) (Sort.ahead w q) blk off (Lib.compact zs++List.replicate (zs.length - (Lib.compact zs).length) 0).toArray)
  {h:List AObj} {id t:Nat} {zs:List Int} (hh:h[id]?=some (.row t 1 (zs.map (Data.int .i64)) false)) (h0:0 < zs.length) (h1:zs.length < 4611686018427387904) :
  CallIn P f [.sl id zs.length] h (.d (.slice 1 ((Lib.compact zs).map (Data.int .i64)))) (h.set id (.row t 1 ((Lib.compact zs++List.replicate (zs.length - (Lib.compact zs).length) 0).map (Data.int .i64)) true)):=by
 have hcl:=cmp_len zs
 have hl:(Lib.compact zs++List.replicate (zs.length - (Lib.compact zs).length) 0).length=zs.length:=by
  rw [List.length_append,List.length_replicate]; omega
 have hlt:id < h.length:=(List.getElem?_eq_some_iff.1 hh).1
 have h2:=inplace_callIn (v:=.rv id zs.length 0 (Lib.compact zs).length) (res:=fun blk cap=>.slice (some ⟨blk,0,none⟩) (Lib.compact zs).length cap) hf
  (fun blk cap w hH hb hcap=>(hc blk 0 cap zs w hH (by omega) hcap).mono (by
   rintro e w' ⟨h1,q,rfl⟩
   exact ⟨h1,q,#[],(grow_nil _).symm⟩)) hl hh h0 (fun w' G' blk cap hval=>by
  simp only [VRel]
  refine ⟨t,1,_,false,by rw [List.getElem?_set_self hlt],by rw [List.length_map,hl]; exact Nat.le_refl _,fun _=>⟨blk,cap,hval,some ⟨blk,0,none⟩,Nat.zero_le _,hcl,fun _=>by rw [Nat.zero_mul],by simp⟩⟩)
 have h3:=callIn_win h2 (by rw [List.getElem?_set_self hlt]) (by rw [List.length_map,hl])
 rw [List.set_set] at h3
 have e:((Lib.compact zs++List.replicate (zs.length - (Lib.compact zs).length) 0).map (Data.int .i64)).take (Lib.compact zs).length=(Lib.compact zs).map (Data.int .i64):=by
  rw [← List.map_take,List.take_left' rfl]
 rw [e] at h3
 exact h3
end Vc
