import Derived.Test.YtmjbifmndhianaaGreatDoorG07
import Derived.Shelf.Strings.Builder1
import Derived.Shelf.Strings.Builder2
import Derived.Shelf.Strings.OnBuilder
import Derived.Shelf.Small.Bits
import Derived.Shelf.Small.Strs
import Derived.Shelf.Small.Wraps
import Derived.Shelf.Strings.BuilderF
import Derived.Shelf.Strings.BuilderK
import Derived.Shelf.Utf8.RuneCount
import Derived.Shelf.Strings.Builder2Cap
import Derived.Shelf.Strconv.Itoa0
import Derived.Shelf.Strconv.Itoa1
import Derived.Shelf.LaysM
import Derived.Shelf.Strconv.Itoa2
import Derived.Shelf.Strconv.Itoa3
import Derived.Shelf.Strings.Search1
import Derived.Shelf.Strings.Search2
import Derived.Shelf.Strings.Search3
import Derived.Shelf.Strings.Count
import Derived.Shelf.Strings.Shaped
import Derived.Shelf.Sort.Plain
import Derived.Shelf.Strings.Prefix
import Derived.Shelf.Strings.Split
import Derived.Shelf.Strings.SplitShaped
import Derived.Shelf.Unicode.Decode
import Derived.Shelf.Strings.RuneCount
import Derived.Shelf.Strings.Explode
import Derived.Shelf.Unicode.DecodeSlow
import Derived.Shelf.Unicode.DecodeAny
import Derived.Shelf.Strings.BuilderCap
import Derived.Ground.Names2Prog
import Derived.Shelf.Slices.SearchI
import Derived.Shelf.Slices.In.SortNone
import Derived.Test.YtmjbifmndhianaaGreatDoorProg
import Derived.Test.YtmjbifmndhianaaGreatDoorG05
set_option linter.unusedSectionVars false
set_option linter.unusedVariables false
set_option linter.unusedSimpArgs false
set_option linter.unusedVariables false
namespace Vc
open Go Go.RowKit Go.Proofs
theorem setCell_row {w:World} {b:Nat} {arr:Array Value} {t:TypeId} {fr:Nat × Nat} (hb:w.heap[b]?=some (.cells arr t fr)) (v:Value):w.setCell ⟨b,0,none⟩ v=w.setRow b (arr.setIfInBounds 0 v):=by
 unfold World.setCell World.setRow
 congr 1
 apply Array.ext_getElem?
 intro i
 simp only [Array.getElem?_modify]
 by_cases hi:b=i
 ·subst hi
  simp [hb]
 ·simp [hi]
theorem copyCheck_used {P : Program} [Laid P] {f : FuncId} {T : Nat} (hf : HasFn P f)
  (hc:∀ (b:Nat) (w:World),w.cell? ⟨b,0,none⟩=some (.pointer (some ⟨b,0,none⟩))→Calls P f #[.pointer (some ⟨b,0,none⟩)] w fun e w'=>e=.returned (.tuple #[])∧w'=w)
  {h:List AObj} {id:Nat} {c:AVal} (hh:h[id]?=some (.tbox T [.tp id 0,c])):CallIn P f [.tp id 0] h (.tup []) h:=by
 refine ⟨hf,rfl,fun n base w0 G slots a w vs hgl hr hvs=>?_⟩
 simp only [VRels] at hvs
 obtain ⟨v1,r,rfl,hv1,rfl⟩:=hvs
 simp only [VRel] at hv1
 obtain ⟨b,_,_,_,e2,rfl⟩:=hv1
 obtain ⟨b',arr,e3,_,h4,h5,_⟩:=hr.objs id _ hh
 rw [e2] at e3; cases e3
 have hl:arr.size=2:=by have:=VRels_length h5; simpa using this
 have h6:arr[0]?=some (.pointer (some ⟨b,0,none⟩)):=by
  simp only [VRels,VRel] at h5
  obtain ⟨u,r,e,⟨b2,_,_,_,e4,rfl⟩,_⟩:=h5
  rw [e2] at e4; cases e4
  rw [← Array.getElem?_toList,e]; rfl
 refine (hc b w (by rw [Go.Lib.cell_of_heap h4,h6])).mono ?_
 rintro e w' ⟨rfl,rfl⟩
 exact ⟨_,G,rfl,Ext.refl _ _ _,hr,by simp only [VRel]; exact ⟨[],rfl,by simp [VRels]⟩⟩
theorem copyCheck_fresh {P : Program} [Laid P] {f : FuncId} {T : Nat} (hf : HasFn P f)
  (hc:∀ (b:Nat) (w:World),w.cell? ⟨b,0,none⟩=some (.pointer none)→w.shape? b=some (T,2)→w.frozen? ⟨b,0,none⟩=false→Calls P f #[.pointer (some ⟨b,0,none⟩)] w fun e w'=>e=.returned (.tuple #[])∧w'=w.setCell ⟨b,0,none⟩ (.pointer (some ⟨b,0,none⟩)))
  {h:List AObj} {id:Nat} {c:AVal} (hh:h[id]?=some (.tbox T [.nilp,c])):CallIn P f [.tp id 0] h (.tup []) (h.set id (.tbox T [.tp id 0,c])):=by
 refine ⟨hf,by rw [List.length_set],fun n base w0 G slots a w vs hgl hr hvs=>?_⟩
 have hlt:id < h.length:=(List.getElem?_eq_some_iff.1 hh).1
 simp only [VRels] at hvs
 obtain ⟨v1,r,rfl,hv1,rfl⟩:=hvs
 simp only [VRel] at hv1
 obtain ⟨b,_,_,_,e2,rfl⟩:=hv1
 obtain ⟨b',arr,e3,hbase,h4,h5,h9⟩:=hr.objs id _ hh
 rw [e2] at e3; cases e3
 simp only [VRels,VRel] at h5
 obtain ⟨u,r,e,rfl,u2,r2,rfl,h7,rfl⟩:=h5
 have harr:arr=#[.pointer none,u2]:=by rw [← Array.toArray_toList (xs:=arr),e]
 subst harr
 refine (hc b w (by rw [Go.Lib.cell_of_heap h4]; rfl) (by simp [World.shape?,h4]) (by simp [World.frozen?,h4])).mono ?_
 rintro e w' ⟨rfl,rfl⟩
 rw [setCell_row h4]
 have h12:=hr.upd (o':=.tbox T [.tp id 0,c]) (v':=G.val id) (S':=G.S) (row:=blockOf (G.val id))
  (w':=w.setRow b #[.pointer (some ⟨b,0,none⟩),u2]) hh (.inr ⟨by simp,rfl⟩) (fun _ _ h=>h) (fun _ _ h=>.inl h)
  ⟨rfl,rfl,rfl,by simp [World.setRow],fun k _ hk=>setRow_other w b k _ (fun e=>hk (by rw [e2,e]; rfl))⟩
  (fun b1 off1 hS hb1=>absurd hS (hr.free id _ b1 off1 hh hb1 trivial)) (fun b1 hb1=>.inl ⟨by simp,hb1⟩) ⟨rfl,rfl⟩
  (fun hx => ⟨b, _, (upd_same _ _ _).trans e2, hbase, setRow_heap w b _ _ T _ h4, by
    simp only [VRels]
    refine ⟨_,_,rfl,?_,_,_,rfl,VRel_mono hx _ h7,rfl⟩
    simp only [VRel]
    exact ⟨b,T,[.tp id 0,c],by simp [hlt],(upd_same _ _ _).trans e2,rfl⟩,
   by
    intro u hu
    simp only [List.mem_cons,List.not_mem_nil,or_false] at hu
    rcases hu with rfl | rfl
    ·rfl
    ·exact h9 _ (by simp)⟩)
  (fun b1 off1 hb1 _ hS=>hr.free id _ b1 off1 hh hb1 trivial hS) (fun b1 off1 hS=>by have:=hr.lim b1 off1 hS; simpa [World.setRow] using this)
 exact ⟨_,⟨G.S,Vc.upd G.val id (G.val id)⟩,rfl,h12.1,h12.2,by simp only [VRel]; exact ⟨[],rfl,by simp [VRels]⟩⟩
end Vc
namespace Go.Proofs
open Go.Shelf
def Tryz.lays156_ren:Go.Shelf.Ren:=⟨fun | 156=>151 | 165=>170 | 166=>130 | 169=>133 | 240=>150 | 241=>189 | 276=>169 | 277=>203 | n=>n,fun | 31=>100 | 9=>9 | 3=>3 | 4=>4 | 0=>0 | 20=>20 | 72=>216 | 76=>219 | 70=>214 | 37=>152 | 75=>218 | 127=>252 | 164=>267 | 5=>5 | 80=>223 | n=>n,fun | n=>n⟩
theorem Tryz.lays156:Go.Proofs.Lays.n156 Tryz.prog Tryz.lays156_ren:={
 mixed:=by kernel_rfl
 f156:=Tryz.func151.trans (congrArg some (by kernel_rfl))
 f165:=Tryz.func170.trans (congrArg some (by kernel_rfl))
 f166:=Tryz.func130.trans (congrArg some (by kernel_rfl))
 f169:=Tryz.func133.trans (congrArg some (by kernel_rfl))
 f240:=Tryz.func150.trans (congrArg some (by kernel_rfl))
 f241:=Tryz.func189.trans (congrArg some (by kernel_rfl))
 f276:=Tryz.func169.trans (congrArg some (by kernel_rfl))
 f277:=Tryz.func203.trans (congrArg some (by kernel_rfl))
 t0:=Tryz.underlying0
 a0:=Tryz.isAgg0
 z0:=Tryz.sizeOf0
 v0:=Tryz.zeroValue0
 t3:=Tryz.underlying3
 a3:=Tryz.isAgg3
 z3:=Tryz.sizeOf3
 v3:=Tryz.zeroValue3
 t4:=Tryz.underlying4
 a4:=Tryz.isAgg4
 z4:=Tryz.sizeOf4
 v4:=Tryz.zeroValue4
 t9:=Tryz.underlying9
 a9:=Tryz.isAgg9
 z9:=Tryz.sizeOf9
 v9:=Tryz.zeroValue9
 t20:=Tryz.underlying20
 a20:=Tryz.isAgg20
 z20:=Tryz.sizeOf20
 v20:=Tryz.zeroValue20
 t31:=Tryz.underlying100
 a31:=Tryz.isAgg100
 z31:=Tryz.sizeOf100
 v31:=Tryz.zeroValue100
 t37:=Tryz.underlying152
 a37:=Tryz.isAgg152
 z37:=Tryz.sizeOf152
 v37:=Tryz.zeroValue152
 t70:=Tryz.underlying214
 a70:=Tryz.isAgg214
 z70:=Tryz.sizeOf214
 v70:=Tryz.zeroValue214
 t72:=Tryz.underlying216
 a72:=Tryz.isAgg216
 z72:=Tryz.sizeOf216
 v72:=Tryz.zeroValue216
 t75:=Tryz.underlying218
 a75:=Tryz.isAgg218
 z75:=Tryz.sizeOf218
 v75:=Tryz.zeroValue218
 t76:=Tryz.underlying219
 a76:=Tryz.isAgg219
 z76:=Tryz.sizeOf219
 v76:=Tryz.zeroValue219
 t127:=Tryz.underlying252
 a127:=Tryz.isAgg252
 z127:=Tryz.sizeOf252
 v127:=Tryz.zeroValue252
 t164:=Tryz.underlying267
 a164:=Tryz.isAgg267
 z164:=Tryz.sizeOf267
 v164:=Tryz.zeroValue267 }
theorem Tryz.Builder_Extra_156:Builder.Extra Tryz.prog Tryz.lays156_ren:={
 sizeBuilder:=by kernel_rfl
 liesBuilder:=by kernel_rfl
 t5:=Tryz.underlying5
 a5:=Tryz.isAgg5
 z5:=Tryz.sizeOf5
 v5:=Tryz.zeroValue5
 infoByte:=by kernel_rfl
 cellsByte:=by kernel_rfl
 sizeByte:=by kernel_rfl
 neB5:=by decide }
open Go.RowKit in
theorem Tryz.strings_Join_none (a : Option Addr) (c : Nat) (sep : ByteArray) (w : World) :
  Calls Tryz.prog 151 #[.slice a 0 c,.string sep] w fun e w'=>e=.returned (.string ⟨#[]⟩)∧w'=w:=Any.strings_Join_none Tryz.lays156 Tryz.Builder_Extra_156 a c sep w
open Go.RowKit in
theorem Tryz.strings_Join (bk o c : Nat) (xs : List ByteArray) (sep : ByteArray) (w : World) (hcells : ∀ (j : Nat) x, xs[j]? = some x → w.cell? ⟨bk, o + j, none⟩ = some (.string x)) (hbk : bk < w.heap.size) (hN : xs.length ≤ 140737488355328) (hcap : xs.length ≤ c) (hlen : (Lib.join (xs.map (·.data.toList)) sep.data.toList).length ≤ 140737488355328) :
  Calls Tryz.prog 151 #[.slice (some ⟨bk,o,none⟩) xs.length c,.string sep] w fun e w'=>e=.returned (.string ⟨(Lib.join (xs.map (·.data.toList)) sep.data.toList).toArray⟩)∧Below w.heap.size w w':=Any.strings_Join Tryz.lays156 Tryz.Builder_Extra_156 bk o c xs sep w hcells hbk hN hcap hlen
def Tryz.lays189_ren:Go.Shelf.Ren:=⟨fun | 189=>141 | 125=>162 | 257=>161 | 128=>186 | 129=>187 | 294=>177 | 295=>178 | 296=>179 | 297=>180 | 298=>181 | 299=>182 | 216=>183 | 300=>184 | 301=>185 | 328=>197 | 329=>198 | 330=>199 | 331=>200 | 332=>201 | 215=>202 | 343=>214 | n=>n,fun | 28=>24 | 3=>3 | 46=>239 | 0=>0 | 51=>128 | 53=>282 | 4=>4 | 183=>274 | 182=>273 | 131=>183 | 5=>5 | 9=>9 | 218=>288 | 222=>292 | 228=>301 | 229=>91 | n=>n,fun | n=>n⟩
theorem Tryz.lays189:Go.Proofs.Lays.n189 Tryz.prog Tryz.lays189_ren:={
 mixed:=by kernel_rfl
 f125:=Tryz.func162.trans (congrArg some (by kernel_rfl))
 f128:=Tryz.func186.trans (congrArg some (by kernel_rfl))
 f129:=Tryz.func187.trans (congrArg some (by kernel_rfl))
 f189:=Tryz.func141.trans (congrArg some (by kernel_rfl))
 f215:=Tryz.func202.trans (congrArg some (by kernel_rfl))
 f216:=Tryz.func183.trans (congrArg some (by kernel_rfl))
 f257:=Tryz.func161.trans (congrArg some (by kernel_rfl))
 f294:=Tryz.func177.trans (congrArg some (by kernel_rfl))
 f295:=Tryz.func178.trans (congrArg some (by kernel_rfl))
 f296:=Tryz.func179.trans (congrArg some (by kernel_rfl))
 f297:=Tryz.func180.trans (congrArg some (by kernel_rfl))
 f298:=Tryz.func181.trans (congrArg some (by kernel_rfl))
 f299:=Tryz.func182.trans (congrArg some (by kernel_rfl))
 f300:=Tryz.func184.trans (congrArg some (by kernel_rfl))
 f301:=Tryz.func185.trans (congrArg some (by kernel_rfl))
 f328:=Tryz.func197.trans (congrArg some (by kernel_rfl))
 f329:=Tryz.func198.trans (congrArg some (by kernel_rfl))
 f330:=Tryz.func199.trans (congrArg some (by kernel_rfl))
 f331:=Tryz.func200.trans (congrArg some (by kernel_rfl))
 f332:=Tryz.func201.trans (congrArg some (by kernel_rfl))
 f343:=Tryz.func214.trans (congrArg some (by kernel_rfl))
 t0:=Tryz.underlying0
 a0:=Tryz.isAgg0
 z0:=Tryz.sizeOf0
 v0:=Tryz.zeroValue0
 t3:=Tryz.underlying3
 a3:=Tryz.isAgg3
 z3:=Tryz.sizeOf3
 v3:=Tryz.zeroValue3
 t4:=Tryz.underlying4
 a4:=Tryz.isAgg4
 z4:=Tryz.sizeOf4
 v4:=Tryz.zeroValue4
 t5:=Tryz.underlying5
 a5:=Tryz.isAgg5
 z5:=Tryz.sizeOf5
 v5:=Tryz.zeroValue5
 t9:=Tryz.underlying9
 a9:=Tryz.isAgg9
 z9:=Tryz.sizeOf9
 v9:=Tryz.zeroValue9
 t28:=Tryz.underlying24
 a28:=Tryz.isAgg24
 z28:=Tryz.sizeOf24
 v28:=Tryz.zeroValue24
 t46:=Tryz.underlying239
 a46:=Tryz.isAgg239
 z46:=Tryz.sizeOf239
 v46:=Tryz.zeroValue239
 t51:=Tryz.underlying128
 a51:=Tryz.isAgg128
 z51:=Tryz.sizeOf128
 v51:=Tryz.zeroValue128
 t53:=Tryz.underlying282
 a53:=Tryz.isAgg282
 z53:=Tryz.sizeOf282
 v53:=Tryz.zeroValue282
 t131:=Tryz.underlying183
 a131:=Tryz.isAgg183
 z131:=Tryz.sizeOf183
 v131:=Tryz.zeroValue183
 t182:=Tryz.underlying273
 a182:=Tryz.isAgg273
 z182:=Tryz.sizeOf273
 v182:=Tryz.zeroValue273
 t183:=Tryz.underlying274
 a183:=Tryz.isAgg274
 z183:=Tryz.sizeOf274
 v183:=Tryz.zeroValue274
 t218:=Tryz.underlying288
 a218:=Tryz.isAgg288
 z218:=Tryz.sizeOf288
 v218:=Tryz.zeroValue288
 t222:=Tryz.underlying292
 a222:=Tryz.isAgg292
 z222:=Tryz.sizeOf292
 v222:=Tryz.zeroValue292
 t228:=Tryz.underlying301
 a228:=Tryz.isAgg301
 z228:=Tryz.sizeOf301
 v228:=Tryz.zeroValue301
 t229:=Tryz.underlying91
 a229:=Tryz.isAgg91
 z229:=Tryz.sizeOf91
 v229:=Tryz.zeroValue91 }
open Go.Sort Go.RowKit in
theorem Tryz.slices_Sort_int (blk off cap : Nat) (zs : List Int) (w : World) (hH : Holds (Value.int .i64) w blk off zs.toArray) (hblk : blk < w.heap.size) (hsz : zs.length < 4611686018427387904) :
  Calls Tryz.prog 141 #[.slice (some ⟨blk,off,none⟩) zs.length cap] w fun e w' =>
   e=.returned (.tuple #[])∧∃ n os,w'=grow (putRow (Value.int .i64) (Sort.ahead w n) blk off (zs.mergeSort fun x y=>decide (x≤y)).toArray) os:=Any.slices_Sort_int Tryz.lays189 blk off cap zs w hH hblk hsz
end Go.Proofs
set_option autoImplicit false
set_option relaxedAutoImplicit false
set_option linter.unusedVariables false
namespace Go.Proofs
open Go.Shelf
def Tryz.lays240_ren:Go.Shelf.Ren:=⟨fun | 240=>150 | 276=>169 | n=>n,fun | 70=>214 | 72=>216 | 164=>267 | 37=>152 | 75=>218 | n=>n,fun | n=>n⟩
theorem Tryz.lays240:Go.Proofs.Lays.n240 Tryz.prog Tryz.lays240_ren:={
 mixed:=by kernel_rfl
 f240:=Tryz.func150.trans (congrArg some (by kernel_rfl))
 f276:=Tryz.func169.trans (congrArg some (by kernel_rfl))
 t0:=Tryz.underlying0
 a0:=Tryz.isAgg0
 z0:=Tryz.sizeOf0
 v0:=Tryz.zeroValue0
 t4:=Tryz.underlying4
 a4:=Tryz.isAgg4
 z4:=Tryz.sizeOf4
 v4:=Tryz.zeroValue4
 t9:=Tryz.underlying9
 a9:=Tryz.isAgg9
 z9:=Tryz.sizeOf9
 v9:=Tryz.zeroValue9
 t20:=Tryz.underlying20
 a20:=Tryz.isAgg20
 z20:=Tryz.sizeOf20
 v20:=Tryz.zeroValue20
 t70:=Tryz.underlying214
 a70:=Tryz.isAgg214
 z70:=Tryz.sizeOf214
 v70:=Tryz.zeroValue214
 t72:=Tryz.underlying216
 a72:=Tryz.isAgg216
 z72:=Tryz.sizeOf216
 v72:=Tryz.zeroValue216
 t164:=Tryz.underlying267
 a164:=Tryz.isAgg267
 z164:=Tryz.sizeOf267
 v164:=Tryz.zeroValue267 }
theorem Tryz.X72_240:Builder.X72 Tryz.prog Tryz.lays240_ren:={
 sizeBuilder:=by kernel_rfl
 liesBuilder:=by kernel_rfl }
end Go.Proofs
set_option maxRecDepth 10000
namespace Vc
open Go Go.Proofs Go.RowKit
def pow10D:List Data:=[1,10,100,1000,10000,100000,1000000,10000000,100000000,1000000000,10000000000,100000000000,1000000000000,10000000000000,100000000000000,1000000000000000,10000000000000000,100000000000000000,1000000000000000000,10000000000000000000].map (Data.int .u64)
instance : Laid Tryz.prog := ⟨[(1, pow10D)]⟩
def hasFnB (P:Program) (f:FuncId):Bool :=
 match P.funcs[f]? with
 | some fn=>fn.body.isSome&&!(fn.name == "runtime.NumGoroutine")
 | none=>false
theorem sd {α : Sort _} {a : α} {q : Prop} (h : q) : a = a ∧ q := ⟨rfl, h⟩
theorem an {p q : Prop} (h : p) (k : q) : p ∧ q := ⟨h, k⟩
theorem ca {α : Sort _} {a : α} {p q : α → Prop} (h : p a) (k : q a) : ∃ x, p x ∧ q x := ⟨a, h, k⟩
theorem hasFnB_spec {P:Program} {f:FuncId} (h:hasFnB P f=true):HasFn P f:=by
 unfold hasFnB at h
 split at h
 ·rename_i fn hf
  simp only [Bool.and_eq_true,Bool.not_eq_true'] at h
  exact ⟨fn,hf,h.1,h.2⟩
 ·cases h
theorem rows_str {w:World} {S:Nat→Nat→Prop}:∀ {l:List (List UInt8)} {b off:Nat},DRows w S (l.map .str) b off 1→∀ (j:Nat) x,l[j]?=some x→w.cell? ⟨b,off+j,none⟩=some (str x)∧S b (off+j)
 | [],b,off,_,j,x,hx=>by simp at hx
 | s::l,b,off,h,0,x,hx=>by
  simp only [List.map_cons,DRows] at h
  simp at hx
  subst hx
  obtain ⟨⟨_,h1,v,h2,h3⟩,_⟩:=h
  simp only [DRel] at h3
  subst h3
  exact ⟨h2,h1⟩
 | s::l,b,off,h,j+1,x,hx=>by
  simp only [List.map_cons,DRows] at h
  have:=rows_str h.2 j x (by simpa using hx)
  rwa [show off+(j+1)=off+1+j by omega]
theorem join_det (l : List (List UInt8)) (sep : List UInt8) (h1 : l.length ≤ 140737488355328) (h2 : (Lib.join l sep).length ≤ 140737488355328) :
  CallDet Tryz.prog 151 [.d (.slice 1 (l.map .str)),.d (.str sep)] [.str (Lib.join l sep)]:=by
 refine ⟨hasFnB_spec (by kernel_rfl),fun w S vs hv hS _=>?_⟩
 simp only [VRels,VRel,DRel] at hv
 obtain ⟨v1,r,rfl,⟨a,cap,rfl,hcap,hrow⟩,v2,r2,rfl,rfl,rfl⟩:=hv
 have fin : ∀ (w' : World), Below w.heap.size w w' → ∀ v, v = str (Lib.join l sep) → ∃ v' S', (Ending.returned v : Ending) = .returned v' ∧ Below w.heap.size w w' ∧ (∀ b o, S b o → S' b o) ∧ (∀ b o, S' b o → S b o ∨ w.heap.size ≤ b) ∧
   (∀ b o,S' b o→b < w'.heap.size)∧VRel w' ⟨S',fun _=>undef⟩ [] (resV [.str (Lib.join l sep)]) v' :=
  fun w' hb v hv=>⟨v,S,rfl,hb,fun _ _ h=>h,fun _ _ h=>.inl h,fun b o h=>Nat.lt_of_lt_of_le (hS b o h) hb.size,by simp only [resV,VRel,DRel]; exact hv⟩
 rcases hrow with he | ⟨b,off,rfl,hrow⟩
 ·have hl:l=[]:=by simpa using he
  subst hl
  refine (Tryz.strings_Join_none a cap ⟨sep.toArray⟩ w).mono ?_
  rintro e w' ⟨rfl,rfl⟩
  exact fin _ (Below.refl _ _) _ rfl
 ·cases l with
  | nil =>
   refine (Tryz.strings_Join_none _ cap ⟨sep.toArray⟩ w).mono ?_
   rintro e w' ⟨rfl,rfl⟩
   exact fin _ (Below.refl _ _) _ rfl
  | cons s l =>
   have hb:b < w.heap.size:=hS _ _ (rows_str hrow 0 s rfl).2
   have e1:(((s::l).map fun x=>(⟨x.toArray⟩:ByteArray)).map (·.data.toList))=s::l:=by simp [List.map_map,Function.comp_def]
   have h:=Tryz.strings_Join b off cap ((s::l).map fun x=>⟨x.toArray⟩) ⟨sep.toArray⟩ w (fun j x hx=>by
    rw [List.getElem?_map] at hx
    cases hj:(s::l)[j]? with
    | none=>rw [hj] at hx; cases hx
    | some y =>
     rw [hj] at hx
     cases hx
     exact (rows_str hrow j y hj).1) hb (by simpa using h1) (by simpa using hcap) (by rw [e1]; simpa using h2)
   rw [e1] at h
   simp only [List.length_map] at h ⊢
   refine h.mono ?_
   rintro e w' ⟨rfl,hb⟩
   exact fin _ hb _ rfl
def strsOf:List Data→Option (List (List UInt8))
 | []=>some []
 | .str s::r=>match strsOf r with
  | some l=>some (s::l)
  | none=>none
 | _::_=>none
theorem strsOf_map:∀ {es:List Data} {l:List (List UInt8)},strsOf es=some l→es=l.map .str
 | [],l,h=>by simp [strsOf] at h; subst h; rfl
 | d::r,l,h=>by
  cases d <;> simp only [strsOf] at h <;> try (cases h; done)
  split at h
  ·rename_i l' h'
   cases h
   rw [strsOf_map h']; rfl
  ·cases h
end Vc
set_option maxRecDepth 10000
set_option maxHeartbeats 4000000
namespace Vc
open Go Go.Proofs Go.RowKit
def jr130:AFun:=⟨19,1,[.tmp 4,.tmp 5],
 (.seq
 (.reg [] [⟨some 4,.mov (.cst (.d (.int .i64 0))),none⟩,
  ⟨some 5,.mov (.cst .undef),none⟩])
 (.seq
  (.reg [] [⟨some 6,.mov (.tmp 0),none⟩,
   ⟨some 7,.calli 150 [(.tmp 6)],none⟩])
  (.seq
  (.reg [0] [⟨some 8,.mov (.tmp 0),none⟩,
   ⟨some 9,.mov (.tmp 0),none⟩,
   ⟨some 10,.nck (.tmp 9),none⟩,
   ⟨some 11,.fad 1 (.tmp 10),none⟩,
   ⟨some 12,.ld false 1 (.tmp 11),none⟩,
   ⟨some 13,.mov (.tmp 1),none⟩,
   ⟨some 14,.aps 0 5 (.tmp 12) (.tmp 13),none⟩,
   ⟨some 15,.nck (.tmp 8),none⟩,
   ⟨some 16,.fad 1 (.tmp 15),none⟩,
   ⟨none,.st 1 (.tmp 16) (.tmp 14),none⟩])
  (.seq
   (.reg [] [⟨some 17,.mov (.tmp 1),none⟩,
    ⟨some 18,.lens (.tmp 17),none⟩,
    ⟨some 4,.mov (.tmp 18),none⟩,
    ⟨some 5,.mov (.cst .undef),none⟩])
   .ret))))⟩
def jr133:AFun:=⟨14,0,[.tmp 2],
 (.seq
 (.reg [] [⟨some 2,.mov (.cst (.d (.str []))),none⟩])
 (.seq
  (.regd [] [⟨some 3,.mov (.tmp 0),none⟩,
   ⟨some 4,.nck (.tmp 3),none⟩,
   ⟨some 5,.fad 1 (.tmp 4),none⟩,
   ⟨some 6,.ld false 1 (.tmp 5),none⟩,
   ⟨some 7,.usd (.tmp 6),none⟩,
   ⟨some 8,.mov (.tmp 0),none⟩,
   ⟨some 9,.nck (.tmp 8),none⟩,
   ⟨some 10,.fad 1 (.tmp 9),none⟩,
   ⟨some 11,.ld false 1 (.tmp 10),none⟩,
   ⟨some 12,.len (.tmp 11),none⟩,
   ⟨some 13,.ust 5 (.tmp 7) (.tmp 12),none⟩,
   ⟨some 2,.mov (.tmp 13),none⟩] [(0,5),(1,5),(2,5),(3,5),(4,5),(0,6),(1,6),(2,6),(3,6),(4,6),(0,7),(1,7),(2,7),(3,7),(4,7),(0,8),(1,8),(2,8),(3,8),(4,8),(0,9),(1,9),(2,9),(3,9),(4,9)])
  .ret))⟩
theorem i150a (X E:List Data) (fz:Bool):CallIn Tryz.prog 150 [.tp 1 0] [.cbox X,.tbox 216 [.nilp,.nils 1],.row 3 1 E fz,.none,.none,.none] (.tup []) (setAll [.cbox X,.tbox 216 [.nilp,.nils 1],.row 3 1 E fz,.none,.none,.none] [(1,.tbox 216 [.tp 1 0,.nils 1])]) :=
 copyCheck_fresh (hasFnB_spec (by kernel_rfl)) (fun b w h0 h1 h2=>Any.Builder_copyCheck_fresh Tryz.lays240 Tryz.X72_240 b w h0 h1 h2) rfl
theorem i150b (X E:List Data) (fz:Bool) (s:List UInt8):CallIn Tryz.prog 150 [.tp 1 0] [.cbox X,.tbox 216 [.tp 1 0,.bs 4 (s).length],.row 3 1 E fz,.none,.brow 5 (s),.none] (.tup []) (setAll [.cbox X,.tbox 216 [.tp 1 0,.bs 4 (s).length],.row 3 1 E fz,.none,.brow 5 (s),.none] []) :=
 copyCheck_used (T:=216) (c:=.bs 4 s.length) (hasFnB_spec (by kernel_rfl)) (fun b w h0=>Any.Builder_copyCheck_used Tryz.lays240 Tryz.X72_240 b w h0) rfl
theorem i130a (X E:List Data) (fz:Bool) (s:List UInt8) (h0:0 < s.length) (h1:s.length≤1048576):CallIn Tryz.prog 130 [.tp 1 0,.d (.str s)] [.cbox X,.tbox 216 [.nilp,.nils 1],.row 3 1 E fz,.none,.none,.none] (.tup [.d (.int .i64 (s.length:Nat)),.undef]) (setAll [.cbox X,.tbox 216 [.nilp,.nils 1],.row 3 1 E fz,.none,.none,.none] [(1,.tbox 216 [.tp 1 0,.bs 4 s.length]),(4,.brow 5 s)]):=by
 have c150i_:=i150a X E fz
 refine callIn_of_vc 4 (x:=jr130) (by kernel_rfl) rfl rfl rfl ?_
 refine Exists.intro _ (Exists.intro _ (And.intro (c150i_) ?_))
 refine an ?_ ?_
 (show List.length s≤(140737488355328:Nat); omega)
 refine sd ?_
 refine sd ?_
 exact rfl
theorem i130b (X E:List Data) (fz:Bool) (r s:List UInt8) (h0:r.length≤1048576) (h1:s.length≤1048576):CallIn Tryz.prog 130 [.tp 1 0,.d (.str s)] [.cbox X,.tbox 216 [.tp 1 0,.bs 4 (r).length],.row 3 1 E fz,.none,.brow 5 (r),.none] (.tup [.d (.int .i64 (s.length:Nat)),.undef]) (setAll [.cbox X,.tbox 216 [.tp 1 0,.bs 4 (r).length],.row 3 1 E fz,.none,.brow 5 (r),.none] [(1,.tbox 216 [.tp 1 0,.bs 4 (r++s).length]),(4,.brow 5 (r++s))]):=by
 have c150i_:=i150b X E fz r
 refine callIn_of_vc 5 (x:=jr130) (by kernel_rfl) rfl rfl rfl ?_
 refine Exists.intro _ (Exists.intro _ (And.intro (c150i_) ?_))
 refine an ?_ ?_
 refine an ?_ ?_
 exact rfl
 refine an ?_ ?_
 exact rfl
 (show List.length r+List.length s≤(140737488355328:Nat); omega)
 refine sd ?_
 refine sd ?_
 exact rfl
theorem i133n (s:List UInt8) (h0:0 < s.length) (h1:s.length≤1048576):CallIn Tryz.prog 133 [.tp 1 0] [.none,.tbox 216 [.tp 1 0,.bs 4 (s).length],.none,.none,.brow 5 (s),.none] (.d (.str s)) (setAll [.none,.tbox 216 [.tp 1 0,.bs 4 (s).length],.none,.none,.brow 5 (s),.none] []):=by
 refine callIn_of_vc 5 (x:=jr133) (by kernel_rfl) rfl rfl rfl ?_
 refine an ?_ ?_
 refine an ?_ ?_
 exact rfl
 assumption
 refine sd ?_
 refine an ?_ ?_
 refine an ?_ ?_
 exact rfl
 refine an ?_ ?_
 exact rfl
 refine an ?_ ?_
 exact rfl
 refine an ?_ ?_
 assumption
 (show List.length s≤(140737488355328:Nat); omega)
 refine sd ?_
 exact rfl
end Vc
