import Derived.Shelf.Strings.Builder1
import Derived.Shelf.Strings.Builder2
import Derived.Shelf.Strings.OnBuilder
import Derived.Shelf.Small.Bits
import Derived.Shelf.Small.Strs
import Derived.Shelf.Small.Wraps
import Derived.Shelf.Strings.BuilderF
import Derived.Shelf.Strings.BuilderK
import Derived.Shelf.Utf8.RuneCount
import Derived.Shelf.Strings.Builder2Cap
import Derived.Shelf.Strconv.Itoa0
import Derived.Shelf.Strconv.Itoa1
import Derived.Shelf.LaysM
import Derived.Shelf.Strconv.Itoa2
import Derived.Shelf.Strconv.Itoa3
import Derived.Shelf.Strings.Search1
import Derived.Shelf.Strings.Search2
import Derived.Shelf.Strings.Search3
import Derived.Shelf.Strings.Count
import Derived.Shelf.Strings.Shaped
import Derived.Shelf.Sort.Plain
import Derived.Shelf.Strings.Prefix
import Derived.Shelf.Strings.Split
import Derived.Shelf.Strings.SplitShaped
import Derived.Shelf.Unicode.Decode
import Derived.Shelf.Strings.RuneCount
import Derived.Shelf.Strings.Explode
import Derived.Shelf.Unicode.DecodeSlow
import Derived.Shelf.Unicode.DecodeAny
import Derived.Shelf.Strings.BuilderCap
import Derived.Shelf.Slices.Turned
import Derived.Ground.Names2Prog
import Derived.Shelf.Slices.Clone
import Derived.Shelf.Slices.CompactI
import Derived.Shelf.Slices.SearchI
import Derived.Shelf.Slices.Cells
import Derived.Shelf.Slices.In.SortNone
import Derived.Ground.SlgnProg
import Derived.Shelf.SlicesE.Clone
import Derived.Test.YtmffgalmdnpcgaaGreatDoorProg
import Derived.Test.YtmffgalmdnpcgaaGreatDoorG05
set_option linter.unusedSectionVars false
set_option linter.unusedVariables false
set_option linter.unusedSimpArgs false
namespace Go.Proofs
open Go.Shelf
def Tryz.lays156_ren:Go.Shelf.Ren:=⟨fun | 156=>190 | 165=>229 | 166=>230 | 169=>231 | 240=>255 | 241=>256 | 276=>268 | 277=>269 | n=>n,fun | 31=>173 | 9=>9 | 3=>3 | 4=>4 | 0=>0 | 20=>20 | 72=>324 | 76=>328 | 70=>321 | 37=>322 | 75=>327 | 127=>346 | 164=>354 | 5=>5 | 80=>330 | n=>n,fun | n=>n⟩
theorem Tryz.lays156:Go.Proofs.Lays.n156 Tryz.prog Tryz.lays156_ren:={
 mixed:=by kernel_rfl
 f156:=Tryz.func190.trans (congrArg some (by kernel_rfl))
 f165:=Tryz.func229.trans (congrArg some (by kernel_rfl))
 f166:=Tryz.func230.trans (congrArg some (by kernel_rfl))
 f169:=Tryz.func231.trans (congrArg some (by kernel_rfl))
 f240:=Tryz.func255.trans (congrArg some (by kernel_rfl))
 f241:=Tryz.func256.trans (congrArg some (by kernel_rfl))
 f276:=Tryz.func268.trans (congrArg some (by kernel_rfl))
 f277:=Tryz.func269.trans (congrArg some (by kernel_rfl))
 t0:=Tryz.underlying0
 a0:=Tryz.isAgg0
 z0:=Tryz.sizeOf0
 v0:=Tryz.zeroValue0
 t3:=Tryz.underlying3
 a3:=Tryz.isAgg3
 z3:=Tryz.sizeOf3
 v3:=Tryz.zeroValue3
 t4:=Tryz.underlying4
 a4:=Tryz.isAgg4
 z4:=Tryz.sizeOf4
 v4:=Tryz.zeroValue4
 t9:=Tryz.underlying9
 a9:=Tryz.isAgg9
 z9:=Tryz.sizeOf9
 v9:=Tryz.zeroValue9
 t20:=Tryz.underlying20
 a20:=Tryz.isAgg20
 z20:=Tryz.sizeOf20
 v20:=Tryz.zeroValue20
 t31:=Tryz.underlying173
 a31:=Tryz.isAgg173
 z31:=Tryz.sizeOf173
 v31:=Tryz.zeroValue173
 t37:=Tryz.underlying322
 a37:=Tryz.isAgg322
 z37:=Tryz.sizeOf322
 v37:=Tryz.zeroValue322
 t70:=Tryz.underlying321
 a70:=Tryz.isAgg321
 z70:=Tryz.sizeOf321
 v70:=Tryz.zeroValue321
 t72:=Tryz.underlying324
 a72:=Tryz.isAgg324
 z72:=Tryz.sizeOf324
 v72:=Tryz.zeroValue324
 t75:=Tryz.underlying327
 a75:=Tryz.isAgg327
 z75:=Tryz.sizeOf327
 v75:=Tryz.zeroValue327
 t76:=Tryz.underlying328
 a76:=Tryz.isAgg328
 z76:=Tryz.sizeOf328
 v76:=Tryz.zeroValue328
 t127:=Tryz.underlying346
 a127:=Tryz.isAgg346
 z127:=Tryz.sizeOf346
 v127:=Tryz.zeroValue346
 t164:=Tryz.underlying354
 a164:=Tryz.isAgg354
 z164:=Tryz.sizeOf354
 v164:=Tryz.zeroValue354 }
theorem Tryz.Builder_Extra_156:Builder.Extra Tryz.prog Tryz.lays156_ren:={
 sizeBuilder:=by kernel_rfl
 liesBuilder:=by kernel_rfl
 t5:=Tryz.underlying5
 a5:=Tryz.isAgg5
 z5:=Tryz.sizeOf5
 v5:=Tryz.zeroValue5
 infoByte:=by kernel_rfl
 cellsByte:=by kernel_rfl
 sizeByte:=by kernel_rfl
 neB5:=by decide }
open Go.RowKit in
theorem Tryz.strings_Join_none (a : Option Addr) (c : Nat) (sep : ByteArray) (w : World) :
  Calls Tryz.prog 190 #[.slice a 0 c,.string sep] w fun e w'=>e=.returned (.string ⟨#[]⟩)∧w'=w:=Any.strings_Join_none Tryz.lays156 Tryz.Builder_Extra_156 a c sep w
open Go.RowKit in
theorem Tryz.strings_Join (bk o c : Nat) (xs : List ByteArray) (sep : ByteArray) (w : World) (hcells : ∀ (j : Nat) x, xs[j]? = some x → w.cell? ⟨bk, o + j, none⟩ = some (.string x)) (hbk : bk < w.heap.size) (hN : xs.length ≤ 140737488355328) (hcap : xs.length ≤ c) (hlen : (Lib.join (xs.map (·.data.toList)) sep.data.toList).length ≤ 140737488355328) :
  Calls Tryz.prog 190 #[.slice (some ⟨bk,o,none⟩) xs.length c,.string sep] w fun e w'=>e=.returned (.string ⟨(Lib.join (xs.map (·.data.toList)) sep.data.toList).toArray⟩)∧Below w.heap.size w w':=Any.strings_Join Tryz.lays156 Tryz.Builder_Extra_156 bk o c xs sep w hcells hbk hN hcap hlen
def Tryz.lays125_ren:Go.Shelf.Ren:=⟨fun | 125=>182 | 128=>225 | 129=>226 | n=>n,fun | 46=>288 | 3=>3 | 51=>120 | 53=>319 | 4=>4 | 5=>5 | 9=>9 | n=>n,fun | n=>n⟩
theorem Tryz.lays125:Go.Proofs.Lays.n125 Tryz.prog Tryz.lays125_ren:={
 mixed:=by kernel_rfl
 f125:=Tryz.func182.trans (congrArg some (by kernel_rfl))
 f128:=Tryz.func225.trans (congrArg some (by kernel_rfl))
 f129:=Tryz.func226.trans (congrArg some (by kernel_rfl))
 t3:=Tryz.underlying3
 a3:=Tryz.isAgg3
 z3:=Tryz.sizeOf3
 v3:=Tryz.zeroValue3
 t4:=Tryz.underlying4
 a4:=Tryz.isAgg4
 z4:=Tryz.sizeOf4
 v4:=Tryz.zeroValue4
 t5:=Tryz.underlying5
 a5:=Tryz.isAgg5
 z5:=Tryz.sizeOf5
 v5:=Tryz.zeroValue5
 t9:=Tryz.underlying9
 a9:=Tryz.isAgg9
 z9:=Tryz.sizeOf9
 v9:=Tryz.zeroValue9
 t46:=Tryz.underlying288
 a46:=Tryz.isAgg288
 z46:=Tryz.sizeOf288
 v46:=Tryz.zeroValue288
 t51:=Tryz.underlying120
 a51:=Tryz.isAgg120
 z51:=Tryz.sizeOf120
 v51:=Tryz.zeroValue120
 t53:=Tryz.underlying319
 a53:=Tryz.isAgg319
 z53:=Tryz.sizeOf319
 v53:=Tryz.zeroValue319 }
theorem Tryz.bits_Len (x : Int) (w : World) (h0 : 0 ≤ x) (h1 : x ≤ 18446744073709551615) :
  Calls Tryz.prog 182 #[.int .u64 x] w fun e w'=>e=.returned (.int .i64 (Lib.bitLen x.toNat))∧w'=w:=Any.bits_Len Tryz.lays125 x w h0 h1
def Tryz.lays189_ren:Go.Shelf.Ren:=⟨fun | 189=>170 | 125=>182 | 257=>213 | 128=>225 | 129=>226 | 294=>241 | 295=>242 | 296=>243 | 297=>244 | 298=>245 | 299=>246 | 216=>247 | 300=>248 | 301=>249 | 328=>264 | 329=>251 | 330=>252 | 331=>265 | 332=>266 | 215=>227 | 343=>279 | n=>n,fun | 28=>22 | 3=>3 | 46=>288 | 0=>0 | 51=>120 | 53=>319 | 4=>4 | 183=>312 | 182=>311 | 131=>292 | 5=>5 | 9=>9 | 218=>340 | 222=>344 | 228=>352 | 229=>108 | n=>n,fun | n=>n⟩
theorem Tryz.lays189:Go.Proofs.Lays.n189 Tryz.prog Tryz.lays189_ren:={
 mixed:=by kernel_rfl
 f125:=Tryz.func182.trans (congrArg some (by kernel_rfl))
 f128:=Tryz.func225.trans (congrArg some (by kernel_rfl))
 f129:=Tryz.func226.trans (congrArg some (by kernel_rfl))
 f189:=Tryz.func170.trans (congrArg some (by kernel_rfl))
 f215:=Tryz.func227.trans (congrArg some (by kernel_rfl))
 f216:=Tryz.func247.trans (congrArg some (by kernel_rfl))
 f257:=Tryz.func213.trans (congrArg some (by kernel_rfl))
 f294:=Tryz.func241.trans (congrArg some (by kernel_rfl))
 f295:=Tryz.func242.trans (congrArg some (by kernel_rfl))
 f296:=Tryz.func243.trans (congrArg some (by kernel_rfl))
 f297:=Tryz.func244.trans (congrArg some (by kernel_rfl))
 f298:=Tryz.func245.trans (congrArg some (by kernel_rfl))
 f299:=Tryz.func246.trans (congrArg some (by kernel_rfl))
 f300:=Tryz.func248.trans (congrArg some (by kernel_rfl))
 f301:=Tryz.func249.trans (congrArg some (by kernel_rfl))
 f328:=Tryz.func264.trans (congrArg some (by kernel_rfl))
 f329:=Tryz.func251.trans (congrArg some (by kernel_rfl))
 f330:=Tryz.func252.trans (congrArg some (by kernel_rfl))
 f331:=Tryz.func265.trans (congrArg some (by kernel_rfl))
 f332:=Tryz.func266.trans (congrArg some (by kernel_rfl))
 f343:=Tryz.func279.trans (congrArg some (by kernel_rfl))
 t0:=Tryz.underlying0
 a0:=Tryz.isAgg0
 z0:=Tryz.sizeOf0
 v0:=Tryz.zeroValue0
 t3:=Tryz.underlying3
 a3:=Tryz.isAgg3
 z3:=Tryz.sizeOf3
 v3:=Tryz.zeroValue3
 t4:=Tryz.underlying4
 a4:=Tryz.isAgg4
 z4:=Tryz.sizeOf4
 v4:=Tryz.zeroValue4
 t5:=Tryz.underlying5
 a5:=Tryz.isAgg5
 z5:=Tryz.sizeOf5
 v5:=Tryz.zeroValue5
 t9:=Tryz.underlying9
 a9:=Tryz.isAgg9
 z9:=Tryz.sizeOf9
 v9:=Tryz.zeroValue9
 t28:=Tryz.underlying22
 a28:=Tryz.isAgg22
 z28:=Tryz.sizeOf22
 v28:=Tryz.zeroValue22
 t46:=Tryz.underlying288
 a46:=Tryz.isAgg288
 z46:=Tryz.sizeOf288
 v46:=Tryz.zeroValue288
 t51:=Tryz.underlying120
 a51:=Tryz.isAgg120
 z51:=Tryz.sizeOf120
 v51:=Tryz.zeroValue120
 t53:=Tryz.underlying319
 a53:=Tryz.isAgg319
 z53:=Tryz.sizeOf319
 v53:=Tryz.zeroValue319
 t131:=Tryz.underlying292
 a131:=Tryz.isAgg292
 z131:=Tryz.sizeOf292
 v131:=Tryz.zeroValue292
 t182:=Tryz.underlying311
 a182:=Tryz.isAgg311
 z182:=Tryz.sizeOf311
 v182:=Tryz.zeroValue311
 t183:=Tryz.underlying312
 a183:=Tryz.isAgg312
 z183:=Tryz.sizeOf312
 v183:=Tryz.zeroValue312
 t218:=Tryz.underlying340
 a218:=Tryz.isAgg340
 z218:=Tryz.sizeOf340
 v218:=Tryz.zeroValue340
 t222:=Tryz.underlying344
 a222:=Tryz.isAgg344
 z222:=Tryz.sizeOf344
 v222:=Tryz.zeroValue344
 t228:=Tryz.underlying352
 a228:=Tryz.isAgg352
 z228:=Tryz.sizeOf352
 v228:=Tryz.zeroValue352
 t229:=Tryz.underlying108
 a229:=Tryz.isAgg108
 z229:=Tryz.sizeOf108
 v229:=Tryz.zeroValue108 }
open Go.Sort Go.RowKit in
theorem Tryz.slices_Sort_int (blk off cap : Nat) (zs : List Int) (w : World) (hH : Holds (Value.int .i64) w blk off zs.toArray) (hblk : blk < w.heap.size) (hsz : zs.length < 4611686018427387904) :
  Calls Tryz.prog 170 #[.slice (some ⟨blk,off,none⟩) zs.length cap] w fun e w' =>
   e=.returned (.tuple #[])∧∃ n os,w'=grow (putRow (Value.int .i64) (Sort.ahead w n) blk off (zs.mergeSort fun x y=>decide (x≤y)).toArray) os:=Any.slices_Sort_int Tryz.lays189 blk off cap zs w hH hblk hsz
def Tryz.laysNm220_ren:Go.Shelf.Ren:=⟨fun | 20=>171 | n=>n,fun | 22=>22 | 3=>3 | 4=>4 | 0=>0 | n=>n,fun | n=>n⟩
theorem Tryz.laysNm220:Go.Proofs.Lays2.n20 Tryz.prog Tryz.laysNm220_ren:={
 mixed:=by kernel_rfl
 f20:=Tryz.func171.trans (congrArg some (by kernel_rfl))
 t0:=Tryz.underlying0
 a0:=Tryz.isAgg0
 z0:=Tryz.sizeOf0
 v0:=Tryz.zeroValue0
 t3:=Tryz.underlying3
 a3:=Tryz.isAgg3
 z3:=Tryz.sizeOf3
 v3:=Tryz.zeroValue3
 t4:=Tryz.underlying4
 a4:=Tryz.isAgg4
 z4:=Tryz.sizeOf4
 v4:=Tryz.zeroValue4
 t22:=Tryz.underlying22
 a22:=Tryz.isAgg22
 z22:=Tryz.sizeOf22
 v22:=Tryz.zeroValue22
 i3:=by kernel_rfl }
open Go.RowKit Go.Lib Go.Sort in
theorem Tryz.slices_Compact_int (blk off cap : Nat) (zs : List Int) (w : World) (hH : Holds (Value.int .i64) w blk off zs.toArray) (hsz : zs.length ≤ 9223372036854775807) (hcap : zs.length ≤ cap) :
  Calls Tryz.prog 171 #[.slice (some ⟨blk,off,none⟩) zs.length cap] w fun e w'=>e=.returned (.slice (some ⟨blk,off,none⟩) (Lib.compact zs).length cap)∧∃ q,w'=putRow (Value.int .i64) (Sort.ahead w q) blk off (Lib.compact zs++List.replicate (zs.length - (Lib.compact zs).length) 0).toArray:=Any.slices_Compact_int Tryz.laysNm220 blk off cap zs w hH hsz hcap
end Go.Proofs
set_option maxRecDepth 10000
namespace Vc
open Go Go.Proofs Go.RowKit
def pow10D:List Data:=[1,10,100,1000,10000,100000,1000000,10000000,100000000,1000000000,10000000000,100000000000,1000000000000,10000000000000,100000000000000,1000000000000000,10000000000000000,100000000000000000,1000000000000000000,10000000000000000000].map (Data.int .u64)
def stepsD:List Data:=[.int .i64 900,.int .i64 1800,.int .i64 3600]
instance : Laid Tryz.prog := ⟨[(0, stepsD), (2, pow10D)]⟩
def hasFnB (P:Program) (f:FuncId):Bool :=
 match P.funcs[f]? with
 | some fn=>fn.body.isSome&&!(fn.name == "runtime.NumGoroutine")
 | none=>false
theorem sd {α : Sort _} {a : α} {q : Prop} (h : q) : a = a ∧ q := ⟨rfl, h⟩
theorem an {p q : Prop} (h : p) (k : q) : p ∧ q := ⟨h, k⟩
theorem ca {α : Sort _} {a : α} {p q : α → Prop} (h : p a) (k : q a) : ∃ x, p x ∧ q x := ⟨a, h, k⟩
theorem hasFnB_spec {P:Program} {f:FuncId} (h:hasFnB P f=true):HasFn P f:=by
 unfold hasFnB at h
 split at h
 ·rename_i fn hf
  simp only [Bool.and_eq_true,Bool.not_eq_true'] at h
  exact ⟨fn,hf,h.1,h.2⟩
 ·cases h
theorem rows_str {w:World} {S:Nat→Nat→Prop}:∀ {l:List (List UInt8)} {b off:Nat},DRows w S (l.map .str) b off 1→∀ (j:Nat) x,l[j]?=some x→w.cell? ⟨b,off+j,none⟩=some (str x)∧S b (off+j)
 | [],b,off,_,j,x,hx=>by simp at hx
 | s::l,b,off,h,0,x,hx=>by
  simp only [List.map_cons,DRows] at h
  simp at hx
  subst hx
  obtain ⟨⟨_,h1,v,h2,h3⟩,_⟩:=h
  simp only [DRel] at h3
  subst h3
  exact ⟨h2,h1⟩
 | s::l,b,off,h,j+1,x,hx=>by
  simp only [List.map_cons,DRows] at h
  have:=rows_str h.2 j x (by simpa using hx)
  rwa [show off+(j+1)=off+1+j by omega]
theorem join_det (l : List (List UInt8)) (sep : List UInt8) (h1 : l.length ≤ 140737488355328) (h2 : (Lib.join l sep).length ≤ 140737488355328) :
  CallDet Tryz.prog 190 [.d (.slice 1 (l.map .str)),.d (.str sep)] [.str (Lib.join l sep)]:=by
 refine ⟨hasFnB_spec (by kernel_rfl),fun w S vs hv hS _=>?_⟩
 simp only [VRels,VRel,DRel] at hv
 obtain ⟨v1,r,rfl,⟨a,cap,rfl,hcap,hrow⟩,v2,r2,rfl,rfl,rfl⟩:=hv
 have fin : ∀ (w' : World), Below w.heap.size w w' → ∀ v, v = str (Lib.join l sep) → ∃ v' S', (Ending.returned v : Ending) = .returned v' ∧ Below w.heap.size w w' ∧ (∀ b o, S b o → S' b o) ∧ (∀ b o, S' b o → S b o ∨ w.heap.size ≤ b) ∧
   (∀ b o,S' b o→b < w'.heap.size)∧VRel w' ⟨S',fun _=>undef⟩ [] (resV [.str (Lib.join l sep)]) v' :=
  fun w' hb v hv=>⟨v,S,rfl,hb,fun _ _ h=>h,fun _ _ h=>.inl h,fun b o h=>Nat.lt_of_lt_of_le (hS b o h) hb.size,by simp only [resV,VRel,DRel]; exact hv⟩
 rcases hrow with he | ⟨b,off,rfl,hrow⟩
 ·have hl:l=[]:=by simpa using he
  subst hl
  refine (Tryz.strings_Join_none a cap ⟨sep.toArray⟩ w).mono ?_
  rintro e w' ⟨rfl,rfl⟩
  exact fin _ (Below.refl _ _) _ rfl
 ·cases l with
  | nil =>
   refine (Tryz.strings_Join_none _ cap ⟨sep.toArray⟩ w).mono ?_
   rintro e w' ⟨rfl,rfl⟩
   exact fin _ (Below.refl _ _) _ rfl
  | cons s l =>
   have hb:b < w.heap.size:=hS _ _ (rows_str hrow 0 s rfl).2
   have e1:(((s::l).map fun x=>(⟨x.toArray⟩:ByteArray)).map (·.data.toList))=s::l:=by simp [List.map_map,Function.comp_def]
   have h:=Tryz.strings_Join b off cap ((s::l).map fun x=>⟨x.toArray⟩) ⟨sep.toArray⟩ w (fun j x hx=>by
    rw [List.getElem?_map] at hx
    cases hj:(s::l)[j]? with
    | none=>rw [hj] at hx; cases hx
    | some y =>
     rw [hj] at hx
     cases hx
     exact (rows_str hrow j y hj).1) hb (by simpa using h1) (by simpa using hcap) (by rw [e1]; simpa using h2)
   rw [e1] at h
   simp only [List.length_map] at h ⊢
   refine h.mono ?_
   rintro e w' ⟨rfl,hb⟩
   exact fin _ hb _ rfl
def strsOf:List Data→Option (List (List UInt8))
 | []=>some []
 | .str s::r=>match strsOf r with
  | some l=>some (s::l)
  | none=>none
 | _::_=>none
theorem strsOf_map:∀ {es:List Data} {l:List (List UInt8)},strsOf es=some l→es=l.map .str
 | [],l,h=>by simp [strsOf] at h; subst h; rfl
 | d::r,l,h=>by
  cases d <;> simp only [strsOf] at h <;> try (cases h; done)
  split at h
  ·rename_i l' h'
   cases h
   rw [strsOf_map h']; rfl
  ·cases h
end Vc
