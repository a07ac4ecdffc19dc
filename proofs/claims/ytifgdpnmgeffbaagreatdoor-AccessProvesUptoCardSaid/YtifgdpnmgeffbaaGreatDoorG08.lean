import Derived.Shelf.Strings.Builder1
import Derived.Shelf.Strings.Builder2
import Derived.Shelf.Strings.OnBuilder
import Derived.Shelf.Small.Wraps
import Derived.Shelf.Strings.BuilderF
import Derived.Shelf.Strings.BuilderK
import Derived.Shelf.Strings.Builder2Cap
import Derived.Shelf.Strconv.Itoa0
import Derived.Shelf.Strconv.Itoa1
import Derived.Shelf.LaysM
import Derived.Shelf.Strconv.Itoa2
import Derived.Shelf.Strconv.Itoa3
import Derived.Shelf.Sort.Plain
import Derived.Shelf.Strings.BuilderCap
import Derived.Shelf.Slices.Turned
import Derived.Shelf.Slices.In.SortNone
import Derived.Test.YtifgdpnmgeffbaaGreatDoorProg
import Derived.Test.YtifgdpnmgeffbaaGreatDoorG05
set_option linter.unusedSectionVars false
set_option linter.unusedVariables false
set_option linter.unusedSimpArgs false
namespace Go.Proofs
open Go.Shelf
def Tryz.lays156_ren:Go.Shelf.Ren:=⟨fun | 156=>156 | 165=>183 | 166=>184 | 169=>185 | 240=>210 | 241=>211 | 276=>221 | 277=>222 | n=>n,fun | 31=>55 | 9=>9 | 3=>3 | 4=>4 | 0=>0 | 20=>20 | 72=>262 | 76=>266 | 70=>260 | 37=>111 | 75=>265 | 127=>290 | 164=>300 | 5=>5 | 80=>268 | n=>n,fun | n=>n⟩
theorem Tryz.lays156:Go.Proofs.Lays.n156 Tryz.prog Tryz.lays156_ren:={
 mixed:=by kernel_rfl
 f156:=Tryz.func156.trans (congrArg some (by kernel_rfl))
 f165:=Tryz.func183.trans (congrArg some (by kernel_rfl))
 f166:=Tryz.func184.trans (congrArg some (by kernel_rfl))
 f169:=Tryz.func185.trans (congrArg some (by kernel_rfl))
 f240:=Tryz.func210.trans (congrArg some (by kernel_rfl))
 f241:=Tryz.func211.trans (congrArg some (by kernel_rfl))
 f276:=Tryz.func221.trans (congrArg some (by kernel_rfl))
 f277:=Tryz.func222.trans (congrArg some (by kernel_rfl))
 t0:=Tryz.underlying0
 a0:=Tryz.isAgg0
 z0:=Tryz.sizeOf0
 v0:=Tryz.zeroValue0
 t3:=Tryz.underlying3
 a3:=Tryz.isAgg3
 z3:=Tryz.sizeOf3
 v3:=Tryz.zeroValue3
 t4:=Tryz.underlying4
 a4:=Tryz.isAgg4
 z4:=Tryz.sizeOf4
 v4:=Tryz.zeroValue4
 t9:=Tryz.underlying9
 a9:=Tryz.isAgg9
 z9:=Tryz.sizeOf9
 v9:=Tryz.zeroValue9
 t20:=Tryz.underlying20
 a20:=Tryz.isAgg20
 z20:=Tryz.sizeOf20
 v20:=Tryz.zeroValue20
 t31:=Tryz.underlying55
 a31:=Tryz.isAgg55
 z31:=Tryz.sizeOf55
 v31:=Tryz.zeroValue55
 t37:=Tryz.underlying111
 a37:=Tryz.isAgg111
 z37:=Tryz.sizeOf111
 v37:=Tryz.zeroValue111
 t70:=Tryz.underlying260
 a70:=Tryz.isAgg260
 z70:=Tryz.sizeOf260
 v70:=Tryz.zeroValue260
 t72:=Tryz.underlying262
 a72:=Tryz.isAgg262
 z72:=Tryz.sizeOf262
 v72:=Tryz.zeroValue262
 t75:=Tryz.underlying265
 a75:=Tryz.isAgg265
 z75:=Tryz.sizeOf265
 v75:=Tryz.zeroValue265
 t76:=Tryz.underlying266
 a76:=Tryz.isAgg266
 z76:=Tryz.sizeOf266
 v76:=Tryz.zeroValue266
 t127:=Tryz.underlying290
 a127:=Tryz.isAgg290
 z127:=Tryz.sizeOf290
 v127:=Tryz.zeroValue290
 t164:=Tryz.underlying300
 a164:=Tryz.isAgg300
 z164:=Tryz.sizeOf300
 v164:=Tryz.zeroValue300 }
theorem Tryz.Builder_Extra_156:Builder.Extra Tryz.prog Tryz.lays156_ren:={
 sizeBuilder:=by kernel_rfl
 liesBuilder:=by kernel_rfl
 t5:=Tryz.underlying5
 a5:=Tryz.isAgg5
 z5:=Tryz.sizeOf5
 v5:=Tryz.zeroValue5
 infoByte:=by kernel_rfl
 cellsByte:=by kernel_rfl
 sizeByte:=by kernel_rfl
 neB5:=by decide }
open Go.RowKit in
theorem Tryz.strings_Join_none (a : Option Addr) (c : Nat) (sep : ByteArray) (w : World) :
  Calls Tryz.prog 156 #[.slice a 0 c,.string sep] w fun e w'=>e=.returned (.string ⟨#[]⟩)∧w'=w:=Any.strings_Join_none Tryz.lays156 Tryz.Builder_Extra_156 a c sep w
open Go.RowKit in
theorem Tryz.strings_Join (bk o c : Nat) (xs : List ByteArray) (sep : ByteArray) (w : World) (hcells : ∀ (j : Nat) x, xs[j]? = some x → w.cell? ⟨bk, o + j, none⟩ = some (.string x)) (hbk : bk < w.heap.size) (hN : xs.length ≤ 140737488355328) (hcap : xs.length ≤ c) (hlen : (Lib.join (xs.map (·.data.toList)) sep.data.toList).length ≤ 140737488355328) :
  Calls Tryz.prog 156 #[.slice (some ⟨bk,o,none⟩) xs.length c,.string sep] w fun e w'=>e=.returned (.string ⟨(Lib.join (xs.map (·.data.toList)) sep.data.toList).toArray⟩)∧Below w.heap.size w w':=Any.strings_Join Tryz.lays156 Tryz.Builder_Extra_156 bk o c xs sep w hcells hbk hN hcap hlen
def Tryz.lays189_ren:Go.Shelf.Ren:=⟨fun | 189=>119 | 125=>168 | 257=>167 | 128=>197 | 129=>198 | 294=>188 | 295=>189 | 296=>190 | 297=>191 | 298=>192 | 299=>193 | 216=>194 | 300=>195 | 301=>196 | 328=>213 | 329=>214 | 330=>215 | 331=>216 | 332=>217 | 215=>209 | 343=>227 | n=>n,fun | 28=>28 | 3=>3 | 46=>247 | 0=>0 | 51=>280 | 53=>282 | 4=>4 | 183=>272 | 182=>271 | 131=>277 | 5=>5 | 9=>9 | 218=>292 | 222=>296 | 228=>307 | 229=>308 | n=>n,fun | n=>n⟩
theorem Tryz.lays189:Go.Proofs.Lays.n189 Tryz.prog Tryz.lays189_ren:={
 mixed:=by kernel_rfl
 f125:=Tryz.func168.trans (congrArg some (by kernel_rfl))
 f128:=Tryz.func197.trans (congrArg some (by kernel_rfl))
 f129:=Tryz.func198.trans (congrArg some (by kernel_rfl))
 f189:=Tryz.func119.trans (congrArg some (by kernel_rfl))
 f215:=Tryz.func209.trans (congrArg some (by kernel_rfl))
 f216:=Tryz.func194.trans (congrArg some (by kernel_rfl))
 f257:=Tryz.func167.trans (congrArg some (by kernel_rfl))
 f294:=Tryz.func188.trans (congrArg some (by kernel_rfl))
 f295:=Tryz.func189.trans (congrArg some (by kernel_rfl))
 f296:=Tryz.func190.trans (congrArg some (by kernel_rfl))
 f297:=Tryz.func191.trans (congrArg some (by kernel_rfl))
 f298:=Tryz.func192.trans (congrArg some (by kernel_rfl))
 f299:=Tryz.func193.trans (congrArg some (by kernel_rfl))
 f300:=Tryz.func195.trans (congrArg some (by kernel_rfl))
 f301:=Tryz.func196.trans (congrArg some (by kernel_rfl))
 f328:=Tryz.func213.trans (congrArg some (by kernel_rfl))
 f329:=Tryz.func214.trans (congrArg some (by kernel_rfl))
 f330:=Tryz.func215.trans (congrArg some (by kernel_rfl))
 f331:=Tryz.func216.trans (congrArg some (by kernel_rfl))
 f332:=Tryz.func217.trans (congrArg some (by kernel_rfl))
 f343:=Tryz.func227.trans (congrArg some (by kernel_rfl))
 t0:=Tryz.underlying0
 a0:=Tryz.isAgg0
 z0:=Tryz.sizeOf0
 v0:=Tryz.zeroValue0
 t3:=Tryz.underlying3
 a3:=Tryz.isAgg3
 z3:=Tryz.sizeOf3
 v3:=Tryz.zeroValue3
 t4:=Tryz.underlying4
 a4:=Tryz.isAgg4
 z4:=Tryz.sizeOf4
 v4:=Tryz.zeroValue4
 t5:=Tryz.underlying5
 a5:=Tryz.isAgg5
 z5:=Tryz.sizeOf5
 v5:=Tryz.zeroValue5
 t9:=Tryz.underlying9
 a9:=Tryz.isAgg9
 z9:=Tryz.sizeOf9
 v9:=Tryz.zeroValue9
 t28:=Tryz.underlying28
 a28:=Tryz.isAgg28
 z28:=Tryz.sizeOf28
 v28:=Tryz.zeroValue28
 t46:=Tryz.underlying247
 a46:=Tryz.isAgg247
 z46:=Tryz.sizeOf247
 v46:=Tryz.zeroValue247
 t51:=Tryz.underlying280
 a51:=Tryz.isAgg280
 z51:=Tryz.sizeOf280
 v51:=Tryz.zeroValue280
 t53:=Tryz.underlying282
 a53:=Tryz.isAgg282
 z53:=Tryz.sizeOf282
 v53:=Tryz.zeroValue282
 t131:=Tryz.underlying277
 a131:=Tryz.isAgg277
 z131:=Tryz.sizeOf277
 v131:=Tryz.zeroValue277
 t182:=Tryz.underlying271
 a182:=Tryz.isAgg271
 z182:=Tryz.sizeOf271
 v182:=Tryz.zeroValue271
 t183:=Tryz.underlying272
 a183:=Tryz.isAgg272
 z183:=Tryz.sizeOf272
 v183:=Tryz.zeroValue272
 t218:=Tryz.underlying292
 a218:=Tryz.isAgg292
 z218:=Tryz.sizeOf292
 v218:=Tryz.zeroValue292
 t222:=Tryz.underlying296
 a222:=Tryz.isAgg296
 z222:=Tryz.sizeOf296
 v222:=Tryz.zeroValue296
 t228:=Tryz.underlying307
 a228:=Tryz.isAgg307
 z228:=Tryz.sizeOf307
 v228:=Tryz.zeroValue307
 t229:=Tryz.underlying308
 a229:=Tryz.isAgg308
 z229:=Tryz.sizeOf308
 v229:=Tryz.zeroValue308 }
open Go.Sort Go.RowKit in
theorem Tryz.slices_Sort_int (blk off cap : Nat) (zs : List Int) (w : World) (hH : Holds (Value.int .i64) w blk off zs.toArray) (hblk : blk < w.heap.size) (hsz : zs.length < 4611686018427387904) :
  Calls Tryz.prog 119 #[.slice (some ⟨blk,off,none⟩) zs.length cap] w fun e w' =>
   e=.returned (.tuple #[])∧∃ n os,w'=grow (putRow (Value.int .i64) (Sort.ahead w n) blk off (zs.mergeSort fun x y=>decide (x≤y)).toArray) os:=Any.slices_Sort_int Tryz.lays189 blk off cap zs w hH hblk hsz
end Go.Proofs
set_option maxRecDepth 10000
namespace Vc
open Go Go.Proofs Go.RowKit
def partsD:List Data:=[.fn (.func 252) [],.fn (.func 253) [],.fn (.func 254) [],.fn (.func 255) []]
instance : Laid Tryz.prog := ⟨[(0, partsD)]⟩
def hasFnB (P:Program) (f:FuncId):Bool :=
 match P.funcs[f]? with
 | some fn=>fn.body.isSome&&!(fn.name == "runtime.NumGoroutine")
 | none=>false
theorem sd {α : Sort _} {a : α} {q : Prop} (h : q) : a = a ∧ q := ⟨rfl, h⟩
theorem an {p q : Prop} (h : p) (k : q) : p ∧ q := ⟨h, k⟩
theorem ca {α : Sort _} {a : α} {p q : α → Prop} (h : p a) (k : q a) : ∃ x, p x ∧ q x := ⟨a, h, k⟩
theorem hasFnB_spec {P:Program} {f:FuncId} (h:hasFnB P f=true):HasFn P f:=by
 unfold hasFnB at h
 split at h
 ·rename_i fn hf
  simp only [Bool.and_eq_true,Bool.not_eq_true'] at h
  exact ⟨fn,hf,h.1,h.2⟩
 ·cases h
theorem rows_str {w:World} {S:Nat→Nat→Prop}:∀ {l:List (List UInt8)} {b off:Nat},DRows w S (l.map .str) b off 1→∀ (j:Nat) x,l[j]?=some x→w.cell? ⟨b,off+j,none⟩=some (str x)∧S b (off+j)
 | [],b,off,_,j,x,hx=>by simp at hx
 | s::l,b,off,h,0,x,hx=>by
  simp only [List.map_cons,DRows] at h
  simp at hx
  subst hx
  obtain ⟨⟨_,h1,v,h2,h3⟩,_⟩:=h
  simp only [DRel] at h3
  subst h3
  exact ⟨h2,h1⟩
 | s::l,b,off,h,j+1,x,hx=>by
  simp only [List.map_cons,DRows] at h
  have:=rows_str h.2 j x (by simpa using hx)
  rwa [show off+(j+1)=off+1+j by omega]
theorem join_det (l : List (List UInt8)) (sep : List UInt8) (h1 : l.length ≤ 140737488355328) (h2 : (Lib.join l sep).length ≤ 140737488355328) :
  CallDet Tryz.prog 156 [.d (.slice 1 (l.map .str)),.d (.str sep)] [.str (Lib.join l sep)]:=by
 refine ⟨hasFnB_spec (by kernel_rfl),fun w S vs hv hS _=>?_⟩
 simp only [VRels,VRel,DRel] at hv
 obtain ⟨v1,r,rfl,⟨a,cap,rfl,hcap,hrow⟩,v2,r2,rfl,rfl,rfl⟩:=hv
 have fin : ∀ (w' : World), Below w.heap.size w w' → ∀ v, v = str (Lib.join l sep) → ∃ v' S', (Ending.returned v : Ending) = .returned v' ∧ Below w.heap.size w w' ∧ (∀ b o, S b o → S' b o) ∧ (∀ b o, S' b o → S b o ∨ w.heap.size ≤ b) ∧
   (∀ b o,S' b o→b < w'.heap.size)∧VRel w' ⟨S',fun _=>undef⟩ [] (resV [.str (Lib.join l sep)]) v' :=
  fun w' hb v hv=>⟨v,S,rfl,hb,fun _ _ h=>h,fun _ _ h=>.inl h,fun b o h=>Nat.lt_of_lt_of_le (hS b o h) hb.size,by simp only [resV,VRel,DRel]; exact hv⟩
 rcases hrow with he | ⟨b,off,rfl,hrow⟩
 ·have hl:l=[]:=by simpa using he
  subst hl
  refine (Tryz.strings_Join_none a cap ⟨sep.toArray⟩ w).mono ?_
  rintro e w' ⟨rfl,rfl⟩
  exact fin _ (Below.refl _ _) _ rfl
 ·cases l with
  | nil =>
   refine (Tryz.strings_Join_none _ cap ⟨sep.toArray⟩ w).mono ?_
   rintro e w' ⟨rfl,rfl⟩
   exact fin _ (Below.refl _ _) _ rfl
  | cons s l =>
   have hb:b < w.heap.size:=hS _ _ (rows_str hrow 0 s rfl).2
   have e1:(((s::l).map fun x=>(⟨x.toArray⟩:ByteArray)).map (·.data.toList))=s::l:=by simp [List.map_map,Function.comp_def]
   have h:=Tryz.strings_Join b off cap ((s::l).map fun x=>⟨x.toArray⟩) ⟨sep.toArray⟩ w (fun j x hx=>by
    rw [List.getElem?_map] at hx
    cases hj:(s::l)[j]? with
    | none=>rw [hj] at hx; cases hx
    | some y =>
     rw [hj] at hx
     cases hx
     exact (rows_str hrow j y hj).1) hb (by simpa using h1) (by simpa using hcap) (by rw [e1]; simpa using h2)
   rw [e1] at h
   simp only [List.length_map] at h ⊢
   refine h.mono ?_
   rintro e w' ⟨rfl,hb⟩
   exact fin _ hb _ rfl
def strsOf:List Data→Option (List (List UInt8))
 | []=>some []
 | .str s::r=>match strsOf r with
  | some l=>some (s::l)
  | none=>none
 | _::_=>none
theorem strsOf_map:∀ {es:List Data} {l:List (List UInt8)},strsOf es=some l→es=l.map .str
 | [],l,h=>by simp [strsOf] at h; subst h; rfl
 | d::r,l,h=>by
  cases d <;> simp only [strsOf] at h <;> try (cases h; done)
  split at h
  ·rename_i l' h'
   cases h
   rw [strsOf_map h']; rfl
  ·cases h
end Vc
