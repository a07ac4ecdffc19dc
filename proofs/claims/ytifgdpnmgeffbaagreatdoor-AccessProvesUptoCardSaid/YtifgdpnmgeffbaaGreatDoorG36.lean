import Derived.Test.YtifgdpnmgeffbaaGreatDoorG07
import Derived.Test.YtifgdpnmgeffbaaGreatDoorG35
import Derived.Test.YtifgdpnmgeffbaaGreatDoorCards
import Derived.Test.YtifgdpnmgeffbaaGreatDoorTie
import Derived.WalkKit
import Derived.ProofKit
import Derived.Deep.DeepHandedRow
import Derived.Lib.LaidTab
import Derived.Lib.LaidU8
import Derived.LaidHandle
import Derived.LaidMore
set_option linter.unusedSectionVars false
set_option linter.unusedVariables false
set_option linter.unusedSimpArgs false
set_option maxRecDepth 100000
namespace Go.Proofs.YtifgdpnmgeffbaaGreatDoor
open Go.ChangeShapes Go.WideShapes Go.ChangeAt Go.RowKit Vc
theorem own:ownKnob Tryz.prog.godebug=none:=by kernel_rfl
mutual
theorem bulk_le {H:Type}:∀ (d:DataW H),bulk d≤Rows.uptoBulk d
 | .lit l=>by cases l <;> simp [bulk,Rows.uptoBulk]
 | .nil=>by simp [bulk,Rows.uptoBulk]
 | .ptr d=>by have:=bulk_le d; simp only [bulk,Rows.uptoBulk]; omega
 | .slice a b=>by have:=bulks_le a; have:=bulks_le b; simp only [bulk,Rows.uptoBulk]; omega
 | .agg a=>by have:=bulks_le a; simp only [bulk,Rows.uptoBulk]; omega
 | .iface _ d=>by have:=bulk_le d; simp only [bulk,Rows.uptoBulk]; omega
 | .map _=>by simp [bulk]
 | .held _=>by simp [bulk,Rows.uptoBulk]
theorem bulks_le {H:Type}:∀ (l:List (DataW H)),bulks l≤Rows.uptoBulkAll l
 | []=>by simp [bulks]
 | d::r=>by have:=bulk_le d; have:=bulks_le r; simp only [bulks,Rows.uptoBulkAll]; omega
end
def laidCells:Nat→DataW Unit→List Value
 | _,.lit (.int k n)=>[.int k n]
 | _,.lit (.bool b)=>[.bool b]
 | n+1,.agg l=>l.flatMap (laidCells n)
 | _,_=>[]
noncomputable def layRow (g:Nat) (cs:List Value) (w:World):World :=
 { w with heap := w.heap.modify g fun
   | .cells _ t frozen=>.cells cs.toArray t frozen
   | o=>o }
noncomputable def layAt (g:Nat) (d:DataW Unit) (w:World):World:=layRow g (laidCells 5 d) w
noncomputable def laidWorld (os:Os):World :=
 layAt 3 Rows.laid_math_bits_deBruijn32tab (layAt 4 Rows.laid_math_bits_deBruijn64tab (layAt 2 Rows.laid_internal_strconv_uint64pow10
  (layRow 0 [.func (.func 252) #[] #[],.func (.func 253) #[] #[],.func (.func 254) #[] #[],.func (.func 255) #[] #[]] (World.holding Tryz.prog os ⟨#[],#[],[]⟩))))
theorem laidOut:laidOutB Tryz.prog=true:=by kernel_rfl
theorem may0:Tryz.pinned.checked.prog.mayEnter=true:=by kernel_rfl
theorem out0:laidOutB Tryz.pinned.checked.prog=true:=by kernel_rfl
theorem lift0:(Rows.accessSetsUptoRow.lifted==Tryz.pinned.checked.prog.liftsFinal)=true:=by kernel_rfl
theorem arr_four {W : World} {fuel : Nat} {t e : TypeId} {cs : List Value} {x : DataW (List UInt8) × List MemPlace} (ht : Tryz.prog.underlying t = some (.array 4 e))
  (h:DataW.trod (funcToken Tryz.prog) Tryz.prog W 0 (fun _=>true) true fuel t cs=some x) :
  ∃ (xs:List (DataW (List UInt8) × List MemPlace)) (m:Nat),fuel=m+1∧x=(.agg (xs.map (·.1)),xs.flatMap (·.2))∧cs.length=Tryz.prog.cellsOf t∧xs.length=4 ∧
   ∀ (i:Nat),i < 4→DataW.trod (funcToken Tryz.prog) Tryz.prog W 0 (fun _=>true) true m e ((cs.drop (i * Tryz.prog.cellsOf e)).take (Tryz.prog.cellsOf e))=xs[i]?:=by
 cases fuel with
 | zero=>simp [DataW.trod] at h
 | succ m =>
  simp only [DataW.trod,ht] at h
  split at h
  ·rename_i hl
   obtain ⟨xs,hm,hx⟩:=Option.map_eq_some_iff.1 h
   refine ⟨xs,m,rfl,hx.symm,hl,?_,fun i hi=>?_⟩
   ·rw [Go.Lib.mapM_length hm,List.length_range]
   ·obtain ⟨b,hb,hf⟩:=Go.Lib.mapM_at hm i i (by rw [List.getElem?_range hi])
    rw [hb]; exact hf
  ·cases h
theorem part_cells {W : World} {fuel : Nat} {cs : List Value} {b : UInt8} {r : List UInt8} {f0 : FuncId} {q : List MemPlace}
  (hone:((List.range Tryz.prog.funcs.size).filter fun f=>(Tryz.prog.funcs[f]?).any (·.name.toUTF8.data.toList==b::r))=[f0])
  (h:DataW.trod (funcToken Tryz.prog) Tryz.prog W 0 (fun _=>true) true fuel 193 cs=some (.agg [.held (b::r)],q)):cs=[.func (.func f0) #[] #[]]:=by
 obtain ⟨xs,n,rfl,hx,hl,hxl,hall⟩:=DataW.trod_struct Tryz.underlying193 h
 have hl:cs.length=1:=hl.trans (by kernel_rfl)
 have hxl:xs.length=1:=hxl
 match cs,hl,xs,hxl,hx,hall with
 | [c1],_,[x1],_,hx,hall =>
  simp only [List.map_cons,List.map_nil,Prod.mk.injEq,DataW.agg.injEq,List.cons.injEq,and_true] at hx
  obtain ⟨e1,_⟩:=hx
  have h1:=hall 0 _ rfl
  have h1:DataW.trod (funcToken Tryz.prog) Tryz.prog W 0 (fun _=>true) true n 191 [c1]=some x1:=h1
  have e2:x1=(.held (b::r),x1.2):=by rw [e1]
  rw [e2] at h1
  have hf:=Go.func_of_trod Tryz.underlying191 hone h1
  rw [hf]
theorem parts_cells {L : List (String × DataW Unit)} {W : World} (h : laidMetH Tryz.prog L W) (hm : ("kilovar/access.parts", Rows.laid_kilovar_access_parts) ∈ L) :
  ∀ off,W.cell? ⟨0,off,none⟩=[Value.func (.func 252) #[] #[],.func (.func 253) #[] #[],.func (.func 254) #[] #[],.func (.func 255) #[] #[]][off]?:=by
 obtain ⟨g,t,cs,fuel,p,h1,h2,h3,h4⟩:=laidMetH.funcs h hm
 have eg:g=0:=Option.some.inj (h1.symm.trans (show Tryz.prog.globalNamed "kilovar/access.parts" = some 0 by kernel_rfl))
 subst eg
 have et:t=194:=Option.some.inj (h2.symm.trans (show (Tryz.prog.globals[0]?).map (·.type)=some 194 by kernel_rfl))
 subst et
 obtain ⟨xs,n,rfl,hx,hl,hxl,hall⟩:=arr_four Tryz.underlying194 h4
 have hl:cs.toList.length=4:=hl.trans (by kernel_rfl)
 have hc:∀ i,i < 4→DataW.trod (funcToken Tryz.prog) Tryz.prog W 0 (fun _=>true) true n 193 ((cs.toList.drop (i * 1)).take 1)=xs[i]?:=fun i hi=>by
  have h:=hall i hi
  rwa [show Tryz.prog.cellsOf 193=1 by kernel_rfl] at h
 generalize hcs:cs.toList=l at hl hc
 match l,hl,xs,hxl,hx,hc with
 | [c0,c1,c2,c3],_,[x0,x1,x2,x3],_,hx,hc =>
  have hx:=congrArg Prod.fst hx
  have hx:(DataW.agg [.agg [.held [107,105,108,111,118,97,114,47,97,99,99,101,115,115,46,112,97,114,116,115,36,49]],.agg [.held [107,105,108,111,118,97,114,47,97,99,99,101,115,115,46,112,97,114,116,115,36,50]],.agg [.held [107,105,108,111,118,97,114,47,97,99,99,101,115,115,46,112,97,114,116,115,36,51]],.agg [.held [107,105,108,111,118,97,114,47,97,99,99,101,115,115,46,112,97,114,116,115,36,52]]]:DataW (List UInt8))=.agg [x0.1,x1.1,x2.1,x3.1]:=hx
  simp only [DataW.agg.injEq,List.cons.injEq,and_true] at hx
  obtain ⟨e0,e1,e2,e3⟩:=hx
  have k0:DataW.trod (funcToken Tryz.prog) Tryz.prog W 0 (fun _=>true) true n 193 [c0]=some (.agg [.held [107,105,108,111,118,97,114,47,97,99,99,101,115,115,46,112,97,114,116,115,36,49]],x0.2):=by rw [e0]; exact hc 0 (by decide)
  have f0:=part_cells (f0:=252) (by kernel_rfl) k0
  have k1:DataW.trod (funcToken Tryz.prog) Tryz.prog W 0 (fun _=>true) true n 193 [c1]=some (.agg [.held [107,105,108,111,118,97,114,47,97,99,99,101,115,115,46,112,97,114,116,115,36,50]],x1.2):=by rw [e1]; exact hc 1 (by decide)
  have f1:=part_cells (f0:=253) (by kernel_rfl) k1
  have k2:DataW.trod (funcToken Tryz.prog) Tryz.prog W 0 (fun _=>true) true n 193 [c2]=some (.agg [.held [107,105,108,111,118,97,114,47,97,99,99,101,115,115,46,112,97,114,116,115,36,51]],x2.2):=by rw [e2]; exact hc 2 (by decide)
  have f2:=part_cells (f0:=254) (by kernel_rfl) k2
  have k3:DataW.trod (funcToken Tryz.prog) Tryz.prog W 0 (fun _=>true) true n 193 [c3]=some (.agg [.held [107,105,108,111,118,97,114,47,97,99,99,101,115,115,46,112,97,114,116,115,36,52]],x3.2):=by rw [e3]; exact hc 3 (by decide)
  have f3:=part_cells (f0:=255) (by kernel_rfl) k3
  intro off
  rw [World.var?_cell h1 h3 off]
  cases f0
  cases f1
  cases f2
  cases f3
  rw [← Array.getElem?_toList,hcs]
theorem glob {L : List (String × DataW Unit)} {W : World} (h : laidMetH Tryz.prog L W) (hf : ("kilovar/access.parts", Rows.laid_kilovar_access_parts) ∈ L) :
  ∀ p∈Vc.Laid.vars Tryz.prog,DCs W (Old W) p.2 p.1 0:=by
 have cf:=parts_cells h hf
 have s1:0 < W.heap.size:=by
  have h0:=cf 0
  exact Classical.byContradiction fun hn=>by
   unfold World.cell? at h0
   rw [Array.getElem?_eq_none (show W.heap.size≤0 by omega)] at h0
   cases h0
 intro p hp
 rcases List.mem_cons.1 hp with rfl | hp
 ·show DCs W (Old W) partsD 0 0
  unfold partsD
  simp only [DCs,DRel,DCaps]
  exact ⟨rfl,s1,⟨_,cf 0,[],rfl,rfl⟩,rfl,s1,⟨_,cf 1,[],rfl,rfl⟩,rfl,s1,⟨_,cf 2,[],rfl,rfl⟩,rfl,s1,⟨_,cf 3,[],rfl,rfl⟩,trivial⟩
 ·cases hp
end Go.Proofs.YtifgdpnmgeffbaaGreatDoor
