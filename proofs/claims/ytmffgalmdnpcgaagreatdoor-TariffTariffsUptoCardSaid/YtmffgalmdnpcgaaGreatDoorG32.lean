import Derived.Test.YtmffgalmdnpcgaaGreatDoorG23
import Derived.Test.YtmffgalmdnpcgaaGreatDoorG31
set_option linter.unusedSectionVars false
set_option linter.unusedVariables false
set_option linter.unusedSimpArgs false
set_option maxRecDepth 100000
namespace Vc
open Go Go.Proofs
def join07 (xs:List AVal):Option (List Data) :=
 match xs with
 | [.d (.slice 1 es),.d (.str sep)]=>match strsOf es with
  | some l=>match Nat.ble l.length 140737488355328&&Nat.ble (Lib.join l sep).length 140737488355328 with
   | true=>forceLs (Lib.join l sep) fun s=>some [.str s]
   | false=>none
  | none=>none
 | _=>none
def same07 (sz:Nat) (xs:List AVal):Option (List Data) :=
 match xs with
 | [.d (.slice z es)]=>match Nat.beq z sz&&Nat.ble es.length 1048576 with
  | true=>some [.slice sz es]
  | false=>none
 | _=>none
def sh34a:List AVal:=[.d bookD,.d (.int .i64 0),.d (.int .i64 86400)]
def sh34b:List AVal:=[.d bookD,.d (.int .i64 1641600),.d (.int .i64 1728001)]
def sh49a:List AVal:=[.d bookD,.d shortD,.d (.int .i64 0)]
def lib07 (f:FuncId) (xs:List AVal):Option (List Data) :=
 match Nat.beq f 190 with
 | true=>join07 xs
 | false=>match Nat.beq f 141 with
  | true=>same07 1 xs
  | false=>match Nat.beq f 175 with
   | true=>same07 2 xs
   | false=>match Nat.beq f 176 with
    | true=>same07 8 xs
    | false=>match Nat.beq f 177 with
     | true=>same07 2 xs
     | false=>match Nat.beq f 34 with
      | true=>match eqVs sh34a xs with
       | true=>some [.slice 1 [.int .i64 21600,.int .i64 79200],.int .i64 0]
       | false=>match eqVs sh34b xs with
        | true=>some [.slice 1 [.int .i64 1728000],.int .i64 0]
        | false=>none
      | false=>match Nat.beq f 49&&eqVs sh49a xs with
       | true=>some [.slice 4 [.agg [.int .i64 0,.int .i64 0,.int .i64 8,.int .i64 840],.agg [.int .i64 0,.int .i64 1,.int .i64 4,.int .i64 200]],.int .i64 0]
       | false=>none
def row07 (f:FuncId) (xs:List AVal):Option (Nat × Nat × List Data) :=
 match Nat.beq f 141,xs with
 | true,[.d (.slice 1 es)]=>match Nat.ble es.length 1048576 with
  | true=>some (3,1,es)
  | false=>none
 | _,_=>none
theorem row07_good (f:FuncId) (xs:List AVal) (t sz:Nat) (es:List Data) (h:row07 f xs=some (t,sz,es)):CallRow Tryz.prog f xs t sz es:=by
 unfold row07 at h
 split at h
 ·rename_i es' hf
  have:=Nat.eq_of_beq_eq_true hf
  subst this
  split at h
  ·rename_i hb
   cases h
   exact c141r es (Nat.le_of_ble_eq_true hb)
  ·cases h
 ·cases h
theorem same07_spec {sz:Nat} {xs:List AVal} {rs:List Data} (h:same07 sz xs=some rs):∃ es:List Data,xs=[.d (.slice sz es)]∧rs=[.slice sz es]∧es.length≤1048576:=by
 unfold same07 at h
 split at h
 ·rename_i z es
  split at h
  ·rename_i hb
   simp only [Bool.and_eq_true] at hb
   have:=Nat.eq_of_beq_eq_true hb.1
   subst this
   cases h
   exact ⟨es,rfl,rfl,Nat.le_of_ble_eq_true hb.2⟩
  ·cases h
 ·cases h
theorem lib07_good (f:FuncId) (xs:List AVal) (rs:List Data) (h:lib07 f xs=some rs):CallDet Tryz.prog f xs rs:=by
 unfold lib07 at h
 split at h
 ·rename_i hf
  have:=Nat.eq_of_beq_eq_true hf
  subst this
  unfold join07 at h
  split at h
  ·split at h
   ·rename_i l hl
    split at h
    ·rename_i hb
     simp only [Bool.and_eq_true] at hb
     rw [forceLs_eq] at h
     cases h
     rw [strsOf_map hl]
     exact join_det l _ (Nat.le_of_ble_eq_true hb.1) (Nat.le_of_ble_eq_true hb.2)
    ·cases h
   ·cases h
  ·cases h
 ·split at h
  ·rename_i hf
   have:=Nat.eq_of_beq_eq_true hf
   subst this
   obtain ⟨es,rfl,rfl,hl⟩:=same07_spec h
   exact c141 es hl
  ·split at h
   ·rename_i hf
    have:=Nat.eq_of_beq_eq_true hf
    subst this
    obtain ⟨es,rfl,rfl,hl⟩:=same07_spec h
    exact c175 es hl
   ·split at h
    ·rename_i hf
     have:=Nat.eq_of_beq_eq_true hf
     subst this
     obtain ⟨es,rfl,rfl,hl⟩:=same07_spec h
     exact c176 es hl
    ·split at h
     ·rename_i hf
      have:=Nat.eq_of_beq_eq_true hf
      subst this
      obtain ⟨es,rfl,rfl,hl⟩:=same07_spec h
      exact c177 es hl
     ·split at h
      ·rename_i hf
       have:=Nat.eq_of_beq_eq_true hf
       subst this
       split at h
       ·rename_i hb
        have e:=eqVs_eq hb
        subst e
        cases h
        exact c34a
       ·split at h
        ·rename_i hb
         have e:=eqVs_eq hb
         subst e
         cases h
         exact c34b
        ·cases h
      ·split at h
       ·rename_i hb
        simp only [Bool.and_eq_true] at hb
        have e1:=Nat.eq_of_beq_eq_true hb.1
        have e2:=eqVs_eq hb.2
        subst e1 e2
        cases h
        exact c49a
       ·cases h
end Vc
