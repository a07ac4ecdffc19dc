import Derived.Test.YtifgdpnmgeffbaaGreatDoorG21
set_option linter.unusedSectionVars false
set_option linter.unusedVariables false
set_option linter.unusedSimpArgs false
set_option maxRecDepth 10000
set_option maxHeartbeats 4000000
namespace Vc
open Go Go.Proofs
section
variable (ri ob : List UInt8) (day : Int)
end
def hS (b:Bool) (L:List Nm):AVal:=bif b then .sl 2 1 else .sl 6 (strs L).length
def hD (b:Bool) (K:List Int):AVal:=bif b then .sl 3 1 else .sl 8 (ints K).length
def hO (b:Bool) (x y:AObj):AObj:=bif b then x else y
structure HI (G:List Gr) (i:Nat) (n:Nm) (d:Int) (m:Nat) (L:List Nm) (K:List Int):Prop where
 hm:m≤40
 hn:L[i]?=some n
 hd:K[i]?=some d
 hc:cntR L G+L.length≤m
 hl:K.length=L.length
 hz:∀ z∈K,0≤z∧z < (K.length:Int)
theorem get_snoc {α:Type} {l:List α} {i:Nat} {x y:α} (h:l[i]?=some x):(l++[y])[i]?=some x:=by
 rw [List.getElem?_append_left (List.getElem?_eq_some_iff.1 h).1]; exact h
theorem HI.step {G:List Gr} {i:Nat} {n:Nm} {d:Int} {m:Nat} {L:List Nm} {K:List Int} (h:HI G i n d m L K) {g:Gr} (hg:g∈G) (hc:L.contains g.to=false):HI G i n d m (L++[g.to]) (K++[d+1]):=by
 have h1:=cntR_new hg hc
 have h2:=h.hc
 have h3:=h.hl
 have h4:=h.hz d (List.mem_of_getElem? h.hd)
 refine ⟨h.hm,get_snoc h.hn,get_snoc h.hd,?_,?_,?_⟩
 ·rw [List.length_append]; show _+(L.length+1)≤m; omega
 ·rw [List.length_append,List.length_append]; show K.length+1=L.length+1; omega
 ·intro z hz
  rw [List.length_append]
  show 0≤z∧z < ((K.length+1:Nat):Int)
  rcases List.mem_append.1 hz with hz | hz
  ·have:=h.hz z hz; omega
  ·rw [List.mem_singleton.1 hz]; omega
theorem strs_snoc (L:List Nm) (x:Nm):strs (L++[x])=strs L++[Data.str x]:=List.map_append
theorem strs_len (L:List Nm):(strs L).length=L.length:=List.length_map _
theorem strs_get {L:List Nm} {i:Nat} {n:Nm} (h:L[i]?=some n):(strs L)[((i:Nat):Int).toNat]?=some (.str n):=by
 show (L.map _)[i]?=_
 rw [List.getElem?_map,h]; rfl
end Vc
