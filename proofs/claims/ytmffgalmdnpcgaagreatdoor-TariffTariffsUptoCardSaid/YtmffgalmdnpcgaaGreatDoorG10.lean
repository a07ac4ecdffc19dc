import Derived.Test.YtmffgalmdnpcgaaGreatDoorG09
set_option linter.unusedSectionVars false
set_option linter.unusedVariables false
set_option linter.unusedSimpArgs false
set_option maxRecDepth 10000
set_option maxHeartbeats 4000000
namespace Vc
open Go Go.Proofs
def jr141:AFun:=⟨8,2,[.tmp 2],
 (.seq
 (.reg [] [⟨some 2,.mov (.cst (.nils 1)),none⟩])
 (.seq
  (.seq
  (.reg [] [⟨some 3,.mov (.tmp 0),none⟩,
   ⟨some 4,.isnil false (.tmp 3),none⟩])
  (.cond (.tmp 4)
   (.seq
   (.reg [] [⟨some 2,.mov (.cst (.nils 1)),none⟩])
   .ret)
   .skip))
  (.seq
  (.reg [0,1] [⟨some 5,.bsl 0 3 1 0 [] [],none⟩,
   ⟨some 6,.mov (.tmp 0),none⟩,
   ⟨some 7,.app 1 3 1 8 (.tmp 5) (.tmp 6),none⟩,
   ⟨some 2,.mov (.tmp 7),none⟩])
  .ret)))⟩
def jr175:AFun:=⟨8,2,[.tmp 2],
 (.seq
 (.reg [] [⟨some 2,.mov (.cst (.nils 2)),none⟩])
 (.seq
  (.seq
  (.reg [] [⟨some 3,.mov (.tmp 0),none⟩,
   ⟨some 4,.isnil false (.tmp 3),none⟩])
  (.cond (.tmp 4)
   (.seq
   (.reg [] [⟨some 2,.mov (.cst (.nils 2)),none⟩])
   .ret)
   .skip))
  (.seq
  (.reg [0,1] [⟨some 5,.bsl 0 194 2 0 [] [],none⟩,
   ⟨some 6,.mov (.tmp 0),none⟩,
   ⟨some 7,.app 1 194 2 16 (.tmp 5) (.tmp 6),none⟩,
   ⟨some 2,.mov (.tmp 7),none⟩])
  .ret)))⟩
def jr176:AFun:=⟨8,2,[.tmp 2],
 (.seq
 (.reg [] [⟨some 2,.mov (.cst (.nils 8)),none⟩])
 (.seq
  (.seq
  (.reg [] [⟨some 3,.mov (.tmp 0),none⟩,
   ⟨some 4,.isnil false (.tmp 3),none⟩])
  (.cond (.tmp 4)
   (.seq
   (.reg [] [⟨some 2,.mov (.cst (.nils 8)),none⟩])
   .ret)
   .skip))
  (.seq
  (.reg [0,1] [⟨some 5,.bsl 0 198 8 0 [] [],none⟩,
   ⟨some 6,.mov (.tmp 0),none⟩,
   ⟨some 7,.app 1 198 8 64 (.tmp 5) (.tmp 6),none⟩,
   ⟨some 2,.mov (.tmp 7),none⟩])
  .ret)))⟩
def jr177:AFun:=⟨8,2,[.tmp 2],
 (.seq
 (.reg [] [⟨some 2,.mov (.cst (.nils 2)),none⟩])
 (.seq
  (.seq
  (.reg [] [⟨some 3,.mov (.tmp 0),none⟩,
   ⟨some 4,.isnil false (.tmp 3),none⟩])
  (.cond (.tmp 4)
   (.seq
   (.reg [] [⟨some 2,.mov (.cst (.nils 2)),none⟩])
   .ret)
   .skip))
  (.seq
  (.reg [0,1] [⟨some 5,.bsl 0 199 2 0 [] [],none⟩,
   ⟨some 6,.mov (.tmp 0),none⟩,
   ⟨some 7,.app 1 199 2 16 (.tmp 5) (.tmp 6),none⟩,
   ⟨some 2,.mov (.tmp 7),none⟩])
  .ret)))⟩
theorem c141 (b:List Data) (hl:b.length≤1048576):CallDet Tryz.prog 141 [.d (.slice 1 b)] [.slice 1 b]:=by
 refine call_of_vc (x:=jr141) (by kernel_rfl) rfl ?_
 refine And.intro (fun h=>?_) ?_
 ·subst h
  exact rfl
 ·refine And.intro rfl ?_
  refine And.intro rfl ?_
  refine And.intro ?_ ?_
  refine And.intro ?_ ?_
  exact rfl
  refine And.intro ?_ ?_
  exact rfl
  refine And.intro ?_ ?_
  exact rfl
  refine And.intro ?_ ?_
  (show ((0:Nat)+List.length b) * (8:Nat)≤(2:Nat) ^ (47:Nat); omega)
  (show (0:Nat)+List.length b≤(2:Nat) ^ (47:Nat); omega)
  refine And.intro rfl ?_
  exact rfl
theorem c175 (b:List Data) (hl:b.length≤1048576):CallDet Tryz.prog 175 [.d (.slice 2 b)] [.slice 2 b]:=by
 refine call_of_vc (x:=jr175) (by kernel_rfl) rfl ?_
 refine And.intro (fun h=>?_) ?_
 ·subst h
  exact rfl
 ·refine And.intro rfl ?_
  refine And.intro rfl ?_
  refine And.intro ?_ ?_
  refine And.intro ?_ ?_
  exact rfl
  refine And.intro ?_ ?_
  exact rfl
  refine And.intro ?_ ?_
  exact rfl
  refine And.intro ?_ ?_
  (show ((0:Nat)+List.length b) * (16:Nat)≤(2:Nat) ^ (47:Nat); omega)
  (show (0:Nat)+List.length b≤(2:Nat) ^ (47:Nat); omega)
  refine And.intro rfl ?_
  exact rfl
theorem c176 (b:List Data) (hl:b.length≤1048576):CallDet Tryz.prog 176 [.d (.slice 8 b)] [.slice 8 b]:=by
 refine call_of_vc (x:=jr176) (by kernel_rfl) rfl ?_
 refine And.intro (fun h=>?_) ?_
 ·subst h
  exact rfl
 ·refine And.intro rfl ?_
  refine And.intro rfl ?_
  refine And.intro ?_ ?_
  refine And.intro ?_ ?_
  exact rfl
  refine And.intro ?_ ?_
  exact rfl
  refine And.intro ?_ ?_
  exact rfl
  refine And.intro ?_ ?_
  (show ((0:Nat)+List.length b) * (64:Nat)≤(2:Nat) ^ (47:Nat); omega)
  (show (0:Nat)+List.length b≤(2:Nat) ^ (47:Nat); omega)
  refine And.intro rfl ?_
  exact rfl
theorem c177 (b:List Data) (hl:b.length≤1048576):CallDet Tryz.prog 177 [.d (.slice 2 b)] [.slice 2 b]:=by
 refine call_of_vc (x:=jr177) (by kernel_rfl) rfl ?_
 refine And.intro (fun h=>?_) ?_
 ·subst h
  exact rfl
 ·refine And.intro rfl ?_
  refine And.intro rfl ?_
  refine And.intro ?_ ?_
  refine And.intro ?_ ?_
  exact rfl
  refine And.intro ?_ ?_
  exact rfl
  refine And.intro ?_ ?_
  exact rfl
  refine And.intro ?_ ?_
  (show ((0:Nat)+List.length b) * (16:Nat)≤(2:Nat) ^ (47:Nat); omega)
  (show (0:Nat)+List.length b≤(2:Nat) ^ (47:Nat); omega)
  refine And.intro rfl ?_
  exact rfl
theorem c141r (b:List Data) (hl:b.length≤1048576):CallRow Tryz.prog 141 [.d (.slice 1 b)] 3 1 b:=by
 refine callRow_of_vc (x:=jr141) (by kernel_rfl) rfl ?_
 refine And.intro (fun t1=>?_) ?_
 rotate_left
 ·refine And.intro rfl ?_
  refine And.intro rfl ?_
  refine And.intro ?_ ?_
  refine And.intro ?_ ?_
  exact rfl
  refine And.intro ?_ ?_
  exact rfl
  refine And.intro ?_ ?_
  exact rfl
  refine And.intro ?_ ?_
  (show ((0:Nat)+List.length b) * (8:Nat)≤(2:Nat) ^ (47:Nat); omega)
  (show (0:Nat)+List.length b≤(2:Nat) ^ (47:Nat); omega)
  rotate_left
  exact .inl ⟨0,⟨rfl,rfl⟩,rfl⟩
 ·subst t1
  exact .inr ⟨by decide,rfl,1,rfl,rfl⟩
end Vc
