import Derived.Test.YtifgdpnmgeffbaaGreatDoorG26
import Derived.Test.YtifgdpnmgeffbaaGreatDoorG20
set_option linter.unusedSectionVars false
set_option linter.unusedVariables false
set_option linter.unusedSimpArgs false
set_option maxRecDepth 10000
set_option maxHeartbeats 4000000
namespace Vc
open Go Go.Proofs
def so (R:List Int):AObj:=match R with | []=>.none | _::_=>.row 3 1 (ints (isortI [] R)) false
theorem so_ne:∀ {R:List Int},R≠[]→so R=.row 3 1 (ints (isortI [] R)) false
 | [],h=>absurd rfl h
 | _::_,_=>rfl
theorem isl (U:List Int):(ints (isortI [] U)).length=U.length:=by rw [ints_len2,(isortI_perm U []).length_eq]; rfl
theorem v86t {N:Nat} {lim n:Int} {M m:Nat} {R:List Data} {c1 c2:List AVal} {U:List Int} (hm:c1.length < m) (hU:U.length≤8) (hd:U.Nodup) {Q:AExit→St→Prop} (hQ:Q .normal ⟨[(1,.d (.int .i64 (lim))),(13,.sl 6 M),(16,.bv 7 0 m),(75,.d (.int .i64 (n))),(76,.d (.int .i64 ((((c1.length:Nat):Int))))),(129,.ptr 7 (0+((c1.length:Nat):Int).toNat * 1))],[.none,.none,.none,.none,.none,.none,.row 226 4 R false,.box (c1++cz U::c2),.none,so U]⟩):vc Tryz.prog N seg86t ⟨[(1,.d (.int .i64 (lim))),(13,.sl 6 M),(16,.bv 7 0 m),(17,.d (.int .i64 ((((c1.length:Nat):Int))))),(75,.d (.int .i64 (n))),(76,.d (.int .i64 ((((c1.length:Nat):Int)))))],[.none,.none,.none,.none,.none,.none,.row 226 4 R false,.box (c1++cz U::c2),.none,oz U]⟩ Q:=by
 unfold seg86t
 have hmI:(((c1.length:Nat):Int)) < (m:Int):=by omega
 by_cases hUn:U=[]
 ·subst hUn
  show vc _ _ _ ⟨[(1,.d (.int .i64 (lim))),(13,.sl 6 M),(16,.bv 7 0 m),(17,.d (.int .i64 ((((c1.length:Nat):Int))))),(75,.d (.int .i64 (n))),(76,.d (.int .i64 ((((c1.length:Nat):Int)))))],[.none,.none,.none,.none,.none,.none,.row 226 4 R false,.box (c1++.nils 1::c2),.none,.none]⟩ _
  refine vc_post_of ?_
  refine vc_reg_of ?_
  refine vops_step (v:=.bv 7 0 m) ⟨[(1,.d (.int .i64 (lim))),(13,.sl 6 M),(16,.bv 7 0 m),(17,.d (.int .i64 ((((c1.length:Nat):Int))))),(75,.d (.int .i64 (n))),(76,.d (.int .i64 ((((c1.length:Nat):Int))))),(127,.bv 7 0 m)],[.none,.none,.none,.none,.none,.none,.row 226 4 R false,.box (c1++.nils 1::c2),.none,.none]⟩ ⟨rfl,rfl,rfl⟩ rfl ?_
  refine vops_step (v:=.d (.int .i64 ((((c1.length:Nat):Int))))) ⟨[(1,.d (.int .i64 (lim))),(13,.sl 6 M),(16,.bv 7 0 m),(17,.d (.int .i64 ((((c1.length:Nat):Int))))),(75,.d (.int .i64 (n))),(76,.d (.int .i64 ((((c1.length:Nat):Int))))),(127,.bv 7 0 m),(128,.d (.int .i64 ((((c1.length:Nat):Int)))))],[.none,.none,.none,.none,.none,.none,.row 226 4 R false,.box (c1++.nils 1::c2),.none,.none]⟩ ⟨rfl,rfl,rfl⟩ rfl ?_
  refine vops_step (v:=.ptr 7 (0+((c1.length:Nat):Int).toNat * 1)) ⟨[(1,.d (.int .i64 (lim))),(13,.sl 6 M),(16,.bv 7 0 m),(17,.d (.int .i64 ((((c1.length:Nat):Int))))),(75,.d (.int .i64 (n))),(76,.d (.int .i64 ((((c1.length:Nat):Int))))),(127,.bv 7 0 m),(128,.d (.int .i64 ((((c1.length:Nat):Int))))),(129,.ptr 7 (0+((c1.length:Nat):Int).toNat * 1))],[.none,.none,.none,.none,.none,.none,.row 226 4 R false,.box (c1++.nils 1::c2),.none,.none]⟩ ⟨⟨Int.natCast_nonneg _,by omega⟩,rfl,rfl,rfl⟩ rfl ?_
  refine vops_step (v:=.nils 1) ⟨[(1,.d (.int .i64 (lim))),(13,.sl 6 M),(16,.bv 7 0 m),(17,.d (.int .i64 ((((c1.length:Nat):Int))))),(75,.d (.int .i64 (n))),(76,.d (.int .i64 ((((c1.length:Nat):Int))))),(127,.bv 7 0 m),(128,.d (.int .i64 ((((c1.length:Nat):Int))))),(129,.ptr 7 (0+((c1.length:Nat):Int).toNat * 1)),(130,.nils 1)],[.none,.none,.none,.none,.none,.none,.row 226 4 R false,.box (c1++.nils 1::c2),.none,.none]⟩ (eld_mid rfl rfl) rfl ?_
  refine vops_step (v:=.tup []) ⟨[(1,.d (.int .i64 (lim))),(13,.sl 6 M),(16,.bv 7 0 m),(17,.d (.int .i64 ((((c1.length:Nat):Int))))),(75,.d (.int .i64 (n))),(76,.d (.int .i64 ((((c1.length:Nat):Int))))),(127,.bv 7 0 m),(128,.d (.int .i64 ((((c1.length:Nat):Int))))),(129,.ptr 7 (0+((c1.length:Nat):Int).toNat * 1)),(130,.nils 1),(131,.tup [])],[.none,.none,.none,.none,.none,.none,.row 226 4 R false,.box (c1++.nils 1::c2),.none,.none]⟩ ⟨[],rfl,_,_,i119z R (c1++.nils 1::c2),rfl,rfl,rfl⟩ rfl ?_
  exact hQ
 ·rw [(cz_ne hUn).1,(cz_ne hUn).2]
  rw [(cz_ne hUn).1,so_ne hUn] at hQ
  show vc _ _ _ ⟨[(1,.d (.int .i64 (lim))),(13,.sl 6 M),(16,.bv 7 0 m),(17,.d (.int .i64 ((((c1.length:Nat):Int))))),(75,.d (.int .i64 (n))),(76,.d (.int .i64 ((((c1.length:Nat):Int)))))],[.none,.none,.none,.none,.none,.none,.row 226 4 R false,.box (c1++.sl 9 U.length::c2),.none,.row 3 1 (ints U) false]⟩ _
  refine vc_post_of ?_
  refine vc_reg_of ?_
  refine vops_step (v:=.bv 7 0 m) ⟨[(1,.d (.int .i64 (lim))),(13,.sl 6 M),(16,.bv 7 0 m),(17,.d (.int .i64 ((((c1.length:Nat):Int))))),(75,.d (.int .i64 (n))),(76,.d (.int .i64 ((((c1.length:Nat):Int))))),(127,.bv 7 0 m)],[.none,.none,.none,.none,.none,.none,.row 226 4 R false,.box (c1++.sl 9 U.length::c2),.none,.row 3 1 (ints U) false]⟩ ⟨rfl,rfl,rfl⟩ rfl ?_
  refine vops_step (v:=.d (.int .i64 ((((c1.length:Nat):Int))))) ⟨[(1,.d (.int .i64 (lim))),(13,.sl 6 M),(16,.bv 7 0 m),(17,.d (.int .i64 ((((c1.length:Nat):Int))))),(75,.d (.int .i64 (n))),(76,.d (.int .i64 ((((c1.length:Nat):Int))))),(127,.bv 7 0 m),(128,.d (.int .i64 ((((c1.length:Nat):Int)))))],[.none,.none,.none,.none,.none,.none,.row 226 4 R false,.box (c1++.sl 9 U.length::c2),.none,.row 3 1 (ints U) false]⟩ ⟨rfl,rfl,rfl⟩ rfl ?_
  refine vops_step (v:=.ptr 7 (0+((c1.length:Nat):Int).toNat * 1)) ⟨[(1,.d (.int .i64 (lim))),(13,.sl 6 M),(16,.bv 7 0 m),(17,.d (.int .i64 ((((c1.length:Nat):Int))))),(75,.d (.int .i64 (n))),(76,.d (.int .i64 ((((c1.length:Nat):Int))))),(127,.bv 7 0 m),(128,.d (.int .i64 ((((c1.length:Nat):Int))))),(129,.ptr 7 (0+((c1.length:Nat):Int).toNat * 1))],[.none,.none,.none,.none,.none,.none,.row 226 4 R false,.box (c1++.sl 9 U.length::c2),.none,.row 3 1 (ints U) false]⟩ ⟨⟨Int.natCast_nonneg _,by omega⟩,rfl,rfl,rfl⟩ rfl ?_
  refine vops_step (v:=.sl 9 U.length) ⟨[(1,.d (.int .i64 (lim))),(13,.sl 6 M),(16,.bv 7 0 m),(17,.d (.int .i64 ((((c1.length:Nat):Int))))),(75,.d (.int .i64 (n))),(76,.d (.int .i64 ((((c1.length:Nat):Int))))),(127,.bv 7 0 m),(128,.d (.int .i64 ((((c1.length:Nat):Int))))),(129,.ptr 7 (0+((c1.length:Nat):Int).toNat * 1)),(130,.sl 9 U.length)],[.none,.none,.none,.none,.none,.none,.row 226 4 R false,.box (c1++.sl 9 U.length::c2),.none,.row 3 1 (ints U) false]⟩ (eld_mid rfl rfl) rfl ?_
  refine vops_step (v:=.tup []) ⟨[(1,.d (.int .i64 (lim))),(13,.sl 6 M),(16,.bv 7 0 m),(17,.d (.int .i64 ((((c1.length:Nat):Int))))),(75,.d (.int .i64 (n))),(76,.d (.int .i64 ((((c1.length:Nat):Int))))),(127,.bv 7 0 m),(128,.d (.int .i64 ((((c1.length:Nat):Int))))),(129,.ptr 7 (0+((c1.length:Nat):Int).toNat * 1)),(130,.sl 9 U.length),(131,.tup [])],[.none,.none,.none,.none,.none,.none,.row 226 4 R false,.box (c1++.sl 9 U.length::c2),.none,.row 3 1 (ints (isortI [] U)) false]⟩ ⟨[],rfl,_,_,i119 U hd hU U.length rfl R (c1++.sl 9 U.length::c2),rfl,rfl,rfl⟩ rfl ?_
  exact hQ
theorem v86u {N:Nat} {lim n:Int} {M m:Nat} {R:List Data} {c1 c2:List AVal} {U:List Int} (hc:c1.length≤100) (h91:noRefVs 9 c1=true) (h92:noRefVs 9 c2=true) {Q:AExit→St→Prop} (hQ:Q .normal ⟨[(1,.d (.int .i64 (lim))),(13,.sl 6 M),(16,.bv 7 0 m),(75,.d (.int .i64 (n))),(76,.d (.int .i64 ((((c1.length:Nat):Int))+1)))],[.none,.none,.none,.none,.none,.none,.row 226 4 R false,.box (c1++.d (.slice 1 (ints (isortI [] U)))::c2),.none,.none]⟩):vc Tryz.prog N seg86u ⟨[(1,.d (.int .i64 (lim))),(13,.sl 6 M),(16,.bv 7 0 m),(75,.d (.int .i64 (n))),(76,.d (.int .i64 ((((c1.length:Nat):Int))))),(129,.ptr 7 (0+((c1.length:Nat):Int).toNat * 1))],[.none,.none,.none,.none,.none,.none,.row 226 4 R false,.box (c1++cz U::c2),.none,so U]⟩ Q:=by
 unfold seg86u
 have ar:arithF .add .i64 (((c1.length:Nat):Int)) 1=some ((((c1.length:Nat):Int))+1):=by simp only [arithF,IntWalk.i64_in _ (show -9223372036854775808≤((c1.length:Nat):Int)+1∧((c1.length:Nat):Int)+1≤9223372036854775807 by omega)]
 by_cases hUn:U=[]
 ·subst hUn
  show vc _ _ _ ⟨[(1,.d (.int .i64 (lim))),(13,.sl 6 M),(16,.bv 7 0 m),(75,.d (.int .i64 (n))),(76,.d (.int .i64 ((((c1.length:Nat):Int))))),(129,.ptr 7 (0+((c1.length:Nat):Int).toNat * 1))],[.none,.none,.none,.none,.none,.none,.row 226 4 R false,.box (c1++.nils 1::c2),.none,.none]⟩ _
  refine vc_post_of ?_
  refine vc_asdat_nil rfl rfl (at_mid c1 c2 _) ?_
  rw [set_mid]
  refine vc_reg_of ?_
  refine vops_step (v:=.d (.int .i64 ((((c1.length:Nat):Int))+1))) ⟨[(1,.d (.int .i64 (lim))),(13,.sl 6 M),(16,.bv 7 0 m),(75,.d (.int .i64 (n))),(76,.d (.int .i64 ((((c1.length:Nat):Int))))),(129,.ptr 7 (0+((c1.length:Nat):Int).toNat * 1)),(132,.d (.int .i64 ((((c1.length:Nat):Int))+1)))],[.none,.none,.none,.none,.none,.none,.row 226 4 R false,.box (c1++.d (.slice 1 [])::c2),.none,.none]⟩ ⟨_,⟨rfl,rfl,ar⟩,rfl,rfl,rfl⟩ rfl ?_
  refine vops_step (v:=.d (.int .i64 ((((c1.length:Nat):Int))+1))) ⟨[(1,.d (.int .i64 (lim))),(13,.sl 6 M),(16,.bv 7 0 m),(75,.d (.int .i64 (n))),(76,.d (.int .i64 ((((c1.length:Nat):Int))+1))),(129,.ptr 7 (0+((c1.length:Nat):Int).toNat * 1)),(132,.d (.int .i64 ((((c1.length:Nat):Int))+1)))],[.none,.none,.none,.none,.none,.none,.row 226 4 R false,.box (c1++.d (.slice 1 [])::c2),.none,.none]⟩ ⟨rfl,rfl,rfl⟩ rfl ?_
  show clear [9] ⟨[(1,.d (.int .i64 (lim))),(13,.sl 6 M),(16,.bv 7 0 m),(75,.d (.int .i64 (n))),(76,.d (.int .i64 ((((c1.length:Nat):Int))+1)))],[.none,.none,.none,.none,.none,.none,.row 226 4 R false,.box (c1++.d (.slice 1 [])::c2),.none,.none]⟩ (Q .normal)
  refine clear_t ?_ hQ
  show (noRefVs 9 (c1++.d (.slice 1 [])::c2)&&true)=true
  rw [noRef_mid rfl h92 h91]; rfl
 ·rw [(cz_ne hUn).1,so_ne hUn]
  show vc _ _ _ ⟨[(1,.d (.int .i64 (lim))),(13,.sl 6 M),(16,.bv 7 0 m),(75,.d (.int .i64 (n))),(76,.d (.int .i64 ((((c1.length:Nat):Int))))),(129,.ptr 7 (0+((c1.length:Nat):Int).toNat * 1))],[.none,.none,.none,.none,.none,.none,.row 226 4 R false,.box (c1++.sl 9 U.length::c2),.none,.row 3 1 (ints (isortI [] U)) false]⟩ _
  refine vc_post_of ?_
  refine vc_asdat_sl rfl rfl (at_mid c1 c2 _) rfl (isl U) ?_
  rw [set_mid]
  refine vc_reg_of ?_
  refine vops_step (v:=.d (.int .i64 ((((c1.length:Nat):Int))+1))) ⟨[(1,.d (.int .i64 (lim))),(13,.sl 6 M),(16,.bv 7 0 m),(75,.d (.int .i64 (n))),(76,.d (.int .i64 ((((c1.length:Nat):Int))))),(129,.ptr 7 (0+((c1.length:Nat):Int).toNat * 1)),(132,.d (.int .i64 ((((c1.length:Nat):Int))+1)))],[.none,.none,.none,.none,.none,.none,.row 226 4 R false,.box (c1++.d (.slice 1 (ints (isortI [] U)))::c2),.none,.row 3 1 (ints (isortI [] U)) true]⟩ ⟨_,⟨rfl,rfl,ar⟩,rfl,rfl,rfl⟩ rfl ?_
  refine vops_step (v:=.d (.int .i64 ((((c1.length:Nat):Int))+1))) ⟨[(1,.d (.int .i64 (lim))),(13,.sl 6 M),(16,.bv 7 0 m),(75,.d (.int .i64 (n))),(76,.d (.int .i64 ((((c1.length:Nat):Int))+1))),(129,.ptr 7 (0+((c1.length:Nat):Int).toNat * 1)),(132,.d (.int .i64 ((((c1.length:Nat):Int))+1)))],[.none,.none,.none,.none,.none,.none,.row 226 4 R false,.box (c1++.d (.slice 1 (ints (isortI [] U)))::c2),.none,.row 3 1 (ints (isortI [] U)) true]⟩ ⟨rfl,rfl,rfl⟩ rfl ?_
  show clear [9] ⟨[(1,.d (.int .i64 (lim))),(13,.sl 6 M),(16,.bv 7 0 m),(75,.d (.int .i64 (n))),(76,.d (.int .i64 ((((c1.length:Nat):Int))+1)))],[.none,.none,.none,.none,.none,.none,.row 226 4 R false,.box (c1++.d (.slice 1 (ints (isortI [] U)))::c2),.none,.row 3 1 (ints (isortI [] U)) true]⟩ (Q .normal)
  refine clear_t ?_ hQ
  show (noRefVs 9 (c1++.d (.slice 1 (ints (isortI [] U)))::c2)&&true)=true
  rw [noRef_mid rfl h92 h91]; rfl
theorem v86s {xi xt xu : ACode} {lim n : Int} {M m : Nat} {A : List Rn} {c1 c2 : List AVal} (hM : M = A.length) (hA : A.length ≤ 8) (hD : Dst A) (hm : c1.length < m) (hm1 : m ≤ 64) (hlim : 0 ≤ lim ∧ lim ≤ 8000) (hr : ∀ r ∈ A, (0 ≤ r.pw ∧ r.pw ≤ 1000) ∧ (0 ≤ r.tn ∧ r.tn ≤ 100)) (h81 : noRefVs 8 c1 = true) (h82 : noRefVs 8 c2 = true) (h91 : noRefVs 9 c1 = true) (h92 : noRefVs 9 c2 = true)
  (hvi:∀ Q:AExit→St→Prop,Q .normal ⟨[(1,.d (.int .i64 lim)),(13,.sl 6 M),(16,.bv 7 0 m),(17,.d (.int .i64 (((c1.length:Nat):Int)))),(75,.d (.int .i64 n)),(76,.d (.int .i64 (((c1.length:Nat):Int))))],[.none,.none,.none,.none,.none,.none,.row 226 4 (rns ((gGo lim (sorted A) 0).1)) false,.box (c1++cz (gGo lim (sorted A) 0).2::c2),.none,oz (gGo lim (sorted A) 0).2]⟩→vc Tryz.prog 134 xi ⟨[(1,.d (.int .i64 lim)),(13,.sl 6 M),(16,.bv 7 0 m),(17,.d (.int .i64 (((c1.length:Nat):Int)))),(18,.d (.int .i64 (0))),(75,.d (.int .i64 n)),(76,.d (.int .i64 (((c1.length:Nat):Int)))),(82,.d (.int .i64 (((rns (sorted A)).length:Nat):Int))),(83,.d (.int .i64 (0)))],[.none,.none,.none,.none,.none,.none,.row 226 4 (rns (sorted A)) false,.box (c1++.nils 1::c2),.none,.none]⟩ Q)
  (hvt:∀ (R:List Data) (Q:AExit→St→Prop),Q .normal ⟨[(1,.d (.int .i64 (lim))),(13,.sl 6 M),(16,.bv 7 0 m),(75,.d (.int .i64 (n))),(76,.d (.int .i64 ((((c1.length:Nat):Int))))),(129,.ptr 7 (0+((c1.length:Nat):Int).toNat * 1))],[.none,.none,.none,.none,.none,.none,.row 226 4 R false,.box (c1++cz (gGo lim (sorted A) 0).2::c2),.none,so (gGo lim (sorted A) 0).2]⟩→vc Tryz.prog 134 xt ⟨[(1,.d (.int .i64 (lim))),(13,.sl 6 M),(16,.bv 7 0 m),(17,.d (.int .i64 ((((c1.length:Nat):Int))))),(75,.d (.int .i64 (n))),(76,.d (.int .i64 ((((c1.length:Nat):Int)))))],[.none,.none,.none,.none,.none,.none,.row 226 4 R false,.box (c1++cz (gGo lim (sorted A) 0).2::c2),.none,oz (gGo lim (sorted A) 0).2]⟩ Q)
  (hvu:∀ (R:List Data) (Q:AExit→St→Prop),Q .normal ⟨[(1,.d (.int .i64 (lim))),(13,.sl 6 M),(16,.bv 7 0 m),(75,.d (.int .i64 (n))),(76,.d (.int .i64 ((((c1.length:Nat):Int))+1)))],[.none,.none,.none,.none,.none,.none,.row 226 4 R false,.box (c1++.d (.slice 1 (ints (isortI [] (gGo lim (sorted A) 0).2)))::c2),.none,.none]⟩→vc Tryz.prog 134 xu ⟨[(1,.d (.int .i64 (lim))),(13,.sl 6 M),(16,.bv 7 0 m),(75,.d (.int .i64 (n))),(76,.d (.int .i64 ((((c1.length:Nat):Int))))),(129,.ptr 7 (0+((c1.length:Nat):Int).toNat * 1))],[.none,.none,.none,.none,.none,.none,.row 226 4 R false,.box (c1++cz (gGo lim (sorted A) 0).2::c2),.none,so (gGo lim (sorted A) 0).2]⟩ Q)
  {Q:AExit→St→Prop} (hQ:Q .normal ⟨[(1,.d (.int .i64 (lim))),(13,.sl 6 M),(16,.bv 7 0 m),(75,.d (.int .i64 (n))),(76,.d (.int .i64 ((((c1.length:Nat):Int))+1)))],[.none,.none,.none,.none,.none,.none,.row 226 4 (rns (gGo lim (sorted A) 0).1) false,.box (c1++.d (.slice 1 (ints (isortI [] (gGo lim (sorted A) 0).2)))::c2),.none,.none]⟩):vc Tryz.prog 134 (seg86s xi xt xu) ⟨[(1,.d (.int .i64 (lim))),(13,.sl 6 M),(16,.bv 7 0 m),(75,.d (.int .i64 (n))),(76,.d (.int .i64 ((((c1.length:Nat):Int)))))],[.none,.none,.none,.none,.none,.none,.row 226 4 (rns A) false,.box (c1++.nils 1::c2),.none,.none]⟩ Q:=by
 unfold seg86s
 have c153i_:=i153 A hD hA M hM (c1++.nils 1::c2)
 have hp:=sorted_perm A
 have hrl:(rns (sorted A)).length=M:=by rw [rns_len,hp.length_eq,hM]
 clear hr hD hp
 refine Exists.intro _ (Exists.intro _ (And.intro (c153i_) ?_))
 refine an ?_ ?_
 assumption
 refine hvi _ ?_
 refine hvt _ _ ?_
 refine hvu _ _ ?_
 rotate_left
 exact hQ
theorem v86S {lim n:Int} {M m:Nat} {A:List Rn} {c1 c2:List AVal} (hM:M=A.length) (hA:A.length≤8) (hD:Dst A) (hm:c1.length < m) (hm1:m≤64) (hlim:0≤lim∧lim≤8000) (hr:∀ r∈A,(0≤r.pw∧r.pw≤1000)∧(0≤r.tn∧r.tn≤100)) (h81:noRefVs 8 c1=true) (h82:noRefVs 8 c2=true) (h91:noRefVs 9 c1=true) (h92:noRefVs 9 c2=true) {Q:AExit→St→Prop} (hQ:Q .normal ⟨[(1,.d (.int .i64 (lim))),(13,.sl 6 M),(16,.bv 7 0 m),(75,.d (.int .i64 (n))),(76,.d (.int .i64 ((((c1.length:Nat):Int))+1)))],[.none,.none,.none,.none,.none,.none,.row 226 4 (rns (gGo lim (sorted A) 0).1) false,.box (c1++.d (.slice 1 (ints (isortI [] (gGo lim (sorted A) 0).2)))::c2),.none,.none]⟩):vc Tryz.prog 134 (seg86s (seg86i seg86r) seg86t seg86u) ⟨[(1,.d (.int .i64 (lim))),(13,.sl 6 M),(16,.bv 7 0 m),(75,.d (.int .i64 (n))),(76,.d (.int .i64 ((((c1.length:Nat):Int)))))],[.none,.none,.none,.none,.none,.none,.row 226 4 (rns A) false,.box (c1++.nils 1::c2),.none,.none]⟩ Q:=by
 have hp:=sorted_perm A
 have hS:=hp.symm.pairwise_iff (fun h=>Ne.symm h) |>.1 hD
 have hrl:(rns (sorted A)).length=M:=by rw [rns_len,hp.length_eq,hM]
 have hul:(gGo lim (sorted A) 0).2.length≤8:=by have:=gGo_len lim (sorted A) 0; rw [hp.length_eq] at this; omega
 exact v86s hM hA hD hm hm1 hlim hr h81 h82 h91 h92
  (fun Q hQ=>by rw [hrl]; exact v86i (by rw [hp.length_eq,hM]) (by rw [hp.length_eq]; exact hA) hm hlim (fun r h=>hr r (hp.mem_iff.1 h)) (fun w r j R U e1 e2 e3 e4 Q hQ=>v86r e1 hm e2 e3 e4 h81 h82 hQ) hQ)
  (fun R Q hQ=>v86t hm hul (run_nodup lim hS) hQ) (fun R Q hQ=>v86u (by omega) h91 h92 hQ) hQ
end Vc
set_option maxRecDepth 10000
set_option maxHeartbeats 4000000
namespace Vc
open Go Go.Proofs
def dc (D:List (List Int)):List AVal:=D.map fun x=>.d (.slice 1 (ints x))
theorem dc_no (i:Nat) (D:List (List Int)):noRefVs i (dc D)=true:=noRef_all fun x hx=>by
 obtain ⟨y,_,rfl⟩:=List.mem_map.1 hx
 rfl
theorem rep_no (i k:Nat):noRefVs i (List.replicate k (.nils 1))=true:=noRef_all fun x hx=>by
 rw [List.eq_of_mem_replicate hx]; rfl
theorem allD_dc:∀ D:List (List Int),allD (dc D)=some (iss D)
 | []=>rfl
 | x::r=>by
  show (match (Data.slice 1 (ints x)).isAgg with | true=>none | false=>match allD (dc r) with | some ds=>some (Data.slice 1 (ints x)::ds) | none=>none)=_
  rw [allD_dc r]; rfl
theorem ldE_rng:∀ {l:List Ld} {seen:List (List UInt8)},ldE l seen=0→∀ x∈l,0≤x.2∧x.2≤1000
 | [],_,_,_,h=>by cases h
 | y::r,seen,h,x,hx=>by
  rw [ldE] at h
  cases hb:(ldX y seen != 0) with
  | true =>
   rw [hb] at h
   rw [bne_iff_ne] at hb
   exact absurd h hb
  | false =>
   rw [hb] at h
   rcases List.mem_cons.1 hx with rfl | hx
   ·have h0:ldX x seen=0:=by simpa using hb
    have h1:=firstOf_zero h0 (within3 x.2 0 1000) (by simp)
    unfold within3 at h1
    by_cases c1:x.2 < 0
    ·rw [decide_eq_true c1] at h1; cases h1
    ·by_cases c2:(1000:Int) < x.2
     ·rw [decide_eq_true c2,Bool.or_true] at h1; cases h1
     ·omega
   ·exact ldE_rng h x hx
theorem v86o {xs : ACode} {lim : Int} {M m : Nat} {l : List Ld} (hM : M = l.length) (hl : l.length ≤ 8) (hm1 : m ≤ 64) (hx : ∀ x ∈ l, 0 ≤ x.2 ∧ x.2 ≤ 1000)
  (hv:∀ (A:List Rn) (c1 c2:List AVal),M=A.length→A.length≤8→Dst A→c1.length < m→(∀ r∈A,(0≤r.pw∧r.pw≤1000)∧(0≤r.tn∧r.tn≤100))→noRefVs 8 c1=true→noRefVs 8 c2=true→noRefVs 9 c1=true→noRefVs 9 c2=true→∀ Q:AExit→St→Prop,Q .normal ⟨[(1,.d (.int .i64 (lim))),(13,.sl 6 M),(16,.bv 7 0 m),(75,.d (.int .i64 (m:Int))),(76,.d (.int .i64 ((((c1.length:Nat):Int))+1)))],[.none,.none,.none,.none,.none,.none,.row 226 4 (rns (gGo lim (sorted A) 0).1) false,.box (c1++.d (.slice 1 (ints (isortI [] (gGo lim (sorted A) 0).2)))::c2),.none,.none]⟩→vc Tryz.prog 134 xs ⟨[(1,.d (.int .i64 (lim))),(13,.sl 6 M),(16,.bv 7 0 m),(75,.d (.int .i64 (m:Int))),(76,.d (.int .i64 ((((c1.length:Nat):Int)))))],[.none,.none,.none,.none,.none,.none,.row 226 4 (rns A) false,.box (c1++.nils 1::c2),.none,.none]⟩ Q)
  {Q:AExit→St→Prop} (hQ:∀ A:List Rn,Q .normal ⟨[(16,.bv 7 0 m)],[.none,.none,.none,.none,.none,.none,.row 226 4 (rns (A)) false,.box (dc (slots lim l m (t0 l))),.none,.none]⟩):vc Tryz.prog 134 (seg86o xs) ⟨[(1,.d (.int .i64 lim)),(13,.sl 6 M),(16,.bv 7 0 m),(75,.d (.int .i64 (m:Int))),(76,.d (.int .i64 0))],[.none,.none,.none,.none,.none,.none,.row 226 4 (rns (canon l (t0 l))) false,.box (List.replicate m (.nils 1)),.none,.none]⟩ Q:=by
 unfold seg86o
 refine loop_st (fun p:Nat × List Rn=>⟨[(1,.d (.int .i64 lim)),(13,.sl 6 M),(16,.bv 7 0 m),(75,.d (.int .i64 (m:Int))),(76,.d (.int .i64 (p.1:Nat)))],[.none,.none,.none,.none,.none,.none,.row 226 4 (rns (p.2)) false,.box (dc (slots lim l p.1 (t0 l))++List.replicate (m - p.1) (.nils 1)),.none,.none]⟩) (fun p=>p.1≤m∧p.2.Perm (canon l (tAfter lim l p.1 (t0 l)))) (fun p=>m - p.1) (0,canon l (t0 l)) rfl ⟨Nat.zero_le _,List.Perm.refl _⟩ ?_
 rintro ⟨s,A⟩ ⟨hs,hp⟩
 have hs:s≤m:=hs
 have hp:A.Perm (canon l (tAfter lim l s (t0 l))):=hp
 dsimp only
 by_cases hsm:s < m
 ·have hts:=tAfter_succ lim l s (t0 l)
  have hss:=slots_succ lim l s (t0 l)
  have htl:(tAfter lim l s (t0 l)).length=l.length:=by rw [tAfter_len]; exact List.length_replicate
  have htr:=tAfter_rng lim l s
  have hsl:(dc (slots lim l s (t0 l))).length=s:=by unfold dc; rw [List.length_map,slots_len]
  have hAl:A.length=l.length:=by rw [hp.length_eq,canon_len]
  obtain ⟨hpo,hpp⟩:=slot_perm (lim:=lim) htl hp
  have hru:=runOf_sort lim l (tAfter lim l s (t0 l))
  have hvS:=hv A (dc (slots lim l s (t0 l))) (List.replicate (m - (s+1)) (.nils 1)) (by rw [hAl,hM]) (by omega) (hp.symm.pairwise_iff (fun h=>Ne.symm h) |>.1 (canon_dst l _)) (by rw [hsl]; exact hsm) (fun r hr=>by
   obtain ⟨i,hi,e⟩:=canon_mem.1 (hp.mem_iff.1 hr)
   have h1:=htr i
   have h2:=hx l[i] (List.getElem_mem hi)
   rw [e]
   unfold rnAt
   rw [List.getElem?_eq_getElem hi]
   exact ⟨h2,by show 0≤tAt _ i∧tAt _ i≤100; omega⟩) (dc_no 8 _) (rep_no 8 _) (dc_no 9 _) (rep_no 9 _)
  rw [hsl,hpo] at hvS
  rw [show (gGo lim (ordr l (tAfter lim l s (t0 l))) 0).2=runOf lim l (tAfter lim l s (t0 l)) from rfl,hru] at hvS
  have hcs:dc (slots lim l s (t0 l))++List.replicate (m - s) (.nils 1)=dc (slots lim l s (t0 l))++.nils 1::List.replicate (m - (s+1)) (.nils 1):=by rw [show m - s=m - (s+1)+1 by omega]; rfl
  have hce:dc (slots lim l (s+1) (t0 l))++List.replicate (m - (s+1)) (.nils 1)=dc (slots lim l s (t0 l))++.d (.slice 1 (ints (slotOf lim l (tAfter lim l s (t0 l)))))::List.replicate (m - (s+1)) (.nils 1):=by
   rw [hss]
   unfold dc
   rw [List.map_append,List.append_assoc]; rfl
  rw [← hts] at hpp
  have fin:∀ L:List AVal,L=dc (slots lim l (s+1) (t0 l))++List.replicate (m - (s+1)) (.nils 1)→∃ a':Nat × List Rn,((a'.1≤m∧a'.2.Perm (canon l (tAfter lim l a'.1 (t0 l))))∧m - a'.1 < m - s)∧(⟨[(1,.d (.int .i64 lim)),(13,.sl 6 M),(16,.bv 7 0 m),(75,.d (.int .i64 (m:Int))),(76,.d (.int .i64 ((s:Int)+1)))],[.none,.none,.none,.none,.none,.none,.row 226 4 (rns ((gGo lim (ordr l (tAfter lim l s (t0 l))) 0).1)) false,.box L,.none,.none]⟩:St)=⟨[(1,.d (.int .i64 lim)),(13,.sl 6 M),(16,.bv 7 0 m),(75,.d (.int .i64 (m:Int))),(76,.d (.int .i64 (a'.1:Nat)))],[.none,.none,.none,.none,.none,.none,.row 226 4 (rns (a'.2)) false,.box (dc (slots lim l a'.1 (t0 l))++List.replicate (m - a'.1) (.nils 1)),.none,.none]⟩:=fun L e =>
   ⟨(s+1,(gGo lim (ordr l (tAfter lim l s (t0 l))) 0).1),⟨⟨hsm,hpp⟩,by show m - (s+1) < m - s; omega⟩,by rw [e]; rfl⟩
  have fin:=fin _ hce.symm
  rw [hcs]
  clear hp hpo hpp hts hss hru hcs hce htl htr hv hQ hAl
  generalize (gGo lim (ordr l (tAfter lim l s (t0 l))) 0).1=A2 at *
  generalize slotOf lim l (tAfter lim l s (t0 l))=so at *
  refine sd ?_
  refine b_lt (fun t1=>?_) (fun t1=>?_)
  refine hvS _ ?_
  rotate_left
  (exfalso; omega)
  exact fin
 ·have e:s=m:=by omega
  subst e
  rw [Nat.sub_self,show List.replicate 0 (AVal.nils 1)=[] from rfl,List.append_nil]
  refine sd ?_
  refine b_lt (fun t1=>?_) (fun t1=>?_)
  (exfalso; omega)
  rotate_left
  exact hQ A
theorem v86b {N:Nat} {lim n:Int} {l:List Ld} (hl:l.length≤8) {Q:AExit→St→Prop} (hQ:Q .normal ⟨[(1,.d (.int .i64 lim)),(2,.d (.int .i64 n)),(13,.sl 6 l.length)],[.none,.none,.none,.none,.none,.none,.row 226 4 (rns (canon l (t0 l))) false,.none,.none,.none]⟩):vc Tryz.prog N seg86b ⟨[(1,.d (.int .i64 lim)),(2,.d (.int .i64 n)),(13,.nils 4),(59,.d (.slice 2 (lds l))),(60,.d (.int .i64 (((lds l).length:Nat):Int))),(61,.d (.int .i64 (0)))],[.none,.none,.none,.none,.none,.none,.none,.none,.none,.none]⟩ Q:=by
 unfold seg86b
 have hlen:=lds_len l
 refine loop_st (fun k:Nat=>⟨[(1,.d (.int .i64 lim)),(2,.d (.int .i64 n)),(13,.sl 6 (rns ((List.range k).map (rnAt l (t0 l)))).length),(59,.d (.slice 2 (lds l))),(60,.d (.int .i64 (((lds l).length:Nat):Int))),(61,.d (.int .i64 ((k:Nat))))],[.none,.none,.none,.none,.none,.none,.row 226 4 (rns ((List.range k).map (rnAt l (t0 l)))) false,.none,.none,.none]⟩) (fun k=>k≤l.length) (fun k=>l.length - k) 0 rfl (Nat.zero_le _) ?_
 intro k hk
 have hk:k≤l.length:=hk
 have hlr:(rns ((List.range k).map (rnAt l (t0 l)))).length=k:=by rw [rns_len,List.length_map,List.length_range]
 dsimp only
 by_cases hkn:k < l.length
 ·refine Exists.elim (get_lt l hkn) fun x hx=>?_
  have hx1:=lds_at hx
  have hs:rns ((List.range (k+1)).map (rnAt l (t0 l)))=rns ((List.range k).map (rnAt l (t0 l)))++[Data.agg [.str x.1,.int .i64 x.2,.int .i64 (k:Int),.int .i64 0]]:=by
   rw [List.range_succ,List.map_append]
   unfold rns
   rw [List.map_append]
   congr 1
   show [rnD (rnAt l (t0 l) k)]=_
   unfold rnAt rnD
   rw [hx]
   have:tAt (t0 l) k=0:=by unfold tAt t0; rw [List.getElem?_replicate]; split <;> rfl
   rw [this]; rfl
  have fin:∀ W:List Data,W=rns ((List.range (k+1)).map (rnAt l (t0 l)))→∃ a':Nat,(a'≤l.length∧l.length - a' < l.length - k)∧(⟨[(1,.d (.int .i64 lim)),(2,.d (.int .i64 n)),(13,.sl 6 W.length),(59,.d (.slice 2 (lds l))),(60,.d (.int .i64 (((lds l).length:Nat):Int))),(61,.d (.int .i64 (((k:Int)+1))))],[.none,.none,.none,.none,.none,.none,.row 226 4 W false,.none,.none,.none]⟩:St)=⟨[(1,.d (.int .i64 lim)),(2,.d (.int .i64 n)),(13,.sl 6 (rns ((List.range a').map (rnAt l (t0 l)))).length),(59,.d (.slice 2 (lds l))),(60,.d (.int .i64 (((lds l).length:Nat):Int))),(61,.d (.int .i64 ((a':Nat))))],[.none,.none,.none,.none,.none,.none,.row 226 4 (rns ((List.range a').map (rnAt l (t0 l)))) false,.none,.none,.none]⟩:=fun W e =>
   ⟨k+1,⟨by omega,by omega⟩,by rw [e]; rfl⟩
  have fin:=fin _ hs.symm
  clear hs
  generalize rns ((List.range k).map (rnAt l (t0 l)))=W at *
  refine sd ?_
  refine b_lt (fun t1=>?_) (fun t1=>?_)
  refine ix_at hx1 ?_ ?_
  (show (0:Int)≤(↑k:Int); omega)
  refine sd ?_
  refine sd ?_
  refine sd ?_
  refine an ?_ ?_
  refine an ?_ ?_
  exact rfl
  refine an ?_ ?_
  exact rfl
  refine an ?_ ?_
  exact rfl
  refine an ?_ ?_
  (show (List.length W+(1:Nat)) * (40:Nat)≤(2:Nat) ^ (47:Nat); omega)
  (show List.length W+(1:Nat)≤(2:Nat) ^ (47:Nat); omega)
  refine ar_add ?_ ?_
  refine an ?_ ?_
  (show (-9223372036854775808:Int)≤(↑k:Int)+(1:Int); omega)
  (show (↑k:Int)+(1:Int)≤(9223372036854775807:Int); omega)
  rotate_left
  (exfalso; omega)
  all_goals exact fin
 ·have e:k=l.length:=by omega
  subst e
  rw [hlr]
  refine sd ?_
  refine b_lt (fun t1=>?_) (fun t1=>?_)
  (exfalso; omega)
  rotate_left
  exact hQ
theorem v86c {N:Nat} {lim n:Int} {l:List Ld} (hl:l.length≤8) (hE:ldE l []=0) {Q:AExit→St→Prop} (hQ:Q .normal ⟨[(0,.d (.slice 2 (lds l))),(1,.d (.int .i64 lim)),(2,.d (.int .i64 n))],[.none,.none,.none,.none,.none,.none,.none,.none,.none,.none]⟩):vc Tryz.prog N seg86c ⟨[(0,.d (.slice 2 (lds l))),(1,.d (.int .i64 lim)),(2,.d (.int .i64 n)),(8,.mp 0),(24,.d (.slice 2 (lds l))),(25,.d (.int .i64 (((lds l).length:Nat):Int))),(26,.d (.int .i64 (0)))],[.mapo ([]),.none,.none,.none,.none,.none,.none,.none,.none,.none]⟩ Q:=by
 unfold seg86c
 have hlen:=lds_len l
 refine loop_st (fun k:Nat=>⟨[(0,.d (.slice 2 (lds l))),(1,.d (.int .i64 lim)),(2,.d (.int .i64 n)),(8,.mp 0),(24,.d (.slice 2 (lds l))),(25,.d (.int .i64 (((lds l).length:Nat):Int))),(26,.d (.int .i64 ((k:Nat))))],[.mapo (((l.take k).map Prod.fst).map fun n=>(Data.str n,Data.bool true)),.none,.none,.none,.none,.none,.none,.none,.none,.none]⟩) (fun k=>k≤l.length∧ldE (l.drop k) ((l.take k).map Prod.fst)=0) (fun k=>l.length - k) 0 rfl ⟨Nat.zero_le _,hE⟩ ?_
 rintro k ⟨hk,hi⟩
 have hk:k≤l.length:=hk
 dsimp only
 by_cases hkn:k < l.length
 ·refine Exists.elim (get_lt l hkn) fun x hx=>?_
  have hx1:=lds_at hx
  rw [drop_at hx,ldE] at hi
  have hns:((l.take k).map Prod.fst).length=k:=by rw [List.length_map,List.length_take]; omega
  have hf:findM (.str x.1) (((l.take k).map Prod.fst).map fun n=>(Data.str n,Data.bool true))=if ((l.take k).map Prod.fst).contains x.1 then some (Data.bool true) else none:=findM_names _ _
  have hky:=keys_names ((l.take k).map Prod.fst)
  have hlk:(∃ y,findM (.str x.1) (((l.take k).map Prod.fst).map fun n=>(Data.str n,Data.bool true))=some y∧[Data.bool (((l.take k).map Prod.fst).contains x.1),Data.bool (((l.take k).map Prod.fst).contains x.1)]=[y,.bool true])∨(findM (.str x.1) (((l.take k).map Prod.fst).map fun n=>(Data.str n,Data.bool true))=none∧[Data.bool (((l.take k).map Prod.fst).contains x.1),Data.bool (((l.take k).map Prod.fst).contains x.1)]=[.bool false,.bool false]):=by
   rw [hf]
   rcases Bool.eq_false_or_eq_true (((l.take k).map Prod.fst).contains x.1) with e | e
   ·rw [e]; exact .inl ⟨_,rfl,rfl⟩
   ·rw [e]; exact .inr ⟨rfl,rfl⟩
  have c99_:CallDet Tryz.prog 99 [.d (.slice 1 [.int .i64 (bif !(isNm x.1) then 8 else 0),.int .i64 (bif ((l.take k).map Prod.fst).contains x.1 then 9 else 0),.int .i64 (within3 x.2 0 1000)])] [.int .i64 (ldX x ((l.take k).map Prod.fst))]:=c99 [bif !(isNm x.1) then 8 else 0,bif ((l.take k).map Prod.fst).contains x.1 then 9 else 0,within3 x.2 0 1000] (by simp)
  have hpm:ldX x ((l.take k).map Prod.fst)=0→putM (.str x.1) (.bool true) (((l.take k).map Prod.fst).map fun n=>(Data.str n,Data.bool true))=((l.take (k+1)).map Prod.fst).map fun n=>(Data.str n,Data.bool true):=fun e=>by
   have h4:=firstOf_zero e (bif ((l.take k).map Prod.fst).contains x.1 then 9 else 0) (by simp)
   have hnew:((l.take k).map Prod.fst).contains x.1=false:=by
    rcases Bool.eq_false_or_eq_true (((l.take k).map Prod.fst).contains x.1) with e | e
    ·rw [e] at h4; cases h4
    ·exact e
   rw [putM_names _ _ hnew,nms_step hx]
  have h0:ldX x ((l.take k).map Prod.fst)=0:=by
   by_cases h:ldX x ((l.take k).map Prod.fst)=0
   ·exact h
   ·rw [bne_iff_ne.2 h] at hi; exact hi
  rw [h0] at hi c99_
  have hi:ldE (l.drop (k+1)) ((l.take k).map Prod.fst++[x.1])=0:=hi
  have fin:∃ a':Nat,((a'≤l.length∧ldE (l.drop a') ((l.take a').map Prod.fst)=0)∧l.length - a' < l.length - k)∧(⟨[(0,.d (.slice 2 (lds l))),(1,.d (.int .i64 lim)),(2,.d (.int .i64 n)),(8,.mp 0),(24,.d (.slice 2 (lds l))),(25,.d (.int .i64 (((lds l).length:Nat):Int))),(26,.d (.int .i64 (((k:Int)+1))))],[.mapo (putM (.str x.1) (.bool true) (((l.take k).map Prod.fst).map fun n=>(Data.str n,Data.bool true))),.none,.none,.none,.none,.none,.none,.none,.none,.none]⟩:St)=⟨[(0,.d (.slice 2 (lds l))),(1,.d (.int .i64 lim)),(2,.d (.int .i64 n)),(8,.mp 0),(24,.d (.slice 2 (lds l))),(25,.d (.int .i64 (((lds l).length:Nat):Int))),(26,.d (.int .i64 ((a':Nat))))],[.mapo (((l.take a').map Prod.fst).map fun n=>(Data.str n,Data.bool true)),.none,.none,.none,.none,.none,.none,.none,.none,.none]⟩ :=
   ⟨k+1,⟨⟨by omega,by rw [nms_step hx]; exact hi⟩,by omega⟩,by rw [hpm h0]; rfl⟩
  refine sd ?_
  refine b_lt (fun t1=>?_) (fun t1=>?_)
  rotate_left
  ·exfalso; omega
  refine ix_at hx1 (Int.natCast_nonneg _) ?_
  repeat refine sd ?_
  refine ca (c116 x.1) ?_
  refine Exists.intro [Data.bool (((l.take k).map Prod.fst).contains x.1),Data.bool (((l.take k).map Prod.fst).contains x.1)] (And.intro ⟨rfl,hky,hlk⟩ ?_)
  refine ca (c103 _ _) ?_
  refine ca (c122 _ _ _) ?_
  repeat refine sd ?_
  refine ca c99_ ?_
  repeat refine sd ?_
  refine And.intro (And.intro rfl hky) ?_
  refine ar_add (And.intro (by omega) (by omega)) ?_
  exact fin
 ·have e:k=l.length:=by omega
  subst e
  refine sd ?_
  refine b_lt (fun t1=>?_) (fun t1=>?_)
  (exfalso; omega)
  rotate_left
  exact hQ
def jr86x:AFun:=⟨134,10,[.tmp 6,.tmp 7],
 (.seq
 (.reg [] [⟨some 6,.mov (.cst (.nils 1)),none⟩,
  ⟨some 7,.mov (.cst (.d (.int .i64 0))),none⟩])
 (.seq
  (.seq
  (.reg [] [⟨some 20,.mov (.tmp 0),none⟩,
   ⟨some 21,.len (.tmp 20),none⟩,
   ⟨some 22,.cmp .gtr (.tmp 21) (.cst (.d (.int .i64 8))),none⟩])
  (.cond (.tmp 22)
   (.seq
   (.reg [] [⟨some 6,.mov (.cst (.nils 1)),none⟩,
    ⟨some 7,.mov (.cst (.d (.int .i64 5))),none⟩])
   .ret)
   .skip))
  (.seq
  (.reg [0] [⟨some 23,.mkm 0,none⟩,
   ⟨some 8,.mov (.tmp 23),none⟩])
  (.seq
   (.seq
   (.reg [] [⟨some 24,.mov (.tmp 0),none⟩,
    ⟨some 25,.len (.tmp 24),none⟩,
    ⟨some 26,.mov (.cst (.d (.int .i64 0))),none⟩])
   (.keep [0,1,2,8,24,25,26] [1,2] (.post [0,1,2] [0,1,2]
    (.block 0
    (.keep [0,1,2,8,24,25,26] [0]
     (.loop
     (.post [0,1,2,8,24,25,26] [1,2]
      (.seq
      (.reg [] [⟨some 27,.cmp .lss (.tmp 26) (.tmp 25),none⟩])
      (.seq
       (.cond (.tmp 27)
       .skip
       (.exit 0))
       (.seq
       (.block 1
        (.seq
        (.reg [1] [⟨some 28,.ixa 2 (.tmp 24) (.tmp 26),none⟩,
         ⟨some 29,.ld true 2 (.tmp 28),none⟩,
         ⟨some 10,.alloc 1 [(.d (.str [])),(.d (.int .i64 0))],none⟩,
         ⟨none,.st 2 (.tmp 10) (.tmp 29),none⟩])
        (.seq
         (.seq
         (.regd [2] [⟨some 30,.fad 0 (.tmp 10),none⟩,
          ⟨some 31,.ld false 1 (.tmp 30),none⟩,
          ⟨some 32,.call 116 [(.tmp 31)],none⟩,
          ⟨some 33,.mov (.tmp 8),none⟩,
          ⟨some 34,.fad 0 (.tmp 10),none⟩,
          ⟨some 35,.ld false 1 (.tmp 34),none⟩,
          ⟨some 36,.lkp none (.bool false) false (.tmp 33) (.tmp 35),none⟩,
          ⟨some 37,.call 103 [(.tmp 36),(.cst (.d (.int .i64 9)))],none⟩,
          ⟨some 38,.fad 1 (.tmp 10),none⟩,
          ⟨some 39,.ld false 1 (.tmp 38),none⟩,
          ⟨some 40,.call 122 [(.tmp 39),(.cst (.d (.int .i64 0))),(.cst (.d (.int .i64 1000)))],none⟩,
          ⟨some 41,.bsl 2 32 1 3 [(.int .i64 0),(.int .i64 0),(.int .i64 0)] [(0,(.tmp 32)),(1,(.tmp 37)),(2,(.tmp 40))],none⟩,
          ⟨some 42,.call 99 [(.tmp 41)],none⟩,
          ⟨some 11,.mov (.tmp 42),none⟩] [(0,3),(1,3),(2,3),(0,4),(1,4),(2,4),(3,4),(0,5),(1,5),(2,5),(3,5),(0,6),(1,6),(2,6),(0,8),(1,8),(2,8),(3,8),(4,8),(5,8),(6,8),(7,8),(0,9),(1,9),(2,9),(3,9),(4,9),(5,9),(6,9),(7,9)])
         (.seq
          (.reg [] [⟨some 43,.mov (.tmp 11),none⟩,
           ⟨some 44,.cmp .neq (.tmp 43) (.cst (.d (.int .i64 0))),none⟩])
          (.cond (.tmp 44)
          (.seq
           (.reg [] [⟨some 45,.mov (.tmp 11),none⟩,
            ⟨some 6,.mov (.cst (.nils 1)),none⟩,
            ⟨some 7,.mov (.tmp 45),none⟩])
           .ret)
          .skip)))
         (.reg [] [⟨some 46,.mov (.tmp 8),none⟩,
          ⟨some 47,.fad 0 (.tmp 10),none⟩,
          ⟨some 48,.ld false 1 (.tmp 47),none⟩,
          ⟨none,.mpu none (.tmp 46) (.tmp 48) (.cst (.d (.bool true))),none⟩]))))
       (.reg [] [⟨some 49,.arith .add .i64 (.tmp 26) (.cst (.d (.int .i64 1))),none⟩,
        ⟨some 26,.mov (.tmp 49),none⟩])))))))))))
   (.seq
   (.seq
    (.reg [3] [⟨some 50,.mov (.tmp 1),none⟩,
     ⟨some 51,.call 122 [(.tmp 50),(.cst (.d (.int .i64 0))),(.cst (.d (.int .i64 8000)))],none⟩,
     ⟨some 52,.mov (.tmp 2),none⟩,
     ⟨some 53,.call 122 [(.tmp 52),(.cst (.d (.int .i64 0))),(.cst (.d (.int .i64 64)))],none⟩,
     ⟨some 54,.bsl 3 32 1 2 [(.int .i64 0),(.int .i64 0)] [(0,(.tmp 51)),(1,(.tmp 53))],none⟩,
     ⟨some 55,.call 99 [(.tmp 54)],none⟩,
     ⟨some 12,.mov (.tmp 55),none⟩])
    (.seq
    (.reg [] [⟨some 56,.mov (.tmp 12),none⟩,
     ⟨some 57,.cmp .neq (.tmp 56) (.cst (.d (.int .i64 0))),none⟩])
    (.cond (.tmp 57)
     (.seq
     (.reg [] [⟨some 58,.mov (.tmp 12),none⟩,
      ⟨some 6,.mov (.cst (.nils 1)),none⟩,
      ⟨some 7,.mov (.tmp 58),none⟩])
     .ret)
     .skip)))
   (.seq
    (.reg [] [⟨some 13,.mov (.cst (.nils 4)),none⟩])
    (.seq
    (.seq
     (.reg [] [⟨some 59,.mov (.tmp 0),none⟩,
      ⟨some 60,.len (.tmp 59),none⟩,
      ⟨some 61,.mov (.cst (.d (.int .i64 0))),none⟩])
     (.keep [1,2,13,59,60,61] [0,1,2,3] seg86b))
    (.seq
     (.reg [0,1,2,3,4,5,7] [⟨some 73,.mov (.tmp 2),none⟩,
      ⟨some 74,.mkb 7 28 1 24 (.nils 1) (.tmp 73),none⟩,
      ⟨some 16,.mov (.tmp 74),none⟩])
     (.seq
     (.seq
      (.reg [] [⟨some 75,.mov (.tmp 2),none⟩,
       ⟨some 76,.mov (.cst (.d (.int .i64 0))),none⟩])
      (.keep [1,13,16,75,76] [] (seg86o (seg86s (seg86i seg86r) seg86t seg86u))))
     (.asdat 16 (.seq
      (.reg [] [⟨some 133,.mov (.tmp 16),none⟩,
       ⟨some 6,.mov (.tmp 133),none⟩,
       ⟨some 7,.mov (.cst (.d (.int .i64 0))),none⟩])
      .ret)))))))))))⟩
def cerr (l:List Ld) (lim n:Int):Int:=bif loadsE l != 0 then loadsE l else firstOf [within3 lim 0 8000,within3 n 0 64]
theorem loads_0 {l:List Ld} (h:loadsE l=0):l.length≤8∧ldE l []=0:=by
 unfold loadsE at h
 by_cases c:(8:Int) < (l.length:Int)
 ·rw [decide_eq_true c] at h; cases h
 ·rw [decide_eq_false c] at h; exact ⟨by omega,h⟩
theorem c86e (l:List Ld) (lim n:Int) (hll:l.length≤1048576) (he:cerr l lim n≠0):CallDet Tryz.prog 86 [.d (.slice 2 (lds l)),.d (.int .i64 lim),.d (.int .i64 n)] [.slice 1 [],.int .i64 (cerr l lim n)]:=by
 have hlen:=lds_len l
 have c99b_:=c99 [within3 lim 0 8000,within3 n 0 64] (by simp)
 by_cases hl8:(8:Int) < (l.length:Int)
 ·have e5:loadsE l=5:=by unfold loadsE; rw [decide_eq_true hl8]; rfl
  have e6:cerr l lim n=5:=by unfold cerr; rw [e5]; rfl
  rw [e6]
  refine call_of_vc (x:=jr86 0) (by kernel_rfl) rfl ?_
  refine sd ?_
  refine b_lt (fun t1=>?_) (fun t1=>?_)
  exact rfl
  (exfalso; omega)
 have eL:loadsE l=ldE l []:=by unfold loadsE; rw [decide_eq_false hl8]; rfl
 have hl:l.length≤8:=by omega
 by_cases hE:ldE l []=0
 ·have e6:cerr l lim n=firstOf [within3 lim 0 8000,within3 n 0 64]:=by unfold cerr; rw [eL,hE]; rfl
  rw [e6] at he ⊢
  have hvc:=fun (Q:AExit→St→Prop)=>v86c (N:=134) (lim:=lim) (n:=n) (l:=l) hl hE (Q:=Q)
  have c99_:CallDet Tryz.prog 99 [.d (.slice 1 [.int .i64 (within3 lim 0 8000),.int .i64 (within3 n 0 64)])] [.int .i64 (firstOf [within3 lim 0 8000,within3 n 0 64])]:=c99b_
  generalize firstOf [within3 lim 0 8000,within3 n 0 64]=E at *
  refine call_of_vc (x:=jr86 0) (by kernel_rfl) rfl ?_
  refine sd ?_
  refine b_lt (fun t1=>?_) (fun t1=>?_)
  (exfalso; omega)
  refine hvc _ ?_
  refine ca (c122 _ _ _) ?_
  refine ca (c122 _ _ _) ?_
  refine sd ?_
  refine sd ?_
  refine ca c99_ ?_
  refine sd ?_
  refine b_ne (fun t2=>?_) (fun t2=>?_)
  exact rfl
  (exfalso; omega)
 ·have e6:cerr l lim n=ldE l []:=by unfold cerr; rw [eL,bne_iff_ne.2 hE]; rfl
  rw [e6]
  clear e6 he eL
  refine call_of_vc (x:=jr86x) (by kernel_rfl) rfl ?_
  refine sd ?_
  refine b_lt (fun t0=>?_) (fun t0=>?_)
  ·exfalso; omega
  refine loop_st (fun k:Nat=>⟨[(0,.d (.slice 2 (lds l))),(1,.d (.int .i64 lim)),(2,.d (.int .i64 n)),(8,.mp 0),(24,.d (.slice 2 (lds l))),(25,.d (.int .i64 (((lds l).length:Nat):Int))),(26,.d (.int .i64 ((k:Nat))))],[.mapo (((l.take k).map Prod.fst).map fun n=>(Data.str n,Data.bool true)),.none,.none,.none,.none,.none,.none,.none,.none,.none]⟩) (fun k=>k≤l.length∧ldE l []=ldE (l.drop k) ((l.take k).map Prod.fst)) (fun k=>l.length - k) 0 rfl ⟨Nat.zero_le _,rfl⟩ ?_
  rintro k ⟨hk,hi⟩
  have hk:k≤l.length:=hk
  dsimp only
  by_cases hkn:k < l.length
  ·refine Exists.elim (get_lt l hkn) fun x hx=>?_
   have hx1:=lds_at hx
   rw [drop_at hx,ldE] at hi
   have hns:((l.take k).map Prod.fst).length=k:=by rw [List.length_map,List.length_take]; omega
   have hf:findM (.str x.1) (((l.take k).map Prod.fst).map fun n=>(Data.str n,Data.bool true))=if ((l.take k).map Prod.fst).contains x.1 then some (Data.bool true) else none:=findM_names _ _
   have hky:=keys_names ((l.take k).map Prod.fst)
   have hlk:(∃ y,findM (.str x.1) (((l.take k).map Prod.fst).map fun n=>(Data.str n,Data.bool true))=some y∧[Data.bool (((l.take k).map Prod.fst).contains x.1),Data.bool (((l.take k).map Prod.fst).contains x.1)]=[y,.bool true])∨(findM (.str x.1) (((l.take k).map Prod.fst).map fun n=>(Data.str n,Data.bool true))=none∧[Data.bool (((l.take k).map Prod.fst).contains x.1),Data.bool (((l.take k).map Prod.fst).contains x.1)]=[.bool false,.bool false]):=by
    rw [hf]
    rcases Bool.eq_false_or_eq_true (((l.take k).map Prod.fst).contains x.1) with e | e
    ·rw [e]; exact .inl ⟨_,rfl,rfl⟩
    ·rw [e]; exact .inr ⟨rfl,rfl⟩
   have c99_:CallDet Tryz.prog 99 [.d (.slice 1 [.int .i64 (bif !(isNm x.1) then 8 else 0),.int .i64 (bif ((l.take k).map Prod.fst).contains x.1 then 9 else 0),.int .i64 (within3 x.2 0 1000)])] [.int .i64 (ldX x ((l.take k).map Prod.fst))]:=c99 [bif !(isNm x.1) then 8 else 0,bif ((l.take k).map Prod.fst).contains x.1 then 9 else 0,within3 x.2 0 1000] (by simp)
   have hpm:ldX x ((l.take k).map Prod.fst)=0→putM (.str x.1) (.bool true) (((l.take k).map Prod.fst).map fun n=>(Data.str n,Data.bool true))=((l.take (k+1)).map Prod.fst).map fun n=>(Data.str n,Data.bool true):=fun e=>by
    have h4:=firstOf_zero e (bif ((l.take k).map Prod.fst).contains x.1 then 9 else 0) (by simp)
    have hnew:((l.take k).map Prod.fst).contains x.1=false:=by
     rcases Bool.eq_false_or_eq_true (((l.take k).map Prod.fst).contains x.1) with e | e
     ·rw [e] at h4; cases h4
     ·exact e
    rw [putM_names _ _ hnew,nms_step hx]
   by_cases h0:ldX x ((l.take k).map Prod.fst)=0
   ·rw [h0] at hi c99_
    have hi:ldE l []=ldE (l.drop (k+1)) ((l.take k).map Prod.fst++[x.1]):=hi
    have fin:∃ a':Nat,((a'≤l.length∧ldE l []=ldE (l.drop a') ((l.take a').map Prod.fst))∧l.length - a' < l.length - k)∧(⟨[(0,.d (.slice 2 (lds l))),(1,.d (.int .i64 lim)),(2,.d (.int .i64 n)),(8,.mp 0),(24,.d (.slice 2 (lds l))),(25,.d (.int .i64 (((lds l).length:Nat):Int))),(26,.d (.int .i64 (((k:Int)+1))))],[.mapo (putM (.str x.1) (.bool true) (((l.take k).map Prod.fst).map fun n=>(Data.str n,Data.bool true))),.none,.none,.none,.none,.none,.none,.none,.none,.none]⟩:St)=⟨[(0,.d (.slice 2 (lds l))),(1,.d (.int .i64 lim)),(2,.d (.int .i64 n)),(8,.mp 0),(24,.d (.slice 2 (lds l))),(25,.d (.int .i64 (((lds l).length:Nat):Int))),(26,.d (.int .i64 ((a':Nat))))],[.mapo (((l.take a').map Prod.fst).map fun n=>(Data.str n,Data.bool true)),.none,.none,.none,.none,.none,.none,.none,.none,.none]⟩ :=
     ⟨k+1,⟨⟨by omega,by rw [nms_step hx]; exact hi⟩,by omega⟩,by rw [hpm h0]; rfl⟩
    refine sd ?_
    refine b_lt (fun t1=>?_) (fun t1=>?_)
    rotate_left
    ·exfalso; omega
    refine ix_at hx1 (Int.natCast_nonneg _) ?_
    repeat refine sd ?_
    refine ca (c116 x.1) ?_
    refine Exists.intro [Data.bool (((l.take k).map Prod.fst).contains x.1),Data.bool (((l.take k).map Prod.fst).contains x.1)] (And.intro ⟨rfl,hky,hlk⟩ ?_)
    refine ca (c103 _ _) ?_
    refine ca (c122 _ _ _) ?_
    repeat refine sd ?_
    refine ca c99_ ?_
    repeat refine sd ?_
    refine And.intro (And.intro rfl hky) ?_
    refine ar_add (And.intro (by omega) (by omega)) ?_
    exact fin
   ·rw [bne_iff_ne.2 h0] at hi
    have hi:ldE l []=ldX x ((l.take k).map Prod.fst):=hi
    rw [← hi] at h0 c99_
    generalize ldE l []=E at *
    refine sd ?_
    refine b_lt (fun t1=>?_) (fun t1=>?_)
    rotate_left
    ·exfalso; omega
    refine ix_at hx1 (Int.natCast_nonneg _) ?_
    repeat refine sd ?_
    refine ca (c116 x.1) ?_
    refine Exists.intro [Data.bool (((l.take k).map Prod.fst).contains x.1),Data.bool (((l.take k).map Prod.fst).contains x.1)] (And.intro ⟨rfl,hky,hlk⟩ ?_)
    refine ca (c103 _ _) ?_
    refine ca (c122 _ _ _) ?_
    repeat refine sd ?_
    refine ca c99_ ?_
    repeat refine sd ?_
    refine b_t (bne_iff_ne.2 h0) ?_
    exact rfl
  ·have e:k=l.length:=by omega
   subst e
   rw [List.drop_eq_nil_of_le (Nat.le_refl _)] at hi
   exact absurd hi hE
theorem c86p (l:List Ld) (lim:Int) (m:Nat) (hl:l.length≤8) (hE:ldE l []=0) (hlim:0≤lim∧lim≤8000) (hm:m+1≤64):CallDet Tryz.prog 86 [.d (.slice 2 (lds l)),.d (.int .i64 lim),.d (.int .i64 (((m+1:Nat)):Int))] [.slice 1 (iss (slots lim l (m+1) (t0 l))),.int .i64 0]:=by
 have hlen:=lds_len l
 have hvc:=fun (Q:AExit→St→Prop)=>v86c (N:=134) (lim:=lim) (n:=((m+1:Nat):Int)) (l:=l) hl hE (Q:=Q)
 have hvb:=fun (Q:AExit→St→Prop)=>v86b (N:=134) (lim:=lim) (n:=((m+1:Nat):Int)) (l:=l) hl (Q:=Q)
 have hvo:=fun (Q:AExit→St→Prop)=>v86o (xs:=seg86s (seg86i seg86r) seg86t seg86u) (lim:=lim) (M:=l.length) (m:=m+1) (l:=l) rfl hl hm (ldE_rng hE) (fun A c1 c2 e1 e2 e3 e4 e5 e6 e7 e8 e9 Q hQ=>v86S e1 e2 e3 e4 hm hlim e5 e6 e7 e8 e9 hQ) (Q:=Q)
 have hsl:=slots_len lim l (m+1) (t0 l)
 have hall:=allD_dc (slots lim l (m+1) (t0 l))
 have hil:=iss_len (slots lim l (m+1) (t0 l))
 have w1:within3 lim 0 8000=0:=by unfold within3; rw [decide_eq_false (by omega),decide_eq_false (by omega)]; rfl
 have w2:within3 ((m+1:Nat):Int) 0 64=0:=by unfold within3; rw [decide_eq_false (by omega),decide_eq_false (by omega)]; rfl
 have c99_:CallDet Tryz.prog 99 [.d (.slice 1 [.int .i64 (within3 lim 0 8000),.int .i64 (within3 ((m+1:Nat):Int) 0 64)])] [.int .i64 0]:=by rw [w1,w2]; exact c99 [0,0] (by simp)
 clear hE w1 w2
 generalize slots lim l (m+1) (t0 l)=D at *
 refine call_of_vc (x:=jr86 m) (by kernel_rfl) rfl ?_
 refine sd ?_
 refine b_lt (fun t1=>?_) (fun t1=>?_)
 (exfalso; omega)
 refine hvc _ ?_
 refine ca (c122 _ _ _) ?_
 refine ca (c122 _ _ _) ?_
 refine sd ?_
 refine sd ?_
 refine ca c99_ ?_
 refine sd ?_
 refine hvb _ ?_
 refine an ?_ ?_
 refine an ?_ ?_
 exact rfl
 refine an ?_ ?_
 (show (m+(1:Nat)) * (24:Nat)≤(2:Nat) ^ (47:Nat); omega)
 (show m+(1:Nat)≤(2:Nat) ^ (47:Nat); omega)
 refine hvo _ ?_
 intro t2
 rotate_left
 refine vc_asdat_bv (st:=⟨[(16,.bv 7 0 (m+1))],[.none,.none,.none,.none,.none,.none,.row 226 4 (rns _) false,.box (dc D),.none,.none]⟩) (s:=16) (id:=7) (m:=m+1) (cs:=dc D) (ds:=iss D) rfl rfl hall (hil.trans hsl) ?_
 exact rfl
theorem c86z (l:List Ld) (lim:Int) (hl:l.length≤8) (hE:ldE l []=0) (hlim:0≤lim∧lim≤8000):CallDet Tryz.prog 86 [.d (.slice 2 (lds l)),.d (.int .i64 lim),.d (.int .i64 0)] [.slice 1 [],.int .i64 0]:=by
 have hlen:=lds_len l
 have hvc:=fun (Q:AExit→St→Prop)=>v86c (N:=134) (lim:=lim) (n:=0) (l:=l) hl hE (Q:=Q)
 have hvb:=fun (Q:AExit→St→Prop)=>v86b (N:=134) (lim:=lim) (n:=0) (l:=l) hl (Q:=Q)
 have w1:within3 lim 0 8000=0:=by unfold within3; rw [decide_eq_false (by omega),decide_eq_false (by omega)]; rfl
 have c99_:CallDet Tryz.prog 99 [.d (.slice 1 [.int .i64 (within3 lim 0 8000),.int .i64 (within3 0 0 64)])] [.int .i64 0]:=by rw [w1]; exact c99 [0,0] (by simp)
 clear hE w1
 refine call_of_vc (x:=jr86z) (by kernel_rfl) rfl ?_
 refine sd ?_
 refine b_lt (fun t1=>?_) (fun t1=>?_)
 (exfalso; omega)
 refine hvc _ ?_
 refine ca (c122 _ _ _) ?_
 refine ca (c122 _ _ _) ?_
 refine sd ?_
 refine sd ?_
 refine ca c99_ ?_
 refine sd ?_
 refine hvb _ ?_
 refine an ?_ ?_
 refine an ?_ ?_
 (show (0:Int)≤(0:Int); omega)
 refine an ?_ ?_
 (show (0:Int) * (↑(24:Nat):Int)≤(2:Int) ^ (47:Nat); omega)
 (show (0:Int)≤(2:Int) ^ (47:Nat); omega)
 rotate_left
 refine loop_st (fun k:Nat=>⟨[(1,.d (.int .i64 lim)),(13,.sl 6 l.length),(16,.sl 7 0),(75,.d (.int .i64 0)),(76,.d (.int .i64 0))],[.none,.none,.none,.none,.none,.none,.row 226 4 (rns (canon l (t0 l))) false,.row 28 1 [] false,.none,.none]⟩) (fun _=>True) (fun k=>k) 0 rfl trivial ?_
 intro k _
 dsimp only
 refine sd ?_
 exact rfl
end Vc
set_option maxRecDepth 10000
set_option maxHeartbeats 4000000
namespace Vc
open Go Go.Proofs
def jr8:AFun:=⟨55,1,[.tmp 6],
 (.seq
 (.reg [] [⟨some 6,.mov (.cst (.d (.bool false))),none⟩])
 (.seq
  (.seq
  (.reg [] [⟨some 11,.mov (.tmp 0),none⟩,
   ⟨some 12,.call 85 [(.tmp 11)],none⟩,
   ⟨some 13,.not (.tmp 12),none⟩,
   ⟨some 14,.mov (.tmp 13),none⟩,
   ⟨some 15,.mov (.tmp 2),some (14,false)⟩,
   ⟨some 16,.cmp .gtr (.tmp 15) (.cst (.d (.int .i64 20))),some (14,false)⟩,
   ⟨some 17,.mov (.tmp 16),some (14,false)⟩,
   ⟨some 18,.mov (.tmp 2),some (17,true)⟩,
   ⟨some 19,.cmp .leq (.tmp 18) (.cst (.d (.int .i64 64))),some (17,true)⟩,
   ⟨some 20,.pick (.tmp 17) (.tmp 19) (.cst (.d (.bool false))),some (14,false)⟩,
   ⟨some 21,.pick (.tmp 14) (.cst (.d (.bool true))) (.tmp 20),none⟩])
  (.cond (.tmp 21)
   (.seq
   (.reg [] [⟨some 22,.call 13 [],none⟩,
    ⟨some 6,.mov (.tmp 22),none⟩])
   .ret)
   .skip))
  (.seq
  (.reg [] [⟨some 24,.mov (.tmp 0),none⟩,
   ⟨some 25,.call 87 [(.tmp 24)],none⟩,
   ⟨some 26,.mov (.tmp 1),none⟩,
   ⟨some 27,.mov (.tmp 2),none⟩,
   ⟨some 28,.call 86 [(.tmp 25),(.tmp 26),(.tmp 27)],none⟩,
   ⟨some 23,.mov (.tmp 28),none⟩,
   ⟨some 29,.ext 0 (.tmp 23),none⟩,
   ⟨some 30,.ext 1 (.tmp 23),none⟩,
   ⟨some 7,.mov (.tmp 29),none⟩,
   ⟨some 8,.mov (.tmp 30),none⟩])
  (.seq
   (.reg [0] [⟨some 31,.mov (.tmp 0),none⟩,
    ⟨some 32,.call 88 [(.tmp 31)],none⟩,
    ⟨some 33,.mov (.tmp 1),none⟩,
    ⟨some 34,.mov (.tmp 2),none⟩,
    ⟨some 35,.call 89 [(.tmp 33),(.tmp 34)],none⟩,
    ⟨some 36,.bsl 0 3 1 2 [(.int .i64 0),(.int .i64 0)] [(0,(.tmp 32)),(1,(.tmp 35))],none⟩,
    ⟨some 37,.call 19 [(.tmp 36)],none⟩,
    ⟨some 9,.mov (.tmp 37),none⟩])
   (.seq
   (.reg [] [⟨some 10,.mov (.cst (.d (.slice 1 []))),none⟩])
   (.seq
    (.seq
    (.reg [] [⟨some 38,.mov (.tmp 9),none⟩,
     ⟨some 39,.cmp .eql (.tmp 38) (.cst (.d (.int .i64 0))),none⟩])
    (.cond (.tmp 39)
     (.reg [] [⟨some 40,.mov (.tmp 0),none⟩,
      ⟨some 41,.mov (.tmp 1),none⟩,
      ⟨some 42,.mov (.tmp 2),none⟩,
      ⟨some 43,.call 90 [(.tmp 40),(.tmp 41),(.tmp 42)],none⟩,
      ⟨some 10,.mov (.tmp 43),none⟩])
     .skip))
    (.seq
    (.reg [] [⟨some 44,.mov (.tmp 7),none⟩,
     ⟨some 45,.mov (.tmp 10),none⟩,
     ⟨some 46,.call 91 [(.tmp 44),(.tmp 45)],none⟩,
     ⟨some 47,.mov (.tmp 46),none⟩,
     ⟨some 48,.mov (.tmp 8),some (47,true)⟩,
     ⟨some 49,.mov (.tmp 9),some (47,true)⟩,
     ⟨some 50,.cmp .eql (.tmp 48) (.tmp 49),some (47,true)⟩,
     ⟨some 51,.pick (.tmp 47) (.tmp 50) (.cst (.d (.bool false))),none⟩,
     ⟨some 52,.mov (.tmp 51),none⟩,
     ⟨some 53,.call 13 [],some (52,true)⟩,
     ⟨some 54,.pick (.tmp 52) (.tmp 53) (.cst (.d (.bool false))),none⟩,
     ⟨some 6,.mov (.tmp 54),none⟩])
    .ret)))))))⟩
theorem upTo_len (R:List Int):∀ k,(upTo R k).length≤k
 | 0=>Nat.le_refl _
 | k+1=>by
  have ih:=upTo_len R k
  rw [upTo,List.length_append]
  cases R.contains (k:Int) <;> (simp only [cond_true,cond_false,List.length_nil,List.length_singleton]; omega)
theorem slots_in (lim:Int) (l:List Ld):∀ (k:Nat) (t:List Int),∀ x∈slots lim l k t,x.length≤l.length
 | 0,_,x,h=>by cases h
 | k+1,t,x,h=>by
  rcases List.mem_cons.1 h with rfl | h
  ·exact upTo_len _ _
  ·exact slots_in lim l k _ x h
theorem within3_0 {x a b:Int} (h:within3 x a b=0):a≤x∧x≤b:=by
 unfold within3 at h
 by_cases c1:x < a
 ·rw [decide_eq_true c1] at h; cases h
 ·by_cases c2:b < x
  ·rw [decide_eq_true c2,Bool.or_true] at h; cases h
  ·omega
theorem cerr_first (l:List Ld) (lim n:Int):firstOf [loadsE l,firstOf [within3 lim 0 8000,within3 n 0 64]]=cerr l lim n:=by
 unfold cerr
 generalize firstOf [within3 lim 0 8000,within3 n 0 64]=b
 generalize loadsE l=a
 show (bif a != 0 then a else (bif b != 0 then b else 0))=_
 cases h:(b != 0)
 ·have:b=0:=by simpa using h
  rw [this]; rfl
 ·rfl
theorem turns86 (l:List Ld) (lim n:Int) (hll:l.length≤1048576):∃ T:List (List Int),CallDet Tryz.prog 86 [.d (.slice 2 (lds l)),.d (.int .i64 lim),.d (.int .i64 n)] [.slice 1 (iss T),.int .i64 (cerr l lim n)]∧(cerr l lim n=0→CallDet Tryz.prog 90 [.d (.slice 2 (lds l)),.d (.int .i64 lim),.d (.int .i64 n)] [.slice 1 (iss T)])∧(cerr l lim n≠0→T=[])∧T.length≤1048576∧∀ x∈T,x.length≤1048576:=by
 by_cases he:cerr l lim n=0
 ·have h1 : loadsE l = 0 := by
   by_cases h:loadsE l=0
   ·exact h
   ·unfold cerr at he; rw [bne_iff_ne.2 h] at he; exact he
  have h2:firstOf [within3 lim 0 8000,within3 n 0 64]=0:=by unfold cerr at he; rw [h1] at he; exact he
  obtain ⟨hl,hE⟩:=loads_0 h1
  have hlim:=within3_0 (firstOf_zero h2 (within3 lim 0 8000) (by simp))
  have hn:=within3_0 (firstOf_zero h2 (within3 n 0 64) (by simp))
  refine ⟨slots lim l n.toNat (t0 l),?_,fun _=>c90 l lim n hl hlim hn (ldE_rng hE),fun h=>absurd he h,by rw [slots_len]; omega,fun x hx=>by have:=slots_in lim l _ _ x hx; omega⟩
  rw [he]
  by_cases hz:n=0
  ·subst hz
   exact c86z l lim hl hE hlim
  ·obtain ⟨m,rfl⟩:∃ m:Nat,n=((m+1:Nat):Int):=⟨n.toNat - 1,by omega⟩
   exact c86p l lim m hl hE hlim (by omega)
 ·exact ⟨[],c86e l lim n hll he,fun h=>absurd h he,fun _=>rfl,Nat.zero_le _,fun x hx=>by cases hx⟩
theorem law8 (l:List Ld) (lim n:Int) (hl:l.length≤1048576):CallDet Tryz.prog 8 [.d (.slice 2 (lds l)),.d (.int .i64 lim),.d (.int .i64 n)] [.bool true]:=by
 have hlen:=lds_len l
 have c85_:=c85 l hl
 have c87_:=c87 l hl
 have c88_:=c88 l hl
 obtain ⟨T,c86_,h90,hTe,hT1,hT2⟩:=turns86 l lim n hl
 have c91_:=c91 T hT1 hT2
 have c19_:CallDet Tryz.prog 19 [.d (.slice 1 [.int .i64 (loadsE l),.int .i64 (firstOf [within3 lim 0 8000,within3 n 0 64])])] [.int .i64 (cerr l lim n)]:=by rw [← cerr_first]; exact c19 [loadsE l,firstOf [within3 lim 0 8000,within3 n 0 64]] (by simp)
 have b1:(cerr l lim n==cerr l lim n)=true:=beq_self_eq_true _
 by_cases he:cerr l lim n=0
 ·have c90_:=h90 he
  rw [he] at c86_ c19_
  clear h90 hTe he b1
  cases hs:shortL l
  ·rw [hs] at c85_
   refine call_of_vc (x:=jr8) (by kernel_rfl) rfl ?_
   refine ca c85_ ?_
   refine sd ?_
   refine ca (c13) ?_
   exact rfl
  ·rw [hs] at c85_
   refine call_of_vc (x:=jr8) (by kernel_rfl) rfl ?_
   refine ca c85_ ?_
   refine sd ?_
   refine b_lt (fun t1=>?_) (fun t1=>?_)
   refine sd ?_
   refine b_le (fun t2=>?_) (fun t2=>?_)
   refine ca (c13) ?_
   exact rfl
   refine ca c87_ ?_
   refine ca c86_ ?_
   refine ca c88_ ?_
   refine ca (c89 _ _) ?_
   refine sd ?_
   refine sd ?_
   refine ca c19_ ?_
   refine sd ?_
   refine ca c90_ ?_
   refine ca c91_ ?_
   refine sd ?_
   refine ca (c13) ?_
   exact rfl
   refine sd ?_
   refine ca c87_ ?_
   refine ca c86_ ?_
   refine ca c88_ ?_
   refine ca (c89 _ _) ?_
   refine sd ?_
   refine sd ?_
   refine ca c19_ ?_
   refine sd ?_
   refine ca c90_ ?_
   refine ca c91_ ?_
   refine sd ?_
   refine ca (c13) ?_
   exact rfl
 ·have hT:=hTe he
  subst hT
  have n1:(cerr l lim n==0)=false:=beq_eq_false_iff_ne.2 he
  clear h90 hTe
  generalize cerr l lim n=E at *
  cases hs:shortL l
  ·rw [hs] at c85_
   refine call_of_vc (x:=jr8) (by kernel_rfl) rfl ?_
   refine ca c85_ ?_
   refine sd ?_
   refine ca (c13) ?_
   exact rfl
  ·rw [hs] at c85_
   refine call_of_vc (x:=jr8) (by kernel_rfl) rfl ?_
   refine ca c85_ ?_
   refine sd ?_
   refine b_lt (fun t1=>?_) (fun t1=>?_)
   refine sd ?_
   refine b_le (fun t2=>?_) (fun t2=>?_)
   refine ca (c13) ?_
   exact rfl
   refine ca c87_ ?_
   refine ca c86_ ?_
   refine ca c88_ ?_
   refine ca (c89 _ _) ?_
   refine sd ?_
   refine sd ?_
   refine ca c19_ ?_
   refine sd ?_
   refine b_f n1 ?_
   refine ca c91_ ?_
   refine sd ?_
   refine b_t b1 ?_
   refine ca (c13) ?_
   exact rfl
   refine sd ?_
   refine ca c87_ ?_
   refine ca c86_ ?_
   refine ca c88_ ?_
   refine ca (c89 _ _) ?_
   refine sd ?_
   refine sd ?_
   refine ca c19_ ?_
   refine sd ?_
   refine b_f n1 ?_
   refine ca c91_ ?_
   refine sd ?_
   refine b_t b1 ?_
   refine ca (c13) ?_
   exact rfl
end Vc
