import Derived.Test.YthociffnlhdenaaGreatDoorG11
import Derived.Test.YthociffnlhdenaaGreatDoorG10
set_option linter.unusedSectionVars false
set_option linter.unusedVariables false
set_option linter.unusedSimpArgs false
set_option maxRecDepth 10000
set_option maxHeartbeats 4000000
namespace Vc
open Go Go.Proofs
def ir40:AFun:=⟨88,7,[.tmp 6,.tmp 7,.tmp 8],
 (.seq
 (.reg [0] [⟨some 3,.cbx 0 2 (.tmp 0),none⟩,
 ⟨some 6,.mov (.cst (.nils 1)),none⟩,
 ⟨some 7,.mov (.cst (.d (.int .i64 0))),none⟩,
 ⟨some 8,.mov (.cst (.d (.int .i64 0))),none⟩])
 (.seq
 (.seq
 (.regd [1] [⟨some 19,.ld true 2 (.tmp 3),none⟩,
 ⟨some 20,.call 27 [(.tmp 19)],none⟩,
 ⟨some 21,.ld true 2 (.tmp 3),none⟩,
 ⟨some 22,.mov (.tmp 1),none⟩,
 ⟨some 23,.call 87 [(.tmp 21),(.tmp 22)],none⟩,
 ⟨some 24,.ld true 2 (.tmp 3),none⟩,
 ⟨some 25,.mov (.tmp 2),none⟩,
 ⟨some 26,.call 107 [(.tmp 24),(.tmp 25)],none⟩,
 ⟨some 27,.bsl 1 29 1 3 [(.int .i64 0),(.int .i64 0),(.int .i64 0)] [(0,(.tmp 20)),(1,(.tmp 23)),(2,(.tmp 26))],none⟩,
 ⟨some 28,.call 86 [(.tmp 27)],none⟩,
 ⟨some 9,.mov (.tmp 28),none⟩] [(0,2),(1,2),(0,3),(1,3),(2,3),(0,5),(1,5),(2,5),(3,5),(4,5),(0,6),(1,6),(2,6),(3,6),(4,6),(5,6)])
 (.seq
 (.reg [] [⟨some 29,.mov (.tmp 9),none⟩,
 ⟨some 30,.cmp .neq (.tmp 29) (.cst (.d (.int .i64 0))),none⟩])
 (.cond (.tmp 30)
 (.seq
 (.reg [] [⟨some 31,.mov (.tmp 9),none⟩,
 ⟨some 6,.mov (.cst (.nils 1)),none⟩,
 ⟨some 7,.mov (.cst (.d (.int .i64 0))),none⟩,
 ⟨some 8,.mov (.tmp 31),none⟩])
 .ret)
 .skip)))
 (.seq
 (.reg [2] [⟨some 32,.bsl 2 3 1 1 [(.int .i64 0)] [(0,(.cst (.d (.int .i64 (-1)))))],none⟩,
 ⟨some 33,.fad 0 (.tmp 3),none⟩,
 ⟨some 34,.ld false 1 (.tmp 33),none⟩,
 ⟨some 35,.len (.tmp 34),none⟩,
 ⟨some 36,.calln 6 3 1 108 [(.tmp 32),(.tmp 35)],none⟩,
 ⟨some 10,.mov (.tmp 36),none⟩])
 (.seq
 (.reg [] [⟨some 37,.mov (.tmp 10),none⟩,
 ⟨some 38,.mov (.tmp 1),none⟩,
 ⟨some 39,.ixa 1 (.tmp 37) (.tmp 38),none⟩,
 ⟨none,.st 1 (.tmp 39) (.cst (.d (.int .i64 0))),none⟩])
 (.seq
 (.reg [] [⟨some 11,.mov (.cst (.d (.int .i64 0))),none⟩])
 (.seq
 (.reg [3] [⟨some 40,.mov (.tmp 1),none⟩,
 ⟨some 41,.bsl 3 3 1 1 [(.int .i64 0)] [(0,(.tmp 40))],none⟩,
 ⟨some 12,.mov (.tmp 41),none⟩])
 (.seq
 (.seq
 (.reg [] [⟨some 13,.mov (.cst (.d (.int .i64 1))),none⟩])
 (.post [10,11] [0,1,2,3,4,5]
 (.block 0
 (.asdat 12 (.keep [2,3,10,11,12,13] [0,1,2,3]
 (.loop
 (.post [2,3,10,11,12,13] [4,5]
 (.seq
 (.seq
 (.reg [] [⟨some 42,.mov (.tmp 12),none⟩,
 ⟨some 43,.len (.tmp 42),none⟩,
 ⟨some 44,.cmp .gtr (.tmp 43) (.cst (.d (.int .i64 0))),none⟩])
 (.cond (.tmp 44)
 .skip
 (.exit 0)))
 (.seq
 (.block 1
 (.seq
 (.reg [] [⟨some 14,.mov (.cst (.nils 1)),none⟩])
 (.seq
 (.seq
 (.reg [] [⟨some 47,.mov (.tmp 12),none⟩,
 ⟨some 48,.len (.tmp 47),none⟩,
 ⟨some 49,.mov (.cst (.d (.int .i64 0))),none⟩])
 (.post [2,3,10,11,13,14] [0,1,2,3,4,5]
 (.block 2
 (.asrow 5 3 1 14
 (.keep [2,3,10,11,13,14,47,48,49] [0,1,2,3]
 (.loop
 (.post [2,3,10,11,13,14,47,48,49] [4,5]
 (.seq
 (.reg [] [⟨some 50,.cmp .lss (.tmp 49) (.tmp 48),none⟩])
 (.seq
 (.cond (.tmp 50)
 .skip
 (.exit 2))
 (.seq
 (.block 3
 (.seq
 (.reg [] [⟨some 51,.ixa 1 (.tmp 47) (.tmp 49),none⟩,
 ⟨some 52,.ld false 1 (.tmp 51),none⟩,
 ⟨some 16,.mov (.tmp 52),none⟩])
 (.seq
 (.reg [] [⟨some 53,.mov (.tmp 11),none⟩,
 ⟨some 54,.arith .add .i64 (.tmp 53) (.cst (.d (.int .i64 1))),none⟩,
 ⟨some 11,.mov (.tmp 54),none⟩])
 (.seq
 (.reg [] [⟨some 55,.ld true 2 (.tmp 3),none⟩,
 ⟨some 56,.mov (.tmp 16),none⟩,
 ⟨some 57,.call 88 [(.tmp 55),(.tmp 56)],none⟩,
 ⟨some 58,.len (.tmp 57),none⟩,
 ⟨some 59,.mov (.cst (.d (.int .i64 0))),none⟩])
 (.post [2,3,10,11,13,14,47,48,49] [0,1,2,3,4,5]
 (.block 4
 (.asrow 5 3 1 14
 (.keep [2,3,10,11,13,14,16,47,48,49,57,58,59] [0,1,2,3]
 (.loop
 (.post [2,3,10,11,13,14,16,47,48,49,57,58,59] [4,5]
 (.seq
 (.reg [] [⟨some 60,.cmp .lss (.tmp 59) (.tmp 58),none⟩])
 (.seq
 (.cond (.tmp 60)
 .skip
 (.exit 4))
 (.seq
 (.block 5
 (.seq
 (.reg [] [⟨some 61,.ixa 1 (.tmp 57) (.tmp 59),none⟩,
 ⟨some 62,.ld false 1 (.tmp 61),none⟩,
 ⟨some 18,.mov (.tmp 62),none⟩])
 (.seq
 (.seq
 (.reg [] [⟨some 63,.mov (.tmp 10),none⟩,
 ⟨some 64,.mov (.tmp 18),none⟩,
 ⟨some 65,.ixa 1 (.tmp 63) (.tmp 64),none⟩,
 ⟨some 66,.ld false 1 (.tmp 65),none⟩,
 ⟨some 67,.cmp .geq (.tmp 66) (.cst (.d (.int .i64 0))),none⟩,
 ⟨some 68,.mov (.tmp 67),none⟩,
 ⟨some 69,.mov (.tmp 2),some (68,false)⟩,
 ⟨some 70,.mov (.tmp 18),some (68,false)⟩,
 ⟨some 71,.mov (.tmp 16),some (68,false)⟩,
 ⟨some 72,.build [(.d (.int .i64 0)),(.d (.int .i64 0))] [(0,1,(.tmp 70)),(1,1,(.tmp 71))],some (68,false)⟩,
 ⟨some 73,.call 109 [(.tmp 69),(.tmp 72)],some (68,false)⟩,
 ⟨some 74,.pick (.tmp 68) (.cst (.d (.bool true))) (.tmp 73),none⟩])
 (.cond (.tmp 74)
 (.exit 5)
 .skip))
 (.seq
 (.reg [] [⟨some 75,.mov (.tmp 10),none⟩,
 ⟨some 76,.mov (.tmp 18),none⟩,
 ⟨some 77,.mov (.tmp 13),none⟩,
 ⟨some 78,.ixa 1 (.tmp 75) (.tmp 76),none⟩,
 ⟨none,.st 1 (.tmp 78) (.tmp 77),none⟩])
 (.reg [4,5] [⟨some 79,.mov (.tmp 14),none⟩,
 ⟨some 80,.mov (.tmp 18),none⟩,
 ⟨some 81,.bsl 4 3 1 1 [(.int .i64 0)] [(0,(.tmp 80))],none⟩,
 ⟨some 82,.app 5 3 1 8 (.tmp 79) (.tmp 81),none⟩,
 ⟨some 14,.mov (.tmp 82),none⟩])))))
 (.reg [] [⟨some 83,.arith .add .i64 (.tmp 59) (.cst (.d (.int .i64 1))),none⟩,
 ⟨some 59,.mov (.tmp 83),none⟩]))))))))))))))
 (.reg [] [⟨some 84,.arith .add .i64 (.tmp 49) (.cst (.d (.int .i64 1))),none⟩,
 ⟨some 49,.mov (.tmp 84),none⟩])))))))))))
 (.asdat 14 (.reg [] [⟨some 85,.mov (.tmp 14),none⟩,
 ⟨some 12,.mov (.tmp 85),none⟩])))))
 (.reg [] [⟨some 45,.mov (.tmp 13),none⟩,
 ⟨some 46,.arith .add .i64 (.tmp 45) (.cst (.d (.int .i64 1))),none⟩,
 ⟨some 13,.mov (.tmp 46),none⟩]))))))))))
 (.seq
 (.reg [] [⟨some 86,.mov (.tmp 10),none⟩,
 ⟨some 87,.mov (.tmp 11),none⟩,
 ⟨some 6,.mov (.tmp 86),none⟩,
 ⟨some 7,.mov (.tmp 87),none⟩,
 ⟨some 8,.mov (.cst (.d (.int .i64 0))),none⟩])
 .ret))))))))⟩
def gL (m:Ms) (lost:List (Int × Int)) (a b:Nat):Bool:=decide (0 < betw m.ls a b)&&!(lostB lost b a)
def Ms.floods (m:Ms) (lost:List (Int × Int)) (f:Int):List Int:=lvls m.ns.length (gL m lost) f.toNat m.ns.length
def floodE (m:Ms) (f:Int) (lost:List (Int × Int)):Int:=firstOf [m.chk,m.nodeE f,pairsE m lost]
def Ms.floodsP (m:Ms) (lost:List (Int × Int)) (f:Int):List Int:=bif floodE m f lost != 0 then [] else m.floods lost f
def Ms.floodsN (m:Ms) (lost:List (Int × Int)) (f:Int):Int:=bif floodE m f lost != 0 then 0 else (known (m.floods lost f):Int)
theorem nbs_mem (m:Ms) (i x:Int):∀ k:Nat,x∈nbs m i k↔0≤x∧x < (k:Int)∧0 < betw m.ls i x
 | 0=>by
  show x∈[]↔_
  constructor
  ·intro h; cases h
  ·rintro ⟨h0,h1,_⟩; omega
 | k+1=>by
  have ih:=nbs_mem m i x k
  rw [nbs,List.mem_append,ih]
  by_cases h:0 < betw m.ls i k
  ·rw [decide_eq_true h]
   show _∨x∈[(k:Int)]↔_
   rw [List.mem_singleton]
   constructor
   ·rintro (⟨h0,h1,h2⟩ | rfl)
    ·exact ⟨h0,by omega,h2⟩
    ·exact ⟨by omega,by omega,h⟩
   ·rintro ⟨h0,h1,h2⟩
    by_cases e:x=k
    ·exact .inr e
    ·exact .inl ⟨h0,by omega,h2⟩
  ·rw [decide_eq_false h]
   show _∨x∈[]↔_
   constructor
   ·rintro (⟨h0,h1,h2⟩ | hh)
    ·exact ⟨h0,by omega,h2⟩
    ·cases hh
   ·rintro ⟨h0,h1,h2⟩
    by_cases e:x=k
    ·subst e; exact absurd h2 h
    ·exact .inl ⟨h0,by omega,h2⟩
def qqL (lost:List (Int × Int)) (a b:Int):Bool:=!(lostB lost b a)
theorem gP_gL (m:Ms) (lost:List (Int × Int)) (a i:Nat) (ha:a < m.ns.length) (hi:i < m.ns.length):gP m.nbs (qqL lost) a i=gL m lost a i:=by
 unfold gP gL qqL Ms.nbs
 congr 1
 have h:=nbs_mem m a i m.ns.length
 rw [Bool.eq_iff_iff,decide_eq_true_iff,List.contains_iff_mem,h]
 exact ⟨fun h=>h.2.2,fun h=>⟨by omega,by omega,h⟩⟩
theorem nbs_in (m:Ms) (a k:Int) (h:k∈m.nbs a):0≤k∧k < (m.ns.length:Int):=⟨((nbs_mem m a k _).1 h).1,((nbs_mem m a k _).1 h).2.1⟩
theorem ints_app (a b:List Int):ints (a++b)=ints a++ints b:=by unfold ints; rw [List.map_append]
theorem c40 (m : Ms) (f : Int) (lost : List (Int × Int)) (hn : m.ns.length ≤ 1048576) (hl : m.ls.length ≤ 1048576) (hll : lost.length ≤ 1048576) :
  CallDet Tryz.prog 40 [.d m.d,.d (.int .i64 f),.d (.slice 2 (prs lost))] [.slice 1 (ints (m.floodsP lost f)),.int .i64 (m.floodsN lost f),.int .i64 (floodE m f lost)]:=by
 have hsl:=strs_len m.ns
 have bad:¬ floodE m f lost=0→resV [.slice 1 [],.int .i64 0,.int .i64 (floodE m f lost)]=resV [.slice 1 (ints (m.floodsP lost f)),.int .i64 (m.floodsN lost f),.int .i64 (floodE m f lost)]:=fun h=>by
  have e:(floodE m f lost != 0)=true:=by rw [bne_iff_ne]; exact h
  unfold Ms.floodsP Ms.floodsN; rw [e]; rfl
 have fin:floodE m f lost=0→∀ (d:List Int) (s:Nat),d=m.floods lost f→s=known (m.floods lost f)→resV [.slice 1 (ints d),.int .i64 s,.int .i64 0]=resV [.slice 1 (ints (m.floodsP lost f)),.int .i64 (m.floodsN lost f),.int .i64 (floodE m f lost)]:=fun h d s h2 h3=>by
  unfold Ms.floodsP Ms.floodsN; rw [h,h2,h3]; rfl
 refine call_of_vc (x:=ir40) (by kernel_rfl) rfl ?_
 by_cases hz:firstOf [m.chk,m.nodeE f,pairsE m lost]=0
 ·have hc0:m.chk=0:=firstOf_zero hz _ (by simp)
  have hn0:m.nodeE f=0:=firstOf_zero hz _ (by simp)
  have hf:=chk_fine hc0
  have hk:=(nodeD_ok (m:=m) (i:=f) (by unfold nodeD; rw [hc0,hn0]; rfl)).2
  have h32:=hf.n32
  have hfn:f.toNat < m.ns.length:=by omega
  have hlr:(List.replicate (strs m.ns).length (Data.int .i64 (-1))).length=m.ns.length:=by rw [List.length_replicate,hsl]
  have hr:(List.replicate (strs m.ns).length (Data.int .i64 (-1)))[f.toNat]?=some (.int .i64 (-1)):=by rw [List.getElem?_replicate,if_pos (by omega)]
  have e0:(List.replicate (strs m.ns).length (Data.int .i64 (-1))).set f.toNat (.int .i64 0)=ints (start m.ns.length f.toNat):=by
   unfold start; rw [ints_set,ints_rep,hsl]
  refine ca (c27 m (by omega) (by omega)) ?_
  refine ca (c87 m _) ?_
  refine ca (c107 m lost hll) ?_
  refine sd ?_
  refine sd ?_
  refine ca (c86 [Ms.chk m,Ms.nodeE m f,pairsE m lost] (by simp)) ?_
  refine sd ?_
  refine b_ne (fun t1=>?_) (fun t1=>?_)
  (exfalso; omega)
  refine sd ?_
  refine sd ?_
  refine ca (c108r _ (strs m.ns).length (by omega)) ?_
  refine an ?_ ?_
  refine an ?_ ?_
  exact rfl
  refine an ?_ ?_
  exact rfl
  refine an ?_ ?_
  (show (0:Int)≤f; omega)
  (show f < (↑(List.length (List.replicate (List.length (strs (Ms.ns m))) (Data.int IntKind.i64 (-1:Int)))):Int); omega)
  refine Exists.intro _ (Exists.intro (Data.int IntKind.i64 (0:Int)) (And.intro (And.intro ?_ (And.intro hr (And.intro rfl (And.intro ?_ (And.intro rfl rfl))))) ?_))
  exact rfl
  (show (0:Nat)+(1:Nat)≤(1:Nat); omega)
  refine sd ?_
  rotate_left
  refine loop_u (fun a:Nat × List Int × List Int × Nat=>[(11,.d (.int .i64 a.2.2.2)),(12,.d (.slice 1 (ints a.2.2.1))),(13,.d (.int .i64 ((a.1:Int)+1)))]) (fun a=>[(6,.row 3 1 (ints a.2.1) false)]) (fun a=>a.1≤m.ns.length∧((a.2.1,a.2.2.1)=floodP m.ns.length m.nbs (qqL lost) f.toNat a.1∧a.2.2.2+a.2.2.1.length=known a.2.1)) (fun a=>m.ns.length - a.1) (0,start m.ns.length f.toNat,[(f.toNat:Int)],0) (by rw [← e0,show ((f.toNat:Nat):Int)=f by omega]; rfl) ⟨Nat.zero_le _,rfl,by show 0+1=known _; rw [known_start hfn]⟩ ?_
  rintro ⟨r,d,nw,s⟩ ⟨hr,hd,hs⟩
  have hr:r≤m.ns.length:=hr
  have hd:(d,nw)=floodP m.ns.length m.nbs (qqL lost) f.toNat r:=hd
  have hs:s+nw.length=known d:=hs
  have his:=floodP_is (qq:=qqL lost) hfn (nbs_in m) r
  have hdo:d=lvls m.ns.length (gP m.nbs (qqL lost)) f.toNat r:=by rw [← his.out,← hd]
  have hno:∀ i,i∈nw↔0≤i∧i < (m.ns.length:Int)∧lvl m.ns.length (gP m.nbs (qqL lost)) f.toNat r i.toNat=(r:Int):=by have h:=his.now; rw [← hd] at h; exact h
  have hdn:d.length=m.ns.length:=by rw [hdo,lvls_len]
  have hdl:(ints d).length=(List.replicate (strs m.ns).length (Data.int .i64 (-1))).length:=by rw [ints_len,hdn,hlr]
  have hkd:=known_le d
  have hnl:=ints_len nw
  dsimp only
  by_cases hw:0 < nw.length
  ·have hrn : r < m.ns.length := by
    refine Exists.elim (get_lt nw hw) fun i hi=>?_
    have h:=(hno i).1 (List.mem_of_getElem? hi)
    exact lvl_lt hfn (by omega) h.2.2
   refine sd ?_
   refine b_lt (fun t2=>?_) (fun t2=>?_)
   rotate_left
   (exfalso; omega)
   refine loop_u (fun a:Nat × List Int × List Int × Nat=>[(11,.d (.int .i64 a.2.2.2)),(14,.sl 5 (ints a.2.2.1).length),(49,.d (.int .i64 a.1))]) (fun a=>[(5,.row 3 1 (ints a.2.2.1) false),(6,.row 3 1 (ints a.2.1) false)]) (fun a=>a.1≤nw.length∧((a.2.1,a.2.2.1)=(nw.take a.1).foldl (sendP m.nbs (qqL lost) ((r+1:Nat):Int)) (d,[])∧(a.2.2.2=s+a.1∧FOk m.ns.length (a.2.1,a.2.2.1)))) (fun a=>nw.length - a.1) (0,d,[],s) rfl ⟨Nat.zero_le _,rfl,rfl,⟨hdn,Nat.zero_le _⟩⟩ ?_
   rintro ⟨i,d1,x1,s1⟩ ⟨hi,hd1,hs1,hk1⟩
   have hi:i≤nw.length:=hi
   have hd1:(d1,x1)=(nw.take i).foldl (sendP m.nbs (qqL lost) ((r+1:Nat):Int)) (d,[]):=hd1
   have hs1:s1=s+i:=hs1
   have hk1:FOk m.ns.length (d1,x1):=hk1
   have hd1n:d1.length=m.ns.length:=hk1.len
   have hd1l:(ints d1).length=(List.replicate (strs m.ns).length (Data.int .i64 (-1))).length:=by rw [ints_len,hd1n,hlr]
   have hxl:=ints_len x1
   have hxb:x1.length≤m.ns.length:=hk1.bound
   dsimp only
   by_cases hii:i < nw.length
   ·refine Exists.elim (get_lt nw hii) fun v hv=>?_
    have hvd:=ints_get hv
    have hfs:=fold_snoc (sendP m.nbs (qqL lost) ((r+1:Nat):Int)) (d,[]) hv
    rw [← hd1] at hfs
    have hbl:=ints_len (m.nbs v)
    have hbn:(m.nbs v).length≤m.ns.length:=nbs_len m v m.ns.length
    refine sd ?_
    refine b_lt (fun t3=>?_) (fun t3=>?_)
    refine ix_at hvd ?_ ?_
    (show (0:Int)≤(↑i:Int); omega)
    refine ar_add ?_ ?_
    refine an ?_ ?_
    (show (-9223372036854775808:Int)≤(↑s1:Int)+(1:Int); omega)
    (show (↑s1:Int)+(1:Int)≤(9223372036854775807:Int); omega)
    refine ca (c88 m v (by omega) (by omega)) ?_
    rotate_left
    (exfalso; omega)
    refine loop_u (fun a:Nat × List Int × List Int=>[(14,.sl 5 (ints a.2.2).length),(59,.d (.int .i64 a.1))]) (fun a=>[(5,.row 3 1 (ints a.2.2) false),(6,.row 3 1 (ints a.2.1) false)]) (fun a=>a.1≤(m.nbs v).length∧((a.2.1,a.2.2)=((m.nbs v).take a.1).foldl (stepS (qqL lost v) ((r+1:Nat):Int)) (d1,x1)∧FOk m.ns.length (a.2.1,a.2.2))) (fun a=>(m.nbs v).length - a.1) (0,d1,x1) rfl ⟨Nat.zero_le _,rfl,hk1⟩ ?_
    rintro ⟨q,d2,x2⟩ ⟨hq,hd2,hk2⟩
    have hq:q≤(m.nbs v).length:=hq
    have hd2:(d2,x2)=((m.nbs v).take q).foldl (stepS (qqL lost v) ((r+1:Nat):Int)) (d1,x1):=hd2
    have hk2:FOk m.ns.length (d2,x2):=hk2
    have hd2n:d2.length=m.ns.length:=hk2.len
    have hd2l:(ints d2).length=(List.replicate (strs m.ns).length (Data.int .i64 (-1))).length:=by rw [ints_len,hd2n,hlr]
    have hx2l:=ints_len x2
    have hx2b:x2.length≤m.ns.length:=hk2.bound
    dsimp only
    by_cases hqq:q < (m.nbs v).length
    ·refine Exists.elim (get_lt (m.nbs v) hqq) fun w hw2=>?_
     have hwd:=ints_get hw2
     have hwr:=nbs_in m v w (List.mem_of_getElem? hw2)
     have hfs2:=fold_snoc (stepS (qqL lost v) ((r+1:Nat):Int)) (d1,x1) hw2
     rw [← hd2] at hfs2
     have hk3:=hk2.step (qqL lost v) (r:=((r+1:Nat):Int)) (by omega) hwr
     have hwx:(ints d2)[w.toNat]?=some (.int .i64 (at0 d2 w.toNat)):=ints_at0 (by omega)
     have kst:(0≤at0 d2 w.toNat∨lostB lost w v=true)→stepS (qqL lost v) ((r+1:Nat):Int) (d2,x2) w=(d2,x2):=fun h=>by
      unfold stepS
      have e:(decide (0≤at0 (d2,x2).1 w.toNat)||!(qqL lost v w))=true:=by
       show (decide (0≤at0 d2 w.toNat)||!(!(lostB lost w v)))=true
       rcases h with h | h
       ·rw [decide_eq_true h]; rfl
       ·rw [h]; exact Bool.or_true _
      rw [e]; rfl
     have kyes:¬ 0≤at0 d2 w.toNat→lostB lost w v=false→stepS (qqL lost v) ((r+1:Nat):Int) (d2,x2) w=(d2.set w.toNat ((r+1:Nat):Int),x2++[w]):=fun h h2=>by
      unfold stepS
      have e:(decide (0≤at0 (d2,x2).1 w.toNat)||!(qqL lost v w))=false:=by
       show (decide (0≤at0 d2 w.toNat)||!(!(lostB lost w v)))=false
       rw [decide_eq_false h,h2]; rfl
      rw [e]; rfl
     have stay:stepS (qqL lost v) ((r+1:Nat):Int) (d2,x2) w=(d2,x2)→(d2,x2)=((m.nbs v).take (q+1)).foldl (stepS (qqL lost v) ((r+1:Nat):Int)) (d1,x1):=fun h=>by rw [hfs2,h]
     refine sd ?_
     refine b_lt (fun t4=>?_) (fun t4=>?_)
     refine ix_at hwd ?_ ?_
     (show (0:Int)≤(↑q:Int); omega)
     refine an ?_ ?_
     refine an ?_ ?_
     exact rfl
     refine an ?_ ?_
     assumption
     refine an ?_ ?_
     (show (0:Int)≤w; omega)
     (show w < (↑(List.length (List.replicate (List.length (strs (Ms.ns m))) (Data.int IntKind.i64 (-1:Int)))):Int); omega)
     refine an ?_ ?_
     assumption
     refine ca hwx ?_
     refine sd ?_
     refine b_le (fun t5=>?_) (fun t5=>?_)
     refine sd ?_
     refine ar_add ?_ ?_
     refine an ?_ ?_
     (show (-9223372036854775808:Int)≤(↑q:Int)+(1:Int); omega)
     (show (↑q:Int)+(1:Int)≤(9223372036854775807:Int); omega)
     rotate_left
     refine ca (c109 lost _ _ hll) ?_
     refine b_intro (fun t6=>?_) (fun t6=>?_)
     replace t6:lostB lost w v=true:=t6
     refine ar_add ?_ ?_
     refine an ?_ ?_
     (show (-9223372036854775808:Int)≤(↑q:Int)+(1:Int); omega)
     (show (↑q:Int)+(1:Int)≤(9223372036854775807:Int); omega)
     rotate_left
     replace t6:lostB lost w v=false:=t6
     refine an ?_ ?_
     refine an ?_ ?_
     exact rfl
     refine an ?_ ?_
     assumption
     refine an ?_ ?_
     (show (0:Int)≤w; omega)
     (show w < (↑(List.length (List.replicate (List.length (strs (Ms.ns m))) (Data.int IntKind.i64 (-1:Int)))):Int); omega)
     refine Exists.intro _ (Exists.intro (Data.int IntKind.i64 ((↑r:Int)+(1:Int))) (And.intro (And.intro ?_ (And.intro hwx (And.intro rfl (And.intro ?_ (And.intro rfl rfl))))) ?_))
     assumption
     (show (0:Nat)+(1:Nat)≤(1:Nat); omega)
     refine sd ?_
     refine sd ?_
     refine sd ?_
     refine an ?_ ?_
     refine an ?_ ?_
     exact rfl
     refine an ?_ ?_
     exact rfl
     refine an ?_ ?_
     exact rfl
     refine an ?_ ?_
     (show (List.length (ints x2)+(1:Nat)) * (8:Nat)≤(2:Nat) ^ (47:Nat); omega)
     (show List.length (ints x2)+(1:Nat)≤(2:Nat) ^ (47:Nat); omega)
     refine ar_add ?_ ?_
     refine an ?_ ?_
     (show (-9223372036854775808:Int)≤(↑q:Int)+(1:Int); omega)
     (show (↑q:Int)+(1:Int)≤(9223372036854775807:Int); omega)
     rotate_left
     (exfalso; omega)
     ·exact ⟨(q+1,d2,x2),⟨⟨by show q+1≤(m.nbs v).length; omega,stay (kst (.inl t5)),hk2⟩,by show (m.nbs v).length - (q+1) < (m.nbs v).length - q; omega⟩,rfl⟩
     ·exact ⟨(q+1,d2,x2),⟨⟨by show q+1≤(m.nbs v).length; omega,stay (kst (.inr t6)),hk2⟩,by show (m.nbs v).length - (q+1) < (m.nbs v).length - q; omega⟩,rfl⟩
     ·have ey:=kyes t5 t6
      rw [ey] at hfs2 hk3
      refine ⟨(q+1,d2.set w.toNat ((r+1:Nat):Int),x2++[w]),⟨⟨by show q+1≤(m.nbs v).length; omega,hfs2.symm,hk3⟩,by show (m.nbs v).length - (q+1) < (m.nbs v).length - q; omega⟩,?_⟩
      show _=St.upd _ [(14,.sl 5 (ints (x2++[w])).length),(59,.d (.int .i64 ((q+1:Nat):Int)))] [(5,.row 3 1 (ints (x2++[w])) false),(6,.row 3 1 (ints (d2.set w.toNat ((r+1:Nat):Int))) false)]
      rw [ints_set,ints_app]; rfl
    ·have eq:q=(m.nbs v).length:=by omega
     have e2:(m.nbs v).take q=m.nbs v:=List.take_of_length_le (by omega)
     rw [e2] at hd2
     refine sd ?_
     refine b_lt (fun t4=>?_) (fun t4=>?_)
     (exfalso; omega)
     refine ar_add ?_ ?_
     refine an ?_ ?_
     (show (-9223372036854775808:Int)≤(↑i:Int)+(1:Int); omega)
     (show (↑i:Int)+(1:Int)≤(9223372036854775807:Int); omega)
     rotate_left
     exact ⟨(i+1,d2,x2,s1+1),⟨⟨by show i+1≤nw.length; omega,by show (d2,x2)=_; rw [hfs,hd2]; rfl,by show s1+1=s+(i+1); omega,hk2⟩,by show nw.length - (i+1) < nw.length - i; omega⟩,rfl⟩
   ·have ei:i=nw.length:=by omega
    refine sd ?_
    refine b_lt (fun t3=>?_) (fun t3=>?_)
    (exfalso; omega)
    rotate_left
    conv=>whnf
    rw [Nat.beq_refl]
    refine ar_add ?_ ?_
    refine an ?_ ?_
    (show (-9223372036854775808:Int)≤(↑r:Int)+(1:Int)+(1:Int); omega)
    (show (↑r:Int)+(1:Int)+(1:Int)≤(9223372036854775807:Int); omega)
    rotate_left
    have e2:nw.take i=nw:=List.take_of_length_le (by omega)
    rw [e2] at hd1
    have hfp:floodP m.ns.length m.nbs (qqL lost) f.toNat (r+1)=(d1,x1):=by
     show (floodP m.ns.length m.nbs (qqL lost) f.toNat r).2.foldl _ ((floodP m.ns.length m.nbs (qqL lost) f.toNat r).1,[])=_
     rw [← hd]; exact hd1.symm
    have hd1o:d1=lvls m.ns.length (gP m.nbs (qqL lost)) f.toNat (r+1):=by
     rw [← (floodP_is (qq:=qqL lost) hfn (nbs_in m) (r+1)).out,hfp]
    have hcn:=floodP_sent (qq:=qqL lost) hfn (nbs_in m) r
    rw [hfp,← hd1o,← hdo] at hcn
    have hcn:x1.length+known d=known d1:=hcn
    exact ⟨(r+1,d1,x1,s1),⟨⟨by show r+1≤m.ns.length; omega,hfp.symm,by show s1+x1.length=known d1; omega⟩,by show m.ns.length - (r+1) < m.ns.length - r; omega⟩,rfl⟩
  ·have hw0:nw=[]:=List.eq_nil_of_length_eq_zero (by omega)
   refine sd ?_
   refine b_lt (fun t2=>?_) (fun t2=>?_)
   (exfalso; omega)
   refine an ?_ ?_
   assumption
   rotate_left
   have hno2:∀ i,i < m.ns.length→lvl m.ns.length (gP m.nbs (qqL lost)) f.toNat r i≠r:=fun i hi e=>by
    have h:=(hno (i:Int)).2 ⟨by omega,by omega,e⟩
    rw [hw0] at h; cases h
   have hde:d=m.floods lost f:=by
    rw [hdo,lvls_stop hfn hno2]
    exact lvls_congr (gP_gL m lost) _
   refine fin hz d s hde ?_
   rw [← hde,← hs,hw0]; rfl
 ·refine ca (c27 m (by omega) (by omega)) ?_
  refine ca (c87 m _) ?_
  refine ca (c107 m lost hll) ?_
  refine sd ?_
  refine sd ?_
  refine ca (c86 [Ms.chk m,Ms.nodeE m f,pairsE m lost] (by simp)) ?_
  refine sd ?_
  refine b_ne (fun t1=>?_) (fun t1=>?_)
  rotate_left
  (exfalso; omega)
  exact bad t1
theorem c28_y (a:List Int) (e bad:Int) (w:List Int) (ha:a.length≤1048576) (h:a=bif bad != 0 then [] else w) (h2:e=bad):CallDet Tryz.prog 28 [.d (.slice 1 (ints a)),.d (.int .i64 e),.d (.int .i64 bad),.d (.slice 1 (ints w))] [.bool true]:=by
 have h3:=c28 a e bad w ha
 rw [show listedB a e bad w=true by unfold listedB; rw [← h,← h2]; simp] at h3
 exact h3
theorem c28_n (a:List Int) (e bad:Int) (ha:a.length≤1048576) (h:a=[]) (h2:e=bad):CallDet Tryz.prog 28 [.d (.slice 1 (ints a)),.d (.int .i64 e),.d (.int .i64 bad),.d (.slice 1 [])] [.bool true]:=by
 have h3:=c28_y a e bad [] ha (by rw [h]; cases (bad != 0) <;> rfl) h2
 exact h3
theorem c29_y (a e bad w:Int) (h:a=bif bad != 0 then 0 else w) (h2:e=bad):CallDet Tryz.prog 29 [.d (.int .i64 a),.d (.int .i64 e),.d (.int .i64 bad),.d (.int .i64 w)] [.bool true]:=by
 have h3:=c29 a e bad w
 rw [show numberB a e bad w=true by unfold numberB; rw [← h,← h2]; simp] at h3
 exact h3
end Vc
