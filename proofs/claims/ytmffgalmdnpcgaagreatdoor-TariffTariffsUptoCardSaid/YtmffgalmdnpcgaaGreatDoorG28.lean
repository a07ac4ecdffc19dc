import Derived.Test.YtmffgalmdnpcgaaGreatDoorG27
set_option linter.unusedSectionVars false
set_option linter.unusedVariables false
set_option linter.unusedSimpArgs false
set_option maxRecDepth 10000
set_option maxHeartbeats 4000000
namespace Vc
open Go Go.Proofs
def rcs (o:Option (Int × Int × Int)):List AVal:=[.d (.int .i64 (o.getD (0,0,0)).1),.d (.int .i64 (o.getD (0,0,0)).2.1),.d (.int .i64 (o.getD (0,0,0)).2.2)]
section
variable {no : Int} {l : List Vr} {F : Data}
theorem yld_same (h : VsO l) (t : Int) (R : List Int) (ht : 1 ≤ t ∧ t ≤ 100000000) (hc : chB l t = false) :
  YieldIn Tryz.prog 5 [.d (.int .i64 t)] (HP7 no l (lp34 .ready none F) (nx7 R) (nxo7 R)) (.d (.bool true)) (HP7 no l (lp34 .ready none F) (nx7 R) (nxo7 R)):=by
 have c1:=c113' no l h t (by omega) (by omega)
 have c2:=c113' no l h (t - 1) (by omega) (by omega)
 have e:atO l t=atO l (t - 1):=by unfold chB at hc; simpa using hc
 rw [← e] at c2
 exact y7_a t R ht (by simp) c1 c2
theorem yld_add (h : VsO l) (t : Int) (R : List Int) (ht : 1 ≤ t ∧ t ≤ 100000000) (hc : chB l t = true) (hR : R.length < 256) :
  YieldIn Tryz.prog 5 [.d (.int .i64 t)] (HP7 no l (lp34 .ready none F) (nx7 R) (nxo7 R)) (.d (.bool true)) (HP7 no l (lp34 .ready none F) (nx7 (R++[t])) (nxo7 (R++[t]))):=by
 have c1:=c113' no l h t (by omega) (by omega)
 have c2:=c113' no l h (t - 1) (by omega) (by omega)
 have e:atO l t≠atO l (t - 1):=by unfold chB at hc; simpa using hc
 generalize atO l t=o at *
 generalize atO l (t - 1)=p at *
 match o,p with
 | none,none=>exact absurd rfl e
 | none,some p=>exact y7_c (s:=false) t R ht hR c1 c2
 | some o,none=>exact y7_c (s:=true) t R ht hR c1 c2
 | some (i,n,q),some (i',n',q') =>
  refine y7_b t R ht ?_ hR c1 c2
  cases h2:(i==i'&&(n==n'&&(q==q'&&true)))
  ·exact h2
  ·simp at h2
   exact absurd (by rw [h2.1,h2.2.1,h2.2.2]) e
theorem yld_stop (h : VsO l) (t : Int) (R : List Int) (ht : 1 ≤ t ∧ t ≤ 100000000) (hc : chB l t = true) (hR : R.length = 256) :
  YieldIn Tryz.prog 5 [.d (.int .i64 t)] (HP7 no l (lp34 .ready none F) (nx7 R) (nxo7 R)) (.d (.bool false)) (HS7 no l (lp34 .done (some .ret) F) (nx7 R) (nxo7 R) (rcs (atO l t)) (rcs (atO l (t - 1)))):=by
 have c1:=c113' no l h t (by omega) (by omega)
 have c2:=c113' no l h (t - 1) (by omega) (by omega)
 have e:atO l t≠atO l (t - 1):=by unfold chB at hc; simpa using hc
 generalize atO l t=o at *
 generalize atO l (t - 1)=p at *
 match o,p with
 | none,none=>exact absurd rfl e
 | none,some p=>exact y7_e (s:=false) t R ht hR c1 c2
 | some o,none=>exact y7_e (s:=true) t R ht hR c1 c2
 | some (i,n,q),some (i',n',q') =>
  refine y7_d t R ht ?_ hR c1 c2
  cases h2:(i==i'&&(n==n'&&(q==q'&&true)))
  ·exact h2
  ·simp at h2
   exact absurd (by rw [h2.1,h2.2.1,h2.2.2]) e
end
noncomputable def end7 (no:Int) (l:List Vr) (F:Data):List Int→List Int→List AObj
 | [],R=>HP7 no l (lp34 .ready none F) (nx7 R) (nxo7 R)
 | t::r,R=>bif chB l t then (bif R.length==256 then HS7 no l (lp34 .done (some .ret) F) (nx7 R) (nxo7 R) (rcs (atO l t)) (rcs (atO l (t - 1))) else end7 no l F r (R++[t])) else end7 no l F r R
theorem end7_len (no:Int) (l:List Vr) (F:Data):∀ (T R:List Int),(end7 no l F T R).length=13
 | [],_=>rfl
 | t::r,R=>by
  rw [end7]
  cases chB l t
  ·exact end7_len no l F r R
  ·cases (R.length==256)
   ·exact end7_len no l F r _
   ·rfl
theorem tkD_cons (a b:Int) (s:Int) (S:List Int) (d:Int):tkD a b (s::S) d=bif decide (a < d * 86400+s)&&decide (d * 86400+s < b) then (d * 86400+s)::tkD a b S d else tkD a b S d:=by
 unfold tkD
 rw [List.map_cons,List.filter_cons]
 cases (decide (a < d * 86400+s)&&decide (d * 86400+s < b)) <;> rfl
theorem ats_step {l:List Vr} {k:Nat} {v:Vr} (h:l[k]?=some v):ats (l.take (k+1))=ats (l.take k)++atsT v.t:=by
 unfold ats
 rw [List.take_add_one,h,List.flatMap_append]
 simp
def atsN (T:List (List (Int × Int))):List Int:=T.flatMap fun ty=>ty.map (·.1)
theorem atsN_step {T:List (List (Int × Int))} {k:Nat} {ty:List (Int × Int)} (h:T[k]?=some ty):atsN (T.take (k+1))=atsN (T.take k)++ty.map (·.1):=by
 unfold atsN
 rw [List.take_add_one,h,List.flatMap_append]
 simp
theorem ints_app (x y:List Int):ints x++ints y=ints (x++y):=by unfold ints; rw [List.map_append]
theorem atsN_bnd {t:Tf} (h:TfG t):∀ i:Nat,(atsN (t.t.take i)).length≤12 * i
 | 0=>by simp [atsN]
 | i+1=>by
  have ih:=atsN_bnd h i
  by_cases hi:i < t.t.length
  ·refine Exists.elim (get_lt t.t hi) fun ty hty=>?_
   have hb:=(h.ty i ty hty).len
   rw [atsN_step hty,List.length_append,List.length_map]
   omega
  ·rw [List.take_of_length_le (by omega)]
   rw [List.take_of_length_le (by omega)] at ih
   omega
theorem ats_bnd {l:List Vr} (h:VsO l):∀ k:Nat,(ats (l.take k)).length≤96 * k
 | 0=>by simp [ats]
 | k+1=>by
  have ih:=ats_bnd h k
  by_cases hk:k < l.length
  ·refine Exists.elim (get_lt l hk) fun v hv=>?_
   have hg:=h.good k v hv
   have hb:=atsN_bnd hg v.t.t.length
   rw [List.take_length] at hb
   have hb:(atsT v.t).length≤12 * v.t.t.length:=hb
   have:=hg.nt
   rw [ats_step hv,List.length_append]
   omega
  ·rw [List.take_of_length_le (by omega)]
   rw [List.take_of_length_le (by omega)] at ih
   omega
theorem insU_len (x:Int):∀ s:List Int,(insU x s).length≤s.length+1
 | []=>Nat.le_refl _
 | y::r=>by
  rw [insU]
  cases decide (x < y)
  ·cases decide (x=y)
   ·have:=insU_len x r
    show (y::insU x r).length≤_
    rw [List.length_cons,List.length_cons]; omega
   ·show (y::r).length≤_
    omega
  ·show (x::y::r).length≤_
   rw [List.length_cons]; omega
theorem insAll_len:∀ (a s:List Int),(insAll s a).length≤s.length+a.length
 | [],s=>Nat.le_refl _
 | x::r,s=>by
  have h1:=insAll_len r (insU x s)
  have h2:=insU_len x s
  show (insAll (insU x s) r).length≤_
  rw [List.length_cons]; omega
def jr167:AFun:=⟨73,3,[],
 (.seq
 (.reg [] [⟨some 14,.ld false 1 (.tmp 1),none⟩,
  ⟨some 15,.arith .quo .i64 (.tmp 14) (.cst (.d (.int .i64 86400))),none⟩,
  ⟨some 5,.mov (.tmp 15),none⟩])
 (.post [] [0,1,2]
  (.block 0
  (.keep [0,1,2,3,5] []
   (.loop
   (.post [0,1,2,3,5] [0,1,2]
    (.seq
    (.seq
     (.reg [] [⟨some 16,.mov (.tmp 5),none⟩,
      ⟨some 17,.ld false 1 (.tmp 2),none⟩,
      ⟨some 18,.arith .sub .i64 (.tmp 17) (.cst (.d (.int .i64 1))),none⟩,
      ⟨some 19,.arith .quo .i64 (.tmp 18) (.cst (.d (.int .i64 86400))),none⟩,
      ⟨some 20,.cmp .leq (.tmp 16) (.tmp 19),none⟩])
     (.cond (.tmp 20)
     .skip
     (.exit 0)))
    (.seq
     (.block 1
     (.seq
      (.reg [0] [⟨some 23,.bsl 0 3 1 1 [(.int .i64 0)] [(0,(.cst (.d (.int .i64 0))))],none⟩,
       ⟨some 6,.mov (.tmp 23),none⟩])
      (.seq
      (.seq
       (.reg [] [⟨some 24,.fad 1 (.tmp 3),none⟩,
        ⟨some 25,.ld false 1 (.tmp 24),none⟩,
        ⟨some 26,.len (.tmp 25),none⟩,
        ⟨some 27,.mov (.cst (.d (.int .i64 0))),none⟩])
       (.post [0,1,2,3,5,6] [0,1,2]
       (.block 2
        (.asrow 2 3 1 6
        (.keep [0,1,2,3,5,6,25,26,27] [0]
         (.loop
         (.post [0,1,2,3,5,6,25,26,27] [1,2]
          (.seq
          (.reg [] [⟨some 28,.cmp .lss (.tmp 27) (.tmp 26),none⟩])
          (.seq
           (.cond (.tmp 28)
           .skip
           (.exit 2))
           (.seq
           (.block 3
            (.seq
            (.reg [1] [⟨some 29,.ixa 6 (.tmp 25) (.tmp 27),none⟩,
             ⟨some 30,.ld true 6 (.tmp 29),none⟩,
             ⟨some 8,.alloc 1 [(.d (.int .i64 0)),(.d (.int .i64 0)),(.nils 1),(.nils 1),(.nils 8),(.nils 2)],none⟩,
             ⟨none,.st 6 (.tmp 8) (.tmp 30),none⟩])
            (.seq
             (.reg [] [⟨some 31,.fad 2 (.tmp 8),none⟩,
              ⟨some 32,.fad 1 (.tmp 31),none⟩,
              ⟨some 33,.ld false 1 (.tmp 32),none⟩,
              ⟨some 34,.len (.tmp 33),none⟩,
              ⟨some 35,.mov (.cst (.d (.int .i64 0))),none⟩])
             (.post [0,1,2,3,5,6,25,26,27] [0,1,2]
             (.block 4
              (.asrow 2 3 1 6
              (.keep [0,1,2,3,5,6,25,26,27,33,34,35] [0,1]
               (.loop
               (.post [0,1,2,3,5,6,25,26,27,33,34,35] [2]
                (.seq
                (.reg [] [⟨some 36,.cmp .lss (.tmp 35) (.tmp 34),none⟩])
                (.seq
                 (.cond (.tmp 36)
                 .skip
                 (.exit 4))
                 (.seq
                 (.block 5
                  (.seq
                  (.reg [] [⟨some 37,.ixa 1 (.tmp 33) (.tmp 35),none⟩,
                   ⟨some 38,.ld false 1 (.tmp 37),none⟩,
                   ⟨some 10,.mov (.tmp 38),none⟩])
                  (.reg [2] [⟨some 39,.mov (.tmp 6),none⟩,
                   ⟨some 40,.mov (.tmp 10),none⟩,
                   ⟨some 41,.call 168 [(.tmp 40),(.cst (.d (.fn (.func 169) [])))],none⟩,
                   ⟨some 42,.app 2 3 1 8 (.tmp 39) (.tmp 41),none⟩,
                   ⟨some 6,.mov (.tmp 42),none⟩])))
                 (.reg [] [⟨some 43,.arith .add .i64 (.tmp 35) (.cst (.d (.int .i64 1))),none⟩,
                  ⟨some 35,.mov (.tmp 43),none⟩])))))))))))))
           (.reg [] [⟨some 44,.arith .add .i64 (.tmp 27) (.cst (.d (.int .i64 1))),none⟩,
            ⟨some 27,.mov (.tmp 44),none⟩])))))))))))
      (.seq
       (.reg [] [⟨some 45,.mov (.tmp 6),none⟩,
        ⟨some 46,.calli 170 [(.tmp 45)],none⟩])
       (.seq
       (.reg [] [⟨some 47,.mov (.tmp 6),none⟩,
        ⟨some 48,.calli 171 [(.tmp 47)],none⟩,
        ⟨some 49,.len (.tmp 48),none⟩,
        ⟨some 50,.mov (.cst (.d (.int .i64 0))),none⟩])
       (.post [0,1,2,3,5] [0,1,2]
        (.block 6
        (.keep [0,1,2,3,5,48,49,50] [0,1,2]
         (.loop
         (.post [0,1,2,3,5,48,49,50] []
          (.seq
          (.reg [] [⟨some 51,.cmp .lss (.tmp 50) (.tmp 49),none⟩])
          (.seq
           (.cond (.tmp 51)
           .skip
           (.exit 6))
           (.seq
           (.block 7
            (.seq
            (.reg [] [⟨some 52,.ixa 1 (.tmp 48) (.tmp 50),none⟩,
             ⟨some 53,.ld false 1 (.tmp 52),none⟩,
             ⟨some 12,.mov (.tmp 53),none⟩])
            (.seq
             (.reg [] [⟨some 54,.mov (.tmp 5),none⟩,
              ⟨some 55,.arith .mul .i64 (.tmp 54) (.cst (.d (.int .i64 86400))),none⟩,
              ⟨some 56,.mov (.tmp 12),none⟩,
              ⟨some 57,.arith .add .i64 (.tmp 55) (.tmp 56),none⟩,
              ⟨some 13,.mov (.tmp 57),none⟩])
             (.seq
             (.reg [] [⟨some 58,.mov (.tmp 13),none⟩,
              ⟨some 59,.ld false 1 (.tmp 1),none⟩,
              ⟨some 60,.cmp .gtr (.tmp 58) (.tmp 59),none⟩,
              ⟨some 61,.mov (.tmp 60),none⟩,
              ⟨some 62,.mov (.tmp 13),some (61,true)⟩,
              ⟨some 63,.ld false 1 (.tmp 2),some (61,true)⟩,
              ⟨some 64,.cmp .lss (.tmp 62) (.tmp 63),some (61,true)⟩,
              ⟨some 65,.pick (.tmp 61) (.tmp 64) (.cst (.d (.bool false))),none⟩,
              ⟨some 66,.mov (.tmp 65),none⟩,
              ⟨some 67,.mov (.tmp 0),some (66,true)⟩,
              ⟨some 68,.mov (.tmp 13),some (66,true)⟩,
              ⟨some 69,.callv (.tmp 67) [(.tmp 68)],some (66,true)⟩,
              ⟨some 70,.not (.tmp 69),some (66,true)⟩,
              ⟨some 71,.pick (.tmp 66) (.tmp 70) (.cst (.d (.bool false))),none⟩])
             (.cond (.tmp 71)
              .ret
              .skip)))))
           (.reg [] [⟨some 72,.arith .add .i64 (.tmp 50) (.cst (.d (.int .i64 1))),none⟩,
            ⟨some 50,.mov (.tmp 72),none⟩]))))))))))))))
     (.reg [] [⟨some 21,.mov (.tmp 5),none⟩,
      ⟨some 22,.arith .add .i64 (.tmp 21) (.cst (.d (.int .i64 1))),none⟩,
      ⟨some 5,.mov (.tmp 22),none⟩])))))))))⟩
theorem i167 {no : Int} {l : List Vr} {F : Data} (h : VsO l) (h0 : 0 < l.length) (h8 : l.length ≤ 8) {a b : Int} (hab : (0 ≤ a ∧ a ≤ 100000000) ∧ (0 ≤ b ∧ b ≤ 100000000) ∧ a < b) :
  CallIn Tryz.prog 167 [.yld 5,.cp [.int .i64 a] 0,.cp [.int .i64 b] 0,.cp [.int .i64 no,.slice 6 (vrs l)] 0] (HP7 no l (lp34 .ready none F) (nx7 []) (nxo7 [])) (.tup []) (end7 no l F (tks a b (secL l) (tkN a b) (a / 86400)) []):=by
 have hlv:=vrs_len l
 have hsz:=ats_bnd h l.length
 rw [List.take_length] at hsz
 have hsl:(secL l).length≤0+(ats l).length:=insAll_len (ats l) []
 have hS:∀ s∈secL l,0≤s∧s≤86399:=fun s hs=>ats_rng h s ((secL_mem l s).1 hs)
 have hls:(ints (secL l)).length=(secL l).length:=ints_len _
 have hz:=ints_len (0::ats l)
 have hd0:0≤a / 86400:=Int.ediv_nonneg hab.1.1 (by decide)
 have hdb:(b - 1) / 86400≤2000:=by omega
 refine callIn_of_vc 10 (x:=jr167) (by kernel_rfl) rfl rfl (end7_len no l F _ _) ?_
 refine ar_quo ?_ ?_
 refine an ?_ ?_
 (show (0:Int)≤a; omega)
 refine an ?_ ?_
 (show a≤(9223372036854775807:Int); omega)
 (show (1:Int)≤(86400:Int); omega)
 rotate_left
 refine loop_st (fun p:Nat × List Int=>⟨[(0,.yld 5),(1,.cp [.int .i64 a] 0),(2,.cp [.int .i64 b] 0),(3,.cp [.int .i64 no,.slice 6 (vrs l)] 0),(5,.d (.int .i64 (a / 86400+(p.1:Int))))],[.cbox [.int .i64 no,.slice 6 (vrs l)],.box [.nils 1],.box [.d (.int .i64 0)],.none,.box [nx7 p.2],lp34 .ready none F,.none,.none,.none,nxo7 p.2,.none,.none,.none]⟩) (fun p=>p.2.length≤256∧p.1≤tkN a b∧end7 no l F (tks a b (secL l) (tkN a b) (a / 86400)) []=end7 no l F (tks a b (secL l) (tkN a b - p.1) (a / 86400+(p.1:Int))) p.2) (fun p=>tkN a b - p.1) (0,[]) (by show _=St.mk _ _; rw [show a / 86400+((0:Nat):Int)=a / 86400 by omega]; rfl) ⟨by simp,Nat.zero_le _,by show _=end7 no l F (tks a b (secL l) (tkN a b - 0) (a / 86400+((0:Nat):Int))) []; rw [show a / 86400+((0:Nat):Int)=a / 86400 by omega]; rfl⟩ ?_
 rintro ⟨j,R⟩ ⟨hR,hj,hi⟩
 dsimp only at *
 have hjn:(tkN a b:Int)=(b - 1) / 86400+1 - a / 86400∨(tkN a b=0∧(b - 1) / 86400+1 - a / 86400≤0):=by unfold tkN; omega
 by_cases hjl:j < tkN a b
 ·have hd:a / 86400+(j:Int)≤(b - 1) / 86400:=by omega
  have hd1:a / 86400+(j:Int)+1=a / 86400+((j+1:Nat):Int):=by omega
  have et:tkN a b - j=(tkN a b - (j+1))+1:=by omega
  rw [et,tks,hd1] at hi
  have hdn:0≤a / 86400+(j:Int):=by omega
  generalize hdd:a / 86400+(j:Int)=d at *
  generalize hrest:tks a b (secL l) (tkN a b - (j+1)) (a / 86400+((j+1:Nat):Int))=rest at *
  cases R with
  | nil =>
   refine ar_sub ?_ ?_
   refine an ?_ ?_
   (show (-9223372036854775808:Int)≤b - (1:Int); omega)
   (show b - (1:Int)≤(9223372036854775807:Int); omega)
   refine ar_quo ?_ ?_
   refine an ?_ ?_
   (show (0:Int)≤b - (1:Int); omega)
   refine an ?_ ?_
   (show b - (1:Int)≤(9223372036854775807:Int); omega)
   (show (1:Int)≤(86400:Int); omega)
   refine sd ?_
   refine b_le (fun t1=>?_) (fun t1=>?_)
   refine sd ?_
   rotate_left
   (exfalso; omega)
   refine loop_st (fun k:Nat=>⟨[(0,.yld 5),(1,.cp [.int .i64 a] 0),(2,.cp [.int .i64 b] 0),(3,.cp [.int .i64 no,.slice 6 (vrs l)] 0),(5,.d (.int .i64 d)),(6,.sl 10 (ints (0::ats (l.take k))).length),(25,.d (.slice 6 (vrs l))),(26,.d (.int .i64 (((vrs l).length:Nat):Int))),(27,.d (.int .i64 (k:Int)))],[.cbox [.int .i64 no,.slice 6 (vrs l)],.box [.nils 1],.box [.d (.int .i64 0)],.none,.box [.nils 1],lp34 .ready none F,.none,.none,.none,.none,.row 3 1 (ints (0::ats (l.take k))) false,.none,.none]⟩) (fun k=>k≤l.length) (fun k=>l.length - k) 0 rfl (Nat.zero_le _) ?_
   intro k hk
   have hk:k≤l.length:=hk
   dsimp only
   by_cases hkn:k < l.length
   ·refine Exists.elim (get_lt l hkn) fun v hv=>?_
    have hv1:=vrs_at hv
    have hlt:=tys_len v.t.t
    have hg:=h.good k v hv
    have hnt:=hg.nt
    refine sd ?_
    refine b_lt (fun t2=>?_) (fun t2=>?_)
    refine ix_at hv1 ?_ ?_
    (show (0:Int)≤(↑k:Int); omega)
    rotate_left
    (exfalso; omega)
    refine loop_st (fun i:Nat=>⟨[(0,.yld 5),(1,.cp [.int .i64 a] 0),(2,.cp [.int .i64 b] 0),(3,.cp [.int .i64 no,.slice 6 (vrs l)] 0),(5,.d (.int .i64 d)),(6,.sl 10 (ints ((0::ats (l.take k))++atsN (v.t.t.take i))).length),(25,.d (.slice 6 (vrs l))),(26,.d (.int .i64 (((vrs l).length:Nat):Int))),(27,.d (.int .i64 (k:Int))),(33,.d (.slice 1 (tys v.t.t))),(34,.d (.int .i64 (((tys v.t.t).length:Nat):Int))),(35,.d (.int .i64 (i:Int)))],[.cbox [.int .i64 no,.slice 6 (vrs l)],.box [.nils 1],.box [.d (.int .i64 0)],.none,.box [.nils 1],lp34 .ready none F,.none,.none,.none,.none,.row 3 1 (ints ((0::ats (l.take k))++atsN (v.t.t.take i))) false,.none,.none]⟩) (fun i=>i≤v.t.t.length) (fun i=>v.t.t.length - i) 0 (by rw [List.take_zero]; show _=St.mk _ _; rw [show atsN []=[] from rfl,List.append_nil]; rfl) (Nat.zero_le _) ?_
    intro i hik
    have hik:i≤v.t.t.length:=hik
    dsimp only
    by_cases hin:i < v.t.t.length
    ·refine Exists.elim (get_lt v.t.t hin) fun ty hty=>?_
     have hty1:=tys_at hty
     have hb:=(hg.ty i ty hty).len
     have c168_:=c168 ty (by omega)
     have fin:∃ a':Nat,(a'≤v.t.t.length∧v.t.t.length - a' < v.t.t.length - i)∧(⟨[(0,.yld 5),(1,.cp [.int .i64 a] 0),(2,.cp [.int .i64 b] 0),(3,.cp [.int .i64 no,.slice 6 (vrs l)] 0),(5,.d (.int .i64 d)),(6,.sl 10 (ints (((0::ats (l.take k))++atsN (v.t.t.take i))++ty.map (·.1))).length),(25,.d (.slice 6 (vrs l))),(26,.d (.int .i64 (((vrs l).length:Nat):Int))),(27,.d (.int .i64 (k:Int))),(33,.d (.slice 1 (tys v.t.t))),(34,.d (.int .i64 (((tys v.t.t).length:Nat):Int))),(35,.d (.int .i64 ((i:Int)+1)))],[.cbox [.int .i64 no,.slice 6 (vrs l)],.box [.nils 1],.box [.d (.int .i64 0)],.none,.box [.nils 1],lp34 .ready none F,.none,.none,.none,.none,.row 3 1 (ints (((0::ats (l.take k))++atsN (v.t.t.take i))++ty.map (·.1))) false,.none,.none]⟩:St)=⟨[(0,.yld 5),(1,.cp [.int .i64 a] 0),(2,.cp [.int .i64 b] 0),(3,.cp [.int .i64 no,.slice 6 (vrs l)] 0),(5,.d (.int .i64 d)),(6,.sl 10 (ints ((0::ats (l.take k))++atsN (v.t.t.take a'))).length),(25,.d (.slice 6 (vrs l))),(26,.d (.int .i64 (((vrs l).length:Nat):Int))),(27,.d (.int .i64 (k:Int))),(33,.d (.slice 1 (tys v.t.t))),(34,.d (.int .i64 (((tys v.t.t).length:Nat):Int))),(35,.d (.int .i64 (a':Int)))],[.cbox [.int .i64 no,.slice 6 (vrs l)],.box [.nils 1],.box [.d (.int .i64 0)],.none,.box [.nils 1],lp34 .ready none F,.none,.none,.none,.none,.row 3 1 (ints ((0::ats (l.take k))++atsN (v.t.t.take a'))) false,.none,.none]⟩:=⟨i+1,⟨by omega,by omega⟩,by rw [atsN_step hty,List.append_assoc]; rfl⟩
     rw [← ints_app] at fin
     have hw1:=ints_len ((0::ats (l.take k))++atsN (v.t.t.take i))
     have hw2:=ints_len (ty.map (·.1))
     rw [List.length_map] at hw2
     rw [List.length_append,List.length_cons] at hw1
     have hw3:=ats_bnd h k
     have hw4:=atsN_bnd hg i
     refine sd ?_
     refine b_lt (fun t3=>?_) (fun t3=>?_)
     refine ix_at hty1 ?_ ?_
     (show (0:Int)≤(↑i:Int); omega)
     refine ca c168_ ?_
     refine sd ?_
     refine an ?_ ?_
     refine an ?_ ?_
     exact rfl
     refine an ?_ ?_
     exact rfl
     refine an ?_ ?_
     exact rfl
     refine an ?_ ?_
     rotate_left
     rotate_left
     refine ar_add ?_ ?_
     refine an ?_ ?_
     (show (-9223372036854775808:Int)≤(↑i:Int)+(1:Int); omega)
     (show (↑i:Int)+(1:Int)≤(9223372036854775807:Int); omega)
     rotate_left
     (exfalso; omega)
     ·show ((ints ((0::ats (l.take k))++atsN (v.t.t.take i))).length+(ints (ty.map (·.1))).length) * 8≤2 ^ 47
      omega
     ·show (ints ((0::ats (l.take k))++atsN (v.t.t.take i))).length+(ints (ty.map (·.1))).length≤2 ^ 47
      omega
     ·exact fin
    ·have e:i=v.t.t.length:=by omega
     subst e
     rw [List.take_length]
     have fin:∃ a':Nat,(a'≤l.length∧l.length - a' < l.length - k)∧(⟨[(0,.yld 5),(1,.cp [.int .i64 a] 0),(2,.cp [.int .i64 b] 0),(3,.cp [.int .i64 no,.slice 6 (vrs l)] 0),(5,.d (.int .i64 d)),(6,.sl 10 (ints ((0::ats (l.take k))++atsN v.t.t)).length),(25,.d (.slice 6 (vrs l))),(26,.d (.int .i64 (((vrs l).length:Nat):Int))),(27,.d (.int .i64 ((k:Int)+1)))],[.cbox [.int .i64 no,.slice 6 (vrs l)],.box [.nils 1],.box [.d (.int .i64 0)],.none,.box [.nils 1],lp34 .ready none F,.none,.none,.none,.none,.row 3 1 (ints ((0::ats (l.take k))++atsN v.t.t)) false,.none,.none]⟩:St)=⟨[(0,.yld 5),(1,.cp [.int .i64 a] 0),(2,.cp [.int .i64 b] 0),(3,.cp [.int .i64 no,.slice 6 (vrs l)] 0),(5,.d (.int .i64 d)),(6,.sl 10 (ints (0::ats (l.take a'))).length),(25,.d (.slice 6 (vrs l))),(26,.d (.int .i64 (((vrs l).length:Nat):Int))),(27,.d (.int .i64 (a':Int)))],[.cbox [.int .i64 no,.slice 6 (vrs l)],.box [.nils 1],.box [.d (.int .i64 0)],.none,.box [.nils 1],lp34 .ready none F,.none,.none,.none,.none,.row 3 1 (ints (0::ats (l.take a'))) false,.none,.none]⟩:=⟨k+1,⟨by omega,by omega⟩,by rw [ats_step hv]; rfl⟩
     refine sd ?_
     refine b_lt (fun t3=>?_) (fun t3=>?_)
     (exfalso; omega)
     refine ar_add ?_ ?_
     refine an ?_ ?_
     (show (-9223372036854775808:Int)≤(↑k:Int)+(1:Int); omega)
     (show (↑k:Int)+(1:Int)≤(9223372036854775807:Int); omega)
     rotate_left
     exact fin
   ·have e:k=l.length:=by omega
    subst e
    rw [List.take_length,hz]
    have c170_:CallIn Tryz.prog 170 [.sl 10 (0::ats l).length] [.cbox [.int .i64 no,.slice 6 (vrs l)],.box [.nils 1],.box [.d (.int .i64 0)],.none,.box [.nils 1],lp34 .ready none F,.none,.none,.none,.none,.row 3 1 (ints (0::ats l)) false,.none,.none] (.tup []) [.cbox [.int .i64 no,.slice 6 (vrs l)],.box [.nils 1],.box [.d (.int .i64 0)],.none,.box [.nils 1],lp34 .ready none F,.none,.none,.none,.none,.row 3 1 (ints (srtI (0::ats l))) false,.none,.none]:=sort_callIn (hasFnB_spec (by kernel_rfl)) Tryz.slices_Sort_int (id:=10) (t:=3) (zs:=0::ats l) rfl (by simp) (by simp; omega)
    have c171_:CallIn Tryz.prog 171 [.sl 10 (srtI (0::ats l)).length] [.cbox [.int .i64 no,.slice 6 (vrs l)],.box [.nils 1],.box [.d (.int .i64 0)],.none,.box [.nils 1],lp34 .ready none F,.none,.none,.none,.none,.row 3 1 (ints (srtI (0::ats l))) false,.none,.none] (.d (.slice 1 (ints (Go.Lib.compact (srtI (0::ats l)))))) [.cbox [.int .i64 no,.slice 6 (vrs l)],.box [.nils 1],.box [.d (.int .i64 0)],.none,.box [.nils 1],lp34 .ready none F,.none,.none,.none,.none,.row 3 1 (ints (Go.Lib.compact (srtI (0::ats l))++List.replicate ((srtI (0::ats l)).length - (Go.Lib.compact (srtI (0::ats l))).length) 0)) true,.none,.none]:=compact_callIn (hasFnB_spec (by kernel_rfl)) Tryz.slices_Compact_int (id:=10) (t:=3) (zs:=srtI (0::ats l)) rfl (by rw [srtI_len]; simp) (by rw [srtI_len]; simp; omega)
    rw [sec_sorted h h0] at c171_
    rw [srtI_len] at c171_
    refine sd ?_
    refine b_lt (fun t2=>?_) (fun t2=>?_)
    (exfalso; omega)
    rotate_left
    refine Exists.intro (.tup []) (Exists.intro [(10,.row 3 1 (ints (srtI (0::ats l))) false)] (And.intro c170_ ?_))
    rotate_left
    refine Exists.intro (.d (.slice 1 (ints (secL l)))) (Exists.intro [(10,.row 3 1 (ints (secL l++List.replicate ((0::ats l).length - (secL l).length) 0)) true)] (And.intro c171_ ?_))
    rotate_left
    refine loop_st (fun p:Nat × List Int=>⟨[(0,.yld 5),(1,.cp [.int .i64 a] 0),(2,.cp [.int .i64 b] 0),(3,.cp [.int .i64 no,.slice 6 (vrs l)] 0),(5,.d (.int .i64 d)),(48,.d (.slice 1 (ints (secL l)))),(49,.d (.int .i64 (((ints (secL l)).length:Nat):Int))),(50,.d (.int .i64 (p.1:Int)))],[.cbox [.int .i64 no,.slice 6 (vrs l)],.box [.nils 1],.box [.d (.int .i64 0)],.none,.box [nx7 p.2],lp34 .ready none F,.none,.none,.none,nxo7 p.2,.none,.none,.none]⟩) (fun p=>p.2.length≤256∧p.1≤(secL l).length∧end7 no l F (tks a b (secL l) (tkN a b) (a / 86400)) []=end7 no l F (tkD a b ((secL l).drop p.1) d++rest) p.2) (fun p=>(secL l).length - p.1) (0,([]:List Int)) rfl ⟨hR,Nat.zero_le _,hi⟩ ?_
    rintro ⟨i,R1⟩ ⟨hR1,hik,hI⟩
    dsimp only at *
    by_cases hin:i < (secL l).length
    ·refine Exists.elim (get_lt (secL l) hin) fun s hs=>?_
     have hs1:=ints_get hs
     have hsr:=hS s (List.mem_of_getElem? hs)
     rw [drop_at hs,tkD_cons] at hI
     cases hc:(decide (a < d * 86400+s)&&decide (d * 86400+s < b)) with
     | false =>
      rw [hc] at hI
      have hcc:¬ (a < d * 86400+s∧d * 86400+s < b):=by simpa using hc
      have fin:∃ a':Nat × List Int,((a'.2.length≤256∧a'.1≤(secL l).length∧end7 no l F (tks a b (secL l) (tkN a b) (a / 86400)) []=end7 no l F (tkD a b ((secL l).drop a'.1) d++rest) a'.2)∧(secL l).length - a'.1 < (secL l).length - i)∧(⟨[(0,.yld 5),(1,.cp [.int .i64 a] 0),(2,.cp [.int .i64 b] 0),(3,.cp [.int .i64 no,.slice 6 (vrs l)] 0),(5,.d (.int .i64 d)),(48,.d (.slice 1 (ints (secL l)))),(49,.d (.int .i64 (((ints (secL l)).length:Nat):Int))),(50,.d (.int .i64 ((i:Int)+1)))],[.cbox [.int .i64 no,.slice 6 (vrs l)],.box [.nils 1],.box [.d (.int .i64 0)],.none,.box [nx7 R1],lp34 .ready none F,.none,.none,.none,nxo7 R1,.none,.none,.none]⟩:St)=⟨[(0,.yld 5),(1,.cp [.int .i64 a] 0),(2,.cp [.int .i64 b] 0),(3,.cp [.int .i64 no,.slice 6 (vrs l)] 0),(5,.d (.int .i64 d)),(48,.d (.slice 1 (ints (secL l)))),(49,.d (.int .i64 (((ints (secL l)).length:Nat):Int))),(50,.d (.int .i64 (a'.1:Int)))],[.cbox [.int .i64 no,.slice 6 (vrs l)],.box [.nils 1],.box [.d (.int .i64 0)],.none,.box [nx7 a'.2],lp34 .ready none F,.none,.none,.none,nxo7 a'.2,.none,.none,.none]⟩:=⟨(i+1,R1),⟨⟨hR1,by show i+1≤_; omega,hI⟩,by show (secL l).length - (i+1) < _; omega⟩,rfl⟩
      cases R1 with
      | nil =>
       refine sd ?_
       refine b_lt (fun t3=>?_) (fun t3=>?_)
       refine ix_at hs1 ?_ ?_
       (show (0:Int)≤(↑i:Int); omega)
       refine ar_mul ?_ ?_
       refine an ?_ ?_
       (show (-9223372036854775808:Int)≤d * (86400:Int); omega)
       (show d * (86400:Int)≤(9223372036854775807:Int); omega)
       refine ar_add ?_ ?_
       refine an ?_ ?_
       (show (-9223372036854775808:Int)≤d * (86400:Int)+s; omega)
       (show d * (86400:Int)+s≤(9223372036854775807:Int); omega)
       refine sd ?_
       refine b_lt (fun t4=>?_) (fun t4=>?_)
       refine sd ?_
       refine b_lt (fun t5=>?_) (fun t5=>?_)
       (exfalso; omega)
       refine sd ?_
       refine ar_add ?_ ?_
       refine an ?_ ?_
       (show (-9223372036854775808:Int)≤(↑i:Int)+(1:Int); omega)
       (show (↑i:Int)+(1:Int)≤(9223372036854775807:Int); omega)
       rotate_left
       refine sd ?_
       refine sd ?_
       refine ar_add ?_ ?_
       refine an ?_ ?_
       (show (-9223372036854775808:Int)≤(↑i:Int)+(1:Int); omega)
       (show (↑i:Int)+(1:Int)≤(9223372036854775807:Int); omega)
       rotate_left
       (exfalso; omega)
       all_goals exact fin
      | cons z q =>
       refine sd ?_
       refine b_lt (fun t3=>?_) (fun t3=>?_)
       refine ix_at hs1 ?_ ?_
       (show (0:Int)≤(↑i:Int); omega)
       refine ar_mul ?_ ?_
       refine an ?_ ?_
       (show (-9223372036854775808:Int)≤d * (86400:Int); omega)
       (show d * (86400:Int)≤(9223372036854775807:Int); omega)
       refine ar_add ?_ ?_
       refine an ?_ ?_
       (show (-9223372036854775808:Int)≤d * (86400:Int)+s; omega)
       (show d * (86400:Int)+s≤(9223372036854775807:Int); omega)
       refine sd ?_
       refine b_lt (fun t4=>?_) (fun t4=>?_)
       refine sd ?_
       refine b_lt (fun t5=>?_) (fun t5=>?_)
       (exfalso; omega)
       refine sd ?_
       refine ar_add ?_ ?_
       refine an ?_ ?_
       (show (-9223372036854775808:Int)≤(↑i:Int)+(1:Int); omega)
       (show (↑i:Int)+(1:Int)≤(9223372036854775807:Int); omega)
       rotate_left
       refine sd ?_
       refine sd ?_
       refine ar_add ?_ ?_
       refine an ?_ ?_
       (show (-9223372036854775808:Int)≤(↑i:Int)+(1:Int); omega)
       (show (↑i:Int)+(1:Int)≤(9223372036854775807:Int); omega)
       rotate_left
       (exfalso; omega)
       all_goals exact fin
     | true =>
      rw [hc] at hI
      have hcc:a < d * 86400+s∧d * 86400+s < b:=by simpa using hc
      have hI:end7 no l F (tks a b (secL l) (tkN a b) (a / 86400)) []=end7 no l F ((d * 86400+s)::(tkD a b ((secL l).drop (i+1)) d++rest)) R1:=hI
      rw [end7] at hI
      have ht:1≤d * 86400+s∧d * 86400+s≤100000000:=by omega
      cases hch:chB l (d * 86400+s) with
      | false =>
       rw [hch] at hI
       have fin:∃ a':Nat × List Int,((a'.2.length≤256∧a'.1≤(secL l).length∧end7 no l F (tks a b (secL l) (tkN a b) (a / 86400)) []=end7 no l F (tkD a b ((secL l).drop a'.1) d++rest) a'.2)∧(secL l).length - a'.1 < (secL l).length - i)∧(⟨[(0,.yld 5),(1,.cp [.int .i64 a] 0),(2,.cp [.int .i64 b] 0),(3,.cp [.int .i64 no,.slice 6 (vrs l)] 0),(5,.d (.int .i64 d)),(48,.d (.slice 1 (ints (secL l)))),(49,.d (.int .i64 (((ints (secL l)).length:Nat):Int))),(50,.d (.int .i64 ((i:Int)+1)))],[.cbox [.int .i64 no,.slice 6 (vrs l)],.box [.nils 1],.box [.d (.int .i64 0)],.none,.box [nx7 R1],lp34 .ready none F,.none,.none,.none,nxo7 R1,.none,.none,.none]⟩:St)=⟨[(0,.yld 5),(1,.cp [.int .i64 a] 0),(2,.cp [.int .i64 b] 0),(3,.cp [.int .i64 no,.slice 6 (vrs l)] 0),(5,.d (.int .i64 d)),(48,.d (.slice 1 (ints (secL l)))),(49,.d (.int .i64 (((ints (secL l)).length:Nat):Int))),(50,.d (.int .i64 (a'.1:Int)))],[.cbox [.int .i64 no,.slice 6 (vrs l)],.box [.nils 1],.box [.d (.int .i64 0)],.none,.box [nx7 a'.2],lp34 .ready none F,.none,.none,.none,nxo7 a'.2,.none,.none,.none]⟩:=⟨(i+1,R1),⟨⟨hR1,by show i+1≤_; omega,hI⟩,by show (secL l).length - (i+1) < _; omega⟩,rfl⟩
       have hy:=yld_same (F:=F) (no:=no) h (d * 86400+s) R1 ht hch
       cases R1 with
       | nil =>
        refine sd ?_
        refine b_lt (fun t3=>?_) (fun t3=>?_)
        refine ix_at hs1 ?_ ?_
        (show (0:Int)≤(↑i:Int); omega)
        refine ar_mul ?_ ?_
        refine an ?_ ?_
        (show (-9223372036854775808:Int)≤d * (86400:Int); omega)
        (show d * (86400:Int)≤(9223372036854775807:Int); omega)
        refine ar_add ?_ ?_
        refine an ?_ ?_
        (show (-9223372036854775808:Int)≤d * (86400:Int)+s; omega)
        (show d * (86400:Int)+s≤(9223372036854775807:Int); omega)
        refine sd ?_
        refine b_lt (fun t4=>?_) (fun t4=>?_)
        refine sd ?_
        refine b_lt (fun t5=>?_) (fun t5=>?_)
        rotate_left
        (exfalso; omega)
        (exfalso; omega)
        (exfalso; omega)
        refine Exists.intro (.d (.bool true)) (Exists.intro [] (And.intro hy ?_))
        refine ar_add ?_ ?_
        refine an ?_ ?_
        (show (-9223372036854775808:Int)≤(↑i:Int)+(1:Int); omega)
        (show (↑i:Int)+(1:Int)≤(9223372036854775807:Int); omega)
        rotate_left
        all_goals exact fin
       | cons z q =>
        refine sd ?_
        refine b_lt (fun t3=>?_) (fun t3=>?_)
        refine ix_at hs1 ?_ ?_
        (show (0:Int)≤(↑i:Int); omega)
        refine ar_mul ?_ ?_
        refine an ?_ ?_
        (show (-9223372036854775808:Int)≤d * (86400:Int); omega)
        (show d * (86400:Int)≤(9223372036854775807:Int); omega)
        refine ar_add ?_ ?_
        refine an ?_ ?_
        (show (-9223372036854775808:Int)≤d * (86400:Int)+s; omega)
        (show d * (86400:Int)+s≤(9223372036854775807:Int); omega)
        refine sd ?_
        refine b_lt (fun t4=>?_) (fun t4=>?_)
        refine sd ?_
        refine b_lt (fun t5=>?_) (fun t5=>?_)
        rotate_left
        (exfalso; omega)
        (exfalso; omega)
        (exfalso; omega)
        refine Exists.intro (.d (.bool true)) (Exists.intro [] (And.intro hy ?_))
        refine ar_add ?_ ?_
        refine an ?_ ?_
        (show (-9223372036854775808:Int)≤(↑i:Int)+(1:Int); omega)
        (show (↑i:Int)+(1:Int)≤(9223372036854775807:Int); omega)
        rotate_left
        all_goals exact fin
      | true =>
       rw [hch] at hI
       by_cases h256:R1.length=256
       ·have hy:=yld_stop (F:=F) (no:=no) h (d * 86400+s) R1 ht hch h256
        rw [h256] at hI
        rw [hI]
        cases R1 with
        | nil=>exact absurd h256 (by decide)
        | cons z q =>
         refine sd ?_
         refine b_lt (fun t3=>?_) (fun t3=>?_)
         refine ix_at hs1 ?_ ?_
         (show (0:Int)≤(↑i:Int); omega)
         refine ar_mul ?_ ?_
         refine an ?_ ?_
         (show (-9223372036854775808:Int)≤d * (86400:Int); omega)
         (show d * (86400:Int)≤(9223372036854775807:Int); omega)
         refine ar_add ?_ ?_
         refine an ?_ ?_
         (show (-9223372036854775808:Int)≤d * (86400:Int)+s; omega)
         (show d * (86400:Int)+s≤(9223372036854775807:Int); omega)
         refine sd ?_
         refine b_lt (fun t4=>?_) (fun t4=>?_)
         refine sd ?_
         refine b_lt (fun t5=>?_) (fun t5=>?_)
         rotate_left
         (exfalso; omega)
         (exfalso; omega)
         (exfalso; omega)
         refine Exists.intro (.d (.bool false)) (Exists.intro [(2,.box [.d (.int .i64 5)]),(5,lp34 .done (some .ret) F),(6,.box (rcs (atO l (d * 86400+s)))),(7,.box (rcs (atO l (d * 86400+s - 1))))] (And.intro hy ?_))
         refine sd ?_
         exact rfl
       ·have hlt:R1.length < 256:=by omega
        rw [show (R1.length==256)=false by simpa using h256] at hI
        have fin:∃ a':Nat × List Int,((a'.2.length≤256∧a'.1≤(secL l).length∧end7 no l F (tks a b (secL l) (tkN a b) (a / 86400)) []=end7 no l F (tkD a b ((secL l).drop a'.1) d++rest) a'.2)∧(secL l).length - a'.1 < (secL l).length - i)∧(⟨[(0,.yld 5),(1,.cp [.int .i64 a] 0),(2,.cp [.int .i64 b] 0),(3,.cp [.int .i64 no,.slice 6 (vrs l)] 0),(5,.d (.int .i64 d)),(48,.d (.slice 1 (ints (secL l)))),(49,.d (.int .i64 (((ints (secL l)).length:Nat):Int))),(50,.d (.int .i64 ((i:Int)+1)))],[.cbox [.int .i64 no,.slice 6 (vrs l)],.box [.nils 1],.box [.d (.int .i64 0)],.none,.box [nx7 (R1++[d * 86400+s])],lp34 .ready none F,.none,.none,.none,nxo7 (R1++[d * 86400+s]),.none,.none,.none]⟩:St)=⟨[(0,.yld 5),(1,.cp [.int .i64 a] 0),(2,.cp [.int .i64 b] 0),(3,.cp [.int .i64 no,.slice 6 (vrs l)] 0),(5,.d (.int .i64 d)),(48,.d (.slice 1 (ints (secL l)))),(49,.d (.int .i64 (((ints (secL l)).length:Nat):Int))),(50,.d (.int .i64 (a'.1:Int)))],[.cbox [.int .i64 no,.slice 6 (vrs l)],.box [.nils 1],.box [.d (.int .i64 0)],.none,.box [nx7 a'.2],lp34 .ready none F,.none,.none,.none,nxo7 a'.2,.none,.none,.none]⟩:=⟨(i+1,R1++[d * 86400+s]),⟨⟨by show (R1++[d * 86400+s]).length≤256; rw [List.length_append]; show R1.length+1≤256; omega,by show i+1≤_; omega,hI⟩,by show (secL l).length - (i+1) < _; omega⟩,rfl⟩
        have hy:=yld_add (F:=F) (no:=no) h (d * 86400+s) R1 ht hch hlt
        cases R1 with
        | nil =>
         refine sd ?_
         refine b_lt (fun t3=>?_) (fun t3=>?_)
         refine ix_at hs1 ?_ ?_
         (show (0:Int)≤(↑i:Int); omega)
         refine ar_mul ?_ ?_
         refine an ?_ ?_
         (show (-9223372036854775808:Int)≤d * (86400:Int); omega)
         (show d * (86400:Int)≤(9223372036854775807:Int); omega)
         refine ar_add ?_ ?_
         refine an ?_ ?_
         (show (-9223372036854775808:Int)≤d * (86400:Int)+s; omega)
         (show d * (86400:Int)+s≤(9223372036854775807:Int); omega)
         refine sd ?_
         refine b_lt (fun t4=>?_) (fun t4=>?_)
         refine sd ?_
         refine b_lt (fun t5=>?_) (fun t5=>?_)
         rotate_left
         (exfalso; omega)
         (exfalso; omega)
         (exfalso; omega)
         refine Exists.intro (.d (.bool true)) (Exists.intro [(4,.box [nx7 (([]:List Int)++[d * 86400+s])]),(9,nxo7 (([]:List Int)++[d * 86400+s]))] (And.intro hy ?_))
         refine ar_add ?_ ?_
         refine an ?_ ?_
         (show (-9223372036854775808:Int)≤(↑i:Int)+(1:Int); omega)
         (show (↑i:Int)+(1:Int)≤(9223372036854775807:Int); omega)
         rotate_left
         all_goals exact fin
        | cons z q =>
         refine sd ?_
         refine b_lt (fun t3=>?_) (fun t3=>?_)
         refine ix_at hs1 ?_ ?_
         (show (0:Int)≤(↑i:Int); omega)
         refine ar_mul ?_ ?_
         refine an ?_ ?_
         (show (-9223372036854775808:Int)≤d * (86400:Int); omega)
         (show d * (86400:Int)≤(9223372036854775807:Int); omega)
         refine ar_add ?_ ?_
         refine an ?_ ?_
         (show (-9223372036854775808:Int)≤d * (86400:Int)+s; omega)
         (show d * (86400:Int)+s≤(9223372036854775807:Int); omega)
         refine sd ?_
         refine b_lt (fun t4=>?_) (fun t4=>?_)
         refine sd ?_
         refine b_lt (fun t5=>?_) (fun t5=>?_)
         rotate_left
         (exfalso; omega)
         (exfalso; omega)
         (exfalso; omega)
         refine Exists.intro (.d (.bool true)) (Exists.intro [(4,.box [nx7 ((z::q)++[d * 86400+s])]),(9,nxo7 ((z::q)++[d * 86400+s]))] (And.intro hy ?_))
         refine ar_add ?_ ?_
         refine an ?_ ?_
         (show (-9223372036854775808:Int)≤(↑i:Int)+(1:Int); omega)
         (show (↑i:Int)+(1:Int)≤(9223372036854775807:Int); omega)
         rotate_left
         all_goals exact fin
    ·have e:i=(secL l).length:=by omega
     subst e
     rw [List.drop_length] at hI
     have hI:end7 no l F (tks a b (secL l) (tkN a b) (a / 86400)) []=end7 no l F rest R1:=hI
     have fin:∃ a':Nat × List Int,((a'.2.length≤256∧a'.1≤tkN a b∧end7 no l F (tks a b (secL l) (tkN a b) (a / 86400)) []=end7 no l F (tks a b (secL l) (tkN a b - a'.1) (a / 86400+(a'.1:Int))) a'.2)∧tkN a b - a'.1 < tkN a b - j)∧(⟨[(0,.yld 5),(1,.cp [.int .i64 a] 0),(2,.cp [.int .i64 b] 0),(3,.cp [.int .i64 no,.slice 6 (vrs l)] 0),(5,.d (.int .i64 (d+1)))],[.cbox [.int .i64 no,.slice 6 (vrs l)],.box [.nils 1],.box [.d (.int .i64 0)],.none,.box [nx7 R1],lp34 .ready none F,.none,.none,.none,nxo7 R1,.none,.none,.none]⟩:St)=⟨[(0,.yld 5),(1,.cp [.int .i64 a] 0),(2,.cp [.int .i64 b] 0),(3,.cp [.int .i64 no,.slice 6 (vrs l)] 0),(5,.d (.int .i64 (a / 86400+(a'.1:Int))))],[.cbox [.int .i64 no,.slice 6 (vrs l)],.box [.nils 1],.box [.d (.int .i64 0)],.none,.box [nx7 a'.2],lp34 .ready none F,.none,.none,.none,nxo7 a'.2,.none,.none,.none]⟩:=⟨(j+1,R1),⟨⟨hR1,by show j+1≤_; omega,by rw [hI,← hrest]⟩,by show tkN a b - (j+1) < _; omega⟩,by rw [hd1]⟩
     cases R1 with
     | nil =>
      refine sd ?_
      refine b_lt (fun t3=>?_) (fun t3=>?_)
      (exfalso; omega)
      refine ar_add ?_ ?_
      refine an ?_ ?_
      (show (-9223372036854775808:Int)≤d+(1:Int); omega)
      (show d+(1:Int)≤(9223372036854775807:Int); omega)
      rotate_left
      exact fin
     | cons z q =>
      refine sd ?_
      refine b_lt (fun t3=>?_) (fun t3=>?_)
      (exfalso; omega)
      refine ar_add ?_ ?_
      refine an ?_ ?_
      (show (-9223372036854775808:Int)≤d+(1:Int); omega)
      (show d+(1:Int)≤(9223372036854775807:Int); omega)
      rotate_left
      exact fin
  | cons y r =>
   have hb:nx7 (y::r)=.sl 9 (ints (y::r)).length:=rfl
   have hb2:nxo7 (y::r)=.row 3 1 (ints (y::r)) false:=rfl
   rw [hb,hb2]
   refine ar_sub ?_ ?_
   refine an ?_ ?_
   (show (-9223372036854775808:Int)≤b - (1:Int); omega)
   (show b - (1:Int)≤(9223372036854775807:Int); omega)
   refine ar_quo ?_ ?_
   refine an ?_ ?_
   (show (0:Int)≤b - (1:Int); omega)
   refine an ?_ ?_
   (show b - (1:Int)≤(9223372036854775807:Int); omega)
   (show (1:Int)≤(86400:Int); omega)
   refine sd ?_
   refine b_le (fun t1=>?_) (fun t1=>?_)
   refine sd ?_
   rotate_left
   (exfalso; omega)
   refine loop_st (fun k:Nat=>⟨[(0,.yld 5),(1,.cp [.int .i64 a] 0),(2,.cp [.int .i64 b] 0),(3,.cp [.int .i64 no,.slice 6 (vrs l)] 0),(5,.d (.int .i64 d)),(6,.sl 10 (ints (0::ats (l.take k))).length),(25,.d (.slice 6 (vrs l))),(26,.d (.int .i64 (((vrs l).length:Nat):Int))),(27,.d (.int .i64 (k:Int)))],[.cbox [.int .i64 no,.slice 6 (vrs l)],.box [.nils 1],.box [.d (.int .i64 0)],.none,.box [.sl 9 (ints (y::r)).length],lp34 .ready none F,.none,.none,.none,.row 3 1 (ints (y::r)) false,.row 3 1 (ints (0::ats (l.take k))) false,.none,.none]⟩) (fun k=>k≤l.length) (fun k=>l.length - k) 0 rfl (Nat.zero_le _) ?_
   intro k hk
   have hk:k≤l.length:=hk
   dsimp only
   by_cases hkn:k < l.length
   ·refine Exists.elim (get_lt l hkn) fun v hv=>?_
    have hv1:=vrs_at hv
    have hlt:=tys_len v.t.t
    have hg:=h.good k v hv
    have hnt:=hg.nt
    refine sd ?_
    refine b_lt (fun t2=>?_) (fun t2=>?_)
    refine ix_at hv1 ?_ ?_
    (show (0:Int)≤(↑k:Int); omega)
    rotate_left
    (exfalso; omega)
    refine loop_st (fun i:Nat=>⟨[(0,.yld 5),(1,.cp [.int .i64 a] 0),(2,.cp [.int .i64 b] 0),(3,.cp [.int .i64 no,.slice 6 (vrs l)] 0),(5,.d (.int .i64 d)),(6,.sl 10 (ints ((0::ats (l.take k))++atsN (v.t.t.take i))).length),(25,.d (.slice 6 (vrs l))),(26,.d (.int .i64 (((vrs l).length:Nat):Int))),(27,.d (.int .i64 (k:Int))),(33,.d (.slice 1 (tys v.t.t))),(34,.d (.int .i64 (((tys v.t.t).length:Nat):Int))),(35,.d (.int .i64 (i:Int)))],[.cbox [.int .i64 no,.slice 6 (vrs l)],.box [.nils 1],.box [.d (.int .i64 0)],.none,.box [.sl 9 (ints (y::r)).length],lp34 .ready none F,.none,.none,.none,.row 3 1 (ints (y::r)) false,.row 3 1 (ints ((0::ats (l.take k))++atsN (v.t.t.take i))) false,.none,.none]⟩) (fun i=>i≤v.t.t.length) (fun i=>v.t.t.length - i) 0 (by rw [List.take_zero]; show _=St.mk _ _; rw [show atsN []=[] from rfl,List.append_nil]; rfl) (Nat.zero_le _) ?_
    intro i hik
    have hik:i≤v.t.t.length:=hik
    dsimp only
    by_cases hin:i < v.t.t.length
    ·refine Exists.elim (get_lt v.t.t hin) fun ty hty=>?_
     have hty1:=tys_at hty
     have hb:=(hg.ty i ty hty).len
     have c168_:=c168 ty (by omega)
     have fin:∃ a':Nat,(a'≤v.t.t.length∧v.t.t.length - a' < v.t.t.length - i)∧(⟨[(0,.yld 5),(1,.cp [.int .i64 a] 0),(2,.cp [.int .i64 b] 0),(3,.cp [.int .i64 no,.slice 6 (vrs l)] 0),(5,.d (.int .i64 d)),(6,.sl 10 (ints (((0::ats (l.take k))++atsN (v.t.t.take i))++ty.map (·.1))).length),(25,.d (.slice 6 (vrs l))),(26,.d (.int .i64 (((vrs l).length:Nat):Int))),(27,.d (.int .i64 (k:Int))),(33,.d (.slice 1 (tys v.t.t))),(34,.d (.int .i64 (((tys v.t.t).length:Nat):Int))),(35,.d (.int .i64 ((i:Int)+1)))],[.cbox [.int .i64 no,.slice 6 (vrs l)],.box [.nils 1],.box [.d (.int .i64 0)],.none,.box [.sl 9 (ints (y::r)).length],lp34 .ready none F,.none,.none,.none,.row 3 1 (ints (y::r)) false,.row 3 1 (ints (((0::ats (l.take k))++atsN (v.t.t.take i))++ty.map (·.1))) false,.none,.none]⟩:St)=⟨[(0,.yld 5),(1,.cp [.int .i64 a] 0),(2,.cp [.int .i64 b] 0),(3,.cp [.int .i64 no,.slice 6 (vrs l)] 0),(5,.d (.int .i64 d)),(6,.sl 10 (ints ((0::ats (l.take k))++atsN (v.t.t.take a'))).length),(25,.d (.slice 6 (vrs l))),(26,.d (.int .i64 (((vrs l).length:Nat):Int))),(27,.d (.int .i64 (k:Int))),(33,.d (.slice 1 (tys v.t.t))),(34,.d (.int .i64 (((tys v.t.t).length:Nat):Int))),(35,.d (.int .i64 (a':Int)))],[.cbox [.int .i64 no,.slice 6 (vrs l)],.box [.nils 1],.box [.d (.int .i64 0)],.none,.box [.sl 9 (ints (y::r)).length],lp34 .ready none F,.none,.none,.none,.row 3 1 (ints (y::r)) false,.row 3 1 (ints ((0::ats (l.take k))++atsN (v.t.t.take a'))) false,.none,.none]⟩:=⟨i+1,⟨by omega,by omega⟩,by rw [atsN_step hty,List.append_assoc]; rfl⟩
     rw [← ints_app] at fin
     have hw1:=ints_len ((0::ats (l.take k))++atsN (v.t.t.take i))
     have hw2:=ints_len (ty.map (·.1))
     rw [List.length_map] at hw2
     rw [List.length_append,List.length_cons] at hw1
     have hw3:=ats_bnd h k
     have hw4:=atsN_bnd hg i
     refine sd ?_
     refine b_lt (fun t3=>?_) (fun t3=>?_)
     refine ix_at hty1 ?_ ?_
     (show (0:Int)≤(↑i:Int); omega)
     refine ca c168_ ?_
     refine sd ?_
     refine an ?_ ?_
     refine an ?_ ?_
     exact rfl
     refine an ?_ ?_
     exact rfl
     refine an ?_ ?_
     exact rfl
     refine an ?_ ?_
     rotate_left
     rotate_left
     refine ar_add ?_ ?_
     refine an ?_ ?_
     (show (-9223372036854775808:Int)≤(↑i:Int)+(1:Int); omega)
     (show (↑i:Int)+(1:Int)≤(9223372036854775807:Int); omega)
     rotate_left
     (exfalso; omega)
     ·show ((ints ((0::ats (l.take k))++atsN (v.t.t.take i))).length+(ints (ty.map (·.1))).length) * 8≤2 ^ 47
      omega
     ·show (ints ((0::ats (l.take k))++atsN (v.t.t.take i))).length+(ints (ty.map (·.1))).length≤2 ^ 47
      omega
     ·exact fin
    ·have e:i=v.t.t.length:=by omega
     subst e
     rw [List.take_length]
     have fin:∃ a':Nat,(a'≤l.length∧l.length - a' < l.length - k)∧(⟨[(0,.yld 5),(1,.cp [.int .i64 a] 0),(2,.cp [.int .i64 b] 0),(3,.cp [.int .i64 no,.slice 6 (vrs l)] 0),(5,.d (.int .i64 d)),(6,.sl 10 (ints ((0::ats (l.take k))++atsN v.t.t)).length),(25,.d (.slice 6 (vrs l))),(26,.d (.int .i64 (((vrs l).length:Nat):Int))),(27,.d (.int .i64 ((k:Int)+1)))],[.cbox [.int .i64 no,.slice 6 (vrs l)],.box [.nils 1],.box [.d (.int .i64 0)],.none,.box [.sl 9 (ints (y::r)).length],lp34 .ready none F,.none,.none,.none,.row 3 1 (ints (y::r)) false,.row 3 1 (ints ((0::ats (l.take k))++atsN v.t.t)) false,.none,.none]⟩:St)=⟨[(0,.yld 5),(1,.cp [.int .i64 a] 0),(2,.cp [.int .i64 b] 0),(3,.cp [.int .i64 no,.slice 6 (vrs l)] 0),(5,.d (.int .i64 d)),(6,.sl 10 (ints (0::ats (l.take a'))).length),(25,.d (.slice 6 (vrs l))),(26,.d (.int .i64 (((vrs l).length:Nat):Int))),(27,.d (.int .i64 (a':Int)))],[.cbox [.int .i64 no,.slice 6 (vrs l)],.box [.nils 1],.box [.d (.int .i64 0)],.none,.box [.sl 9 (ints (y::r)).length],lp34 .ready none F,.none,.none,.none,.row 3 1 (ints (y::r)) false,.row 3 1 (ints (0::ats (l.take a'))) false,.none,.none]⟩:=⟨k+1,⟨by omega,by omega⟩,by rw [ats_step hv]; rfl⟩
     refine sd ?_
     refine b_lt (fun t3=>?_) (fun t3=>?_)
     (exfalso; omega)
     refine ar_add ?_ ?_
     refine an ?_ ?_
     (show (-9223372036854775808:Int)≤(↑k:Int)+(1:Int); omega)
     (show (↑k:Int)+(1:Int)≤(9223372036854775807:Int); omega)
     rotate_left
     exact fin
   ·have e:k=l.length:=by omega
    subst e
    rw [List.take_length,hz]
    have c170_:CallIn Tryz.prog 170 [.sl 10 (0::ats l).length] [.cbox [.int .i64 no,.slice 6 (vrs l)],.box [.nils 1],.box [.d (.int .i64 0)],.none,.box [.sl 9 (ints (y::r)).length],lp34 .ready none F,.none,.none,.none,.row 3 1 (ints (y::r)) false,.row 3 1 (ints (0::ats l)) false,.none,.none] (.tup []) [.cbox [.int .i64 no,.slice 6 (vrs l)],.box [.nils 1],.box [.d (.int .i64 0)],.none,.box [.sl 9 (ints (y::r)).length],lp34 .ready none F,.none,.none,.none,.row 3 1 (ints (y::r)) false,.row 3 1 (ints (srtI (0::ats l))) false,.none,.none]:=sort_callIn (hasFnB_spec (by kernel_rfl)) Tryz.slices_Sort_int (id:=10) (t:=3) (zs:=0::ats l) rfl (by simp) (by simp; omega)
    have c171_:CallIn Tryz.prog 171 [.sl 10 (srtI (0::ats l)).length] [.cbox [.int .i64 no,.slice 6 (vrs l)],.box [.nils 1],.box [.d (.int .i64 0)],.none,.box [.sl 9 (ints (y::r)).length],lp34 .ready none F,.none,.none,.none,.row 3 1 (ints (y::r)) false,.row 3 1 (ints (srtI (0::ats l))) false,.none,.none] (.d (.slice 1 (ints (Go.Lib.compact (srtI (0::ats l)))))) [.cbox [.int .i64 no,.slice 6 (vrs l)],.box [.nils 1],.box [.d (.int .i64 0)],.none,.box [.sl 9 (ints (y::r)).length],lp34 .ready none F,.none,.none,.none,.row 3 1 (ints (y::r)) false,.row 3 1 (ints (Go.Lib.compact (srtI (0::ats l))++List.replicate ((srtI (0::ats l)).length - (Go.Lib.compact (srtI (0::ats l))).length) 0)) true,.none,.none]:=compact_callIn (hasFnB_spec (by kernel_rfl)) Tryz.slices_Compact_int (id:=10) (t:=3) (zs:=srtI (0::ats l)) rfl (by rw [srtI_len]; simp) (by rw [srtI_len]; simp; omega)
    rw [sec_sorted h h0] at c171_
    rw [srtI_len] at c171_
    refine sd ?_
    refine b_lt (fun t2=>?_) (fun t2=>?_)
    (exfalso; omega)
    rotate_left
    refine Exists.intro (.tup []) (Exists.intro [(10,.row 3 1 (ints (srtI (0::ats l))) false)] (And.intro c170_ ?_))
    rotate_left
    refine Exists.intro (.d (.slice 1 (ints (secL l)))) (Exists.intro [(10,.row 3 1 (ints (secL l++List.replicate ((0::ats l).length - (secL l).length) 0)) true)] (And.intro c171_ ?_))
    rotate_left
    refine loop_st (fun p:Nat × List Int=>⟨[(0,.yld 5),(1,.cp [.int .i64 a] 0),(2,.cp [.int .i64 b] 0),(3,.cp [.int .i64 no,.slice 6 (vrs l)] 0),(5,.d (.int .i64 d)),(48,.d (.slice 1 (ints (secL l)))),(49,.d (.int .i64 (((ints (secL l)).length:Nat):Int))),(50,.d (.int .i64 (p.1:Int)))],[.cbox [.int .i64 no,.slice 6 (vrs l)],.box [.nils 1],.box [.d (.int .i64 0)],.none,.box [nx7 p.2],lp34 .ready none F,.none,.none,.none,nxo7 p.2,.none,.none,.none]⟩) (fun p=>p.2.length≤256∧p.1≤(secL l).length∧end7 no l F (tks a b (secL l) (tkN a b) (a / 86400)) []=end7 no l F (tkD a b ((secL l).drop p.1) d++rest) p.2) (fun p=>(secL l).length - p.1) (0,(y::r)) rfl ⟨hR,Nat.zero_le _,hi⟩ ?_
    rintro ⟨i,R1⟩ ⟨hR1,hik,hI⟩
    dsimp only at *
    by_cases hin:i < (secL l).length
    ·refine Exists.elim (get_lt (secL l) hin) fun s hs=>?_
     have hs1:=ints_get hs
     have hsr:=hS s (List.mem_of_getElem? hs)
     rw [drop_at hs,tkD_cons] at hI
     cases hc:(decide (a < d * 86400+s)&&decide (d * 86400+s < b)) with
     | false =>
      rw [hc] at hI
      have hcc:¬ (a < d * 86400+s∧d * 86400+s < b):=by simpa using hc
      have fin:∃ a':Nat × List Int,((a'.2.length≤256∧a'.1≤(secL l).length∧end7 no l F (tks a b (secL l) (tkN a b) (a / 86400)) []=end7 no l F (tkD a b ((secL l).drop a'.1) d++rest) a'.2)∧(secL l).length - a'.1 < (secL l).length - i)∧(⟨[(0,.yld 5),(1,.cp [.int .i64 a] 0),(2,.cp [.int .i64 b] 0),(3,.cp [.int .i64 no,.slice 6 (vrs l)] 0),(5,.d (.int .i64 d)),(48,.d (.slice 1 (ints (secL l)))),(49,.d (.int .i64 (((ints (secL l)).length:Nat):Int))),(50,.d (.int .i64 ((i:Int)+1)))],[.cbox [.int .i64 no,.slice 6 (vrs l)],.box [.nils 1],.box [.d (.int .i64 0)],.none,.box [nx7 R1],lp34 .ready none F,.none,.none,.none,nxo7 R1,.none,.none,.none]⟩:St)=⟨[(0,.yld 5),(1,.cp [.int .i64 a] 0),(2,.cp [.int .i64 b] 0),(3,.cp [.int .i64 no,.slice 6 (vrs l)] 0),(5,.d (.int .i64 d)),(48,.d (.slice 1 (ints (secL l)))),(49,.d (.int .i64 (((ints (secL l)).length:Nat):Int))),(50,.d (.int .i64 (a'.1:Int)))],[.cbox [.int .i64 no,.slice 6 (vrs l)],.box [.nils 1],.box [.d (.int .i64 0)],.none,.box [nx7 a'.2],lp34 .ready none F,.none,.none,.none,nxo7 a'.2,.none,.none,.none]⟩:=⟨(i+1,R1),⟨⟨hR1,by show i+1≤_; omega,hI⟩,by show (secL l).length - (i+1) < _; omega⟩,rfl⟩
      cases R1 with
      | nil =>
       refine sd ?_
       refine b_lt (fun t3=>?_) (fun t3=>?_)
       refine ix_at hs1 ?_ ?_
       (show (0:Int)≤(↑i:Int); omega)
       refine ar_mul ?_ ?_
       refine an ?_ ?_
       (show (-9223372036854775808:Int)≤d * (86400:Int); omega)
       (show d * (86400:Int)≤(9223372036854775807:Int); omega)
       refine ar_add ?_ ?_
       refine an ?_ ?_
       (show (-9223372036854775808:Int)≤d * (86400:Int)+s; omega)
       (show d * (86400:Int)+s≤(9223372036854775807:Int); omega)
       refine sd ?_
       refine b_lt (fun t4=>?_) (fun t4=>?_)
       refine sd ?_
       refine b_lt (fun t5=>?_) (fun t5=>?_)
       (exfalso; omega)
       refine sd ?_
       refine ar_add ?_ ?_
       refine an ?_ ?_
       (show (-9223372036854775808:Int)≤(↑i:Int)+(1:Int); omega)
       (show (↑i:Int)+(1:Int)≤(9223372036854775807:Int); omega)
       rotate_left
       refine sd ?_
       refine sd ?_
       refine ar_add ?_ ?_
       refine an ?_ ?_
       (show (-9223372036854775808:Int)≤(↑i:Int)+(1:Int); omega)
       (show (↑i:Int)+(1:Int)≤(9223372036854775807:Int); omega)
       rotate_left
       (exfalso; omega)
       all_goals exact fin
      | cons z q =>
       refine sd ?_
       refine b_lt (fun t3=>?_) (fun t3=>?_)
       refine ix_at hs1 ?_ ?_
       (show (0:Int)≤(↑i:Int); omega)
       refine ar_mul ?_ ?_
       refine an ?_ ?_
       (show (-9223372036854775808:Int)≤d * (86400:Int); omega)
       (show d * (86400:Int)≤(9223372036854775807:Int); omega)
       refine ar_add ?_ ?_
       refine an ?_ ?_
       (show (-9223372036854775808:Int)≤d * (86400:Int)+s; omega)
       (show d * (86400:Int)+s≤(9223372036854775807:Int); omega)
       refine sd ?_
       refine b_lt (fun t4=>?_) (fun t4=>?_)
       refine sd ?_
       refine b_lt (fun t5=>?_) (fun t5=>?_)
       (exfalso; omega)
       refine sd ?_
       refine ar_add ?_ ?_
       refine an ?_ ?_
       (show (-9223372036854775808:Int)≤(↑i:Int)+(1:Int); omega)
       (show (↑i:Int)+(1:Int)≤(9223372036854775807:Int); omega)
       rotate_left
       refine sd ?_
       refine sd ?_
       refine ar_add ?_ ?_
       refine an ?_ ?_
       (show (-9223372036854775808:Int)≤(↑i:Int)+(1:Int); omega)
       (show (↑i:Int)+(1:Int)≤(9223372036854775807:Int); omega)
       rotate_left
       (exfalso; omega)
       all_goals exact fin
     | true =>
      rw [hc] at hI
      have hcc:a < d * 86400+s∧d * 86400+s < b:=by simpa using hc
      have hI:end7 no l F (tks a b (secL l) (tkN a b) (a / 86400)) []=end7 no l F ((d * 86400+s)::(tkD a b ((secL l).drop (i+1)) d++rest)) R1:=hI
      rw [end7] at hI
      have ht:1≤d * 86400+s∧d * 86400+s≤100000000:=by omega
      cases hch:chB l (d * 86400+s) with
      | false =>
       rw [hch] at hI
       have fin:∃ a':Nat × List Int,((a'.2.length≤256∧a'.1≤(secL l).length∧end7 no l F (tks a b (secL l) (tkN a b) (a / 86400)) []=end7 no l F (tkD a b ((secL l).drop a'.1) d++rest) a'.2)∧(secL l).length - a'.1 < (secL l).length - i)∧(⟨[(0,.yld 5),(1,.cp [.int .i64 a] 0),(2,.cp [.int .i64 b] 0),(3,.cp [.int .i64 no,.slice 6 (vrs l)] 0),(5,.d (.int .i64 d)),(48,.d (.slice 1 (ints (secL l)))),(49,.d (.int .i64 (((ints (secL l)).length:Nat):Int))),(50,.d (.int .i64 ((i:Int)+1)))],[.cbox [.int .i64 no,.slice 6 (vrs l)],.box [.nils 1],.box [.d (.int .i64 0)],.none,.box [nx7 R1],lp34 .ready none F,.none,.none,.none,nxo7 R1,.none,.none,.none]⟩:St)=⟨[(0,.yld 5),(1,.cp [.int .i64 a] 0),(2,.cp [.int .i64 b] 0),(3,.cp [.int .i64 no,.slice 6 (vrs l)] 0),(5,.d (.int .i64 d)),(48,.d (.slice 1 (ints (secL l)))),(49,.d (.int .i64 (((ints (secL l)).length:Nat):Int))),(50,.d (.int .i64 (a'.1:Int)))],[.cbox [.int .i64 no,.slice 6 (vrs l)],.box [.nils 1],.box [.d (.int .i64 0)],.none,.box [nx7 a'.2],lp34 .ready none F,.none,.none,.none,nxo7 a'.2,.none,.none,.none]⟩:=⟨(i+1,R1),⟨⟨hR1,by show i+1≤_; omega,hI⟩,by show (secL l).length - (i+1) < _; omega⟩,rfl⟩
       have hy:=yld_same (F:=F) (no:=no) h (d * 86400+s) R1 ht hch
       cases R1 with
       | nil =>
        refine sd ?_
        refine b_lt (fun t3=>?_) (fun t3=>?_)
        refine ix_at hs1 ?_ ?_
        (show (0:Int)≤(↑i:Int); omega)
        refine ar_mul ?_ ?_
        refine an ?_ ?_
        (show (-9223372036854775808:Int)≤d * (86400:Int); omega)
        (show d * (86400:Int)≤(9223372036854775807:Int); omega)
        refine ar_add ?_ ?_
        refine an ?_ ?_
        (show (-9223372036854775808:Int)≤d * (86400:Int)+s; omega)
        (show d * (86400:Int)+s≤(9223372036854775807:Int); omega)
        refine sd ?_
        refine b_lt (fun t4=>?_) (fun t4=>?_)
        refine sd ?_
        refine b_lt (fun t5=>?_) (fun t5=>?_)
        rotate_left
        (exfalso; omega)
        (exfalso; omega)
        (exfalso; omega)
        refine Exists.intro (.d (.bool true)) (Exists.intro [] (And.intro hy ?_))
        refine ar_add ?_ ?_
        refine an ?_ ?_
        (show (-9223372036854775808:Int)≤(↑i:Int)+(1:Int); omega)
        (show (↑i:Int)+(1:Int)≤(9223372036854775807:Int); omega)
        rotate_left
        all_goals exact fin
       | cons z q =>
        refine sd ?_
        refine b_lt (fun t3=>?_) (fun t3=>?_)
        refine ix_at hs1 ?_ ?_
        (show (0:Int)≤(↑i:Int); omega)
        refine ar_mul ?_ ?_
        refine an ?_ ?_
        (show (-9223372036854775808:Int)≤d * (86400:Int); omega)
        (show d * (86400:Int)≤(9223372036854775807:Int); omega)
        refine ar_add ?_ ?_
        refine an ?_ ?_
        (show (-9223372036854775808:Int)≤d * (86400:Int)+s; omega)
        (show d * (86400:Int)+s≤(9223372036854775807:Int); omega)
        refine sd ?_
        refine b_lt (fun t4=>?_) (fun t4=>?_)
        refine sd ?_
        refine b_lt (fun t5=>?_) (fun t5=>?_)
        rotate_left
        (exfalso; omega)
        (exfalso; omega)
        (exfalso; omega)
        refine Exists.intro (.d (.bool true)) (Exists.intro [] (And.intro hy ?_))
        refine ar_add ?_ ?_
        refine an ?_ ?_
        (show (-9223372036854775808:Int)≤(↑i:Int)+(1:Int); omega)
        (show (↑i:Int)+(1:Int)≤(9223372036854775807:Int); omega)
        rotate_left
        all_goals exact fin
      | true =>
       rw [hch] at hI
       by_cases h256:R1.length=256
       ·have hy:=yld_stop (F:=F) (no:=no) h (d * 86400+s) R1 ht hch h256
        rw [h256] at hI
        rw [hI]
        cases R1 with
        | nil=>exact absurd h256 (by decide)
        | cons z q =>
         refine sd ?_
         refine b_lt (fun t3=>?_) (fun t3=>?_)
         refine ix_at hs1 ?_ ?_
         (show (0:Int)≤(↑i:Int); omega)
         refine ar_mul ?_ ?_
         refine an ?_ ?_
         (show (-9223372036854775808:Int)≤d * (86400:Int); omega)
         (show d * (86400:Int)≤(9223372036854775807:Int); omega)
         refine ar_add ?_ ?_
         refine an ?_ ?_
         (show (-9223372036854775808:Int)≤d * (86400:Int)+s; omega)
         (show d * (86400:Int)+s≤(9223372036854775807:Int); omega)
         refine sd ?_
         refine b_lt (fun t4=>?_) (fun t4=>?_)
         refine sd ?_
         refine b_lt (fun t5=>?_) (fun t5=>?_)
         rotate_left
         (exfalso; omega)
         (exfalso; omega)
         (exfalso; omega)
         refine Exists.intro (.d (.bool false)) (Exists.intro [(2,.box [.d (.int .i64 5)]),(5,lp34 .done (some .ret) F),(6,.box (rcs (atO l (d * 86400+s)))),(7,.box (rcs (atO l (d * 86400+s - 1))))] (And.intro hy ?_))
         refine sd ?_
         exact rfl
       ·have hlt:R1.length < 256:=by omega
        rw [show (R1.length==256)=false by simpa using h256] at hI
        have fin:∃ a':Nat × List Int,((a'.2.length≤256∧a'.1≤(secL l).length∧end7 no l F (tks a b (secL l) (tkN a b) (a / 86400)) []=end7 no l F (tkD a b ((secL l).drop a'.1) d++rest) a'.2)∧(secL l).length - a'.1 < (secL l).length - i)∧(⟨[(0,.yld 5),(1,.cp [.int .i64 a] 0),(2,.cp [.int .i64 b] 0),(3,.cp [.int .i64 no,.slice 6 (vrs l)] 0),(5,.d (.int .i64 d)),(48,.d (.slice 1 (ints (secL l)))),(49,.d (.int .i64 (((ints (secL l)).length:Nat):Int))),(50,.d (.int .i64 ((i:Int)+1)))],[.cbox [.int .i64 no,.slice 6 (vrs l)],.box [.nils 1],.box [.d (.int .i64 0)],.none,.box [nx7 (R1++[d * 86400+s])],lp34 .ready none F,.none,.none,.none,nxo7 (R1++[d * 86400+s]),.none,.none,.none]⟩:St)=⟨[(0,.yld 5),(1,.cp [.int .i64 a] 0),(2,.cp [.int .i64 b] 0),(3,.cp [.int .i64 no,.slice 6 (vrs l)] 0),(5,.d (.int .i64 d)),(48,.d (.slice 1 (ints (secL l)))),(49,.d (.int .i64 (((ints (secL l)).length:Nat):Int))),(50,.d (.int .i64 (a'.1:Int)))],[.cbox [.int .i64 no,.slice 6 (vrs l)],.box [.nils 1],.box [.d (.int .i64 0)],.none,.box [nx7 a'.2],lp34 .ready none F,.none,.none,.none,nxo7 a'.2,.none,.none,.none]⟩:=⟨(i+1,R1++[d * 86400+s]),⟨⟨by show (R1++[d * 86400+s]).length≤256; rw [List.length_append]; show R1.length+1≤256; omega,by show i+1≤_; omega,hI⟩,by show (secL l).length - (i+1) < _; omega⟩,rfl⟩
        have hy:=yld_add (F:=F) (no:=no) h (d * 86400+s) R1 ht hch hlt
        cases R1 with
        | nil =>
         refine sd ?_
         refine b_lt (fun t3=>?_) (fun t3=>?_)
         refine ix_at hs1 ?_ ?_
         (show (0:Int)≤(↑i:Int); omega)
         refine ar_mul ?_ ?_
         refine an ?_ ?_
         (show (-9223372036854775808:Int)≤d * (86400:Int); omega)
         (show d * (86400:Int)≤(9223372036854775807:Int); omega)
         refine ar_add ?_ ?_
         refine an ?_ ?_
         (show (-9223372036854775808:Int)≤d * (86400:Int)+s; omega)
         (show d * (86400:Int)+s≤(9223372036854775807:Int); omega)
         refine sd ?_
         refine b_lt (fun t4=>?_) (fun t4=>?_)
         refine sd ?_
         refine b_lt (fun t5=>?_) (fun t5=>?_)
         rotate_left
         (exfalso; omega)
         (exfalso; omega)
         (exfalso; omega)
         refine Exists.intro (.d (.bool true)) (Exists.intro [(4,.box [nx7 (([]:List Int)++[d * 86400+s])]),(9,nxo7 (([]:List Int)++[d * 86400+s]))] (And.intro hy ?_))
         refine ar_add ?_ ?_
         refine an ?_ ?_
         (show (-9223372036854775808:Int)≤(↑i:Int)+(1:Int); omega)
         (show (↑i:Int)+(1:Int)≤(9223372036854775807:Int); omega)
         rotate_left
         all_goals exact fin
        | cons z q =>
         refine sd ?_
         refine b_lt (fun t3=>?_) (fun t3=>?_)
         refine ix_at hs1 ?_ ?_
         (show (0:Int)≤(↑i:Int); omega)
         refine ar_mul ?_ ?_
         refine an ?_ ?_
         (show (-9223372036854775808:Int)≤d * (86400:Int); omega)
         (show d * (86400:Int)≤(9223372036854775807:Int); omega)
         refine ar_add ?_ ?_
         refine an ?_ ?_
         (show (-9223372036854775808:Int)≤d * (86400:Int)+s; omega)
         (show d * (86400:Int)+s≤(9223372036854775807:Int); omega)
         refine sd ?_
         refine b_lt (fun t4=>?_) (fun t4=>?_)
         refine sd ?_
         refine b_lt (fun t5=>?_) (fun t5=>?_)
         rotate_left
         (exfalso; omega)
         (exfalso; omega)
         (exfalso; omega)
         refine Exists.intro (.d (.bool true)) (Exists.intro [(4,.box [nx7 ((z::q)++[d * 86400+s])]),(9,nxo7 ((z::q)++[d * 86400+s]))] (And.intro hy ?_))
         refine ar_add ?_ ?_
         refine an ?_ ?_
         (show (-9223372036854775808:Int)≤(↑i:Int)+(1:Int); omega)
         (show (↑i:Int)+(1:Int)≤(9223372036854775807:Int); omega)
         rotate_left
         all_goals exact fin
    ·have e:i=(secL l).length:=by omega
     subst e
     rw [List.drop_length] at hI
     have hI:end7 no l F (tks a b (secL l) (tkN a b) (a / 86400)) []=end7 no l F rest R1:=hI
     have fin:∃ a':Nat × List Int,((a'.2.length≤256∧a'.1≤tkN a b∧end7 no l F (tks a b (secL l) (tkN a b) (a / 86400)) []=end7 no l F (tks a b (secL l) (tkN a b - a'.1) (a / 86400+(a'.1:Int))) a'.2)∧tkN a b - a'.1 < tkN a b - j)∧(⟨[(0,.yld 5),(1,.cp [.int .i64 a] 0),(2,.cp [.int .i64 b] 0),(3,.cp [.int .i64 no,.slice 6 (vrs l)] 0),(5,.d (.int .i64 (d+1)))],[.cbox [.int .i64 no,.slice 6 (vrs l)],.box [.nils 1],.box [.d (.int .i64 0)],.none,.box [nx7 R1],lp34 .ready none F,.none,.none,.none,nxo7 R1,.none,.none,.none]⟩:St)=⟨[(0,.yld 5),(1,.cp [.int .i64 a] 0),(2,.cp [.int .i64 b] 0),(3,.cp [.int .i64 no,.slice 6 (vrs l)] 0),(5,.d (.int .i64 (a / 86400+(a'.1:Int))))],[.cbox [.int .i64 no,.slice 6 (vrs l)],.box [.nils 1],.box [.d (.int .i64 0)],.none,.box [nx7 a'.2],lp34 .ready none F,.none,.none,.none,nxo7 a'.2,.none,.none,.none]⟩:=⟨(j+1,R1),⟨⟨hR1,by show j+1≤_; omega,by rw [hI,← hrest]⟩,by show tkN a b - (j+1) < _; omega⟩,by rw [hd1]⟩
     cases R1 with
     | nil =>
      refine sd ?_
      refine b_lt (fun t3=>?_) (fun t3=>?_)
      (exfalso; omega)
      refine ar_add ?_ ?_
      refine an ?_ ?_
      (show (-9223372036854775808:Int)≤d+(1:Int); omega)
      (show d+(1:Int)≤(9223372036854775807:Int); omega)
      rotate_left
      exact fin
     | cons z q =>
      refine sd ?_
      refine b_lt (fun t3=>?_) (fun t3=>?_)
      (exfalso; omega)
      refine ar_add ?_ ?_
      refine an ?_ ?_
      (show (-9223372036854775808:Int)≤d+(1:Int); omega)
      (show d+(1:Int)≤(9223372036854775807:Int); omega)
      rotate_left
      exact fin
 ·have e:j=tkN a b:=by omega
  subst e
  rw [Nat.sub_self] at hi
  have hi:end7 no l F (tks a b (secL l) (tkN a b) (a / 86400)) []=HP7 no l (lp34 .ready none F) (nx7 R) (nxo7 R):=hi
  rw [hi]
  cases R with
  | nil => refine ar_sub ?_ ?_
       refine an ?_ ?_
       (show (-9223372036854775808:Int)≤b - (1:Int); omega)
       (show b - (1:Int)≤(9223372036854775807:Int); omega)
       refine ar_quo ?_ ?_
       refine an ?_ ?_
       (show (0:Int)≤b - (1:Int); omega)
       refine an ?_ ?_
       (show b - (1:Int)≤(9223372036854775807:Int); omega)
       (show (1:Int)≤(86400:Int); omega)
       refine sd ?_
       refine b_le (fun t1=>?_) (fun t1=>?_)
       (exfalso; omega)
       refine sd ?_
       exact rfl
  | cons y r => refine ar_sub ?_ ?_
         refine an ?_ ?_
         (show (-9223372036854775808:Int)≤b - (1:Int); omega)
         (show b - (1:Int)≤(9223372036854775807:Int); omega)
         refine ar_quo ?_ ?_
         refine an ?_ ?_
         (show (0:Int)≤b - (1:Int); omega)
         refine an ?_ ?_
         (show b - (1:Int)≤(9223372036854775807:Int); omega)
         (show (1:Int)≤(86400:Int); omega)
         refine sd ?_
         refine b_le (fun t1=>?_) (fun t1=>?_)
         (exfalso; omega)
         refine sd ?_
         exact rfl
end Vc
