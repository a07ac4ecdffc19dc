import Derived.Test.YtcplcokecclehaaG19
set_option linter.unusedSectionVars false
set_option linter.unusedVariables false
set_option linter.unusedSimpArgs false
set_option maxRecDepth 10000
set_option maxHeartbeats 4000000
namespace Vc
open Go Go.Proofs
theorem nms_ok (l:List (Int × Int)) (hl:l.length≤4):chkStns (stTo l l.length)=0:=by
 have hw:∀ a:Int,within3 (a % 4) 0 3=0:=fun a=>within_in (by omega)
 have hf:∀ a:Int,within3 (a % 7) 0 64=0:=fun a=>within_in (by omega)
 have hz:within3 0 0 1000=0:=rfl
 have key:∀ (names:List (List UInt8)) (i:Nat) (p:Int × Int),isNm [115,48+UInt8.ofNat i]=true→names.contains [115,48+UInt8.ofNat i]=false→chkSt names (stOf i p)=0:=fun names i p h1 h2=>by
  unfold chkSt stOf
  show firstOf [bif !(isNm [115,48+UInt8.ofNat i]) then 8 else 0,bif names.contains [115,48+UInt8.ofNat i] then 9 else 0,within3 (p.1 % 4) 0 3,within3 (p.2 % 7) 0 64,within3 0 0 1000]=0
  rw [h1,h2,hw,hf,hz]; rfl
 have i0:isNm [115,48+UInt8.ofNat 0]=true:=by kernel_rfl
 have i1:isNm [115,48+UInt8.ofNat 1]=true:=by kernel_rfl
 have i2:isNm [115,48+UInt8.ofNat 2]=true:=by kernel_rfl
 have i3:isNm [115,48+UInt8.ofNat 3]=true:=by kernel_rfl
 have g:∀ (names:List (List UInt8)) (x:Stn) (r:List Stn),chkSt names x=0→chkGo names (x::r)=chkGo (names++[x.nm]) r:=fun names x r h=>by
  show (bif chkSt names x != 0 then chkSt names x else chkGo (names++[x.nm]) r)=_
  rw [h]; rfl
 have e:chkStns (stTo l l.length)=chkGo [] (stTo l l.length):=by
  unfold chkStns
  rw [decide_eq_false (by rw [stTo_len]; omega)]; rfl
 rw [e]
 have hc:l.length=0∨l.length=1∨l.length=2∨l.length=3∨l.length=4:=by omega
 rcases hc with hc | hc | hc | hc | hc <;> rw [hc]
 ·rfl
 ·show chkGo [] [stOf 0 _]=0
  rw [g [] _ _ (key [] 0 _ i0 rfl)]; rfl
 ·show chkGo [] [stOf 0 _,stOf 1 _]=0
  rw [g [] _ _ (key [] 0 _ i0 rfl),g _ _ _ (key _ 1 _ i1 (by kernel_rfl))]; rfl
 ·show chkGo [] [stOf 0 _,stOf 1 _,stOf 2 _]=0
  rw [g [] _ _ (key [] 0 _ i0 rfl),g _ _ _ (key _ 1 _ i1 (by kernel_rfl)),g _ _ _ (key _ 2 _ i2 (by kernel_rfl))]; rfl
 ·show chkGo [] [stOf 0 _,stOf 1 _,stOf 2 _,stOf 3 _]=0
  rw [g [] _ _ (key [] 0 _ i0 rfl),g _ _ _ (key _ 1 _ i1 (by kernel_rfl)),g _ _ _ (key _ 2 _ i2 (by kernel_rfl)),g _ _ _ (key _ 3 _ i3 (by kernel_rfl))]; rfl
theorem cyc_z {c:List Bool} (h1:1≤c.length) (h8:c.length≤8):chkCyc c=0:=by
 unfold chkCyc
 rw [show ((c.length:Int)==0)=false from beq_eq_false_iff_ne.2 (by omega),decide_eq_false (by omega)]; rfl
def jr3:AFun:=⟨294,11,[.tmp 6],
 (.seq
 (.reg [0] [⟨some 3,.cbx 0 5 (.tmp 0),none⟩,
  ⟨some 6,.mov (.cst (.d (.bool false))),none⟩])
 (.seq
  (.seq
  (.reg [] [⟨some 33,.call 4 [],none⟩,
   ⟨some 34,.not (.tmp 33),none⟩,
   ⟨some 35,.mov (.tmp 34),none⟩,
   ⟨some 36,.ld true 5 (.tmp 3),some (35,false)⟩,
   ⟨some 37,.call 5 [(.tmp 36)],some (35,false)⟩,
   ⟨some 38,.not (.tmp 37),some (35,false)⟩,
   ⟨some 39,.pick (.tmp 35) (.cst (.d (.bool true))) (.tmp 38),none⟩,
   ⟨some 40,.mov (.tmp 39),none⟩,
   ⟨some 41,.ld true 5 (.tmp 3),some (40,false)⟩,
   ⟨some 42,.call 6 [(.tmp 41)],some (40,false)⟩,
   ⟨some 43,.not (.tmp 42),some (40,false)⟩,
   ⟨some 44,.pick (.tmp 40) (.cst (.d (.bool true))) (.tmp 43),none⟩,
   ⟨some 45,.mov (.tmp 44),none⟩,
   ⟨some 46,.ld true 5 (.tmp 3),some (45,false)⟩,
   ⟨some 47,.call 7 [(.tmp 46)],some (45,false)⟩,
   ⟨some 48,.cmp .neq (.tmp 47) (.cst (.d (.int .i64 0))),some (45,false)⟩,
   ⟨some 49,.pick (.tmp 45) (.cst (.d (.bool true))) (.tmp 48),none⟩,
   ⟨some 50,.mov (.tmp 49),none⟩,
   ⟨some 51,.mov (.tmp 2),some (50,false)⟩,
   ⟨some 52,.len (.tmp 51),some (50,false)⟩,
   ⟨some 53,.cmp .lss (.tmp 52) (.cst (.d (.int .i64 1))),some (50,false)⟩,
   ⟨some 54,.pick (.tmp 50) (.cst (.d (.bool true))) (.tmp 53),none⟩,
   ⟨some 55,.mov (.tmp 54),none⟩,
   ⟨some 56,.mov (.tmp 2),some (55,false)⟩,
   ⟨some 57,.len (.tmp 56),some (55,false)⟩,
   ⟨some 58,.cmp .gtr (.tmp 57) (.cst (.d (.int .i64 4))),some (55,false)⟩,
   ⟨some 59,.pick (.tmp 55) (.cst (.d (.bool true))) (.tmp 58),none⟩])
  (.cond (.tmp 59)
   (.seq
   (.reg [] [⟨some 60,.call 4 [],none⟩,
    ⟨some 6,.mov (.tmp 60),none⟩])
   .ret)
   .skip))
  (.seq
  (.regd [] [⟨some 62,.ld true 5 (.tmp 3),none⟩,
   ⟨some 63,.call 9 [(.tmp 62)],none⟩,
   ⟨some 64,.mov (.tmp 1),none⟩,
   ⟨some 65,.conv .i64 (.tmp 64),none⟩,
   ⟨some 66,.fad 1 (.tmp 3),none⟩,
   ⟨some 67,.ld false 1 (.tmp 66),none⟩,
   ⟨some 68,.len (.tmp 67),none⟩,
   ⟨some 69,.arith .rem .i64 (.tmp 65) (.tmp 68),none⟩,
   ⟨some 70,.call 8 [(.tmp 63),(.tmp 69)],none⟩,
   ⟨some 61,.mov (.tmp 70),none⟩,
   ⟨some 71,.ext 0 (.tmp 61),none⟩,
   ⟨some 72,.ext 1 (.tmp 61),none⟩,
   ⟨some 7,.mov (.tmp 71),none⟩,
   ⟨some 8,.mov (.tmp 72),none⟩] [(0,2),(1,2),(0,3),(1,3),(0,4),(1,4),(2,4),(3,4),(0,5),(1,5),(2,5),(3,5),(0,6),(1,6),(2,6),(3,6),(0,7),(1,7),(10,11),(11,12)])
  (.seq
   (.reg [] [⟨some 74,.ld true 5 (.tmp 3),none⟩,
    ⟨some 75,.call 9 [(.tmp 74)],none⟩,
    ⟨some 76,.call 10 [(.tmp 75)],none⟩,
    ⟨some 73,.mov (.tmp 76),none⟩,
    ⟨some 77,.ext 0 (.tmp 73),none⟩,
    ⟨some 78,.ext 1 (.tmp 73),none⟩,
    ⟨some 9,.mov (.tmp 77),none⟩,
    ⟨some 10,.mov (.tmp 78),none⟩])
   (.seq
   (.seq
    (.reg [] [⟨some 79,.mov (.tmp 8),none⟩,
     ⟨some 80,.cmp .neq (.tmp 79) (.cst (.d (.int .i64 0))),none⟩,
     ⟨some 81,.mov (.tmp 80),none⟩,
     ⟨some 82,.mov (.tmp 10),some (81,false)⟩,
     ⟨some 83,.cmp .neq (.tmp 82) (.cst (.d (.int .i64 0))),some (81,false)⟩,
     ⟨some 84,.pick (.tmp 81) (.cst (.d (.bool true))) (.tmp 83),none⟩,
     ⟨some 85,.mov (.tmp 84),none⟩,
     ⟨some 86,.mov (.tmp 7),some (85,false)⟩,
     ⟨some 87,.call 11 [(.tmp 86)],some (85,false)⟩,
     ⟨some 88,.cmp .neq (.tmp 87) (.cst (.d (.int .i64 0))),some (85,false)⟩,
     ⟨some 89,.pick (.tmp 85) (.cst (.d (.bool true))) (.tmp 88),none⟩,
     ⟨some 90,.mov (.tmp 89),none⟩,
     ⟨some 91,.mov (.tmp 9),some (90,false)⟩,
     ⟨some 92,.call 11 [(.tmp 91)],some (90,false)⟩,
     ⟨some 93,.cmp .neq (.tmp 92) (.cst (.d (.int .i64 0))),some (90,false)⟩,
     ⟨some 94,.pick (.tmp 90) (.cst (.d (.bool true))) (.tmp 93),none⟩])
    (.cond (.tmp 94)
    (.seq
     (.reg [] [⟨some 6,.mov (.cst (.d (.bool false))),none⟩])
     .ret)
    .skip))
   (.seq
    (.reg [] [⟨some 11,.mov (.cst (.nils 1)),none⟩])
    (.seq
    (.reg [] [⟨some 12,.mov (.cst (.d (.int .i64 0))),none⟩])
    (.seq
     (.seq
     (.reg [] [⟨some 95,.fad 1 (.tmp 3),none⟩,
      ⟨some 96,.ld false 1 (.tmp 95),none⟩,
      ⟨some 97,.len (.tmp 96),none⟩,
      ⟨some 98,.mov (.cst (.d (.int .i64 0))),none⟩])
     (.keep [1,2,3,7,9,11,12,97,98] [0,1,2,3,4,5,6,7,8,9,10] seg3a))
     (.seq
     (.seq
      (.reg [] [⟨some 137,.mov (.tmp 11),none⟩,
       ⟨some 138,.mov (.tmp 1),none⟩,
       ⟨some 139,.conv .i64 (.tmp 138),none⟩,
       ⟨some 140,.fad 1 (.tmp 3),none⟩,
       ⟨some 141,.ld false 1 (.tmp 140),none⟩,
       ⟨some 142,.len (.tmp 141),none⟩,
       ⟨some 143,.arith .rem .i64 (.tmp 139) (.tmp 142),none⟩,
       ⟨some 144,.ixa 1 (.tmp 137) (.tmp 143),none⟩,
       ⟨some 145,.ld false 1 (.tmp 144),none⟩,
       ⟨some 146,.not (.tmp 145),none⟩])
      (.cond (.tmp 146)
      (.seq
       (.reg [] [⟨some 6,.mov (.cst (.d (.bool false))),none⟩])
       .ret)
      .skip))
     (.seq
      (.reg [] [⟨some 18,.mov (.cst (.nils 4)),none⟩])
      (.seq
      (.reg [] [⟨some 19,.mov (.cst (.d (.int .i64 0))),none⟩])
      (.seq
       (.seq
       (.reg [] [⟨some 147,.mov (.tmp 2),none⟩,
        ⟨some 148,.len (.tmp 147),none⟩,
        ⟨some 149,.mov (.cst (.d (.int .i64 0))),none⟩])
       (.keep [11,12,18,19,147,148,149] [0,1,2,3,4,5,6,7,8,9,10] seg3b))
       (.seq
       (.reg [] [⟨some 176,.mov (.tmp 11),none⟩,
        ⟨some 177,.len (.tmp 176),none⟩,
        ⟨some 178,.arith .mul .i64 (.cst (.d (.int .i64 2))) (.tmp 177),none⟩,
        ⟨some 22,.mov (.tmp 178),none⟩])
       (.seq
        (.reg [6,7] [⟨some 180,.mov (.tmp 18),none⟩,
         ⟨some 181,.bsl 6 4 1 0 [] [],none⟩,
         ⟨some 182,.mov (.tmp 11),none⟩,
         ⟨some 183,.app 7 4 1 1 (.tmp 181) (.tmp 182),none⟩,
         ⟨some 184,.mov (.tmp 22),none⟩,
         ⟨some 185,.call 15 [(.tmp 180),(.tmp 183),(.tmp 184)],none⟩,
         ⟨some 179,.mov (.tmp 185),none⟩,
         ⟨some 186,.ext 0 (.tmp 179),none⟩,
         ⟨some 187,.ext 1 (.tmp 179),none⟩,
         ⟨some 23,.mov (.tmp 186),none⟩,
         ⟨some 24,.mov (.tmp 187),none⟩])
        (.seq
        (.reg [8,9] [⟨some 189,.bsl 8 4 1 0 [] [],none⟩,
         ⟨some 190,.mov (.tmp 11),none⟩,
         ⟨some 191,.app 9 4 1 1 (.tmp 189) (.tmp 190),none⟩,
         ⟨some 192,.mov (.tmp 12),none⟩,
         ⟨some 193,.arith .mul .i64 (.cst (.d (.int .i64 2))) (.tmp 192),none⟩,
         ⟨some 194,.call 16 [(.tmp 191),(.cst (.d (.int .i64 0))),(.tmp 193)],none⟩,
         ⟨some 188,.mov (.tmp 194),none⟩,
         ⟨some 195,.ext 0 (.tmp 188),none⟩,
         ⟨some 196,.ext 1 (.tmp 188),none⟩,
         ⟨some 25,.mov (.tmp 195),none⟩,
         ⟨some 26,.mov (.tmp 196),none⟩])
        (.seq
         (.seq
         (.reg [] [⟨some 197,.mov (.tmp 24),none⟩,
          ⟨some 198,.cmp .neq (.tmp 197) (.cst (.d (.int .i64 0))),none⟩,
          ⟨some 199,.mov (.tmp 198),none⟩,
          ⟨some 200,.mov (.tmp 26),some (199,false)⟩,
          ⟨some 201,.cmp .neq (.tmp 200) (.cst (.d (.int .i64 0))),some (199,false)⟩,
          ⟨some 202,.pick (.tmp 199) (.cst (.d (.bool true))) (.tmp 201),none⟩,
          ⟨some 203,.mov (.tmp 202),none⟩,
          ⟨some 204,.mov (.tmp 23),some (203,false)⟩,
          ⟨some 205,.len (.tmp 204),some (203,false)⟩,
          ⟨some 206,.mov (.tmp 22),some (203,false)⟩,
          ⟨some 207,.cmp .neq (.tmp 205) (.tmp 206),some (203,false)⟩,
          ⟨some 208,.pick (.tmp 203) (.cst (.d (.bool true))) (.tmp 207),none⟩,
          ⟨some 209,.mov (.tmp 208),none⟩,
          ⟨some 210,.mov (.tmp 25),some (209,false)⟩,
          ⟨some 211,.len (.tmp 210),some (209,false)⟩,
          ⟨some 212,.mov (.tmp 12),some (209,false)⟩,
          ⟨some 213,.arith .mul .i64 (.cst (.d (.int .i64 2))) (.tmp 212),some (209,false)⟩,
          ⟨some 214,.cmp .neq (.tmp 211) (.tmp 213),some (209,false)⟩,
          ⟨some 215,.pick (.tmp 209) (.cst (.d (.bool true))) (.tmp 214),none⟩])
         (.cond (.tmp 215)
          (.seq
          (.reg [] [⟨some 6,.mov (.cst (.d (.bool false))),none⟩])
          .ret)
          .skip))
         (.seq
         (.reg [] [⟨some 27,.mov (.cst (.d (.int .i64 0))),none⟩,
          ⟨some 28,.mov (.cst (.d (.int .i64 0))),none⟩])
         (.seq
          (.seq
          (.reg [] [⟨some 216,.mov (.tmp 23),none⟩,
           ⟨some 217,.len (.tmp 216),none⟩,
           ⟨some 218,.mov (.cst (.d (.int .i64 0))),none⟩])
          (.keep [11,12,18,19,25,27,28,216,217,218] [0,1,2,3,4,5,6,7,8,9,10] seg3c))
          (.seq
          (.reg [10] [⟨some 269,.msl 10 4 1 1 (.bool false) (.cst (.d (.int .i64 1))),none⟩,
           ⟨some 270,.call 16 [(.tmp 269),(.cst (.d (.int .i64 0))),(.cst (.d (.int .i64 1)))],none⟩,
           ⟨some 268,.mov (.tmp 270),none⟩,
           ⟨some 271,.ext 0 (.tmp 268),none⟩,
           ⟨some 272,.ext 1 (.tmp 268),none⟩,
           ⟨some 31,.mov (.tmp 271),none⟩,
           ⟨some 32,.mov (.tmp 272),none⟩])
          (.seq
           (.reg [] [⟨some 273,.mov (.tmp 28),none⟩,
            ⟨some 274,.mov (.tmp 25),none⟩,
            ⟨some 275,.len (.tmp 274),none⟩,
            ⟨some 276,.cmp .eql (.tmp 273) (.tmp 275),none⟩,
            ⟨some 277,.mov (.tmp 276),none⟩,
            ⟨some 278,.mov (.tmp 27),some (277,true)⟩,
            ⟨some 279,.mov (.tmp 19),some (277,true)⟩,
            ⟨some 280,.mov (.tmp 12),some (277,true)⟩,
            ⟨some 281,.arith .mul .i64 (.cst (.d (.int .i64 2))) (.tmp 280),some (277,true)⟩,
            ⟨some 282,.mini (.tmp 279) (.tmp 281),some (277,true)⟩,
            ⟨some 283,.cmp .eql (.tmp 278) (.tmp 282),some (277,true)⟩,
            ⟨some 284,.pick (.tmp 277) (.tmp 283) (.cst (.d (.bool false))),none⟩,
            ⟨some 285,.mov (.tmp 284),none⟩,
            ⟨some 286,.mov (.tmp 32),some (285,true)⟩,
            ⟨some 287,.cmp .eql (.tmp 286) (.cst (.d (.int .i64 7))),some (285,true)⟩,
            ⟨some 288,.pick (.tmp 285) (.tmp 287) (.cst (.d (.bool false))),none⟩,
            ⟨some 289,.mov (.tmp 288),none⟩,
            ⟨some 290,.mov (.tmp 31),some (289,true)⟩,
            ⟨some 291,.len (.tmp 290),some (289,true)⟩,
            ⟨some 292,.cmp .eql (.tmp 291) (.cst (.d (.int .i64 0))),some (289,true)⟩,
            ⟨some 293,.pick (.tmp 289) (.tmp 292) (.cst (.d (.bool false))),none⟩,
            ⟨some 6,.mov (.tmp 293),none⟩])
           .ret))))))))))))))))))))⟩
theorem k3 (t : Tn) (q : Int) (l : List (Int × Int)) (hsg : t.sg.length ≤ 1048576) (hnz : t.nz.length ≤ 1048576) (hnt : t.nt.length ≤ 1048576) (hll : l.length ≤ 1048576) (hq : 0 ≤ q ∧ q ≤ 255) (hlb : ∀ p ∈ l, (0 ≤ p.1 ∧ p.1 ≤ 255) ∧ (0 ≤ p.2 ∧ p.2 ≤ 255)) :
  CallDet Try.prog 3 [.d t.d,.d (.int .u8 q),.d (.slice 2 (u8ps l))] [.bool true]:=by
 have c4_:=k4
 have hul:=u8ps_len l
 have hl3:=rws_len t.nz
 have h5:=k5 t hnz
 have h6:=k6 t
 refine call_of_vc (x:=jr3) (by kernel_rfl) rfl ?_
 by_cases hs:shortT t=true
 rotate_left
 ·have hs:shortT t=false:=by simpa using hs
  have c5_:CallDet Try.prog 5 [.d t.d] [.bool false]:=by rw [hs] at h5; exact h5
  refine Exists.intro _ (And.intro c4_ ?_)
  refine Exists.intro _ (And.intro c5_ ?_)
  refine And.intro rfl ?_
  refine And.intro rfl ?_
  refine And.intro rfl ?_
  refine And.intro rfl ?_
  refine Exists.intro _ (And.intro c4_ ?_)
  exact rfl
 have c5_:CallDet Try.prog 5 [.d t.d] [.bool true]:=by rw [hs] at h5; exact h5
 have hsh:(∀ r∈t.nz,(r.length:Int)≤9)∧(t.sg.length:Int)≤9∧(t.nz.length:Int)≤9∧(t.nt.length:Int)≤9:=by
  unfold shortT at hs
  simp only [Bool.and_eq_true,decide_eq_true_eq,List.all_eq_true] at hs
  exact hs
 by_cases hf:(t.sg.length:Int)≤4
 rotate_left
 ·have c6_:CallDet Try.prog 6 [.d t.d] [.bool false]:=by rw [decide_eq_false hf] at h6; exact h6
  refine Exists.intro _ (And.intro c4_ ?_)
  refine Exists.intro _ (And.intro c5_ ?_)
  refine Exists.intro _ (And.intro c6_ ?_)
  refine And.intro rfl ?_
  refine And.intro rfl ?_
  refine And.intro rfl ?_
  refine Exists.intro _ (And.intro c4_ ?_)
  exact rfl
 have c6_:CallDet Try.prog 6 [.d t.d] [.bool true]:=by rw [decide_eq_true hf] at h6; exact h6
 have h7:=k7 (t:=t) (by omega) (by omega) (fun r hr=>by have:=hsh.1 r hr; omega) (by omega)
 by_cases hk:tchk t=0
 rotate_left
 ·have c7_:=h7
  generalize tchk t=E at *
  refine Exists.intro _ (And.intro c4_ ?_)
  refine Exists.intro _ (And.intro c5_ ?_)
  refine Exists.intro _ (And.intro c6_ ?_)
  refine Exists.intro _ (And.intro c7_ ?_)
  refine And.intro rfl ?_
  refine brk_ne (fun t1=>?_) (fun t1=>?_)
  refine And.intro rfl ?_
  refine And.intro rfl ?_
  refine Exists.intro _ (And.intro c4_ ?_)
  exact rfl
  (exfalso; omega)
 have c7_:CallDet Try.prog 7 [.d t.d] [.int .i64 0]:=by rw [hk] at h7; exact h7
 have h:=ok_of (by omega) hk
 by_cases hll4:1≤l.length∧l.length≤4
 rotate_left
 ·refine Exists.intro _ (And.intro c4_ ?_)
  refine Exists.intro _ (And.intro c5_ ?_)
  refine Exists.intro _ (And.intro c6_ ?_)
  refine Exists.intro _ (And.intro c7_ ?_)
  refine And.intro rfl ?_
  refine And.intro rfl ?_
  refine brk_lt (fun t1=>?_) (fun t1=>?_)
  refine And.intro rfl ?_
  refine Exists.intro _ (And.intro c4_ ?_)
  exact rfl
  refine And.intro rfl ?_
  refine brk_lt (fun t2=>?_) (fun t2=>?_)
  refine Exists.intro _ (And.intro c4_ ?_)
  exact rfl
  (exfalso; omega)
 obtain ⟨hl1,hl4⟩:=hll4
 have hn1:=h.n1
 have hp1:=h.p1
 have hp8:=h.p8
 have wq:IntKind.i64.wrap q=q:=by rw [IntKind.wrap_i64]; omega
 have hP0:((rws t.nz).length:Int)≠0:=by omega
 have m1:0≤q % ((rws t.nz).length:Int):=Int.emod_nonneg _ hP0
 have m2:q % ((rws t.nz).length:Int) < ((rws t.nz).length:Int):=Int.emod_lt_of_pos _ (by omega)
 obtain ⟨pt,hpt⟩:∃ p:Nat,(p:Int)=q % ((rws t.nz).length:Int):=⟨(q % ((rws t.nz).length:Int)).toNat,by omega⟩
 have hptl:pt < t.nz.length:=by omega
 have w0:0≤IntKind.i64.wrap q:=by omega
 have wm:IntKind.i64.wrap q % ((rws t.nz).length:Int)=(pt:Int):=by rw [wq,hpt]
 have wm1:0≤IntKind.i64.wrap q % ((rws t.nz).length:Int):=by omega
 have wm2:IntKind.i64.wrap q % ((rws t.nz).length:Int) < ((rws t.nz).length:Int):=by omega
 have c9_:=k9 h
 have c8_:CallDet Try.prog 8 [.d t.d,.d (.int .i64 (IntKind.i64.wrap q % ((rws t.nz).length:Int)))] [.slice 1 (ints (allF t pt)),.int .i64 0]:=by rw [wm]; exact k8 h hptl
 have c10_:=k10 h
 have hbl:=allF_len t pt
 have hrl:=robT_len t t.nz.length
 have hbr:=all_rng (t:=t) pt
 have hrr:=rob_rng (t:=t) t.nz.length
 have c11_1:=k11 (allF t pt) (by omega) (by omega) hbr
 have c11_2:=k11 (robT t t.nz.length) (by omega) (by omega) hrr
 have hfr:∀ p,p < t.nz.length→fitF t p (robT t t.nz.length)=true:=fun p hp=>fit_rob h hp
 have hown:(cycTo t (allF t pt) t.nz.length)[pt]?=some true:=by rw [cycTo_at t _ hptl,fit_own]
 have hcl:=cycTo_len t (allF t pt) t.nz.length
 refine Exists.intro _ (And.intro c4_ ?_)
 refine Exists.intro _ (And.intro c5_ ?_)
 refine Exists.intro _ (And.intro c6_ ?_)
 refine Exists.intro _ (And.intro c7_ ?_)
 refine And.intro rfl ?_
 refine And.intro rfl ?_
 refine brk_lt (fun t1=>?_) (fun t1=>?_)
 (exfalso; omega)
 refine And.intro rfl ?_
 refine brk_lt (fun t2=>?_) (fun t2=>?_)
 (exfalso; omega)
 refine Exists.intro _ (And.intro c9_ ?_)
 refine Exists.intro _ (And.intro rfl ?_)
 refine ar_rem ?_ ?_
 refine And.intro ?_ ?_
 assumption
 (show (1:Int)≤(↑(List.length (rws (Tn.nz t))):Int); omega)
 refine Exists.intro _ (And.intro c8_ ?_)
 refine Exists.intro _ (And.intro c9_ ?_)
 refine Exists.intro _ (And.intro c10_ ?_)
 refine And.intro rfl ?_
 refine And.intro rfl ?_
 refine Exists.intro _ (And.intro c11_1 ?_)
 refine And.intro rfl ?_
 refine Exists.intro _ (And.intro c11_2 ?_)
 refine And.intro rfl ?_
 rotate_left
 refine v3a h hbl hbr hrl hrr hfr ?_
 generalize cycTo t (allF t pt) t.nz.length=c at *
 have hcb:=bls_len c
 have hc1:1≤c.length:=by omega
 have hc8:c.length≤8:=by omega
 have hci:(blsD c)[(IntKind.i64.wrap q % ((rws t.nz).length:Int)).toNat]?=some (.bool true):=by
  rw [wm]
  show (c.map Data.bool)[pt]?=_
  rw [List.getElem?_map,hown]; rfl
 have hcc:c.contains true=true:=by
  rw [List.contains_iff_mem]; exact List.mem_of_getElem? hown
 have wm3:IntKind.i64.wrap q % ((rws t.nz).length:Int) < ((blsD c).length:Int):=by omega
 refine Exists.intro _ (And.intro rfl ?_)
 refine ar_rem ?_ ?_
 refine And.intro ?_ ?_
 assumption
 (show (1:Int)≤(↑(List.length (rws (Tn.nz t))):Int); omega)
 refine And.intro ?_ ?_
 refine And.intro ?_ ?_
 exact rfl
 refine And.intro ?_ ?_
 exact rfl
 refine And.intro ?_ ?_
 assumption
 assumption
 refine And.intro rfl ?_
 refine Exists.intro _ (And.intro hci ?_)
 rotate_left
 refine v3b hl4 hlb ?_
 have hct:=count_le c
 have hnm:=nms_ok l hl4
 have hso:=stTo_ok l l.length
 have hsn:=stTo_len l l.length
 have hFb:frT (stTo l l.length)≤24:=by have:=frT_le l l.length; omega
 have hsl:=stns_len (stTo l l.length)
 generalize stTo l l.length=ss at *
 obtain ⟨W,hW⟩:∃ W,W=accGo c (2 * c.length) 0 ss:=⟨_,rfl⟩
 obtain ⟨O,hO⟩:∃ O,O=opnTo c 0 (2 * c.length):=⟨_,rfl⟩
 have hWl:W.length=2 * c.length:=by rw [hW]; exact acc_len c _ _ _
 have hOl:O.length=2 * c.count true:=by rw [hO]; exact opn_twice c
 have hWi:(ints W).length=W.length:=ints_len W
 have hOi:(ints O).length=O.length:=ints_len O
 have e15:accE ss c (2 * ((blsD c).length:Int))=0:=firstOf_none fun e he=>by
  simp only [List.mem_cons,List.not_mem_nil,or_false] at he
  rcases he with rfl | rfl | rfl | rfl
  ·exact hnm
  ·exact cyc_z hc1 hc8
  ·exact within_in (by omega)
  ·rw [hcc]; rfl
 have c15_:CallDet Try.prog 15 [.d (.slice 4 (stns ss)),.d (.slice 1 (blsD c)),.d (.int .i64 (2 * ((blsD c).length:Int)))] [.slice 1 (ints W),.int .i64 0]:=by
  have h2:=c59 ss c (2 * ((blsD c).length:Int)) (by omega)
  rw [e15,show accP ss c (2 * ((blsD c).length:Int))=W by
   unfold accP
   rw [e15,hW,show (2 * ((blsD c).length:Int)).toNat=2 * c.length by omega]; rfl] at h2
  exact h2
 have e16:opnE c 0 (2 * (c.count true:Int))=0:=firstOf_none fun e he=>by
  simp only [List.mem_cons,List.not_mem_nil,or_false] at he
  rcases he with rfl | rfl | rfl | rfl
  ·exact cyc_z hc1 hc8
  ·rfl
  ·exact within_in (by omega)
  ·rw [hcc]; rfl
 have c16_1:CallDet Try.prog 16 [.d (.slice 1 (blsD c)),.d (.int .i64 0),.d (.int .i64 (2 * (c.count true:Int)))] [.slice 1 (ints O),.int .i64 0]:=by
  have h2:=c58 c 0 (2 * (c.count true:Int)) (by omega)
  rw [e16,show opnP c 0 (2 * (c.count true:Int))=O by
   unfold opnP
   rw [e16,hO,show (2 * (c.count true:Int)).toNat=2 * c.count true by omega]
   exact opnF_is hcc (opn_twice c)] at h2
  exact h2
 have c16_2:CallDet Try.prog 16 [.d (.slice 1 [.bool false]),.d (.int .i64 0),.d (.int .i64 1)] [.slice 1 [],.int .i64 7]:=c58 [false] 0 1 (by decide)
 have hOm:(O.length:Int)=2 * (c.count true:Int):=by omega
 have hF:=frT_nn hso
 have hb1:(0+(blsD c).length) * 1≤2 ^ 47:=by omega
 have hb2:0+(blsD c).length≤2 ^ 47:=by omega
 have hF6:frT ss≤24:=hFb
 generalize c.count true=m at *
 refine And.intro rfl ?_
 refine ar_mul ?_ ?_
 refine And.intro ?_ ?_
 (show (-9223372036854775808:Int)≤(2:Int) * (↑(List.length (blsD c)):Int); omega)
 (show (2:Int) * (↑(List.length (blsD c)):Int)≤(9223372036854775807:Int); omega)
 refine And.intro rfl ?_
 refine And.intro rfl ?_
 refine And.intro rfl ?_
 refine And.intro ?_ ?_
 refine And.intro ?_ ?_
 exact rfl
 refine And.intro ?_ ?_
 exact rfl
 refine And.intro ?_ ?_
 exact rfl
 refine And.intro ?_ ?_
 assumption
 assumption
 refine And.intro rfl ?_
 refine And.intro rfl ?_
 refine Exists.intro _ (And.intro c15_ ?_)
 refine And.intro rfl ?_
 refine And.intro rfl ?_
 refine And.intro rfl ?_
 refine And.intro ?_ ?_
 refine And.intro ?_ ?_
 exact rfl
 refine And.intro ?_ ?_
 exact rfl
 refine And.intro ?_ ?_
 exact rfl
 refine And.intro ?_ ?_
 assumption
 assumption
 refine ar_mul ?_ ?_
 refine And.intro ?_ ?_
 (show (-9223372036854775808:Int)≤(2:Int) * (↑m:Int); omega)
 (show (2:Int) * (↑m:Int)≤(9223372036854775807:Int); omega)
 refine And.intro rfl ?_
 refine Exists.intro _ (And.intro c16_1 ?_)
 refine And.intro rfl ?_
 refine And.intro rfl ?_
 refine And.intro rfl ?_
 refine brk_ne (fun t3=>?_) (fun t3=>?_)
 (exfalso; omega)
 refine ar_mul ?_ ?_
 refine And.intro ?_ ?_
 (show (-9223372036854775808:Int)≤(2:Int) * (↑m:Int); omega)
 (show (2:Int) * (↑m:Int)≤(9223372036854775807:Int); omega)
 refine And.intro rfl ?_
 refine brk_ne (fun t4=>?_) (fun t4=>?_)
 (exfalso; omega)
 rotate_left
 refine v3c hso hc1 hc8 (by omega) hO hW ?_
 generalize frT ss=F at *
 refine And.intro ?_ ?_
 refine And.intro ?_ ?_
 (show (0:Int)≤(1:Int); omega)
 refine And.intro ?_ ?_
 (show (1:Int) * (↑(1:Nat):Int)≤(2:Int) ^ (47:Nat); omega)
 (show (1:Int)≤(2:Int) ^ (47:Nat); omega)
 refine And.intro rfl ?_
 refine Exists.intro _ (And.intro c16_2 ?_)
 refine And.intro rfl ?_
 refine brk_eq (fun t5=>?_) (fun t5=>?_)
 refine ar_mul ?_ ?_
 refine And.intro ?_ ?_
 (show (-9223372036854775808:Int)≤(2:Int) * (↑m:Int); omega)
 (show (2:Int) * (↑m:Int)≤(9223372036854775807:Int); omega)
 refine And.intro rfl ?_
 refine And.intro rfl ?_
 refine brk_eq (fun t6=>?_) (fun t6=>?_)
 refine And.intro rfl ?_
 refine And.intro rfl ?_
 exact rfl
 (exfalso; omega)
 (exfalso; omega)
end Vc
