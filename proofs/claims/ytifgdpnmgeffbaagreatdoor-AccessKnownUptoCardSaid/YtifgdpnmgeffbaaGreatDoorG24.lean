import Derived.Test.YtifgdpnmgeffbaaGreatDoorG23
import Derived.Test.YtifgdpnmgeffbaaGreatDoorG20
set_option linter.unusedSectionVars false
set_option linter.unusedVariables false
set_option linter.unusedSimpArgs false
set_option maxRecDepth 10000
set_option maxHeartbeats 4000000
namespace Vc
open Go Go.Proofs
def jr6:AFun:=⟨180,7,[.tmp 6],
 (.seq
 (.reg [0,1] [⟨some 3,.cbx 0 4 (.tmp 0),none⟩,
  ⟨some 5,.cbx 1 3 (.tmp 2),none⟩,
  ⟨some 6,.mov (.cst (.d (.bool false))),none⟩])
 (.seq
  (.seq
  (.reg [] [⟨some 22,.mov (.tmp 1),none⟩,
   ⟨some 23,.call 47 [(.tmp 22)],none⟩,
   ⟨some 24,.not (.tmp 23),none⟩,
   ⟨some 25,.mov (.tmp 24),none⟩,
   ⟨some 26,.fad 2 (.tmp 5),some (25,false)⟩,
   ⟨some 27,.ld false 1 (.tmp 26),some (25,false)⟩,
   ⟨some 28,.len (.tmp 27),some (25,false)⟩,
   ⟨some 29,.cmp .gtr (.tmp 28) (.cst (.d (.int .i64 20))),some (25,false)⟩,
   ⟨some 30,.mov (.tmp 29),some (25,false)⟩,
   ⟨some 31,.fad 2 (.tmp 5),some (30,true)⟩,
   ⟨some 32,.ld false 1 (.tmp 31),some (30,true)⟩,
   ⟨some 33,.len (.tmp 32),some (30,true)⟩,
   ⟨some 34,.cmp .neq (.tmp 33) (.cst (.d (.int .i64 257))),some (30,true)⟩,
   ⟨some 35,.pick (.tmp 30) (.tmp 34) (.cst (.d (.bool false))),some (25,false)⟩,
   ⟨some 36,.pick (.tmp 25) (.cst (.d (.bool true))) (.tmp 35),none⟩])
  (.cond (.tmp 36)
   (.seq
   (.reg [] [⟨some 37,.call 13 [],none⟩,
    ⟨some 6,.mov (.tmp 37),none⟩])
   .ret)
   .skip))
  (.seq
  (.regd [] [⟨some 39,.fad 0 (.tmp 3),none⟩,
   ⟨some 40,.ld false 1 (.tmp 39),none⟩,
   ⟨some 41,.fad 2 (.tmp 3),none⟩,
   ⟨some 42,.ld false 1 (.tmp 41),none⟩,
   ⟨some 43,.mov (.tmp 1),none⟩,
   ⟨some 44,.call 49 [(.tmp 43)],none⟩,
   ⟨some 45,.call 48 [(.tmp 40),(.tmp 42),(.tmp 44)],none⟩,
   ⟨some 38,.mov (.tmp 45),none⟩,
   ⟨some 46,.ext 0 (.tmp 38),none⟩,
   ⟨some 47,.ext 1 (.tmp 38),none⟩,
   ⟨some 7,.mov (.tmp 46),none⟩,
   ⟨some 8,.mov (.tmp 47),none⟩] [(0,2),(1,2),(0,3),(1,3),(0,4),(1,4),(2,4),(3,4),(0,5),(1,5),(2,5),(3,5),(8,9),(9,10)])
  (.seq
   (.regd [] [⟨some 49,.fad 0 (.tmp 3),none⟩,
    ⟨some 50,.ld false 1 (.tmp 49),none⟩,
    ⟨some 51,.fad 2 (.tmp 3),none⟩,
    ⟨some 52,.ld false 1 (.tmp 51),none⟩,
    ⟨some 53,.mov (.tmp 1),none⟩,
    ⟨some 54,.call 49 [(.tmp 53)],none⟩,
    ⟨some 55,.fad 3 (.tmp 3),none⟩,
    ⟨some 56,.ld false 1 (.tmp 55),none⟩,
    ⟨some 57,.call 50 [(.tmp 50),(.tmp 52),(.tmp 54),(.tmp 56)],none⟩,
    ⟨some 48,.mov (.tmp 57),none⟩,
    ⟨some 58,.ext 0 (.tmp 48),none⟩,
    ⟨some 59,.ext 1 (.tmp 48),none⟩,
    ⟨some 9,.mov (.tmp 58),none⟩,
    ⟨some 10,.mov (.tmp 59),none⟩] [(0,2),(1,2),(0,3),(1,3),(0,4),(1,4),(2,4),(3,4),(0,5),(1,5),(2,5),(3,5),(0,6),(1,6),(2,6),(3,6),(4,6),(5,6),(0,7),(1,7),(2,7),(3,7),(4,7),(5,7),(10,11),(11,12)])
   (.seq
   (.regd [2] [⟨some 61,.fad 0 (.tmp 5),none⟩,
    ⟨some 62,.ld true 2 (.tmp 61),none⟩,
    ⟨some 63,.fad 2 (.tmp 5),none⟩,
    ⟨some 64,.ld false 1 (.tmp 63),none⟩,
    ⟨some 65,.call 52 [(.tmp 64)],none⟩,
    ⟨some 66,.call 51 [(.tmp 62),(.tmp 65)],none⟩,
    ⟨some 60,.mov (.tmp 66),none⟩,
    ⟨some 67,.ext 0 (.tmp 60),none⟩,
    ⟨some 68,.ext 1 (.tmp 60),none⟩,
    ⟨some 11,.alloc 2 [(.d (.int .i64 0)),(.d (.int .i64 0))],none⟩,
    ⟨none,.st 2 (.tmp 11) (.tmp 67),none⟩,
    ⟨some 12,.mov (.tmp 68),none⟩] [(0,2),(1,2),(0,3),(1,3),(0,4),(1,4),(7,8),(0,9),(1,9),(2,9),(3,9),(4,9),(5,9),(6,9),(7,9),(8,9),(8,10)])
   (.seq
    (.regd [] [⟨some 70,.fad 0 (.tmp 5),none⟩,
     ⟨some 71,.ld true 2 (.tmp 70),none⟩,
     ⟨some 72,.fad 2 (.tmp 5),none⟩,
     ⟨some 73,.ld false 1 (.tmp 72),none⟩,
     ⟨some 74,.call 52 [(.tmp 73)],none⟩,
     ⟨some 75,.call 53 [(.tmp 71),(.tmp 74)],none⟩,
     ⟨some 69,.mov (.tmp 75),none⟩,
     ⟨some 76,.ext 0 (.tmp 69),none⟩,
     ⟨some 77,.ext 1 (.tmp 69),none⟩,
     ⟨some 13,.mov (.tmp 76),none⟩,
     ⟨some 14,.mov (.tmp 77),none⟩] [(0,2),(1,2),(0,3),(1,3),(0,4),(1,4),(7,8),(8,9)])
    (.seq
    (.regd [3] [⟨some 78,.fad 0 (.tmp 3),none⟩,
     ⟨some 79,.ld false 1 (.tmp 78),none⟩,
     ⟨some 80,.call 40 [(.tmp 79)],none⟩,
     ⟨some 81,.fad 2 (.tmp 3),none⟩,
     ⟨some 82,.ld false 1 (.tmp 81),none⟩,
     ⟨some 83,.call 54 [(.tmp 82)],none⟩,
     ⟨some 84,.bsl 3 3 1 2 [(.int .i64 0),(.int .i64 0)] [(0,(.tmp 80)),(1,(.tmp 83))],none⟩,
     ⟨some 85,.call 19 [(.tmp 84)],none⟩,
     ⟨some 15,.mov (.tmp 85),none⟩] [(0,3),(1,3),(2,3),(0,4),(1,4),(2,4)])
    (.seq
     (.seq
     (.reg [] [⟨some 86,.mov (.tmp 15),none⟩,
      ⟨some 87,.cmp .eql (.tmp 86) (.cst (.d (.int .i64 0))),none⟩])
     (.cond (.tmp 87)
      (.reg [] [⟨some 88,.fad 0 (.tmp 3),none⟩,
       ⟨some 89,.ld false 1 (.tmp 88),none⟩,
       ⟨some 90,.mov (.tmp 1),none⟩,
       ⟨some 91,.call 55 [(.tmp 89),(.tmp 90)],none⟩,
       ⟨some 15,.mov (.tmp 91),none⟩])
      .skip))
     (.seq
     (.regd [4,5] [⟨some 92,.mov (.tmp 15),none⟩,
      ⟨some 93,.fad 3 (.tmp 3),none⟩,
      ⟨some 94,.ld false 1 (.tmp 93),none⟩,
      ⟨some 95,.call 56 [(.tmp 94)],none⟩,
      ⟨some 96,.bsl 4 3 1 2 [(.int .i64 0),(.int .i64 0)] [(0,(.tmp 92)),(1,(.tmp 95))],none⟩,
      ⟨some 97,.call 19 [(.tmp 96)],none⟩,
      ⟨some 98,.fad 0 (.tmp 5),none⟩,
      ⟨some 99,.ld true 2 (.tmp 98),none⟩,
      ⟨some 100,.call 57 [(.tmp 99)],none⟩,
      ⟨some 101,.fad 2 (.tmp 5),none⟩,
      ⟨some 102,.ld false 1 (.tmp 101),none⟩,
      ⟨some 103,.call 58 [(.tmp 102)],none⟩,
      ⟨some 104,.bsl 5 3 1 2 [(.int .i64 0),(.int .i64 0)] [(0,(.tmp 100)),(1,(.tmp 103))],none⟩,
      ⟨some 105,.call 19 [(.tmp 104)],none⟩,
      ⟨some 16,.mov (.tmp 97),none⟩,
      ⟨some 17,.mov (.tmp 105),none⟩] [(0,1),(0,2),(0,3),(0,6),(1,6),(2,6),(3,6),(4,6),(5,6),(0,7),(1,7),(2,7),(3,7),(4,7),(5,7),(0,9),(1,9),(2,9),(3,9),(4,9),(5,9),(6,9),(7,9),(8,9),(0,10),(1,10),(2,10),(3,10),(4,10),(5,10),(6,10),(7,10),(8,10)])
     (.seq
      (.reg [] [⟨some 18,.mov (.cst (.nils 2)),none⟩])
      (.seq
      (.reg [6] [⟨some 19,.alloc 6 [(.d (.int .i64 0)),(.d (.int .i64 0))],none⟩])
      (.seq
       (.reg [] [⟨some 20,.mov (.cst (.d (.bool false))),none⟩])
       (.seq
       (.reg [] [⟨some 21,.mov (.cst (.d (.int .i64 0))),none⟩])
       (.seq
        (.seq
        (.reg [] [⟨some 106,.mov (.tmp 15),none⟩,
         ⟨some 107,.cmp .eql (.tmp 106) (.cst (.d (.int .i64 0))),none⟩])
        (.cond (.tmp 107)
         (.reg [] [⟨some 109,.fad 0 (.tmp 3),none⟩,
          ⟨some 110,.ld false 1 (.tmp 109),none⟩,
          ⟨some 111,.fad 2 (.tmp 3),none⟩,
          ⟨some 112,.ld false 1 (.tmp 111),none⟩,
          ⟨some 113,.mov (.tmp 1),none⟩,
          ⟨some 114,.call 59 [(.tmp 110),(.tmp 112),(.tmp 113)],none⟩,
          ⟨some 108,.mov (.tmp 114),none⟩,
          ⟨some 115,.ext 0 (.tmp 108),none⟩,
          ⟨some 116,.ext 1 (.tmp 108),none⟩,
          ⟨some 18,.mov (.tmp 115),none⟩,
          ⟨some 15,.mov (.tmp 116),none⟩])
         .skip))
        (.seq
        (.seq
         (.reg [] [⟨some 117,.mov (.tmp 16),none⟩,
          ⟨some 118,.cmp .eql (.tmp 117) (.cst (.d (.int .i64 0))),none⟩])
         (.cond (.tmp 118)
         (.reg [] [⟨some 120,.fad 0 (.tmp 3),none⟩,
          ⟨some 121,.ld false 1 (.tmp 120),none⟩,
          ⟨some 122,.fad 2 (.tmp 3),none⟩,
          ⟨some 123,.ld false 1 (.tmp 122),none⟩,
          ⟨some 124,.mov (.tmp 1),none⟩,
          ⟨some 125,.fad 3 (.tmp 3),none⟩,
          ⟨some 126,.ld false 1 (.tmp 125),none⟩,
          ⟨some 127,.call 60 [(.tmp 121),(.tmp 123),(.tmp 124),(.tmp 126)],none⟩,
          ⟨some 119,.mov (.tmp 127),none⟩,
          ⟨some 128,.ext 0 (.tmp 119),none⟩,
          ⟨some 129,.ext 1 (.tmp 119),none⟩,
          ⟨some 20,.mov (.tmp 128),none⟩,
          ⟨some 16,.mov (.tmp 129),none⟩])
         .skip))
        (.seq
         (.seq
         (.reg [] [⟨some 130,.mov (.tmp 17),none⟩,
          ⟨some 131,.cmp .eql (.tmp 130) (.cst (.d (.int .i64 0))),none⟩])
         (.cond (.tmp 131)
          (.seq
          (.reg [] [⟨some 132,.fad 0 (.tmp 5),none⟩,
           ⟨some 133,.ld true 2 (.tmp 132),none⟩,
           ⟨some 134,.fad 2 (.tmp 5),none⟩,
           ⟨some 135,.ld false 1 (.tmp 134),none⟩,
           ⟨some 136,.call 61 [(.tmp 133),(.tmp 135)],none⟩,
           ⟨none,.st 2 (.tmp 19) (.tmp 136),none⟩])
          (.reg [] [⟨some 137,.ld true 2 (.tmp 19),none⟩,
           ⟨some 138,.call 62 [(.tmp 137)],none⟩,
           ⟨some 21,.mov (.tmp 138),none⟩]))
          .skip))
         (.seq
         (.reg [] [⟨some 139,.mov (.tmp 7),none⟩,
          ⟨some 140,.mov (.tmp 18),none⟩,
          ⟨some 141,.call 63 [(.tmp 139),(.tmp 140)],none⟩,
          ⟨some 142,.mov (.tmp 141),none⟩,
          ⟨some 143,.mov (.tmp 8),some (142,true)⟩,
          ⟨some 144,.mov (.tmp 15),some (142,true)⟩,
          ⟨some 145,.cmp .eql (.tmp 143) (.tmp 144),some (142,true)⟩,
          ⟨some 146,.pick (.tmp 142) (.tmp 145) (.cst (.d (.bool false))),none⟩,
          ⟨some 147,.mov (.tmp 146),none⟩,
          ⟨some 148,.mov (.tmp 9),some (147,true)⟩,
          ⟨some 149,.mov (.tmp 20),some (147,true)⟩,
          ⟨some 150,.beq false (.tmp 148) (.tmp 149),some (147,true)⟩,
          ⟨some 151,.pick (.tmp 147) (.tmp 150) (.cst (.d (.bool false))),none⟩,
          ⟨some 152,.mov (.tmp 151),none⟩,
          ⟨some 153,.mov (.tmp 10),some (152,true)⟩,
          ⟨some 154,.mov (.tmp 16),some (152,true)⟩,
          ⟨some 155,.cmp .eql (.tmp 153) (.tmp 154),some (152,true)⟩,
          ⟨some 156,.pick (.tmp 152) (.tmp 155) (.cst (.d (.bool false))),none⟩,
          ⟨some 157,.mov (.tmp 156),none⟩,
          ⟨some 158,.ld true 2 (.tmp 11),some (157,true)⟩,
          ⟨some 159,.ld true 2 (.tmp 19),some (157,true)⟩,
          ⟨some 160,.aeq false [0,0] (.tmp 158) (.tmp 159),some (157,true)⟩,
          ⟨some 161,.pick (.tmp 157) (.tmp 160) (.cst (.d (.bool false))),none⟩,
          ⟨some 162,.mov (.tmp 161),none⟩,
          ⟨some 163,.mov (.tmp 12),some (162,true)⟩,
          ⟨some 164,.mov (.tmp 17),some (162,true)⟩,
          ⟨some 165,.cmp .eql (.tmp 163) (.tmp 164),some (162,true)⟩,
          ⟨some 166,.pick (.tmp 162) (.tmp 165) (.cst (.d (.bool false))),none⟩,
          ⟨some 167,.mov (.tmp 166),none⟩,
          ⟨some 168,.mov (.tmp 13),some (167,true)⟩,
          ⟨some 169,.mov (.tmp 21),some (167,true)⟩,
          ⟨some 170,.cmp .eql (.tmp 168) (.tmp 169),some (167,true)⟩,
          ⟨some 171,.pick (.tmp 167) (.tmp 170) (.cst (.d (.bool false))),none⟩,
          ⟨some 172,.mov (.tmp 171),none⟩,
          ⟨some 173,.mov (.tmp 14),some (172,true)⟩,
          ⟨some 174,.mov (.tmp 17),some (172,true)⟩,
          ⟨some 175,.cmp .eql (.tmp 173) (.tmp 174),some (172,true)⟩,
          ⟨some 176,.pick (.tmp 172) (.tmp 175) (.cst (.d (.bool false))),none⟩,
          ⟨some 177,.mov (.tmp 176),none⟩,
          ⟨some 178,.call 13 [],some (177,true)⟩,
          ⟨some 179,.pick (.tmp 177) (.tmp 178) (.cst (.d (.bool false))),none⟩,
          ⟨some 6,.mov (.tmp 179),none⟩])
         .ret)))))))))))))))))⟩
def hdV (h w:Int) (l:List An) (i:Int):Bool:=bif fndA h w l then !(kivs h w l).any (narrow i) else false
theorem c60 (h w:Int) (l:List An) (i:Int) (hh:1≤h∧h≤5) (hw:1≤w∧w≤7) (hl:l.length≤1048576) (hq:∀ x∈l,x.set.length≤1048576∧∀ i∈x.set,0≤i∧i < h):CallDet Tryz.prog 60 [.d (.int .i64 h),.d (.int .i64 w),.d (.slice 2 (ans l)),.d (.int .i64 i)] [.bool (hdV h w l i),.int .i64 (knX h w l)]:=by
 have c59_:=c59 h w l hh hw hl hq
 refine call_of_vc (x:=jr60) (by kernel_rfl) rfl ?_
 have hr:=kivs_rng (h:=h) (l:=l) hw
 have hkl:=kivs_len h w l
 unfold knX knV at c59_
 unfold hdV knX
 generalize kivs h w l=K at *
 cases hf:fndA h w l
 ·rw [hf] at c59_
  have c59_:=c59_
  refine ca c59_ ?_
  refine sd ?_
  exact rfl
 ·rw [hf] at c59_
  have c59_:CallDet Tryz.prog 59 [.d (.int .i64 h),.d (.int .i64 w),.d (.slice 2 (ans l))] [.slice 2 (ivs K),.int .i64 0]:=c59_
  have hlK:=ivs_len K
  refine ca c59_ ?_
  refine sd ?_
  rotate_left
  refine loop_st (fun k:Nat=>⟨[(3,.d (.int .i64 i)),(10,.d (.slice 2 (ivs K))),(12,.d (.int .i64 k))],[]⟩) (fun k=>k≤K.length∧K.any (narrow i)=(K.drop k).any (narrow i)) (fun k=>K.length - k) 0 rfl ⟨Nat.zero_le _,rfl⟩ ?_
  rintro k ⟨hk,hi⟩
  dsimp only
  by_cases hkn:k < K.length
  ·refine Exists.elim (get_lt K hkn) fun x hx=>?_
   have hx1:=ivs_at hx
   have hx2:=hr x (List.mem_of_getElem? hx)
   rw [drop_at hx,List.any_cons] at hi
   have fin:narrow i x=false→∃ a':Nat,((a'≤K.length∧K.any (narrow i)=(K.drop a').any (narrow i))∧K.length - a' < K.length - k)∧(⟨[(3,.d (.int .i64 i)),(10,.d (.slice 2 (ivs K))),(12,.d (.int .i64 ((k:Int)+1)))],[]⟩:St)=⟨[(3,.d (.int .i64 i)),(10,.d (.slice 2 (ivs K))),(12,.d (.int .i64 (a':Nat)))],[]⟩:=fun e =>
    ⟨k+1,⟨⟨by omega,by rw [hi,e]; rfl⟩,by omega⟩,rfl⟩
   refine sd ?_
   refine b_lt (fun t1=>?_) (fun t1=>?_)
   refine ix_at hx1 ?_ ?_
   (show (0:Int)≤(↑k:Int); omega)
   refine ix_at hx1 ?_ ?_
   (show (0:Int)≤(↑k:Int); omega)
   refine ar_sub ?_ ?_
   refine an ?_ ?_
   (show (-9223372036854775808:Int)≤Prod.snd x - Prod.fst x; omega)
   (show Prod.snd x - Prod.fst x≤(9223372036854775807:Int); omega)
   refine sd ?_
   refine b_lt (fun t2=>?_) (fun t2=>?_)
   rotate_left
   refine ar_add ?_ ?_
   refine an ?_ ?_
   (show (-9223372036854775808:Int)≤(↑k:Int)+(1:Int); omega)
   (show (↑k:Int)+(1:Int)≤(9223372036854775807:Int); omega)
   rotate_left
   (exfalso; omega)
   ·show resV [.bool false,.int .i64 0]=resV [.bool (!K.any (narrow i)),.int .i64 0]
    rw [hi,show narrow i x=true from decide_eq_true (by omega)]; rfl
   ·exact fin (decide_eq_false (by omega))
  ·have e:K.drop k=[]:=List.drop_eq_nil_of_le (by omega)
   rw [e] at hi
   have hi:K.any (narrow i)=false:=hi
   rw [hi]
   refine sd ?_
   refine b_lt (fun t1=>?_) (fun t1=>?_)
   (exfalso; omega)
   exact rfl
   all_goals rfl
theorem law6a (h m3 w i : Int) (l : List An) (f : Int × Int) (ms : List (Int × Int)) (hl : l.length ≤ 1048576) (hq : ∀ x ∈ l, x.set.length ≤ 1048576) (hm : ms.length ≤ 1048576) (he : ansE h w l = 0) (hd : hdA h w l i = 0) :
  CallDet Tryz.prog 6 [.d (.agg [.int .i64 h,.int .i64 m3,.int .i64 w,.int .i64 i]),.d (.slice 2 (ans l)),.d (.agg [.int .i64 f.1,.int .i64 f.2,.slice 2 (ivs ms)])] [.bool true]:=by
 have hlen:=ans_len l
 have hlm:=ivs_len ms
 have c47_:=c47 l hl
 have c49_:=c49 l hl hq
 have c48_:=c48 h w l hl hq
 have c50_:=c50 h w l i hl hq
 have c52_:=c52 ms hm
 have c51_:=c51 f ms hm
 have c53_:=c53 f ms hm
 have c40_:=c40 h
 have c54_:=c54 w
 have c56_:=c56 i
 have c57_:=c57 f
 have c58_:=c58 ms hm
 have c55_:=c55 h l hl hq
 have c19_o:CallDet Tryz.prog 19 [.d (.slice 1 [.int .i64 (within3 h 1 5),.int .i64 (within3 w 1 7)])] [.int .i64 (firstOf [within3 h 1 5,within3 w 1 7])]:=c19 [within3 h 1 5,within3 w 1 7] (by simp)
 have c19_t:CallDet Tryz.prog 19 [.d (.slice 1 [.int .i64 (ansE h w l),.int .i64 (within3 i 0 7)])] [.int .i64 (hdA h w l i)]:=c19 [ansE h w l,within3 i 0 7] (by simp)
 have c19_m:CallDet Tryz.prog 19 [.d (.slice 1 [.int .i64 (cI f),.int .i64 (metE ms)])] [.int .i64 (balE f ms)]:=by rw [balE_eq]; exact c19 [cI f,metE ms] (by simp)
 have c63_z:CallDet Tryz.prog 63 [.d (.slice 2 []),.d (.slice 2 [])] [.bool true]:=c63 [] (by simp)
 have hER:=ansE_ref h w l
 have hok:=fun e:ansE h w l=0=>ans_ok e
 have c61_f:=fun e:balE f ms=0=>c61 f ms (bal_ok e).2.1 (bal_ok e).1 (bal_ok e).2.2
 have c62_:=c62 (balG ms f)
 have hkv:(knV h w l).length≤1048576∨¬ (1≤h∧h≤5):=by
  by_cases hh:1≤h∧h≤5
  ·left
   unfold knV
   cases fndA h w l
   ·exact Nat.zero_le _
   ·show (kivs h w l).length≤1048576
    rw [kivs_len]; omega
  ·exact .inr hh
 have c59_f:=fun (hh:1≤h∧h≤5) (hw:1≤w∧w≤7) (hb:∀ x∈l,x.set.length≤1048576∧∀ i∈x.set,0≤i∧i < h)=>c59 h w l hh hw hl hb
 have c60_f:=fun (hh:1≤h∧h≤5) (hw:1≤w∧w≤7) (hb:∀ x∈l,x.set.length≤1048576∧∀ i∈x.set,0≤i∧i < h)=>c60 h w l i hh hw hl hb
 have hHE:hdA h w l i≠0→hdE h w l i=hdA h w l i∧hdB h w l i=false:=fun e=>by unfold hdE hdB; rw [bne_iff_ne.2 e]; exact ⟨rfl,rfl⟩
 have hHZ:hdA h w l i=0→hdE h w l i=knX h w l∧hdB h w l i=hdV h w l i:=fun e=>by unfold hdE hdB hdV; rw [e]; exact ⟨rfl,rfl⟩
 have hKE:ansE h w l≠0→knE h w l=ansE h w l∧knL h w l=[]:=fun e=>by unfold knE knL; rw [bne_iff_ne.2 e]; exact ⟨rfl,rfl⟩
 have hKZ:ansE h w l=0→knE h w l=knX h w l∧knL h w l=knV h w l:=fun e=>by unfold knE knL; rw [e]; exact ⟨rfl,rfl⟩
 have hBV:balE f ms≠0→balV f ms=(0,0):=fun e=>by unfold balV; rw [bne_iff_ne.2 e]; rfl
 have hBZ:balE f ms=0→balV f ms=balG ms f:=fun e=>by unfold balV; rw [e]; rfl
 have hHA:ansE h w l≠0→hdA h w l i=ansE h w l:=fun e=>by unfold hdA; show (bif ansE h w l != 0 then ansE h w l else _)=_; rw [bne_iff_ne.2 e]; rfl
 have x1:(knX h w l==knX h w l)=true:=beq_self_eq_true _
 have x2:(hdV h w l i==hdV h w l i)=true:=beq_self_eq_true _
 have x3:(verd (balG ms f)==verd (balG ms f))=true:=beq_self_eq_true _
 have x4:((balG ms f).1==(balG ms f).1&&((balG ms f).2==(balG ms f).2&&true))=true:=by rw [beq_self_eq_true,beq_self_eq_true]; rfl
 have x5:(balE f ms==balE f ms)=true:=beq_self_eq_true _
 have x6:(hdA h w l i==hdA h w l i)=true:=beq_self_eq_true _
 have x7:(ansE h w l==ansE h w l)=true:=beq_self_eq_true _
 generalize firstOf [within3 h 1 5,within3 w 1 7]=o1 at *
 generalize shortA l=sh at *
 have ho:=hok he
 have hqr:∀ x∈l,x.set.length≤1048576∧∀ i∈x.set,0≤i∧i < h:=fun x hx=>⟨hq x hx,(ho.2.2.2 x hx).1⟩
 have c59_:=c59_f ho.1 ho.2.1 hqr
 have c60_:=c60_f ho.1 ho.2.1 hqr
 have hkv:(knV h w l).length≤1048576:=hkv.resolve_right fun t=>t ho.1
 have c63_:=c63 (knV h w l) hkv
 rw [(hKZ he).1,(hKZ he).2] at c48_
 have ho1:o1=0:=by
  by_cases h1:o1=0
  ·exact h1
  ·rw [hER,bne_iff_ne.2 h1] at he; exact absurd he h1
 have hR:ansE h w l=ansR h l:=by rw [hER,ho1]; rfl
 have z1:(o1==0)=true:=beq_iff_eq.2 ho1
 have z2:(ansR h l==0)=true:=beq_iff_eq.2 (hR.symm.trans he)
 rw [hR] at c19_t
 clear hER hok hKE hKZ hHA c59_f c60_f
 have z3:(hdA h w l i==0)=true:=beq_iff_eq.2 hd
 rw [(hHZ hd).1,(hHZ hd).2] at c50_
 clear hHE hHZ
 by_cases hb:balE f ms=0
 ·have y1:(balE f ms==0)=true:=beq_iff_eq.2 hb
  have c61_:=c61_f hb
  rw [hBZ hb] at c51_
  rw [show (balE f ms != 0)=false by rw [hb]; rfl] at c53_
  refine call_of_vc (x:=jr6) (by kernel_rfl) rfl ?_
  refine ca c47_ ?_
  refine b_intro (fun t1=>?_) (fun t1=>?_)
  refine sd ?_
  refine ca (c13) ?_
  exact rfl
  refine sd ?_
  refine b_lt (fun t2=>?_) (fun t2=>?_)
  refine sd ?_
  refine b_ne (fun t3=>?_) (fun t3=>?_)
  refine ca (c13) ?_
  exact rfl
  refine ca c49_ ?_
  refine ca c48_ ?_
  refine ca c49_ ?_
  refine ca c50_ ?_
  refine ca c52_ ?_
  refine ca c51_ ?_
  refine ca c52_ ?_
  refine ca c53_ ?_
  refine ca c40_ ?_
  refine ca c54_ ?_
  refine sd ?_
  refine sd ?_
  refine ca c19_o ?_
  refine sd ?_
  refine b_t z1 ?_
  refine ca c55_ ?_
  refine ca c56_ ?_
  refine sd ?_
  refine sd ?_
  refine ca c19_t ?_
  refine ca c57_ ?_
  refine ca c58_ ?_
  refine sd ?_
  refine sd ?_
  refine ca c19_m ?_
  refine sd ?_
  refine b_t z2 ?_
  refine ca c59_ ?_
  refine sd ?_
  refine b_t z3 ?_
  refine ca c60_ ?_
  refine sd ?_
  refine b_t y1 ?_
  refine ca c61_ ?_
  refine ca c62_ ?_
  refine ca c63_ ?_
  refine sd ?_
  refine b_t x1 ?_
  refine b_t x2 ?_
  refine sd ?_
  refine b_t x1 ?_
  refine ca (Exists.intro _ (And.intro rfl rfl)) ?_
  refine b_t x4 ?_
  refine sd ?_
  refine b_t x5 ?_
  refine sd ?_
  refine b_t x3 ?_
  refine sd ?_
  refine b_t x5 ?_
  refine ca (c13) ?_
  exact rfl
  refine sd ?_
  refine ca c49_ ?_
  refine ca c48_ ?_
  refine ca c49_ ?_
  refine ca c50_ ?_
  refine ca c52_ ?_
  refine ca c51_ ?_
  refine ca c52_ ?_
  refine ca c53_ ?_
  refine ca c40_ ?_
  refine ca c54_ ?_
  refine sd ?_
  refine sd ?_
  refine ca c19_o ?_
  refine sd ?_
  refine b_t z1 ?_
  refine ca c55_ ?_
  refine ca c56_ ?_
  refine sd ?_
  refine sd ?_
  refine ca c19_t ?_
  refine ca c57_ ?_
  refine ca c58_ ?_
  refine sd ?_
  refine sd ?_
  refine ca c19_m ?_
  refine sd ?_
  refine b_t z2 ?_
  refine ca c59_ ?_
  refine sd ?_
  refine b_t z3 ?_
  refine ca c60_ ?_
  refine sd ?_
  refine b_t y1 ?_
  refine ca c61_ ?_
  refine ca c62_ ?_
  refine ca c63_ ?_
  refine sd ?_
  refine b_t x1 ?_
  refine b_t x2 ?_
  refine sd ?_
  refine b_t x1 ?_
  refine ca (Exists.intro _ (And.intro rfl rfl)) ?_
  refine b_t x4 ?_
  refine sd ?_
  refine b_t x5 ?_
  refine sd ?_
  refine b_t x3 ?_
  refine sd ?_
  refine b_t x5 ?_
  refine ca (c13) ?_
  exact rfl
 ·have y1:(balE f ms==0)=false:=beq_eq_false_iff_ne.2 hb
  rw [hBV hb] at c51_
  rw [show (balE f ms != 0)=true from bne_iff_ne.2 hb] at c53_
  refine call_of_vc (x:=jr6) (by kernel_rfl) rfl ?_
  refine ca c47_ ?_
  refine b_intro (fun t1=>?_) (fun t1=>?_)
  refine sd ?_
  refine ca (c13) ?_
  exact rfl
  refine sd ?_
  refine b_lt (fun t2=>?_) (fun t2=>?_)
  refine sd ?_
  refine b_ne (fun t3=>?_) (fun t3=>?_)
  refine ca (c13) ?_
  exact rfl
  refine ca c49_ ?_
  refine ca c48_ ?_
  refine ca c49_ ?_
  refine ca c50_ ?_
  refine ca c52_ ?_
  refine ca c51_ ?_
  refine ca c52_ ?_
  refine ca c53_ ?_
  refine ca c40_ ?_
  refine ca c54_ ?_
  refine sd ?_
  refine sd ?_
  refine ca c19_o ?_
  refine sd ?_
  refine b_t z1 ?_
  refine ca c55_ ?_
  refine ca c56_ ?_
  refine sd ?_
  refine sd ?_
  refine ca c19_t ?_
  refine ca c57_ ?_
  refine ca c58_ ?_
  refine sd ?_
  refine sd ?_
  refine ca c19_m ?_
  refine sd ?_
  refine b_t z2 ?_
  refine ca c59_ ?_
  refine sd ?_
  refine b_t z3 ?_
  refine ca c60_ ?_
  refine sd ?_
  refine b_f y1 ?_
  refine ca c63_ ?_
  refine sd ?_
  refine b_t x1 ?_
  refine b_t x2 ?_
  refine sd ?_
  refine b_t x1 ?_
  refine ca (Exists.intro _ (And.intro rfl rfl)) ?_
  refine sd ?_
  refine b_t x5 ?_
  refine sd ?_
  refine sd ?_
  refine b_t x5 ?_
  refine ca (c13) ?_
  exact rfl
  refine sd ?_
  refine ca c49_ ?_
  refine ca c48_ ?_
  refine ca c49_ ?_
  refine ca c50_ ?_
  refine ca c52_ ?_
  refine ca c51_ ?_
  refine ca c52_ ?_
  refine ca c53_ ?_
  refine ca c40_ ?_
  refine ca c54_ ?_
  refine sd ?_
  refine sd ?_
  refine ca c19_o ?_
  refine sd ?_
  refine b_t z1 ?_
  refine ca c55_ ?_
  refine ca c56_ ?_
  refine sd ?_
  refine sd ?_
  refine ca c19_t ?_
  refine ca c57_ ?_
  refine ca c58_ ?_
  refine sd ?_
  refine sd ?_
  refine ca c19_m ?_
  refine sd ?_
  refine b_t z2 ?_
  refine ca c59_ ?_
  refine sd ?_
  refine b_t z3 ?_
  refine ca c60_ ?_
  refine sd ?_
  refine b_f y1 ?_
  refine ca c63_ ?_
  refine sd ?_
  refine b_t x1 ?_
  refine b_t x2 ?_
  refine sd ?_
  refine b_t x1 ?_
  refine ca (Exists.intro _ (And.intro rfl rfl)) ?_
  refine sd ?_
  refine b_t x5 ?_
  refine sd ?_
  refine sd ?_
  refine b_t x5 ?_
  refine ca (c13) ?_
  exact rfl
theorem law6b (h m3 w i : Int) (l : List An) (f : Int × Int) (ms : List (Int × Int)) (hl : l.length ≤ 1048576) (hq : ∀ x ∈ l, x.set.length ≤ 1048576) (hm : ms.length ≤ 1048576) (he : ansE h w l = 0) (hd : ¬ hdA h w l i = 0) :
  CallDet Tryz.prog 6 [.d (.agg [.int .i64 h,.int .i64 m3,.int .i64 w,.int .i64 i]),.d (.slice 2 (ans l)),.d (.agg [.int .i64 f.1,.int .i64 f.2,.slice 2 (ivs ms)])] [.bool true]:=by
 have hlen:=ans_len l
 have hlm:=ivs_len ms
 have c47_:=c47 l hl
 have c49_:=c49 l hl hq
 have c48_:=c48 h w l hl hq
 have c50_:=c50 h w l i hl hq
 have c52_:=c52 ms hm
 have c51_:=c51 f ms hm
 have c53_:=c53 f ms hm
 have c40_:=c40 h
 have c54_:=c54 w
 have c56_:=c56 i
 have c57_:=c57 f
 have c58_:=c58 ms hm
 have c55_:=c55 h l hl hq
 have c19_o:CallDet Tryz.prog 19 [.d (.slice 1 [.int .i64 (within3 h 1 5),.int .i64 (within3 w 1 7)])] [.int .i64 (firstOf [within3 h 1 5,within3 w 1 7])]:=c19 [within3 h 1 5,within3 w 1 7] (by simp)
 have c19_t:CallDet Tryz.prog 19 [.d (.slice 1 [.int .i64 (ansE h w l),.int .i64 (within3 i 0 7)])] [.int .i64 (hdA h w l i)]:=c19 [ansE h w l,within3 i 0 7] (by simp)
 have c19_m:CallDet Tryz.prog 19 [.d (.slice 1 [.int .i64 (cI f),.int .i64 (metE ms)])] [.int .i64 (balE f ms)]:=by rw [balE_eq]; exact c19 [cI f,metE ms] (by simp)
 have c63_z:CallDet Tryz.prog 63 [.d (.slice 2 []),.d (.slice 2 [])] [.bool true]:=c63 [] (by simp)
 have hER:=ansE_ref h w l
 have hok:=fun e:ansE h w l=0=>ans_ok e
 have c61_f:=fun e:balE f ms=0=>c61 f ms (bal_ok e).2.1 (bal_ok e).1 (bal_ok e).2.2
 have c62_:=c62 (balG ms f)
 have hkv:(knV h w l).length≤1048576∨¬ (1≤h∧h≤5):=by
  by_cases hh:1≤h∧h≤5
  ·left
   unfold knV
   cases fndA h w l
   ·exact Nat.zero_le _
   ·show (kivs h w l).length≤1048576
    rw [kivs_len]; omega
  ·exact .inr hh
 have c59_f:=fun (hh:1≤h∧h≤5) (hw:1≤w∧w≤7) (hb:∀ x∈l,x.set.length≤1048576∧∀ i∈x.set,0≤i∧i < h)=>c59 h w l hh hw hl hb
 have c60_f:=fun (hh:1≤h∧h≤5) (hw:1≤w∧w≤7) (hb:∀ x∈l,x.set.length≤1048576∧∀ i∈x.set,0≤i∧i < h)=>c60 h w l i hh hw hl hb
 have hHE:hdA h w l i≠0→hdE h w l i=hdA h w l i∧hdB h w l i=false:=fun e=>by unfold hdE hdB; rw [bne_iff_ne.2 e]; exact ⟨rfl,rfl⟩
 have hHZ:hdA h w l i=0→hdE h w l i=knX h w l∧hdB h w l i=hdV h w l i:=fun e=>by unfold hdE hdB hdV; rw [e]; exact ⟨rfl,rfl⟩
 have hKE:ansE h w l≠0→knE h w l=ansE h w l∧knL h w l=[]:=fun e=>by unfold knE knL; rw [bne_iff_ne.2 e]; exact ⟨rfl,rfl⟩
 have hKZ:ansE h w l=0→knE h w l=knX h w l∧knL h w l=knV h w l:=fun e=>by unfold knE knL; rw [e]; exact ⟨rfl,rfl⟩
 have hBV:balE f ms≠0→balV f ms=(0,0):=fun e=>by unfold balV; rw [bne_iff_ne.2 e]; rfl
 have hBZ:balE f ms=0→balV f ms=balG ms f:=fun e=>by unfold balV; rw [e]; rfl
 have hHA:ansE h w l≠0→hdA h w l i=ansE h w l:=fun e=>by unfold hdA; show (bif ansE h w l != 0 then ansE h w l else _)=_; rw [bne_iff_ne.2 e]; rfl
 have x1:(knX h w l==knX h w l)=true:=beq_self_eq_true _
 have x2:(hdV h w l i==hdV h w l i)=true:=beq_self_eq_true _
 have x3:(verd (balG ms f)==verd (balG ms f))=true:=beq_self_eq_true _
 have x4:((balG ms f).1==(balG ms f).1&&((balG ms f).2==(balG ms f).2&&true))=true:=by rw [beq_self_eq_true,beq_self_eq_true]; rfl
 have x5:(balE f ms==balE f ms)=true:=beq_self_eq_true _
 have x6:(hdA h w l i==hdA h w l i)=true:=beq_self_eq_true _
 have x7:(ansE h w l==ansE h w l)=true:=beq_self_eq_true _
 generalize firstOf [within3 h 1 5,within3 w 1 7]=o1 at *
 generalize shortA l=sh at *
 have ho:=hok he
 have hqr:∀ x∈l,x.set.length≤1048576∧∀ i∈x.set,0≤i∧i < h:=fun x hx=>⟨hq x hx,(ho.2.2.2 x hx).1⟩
 have c59_:=c59_f ho.1 ho.2.1 hqr
 have c60_:=c60_f ho.1 ho.2.1 hqr
 have hkv:(knV h w l).length≤1048576:=hkv.resolve_right fun t=>t ho.1
 have c63_:=c63 (knV h w l) hkv
 rw [(hKZ he).1,(hKZ he).2] at c48_
 have ho1:o1=0:=by
  by_cases h1:o1=0
  ·exact h1
  ·rw [hER,bne_iff_ne.2 h1] at he; exact absurd he h1
 have hR:ansE h w l=ansR h l:=by rw [hER,ho1]; rfl
 have z1:(o1==0)=true:=beq_iff_eq.2 ho1
 have z2:(ansR h l==0)=true:=beq_iff_eq.2 (hR.symm.trans he)
 rw [hR] at c19_t
 clear hER hok hKE hKZ hHA c59_f c60_f
 have z3:(hdA h w l i==0)=false:=beq_eq_false_iff_ne.2 hd
 rw [(hHE hd).1,(hHE hd).2] at c50_
 clear hHE hHZ
 by_cases hb:balE f ms=0
 ·have y1:(balE f ms==0)=true:=beq_iff_eq.2 hb
  have c61_:=c61_f hb
  rw [hBZ hb] at c51_
  rw [show (balE f ms != 0)=false by rw [hb]; rfl] at c53_
  refine call_of_vc (x:=jr6) (by kernel_rfl) rfl ?_
  refine ca c47_ ?_
  refine b_intro (fun t1=>?_) (fun t1=>?_)
  refine sd ?_
  refine ca (c13) ?_
  exact rfl
  refine sd ?_
  refine b_lt (fun t2=>?_) (fun t2=>?_)
  refine sd ?_
  refine b_ne (fun t3=>?_) (fun t3=>?_)
  refine ca (c13) ?_
  exact rfl
  refine ca c49_ ?_
  refine ca c48_ ?_
  refine ca c49_ ?_
  refine ca c50_ ?_
  refine ca c52_ ?_
  refine ca c51_ ?_
  refine ca c52_ ?_
  refine ca c53_ ?_
  refine ca c40_ ?_
  refine ca c54_ ?_
  refine sd ?_
  refine sd ?_
  refine ca c19_o ?_
  refine sd ?_
  refine b_t z1 ?_
  refine ca c55_ ?_
  refine ca c56_ ?_
  refine sd ?_
  refine sd ?_
  refine ca c19_t ?_
  refine ca c57_ ?_
  refine ca c58_ ?_
  refine sd ?_
  refine sd ?_
  refine ca c19_m ?_
  refine sd ?_
  refine b_t z2 ?_
  refine ca c59_ ?_
  refine sd ?_
  refine b_f z3 ?_
  refine sd ?_
  refine b_t y1 ?_
  refine ca c61_ ?_
  refine ca c62_ ?_
  refine ca c63_ ?_
  refine sd ?_
  refine b_t x1 ?_
  refine sd ?_
  refine b_t x6 ?_
  refine ca (Exists.intro _ (And.intro rfl rfl)) ?_
  refine b_t x4 ?_
  refine sd ?_
  refine b_t x5 ?_
  refine sd ?_
  refine b_t x3 ?_
  refine sd ?_
  refine b_t x5 ?_
  refine ca (c13) ?_
  exact rfl
  refine sd ?_
  refine ca c49_ ?_
  refine ca c48_ ?_
  refine ca c49_ ?_
  refine ca c50_ ?_
  refine ca c52_ ?_
  refine ca c51_ ?_
  refine ca c52_ ?_
  refine ca c53_ ?_
  refine ca c40_ ?_
  refine ca c54_ ?_
  refine sd ?_
  refine sd ?_
  refine ca c19_o ?_
  refine sd ?_
  refine b_t z1 ?_
  refine ca c55_ ?_
  refine ca c56_ ?_
  refine sd ?_
  refine sd ?_
  refine ca c19_t ?_
  refine ca c57_ ?_
  refine ca c58_ ?_
  refine sd ?_
  refine sd ?_
  refine ca c19_m ?_
  refine sd ?_
  refine b_t z2 ?_
  refine ca c59_ ?_
  refine sd ?_
  refine b_f z3 ?_
  refine sd ?_
  refine b_t y1 ?_
  refine ca c61_ ?_
  refine ca c62_ ?_
  refine ca c63_ ?_
  refine sd ?_
  refine b_t x1 ?_
  refine sd ?_
  refine b_t x6 ?_
  refine ca (Exists.intro _ (And.intro rfl rfl)) ?_
  refine b_t x4 ?_
  refine sd ?_
  refine b_t x5 ?_
  refine sd ?_
  refine b_t x3 ?_
  refine sd ?_
  refine b_t x5 ?_
  refine ca (c13) ?_
  exact rfl
 ·have y1:(balE f ms==0)=false:=beq_eq_false_iff_ne.2 hb
  rw [hBV hb] at c51_
  rw [show (balE f ms != 0)=true from bne_iff_ne.2 hb] at c53_
  refine call_of_vc (x:=jr6) (by kernel_rfl) rfl ?_
  refine ca c47_ ?_
  refine b_intro (fun t1=>?_) (fun t1=>?_)
  refine sd ?_
  refine ca (c13) ?_
  exact rfl
  refine sd ?_
  refine b_lt (fun t2=>?_) (fun t2=>?_)
  refine sd ?_
  refine b_ne (fun t3=>?_) (fun t3=>?_)
  refine ca (c13) ?_
  exact rfl
  refine ca c49_ ?_
  refine ca c48_ ?_
  refine ca c49_ ?_
  refine ca c50_ ?_
  refine ca c52_ ?_
  refine ca c51_ ?_
  refine ca c52_ ?_
  refine ca c53_ ?_
  refine ca c40_ ?_
  refine ca c54_ ?_
  refine sd ?_
  refine sd ?_
  refine ca c19_o ?_
  refine sd ?_
  refine b_t z1 ?_
  refine ca c55_ ?_
  refine ca c56_ ?_
  refine sd ?_
  refine sd ?_
  refine ca c19_t ?_
  refine ca c57_ ?_
  refine ca c58_ ?_
  refine sd ?_
  refine sd ?_
  refine ca c19_m ?_
  refine sd ?_
  refine b_t z2 ?_
  refine ca c59_ ?_
  refine sd ?_
  refine b_f z3 ?_
  refine sd ?_
  refine b_f y1 ?_
  refine ca c63_ ?_
  refine sd ?_
  refine b_t x1 ?_
  refine sd ?_
  refine b_t x6 ?_
  refine ca (Exists.intro _ (And.intro rfl rfl)) ?_
  refine sd ?_
  refine b_t x5 ?_
  refine sd ?_
  refine sd ?_
  refine b_t x5 ?_
  refine ca (c13) ?_
  exact rfl
  refine sd ?_
  refine ca c49_ ?_
  refine ca c48_ ?_
  refine ca c49_ ?_
  refine ca c50_ ?_
  refine ca c52_ ?_
  refine ca c51_ ?_
  refine ca c52_ ?_
  refine ca c53_ ?_
  refine ca c40_ ?_
  refine ca c54_ ?_
  refine sd ?_
  refine sd ?_
  refine ca c19_o ?_
  refine sd ?_
  refine b_t z1 ?_
  refine ca c55_ ?_
  refine ca c56_ ?_
  refine sd ?_
  refine sd ?_
  refine ca c19_t ?_
  refine ca c57_ ?_
  refine ca c58_ ?_
  refine sd ?_
  refine sd ?_
  refine ca c19_m ?_
  refine sd ?_
  refine b_t z2 ?_
  refine ca c59_ ?_
  refine sd ?_
  refine b_f z3 ?_
  refine sd ?_
  refine b_f y1 ?_
  refine ca c63_ ?_
  refine sd ?_
  refine b_t x1 ?_
  refine sd ?_
  refine b_t x6 ?_
  refine ca (Exists.intro _ (And.intro rfl rfl)) ?_
  refine sd ?_
  refine b_t x5 ?_
  refine sd ?_
  refine sd ?_
  refine b_t x5 ?_
  refine ca (c13) ?_
  exact rfl
theorem law6c (h m3 w i : Int) (l : List An) (f : Int × Int) (ms : List (Int × Int)) (hl : l.length ≤ 1048576) (hq : ∀ x ∈ l, x.set.length ≤ 1048576) (hm : ms.length ≤ 1048576) (he : ¬ ansE h w l = 0) (ho1 : firstOf [within3 h 1 5, within3 w 1 7] = 0) :
  CallDet Tryz.prog 6 [.d (.agg [.int .i64 h,.int .i64 m3,.int .i64 w,.int .i64 i]),.d (.slice 2 (ans l)),.d (.agg [.int .i64 f.1,.int .i64 f.2,.slice 2 (ivs ms)])] [.bool true]:=by
 have hlen:=ans_len l
 have hlm:=ivs_len ms
 have c47_:=c47 l hl
 have c49_:=c49 l hl hq
 have c48_:=c48 h w l hl hq
 have c50_:=c50 h w l i hl hq
 have c52_:=c52 ms hm
 have c51_:=c51 f ms hm
 have c53_:=c53 f ms hm
 have c40_:=c40 h
 have c54_:=c54 w
 have c56_:=c56 i
 have c57_:=c57 f
 have c58_:=c58 ms hm
 have c55_:=c55 h l hl hq
 have c19_o:CallDet Tryz.prog 19 [.d (.slice 1 [.int .i64 (within3 h 1 5),.int .i64 (within3 w 1 7)])] [.int .i64 (firstOf [within3 h 1 5,within3 w 1 7])]:=c19 [within3 h 1 5,within3 w 1 7] (by simp)
 have c19_t:CallDet Tryz.prog 19 [.d (.slice 1 [.int .i64 (ansE h w l),.int .i64 (within3 i 0 7)])] [.int .i64 (hdA h w l i)]:=c19 [ansE h w l,within3 i 0 7] (by simp)
 have c19_m:CallDet Tryz.prog 19 [.d (.slice 1 [.int .i64 (cI f),.int .i64 (metE ms)])] [.int .i64 (balE f ms)]:=by rw [balE_eq]; exact c19 [cI f,metE ms] (by simp)
 have c63_z:CallDet Tryz.prog 63 [.d (.slice 2 []),.d (.slice 2 [])] [.bool true]:=c63 [] (by simp)
 have hER:=ansE_ref h w l
 have hok:=fun e:ansE h w l=0=>ans_ok e
 have c61_f:=fun e:balE f ms=0=>c61 f ms (bal_ok e).2.1 (bal_ok e).1 (bal_ok e).2.2
 have c62_:=c62 (balG ms f)
 have hkv:(knV h w l).length≤1048576∨¬ (1≤h∧h≤5):=by
  by_cases hh:1≤h∧h≤5
  ·left
   unfold knV
   cases fndA h w l
   ·exact Nat.zero_le _
   ·show (kivs h w l).length≤1048576
    rw [kivs_len]; omega
  ·exact .inr hh
 have c59_f:=fun (hh:1≤h∧h≤5) (hw:1≤w∧w≤7) (hb:∀ x∈l,x.set.length≤1048576∧∀ i∈x.set,0≤i∧i < h)=>c59 h w l hh hw hl hb
 have c60_f:=fun (hh:1≤h∧h≤5) (hw:1≤w∧w≤7) (hb:∀ x∈l,x.set.length≤1048576∧∀ i∈x.set,0≤i∧i < h)=>c60 h w l i hh hw hl hb
 have hHE:hdA h w l i≠0→hdE h w l i=hdA h w l i∧hdB h w l i=false:=fun e=>by unfold hdE hdB; rw [bne_iff_ne.2 e]; exact ⟨rfl,rfl⟩
 have hHZ:hdA h w l i=0→hdE h w l i=knX h w l∧hdB h w l i=hdV h w l i:=fun e=>by unfold hdE hdB hdV; rw [e]; exact ⟨rfl,rfl⟩
 have hKE:ansE h w l≠0→knE h w l=ansE h w l∧knL h w l=[]:=fun e=>by unfold knE knL; rw [bne_iff_ne.2 e]; exact ⟨rfl,rfl⟩
 have hKZ:ansE h w l=0→knE h w l=knX h w l∧knL h w l=knV h w l:=fun e=>by unfold knE knL; rw [e]; exact ⟨rfl,rfl⟩
 have hBV:balE f ms≠0→balV f ms=(0,0):=fun e=>by unfold balV; rw [bne_iff_ne.2 e]; rfl
 have hBZ:balE f ms=0→balV f ms=balG ms f:=fun e=>by unfold balV; rw [e]; rfl
 have hHA:ansE h w l≠0→hdA h w l i=ansE h w l:=fun e=>by unfold hdA; show (bif ansE h w l != 0 then ansE h w l else _)=_; rw [bne_iff_ne.2 e]; rfl
 have x1:(knX h w l==knX h w l)=true:=beq_self_eq_true _
 have x2:(hdV h w l i==hdV h w l i)=true:=beq_self_eq_true _
 have x3:(verd (balG ms f)==verd (balG ms f))=true:=beq_self_eq_true _
 have x4:((balG ms f).1==(balG ms f).1&&((balG ms f).2==(balG ms f).2&&true))=true:=by rw [beq_self_eq_true,beq_self_eq_true]; rfl
 have x5:(balE f ms==balE f ms)=true:=beq_self_eq_true _
 have x6:(hdA h w l i==hdA h w l i)=true:=beq_self_eq_true _
 have x7:(ansE h w l==ansE h w l)=true:=beq_self_eq_true _
 generalize firstOf [within3 h 1 5,within3 w 1 7]=o1 at *
 generalize shortA l=sh at *
 have hd:hdA h w l i≠0:=by rw [hHA he]; exact he
 have z3:(hdA h w l i==0)=false:=beq_eq_false_iff_ne.2 hd
 rw [(hHE hd).1,(hHE hd).2] at c50_
 rw [(hKE he).1,(hKE he).2] at c48_
 clear hok hKE hKZ hHE hHZ hHA c59_f c60_f hkv
 have z1:(o1==0)=true:=beq_iff_eq.2 ho1
 have hR:ansE h w l=ansR h l:=by rw [hER,ho1]; rfl
 have z2:(ansR h l==0)=false:=beq_eq_false_iff_ne.2 (by rw [← hR]; exact he)
 rw [hR] at c19_t c48_ x7
 clear hER
 by_cases hb:balE f ms=0
 ·have y1:(balE f ms==0)=true:=beq_iff_eq.2 hb
  have c61_:=c61_f hb
  rw [hBZ hb] at c51_
  rw [show (balE f ms != 0)=false by rw [hb]; rfl] at c53_
  refine call_of_vc (x:=jr6) (by kernel_rfl) rfl ?_
  refine ca c47_ ?_
  refine b_intro (fun t1=>?_) (fun t1=>?_)
  refine sd ?_
  refine ca (c13) ?_
  exact rfl
  refine sd ?_
  refine b_lt (fun t2=>?_) (fun t2=>?_)
  refine sd ?_
  refine b_ne (fun t3=>?_) (fun t3=>?_)
  refine ca (c13) ?_
  exact rfl
  refine ca c49_ ?_
  refine ca c48_ ?_
  refine ca c49_ ?_
  refine ca c50_ ?_
  refine ca c52_ ?_
  refine ca c51_ ?_
  refine ca c52_ ?_
  refine ca c53_ ?_
  refine ca c40_ ?_
  refine ca c54_ ?_
  refine sd ?_
  refine sd ?_
  refine ca c19_o ?_
  refine sd ?_
  refine b_t z1 ?_
  refine ca c55_ ?_
  refine ca c56_ ?_
  refine sd ?_
  refine sd ?_
  refine ca c19_t ?_
  refine ca c57_ ?_
  refine ca c58_ ?_
  refine sd ?_
  refine sd ?_
  refine ca c19_m ?_
  refine sd ?_
  refine b_f z2 ?_
  refine sd ?_
  refine b_f z3 ?_
  refine sd ?_
  refine b_t y1 ?_
  refine ca c61_ ?_
  refine ca c62_ ?_
  refine ca c63_z ?_
  refine sd ?_
  refine b_t x7 ?_
  refine sd ?_
  refine b_t x6 ?_
  refine ca (Exists.intro _ (And.intro rfl rfl)) ?_
  refine b_t x4 ?_
  refine sd ?_
  refine b_t x5 ?_
  refine sd ?_
  refine b_t x3 ?_
  refine sd ?_
  refine b_t x5 ?_
  refine ca (c13) ?_
  exact rfl
  refine sd ?_
  refine ca c49_ ?_
  refine ca c48_ ?_
  refine ca c49_ ?_
  refine ca c50_ ?_
  refine ca c52_ ?_
  refine ca c51_ ?_
  refine ca c52_ ?_
  refine ca c53_ ?_
  refine ca c40_ ?_
  refine ca c54_ ?_
  refine sd ?_
  refine sd ?_
  refine ca c19_o ?_
  refine sd ?_
  refine b_t z1 ?_
  refine ca c55_ ?_
  refine ca c56_ ?_
  refine sd ?_
  refine sd ?_
  refine ca c19_t ?_
  refine ca c57_ ?_
  refine ca c58_ ?_
  refine sd ?_
  refine sd ?_
  refine ca c19_m ?_
  refine sd ?_
  refine b_f z2 ?_
  refine sd ?_
  refine b_f z3 ?_
  refine sd ?_
  refine b_t y1 ?_
  refine ca c61_ ?_
  refine ca c62_ ?_
  refine ca c63_z ?_
  refine sd ?_
  refine b_t x7 ?_
  refine sd ?_
  refine b_t x6 ?_
  refine ca (Exists.intro _ (And.intro rfl rfl)) ?_
  refine b_t x4 ?_
  refine sd ?_
  refine b_t x5 ?_
  refine sd ?_
  refine b_t x3 ?_
  refine sd ?_
  refine b_t x5 ?_
  refine ca (c13) ?_
  exact rfl
 ·have y1:(balE f ms==0)=false:=beq_eq_false_iff_ne.2 hb
  rw [hBV hb] at c51_
  rw [show (balE f ms != 0)=true from bne_iff_ne.2 hb] at c53_
  refine call_of_vc (x:=jr6) (by kernel_rfl) rfl ?_
  refine ca c47_ ?_
  refine b_intro (fun t1=>?_) (fun t1=>?_)
  refine sd ?_
  refine ca (c13) ?_
  exact rfl
  refine sd ?_
  refine b_lt (fun t2=>?_) (fun t2=>?_)
  refine sd ?_
  refine b_ne (fun t3=>?_) (fun t3=>?_)
  refine ca (c13) ?_
  exact rfl
  refine ca c49_ ?_
  refine ca c48_ ?_
  refine ca c49_ ?_
  refine ca c50_ ?_
  refine ca c52_ ?_
  refine ca c51_ ?_
  refine ca c52_ ?_
  refine ca c53_ ?_
  refine ca c40_ ?_
  refine ca c54_ ?_
  refine sd ?_
  refine sd ?_
  refine ca c19_o ?_
  refine sd ?_
  refine b_t z1 ?_
  refine ca c55_ ?_
  refine ca c56_ ?_
  refine sd ?_
  refine sd ?_
  refine ca c19_t ?_
  refine ca c57_ ?_
  refine ca c58_ ?_
  refine sd ?_
  refine sd ?_
  refine ca c19_m ?_
  refine sd ?_
  refine b_f z2 ?_
  refine sd ?_
  refine b_f z3 ?_
  refine sd ?_
  refine b_f y1 ?_
  refine ca c63_z ?_
  refine sd ?_
  refine b_t x7 ?_
  refine sd ?_
  refine b_t x6 ?_
  refine ca (Exists.intro _ (And.intro rfl rfl)) ?_
  refine sd ?_
  refine b_t x5 ?_
  refine sd ?_
  refine sd ?_
  refine b_t x5 ?_
  refine ca (c13) ?_
  exact rfl
  refine sd ?_
  refine ca c49_ ?_
  refine ca c48_ ?_
  refine ca c49_ ?_
  refine ca c50_ ?_
  refine ca c52_ ?_
  refine ca c51_ ?_
  refine ca c52_ ?_
  refine ca c53_ ?_
  refine ca c40_ ?_
  refine ca c54_ ?_
  refine sd ?_
  refine sd ?_
  refine ca c19_o ?_
  refine sd ?_
  refine b_t z1 ?_
  refine ca c55_ ?_
  refine ca c56_ ?_
  refine sd ?_
  refine sd ?_
  refine ca c19_t ?_
  refine ca c57_ ?_
  refine ca c58_ ?_
  refine sd ?_
  refine sd ?_
  refine ca c19_m ?_
  refine sd ?_
  refine b_f z2 ?_
  refine sd ?_
  refine b_f z3 ?_
  refine sd ?_
  refine b_f y1 ?_
  refine ca c63_z ?_
  refine sd ?_
  refine b_t x7 ?_
  refine sd ?_
  refine b_t x6 ?_
  refine ca (Exists.intro _ (And.intro rfl rfl)) ?_
  refine sd ?_
  refine b_t x5 ?_
  refine sd ?_
  refine sd ?_
  refine b_t x5 ?_
  refine ca (c13) ?_
  exact rfl
theorem law6d (h m3 w i : Int) (l : List An) (f : Int × Int) (ms : List (Int × Int)) (hl : l.length ≤ 1048576) (hq : ∀ x ∈ l, x.set.length ≤ 1048576) (hm : ms.length ≤ 1048576) (he : ¬ ansE h w l = 0) (ho1 : ¬ firstOf [within3 h 1 5, within3 w 1 7] = 0) :
  CallDet Tryz.prog 6 [.d (.agg [.int .i64 h,.int .i64 m3,.int .i64 w,.int .i64 i]),.d (.slice 2 (ans l)),.d (.agg [.int .i64 f.1,.int .i64 f.2,.slice 2 (ivs ms)])] [.bool true]:=by
 have hlen:=ans_len l
 have hlm:=ivs_len ms
 have c47_:=c47 l hl
 have c49_:=c49 l hl hq
 have c48_:=c48 h w l hl hq
 have c50_:=c50 h w l i hl hq
 have c52_:=c52 ms hm
 have c51_:=c51 f ms hm
 have c53_:=c53 f ms hm
 have c40_:=c40 h
 have c54_:=c54 w
 have c56_:=c56 i
 have c57_:=c57 f
 have c58_:=c58 ms hm
 have c55_:=c55 h l hl hq
 have c19_o:CallDet Tryz.prog 19 [.d (.slice 1 [.int .i64 (within3 h 1 5),.int .i64 (within3 w 1 7)])] [.int .i64 (firstOf [within3 h 1 5,within3 w 1 7])]:=c19 [within3 h 1 5,within3 w 1 7] (by simp)
 have c19_t:CallDet Tryz.prog 19 [.d (.slice 1 [.int .i64 (ansE h w l),.int .i64 (within3 i 0 7)])] [.int .i64 (hdA h w l i)]:=c19 [ansE h w l,within3 i 0 7] (by simp)
 have c19_m:CallDet Tryz.prog 19 [.d (.slice 1 [.int .i64 (cI f),.int .i64 (metE ms)])] [.int .i64 (balE f ms)]:=by rw [balE_eq]; exact c19 [cI f,metE ms] (by simp)
 have c63_z:CallDet Tryz.prog 63 [.d (.slice 2 []),.d (.slice 2 [])] [.bool true]:=c63 [] (by simp)
 have hER:=ansE_ref h w l
 have hok:=fun e:ansE h w l=0=>ans_ok e
 have c61_f:=fun e:balE f ms=0=>c61 f ms (bal_ok e).2.1 (bal_ok e).1 (bal_ok e).2.2
 have c62_:=c62 (balG ms f)
 have hkv:(knV h w l).length≤1048576∨¬ (1≤h∧h≤5):=by
  by_cases hh:1≤h∧h≤5
  ·left
   unfold knV
   cases fndA h w l
   ·exact Nat.zero_le _
   ·show (kivs h w l).length≤1048576
    rw [kivs_len]; omega
  ·exact .inr hh
 have c59_f:=fun (hh:1≤h∧h≤5) (hw:1≤w∧w≤7) (hb:∀ x∈l,x.set.length≤1048576∧∀ i∈x.set,0≤i∧i < h)=>c59 h w l hh hw hl hb
 have c60_f:=fun (hh:1≤h∧h≤5) (hw:1≤w∧w≤7) (hb:∀ x∈l,x.set.length≤1048576∧∀ i∈x.set,0≤i∧i < h)=>c60 h w l i hh hw hl hb
 have hHE:hdA h w l i≠0→hdE h w l i=hdA h w l i∧hdB h w l i=false:=fun e=>by unfold hdE hdB; rw [bne_iff_ne.2 e]; exact ⟨rfl,rfl⟩
 have hHZ:hdA h w l i=0→hdE h w l i=knX h w l∧hdB h w l i=hdV h w l i:=fun e=>by unfold hdE hdB hdV; rw [e]; exact ⟨rfl,rfl⟩
 have hKE:ansE h w l≠0→knE h w l=ansE h w l∧knL h w l=[]:=fun e=>by unfold knE knL; rw [bne_iff_ne.2 e]; exact ⟨rfl,rfl⟩
 have hKZ:ansE h w l=0→knE h w l=knX h w l∧knL h w l=knV h w l:=fun e=>by unfold knE knL; rw [e]; exact ⟨rfl,rfl⟩
 have hBV:balE f ms≠0→balV f ms=(0,0):=fun e=>by unfold balV; rw [bne_iff_ne.2 e]; rfl
 have hBZ:balE f ms=0→balV f ms=balG ms f:=fun e=>by unfold balV; rw [e]; rfl
 have hHA:ansE h w l≠0→hdA h w l i=ansE h w l:=fun e=>by unfold hdA; show (bif ansE h w l != 0 then ansE h w l else _)=_; rw [bne_iff_ne.2 e]; rfl
 have x1:(knX h w l==knX h w l)=true:=beq_self_eq_true _
 have x2:(hdV h w l i==hdV h w l i)=true:=beq_self_eq_true _
 have x3:(verd (balG ms f)==verd (balG ms f))=true:=beq_self_eq_true _
 have x4:((balG ms f).1==(balG ms f).1&&((balG ms f).2==(balG ms f).2&&true))=true:=by rw [beq_self_eq_true,beq_self_eq_true]; rfl
 have x5:(balE f ms==balE f ms)=true:=beq_self_eq_true _
 have x6:(hdA h w l i==hdA h w l i)=true:=beq_self_eq_true _
 have x7:(ansE h w l==ansE h w l)=true:=beq_self_eq_true _
 generalize firstOf [within3 h 1 5,within3 w 1 7]=o1 at *
 generalize shortA l=sh at *
 have hd:hdA h w l i≠0:=by rw [hHA he]; exact he
 have z3:(hdA h w l i==0)=false:=beq_eq_false_iff_ne.2 hd
 rw [(hHE hd).1,(hHE hd).2] at c50_
 rw [(hKE he).1,(hKE he).2] at c48_
 clear hok hKE hKZ hHE hHZ hHA c59_f c60_f hkv
 have z1:(o1==0)=false:=beq_eq_false_iff_ne.2 ho1
 have hR:ansE h w l=o1:=by rw [hER,bne_iff_ne.2 ho1]; rfl
 rw [hR] at c19_t c48_ x7
 clear hER
 by_cases hb:balE f ms=0
 ·have y1:(balE f ms==0)=true:=beq_iff_eq.2 hb
  have c61_:=c61_f hb
  rw [hBZ hb] at c51_
  rw [show (balE f ms != 0)=false by rw [hb]; rfl] at c53_
  refine call_of_vc (x:=jr6) (by kernel_rfl) rfl ?_
  refine ca c47_ ?_
  refine b_intro (fun t1=>?_) (fun t1=>?_)
  refine sd ?_
  refine ca (c13) ?_
  exact rfl
  refine sd ?_
  refine b_lt (fun t2=>?_) (fun t2=>?_)
  refine sd ?_
  refine b_ne (fun t3=>?_) (fun t3=>?_)
  refine ca (c13) ?_
  exact rfl
  refine ca c49_ ?_
  refine ca c48_ ?_
  refine ca c49_ ?_
  refine ca c50_ ?_
  refine ca c52_ ?_
  refine ca c51_ ?_
  refine ca c52_ ?_
  refine ca c53_ ?_
  refine ca c40_ ?_
  refine ca c54_ ?_
  refine sd ?_
  refine sd ?_
  refine ca c19_o ?_
  refine sd ?_
  refine b_f z1 ?_
  refine ca c56_ ?_
  refine sd ?_
  refine sd ?_
  refine ca c19_t ?_
  refine ca c57_ ?_
  refine ca c58_ ?_
  refine sd ?_
  refine sd ?_
  refine ca c19_m ?_
  refine sd ?_
  refine b_f z1 ?_
  refine sd ?_
  refine b_f z3 ?_
  refine sd ?_
  refine b_t y1 ?_
  refine ca c61_ ?_
  refine ca c62_ ?_
  refine ca c63_z ?_
  refine sd ?_
  refine b_t x7 ?_
  refine sd ?_
  refine b_t x6 ?_
  refine ca (Exists.intro _ (And.intro rfl rfl)) ?_
  refine b_t x4 ?_
  refine sd ?_
  refine b_t x5 ?_
  refine sd ?_
  refine b_t x3 ?_
  refine sd ?_
  refine b_t x5 ?_
  refine ca (c13) ?_
  exact rfl
  refine sd ?_
  refine ca c49_ ?_
  refine ca c48_ ?_
  refine ca c49_ ?_
  refine ca c50_ ?_
  refine ca c52_ ?_
  refine ca c51_ ?_
  refine ca c52_ ?_
  refine ca c53_ ?_
  refine ca c40_ ?_
  refine ca c54_ ?_
  refine sd ?_
  refine sd ?_
  refine ca c19_o ?_
  refine sd ?_
  refine b_f z1 ?_
  refine ca c56_ ?_
  refine sd ?_
  refine sd ?_
  refine ca c19_t ?_
  refine ca c57_ ?_
  refine ca c58_ ?_
  refine sd ?_
  refine sd ?_
  refine ca c19_m ?_
  refine sd ?_
  refine b_f z1 ?_
  refine sd ?_
  refine b_f z3 ?_
  refine sd ?_
  refine b_t y1 ?_
  refine ca c61_ ?_
  refine ca c62_ ?_
  refine ca c63_z ?_
  refine sd ?_
  refine b_t x7 ?_
  refine sd ?_
  refine b_t x6 ?_
  refine ca (Exists.intro _ (And.intro rfl rfl)) ?_
  refine b_t x4 ?_
  refine sd ?_
  refine b_t x5 ?_
  refine sd ?_
  refine b_t x3 ?_
  refine sd ?_
  refine b_t x5 ?_
  refine ca (c13) ?_
  exact rfl
 ·have y1:(balE f ms==0)=false:=beq_eq_false_iff_ne.2 hb
  rw [hBV hb] at c51_
  rw [show (balE f ms != 0)=true from bne_iff_ne.2 hb] at c53_
  refine call_of_vc (x:=jr6) (by kernel_rfl) rfl ?_
  refine ca c47_ ?_
  refine b_intro (fun t1=>?_) (fun t1=>?_)
  refine sd ?_
  refine ca (c13) ?_
  exact rfl
  refine sd ?_
  refine b_lt (fun t2=>?_) (fun t2=>?_)
  refine sd ?_
  refine b_ne (fun t3=>?_) (fun t3=>?_)
  refine ca (c13) ?_
  exact rfl
  refine ca c49_ ?_
  refine ca c48_ ?_
  refine ca c49_ ?_
  refine ca c50_ ?_
  refine ca c52_ ?_
  refine ca c51_ ?_
  refine ca c52_ ?_
  refine ca c53_ ?_
  refine ca c40_ ?_
  refine ca c54_ ?_
  refine sd ?_
  refine sd ?_
  refine ca c19_o ?_
  refine sd ?_
  refine b_f z1 ?_
  refine ca c56_ ?_
  refine sd ?_
  refine sd ?_
  refine ca c19_t ?_
  refine ca c57_ ?_
  refine ca c58_ ?_
  refine sd ?_
  refine sd ?_
  refine ca c19_m ?_
  refine sd ?_
  refine b_f z1 ?_
  refine sd ?_
  refine b_f z3 ?_
  refine sd ?_
  refine b_f y1 ?_
  refine ca c63_z ?_
  refine sd ?_
  refine b_t x7 ?_
  refine sd ?_
  refine b_t x6 ?_
  refine ca (Exists.intro _ (And.intro rfl rfl)) ?_
  refine sd ?_
  refine b_t x5 ?_
  refine sd ?_
  refine sd ?_
  refine b_t x5 ?_
  refine ca (c13) ?_
  exact rfl
  refine sd ?_
  refine ca c49_ ?_
  refine ca c48_ ?_
  refine ca c49_ ?_
  refine ca c50_ ?_
  refine ca c52_ ?_
  refine ca c51_ ?_
  refine ca c52_ ?_
  refine ca c53_ ?_
  refine ca c40_ ?_
  refine ca c54_ ?_
  refine sd ?_
  refine sd ?_
  refine ca c19_o ?_
  refine sd ?_
  refine b_f z1 ?_
  refine ca c56_ ?_
  refine sd ?_
  refine sd ?_
  refine ca c19_t ?_
  refine ca c57_ ?_
  refine ca c58_ ?_
  refine sd ?_
  refine sd ?_
  refine ca c19_m ?_
  refine sd ?_
  refine b_f z1 ?_
  refine sd ?_
  refine b_f z3 ?_
  refine sd ?_
  refine b_f y1 ?_
  refine ca c63_z ?_
  refine sd ?_
  refine b_t x7 ?_
  refine sd ?_
  refine b_t x6 ?_
  refine ca (Exists.intro _ (And.intro rfl rfl)) ?_
  refine sd ?_
  refine b_t x5 ?_
  refine sd ?_
  refine sd ?_
  refine b_t x5 ?_
  refine ca (c13) ?_
  exact rfl
theorem law6 (h m3 w i : Int) (l : List An) (f : Int × Int) (ms : List (Int × Int)) (hl : l.length ≤ 1048576) (hq : ∀ x ∈ l, x.set.length ≤ 1048576) (hm : ms.length ≤ 1048576) :
  CallDet Tryz.prog 6 [.d (.agg [.int .i64 h,.int .i64 m3,.int .i64 w,.int .i64 i]),.d (.slice 2 (ans l)),.d (.agg [.int .i64 f.1,.int .i64 f.2,.slice 2 (ivs ms)])] [.bool true]:=by
 by_cases he:ansE h w l=0
 ·by_cases hd:hdA h w l i=0
  ·exact law6a h m3 w i l f ms hl hq hm he hd
  ·exact law6b h m3 w i l f ms hl hq hm he hd
 ·by_cases ho1:firstOf [within3 h 1 5,within3 w 1 7]=0
  ·exact law6c h m3 w i l f ms hl hq hm he ho1
  ·exact law6d h m3 w i l f ms hl hq hm he ho1
end Vc
