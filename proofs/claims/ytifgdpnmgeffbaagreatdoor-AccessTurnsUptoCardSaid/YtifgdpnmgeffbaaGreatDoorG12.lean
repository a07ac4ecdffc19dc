import Derived.Test.YtifgdpnmgeffbaaGreatDoorG11
set_option linter.unusedSectionVars false
set_option linter.unusedVariables false
set_option linter.unusedSimpArgs false
set_option maxRecDepth 10000
set_option maxHeartbeats 4000000
namespace Vc
open Go Go.Proofs
def jr180:AFun:=⟨148,0,[],
 (.seq
 (.reg [] [⟨some 10,.mov (.cst (.d (.bool true))),none⟩])
 (.seq
  (.reg [] [⟨some 11,.mov (.cst (.d (.bool true))),none⟩])
  (.post [] []
  (.block 0
   (.keep [0,1,2,3,4,10,11] []
   (.loop
    (.post [0,1,2,3,4,10,11] []
    (.block 1
     (.seq
     (.reg [] [⟨some 21,.mov (.tmp 2),none⟩,
      ⟨some 22,.mov (.tmp 1),none⟩,
      ⟨some 23,.arith .sub .i64 (.tmp 21) (.tmp 22),none⟩,
      ⟨some 12,.mov (.tmp 23),none⟩])
     (.seq
      (.seq
      (.reg [] [⟨some 24,.mov (.tmp 12),none⟩,
       ⟨some 25,.cmp .leq (.tmp 24) (.cst (.d (.int .i64 12))),none⟩])
      (.cond (.tmp 25)
       (.seq
       (.reg [] [⟨some 26,.mov (.tmp 0),none⟩,
        ⟨some 27,.mov (.tmp 1),none⟩,
        ⟨some 28,.mov (.tmp 2),none⟩,
        ⟨some 29,.mov (.tmp 4),none⟩,
        ⟨some 30,.calli 201 [(.tmp 26),(.tmp 27),(.tmp 28),(.tmp 29)],none⟩])
       .ret)
       .skip))
      (.seq
      (.seq
       (.reg [] [⟨some 31,.mov (.tmp 3),none⟩,
        ⟨some 32,.cmp .eql (.tmp 31) (.cst (.d (.int .i64 0))),none⟩])
       (.cond (.tmp 32)
       (.seq
        (.reg [] [⟨some 33,.mov (.tmp 0),none⟩,
         ⟨some 34,.mov (.tmp 1),none⟩,
         ⟨some 35,.mov (.tmp 2),none⟩,
         ⟨some 36,.mov (.tmp 4),none⟩,
         ⟨some 37,.call 202 [(.tmp 33),(.tmp 34),(.tmp 35),(.tmp 36)],none⟩])
        .ret)
       .skip))
      (.seq
       (.seq
       (.reg [] [⟨some 38,.mov (.tmp 10),none⟩,
        ⟨some 39,.not (.tmp 38),none⟩])
       (.cond (.tmp 39)
        (.seq
        (.reg [] [⟨some 40,.mov (.tmp 0),none⟩,
         ⟨some 41,.mov (.tmp 1),none⟩,
         ⟨some 42,.mov (.tmp 2),none⟩,
         ⟨some 43,.mov (.tmp 4),none⟩,
         ⟨some 44,.call 203 [(.tmp 40),(.tmp 41),(.tmp 42),(.tmp 43)],none⟩])
        (.reg [] [⟨some 45,.mov (.tmp 3),none⟩,
         ⟨some 46,.arith .sub .i64 (.tmp 45) (.cst (.d (.int .i64 1))),none⟩,
         ⟨some 3,.mov (.tmp 46),none⟩]))
        .skip))
       (.seq
       (.reg [] [⟨some 48,.mov (.tmp 0),none⟩,
        ⟨some 49,.mov (.tmp 1),none⟩,
        ⟨some 50,.mov (.tmp 2),none⟩,
        ⟨some 51,.mov (.tmp 4),none⟩,
        ⟨some 52,.call 204 [(.tmp 48),(.tmp 49),(.tmp 50),(.tmp 51)],none⟩,
        ⟨some 47,.mov (.tmp 52),none⟩,
        ⟨some 53,.ext 0 (.tmp 47),none⟩,
        ⟨some 54,.ext 1 (.tmp 47),none⟩,
        ⟨some 13,.mov (.tmp 53),none⟩,
        ⟨some 14,.mov (.tmp 54),none⟩])
       (.seq
        (.seq
        (.reg [] [⟨some 55,.mov (.tmp 14),none⟩,
         ⟨some 56,.cmp .eql (.tmp 55) (.cst (.d (.int .i64 2))),none⟩])
        (.cond (.tmp 56)
         (.seq
         (.reg [] [⟨some 57,.mov (.tmp 0),none⟩,
          ⟨some 58,.mov (.tmp 1),none⟩,
          ⟨some 59,.mov (.tmp 2),none⟩,
          ⟨some 60,.mov (.tmp 4),none⟩,
          ⟨some 61,.call 205 [(.tmp 57),(.tmp 58),(.tmp 59),(.tmp 60)],none⟩])
         (.seq
          (.reg [] [⟨some 62,.mov (.tmp 2),none⟩,
           ⟨some 63,.arith .sub .i64 (.tmp 62) (.cst (.d (.int .i64 1))),none⟩,
           ⟨some 64,.mov (.tmp 13),none⟩,
           ⟨some 65,.mov (.tmp 1),none⟩,
           ⟨some 66,.arith .sub .i64 (.tmp 64) (.tmp 65),none⟩,
           ⟨some 67,.arith .sub .i64 (.tmp 63) (.tmp 66),none⟩,
           ⟨some 13,.mov (.tmp 67),none⟩])
          (.reg [] [⟨some 14,.mov (.cst (.d (.int .i64 1))),none⟩])))
         .skip))
        (.seq
        (.seq
         (.reg [] [⟨some 68,.mov (.tmp 10),none⟩,
          ⟨some 69,.mov (.tmp 68),none⟩,
          ⟨some 70,.mov (.tmp 11),some (69,true)⟩,
          ⟨some 71,.pick (.tmp 69) (.tmp 70) (.cst (.d (.bool false))),none⟩,
          ⟨some 72,.mov (.tmp 71),none⟩,
          ⟨some 73,.mov (.tmp 14),some (72,true)⟩,
          ⟨some 74,.cmp .eql (.tmp 73) (.cst (.d (.int .i64 1))),some (72,true)⟩,
          ⟨some 75,.pick (.tmp 72) (.tmp 74) (.cst (.d (.bool false))),none⟩])
         (.cond (.tmp 75)
         (.seq
          (.reg [] [⟨some 76,.mov (.tmp 0),none⟩,
           ⟨some 77,.mov (.tmp 1),none⟩,
           ⟨some 78,.mov (.tmp 2),none⟩,
           ⟨some 79,.mov (.tmp 4),none⟩,
           ⟨some 80,.call 206 [(.tmp 76),(.tmp 77),(.tmp 78),(.tmp 79)],none⟩])
          (.cond (.tmp 80)
          .ret
          .skip))
         .skip))
        (.seq
         (.seq
         (.regd [] [⟨some 81,.mov (.tmp 1),none⟩,
          ⟨some 82,.cmp .gtr (.tmp 81) (.cst (.d (.int .i64 0))),none⟩,
          ⟨some 83,.mov (.tmp 82),none⟩,
          ⟨some 84,.mov (.tmp 4),some (83,true)⟩,
          ⟨some 85,.mov (.tmp 0),some (83,true)⟩,
          ⟨some 86,.mov (.tmp 1),some (83,true)⟩,
          ⟨some 87,.arith .sub .i64 (.tmp 86) (.cst (.d (.int .i64 1))),some (83,true)⟩,
          ⟨some 88,.ixa 4 (.tmp 85) (.tmp 87),some (83,true)⟩,
          ⟨some 89,.ld true 4 (.tmp 88),some (83,true)⟩,
          ⟨some 90,.mov (.tmp 0),some (83,true)⟩,
          ⟨some 91,.mov (.tmp 13),some (83,true)⟩,
          ⟨some 92,.ixa 4 (.tmp 90) (.tmp 91),some (83,true)⟩,
          ⟨some 93,.ld true 4 (.tmp 92),some (83,true)⟩,
          ⟨some 94,.callv (.tmp 84) [(.tmp 89),(.tmp 93)],some (83,true)⟩,
          ⟨some 95,.cmp .lss (.tmp 94) (.cst (.d (.int .i64 0))),some (83,true)⟩,
          ⟨some 96,.not (.tmp 95),some (83,true)⟩,
          ⟨some 97,.pick (.tmp 83) (.tmp 96) (.cst (.d (.bool false))),none⟩] [(3,4),(3,5),(4,5),(3,6),(4,6),(3,7),(3,8),(3,9),(4,9),(5,9),(6,9),(7,9),(8,9),(3,10),(4,10),(5,10),(6,10),(7,10),(8,10),(9,10),(3,11),(4,11),(5,11),(6,11),(7,11),(8,11),(3,12),(4,12),(5,12),(6,12),(7,12),(8,12)])
         (.cond (.tmp 97)
          (.seq
          (.reg [] [⟨some 98,.mov (.tmp 0),none⟩,
           ⟨some 99,.mov (.tmp 1),none⟩,
           ⟨some 100,.mov (.tmp 2),none⟩,
           ⟨some 101,.mov (.tmp 13),none⟩,
           ⟨some 102,.mov (.tmp 4),none⟩,
           ⟨some 103,.call 207 [(.tmp 98),(.tmp 99),(.tmp 100),(.tmp 101),(.tmp 102)],none⟩,
           ⟨some 15,.mov (.tmp 103),none⟩])
          (.seq
           (.reg [] [⟨some 104,.mov (.tmp 15),none⟩,
            ⟨some 1,.mov (.tmp 104),none⟩])
           (.exit 1)))
          .skip))
         (.seq
         (.reg [] [⟨some 106,.mov (.tmp 0),none⟩,
          ⟨some 107,.mov (.tmp 1),none⟩,
          ⟨some 108,.mov (.tmp 2),none⟩,
          ⟨some 109,.mov (.tmp 13),none⟩,
          ⟨some 110,.mov (.tmp 4),none⟩,
          ⟨some 111,.call 208 [(.tmp 106),(.tmp 107),(.tmp 108),(.tmp 109),(.tmp 110)],none⟩,
          ⟨some 105,.mov (.tmp 111),none⟩,
          ⟨some 112,.ext 0 (.tmp 105),none⟩,
          ⟨some 113,.ext 1 (.tmp 105),none⟩,
          ⟨some 16,.mov (.tmp 112),none⟩,
          ⟨some 17,.mov (.tmp 113),none⟩])
         (.seq
          (.reg [] [⟨some 114,.mov (.tmp 17),none⟩,
           ⟨some 11,.mov (.tmp 114),none⟩])
          (.seq
          (.reg [] [⟨some 115,.mov (.tmp 16),none⟩,
           ⟨some 116,.mov (.tmp 1),none⟩,
           ⟨some 117,.arith .sub .i64 (.tmp 115) (.tmp 116),none⟩,
           ⟨some 118,.mov (.tmp 2),none⟩,
           ⟨some 119,.mov (.tmp 16),none⟩,
           ⟨some 120,.arith .sub .i64 (.tmp 118) (.tmp 119),none⟩,
           ⟨some 18,.mov (.tmp 117),none⟩,
           ⟨some 19,.mov (.tmp 120),none⟩])
          (.seq
           (.reg [] [⟨some 121,.mov (.tmp 12),none⟩,
            ⟨some 122,.arith .quo .i64 (.tmp 121) (.cst (.d (.int .i64 8))),none⟩,
            ⟨some 20,.mov (.tmp 122),none⟩])
           (.seq
           (.reg [] [⟨some 123,.mov (.tmp 18),none⟩,
            ⟨some 124,.mov (.tmp 19),none⟩,
            ⟨some 125,.cmp .lss (.tmp 123) (.tmp 124),none⟩])
           (.cond (.tmp 125)
            (.seq
            (.reg [] [⟨some 126,.mov (.tmp 18),none⟩,
             ⟨some 127,.mov (.tmp 20),none⟩,
             ⟨some 128,.cmp .geq (.tmp 126) (.tmp 127),none⟩,
             ⟨some 10,.mov (.tmp 128),none⟩])
            (.seq
             (.reg [] [⟨some 129,.mov (.tmp 0),none⟩,
              ⟨some 130,.mov (.tmp 1),none⟩,
              ⟨some 131,.mov (.tmp 16),none⟩,
              ⟨some 132,.mov (.tmp 3),none⟩,
              ⟨some 133,.mov (.tmp 4),none⟩,
              ⟨some 134,.call 180 [(.tmp 129),(.tmp 130),(.tmp 131),(.tmp 132),(.tmp 133)],none⟩])
             (.reg [] [⟨some 135,.mov (.tmp 16),none⟩,
              ⟨some 136,.arith .add .i64 (.tmp 135) (.cst (.d (.int .i64 1))),none⟩,
              ⟨some 1,.mov (.tmp 136),none⟩])))
            (.seq
            (.reg [] [⟨some 137,.mov (.tmp 19),none⟩,
             ⟨some 138,.mov (.tmp 20),none⟩,
             ⟨some 139,.cmp .geq (.tmp 137) (.tmp 138),none⟩,
             ⟨some 10,.mov (.tmp 139),none⟩])
            (.seq
             (.reg [] [⟨some 140,.mov (.tmp 0),none⟩,
              ⟨some 141,.mov (.tmp 16),none⟩,
              ⟨some 142,.arith .add .i64 (.tmp 141) (.cst (.d (.int .i64 1))),none⟩,
              ⟨some 143,.mov (.tmp 2),none⟩,
              ⟨some 144,.mov (.tmp 3),none⟩,
              ⟨some 145,.mov (.tmp 4),none⟩,
              ⟨some 146,.call 180 [(.tmp 140),(.tmp 142),(.tmp 143),(.tmp 144),(.tmp 145)],none⟩])
             (.reg [] [⟨some 147,.mov (.tmp 16),none⟩,
              ⟨some 2,.mov (.tmp 147),none⟩])))))))))))))))))))))))))⟩
def jr153:AFun:=⟨14,0,[],
 (.seq
 (.reg [] [⟨some 5,.mov (.tmp 0),none⟩,
  ⟨some 6,.len (.tmp 5),none⟩,
  ⟨some 4,.mov (.tmp 6),none⟩])
 (.reg [] [⟨some 7,.mov (.tmp 0),none⟩,
  ⟨some 8,.mov (.tmp 4),none⟩,
  ⟨some 9,.mov (.tmp 4),none⟩,
  ⟨some 10,.conv .u64 (.tmp 9),none⟩,
  ⟨some 11,.call 168 [(.tmp 10)],none⟩,
  ⟨some 12,.mov (.tmp 1),none⟩,
  ⟨some 13,.calli 180 [(.tmp 7),(.cst (.d (.int .i64 0))),(.tmp 8),(.tmp 11),(.tmp 12)],none⟩]))⟩
theorem i180 (R:List Rn) (hd:Dst R) (h8:R.length≤8) (N:Nat) (hN:N=R.length) (lim:Int) (cs:List AVal):CallIn Tryz.prog 180 [.sl 6 N,.d (.int .i64 0),.d (.int .i64 (N:Int)),.d (.int .i64 lim),.d (.fn (.func 154) [])] [.none,.none,.none,.none,.none,.none,.row 226 4 (rns R) false,.box cs,.none,.none] (.tup []) (setAll [.none,.none,.none,.none,.none,.none,.row 226 4 (rns R) false,.box cs,.none,.none] [(6,.row 226 4 (rns (sorted R)) false)]):=by
 have c201i_:=i201 R hd N hN (by omega) cs
 refine callIn_of_vc 10 (x:=jr180) (by kernel_rfl) rfl rfl rfl ?_
 refine loop_st (fun k:Nat=>⟨[(0,.sl 6 N),(1,.d (.int .i64 0)),(2,.d (.int .i64 (N:Int))),(3,.d (.int .i64 lim)),(4,.d (.fn (.func 154) [])),(10,.d (.bool true)),(11,.d (.bool true))],[.none,.none,.none,.none,.none,.none,.row 226 4 (rns R) false,.box cs,.none,.none]⟩) (fun _=>True) (fun k=>k) 0 rfl trivial ?_
 intro k _
 dsimp only
 refine ar_sub ?_ ?_
 refine an ?_ ?_
 (show (-9223372036854775808:Int)≤(↑N:Int) - (0:Int); omega)
 (show (↑N:Int) - (0:Int)≤(9223372036854775807:Int); omega)
 refine sd ?_
 refine b_le (fun t1=>?_) (fun t1=>?_)
 refine Exists.intro _ (Exists.intro _ (And.intro (c201i_) ?_))
 refine sd ?_
 exact rfl
 (exfalso; omega)
end Vc
