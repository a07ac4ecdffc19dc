import Derived.Test.YtmjbifmndhianaaGreatDoorG08
import Derived.Test.YtmjbifmndhianaaGreatDoorG22
set_option linter.unusedSectionVars false
set_option linter.unusedVariables false
set_option linter.unusedSimpArgs false
set_option maxRecDepth 10000
set_option maxHeartbeats 4000000
namespace Vc
open Go Go.Proofs
def jr81:AFun:=⟨49,6,[.tmp 2,.tmp 3],
 (.seq
 (.reg [0] [⟨some 1,.cbx 0 22 (.tmp 0),none⟩,
  ⟨some 2,.mov (.cst (.d (.str []))),none⟩,
  ⟨some 3,.mov (.cst (.d (.int .i64 0))),none⟩])
 (.seq
  (.seq
  (.reg [] [⟨some 8,.ld true 22 (.tmp 1),none⟩,
   ⟨some 9,.call 25 [(.tmp 8)],none⟩,
   ⟨some 4,.mov (.tmp 9),none⟩])
  (.seq
   (.reg [] [⟨some 10,.mov (.tmp 4),none⟩,
    ⟨some 11,.cmp .neq (.tmp 10) (.cst (.d (.int .i64 0))),none⟩])
   (.cond (.tmp 11)
   (.seq
    (.reg [] [⟨some 12,.mov (.tmp 4),none⟩,
     ⟨some 2,.mov (.cst (.d (.str []))),none⟩,
     ⟨some 3,.mov (.tmp 12),none⟩])
    .ret)
   .skip)))
  (.seq
  (.reg [1] [⟨some 5,.alt 1 216 [.nilp,(.nils 1)],none⟩])
  (.seq
   (.reg [2] [⟨some 13,.fad 0 (.tmp 1),none⟩,
    ⟨some 14,.ld false 1 (.tmp 13),none⟩,
    ⟨some 15,.fad 1 (.tmp 1),none⟩,
    ⟨some 16,.ld false 1 (.tmp 15),none⟩,
    ⟨some 17,.fad 2 (.tmp 1),none⟩,
    ⟨some 18,.ld false 1 (.tmp 17),none⟩,
    ⟨some 19,.fad 3 (.tmp 1),none⟩,
    ⟨some 20,.ld false 1 (.tmp 19),none⟩,
    ⟨some 21,.bsl 2 3 1 4 [(.int .i64 0),(.int .i64 0),(.int .i64 0),(.int .i64 0)] [(0,(.tmp 14)),(1,(.tmp 16)),(2,(.tmp 18)),(3,(.tmp 20))],none⟩,
    ⟨some 22,.call 131 [(.cst (.d (.str [97,99,99,111,117,110,116]))),(.tmp 21)],none⟩,
    ⟨some 23,.calli 130 [(.tmp 5),(.tmp 22)],none⟩])
   (.seq
   (.reg [] [⟨some 24,.fad 4 (.tmp 1),none⟩,
    ⟨some 25,.ld true 8 (.tmp 24),none⟩,
    ⟨some 26,.call 132 [(.tmp 25)],none⟩,
    ⟨some 27,.call 131 [(.cst (.d (.str [107,101,121]))),(.tmp 26)],none⟩,
    ⟨some 28,.calli 130 [(.tmp 5),(.tmp 27)],none⟩])
   (.seq
    (.seq
    (.reg [] [⟨some 29,.fad 20 (.tmp 1),none⟩,
     ⟨some 30,.ld false 1 (.tmp 29),none⟩])
    (.cond (.tmp 30)
     (.reg [] [⟨some 31,.fad 12 (.tmp 1),none⟩,
      ⟨some 32,.ld true 8 (.tmp 31),none⟩,
      ⟨some 33,.call 132 [(.tmp 32)],none⟩,
      ⟨some 34,.call 131 [(.cst (.d (.str [110,101,119]))),(.tmp 33)],none⟩,
      ⟨some 35,.calli 130 [(.tmp 5),(.tmp 34)],none⟩])
     .skip))
    (.seq
    (.seq
     (.reg [] [⟨some 36,.fad 21 (.tmp 1),none⟩,
      ⟨some 37,.ld false 1 (.tmp 36),none⟩,
      ⟨some 38,.len (.tmp 37),none⟩,
      ⟨some 39,.mov (.cst (.d (.int .i64 0))),none⟩])
     (.post [5] [0,1,2,3]
     (.block 0
      (.keep [5,37,38,39] [0,1,2]
      (.loop
       (.post [5,37,38,39] [3]
       (.seq
        (.reg [] [⟨some 40,.cmp .lss (.tmp 39) (.tmp 38),none⟩])
        (.seq
        (.cond (.tmp 40)
         .skip
         (.exit 0))
        (.seq
         (.block 1
         (.seq
          (.reg [] [⟨some 41,.ixa 1 (.tmp 37) (.tmp 39),none⟩,
           ⟨some 42,.ld false 1 (.tmp 41),none⟩,
           ⟨some 7,.mov (.tmp 42),none⟩])
          (.reg [3] [⟨some 43,.mov (.tmp 7),none⟩,
           ⟨some 44,.bsl 3 3 1 1 [(.int .i64 0)] [(0,(.tmp 43))],none⟩,
           ⟨some 45,.call 131 [(.cst (.d (.str [117,115,101,100]))),(.tmp 44)],none⟩,
           ⟨some 46,.calli 130 [(.tmp 5),(.tmp 45)],none⟩])))
         (.reg [] [⟨some 47,.arith .add .i64 (.tmp 39) (.cst (.d (.int .i64 1))),none⟩,
          ⟨some 39,.mov (.tmp 47),none⟩]))))))))))
    (.seq
     (.reg [] [⟨some 48,.calli 133 [(.tmp 5)],none⟩,
      ⟨some 2,.mov (.tmp 48),none⟩,
      ⟨some 3,.mov (.cst (.d (.int .i64 0))),none⟩])
     .ret))))))))⟩
theorem c81_sh:CallDet Tryz.prog 81 [.d (.agg [.int .i64 1000,.int .i64 500,.int .i64 40,.int .i64 2000,.int .u8 1,.int .u8 2,.int .u8 3,.int .u8 4,.int .u8 5,.int .u8 6,.int .u8 7,.int .u8 8,.int .u8 0,.int .u8 0,.int .u8 0,.int .u8 0,.int .u8 0,.int .u8 0,.int .u8 0,.int .u8 0,.bool false,.slice 1 []])] [.str [97,99,99,111,117,110,116,32,49,48,48,48,32,53,48,48,32,52,48,32,50,48,48,48,10,107,101,121,32,49,32,50,32,51,32,52,32,53,32,54,32,55,32,56,10],.int .i64 0]:=by
 have c25_:=c25_sh
 have c131_1:=c131_a
 have c131_2:=c131_b
 have c132_:=c132_sh
 have c130i_1:=i130a [.int .i64 1000,.int .i64 500,.int .i64 40,.int .i64 2000,.int .u8 1,.int .u8 2,.int .u8 3,.int .u8 4,.int .u8 5,.int .u8 6,.int .u8 7,.int .u8 8,.int .u8 0,.int .u8 0,.int .u8 0,.int .u8 0,.int .u8 0,.int .u8 0,.int .u8 0,.int .u8 0,.bool false,.slice 1 []] [.int .i64 1000,.int .i64 500,.int .i64 40,.int .i64 2000] false [97,99,99,111,117,110,116,32,49,48,48,48,32,53,48,48,32,52,48,32,50,48,48,48,10] (by decide) (by decide)
 have c130i_2:=i130b [.int .i64 1000,.int .i64 500,.int .i64 40,.int .i64 2000,.int .u8 1,.int .u8 2,.int .u8 3,.int .u8 4,.int .u8 5,.int .u8 6,.int .u8 7,.int .u8 8,.int .u8 0,.int .u8 0,.int .u8 0,.int .u8 0,.int .u8 0,.int .u8 0,.int .u8 0,.int .u8 0,.bool false,.slice 1 []] [.int .i64 1000,.int .i64 500,.int .i64 40,.int .i64 2000] false [97,99,99,111,117,110,116,32,49,48,48,48,32,53,48,48,32,52,48,32,50,48,48,48,10] [107,101,121,32,49,32,50,32,51,32,52,32,53,32,54,32,55,32,56,10] (by decide) (by decide)
 have c133i_:=i133n [97,99,99,111,117,110,116,32,49,48,48,48,32,53,48,48,32,52,48,32,50,48,48,48,10,107,101,121,32,49,32,50,32,51,32,52,32,53,32,54,32,55,32,56,10] (by decide) (by decide)
 refine call_of_vc (x:=jr81) (by kernel_rfl) rfl ?_
 refine ca c25_ ?_
 refine sd ?_
 refine sd ?_
 refine sd ?_
 refine ca c131_1 ?_
 refine Exists.intro _ (Exists.intro _ (And.intro (c130i_1) ?_))
 refine ca c132_ ?_
 refine ca c131_2 ?_
 refine Exists.intro _ (Exists.intro _ (And.intro (c130i_2) ?_))
 rotate_left
 refine loop_st (fun _:Nat=>⟨[(5,.tp 1 0),(37,.d (.slice 1 [])),(38,.d (.int .i64 0)),(39,.d (.int .i64 0))],[.none,.tbox 216 [.tp 1 0,.bs 4 ([97,99,99,111,117,110,116,32,49,48,48,48,32,53,48,48,32,52,48,32,50,48,48,48,10,107,101,121,32,49,32,50,32,51,32,52,32,53,32,54,32,55,32,56,10]:List UInt8).length],.none,.none,.brow 5 [97,99,99,111,117,110,116,32,49,48,48,48,32,53,48,48,32,52,48,32,50,48,48,48,10,107,101,121,32,49,32,50,32,51,32,52,32,53,32,54,32,55,32,56,10],.none]⟩) (fun _=>True) (fun _=>0) 0 rfl trivial ?_
 intro k _
 dsimp only
 refine sd ?_
 refine Exists.intro _ (Exists.intro _ (And.intro (c133i_) ?_))
 exact rfl
end Vc
