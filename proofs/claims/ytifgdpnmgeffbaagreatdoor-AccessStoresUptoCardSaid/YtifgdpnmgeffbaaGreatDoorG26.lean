import Derived.Test.YtifgdpnmgeffbaaGreatDoorG25
import Derived.Test.YtifgdpnmgeffbaaGreatDoorG13
import Derived.Test.YtifgdpnmgeffbaaGreatDoorG21
set_option linter.unusedSectionVars false
set_option linter.unusedVariables false
set_option linter.unusedSimpArgs false
set_option maxRecDepth 10000
set_option maxHeartbeats 4000000
namespace Vc
open Go Go.Proofs
def jr7:AFun:=⟨230,16,[.tmp 4],
 (.seq
 (.reg [0,1] [⟨some 2,.cbx 0 7 (.tmp 0),none⟩,
  ⟨some 3,.cbx 1 6 (.tmp 1),none⟩,
  ⟨some 4,.mov (.cst (.d (.bool false))),none⟩])
 (.seq
  (.seq
  (.reg [] [⟨some 34,.fad 4 (.tmp 2),none⟩,
   ⟨some 35,.ld false 1 (.tmp 34),none⟩,
   ⟨some 36,.call 64 [(.tmp 35)],none⟩,
   ⟨some 37,.not (.tmp 36),none⟩,
   ⟨some 38,.mov (.tmp 37),none⟩,
   ⟨some 39,.fad 1 (.tmp 3),some (38,false)⟩,
   ⟨some 40,.ld false 1 (.tmp 39),some (38,false)⟩,
   ⟨some 41,.call 64 [(.tmp 40)],some (38,false)⟩,
   ⟨some 42,.not (.tmp 41),some (38,false)⟩,
   ⟨some 43,.pick (.tmp 38) (.cst (.d (.bool true))) (.tmp 42),none⟩,
   ⟨some 44,.mov (.tmp 43),none⟩,
   ⟨some 45,.fad 5 (.tmp 3),some (44,false)⟩,
   ⟨some 46,.ld false 1 (.tmp 45),some (44,false)⟩,
   ⟨some 47,.len (.tmp 46),some (44,false)⟩,
   ⟨some 48,.cmp .gtr (.tmp 47) (.cst (.d (.int .i64 33))),some (44,false)⟩,
   ⟨some 49,.pick (.tmp 44) (.cst (.d (.bool true))) (.tmp 48),none⟩])
  (.cond (.tmp 49)
   (.seq
   (.reg [] [⟨some 50,.call 13 [],none⟩,
    ⟨some 4,.mov (.tmp 50),none⟩])
   .ret)
   .skip))
  (.seq
  (.regd [] [⟨some 52,.fad 0 (.tmp 3),none⟩,
   ⟨some 53,.ld false 1 (.tmp 52),none⟩,
   ⟨some 54,.fad 1 (.tmp 3),none⟩,
   ⟨some 55,.ld false 1 (.tmp 54),none⟩,
   ⟨some 56,.call 66 [(.tmp 55)],none⟩,
   ⟨some 57,.build [(.d (.int .i64 0)),(.nils 1)] [(0,1,(.tmp 53)),(1,1,(.tmp 56))],none⟩,
   ⟨some 58,.call 65 [(.tmp 57)],none⟩,
   ⟨some 51,.mov (.tmp 58),none⟩,
   ⟨some 59,.ext 0 (.tmp 51),none⟩,
   ⟨some 60,.ext 1 (.tmp 51),none⟩,
   ⟨some 5,.mov (.tmp 59),none⟩,
   ⟨some 6,.mov (.tmp 60),none⟩] [(0,2),(1,2),(0,3),(1,3),(0,4),(1,4),(8,9),(9,10)])
  (.seq
   (.regd [2] [⟨some 62,.ld true 7 (.tmp 2),none⟩,
    ⟨some 63,.call 68 [(.tmp 62)],none⟩,
    ⟨some 64,.fad 0 (.tmp 3),none⟩,
    ⟨some 65,.ld false 1 (.tmp 64),none⟩,
    ⟨some 66,.fad 2 (.tmp 3),none⟩,
    ⟨some 67,.ld false 1 (.tmp 66),none⟩,
    ⟨some 68,.fad 3 (.tmp 3),none⟩,
    ⟨some 69,.ld false 1 (.tmp 68),none⟩,
    ⟨some 70,.call 67 [(.tmp 63),(.tmp 65),(.tmp 67),(.tmp 69)],none⟩,
    ⟨some 61,.mov (.tmp 70),none⟩,
    ⟨some 71,.ext 0 (.tmp 61),none⟩,
    ⟨some 72,.ext 1 (.tmp 61),none⟩,
    ⟨some 7,.alloc 2 [(.d (.int .i64 0)),(.d (.int .i64 0)),(.d (.int .i64 0)),(.d (.int .i64 0)),(.nils 1),(.d (.bool false)),(.d (.bool false))],none⟩,
    ⟨none,.st 7 (.tmp 7) (.tmp 71),none⟩,
    ⟨some 8,.mov (.tmp 72),none⟩] [(0,2),(1,2),(0,3),(1,3),(0,4),(1,4),(2,4),(3,4),(0,5),(1,5),(2,5),(3,5),(0,6),(1,6),(2,6),(3,6),(4,6),(5,6),(0,7),(1,7),(2,7),(3,7),(4,7),(5,7),(10,11),(0,12),(1,12),(2,12),(3,12),(4,12),(5,12),(6,12),(7,12),(8,12),(9,12),(10,12),(11,12),(11,13)])
   (.seq
   (.regd [3,4,5] [⟨some 74,.ld true 7 (.tmp 2),none⟩,
    ⟨some 75,.call 68 [(.tmp 74)],none⟩,
    ⟨some 76,.fad 4 (.tmp 3),none⟩,
    ⟨some 77,.ld false 1 (.tmp 76),none⟩,
    ⟨some 78,.bsl 3 5 1 0 [] [],none⟩,
    ⟨some 79,.fad 5 (.tmp 3),none⟩,
    ⟨some 80,.ld false 1 (.tmp 79),none⟩,
    ⟨some 81,.app 4 5 1 1 (.tmp 78) (.tmp 80),none⟩,
    ⟨some 82,.call 69 [(.tmp 75),(.tmp 77),(.tmp 81)],none⟩,
    ⟨some 73,.mov (.tmp 82),none⟩,
    ⟨some 83,.ext 0 (.tmp 73),none⟩,
    ⟨some 84,.ext 1 (.tmp 73),none⟩,
    ⟨some 9,.alloc 5 [(.d (.int .i64 0)),(.d (.int .i64 0)),(.d (.int .i64 0)),(.d (.int .i64 0)),(.nils 1),(.d (.bool false)),(.d (.bool false))],none⟩,
    ⟨none,.st 7 (.tmp 9) (.tmp 83),none⟩,
    ⟨some 10,.mov (.tmp 84),none⟩] [(0,2),(1,2),(0,3),(1,3),(0,4),(1,4),(2,4),(3,4),(0,5),(1,5),(2,5),(3,5),(4,5),(0,6),(1,6),(2,6),(3,6),(4,6),(2,7),(3,7),(10,11),(0,12),(1,12),(2,12),(3,12),(4,12),(5,12),(6,12),(7,12),(8,12),(9,12),(10,12),(11,12),(11,13)])
   (.seq
    (.reg [6] [⟨some 86,.ld true 7 (.tmp 2),none⟩,
     ⟨some 87,.call 68 [(.tmp 86)],none⟩,
     ⟨some 88,.call 70 [(.tmp 87)],none⟩,
     ⟨some 85,.mov (.tmp 88),none⟩,
     ⟨some 89,.ext 0 (.tmp 85),none⟩,
     ⟨some 90,.ext 1 (.tmp 85),none⟩,
     ⟨some 11,.alloc 6 [(.d (.int .i64 0)),(.d (.int .i64 0)),(.d (.int .i64 0)),(.d (.int .i64 0)),(.nils 1),(.d (.bool false)),(.d (.bool false))],none⟩,
     ⟨none,.st 7 (.tmp 11) (.tmp 89),none⟩,
     ⟨some 12,.mov (.tmp 90),none⟩])
    (.seq
    (.reg [7] [⟨some 92,.ld true 7 (.tmp 2),none⟩,
     ⟨some 93,.call 68 [(.tmp 92)],none⟩,
     ⟨some 94,.call 71 [(.tmp 93)],none⟩,
     ⟨some 91,.mov (.tmp 94),none⟩,
     ⟨some 95,.ext 0 (.tmp 91),none⟩,
     ⟨some 96,.ext 1 (.tmp 91),none⟩,
     ⟨some 13,.alloc 7 [(.d (.int .i64 0)),(.d (.int .i64 0)),(.d (.int .i64 0)),(.d (.int .i64 0)),(.nils 1),(.d (.bool false)),(.d (.bool false))],none⟩,
     ⟨none,.st 7 (.tmp 13) (.tmp 95),none⟩,
     ⟨some 14,.mov (.tmp 96),none⟩])
    (.seq
     (.reg [8] [⟨some 98,.ld true 7 (.tmp 2),none⟩,
      ⟨some 99,.call 68 [(.tmp 98)],none⟩,
      ⟨some 100,.call 72 [(.tmp 99)],none⟩,
      ⟨some 97,.mov (.tmp 100),none⟩,
      ⟨some 101,.ext 0 (.tmp 97),none⟩,
      ⟨some 102,.ext 1 (.tmp 97),none⟩,
      ⟨some 15,.alloc 8 [(.d (.int .i64 0)),(.d (.int .i64 0)),(.d (.int .i64 0)),(.d (.int .i64 0)),(.nils 1),(.d (.bool false)),(.d (.bool false))],none⟩,
      ⟨none,.st 7 (.tmp 15) (.tmp 101),none⟩,
      ⟨some 16,.mov (.tmp 102),none⟩])
     (.seq
     (.reg [9] [⟨some 104,.ld true 7 (.tmp 2),none⟩,
      ⟨some 105,.call 68 [(.tmp 104)],none⟩,
      ⟨some 106,.call 73 [(.tmp 105)],none⟩,
      ⟨some 103,.mov (.tmp 106),none⟩,
      ⟨some 107,.ext 0 (.tmp 103),none⟩,
      ⟨some 108,.ext 1 (.tmp 103),none⟩,
      ⟨some 17,.alloc 9 [(.d (.int .i64 0)),(.d (.int .i64 0)),(.d (.int .i64 0)),(.d (.int .i64 0)),(.nils 1),(.d (.bool false)),(.d (.bool false))],none⟩,
      ⟨none,.st 7 (.tmp 17) (.tmp 107),none⟩,
      ⟨some 18,.mov (.tmp 108),none⟩])
     (.seq
      (.regd [] [⟨some 109,.fad 0 (.tmp 3),none⟩,
       ⟨some 110,.ld false 1 (.tmp 109),none⟩,
       ⟨some 111,.fad 1 (.tmp 3),none⟩,
       ⟨some 112,.ld false 1 (.tmp 111),none⟩,
       ⟨some 113,.build [(.d (.int .i64 0)),(.nils 1)] [(0,1,(.tmp 110)),(1,1,(.tmp 112))],none⟩,
       ⟨some 114,.call 74 [(.tmp 113)],none⟩,
       ⟨some 115,.ld true 7 (.tmp 2),none⟩,
       ⟨some 116,.call 75 [(.tmp 115)],none⟩,
       ⟨some 19,.mov (.tmp 114),none⟩,
       ⟨some 20,.mov (.tmp 116),none⟩] [(0,2),(1,2),(0,3),(1,3),(0,6),(1,6),(2,6),(3,6),(4,6),(5,6)])
      (.seq
      (.reg [] [⟨some 117,.mov (.tmp 20),none⟩,
       ⟨some 118,.mov (.tmp 20),none⟩,
       ⟨some 119,.mov (.tmp 20),none⟩,
       ⟨some 120,.mov (.tmp 20),none⟩,
       ⟨some 121,.mov (.tmp 20),none⟩,
       ⟨some 122,.mov (.tmp 20),none⟩,
       ⟨some 21,.mov (.tmp 117),none⟩,
       ⟨some 22,.mov (.tmp 118),none⟩,
       ⟨some 23,.mov (.tmp 119),none⟩,
       ⟨some 24,.mov (.tmp 120),none⟩,
       ⟨some 25,.mov (.tmp 121),none⟩,
       ⟨some 26,.mov (.tmp 122),none⟩])
      (.seq
       (.reg [] [⟨some 27,.mov (.cst (.d (.int .i64 0))),none⟩])
       (.seq
       (.reg [10,11,12,13,14,15] [⟨some 28,.alloc 10 [(.d (.int .i64 0)),(.d (.int .i64 0)),(.d (.int .i64 0)),(.d (.int .i64 0)),(.nils 1),(.d (.bool false)),(.d (.bool false))],none⟩,
        ⟨some 29,.alloc 11 [(.d (.int .i64 0)),(.d (.int .i64 0)),(.d (.int .i64 0)),(.d (.int .i64 0)),(.nils 1),(.d (.bool false)),(.d (.bool false))],none⟩,
        ⟨some 30,.alloc 12 [(.d (.int .i64 0)),(.d (.int .i64 0)),(.d (.int .i64 0)),(.d (.int .i64 0)),(.nils 1),(.d (.bool false)),(.d (.bool false))],none⟩,
        ⟨some 31,.alloc 13 [(.d (.int .i64 0)),(.d (.int .i64 0)),(.d (.int .i64 0)),(.d (.int .i64 0)),(.nils 1),(.d (.bool false)),(.d (.bool false))],none⟩,
        ⟨some 32,.alloc 14 [(.d (.int .i64 0)),(.d (.int .i64 0)),(.d (.int .i64 0)),(.d (.int .i64 0)),(.nils 1),(.d (.bool false)),(.d (.bool false))],none⟩,
        ⟨some 33,.alloc 15 [(.d (.int .i64 0)),(.d (.int .i64 0)),(.d (.int .i64 0)),(.d (.int .i64 0)),(.nils 1),(.d (.bool false)),(.d (.bool false))],none⟩])
       (.seq
        (.seq
        (.reg [] [⟨some 123,.mov (.tmp 19),none⟩,
         ⟨some 124,.cmp .eql (.tmp 123) (.cst (.d (.int .i64 0))),none⟩])
        (.cond (.tmp 124)
         (.reg [] [⟨some 125,.fad 1 (.tmp 3),none⟩,
          ⟨some 126,.ld false 1 (.tmp 125),none⟩,
          ⟨some 127,.call 76 [(.tmp 126)],none⟩,
          ⟨some 27,.mov (.tmp 127),none⟩])
         .skip))
        (.seq
        (.seq
         (.reg [] [⟨some 128,.mov (.tmp 20),none⟩,
          ⟨some 129,.cmp .eql (.tmp 128) (.cst (.d (.int .i64 0))),none⟩])
         (.cond (.tmp 129)
         (.seq
          (.reg [] [⟨some 131,.ld true 7 (.tmp 2),none⟩,
           ⟨some 132,.fad 0 (.tmp 3),none⟩,
           ⟨some 133,.ld false 1 (.tmp 132),none⟩,
           ⟨some 134,.fad 2 (.tmp 3),none⟩,
           ⟨some 135,.ld false 1 (.tmp 134),none⟩,
           ⟨some 136,.fad 3 (.tmp 3),none⟩,
           ⟨some 137,.ld false 1 (.tmp 136),none⟩,
           ⟨some 138,.call 77 [(.tmp 131),(.tmp 133),(.tmp 135),(.tmp 137)],none⟩,
           ⟨some 130,.mov (.tmp 138),none⟩,
           ⟨some 139,.ext 0 (.tmp 130),none⟩,
           ⟨some 140,.ext 1 (.tmp 130),none⟩,
           ⟨none,.st 7 (.tmp 28) (.tmp 139),none⟩,
           ⟨some 21,.mov (.tmp 140),none⟩])
          (.seq
          (.reg [] [⟨some 142,.ld true 7 (.tmp 2),none⟩,
           ⟨some 143,.fad 4 (.tmp 3),none⟩,
           ⟨some 144,.ld false 1 (.tmp 143),none⟩,
           ⟨some 145,.fad 5 (.tmp 3),none⟩,
           ⟨some 146,.ld false 1 (.tmp 145),none⟩,
           ⟨some 147,.call 78 [(.tmp 142),(.tmp 144),(.tmp 146)],none⟩,
           ⟨some 141,.mov (.tmp 147),none⟩,
           ⟨some 148,.ext 0 (.tmp 141),none⟩,
           ⟨some 149,.ext 1 (.tmp 141),none⟩,
           ⟨none,.st 7 (.tmp 29) (.tmp 148),none⟩,
           ⟨some 22,.mov (.tmp 149),none⟩])
          (.seq
           (.reg [] [⟨some 151,.ld true 7 (.tmp 2),none⟩,
            ⟨some 152,.call 79 [(.tmp 151)],none⟩,
            ⟨some 150,.mov (.tmp 152),none⟩,
            ⟨some 153,.ext 0 (.tmp 150),none⟩,
            ⟨some 154,.ext 1 (.tmp 150),none⟩,
            ⟨none,.st 7 (.tmp 30) (.tmp 153),none⟩,
            ⟨some 23,.mov (.tmp 154),none⟩])
           (.seq
           (.reg [] [⟨some 156,.ld true 7 (.tmp 2),none⟩,
            ⟨some 157,.call 80 [(.tmp 156)],none⟩,
            ⟨some 155,.mov (.tmp 157),none⟩,
            ⟨some 158,.ext 0 (.tmp 155),none⟩,
            ⟨some 159,.ext 1 (.tmp 155),none⟩,
            ⟨none,.st 7 (.tmp 31) (.tmp 158),none⟩,
            ⟨some 24,.mov (.tmp 159),none⟩])
           (.seq
            (.reg [] [⟨some 161,.ld true 7 (.tmp 2),none⟩,
             ⟨some 162,.call 81 [(.tmp 161)],none⟩,
             ⟨some 160,.mov (.tmp 162),none⟩,
             ⟨some 163,.ext 0 (.tmp 160),none⟩,
             ⟨some 164,.ext 1 (.tmp 160),none⟩,
             ⟨none,.st 7 (.tmp 32) (.tmp 163),none⟩,
             ⟨some 25,.mov (.tmp 164),none⟩])
            (.reg [] [⟨some 166,.ld true 7 (.tmp 2),none⟩,
             ⟨some 167,.call 82 [(.tmp 166)],none⟩,
             ⟨some 165,.mov (.tmp 167),none⟩,
             ⟨some 168,.ext 0 (.tmp 165),none⟩,
             ⟨some 169,.ext 1 (.tmp 165),none⟩,
             ⟨none,.st 7 (.tmp 33) (.tmp 168),none⟩,
             ⟨some 26,.mov (.tmp 169),none⟩]))))))
         .skip))
        (.seq
         (.reg [] [⟨some 170,.mov (.tmp 5),none⟩,
          ⟨some 171,.mov (.tmp 27),none⟩,
          ⟨some 172,.cmp .eql (.tmp 170) (.tmp 171),none⟩,
          ⟨some 173,.mov (.tmp 172),none⟩,
          ⟨some 174,.mov (.tmp 6),some (173,true)⟩,
          ⟨some 175,.mov (.tmp 19),some (173,true)⟩,
          ⟨some 176,.cmp .eql (.tmp 174) (.tmp 175),some (173,true)⟩,
          ⟨some 177,.pick (.tmp 173) (.tmp 176) (.cst (.d (.bool false))),none⟩,
          ⟨some 178,.mov (.tmp 177),none⟩,
          ⟨some 179,.ld true 7 (.tmp 2),some (178,true)⟩,
          ⟨some 180,.call 68 [(.tmp 179)],some (178,true)⟩,
          ⟨some 181,.call 83 [(.tmp 180)],some (178,true)⟩,
          ⟨some 182,.mov (.tmp 20),some (178,true)⟩,
          ⟨some 183,.cmp .eql (.tmp 181) (.tmp 182),some (178,true)⟩,
          ⟨some 184,.pick (.tmp 178) (.tmp 183) (.cst (.d (.bool false))),none⟩,
          ⟨some 185,.mov (.tmp 184),none⟩,
          ⟨some 186,.ld true 7 (.tmp 7),some (185,true)⟩,
          ⟨some 187,.mov (.tmp 8),some (185,true)⟩,
          ⟨some 188,.mov (.tmp 21),some (185,true)⟩,
          ⟨some 189,.ld true 7 (.tmp 28),some (185,true)⟩,
          ⟨some 190,.call 84 [(.tmp 186),(.tmp 187),(.tmp 188),(.tmp 189)],some (185,true)⟩,
          ⟨some 191,.pick (.tmp 185) (.tmp 190) (.cst (.d (.bool false))),none⟩,
          ⟨some 192,.mov (.tmp 191),none⟩,
          ⟨some 193,.ld true 7 (.tmp 9),some (192,true)⟩,
          ⟨some 194,.mov (.tmp 10),some (192,true)⟩,
          ⟨some 195,.mov (.tmp 22),some (192,true)⟩,
          ⟨some 196,.ld true 7 (.tmp 29),some (192,true)⟩,
          ⟨some 197,.call 84 [(.tmp 193),(.tmp 194),(.tmp 195),(.tmp 196)],some (192,true)⟩,
          ⟨some 198,.pick (.tmp 192) (.tmp 197) (.cst (.d (.bool false))),none⟩,
          ⟨some 199,.mov (.tmp 198),none⟩,
          ⟨some 200,.ld true 7 (.tmp 11),some (199,true)⟩,
          ⟨some 201,.mov (.tmp 12),some (199,true)⟩,
          ⟨some 202,.mov (.tmp 23),some (199,true)⟩,
          ⟨some 203,.ld true 7 (.tmp 30),some (199,true)⟩,
          ⟨some 204,.call 84 [(.tmp 200),(.tmp 201),(.tmp 202),(.tmp 203)],some (199,true)⟩,
          ⟨some 205,.pick (.tmp 199) (.tmp 204) (.cst (.d (.bool false))),none⟩,
          ⟨some 206,.mov (.tmp 205),none⟩,
          ⟨some 207,.ld true 7 (.tmp 13),some (206,true)⟩,
          ⟨some 208,.mov (.tmp 14),some (206,true)⟩,
          ⟨some 209,.mov (.tmp 24),some (206,true)⟩,
          ⟨some 210,.ld true 7 (.tmp 31),some (206,true)⟩,
          ⟨some 211,.call 84 [(.tmp 207),(.tmp 208),(.tmp 209),(.tmp 210)],some (206,true)⟩,
          ⟨some 212,.pick (.tmp 206) (.tmp 211) (.cst (.d (.bool false))),none⟩,
          ⟨some 213,.mov (.tmp 212),none⟩,
          ⟨some 214,.ld true 7 (.tmp 15),some (213,true)⟩,
          ⟨some 215,.mov (.tmp 16),some (213,true)⟩,
          ⟨some 216,.mov (.tmp 25),some (213,true)⟩,
          ⟨some 217,.ld true 7 (.tmp 32),some (213,true)⟩,
          ⟨some 218,.call 84 [(.tmp 214),(.tmp 215),(.tmp 216),(.tmp 217)],some (213,true)⟩,
          ⟨some 219,.pick (.tmp 213) (.tmp 218) (.cst (.d (.bool false))),none⟩,
          ⟨some 220,.mov (.tmp 219),none⟩,
          ⟨some 221,.ld true 7 (.tmp 17),some (220,true)⟩,
          ⟨some 222,.mov (.tmp 18),some (220,true)⟩,
          ⟨some 223,.mov (.tmp 26),some (220,true)⟩,
          ⟨some 224,.ld true 7 (.tmp 33),some (220,true)⟩,
          ⟨some 225,.call 84 [(.tmp 221),(.tmp 222),(.tmp 223),(.tmp 224)],some (220,true)⟩,
          ⟨some 226,.pick (.tmp 220) (.tmp 225) (.cst (.d (.bool false))),none⟩,
          ⟨some 227,.mov (.tmp 226),none⟩,
          ⟨some 228,.call 13 [],some (227,true)⟩,
          ⟨some 229,.pick (.tmp 227) (.tmp 228) (.cst (.d (.bool false))),none⟩,
          ⟨some 4,.mov (.tmp 229),none⟩])
         .ret))))))))))))))))⟩
theorem opE_n {s:Sto} (h:chkS s≠0) (e:Int):opE s e=chkS s:=by unfold opE; rw [bne_iff_ne.2 h]; rfl
theorem opS_n {s:Sto} (h:chkS s≠0) (e:Int) (t:Sto):opS s e t=sto0:=opS_t (by rw [opE_n h]; exact h)
theorem opE_0 {s:Sto} (h:chkS s=0) (e:Int):opE s e=e:=by unfold opE; rw [h]; rfl
theorem opS_0 {s:Sto} (h:chkS s=0) (e:Int) (t:Sto):opS s e t=refS e t:=by unfold opS refS; rw [opE_0 h]
theorem ref_len {e:Int} {t:Sto} (h:e=0→t.ps.length≤1048576):(refS e t).ps.length≤1048576:=by
 by_cases h0:e=0
 ·rw [refS_f h0]; exact h h0
 ·rw [refS_t h0]; exact Nat.zero_le _
theorem is_ref (e:Int) (t:Sto) (h:e=0→t.ps.length≤1048576):CallDet Tryz.prog 84 [.d (refS e t).d,.d (.int .i64 e),.d (.int .i64 e),.d (refS e t).d] [.bool true] :=
 c84 _ _ e (ref_len h) (fun _=>rfl) fun h=>refS_t h
theorem law7 (s : Sto) (v n m i : Int) (q : List (List UInt8)) (p : List UInt8) (h : s.ok) (hq : q.length ≤ 1048576) (hq2 : q.flatten.length ≤ 1048576) (hp : p.length ≤ 1048576) :
  CallDet Tryz.prog 7 [.d s.d,.d (.agg [.int .i64 v,.slice 1 (pss q),.int .i64 n,.int .i64 m,.int .i64 i,.slice 1 (bys p)])] [.bool true]:=by
 have hlp:=bys_len p
 have hll:=pss_len s.ps
 have hlq:=pss_len q
 have c64_s:=c64 s.ps h.1
 have c64_q:=c64 q hq
 have c66_:=c66 q hq fun o ho=>by have:=flat_mem ho; omega
 have c65_:=c65 v q hq hq2
 have c74_:=c74 v q hq hq2
 have c76_:=c76 q hq hq2
 have c68_:=c68 s h
 have c67_:=c67 s v n m h
 have c69_:=c69 s i p h hp
 have c70_:=c70 s h
 have c71_:=c71 s h
 have c72_:=c72 s h
 have c73_:=c73 s h
 have c75_:=c75 s h
 have c83_:=c83 s h
 have c77_:=c77 s v n m h
 have c78_:=c78 s i p h hp
 have c79_:=c79 s h
 have c80_:=c80 s
 have c81_:=c81 s
 have c82_:=c82 s
 have hb1:(0+(bys p).length) * 1≤2 ^ 47:=by omega
 have hb2:0+(bys p).length≤2 ^ 47:=by omega
 have f1:=fun h:chkS s=0=>is_ref (begE s v n m) (begS s v n m) fun h=>by
  have:=beg_n h
  show (List.replicate n.toNat ([]:List UInt8)).length≤1048576
  rw [List.length_replicate]; omega
 have c84_2:=is_ref (recE s i p) (recS s i p) fun _=>by rw [rec_len]; exact h.1
 have c84_3:=is_ref (cheE s) (cheS s) fun _=>h.1
 have c84_4:=is_ref (triE s) (triS s) fun _=>h.1
 have c84_5:=is_ref (endE s) (endS s s.ru) fun _=>Nat.zero_le _
 have c84_6:=is_ref (endE s) (endS s s.ol) fun _=>Nat.zero_le _
 generalize shortP s.ps=sh1 at *
 generalize shortP q=sh2 at *
 generalize progE v q=pe at *
 generalize psum q=sv at *
 have b1:(pe==pe)=true:=beq_self_eq_true _
 have b2:(sv==sv)=true:=beq_self_eq_true _
 have b3:(chkS s==chkS s)=true:=beq_self_eq_true _
 by_cases hc:chkS s=0
 ·rw [opE_0 hc,opS_0 hc] at c67_ c69_ c70_ c71_ c72_ c73_
  have n1:(chkS s==0)=true:=beq_iff_eq.2 hc
  have c84_1:=f1 hc
  clear hc f1
  generalize chkS s=c at *
  generalize refS (begE s v n m) (begS s v n m)=A1 at *
  generalize refS (recE s i p) (recS s i p)=A2 at *
  generalize refS (cheE s) (cheS s)=A3 at *
  generalize refS (triE s) (triS s)=A4 at *
  generalize refS (endE s) (endS s s.ru)=A5 at *
  generalize refS (endE s) (endS s s.ol)=A6 at *
  generalize begE s v n m=E1 at *
  generalize recE s i p=E2 at *
  generalize cheE s=E3 at *
  generalize triE s=E4 at *
  generalize endE s=E5 at *
  by_cases he:pe=0
  ·have n2:(pe==0)=true:=beq_iff_eq.2 he
   rw [nE_f he] at c65_
   refine call_of_vc (x:=jr7) (by kernel_rfl) rfl ?_
   refine ca c64_s ?_
   refine b_intro (fun t1=>?_) (fun t1=>?_)
   refine sd ?_
   refine sd ?_
   refine ca (c13) ?_
   exact rfl
   refine ca c64_q ?_
   refine b_intro (fun t2=>?_) (fun t2=>?_)
   replace t2:(!sh2)=true:=t2
   refine sd ?_
   refine ca (c13) ?_
   exact rfl
   replace t2:(!sh2)=false:=t2
   refine sd ?_
   refine b_lt (fun t3=>?_) (fun t3=>?_)
   refine ca (c13) ?_
   exact rfl
   refine ca c66_ ?_
   refine ca c65_ ?_
   refine ca c68_ ?_
   refine ca c67_ ?_
   refine ca c68_ ?_
   refine sd ?_
   refine sd ?_
   refine an ?_ ?_
   refine an ?_ ?_
   exact rfl
   refine an ?_ ?_
   exact rfl
   refine an ?_ ?_
   exact rfl
   refine an ?_ ?_
   assumption
   assumption
   refine sd ?_
   refine ca c69_ ?_
   refine ca c68_ ?_
   refine ca c70_ ?_
   refine ca c68_ ?_
   refine ca c71_ ?_
   refine ca c68_ ?_
   refine ca c72_ ?_
   refine ca c68_ ?_
   refine ca c73_ ?_
   refine ca c74_ ?_
   refine ca c75_ ?_
   refine sd ?_
   refine b_t n2 ?_
   refine ca c76_ ?_
   refine sd ?_
   refine b_t n1 ?_
   refine ca c77_ ?_
   refine ca c78_ ?_
   refine ca c79_ ?_
   refine ca c80_ ?_
   refine ca c81_ ?_
   refine ca c82_ ?_
   refine sd ?_
   refine b_t b2 ?_
   refine sd ?_
   refine b_t b1 ?_
   refine ca c68_ ?_
   refine ca c83_ ?_
   refine sd ?_
   refine b_t b3 ?_
   refine ca c84_1 ?_
   refine ca c84_2 ?_
   refine ca c84_3 ?_
   refine ca c84_4 ?_
   refine ca c84_5 ?_
   refine ca c84_6 ?_
   refine ca (c13) ?_
   exact rfl
  ·have n2:(pe==0)=false:=beq_eq_false_iff_ne.2 he
   rw [nE_t he] at c65_
   refine call_of_vc (x:=jr7) (by kernel_rfl) rfl ?_
   refine ca c64_s ?_
   refine b_intro (fun t1=>?_) (fun t1=>?_)
   refine sd ?_
   refine sd ?_
   refine ca (c13) ?_
   exact rfl
   refine ca c64_q ?_
   refine b_intro (fun t2=>?_) (fun t2=>?_)
   replace t2:(!sh2)=true:=t2
   refine sd ?_
   refine ca (c13) ?_
   exact rfl
   replace t2:(!sh2)=false:=t2
   refine sd ?_
   refine b_lt (fun t3=>?_) (fun t3=>?_)
   refine ca (c13) ?_
   exact rfl
   refine ca c66_ ?_
   refine ca c65_ ?_
   refine ca c68_ ?_
   refine ca c67_ ?_
   refine ca c68_ ?_
   refine sd ?_
   refine sd ?_
   refine an ?_ ?_
   refine an ?_ ?_
   exact rfl
   refine an ?_ ?_
   exact rfl
   refine an ?_ ?_
   exact rfl
   refine an ?_ ?_
   assumption
   assumption
   refine sd ?_
   refine ca c69_ ?_
   refine ca c68_ ?_
   refine ca c70_ ?_
   refine ca c68_ ?_
   refine ca c71_ ?_
   refine ca c68_ ?_
   refine ca c72_ ?_
   refine ca c68_ ?_
   refine ca c73_ ?_
   refine ca c74_ ?_
   refine ca c75_ ?_
   refine sd ?_
   refine b_f n2 ?_
   refine sd ?_
   refine b_t n1 ?_
   refine ca c77_ ?_
   refine ca c78_ ?_
   refine ca c79_ ?_
   refine ca c80_ ?_
   refine ca c81_ ?_
   refine ca c82_ ?_
   refine sd ?_
   refine sd ?_
   refine b_t b1 ?_
   refine ca c68_ ?_
   refine ca c83_ ?_
   refine sd ?_
   refine b_t b3 ?_
   refine ca c84_1 ?_
   refine ca c84_2 ?_
   refine ca c84_3 ?_
   refine ca c84_4 ?_
   refine ca c84_5 ?_
   refine ca c84_6 ?_
   refine ca (c13) ?_
   exact rfl
 ·rw [opE_n hc,opS_n hc] at c67_ c69_ c70_ c71_ c72_ c73_
  have n1:(chkS s==0)=false:=beq_eq_false_iff_ne.2 hc
  clear f1 c84_2 c84_3 c84_4 c84_5 c84_6 c77_ c78_ c79_ c80_ c81_ c82_
  have c84_1:CallDet Tryz.prog 84 [.d sto0.d,.d (.int .i64 (chkS s)),.d (.int .i64 (chkS s)),.d sto0.d] [.bool true]:=c84 sto0 sto0 _ (Nat.zero_le _) (fun _=>rfl) fun _=>rfl
  clear hc
  generalize chkS s=c at *
  by_cases he:pe=0
  ·have n2:(pe==0)=true:=beq_iff_eq.2 he
   rw [nE_f he] at c65_
   refine call_of_vc (x:=jr7) (by kernel_rfl) rfl ?_
   refine ca c64_s ?_
   refine b_intro (fun t1=>?_) (fun t1=>?_)
   refine sd ?_
   refine sd ?_
   refine ca (c13) ?_
   exact rfl
   refine ca c64_q ?_
   refine b_intro (fun t2=>?_) (fun t2=>?_)
   replace t2:(!sh2)=true:=t2
   refine sd ?_
   refine ca (c13) ?_
   exact rfl
   replace t2:(!sh2)=false:=t2
   refine sd ?_
   refine b_lt (fun t3=>?_) (fun t3=>?_)
   refine ca (c13) ?_
   exact rfl
   refine ca c66_ ?_
   refine ca c65_ ?_
   refine ca c68_ ?_
   refine ca c67_ ?_
   refine ca c68_ ?_
   refine sd ?_
   refine sd ?_
   refine an ?_ ?_
   refine an ?_ ?_
   exact rfl
   refine an ?_ ?_
   exact rfl
   refine an ?_ ?_
   exact rfl
   refine an ?_ ?_
   assumption
   assumption
   refine sd ?_
   refine ca c69_ ?_
   refine ca c68_ ?_
   refine ca c70_ ?_
   refine ca c68_ ?_
   refine ca c71_ ?_
   refine ca c68_ ?_
   refine ca c72_ ?_
   refine ca c68_ ?_
   refine ca c73_ ?_
   refine ca c74_ ?_
   refine ca c75_ ?_
   refine sd ?_
   refine b_t n2 ?_
   refine ca c76_ ?_
   refine sd ?_
   refine b_f n1 ?_
   refine sd ?_
   refine b_t b2 ?_
   refine sd ?_
   refine b_t b1 ?_
   refine ca c68_ ?_
   refine ca c83_ ?_
   refine sd ?_
   refine b_t b3 ?_
   refine ca c84_1 ?_
   refine ca c84_1 ?_
   refine ca c84_1 ?_
   refine ca c84_1 ?_
   refine ca c84_1 ?_
   refine ca c84_1 ?_
   refine ca (c13) ?_
   exact rfl
  ·have n2:(pe==0)=false:=beq_eq_false_iff_ne.2 he
   rw [nE_t he] at c65_
   refine call_of_vc (x:=jr7) (by kernel_rfl) rfl ?_
   refine ca c64_s ?_
   refine b_intro (fun t1=>?_) (fun t1=>?_)
   refine sd ?_
   refine sd ?_
   refine ca (c13) ?_
   exact rfl
   refine ca c64_q ?_
   refine b_intro (fun t2=>?_) (fun t2=>?_)
   replace t2:(!sh2)=true:=t2
   refine sd ?_
   refine ca (c13) ?_
   exact rfl
   replace t2:(!sh2)=false:=t2
   refine sd ?_
   refine b_lt (fun t3=>?_) (fun t3=>?_)
   refine ca (c13) ?_
   exact rfl
   refine ca c66_ ?_
   refine ca c65_ ?_
   refine ca c68_ ?_
   refine ca c67_ ?_
   refine ca c68_ ?_
   refine sd ?_
   refine sd ?_
   refine an ?_ ?_
   refine an ?_ ?_
   exact rfl
   refine an ?_ ?_
   exact rfl
   refine an ?_ ?_
   exact rfl
   refine an ?_ ?_
   assumption
   assumption
   refine sd ?_
   refine ca c69_ ?_
   refine ca c68_ ?_
   refine ca c70_ ?_
   refine ca c68_ ?_
   refine ca c71_ ?_
   refine ca c68_ ?_
   refine ca c72_ ?_
   refine ca c68_ ?_
   refine ca c73_ ?_
   refine ca c74_ ?_
   refine ca c75_ ?_
   refine sd ?_
   refine b_f n2 ?_
   refine sd ?_
   refine b_f n1 ?_
   refine sd ?_
   refine sd ?_
   refine b_t b1 ?_
   refine ca c68_ ?_
   refine ca c83_ ?_
   refine sd ?_
   refine b_t b3 ?_
   refine ca c84_1 ?_
   refine ca c84_1 ?_
   refine ca c84_1 ?_
   refine ca c84_1 ?_
   refine ca c84_1 ?_
   refine ca c84_1 ?_
   refine ca (c13) ?_
   exact rfl
end Vc
