import Derived.Test.YtkghjijnlnnfkaaGreatDoorG20
import Derived.Test.YtkghjijnlnnfkaaGreatDoorG25
set_option linter.unusedSectionVars false
set_option linter.unusedVariables false
set_option linter.unusedSimpArgs false
set_option maxRecDepth 10000
set_option maxHeartbeats 4000000
namespace Vc
open Go Go.Proofs
@[irreducible] def seg10a:ACode:=(.loop
 (.post [1,7,9,10,180] []
 (.seq
 (.reg [] [⟨some 181,.cmp .lss (.tmp 180) (.cst (.d (.int .i64 5))),none⟩])
 (.seq
 (.cond (.tmp 181)
 .skip
 (.exit 0))
 (.seq
 (.block 1
 (.seq
 (.reg [] [⟨some 182,.mov (.tmp 180),none⟩,
 ⟨some 22,.mov (.tmp 182),none⟩])
 (.seq
 (.reg [] [⟨some 183,.mov (.tmp 7),none⟩,
 ⟨some 184,.mov (.tmp 10),none⟩,
 ⟨some 185,.mov (.tmp 7),none⟩,
 ⟨some 186,.arith .sub .i64 (.tmp 184) (.tmp 185),none⟩,
 ⟨some 187,.mov (.tmp 22),none⟩,
 ⟨some 188,.arith .mul .i64 (.tmp 186) (.tmp 187),none⟩,
 ⟨some 189,.arith .quo .i64 (.tmp 188) (.cst (.d (.int .i64 5))),none⟩,
 ⟨some 190,.arith .add .i64 (.tmp 183) (.tmp 189),none⟩,
 ⟨some 23,.mov (.tmp 190),none⟩])
 (.seq
 (.reg [] [⟨some 191,.mov (.tmp 23),none⟩,
 ⟨some 192,.mov (.tmp 10),none⟩,
 ⟨some 193,.cmp .lss (.tmp 191) (.tmp 192),none⟩])
 (.cond (.tmp 193)
 (.seq
 (.reg [] [⟨some 195,.mov (.tmp 1),none⟩,
 ⟨some 196,.call 47 [(.tmp 195)],none⟩,
 ⟨some 197,.mov (.tmp 23),none⟩,
 ⟨some 198,.call 46 [(.tmp 196),(.tmp 197)],none⟩,
 ⟨some 194,.mov (.tmp 198),none⟩,
 ⟨some 199,.ext 0 (.tmp 194),none⟩,
 ⟨some 200,.ext 1 (.tmp 194),none⟩,
 ⟨some 24,.mov (.tmp 199),none⟩,
 ⟨some 25,.mov (.tmp 200),none⟩])
 (.seq
 (.reg [] [⟨some 201,.mov (.tmp 25),none⟩,
 ⟨some 202,.cmp .neq (.tmp 201) (.cst (.d (.int .i64 0))),none⟩,
 ⟨some 203,.mov (.tmp 202),none⟩,
 ⟨some 204,.mov (.tmp 24),some (203,false)⟩,
 ⟨some 205,.not (.tmp 204),some (203,false)⟩,
 ⟨some 206,.pick (.tmp 203) (.cst (.d (.bool true))) (.tmp 205),none⟩])
 (.cond (.tmp 206)
 (.seq
 (.reg [] [⟨some 6,.mov (.cst (.d (.bool false))),none⟩])
 .ret)
 .skip)))
 .skip)))))
 (.reg [] [⟨some 207,.arith .add .i64 (.tmp 180) (.cst (.d (.int .i64 1))),none⟩,
 ⟨some 180,.mov (.tmp 207),none⟩]))))))
@[irreducible] def seg10b:ACode:=(.loop
 (.post [1,7,9,10,26,209] [3]
 (.seq
 (.reg [] [⟨some 210,.cmp .lss (.tmp 209) (.cst (.d (.int .i64 3))),none⟩])
 (.seq
 (.cond (.tmp 210)
 .skip
 (.exit 2))
 (.seq
 (.block 3
 (.seq
 (.reg [3] [⟨some 212,.ld true 3 (.tmp 26),none⟩,
 ⟨some 213,.mov (.tmp 7),none⟩,
 ⟨some 214,.call 70 [(.tmp 212),(.cst (.d (.str [103,114,105,100]))),(.tmp 213)],none⟩,
 ⟨some 211,.mov (.tmp 214),none⟩,
 ⟨some 215,.ext 0 (.tmp 211),none⟩,
 ⟨some 216,.ext 1 (.tmp 211),none⟩,
 ⟨some 27,.alloc 3 [(.d (.bool false)),(.d (.bool false)),(.nils 2)],none⟩,
 ⟨none,.st 3 (.tmp 27) (.tmp 215),none⟩,
 ⟨some 28,.mov (.tmp 216),none⟩])
 (.seq
 (.seq
 (.reg [] [⟨some 217,.mov (.tmp 28),none⟩,
 ⟨some 218,.cmp .neq (.tmp 217) (.cst (.d (.int .i64 0))),none⟩,
 ⟨some 219,.mov (.tmp 218),none⟩,
 ⟨some 220,.fad 2 (.tmp 27),some (219,false)⟩,
 ⟨some 221,.ld false 1 (.tmp 220),some (219,false)⟩,
 ⟨some 222,.len (.tmp 221),some (219,false)⟩,
 ⟨some 223,.cmp .neq (.tmp 222) (.cst (.d (.int .i64 1))),some (219,false)⟩,
 ⟨some 224,.pick (.tmp 219) (.cst (.d (.bool true))) (.tmp 223),none⟩])
 (.cond (.tmp 224)
 (.seq
 (.reg [] [⟨some 6,.mov (.cst (.d (.bool false))),none⟩])
 .ret)
 .skip))
 (.reg [] [⟨some 225,.ld true 3 (.tmp 27),none⟩,
 ⟨none,.st 3 (.tmp 26) (.tmp 225),none⟩]))))
 (.reg [] [⟨some 226,.arith .add .i64 (.tmp 209) (.cst (.d (.int .i64 1))),none⟩,
 ⟨some 209,.mov (.tmp 226),none⟩]))))))
@[irreducible] def seg10:ACode:=(.seq
 (.reg [] [⟨some 150,.mov (.tmp 1),none⟩,
 ⟨some 151,.call 47 [(.tmp 150)],none⟩,
 ⟨some 152,.mov (.tmp 10),none⟩,
 ⟨some 153,.call 46 [(.tmp 151),(.tmp 152)],none⟩,
 ⟨some 149,.mov (.tmp 153),none⟩,
 ⟨some 154,.ext 0 (.tmp 149),none⟩,
 ⟨some 155,.ext 1 (.tmp 149),none⟩,
 ⟨some 18,.mov (.tmp 154),none⟩,
 ⟨some 19,.mov (.tmp 155),none⟩])
 (.seq
 (.reg [] [⟨some 157,.mov (.tmp 1),none⟩,
 ⟨some 158,.call 47 [(.tmp 157)],none⟩,
 ⟨some 159,.mov (.tmp 10),none⟩,
 ⟨some 160,.call 48 [(.tmp 158),(.tmp 159)],none⟩,
 ⟨some 156,.mov (.tmp 160),none⟩,
 ⟨some 161,.ext 0 (.tmp 156),none⟩,
 ⟨some 162,.ext 1 (.tmp 156),none⟩,
 ⟨some 20,.mov (.tmp 161),none⟩,
 ⟨some 21,.mov (.tmp 162),none⟩])
 (.seq
 (.seq
 (.reg [] [⟨some 163,.mov (.tmp 19),none⟩,
 ⟨some 164,.mov (.tmp 21),none⟩,
 ⟨some 165,.arith .add .i64 (.tmp 163) (.tmp 164),none⟩,
 ⟨some 166,.cmp .neq (.tmp 165) (.cst (.d (.int .i64 0))),none⟩,
 ⟨some 167,.mov (.tmp 166),none⟩,
 ⟨some 168,.mov (.tmp 18),some (167,false)⟩,
 ⟨some 169,.pick (.tmp 167) (.cst (.d (.bool true))) (.tmp 168),none⟩,
 ⟨some 170,.mov (.tmp 169),none⟩,
 ⟨some 171,.mov (.tmp 20),some (170,false)⟩,
 ⟨some 172,.mov (.tmp 10),some (170,false)⟩,
 ⟨some 173,.cmp .neq (.tmp 171) (.tmp 172),some (170,false)⟩,
 ⟨some 174,.pick (.tmp 170) (.cst (.d (.bool true))) (.tmp 173),none⟩,
 ⟨some 175,.mov (.tmp 174),none⟩,
 ⟨some 176,.mov (.tmp 10),some (175,false)⟩,
 ⟨some 177,.mov (.tmp 7),some (175,false)⟩,
 ⟨some 178,.cmp .lss (.tmp 176) (.tmp 177),some (175,false)⟩,
 ⟨some 179,.pick (.tmp 175) (.cst (.d (.bool true))) (.tmp 178),none⟩])
 (.cond (.tmp 179)
 (.seq
 (.reg [] [⟨some 6,.mov (.cst (.d (.bool false))),none⟩])
 .ret)
 .skip))
 (.seq
 (.seq
 (.reg [] [⟨some 180,.mov (.cst (.d (.int .i64 0))),none⟩])
 (.post [1,7,9,10] [0,1]
 (.block 0
 (.keep [1,7,9,10,180] [0,1]
 seg10a))))
 (.seq
 (.reg [2] [⟨some 208,.build [(.d (.bool false)),(.d (.bool false)),(.nils 2)] [(0,1,(.cst (.d (.bool true))))],none⟩,
 ⟨some 26,.alloc 2 [(.d (.bool false)),(.d (.bool false)),(.nils 2)],none⟩,
 ⟨none,.st 3 (.tmp 26) (.tmp 208),none⟩])
 (.seq
 (.seq
 (.reg [] [⟨some 209,.mov (.cst (.d (.int .i64 0))),none⟩])
 (.post [1,7,9,10,26] [0,1,2,3]
 (.block 2
 (.keep [1,7,9,10,26,209] [0,1,2]
 seg10b))))
 (.seq
 (.reg [4] [⟨some 228,.ld true 3 (.tmp 26),none⟩,
 ⟨some 229,.call 71 [(.tmp 228)],none⟩,
 ⟨some 230,.call 58 [(.tmp 229)],none⟩,
 ⟨some 231,.mov (.tmp 1),none⟩,
 ⟨some 232,.call 47 [(.tmp 231)],none⟩,
 ⟨some 233,.mov (.tmp 7),none⟩,
 ⟨some 234,.mov (.tmp 9),none⟩,
 ⟨some 235,.call 59 [(.tmp 230),(.tmp 232),(.tmp 233),(.tmp 234)],none⟩,
 ⟨some 227,.mov (.tmp 235),none⟩,
 ⟨some 236,.ext 0 (.tmp 227),none⟩,
 ⟨some 237,.ext 1 (.tmp 227),none⟩,
 ⟨some 29,.alloc 4 [(.d (.bool false)),(.d (.bool false)),(.nils 2)],none⟩,
 ⟨none,.st 3 (.tmp 29) (.tmp 236),none⟩,
 ⟨some 30,.mov (.tmp 237),none⟩])
 (.seq
 (.reg [5] [⟨some 239,.ld true 3 (.tmp 26),none⟩,
 ⟨some 240,.call 71 [(.tmp 239)],none⟩,
 ⟨some 241,.call 58 [(.tmp 240)],none⟩,
 ⟨some 242,.mov (.tmp 7),none⟩,
 ⟨some 243,.call 70 [(.tmp 241),(.cst (.d (.str [115,97,108,101,115]))),(.tmp 242)],none⟩,
 ⟨some 238,.mov (.tmp 243),none⟩,
 ⟨some 244,.ext 0 (.tmp 238),none⟩,
 ⟨some 245,.ext 1 (.tmp 238),none⟩,
 ⟨some 31,.alloc 5 [(.d (.bool false)),(.d (.bool false)),(.nils 2)],none⟩,
 ⟨none,.st 3 (.tmp 31) (.tmp 244),none⟩,
 ⟨some 32,.mov (.tmp 245),none⟩])
 (.seq
 (.reg [6] [⟨some 247,.ld true 3 (.tmp 31),none⟩,
 ⟨some 248,.call 71 [(.tmp 247)],none⟩,
 ⟨some 249,.call 58 [(.tmp 248)],none⟩,
 ⟨some 250,.mov (.tmp 1),none⟩,
 ⟨some 251,.call 47 [(.tmp 250)],none⟩,
 ⟨some 252,.mov (.tmp 10),none⟩,
 ⟨some 253,.mov (.tmp 10),none⟩,
 ⟨some 254,.mov (.tmp 7),none⟩,
 ⟨some 255,.arith .sub .i64 (.tmp 253) (.tmp 254),none⟩,
 ⟨some 256,.call 59 [(.tmp 249),(.tmp 251),(.tmp 252),(.tmp 255)],none⟩,
 ⟨some 246,.mov (.tmp 256),none⟩,
 ⟨some 257,.ext 0 (.tmp 246),none⟩,
 ⟨some 258,.ext 1 (.tmp 246),none⟩,
 ⟨some 33,.alloc 6 [(.d (.bool false)),(.d (.bool false)),(.nils 2)],none⟩,
 ⟨none,.st 3 (.tmp 33) (.tmp 257),none⟩,
 ⟨some 34,.mov (.tmp 258),none⟩])
 (.seq
 (.reg [7] [⟨some 260,.ld true 3 (.tmp 31),none⟩,
 ⟨some 261,.call 71 [(.tmp 260)],none⟩,
 ⟨some 262,.call 58 [(.tmp 261)],none⟩,
 ⟨some 263,.mov (.tmp 1),none⟩,
 ⟨some 264,.call 47 [(.tmp 263)],none⟩,
 ⟨some 265,.mov (.tmp 10),none⟩,
 ⟨some 266,.call 59 [(.tmp 262),(.tmp 264),(.tmp 265),(.cst (.d (.int .i64 1000000)))],none⟩,
 ⟨some 259,.mov (.tmp 266),none⟩,
 ⟨some 267,.ext 0 (.tmp 259),none⟩,
 ⟨some 268,.ext 1 (.tmp 259),none⟩,
 ⟨some 35,.alloc 7 [(.d (.bool false)),(.d (.bool false)),(.nils 2)],none⟩,
 ⟨none,.st 3 (.tmp 35) (.tmp 267),none⟩,
 ⟨some 36,.mov (.tmp 268),none⟩])
 (.seq
 (.seq
 (.reg [] [⟨some 269,.mov (.tmp 10),none⟩,
 ⟨some 270,.mov (.tmp 7),none⟩,
 ⟨some 271,.cmp .gtr (.tmp 269) (.tmp 270),none⟩,
 ⟨some 272,.mov (.tmp 271),none⟩,
 ⟨some 273,.mov (.tmp 30),some (272,true)⟩,
 ⟨some 274,.cmp .neq (.tmp 273) (.cst (.d (.int .i64 31))),some (272,true)⟩,
 ⟨some 275,.pick (.tmp 272) (.tmp 274) (.cst (.d (.bool false))),none⟩,
 ⟨some 276,.mov (.tmp 275),none⟩,
 ⟨some 277,.mov (.tmp 10),some (276,false)⟩,
 ⟨some 278,.mov (.tmp 7),some (276,false)⟩,
 ⟨some 279,.cmp .eql (.tmp 277) (.tmp 278),some (276,false)⟩,
 ⟨some 280,.mov (.tmp 279),some (276,false)⟩,
 ⟨some 281,.mov (.tmp 30),some (280,true)⟩,
 ⟨some 282,.cmp .neq (.tmp 281) (.cst (.d (.int .i64 30))),some (280,true)⟩,
 ⟨some 283,.pick (.tmp 280) (.tmp 282) (.cst (.d (.bool false))),some (276,false)⟩,
 ⟨some 284,.pick (.tmp 276) (.cst (.d (.bool true))) (.tmp 283),none⟩,
 ⟨some 285,.mov (.tmp 284),none⟩,
 ⟨some 286,.mov (.tmp 32),some (285,false)⟩,
 ⟨some 287,.cmp .neq (.tmp 286) (.cst (.d (.int .i64 0))),some (285,false)⟩,
 ⟨some 288,.pick (.tmp 285) (.cst (.d (.bool true))) (.tmp 287),none⟩,
 ⟨some 289,.mov (.tmp 288),none⟩,
 ⟨some 290,.mov (.tmp 10),some (289,false)⟩,
 ⟨some 291,.mov (.tmp 7),some (289,false)⟩,
 ⟨some 292,.arith .sub .i64 (.tmp 290) (.tmp 291),some (289,false)⟩,
 ⟨some 293,.cmp .leq (.tmp 292) (.cst (.d (.int .i64 1000000))),some (289,false)⟩,
 ⟨some 294,.mov (.tmp 293),some (289,false)⟩,
 ⟨some 295,.mov (.tmp 34),some (294,true)⟩,
 ⟨some 296,.cmp .neq (.tmp 295) (.cst (.d (.int .i64 0))),some (294,true)⟩,
 ⟨some 297,.pick (.tmp 294) (.tmp 296) (.cst (.d (.bool false))),some (289,false)⟩,
 ⟨some 298,.pick (.tmp 289) (.cst (.d (.bool true))) (.tmp 297),none⟩,
 ⟨some 299,.mov (.tmp 298),none⟩,
 ⟨some 300,.mov (.tmp 36),some (299,false)⟩,
 ⟨some 301,.cmp .neq (.tmp 300) (.cst (.d (.int .i64 0))),some (299,false)⟩,
 ⟨some 302,.pick (.tmp 299) (.cst (.d (.bool true))) (.tmp 301),none⟩,
 ⟨some 303,.mov (.tmp 302),none⟩,
 ⟨some 304,.fad 0 (.tmp 35),some (303,false)⟩,
 ⟨some 305,.ld false 1 (.tmp 304),some (303,false)⟩,
 ⟨some 306,.pick (.tmp 303) (.cst (.d (.bool true))) (.tmp 305),none⟩])
 (.cond (.tmp 306)
 (.seq
 (.reg [] [⟨some 6,.mov (.cst (.d (.bool false))),none⟩])
 .ret)
 .skip))
 (.seq
 (.seq
 (.reg [] [⟨some 307,.mov (.tmp 10),none⟩,
 ⟨some 308,.mov (.tmp 7),none⟩,
 ⟨some 309,.cmp .gtr (.tmp 307) (.tmp 308),none⟩])
 (.cond (.tmp 309)
 (.seq
 (.reg [8] [⟨some 311,.ld true 3 (.tmp 31),none⟩,
 ⟨some 312,.call 71 [(.tmp 311)],none⟩,
 ⟨some 313,.call 58 [(.tmp 312)],none⟩,
 ⟨some 314,.mov (.tmp 1),none⟩,
 ⟨some 315,.call 47 [(.tmp 314)],none⟩,
 ⟨some 316,.mov (.tmp 10),none⟩,
 ⟨some 317,.mov (.tmp 10),none⟩,
 ⟨some 318,.mov (.tmp 7),none⟩,
 ⟨some 319,.arith .sub .i64 (.tmp 317) (.tmp 318),none⟩,
 ⟨some 320,.arith .sub .i64 (.tmp 319) (.cst (.d (.int .i64 1))),none⟩,
 ⟨some 321,.call 59 [(.tmp 313),(.tmp 315),(.tmp 316),(.tmp 320)],none⟩,
 ⟨some 310,.mov (.tmp 321),none⟩,
 ⟨some 322,.ext 0 (.tmp 310),none⟩,
 ⟨some 323,.ext 1 (.tmp 310),none⟩,
 ⟨some 37,.alloc 8 [(.d (.bool false)),(.d (.bool false)),(.nils 2)],none⟩,
 ⟨none,.st 3 (.tmp 37) (.tmp 322),none⟩,
 ⟨some 38,.mov (.tmp 323),none⟩])
 (.seq
 (.reg [] [⟨some 324,.mov (.tmp 38),none⟩,
 ⟨some 325,.cmp .neq (.tmp 324) (.cst (.d (.int .i64 30))),none⟩])
 (.cond (.tmp 325)
 (.seq
 (.reg [] [⟨some 6,.mov (.cst (.d (.bool false))),none⟩])
 .ret)
 .skip)))
 .skip))
 (.seq
 (.reg [9] [⟨some 327,.ld true 3 (.tmp 35),none⟩,
 ⟨some 328,.call 72 [(.tmp 327)],none⟩,
 ⟨some 326,.mov (.tmp 328),none⟩,
 ⟨some 329,.ext 0 (.tmp 326),none⟩,
 ⟨some 330,.ext 1 (.tmp 326),none⟩,
 ⟨some 39,.alloc 9 [(.d (.bool false)),(.d (.bool false)),(.nils 2)],none⟩,
 ⟨none,.st 3 (.tmp 39) (.tmp 329),none⟩,
 ⟨some 40,.mov (.tmp 330),none⟩])
 (.seq
 (.reg [10] [⟨some 332,.ld true 3 (.tmp 35),none⟩,
 ⟨some 333,.call 71 [(.tmp 332)],none⟩,
 ⟨some 334,.call 58 [(.tmp 333)],none⟩,
 ⟨some 335,.call 73 [(.tmp 334)],none⟩,
 ⟨some 331,.mov (.tmp 335),none⟩,
 ⟨some 336,.ext 0 (.tmp 331),none⟩,
 ⟨some 337,.ext 1 (.tmp 331),none⟩,
 ⟨some 41,.alloc 10 [(.d (.bool false)),(.d (.bool false)),(.nils 2)],none⟩,
 ⟨none,.st 3 (.tmp 41) (.tmp 336),none⟩,
 ⟨some 42,.mov (.tmp 337),none⟩])
 (.seq
 (.reg [11] [⟨some 339,.ld true 3 (.tmp 41),none⟩,
 ⟨some 340,.call 71 [(.tmp 339)],none⟩,
 ⟨some 341,.call 58 [(.tmp 340)],none⟩,
 ⟨some 342,.call 72 [(.tmp 341)],none⟩,
 ⟨some 338,.mov (.tmp 342),none⟩,
 ⟨some 343,.ext 0 (.tmp 338),none⟩,
 ⟨some 344,.ext 1 (.tmp 338),none⟩,
 ⟨some 43,.alloc 11 [(.d (.bool false)),(.d (.bool false)),(.nils 2)],none⟩,
 ⟨none,.st 3 (.tmp 43) (.tmp 343),none⟩,
 ⟨some 44,.mov (.tmp 344),none⟩])
 (.seq
 (.reg [12] [⟨some 346,.ld true 3 (.tmp 43),none⟩,
 ⟨some 347,.call 71 [(.tmp 346)],none⟩,
 ⟨some 348,.call 58 [(.tmp 347)],none⟩,
 ⟨some 349,.mov (.tmp 1),none⟩,
 ⟨some 350,.call 47 [(.tmp 349)],none⟩,
 ⟨some 351,.mov (.tmp 10),none⟩,
 ⟨some 352,.call 59 [(.tmp 348),(.tmp 350),(.tmp 351),(.cst (.d (.int .i64 1000000)))],none⟩,
 ⟨some 345,.mov (.tmp 352),none⟩,
 ⟨some 353,.ext 0 (.tmp 345),none⟩,
 ⟨some 354,.ext 1 (.tmp 345),none⟩,
 ⟨some 45,.alloc 12 [(.d (.bool false)),(.d (.bool false)),(.nils 2)],none⟩,
 ⟨none,.st 3 (.tmp 45) (.tmp 353),none⟩,
 ⟨some 46,.mov (.tmp 354),none⟩])
 (.seq
 (.reg [] [⟨some 355,.mov (.tmp 40),none⟩,
 ⟨some 356,.cmp .eql (.tmp 355) (.cst (.d (.int .i64 29))),none⟩,
 ⟨some 357,.mov (.tmp 356),none⟩,
 ⟨some 358,.mov (.tmp 42),some (357,true)⟩,
 ⟨some 359,.cmp .eql (.tmp 358) (.cst (.d (.int .i64 0))),some (357,true)⟩,
 ⟨some 360,.pick (.tmp 357) (.tmp 359) (.cst (.d (.bool false))),none⟩,
 ⟨some 361,.mov (.tmp 360),none⟩,
 ⟨some 362,.mov (.tmp 44),some (361,true)⟩,
 ⟨some 363,.cmp .eql (.tmp 362) (.cst (.d (.int .i64 0))),some (361,true)⟩,
 ⟨some 364,.pick (.tmp 361) (.tmp 363) (.cst (.d (.bool false))),none⟩,
 ⟨some 365,.mov (.tmp 364),none⟩,
 ⟨some 366,.fad 0 (.tmp 43),some (365,true)⟩,
 ⟨some 367,.ld false 1 (.tmp 366),some (365,true)⟩,
 ⟨some 368,.pick (.tmp 365) (.tmp 367) (.cst (.d (.bool false))),none⟩,
 ⟨some 369,.mov (.tmp 368),none⟩,
 ⟨some 370,.fad 2 (.tmp 43),some (369,true)⟩,
 ⟨some 371,.ld false 1 (.tmp 370),some (369,true)⟩,
 ⟨some 372,.len (.tmp 371),some (369,true)⟩,
 ⟨some 373,.cmp .eql (.tmp 372) (.cst (.d (.int .i64 0))),some (369,true)⟩,
 ⟨some 374,.pick (.tmp 369) (.tmp 373) (.cst (.d (.bool false))),none⟩,
 ⟨some 375,.mov (.tmp 374),none⟩,
 ⟨some 376,.mov (.tmp 46),some (375,true)⟩,
 ⟨some 377,.cmp .eql (.tmp 376) (.cst (.d (.int .i64 30))),some (375,true)⟩,
 ⟨some 378,.pick (.tmp 375) (.tmp 377) (.cst (.d (.bool false))),none⟩,
 ⟨some 379,.mov (.tmp 378),none⟩,
 ⟨some 380,.call 15 [],some (379,true)⟩,
 ⟨some 381,.pick (.tmp 379) (.tmp 380) (.cst (.d (.bool false))),none⟩,
 ⟨some 6,.mov (.tmp 381),none⟩])
 .ret)))))))))))))))))
theorem fr_spec {l:List Hr}:∀ (n:Nat) (t:Int),0≤t→fr l t n=-1∨((t≤fr l t n∧fr l t n < t+n)∧prL l (fr l t n)=false∧∀ u,t≤u→u < fr l t n→prL l u=true)
 | 0,_,_=>.inl rfl
 | n+1,t,h=>by
  rw [fr]
  cases e:prL l t with
  | false=>exact .inr ⟨⟨Int.le_refl _,by show t < t+((n+1:Nat):Int); omega⟩,e,fun u h1 h2=>by have h2:u < t:=h2; omega⟩
  | true =>
   show fr l (t+1) n=-1∨_
   rcases fr_spec n (t+1) (by omega) with h | ⟨⟨h1,h2⟩,h3,h4⟩
   ·exact .inl h
   ·refine .inr ⟨⟨by show t≤fr l (t+1) n; omega,by show fr l (t+1) n < t+((n+1:Nat):Int); omega⟩,h3,fun u h5 h6=>?_⟩
    by_cases hu:u=t
    ·rw [hu]; exact e
    ·exact h4 u (by omega) h6
theorem frA_spec {l:List Hr} {t v:Int} (h0:0≤t) (h:frA l t=v) (hv:¬ v < 0):(t≤v∧v < t+691200)∧v≤100000000∧prL l v=false∧∀ u,t≤u→u < v→prL l u=true:=by
 unfold frA at h
 by_cases hm:fr l t 691200≤100000000
 ·rw [decide_eq_true hm] at h
  have h:fr l t 691200=v:=h
  rcases fr_spec (l:=l) 691200 t h0 with e | ⟨⟨h1,h2⟩,h3,h4⟩
  ·omega
  ·rw [h] at h1 h2 h3 h4 hm
   exact ⟨⟨h1,by omega⟩,hm,h3,h4⟩
 ·rw [decide_eq_false hm] at h
  have h:(-1:Int)=v:=h
  omega
theorem frA_self {l:List Hr} {v:Int} (h0:0≤v) (h1:v≤100000000) (h:prL l v=false):frA l v=v :=
 frA_some h0 (fun u h1 h2=>by omega) (Int.le_refl _) h1 (by omega) h
theorem within_in {n a b:Int} (h:a≤n) (h2:n≤b):within3 n a b=0:=by
 unfold within3
 rw [decide_eq_false (by omega),decide_eq_false (by omega)]; rfl
theorem frE_in {l:List Hr} {x:Int} (hH:ckH l=0) (h0:0≤x) (h1:x≤100000000):frE l x=0:=by
 unfold frE; rw [hH,within_in h0 h1]; rfl
theorem apE_in {s:Sw} {l:List Hr} {t f:Int} (hc:ckS s=0) (hH:ckH l=0) (h0:0≤t) (h1:t≤100000000) (f0:0≤f) (f1:f≤1000000) (hl:¬ t < lst s):apE s l t f=0:=by
 unfold apE; rw [hc,hH,within_in h0 h1,within_in f0 f1,decide_eq_false hl]; rfl
theorem opE_in {s:Sw} {l:List Hr} {t f:Int} (ha:apE s l t f=0) {b0 b1 b2:Bool} (h0:(!s.on)=b0) (h1:prL l t=b1) (h2:few s t f=b2):opE s l t f=firstOf ((w0 b0++w1 b1++w2 b2).map Br.e):=by
 unfold opE; rw [ha]; show firstOf ((bars s l t f).map Br.e)=_; unfold bars; rw [h0,h1,h2]
theorem ck0:ckS ⟨true,false,[]⟩=0:=rfl
theorem nm_g:isNm [103,114,105,100]=true:=by decide +kernel
theorem nm_s:isNm [115,97,108,101,115]=true:=by decide +kernel
theorem ck1 {t:Int} (h0:0≤t) (h1:t≤100000000):ckS ⟨true,false,[⟨[103,114,105,100],t⟩]⟩=0:=by
 have hF:swF ⟨true,false,[⟨[103,114,105,100],t⟩]⟩=0:=rfl
 rw [ckS_0 hF]
 have e:odE ⟨[103,114,105,100],t⟩ [] 0=0:=by
  unfold odE; rw [nm_g,within_in h0 h1,decide_eq_false (show ¬ t < 0 by omega)]; rfl
 show (bif odE ⟨[103,114,105,100],t⟩ [] 0 != 0 then _ else _)=(0:Int)
 rw [e]; rfl
theorem ck2 {t:Int} (h0:0≤t) (h1:t≤100000000):ckS ⟨true,false,[⟨[103,114,105,100],t⟩,⟨[115,97,108,101,115],t⟩]⟩=0:=by
 have hF:swF ⟨true,false,[⟨[103,114,105,100],t⟩,⟨[115,97,108,101,115],t⟩]⟩=0:=rfl
 rw [ckS_0 hF]
 have e:odE ⟨[103,114,105,100],t⟩ [] 0=0:=by
  unfold odE; rw [nm_g,within_in h0 h1,decide_eq_false (show ¬ t < 0 by omega)]; rfl
 have e2:odE ⟨[115,97,108,101,115],t⟩ [[103,114,105,100]] t=0:=by
  unfold odE; rw [nm_s,within_in h0 h1,decide_eq_false (show ¬ t < t by omega),show ([[103,114,105,100]]:List Nm).contains [115,97,108,101,115]=false by decide +kernel]; rfl
 show (bif odE ⟨[103,114,105,100],t⟩ [] 0 != 0 then _ else bif odE ⟨[115,97,108,101,115],t⟩ [[103,114,105,100]] t != 0 then odE ⟨[115,97,108,101,115],t⟩ [[103,114,105,100]] t else (0:Int))=0
 rw [e,e2]; rfl
theorem or0_in {s:Sw} {off:Nm} {t:Int} (hc:ckS s=0) (hn:isNm off=true) (h0:0≤t) (h1:t≤100000000):or0 s off t=0:=by
 unfold or0 wtE; rw [hc,hn,within_in h0 h1]; rfl
theorem g70 {t:Int} (h0:0≤t) (h1:t≤100000000):CallDet Tryz.prog 70 [.d (.agg [.bool true,.bool false,.slice 2 []]),.d (.str [103,114,105,100]),.d (.int .i64 t)] [.agg [.bool true,.bool false,.slice 2 [Data.agg [.str [103,114,105,100],.int .i64 t]]],.int .i64 0]∧CallDet Tryz.prog 70 [.d (.agg [.bool true,.bool false,.slice 2 [Data.agg [.str [103,114,105,100],.int .i64 t]]]),.d (.str [103,114,105,100]),.d (.int .i64 t)] [.agg [.bool true,.bool false,.slice 2 [Data.agg [.str [103,114,105,100],.int .i64 t]]],.int .i64 0]∧CallDet Tryz.prog 70 [.d (.agg [.bool true,.bool false,.slice 2 [Data.agg [.str [103,114,105,100],.int .i64 t]]]),.d (.str [115,97,108,101,115]),.d (.int .i64 t)] [.agg [.bool true,.bool false,.slice 2 [Data.agg [.str [103,114,105,100],.int .i64 t],Data.agg [.str [115,97,108,101,115],.int .i64 t]]],.int .i64 0]:=by
 have k1:keepO [103,114,105,100] [⟨[103,114,105,100],t⟩]=[]:=by unfold keepO; rw [List.filter_cons_of_neg (by simp)]; rfl
 have k2:keepO [115,97,108,101,115] [⟨[103,114,105,100],t⟩]=[⟨[103,114,105,100],t⟩]:=by unfold keepO; rw [List.filter_cons_of_pos (by show (!([103,114,105,100]==([115,97,108,101,115]:Nm)))=true; decide +kernel)]; rfl
 refine ⟨?_,?_,?_⟩
 ·have h:=c70 ⟨true,false,[]⟩ [103,114,105,100] t (by simp)
  have e:orE ⟨true,false,[]⟩ [103,114,105,100] t=0:=by
   show firstOf [(0:Int),bif decide (t < 0) then 11 else 0,_]=0
   rw [decide_eq_false (by omega)]; rfl
  rw [or0_in ck0 nm_g h0 h1,e] at h
  exact h
 ·have h:=c70 ⟨true,false,[⟨[103,114,105,100],t⟩]⟩ [103,114,105,100] t (by simp)
  have e:orE ⟨true,false,[⟨[103,114,105,100],t⟩]⟩ [103,114,105,100] t=0:=by
   unfold orE
   rw [k1,show lst ⟨true,false,[⟨[103,114,105,100],t⟩]⟩=t from rfl,decide_eq_false (show ¬ t < t by omega)]; rfl
  have e2:swO ⟨true,false,[⟨[103,114,105,100],t⟩]⟩ [103,114,105,100] t=⟨true,false,[⟨[103,114,105,100],t⟩]⟩:=by unfold swO; rw [k1]; rfl
  rw [or0_in (ck1 h0 h1) nm_g h0 h1,e,e2] at h
  exact h
 ·have h:=c70 ⟨true,false,[⟨[103,114,105,100],t⟩]⟩ [115,97,108,101,115] t (by simp)
  have e:orE ⟨true,false,[⟨[103,114,105,100],t⟩]⟩ [115,97,108,101,115] t=0:=by
   unfold orE
   rw [k2,show lst ⟨true,false,[⟨[103,114,105,100],t⟩]⟩=t from rfl,decide_eq_false (show ¬ t < t by omega)]; rfl
  have e2:swO ⟨true,false,[⟨[103,114,105,100],t⟩]⟩ [115,97,108,101,115] t=⟨true,false,[⟨[103,114,105,100],t⟩,⟨[115,97,108,101,115],t⟩]⟩:=by unfold swO; rw [k2]; rfl
  rw [or0_in (ck1 h0 h1) nm_s h0 h1,e,e2] at h
  exact h
theorem nf1 {t x f:Int}:few ⟨true,false,[⟨[103,114,105,100],t⟩]⟩ x f=true:=by
 unfold few
 show decide ((bif decide (x - t≤f) then (0:Int)+1 else 0) < 2)=true
 cases decide (x - t≤f) <;> rfl
theorem nf2 {t x f:Int} (h:x - t≤f):few ⟨true,false,[⟨[103,114,105,100],t⟩,⟨[115,97,108,101,115],t⟩]⟩ x f=false:=by
 unfold few
 show decide ((bif decide (x - t≤f) then (bif decide (x - t≤f) then (0:Int)+1 else 0)+1 else bif decide (x - t≤f) then (0:Int)+1 else 0) < 2)=false
 rw [decide_eq_true h]; rfl
theorem nf2n {t x f:Int} (h:¬ x - t≤f):few ⟨true,false,[⟨[103,114,105,100],t⟩,⟨[115,97,108,101,115],t⟩]⟩ x f=true:=by
 unfold few
 show decide ((bif decide (x - t≤f) then (bif decide (x - t≤f) then (0:Int)+1 else 0)+1 else bif decide (x - t≤f) then (0:Int)+1 else 0) < 2)=true
 rw [decide_eq_false h]; rfl
theorem o1 {l:List Hr} {t f:Int} (b:Bool) (hl:l.length≤1048576) (hH:ckH l=0) (h0:0≤t) (h1:t≤100000000) (f0:0≤f) (f1:f≤1000000) (hb:prL l t=b):CallDet Tryz.prog 59 [.d (.agg [.bool true,.bool false,.slice 2 [Data.agg [.str [103,114,105,100],.int .i64 t]]]),.d (.slice 9 (hrs l)),.d (.int .i64 (t)),.d (.int .i64 (f))] [.agg [.bool false,.bool false,.slice 2 []],.int .i64 (bif b then 31 else 30)]:=by
 have h:=c59 ⟨true,false,[⟨[103,114,105,100],t⟩]⟩ l t f (by simp) hl
 rw [opE_in (apE_in (ck1 h0 h1) hH h0 h1 f0 f1 (by show ¬ t < t; omega)) (b0:=false) rfl hb nf1] at h
 cases b <;> exact h
theorem o2 {l:List Hr} {t v f:Int} (hl:l.length≤1048576) (hH:ckH l=0) (h0:0≤t) (h1:v≤100000000) (htv:t≤v) (f0:0≤f) (f1:f≤1000000) (hb:prL l v=false) (hf:v - t≤f):CallDet Tryz.prog 59 [.d (.agg [.bool true,.bool false,.slice 2 [Data.agg [.str [103,114,105,100],.int .i64 t],Data.agg [.str [115,97,108,101,115],.int .i64 t]]]),.d (.slice 9 (hrs l)),.d (.int .i64 (v)),.d (.int .i64 (f))] [.agg [.bool false,.bool false,.slice 2 []],.int .i64 0]:=by
 have h:=c59 ⟨true,false,[⟨[103,114,105,100],t⟩,⟨[115,97,108,101,115],t⟩]⟩ l v f (by simp) hl
 rw [opE_in (apE_in (ck2 h0 (by omega)) hH (by omega) h1 f0 f1 (by show ¬ v < t; omega)) (b0:=false) rfl hb (nf2 hf)] at h
 exact h
theorem o3 {l:List Hr} {t v f:Int} (hl:l.length≤1048576) (hH:ckH l=0) (h0:0≤t) (h1:v≤100000000) (htv:t≤v) (f0:0≤f) (f1:f≤1000000) (hb:prL l v=false) (hf:¬ v - t≤f):CallDet Tryz.prog 59 [.d (.agg [.bool true,.bool false,.slice 2 [Data.agg [.str [103,114,105,100],.int .i64 t],Data.agg [.str [115,97,108,101,115],.int .i64 t]]]),.d (.slice 9 (hrs l)),.d (.int .i64 (v)),.d (.int .i64 (f))] [.agg [.bool false,.bool false,.slice 2 []],.int .i64 30]:=by
 have h:=c59 ⟨true,false,[⟨[103,114,105,100],t⟩,⟨[115,97,108,101,115],t⟩]⟩ l v f (by simp) hl
 rw [opE_in (apE_in (ck2 h0 (by omega)) hH (by omega) h1 f0 f1 (by show ¬ v < t; omega)) (b0:=false) rfl hb (nf2n hf)] at h
 exact h
theorem o4 {l:List Hr} {v:Int} (hl:l.length≤1048576) (hH:ckH l=0) (h0:0≤v) (h1:v≤100000000) (hb:prL l v=false):CallDet Tryz.prog 59 [.d (.agg [.bool true,.bool false,.slice 2 []]),.d (.slice 9 (hrs l)),.d (.int .i64 (v)),.d (.int .i64 (1000000))] [.agg [.bool false,.bool false,.slice 2 []],.int .i64 30]:=by
 have h:=c59 ⟨true,false,[]⟩ l v 1000000 (by simp) hl
 rw [opE_in (apE_in ck0 hH h0 h1 (by decide) (by decide) (by show ¬ v < 0; omega)) (b0:=false) rfl hb (show few ⟨true,false,[]⟩ v 1000000=true from rfl)] at h
 exact h
section
variable {l : List Hr} {t f v : Int} {Q : AExit → St → Prop}
theorem v10a (hl:l.length≤1048576) (hH:ckH l=0) (h0:0≤t) (h1:t≤v) (h2:v < t+691200) (h3:v≤100000000) (hp:∀ u,t≤u→u < v→prL l u=true) (hQ:Q (.exit 0) ⟨[(1,.d (.slice 9 (hrs l))),(7,.d (.int .i64 t)),(9,.d (.int .i64 f)),(10,.d (.int .i64 v)),(180,.d (.int .i64 (((5:Nat):Int)))),(181,.d (.bool false))],[.none,.none,.none,.none,.none,.none,.none,.none,.none,.none,.none,.none,.none]⟩):vc Tryz.prog 382 seg10a ⟨[(1,.d (.slice 9 (hrs l))),(7,.d (.int .i64 t)),(9,.d (.int .i64 f)),(10,.d (.int .i64 v)),(180,.d (.int .i64 (0)))],[.none,.none,.none,.none,.none,.none,.none,.none,.none,.none,.none,.none,.none]⟩ Q:=by
 have c47_:=c47 l hl
 unfold seg10a
 refine loop_st (fun k:Nat=>⟨[(1,.d (.slice 9 (hrs l))),(7,.d (.int .i64 t)),(9,.d (.int .i64 f)),(10,.d (.int .i64 v)),(180,.d (.int .i64 ((k:Nat))))],[.none,.none,.none,.none,.none,.none,.none,.none,.none,.none,.none,.none,.none]⟩) (fun k=>k≤5) (fun k=>5 - k) 0 rfl (Nat.zero_le _) ?_
 intro k hk
 have hk:k≤5:=hk
 match k,hk with
 | 0,_ =>
  have fin:∃ a':Nat,(a'≤5∧5 - a' < 5 - 0)∧(⟨[(1,.d (.slice 9 (hrs l))),(7,.d (.int .i64 t)),(9,.d (.int .i64 f)),(10,.d (.int .i64 v)),(180,.d (.int .i64 (((0:Nat):Int)+1)))],[.none,.none,.none,.none,.none,.none,.none,.none,.none,.none,.none,.none,.none]⟩:St)=⟨[(1,.d (.slice 9 (hrs l))),(7,.d (.int .i64 t)),(9,.d (.int .i64 f)),(10,.d (.int .i64 v)),(180,.d (.int .i64 ((a':Nat))))],[.none,.none,.none,.none,.none,.none,.none,.none,.none,.none,.none,.none,.none]⟩:=⟨1,⟨by decide,by decide⟩,rfl⟩
  by_cases hx:t+(v - t) * ((0:Nat):Int) / 5 < v
  ·have c46_:=c46 l (t+(v - t) * ((0:Nat):Int) / 5) hl
   rw [frE_in hH (by omega) (by omega),hp _ (by omega) hx] at c46_
   refine sd ?_
   refine ar_sub ?_ ?_
   refine an ?_ ?_
   (show (-9223372036854775808:Int)≤v - t; omega)
   (show v - t≤(9223372036854775807:Int); omega)
   refine ar_mul ?_ ?_
   refine an ?_ ?_
   (show (-9223372036854775808:Int)≤(v - t) * (↑(0:Nat):Int); omega)
   (show (v - t) * (↑(0:Nat):Int)≤(9223372036854775807:Int); omega)
   refine ar_quo ?_ ?_
   refine an ?_ ?_
   (show (0:Int)≤(v - t) * (↑(0:Nat):Int); omega)
   refine an ?_ ?_
   (show (v - t) * (↑(0:Nat):Int)≤(9223372036854775807:Int); omega)
   (show (1:Int)≤(5:Int); omega)
   refine ar_add ?_ ?_
   refine an ?_ ?_
   (show (-9223372036854775808:Int)≤t+(v - t) * (↑(0:Nat):Int) / (5:Int); omega)
   (show t+(v - t) * (↑(0:Nat):Int) / (5:Int)≤(9223372036854775807:Int); omega)
   refine sd ?_
   refine b_lt (fun t1=>?_) (fun t1=>?_)
   refine ca c47_ ?_
   refine ca c46_ ?_
   refine sd ?_
   refine ar_add ?_ ?_
   refine an ?_ ?_
   (show (-9223372036854775808:Int)≤(↑(0:Nat):Int)+(1:Int); omega)
   (show (↑(0:Nat):Int)+(1:Int)≤(9223372036854775807:Int); omega)
   rotate_left
   (exfalso; omega)
   all_goals exact fin
  ·refine sd ?_
   refine ar_sub ?_ ?_
   refine an ?_ ?_
   (show (-9223372036854775808:Int)≤v - t; omega)
   (show v - t≤(9223372036854775807:Int); omega)
   refine ar_mul ?_ ?_
   refine an ?_ ?_
   (show (-9223372036854775808:Int)≤(v - t) * (↑(0:Nat):Int); omega)
   (show (v - t) * (↑(0:Nat):Int)≤(9223372036854775807:Int); omega)
   refine ar_quo ?_ ?_
   refine an ?_ ?_
   (show (0:Int)≤(v - t) * (↑(0:Nat):Int); omega)
   refine an ?_ ?_
   (show (v - t) * (↑(0:Nat):Int)≤(9223372036854775807:Int); omega)
   (show (1:Int)≤(5:Int); omega)
   refine ar_add ?_ ?_
   refine an ?_ ?_
   (show (-9223372036854775808:Int)≤t+(v - t) * (↑(0:Nat):Int) / (5:Int); omega)
   (show t+(v - t) * (↑(0:Nat):Int) / (5:Int)≤(9223372036854775807:Int); omega)
   refine sd ?_
   refine b_lt (fun t1=>?_) (fun t1=>?_)
   (exfalso; omega)
   refine ar_add ?_ ?_
   refine an ?_ ?_
   (show (-9223372036854775808:Int)≤(↑(0:Nat):Int)+(1:Int); omega)
   (show (↑(0:Nat):Int)+(1:Int)≤(9223372036854775807:Int); omega)
   rotate_left
   all_goals exact fin
 | 1,_ =>
  have fin:∃ a':Nat,(a'≤5∧5 - a' < 5 - 1)∧(⟨[(1,.d (.slice 9 (hrs l))),(7,.d (.int .i64 t)),(9,.d (.int .i64 f)),(10,.d (.int .i64 v)),(180,.d (.int .i64 (((1:Nat):Int)+1)))],[.none,.none,.none,.none,.none,.none,.none,.none,.none,.none,.none,.none,.none]⟩:St)=⟨[(1,.d (.slice 9 (hrs l))),(7,.d (.int .i64 t)),(9,.d (.int .i64 f)),(10,.d (.int .i64 v)),(180,.d (.int .i64 ((a':Nat))))],[.none,.none,.none,.none,.none,.none,.none,.none,.none,.none,.none,.none,.none]⟩:=⟨2,⟨by decide,by decide⟩,rfl⟩
  by_cases hx:t+(v - t) * ((1:Nat):Int) / 5 < v
  ·have c46_:=c46 l (t+(v - t) * ((1:Nat):Int) / 5) hl
   rw [frE_in hH (by omega) (by omega),hp _ (by omega) hx] at c46_
   refine sd ?_
   refine ar_sub ?_ ?_
   refine an ?_ ?_
   (show (-9223372036854775808:Int)≤v - t; omega)
   (show v - t≤(9223372036854775807:Int); omega)
   refine ar_mul ?_ ?_
   refine an ?_ ?_
   (show (-9223372036854775808:Int)≤(v - t) * (↑(1:Nat):Int); omega)
   (show (v - t) * (↑(1:Nat):Int)≤(9223372036854775807:Int); omega)
   refine ar_quo ?_ ?_
   refine an ?_ ?_
   (show (0:Int)≤(v - t) * (↑(1:Nat):Int); omega)
   refine an ?_ ?_
   (show (v - t) * (↑(1:Nat):Int)≤(9223372036854775807:Int); omega)
   (show (1:Int)≤(5:Int); omega)
   refine ar_add ?_ ?_
   refine an ?_ ?_
   (show (-9223372036854775808:Int)≤t+(v - t) * (↑(1:Nat):Int) / (5:Int); omega)
   (show t+(v - t) * (↑(1:Nat):Int) / (5:Int)≤(9223372036854775807:Int); omega)
   refine sd ?_
   refine b_lt (fun t1=>?_) (fun t1=>?_)
   refine ca c47_ ?_
   refine ca c46_ ?_
   refine sd ?_
   refine ar_add ?_ ?_
   refine an ?_ ?_
   (show (-9223372036854775808:Int)≤(↑(1:Nat):Int)+(1:Int); omega)
   (show (↑(1:Nat):Int)+(1:Int)≤(9223372036854775807:Int); omega)
   rotate_left
   (exfalso; omega)
   all_goals exact fin
  ·refine sd ?_
   refine ar_sub ?_ ?_
   refine an ?_ ?_
   (show (-9223372036854775808:Int)≤v - t; omega)
   (show v - t≤(9223372036854775807:Int); omega)
   refine ar_mul ?_ ?_
   refine an ?_ ?_
   (show (-9223372036854775808:Int)≤(v - t) * (↑(1:Nat):Int); omega)
   (show (v - t) * (↑(1:Nat):Int)≤(9223372036854775807:Int); omega)
   refine ar_quo ?_ ?_
   refine an ?_ ?_
   (show (0:Int)≤(v - t) * (↑(1:Nat):Int); omega)
   refine an ?_ ?_
   (show (v - t) * (↑(1:Nat):Int)≤(9223372036854775807:Int); omega)
   (show (1:Int)≤(5:Int); omega)
   refine ar_add ?_ ?_
   refine an ?_ ?_
   (show (-9223372036854775808:Int)≤t+(v - t) * (↑(1:Nat):Int) / (5:Int); omega)
   (show t+(v - t) * (↑(1:Nat):Int) / (5:Int)≤(9223372036854775807:Int); omega)
   refine sd ?_
   refine b_lt (fun t1=>?_) (fun t1=>?_)
   (exfalso; omega)
   refine ar_add ?_ ?_
   refine an ?_ ?_
   (show (-9223372036854775808:Int)≤(↑(1:Nat):Int)+(1:Int); omega)
   (show (↑(1:Nat):Int)+(1:Int)≤(9223372036854775807:Int); omega)
   rotate_left
   all_goals exact fin
 | 2,_ =>
  have fin:∃ a':Nat,(a'≤5∧5 - a' < 5 - 2)∧(⟨[(1,.d (.slice 9 (hrs l))),(7,.d (.int .i64 t)),(9,.d (.int .i64 f)),(10,.d (.int .i64 v)),(180,.d (.int .i64 (((2:Nat):Int)+1)))],[.none,.none,.none,.none,.none,.none,.none,.none,.none,.none,.none,.none,.none]⟩:St)=⟨[(1,.d (.slice 9 (hrs l))),(7,.d (.int .i64 t)),(9,.d (.int .i64 f)),(10,.d (.int .i64 v)),(180,.d (.int .i64 ((a':Nat))))],[.none,.none,.none,.none,.none,.none,.none,.none,.none,.none,.none,.none,.none]⟩:=⟨3,⟨by decide,by decide⟩,rfl⟩
  by_cases hx:t+(v - t) * ((2:Nat):Int) / 5 < v
  ·have c46_:=c46 l (t+(v - t) * ((2:Nat):Int) / 5) hl
   rw [frE_in hH (by omega) (by omega),hp _ (by omega) hx] at c46_
   refine sd ?_
   refine ar_sub ?_ ?_
   refine an ?_ ?_
   (show (-9223372036854775808:Int)≤v - t; omega)
   (show v - t≤(9223372036854775807:Int); omega)
   refine ar_mul ?_ ?_
   refine an ?_ ?_
   (show (-9223372036854775808:Int)≤(v - t) * (↑(2:Nat):Int); omega)
   (show (v - t) * (↑(2:Nat):Int)≤(9223372036854775807:Int); omega)
   refine ar_quo ?_ ?_
   refine an ?_ ?_
   (show (0:Int)≤(v - t) * (↑(2:Nat):Int); omega)
   refine an ?_ ?_
   (show (v - t) * (↑(2:Nat):Int)≤(9223372036854775807:Int); omega)
   (show (1:Int)≤(5:Int); omega)
   refine ar_add ?_ ?_
   refine an ?_ ?_
   (show (-9223372036854775808:Int)≤t+(v - t) * (↑(2:Nat):Int) / (5:Int); omega)
   (show t+(v - t) * (↑(2:Nat):Int) / (5:Int)≤(9223372036854775807:Int); omega)
   refine sd ?_
   refine b_lt (fun t1=>?_) (fun t1=>?_)
   refine ca c47_ ?_
   refine ca c46_ ?_
   refine sd ?_
   refine ar_add ?_ ?_
   refine an ?_ ?_
   (show (-9223372036854775808:Int)≤(↑(2:Nat):Int)+(1:Int); omega)
   (show (↑(2:Nat):Int)+(1:Int)≤(9223372036854775807:Int); omega)
   rotate_left
   (exfalso; omega)
   all_goals exact fin
  ·refine sd ?_
   refine ar_sub ?_ ?_
   refine an ?_ ?_
   (show (-9223372036854775808:Int)≤v - t; omega)
   (show v - t≤(9223372036854775807:Int); omega)
   refine ar_mul ?_ ?_
   refine an ?_ ?_
   (show (-9223372036854775808:Int)≤(v - t) * (↑(2:Nat):Int); omega)
   (show (v - t) * (↑(2:Nat):Int)≤(9223372036854775807:Int); omega)
   refine ar_quo ?_ ?_
   refine an ?_ ?_
   (show (0:Int)≤(v - t) * (↑(2:Nat):Int); omega)
   refine an ?_ ?_
   (show (v - t) * (↑(2:Nat):Int)≤(9223372036854775807:Int); omega)
   (show (1:Int)≤(5:Int); omega)
   refine ar_add ?_ ?_
   refine an ?_ ?_
   (show (-9223372036854775808:Int)≤t+(v - t) * (↑(2:Nat):Int) / (5:Int); omega)
   (show t+(v - t) * (↑(2:Nat):Int) / (5:Int)≤(9223372036854775807:Int); omega)
   refine sd ?_
   refine b_lt (fun t1=>?_) (fun t1=>?_)
   (exfalso; omega)
   refine ar_add ?_ ?_
   refine an ?_ ?_
   (show (-9223372036854775808:Int)≤(↑(2:Nat):Int)+(1:Int); omega)
   (show (↑(2:Nat):Int)+(1:Int)≤(9223372036854775807:Int); omega)
   rotate_left
   all_goals exact fin
 | 3,_ =>
  have fin:∃ a':Nat,(a'≤5∧5 - a' < 5 - 3)∧(⟨[(1,.d (.slice 9 (hrs l))),(7,.d (.int .i64 t)),(9,.d (.int .i64 f)),(10,.d (.int .i64 v)),(180,.d (.int .i64 (((3:Nat):Int)+1)))],[.none,.none,.none,.none,.none,.none,.none,.none,.none,.none,.none,.none,.none]⟩:St)=⟨[(1,.d (.slice 9 (hrs l))),(7,.d (.int .i64 t)),(9,.d (.int .i64 f)),(10,.d (.int .i64 v)),(180,.d (.int .i64 ((a':Nat))))],[.none,.none,.none,.none,.none,.none,.none,.none,.none,.none,.none,.none,.none]⟩:=⟨4,⟨by decide,by decide⟩,rfl⟩
  by_cases hx:t+(v - t) * ((3:Nat):Int) / 5 < v
  ·have c46_:=c46 l (t+(v - t) * ((3:Nat):Int) / 5) hl
   rw [frE_in hH (by omega) (by omega),hp _ (by omega) hx] at c46_
   refine sd ?_
   refine ar_sub ?_ ?_
   refine an ?_ ?_
   (show (-9223372036854775808:Int)≤v - t; omega)
   (show v - t≤(9223372036854775807:Int); omega)
   refine ar_mul ?_ ?_
   refine an ?_ ?_
   (show (-9223372036854775808:Int)≤(v - t) * (↑(3:Nat):Int); omega)
   (show (v - t) * (↑(3:Nat):Int)≤(9223372036854775807:Int); omega)
   refine ar_quo ?_ ?_
   refine an ?_ ?_
   (show (0:Int)≤(v - t) * (↑(3:Nat):Int); omega)
   refine an ?_ ?_
   (show (v - t) * (↑(3:Nat):Int)≤(9223372036854775807:Int); omega)
   (show (1:Int)≤(5:Int); omega)
   refine ar_add ?_ ?_
   refine an ?_ ?_
   (show (-9223372036854775808:Int)≤t+(v - t) * (↑(3:Nat):Int) / (5:Int); omega)
   (show t+(v - t) * (↑(3:Nat):Int) / (5:Int)≤(9223372036854775807:Int); omega)
   refine sd ?_
   refine b_lt (fun t1=>?_) (fun t1=>?_)
   refine ca c47_ ?_
   refine ca c46_ ?_
   refine sd ?_
   refine ar_add ?_ ?_
   refine an ?_ ?_
   (show (-9223372036854775808:Int)≤(↑(3:Nat):Int)+(1:Int); omega)
   (show (↑(3:Nat):Int)+(1:Int)≤(9223372036854775807:Int); omega)
   rotate_left
   (exfalso; omega)
   all_goals exact fin
  ·refine sd ?_
   refine ar_sub ?_ ?_
   refine an ?_ ?_
   (show (-9223372036854775808:Int)≤v - t; omega)
   (show v - t≤(9223372036854775807:Int); omega)
   refine ar_mul ?_ ?_
   refine an ?_ ?_
   (show (-9223372036854775808:Int)≤(v - t) * (↑(3:Nat):Int); omega)
   (show (v - t) * (↑(3:Nat):Int)≤(9223372036854775807:Int); omega)
   refine ar_quo ?_ ?_
   refine an ?_ ?_
   (show (0:Int)≤(v - t) * (↑(3:Nat):Int); omega)
   refine an ?_ ?_
   (show (v - t) * (↑(3:Nat):Int)≤(9223372036854775807:Int); omega)
   (show (1:Int)≤(5:Int); omega)
   refine ar_add ?_ ?_
   refine an ?_ ?_
   (show (-9223372036854775808:Int)≤t+(v - t) * (↑(3:Nat):Int) / (5:Int); omega)
   (show t+(v - t) * (↑(3:Nat):Int) / (5:Int)≤(9223372036854775807:Int); omega)
   refine sd ?_
   refine b_lt (fun t1=>?_) (fun t1=>?_)
   (exfalso; omega)
   refine ar_add ?_ ?_
   refine an ?_ ?_
   (show (-9223372036854775808:Int)≤(↑(3:Nat):Int)+(1:Int); omega)
   (show (↑(3:Nat):Int)+(1:Int)≤(9223372036854775807:Int); omega)
   rotate_left
   all_goals exact fin
 | 4,_ =>
  have fin:∃ a':Nat,(a'≤5∧5 - a' < 5 - 4)∧(⟨[(1,.d (.slice 9 (hrs l))),(7,.d (.int .i64 t)),(9,.d (.int .i64 f)),(10,.d (.int .i64 v)),(180,.d (.int .i64 (((4:Nat):Int)+1)))],[.none,.none,.none,.none,.none,.none,.none,.none,.none,.none,.none,.none,.none]⟩:St)=⟨[(1,.d (.slice 9 (hrs l))),(7,.d (.int .i64 t)),(9,.d (.int .i64 f)),(10,.d (.int .i64 v)),(180,.d (.int .i64 ((a':Nat))))],[.none,.none,.none,.none,.none,.none,.none,.none,.none,.none,.none,.none,.none]⟩:=⟨5,⟨by decide,by decide⟩,rfl⟩
  by_cases hx:t+(v - t) * ((4:Nat):Int) / 5 < v
  ·have c46_:=c46 l (t+(v - t) * ((4:Nat):Int) / 5) hl
   rw [frE_in hH (by omega) (by omega),hp _ (by omega) hx] at c46_
   refine sd ?_
   refine ar_sub ?_ ?_
   refine an ?_ ?_
   (show (-9223372036854775808:Int)≤v - t; omega)
   (show v - t≤(9223372036854775807:Int); omega)
   refine ar_mul ?_ ?_
   refine an ?_ ?_
   (show (-9223372036854775808:Int)≤(v - t) * (↑(4:Nat):Int); omega)
   (show (v - t) * (↑(4:Nat):Int)≤(9223372036854775807:Int); omega)
   refine ar_quo ?_ ?_
   refine an ?_ ?_
   (show (0:Int)≤(v - t) * (↑(4:Nat):Int); omega)
   refine an ?_ ?_
   (show (v - t) * (↑(4:Nat):Int)≤(9223372036854775807:Int); omega)
   (show (1:Int)≤(5:Int); omega)
   refine ar_add ?_ ?_
   refine an ?_ ?_
   (show (-9223372036854775808:Int)≤t+(v - t) * (↑(4:Nat):Int) / (5:Int); omega)
   (show t+(v - t) * (↑(4:Nat):Int) / (5:Int)≤(9223372036854775807:Int); omega)
   refine sd ?_
   refine b_lt (fun t1=>?_) (fun t1=>?_)
   refine ca c47_ ?_
   refine ca c46_ ?_
   refine sd ?_
   refine ar_add ?_ ?_
   refine an ?_ ?_
   (show (-9223372036854775808:Int)≤(↑(4:Nat):Int)+(1:Int); omega)
   (show (↑(4:Nat):Int)+(1:Int)≤(9223372036854775807:Int); omega)
   rotate_left
   (exfalso; omega)
   all_goals exact fin
  ·refine sd ?_
   refine ar_sub ?_ ?_
   refine an ?_ ?_
   (show (-9223372036854775808:Int)≤v - t; omega)
   (show v - t≤(9223372036854775807:Int); omega)
   refine ar_mul ?_ ?_
   refine an ?_ ?_
   (show (-9223372036854775808:Int)≤(v - t) * (↑(4:Nat):Int); omega)
   (show (v - t) * (↑(4:Nat):Int)≤(9223372036854775807:Int); omega)
   refine ar_quo ?_ ?_
   refine an ?_ ?_
   (show (0:Int)≤(v - t) * (↑(4:Nat):Int); omega)
   refine an ?_ ?_
   (show (v - t) * (↑(4:Nat):Int)≤(9223372036854775807:Int); omega)
   (show (1:Int)≤(5:Int); omega)
   refine ar_add ?_ ?_
   refine an ?_ ?_
   (show (-9223372036854775808:Int)≤t+(v - t) * (↑(4:Nat):Int) / (5:Int); omega)
   (show t+(v - t) * (↑(4:Nat):Int) / (5:Int)≤(9223372036854775807:Int); omega)
   refine sd ?_
   refine b_lt (fun t1=>?_) (fun t1=>?_)
   (exfalso; omega)
   refine ar_add ?_ ?_
   refine an ?_ ?_
   (show (-9223372036854775808:Int)≤(↑(4:Nat):Int)+(1:Int); omega)
   (show (↑(4:Nat):Int)+(1:Int)≤(9223372036854775807:Int); omega)
   rotate_left
   all_goals exact fin
 | 5,_ =>
  refine sd ?_
  rotate_left
  all_goals exact hQ
 | _+6,hk=>exact absurd hk (by omega)
def cel (t:Int):Nat→AVal
 | 0=>.nils 2
 | _+1=>.d (.slice 2 [Data.agg [.str [103,114,105,100],.int .i64 t]])
theorem v10b (h0:0≤t) (h1:t≤100000000) (hQ:Q (.exit 2) ⟨[(1,.d (.slice 9 (hrs l))),(7,.d (.int .i64 t)),(9,.d (.int .i64 f)),(10,.d (.int .i64 v)),(26,.ptr 2 0),(209,.d (.int .i64 (((3:Nat):Int)))),(210,.d (.bool false))],[.none,.none,.box [.d (.bool true),.d (.bool false),.d (.slice 2 [Data.agg [.str [103,114,105,100],.int .i64 t]])],.none,.none,.none,.none,.none,.none,.none,.none,.none,.none]⟩):vc Tryz.prog 382 seg10b ⟨[(1,.d (.slice 9 (hrs l))),(7,.d (.int .i64 t)),(9,.d (.int .i64 f)),(10,.d (.int .i64 v)),(26,.ptr 2 0),(209,.d (.int .i64 (0)))],[.none,.none,.box [.d (.bool true),.d (.bool false),.nils 2],.none,.none,.none,.none,.none,.none,.none,.none,.none,.none]⟩ Q:=by
 obtain ⟨c70_a,c70_b,_⟩:=g70 h0 h1
 unfold seg10b
 refine loop_st (fun k:Nat=>⟨[(1,.d (.slice 9 (hrs l))),(7,.d (.int .i64 t)),(9,.d (.int .i64 f)),(10,.d (.int .i64 v)),(26,.ptr 2 0),(209,.d (.int .i64 ((k:Nat))))],[.none,.none,.box [.d (.bool true),.d (.bool false),cel t k],.none,.none,.none,.none,.none,.none,.none,.none,.none,.none]⟩) (fun k=>k≤3) (fun k=>3 - k) 0 rfl (Nat.zero_le _) ?_
 intro k hk
 have hk:k≤3:=hk
 match k,hk with
 | 0,_ =>
  have fin:∃ a':Nat,(a'≤3∧3 - a' < 3 - 0)∧(⟨[(1,.d (.slice 9 (hrs l))),(7,.d (.int .i64 t)),(9,.d (.int .i64 f)),(10,.d (.int .i64 v)),(26,.ptr 2 0),(209,.d (.int .i64 (((0:Nat):Int)+1)))],[.none,.none,.box [.d (.bool true),.d (.bool false),.d (.slice 2 [Data.agg [.str [103,114,105,100],.int .i64 t]])],.none,.none,.none,.none,.none,.none,.none,.none,.none,.none]⟩:St)=⟨[(1,.d (.slice 9 (hrs l))),(7,.d (.int .i64 t)),(9,.d (.int .i64 f)),(10,.d (.int .i64 v)),(26,.ptr 2 0),(209,.d (.int .i64 ((a':Nat))))],[.none,.none,.box [.d (.bool true),.d (.bool false),cel t a'],.none,.none,.none,.none,.none,.none,.none,.none,.none,.none]⟩:=⟨1,⟨by decide,by decide⟩,rfl⟩
  refine sd ?_
  refine ca c70_a ?_
  refine sd ?_
  refine sd ?_
  refine ar_add ?_ ?_
  refine an ?_ ?_
  (show (-9223372036854775808:Int)≤(↑(0:Nat):Int)+(1:Int); omega)
  (show (↑(0:Nat):Int)+(1:Int)≤(9223372036854775807:Int); omega)
  rotate_left
  all_goals exact fin
 | 1,_ =>
  have fin:∃ a':Nat,(a'≤3∧3 - a' < 3 - 1)∧(⟨[(1,.d (.slice 9 (hrs l))),(7,.d (.int .i64 t)),(9,.d (.int .i64 f)),(10,.d (.int .i64 v)),(26,.ptr 2 0),(209,.d (.int .i64 (((1:Nat):Int)+1)))],[.none,.none,.box [.d (.bool true),.d (.bool false),.d (.slice 2 [Data.agg [.str [103,114,105,100],.int .i64 t]])],.none,.none,.none,.none,.none,.none,.none,.none,.none,.none]⟩:St)=⟨[(1,.d (.slice 9 (hrs l))),(7,.d (.int .i64 t)),(9,.d (.int .i64 f)),(10,.d (.int .i64 v)),(26,.ptr 2 0),(209,.d (.int .i64 ((a':Nat))))],[.none,.none,.box [.d (.bool true),.d (.bool false),cel t a'],.none,.none,.none,.none,.none,.none,.none,.none,.none,.none]⟩:=⟨2,⟨by decide,by decide⟩,rfl⟩
  refine sd ?_
  refine ca c70_b ?_
  refine sd ?_
  refine sd ?_
  refine ar_add ?_ ?_
  refine an ?_ ?_
  (show (-9223372036854775808:Int)≤(↑(1:Nat):Int)+(1:Int); omega)
  (show (↑(1:Nat):Int)+(1:Int)≤(9223372036854775807:Int); omega)
  rotate_left
  all_goals exact fin
 | 2,_ =>
  have fin:∃ a':Nat,(a'≤3∧3 - a' < 3 - 2)∧(⟨[(1,.d (.slice 9 (hrs l))),(7,.d (.int .i64 t)),(9,.d (.int .i64 f)),(10,.d (.int .i64 v)),(26,.ptr 2 0),(209,.d (.int .i64 (((2:Nat):Int)+1)))],[.none,.none,.box [.d (.bool true),.d (.bool false),.d (.slice 2 [Data.agg [.str [103,114,105,100],.int .i64 t]])],.none,.none,.none,.none,.none,.none,.none,.none,.none,.none]⟩:St)=⟨[(1,.d (.slice 9 (hrs l))),(7,.d (.int .i64 t)),(9,.d (.int .i64 f)),(10,.d (.int .i64 v)),(26,.ptr 2 0),(209,.d (.int .i64 ((a':Nat))))],[.none,.none,.box [.d (.bool true),.d (.bool false),cel t a'],.none,.none,.none,.none,.none,.none,.none,.none,.none,.none]⟩:=⟨3,⟨by decide,by decide⟩,rfl⟩
  refine sd ?_
  refine ca c70_b ?_
  refine sd ?_
  refine sd ?_
  refine ar_add ?_ ?_
  refine an ?_ ?_
  (show (-9223372036854775808:Int)≤(↑(2:Nat):Int)+(1:Int); omega)
  (show (↑(2:Nat):Int)+(1:Int)≤(9223372036854775807:Int); omega)
  rotate_left
  all_goals exact fin
 | 3,_ =>
  refine sd ?_
  rotate_left
  all_goals exact hQ
 | _+4,hk=>exact absurd hk (by omega)
end
theorem v10e {l:List Hr} {t f v:Int} {Q:AExit→St→Prop} (hl:l.length≤1048576) (hH:ckH l=0) (h0:0≤t) (h1:t≤v) (h2:v < t+691200) (h3:v≤100000000) (h4:t≤2000000) (f0:0≤f) (f1:f≤100000) (hv:prL l v=false) (hp:∀ u,t≤u→u < v→prL l u=true) (he:v=t) (hR:∀ st,endP [.tmp 6] [.bool true] st→Q .ret st) (_:True):vc Tryz.prog 382 seg10 ⟨[(1,.d (.slice 9 (hrs l))),(7,.d (.int .i64 t)),(9,.d (.int .i64 f)),(10,.d (.int .i64 v))],[.none,.none,.none,.none,.none,.none,.none,.none,.none,.none,.none,.none,.none]⟩ Q:=by
 have c47_:=c47 l hl
 have c46_:=c46 l v hl
 rw [frE_in hH (by omega) h3,hv] at c46_
 have c48_:=c48 l v hl
 rw [frE_in hH (by omega) h3,frA_self (by omega) h3 hv,decide_eq_false (show ¬ v < 0 by omega)] at c48_
 obtain ⟨_,_,c70_⟩:=g70 h0 (show t≤100000000 by omega)
 have c71_0:CallDet Tryz.prog 71 [.d (.agg [.bool true,.bool false,.slice 2 []])] [.agg [.bool true,.bool false,.slice 2 []]]:=c71 ⟨true,false,[]⟩ (by simp)
 have c71_1:CallDet Tryz.prog 71 [.d (.agg [.bool true,.bool false,.slice 2 [Data.agg [.str [103,114,105,100],.int .i64 t]]])] [.agg [.bool true,.bool false,.slice 2 [Data.agg [.str [103,114,105,100],.int .i64 t]]]]:=c71 ⟨true,false,[⟨[103,114,105,100],t⟩]⟩ (by simp)
 have c71_2:CallDet Tryz.prog 71 [.d (.agg [.bool true,.bool false,.slice 2 [Data.agg [.str [103,114,105,100],.int .i64 t],Data.agg [.str [115,97,108,101,115],.int .i64 t]]])] [.agg [.bool true,.bool false,.slice 2 [Data.agg [.str [103,114,105,100],.int .i64 t],Data.agg [.str [115,97,108,101,115],.int .i64 t]]]]:=c71 ⟨true,false,[⟨[103,114,105,100],t⟩,⟨[115,97,108,101,115],t⟩]⟩ (by simp)
 have c71_3:CallDet Tryz.prog 71 [.d (.agg [.bool false,.bool false,.slice 2 []])] [.agg [.bool false,.bool false,.slice 2 []]]:=c71 ⟨false,false,[]⟩ (by simp)
 have c71_4:CallDet Tryz.prog 71 [.d (.agg [.bool false,.bool true,.slice 2 []])] [.agg [.bool false,.bool true,.slice 2 []]]:=c71 ⟨false,true,[]⟩ (by simp)
 have c58_0:CallDet Tryz.prog 58 [.d (.agg [.bool true,.bool false,.slice 2 []])] [.agg [.bool true,.bool false,.slice 2 []]]:=c58 ⟨true,false,[]⟩ (by simp)
 have c58_1:CallDet Tryz.prog 58 [.d (.agg [.bool true,.bool false,.slice 2 [Data.agg [.str [103,114,105,100],.int .i64 t]]])] [.agg [.bool true,.bool false,.slice 2 [Data.agg [.str [103,114,105,100],.int .i64 t]]]]:=c58 ⟨true,false,[⟨[103,114,105,100],t⟩]⟩ (by simp)
 have c58_2:CallDet Tryz.prog 58 [.d (.agg [.bool true,.bool false,.slice 2 [Data.agg [.str [103,114,105,100],.int .i64 t],Data.agg [.str [115,97,108,101,115],.int .i64 t]]])] [.agg [.bool true,.bool false,.slice 2 [Data.agg [.str [103,114,105,100],.int .i64 t],Data.agg [.str [115,97,108,101,115],.int .i64 t]]]]:=c58 ⟨true,false,[⟨[103,114,105,100],t⟩,⟨[115,97,108,101,115],t⟩]⟩ (by simp)
 have c58_3:CallDet Tryz.prog 58 [.d (.agg [.bool false,.bool false,.slice 2 []])] [.agg [.bool false,.bool false,.slice 2 []]]:=c58 ⟨false,false,[]⟩ (by simp)
 have c58_4:CallDet Tryz.prog 58 [.d (.agg [.bool false,.bool true,.slice 2 []])] [.agg [.bool false,.bool true,.slice 2 []]]:=c58 ⟨false,true,[]⟩ (by simp)
 have c59_1:=o1 false hl hH h0 (show t≤100000000 by omega) f0 (show f≤1000000 by omega) (by rw [← he]; exact hv)
 have c59_2:=o2 (f:=v - t) hl hH h0 h3 h1 (by omega) (by omega) hv (Int.le_refl _)
 have c59_3:=o2 (f:=1000000) hl hH h0 h3 h1 (by omega) (by omega) hv (by omega)
 have c59_5:=o4 hl hH (show 0≤v by omega) h3 hv
 have c72_1:CallDet Tryz.prog 72 [.d (.agg [.bool false,.bool false,.slice 2 []])] [.agg [.bool false,.bool false,.slice 2 []],.int .i64 29]:=c72 ⟨false,false,[]⟩ (by simp)
 have c72_2:CallDet Tryz.prog 72 [.d (.agg [.bool false,.bool true,.slice 2 []])] [.agg [.bool true,.bool false,.slice 2 []],.int .i64 0]:=c72 ⟨false,true,[]⟩ (by simp)
 have c73_1:CallDet Tryz.prog 73 [.d (.agg [.bool false,.bool false,.slice 2 []])] [.agg [.bool false,.bool true,.slice 2 []],.int .i64 0]:=c73 ⟨false,false,[]⟩ (by simp)
 unfold seg10
 refine ca c47_ ?_
 refine ca c46_ ?_
 refine ca c47_ ?_
 refine ca c48_ ?_
 refine ar_add ?_ ?_
 refine an ?_ ?_
 (show (-9223372036854775808:Int)≤(0:Int)+(0:Int); omega)
 (show (0:Int)+(0:Int)≤(9223372036854775807:Int); omega)
 refine sd ?_
 refine sd ?_
 refine b_ne (fun t1=>?_) (fun t1=>?_)
 (exfalso; omega)
 refine sd ?_
 refine b_lt (fun t2=>?_) (fun t2=>?_)
 (exfalso; omega)
 rotate_left
 refine v10a hl hH h0 h1 h2 h3 hp ?_
 rotate_left
 refine v10b h0 (by omega) ?_
 refine ca c71_1 ?_
 refine ca c58_1 ?_
 refine ca c47_ ?_
 refine ca c59_1 ?_
 refine ca c71_1 ?_
 refine ca c58_1 ?_
 refine ca c70_ ?_
 refine ca c71_2 ?_
 refine ca c58_2 ?_
 refine ca c47_ ?_
 refine ar_sub ?_ ?_
 refine an ?_ ?_
 (show (-9223372036854775808:Int)≤v - t; omega)
 (show v - t≤(9223372036854775807:Int); omega)
 refine ca c59_2 ?_
 refine ca c71_2 ?_
 refine ca c58_2 ?_
 refine ca c47_ ?_
 refine ca c59_3 ?_
 refine sd ?_
 refine b_lt (fun t3=>?_) (fun t3=>?_)
 (exfalso; omega)
 refine sd ?_
 refine sd ?_
 refine b_eq (fun t4=>?_) (fun t4=>?_)
 refine sd ?_
 refine sd ?_
 refine ar_sub ?_ ?_
 refine an ?_ ?_
 (show (-9223372036854775808:Int)≤v - t; omega)
 (show v - t≤(9223372036854775807:Int); omega)
 refine sd ?_
 refine b_le (fun t5=>?_) (fun t5=>?_)
 refine sd ?_
 refine sd ?_
 refine sd ?_
 refine b_lt (fun t6=>?_) (fun t6=>?_)
 (exfalso; omega)
 refine ca c72_1 ?_
 refine ca c71_3 ?_
 refine ca c58_3 ?_
 refine ca c73_1 ?_
 refine ca c71_4 ?_
 refine ca c58_4 ?_
 refine ca c72_2 ?_
 refine ca c71_0 ?_
 refine ca c58_0 ?_
 refine ca c47_ ?_
 refine ca c59_5 ?_
 refine sd ?_
 refine sd ?_
 refine sd ?_
 refine sd ?_
 refine sd ?_
 refine ca (c15) ?_
 rotate_left
 (exfalso; omega)
 (exfalso; omega)
 all_goals (refine hR _ ?_; exact rfl)
theorem v10g {l:List Hr} {t f v:Int} {Q:AExit→St→Prop} (hl:l.length≤1048576) (hH:ckH l=0) (h0:0≤t) (h1:t≤v) (h2:v < t+691200) (h3:v≤100000000) (h4:t≤2000000) (f0:0≤f) (f1:f≤100000) (hv:prL l v=false) (hp:∀ u,t≤u→u < v→prL l u=true) (hg:t < v) (hR:∀ st,endP [.tmp 6] [.bool true] st→Q .ret st) (_:True):vc Tryz.prog 382 seg10 ⟨[(1,.d (.slice 9 (hrs l))),(7,.d (.int .i64 t)),(9,.d (.int .i64 f)),(10,.d (.int .i64 v))],[.none,.none,.none,.none,.none,.none,.none,.none,.none,.none,.none,.none,.none]⟩ Q:=by
 have c47_:=c47 l hl
 have c46_:=c46 l v hl
 rw [frE_in hH (by omega) h3,hv] at c46_
 have c48_:=c48 l v hl
 rw [frE_in hH (by omega) h3,frA_self (by omega) h3 hv,decide_eq_false (show ¬ v < 0 by omega)] at c48_
 obtain ⟨_,_,c70_⟩:=g70 h0 (show t≤100000000 by omega)
 have c71_0:CallDet Tryz.prog 71 [.d (.agg [.bool true,.bool false,.slice 2 []])] [.agg [.bool true,.bool false,.slice 2 []]]:=c71 ⟨true,false,[]⟩ (by simp)
 have c71_1:CallDet Tryz.prog 71 [.d (.agg [.bool true,.bool false,.slice 2 [Data.agg [.str [103,114,105,100],.int .i64 t]]])] [.agg [.bool true,.bool false,.slice 2 [Data.agg [.str [103,114,105,100],.int .i64 t]]]]:=c71 ⟨true,false,[⟨[103,114,105,100],t⟩]⟩ (by simp)
 have c71_2:CallDet Tryz.prog 71 [.d (.agg [.bool true,.bool false,.slice 2 [Data.agg [.str [103,114,105,100],.int .i64 t],Data.agg [.str [115,97,108,101,115],.int .i64 t]]])] [.agg [.bool true,.bool false,.slice 2 [Data.agg [.str [103,114,105,100],.int .i64 t],Data.agg [.str [115,97,108,101,115],.int .i64 t]]]]:=c71 ⟨true,false,[⟨[103,114,105,100],t⟩,⟨[115,97,108,101,115],t⟩]⟩ (by simp)
 have c71_3:CallDet Tryz.prog 71 [.d (.agg [.bool false,.bool false,.slice 2 []])] [.agg [.bool false,.bool false,.slice 2 []]]:=c71 ⟨false,false,[]⟩ (by simp)
 have c71_4:CallDet Tryz.prog 71 [.d (.agg [.bool false,.bool true,.slice 2 []])] [.agg [.bool false,.bool true,.slice 2 []]]:=c71 ⟨false,true,[]⟩ (by simp)
 have c58_0:CallDet Tryz.prog 58 [.d (.agg [.bool true,.bool false,.slice 2 []])] [.agg [.bool true,.bool false,.slice 2 []]]:=c58 ⟨true,false,[]⟩ (by simp)
 have c58_1:CallDet Tryz.prog 58 [.d (.agg [.bool true,.bool false,.slice 2 [Data.agg [.str [103,114,105,100],.int .i64 t]]])] [.agg [.bool true,.bool false,.slice 2 [Data.agg [.str [103,114,105,100],.int .i64 t]]]]:=c58 ⟨true,false,[⟨[103,114,105,100],t⟩]⟩ (by simp)
 have c58_2:CallDet Tryz.prog 58 [.d (.agg [.bool true,.bool false,.slice 2 [Data.agg [.str [103,114,105,100],.int .i64 t],Data.agg [.str [115,97,108,101,115],.int .i64 t]]])] [.agg [.bool true,.bool false,.slice 2 [Data.agg [.str [103,114,105,100],.int .i64 t],Data.agg [.str [115,97,108,101,115],.int .i64 t]]]]:=c58 ⟨true,false,[⟨[103,114,105,100],t⟩,⟨[115,97,108,101,115],t⟩]⟩ (by simp)
 have c58_3:CallDet Tryz.prog 58 [.d (.agg [.bool false,.bool false,.slice 2 []])] [.agg [.bool false,.bool false,.slice 2 []]]:=c58 ⟨false,false,[]⟩ (by simp)
 have c58_4:CallDet Tryz.prog 58 [.d (.agg [.bool false,.bool true,.slice 2 []])] [.agg [.bool false,.bool true,.slice 2 []]]:=c58 ⟨false,true,[]⟩ (by simp)
 have c59_1:=o1 true hl hH h0 (show t≤100000000 by omega) f0 (show f≤1000000 by omega) (hp t (Int.le_refl _) hg)
 have c59_2:=o2 (f:=v - t) hl hH h0 h3 h1 (by omega) (by omega) hv (Int.le_refl _)
 have c59_3:=o2 (f:=1000000) hl hH h0 h3 h1 (by omega) (by omega) hv (by omega)
 have c59_4:=o3 (f:=v - t - 1) hl hH h0 h3 h1 (by omega) (by omega) hv (by omega)
 have c59_5:=o4 hl hH (show 0≤v by omega) h3 hv
 have c72_1:CallDet Tryz.prog 72 [.d (.agg [.bool false,.bool false,.slice 2 []])] [.agg [.bool false,.bool false,.slice 2 []],.int .i64 29]:=c72 ⟨false,false,[]⟩ (by simp)
 have c72_2:CallDet Tryz.prog 72 [.d (.agg [.bool false,.bool true,.slice 2 []])] [.agg [.bool true,.bool false,.slice 2 []],.int .i64 0]:=c72 ⟨false,true,[]⟩ (by simp)
 have c73_1:CallDet Tryz.prog 73 [.d (.agg [.bool false,.bool false,.slice 2 []])] [.agg [.bool false,.bool true,.slice 2 []],.int .i64 0]:=c73 ⟨false,false,[]⟩ (by simp)
 unfold seg10
 refine ca c47_ ?_
 refine ca c46_ ?_
 refine ca c47_ ?_
 refine ca c48_ ?_
 refine ar_add ?_ ?_
 refine an ?_ ?_
 (show (-9223372036854775808:Int)≤(0:Int)+(0:Int); omega)
 (show (0:Int)+(0:Int)≤(9223372036854775807:Int); omega)
 refine sd ?_
 refine sd ?_
 refine b_ne (fun t1=>?_) (fun t1=>?_)
 (exfalso; omega)
 refine sd ?_
 refine b_lt (fun t2=>?_) (fun t2=>?_)
 (exfalso; omega)
 rotate_left
 refine v10a hl hH h0 h1 h2 h3 hp ?_
 rotate_left
 refine v10b h0 (by omega) ?_
 refine ca c71_1 ?_
 refine ca c58_1 ?_
 refine ca c47_ ?_
 refine ca c59_1 ?_
 refine ca c71_1 ?_
 refine ca c58_1 ?_
 refine ca c70_ ?_
 refine ca c71_2 ?_
 refine ca c58_2 ?_
 refine ca c47_ ?_
 refine ar_sub ?_ ?_
 refine an ?_ ?_
 (show (-9223372036854775808:Int)≤v - t; omega)
 (show v - t≤(9223372036854775807:Int); omega)
 refine ca c59_2 ?_
 refine ca c71_2 ?_
 refine ca c58_2 ?_
 refine ca c47_ ?_
 refine ca c59_3 ?_
 refine sd ?_
 refine b_lt (fun t3=>?_) (fun t3=>?_)
 refine sd ?_
 refine sd ?_
 refine b_eq (fun t4=>?_) (fun t4=>?_)
 (exfalso; omega)
 refine sd ?_
 refine sd ?_
 refine ar_sub ?_ ?_
 refine an ?_ ?_
 (show (-9223372036854775808:Int)≤v - t; omega)
 (show v - t≤(9223372036854775807:Int); omega)
 refine sd ?_
 refine b_le (fun t5=>?_) (fun t5=>?_)
 refine sd ?_
 refine sd ?_
 refine sd ?_
 refine b_lt (fun t6=>?_) (fun t6=>?_)
 refine ca c71_2 ?_
 refine ca c58_2 ?_
 refine ca c47_ ?_
 refine ar_sub ?_ ?_
 refine an ?_ ?_
 (show (-9223372036854775808:Int)≤v - t; omega)
 (show v - t≤(9223372036854775807:Int); omega)
 refine ar_sub ?_ ?_
 refine an ?_ ?_
 (show (-9223372036854775808:Int)≤v - t - (1:Int); omega)
 (show v - t - (1:Int)≤(9223372036854775807:Int); omega)
 refine ca c59_4 ?_
 refine sd ?_
 refine ca c72_1 ?_
 refine ca c71_3 ?_
 refine ca c58_3 ?_
 refine ca c73_1 ?_
 refine ca c71_4 ?_
 refine ca c58_4 ?_
 refine ca c72_2 ?_
 refine ca c71_0 ?_
 refine ca c58_0 ?_
 refine ca c47_ ?_
 refine ca c59_5 ?_
 refine sd ?_
 refine sd ?_
 refine sd ?_
 refine sd ?_
 refine sd ?_
 refine ca (c15) ?_
 rotate_left
 (exfalso; omega)
 (exfalso; omega)
 (exfalso; omega)
 all_goals (refine hR _ ?_; exact rfl)
end Vc
