import Derived.Test.YtifgdpnmgeffbaaGreatDoorG39
import Derived.Test.YtifgdpnmgeffbaaGreatDoorG42
set_option linter.unusedSectionVars false
set_option linter.unusedVariables false
set_option linter.unusedSimpArgs false
set_option maxRecDepth 10000
set_option maxHeartbeats 4000000
namespace Vc
open Go Go.Proofs
@[irreducible] def seg9e:ACode:=(.post [3,4,5,7,8,10,12,16] [0,1,2,3,4,5,6,7,8,9]
 (.block 0
 (.keep [3,4,5,7,8,10,12,14,16,197,198,199] [0,1,2,3,4,5,6,7,8]
 (.loop
 (.post [3,4,5,7,8,10,12,14,16,197,198,199] [9]
 (.seq
 (.reg [] [⟨some 200,.cmp .lss (.tmp 199) (.tmp 198),none⟩])
 (.seq
 (.cond (.tmp 200)
 .skip
 (.exit 0))
 (.seq
 (.block 1
 (.seq
 (.reg [9] [⟨some 201,.mov (.tmp 199),none⟩,
 ⟨some 202,.ixa 2 (.tmp 197) (.tmp 199),none⟩,
 ⟨some 203,.ld true 2 (.tmp 202),none⟩,
 ⟨some 18,.alloc 9 [(.d (.int .i64 0)),(.d (.int .i64 0))],none⟩,
 ⟨some 17,.mov (.tmp 201),none⟩,
 ⟨none,.st 2 (.tmp 18) (.tmp 203),none⟩])
 (.seq
 (.seq
 (.regd [] [⟨some 204,.ld true 2 (.tmp 18),none⟩,
 ⟨some 205,.call 93 [(.tmp 204),(.cst (.d (.int .i64 100001)))],none⟩,
 ⟨some 206,.cmp .neq (.tmp 205) (.cst (.d (.int .i64 0))),none⟩,
 ⟨some 207,.mov (.tmp 206),none⟩,
 ⟨some 208,.mov (.tmp 17),some (207,false)⟩,
 ⟨some 209,.cmp .gtr (.tmp 208) (.cst (.d (.int .i64 0))),some (207,false)⟩,
 ⟨some 210,.mov (.tmp 209),some (207,false)⟩,
 ⟨some 211,.fad 0 (.tmp 18),some (210,true)⟩,
 ⟨some 212,.ld false 1 (.tmp 211),some (210,true)⟩,
 ⟨some 213,.mov (.tmp 14),some (210,true)⟩,
 ⟨some 214,.mov (.tmp 17),some (210,true)⟩,
 ⟨some 215,.arith .sub .i64 (.tmp 214) (.cst (.d (.int .i64 1))),some (210,true)⟩,
 ⟨some 216,.ixa 2 (.tmp 213) (.tmp 215),some (210,true)⟩,
 ⟨some 217,.fad 1 (.tmp 216),some (210,true)⟩,
 ⟨some 218,.ld false 1 (.tmp 217),some (210,true)⟩,
 ⟨some 219,.cmp .leq (.tmp 212) (.tmp 218),some (210,true)⟩,
 ⟨some 220,.pick (.tmp 210) (.tmp 219) (.cst (.d (.bool false))),some (207,false)⟩,
 ⟨some 221,.pick (.tmp 207) (.cst (.d (.bool true))) (.tmp 220),none⟩] [(7,9),(8,9),(7,10),(8,10),(9,10),(7,11),(8,11),(9,11),(7,12),(8,12),(7,13),(8,13),(7,14),(8,14)])
 (.cond (.tmp 221)
 (.seq
 (.reg [] [⟨some 6,.mov (.cst (.d (.bool false))),none⟩])
 .ret)
 .skip))
 (.reg [] [⟨some 222,.mov (.tmp 16),none⟩,
 ⟨some 223,.mov (.tmp 222),none⟩,
 ⟨some 224,.fad 3 (.tmp 4),some (223,false)⟩,
 ⟨some 225,.ld false 1 (.tmp 224),some (223,false)⟩,
 ⟨some 226,.fad 0 (.tmp 18),some (223,false)⟩,
 ⟨some 227,.ld false 1 (.tmp 226),some (223,false)⟩,
 ⟨some 228,.cmp .geq (.tmp 225) (.tmp 227),some (223,false)⟩,
 ⟨some 229,.mov (.tmp 228),some (223,false)⟩,
 ⟨some 230,.fad 3 (.tmp 4),some (229,true)⟩,
 ⟨some 231,.ld false 1 (.tmp 230),some (229,true)⟩,
 ⟨some 232,.fad 1 (.tmp 18),some (229,true)⟩,
 ⟨some 233,.ld false 1 (.tmp 232),some (229,true)⟩,
 ⟨some 234,.cmp .lss (.tmp 231) (.tmp 233),some (229,true)⟩,
 ⟨some 235,.pick (.tmp 229) (.tmp 234) (.cst (.d (.bool false))),some (223,false)⟩,
 ⟨some 236,.pick (.tmp 223) (.cst (.d (.bool true))) (.tmp 235),none⟩,
 ⟨some 16,.mov (.tmp 236),none⟩]))))
 (.reg [] [⟨some 237,.arith .add .i64 (.tmp 199) (.cst (.d (.int .i64 1))),none⟩,
 ⟨some 199,.mov (.tmp 237),none⟩])))))))))
@[irreducible] def seg9g:ACode:=(.post [3,4,5,7,8,10,12] [0,1,2,3,4,5,6,7,8,9]
 (.block 2
 (.keep [3,4,5,7,8,10,12,241,242,243] [0,1,2,3,4,5,6,7,8,9]
 (.loop
 (.post [3,4,5,7,8,10,12,241,242,243] []
 (.seq
 (.reg [] [⟨some 244,.cmp .lss (.tmp 243) (.tmp 242),none⟩])
 (.seq
 (.cond (.tmp 244)
 .skip
 (.exit 2))
 (.seq
 (.block 3
 (.seq
 (.reg [] [⟨some 245,.mov (.tmp 243),none⟩,
 ⟨some 246,.ixa 1 (.tmp 241) (.tmp 243),none⟩,
 ⟨some 247,.ld false 1 (.tmp 246),none⟩,
 ⟨some 19,.mov (.tmp 245),none⟩,
 ⟨some 20,.mov (.tmp 247),none⟩])
 (.seq
 (.regd [] [⟨some 249,.ld true 2 (.tmp 3),none⟩,
 ⟨some 250,.call 15 [(.tmp 249)],none⟩,
 ⟨some 251,.mov (.tmp 20),none⟩,
 ⟨some 252,.fad 1 (.tmp 4),none⟩,
 ⟨some 253,.ld false 1 (.tmp 252),none⟩,
 ⟨some 254,.fad 2 (.tmp 4),none⟩,
 ⟨some 255,.ld false 1 (.tmp 254),none⟩,
 ⟨some 256,.fad 3 (.tmp 4),none⟩,
 ⟨some 257,.ld false 1 (.tmp 256),none⟩,
 ⟨some 258,.call 14 [(.tmp 250),(.tmp 251),(.tmp 253),(.tmp 255),(.tmp 257)],none⟩,
 ⟨some 248,.mov (.tmp 258),none⟩,
 ⟨some 259,.ext 0 (.tmp 248),none⟩,
 ⟨some 260,.ext 1 (.tmp 248),none⟩,
 ⟨some 21,.mov (.tmp 259),none⟩,
 ⟨some 22,.mov (.tmp 260),none⟩] [(0,2),(1,2),(0,3),(1,3),(2,3),(0,4),(1,4),(2,4),(0,5),(1,5),(2,5),(3,5),(4,5),(0,6),(1,6),(2,6),(3,6),(4,6),(0,7),(1,7),(2,7),(3,7),(4,7),(5,7),(6,7),(0,8),(1,8),(2,8),(3,8),(4,8),(5,8),(6,8),(11,12),(12,13)])
 (.seq
 (.reg [] [⟨some 261,.mov (.tmp 22),none⟩,
 ⟨some 262,.cmp .neq (.tmp 261) (.cst (.d (.int .i64 0))),none⟩,
 ⟨some 263,.mov (.tmp 262),none⟩,
 ⟨some 264,.mov (.tmp 21),some (263,false)⟩,
 ⟨some 265,.not (.tmp 264),some (263,false)⟩,
 ⟨some 266,.pick (.tmp 263) (.cst (.d (.bool true))) (.tmp 265),none⟩,
 ⟨some 267,.mov (.tmp 266),none⟩,
 ⟨some 268,.mov (.tmp 12),some (267,false)⟩,
 ⟨some 269,.mov (.tmp 19),some (267,false)⟩,
 ⟨some 270,.slc 1 (.tmp 268) none (some (.tmp 269)),some (267,false)⟩,
 ⟨some 271,.mov (.tmp 20),some (267,false)⟩,
 ⟨some 272,.call 92 [(.tmp 270),(.tmp 271)],some (267,false)⟩,
 ⟨some 273,.pick (.tmp 267) (.cst (.d (.bool true))) (.tmp 272),none⟩])
 (.cond (.tmp 273)
 (.seq
 (.reg [] [⟨some 6,.mov (.cst (.d (.bool false))),none⟩])
 .ret)
 .skip)))))
 (.reg [] [⟨some 274,.arith .add .i64 (.tmp 243) (.cst (.d (.int .i64 1))),none⟩,
 ⟨some 243,.mov (.tmp 274),none⟩])))))))))
@[irreducible] def seg9l:ACode:=(.post [3,4,5,7,8,10,23] [0,1,2,3,4,5,6,7,8,9,10,11]
 (.block 4
 (.keep [3,4,5,7,8,10,23,294,295,296] [0,1,2,3,4,5,6,7,8,9,10,11]
 (.loop
 (.post [3,4,5,7,8,10,23,294,295,296] []
 (.seq
 (.reg [] [⟨some 297,.cmp .lss (.tmp 296) (.tmp 295),none⟩])
 (.seq
 (.cond (.tmp 297)
 .skip
 (.exit 4))
 (.seq
 (.block 5
 (.seq
 (.reg [] [⟨some 298,.ixa 1 (.tmp 294) (.tmp 296),none⟩,
 ⟨some 299,.ld false 1 (.tmp 298),none⟩,
 ⟨some 25,.mov (.tmp 299),none⟩])
 (.seq
 (.seq
 (.regd [] [⟨some 300,.mov (.tmp 25),none⟩,
 ⟨some 301,.cmp .lss (.tmp 300) (.cst (.d (.int .i64 0))),none⟩,
 ⟨some 302,.mov (.tmp 301),none⟩,
 ⟨some 303,.mov (.tmp 25),some (302,false)⟩,
 ⟨some 304,.fad 1 (.tmp 3),some (302,false)⟩,
 ⟨some 305,.ld false 1 (.tmp 304),some (302,false)⟩,
 ⟨some 306,.len (.tmp 305),some (302,false)⟩,
 ⟨some 307,.cmp .geq (.tmp 303) (.tmp 306),some (302,false)⟩,
 ⟨some 308,.pick (.tmp 302) (.cst (.d (.bool true))) (.tmp 307),none⟩,
 ⟨some 309,.mov (.tmp 308),none⟩,
 ⟨some 310,.fad 1 (.tmp 3),some (309,false)⟩,
 ⟨some 311,.ld false 1 (.tmp 310),some (309,false)⟩,
 ⟨some 312,.mov (.tmp 25),some (309,false)⟩,
 ⟨some 313,.ixa 6 (.tmp 311) (.tmp 312),some (309,false)⟩,
 ⟨some 314,.fad 0 (.tmp 313),some (309,false)⟩,
 ⟨some 315,.ld false 1 (.tmp 314),some (309,false)⟩,
 ⟨some 316,.mov (.tmp 23),some (309,false)⟩,
 ⟨some 317,.seq true (.tmp 315) (.tmp 316),some (309,false)⟩,
 ⟨some 318,.pick (.tmp 309) (.cst (.d (.bool true))) (.tmp 317),none⟩,
 ⟨some 319,.mov (.tmp 318),none⟩,
 ⟨some 320,.fad 1 (.tmp 3),some (319,false)⟩,
 ⟨some 321,.ld false 1 (.tmp 320),some (319,false)⟩,
 ⟨some 322,.mov (.tmp 25),some (319,false)⟩,
 ⟨some 323,.ixa 6 (.tmp 321) (.tmp 322),some (319,false)⟩,
 ⟨some 324,.fad 2 (.tmp 323),some (319,false)⟩,
 ⟨some 325,.ld false 1 (.tmp 324),some (319,false)⟩,
 ⟨some 326,.fad 1 (.tmp 4),some (319,false)⟩,
 ⟨some 327,.ld false 1 (.tmp 326),some (319,false)⟩,
 ⟨some 328,.seq true (.tmp 325) (.tmp 327),some (319,false)⟩,
 ⟨some 329,.pick (.tmp 319) (.cst (.d (.bool true))) (.tmp 328),none⟩,
 ⟨some 330,.mov (.tmp 329),none⟩,
 ⟨some 331,.fad 1 (.tmp 3),some (330,false)⟩,
 ⟨some 332,.ld false 1 (.tmp 331),some (330,false)⟩,
 ⟨some 333,.mov (.tmp 25),some (330,false)⟩,
 ⟨some 334,.ixa 6 (.tmp 332) (.tmp 333),some (330,false)⟩,
 ⟨some 335,.fad 3 (.tmp 334),some (330,false)⟩,
 ⟨some 336,.ld false 1 (.tmp 335),some (330,false)⟩,
 ⟨some 337,.fad 2 (.tmp 4),some (330,false)⟩,
 ⟨some 338,.ld false 1 (.tmp 337),some (330,false)⟩,
 ⟨some 339,.seq true (.tmp 336) (.tmp 338),some (330,false)⟩,
 ⟨some 340,.pick (.tmp 330) (.cst (.d (.bool true))) (.tmp 339),none⟩,
 ⟨some 341,.mov (.tmp 340),none⟩,
 ⟨some 342,.fad 3 (.tmp 4),some (341,false)⟩,
 ⟨some 343,.ld false 1 (.tmp 342),some (341,false)⟩,
 ⟨some 344,.fad 1 (.tmp 3),some (341,false)⟩,
 ⟨some 345,.ld false 1 (.tmp 344),some (341,false)⟩,
 ⟨some 346,.mov (.tmp 25),some (341,false)⟩,
 ⟨some 347,.ixa 6 (.tmp 345) (.tmp 346),some (341,false)⟩,
 ⟨some 348,.fad 4 (.tmp 347),some (341,false)⟩,
 ⟨some 349,.fad 0 (.tmp 348),some (341,false)⟩,
 ⟨some 350,.ld false 1 (.tmp 349),some (341,false)⟩,
 ⟨some 351,.cmp .lss (.tmp 343) (.tmp 350),some (341,false)⟩,
 ⟨some 352,.pick (.tmp 341) (.cst (.d (.bool true))) (.tmp 351),none⟩,
 ⟨some 353,.mov (.tmp 352),none⟩,
 ⟨some 354,.fad 3 (.tmp 4),some (353,false)⟩,
 ⟨some 355,.ld false 1 (.tmp 354),some (353,false)⟩,
 ⟨some 356,.fad 1 (.tmp 3),some (353,false)⟩,
 ⟨some 357,.ld false 1 (.tmp 356),some (353,false)⟩,
 ⟨some 358,.mov (.tmp 25),some (353,false)⟩,
 ⟨some 359,.ixa 6 (.tmp 357) (.tmp 358),some (353,false)⟩,
 ⟨some 360,.fad 4 (.tmp 359),some (353,false)⟩,
 ⟨some 361,.fad 1 (.tmp 360),some (353,false)⟩,
 ⟨some 362,.ld false 1 (.tmp 361),some (353,false)⟩,
 ⟨some 363,.cmp .geq (.tmp 355) (.tmp 362),some (353,false)⟩,
 ⟨some 364,.pick (.tmp 353) (.cst (.d (.bool true))) (.tmp 363),none⟩] [(3,4),(3,5),(3,6),(10,12),(11,12),(10,16),(11,16),(12,16),(13,16),(14,16),(15,16),(20,22),(21,22),(20,26),(21,26),(22,26),(23,26),(24,26),(25,26),(20,27),(21,27),(22,27),(23,27),(24,27),(25,27),(31,33),(32,33),(31,37),(32,37),(33,37),(34,37),(35,37),(36,37),(31,38),(32,38),(33,38),(34,38),(35,38),(36,38),(42,44),(43,44),(42,45),(43,45),(42,46),(43,46),(44,46),(45,46),(42,47),(43,47),(42,48),(43,48),(42,49),(43,49),(42,50),(43,50),(54,56),(55,56),(54,57),(55,57),(54,58),(55,58),(56,58),(57,58),(54,59),(55,59),(54,60),(55,60),(54,61),(55,61),(54,62),(55,62)])
 (.cond (.tmp 364)
 (.seq
 (.reg [] [⟨some 6,.mov (.cst (.d (.bool false))),none⟩])
 .ret)
 .skip))
 (.reg [] [⟨some 365,.fad 1 (.tmp 3),none⟩,
 ⟨some 366,.ld false 1 (.tmp 365),none⟩,
 ⟨some 367,.mov (.tmp 25),none⟩,
 ⟨some 368,.ixa 6 (.tmp 366) (.tmp 367),none⟩,
 ⟨some 369,.fad 1 (.tmp 368),none⟩,
 ⟨some 370,.ld false 1 (.tmp 369),none⟩,
 ⟨some 23,.mov (.tmp 370),none⟩]))))
 (.reg [] [⟨some 371,.arith .add .i64 (.tmp 296) (.cst (.d (.int .i64 1))),none⟩,
 ⟨some 296,.mov (.tmp 371),none⟩])))))))))
@[irreducible] def seg9t:ACode:=(.post [4,5,7,8] [0,8,9,10,11,12,13] (.seq
 (.seq
 (.regd [10,11] [⟨some 276,.ld true 2 (.tmp 3),none⟩,
 ⟨some 277,.call 15 [(.tmp 276)],none⟩,
 ⟨some 278,.fad 0 (.tmp 4),none⟩,
 ⟨some 279,.ld false 1 (.tmp 278),none⟩,
 ⟨some 280,.fad 1 (.tmp 4),none⟩,
 ⟨some 281,.ld false 1 (.tmp 280),none⟩,
 ⟨some 282,.fad 2 (.tmp 4),none⟩,
 ⟨some 283,.ld false 1 (.tmp 282),none⟩,
 ⟨some 284,.fad 3 (.tmp 4),none⟩,
 ⟨some 285,.ld false 1 (.tmp 284),none⟩,
 ⟨some 286,.bsl 10 3 1 0 [] [],none⟩,
 ⟨some 287,.mov (.tmp 10),none⟩,
 ⟨some 288,.app 11 3 1 8 (.tmp 286) (.tmp 287),none⟩,
 ⟨some 289,.call 17 [(.tmp 277),(.tmp 279),(.tmp 281),(.tmp 283),(.tmp 285),(.tmp 288)],none⟩,
 ⟨some 290,.cmp .neq (.tmp 289) (.cst (.d (.int .i64 0))),none⟩] [(0,2),(1,2),(0,3),(1,3),(0,4),(1,4),(2,4),(3,4),(0,5),(1,5),(2,5),(3,5),(0,6),(1,6),(2,6),(3,6),(4,6),(5,6),(0,7),(1,7),(2,7),(3,7),(4,7),(5,7),(0,8),(1,8),(2,8),(3,8),(4,8),(5,8),(6,8),(7,8),(0,9),(1,9),(2,9),(3,9),(4,9),(5,9),(6,9),(7,9),(0,10),(1,10),(2,10),(3,10),(4,10),(5,10),(6,10),(7,10),(8,10),(9,10),(0,11),(1,11),(2,11),(3,11),(4,11),(5,11),(6,11),(7,11),(8,11),(9,11),(10,11),(2,12),(3,12),(4,12),(5,12),(6,12),(7,12),(8,12),(9,12)])
 (.cond (.tmp 290)
 (.seq
 (.reg [] [⟨some 6,.mov (.cst (.d (.bool false))),none⟩])
 .ret)
 .skip))
 (.seq
 (.reg [] [⟨some 291,.mov (.tmp 12),none⟩,
 ⟨some 292,.ixa 1 (.tmp 291) (.cst (.d (.int .i64 0))),none⟩,
 ⟨some 293,.ld false 1 (.tmp 292),none⟩,
 ⟨some 23,.mov (.tmp 293),none⟩])
 (.seq
 (.seq
 (.post [3,4,5,7,8,10,23,294,295,296] [4,5,6,8,9,10,11] (.reg [] [⟨some 294,.mov (.tmp 10),none⟩,
 ⟨some 295,.len (.tmp 294),none⟩,
 ⟨some 296,.mov (.cst (.d (.int .i64 0))),none⟩]))
 seg9l)
 (.seq
 (.seq
 (.reg [] [⟨some 372,.mov (.tmp 23),none⟩,
 ⟨some 373,.fad 0 (.tmp 4),none⟩,
 ⟨some 374,.ld false 1 (.tmp 373),none⟩,
 ⟨some 375,.seq true (.tmp 372) (.tmp 374),none⟩])
 (.cond (.tmp 375)
 (.seq
 (.reg [] [⟨some 6,.mov (.cst (.d (.bool false))),none⟩])
 .ret)
 .skip))
 (.seq
 (.regd [12,13] [⟨some 376,.mov (.tmp 10),none⟩,
 ⟨some 377,.len (.tmp 376),none⟩,
 ⟨some 378,.cmp .gtr (.tmp 377) (.cst (.d (.int .i64 0))),none⟩,
 ⟨some 379,.mov (.tmp 378),none⟩,
 ⟨some 380,.ld true 2 (.tmp 3),some (379,true)⟩,
 ⟨some 381,.call 15 [(.tmp 380)],some (379,true)⟩,
 ⟨some 382,.fad 0 (.tmp 4),some (379,true)⟩,
 ⟨some 383,.ld false 1 (.tmp 382),some (379,true)⟩,
 ⟨some 384,.fad 1 (.tmp 4),some (379,true)⟩,
 ⟨some 385,.ld false 1 (.tmp 384),some (379,true)⟩,
 ⟨some 386,.fad 2 (.tmp 4),some (379,true)⟩,
 ⟨some 387,.ld false 1 (.tmp 386),some (379,true)⟩,
 ⟨some 388,.fad 3 (.tmp 4),some (379,true)⟩,
 ⟨some 389,.ld false 1 (.tmp 388),some (379,true)⟩,
 ⟨some 390,.bsl 12 3 1 0 [] [],some (379,true)⟩,
 ⟨some 391,.mov (.tmp 10),some (379,true)⟩,
 ⟨some 392,.slc 1 (.tmp 391) (some (.cst (.d (.int .i64 1)))) none,some (379,true)⟩,
 ⟨some 393,.app 13 3 1 8 (.tmp 390) (.tmp 392),some (379,true)⟩,
 ⟨some 394,.call 17 [(.tmp 381),(.tmp 383),(.tmp 385),(.tmp 387),(.tmp 389),(.tmp 393)],some (379,true)⟩,
 ⟨some 395,.cmp .neq (.tmp 394) (.cst (.d (.int .i64 19))),some (379,true)⟩,
 ⟨some 396,.pick (.tmp 379) (.tmp 395) (.cst (.d (.bool false))),none⟩] [(4,6),(5,6),(4,7),(5,7),(4,8),(5,8),(6,8),(7,8),(4,9),(5,9),(6,9),(7,9),(4,10),(5,10),(6,10),(7,10),(8,10),(9,10),(4,11),(5,11),(6,11),(7,11),(8,11),(9,11),(4,12),(5,12),(6,12),(7,12),(8,12),(9,12),(10,12),(11,12),(4,13),(5,13),(6,13),(7,13),(8,13),(9,13),(10,13),(11,13),(4,14),(5,14),(6,14),(7,14),(8,14),(9,14),(10,14),(11,14),(12,14),(13,14),(4,15),(5,15),(6,15),(7,15),(8,15),(9,15),(10,15),(11,15),(12,15),(13,15),(14,15),(4,16),(5,16),(6,16),(7,16),(8,16),(9,16),(10,16),(11,16),(12,16),(13,16),(14,16),(6,17),(7,17),(8,17),(9,17),(10,17),(11,17),(12,17),(13,17)])
 (.cond (.tmp 396)
 (.seq
 (.reg [] [⟨some 6,.mov (.cst (.d (.bool false))),none⟩])
 .ret)
 .skip)))))))
@[irreducible] def seg9f:ACode:=(.post [4,5,7,8] [0,8,9,10,11,12,13] (.seq
 (.regd [] [⟨some 397,.ld true 2 (.tmp 3),none⟩,
 ⟨some 398,.call 15 [(.tmp 397)],none⟩,
 ⟨some 399,.fad 0 (.tmp 4),none⟩,
 ⟨some 400,.ld false 1 (.tmp 399),none⟩,
 ⟨some 401,.fad 1 (.tmp 4),none⟩,
 ⟨some 402,.ld false 1 (.tmp 401),none⟩,
 ⟨some 403,.fad 2 (.tmp 4),none⟩,
 ⟨some 404,.ld false 1 (.tmp 403),none⟩,
 ⟨some 405,.fad 3 (.tmp 4),none⟩,
 ⟨some 406,.ld false 1 (.tmp 405),none⟩,
 ⟨some 407,.call 17 [(.tmp 398),(.tmp 400),(.tmp 402),(.tmp 404),(.tmp 406),(.cst (.nils 1))],none⟩,
 ⟨some 408,.cmp .neq (.tmp 407) (.cst (.d (.int .i64 19))),none⟩] [(0,2),(1,2),(0,3),(1,3),(0,4),(1,4),(2,4),(3,4),(0,5),(1,5),(2,5),(3,5),(0,6),(1,6),(2,6),(3,6),(4,6),(5,6),(0,7),(1,7),(2,7),(3,7),(4,7),(5,7),(0,8),(1,8),(2,8),(3,8),(4,8),(5,8),(6,8),(7,8),(0,9),(1,9),(2,9),(3,9),(4,9),(5,9),(6,9),(7,9)])
 (.cond (.tmp 408)
 (.seq
 (.reg [] [⟨some 6,.mov (.cst (.d (.bool false))),none⟩])
 .ret)
 .skip)))
@[irreducible] def seg9i:ACode:=(.seq
 (.regd [] [⟨some 410,.ld true 2 (.tmp 7),none⟩,
 ⟨some 411,.call 15 [(.tmp 410)],none⟩,
 ⟨some 412,.fad 0 (.tmp 4),none⟩,
 ⟨some 413,.ld false 1 (.tmp 412),none⟩,
 ⟨some 414,.fad 1 (.tmp 4),none⟩,
 ⟨some 415,.ld false 1 (.tmp 414),none⟩,
 ⟨some 416,.fad 2 (.tmp 4),none⟩,
 ⟨some 417,.ld false 1 (.tmp 416),none⟩,
 ⟨some 418,.fad 3 (.tmp 4),none⟩,
 ⟨some 419,.ld false 1 (.tmp 418),none⟩,
 ⟨some 420,.call 14 [(.tmp 411),(.tmp 413),(.tmp 415),(.tmp 417),(.tmp 419)],none⟩,
 ⟨some 409,.mov (.tmp 420),none⟩,
 ⟨some 421,.ext 0 (.tmp 409),none⟩,
 ⟨some 422,.ext 1 (.tmp 409),none⟩,
 ⟨some 26,.mov (.tmp 421),none⟩,
 ⟨some 27,.mov (.tmp 422),none⟩] [(0,2),(1,2),(0,3),(1,3),(0,4),(1,4),(2,4),(3,4),(0,5),(1,5),(2,5),(3,5),(0,6),(1,6),(2,6),(3,6),(4,6),(5,6),(0,7),(1,7),(2,7),(3,7),(4,7),(5,7),(0,8),(1,8),(2,8),(3,8),(4,8),(5,8),(6,8),(7,8),(0,9),(1,9),(2,9),(3,9),(4,9),(5,9),(6,9),(7,9),(12,13),(13,14)])
 (.seq
 (.regd [] [⟨some 424,.ld true 2 (.tmp 7),none⟩,
 ⟨some 425,.call 15 [(.tmp 424)],none⟩,
 ⟨some 426,.fad 0 (.tmp 5),none⟩,
 ⟨some 427,.ld false 1 (.tmp 426),none⟩,
 ⟨some 428,.fad 2 (.tmp 5),none⟩,
 ⟨some 429,.ld false 1 (.tmp 428),none⟩,
 ⟨some 430,.fad 3 (.tmp 5),none⟩,
 ⟨some 431,.ld false 1 (.tmp 430),none⟩,
 ⟨some 432,.fad 3 (.tmp 4),none⟩,
 ⟨some 433,.ld false 1 (.tmp 432),none⟩,
 ⟨some 434,.call 14 [(.tmp 425),(.tmp 427),(.tmp 429),(.tmp 431),(.tmp 433)],none⟩,
 ⟨some 423,.mov (.tmp 434),none⟩,
 ⟨some 435,.ext 0 (.tmp 423),none⟩,
 ⟨some 436,.ext 1 (.tmp 423),none⟩,
 ⟨some 28,.mov (.tmp 435),none⟩,
 ⟨some 29,.mov (.tmp 436),none⟩] [(0,2),(1,2),(0,3),(1,3),(0,4),(1,4),(2,4),(3,4),(0,5),(1,5),(2,5),(3,5),(0,6),(1,6),(2,6),(3,6),(4,6),(5,6),(0,7),(1,7),(2,7),(3,7),(4,7),(5,7),(0,8),(1,8),(2,8),(3,8),(4,8),(5,8),(6,8),(7,8),(0,9),(1,9),(2,9),(3,9),(4,9),(5,9),(6,9),(7,9),(12,13),(13,14)])
 (.seq
 (.regd [] [⟨some 438,.ld true 2 (.tmp 7),none⟩,
 ⟨some 439,.call 15 [(.tmp 438)],none⟩,
 ⟨some 440,.fad 1 (.tmp 5),none⟩,
 ⟨some 441,.ld false 1 (.tmp 440),none⟩,
 ⟨some 442,.fad 2 (.tmp 5),none⟩,
 ⟨some 443,.ld false 1 (.tmp 442),none⟩,
 ⟨some 444,.fad 3 (.tmp 5),none⟩,
 ⟨some 445,.ld false 1 (.tmp 444),none⟩,
 ⟨some 446,.fad 3 (.tmp 4),none⟩,
 ⟨some 447,.ld false 1 (.tmp 446),none⟩,
 ⟨some 448,.call 14 [(.tmp 439),(.tmp 441),(.tmp 443),(.tmp 445),(.tmp 447)],none⟩,
 ⟨some 437,.mov (.tmp 448),none⟩,
 ⟨some 449,.ext 0 (.tmp 437),none⟩,
 ⟨some 450,.ext 1 (.tmp 437),none⟩,
 ⟨some 30,.mov (.tmp 449),none⟩,
 ⟨some 31,.mov (.tmp 450),none⟩] [(0,2),(1,2),(0,3),(1,3),(0,4),(1,4),(2,4),(3,4),(0,5),(1,5),(2,5),(3,5),(0,6),(1,6),(2,6),(3,6),(4,6),(5,6),(0,7),(1,7),(2,7),(3,7),(4,7),(5,7),(0,8),(1,8),(2,8),(3,8),(4,8),(5,8),(6,8),(7,8),(0,9),(1,9),(2,9),(3,9),(4,9),(5,9),(6,9),(7,9),(12,13),(13,14)])
 (.seq
 (.reg [] [⟨some 451,.mov (.tmp 27),none⟩,
 ⟨some 452,.cmp .eql (.tmp 451) (.cst (.d (.int .i64 0))),none⟩,
 ⟨some 453,.mov (.tmp 452),none⟩,
 ⟨some 454,.mov (.tmp 29),some (453,true)⟩,
 ⟨some 455,.cmp .eql (.tmp 454) (.cst (.d (.int .i64 0))),some (453,true)⟩,
 ⟨some 456,.pick (.tmp 453) (.tmp 455) (.cst (.d (.bool false))),none⟩,
 ⟨some 457,.mov (.tmp 456),none⟩,
 ⟨some 458,.mov (.tmp 31),some (457,true)⟩,
 ⟨some 459,.cmp .eql (.tmp 458) (.cst (.d (.int .i64 0))),some (457,true)⟩,
 ⟨some 460,.pick (.tmp 457) (.tmp 459) (.cst (.d (.bool false))),none⟩,
 ⟨some 461,.mov (.tmp 460),none⟩,
 ⟨some 462,.mov (.tmp 8),some (461,true)⟩,
 ⟨some 463,.not (.tmp 462),some (461,true)⟩,
 ⟨some 464,.mov (.tmp 463),some (461,true)⟩,
 ⟨some 465,.mov (.tmp 26),some (464,false)⟩,
 ⟨some 466,.pick (.tmp 464) (.cst (.d (.bool true))) (.tmp 465),some (461,true)⟩,
 ⟨some 467,.pick (.tmp 461) (.tmp 466) (.cst (.d (.bool false))),none⟩,
 ⟨some 468,.mov (.tmp 467),none⟩,
 ⟨some 469,.mov (.tmp 28),some (468,true)⟩,
 ⟨some 470,.not (.tmp 469),some (468,true)⟩,
 ⟨some 471,.mov (.tmp 470),some (468,true)⟩,
 ⟨some 472,.mov (.tmp 30),some (471,false)⟩,
 ⟨some 473,.pick (.tmp 471) (.cst (.d (.bool true))) (.tmp 472),some (468,true)⟩,
 ⟨some 474,.mov (.tmp 473),some (468,true)⟩,
 ⟨some 475,.fad 3 (.tmp 4),some (474,false)⟩,
 ⟨some 476,.ld false 1 (.tmp 475),some (474,false)⟩,
 ⟨some 477,.fad 4 (.tmp 5),some (474,false)⟩,
 ⟨some 478,.fad 0 (.tmp 477),some (474,false)⟩,
 ⟨some 479,.ld false 1 (.tmp 478),some (474,false)⟩,
 ⟨some 480,.cmp .lss (.tmp 476) (.tmp 479),some (474,false)⟩,
 ⟨some 481,.pick (.tmp 474) (.cst (.d (.bool true))) (.tmp 480),some (468,true)⟩,
 ⟨some 482,.mov (.tmp 481),some (468,true)⟩,
 ⟨some 483,.fad 3 (.tmp 4),some (482,false)⟩,
 ⟨some 484,.ld false 1 (.tmp 483),some (482,false)⟩,
 ⟨some 485,.fad 4 (.tmp 5),some (482,false)⟩,
 ⟨some 486,.fad 1 (.tmp 485),some (482,false)⟩,
 ⟨some 487,.ld false 1 (.tmp 486),some (482,false)⟩,
 ⟨some 488,.cmp .geq (.tmp 484) (.tmp 487),some (482,false)⟩,
 ⟨some 489,.pick (.tmp 482) (.cst (.d (.bool true))) (.tmp 488),some (468,true)⟩,
 ⟨some 490,.pick (.tmp 468) (.tmp 489) (.cst (.d (.bool false))),none⟩,
 ⟨some 491,.mov (.tmp 490),none⟩,
 ⟨some 492,.call 13 [],some (491,true)⟩,
 ⟨some 493,.pick (.tmp 491) (.tmp 492) (.cst (.d (.bool false))),none⟩,
 ⟨some 6,.mov (.tmp 493),none⟩])
 .ret))))
def jr9:AFun:=⟨494,14,[.tmp 6],
 (.seq
 (.reg [0,1,2] [⟨some 3,.cbx 0 2 (.tmp 0),none⟩,
  ⟨some 4,.cbx 1 4 (.tmp 1),none⟩,
  ⟨some 5,.cbx 2 6 (.tmp 2),none⟩,
  ⟨some 6,.mov (.cst (.d (.bool false))),none⟩])
 (.seq
  (.seq
  (.reg [] [⟨some 32,.ld true 2 (.tmp 3),none⟩,
   ⟨some 33,.call 11 [(.tmp 32)],none⟩,
   ⟨some 34,.not (.tmp 33),none⟩,
   ⟨some 35,.mov (.tmp 34),none⟩,
   ⟨some 36,.ld true 2 (.tmp 3),some (35,false)⟩,
   ⟨some 37,.call 18 [(.tmp 36)],some (35,false)⟩,
   ⟨some 38,.cmp .neq (.tmp 37) (.cst (.d (.int .i64 0))),some (35,false)⟩,
   ⟨some 39,.pick (.tmp 35) (.cst (.d (.bool true))) (.tmp 38),none⟩,
   ⟨some 40,.mov (.tmp 39),none⟩,
   ⟨some 41,.fad 0 (.tmp 3),some (40,false)⟩,
   ⟨some 42,.ld false 1 (.tmp 41),some (40,false)⟩,
   ⟨some 43,.len (.tmp 42),some (40,false)⟩,
   ⟨some 44,.cmp .gtr (.tmp 43) (.cst (.d (.int .i64 6))),some (40,false)⟩,
   ⟨some 45,.pick (.tmp 40) (.cst (.d (.bool true))) (.tmp 44),none⟩,
   ⟨some 46,.mov (.tmp 45),none⟩,
   ⟨some 47,.fad 1 (.tmp 3),some (46,false)⟩,
   ⟨some 48,.ld false 1 (.tmp 47),some (46,false)⟩,
   ⟨some 49,.len (.tmp 48),some (46,false)⟩,
   ⟨some 50,.cmp .gtr (.tmp 49) (.cst (.d (.int .i64 10))),some (46,false)⟩,
   ⟨some 51,.pick (.tmp 46) (.cst (.d (.bool true))) (.tmp 50),none⟩,
   ⟨some 52,.mov (.tmp 51),none⟩,
   ⟨some 53,.ld true 4 (.tmp 4),some (52,false)⟩,
   ⟨some 54,.call 12 [(.tmp 53)],some (52,false)⟩,
   ⟨some 55,.not (.tmp 54),some (52,false)⟩,
   ⟨some 56,.pick (.tmp 52) (.cst (.d (.bool true))) (.tmp 55),none⟩,
   ⟨some 57,.mov (.tmp 56),none⟩,
   ⟨some 58,.ld true 2 (.tmp 3),some (57,false)⟩,
   ⟨some 59,.ld true 4 (.tmp 4),some (57,false)⟩,
   ⟨some 60,.call 20 [(.tmp 58),(.tmp 59)],some (57,false)⟩,
   ⟨some 61,.cmp .neq (.tmp 60) (.cst (.d (.int .i64 0))),some (57,false)⟩,
   ⟨some 62,.pick (.tmp 57) (.cst (.d (.bool true))) (.tmp 61),none⟩,
   ⟨some 63,.mov (.tmp 62),none⟩,
   ⟨some 64,.fad 3 (.tmp 4),some (63,false)⟩,
   ⟨some 65,.ld false 1 (.tmp 64),some (63,false)⟩,
   ⟨some 66,.call 21 [(.tmp 65)],some (63,false)⟩,
   ⟨some 67,.cmp .neq (.tmp 66) (.cst (.d (.int .i64 0))),some (63,false)⟩,
   ⟨some 68,.pick (.tmp 63) (.cst (.d (.bool true))) (.tmp 67),none⟩])
  (.cond (.tmp 68)
   (.seq
   (.reg [] [⟨some 69,.call 13 [],none⟩,
    ⟨some 6,.mov (.tmp 69),none⟩])
   .ret)
   .skip))
  (.seq
  (.regd [3,4,5,6,7] [⟨some 70,.fad 0 (.tmp 3),none⟩,
   ⟨some 71,.ld false 1 (.tmp 70),none⟩,
   ⟨some 72,.bsl 3 150 6 0 [] [],none⟩,
   ⟨some 73,.fad 1 (.tmp 3),none⟩,
   ⟨some 74,.ld false 1 (.tmp 73),none⟩,
   ⟨some 75,.app 4 150 6 80 (.tmp 72) (.tmp 74),none⟩,
   ⟨some 76,.ld true 6 (.tmp 5),none⟩,
   ⟨some 77,.bsl 5 150 6 1 [(.agg [(.str []),(.str []),(.str []),(.str []),(.int .i64 0),(.int .i64 0)])] [(0,(.tmp 76))],none⟩,
   ⟨some 78,.app 6 150 6 80 (.tmp 75) (.tmp 77),none⟩,
   ⟨some 79,.build [(.nils 2),(.nils 6)] [(0,1,(.tmp 71)),(1,1,(.tmp 78))],none⟩,
   ⟨some 7,.alloc 7 [(.nils 2),(.nils 6)],none⟩,
   ⟨none,.st 2 (.tmp 7) (.tmp 79),none⟩] [(0,2),(1,2),(0,3),(1,3),(2,3),(0,4),(1,4),(2,4),(0,5),(1,5),(0,6),(1,6),(2,6),(3,6),(4,6),(5,6),(0,7),(1,7),(2,7),(3,7),(4,7),(5,7),(0,8),(1,8),(0,10),(1,10),(2,10),(3,10),(4,10),(5,10),(6,10),(7,10),(8,10),(9,10)])
  (.seq
   (.seq
   (.reg [8] [⟨some 80,.ld true 6 (.tmp 5),none⟩,
    ⟨some 81,.bsl 8 150 6 1 [(.agg [(.str []),(.str []),(.str []),(.str []),(.int .i64 0),(.int .i64 0)])] [(0,(.tmp 80))],none⟩,
    ⟨some 82,.build [(.nils 2),(.nils 6)] [(1,1,(.tmp 81))],none⟩,
    ⟨some 83,.call 11 [(.tmp 82)],none⟩,
    ⟨some 84,.not (.tmp 83),none⟩,
    ⟨some 85,.mov (.tmp 84),none⟩,
    ⟨some 86,.ld true 2 (.tmp 7),some (85,false)⟩,
    ⟨some 87,.call 18 [(.tmp 86)],some (85,false)⟩,
    ⟨some 88,.cmp .neq (.tmp 87) (.cst (.d (.int .i64 0))),some (85,false)⟩,
    ⟨some 89,.pick (.tmp 85) (.cst (.d (.bool true))) (.tmp 88),none⟩])
   (.cond (.tmp 89)
    (.seq
    (.reg [] [⟨some 90,.call 13 [],none⟩,
     ⟨some 6,.mov (.tmp 90),none⟩])
    .ret)
    .skip))
   (.seq
   (.regd [] [⟨some 92,.ld true 2 (.tmp 3),none⟩,
    ⟨some 93,.call 15 [(.tmp 92)],none⟩,
    ⟨some 94,.fad 0 (.tmp 4),none⟩,
    ⟨some 95,.ld false 1 (.tmp 94),none⟩,
    ⟨some 96,.fad 1 (.tmp 4),none⟩,
    ⟨some 97,.ld false 1 (.tmp 96),none⟩,
    ⟨some 98,.fad 2 (.tmp 4),none⟩,
    ⟨some 99,.ld false 1 (.tmp 98),none⟩,
    ⟨some 100,.fad 3 (.tmp 4),none⟩,
    ⟨some 101,.ld false 1 (.tmp 100),none⟩,
    ⟨some 102,.call 14 [(.tmp 93),(.tmp 95),(.tmp 97),(.tmp 99),(.tmp 101)],none⟩,
    ⟨some 91,.mov (.tmp 102),none⟩,
    ⟨some 103,.ext 0 (.tmp 91),none⟩,
    ⟨some 104,.ext 1 (.tmp 91),none⟩,
    ⟨some 8,.mov (.tmp 103),none⟩,
    ⟨some 9,.mov (.tmp 104),none⟩] [(0,2),(1,2),(0,3),(1,3),(0,4),(1,4),(2,4),(3,4),(0,5),(1,5),(2,5),(3,5),(0,6),(1,6),(2,6),(3,6),(4,6),(5,6),(0,7),(1,7),(2,7),(3,7),(4,7),(5,7),(0,8),(1,8),(2,8),(3,8),(4,8),(5,8),(6,8),(7,8),(0,9),(1,9),(2,9),(3,9),(4,9),(5,9),(6,9),(7,9),(12,13),(13,14)])
   (.seq
    (.regd [] [⟨some 106,.ld true 2 (.tmp 3),none⟩,
     ⟨some 107,.call 15 [(.tmp 106)],none⟩,
     ⟨some 108,.fad 0 (.tmp 4),none⟩,
     ⟨some 109,.ld false 1 (.tmp 108),none⟩,
     ⟨some 110,.fad 1 (.tmp 4),none⟩,
     ⟨some 111,.ld false 1 (.tmp 110),none⟩,
     ⟨some 112,.fad 2 (.tmp 4),none⟩,
     ⟨some 113,.ld false 1 (.tmp 112),none⟩,
     ⟨some 114,.fad 3 (.tmp 4),none⟩,
     ⟨some 115,.ld false 1 (.tmp 114),none⟩,
     ⟨some 116,.call 16 [(.tmp 107),(.tmp 109),(.tmp 111),(.tmp 113),(.tmp 115)],none⟩,
     ⟨some 105,.mov (.tmp 116),none⟩,
     ⟨some 117,.ext 0 (.tmp 105),none⟩,
     ⟨some 118,.ext 1 (.tmp 105),none⟩,
     ⟨some 10,.mov (.tmp 117),none⟩,
     ⟨some 11,.mov (.tmp 118),none⟩] [(0,2),(1,2),(0,3),(1,3),(0,4),(1,4),(2,4),(3,4),(0,5),(1,5),(2,5),(3,5),(0,6),(1,6),(2,6),(3,6),(4,6),(5,6),(0,7),(1,7),(2,7),(3,7),(4,7),(5,7),(0,8),(1,8),(2,8),(3,8),(4,8),(5,8),(6,8),(7,8),(0,9),(1,9),(2,9),(3,9),(4,9),(5,9),(6,9),(7,9),(12,13),(13,14)])
    (.seq
    (.regd [] [⟨some 120,.ld true 2 (.tmp 3),none⟩,
     ⟨some 121,.call 15 [(.tmp 120)],none⟩,
     ⟨some 122,.fad 1 (.tmp 4),none⟩,
     ⟨some 123,.ld false 1 (.tmp 122),none⟩,
     ⟨some 124,.fad 2 (.tmp 4),none⟩,
     ⟨some 125,.ld false 1 (.tmp 124),none⟩,
     ⟨some 126,.fad 3 (.tmp 4),none⟩,
     ⟨some 127,.ld false 1 (.tmp 126),none⟩,
     ⟨some 128,.call 29 [(.tmp 121),(.tmp 123),(.tmp 125),(.tmp 127)],none⟩,
     ⟨some 119,.mov (.tmp 128),none⟩,
     ⟨some 129,.ext 0 (.tmp 119),none⟩,
     ⟨some 130,.ext 1 (.tmp 119),none⟩,
     ⟨some 12,.mov (.tmp 129),none⟩,
     ⟨some 13,.mov (.tmp 130),none⟩] [(0,2),(1,2),(0,3),(1,3),(0,4),(1,4),(2,4),(3,4),(0,5),(1,5),(2,5),(3,5),(0,6),(1,6),(2,6),(3,6),(4,6),(5,6),(0,7),(1,7),(2,7),(3,7),(4,7),(5,7),(10,11),(11,12)])
    (.seq
     (.regd [] [⟨some 132,.ld true 2 (.tmp 3),none⟩,
      ⟨some 133,.call 15 [(.tmp 132)],none⟩,
      ⟨some 134,.fad 0 (.tmp 4),none⟩,
      ⟨some 135,.ld false 1 (.tmp 134),none⟩,
      ⟨some 136,.fad 1 (.tmp 4),none⟩,
      ⟨some 137,.ld false 1 (.tmp 136),none⟩,
      ⟨some 138,.fad 2 (.tmp 4),none⟩,
      ⟨some 139,.ld false 1 (.tmp 138),none⟩,
      ⟨some 140,.call 30 [(.tmp 133),(.tmp 135),(.tmp 137),(.tmp 139)],none⟩,
      ⟨some 131,.mov (.tmp 140),none⟩,
      ⟨some 141,.ext 0 (.tmp 131),none⟩,
      ⟨some 142,.ext 1 (.tmp 131),none⟩,
      ⟨some 14,.mov (.tmp 141),none⟩,
      ⟨some 15,.mov (.tmp 142),none⟩] [(0,2),(1,2),(0,3),(1,3),(0,4),(1,4),(2,4),(3,4),(0,5),(1,5),(2,5),(3,5),(0,6),(1,6),(2,6),(3,6),(4,6),(5,6),(0,7),(1,7),(2,7),(3,7),(4,7),(5,7),(10,11),(11,12)])
     (.seq
     (.seq
      (.reg [] [⟨some 143,.mov (.tmp 9),none⟩,
       ⟨some 144,.cmp .neq (.tmp 143) (.cst (.d (.int .i64 0))),none⟩,
       ⟨some 145,.mov (.tmp 144),none⟩,
       ⟨some 146,.mov (.tmp 13),some (145,false)⟩,
       ⟨some 147,.cmp .neq (.tmp 146) (.cst (.d (.int .i64 0))),some (145,false)⟩,
       ⟨some 148,.pick (.tmp 145) (.cst (.d (.bool true))) (.tmp 147),none⟩,
       ⟨some 149,.mov (.tmp 148),none⟩,
       ⟨some 150,.mov (.tmp 15),some (149,false)⟩,
       ⟨some 151,.cmp .neq (.tmp 150) (.cst (.d (.int .i64 0))),some (149,false)⟩,
       ⟨some 152,.pick (.tmp 149) (.cst (.d (.bool true))) (.tmp 151),none⟩,
       ⟨some 153,.mov (.tmp 152),none⟩,
       ⟨some 154,.mov (.tmp 8),some (153,false)⟩,
       ⟨some 155,.mov (.tmp 11),some (153,false)⟩,
       ⟨some 156,.cmp .eql (.tmp 155) (.cst (.d (.int .i64 0))),some (153,false)⟩,
       ⟨some 157,.beq true (.tmp 154) (.tmp 156),some (153,false)⟩,
       ⟨some 158,.pick (.tmp 153) (.cst (.d (.bool true))) (.tmp 157),none⟩,
       ⟨some 159,.mov (.tmp 158),none⟩,
       ⟨some 160,.mov (.tmp 8),some (159,false)⟩,
       ⟨some 161,.not (.tmp 160),some (159,false)⟩,
       ⟨some 162,.mov (.tmp 161),some (159,false)⟩,
       ⟨some 163,.mov (.tmp 11),some (162,true)⟩,
       ⟨some 164,.cmp .neq (.tmp 163) (.cst (.d (.int .i64 7))),some (162,true)⟩,
       ⟨some 165,.pick (.tmp 162) (.tmp 164) (.cst (.d (.bool false))),some (159,false)⟩,
       ⟨some 166,.pick (.tmp 159) (.cst (.d (.bool true))) (.tmp 165),none⟩,
       ⟨some 167,.mov (.tmp 166),none⟩,
       ⟨some 168,.mov (.tmp 12),some (167,false)⟩,
       ⟨some 169,.fad 0 (.tmp 4),some (167,false)⟩,
       ⟨some 170,.ld false 1 (.tmp 169),some (167,false)⟩,
       ⟨some 171,.call 92 [(.tmp 168),(.tmp 170)],some (167,false)⟩,
       ⟨some 172,.mov (.tmp 8),some (167,false)⟩,
       ⟨some 173,.beq true (.tmp 171) (.tmp 172),some (167,false)⟩,
       ⟨some 174,.pick (.tmp 167) (.cst (.d (.bool true))) (.tmp 173),none⟩,
       ⟨some 175,.mov (.tmp 174),none⟩,
       ⟨some 176,.mov (.tmp 12),some (175,false)⟩,
       ⟨some 177,.len (.tmp 176),some (175,false)⟩,
       ⟨some 178,.cmp .lss (.tmp 177) (.cst (.d (.int .i64 1))),some (175,false)⟩,
       ⟨some 179,.pick (.tmp 175) (.cst (.d (.bool true))) (.tmp 178),none⟩,
       ⟨some 180,.mov (.tmp 179),none⟩,
       ⟨some 181,.mov (.tmp 12),some (180,false)⟩,
       ⟨some 182,.len (.tmp 181),some (180,false)⟩,
       ⟨some 183,.fad 1 (.tmp 3),some (180,false)⟩,
       ⟨some 184,.ld false 1 (.tmp 183),some (180,false)⟩,
       ⟨some 185,.len (.tmp 184),some (180,false)⟩,
       ⟨some 186,.arith .add .i64 (.tmp 185) (.cst (.d (.int .i64 1))),some (180,false)⟩,
       ⟨some 187,.cmp .gtr (.tmp 182) (.tmp 186),some (180,false)⟩,
       ⟨some 188,.pick (.tmp 180) (.cst (.d (.bool true))) (.tmp 187),none⟩,
       ⟨some 189,.mov (.tmp 188),none⟩,
       ⟨some 190,.mov (.tmp 10),some (189,false)⟩,
       ⟨some 191,.len (.tmp 190),some (189,false)⟩,
       ⟨some 192,.fad 1 (.tmp 3),some (189,false)⟩,
       ⟨some 193,.ld false 1 (.tmp 192),some (189,false)⟩,
       ⟨some 194,.len (.tmp 193),some (189,false)⟩,
       ⟨some 195,.cmp .gtr (.tmp 191) (.tmp 194),some (189,false)⟩,
       ⟨some 196,.pick (.tmp 189) (.cst (.d (.bool true))) (.tmp 195),none⟩])
      (.cond (.tmp 196)
      (.seq
       (.reg [] [⟨some 6,.mov (.cst (.d (.bool false))),none⟩])
       .ret)
      .skip))
     (.seq
      (.reg [] [⟨some 16,.mov (.cst (.d (.bool false))),none⟩])
      (.seq
      (.seq
       (.post [3,4,5,7,8,10,12,14,16,197,198,199] [4,5,6,8] (.reg [] [⟨some 197,.mov (.tmp 14),none⟩,
        ⟨some 198,.len (.tmp 197),none⟩,
        ⟨some 199,.mov (.cst (.d (.int .i64 0))),none⟩]))
       seg9e)
      (.seq
       (.seq
       (.reg [] [⟨some 238,.mov (.tmp 16),none⟩,
        ⟨some 239,.mov (.tmp 8),none⟩,
        ⟨some 240,.beq true (.tmp 238) (.tmp 239),none⟩])
       (.cond (.tmp 240)
        (.seq
        (.reg [] [⟨some 6,.mov (.cst (.d (.bool false))),none⟩])
        .ret)
        .skip))
       (.seq
       (.seq
        (.post [3,4,5,7,8,10,12,241,242,243] [4,5,6,8,9] (.reg [] [⟨some 241,.mov (.tmp 12),none⟩,
         ⟨some 242,.len (.tmp 241),none⟩,
         ⟨some 243,.mov (.cst (.d (.int .i64 0))),none⟩]))
        seg9g)
       (.seq
        (.seq
        (.post [3,4,5,7,8,10,12,275] [4,5,6,8,9] (.reg [] [⟨some 275,.mov (.tmp 8),none⟩]))
        (.cond (.tmp 275)
         seg9t
         seg9f))
        seg9i))))))))))))))⟩
theorem chk9:chkFun Tryz.prog 9 jr9=true:=by
 unfold jr9 seg9e seg9g seg9t seg9f seg9i seg9l
 kernel_rfl
end Vc
