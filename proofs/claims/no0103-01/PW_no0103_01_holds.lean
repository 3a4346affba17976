import PyProof.Rows.All
import Wide.All
import OpenK.AllK
import Wide.FinOn
import KE.KLam
import Lean
import PySem.Challenge.RW_no0103_01
open PySem PySem.W PyProof.Rows PySem.Calls
set_option Elab.async false
set_option linter.unusedVariables false
set_option maxRecDepth 100000
namespace Mine
noncomputable section
noncomputable def YB:List Stmt→Nat→Stmt
 | [],_=>.Pass ⟨0,0,0,0⟩
 | s::_,0=>s
 | _::r,n+1=>YB r n
noncomputable def de (P:Params)(s:Str)(t:Tok)(v:Value):DictEntry:={hash:=PyData.keyHash P s,key:= .str s t,val:=v}
def st (i:Nat):Stmt:=YB PySem.Challenge.pw_no0103_01.main.body i
noncomputable def agc:Stmt→List Stmt
 | .ClassDef _ _ _ b _ _ _ _ _ _ _=>b
 | _=>[]
def me (i j:Nat):Stmt:=YB (agc (st i)) j
noncomputable def MD:Stmt→Arguments
 | .FunctionDef _ a _ _ _ _ _ _ _ _=>a
 | _=>⟨[],[],none,[],[],none,[]⟩
noncomputable def MC:Stmt→List Stmt
 | .FunctionDef _ _ b _ _ _ _ _ _ _=>b
 | _=>[]
noncomputable def Gm:Stmt→Scope
 | .FunctionDef _ _ _ _ _ _ s _ _ _=>s
 | s=>⟨.module,[],false,false,[]⟩
section
open BT
noncomputable def cP (c:String)(l:Array Value):Obj:=⟨.type c,none,Data.fields l,#[]⟩
noncomputable def aT (c:String)(l:Array Value):Obj:=⟨.type c,none,Data.seq l,#[]⟩
noncomputable def gq (l:Array DictEntry)(n:Nat):Obj:=⟨.type "dict",none,Data.dict l n,#[]⟩
def aR (n q:Str)(t:Tok)(L k f:Int)(r:Addr)(b:Bool)(x y z:Value)(T:Tok):Obj:=cP "code" #[.str n t,.str q (t+1),.str "/claim/cut.py" (t+2),.int L 0,.int k 0,.int 0 0,.int 0 0,.int f 0,.ref r,.bool b,.int 181 0,.ref (r+1),.none,x,y,z,.int T 0,.int L 0,.str "/claim/cut.py" (T+1)]
def bi (n q:Str)(s:Stmt):Obj:=⟨.none,none,.func ⟨n,q,MD s,.stmts (MC s),Gm s,0,[],.none,.none,.none,.none,none,.none,.none,0⟩,#[]⟩
def bj (n q:Str)(s:Stmt)(d:Value)(m:Str)(t:Tok)(r:Addr):Obj:=⟨.type "function",none,.func ⟨n,q,MD s,.stmts (MC s),Gm s,3,[],d,.none,.none,.str m t,none,.ref r,.none,0⟩,#[]⟩
noncomputable def zl (a b c:Addr)(n:Str)(t:Tok)(d:Addr):Obj:=⟨.type "frame",none,Data.plain,#[some (.ref a),some (.ref b),some (.ref c),none,some (.str n t),none,some (.ref d)]⟩
noncomputable def zm (n:Str)(b m:List Value)(k:Addr)(u:List Value)(s:Array (Option Value)):Obj:=⟨.type "type",none,Data.cls {name:=n,bases:=b,mro:=m,ns:=k,qualname:=n,subclasses:=u},s⟩
noncomputable def af (x:Obj):BT:=node x nil nil
def aa:Obj:=aT "tuple" #[]
noncomputable def ai:Obj:=⟨.none,none,Data.fields #[],#[]⟩
def GG:Obj:=aR "<module>" "<module>" 182 1 0 0 11 false .none .none .none 185
def GH:Obj:=zl 13 3 3 "__main__" 164 0
def KS (P:Params):Obj:=gq #[de P "__name__" 165 (.str "law_no0103_01" 913),de P "__doc__" 166 .none,de P "__package__" 167 .none,de P "__loader__" 168 (.builtin "__main__.__loader__#opaque"),de P "__spec__" 169 .none,de P "__annotations__" 170 (.ref 6),de P "__builtins__" 171 (.ref 4),de P "__file__" 173 (.str "/claim/cut.py" 172),de P "__cached__" 174 .none,de P "_wall" 193 (.ref 21),de P "PressError" 223 (.ref 39),de P "BadArgument" 239 (.ref 52),de P "LEAST_MATCH" 243 (.int 2 242),de P "check_steps" 252 (.ref 61),de P "check_range" 261 (.ref 68),de P "step_size" 268 (.ref 75),de P "size_of" 274 (.ref 80),de P "Trail" 330 (.ref 116),de P "literals" 337 (.ref 126),de P "greedy" 352 (.ref 133),de P "Ways" 404 (.ref 164),de P "least" 425 (.ref 176),de P "price_of" 436 (.ref 183),de P "slot_of" 444 (.ref 190),de P "FlatPrice" 495 (.ref 222),de P "Counts" 535 (.ref 250),de P "counts_of" 543 (.ref 261),de P "log_units" 551 (.ref 268),de P "SymbolPrices" 587 (.ref 290),de P "LearntPrice" 638 (.ref 324),de P "learn" 653 (.ref 336),de P "NOWHERE" 658 (.int (-1) 657),de P "PlaceRow" 720 (.ref 374),de P "Matcher" 849 (.ref 465),de P "Finder" 912 (.ref 508),de P "_law_bag" 920 (.ref 515),de P "_law_take" 931 (.ref 522),de P "_law_text" 937 (.ref 527),de P "_law_drawn" 947 (.ref 534),de P "_law_slot" 955 (.ref 541),de P "_law_log" 966 (.ref 548),de P "_law_tally" 975 (.ref 555),de P "_law_table" 981 (.ref 560),de P "_law_learnt" 987 (.ref 565),de P "_law_flat" 1000 (.ref 572),de P "_law_cost" 1006 (.ref 577),de P "_law_matches" 1021 (.ref 584),de P "_law_ways" 1035 (.ref 591),de P "_law_least" 1041 (.ref 596),de P "_law_refused" 1048 (.ref 603),de P "_law_counts_right" 1054 (.ref 608),de P "_law_parses_right" 1060 (.ref 613),de P "law" 1069 (.ref 620)] 53
noncomputable def Y3:Obj:=⟨.none,none,Data.fields #[.int 1 0,.int 0 0,.ref 20,.int 5 0,.int 0 0,.ref 27,.int 10 0,.int 0 0,.ref 48,.int 14 0,.int 0 0,.ref 60,.int 20 0,.int 0 0,.ref 67,.int 25 0,.int 0 0,.ref 74,.int 27 0,.int 0 0,.ref 79,.int 29 0,.int 0 0,.ref 86,.int 49 0,.int 0 0,.ref 125,.int 52 0,.int 0 0,.ref 132,.int 61 0,.int 0 0,.ref 139,.int 83 0,.int 0 0,.ref 175,.int 98 0,.int 0 0,.ref 182,.int 103 0,.int 0 0,.ref 189,.int 108 0,.int 0 0,.ref 196,.int 124 0,.int 0 0,.ref 232,.int 138 0,.int 0 0,.ref 260,.int 143 0,.int 0 0,.ref 267,.int 145 0,.int 0 0,.ref 274,.int 156 0,.int 0 0,.ref 300,.int 180 0,.int 0 0,.ref 335,.int 189 0,.int 0 0,.ref 342,.int 221 0,.int 0 0,.ref 384,.int 274 0,.int 0 0,.ref 475,.int 304 0,.int 0 0,.ref 514,.int 310 0,.int 0 0,.ref 521,.int 320 0,.int 0 0,.ref 526,.int 329 0,.int 0 0,.ref 533,.int 338 0,.int 0 0,.ref 540,.int 343 0,.int 0 0,.ref 547,.int 349 0,.int 0 0,.ref 554,.int 354 0,.int 0 0,.ref 559,.int 357 0,.int 0 0,.ref 564,.int 366 0,.int 0 0,.ref 571,.int 371 0,.int 0 0,.ref 576,.int 373 0,.int 0 0,.ref 583,.int 383 0,.int 0 0,.ref 590,.int 389 0,.int 0 0,.ref 595,.int 407 0,.int 0 0,.ref 602,.int 413 0,.int 0 0,.ref 607,.int 437 0,.int 0 0,.ref 612,.int 467 0,.int 0 0,.ref 619],#[]⟩
def Np:Obj:=aT "tuple" #[.str "k" 190]
def Tx:Obj:=bi "_wall" "_wall" (st 0)
def Nq:Obj:=aR "_wall" "_wall" 187 1 1 3 15 true (.ref 17) (.ref 18) (.ref 19) 191
def Nr:Obj:=bj "_wall" "_wall" (st 0) .none "__main__" 164 20
def Nt:Obj:=aT "tuple" #[.type "ValueError"]
def bE:Obj:=cP "builtin_function_or_method" #[.builtin "type.__prepare__",.type "type"]
def Ty (P:Params):Obj:=gq #[de P "__module__" 203 (.str "threepress.errors" 194),de P "__qualname__" 205 (.str "PressError" 204),de P "__firstlineno__" 207 (.int 5 206),de P "__init__" 216 (.ref 36),de P "__static_attributes__" 218 (.ref 37)] 5
noncomputable def Tz:Obj:=⟨.none,none,Data.fields #[.int 7 0,.int 4 0,.ref 35],#[]⟩
def TA:Obj:=aR "PressError" "PressError" 198 5 0 0 25 false .none .none .none 201
def TC:Obj:=zl 27 3 24 "threepress.errors" 194 0
def GI:Obj:=aT "tuple" #[.str "" 208]
def Nu:Obj:=aT "tuple" #[.str "self" 212,.str "reason" 213]
def TD:Obj:=bi "__init__" "PressError.__init__" (me 2 0)
def Nv:Obj:=aR "__init__" "PressError.__init__" 209 7 2 3 30 true (.ref 32) (.ref 33) (.ref 34) 214
def GJ:Obj:=bj "__init__" "PressError.__init__" (me 2 0) (.ref 29) "threepress.errors" 194 35
def Nw:Obj:=aT "tuple" #[.str "reason" 217]
def Nx (P:Params):Obj:=gq #[de P "__module__" 203 (.str "threepress.errors" 194),de P "__firstlineno__" 207 (.int 5 206),de P "__init__" 216 (.ref 36),de P "__static_attributes__" 218 (.ref 37),de P "__weakref__" 220 (.ref 40),de P "__doc__" 221 .none] 3
def Nz:Obj:=zm "PressError" [.type "ValueError"] [.ref 39,.type "ValueError",.type "Exception",.type "BaseException",.type "object"] 38 [.ref 52] #[some (.ref 22),none,some (.str "PressError" 196),some (.str "PressError" 204),some (.builtin "ValueError.__new__"),some (.bool true)]
def Ny:Obj:=cP "getset_descriptor" #[.str "__weakref__" 219,.ref 39,.builtin "ExceptionGroup.__weakref__",.none]
def TE:Obj:=cP "super" #[.ref 39,.ref 39,.ref 39]
def TF:Obj:=cP "builtin_function_or_method" #[.builtin "object.__init_subclass__",.ref 39]
def NA:Obj:=aT "tuple" #[.ref 39]
def TG (P:Params):Obj:=gq #[de P "__module__" 231 (.str "threepress.errors" 194),de P "__qualname__" 233 (.str "BadArgument" 232),de P "__firstlineno__" 235 (.int 10 234),de P "__static_attributes__" 236 (.ref 50)] 4
def TH:Obj:=aR "BadArgument" "BadArgument" 226 10 0 0 46 false .none .none .none 229
def TI:Obj:=zl 48 3 45 "threepress.errors" 194 0
def NB (P:Params):Obj:=gq #[de P "__module__" 231 (.str "threepress.errors" 194),de P "__firstlineno__" 235 (.int 10 234),de P "__static_attributes__" 236 (.ref 50),de P "__doc__" 237 .none] 2
def NC:Obj:=zm "BadArgument" [.ref 39] [.ref 52,.ref 39,.type "ValueError",.type "Exception",.type "BaseException",.type "object"] 51 [] #[some (.ref 43),none,some (.str "BadArgument" 224),some (.str "BadArgument" 232),some (.builtin "ValueError.__new__"),some (.bool true)]
def TJ:Obj:=cP "super" #[.ref 52,.ref 52,.ref 52]
def TK:Obj:=cP "builtin_function_or_method" #[.builtin "object.__init_subclass__",.ref 52]
def ND:Obj:=aT "tuple" #[.str "steps" 247,.str "first" 248,.str "second" 249]
def TL:Obj:=bi "check_steps" "check_steps" (st 6)
def NE:Obj:=aR "check_steps" "check_steps" 244 14 1 3 55 true (.ref 57) (.ref 58) (.ref 59) 250
def BI:Obj:=bj "check_steps" "check_steps" (st 6) .none "threepress.parse" 240 60
def BJ:Obj:=aT "tuple" #[.str "octets" 256,.str "start" 257,.str "most" 258]
def IF:Obj:=bi "check_range" "check_range" (st 7)
def BK:Obj:=aR "check_range" "check_range" 253 20 3 3 62 true (.ref 64) (.ref 65) (.ref 66) 259
def BL:Obj:=bj "check_range" "check_range" (st 7) .none "threepress.parse" 240 67
def BM:Obj:=aT "tuple" #[.str "step" 265]
def IG:Obj:=bi "step_size" "step_size" (st 8)
def BN:Obj:=aR "step_size" "step_size" 262 25 1 3 69 true (.ref 71) (.ref 72) (.ref 73) 266
def BO:Obj:=bj "step_size" "step_size" (st 8) .none "threepress.parse" 240 74
def IH:Obj:=bi "size_of" "size_of" (st 9)
def BQ:Obj:=aR "size_of" "size_of" 269 27 1 3 76 true .none .none (.ref 78) 272
def BR:Obj:=bj "size_of" "size_of" (st 9) .none "threepress.parse" 240 79
def II (P:Params):Obj:=gq #[de P "__module__" 282 (.str "threepress.parse" 240),de P "__qualname__" 284 (.str "Trail" 283),de P "__firstlineno__" 286 (.int 29 285),de P "__init__" 294 (.ref 94),de P "up_to" 302 (.ref 101),de P "best" 313 (.ref 108),de P "every" 319 (.ref 113),de P "__static_attributes__" 323 (.ref 114)] 8
noncomputable def IJ:Obj:=⟨.none,none,Data.fields #[.int 31 0,.int 4 0,.ref 93,.int 36 0,.int 4 0,.ref 100,.int 41 0,.int 4 0,.ref 107,.int 46 0,.int 4 0,.ref 112],#[]⟩
def IK:Obj:=aR "Trail" "Trail" 277 29 0 0 84 false .none .none .none 280
def IM:Obj:=zl 86 3 83 "threepress.parse" 240 0
def BS:Obj:=aT "tuple" #[.str "self" 290,.str "finder" 291]
def IN:Obj:=bi "__init__" "Trail.__init__" (me 10 0)
def BU:Obj:=aR "__init__" "Trail.__init__" 287 31 2 3 88 true (.ref 90) (.ref 91) (.ref 92) 292
def BV:Obj:=bj "__init__" "Trail.__init__" (me 10 0) .none "threepress.parse" 240 93
def BW:Obj:=aT "tuple" #[.str "self" 298,.str "place" 299]
def IO:Obj:=bi "up_to" "Trail.up_to" (me 10 1)
def BX:Obj:=aR "up_to" "Trail.up_to" 295 36 2 3 95 true (.ref 97) (.ref 98) (.ref 99) 300
def BY:Obj:=bj "up_to" "Trail.up_to" (me 10 1) .none "threepress.parse" 240 100
def BZ:Obj:=aT "tuple" #[.str "self" 306,.str "place" 307,.str "most" 308,.str "length" 309,.str "distance" 310]
def IP:Obj:=bi "best" "Trail.best" (me 10 2)
def B0:Obj:=aR "best" "Trail.best" 303 41 3 3 102 true (.ref 104) (.ref 105) (.ref 106) 311
def B1:Obj:=bj "best" "Trail.best" (me 10 2) .none "threepress.parse" 240 107
def IQ:Obj:=bi "every" "Trail.every" (me 10 3)
def B3:Obj:=aR "every" "Trail.every" 314 46 3 3 109 true .none .none (.ref 111) 317
def B4:Obj:=bj "every" "Trail.every" (me 10 3) .none "threepress.parse" 240 112
def B5:Obj:=aT "tuple" #[.str "finder" 320,.str "known" 321,.str "shortest" 322]
def B6 (P:Params):Obj:=gq #[de P "__module__" 282 (.str "threepress.parse" 240),de P "__firstlineno__" 286 (.int 29 285),de P "__init__" 294 (.ref 94),de P "up_to" 302 (.ref 101),de P "best" 313 (.ref 108),de P "every" 319 (.ref 113),de P "__static_attributes__" 323 (.ref 114),de P "__dict__" 325 (.ref 117),de P "__weakref__" 327 (.ref 118),de P "__doc__" 328 .none] 4
def B7:Obj:=zm "Trail" [.type "object"] [.ref 116,.type "object"] 115 [] #[none,none,some (.str "Trail" 275),some (.str "Trail" 283),some (.builtin "object.__new__"),some (.bool true)]
def B8:Obj:=cP "getset_descriptor" #[.str "__dict__" 324,.ref 116,.builtin "function.__dict__",.builtin "function.__dict__#set"]
def B9:Obj:=cP "getset_descriptor" #[.str "__weakref__" 326,.ref 116,.builtin "ExceptionGroup.__weakref__",.none]
def IR:Obj:=cP "super" #[.ref 116,.ref 116,.ref 116]
def IS:Obj:=cP "builtin_function_or_method" #[.builtin "object.__init_subclass__",.ref 116]
def Ca:Obj:=aT "tuple" #[.int 0 331]
def IT:Obj:=bi "literals" "literals" (st 11)
def Cb:Obj:=aR "literals" "literals" 332 49 2 3 122 true .none .none (.ref 124) 335
def Cd:Obj:=bj "literals" "literals" (st 11) (.ref 121) "threepress.parse" 240 125
def Ce:Obj:=aT "tuple" #[.str "octets" 341,.str "start" 342,.str "finder" 343,.str "most" 344,.str "trail" 345,.str "steps" 346,.str "place" 347,.str "match" 348,.str "step" 349]
def IU:Obj:=bi "greedy" "greedy" (st 12)
def Cf:Obj:=aR "greedy" "greedy" 338 52 4 3 127 true (.ref 129) (.ref 130) (.ref 131) 350
def Cg:Obj:=bj "greedy" "greedy" (st 12) .none "threepress.parse" 240 132
def IV (P:Params):Obj:=gq #[de P "__module__" 360 (.str "threepress.parse" 240),de P "__qualname__" 362 (.str "Ways" 361),de P "__firstlineno__" 364 (.int 61 363),de P "__init__" 372 (.ref 147),de P "offer" 384 (.ref 154),de P "told" 393 (.ref 161),de P "__static_attributes__" 397 (.ref 162)] 7
noncomputable def IW:Obj:=⟨.none,none,Data.fields #[.int 63 0,.int 4 0,.ref 146,.int 68 0,.int 4 0,.ref 153,.int 77 0,.int 4 0,.ref 160],#[]⟩
def IX:Obj:=aR "Ways" "Ways" 355 61 0 0 137 false .none .none .none 358
def IY:Obj:=zl 139 3 136 "threepress.parse" 240 0
def Ch:Obj:=aT "tuple" #[.str "self" 368,.str "size" 369]
def IZ:Obj:=bi "__init__" "Ways.__init__" (me 13 0)
def Ci:Obj:=aR "__init__" "Ways.__init__" 365 63 2 3 141 true (.ref 143) (.ref 144) (.ref 145) 370
def Cj:Obj:=bj "__init__" "Ways.__init__" (me 13 0) .none "threepress.parse" 240 146
def Ck:Obj:=aT "tuple" #[.str "self" 376,.str "at" 377,.str "step" 378,.str "cost" 379,.str "there" 380,.str "whole" 381]
def I1:Obj:=bi "offer" "Ways.offer" (me 13 1)
def Cl:Obj:=aR "offer" "Ways.offer" 373 68 4 3 148 true (.ref 150) (.ref 151) (.ref 152) 382
def Cm:Obj:=bj "offer" "Ways.offer" (me 13 1) .none "threepress.parse" 240 153
def Cn:Obj:=aT "tuple" #[.str "self" 388,.str "found" 389,.str "at" 390]
def I5:Obj:=bi "told" "Ways.told" (me 13 2)
def Co:Obj:=aR "told" "Ways.told" 385 77 1 3 155 true (.ref 157) (.ref 158) (.ref 159) 391
def Cp:Obj:=bj "told" "Ways.told" (me 13 2) .none "threepress.parse" 240 160
def Cq:Obj:=aT "tuple" #[.str "costs" 394,.str "size" 395,.str "steps" 396]
def Cr (P:Params):Obj:=gq #[de P "__module__" 360 (.str "threepress.parse" 240),de P "__firstlineno__" 364 (.int 61 363),de P "__init__" 372 (.ref 147),de P "offer" 384 (.ref 154),de P "told" 393 (.ref 161),de P "__static_attributes__" 397 (.ref 162),de P "__dict__" 399 (.ref 165),de P "__weakref__" 401 (.ref 166),de P "__doc__" 402 .none] 4
def Ct:Obj:=zm "Ways" [.type "object"] [.ref 164,.type "object"] 163 [] #[none,none,some (.str "Ways" 353),some (.str "Ways" 361),some (.builtin "object.__new__"),some (.bool true)]
def Cu:Obj:=cP "getset_descriptor" #[.str "__dict__" 398,.ref 164,.builtin "function.__dict__",.builtin "function.__dict__#set"]
def Cv:Obj:=cP "getset_descriptor" #[.str "__weakref__" 400,.ref 164,.builtin "ExceptionGroup.__weakref__",.none]
def I6:Obj:=cP "super" #[.ref 164,.ref 164,.ref 164]
def I7:Obj:=cP "builtin_function_or_method" #[.builtin "object.__init_subclass__",.ref 164]
def Cw:Obj:=aT "tuple" #[.none]
def Cy:Obj:=aT "tuple" #[.str "octets" 408,.str "start" 409,.str "finder" 410,.str "most" 411,.str "price" 412,.str "enough" 413,.str "trail" 414,.str "ways" 415,.str "at" 416,.str "place" 417,.str "matches" 418,.str "length" 419,.str "distance" 420,.str "part" 421,.str "taken" 422]
def I8:Obj:=bi "least" "least" (st 14)
def Cz:Obj:=aR "least" "least" 405 83 6 3 170 true (.ref 172) (.ref 173) (.ref 174) 423
def CA:Obj:=bj "least" "least" (st 14) (.ref 169) "threepress.parse" 240 175
def CC:Obj:=aT "tuple" #[.str "steps" 429,.str "price" 430,.str "whole" 431,.str "first" 432,.str "second" 433]
def I9:Obj:=bi "price_of" "price_of" (st 15)
def CD:Obj:=aR "price_of" "price_of" 426 98 2 3 177 true (.ref 179) (.ref 180) (.ref 181) 434
def CF:Obj:=bj "price_of" "price_of" (st 15) .none "threepress.parse" 240 182
def CG:Obj:=aT "tuple" #[.str "value" 440,.str "high" 441]
def Ja:Obj:=bi "slot_of" "slot_of" (st 16)
def CH:Obj:=aR "slot_of" "slot_of" 437 103 1 3 184 true (.ref 186) (.ref 187) (.ref 188) 442
def CJ:Obj:=bj "slot_of" "slot_of" (st 16) .none "threepress.parse" 240 189
def Jb (P:Params):Obj:=gq #[de P "__module__" 452 (.str "threepress.parse" 240),de P "__qualname__" 454 (.str "FlatPrice" 453),de P "__firstlineno__" 456 (.int 108 455),de P "__init__" 467 (.ref 205),de P "literal" 475 (.ref 212),de P "match" 484 (.ref 219),de P "__static_attributes__" 488 (.ref 220)] 7
noncomputable def Jc:Obj:=⟨.none,none,Data.fields #[.int 110 0,.int 4 0,.ref 204,.int 117 0,.int 4 0,.ref 211,.int 120 0,.int 4 0,.ref 218],#[]⟩
def Jd:Obj:=aR "FlatPrice" "FlatPrice" 447 108 0 0 194 false .none .none .none 450
def Je:Obj:=zl 196 3 193 "threepress.parse" 240 0
def CK:Obj:=aT "tuple" #[.int 0 457]
def CL:Obj:=aT "tuple" #[.str "self" 461,.str "literal" 462,.str "match" 463,.str "bit" 464]
def Jf:Obj:=bi "__init__" "FlatPrice.__init__" (me 17 0)
def CM:Obj:=aR "__init__" "FlatPrice.__init__" 458 110 4 3 199 true (.ref 201) (.ref 202) (.ref 203) 465
def CN:Obj:=bj "__init__" "FlatPrice.__init__" (me 17 0) (.ref 198) "threepress.parse" 240 204
def CO:Obj:=aT "tuple" #[.str "self" 471,.str "octet" 472]
def Jg:Obj:=bi "literal" "FlatPrice.literal" (me 17 1)
def CP:Obj:=aR "literal" "FlatPrice.literal" 468 117 2 3 206 true (.ref 208) (.ref 209) (.ref 210) 473
def CQ:Obj:=bj "literal" "FlatPrice.literal" (me 17 1) .none "threepress.parse" 240 211
def CR:Obj:=aT "tuple" #[.str "self" 479,.str "length" 480,.str "distance" 481]
def Jh:Obj:=bi "match" "FlatPrice.match" (me 17 2)
def CS:Obj:=aR "match" "FlatPrice.match" 476 120 3 3 213 true (.ref 215) (.ref 216) (.ref 217) 482
def CT:Obj:=bj "match" "FlatPrice.match" (me 17 2) .none "threepress.parse" 240 218
def CU:Obj:=aT "tuple" #[.str "of_bit" 485,.str "of_literal" 486,.str "of_match" 487]
def CV (P:Params):Obj:=gq #[de P "__module__" 452 (.str "threepress.parse" 240),de P "__firstlineno__" 456 (.int 108 455),de P "__init__" 467 (.ref 205),de P "literal" 475 (.ref 212),de P "match" 484 (.ref 219),de P "__static_attributes__" 488 (.ref 220),de P "__dict__" 490 (.ref 223),de P "__weakref__" 492 (.ref 224),de P "__doc__" 493 .none] 4
def CW:Obj:=zm "FlatPrice" [.type "object"] [.ref 222,.type "object"] 221 [] #[none,none,some (.str "FlatPrice" 445),some (.str "FlatPrice" 453),some (.builtin "object.__new__"),some (.bool true)]
def CX:Obj:=cP "getset_descriptor" #[.str "__dict__" 489,.ref 222,.builtin "function.__dict__",.builtin "function.__dict__#set"]
def CY:Obj:=cP "getset_descriptor" #[.str "__weakref__" 491,.ref 222,.builtin "ExceptionGroup.__weakref__",.none]
def Ji:Obj:=cP "super" #[.ref 222,.ref 222,.ref 222]
def Jj:Obj:=cP "builtin_function_or_method" #[.builtin "object.__init_subclass__",.ref 222]
def Jk (P:Params):Obj:=gq #[de P "__module__" 503 (.str "threepress.parse" 240),de P "__qualname__" 505 (.str "Counts" 504),de P "__firstlineno__" 507 (.int 124 506),de P "__init__" 514 (.ref 240),de P "add" 524 (.ref 247),de P "__static_attributes__" 528 (.ref 248)] 6
noncomputable def Jl:Obj:=⟨.none,none,Data.fields #[.int 126 0,.int 4 0,.ref 239,.int 131 0,.int 4 0,.ref 246],#[]⟩
def Jm:Obj:=aR "Counts" "Counts" 498 124 0 0 230 false .none .none .none 501
def Jn:Obj:=zl 232 3 229 "threepress.parse" 240 0
def CZ:Obj:=aT "tuple" #[.str "self" 511]
def Jo:Obj:=bi "__init__" "Counts.__init__" (me 18 0)
def C0:Obj:=aR "__init__" "Counts.__init__" 508 126 1 3 234 true (.ref 236) (.ref 237) (.ref 238) 512
def C1:Obj:=bj "__init__" "Counts.__init__" (me 18 0) .none "threepress.parse" 240 239
def C2:Obj:=aT "tuple" #[.str "self" 518,.str "steps" 519,.str "first" 520,.str "second" 521]
def Jp:Obj:=bi "add" "Counts.add" (me 18 1)
def C3:Obj:=aR "add" "Counts.add" 515 131 2 3 241 true (.ref 243) (.ref 244) (.ref 245) 522
def C4:Obj:=bj "add" "Counts.add" (me 18 1) .none "threepress.parse" 240 246
def C5:Obj:=aT "tuple" #[.str "distances" 525,.str "lengths" 526,.str "literals" 527]
def C6 (P:Params):Obj:=gq #[de P "__module__" 503 (.str "threepress.parse" 240),de P "__firstlineno__" 507 (.int 124 506),de P "__init__" 514 (.ref 240),de P "add" 524 (.ref 247),de P "__static_attributes__" 528 (.ref 248),de P "__dict__" 530 (.ref 251),de P "__weakref__" 532 (.ref 252),de P "__doc__" 533 .none] 4
def C7:Obj:=zm "Counts" [.type "object"] [.ref 250,.type "object"] 249 [] #[none,none,some (.str "Counts" 496),some (.str "Counts" 504),some (.builtin "object.__new__"),some (.bool true)]
def C8:Obj:=cP "getset_descriptor" #[.str "__dict__" 529,.ref 250,.builtin "function.__dict__",.builtin "function.__dict__#set"]
def C9:Obj:=cP "getset_descriptor" #[.str "__weakref__" 531,.ref 250,.builtin "ExceptionGroup.__weakref__",.none]
def Jq:Obj:=cP "super" #[.ref 250,.ref 250,.ref 250]
def Jr:Obj:=cP "builtin_function_or_method" #[.builtin "object.__init_subclass__",.ref 250]
def Da:Obj:=aT "tuple" #[.str "steps" 539,.str "found" 540]
def Js:Obj:=bi "counts_of" "counts_of" (st 19)
def Db:Obj:=aR "counts_of" "counts_of" 536 138 1 3 255 true (.ref 257) (.ref 258) (.ref 259) 541
def Dc:Obj:=bj "counts_of" "counts_of" (st 19) .none "threepress.parse" 240 260
def Dd:Obj:=aT "tuple" #[.str "number" 547,.str "unit" 548]
def Jt:Obj:=bi "log_units" "log_units" (st 20)
def De:Obj:=aR "log_units" "log_units" 544 143 2 3 262 true (.ref 264) (.ref 265) (.ref 266) 549
def Df:Obj:=bj "log_units" "log_units" (st 20) .none "threepress.parse" 240 267
def PW (P:Params):Obj:=gq #[de P "__module__" 559 (.str "threepress.parse" 240),de P "__qualname__" 561 (.str "SymbolPrices" 560),de P "__firstlineno__" 563 (.int 145 562),de P "__init__" 569 (.ref 280),de P "price" 577 (.ref 287),de P "__static_attributes__" 580 (.ref 288)] 6
noncomputable def PY:Obj:=⟨.none,none,Data.fields #[.int 147 0,.int 4 0,.ref 279,.int 154 0,.int 4 0,.ref 286],#[]⟩
def PZ:Obj:=aR "SymbolPrices" "SymbolPrices" 554 145 0 0 272 false .none .none .none 557
def P0:Obj:=zl 274 3 271 "threepress.parse" 240 0
def P1:Obj:=bi "__init__" "SymbolPrices.__init__" (me 21 0)
def Ju:Obj:=aR "__init__" "SymbolPrices.__init__" 564 147 3 3 276 true .none .none (.ref 278) 567
def Jv:Obj:=bj "__init__" "SymbolPrices.__init__" (me 21 0) .none "threepress.parse" 240 279
def Jw:Obj:=aT "tuple" #[.str "self" 573,.str "symbol" 574]
def P2:Obj:=bi "price" "SymbolPrices.price" (me 21 1)
def Jx:Obj:=aR "price" "SymbolPrices.price" 570 154 2 3 281 true (.ref 283) (.ref 284) (.ref 285) 575
def Jy:Obj:=bj "price" "SymbolPrices.price" (me 21 1) .none "threepress.parse" 240 286
def Jz:Obj:=aT "tuple" #[.str "known" 578,.str "other" 579]
def JA (P:Params):Obj:=gq #[de P "__module__" 559 (.str "threepress.parse" 240),de P "__firstlineno__" 563 (.int 145 562),de P "__init__" 569 (.ref 280),de P "price" 577 (.ref 287),de P "__static_attributes__" 580 (.ref 288),de P "__dict__" 582 (.ref 291),de P "__weakref__" 584 (.ref 292),de P "__doc__" 585 .none] 4
def JB:Obj:=zm "SymbolPrices" [.type "object"] [.ref 290,.type "object"] 289 [] #[none,none,some (.str "SymbolPrices" 552),some (.str "SymbolPrices" 560),some (.builtin "object.__new__"),some (.bool true)]
def JC:Obj:=cP "getset_descriptor" #[.str "__dict__" 581,.ref 290,.builtin "function.__dict__",.builtin "function.__dict__#set"]
def JD:Obj:=cP "getset_descriptor" #[.str "__weakref__" 583,.ref 290,.builtin "ExceptionGroup.__weakref__",.none]
def P3:Obj:=cP "super" #[.ref 290,.ref 290,.ref 290]
def P4:Obj:=cP "builtin_function_or_method" #[.builtin "object.__init_subclass__",.ref 290]
def P5 (P:Params):Obj:=gq #[de P "__module__" 595 (.str "threepress.parse" 240),de P "__qualname__" 597 (.str "LearntPrice" 596),de P "__firstlineno__" 599 (.int 156 598),de P "__init__" 606 (.ref 307),de P "literal" 614 (.ref 314),de P "match" 627 (.ref 321),de P "__static_attributes__" 631 (.ref 322)] 7
noncomputable def P6:Obj:=⟨.none,none,Data.fields #[.int 158 0,.int 4 0,.ref 306,.int 173 0,.int 4 0,.ref 313,.int 176 0,.int 4 0,.ref 320],#[]⟩
def P7:Obj:=aR "LearntPrice" "LearntPrice" 590 156 0 0 298 false .none .none .none 593
def P8:Obj:=zl 300 3 297 "threepress.parse" 240 0
def JE:Obj:=aT "tuple" #[.int 16 600]
def P9:Obj:=bi "__init__" "LearntPrice.__init__" (me 22 0)
def JF:Obj:=aR "__init__" "LearntPrice.__init__" 601 158 3 3 303 true .none .none (.ref 305) 604
def JG:Obj:=bj "__init__" "LearntPrice.__init__" (me 22 0) (.ref 302) "threepress.parse" 240 306
def JH:Obj:=aT "tuple" #[.str "self" 610,.str "octet" 611]
def Qa:Obj:=bi "literal" "LearntPrice.literal" (me 22 1)
def JI:Obj:=aR "literal" "LearntPrice.literal" 607 173 2 3 308 true (.ref 310) (.ref 311) (.ref 312) 612
def JJ:Obj:=bj "literal" "LearntPrice.literal" (me 22 1) .none "threepress.parse" 240 313
def JK:Obj:=aT "tuple" #[.str "self" 618,.str "length" 619,.str "distance" 620,.str "one" 621,.str "more" 622,.str "other" 623,.str "further" 624]
def Qb:Obj:=bi "match" "LearntPrice.match" (me 22 2)
def JL:Obj:=aR "match" "LearntPrice.match" 615 176 3 3 315 true (.ref 317) (.ref 318) (.ref 319) 625
def JM:Obj:=bj "match" "LearntPrice.match" (me 22 2) .none "threepress.parse" 240 320
def JN:Obj:=aT "tuple" #[.str "firsts" 628,.str "seconds" 629,.str "unit" 630]
def JO (P:Params):Obj:=gq #[de P "__module__" 595 (.str "threepress.parse" 240),de P "__firstlineno__" 599 (.int 156 598),de P "__init__" 606 (.ref 307),de P "literal" 614 (.ref 314),de P "match" 627 (.ref 321),de P "__static_attributes__" 631 (.ref 322),de P "__dict__" 633 (.ref 325),de P "__weakref__" 635 (.ref 326),de P "__doc__" 636 .none] 4
def JP:Obj:=zm "LearntPrice" [.type "object"] [.ref 324,.type "object"] 323 [] #[none,none,some (.str "LearntPrice" 588),some (.str "LearntPrice" 596),some (.builtin "object.__new__"),some (.bool true)]
def JQ:Obj:=cP "getset_descriptor" #[.str "__dict__" 632,.ref 324,.builtin "function.__dict__",.builtin "function.__dict__#set"]
def JR:Obj:=cP "getset_descriptor" #[.str "__weakref__" 634,.ref 324,.builtin "ExceptionGroup.__weakref__",.none]
def Qc:Obj:=cP "super" #[.ref 324,.ref 324,.ref 324]
def Qd:Obj:=cP "builtin_function_or_method" #[.builtin "object.__init_subclass__",.ref 324]
def JS:Obj:=aT "tuple" #[.int 16 639]
def JT:Obj:=aT "tuple" #[.str "octets" 643,.str "start" 644,.str "finders" 645,.str "most" 646,.str "price" 647,.str "unit" 648,.str "steps" 649,.str "finder" 650]
def Qf:Obj:=bi "learn" "learn" (st 23)
def JU:Obj:=aR "learn" "learn" 640 180 6 3 330 true (.ref 332) (.ref 333) (.ref 334) 651
def JV:Obj:=bj "learn" "learn" (st 23) (.ref 329) "threepress.parse" 240 335
def Qg (P:Params):Obj:=gq #[de P "__module__" 666 (.str "threepress.matches" 654),de P "__qualname__" 668 (.str "PlaceRow" 667),de P "__firstlineno__" 670 (.int 189 669),de P "__init__" 679 (.ref 350),de P "key" 689 (.ref 357),de P "put" 698 (.ref 364),de P "newest" 708 (.ref 371),de P "__static_attributes__" 713 (.ref 372)] 8
noncomputable def Qh:Obj:=⟨.none,none,Data.fields #[.int 191 0,.int 4 0,.ref 349,.int 199 0,.int 4 0,.ref 356,.int 207 0,.int 4 0,.ref 363,.int 213 0,.int 4 0,.ref 370],#[]⟩
def Qi:Obj:=aR "PlaceRow" "PlaceRow" 661 189 0 0 340 false .none .none .none 664
def Qj:Obj:=zl 342 3 339 "threepress.matches" 654 0
def JW:Obj:=aT "tuple" #[.str "self" 674,.str "octets" 675,.str "size" 676]
def Qk:Obj:=bi "__init__" "PlaceRow.__init__" (me 26 0)
def JX:Obj:=aR "__init__" "PlaceRow.__init__" 671 191 3 3 344 true (.ref 346) (.ref 347) (.ref 348) 677
def JY:Obj:=bj "__init__" "PlaceRow.__init__" (me 26 0) .none "threepress.matches" 654 349
def JZ:Obj:=aT "tuple" #[.str "self" 683,.str "place" 684,.str "number" 685,.str "octet" 686]
def Ql:Obj:=bi "key" "PlaceRow.key" (me 26 1)
def J0:Obj:=aR "key" "PlaceRow.key" 680 199 2 3 351 true (.ref 353) (.ref 354) (.ref 355) 687
def J2:Obj:=bj "key" "PlaceRow.key" (me 26 1) .none "threepress.matches" 654 356
def J3:Obj:=aT "tuple" #[.str "self" 693,.str "place" 694,.str "number" 695]
def Qm:Obj:=bi "put" "PlaceRow.put" (me 26 2)
def J4:Obj:=aR "put" "PlaceRow.put" 690 207 2 3 358 true (.ref 360) (.ref 361) (.ref 362) 696
def J5:Obj:=bj "put" "PlaceRow.put" (me 26 2) .none "threepress.matches" 654 363
def J6:Obj:=aT "tuple" #[.str "self" 702,.str "place" 703,.str "number" 704,.str "other" 705]
def Qn:Obj:=bi "newest" "PlaceRow.newest" (me 26 3)
def J7:Obj:=aR "newest" "PlaceRow.newest" 699 213 2 3 365 true (.ref 367) (.ref 368) (.ref 369) 706
def J8:Obj:=bj "newest" "PlaceRow.newest" (me 26 3) .none "threepress.matches" 654 370
def J9:Obj:=aT "tuple" #[.str "before" 709,.str "last" 710,.str "octets" 711,.str "size" 712]
def Ka (P:Params):Obj:=gq #[de P "__module__" 666 (.str "threepress.matches" 654),de P "__firstlineno__" 670 (.int 189 669),de P "__init__" 679 (.ref 350),de P "key" 689 (.ref 357),de P "put" 698 (.ref 364),de P "newest" 708 (.ref 371),de P "__static_attributes__" 713 (.ref 372),de P "__dict__" 715 (.ref 375),de P "__weakref__" 717 (.ref 376),de P "__doc__" 718 .none] 4
def Kb:Obj:=zm "PlaceRow" [.type "object"] [.ref 374,.type "object"] 373 [] #[none,none,some (.str "PlaceRow" 659),some (.str "PlaceRow" 667),some (.builtin "object.__new__"),some (.bool true)]
def Kc:Obj:=cP "getset_descriptor" #[.str "__dict__" 714,.ref 374,.builtin "function.__dict__",.builtin "function.__dict__#set"]
def Kd:Obj:=cP "getset_descriptor" #[.str "__weakref__" 716,.ref 374,.builtin "ExceptionGroup.__weakref__",.none]
def Qo:Obj:=cP "super" #[.ref 374,.ref 374,.ref 374]
def Qp:Obj:=cP "builtin_function_or_method" #[.builtin "object.__init_subclass__",.ref 374]
def Qq (P:Params):Obj:=gq #[de P "__module__" 728 (.str "threepress.matches" 654),de P "__qualname__" 730 (.str "Matcher" 729),de P "__firstlineno__" 732 (.int 221 731),de P "__init__" 743 (.ref 392),de P "put" 751 (.ref 399),de P "enter" 759 (.ref 406),de P "put_all" 767 (.ref 413),de P "limit" 776 (.ref 420),de P "length" 786 (.ref 427),de P "alike" 798 (.ref 434),de P "is_near" 807 (.ref 441),de P "repeat" 817 (.ref 448),de P "every" 826 (.ref 455),de P "best" 836 (.ref 462),de P "__static_attributes__" 842 (.ref 463)] 15
noncomputable def Qr:Obj:=⟨.none,none,Data.fields #[.int 223 0,.int 4 0,.ref 391,.int 236 0,.int 4 0,.ref 398,.int 242 0,.int 4 0,.ref 405,.int 245 0,.int 4 0,.ref 412,.int 248 0,.int 4 0,.ref 419,.int 251 0,.int 4 0,.ref 426,.int 256 0,.int 4 0,.ref 433,.int 262 0,.int 4 0,.ref 440,.int 265 0,.int 4 0,.ref 447,.int 268 0,.int 4 0,.ref 454,.int 271 0,.int 4 0,.ref 461],#[]⟩
def Qs:Obj:=aR "Matcher" "Matcher" 723 221 0 0 382 false .none .none .none 726
def Qt:Obj:=zl 384 3 381 "threepress.matches" 654 0
def Ke:Obj:=aT "tuple" #[.str "self" 736,.str "octets" 737,.str "least" 738,.str "window" 739,.str "chain" 740]
def Qu:Obj:=bi "__init__" "Matcher.__init__" (me 27 0)
def Kf:Obj:=aR "__init__" "Matcher.__init__" 733 223 5 3 386 true (.ref 388) (.ref 389) (.ref 390) 741
def Kg:Obj:=bj "__init__" "Matcher.__init__" (me 27 0) .none "threepress.matches" 654 391
def Kh:Obj:=aT "tuple" #[.str "self" 747,.str "place" 748]
def Qv:Obj:=bi "put" "Matcher.put" (me 27 1)
def Ki:Obj:=aR "put" "Matcher.put" 744 236 2 3 393 true (.ref 395) (.ref 396) (.ref 397) 749
def Kj:Obj:=bj "put" "Matcher.put" (me 27 1) .none "threepress.matches" 654 398
def Kk:Obj:=aT "tuple" #[.str "self" 755,.str "place" 756]
def Qw:Obj:=bi "enter" "Matcher.enter" (me 27 2)
def Kl:Obj:=aR "enter" "Matcher.enter" 752 242 2 3 400 true (.ref 402) (.ref 403) (.ref 404) 757
def Km:Obj:=bj "enter" "Matcher.enter" (me 27 2) .none "threepress.matches" 654 405
def Kn:Obj:=aT "tuple" #[.str "self" 763,.str "end" 764]
def Qx:Obj:=bi "put_all" "Matcher.put_all" (me 27 3)
def Ko:Obj:=aR "put_all" "Matcher.put_all" 760 245 2 3 407 true (.ref 409) (.ref 410) (.ref 411) 765
def Kq:Obj:=bj "put_all" "Matcher.put_all" (me 27 3) .none "threepress.matches" 654 412
def Kr:Obj:=aT "tuple" #[.str "self" 771,.str "place" 772,.str "most" 773]
def Qy:Obj:=bi "limit" "Matcher.limit" (me 27 4)
def Ks:Obj:=aR "limit" "Matcher.limit" 768 248 3 3 414 true (.ref 416) (.ref 417) (.ref 418) 774
def Kt:Obj:=bj "limit" "Matcher.limit" (me 27 4) .none "threepress.matches" 654 419
def Ku:Obj:=aT "tuple" #[.str "self" 780,.str "place" 781,.str "other" 782,.str "most" 783]
def Qz:Obj:=bi "length" "Matcher.length" (me 27 5)
def Kv:Obj:=aR "length" "Matcher.length" 777 251 4 3 421 true (.ref 423) (.ref 424) (.ref 425) 784
def Kw:Obj:=bj "length" "Matcher.length" (me 27 5) .none "threepress.matches" 654 426
def Kx:Obj:=aT "tuple" #[.str "self" 790,.str "place" 791,.str "other" 792,.str "known" 793,.str "limit" 794,.str "octets" 795]
def QA:Obj:=bi "alike" "Matcher.alike" (me 27 6)
def Ky:Obj:=aR "alike" "Matcher.alike" 787 256 5 3 428 true (.ref 430) (.ref 431) (.ref 432) 796
def Kz:Obj:=bj "alike" "Matcher.alike" (me 27 6) .none "threepress.matches" 654 433
def KA:Obj:=aT "tuple" #[.str "self" 802,.str "place" 803,.str "other" 804]
def QB:Obj:=bi "is_near" "Matcher.is_near" (me 27 7)
def KB:Obj:=aR "is_near" "Matcher.is_near" 799 262 3 3 435 true (.ref 437) (.ref 438) (.ref 439) 805
def KC:Obj:=bj "is_near" "Matcher.is_near" (me 27 7) .none "threepress.matches" 654 440
def KD:Obj:=aT "tuple" #[.str "self" 811,.str "place" 812,.str "distance" 813,.str "most" 814]
def QC:Obj:=bi "repeat" "Matcher.repeat" (me 27 8)
def KG:Obj:=aR "repeat" "Matcher.repeat" 808 265 4 3 442 true (.ref 444) (.ref 445) (.ref 446) 815
def KH:Obj:=bj "repeat" "Matcher.repeat" (me 27 8) .none "threepress.matches" 654 447
def KI:Obj:=aT "tuple" #[.str "self" 821,.str "place" 822,.str "most" 823]
def QD:Obj:=bi "every" "Matcher.every" (me 27 9)
def KJ:Obj:=aR "every" "Matcher.every" 818 268 3 3 449 true (.ref 451) (.ref 452) (.ref 453) 824
def KK:Obj:=bj "every" "Matcher.every" (me 27 9) .none "threepress.matches" 654 454
def KL:Obj:=aT "tuple" #[.str "self" 830,.str "place" 831,.str "most" 832,.str "found" 833]
def QE:Obj:=bi "best" "Matcher.best" (me 27 10)
def KM:Obj:=aR "best" "Matcher.best" 827 271 3 3 456 true (.ref 458) (.ref 459) (.ref 460) 834
def KN:Obj:=bj "best" "Matcher.best" (me 27 10) .none "threepress.matches" 654 461
def KO:Obj:=aT "tuple" #[.str "ahead" 837,.str "chain" 838,.str "least" 839,.str "octets" 840,.str "window" 841]
def KP (P:Params):Obj:=gq #[de P "__module__" 728 (.str "threepress.matches" 654),de P "__firstlineno__" 732 (.int 221 731),de P "__init__" 743 (.ref 392),de P "put" 751 (.ref 399),de P "enter" 759 (.ref 406),de P "put_all" 767 (.ref 413),de P "limit" 776 (.ref 420),de P "length" 786 (.ref 427),de P "alike" 798 (.ref 434),de P "is_near" 807 (.ref 441),de P "repeat" 817 (.ref 448),de P "every" 826 (.ref 455),de P "best" 836 (.ref 462),de P "__static_attributes__" 842 (.ref 463),de P "__dict__" 844 (.ref 466),de P "__weakref__" 846 (.ref 467),de P "__doc__" 847 .none] 4
def QH:Obj:=zm "Matcher" [.type "object"] [.ref 465,.type "object"] 464 [.ref 508] #[none,none,some (.str "Matcher" 721),some (.str "Matcher" 729),some (.builtin "object.__new__"),some (.bool true)]
def KQ:Obj:=cP "getset_descriptor" #[.str "__dict__" 843,.ref 465,.builtin "function.__dict__",.builtin "function.__dict__#set"]
def KR:Obj:=cP "getset_descriptor" #[.str "__weakref__" 845,.ref 465,.builtin "ExceptionGroup.__weakref__",.none]
def QF:Obj:=cP "super" #[.ref 465,.ref 465,.ref 465]
def QG:Obj:=cP "builtin_function_or_method" #[.builtin "object.__init_subclass__",.ref 465]
def QI:Obj:=aT "tuple" #[.ref 465]
def YD (P:Params):Obj:=gq #[de P "__module__" 857 (.str "threepress.matches" 654),de P "__qualname__" 859 (.str "Finder" 858),de P "__firstlineno__" 861 (.int 274 860),de P "__init__" 875 (.ref 484),de P "enter" 883 (.ref 491),de P "candidates" 893 (.ref 498),de P "every" 907 (.ref 505),de P "__static_attributes__" 909 (.ref 506)] 8
noncomputable def YE:Obj:=⟨.none,none,Data.fields #[.int 276 0,.int 4 0,.ref 483,.int 280 0,.int 4 0,.ref 490,.int 283 0,.int 4 0,.ref 497,.int 291 0,.int 4 0,.ref 504],#[]⟩
def YF:Obj:=aR "Finder" "Finder" 852 274 0 0 473 false .none .none .none 855
def YG:Obj:=zl 475 3 472 "threepress.matches" 654 0
def QJ:Obj:=aT "tuple" #[.int 3 862,.int 32768 863,.int 32 864]
def QK:Obj:=aT "tuple" #[.str "self" 868,.str "octets" 869,.str "least" 870,.str "window" 871,.str "chain" 872]
def YH:Obj:=bi "__init__" "Finder.__init__" (me 28 0)
def QL:Obj:=aR "__init__" "Finder.__init__" 865 276 5 3 478 true (.ref 480) (.ref 481) (.ref 482) 873
def QM:Obj:=bj "__init__" "Finder.__init__" (me 28 0) (.ref 477) "threepress.matches" 654 483
def QN:Obj:=aT "tuple" #[.str "self" 879,.str "place" 880]
def YI:Obj:=bi "enter" "Finder.enter" (me 28 1)
def QO:Obj:=aR "enter" "Finder.enter" 876 280 2 3 485 true (.ref 487) (.ref 488) (.ref 489) 881
def QP:Obj:=bj "enter" "Finder.enter" (me 28 1) .none "threepress.matches" 654 490
def QQ:Obj:=aT "tuple" #[.str "self" 887,.str "place" 888,.str "found" 889,.str "other" 890]
def YJ:Obj:=bi "candidates" "Finder.candidates" (me 28 2)
def QR:Obj:=aR "candidates" "Finder.candidates" 884 283 2 3 492 true (.ref 494) (.ref 495) (.ref 496) 891
def QS:Obj:=bj "candidates" "Finder.candidates" (me 28 2) .none "threepress.matches" 654 497
def QT:Obj:=aT "tuple" #[.str "self" 897,.str "place" 898,.str "most" 899,.str "found" 900,.str "limit" 901,.str "longest" 902,.str "other" 903,.str "count" 904]
def YK:Obj:=bi "every" "Finder.every" (me 28 3)
def QU:Obj:=aR "every" "Finder.every" 894 291 3 3 499 true (.ref 501) (.ref 502) (.ref 503) 905
def QV:Obj:=bj "every" "Finder.every" (me 28 3) .none "threepress.matches" 654 504
def QW:Obj:=aT "tuple" #[.str "row" 908]
def QX (P:Params):Obj:=gq #[de P "__module__" 857 (.str "threepress.matches" 654),de P "__firstlineno__" 861 (.int 274 860),de P "__init__" 875 (.ref 484),de P "enter" 883 (.ref 491),de P "candidates" 893 (.ref 498),de P "every" 907 (.ref 505),de P "__static_attributes__" 909 (.ref 506),de P "__doc__" 910 .none] 2
def QY:Obj:=zm "Finder" [.ref 465] [.ref 508,.ref 465,.type "object"] 507 [] #[some (.ref 470),none,some (.str "Finder" 850),some (.str "Finder" 858),some (.builtin "object.__new__"),some (.bool true)]
def YL:Obj:=cP "super" #[.ref 508,.ref 508,.ref 508]
def YM:Obj:=cP "builtin_function_or_method" #[.builtin "object.__init_subclass__",.ref 508]
def YN:Obj:=bi "_law_bag" "_law_bag" (st 30)
def QZ:Obj:=aR "_law_bag" "_law_bag" 915 304 1 3 511 true .none .none (.ref 513) 918
def Q0:Obj:=bj "_law_bag" "_law_bag" (st 30) .none "law_no0103_01" 913 514
def Q1:Obj:=aT "tuple" #[.str "bag" 924,.str "many" 925,.str "digit" 926,.str "rest" 927,.str "blend" 928]
def YO:Obj:=bi "_law_take" "_law_take" (st 31)
def Q2:Obj:=aR "_law_take" "_law_take" 921 310 2 3 516 true (.ref 518) (.ref 519) (.ref 520) 929
def Q3:Obj:=bj "_law_take" "_law_take" (st 31) .none "law_no0103_01" 913 521
def YQ:Obj:=bi "_law_text" "_law_text" (st 32)
def Q4:Obj:=aR "_law_text" "_law_text" 932 320 1 3 523 true .none .none (.ref 525) 935
def Q5:Obj:=bj "_law_text" "_law_text" (st 32) .none "law_no0103_01" 913 526
def Q6:Obj:=aT "tuple" #[.str "bag" 941,.str "found" 942,.str "turn" 943,.str "length" 944]
def YR:Obj:=bi "_law_drawn" "_law_drawn" (st 33)
def Q7:Obj:=aR "_law_drawn" "_law_drawn" 938 329 1 3 528 true (.ref 530) (.ref 531) (.ref 532) 945
def Q8:Obj:=bj "_law_drawn" "_law_drawn" (st 33) .none "law_no0103_01" 913 533
def Q9:Obj:=aT "tuple" #[.str "value" 951,.str "more" 952]
def YS:Obj:=bi "_law_slot" "_law_slot" (st 34)
def Ra:Obj:=aR "_law_slot" "_law_slot" 948 338 1 3 535 true (.ref 537) (.ref 538) (.ref 539) 953
def Re:Obj:=bj "_law_slot" "_law_slot" (st 34) .none "law_no0103_01" 913 540
def Rf:Obj:=aT "tuple" #[.str "count" 959,.str "parts" 960,.str "whole" 961,.str "found" 962,.str "jump" 963]
def YT:Obj:=bi "_law_log" "_law_log" (st 35)
def Rg:Obj:=aR "_law_log" "_law_log" 956 343 2 3 542 true (.ref 544) (.ref 545) (.ref 546) 964
def Rh:Obj:=bj "_law_log" "_law_log" (st 35) .none "law_no0103_01" 913 547
def Ri:Obj:=aT "tuple" #[.str "marks" 970,.str "found" 971,.str "mark" 972]
def YU:Obj:=bi "_law_tally" "_law_tally" (st 36)
def Rj:Obj:=aR "_law_tally" "_law_tally" 967 349 1 3 549 true (.ref 551) (.ref 552) (.ref 553) 973
def Rk:Obj:=bj "_law_tally" "_law_tally" (st 36) .none "law_no0103_01" 913 554
def YV:Obj:=bi "_law_table" "_law_table" (st 37)
def Rl:Obj:=aR "_law_table" "_law_table" 976 354 2 3 556 true .none .none (.ref 558) 979
def Rm:Obj:=bj "_law_table" "_law_table" (st 37) .none "law_no0103_01" 913 559
def YW:Obj:=bi "_law_learnt" "_law_learnt" (st 38)
def Rn:Obj:=aR "_law_learnt" "_law_learnt" 982 357 2 3 561 true .none .none (.ref 563) 985
def Ro:Obj:=bj "_law_learnt" "_law_learnt" (st 38) .none "law_no0103_01" 913 564
def Rq:Obj:=aT "tuple" #[.str "said" 991,.str "matched" 992,.str "each" 993,.str "match" 994]
def Rr:Obj:=aT "tuple" #[.str "said" 995,.str "matched" 996,.str "each" 997]
def YX:Obj:=bi "_law_flat" "_law_flat" (st 39)
def Rs:Obj:=aR "_law_flat" "_law_flat" 988 366 3 3 566 true (.ref 568) (.ref 569) (.ref 570) 998
def Rt:Obj:=bj "_law_flat" "_law_flat" (st 39) .none "law_no0103_01" 913 571
def YY:Obj:=bi "_law_cost" "_law_cost" (st 40)
def Ru:Obj:=aR "_law_cost" "_law_cost" 1001 371 2 3 573 true .none .none (.ref 575) 1004
def Rv:Obj:=bj "_law_cost" "_law_cost" (st 40) .none "law_no0103_01" 913 576
def Rw:Obj:=aT "tuple" #[.str "text" 1010,.str "place" 1011,.str "shape" 1012,.str "shortest" 1013,.str "window" 1014,.str "most" 1015,.str "found" 1016,.str "distance" 1017,.str "length" 1018]
def YZ:Obj:=bi "_law_matches" "_law_matches" (st 41)
def Rx:Obj:=aR "_law_matches" "_law_matches" 1007 373 3 3 578 true (.ref 580) (.ref 581) (.ref 582) 1019
def Ry:Obj:=bj "_law_matches" "_law_matches" (st 41) .none "law_no0103_01" 913 583
def Rz:Obj:=aT "tuple" #[.str "text" 1025,.str "at" 1026,.str "many" 1027,.str "matches" 1028,.str "price" 1029,.str "found" 1030,.str "length" 1031,.str "distance" 1032]
def Y0:Obj:=bi "_law_ways" "_law_ways" (st 42)
def RA:Obj:=aR "_law_ways" "_law_ways" 1022 383 5 3 585 true (.ref 587) (.ref 588) (.ref 589) 1033
def RB:Obj:=bj "_law_ways" "_law_ways" (st 42) .none "law_no0103_01" 913 590
def Y1:Obj:=bi "_law_least" "_law_least" (st 43)
def RD:Obj:=aR "_law_least" "_law_least" 1036 389 6 3 592 true .none .none (.ref 594) 1039
def RE:Obj:=bj "_law_least" "_law_least" (st 43) .none "law_no0103_01" 913 595
def RF:Obj:=aT "tuple" #[.str "call" 1045]
def Y4:Obj:=bi "_law_refused" "_law_refused" (st 44)
def RG:Obj:=aR "_law_refused" "_law_refused" 1042 407 1 3 597 true (.ref 599) (.ref 600) (.ref 601) 1046
def RH:Obj:=bj "_law_refused" "_law_refused" (st 44) .none "law_no0103_01" 913 602
def Y5:Obj:=bi "_law_counts_right" "_law_counts_right" (st 45)
def RI:Obj:=aR "_law_counts_right" "_law_counts_right" 1049 413 3 3 604 true .none .none (.ref 606) 1052
def RJ:Obj:=bj "_law_counts_right" "_law_counts_right" (st 45) .none "law_no0103_01" 913 607
def Y6:Obj:=bi "_law_parses_right" "_law_parses_right" (st 46)
def RK:Obj:=aR "_law_parses_right" "_law_parses_right" 1055 437 3 3 609 true .none .none (.ref 611) 1058
def RL:Obj:=bj "_law_parses_right" "_law_parses_right" (st 46) .none "law_no0103_01" 913 612
def RM:Obj:=aT "tuple" #[.str "script" 1064,.str "bag" 1065,.str "parts" 1066]
def Y7:Obj:=bi "law" "law" (st 47)
def RN:Obj:=aR "law" "law" 1061 467 1 3 614 true (.ref 616) (.ref 617) (.ref 618) 1067
def RO:Obj:=bj "law" "law" (st 47) .none "law_no0103_01" 913 619
def ae6 (P:Params):Obj:=gq #[de P "__name__" 165 (.str "threepress.parse" 240),de P "__doc__" 166 .none,de P "__package__" 167 .none,de P "__loader__" 168 (.builtin "__main__.__loader__#opaque"),de P "__spec__" 169 .none,de P "__annotations__" 170 (.ref 6),de P "__builtins__" 171 (.ref 4),de P "__file__" 173 (.str "/claim/cut.py" 172),de P "__cached__" 174 .none,de P "_wall" 193 (.ref 21),de P "PressError" 223 (.ref 39),de P "BadArgument" 239 (.ref 52),de P "LEAST_MATCH" 243 (.int 2 242),de P "check_steps" 252 (.ref 61),de P "check_range" 261 (.ref 68),de P "step_size" 268 (.ref 75),de P "size_of" 274 (.ref 80),de P "Trail" 330 (.ref 116),de P "literals" 337 (.ref 126),de P "greedy" 352 (.ref 133),de P "Ways" 404 (.ref 164),de P "least" 425 (.ref 176),de P "price_of" 436 (.ref 183),de P "slot_of" 444 (.ref 190),de P "FlatPrice" 495 (.ref 222),de P "Counts" 535 (.ref 250),de P "counts_of" 543 (.ref 261),de P "log_units" 551 (.ref 268)] 28
noncomputable def ae7:Obj:=⟨.none,none,Data.fields #[.int 1 0,.int 0 0,.ref 20,.int 5 0,.int 0 0,.ref 27,.int 10 0,.int 0 0,.ref 48,.int 14 0,.int 0 0,.ref 60,.int 20 0,.int 0 0,.ref 67,.int 25 0,.int 0 0,.ref 74,.int 27 0,.int 0 0,.ref 79,.int 29 0,.int 0 0,.ref 86,.int 49 0,.int 0 0,.ref 125,.int 52 0,.int 0 0,.ref 132,.int 61 0,.int 0 0,.ref 139,.int 83 0,.int 0 0,.ref 175,.int 98 0,.int 0 0,.ref 182,.int 103 0,.int 0 0,.ref 189,.int 108 0,.int 0 0,.ref 196,.int 124 0,.int 0 0,.ref 232,.int 138 0,.int 0 0,.ref 260,.int 143 0,.int 0 0,.ref 267],#[]⟩
def ae8 (P:Params):Obj:=gq #[de P "__name__" 165 (.str "threepress.matches" 654),de P "__doc__" 166 .none,de P "__package__" 167 .none,de P "__loader__" 168 (.builtin "__main__.__loader__#opaque"),de P "__spec__" 169 .none,de P "__annotations__" 170 (.ref 6),de P "__builtins__" 171 (.ref 4),de P "__file__" 173 (.str "/claim/cut.py" 172),de P "__cached__" 174 .none,de P "_wall" 193 (.ref 21),de P "PressError" 223 (.ref 39),de P "BadArgument" 239 (.ref 52),de P "LEAST_MATCH" 243 (.int 2 242),de P "check_steps" 252 (.ref 61),de P "check_range" 261 (.ref 68),de P "step_size" 268 (.ref 75),de P "size_of" 274 (.ref 80),de P "Trail" 330 (.ref 116),de P "literals" 337 (.ref 126),de P "greedy" 352 (.ref 133),de P "Ways" 404 (.ref 164),de P "least" 425 (.ref 176),de P "price_of" 436 (.ref 183),de P "slot_of" 444 (.ref 190),de P "FlatPrice" 495 (.ref 222),de P "Counts" 535 (.ref 250),de P "counts_of" 543 (.ref 261),de P "log_units" 551 (.ref 268),de P "SymbolPrices" 587 (.ref 290),de P "LearntPrice" 638 (.ref 324),de P "learn" 653 (.ref 336),de P "NOWHERE" 658 (.int (-1) 657),de P "PlaceRow" 720 (.ref 374),de P "Matcher" 849 (.ref 465)] 34
def afa:Obj:=zm "Matcher" [.type "object"] [.ref 465,.type "object"] 464 [] #[none,none,some (.str "Matcher" 721),some (.str "Matcher" 729),some (.builtin "object.__new__"),some (.bool true)]
noncomputable def ae9:Obj:=⟨.none,none,Data.fields #[.int 1 0,.int 0 0,.ref 20,.int 5 0,.int 0 0,.ref 27,.int 10 0,.int 0 0,.ref 48,.int 14 0,.int 0 0,.ref 60,.int 20 0,.int 0 0,.ref 67,.int 25 0,.int 0 0,.ref 74,.int 27 0,.int 0 0,.ref 79,.int 29 0,.int 0 0,.ref 86,.int 49 0,.int 0 0,.ref 125,.int 52 0,.int 0 0,.ref 132,.int 61 0,.int 0 0,.ref 139,.int 83 0,.int 0 0,.ref 175,.int 98 0,.int 0 0,.ref 182,.int 103 0,.int 0 0,.ref 189,.int 108 0,.int 0 0,.ref 196,.int 124 0,.int 0 0,.ref 232,.int 138 0,.int 0 0,.ref 260,.int 143 0,.int 0 0,.ref 267,.int 145 0,.int 0 0,.ref 274,.int 156 0,.int 0 0,.ref 300,.int 180 0,.int 0 0,.ref 335,.int 189 0,.int 0 0,.ref 342,.int 221 0,.int 0 0,.ref 384],#[]⟩
def XK (P:Params):Heap:=⟨#[(boot_o_0 P),(boot_o_1 P),(boot_o_2 P),(boot_o_3 P),(boot_o_4 P),(boot_o_5 P),(boot_o_6 P),(boot_o_7 P),(boot_o_8 P),(boot_o_9 P),(boot_o_10 P),aa,ai,GG,GH],{}⟩
def py (P:Params):Heap:=⟨#[(boot_o_0 P),(boot_o_1 P),(boot_o_2 P),(KS P),(boot_o_4 P),(boot_o_5 P),(boot_o_6 P),(boot_o_7 P),(boot_o_8 P),(boot_o_9 P),(boot_o_10 P),aa,Y3,GG,GH,aa,ai,Np,aa,Tx,Nq,Nr,Nt,bE,(Ty P),aa,Tz,TA,TC,GI,aa,ai,Nu,aa,TD,Nv,GJ,Nw,(Nx P),Nz,Ny,TE,TF,NA,bE,(TG P),aa,ai,TH,TI,aa,(NB P),NC,TJ,TK,aa,ai,ND,aa,TL,NE,BI,aa,ai,BJ,aa,IF,BK,BL,aa,ai,BM,aa,IG,BN,BO,aa,ai,IH,BQ,BR,aa,bE,(II P),aa,IJ,IK,IM,aa,ai,BS,aa,IN,BU,BV,aa,ai,BW,aa,IO,BX,BY,aa,ai,BZ,aa,IP,B0,B1,aa,ai,IQ,B3,B4,B5,(B6 P),B7,B8,B9,IR,IS,Ca,aa,ai,IT,Cb,Cd,aa,ai,Ce,aa,IU,Cf,Cg,aa,bE,(IV P),aa,IW,IX,IY,aa,ai,Ch,aa,IZ,Ci,Cj,aa,ai,Ck,aa,I1,Cl,Cm,aa,ai,Cn,aa,I5,Co,Cp,Cq,(Cr P),Ct,Cu,Cv,I6,I7,Cw,aa,ai,Cy,aa,I8,Cz,CA,aa,ai,CC,aa,I9,CD,CF,aa,ai,CG,aa,Ja,CH,CJ,aa,bE,(Jb P),aa,Jc,Jd,Je,CK,aa,ai,CL,aa,Jf,CM,CN,aa,ai,CO,aa,Jg,CP,CQ,aa,ai,CR,aa,Jh,CS,CT,CU,(CV P),CW,CX,CY,Ji,Jj,aa,bE,(Jk P),aa,Jl,Jm,Jn,aa,ai,CZ,aa,Jo,C0,C1,aa,ai,C2,aa,Jp,C3,C4,C5,(C6 P),C7,C8,C9,Jq,Jr,aa,ai,Da,aa,Js,Db,Dc,aa,ai,Dd,aa,Jt,De,Df,aa,bE,(PW P),aa,PY,PZ,P0,aa,ai,P1,Ju,Jv,aa,ai,Jw,aa,P2,Jx,Jy,Jz,(JA P),JB,JC,JD,P3,P4,aa,bE,(P5 P),aa,P6,P7,P8,JE,aa,ai,P9,JF,JG,aa,ai,JH,aa,Qa,JI,JJ,aa,ai,JK,aa,Qb,JL,JM,JN,(JO P),JP,JQ,JR,Qc,Qd,JS,aa,ai,JT,aa,Qf,JU,JV,aa,bE,(Qg P),aa,Qh,Qi,Qj,aa,ai,JW,aa,Qk,JX,JY,aa,ai,JZ,aa,Ql,J0,J2,aa,ai,J3,aa,Qm,J4,J5,aa,ai,J6,aa,Qn,J7,J8,J9,(Ka P),Kb,Kc,Kd,Qo,Qp,aa,bE,(Qq P),aa,Qr,Qs,Qt,aa,ai,Ke,aa,Qu,Kf,Kg,aa,ai,Kh,aa,Qv,Ki,Kj,aa,ai,Kk,aa,Qw,Kl,Km,aa,ai,Kn,aa,Qx,Ko,Kq,aa,ai,Kr,aa,Qy,Ks,Kt,aa,ai,Ku,aa,Qz,Kv,Kw,aa,ai,Kx,aa,QA,Ky,Kz,aa,ai,KA,aa,QB,KB,KC,aa,ai,KD,aa,QC,KG,KH,aa,ai,KI,aa,QD,KJ,KK,aa,ai,KL,aa,QE,KM,KN,KO,(KP P),QH,KQ,KR,QF,QG,QI,bE,(YD P),aa,YE,YF,YG,QJ,aa,ai,QK,aa,YH,QL,QM,aa,ai,QN,aa,YI,QO,QP,aa,ai,QQ,aa,YJ,QR,QS,aa,ai,QT,aa,YK,QU,QV,QW,(QX P),QY,YL,YM,aa,ai,YN,QZ,Q0,aa,ai,Q1,aa,YO,Q2,Q3,aa,ai,YQ,Q4,Q5,aa,ai,Q6,aa,YR,Q7,Q8,aa,ai,Q9,aa,YS,Ra,Re,aa,ai,Rf,aa,YT,Rg,Rh,aa,ai,Ri,aa,YU,Rj,Rk,aa,ai,YV,Rl,Rm,aa,ai,YW,Rn,Ro,aa,ai,Rq,Rr,YX,Rs,Rt,aa,ai,YY,Ru,Rv,aa,ai,Rw,aa,YZ,Rx,Ry,aa,ai,Rz,aa,Y0,RA,RB,aa,ai,Y1,RD,RE,aa,ai,RF,aa,Y4,RG,RH,aa,ai,Y5,RI,RJ,aa,ai,Y6,RK,RL,aa,ai,RM,aa,Y7,RN,RO],{}⟩
def aab (P:Params):BT:=(node (boot_o_0 P) (node (boot_o_1 P) (node (boot_o_3 P) (af (boot_o_7 P)) (af aa)) (node (boot_o_5 P) (af (boot_o_9 P)) (af GG))) (node (boot_o_2 P) (node (boot_o_4 P) (af (boot_o_8 P)) (af ai)) (node (boot_o_6 P) (af (boot_o_10 P)) (af GH))))
def aac (P:Params):BT:=(node (boot_o_0 P) (node (boot_o_1 P) (node (ae6 P) (node (boot_o_7 P) (node aa (node ai (node ai (node aa (af aa) nil) (af aa)) (node aa (af I5) (af CX))) (node ai (node BQ (af Ch) (af ai)) (node IQ (af Cz) (af C0)))) (node bE (node Nz (node BM (node bE (af ai) nil) (af aa)) (node ai (af I6) (af Jl))) (node aa (node IM (af aa) (af CR)) (node IR (af CF) (af C4))))) (node aa (node Tx (node Nv (node BK (node IU (af Js) nil) (af Jc)) (node IO (af (Cr P)) (af aa))) (node (NB P) (node (II P) (af Cj) (af CP)) (node (B6 P) (af CC) (af C2)))) (node TA (node NA (node BO (node IX (af De) nil) (af Jf)) (node B0 (af ai) (af ai))) (node TL (node aa (af aa) (af CT)) (node ai (af aa) (af C8)))))) (node (boot_o_5 P) (node (boot_o_9 P) (node Np (node aa (node aa (node Ce (af Da) nil) (af (Jb P))) (node BW (af Cp) (af Ji))) (node TI (node aa (af IZ) (af aa)) (node B4 (af aa) (af aa)))) (node aa (node TE (node IG (node aa (af aa) nil) (af CL)) (node aa (af Cw) (af Jn))) (node ND (node ai (af Cl) (af Jh)) (node Ca (af ai) (af (C6 P)))))) (node GG (node Nr (node Nw (node aa (node Cg (af Dc) nil) (af Je)) (node BY (af Cu) (af (Jk P)))) (node TJ (node IJ (af ai) (af aa)) (node B8 (af I9) (af Jp)))) (node GI (node (TG P) (node ai (af aa) (af CN)) (node aa (af aa) (af aa))) (node BI (node BU (af Cn) (af (CV P))) (node Cb (af CH) (af Jq))))))) (node (boot_o_2 P) (node (boot_o_4 P) (node (boot_o_8 P) (node ai (node Nu (node BJ (node ai (af ai) nil) (af bE)) (node ai (af Co) (af CY))) (node TH (node BR (af aa) (af CO)) (node B3 (af CA) (af C1)))) (node (Ty P) (node Ny (node aa (node (IV P) (af Dd) nil) (af ai)) (node BZ (af I7) (af Jm))) (node ai (node aa (af I1) (af aa)) (node IS (af aa) (af C5))))) (node ae7 (node Nq (node GJ (node BL (node Cf (af Db) nil) (af Jd)) (node BX (af Ct) (af bE))) (node NC (node aa (af aa) (af CQ)) (node B7 (af aa) (af aa)))) (node TC (node bE (node aa (node IY (af Df) nil) (af CM)) (node B1 (af Cy) (af CZ))) (node NE (node IN (af ai) (af CU)) (node IT (af Ja) (af C9)))))) (node (boot_o_6 P) (node (boot_o_10 P) (node aa (node TD (node IF (node aa (af aa) nil) (af aa)) (node aa (af Cq) (af Jj))) (node aa (node bE (af Ci) (af Jg)) (node B5 (af ai) (af ai)))) (node Tz (node TF (node BN (node IW (af Jt) nil) (af aa)) (node IP (af aa) (af aa))) (node aa (node BS (af Cm) (af CS)) (node aa (af CG) (af C7))))) (node GH (node Nt (node (Nx P) (node ai (node aa (af aa) nil) (af CK)) (node aa (af Cv) (af aa))) (node TK (node IK (af Ck) (af ai)) (node B9 (af CD) (af C3)))) (node aa (node aa (node IH (af ai) (af aa)) (node ai (af I8) (af Jo))) (node aa (node BV (af aa) (af CW)) (node Cd (af CJ) (af Jr))))))))
def aad (P:Params):BT:=(node (boot_o_0 P) (node (boot_o_1 P) (node (ae8 P) (node (boot_o_7 P) (node aa (node ai (node ai (node aa (af aa) (af Qr)) (node aa (af Qb) (af KG))) (node aa (node I5 (af Jy) (af ai)) (node CX (af aa) nil))) (node ai (node BQ (node Ch (af (PW P)) (af Kj)) (node ai (af JU) (af KO))) (node IQ (node Cz (af aa) (af aa)) (node C0 (af J6) nil)))) (node bE (node Nz (node BM (node bE (af ai) (af Kf)) (node aa (af Qc) (af KK))) (node ai (node I6 (af aa) (af Ku)) (node Jl (af ai) nil))) (node aa (node IM (node aa (af Ju) (af aa)) (node CR (af Qj) nil)) (node IR (node CF (af aa) (af QB)) (node C4 (af Kc) nil))))) (node aa (node Tx (node Nv (node BK (node IU (af Js) (af ai)) (node Jc (af (JO P)) (af KI))) (node IO (node (Cr P) (af JC) (af Ks)) (node aa (af Ql) nil))) (node (NB P) (node (II P) (node Cj (af P0) (af aa)) (node CP (af (Qg P)) (af KR))) (node (B6 P) (node CC (af JG) (af aa)) (node C2 (af J8) nil)))) (node TA (node NA (node BO (node IX (af De) (af Kh)) (node Jf (af ai) (af aa))) (node B0 (node ai (af P6) (af Kw)) (node ai (af J4) nil))) (node TL (node aa (node aa (af Jw) (af Qx)) (node CT (af aa) nil)) (node ai (node aa (af aa) (af ai)) (node C8 (af aa) nil)))))) (node (boot_o_5 P) (node (boot_o_9 P) (node Np (node aa (node aa (node Ce (af Da) (af Qt)) (node (Jb P) (af JM) (af aa))) (node BW (node Cp (af (JA P)) (af aa)) (node Ji (af JZ) nil))) (node TI (node aa (node IZ (af PY) (af ai)) (node aa (af aa) (af afa))) (node B4 (node aa (af P9) (af Ky)) (node aa (af Qn) nil)))) (node aa (node TE (node IG (node aa (af aa) (af aa)) (node CL (af JS) (af ai))) (node aa (node Cw (af (P5 P)) (af Qz)) (node Jn (af aa) nil))) (node ND (node ai (node Cl (af aa) (af Kn)) (node Jh (af ai) nil)) (node Ca (node ai (af JI) (af KC)) (node (C6 P) (af Qo) nil))))) (node GG (node Nr (node Nw (node aa (node Cg (af Dc) (af aa)) (node Je (af JQ) (af QD))) (node BY (node Cu (af P3) (af aa)) (node (Jk P) (af J2) nil))) (node TJ (node IJ (node ai (af ai) (af Kl)) (node aa (af Qh) (af QG))) (node B8 (node I9 (af ai) (af KA)) (node Jp (af (Ka P)) nil)))) (node GI (node (TG P) (node ai (node aa (af aa) (af Qv)) (node CN (af aa) (af KM))) (node aa (node aa (af P8) (af ai)) (node aa (af aa) nil))) (node BI (node BU (node Cn (af P2) (af Kq)) (node (CV P) (af JX) nil)) (node Cb (node CH (af JK) (af aa)) (node Jq (af (Qq P)) nil))))))) (node (boot_o_2 P) (node (boot_o_4 P) (node (boot_o_8 P) (node ai (node Nu (node BJ (node ai (af ai) (af Qs)) (node bE (af JL) (af KH))) (node ai (node Co (af Jz) (af Kr)) (node CY (af ai) nil))) (node TH (node BR (node aa (af aa) (af aa)) (node CO (af JV) (af (KP P)))) (node B3 (node CA (af ai) (af QA)) (node C1 (af aa) nil)))) (node (Ty P) (node Ny (node aa (node (IV P) (af Dd) (af Kg)) (node ai (af Qd) (af aa))) (node BZ (node I7 (af bE) (af aa)) (node Jm (af J3) nil))) (node ai (node aa (node I1 (af Jv) (af ai)) (node aa (af aa) nil)) (node IS (node aa (af Qa) (af KB)) (node C5 (af Kd) nil))))) (node ae9 (node Nq (node GJ (node BL (node Cf (af Db) (af Ke)) (node Jd (af JP) (af aa))) (node BX (node Ct (af JD) (af Kt)) (node bE (af J0) nil))) (node NC (node aa (node aa (af aa) (af Qw)) (node CQ (af aa) (af QF))) (node B7 (node aa (af aa) (af ai)) (node aa (af J9) nil)))) (node TC (node bE (node aa (node IY (af Df) (af aa)) (node CM (af JT) (af QE))) (node B1 (node Cy (af P7) (af aa)) (node CZ (af J5) nil))) (node NE (node IN (node ai (af aa) (af Ko)) (node CU (af Qk) nil)) (node IT (node Ja (af ai) (af KD)) (node C9 (af bE) nil)))))) (node (boot_o_6 P) (node (boot_o_10 P) (node aa (node TD (node IF (node aa (af aa) (af aa)) (node aa (af JN) (af ai))) (node aa (node Cq (af JB) (af Qy)) (node Jj (af aa) nil))) (node aa (node bE (node Ci (af PZ) (af Kk)) (node Jg (af bE) (af KQ))) (node B5 (node ai (af JF) (af Kz)) (node ai (af J7) nil)))) (node Tz (node TF (node BN (node IW (af Jt) (af ai)) (node aa (af aa) (af KL))) (node IP (node aa (af aa) (af Kv)) (node aa (af Qm) nil))) (node aa (node BS (node Cm (af ai) (af aa)) (node CS (af JW) nil)) (node aa (node CG (af JJ) (af aa)) (node C7 (af Qp) nil))))) (node GH (node Nt (node (Nx P) (node ai (node aa (af aa) (af Qu)) (node CK (af JR) (af KJ))) (node aa (node Cv (af P4) (af ai)) (node aa (af aa) nil))) (node TK (node IK (node Ck (af P1) (af Km)) (node ai (af Qi) nil)) (node B9 (node CD (af JH) (af aa)) (node C3 (af Kb) nil)))) (node aa (node aa (node IH (node ai (af bE) (af Ki)) (node aa (af Qf) (af KN))) (node ai (node I8 (af JE) (af Kx)) (node Jo (af ai) nil))) (node aa (node BV (node aa (af Jx) (af aa)) (node CW (af JY) nil)) (node Cd (node CJ (af aa) (af QC)) (node Jr (af aa) nil))))))))
def aae (P:Params):BT:=(node (boot_o_0 P) (node (boot_o_1 P) (node (KS P) (node (boot_o_7 P) (node aa (node ai (node ai (node aa (node aa (af aa) nil) (af Qr)) (node aa (node Qb (af YY) nil) (af KG))) (node aa (node I5 (node Jy (af ai) nil) (af ai)) (node CX (node aa (af RI) nil) (af ai)))) (node ai (node BQ (node Ch (node (PW P) (af Q5) nil) (af Kj)) (node ai (node JU (af RB) nil) (af KO))) (node IQ (node Cz (node aa (af Rl) nil) (af aa)) (node C0 (af J6) (af aa))))) (node bE (node Nz (node BM (node bE (node ai (af aa) nil) (af Kf)) (node aa (node Qc (af Rx) nil) (af KK))) (node ai (node I6 (node aa (af Ri) nil) (af Ku)) (node Jl (node ai (af ai) nil) (af QN)))) (node aa (node IM (node aa (node Ju (af aa) nil) (af aa)) (node CR (node Qj (af RF) nil) (af bE))) (node IR (node CF (node aa (af ai) nil) (af QB)) (node C4 (af Kc) (af YK)))))) (node aa (node Tx (node Nv (node BK (node IU (node Js (af Q0) nil) (af ai)) (node Jc (node (JO P) (af ai) nil) (af KI))) (node IO (node (Cr P) (node JC (af Rg) nil) (af Ks)) (node aa (node Ql (af Y6) nil) (af QL)))) (node (NB P) (node (II P) (node Cj (node P0 (af aa) nil) (af aa)) (node CP (node (Qg P) (af RD) nil) (af KR))) (node (B6 P) (node CC (node JG (af YW) nil) (af aa)) (node C2 (af J8) (af aa))))) (node TA (node NA (node BO (node IX (node De (af aa) nil) (af Kh)) (node Jf (node ai (af Rz) nil) (af aa))) (node B0 (node ai (node P6 (af Rk) nil) (af Kw)) (node ai (node J4 (af RN) nil) (af QP)))) (node TL (node aa (node aa (node Jw (af YS) nil) (af Qx)) (node CT (node aa (af RH) nil) (af YF))) (node ai (node aa (node aa (af Rs) nil) (af ai)) (node C8 (af aa) (af (QX P)))))))) (node (boot_o_5 P) (node (boot_o_9 P) (node Np (node aa (node aa (node Ce (node Da (af YN) nil) (af Qt)) (node (Jb P) (node JM (af Rv) nil) (af aa))) (node BW (node Cp (node (JA P) (af aa) nil) (af aa)) (node Ji (node JZ (af aa) nil) (af aa)))) (node TI (node aa (node IZ (node PY (af ai) nil) (af ai)) (node aa (node aa (af ai) nil) (af QH))) (node B4 (node aa (node P9 (af aa) nil) (af Ky)) (node aa (af Qn) (af QR))))) (node aa (node TE (node IG (node aa (node aa (af Q2) nil) (af aa)) (node CL (node JS (af aa) nil) (af ai))) (node aa (node Cw (node (P5 P) (af YU) nil) (af Qz)) (node Jn (node aa (af aa) nil) (af YI)))) (node ND (node ai (node Cl (node aa (af Q9) nil) (af Kn)) (node Jh (node ai (af Y4) nil) (af aa))) (node Ca (node ai (node JI (af Rr) nil) (af KC)) (node (C6 P) (af Qo) (af QV)))))) (node GG (node Nr (node Nw (node aa (node Cg (node Dc (af ai) nil) (af aa)) (node Je (node JQ (af aa) nil) (af QD))) (node BY (node Cu (node P3 (af aa) nil) (af aa)) (node (Jk P) (node J2 (af RL) nil) (af aa)))) (node TJ (node IJ (node ai (node ai (af Q7) nil) (af Kl)) (node aa (node Qh (af aa) nil) (af QG))) (node B8 (node I9 (node ai (af Ro) nil) (af KA)) (node Jp (af (Ka P)) (af QT))))) (node GI (node (TG P) (node ai (node aa (node aa (af YQ) nil) (af Qv)) (node CN (node aa (af Y0) nil) (af KM))) (node aa (node aa (node P8 (af ai) nil) (af ai)) (node aa (af aa) (af ai)))) (node BI (node BU (node Cn (node P2 (af Re) nil) (af Kq)) (node (CV P) (node JX (af ai) nil) (af QJ))) (node Cb (node CH (node JK (af aa) nil) (af aa)) (node Jq (af (Qq P)) (af YL)))))))) (node (boot_o_2 P) (node (boot_o_4 P) (node (boot_o_8 P) (node ai (node Nu (node BJ (node ai (node ai (af ai) nil) (af Qs)) (node bE (node JL (af Ru) nil) (af KH))) (node ai (node Co (node Jz (af Rf) nil) (af Kr)) (node CY (node ai (af RJ) nil) (af QK)))) (node TH (node BR (node aa (node aa (af aa) nil) (af aa)) (node CO (node JV (af aa) nil) (af (KP P)))) (node B3 (node CA (node ai (af Rm) nil) (af QA)) (node C1 (af aa) (af YJ))))) (node (Ty P) (node Ny (node aa (node (IV P) (node Dd (af YO) nil) (af Kg)) (node ai (node Qd (af Ry) nil) (af aa))) (node BZ (node I7 (node bE (af aa) nil) (af aa)) (node Jm (node J3 (af RM) nil) (af aa)))) (node ai (node aa (node I1 (node Jv (af ai) nil) (af ai)) (node aa (node aa (af aa) nil) (af (YD P)))) (node IS (node aa (node Qa (af Rq) nil) (af KB)) (node C5 (af Kd) (af QU)))))) (node Y3 (node Nq (node GJ (node BL (node Cf (node Db (af aa) nil) (af Ke)) (node Jd (node JP (af Rw) nil) (af aa))) (node BX (node Ct (node JD (af Rh) nil) (af Kt)) (node bE (node J0 (af RK) nil) (af QM)))) (node NC (node aa (node aa (node aa (af YR) nil) (af Qw)) (node CQ (node aa (af RE) nil) (af QF))) (node B7 (node aa (node aa (af Rn) nil) (af ai)) (node aa (af J9) (af ai))))) (node TC (node bE (node aa (node IY (node Df (af ai) nil) (af aa)) (node CM (node JT (af aa) nil) (af QE))) (node B1 (node Cy (node P7 (af aa) nil) (af aa)) (node CZ (node J5 (af RO) nil) (af aa)))) (node NE (node IN (node ai (node aa (af Ra) nil) (af Ko)) (node CU (node Qk (af aa) nil) (af YG))) (node IT (node Ja (node ai (af Rt) nil) (af KD)) (node C9 (af bE) (af QY))))))) (node (boot_o_6 P) (node (boot_o_10 P) (node aa (node TD (node IF (node aa (node aa (af QZ) nil) (af aa)) (node aa (node JN (af aa) nil) (af ai))) (node aa (node Cq (node JB (af YT) nil) (af Qy)) (node Jj (node aa (af ai) nil) (af YH)))) (node aa (node bE (node Ci (node PZ (af Q6) nil) (af Kk)) (node Jg (node bE (af Y1) nil) (af KQ))) (node B5 (node ai (node JF (af ai) nil) (af Kz)) (node ai (af J7) (af QS))))) (node Tz (node TF (node BN (node IW (node Jt (af Q3) nil) (af ai)) (node aa (node aa (af ai) nil) (af KL))) (node IP (node aa (node aa (af Rj) nil) (af Kv)) (node aa (node Qm (af Y7) nil) (af QO)))) (node aa (node BS (node Cm (node ai (af aa) nil) (af aa)) (node CS (node JW (af RG) nil) (af YE))) (node aa (node CG (node JJ (af YX) nil) (af aa)) (node C7 (af Qp) (af QW)))))) (node GH (node Nt (node (Nx P) (node ai (node aa (node aa (af Q1) nil) (af Qu)) (node CK (node JR (af YZ) nil) (af KJ))) (node aa (node Cv (node P4 (af ai) nil) (af ai)) (node aa (node aa (af aa) nil) (af ai)))) (node TK (node IK (node Ck (node P1 (af Q8) nil) (af Km)) (node ai (node Qi (af ai) nil) (af QI))) (node B9 (node CD (node JH (af aa) nil) (af aa)) (node C3 (af Kb) (af aa))))) (node aa (node aa (node IH (node ai (node bE (af Q4) nil) (af Ki)) (node aa (node Qf (af RA) nil) (af KN))) (node ai (node I8 (node JE (af YV) nil) (af Kx)) (node Jo (af ai) (af QQ)))) (node aa (node BV (node aa (node Jx (af aa) nil) (af aa)) (node CW (node JY (af Y5) nil) (af aa))) (node Cd (node CJ (node aa (af ai) nil) (af QC)) (node Jr (af aa) (af YM)))))))))
def KF (P:Params):Frag:=[(2,boot_o_2 P),(3,KS P),(15,aa),(17,Np),(18,aa),(20,Nq),(21,Nr),(22,Nt),(29,GI),(30,aa),(32,Nu),(33,aa),(35,Nv),(36,GJ),(37,Nw),(38,Nx P),(39,Nz),(40,Ny),(43,NA),(50,aa),(51,NB P),(52,NC),(55,aa),(57,ND),(58,aa),(60,NE),(61,BI),(62,aa),(64,BJ),(65,aa),(67,BK),(68,BL),(69,aa),(71,BM),(72,aa),(74,BN),(75,BO),(76,aa),(79,BQ),(80,BR),(88,aa),(90,BS),(91,aa),(93,BU),(94,BV),(95,aa),(97,BW),(98,aa),(100,BX),(101,BY),(102,aa),(104,BZ),(105,aa),(107,B0),(108,B1),(109,aa),(112,B3),(113,B4),(114,B5),(115,B6 P),(116,B7),(117,B8),(118,B9),(121,Ca),(122,aa),(125,Cb),(126,Cd),(127,aa),(129,Ce),(130,aa),(132,Cf),(133,Cg),(141,aa),(143,Ch),(144,aa),(146,Ci),(147,Cj),(148,aa),(150,Ck),(151,aa),(153,Cl),(154,Cm),(155,aa),(157,Cn),(158,aa),(160,Co),(161,Cp),(162,Cq),(163,Cr P),(164,Ct),(165,Cu),(166,Cv),(169,Cw),(170,aa),(172,Cy),(173,aa),(175,Cz),(176,CA),(177,aa),(179,CC),(180,aa),(182,CD),(183,CF),(184,aa),(186,CG),(187,aa),(189,CH),(190,CJ),(198,CK),(199,aa),(201,CL),(202,aa),(204,CM),(205,CN),(206,aa),(208,CO),(209,aa),(211,CP),(212,CQ),(213,aa),(215,CR),(216,aa),(218,CS),(219,CT),(220,CU),(221,CV P),(222,CW),(223,CX),(224,CY),(234,aa),(236,CZ),(237,aa),(239,C0),(240,C1),(241,aa),(243,C2),(244,aa),(246,C3),(247,C4),(248,C5),(249,C6 P),(250,C7),(251,C8),(252,C9),(255,aa),(257,Da),(258,aa),(260,Db),(261,Dc),(262,aa),(264,Dd),(265,aa),(267,De),(268,Df),(276,aa),(279,Ju),(280,Jv),(281,aa),(283,Jw),(284,aa),(286,Jx),(287,Jy),(288,Jz),(289,JA P),(290,JB),(291,JC),(292,JD),(302,JE),(303,aa),(306,JF),(307,JG),(308,aa),(310,JH),(311,aa),(313,JI),(314,JJ),(315,aa),(317,JK),(318,aa),(320,JL),(321,JM),(322,JN),(323,JO P),(324,JP),(325,JQ),(326,JR),(329,JS),(330,aa),(332,JT),(333,aa),(335,JU),(336,JV),(344,aa),(346,JW),(347,aa),(349,JX),(350,JY),(351,aa),(353,JZ),(354,aa),(356,J0),(357,J2),(358,aa),(360,J3),(361,aa),(363,J4),(364,J5),(365,aa),(367,J6),(368,aa),(370,J7),(371,J8),(372,J9),(373,Ka P),(374,Kb),(375,Kc),(376,Kd),(386,aa),(388,Ke),(389,aa),(391,Kf),(392,Kg),(393,aa),(395,Kh),(396,aa),(398,Ki),(399,Kj),(400,aa),(402,Kk),(403,aa),(405,Kl),(406,Km),(407,aa),(409,Kn),(410,aa),(412,Ko),(413,Kq),(414,aa),(416,Kr),(417,aa),(419,Ks),(420,Kt),(421,aa),(423,Ku),(424,aa),(426,Kv),(427,Kw),(428,aa),(430,Kx),(431,aa),(433,Ky),(434,Kz),(435,aa),(437,KA),(438,aa),(440,KB),(441,KC),(442,aa),(444,KD),(445,aa),(447,KG),(448,KH),(449,aa),(451,KI),(452,aa),(454,KJ),(455,KK),(456,aa),(458,KL),(459,aa),(461,KM),(462,KN),(463,KO),(464,KP P),(465,QH),(466,KQ),(467,KR),(470,QI),(477,QJ),(478,aa),(480,QK),(481,aa),(483,QL),(484,QM),(485,aa),(487,QN),(488,aa),(490,QO),(491,QP),(492,aa),(494,QQ),(495,aa),(497,QR),(498,QS),(499,aa),(501,QT),(502,aa),(504,QU),(505,QV),(506,QW),(507,QX P),(508,QY),(511,aa),(514,QZ),(515,Q0),(516,aa),(518,Q1),(519,aa),(521,Q2),(522,Q3),(523,aa),(526,Q4),(527,Q5),(528,aa),(530,Q6),(531,aa),(533,Q7),(534,Q8),(535,aa),(537,Q9),(538,aa),(540,Ra),(541,Re),(542,aa),(544,Rf),(545,aa),(547,Rg),(548,Rh),(549,aa),(551,Ri),(552,aa),(554,Rj),(555,Rk),(556,aa),(559,Rl),(560,Rm),(561,aa),(564,Rn),(565,Ro),(566,aa),(568,Rq),(569,Rr),(571,Rs),(572,Rt),(573,aa),(576,Ru),(577,Rv),(578,aa),(580,Rw),(581,aa),(583,Rx),(584,Ry),(585,aa),(587,Rz),(588,aa),(590,RA),(591,RB),(592,aa),(595,RD),(596,RE),(597,aa),(599,RF),(600,aa),(602,RG),(603,RH),(604,aa),(607,RI),(608,RJ),(609,aa),(612,RK),(613,RL),(614,aa),(616,RM),(617,aa),(619,RN),(620,RO),(1,boot_o_1 P)]
end
noncomputable abbrev PG:Program:=PySem.Challenge.rw_no0103_01.row.toRowW.1
noncomputable abbrev PK:List Str:=["PressError","literals","least","learn","Finder"]
def Mz:Env:={scope:=PG.main.scope,locals:=mainNs,globals:=mainNs,cells:=[],code:= .ref 13,frame:=some 14}
noncomputable abbrev p0:Pos:=⟨0,0,0,0⟩
noncomputable abbrev cT:Code:= .body (behindTheImports PG) Mz
noncomputable abbrev an:Option Value:=some (.ref 6)
theorem ZR (w:World):(fun os=>topGo treeTable PG w 11 an 12 ⟨boot_heap w.params,Array.mk [],boot_drawn,boot_toks,os⟩ (topStub PG))=
  fun os=>some (⟨XK w.params,Array.mk [],{},187,os⟩,⟨denote treeTable cT,cT,p0,[topFrame p0]⟩):=by
 rewrite [PySem.W.Fast.te15667345088766844465,PySem.W.Fast.te14364793385576792824,PySem.W.Fast.te11892475500146522536]
 kernel_rfl
theorem Sk (w:World):(fun os=>segRun treeTable PG w 11 an 1 1 ⟨XK w.params,Array.mk [],{},187,os⟩ (blockOf (behindTheImports PG) Mz cT p0 [topFrame p0]))=
  fun os=>some (Flow.next,(SharedT.mk (aab w.params) 15 {} (Array.mk []) {} 187 os).abs,cT,p0):=by
 rewrite [PySem.W.Fast.te14374325043358763698,PySem.W.Fast.te14364793385576792824]
 kernel_rfl
noncomputable abbrev pA:Pos:={line:=143,col:=0,endLine:=144,endCol:=44}
noncomputable abbrev pB:Pos:={line:=221,col:=0,endLine:=273,endCol:=54}
noncomputable abbrev pC:Pos:={line:=467,col:=0,endLine:=470,endCol:=107}
noncomputable abbrev ZJ:List Stmt:=(behindTheImports PG).drop 21
noncomputable abbrev ZK:List Stmt:=(behindTheImports PG).drop 28
theorem afi (w:World):(fun os=>segRunT treeTable PG w 11 an 1 2500 ⟨aab w.params,15,{},Array.mk [],{},187,os⟩ (piecesOf ((behindTheImports PG).take 21) Mz cT p0 [topFrame p0]))=
  fun os=>some (Flow.next,(SharedT.mk (aac w.params) 269 {} (Array.mk []) {} 552 os),cT,pA):=by
 rewrite [PySem.W.Fast.te10110043849684766642,PySem.W.Fast.te14364793385576792824]
 kernel_rfl
theorem afj (w:World):(fun os=>segRunT treeTable PG w 11 an 1 2500 ⟨aac w.params,269,{},Array.mk [],{},552,os⟩ (piecesOf (ZJ.take 7) Mz cT pA [topFrame p0]))=
  fun os=>some (Flow.next,(SharedT.mk (aad w.params) 470 {} (Array.mk []) {} 850 os),cT,pB):=by
 rewrite [PySem.W.Fast.te10110043849684766642,PySem.W.Fast.te14364793385576792824]
 kernel_rfl
theorem afk (w:World):(fun os=>segRunT treeTable PG w 11 an 1 2500 ⟨aad w.params,470,{},Array.mk [],{},850,os⟩ (piecesOf ZK Mz cT pB [topFrame p0]))=
  fun os=>some (Flow.next,(SharedT.mk (aae w.params) 621 {} (Array.mk []) {} 1070 os),cT,pC):=by
 rewrite [PySem.W.Fast.te10110043849684766642,PySem.W.Fast.te14364793385576792824]
 kernel_rfl
theorem ZQ (w:World):(fun os=>topRun treeTable PG w 11 an 2 (SharedT.mk (aae w.params) 621 {} (Array.mk []) {} 1070 os).abs ⟨doneF .next,cT,pC,[topFrame p0]⟩)=
  fun os=>some ⟨py w.params,Array.mk [],{},1070,os⟩:=by
 rewrite [PySem.W.Fast.te14082659384304107361,PySem.W.Fast.te14364793385576792824]
 kernel_rfl
theorem abh:(behindTheImports PG).take 21++(ZJ.take 7++(ZK++[]))=behindTheImports PG:=by kernel_rfl
theorem ZP (w:World)(os:OsState):topRun treeTable PG w 11 an (12+(1+(2500+(2500+(2500+2))))) ⟨boot_heap w.params,Array.mk [],boot_drawn,boot_toks,os⟩ (topStub PG)=some ⟨py w.params,Array.mk [],{},1070,os⟩:=by
 refine go_top (congrFun (ZR w) os) (piece_block (congrFun (Sk w) os) ?_)
 rw[←abh]
 exact piece_app (segRun_of (congrFun (afi w) os)) (piece_app (segRun_of (congrFun (afj w) os)) (piece_app (segRun_of (congrFun (afk w) os)) (congrFun (ZQ w) os)))
end
noncomputable section
noncomputable def asK:List Addr:=[2,3,15,17,18,20,21,22,29,30,32,33,35,36,37,38,39,40,43,50,51,52,55,57,58,60,61,62,64,65,67,68,69,71,72,74,75,76,79,80,88,90,91,93,94,95,97,98,100,101,102,104,105,107,108,109,112,113,114,115,116,117,118,121,122,125,126,127,129,130,132,133,141,143,144,146,147,148,150,151,153,154,155,157,158,160,161,162,163,164,165,166,169,170,172,173,175,176,177,179,180,182,183,184,186,187,189,190,198,199,201,202,204,205,206,208,209,211,212,213,215,216,218,219,220,221,222,223,224,234,236,237,239,240,241,243,244,246,247,248,249,250,251,252,255,257,258,260,261,262,264,265,267,268,276,279,280,281,283,284,286,287,288,289,290,291,292,302,303,306,307,308,310,311,313,314,315,317,318,320,321,322,323,324,325,326,329,330,332,333,335,336,344,346,347,349,350,351,353,354,356,357,358,360,361,363,364,365,367,368,370,371,372,373,374,375,376,386,388,389,391,392,393,395,396,398,399,400,402,403,405,406,407,409,410,412,413,414,416,417,419,420,421,423,424,426,427,428,430,431,433,434,435,437,438,440,441,442,444,445,447,448,449,451,452,454,455,456,458,459,461,462,463,464,465,466,467,470,477,478,480,481,483,484,485,487,488,490,491,492,494,495,497,498,499,501,502,504,505,506,507,508,511,514,515,516,518,519,521,522,523,526,527,528,530,531,533,534,535,537,538,540,541,542,544,545,547,548,549,551,552,554,555,556,559,560,561,564,565,566,568,569,571,572,573,576,577,578,580,581,583,584,585,587,588,590,591,592,595,596,597,599,600,602,603,604,607,608,609,612,613,614,616,617,619,620,1]
theorem aa6 (P:Params):asK=(KF P).map (·.1):=by kernel_rfl
noncomputable abbrev HK:Hook:=kmHook KF asK aa6 [567,610,562,605]
noncomputable def qV:Program:=view PG [0,2,3,5,6,7,8,9,10,12,13,15,16,17,18,19,20,21,22,25,26,27,28,30,31,32,33,34,35,36,37,38,39,40,41,42,43,44,45,46,47]
noncomputable abbrev rO:OpenRow:=PySem.Challenge.rw_no0103_01.row
noncomputable abbrev XtV:Shared→Bool:=fun s=>xlAt qV [] s&&recOk (RowW.records rO.toRowW) s
theorem Yi (w:World):(fun os:OsState=>(staticsOk (importedModules PG.main.body) (boot_heap w.params) (py w.params)&&namesBound PG (py w.params)&&gensDone ⟨py w.params,Array.mk [],{},1070,os⟩&&laidKept (boot_heap w.params) (py w.params)))=fun _=>true:=by
 kernel_rfl
theorem Yj (w:World):(fun os:OsState=>openSeen qV PK (importedModules PG.main.body) XtV true ⟨py w.params,Array.mk [],{},1070,os⟩)=fun _=>openGood qV PK:=by
 kernel_rfl
theorem Yk (w:World):(fun os:OsState=>Hook.obs HK ⟨py w.params,Array.mk [],{},1070,os⟩)=fun _=>Hook.val HK w:=by
 kernel_rfl
theorem ZX (w:World):((boot_heap w.params).isNs mainGlobals&&(Array.mk []:Array GenState).size==0,(boot_heap w.params).objs.size,(boot_heap w.params).nsMap mainGlobals "__annotations__")=(true,11,an):=by
 kernel_rfl
theorem ZB:∀w:World,(fencedOpening treeTable PG w 9000).map (fun s=>(s.heap,s.gens,s.drawn,s.toks))=some (boot_heap w.params,Array.mk [],boot_drawn,boot_toks):=
 boot_open (by kernel_rfl) (by kernel_rfl) (fun s=>by kernel_rfl)
theorem left:LeftO PG qV PK XtV (Hook.obs HK) (Hook.val HK) 9000 true:=
 LeftO.of_pieces ZB ZX ZP (by kernel_rfl) fun w=>by
  funext os
  exact Prod.ext (congrFun (Yi w) os) (Prod.ext (congrFun (Yj w) os) (congrFun (Yk w) os))
theorem air:PySem.Challenge.rw_no0103_01.wellSaid=true:=by kernel_rfl
noncomputable def dL:DefRec×List (Str×Expr):=(defOf qV rO.name).getD ⟨⟨"",⟨[],[],none,[],[],none,[]⟩,[],⟨.module,[],false,false,[]⟩,p0⟩,[]⟩
theorem XI:defOf qV rO.name=some (dL.1,dL.2):=by kernel_rfl
theorem ahe:rO.prog.theDef rO.name=some (dL.1.params,dL.1.body,dL.1.scope):=by kernel_rfl
theorem hkw:kwWritten? dL.1.params.kwonlyargs dL.1.params.kw_defaults=some dL.2:=by kernel_rfl
theorem hok:(chainsOk qV&&opensWell rO.prog&&(frees rO.toRowW&&rO.within.isEmpty))=true:=by kernel_rfl
theorem MP (walk:WalkO qV PK (XL qV []) (Hook.says HK) rO.toRowW dL.1 dL.2 fun f vs=>PySem.call f vs):PySem.Challenge.rw_no0103_01.Holds:=
 holds_law air fun k1=>holds_open (r:=rO) (q:=qV) (loose:=PK) (Xt:=XtV) (XP:=XL qV []) (Yf:=Hook.obs HK) (Ya:=Hook.val HK) (YP:=Hook.says HK) (N:=9000) left (Hook.of HK) (Hook.keeps HK)
  (fun s e=>xl_of s (Bool.and_eq_true_iff.mp e).1) XL.keeps XI ahe hkw (fun s e=>recFacts_of (Bool.and_eq_true_iff.mp e).2) (by kernel_rfl) k1 hok ⟨rfl,rfl,rfl,rfl,rfl,by kernel_rfl⟩ ⟨[.list []],by decide+kernel,by decide+kernel⟩ walk
end
theorem ff {P:Prop}(h:false=true):P:=Bool.noConfusion h
noncomputable def z1 {α:Type}:α→Bool:=fun _=>false
theorem g1 {α:Type}{P:α→Prop}:∀a0,false=true→P a0:=fun _ h=>ff h
noncomputable def z2 {α β:Type}:α→β→Bool:=fun _ _=>false
theorem g2 {α β:Type}{P:α→β→Prop}:∀a0 a1,false=true→P a0 a1:=fun _ _ h=>ff h
noncomputable def z3 {α β γ:Type}:α→β→γ→Bool:=fun _ _ _=>false
theorem g3 {α β γ:Type}{P:α→β→γ→Prop}:∀a0 a1 a2,false=true→P a0 a1 a2:=fun _ _ _ h=>ff h
noncomputable def z4 {α β γ δ:Type}:α→β→γ→δ→Bool:=fun _ _ _ _=>false
theorem g4 {α β γ δ:Type}{P:α→β→γ→δ→Prop}:∀a0 a1 a2 a3,false=true→P a0 a1 a2 a3:=fun _ _ _ _ h=>ff h
noncomputable def z5 {α β γ δ ε:Type}:α→β→γ→δ→ε→Bool:=fun _ _ _ _ _=>false
theorem g5 {α β γ δ ε:Type}{P:α→β→γ→δ→ε→Prop}:∀a0 a1 a2 a3 a4,false=true→P a0 a1 a2 a3 a4:=fun _ _ _ _ _ h=>ff h
noncomputable def z7 {α β γ δ ε ζ η:Type}:α→β→γ→δ→ε→ζ→η→Bool:=fun _ _ _ _ _ _ _=>false
theorem g7 {α β γ δ ε ζ η:Type}{P:α→β→γ→δ→ε→ζ→η→Prop}:∀a0 a1 a2 a3 a4 a5 a6,false=true→P a0 a1 a2 a3 a4 a5 a6:=fun _ _ _ _ _ _ _ h=>ff h
noncomputable def iu {α β γ δ ε ζ η θ ι κ:Type}:α→β→γ→δ→ε→ζ→η→θ→ι→κ→Bool:=fun _ _ _ _ _ _ _ _ _ _=>false
theorem g9 {α β γ δ ε ζ η θ ι κ:Type}{P:α→β→γ→δ→ε→ζ→η→θ→ι→κ→Prop}:∀a0 a1 a2 a3 a4 a5 a6 a7 a8 a9,false=true→P a0 a1 a2 a3 a4 a5 a6 a7 a8 a9:=fun _ _ _ _ _ _ _ _ _ _ h=>ff h
noncomputable def zu {α β γ δ ε ζ η θ ι κ μ:Type}:α→β→γ→δ→ε→ζ→η→θ→ι→κ→μ→Bool:=fun _ _ _ _ _ _ _ _ _ _ _=>false
theorem yR {α β γ δ ε ζ η θ ι κ μ:Type}{P:α→β→γ→δ→ε→ζ→η→θ→ι→κ→μ→Prop}:∀a0 a1 a2 a3 a4 a5 a6 a7 a8 a9 a10,false=true→P a0 a1 a2 a3 a4 a5 a6 a7 a8 a9 a10:=fun _ _ _ _ _ _ _ _ _ _ _ h=>ff h
noncomputable def bJ (e:PySem.Expr)(k:Str→Pos→Bool):Bool:=@PySem.Expr.casesOn (fun _=>Bool) e z3 z3 z4 z3 z4 z4 z3 z3 z4 z4 z5 z4 z2 z2 z2 z4 z4 z4 z2 z3 z3 z3 z2 (fun a0 a1=>k a0 a1) z2 z3 z4
@[elab_as_elim] theorem aL {e:PySem.Expr}{k}{P:PySem.Expr→Prop}(h:bJ e k=true)(f:∀a0 a1,k a0 a1=true→P (.Name a0 a1)):P e:=
 @PySem.Expr.casesOn (fun x=>bJ x k=true→P x) e g3 g3 g4 g3 g4 g4 g3 g3 g4 g4 g5 g4 g2 g2 g2 g4 g4 g4 g2 g3 g3 g3 g2 f g2 g3 g4 h
noncomputable def gg (e:PySem.Expr)(k:Const→Bool):Bool:=@PySem.Expr.casesOn (fun _=>Bool) e z3 z3 z4 z3 z4 z4 z3 z3 z4 z4 z5 z4 z2 z2 z2 z4 z4 z4 z2 (fun a0 a1 a2=>k a0) z3 z3 z2 z2 z2 z3 z4
@[elab_as_elim] theorem eG {e:PySem.Expr}{k}{P:PySem.Expr→Prop}(h:gg e k=true)(f:∀a0 a1 a2,k a0=true→P (.Constant a0 a1 a2)):P e:=
 @PySem.Expr.casesOn (fun x=>gg x k=true→P x) e g3 g3 g4 g3 g4 g4 g3 g3 g4 g4 g5 g4 g2 g2 g2 g4 g4 g4 g2 f g3 g3 g2 g2 g2 g3 g4 h
noncomputable def KV (e:PySem.Expr)(k:PySem.Expr→Operator→PySem.Expr→Bool):Bool:=@PySem.Expr.casesOn (fun _=>Bool) e z3 z3 (fun a0 a1 a2 a3=>k a0 a1 a2) z3 z4 z4 z3 z3 z4 z4 z5 z4 z2 z2 z2 z4 z4 z4 z2 z3 z3 z3 z2 z2 z2 z3 z4
@[elab_as_elim] theorem NJ {e:PySem.Expr}{k}{P:PySem.Expr→Prop}(h:KV e k=true)(f:∀a0 a1 a2 a3,k a0 a1 a2=true→P (.BinOp a0 a1 a2 a3)):P e:=
 @PySem.Expr.casesOn (fun x=>KV x k=true→P x) e g3 g3 f g3 g4 g4 g3 g3 g4 g4 g5 g4 g2 g2 g2 g4 g4 g4 g2 g3 g3 g3 g2 g2 g2 g3 g4 h
noncomputable def KY (e:PySem.Expr)(k:PySem.Expr→List CmpOp→List PySem.Expr→Bool):Bool:=@PySem.Expr.casesOn (fun _=>Bool) e z3 z3 z4 z3 z4 z4 z3 z3 z4 z4 z5 z4 z2 z2 z2 (fun a0 a1 a2 a3=>k a0 a1 a2) z4 z4 z2 z3 z3 z3 z2 z2 z2 z3 z4
@[elab_as_elim] theorem NL {e:PySem.Expr}{k}{P:PySem.Expr→Prop}(h:KY e k=true)(f:∀a0 a1 a2 a3,k a0 a1 a2=true→P (.Compare a0 a1 a2 a3)):P e:=
 @PySem.Expr.casesOn (fun x=>KY x k=true→P x) e g3 g3 g4 g3 g4 g4 g3 g3 g4 g4 g5 g4 g2 g2 g2 f g4 g4 g2 g3 g3 g3 g2 g2 g2 g3 g4 h
noncomputable def uB (e:PySem.Expr)(k:BoolOp→List PySem.Expr→Bool):Bool:=@PySem.Expr.casesOn (fun _=>Bool) e (fun a0 a1 a2=>k a0 a1) z3 z4 z3 z4 z4 z3 z3 z4 z4 z5 z4 z2 z2 z2 z4 z4 z4 z2 z3 z3 z3 z2 z2 z2 z3 z4
@[elab_as_elim] theorem Di {e:PySem.Expr}{k}{P:PySem.Expr→Prop}(h:uB e k=true)(f:∀a0 a1 a2,k a0 a1=true→P (.BoolOp a0 a1 a2)):P e:=
 @PySem.Expr.casesOn (fun x=>uB x k=true→P x) e f g3 g4 g3 g4 g4 g3 g3 g4 g4 g5 g4 g2 g2 g2 g4 g4 g4 g2 g3 g3 g3 g2 g2 g2 g3 g4 h
noncomputable def NV (e:PySem.Expr)(k:UnaryOp→PySem.Expr→Bool):Bool:=@PySem.Expr.casesOn (fun _=>Bool) e z3 z3 z4 (fun a0 a1 a2=>k a0 a1) z4 z4 z3 z3 z4 z4 z5 z4 z2 z2 z2 z4 z4 z4 z2 z3 z3 z3 z2 z2 z2 z3 z4
@[elab_as_elim] theorem Ld {e:PySem.Expr}{k}{P:PySem.Expr→Prop}(h:NV e k=true)(f:∀a0 a1 a2,k a0 a1=true→P (.UnaryOp a0 a1 a2)):P e:=
 @PySem.Expr.casesOn (fun x=>NV x k=true→P x) e g3 g3 g4 f g4 g4 g3 g3 g4 g4 g5 g4 g2 g2 g2 g4 g4 g4 g2 g3 g3 g3 g2 g2 g2 g3 g4 h
noncomputable def R5 (e:PySem.Expr)(k:PySem.Expr→PySem.Expr→PySem.Expr→Bool):Bool:=@PySem.Expr.casesOn (fun _=>Bool) e z3 z3 z4 z3 z4 (fun a0 a1 a2 a3=>k a0 a1 a2) z3 z3 z4 z4 z5 z4 z2 z2 z2 z4 z4 z4 z2 z3 z3 z3 z2 z2 z2 z3 z4
@[elab_as_elim] theorem NO {e:PySem.Expr}{k}{P:PySem.Expr→Prop}(h:R5 e k=true)(f:∀a0 a1 a2 a3,k a0 a1 a2=true→P (.IfExp a0 a1 a2 a3)):P e:=
 @PySem.Expr.casesOn (fun x=>R5 x k=true→P x) e g3 g3 g4 g3 g4 f g3 g3 g4 g4 g5 g4 g2 g2 g2 g4 g4 g4 g2 g3 g3 g3 g2 g2 g2 g3 g4 h
noncomputable def wV (e:PySem.Expr)(k:List PySem.Expr→Bool):Bool:=@PySem.Expr.casesOn (fun _=>Bool) e z3 z3 z4 z3 z4 z4 z3 z3 z4 z4 z5 z4 z2 z2 z2 z4 z4 z4 z2 z3 z3 z3 z2 z2 z2 (fun a0 a1 a2=>k a0) z4
@[elab_as_elim] theorem jJ {e:PySem.Expr}{k}{P:PySem.Expr→Prop}(h:wV e k=true)(f:∀a0 a1 a2,k a0=true→P (.Tuple a0 a1 a2)):P e:=
 @PySem.Expr.casesOn (fun x=>wV x k=true→P x) e g3 g3 g4 g3 g4 g4 g3 g3 g4 g4 g5 g4 g2 g2 g2 g4 g4 g4 g2 g3 g3 g3 g2 g2 g2 f g4 h
noncomputable def K6 (e:PySem.Expr)(k:List PySem.Expr→Bool):Bool:=@PySem.Expr.casesOn (fun _=>Bool) e z3 z3 z4 z3 z4 z4 z3 z3 z4 z4 z5 z4 z2 z2 z2 z4 z4 z4 z2 z3 z3 z3 z2 z2 (fun a0 a1=>k a0) z3 z4
@[elab_as_elim] theorem NP {e:PySem.Expr}{k}{P:PySem.Expr→Prop}(h:K6 e k=true)(f:∀a0 a1,k a0=true→P (.List a0 a1)):P e:=
 @PySem.Expr.casesOn (fun x=>K6 x k=true→P x) e g3 g3 g4 g3 g4 g4 g3 g3 g4 g4 g5 g4 g2 g2 g2 g4 g4 g4 g2 g3 g3 g3 g2 g2 f g3 g4 h
noncomputable def zC (e:PySem.Expr)(k:List (Option PySem.Expr)→List PySem.Expr→Bool):Bool:=@PySem.Expr.casesOn (fun _=>Bool) e z3 z3 z4 z3 z4 z4 (fun a0 a1 a2=>k a0 a1) z3 z4 z4 z5 z4 z2 z2 z2 z4 z4 z4 z2 z3 z3 z3 z2 z2 z2 z3 z4
@[elab_as_elim] theorem GP {e:PySem.Expr}{k}{P:PySem.Expr→Prop}(h:zC e k=true)(f:∀a0 a1 a2,k a0 a1=true→P (.Dict a0 a1 a2)):P e:=
 @PySem.Expr.casesOn (fun x=>zC x k=true→P x) e g3 g3 g4 g3 g4 g4 f g3 g4 g4 g5 g4 g2 g2 g2 g4 g4 g4 g2 g3 g3 g3 g2 g2 g2 g3 g4 h
noncomputable def wU (e:PySem.Expr)(k:PySem.Expr→PySem.Expr→Bool):Bool:=@PySem.Expr.casesOn (fun _=>Bool) e z3 z3 z4 z3 z4 z4 z3 z3 z4 z4 z5 z4 z2 z2 z2 z4 z4 z4 z2 z3 z3 (fun a0 a1 a2=>k a0 a1) z2 z2 z2 z3 z4
@[elab_as_elim] theorem ij {e:PySem.Expr}{k}{P:PySem.Expr→Prop}(h:wU e k=true)(f:∀a0 a1 a2,k a0 a1=true→P (.Subscript a0 a1 a2)):P e:=
 @PySem.Expr.casesOn (fun x=>wU x k=true→P x) e g3 g3 g4 g3 g4 g4 g3 g3 g4 g4 g5 g4 g2 g2 g2 g4 g4 g4 g2 g3 g3 f g2 g2 g2 g3 g4 h
noncomputable def pO (e:PySem.Expr)(k:Option PySem.Expr→Option PySem.Expr→Option PySem.Expr→Bool):Bool:=@PySem.Expr.casesOn (fun _=>Bool) e z3 z3 z4 z3 z4 z4 z3 z3 z4 z4 z5 z4 z2 z2 z2 z4 z4 z4 z2 z3 z3 z3 z2 z2 z2 z3 (fun a0 a1 a2 a3=>k a0 a1 a2)
@[elab_as_elim] theorem Do {e:PySem.Expr}{k}{P:PySem.Expr→Prop}(h:pO e k=true)(f:∀a0 a1 a2 a3,k a0 a1 a2=true→P (.Slice a0 a1 a2 a3)):P e:=
 @PySem.Expr.casesOn (fun x=>pO x k=true→P x) e g3 g3 g4 g3 g4 g4 g3 g3 g4 g4 g5 g4 g2 g2 g2 g4 g4 g4 g2 g3 g3 g3 g2 g2 g2 g3 f h
noncomputable def qo (e:PySem.Expr)(k:PySem.Expr→Str→Pos→Bool):Bool:=@PySem.Expr.casesOn (fun _=>Bool) e z3 z3 z4 z3 z4 z4 z3 z3 z4 z4 z5 z4 z2 z2 z2 z4 z4 z4 z2 z3 (fun a0 a1 a2=>k a0 a1 a2) z3 z2 z2 z2 z3 z4
@[elab_as_elim] theorem gQ {e:PySem.Expr}{k}{P:PySem.Expr→Prop}(h:qo e k=true)(f:∀a0 a1 a2,k a0 a1 a2=true→P (.Attribute a0 a1 a2)):P e:=
 @PySem.Expr.casesOn (fun x=>qo x k=true→P x) e g3 g3 g4 g3 g4 g4 g3 g3 g4 g4 g5 g4 g2 g2 g2 g4 g4 g4 g2 g3 f g3 g2 g2 g2 g3 g4 h
noncomputable def uD (e:PySem.Expr)(k:PySem.Expr→List PySem.Expr→List Keyword→Pos→Bool):Bool:=@PySem.Expr.casesOn (fun _=>Bool) e z3 z3 z4 z3 z4 z4 z3 z3 z4 z4 z5 z4 z2 z2 z2 z4 (fun a0 a1 a2 a3=>k a0 a1 a2 a3) z4 z2 z3 z3 z3 z2 z2 z2 z3 z4
@[elab_as_elim] theorem RV {e:PySem.Expr}{k}{P:PySem.Expr→Prop}(h:uD e k=true)(f:∀a0 a1 a2 a3,k a0 a1 a2 a3=true→P (.Call a0 a1 a2 a3)):P e:=
 @PySem.Expr.casesOn (fun x=>uD x k=true→P x) e g3 g3 g4 g3 g4 g4 g3 g3 g4 g4 g5 g4 g2 g2 g2 g4 f g4 g2 g3 g3 g3 g2 g2 g2 g3 g4 h
noncomputable def Dl (e:PySem.Expr)(k:PySem.Expr→List Comprehension→Scope→Bool):Bool:=@PySem.Expr.casesOn (fun _=>Bool) e z3 z3 z4 z3 z4 z4 z3 z3 (fun a0 a1 a2 a3=>k a0 a1 a2) z4 z5 z4 z2 z2 z2 z4 z4 z4 z2 z3 z3 z3 z2 z2 z2 z3 z4
@[elab_as_elim] theorem R6 {e:PySem.Expr}{k}{P:PySem.Expr→Prop}(h:Dl e k=true)(f:∀a0 a1 a2 a3,k a0 a1 a2=true→P (.ListComp a0 a1 a2 a3)):P e:=
 @PySem.Expr.casesOn (fun x=>Dl x k=true→P x) e g3 g3 g4 g3 g4 g4 g3 g3 f g4 g5 g4 g2 g2 g2 g4 g4 g4 g2 g3 g3 g3 g2 g2 g2 g3 g4 h
noncomputable def Dj (e:PySem.Expr)(k:PySem.Expr→PySem.Expr→List Comprehension→Scope→Pos→Bool):Bool:=@PySem.Expr.casesOn (fun _=>Bool) e z3 z3 z4 z3 z4 z4 z3 z3 z4 z4 (fun a0 a1 a2 a3 a4=>k a0 a1 a2 a3 a4) z4 z2 z2 z2 z4 z4 z4 z2 z3 z3 z3 z2 z2 z2 z3 z4
@[elab_as_elim] theorem RW {e:PySem.Expr}{k}{P:PySem.Expr→Prop}(h:Dj e k=true)(f:∀a0 a1 a2 a3 a4,k a0 a1 a2 a3 a4=true→P (.DictComp a0 a1 a2 a3 a4)):P e:=
 @PySem.Expr.casesOn (fun x=>Dj x k=true→P x) e g3 g3 g4 g3 g4 g4 g3 g3 g4 g4 f g4 g2 g2 g2 g4 g4 g4 g2 g3 g3 g3 g2 g2 g2 g3 g4 h
noncomputable def R7 (e:PySem.Expr)(k:Arguments→PySem.Expr→Scope→Bool):Bool:=@PySem.Expr.casesOn (fun _=>Bool) e z3 z3 z4 z3 (fun a0 a1 a2 a3=>k a0 a1 a2) z4 z3 z3 z4 z4 z5 z4 z2 z2 z2 z4 z4 z4 z2 z3 z3 z3 z2 z2 z2 z3 z4
@[elab_as_elim] theorem Zj {e:PySem.Expr}{k}{P:PySem.Expr→Prop}(h:R7 e k=true)(f:∀a0 a1 a2 a3,k a0 a1 a2=true→P (.Lambda a0 a1 a2 a3)):P e:=
 @PySem.Expr.casesOn (fun x=>R7 x k=true→P x) e g3 g3 g4 g3 f g4 g3 g3 g4 g4 g5 g4 g2 g2 g2 g4 g4 g4 g2 g3 g3 g3 g2 g2 g2 g3 g4 h
noncomputable def La (e:PySem.Expr)(k:Bool):Bool:=@PySem.Expr.casesOn (fun _=>Bool) e z3 z3 z4 z3 z4 z4 z3 z3 z4 z4 z5 z4 z2 z2 z2 z4 z4 z4 z2 z3 z3 z3 (fun a0 a1=>k) z2 z2 z3 z4
@[elab_as_elim] theorem afJ {e:PySem.Expr}{k}{P:PySem.Expr→Prop}(h:La e k=true)(f:∀a0 a1,k=true→P (.Starred a0 a1)):P e:=
 @PySem.Expr.casesOn (fun x=>La x k=true→P x) e g3 g3 g4 g3 g4 g4 g3 g3 g4 g4 g5 g4 g2 g2 g2 g4 g4 g4 g2 g3 g3 g3 f g2 g2 g3 g4 h
noncomputable def KU (e:PySem.Stmt)(k:List PySem.Expr→PySem.Expr→Pos→Bool):Bool:=@PySem.Stmt.casesOn (fun _=>Bool) e iu iu zu z2 z2 (fun a0 a1 a2=>k a0 a1 a2) z7 z4 z5 z5 z5 z4 z4 z3 z3 z3 z3 z5 z5 z3 z2 z4 z2 z2 z2 z1 z1 z1
@[elab_as_elim] theorem U5 {e:PySem.Stmt}{k}{P:PySem.Stmt→Prop}(h:KU e k=true)(f:∀a0 a1 a2,k a0 a1 a2=true→P (.Assign a0 a1 a2)):P e:=
 @PySem.Stmt.casesOn (fun x=>KU x k=true→P x) e g9 g9 yR g2 g2 f g7 g4 g5 g5 g5 g4 g4 g3 g3 g3 g3 g5 g5 g3 g2 g4 g2 g2 g2 g1 g1 g1 h
noncomputable def RT (e:PySem.Stmt)(k:PySem.Expr→Operator→PySem.Expr→Bool):Bool:=@PySem.Stmt.casesOn (fun _=>Bool) e iu iu zu z2 z2 z3 z7 (fun a0 a1 a2 a3=>k a0 a1 a2) z5 z5 z5 z4 z4 z3 z3 z3 z3 z5 z5 z3 z2 z4 z2 z2 z2 z1 z1 z1
@[elab_as_elim] theorem Zb {e:PySem.Stmt}{k}{P:PySem.Stmt→Prop}(h:RT e k=true)(f:∀a0 a1 a2 a3,k a0 a1 a2=true→P (.AugAssign a0 a1 a2 a3)):P e:=
 @PySem.Stmt.casesOn (fun x=>RT x k=true→P x) e g9 g9 yR g2 g2 g3 g7 f g5 g5 g5 g4 g4 g3 g3 g3 g3 g5 g5 g3 g2 g4 g2 g2 g2 g1 g1 g1 h
noncomputable def uE (e:PySem.Stmt)(k:PySem.Expr→Bool):Bool:=@PySem.Stmt.casesOn (fun _=>Bool) e iu iu zu z2 z2 z3 z7 z4 z5 z5 z5 z4 z4 z3 z3 z3 z3 z5 z5 z3 z2 z4 z2 z2 (fun a0 a1=>k a0) z1 z1 z1
@[elab_as_elim] theorem Dk {e:PySem.Stmt}{k}{P:PySem.Stmt→Prop}(h:uE e k=true)(f:∀a0 a1,k a0=true→P (.Expr a0 a1)):P e:=
 @PySem.Stmt.casesOn (fun x=>uE x k=true→P x) e g9 g9 yR g2 g2 g3 g7 g4 g5 g5 g5 g4 g4 g3 g3 g3 g3 g5 g5 g3 g2 g4 g2 g2 f g1 g1 g1 h
noncomputable def Zi (e:PySem.Stmt)(k:PySem.Expr→List PySem.Stmt→List PySem.Stmt→Bool):Bool:=@PySem.Stmt.casesOn (fun _=>Bool) e iu iu zu z2 z2 z3 z7 z4 z5 z5 z5 z4 (fun a0 a1 a2 a3=>k a0 a1 a2) z3 z3 z3 z3 z5 z5 z3 z2 z4 z2 z2 z2 z1 z1 z1
@[elab_as_elim] theorem ack {e:PySem.Stmt}{k}{P:PySem.Stmt→Prop}(h:Zi e k=true)(f:∀a0 a1 a2 a3,k a0 a1 a2=true→P (.If a0 a1 a2 a3)):P e:=
 @PySem.Stmt.casesOn (fun x=>Zi x k=true→P x) e g9 g9 yR g2 g2 g3 g7 g4 g5 g5 g5 g4 f g3 g3 g3 g3 g5 g5 g3 g2 g4 g2 g2 g2 g1 g1 g1 h
noncomputable def Dp (e:PySem.Stmt)(k:PySem.Expr→List PySem.Stmt→List PySem.Stmt→Bool):Bool:=@PySem.Stmt.casesOn (fun _=>Bool) e iu iu zu z2 z2 z3 z7 z4 z5 z5 z5 (fun a0 a1 a2 a3=>k a0 a1 a2) z4 z3 z3 z3 z3 z5 z5 z3 z2 z4 z2 z2 z2 z1 z1 z1
@[elab_as_elim] theorem Sf {e:PySem.Stmt}{k}{P:PySem.Stmt→Prop}(h:Dp e k=true)(f:∀a0 a1 a2 a3,k a0 a1 a2=true→P (.While a0 a1 a2 a3)):P e:=
 @PySem.Stmt.casesOn (fun x=>Dp x k=true→P x) e g9 g9 yR g2 g2 g3 g7 g4 g5 g5 g5 f g4 g3 g3 g3 g3 g5 g5 g3 g2 g4 g2 g2 g2 g1 g1 g1 h
noncomputable def RZ (e:PySem.Stmt)(k:PySem.Expr→PySem.Expr→List PySem.Stmt→List PySem.Stmt→Bool):Bool:=@PySem.Stmt.casesOn (fun _=>Bool) e iu iu zu z2 z2 z3 z7 z4 z5 (fun a0 a1 a2 a3 a4=>k a0 a1 a2 a3) z5 z4 z4 z3 z3 z3 z3 z5 z5 z3 z2 z4 z2 z2 z2 z1 z1 z1
@[elab_as_elim] theorem Zh {e:PySem.Stmt}{k}{P:PySem.Stmt→Prop}(h:RZ e k=true)(f:∀a0 a1 a2 a3 a4,k a0 a1 a2 a3=true→P (.For a0 a1 a2 a3 a4)):P e:=
 @PySem.Stmt.casesOn (fun x=>RZ x k=true→P x) e g9 g9 yR g2 g2 g3 g7 g4 g5 f g5 g4 g4 g3 g3 g3 g3 g5 g5 g3 g2 g4 g2 g2 g2 g1 g1 g1 h
noncomputable def K9 (e:PySem.Stmt)(k:Option PySem.Expr→Bool):Bool:=@PySem.Stmt.casesOn (fun _=>Bool) e iu iu zu (fun a0 a1=>k a0) z2 z3 z7 z4 z5 z5 z5 z4 z4 z3 z3 z3 z3 z5 z5 z3 z2 z4 z2 z2 z2 z1 z1 z1
@[elab_as_elim] theorem NU {e:PySem.Stmt}{k}{P:PySem.Stmt→Prop}(h:K9 e k=true)(f:∀a0 a1,k a0=true→P (.Return a0 a1)):P e:=
 @PySem.Stmt.casesOn (fun x=>K9 x k=true→P x) e g9 g9 yR f g2 g3 g7 g4 g5 g5 g5 g4 g4 g3 g3 g3 g3 g5 g5 g3 g2 g4 g2 g2 g2 g1 g1 g1 h
noncomputable def Lc (e:PySem.Stmt)(k:List PySem.Stmt→List ExceptHandler→List PySem.Stmt→List PySem.Stmt→Bool):Bool:=@PySem.Stmt.casesOn (fun _=>Bool) e iu iu zu z2 z2 z3 z7 z4 z5 z5 z5 z4 z4 z3 z3 z3 z3 (fun a0 a1 a2 a3 a4=>k a0 a1 a2 a3) z5 z3 z2 z4 z2 z2 z2 z1 z1 z1
@[elab_as_elim] theorem Vn {e:PySem.Stmt}{k}{P:PySem.Stmt→Prop}(h:Lc e k=true)(f:∀a0 a1 a2 a3 a4,k a0 a1 a2 a3=true→P (.Try a0 a1 a2 a3 a4)):P e:=
 @PySem.Stmt.casesOn (fun x=>Lc x k=true→P x) e g9 g9 yR g2 g2 g3 g7 g4 g5 g5 g5 g4 g4 g3 g3 g3 g3 f g5 g3 g2 g4 g2 g2 g2 g1 g1 g1 h
noncomputable def wT (e:PySem.Stmt)(k:Option PySem.Expr→Option PySem.Expr→Bool):Bool:=@PySem.Stmt.casesOn (fun _=>Bool) e iu iu zu z2 z2 z3 z7 z4 z5 z5 z5 z4 z4 z3 z3 z3 (fun a0 a1 a2=>k a0 a1) z5 z5 z3 z2 z4 z2 z2 z2 z1 z1 z1
@[elab_as_elim] theorem NT {e:PySem.Stmt}{k}{P:PySem.Stmt→Prop}(h:wT e k=true)(f:∀a0 a1 a2,k a0 a1=true→P (.Raise a0 a1 a2)):P e:=
 @PySem.Stmt.casesOn (fun x=>wT x k=true→P x) e g9 g9 yR g2 g2 g3 g7 g4 g5 g5 g5 g4 g4 g3 g3 g3 f g5 g5 g3 g2 g4 g2 g2 g2 g1 g1 g1 h
noncomputable def K3 (e:PySem.Stmt)(k:Str→Arguments→List PySem.Stmt→List PySem.Expr→Option PySem.Expr→List TypeParam→Scope→Option Scope→Str→Bool):Bool:=@PySem.Stmt.casesOn (fun _=>Bool) e (fun a0 a1 a2 a3 a4 a5 a6 a7 a8 a9=>k a0 a1 a2 a3 a4 a5 a6 a7 a8) iu zu z2 z2 z3 z7 z4 z5 z5 z5 z4 z4 z3 z3 z3 z3 z5 z5 z3 z2 z4 z2 z2 z2 z1 z1 z1
@[elab_as_elim] theorem U9 {e:PySem.Stmt}{k}{P:PySem.Stmt→Prop}(h:K3 e k=true)(f:∀a0 a1 a2 a3 a4 a5 a6 a7 a8 a9,k a0 a1 a2 a3 a4 a5 a6 a7 a8=true→P (.FunctionDef a0 a1 a2 a3 a4 a5 a6 a7 a8 a9)):P e:=
 @PySem.Stmt.casesOn (fun x=>K3 x k=true→P x) e f g9 yR g2 g2 g3 g7 g4 g5 g5 g5 g4 g4 g3 g3 g3 g3 g5 g5 g3 g2 g4 g2 g2 g2 g1 g1 g1 h
noncomputable def KW (e:PySem.Stmt)(k:Bool):Bool:=@PySem.Stmt.casesOn (fun _=>Bool) e iu iu zu z2 z2 z3 z7 z4 z5 z5 z5 z4 z4 z3 z3 z3 z3 z5 z5 z3 z2 z4 z2 z2 z2 z1 (fun a0=>k) z1
@[elab_as_elim] theorem U7 {e:PySem.Stmt}{k}{P:PySem.Stmt→Prop}(h:KW e k=true)(f:∀a0,k=true→P (.Break a0)):P e:=
 @PySem.Stmt.casesOn (fun x=>KW x k=true→P x) e g9 g9 yR g2 g2 g3 g7 g4 g5 g5 g5 g4 g4 g3 g3 g3 g3 g5 g5 g3 g2 g4 g2 g2 g2 g1 f g1 h
noncomputable def Dn (e:PySem.Stmt)(k:Bool):Bool:=@PySem.Stmt.casesOn (fun _=>Bool) e iu iu zu z2 z2 z3 z7 z4 z5 z5 z5 z4 z4 z3 z3 z3 z3 z5 z5 z3 z2 z4 z2 z2 z2 (fun a0=>k) z1 z1
@[elab_as_elim] theorem Sa {e:PySem.Stmt}{k}{P:PySem.Stmt→Prop}(h:Dn e k=true)(f:∀a0,k=true→P (.Pass a0)):P e:=
 @PySem.Stmt.casesOn (fun x=>Dn x k=true→P x) e g9 g9 yR g2 g2 g3 g7 g4 g5 g5 g5 g4 g4 g3 g3 g3 g3 g5 g5 g3 g2 g4 g2 g2 g2 f g1 g1 h
noncomputable def sD {α:Type}(l:List α)(b:Bool):Bool:=@List.casesOn α (fun _=>Bool) l b fun _ _=>false
noncomputable def iA {α:Type}(l:List α)(k:α→List α→Bool):Bool:=@List.casesOn α (fun _=>Bool) l false k
noncomputable def sG {α:Type}(l:List α)(k:α→Bool):Bool:=iA l fun x r=>sD r (k x)
noncomputable def on2 {α:Type}(l:List α)(k:α→α→Bool):Bool:=iA l fun x r=>sG r (k x)
noncomputable def cF {α:Type}(o:Option α)(k:α→Bool):Bool:=@Option.casesOn α (fun _=>Bool) o false k
noncomputable def gK {α:Type}(o:Option α)(b:Bool):Bool:=@Option.casesOn α (fun _=>Bool) o b fun _=>false
noncomputable def qd (o:BoolOp):Bool:=@BoolOp.casesOn (fun _=>Bool) o true false
noncomputable def Lb (c:Const)(k:Str→Bool):Bool:=@Const.casesOn (fun _=>Bool) c false (fun _=>false) (fun _=>false) (fun _=>false) (fun _ _=>false) k (fun _=>false) false
noncomputable def uA (c:Const)(k:Bool→Bool):Bool:=@Const.casesOn (fun _=>Bool) c false k (fun _=>false) (fun _=>false) (fun _ _=>false) (fun _=>false) (fun _=>false) false
noncomputable def uF (c:Const)(k:Int→Bool):Bool:=@Const.casesOn (fun _=>Bool) c false (fun _=>false) k (fun _=>false) (fun _ _=>false) (fun _=>false) (fun _=>false) false
section
variable {α:Type}{b:Bool}{P:List α→Prop}{O:Option α→Prop}
@[elab_as_elim] theorem d0 {l:List α}(h:sD l b=true)(f:b=true→P []):P l:=@List.casesOn α (fun l=>sD l b=true→P l) l f (fun _ _ h=>ff h) h
@[elab_as_elim] theorem cN {l:List α}{k}(h:iA l k=true)(f:∀x r,k x r=true→P (x::r)):P l:=@List.casesOn α (fun l=>iA l k=true→P l) l (fun h=>ff h) f h
@[elab_as_elim] theorem fE {l:List α}{k}(h:sG l k=true)(f:∀x,k x=true→P [x]):P l:=cN h fun x _ h=>d0 h (f x)
@[elab_as_elim] theorem RQ {l:List α}{k}(h:on2 l k=true)(f:∀x y,k x y=true→P [x,y]):P l:=cN h fun x _ h=>fE h (f x)
@[elab_as_elim] theorem gR {o:Option α}{k}(h:cF o k=true)(f:∀x,k x=true→O (some x)):O o:=@Option.casesOn α (fun o=>cF o k=true→O o) o (fun h=>ff h) f h
@[elab_as_elim] theorem fZ {o:Option α}(h:gK o b=true)(f:b=true→O none):O o:=@Option.casesOn α (fun o=>gK o b=true→O o) o f (fun _ h=>ff h) h
end
@[elab_as_elim] theorem UZ {o}{P:BoolOp→Prop}(h:qd o=true)(f:P .And):P o:=@BoolOp.casesOn (fun o=>qd o=true→P o) o (fun _=>f) (fun h=>ff h) h
@[elab_as_elim] theorem XY {o}{P:BoolOp→Prop}(h:(!qd o)=true)(f:P .Or):P o:=@BoolOp.casesOn (fun o=>(!qd o)=true→P o) o (fun h=>ff h) (fun _=>f) h
@[elab_as_elim] theorem Vm {c k}{P:Const→Prop}(h:Lb c k=true)(f:∀s,k s=true→P (.str s)):P c:=@Const.casesOn (fun c=>Lb c k=true→P c) c (fun h=>ff h) (fun _ h=>ff h) (fun _ h=>ff h) (fun _ h=>ff h) (fun _ _ h=>ff h) f (fun _ h=>ff h) (fun h=>ff h) h
@[elab_as_elim] theorem Dh {c k}{P:Const→Prop}(h:uA c k=true)(f:∀s,k s=true→P (.bool s)):P c:=@Const.casesOn (fun c=>uA c k=true→P c) c (fun h=>ff h) f (fun _ h=>ff h) (fun _ h=>ff h) (fun _ _ h=>ff h) (fun _ h=>ff h) (fun _ h=>ff h) (fun h=>ff h) h
@[elab_as_elim] theorem wR {c k}{P:Const→Prop}(h:uF c k=true)(f:∀s,k s=true→P (.int s)):P c:=@Const.casesOn (fun c=>uF c k=true→P c) c (fun h=>ff h) (fun _ h=>ff h) f (fun _ h=>ff h) (fun _ _ h=>ff h) (fun _ h=>ff h) (fun _ h=>ff h) (fun h=>ff h) h
theorem aS {a b:Bool}{P:Prop}(h:(a&&b)=true)(f:a=true→b=true→P):P:=@Bool.casesOn (fun a=>(a&&b)=true→(a=true→b=true→P)→P) a (fun h _=>ff h) (fun h f=>f rfl h) h f
theorem cG {a b c:Bool}{P:Prop}(h:(a&&b&&c)=true)(f:a=true→b=true→c=true→P):P:=aS h fun h z=>aS h fun x y=>f x y z
theorem sX {a b c d:Bool}{P:Prop}(h:(a&&b&&c&&d)=true)(f:a=true→b=true→c=true→d=true→P):P:=aS h fun h z=>cG h fun x y w=>f x y w z
theorem zP {a b c d e:Bool}{P:Prop}(h:(a&&b&&c&&d&&e)=true)(f:a=true→b=true→c=true→d=true→e=true→P):P:=aS h fun h z=>sX h fun x y w v=>f x y w v z
theorem jc {a b c d e g:Bool}{P:Prop}(h:(a&&b&&c&&d&&e&&g)=true)(f:a=true→b=true→c=true→d=true→e=true→g=true→P):P:=aS h fun h z=>zP h fun x y w v u=>f x y w v u z
@[elab_as_elim] theorem dW {α:Type}[BEq α][LawfulBEq α]{a b:α}{P:α→Prop}(h:(a==b)=true)(f:P a):P b:=eq_of_beq h▸f
@[elab_as_elim] theorem ck {α:Type}[BEq α][LawfulBEq α]{a b:α}{P:α→Prop}(h:(a==b)=true)(f:P b):P a:=(eq_of_beq h).symm▸f
theorem bz {b:Bool}(h:(!b)=true):b=false:=@Bool.casesOn (fun b=>(!b)=true→b=false) b (fun _=>rfl) (fun h=>ff h) h
noncomputable def KZ (e:PySem.Expr)(k:PySem.Expr→CmpOp→PySem.Expr→Bool):Bool:=KY e fun l os rs=>sG os fun o=>sG rs fun r=>k l o r
noncomputable def TQ (e:PySem.Expr)(k:PySem.Expr→CmpOp→CmpOp→PySem.Expr→PySem.Expr→Bool):Bool:=KY e fun l os rs=>on2 os fun o1 o2=>on2 rs fun m r=>k l o1 o2 m r
noncomputable def NN (e:PySem.Expr)(k:Str→Const→Bool):Bool:=zC e fun ks vs=>sG ks fun y=>cF y fun y=>bJ y fun x _=>sG vs fun v=>gg v fun c=>k x c
noncomputable def NM (e:PySem.Expr):Bool:=zC e fun ks vs=>sD ks (sD vs true)
noncomputable def Zv (e:PySem.Expr)(k:PySem.Expr→Option PySem.Expr→Option PySem.Expr→Bool):Bool:=wU e fun v j=>pO j fun l u s=>gK s (k v l u)
noncomputable def Zs (e:PySem.Expr)(k:PySem.Expr→Bool):Bool:=wU e fun v j=>pO j fun l u s=>gK l (gK u (cF s fun y=>NV y fun o z=>o== .USub&&gg z fun c=>uF c fun n=>n==1&&k v))
noncomputable def uC (e:PySem.Expr)(k:PySem.Expr→List PySem.Expr→Pos→Bool):Bool:=uD e fun f es ks p=>sD ks (k f es p)
noncomputable def K7 (e:PySem.Expr)(k:PySem.Expr→Str→Pos→List PySem.Expr→Pos→Bool):Bool:=uC e fun f es cp=>qo f fun v n ap=>k v n ap es cp
noncomputable def NK (e:PySem.Expr)(k:Str→Str→Pos→List PySem.Expr→Pos→Bool):Bool:=K7 e fun v n ap es cp=>bJ v fun x _=>k x n ap es cp
noncomputable def K0 (e:PySem.Expr)(k:PySem.Expr→PySem.Expr→PySem.Expr→List PySem.Expr→Int→Scope→Bool):Bool:=Dl e fun x gs s=>sG gs fun g=>k x g.target g.iter g.ifs g.is_async s
noncomputable def Za (e:PySem.Expr)(k:List PySem.Expr→Bool):Bool:=uB e fun o es=>qd o&&k es
noncomputable def ada (e:PySem.Expr)(k:List PySem.Expr→Bool):Bool:=uB e fun o es=>!qd o&&k es
noncomputable def Zo (e:PySem.Expr)(k:PySem.Expr→Bool):Bool:=NV e fun o x=>o== .Not&&k x
noncomputable def Zl (e:PySem.Expr)(k:PySem.Expr→Bool):Bool:=NV e fun o x=>o== .USub&&k x
noncomputable def TV (e:PySem.Expr)(k:Str→Str→Bool):Bool:=wV e fun es=>on2 es fun a b=>bJ a fun x _=>bJ b fun y _=>k x y
noncomputable def Zq (e:PySem.Expr)(k:Str→Bool):Bool:=KZ e fun l o r=>o== .Gt&&bJ l fun x _=>gg r fun c=>uF c fun n=>n==0&&k x
section
variable {e:PySem.Expr}{P:PySem.Expr→Prop}
@[elab_as_elim] theorem wQ {k}(h:KZ e k=true)(f:∀l o r p,k l o r=true→P (.Compare l [o] [r] p)):P e:=NL h fun l _ _ p h=>fE h fun o h=>fE h fun r=>f l o r p
@[elab_as_elim] theorem GN {k}(h:TQ e k=true)(f:∀l o1 o2 m r p,k l o1 o2 m r=true→P (.Compare l [o1,o2] [m,r] p)):P e:=NL h fun l _ _ p h=>RQ h fun o1 o2 h=>RQ h fun m r=>f l o1 o2 m r p
@[elab_as_elim] theorem RY {k}(h:NN e k=true)(f:∀x p c d p2 p3,k x c=true→P (.Dict [some (.Name x p)] [.Constant c d p2] p3)):P e:=
 GP h fun _ _ p3 h=>fE h fun _ h=>gR h fun _ h=>aL h fun x p h=>fE h fun _ h=>eG h fun c d p2=>f x p c d p2 p3
@[elab_as_elim] theorem RX (h:NM e=true)(f:∀p,P (.Dict [] [] p)):P e:=GP h fun _ _ p h=>d0 h fun h=>d0 h fun _=>f p
@[elab_as_elim] theorem Zw {k}(h:Zv e k=true)(f:∀v l u p q,k v l u=true→P (.Subscript v (.Slice l u none p) q)):P e:=ij h fun v _ q h=>Do h fun l u _ p h=>fZ h (f v l u p q)
@[elab_as_elim] theorem Zt {k}(h:Zs e k=true)(f:∀v d p1 p2 p3 p4,k v=true→P (.Subscript v (.Slice none none (some (.UnaryOp .USub (.Constant (.int 1) d p1) p2)) p3) p4)):P e:=
 ij h fun v _ p4 h=>Do h fun _ _ _ p3 h=>fZ h fun h=>fZ h fun h=>gR h fun _ h=>Ld h fun _ _ p2 h=>aS h fun e h=>ck e (eG h fun _ d p1 h=>wR h fun _ h=>aS h fun e h=>ck e (f v d p1 p2 p3 p4 h))
@[elab_as_elim] theorem jI {k}(h:uC e k=true)(f:∀g es p,k g es p=true→P (.Call g es [] p)):P e:=RV h fun g es _ p h=>d0 h (f g es p)
@[elab_as_elim] theorem wS {k}(h:K7 e k=true)(f:∀v n ap es cp,k v n ap es cp=true→P (.Call (.Attribute v n ap) es [] cp)):P e:=jI h fun _ es cp h=>gQ h fun v n ap=>f v n ap es cp
@[elab_as_elim] theorem RU {k}(h:NK e k=true)(f:∀x xp n ap es cp,k x n ap es cp=true→P (.Call (.Attribute (.Name x xp) n ap) es [] cp)):P e:=wS h fun _ n ap es cp h=>aL h fun x xp=>f x xp n ap es cp
@[elab_as_elim] theorem GO {k}(h:K0 e k=true)(f:∀x t i ifs a s p,k x t i ifs a s=true→P (.ListComp x [⟨t,i,ifs,a⟩] s p)):P e:=R6 h fun x _ s p h=>fE h fun⟨t,i,ifs,a⟩=>f x t i ifs a s p
@[elab_as_elim] theorem NH {k}(h:Za e k=true)(f:∀es p,k es=true→P (.BoolOp .And es p)):P e:=Di h fun _ es p h=>aS h fun e h=>UZ e (f es p h)
@[elab_as_elim] theorem TU {k}(h:ada e k=true)(f:∀es p,k es=true→P (.BoolOp .Or es p)):P e:=Di h fun _ es p h=>aS h fun e h=>XY e (f es p h)
@[elab_as_elim] theorem NQ {k}(h:Zo e k=true)(f:∀x p,k x=true→P (.UnaryOp .Not x p)):P e:=Ld h fun _ x p h=>aS h fun e h=>ck e (f x p h)
@[elab_as_elim] theorem Zm {k}(h:Zl e k=true)(f:∀x p,k x=true→P (.UnaryOp .USub x p)):P e:=Ld h fun _ x p h=>aS h fun e h=>ck e (f x p h)
@[elab_as_elim] theorem Vi {k}(h:TV e k=true)(f:∀x p1 y p2 c p3,k x y=true→P (.Tuple [.Name x p1,.Name y p2] c p3)):P e:=jJ h fun _ c p3 h=>RQ h fun _ _ h=>aL h fun x p1 h=>aL h fun y p2=>f x p1 y p2 c p3
@[elab_as_elim] theorem Zr {k}(h:Zq e k=true)(f:∀x p1 d p2 p3,k x=true→P (.Compare (.Name x p1) [.Gt] [.Constant (.int 0) d p2] p3)):P e:=
 wQ h fun _ _ _ p3 h=>aS h fun e h=>ck e (aL h fun x p1 h=>eG h fun _ d p2 h=>wR h fun _ h=>aS h fun e h=>ck e (f x p1 d p2 p3 h))
end
noncomputable def Zc (s:PySem.Stmt):Bool:=KW s true
noncomputable def TW (s:PySem.Stmt):Bool:=Dn s true
noncomputable def K4 (s:ExceptHandler)(k:Option PySem.Expr→Option Str→List PySem.Stmt→Bool):Bool:=@ExceptHandler.casesOn (fun _=>Bool) s fun a b c _=>k a b c
noncomputable def RS (s:PySem.Stmt)(k:PySem.Expr→PySem.Expr→Pos→Bool):Bool:=KU s fun ts v p=>sG ts fun t=>k t v p
noncomputable def KT (s:PySem.Stmt)(k:Str→Pos→PySem.Expr→Pos→Bool):Bool:=RS s fun t v pos=>bJ t fun x p=>k x p v pos
noncomputable def TN (s:PySem.Stmt)(k:Str→Operator→PySem.Expr→Bool):Bool:=RT s fun t o v=>bJ t fun x _=>k x o v
noncomputable def Zz (s:PySem.Stmt)(k:PySem.Expr→Str→Bool→Bool):Bool:=Lc s fun a b c d=>sD c (sD d (sG a fun a=>uE a fun v=>sG b fun b=>K4 b fun t n r=>cF t fun t=>bJ t fun x _=>gK n (sG r fun r=>K9 r fun y=>cF y fun y=>gg y fun c=>uA c fun b'=>k v x b')))
noncomputable def onRaise (s:PySem.Stmt)(k:Str→Str→Bool):Bool:=wT s fun a b=>gK b (cF a fun a=>uC a fun f es _=>bJ f fun x _=>sG es fun y=>gg y fun c=>Lb c fun m=>k x m)
noncomputable def Ze (s:PySem.Stmt)(k:Str→Arguments→List PySem.Stmt→Scope→Str→Bool):Bool:=K3 s fun a b c d e f g i j=>sD d (gK e (sD f (gK i (k a b c g j))))
noncomputable def TR (s:PySem.Stmt)(k:Str→Pos→Str→Str→Str→Str→Str→PySem.Expr→Str→Scope→Pos→Bool):Bool:=
 KT s fun x p v _=>Dj v fun ka va gs sc vp=>bJ ka fun na _=>bJ va fun nb _=>sG gs fun g=>TV g.target fun PN PO=>uC g.iter fun en fV _=>bJ en fun yQ _=>sG fV fun it=>sG g.ifs fun c=>Zq c fun BG=>(g.is_async==0)&&k x p na nb PN PO yQ it BG sc vp
section
variable {s:PySem.Stmt}{P:PySem.Stmt→Prop}
@[elab_as_elim] theorem Ve {s}{k}{P:ExceptHandler→Prop}(h:K4 s k=true)(f:∀a b c p,k a b c=true→P (.ExceptHandler a b c p)):P s:=@ExceptHandler.casesOn (fun s=>K4 s k=true→P s) s f h
@[elab_as_elim] theorem Zd (h:Zc s=true)(f:∀p,P (.Break p)):P s:=U7 h fun p _=>f p
@[elab_as_elim] theorem Vj (h:TW s=true)(f:∀p,P (.Pass p)):P s:=Sa h fun p _=>f p
@[elab_as_elim] theorem NI {k}(h:RS s k=true)(f:∀t v p,k t v p=true→P (.Assign [t] v p)):P s:=U5 h fun _ v p h=>fE h fun t=>f t v p
@[elab_as_elim] theorem GM {k}(h:KT s k=true)(f:∀x p v pos,k x p v pos=true→P (.Assign [.Name x p] v pos)):P s:=NI h fun _ v pos h=>aL h fun x p=>f x p v pos
@[elab_as_elim] theorem U6 {k}(h:TN s k=true)(f:∀x xp o v p,k x o v=true→P (.AugAssign (.Name x xp) o v p)):P s:=Zb h fun _ o v p h=>aL h fun x xp=>f x xp o v p
@[elab_as_elim] theorem ZA {k}(h:Zz s k=true)(f:∀v p1 x p2 b' d p3 p4 p5 p6,k v x b'=true→P (.Try [.Expr v p1] [(.ExceptHandler (some (.Name x p2)) none [.Return (some (.Constant (.bool b') d p3)) p4] p5)] [] [] p6)):P s:=
 Vn h fun _ _ _ _ p6 h=>d0 h fun h=>d0 h fun h=>fE h fun _ h=>Dk h fun v p1 h=>fE h fun _ h=>Ve h fun _ _ _ p5 h=>gR h fun _ h=>aL h fun x p2 h=>fZ h fun h=>fE h fun _ h=>NU h fun _ p4 h=>gR h fun _ h=>eG h fun _ d p3 h=>Dh h fun b'=>f v p1 x p2 b' d p3 p4 p5 p6
@[elab_as_elim] theorem Sc {k}(h:onRaise s k=true)(f:∀x np m d cp p0 p1,k x m=true→P (.Raise (some (.Call (.Name x np) [.Constant (.str m) d cp] [] p0)) none p1)):P s:=
 NT h fun _ _ p1 h=>fZ h fun h=>gR h fun _ h=>jI h fun _ _ p0 h=>aL h fun x np h=>fE h fun _ h=>eG h fun _ d cp h=>Vm h fun m=>f x np m d cp p0 p1
@[elab_as_elim] theorem Zf {k}(h:Ze s k=true)(f:∀nm args b sc bind p,k nm args b sc bind=true→P (.FunctionDef nm args b [] none [] sc none bind p)):P s:=
 U9 h fun a b c _ _ _ g _ j p h=>d0 h fun h=>fZ h fun h=>d0 h fun h=>fZ h (f a b c g j p)
@[elab_as_elim] theorem Vh {k}(h:TR s k=true)(f:∀x p na p1 nb p2 PN p3 PO p4 k1 p5 yQ p6 it p7 BG p8 k2 p9 sJ sc vp pos,k x p na nb PN PO yQ it BG sc vp=true→
  P (.Assign [.Name x p] (.DictComp (.Name na p1) (.Name nb p2) [⟨.Tuple [.Name PN p3,.Name PO p4] k1 p5,.Call (.Name yQ p6) [it] [] p7,[.Compare (.Name BG p8) [.Gt] [.Constant (.int 0) k2 p9] sJ],0⟩] sc vp) pos)):P s:=
 GM h fun x p _ pos h=>RW h fun _ _ _ sc vp h=>aL h fun na p1 h=>aL h fun nb p2 h=>fE h fun⟨t,i,ifs,a⟩ h=>Vi (e:=t) h fun PN p3 PO p4 k1 p5 h=>jI (e:=i) h fun _ _ p7 h=>aL h fun yQ p6 h=>fE h fun it h=>fE (l:=ifs) h fun _ h=>Zr h fun BG p8 k2 p9 sJ h=>
  aS h fun e h=>ck (a:=a) e (f x p na p1 nb p2 PN p3 PO p4 k1 p5 yQ p6 it p7 BG p8 k2 p9 sJ sc vp pos h)
end
section
set_option genSizeOf false
set_option genInjectivity false
set_option backward.match.sparseCases false
inductive AV where
 | none
 | bool (b:Bool)
 | int (i:Int)
 | str (s:String)
 | bytes (l:List Int)
 | ref (a:Addr)
 | con (v:Value)
 | tup (l:List AV)
 | lst (l:List AV)
 | dC (l:List (Int×AV))
 | obj (C:Addr) (fs:List (String×AV))
 | uN (lo hi:Int)
inductive VK where
 | loc (x:Str)
 | bF (x:Str)
 | c9 (x:Str)
 | ar (x:Str)
 | jz
 | xR
mutual
inductive MX where
 | var (i:Nat)
 | bb (i:Nat)
 | glob (j:Nat) (v:AV)
 | lit (v:AV)
 | bin (op:Operator) (a b:MX)
 | cmp (op:CmpOp) (a b:MX)
 | rl (o1 o2:CmpOp) (a b c:MX)
 | and (l:bA)
 | or (l:bA)
 | not (a:MX)
 | neg (a:MX)
 | ite (c a b:MX)
 | tup (l:bA)
 | lst (l:bA)
 | gx (l:bA)
 | eK
 | wz (i:Nat) (v:AV)
 | rn (op:Operator) (a b:MX)
 | E3 (a:MX)
 | idx (a i:MX)
 | sL (a lo hi:MX)
 | absent
 | rev (a:MX)
 | attr (a:MX) (nm:String)
 | call (f:MX) (args:bA)
 | aJ (a:MX) (nm:String) (args:bA)
 | wo (j:Nat) (C:Addr) (nm:String) (f:Addr) (args:bA)
 | comp (elt:MX) (nms:List Str) (tg:MT) (it:MX) (bk:bA)
 | lam (aQ:List (Str×Nat)) (ps:List Str) (vt:List VK) (body:MX)
inductive bA where
 | nil
 | cons (a:MX) (r:bA)
inductive MT where
 | var (i:Nat)
 | bb (i:Nat)
 | tup (l:qr)
 | idx (a i:MX)
 | attr (a:MX) (nm:String)
inductive qr where
 | nil
 | cons (a:MT) (r:qr)
end
noncomputable def qr.len:qr→Nat
 | .nil=>0
 | .cons _ r=>r.len+1
mutual
inductive MS where
 | asg (t:MT) (e:MX)
 | xA (i:Nat) (elt:MX) (nms:List Str) (tg:MT) (it:MX) (bk:bA)
 | aug (i:Nat) (op:Operator) (e:MX)
 | expr (e:MX)
 | ce (c:MX) (a b:ah)
 | di (c:MX) (b:ah)
 | cV (t:MT) (it:MX) (b:ah)
 | ret (e:MX)
 | brk
 | pass
 | gy (j:Nat) (C:Addr) (m:String)
 | On (e:MX) (j:Nat) (C:Addr) (b:Bool)
 | Nc (i j:Nat) (e:MX)
 | defn (i:Nat) (aQ:List (Str×Nat)) (ps:List Str) (vt:List VK) (body:ah)
inductive ah where
 | nil
 | cons (a:MS) (r:ah)
end
inductive zH where
 | expr (ps:List Str) (vt:List VK) (body:MX)
 | stmts (ps:List Str) (vt:List VK) (body:ah)
inductive AO where
 | list (xs:List AV)
 | dict (kvs:List (Int×AV))
 | inst (C dx:Addr)
 | attrs (fs:List (String×AV))
 | cell (v:Option AV)
 | func (f:zH) (aQ:List (Str×Addr))
 | tab
 | ns
 | it
noncomputable def AO.kept (o:AO):Bool:=@AO.casesOn (fun _=>Bool) o z1 z1 z2 z1 z1 z2 true true true
noncomputable abbrev AH:=Addr→Option AO
noncomputable def AH.set (H:AH)(a:Addr)(o:AO):AH:=fun b=>if b=a then some o else H b
noncomputable def AH.drop (H:AH)(a:Addr):AH:=fun b=>if b=a then none else H b
noncomputable def Sub (H H':AH):Prop:=∀a o,o.kept=false→H a=some o→H' a=some o
theorem AH.ag (H:AH)(a:Addr)(o:AO):H.set a o a=some o:=if_pos rfl
theorem AH.ae (H:AH){a b:Addr}(o:AO)(h:b≠a):H.set a o b=H b:=if_neg h
theorem Sub.refl (H:AH):Sub H H:=fun _ _ _ h=>h
theorem Sub.trans {H H' cb:AH}(x:Sub H H')(y:Sub H' cb):Sub H cb:=fun a o n h=>y a o n (x a o n h)
theorem GV {H:AH}{a b:Addr}{o ob:AO}(h:H a=none)(e:H b=some ob):H.set a o b=some ob:=(AH.ae H o fun z=>nomatch (z▸e).symm.trans h).trans e
theorem Sub.ci {H:AH}{a:Addr}{o:AO}(h:H a=none):Sub H (H.set a o):=fun _ _ _ e=>GV h e
noncomputable def jK:Value→Bool
 | .type _=>true
 | .builtin _=>true
 | _=>false
mutual
inductive aj (Z:Program)(w:World)(H:AH)(h:Heap):AV→Value→Prop
 | none:aj Z w H h .none .none
 | bool {b}:aj Z w H h (.bool b) (.bool b)
 | int {i t}:aj Z w H h (.int i) (.int i t)
 | str {s t}:aj Z w H h (.str s) (.str (Str.ofString s) t)
 | bytes {l b t}:b.toList.map (fun x=>(x.toNat:Int))=l→aj Z w H h (.bytes l) (.bytes b t)
 | ref {a}:aj Z w H h (.ref a) (.ref a)
 | con {v}:jK v=true→aj Z w H h (.con v) v
 | tup {l a o n vs}:h.get? a=some o→o.cls= .type "tuple"→o.data= .seq vs n→H a=none→am Z w H h l vs.toList→aj Z w H h (.tup l) (.ref a)
 | lst {l a o n vs}:h.get? a=some o→o.cls= .type "list"→o.data= .seq vs n→o.dict=none→H a=none→am Z w H h l vs.toList→aj Z w H h (.lst l) (.ref a)
 | dC {l a kvs}:(a==sysModules)=false→h.DictOf (intKind Z w) a kvs→H a=none→aG Z w H h l kvs→aj Z w H h (.dC l) (.ref a)
 | uN {lo hi a t u v}:h.get? a=some {cls:= .type "range",dict:=none,data:= .fields #[.int lo t,.int hi u,.int 1 v],slots:=#[]}→H a=none→aj Z w H h (.uN lo hi) (.ref a)
 | obj {C fs a dx es n}:h.get? a=some (instObj C dx)→H a=none→h.get? dx=some (dictOf es n)→H dx=none→bd Z w H h fs es→aj Z w H h (.obj C fs) (.ref a)
inductive am (Z:Program)(w:World)(H:AH)(h:Heap):List AV→List Value→Prop
 | nil:am Z w H h [] []
 | cons {x v xs vs}:aj Z w H h x v→am Z w H h xs vs→am Z w H h (x::xs) (v::vs)
inductive aG (Z:Program)(w:World)(H:AH)(h:Heap):List (Int×AV)→List (Int×Value)→Prop
 | nil:aG Z w H h [] []
 | cons {k x v xs vs}:aj Z w H h x v→aG Z w H h xs vs→aG Z w H h ((k,x)::xs) ((k,v)::vs)
inductive bd (Z:Program)(w:World)(H:AH)(h:Heap):List (String×AV)→List DictEntry→Prop
 | nil:bd Z w H h [] []
 | cons {k x v t hs xs vs}:aj Z w H h x v→bd Z w H h xs vs→bd Z w H h ((k,x)::xs) (⟨hs,.str (Str.ofString k) t,v⟩::vs)
end
section
variable {Z:Program}{w:World}{H H':AH}{h h':Heap}
noncomputable def bc (H:AH)(h:Heap)(H':AH)(h':Heap):Prop:=∀a o,H a=none→h.get? a=some o→H' a=none∧h'.get? a=some o
theorem eJ {a:Addr}{kvs:List (Int×Value)}(k:bc H h H' h')(hd:h.DictOf (intKind Z w) a kvs)(hn:H a=none):h'.DictOf (intKind Z w) a kvs∧H' a=none:=let⟨o,es,ep,ho,q⟩:=hd;⟨⟨o,es,ep,(k _ _ hn ho).2,q⟩,(k _ _ hn ho).1⟩
theorem aj.mono (k:bc H h H' h'){x v}(V:aj Z w H h x v):aj Z w H' h' x v:=aj.rec (motive_1:=fun x v _=>aj Z w H' h' x v) (motive_2:=fun x v _=>am Z w H' h' x v) (motive_3:=fun x v _=>aG Z w H' h' x v) (motive_4:=fun x v _=>bd Z w H' h' x v) .none .bool .int .str .bytes .ref .con
 (fun ho hc hd hn _ r=>.tup (k _ _ hn ho).2 hc hd (k _ _ hn ho).1 r) (fun ho hc hd hp hn _ r=>.lst (k _ _ hn ho).2 hc hd hp (k _ _ hn ho).1 r) (fun hs hd hn _ r=>.dC hs (eJ k hd hn).1 (eJ k hd hn).2 r)
 (fun ho hn=>.uN (k _ _ hn ho).2 (k _ _ hn ho).1) (fun ho hn hd wB _ r=>.obj (k _ _ hn ho).2 (k _ _ hn ho).1 (k _ _ wB hd).2 (k _ _ wB hd).1 r) .nil (fun _ _ a b=>.cons a b) .nil (fun _ _ a b=>.cons a b) .nil (fun _ _ a b=>.cons a b) V
theorem am.mono (k:bc H h H' h'){x v}(V:am Z w H h x v):am Z w H' h' x v:=am.rec (motive_1:=fun x v _=>aj Z w H' h' x v) (motive_2:=fun x v _=>am Z w H' h' x v) (motive_3:=fun x v _=>aG Z w H' h' x v) (motive_4:=fun x v _=>bd Z w H' h' x v) .none .bool .int .str .bytes .ref .con
 (fun ho hc hd hn _ r=>.tup (k _ _ hn ho).2 hc hd (k _ _ hn ho).1 r) (fun ho hc hd hp hn _ r=>.lst (k _ _ hn ho).2 hc hd hp (k _ _ hn ho).1 r) (fun hs hd hn _ r=>.dC hs (eJ k hd hn).1 (eJ k hd hn).2 r)
 (fun ho hn=>.uN (k _ _ hn ho).2 (k _ _ hn ho).1) (fun ho hn hd wB _ r=>.obj (k _ _ hn ho).2 (k _ _ hn ho).1 (k _ _ wB hd).2 (k _ _ wB hd).1 r) .nil (fun _ _ a b=>.cons a b) .nil (fun _ _ a b=>.cons a b) .nil (fun _ _ a b=>.cons a b) V
theorem aG.mono (k:bc H h H' h'){x v}(V:aG Z w H h x v):aG Z w H' h' x v:=aG.rec (motive_1:=fun x v _=>aj Z w H' h' x v) (motive_2:=fun x v _=>am Z w H' h' x v) (motive_3:=fun x v _=>aG Z w H' h' x v) (motive_4:=fun x v _=>bd Z w H' h' x v) .none .bool .int .str .bytes .ref .con
 (fun ho hc hd hn _ r=>.tup (k _ _ hn ho).2 hc hd (k _ _ hn ho).1 r) (fun ho hc hd hp hn _ r=>.lst (k _ _ hn ho).2 hc hd hp (k _ _ hn ho).1 r) (fun hs hd hn _ r=>.dC hs (eJ k hd hn).1 (eJ k hd hn).2 r)
 (fun ho hn=>.uN (k _ _ hn ho).2 (k _ _ hn ho).1) (fun ho hn hd wB _ r=>.obj (k _ _ hn ho).2 (k _ _ hn ho).1 (k _ _ wB hd).2 (k _ _ wB hd).1 r) .nil (fun _ _ a b=>.cons a b) .nil (fun _ _ a b=>.cons a b) .nil (fun _ _ a b=>.cons a b) V
theorem bd.mono (k:bc H h H' h'){x v}(V:bd Z w H h x v):bd Z w H' h' x v:=bd.rec (motive_1:=fun x v _=>aj Z w H' h' x v) (motive_2:=fun x v _=>am Z w H' h' x v) (motive_3:=fun x v _=>aG Z w H' h' x v) (motive_4:=fun x v _=>bd Z w H' h' x v) .none .bool .int .str .bytes .ref .con
 (fun ho hc hd hn _ r=>.tup (k _ _ hn ho).2 hc hd (k _ _ hn ho).1 r) (fun ho hc hd hp hn _ r=>.lst (k _ _ hn ho).2 hc hd hp (k _ _ hn ho).1 r) (fun hs hd hn _ r=>.dC hs (eJ k hd hn).1 (eJ k hd hn).2 r)
 (fun ho hn=>.uN (k _ _ hn ho).2 (k _ _ hn ho).1) (fun ho hn hd wB _ r=>.obj (k _ _ hn ho).2 (k _ _ hn ho).1 (k _ _ wB hd).2 (k _ _ wB hd).1 r) .nil (fun _ _ a b=>.cons a b) .nil (fun _ _ a b=>.cons a b) .nil (fun _ _ a b=>.cons a b) V
noncomputable def VD (Z:Program)(w:World)(H:AH)(h:Heap)(x:AV)(P:Value→Prop)(v:Value):Prop:=@AV.casesOn (fun _=>Prop) x
 (P .none→P v) (fun b=>P (.bool b)→P v) (fun i=>(∀t,P (.int i t))→P v) (fun s=>(∀t,P (.str (Str.ofString s) t))→P v) (fun l=>(∀b t,b.toList.map (fun x=>(x.toNat:Int))=l→P (.bytes b t))→P v)
 (fun a=>P (.ref a)→P v) (fun c=>(jK c=true→P c)→P v)
 (fun l=>(∀a o n vs,h.get? a=some o→o.cls= .type "tuple"→o.data= .seq vs n→H a=none→am Z w H h l vs.toList→P (.ref a))→P v)
 (fun l=>(∀a o n vs,h.get? a=some o→o.cls= .type "list"→o.data= .seq vs n→o.dict=none→H a=none→am Z w H h l vs.toList→P (.ref a))→P v)
 (fun l=>(∀a kvs,(a==sysModules)=false→h.DictOf (intKind Z w) a kvs→H a=none→aG Z w H h l kvs→P (.ref a))→P v)
 (fun C fs=>(∀a dx es n,h.get? a=some (instObj C dx)→H a=none→h.get? dx=some (dictOf es n)→H dx=none→bd Z w H h fs es→P (.ref a))→P v)
 (fun lo hi=>(∀a t u v,h.get? a=some {cls:= .type "range",dict:=none,data:= .fields #[.int lo t,.int hi u,.int 1 v],slots:=#[]}→H a=none→P (.ref a))→P v)
theorem aj.inv {x v}(V:aj Z w H h x v){P:Value→Prop}:VD Z w H h x P v:=aj.casesOn (motive_1:=fun x v _=>VD Z w H h x P v) V (fun k=>k) (fun k=>k) (fun k=>k _) (fun k=>k _) (fun e k=>k _ _ e) (fun k=>k) (fun e k=>k e)
 (fun a b c d e k=>k _ _ _ _ a b c d e) (fun a b c d e f k=>k _ _ _ _ a b c d e f) (fun a b c d k=>k _ _ a b c d) (fun a b k=>k _ _ _ _ a b) (fun a b c d e k=>k _ _ _ _ a b c d e)
noncomputable def VsD (Z:Program)(w:World)(H:AH)(h:Heap)(l:List AV)(P:List Value→Prop)(v:List Value):Prop:=@List.casesOn AV (fun _=>Prop) l (P []→P v) fun x xs=>(∀v vs,aj Z w H h x v→am Z w H h xs vs→P (v::vs))→P v
theorem am.inv {x v}(V:am Z w H h x v){P:List Value→Prop}:VsD Z w H h x P v:=am.casesOn (motive_2:=fun x v _=>VsD Z w H h x P v) V (fun k=>k) fun a b k=>k _ _ a b
noncomputable def KsD (Z:Program)(w:World)(H:AH)(h:Heap)(l:List (Int×AV))(P:List (Int×Value)→Prop)(v:List (Int×Value)):Prop:=@List.casesOn _ (fun _=>Prop) l (P []→P v) fun x xs=>(∀v vs,aj Z w H h x.2 v→aG Z w H h xs vs→P ((x.1,v)::vs))→P v
theorem aG.inv {x v}(V:aG Z w H h x v){P:List (Int×Value)→Prop}:KsD Z w H h x P v:=aG.casesOn (motive_3:=fun x v _=>KsD Z w H h x P v) V (fun k=>k) fun a b k=>k _ _ a b
noncomputable def FsD (Z:Program)(w:World)(H:AH)(h:Heap)(l:List (String×AV))(P:List DictEntry→Prop)(v:List DictEntry):Prop:=@List.casesOn _ (fun _=>Prop) l (P []→P v) fun x xs=>(∀hs t v vs,aj Z w H h x.2 v→bd Z w H h xs vs→P (⟨hs,.str (Str.ofString x.1) t,v⟩::vs))→P v
theorem bd.inv {x v}(V:bd Z w H h x v){P:List DictEntry→Prop}:FsD Z w H h x P v:=bd.casesOn (motive_4:=fun x v _=>FsD Z w H h x P v) V (fun k=>k) fun a b k=>k _ _ _ _ a b
@[elab_as_elim] theorem aG.cn {vs}{L:List (Int×Value)→Prop}(V:aG Z w H h [] vs)(k:L []):L vs:=V.inv k
@[elab_as_elim] theorem aG.bn {x xs vs}{L:List (Int×Value)→Prop}(V:aG Z w H h (x::xs) vs)(k:∀v vs,aj Z w H h x.2 v→aG Z w H h xs vs→L ((x.1,v)::vs)):L vs:=V.inv k
@[elab_as_elim] theorem bd.cn {vs}{L:List DictEntry→Prop}(V:bd Z w H h [] vs)(k:L []):L vs:=V.inv k
@[elab_as_elim] theorem bd.bn {x xs vs}{L:List DictEntry→Prop}(V:bd Z w H h (x::xs) vs)(k:∀hs t v vs,aj Z w H h x.2 v→bd Z w H h xs vs→L (⟨hs,.str (Str.ofString x.1) t,v⟩::vs)):L vs:=V.inv k
section
variable {v:Value}{vs:List Value}{P:Value→Prop}{L:List Value→Prop}
@[elab_as_elim] theorem aj.wP (V:aj Z w H h .none v)(k:P .none):P v:=V.inv k
@[elab_as_elim] theorem aj.WI {b}(V:aj Z w H h (.bool b) v)(k:P (.bool b)):P v:=V.inv k
@[elab_as_elim] theorem aj.dT {i}(V:aj Z w H h (.int i) v)(k:∀t,P (.int i t)):P v:=V.inv k
@[elab_as_elim] theorem aj.tc {l}(V:aj Z w H h (.bytes l) v)(k:∀b t,b.toList.map (fun x=>(x.toNat:Int))=l→P (.bytes b t)):P v:=V.inv k
@[elab_as_elim] theorem aj.im {a}(V:aj Z w H h (.ref a) v)(k:P (.ref a)):P v:=V.inv k
@[elab_as_elim] theorem aj.agd {c}(V:aj Z w H h (.con c) v)(k:jK c=true→P c):P v:=V.inv k
@[elab_as_elim] theorem aj.G4 {l}(V:aj Z w H h (.tup l) v)(k:∀a o n vs,h.get? a=some o→o.cls= .type "tuple"→o.data= .seq vs n→H a= .none→am Z w H h l vs.toList→P (.ref a)):P v:=V.inv k
@[elab_as_elim] theorem aj.uo {l}(V:aj Z w H h (.lst l) v)(k:∀a o n vs,h.get? a=some o→o.cls= .type "list"→o.data= .seq vs n→o.dict= .none→H a= .none→am Z w H h l vs.toList→P (.ref a)):P v:=V.inv k
@[elab_as_elim] theorem aj.W8 {l}(V:aj Z w H h (.dC l) v)(k:∀a kvs,(a==sysModules)=false→h.DictOf (intKind Z w) a kvs→H a= .none→aG Z w H h l kvs→P (.ref a)):P v:=V.inv k
@[elab_as_elim] theorem aj.objE {C fs}(V:aj Z w H h (.obj C fs) v)(k:∀a dx es n,h.get? a=some (instObj C dx)→H a= .none→h.get? dx=some (dictOf es n)→H dx= .none→bd Z w H h fs es→P (.ref a)):P v:=V.inv k
@[elab_as_elim] theorem aj.aib {lo hi}(V:aj Z w H h (.uN lo hi) v)(k:∀a t u v,h.get? a=some {cls:= .type "range",dict:= .none,data:= .fields #[.int lo t,.int hi u,.int 1 v],slots:=#[]}→H a= .none→P (.ref a)):P v:=V.inv k
@[elab_as_elim] theorem am.cn (V:am Z w H h [] vs)(k:L []):L vs:=V.inv k
@[elab_as_elim] theorem am.bn {x xs}(V:am Z w H h (x::xs) vs)(k:∀v vs,aj Z w H h x v→am Z w H h xs vs→L (v::vs)):L vs:=V.inv k
end
theorem bc.refl:bc H h H h:=fun _ _ a b=>⟨a,b⟩
theorem bc.trans {cb:AH}{yS:Heap}(x:bc H h H' h')(y:bc H' h' cb yS):bc H h cb yS:=fun a o hn ho=>y a o (x a o hn ho).1 (x a o hn ho).2
end
noncomputable def Tc (a:AV)(k:Int→Bool):Bool:=@AV.casesOn (fun _=>Bool) a false z1 k z1 z1 z1 z1 z1 z1 z1 z2 z2
noncomputable def ZI (a:AV)(k:Addr→Bool):Bool:=@AV.casesOn (fun _=>Bool) a false z1 z1 z1 z1 k z1 z1 z1 z1 z2 z2
noncomputable def W7 (a:AV)(k:Value→Bool):Bool:=@AV.casesOn (fun _=>Bool) a false z1 z1 z1 z1 z1 k z1 z1 z1 z2 z2
section
variable {a:AV}{P:AV→Prop}
@[elab_as_elim] theorem Td {k}(h:Tc a k=true)(f:∀i,k i=true→P (.int i)):P a:=@AV.casesOn (fun a=>Tc a k=true→P a) a (fun h=>ff h) g1 f g1 g1 g1 g1 g1 g1 g1 g2 g2 h
@[elab_as_elim] theorem acv {k}(h:ZI a k=true)(f:∀i,k i=true→P (.ref i)):P a:=@AV.casesOn (fun a=>ZI a k=true→P a) a (fun h=>ff h) g1 g1 g1 g1 f g1 g1 g1 g1 g2 g2 h
@[elab_as_elim] theorem abf {k}(h:W7 a k=true)(f:∀i,k i=true→P (.con i)):P a:=@AV.casesOn (fun a=>W7 a k=true→P a) a (fun h=>ff h) g1 g1 g1 g1 g1 f g1 g1 g1 g2 g2 h
end
noncomputable def Sm (a b:AV):Bool:=@AV.casesOn (fun _=>Bool) a false z1 (fun i=>Tc b (i==·)) z1 z1 (fun i=>ZI b (i==·)) (fun i=>W7 b (i==·)) z1 z1 z1 z2 z2
theorem ZT {a b:AV}{P:AV→Prop}(h:Sm a b=true)(f:P a):P b:=@AV.casesOn (fun a=>Sm a b=true→P a→P b) a (fun h=>ff h) (g1 (P:=fun b=>_)) (fun i h f=>Td h fun j h=>dW h f) g1 g1 (fun i h f=>acv h fun j h=>dW h f) (fun i h f=>abf h fun j h=>dW h f) g1 g1 g1 g2 g2 h f
noncomputable def VK.Yh (k:VK)(x:Str):Bool:=@VK.casesOn (fun _=>Bool) k (x==·) (x==·) (x==·) z1 false false
noncomputable def VK.W0 (k:VK)(x:Str):Bool:=@VK.casesOn (fun _=>Bool) k z1 z1 z1 (x==·) false false
noncomputable def VK.LV (k:VK)(x:Str):Bool:=@VK.casesOn (fun _=>Bool) k z1 (x==·) (x==·) (x==·) false false
noncomputable def VK.isL (k:VK):Bool:=@VK.casesOn (fun _=>Bool) k (fun _=>true) z1 z1 z1 false false
noncomputable def VK.isF (k:VK):Bool:=@VK.casesOn (fun _=>Bool) k z1 z1 (fun _=>true) z1 false false
noncomputable def VK.isP (k:VK):Bool:=@VK.casesOn (fun _=>Bool) k z1 (fun _=>true) z1 z1 false false
noncomputable def eE (vt:List VK)(i:Nat)(x:Str):Bool:=cF vt[i]? (·.Yh x)
noncomputable def wD (vt:List VK)(i:Nat)(x:Str):Bool:=cF vt[i]? (·.W0 x)
noncomputable def l6 (vt:List VK)(i:Nat):Bool:=cF vt[i]? (·.isL)
noncomputable def Yz (vt:List VK)(i:Nat):Bool:=cF vt[i]? (!·.isF)
noncomputable abbrev Gl:=List (Str×AV)
noncomputable def pz (gl:Gl)(sc:Scope)(j:Nat)(x:Str)(v:AV):Bool:=sc.names.lookup x==some .globalImplicit&& !(x==("__debug__":Str))&&cF gl[j]? fun p=>x==p.1&&Sm p.2 v
noncomputable def Dm (c:Const):Bool:=@Const.casesOn (fun _=>Bool) c true z1 z1 z1 z2 z1 z1 false
theorem R9 {c}{P:Const→Prop}(h:Dm c=true)(f:P .none):P c:=@Const.casesOn (fun c=>Dm c=true→P c) c (fun _=>f) g1 g1 g1 g2 g1 g1 (fun h=>ff h) h
noncomputable def litOk (a:AV)(c:Const):Bool:=@AV.casesOn (fun _=>Bool) a (Dm c) (fun b=>uA c (b==·)) (fun b=>uF c (b==·)) z1 z1 z1 z1 z1 z1 z1 z2 z2
theorem Bz {a c}{P:AV→Const→Prop}(h:litOk a c=true)(f:P .none .none)(g:∀b,P (.bool b) (.bool b))(k:∀b,P (.int b) (.int b)):P a c:=
 @AV.casesOn (fun a=>litOk a c=true→P a c) a (fun h=>R9 h f) (fun b h=>Dh h fun i h=>dW h (g b)) (fun b h=>wR h fun i h=>dW h (k b)) g1 g1 g1 g1 g1 g1 g1 g2 g2 h
noncomputable def zG (s:Scope)(k:VK):VK:=@VK.casesOn (fun _=>VK) k (fun _=>.jz) (fun x=>if s.names.lookup x==some .free then .c9 x else .jz) (fun x=>if s.names.lookup x==some .free then .c9 x else .jz) (fun x=>if s.names.lookup x==some .free then .ar x else .jz) .jz .jz
noncomputable def dR (k:VK):Bool:=@VK.casesOn (fun _=>Bool) k z1 z1 z1 z1 false true
noncomputable def lW (vt:List VK)(s:Scope)(nms:List Str):Bool:=s.kind== .function&&
 s.names.all (fun p=>p.2 != .cell&&(p.2 != .local||s.names.lookup p.1==some .local)&&(p.2 != .free||vt.any (·.LV p.1)))&&
 nms.all (fun x=>s.names.lookup x==some .local&& !(x==("__debug__":Str)))&&decide nms.Nodup
noncomputable def ct (vt:List VK)(s:Scope)(nms:List Str):List VK:=vt.map (zG s)++nms.map .loc
noncomputable def freeNames (s:Scope):List Str:=(s.names.filter fun p=>p.2== .free).map (·.1)
noncomputable def uh (e:PySem.Expr):Bool:=@PySem.Expr.casesOn (fun _=>Bool) e z3 z3 z4 z3 z4 z4 z3 z3 (fun _ _ _ _=>true) (fun _ _ _ _=>true) (fun _ _ _ _ _=>true) z4 z2 z2 z2 z4 z4 z4 z2 z3 z3 z3 z2 z2 z2 z3 z4
noncomputable def Te (e:PySem.Expr):Bool:=qo e fun _ _ _=>true
noncomputable def isStar (e:PySem.Expr):Bool:=La e true
noncomputable def sP (e:PySem.Expr):Bool:=uD e fun f _ _ _=>bJ f fun id _=>id==("super":Str)
noncomputable def jL (a:Arguments)(ps:List Str):Bool:=a.posonlyargs.isEmpty&&(a.args.map (·.arg)==ps)&&a.args.all (·.annotation.isNone)&&a.vararg.isNone&&a.kwonlyargs.isEmpty&&a.kw_defaults.isEmpty&&a.kwarg.isNone&&a.defaults.isEmpty
noncomputable def LA (sc:Scope)(x:Str):Bool:=sc.names.lookup x==some .local&& !(x==("__debug__":Str))
noncomputable def Sx (sc:Scope)(x:Str):Bool:=sc.names.lookup x==some .cell&& !(x==("__debug__":Str))&& !(x==("__classdict__":Str))
noncomputable def xk (sc:Scope)(x:Str):Bool:=(sc.names.lookup x==some .cell||sc.names.lookup x==some .free)&& !(x==("__debug__":Str))&& !(x==("__classdict__":Str))
noncomputable def Op (sc:Scope)(k:VK):Bool:=@VK.casesOn (fun _=>Bool) k (LA sc) (Sx sc) (xk sc) (xk sc) true true
noncomputable def VK.name? (k:VK):Option Str:=@VK.casesOn (fun _=>Option Str) k some some some some none none
noncomputable def gO (s:Scope)(aQ ps:List Str)(vt:List VK):Bool:=s.kind== .function&& !s.isCoroutine&& !s.isGenerator&&s.names.all (fun p=>p.2 != .cell)&&(freeNames s).reverse==aQ&&vt.all (Op s)&&
 (vt.take ps.length).map VK.name?==ps.map some&&(vt.take ps.length).all (·.isL)&&vt.all (fun k=>!k.isP&& !k.isF&& !dR k)&&decide (vt.filterMap VK.name?).Nodup
noncomputable def Bm (m:MX):Bool:=@MX.casesOn (fun _=>Bool) m z1 z1 z2 z1 z3 z3 z5 z1 z1 z1 z1 z3 z1 z1 z1 false z2 z3 z1 z2 z3 true z1 z2 z2 z3 z5 z5 z4
theorem M3 {m:MX}{P:MX→Prop}(h:Bm m=true)(f:P .absent):P m:=@MX.casesOn (fun m=>Bm m=true→P m) m g1 g1 g2 g1 g3 g3 g5 g1 g1 g1 g1 g3 g1 g1 g1 (fun h=>ff h) g2 g3 g1 g2 g3 (fun _=>f) g1 g2 g2 g3 g5 g5 g4 h
mutual
noncomputable def aN (gl:Gl)(sc:Scope)(vt:List VK):MX→PySem.Expr→Bool
 | .var i,e=>bJ e fun x _=>eE vt i x
 | .bb i,e=>bJ e fun x _=>wD vt i x
 | .glob j v,e=>bJ e fun x _=>pz gl sc j x v
 | .lit v,e=>gg e fun c=>litOk v c
 | .bin op a b,e=>KV e fun l o r=>op==o&&aN gl sc vt a l&&aN gl sc vt b r
 | .cmp op a b,e=>KZ e fun l o r=>op==o&& !behindInMarks o r&&aN gl sc vt a l&&aN gl sc vt b r
 | .rl o1 o2 a b c,e=>TQ e fun l p q m r=>o1==p&&o2==q&& !behindInMarks p m&& !behindInMarks q r&&o1 != .In&&o1 != .NotIn&&o2 != .In&&o2 != .NotIn&&aN gl sc vt a l&&aN gl sc vt b m&&aN gl sc vt c r
 | .and l,e=>Za e fun es=>cJ gl sc vt l es
 | .or l,e=>ada e fun es=>cJ gl sc vt l es
 | .not a,e=>Zo e fun x=>aN gl sc vt a x
 | .neg a,e=>Zl e fun x=>aN gl sc vt a x
 | .ite c a b,e=>R5 e fun t x y=>aN gl sc vt c t&&aN gl sc vt a x&&aN gl sc vt b y
 | .tup l,e=>wV e fun es=>decide (es.length<20)&&cJ gl sc vt l es
 | .lst l,e=>K6 e fun es=>decide (es.length<20)&&cJ gl sc vt l es
 | .gx l,e=>K6 e fun es=>decide (es.length<20)&&cJ gl sc vt l es
 | .eK,e=>NM e
 | .wz i u,e=>NN e fun x c=>eE vt i x&&litOk u c
 | .rn op a b,e=>KV e fun l o r=>op==o&&aN gl sc vt a l&&aN gl sc vt b r
 | .E3 a,e=>bJ e fun x p=>aN gl sc vt a (.Name x p)
 | .sL a lo hi,e=>Zv e fun v l u=>aN gl sc vt a v&&(@Option.casesOn _ (fun _=>Bool) l (Bm lo) fun e=>aN gl sc vt lo e)&&(@Option.casesOn _ (fun _=>Bool) u (Bm hi) fun e=>aN gl sc vt hi e)
 | .rev a,e=>Zs e fun v=>aN gl sc vt a v
 | .idx a i,e=>wU e fun v j=>aN gl sc vt a v&&aN gl sc vt i j
 | .attr a nm,e=>qo e fun v n _=>n==Str.ofString nm&& !sP v&&aN gl sc vt a v
 | .aJ a nm l,e=>K7 e fun v n ap es cp=>n==Str.ofString nm&&ap.endLine==cp.line&& !sP v&&decide (es.length<20)&&aN gl sc vt a v&&cJ gl sc vt l es
 | .wo j C nm _ l,e=>NK e fun x n ap es cp=>n==Str.ofString nm&&ap.endLine==cp.line&&decide (es.length<20)&&pz gl sc j x (.ref C)&&cJ gl sc vt l es
 | .call f l,e=>uC e fun g es _=>!Te g&&decide (es.length<20)&&aN gl sc vt f g&&cJ gl sc vt l es
 | .comp elt nms tg it bk,e=>K0 e fun x t i ifs a s=>a==0&&aN gl sc vt it i&&lW vt s nms&&po gl s (ct vt s nms) tg t&&cJ gl s (ct vt s nms) bk ifs&&aN gl s (ct vt s nms) elt x
 | .absent,_=>false
 | .lam aQ ps sQ body,e=>R7 e fun args x s=>vt.any dR&&jL args ps&&gO s (aQ.map (·.1)) ps sQ&&aQ.all (fun p=>wD vt p.2 p.1)&&aN gl s sQ body x
termination_by structural m=>m
noncomputable def cJ (gl:Gl)(sc:Scope)(vt:List VK):bA→List PySem.Expr→Bool
 | .nil,es=>sD es true
 | .cons a r,es=>iA es fun e es=>!isStar e&&aN gl sc vt a e&&cJ gl sc vt r es
termination_by structural m=>m
noncomputable def po (gl:Gl)(sc:Scope)(vt:List VK):MT→PySem.Expr→Bool
 | .var i,e=>bJ e fun x _=>eE vt i x&&Yz vt i
 | .bb i,e=>bJ e fun x _=>wD vt i x&&sc.names.lookup x==some .cell
 | .tup l,e=>wV e fun es=>AT gl sc vt l es
 | .idx a i,e=>wU e fun v j=>aN gl sc vt a v&&aN gl sc vt i j
 | .attr a nm,e=>qo e fun v n _=>n==Str.ofString nm&&aN gl sc vt a v
termination_by structural m=>m
noncomputable def AT (gl:Gl)(sc:Scope)(vt:List VK):qr→List PySem.Expr→Bool
 | .nil,es=>sD es true
 | .cons a r,es=>iA es fun e es=>!isStar e&&po gl sc vt a e&&AT gl sc vt r es
termination_by structural m=>m
end
noncomputable def acZ (gl:Gl)(sc:Scope)(vt:List VK)(m:MX)(o:Option PySem.Expr):Bool:=@Option.casesOn _ (fun _=>Bool) o (Bm m) fun e=>aN gl sc vt m e
noncomputable def nameAt (vt:List VK)(i:Nat):Option Str:=(vt[i]?).bind VK.name?
noncomputable def nameP (e:PySem.Expr)(k:Str→Pos→Option Str):Option Str:=@PySem.Expr.casesOn (fun _=>Option Str) e (fun _ _ _=>none) (fun _ _ _=>none) (fun _ _ _ _=>none) (fun _ _ _=>none) (fun _ _ _ _=>none) (fun _ _ _ _=>none) (fun _ _ _=>none) (fun _ _ _=>none) (fun _ _ _ _=>none) (fun _ _ _ _=>none) (fun _ _ _ _ _=>none) (fun _ _ _ _=>none) (fun _ _=>none) (fun _ _=>none) (fun _ _=>none) (fun _ _ _ _=>none) (fun _ _ _ _=>none) (fun _ _ _ _=>none) (fun _ _=>none) (fun _ _ _=>none) (fun _ _ _=>none) (fun _ _ _=>none) (fun _ _=>none) k (fun _ _=>none) (fun _ _ _=>none) (fun _ _ _ _=>none)
noncomputable def IC (e:PySem.Expr):Option Str:=nameP e fun x _=>some x
noncomputable def Nl (sc:Scope)(ts:List PySem.Expr):List Str:=ts.filterMap fun e=>nameP e fun id pos=>if sc.names.lookup id==some .local&&pos.line==(ts.head?.map (·.pos.line)).getD 0 then some id else none
noncomputable def uY (sc:Scope)(ts vs:List PySem.Expr):Option (List Str):=
 if(!(ts.length==2||ts.length==3)||vs.length != ts.length)=true then none
 else if((Nl sc ts).length != ts.length||(Nl sc ts).eraseDups.length != (Nl sc ts).length)=true then none
 else if vs.all (foldedForSure 8)=true then none
 else some (Nl sc ts)
noncomputable def PL (t:MT)(k:Nat→Option (List Nat)):Option (List Nat):=@MT.casesOn (fun _=>Option (List Nat)) t k (fun _=>none) (fun _=>none) (fun _ _=>none) (fun _ _=>none)
noncomputable def uq:qr→Option (List Nat)
 | .nil=>some []
 | .cons t r=>PL t fun i=>(uq r).map (i::·)
noncomputable def aeK (e:PySem.Expr)(k:List PySem.Expr→Bool):Bool:=@PySem.Expr.casesOn (fun _=>Bool) e (fun _ _ _=>true) (fun _ _ _=>true) (fun _ _ _ _=>true) (fun _ _ _=>true) (fun _ _ _ _=>true) (fun _ _ _ _=>true) (fun _ _ _=>true) (fun _ _ _=>true) (fun _ _ _ _=>true) (fun _ _ _ _=>true) (fun _ _ _ _ _=>true) (fun _ _ _ _=>true) (fun _ _=>true) (fun _ _=>true) (fun _ _=>true) (fun _ _ _ _=>true) (fun _ _ _ _=>true) (fun _ _ _ _=>true) (fun _ _=>true) (fun _ _ _=>true) (fun _ _ _=>true) (fun _ _ _=>true) (fun _ _=>true) (fun _ _=>true) (fun _ _=>true) (fun l _ _=>k l) (fun _ _ _ _=>true)
noncomputable def aiL (l:qr)(ts:List PySem.Expr)(names:List Str):Bool:=cF (uq l) fun is=>decide is.Nodup&&is.length==names.length&&ts.map IC==names.map some
noncomputable def storeOk (sc:Scope)(t:MT)(target value:PySem.Expr):Bool:=@MT.casesOn (fun _=>Bool) t (fun _=>true) (fun _=>true)
 (fun l=>wV target fun ts=>aeK value fun vs=>vs.all (fun e=>!isStar e)&& !(vs.all (constantsAlone 8))&&@Option.casesOn _ (fun _=>Bool) (uY sc ts vs) true (aiL l ts)) (fun _ _=>true) (fun _ _=>true)
noncomputable def Wy (vt:List VK)(t:MT):Bool:=@MT.casesOn (fun _=>Bool) t (fun i=>!l6 vt i) (fun _=>true) (fun _=>true) (fun _ _=>true) (fun _ _=>true)
mutual
noncomputable def ac0 (gl:Gl)(sc:Scope)(vt:List VK):MS→PySem.Stmt→Bool
 | .asg t e,s=>RS s fun tg v _=>po gl sc vt t tg&&aN gl sc vt e v&&storeOk sc t tg v&&(!uh v||Wy vt t)
 | .xA i elt nms tg it bk,s=>KT s fun x p v pos=>eE vt i x&&l6 vt i&&aN gl sc vt (.comp elt nms tg it bk) v&&p.line==v.pos.line&&K0 v fun _ _ _ _ _ s=>!(s.names.any fun q=>q.1==x&&(q.2== .local||q.2== .cell))
 | .aug i op e,s=>TN s fun x o v=>eE vt i x&&Yz vt i&&op==o&&op== .Add&&aN gl sc vt e v
 | .expr e,s=>uE s fun v=>!uh v&&aN gl sc vt e v
 | .ce c a b,s=>Zi s fun t x y=>aN gl sc vt c t&&fT gl sc vt a x&&fT gl sc vt b y
 | .di c a,s=>Dp s fun t x y=>sD y (aN gl sc vt c t&&fT gl sc vt a x)
 | .cV t it b,s=>RZ s fun tg i x y=>sD y (po gl sc vt t tg&&aN gl sc vt it i&&fT gl sc vt b x)
 | .ret e,s=>K9 s fun v=>acZ gl sc vt e v
 | .brk,s=>Zc s
 | .pass,s=>TW s
 | .Nc i j e,s=>TR s fun x p a b a' b' en it b'' ZU vp=>
   eE vt i x&&l6 vt i&& !isStar it&&aN gl sc vt e it&&pz gl sc j en (.con (.type "enumerate"))&&a==a'&&b==b'&&b==b''&&lW vt ZU [a,b]&&p.line==vp.line&&
   !(ZU.names.any fun q=>q.1==x&&(q.2== .local||q.2== .cell))
 | .On e j C b,s=>Zz s fun v x b'=>b==b'&& !uh v&&pz gl sc j x (.ref C)&&aN gl sc vt e v
 | .gy j C m,s=>onRaise s fun x m'=>pz gl sc j x (.ref C)&&m'==Str.ofString m
 | .defn i aQ ps sQ body,s=>Ze s fun nm args b ZU bind=>nm==bind&&vt.any dR&&eE vt i bind&&l6 vt i&&jL args ps&&gO ZU (aQ.map (·.1)) ps sQ&&aQ.all (fun p=>wD vt p.2 p.1)&&fT gl ZU sQ body b
noncomputable def fT (gl:Gl)(sc:Scope)(vt:List VK):ah→List PySem.Stmt→Bool
 | .nil,es=>sD es true
 | .cons a r,es=>iA es fun e es=>ac0 gl sc vt a e&&fT gl sc vt r es
end
noncomputable def G8 (gl:Gl)(fd:FuncData)(c:zH):Prop:=fd.globals=mainGlobals∧fd.builtins=builtinsNs∧fd.defaults= .none∧fd.kwdefaults= .none∧@zH.casesOn (fun _=>Prop) c
 (fun ps vt m=>jL fd.params ps=true∧gO fd.scope (fd.closure.map (·.1)) ps vt=true∧∃e,fd.body= .expr e∧aN gl fd.scope vt m e=true)
 (fun ps vt m=>jL fd.params ps=true∧gO fd.scope (fd.closure.map (·.1)) ps vt=true∧∃e,fd.body= .stmts e∧fT gl fd.scope vt m e=true)
inductive cX (H:AH)(h:Heap):Value→Prop
 | mk (c:Addr) (oc:Obj) (vs:Array Value) (q:Str) (t:Tok) (a:H c=none) (b:h.get? c=some oc) (d:oc.data= .fields vs) (e:vs[1]? =some (.str q t)):cX H h (.ref c)
theorem cX.mono {H H':AH}{h h':Heap}{v:Value}(k:bc H h H' h')(x:cX H h v):cX H' h' v:=cX.casesOn x fun c oc vs q t a b d e=>⟨c,oc,vs,q,t,(k _ _ a b).1,(k _ _ a b).2,d,e⟩
noncomputable def dj (Z:Program)(w:World)(gl:Gl)(H:AH)(h:Heap)(a:Addr)(o:AO):Prop:=@AO.casesOn (fun _=>Prop) o
 (fun xs=>∃vs,h.PlainList a vs∧am Z w H h xs vs.toList)
 (fun kvs=>∃l,h.DictOf (intKind Z w) a l∧aG Z w H h kvs l)
 (fun C dx=>h.get? a=some (instObj C dx))
 (fun fs=>∃es n,h.get? a=some (dictOf es n)∧bd Z w H h fs es)
 (fun v=>∃c,h.IsCell a c∧@Option.casesOn _ (fun _=>Prop) v (c=none) fun x=>∃y,c=some y∧aj Z w H h x y)
 (fun f aQ=>∃o fd,h.get? a=some o∧o.data= .func fd∧G8 gl fd f∧fd.closure=aQ∧cX H h fd.code)
 (∃ps,h.get? a=some (tabObj ps)∧TriplesOk ps.toList∧∀pos cv,codeAmong pos ps.toList=some cv→cX H h cv)
 (∃o,h.get? a=some o) (∃o,h.get? a=some o)
theorem dj.here {Z w gl H h a o}(x:dj Z w gl H h a o):∃oo,h.get? a=some oo:=@AO.casesOn (fun o=>dj Z w gl H h a o→∃oo,h.get? a=some oo) o
 (fun _ x=>let⟨_,⟨_,ho⟩,_⟩:=x;⟨_,ho⟩) (fun _ x=>let⟨_,⟨o,_,_,ho,_⟩,_⟩:=x;⟨o,ho⟩) (fun _ _ x=>⟨_,x⟩) (fun _ x=>let⟨_,_,ho,_⟩:=x;⟨_,ho⟩) (fun _ x=>let⟨_,⟨o,ho,_⟩,_⟩:=x;⟨o,ho⟩) (fun _ _ x=>let⟨o,_,ho,_⟩:=x;⟨o,ho⟩) (fun x=>let⟨_,ho,_⟩:=x;⟨_,ho⟩) (fun x=>x) (fun x=>x) x
theorem dj.mono {Z w gl H h H' h' a}(k:bc H h H' h')(e:h'.get? a=h.get? a){o}(x:dj Z w gl H h a o):dj Z w gl H' h' a o:=by
 cases o with
 | list xs=>obtain⟨vs,⟨n,ho⟩,r⟩:=x;exact⟨vs,⟨n,e.trans ho⟩,r.mono k⟩
 | dict kvs=>obtain⟨l,⟨o,es,ep,ho,q⟩,r⟩:=x;exact⟨l,⟨o,es,ep,e.trans ho,q⟩,r.mono k⟩
 | inst C dx=>exact e.trans x
 | attrs fs=>obtain⟨es,n,ho,r⟩:=x;exact⟨es,n,e.trans ho,r.mono k⟩
 | cell v=>
  obtain⟨c,⟨o,ho,q⟩,r⟩:=x
  refine⟨c,⟨o,e.trans ho,q⟩,?_⟩
  cases v with
  | none=>exact r
  | some x=>obtain⟨y,e,r⟩:=r;exact⟨y,e,r.mono k⟩
 | func _ _=>obtain⟨o,fd,ho,hd,q,q',c⟩:=x;exact⟨o,fd,e.trans ho,hd,q,q',c.mono k⟩
 | tab=>obtain⟨ps,ho,t,q⟩:=x;exact⟨ps,e.trans ho,t,fun pos cv z=>(q pos cv z).mono k⟩
 | ns=>obtain⟨o,ho⟩:=x;exact⟨o,e.trans ho⟩
 | it=>obtain⟨o,ho⟩:=x;exact⟨o,e.trans ho⟩
end
section
set_option genInjectivity false
set_option backward.match.sparseCases false
structure Gd where
 w:World
 hb:Heap
 K:Frag
 p:Program
 loose:List Str
 mg:Str→Option Value
 mb:Str→Option Value
 gl:Gl
 tabs:List Addr
noncomputable def rv (u:AV)(v:Value):Prop:=@AV.casesOn (fun _=>Prop) u False (fun _=>False) (fun i=>∃t,v= .int i t) (fun _=>False) (fun _=>False) (fun a=>v= .ref a) (fun c=>v=c∧jK c=true) (fun _=>False) (fun _=>False) (fun _=>False) (fun _ _=>False) (fun _ _=>False)
structure Gd.Ok (G:Gd):Prop where
 X:G.K.In G.hb
 T:TopRead G.p G.loose G.mg G.mb G.hb
 sys:∃o,G.hb.get? sysModules=some o
 bmain:∃bm ob,G.mg "__builtins__" =some (.ref bm)∧bm≠builtinsNs∧bm≠mainGlobals∧G.hb.get? bm=some ob∧ob.cls= .type "module"∧ob.dict=some builtinsNs∧ob.data= .plain
 aiQ:∀P∈G.tabs,P≠mainGlobals∧G.hb.get? P=none
 gls:∀(j:Nat) (x:Str) (u:AV),G.gl[j]? =some (x,u)→∃v,rv u v∧(G.mg x=some v∨(G.mg x=none∧G.mb x=some v))
noncomputable abbrev bK (h h':Heap)(a:Addr):Prop:=∀o,h.get? a=some o→∃sl,h'.get? a=some {o with slots:=sl}
structure Ext (own:Addr→Prop)(H:AH)(h:Heap)(H':AH)(h':Heap):Prop where
 bY:bc H h H' h'
 ns:∀a,H a=some .ns→H' a=some .ns∧(¬own a→bK h h' a)
 it:∀a,H a=some .it→H' a=some .it∧(¬own a→∀o,h.get? a=some o→h'.get? a=some o)
 here:∀a o,h.get? a=some o→∃o',h'.get? a=some o'
theorem bK.refl (h:Heap)(a:Addr):bK h h a:=fun o e=>⟨o.slots,e⟩
theorem bK.trans {h h' yS:Heap}{a:Addr}(x:bK h h' a)(y:bK h' yS a):bK h yS a:=fun o e=>by
 obtain⟨sl,e'⟩:=x o e
 obtain⟨sl',e''⟩:=y _ e'
 exact⟨sl',e''⟩
theorem bK.of_eq {h h':Heap}{a:Addr}(e:h'.get? a=h.get? a):bK h h' a:=fun o q=>⟨o.slots,by rw[e,q]⟩
theorem Ext.refl (own:Addr→Prop)(H:AH)(h:Heap):Ext own H h H h:=⟨bc.refl,fun a e=>⟨e,fun _=>bK.refl h a⟩,fun a e=>⟨e,fun _ _ z=>z⟩,fun _ o e=>⟨o,e⟩⟩
theorem Ext.trans {own:Addr→Prop}{H H' cb:AH}{h h' yS:Heap}(x:Ext own H h H' h')(y:Ext own H' h' cb yS):Ext own H h cb yS:=
 ⟨x.bY.trans y.bY,fun a e=>⟨(y.ns a (x.ns a e).1).1,fun n=>((x.ns a e).2 n).trans ((y.ns a (x.ns a e).1).2 n)⟩,fun a e=>⟨(y.it a (x.it a e).1).1,fun n o z=>(y.it a (x.it a e).1).2 n o ((x.it a e).2 n o z)⟩,fun a o e=>let⟨o',e'⟩:=x.here a o e;y.here a o' e'⟩
noncomputable abbrev noOwn:Addr→Prop:=fun _=>False
theorem Ext.own {own:Addr→Prop}{H H':AH}{h h':Heap}(x:Ext noOwn H h H' h'):Ext own H h H' h':=⟨x.bY,fun a e=>⟨(x.ns a e).1,fun _=>(x.ns a e).2 id⟩,fun a e=>⟨(x.it a e).1,fun _=>(x.it a e).2 id⟩,x.here⟩
noncomputable def aF (s s':Shared):Prop:=∃h tk,s'={s with heap:=h,toks:=tk}
theorem aF.refl (s:Shared):aF s s:=⟨s.heap,s.toks,rfl⟩
theorem aF.trans {s s' dD:Shared}(x:aF s s')(y:aF s' dD):aF s dD:=by
 obtain⟨h,t,rfl⟩:=x;obtain⟨h',t',rfl⟩:=y;exact⟨h',t',rfl⟩
theorem aF.mk (s:Shared)(h:Heap)(t:Nat):aF s {s with heap:=h,toks:=t}:=⟨h,t,rfl⟩
theorem aF.zb (s:Shared)(h:Heap):aF s {s with heap:=h}:=⟨h,s.toks,rfl⟩
theorem aF.mkt (s:Shared)(t:Nat):aF s {s with toks:=t}:=⟨s.heap,t,rfl⟩
inductive ru (H:AH)(h:Heap)(e:Env):Prop
 | mk (a:e.scope.kind≠ .module) (L:Addr) (o:Obj) (b:e.frame=some L) (c:H L=some .ns) (d:h.get? L=some o) (f:∀vs,o.data≠ .fields vs):ru H h e
theorem ru.map {H H':AH}{h h':Heap}{e:Env}(x:ru H h e)(k:∀L o,e.frame=some L→H L=some .ns→h.get? L=some o→H' L=some .ns∧h'.get? L=some o):ru H' h' e:=ru.casesOn x fun a L o b c d f=>⟨a,L,o,b,(k L o b c d).1,(k L o b c d).2,f⟩
structure au (Z:Program)(G:Gd)(ak:List Env)(H:AH)(s:Shared):Prop where
 keep:G.hb.StaysIn s.heap
 own:∀a o,H a=some o→G.hb.get? a=none∧dj Z G.w G.gl H s.heap a o
 frames:∀e∈ak,ru H s.heap e
 tabs:∀P∈G.tabs,H P=some .tab
theorem au.lt {Z G ak H s}(R:au Z G ak H s){a o}(e:H a=some o):a<s.heap.objs.size:=(R.own a o e).2.here.elim fun _ ho=>Heap.lt_size ho
theorem au.dw {Z G ak H s}(R:au Z G ak H s){a:Addr}(ha:s.heap.objs.size≤a):H a=none:=Option.eq_none_iff_forall_ne_some.mpr fun _ e=>Nat.not_lt.mpr ha (R.lt e)
theorem au.fresh {Z G ak H s}(R:au Z G ak H s):H s.heap.objs.size=none:=R.dw (Nat.le_refl _)
theorem jH {h:Heap}{a:Addr}(l:h.objs.size≤a):h.get? a=none:=Option.eq_none_iff_forall_ne_some.mpr fun _ e=>Nat.not_lt.mpr l (Heap.lt_size e)
theorem au.Id {Z G ak H s}(R:au Z G ak H s){a:Addr}(ha:s.heap.objs.size≤a):G.hb.get? a=none:=Option.eq_none_iff_forall_ne_some.mpr fun _ e=>Nat.not_lt.mpr ha (Heap.lt_size (R.keep _ _ e))
theorem pK {H:AH}{a b:Addr}{o o':AO}(e:H a=some o)(q:H b=some o')(h:o≠o'):b≠a:=fun z=>h (Option.some.inj ((z▸e:H b=some o).symm.trans q))
theorem aA {H:AH}{a b:Addr}{o:AO}(e:H a=some o)(q:H b=none):b≠a:=fun z=>nomatch (z▸e:H b=some o).symm.trans q
theorem jG {H:AH}{a b:Addr}{o o':AO}(e:H a=some o)(q:H b=some o')(h:o.kept=false)(h':o'.kept=true):b≠a:=pK e q fun z=>nomatch (z▸h:o'.kept=false).symm.trans h'
theorem bc.same {H:AH}{h h':Heap}(k:∀b o,h.get? b=some o→h'.get? b=some o):bc H h H h':=fun a o hn ho=>⟨hn,k a o ho⟩
theorem Ext.grow {own:Addr→Prop}{H:AH}{h h':Heap}(k:∀b o,h.get? b=some o→h'.get? b=some o):Ext own H h H h':=
 ⟨bc.same k,fun a e=>⟨e,fun _ o q=>⟨o.slots,k a o q⟩⟩,fun a e=>⟨e,fun _ o ho=>k a o ho⟩,fun a o e=>⟨o,k a o e⟩⟩
theorem dj.keep {Z w gl H h H' h' a o}(x:dj Z w gl H h a o)(k:bc H h H' h')(e:∀ob,h.get? a=some ob→h'.get? a=some ob):dj Z w gl H' h' a o:=x.here.elim fun ob ho=>x.mono k ((e ob ho).trans ho.symm)
theorem au.grow {Z G ak H s}{h':Heap}{t:Nat}(R:au Z G ak H s)(k:∀b o,s.heap.get? b=some o→h'.get? b=some o):au Z G ak H {s with heap:=h',toks:=t}:=
 ⟨fun b o e=>k b o (R.keep b o e),fun a o e=>⟨(R.own a o e).1,(R.own a o e).2.keep (bc.same k) (k a)⟩,fun e he=>(R.frames e he).map fun L o _ c d=>⟨c,k L o d⟩,R.tabs⟩
theorem au.toks {Z G ak H s}{t:Nat}(R:au Z G ak H s):au Z G ak H {s with toks:=t}:=R.grow (h':=s.heap) fun _ _ e=>e
theorem cu {h:Heap}{a b:Addr}{o:Obj}(e:h.get? b=some o)(ha:h.objs.size≤a):b≠a:=Nat.ne_of_lt (Nat.lt_of_lt_of_le (Heap.lt_size e) ha)
theorem jy {H:AH}{h h':Heap}{a:Addr}{o:AO}(k:∀b o,h.get? b=some o→h'.get? b=some o)(ha:h.objs.size≤a):bc H h (H.set a o) h':=
 fun b ob hn hb=>⟨(AH.ae _ _ (cu hb ha)).trans hn,k b ob hb⟩
theorem au.Tf {Z G ak H s}(R:au Z G ak H s):∀a,H a=some .it→∃o,s.heap.get? a=some o:=fun a e=>(R.own a _ e).2.here
theorem au.set {Z G ak H s}{a b:Addr}{o ob:AO}(R:au Z G ak H s)(ha:s.heap.objs.size≤a)(e:H b=some ob):H.set a o b=some ob:=GV (R.dw ha) e
theorem Ext.new {Z G ak H s}{own:Addr→Prop}{h':Heap}{a:Addr}{o:AO}(R:au Z G ak H s)(k:∀b o,s.heap.get? b=some o→h'.get? b=some o)(ha:s.heap.objs.size≤a):
  Ext own H s.heap (H.set a o) h':=
 ⟨jy k ha,fun b e=>⟨R.set ha e,fun _ ob q=>⟨ob.slots,k b ob q⟩⟩,fun b e=>⟨R.set ha e,fun _ ob hb=>k b ob hb⟩,fun b o e=>⟨o,k b o e⟩⟩
theorem io {H:AH}{a b:Addr}{o ob:AO}{P:Addr→AO→Prop}(e:H.set a o b=some ob)(f:P a o)(g:b≠a→H b=some ob→P b ob):P b ob:=
 @dite _ (b=a) _ (fun z=>by subst z;cases (if_pos rfl).symm.trans e;exact f) fun z=>g z ((if_neg z).symm.trans e)
theorem au.new {Z G ak H s}{h':Heap}{t:Nat}{a:Addr}{o:AO}(R:au Z G ak H s)(k:∀b o,s.heap.get? b=some o→h'.get? b=some o)(ha:s.heap.objs.size≤a)
  (ho:dj Z G.w G.gl (H.set a o) h' a o):au Z G ak (H.set a o) {s with heap:=h',toks:=t}:=
 ⟨fun b o e=>k b o (R.keep b o e),fun b ob e=>io (P:=fun b ob=>G.hb.get? b=none∧dj Z G.w G.gl (H.set a o) h' b ob) e ⟨R.Id ha,ho⟩ fun _ e=>⟨(R.own b ob e).1,(R.own b ob e).2.keep (jy k ha) (k b)⟩,
  fun e he=>(R.frames e he).map fun L o _ c d=>⟨R.set ha c,k L o d⟩,fun P hP=>R.set ha (R.tabs P hP)⟩
theorem cM {H:AH}{h h':Heap}{a:Addr}{o o':AO}(e:H a=some o)(hs:Heap.SameBut a h h'):bc H h (H.set a o') h':=
 fun b ob hn hb=>⟨(AH.ae _ _ (aA e hn)).trans hn,(hs.2 b (aA e hn)).trans hb⟩
theorem qc {h h':Heap}{a:Addr}(k:∀b o,b≠a→h.get? b=some o→h'.get? b=some o)(hx:∃oo,h'.get? a=some oo)(b:Addr)(ob:Obj)(q:h.get? b=some ob):∃o,h'.get? b=some o:=
 @dite _ (b=a) _ (fun z=>z▸hx) fun z=>⟨ob,k b ob z q⟩
theorem Ext.put {own:Addr→Prop}{H:AH}{h h':Heap}{a:Addr}{o o':AO}(e:H a=some o)(az:o.kept=false)(hs:Heap.SameBut a h h')(hx:∃oo,h'.get? a=some oo):Ext own H h (H.set a o') h':=
 ⟨cM e hs,fun b q=>have z:=jG e q az rfl
  ⟨(AH.ae _ _ z).trans q,fun _=>bK.of_eq (hs.2 b z)⟩,fun b q=>have z:=jG e q az rfl
  ⟨(AH.ae _ _ z).trans q,fun _ o w=>(hs.2 b z).trans w⟩,qc (fun b _ z w=>(hs.2 b z).trans w) hx⟩
theorem au.Bg {Z G ak H s}{a b:Addr}{o:AO}{ob:Obj}(R:au Z G ak H s)(e:H a=some o)(q:G.hb.get? b=some ob):b≠a:=fun z=>nomatch (z▸q:G.hb.get? a=some ob).symm.trans (R.own a o e).1
theorem au.put {Z G ak H s}{h':Heap}{t:Nat}{a:Addr}{o o':AO}(R:au Z G ak H s)(e:H a=some o)(az:o.kept=false)(hs:Heap.SameBut a s.heap h')(ho:dj Z G.w G.gl (H.set a o') h' a o'):
  au Z G ak (H.set a o') {s with heap:=h',toks:=t}:=
 ⟨fun b ob q=>(hs.2 b (R.Bg e q)).trans (R.keep b ob q),fun b ob q=>io (P:=fun b ob=>G.hb.get? b=none∧dj Z G.w G.gl (H.set a o') h' b ob) q ⟨(R.own a o e).1,ho⟩ fun z q=>⟨(R.own b ob q).1,(R.own b ob q).2.mono (cM e hs) (hs.2 b z)⟩,
  fun x hx=>(R.frames x hx).map fun L o _ c d=>have z:=jG e c az rfl
   ⟨(AH.ae _ _ z).trans c,(hs.2 L z).trans d⟩,fun P hP=>(AH.ae _ _ (jG e (R.tabs P hP) az rfl)).trans (R.tabs P hP)⟩
structure FC where
 A:Around
 env:Env
 ak:List Env
 own:Addr→Prop
 sc:Scope
noncomputable def zO (a b:Scope):Prop:=∀x k,k≠NameKind.free→a.names.lookup x=some k→b.names.lookup x=some k
theorem zO.refl (a:Scope):zO a a:=fun _ _ _ h=>h
noncomputable abbrev Sg:=List (Option AV)
structure aW (C:FC)(n:Nat):Prop where
 handled:C.A.handled=none
 ak:C.A.frames=some C.ak
 depth:C.A.depth+n*4<recursionLimit
 units:C.A.units+n*40+200<cLine
 kind:C.env.scope.kind= .function
 rel:zO C.sc C.env.scope
 globals:C.env.globals=mainGlobals
 builtins:C.env.builtins=builtinsNs
 ah6:C.own C.env.locals
inductive q9 (Z:Program)(w:World)(vt:List VK)(σ:Sg)(L:Addr)(H:AH)(h:Heap):Prop
 | mk (m:Str→Option Value) (n:h.Ns L m) (r:∀(i:Nat) (x:Str) (av:AV),vt[i]? =some (.loc x)→σ[i]? =some (some av)→∃v,m x=some v∧aj Z w H h av v):q9 Z w vt σ L H h
inductive qs (Z:Program)(w:World)(C:FC)(σ:Sg)(i:Nat)(x:Str)(p:Prop)(H:AH)(h:Heap):Prop
 | mk (c:Addr) (hc:C.env.cells.lookup x=some c) (ho:p→C.own c) (hn:H c=some .ns) (hL:c≠C.env.locals) (v:Option Value) (hv:h.IsCell c v) (r:∀(av:AV),σ[i]? =some (some av)→∃v',v=some v'∧aj Z w H h av v'):qs Z w C σ i x p H h
noncomputable abbrev jA (vt:List VK)(i:Nat)(x:Str):Prop:=vt[i]? =some (.bF x)∨vt[i]? =some (.c9 x)
structure LN (G:Gd)(C:FC)(vt:List VK)(σ:Sg):Prop where
 sc:∀(i:Nat) (x:Str),vt[i]? =some (.ar x)→∃c,C.env.cells.lookup x=some c∧σ[i]? =some (some (.ref c))
 vk:∀v∈vt,Op C.env.scope v=true
 nd:∀(i j:Nat) (x:Str),nameAt vt i=some x→nameAt vt j=some x→i=j
 dis:∀(i j:Nat) (x y:Str) (c:Addr),jA vt i x→jA vt j y→C.env.cells.lookup x=some c→C.env.cells.lookup y=some c→x=y
 len:σ.length=vt.length
 xR:vt.any dR=true→∃c P,C.env.code= .ref c∧CodeHd G.hb c P∧P∈G.tabs
structure Rep (Z:Program)(G:Gd)(C:FC)(vt:List VK)(σ:Sg)(H:AH)(s:Shared):Prop where
 g:au Z G C.ak H s
 L:H C.env.locals=some .ns
 loc:q9 Z G.w vt σ C.env.locals H s.heap
 pc:∀(i:Nat) (x:Str),jA vt i x→qs Z G.w C σ i x (vt[i]? =some (.bF x)) H s.heap
 own:∀a,C.own a→H a=some .ns
 k:LN G C vt σ
theorem q9.map {Z w vt σ L H h H' h'}(x:q9 Z w vt σ L H h)(kn:∀m,h.Ns L m→h'.Ns L m)(k:bc H h H' h'):q9 Z w vt σ L H' h':=q9.casesOn x fun m n r=>⟨m,kn m n,fun i x av a b=>(r i x av a b).elim fun v q=>⟨v,q.1,q.2.mono k⟩⟩
theorem qs.map {Z w C σ i x p H h H' h'}(y:qs Z w C σ i x p H h)(kh:∀c,C.env.cells.lookup x=some c→H c=some .ns→H' c=some .ns∧∀v,h.IsCell c v→h'.IsCell c v)(k:bc H h H' h'):qs Z w C σ i x p H' h':=
 qs.casesOn y fun c hc ho hn hL v hv r=>⟨c,hc,ho,(kh c hc hn).1,hL,v,(kh c hc hn).2 v hv,fun av a=>(r av a).elim fun v q=>⟨v,q.1,q.2.mono k⟩⟩
theorem bK.ns {h h':Heap}{a:Addr}{m}(x:bK h h' a)(n:h.Ns a m):h'.Ns a m:=by
 obtain⟨o,es,ep,ho,hd,r⟩:=n
 exact(x o ho).elim fun sl e=>⟨_,es,ep,e,hd,r⟩
theorem bK.cell {h h':Heap}{a:Addr}{v}(x:bK h h' a)(n:h.IsCell a v):h'.IsCell a v:=n.elim fun o p=>(x o p.1).elim fun _ e=>⟨_,e,p.2⟩
theorem Rep.step {Z G C vt σ H s H' s'}(R:Rep Z G C vt σ H s)(x:Ext noOwn H s.heap H' s'.heap)(g:au Z G C.ak H' s'):Rep Z G C vt σ H' s':=
 ⟨g,(x.ns _ R.L).1,R.loc.map (fun _ n=>((x.ns _ R.L).2 id).ns n) x.bY,fun i n e=>(R.pc i n e).map (fun c _ hn=>⟨(x.ns c hn).1,fun _=>((x.ns c hn).2 id).cell⟩) x.bY,fun a h=>(x.ns a (R.own a h)).1,R.k⟩
inductive EP (Z:Program)(G:Gd)(C:FC)(vt:List VK)(σ:Sg)(H:AH)(s:Shared)(Q:AV→AH→Prop)(v:Value)(s':Shared):Prop
 | mk (av:AV) (H':AH) (a:Rep Z G C vt σ H' s') (b:aj Z G.w H' s'.heap av v) (c:Ext noOwn H s.heap H' s'.heap) (d:aF s s') (q:Q av H'):EP Z G C vt σ H s Q v s'
inductive ExcAt (h:Heap)(h0:Heap)(e:Addr)(cls:Value)(H:AH):Prop
 | mk (oe:Obj) (vs:Array Value) (a:h.get? e=some oe) (b:oe.cls=cls) (c:oe.data= .fields vs) (d:h0.get? e=none) (f:H e=some .it)
  (r:vs[1]? =some .none∨∃T oT ts,vs[1]? =some (.ref T)∧h0.get? T=none∧T≠e∧h.get? T=some oT∧oT.data= .fields ts∧ts[3]? =some .none∧H T=some .it):ExcAt h h0 e cls H
inductive XP (Z:Program)(G:Gd)(cls:Value)(ak:List Env)(H:AH)(s:Shared)(X:AH→Prop)(v:Value)(s':Shared):Prop
 | mk (ea:Addr) (H':AH) (a:v= .ref ea) (b:au Z G ak H' s') (c:Ext noOwn H s.heap H' s'.heap) (d:aF s s') (e:ExcAt s'.heap s.heap ea cls H') (q:∀H2,Sub H' H2→X H2):XP Z G cls ak H s X v s'
theorem iZ {h h':Heap}(l:∀a o,h.get? a=some o→∃o',h'.get? a=some o'){a:Addr}(e:h'.get? a=none):h.get? a=none:=Option.eq_none_iff_forall_ne_some.mpr fun o q=>(l a o q).elim fun _ r=>nomatch r.symm.trans e
theorem ExcAt.le {h n n' e cls H}(x:ExcAt h n e cls H)(l:∀a o,n'.get? a=some o→∃o',n.get? a=some o'):ExcAt h n' e cls H:=
 ExcAt.casesOn x fun oe vs a b c e1 hi r=>⟨oe,vs,a,b,c,iZ l e1,hi,r.imp id fun⟨T,oT,ts,d,e2,r⟩=>⟨T,oT,ts,d,iZ l e2,r⟩⟩
theorem EP.trans {Z G C vt σ H s H' s' Q v dD}(x:Ext noOwn H s.heap H' s'.heap)(y:aF s s')(z:EP Z G C vt σ H' s' Q v dD):EP Z G C vt σ H s Q v dD:=EP.casesOn z fun av cb a b c d q=>⟨av,cb,a,b,x.trans c,y.trans d,q⟩
theorem XP.trans {Z G cls ak H s H' s' X v dD}(x:Ext noOwn H s.heap H' s'.heap)(y:aF s s')(z:XP Z G cls ak H' s' X v dD):XP Z G cls ak H s X v dD:=XP.casesOn z fun ea cb a b c d e q=>⟨ea,cb,a,b,x.trans c,y.trans d,e.le x.here,q⟩
theorem XP.no {Z G cls ak H s v s'}{P:Prop}(z:XP Z G cls ak H s (fun _=>False) v s'):P:=XP.casesOn z fun _ _ _ _ _ _ _ q=>(q _ (Sub.refl _)).elim
end
section
set_option genSizeOf false
set_option genInjectivity false
set_option backward.match.sparseCases false
noncomputable def w1 {α:Type}:α→Prop:=fun _=>False
noncomputable def w2 {α β:Type}:α→β→Prop:=fun _ _=>False
theorem v0 {P:Prop}:False→P:=fun h=>h.elim
theorem v1 {α:Type}{P:α→Prop}:∀a,False→P a:=fun _ h=>h.elim
theorem v2 {α β:Type}{P:α→β→Prop}:∀a b,False→P a b:=fun _ _ h=>h.elim
noncomputable def mj {α:Type}(o:Option α)(k:α→Prop):Prop:=@Option.casesOn α (fun _=>Prop) o False k
noncomputable def U8 {α:Type}(l:List α)(k:α→List α→Prop):Prop:=@List.casesOn α (fun _=>Prop) l False k
noncomputable def Zk {α:Type}(l:List α)(k:Prop):Prop:=@List.casesOn α (fun _=>Prop) l k fun _ _=>False
@[elab_as_elim] theorem Zp {α:Type}{o:Option α}{k}{P:Option α→Prop}(h:mj o k)(f:∀x,k x→P (some x)):P o:=@Option.casesOn α (fun o=>mj o k→P o) o v0 f h
@[elab_as_elim] theorem KX {α:Type}{l:List α}{k}{P:List α→Prop}(h:U8 l k)(f:∀x r,k x r→P (x::r)):P l:=@List.casesOn α (fun l=>U8 l k→P l) l v0 f h
@[elab_as_elim] theorem R8 {α:Type}{l:List α}{k}{P:List α→Prop}(h:Zk l k)(f:k→P []):P l:=@List.casesOn α (fun l=>Zk l k→P l) l f v2 h
noncomputable def pN {α:Type}(l:List α)(k:α→Prop):Prop:=U8 l fun x r=>Zk r (k x)
noncomputable def TM {α:Type}(l:List α)(k:α→α→Prop):Prop:=U8 l fun x r=>pN r (k x)
noncomputable def ie (a:AV)(k:Int→Prop):Prop:=@AV.casesOn (fun _=>Prop) a False w1 k w1 w1 w1 w1 w1 w1 w1 w2 w2
@[elab_as_elim] theorem fY {a:AV}{k}{P:AV→Prop}(h:ie a k)(f:∀i,k i→P (.int i)):P a:=@AV.casesOn (fun a=>ie a k→P a) a v0 v1 f v1 v1 v1 v1 v1 v1 v1 v2 v2 h
noncomputable def TO (a:AV)(k:Bool→Prop):Prop:=@AV.casesOn (fun _=>Prop) a False k w1 w1 w1 w1 w1 w1 w1 w1 w2 w2
@[elab_as_elim] theorem TP {a:AV}{k}{P:AV→Prop}(h:TO a k)(f:∀i,k i→P (.bool i)):P a:=@AV.casesOn (fun a=>TO a k→P a) a v0 f v1 v1 v1 v1 v1 v1 v1 v1 v2 v2 h
noncomputable def onB (a:AV)(k:List Int→Prop):Prop:=@AV.casesOn (fun _=>Prop) a False w1 w1 w1 k w1 w1 w1 w1 w1 w2 w2
@[elab_as_elim] theorem ak6 {a:AV}{k}{P:AV→Prop}(h:onB a k)(f:∀i,k i→P (.bytes i)):P a:=@AV.casesOn (fun a=>onB a k→P a) a v0 v1 v1 v1 f v1 v1 v1 v1 v1 v2 v2 h
noncomputable def NS (a:AV)(k:Addr→Prop):Prop:=@AV.casesOn (fun _=>Prop) a False w1 w1 w1 w1 k w1 w1 w1 w1 w2 w2
@[elab_as_elim] theorem Sb {a:AV}{k}{P:AV→Prop}(h:NS a k)(f:∀i,k i→P (.ref i)):P a:=@AV.casesOn (fun a=>NS a k→P a) a v0 v1 v1 v1 v1 f v1 v1 v1 v1 v2 v2 h
noncomputable def onK (a:AV)(k:Value→Prop):Prop:=@AV.casesOn (fun _=>Prop) a False w1 w1 w1 w1 w1 k w1 w1 w1 w2 w2
@[elab_as_elim] theorem ak7 {a:AV}{k}{P:AV→Prop}(h:onK a k)(f:∀i,k i→P (.con i)):P a:=@AV.casesOn (fun a=>onK a k→P a) a v0 v1 v1 v1 v1 v1 f v1 v1 v1 v2 v2 h
noncomputable def onT (a:AV)(k:List AV→Prop):Prop:=@AV.casesOn (fun _=>Prop) a False w1 w1 w1 w1 w1 w1 k w1 w1 w2 w2
@[elab_as_elim] theorem Se {a:AV}{k}{P:AV→Prop}(h:onT a k)(f:∀i,k i→P (.tup i)):P a:=@AV.casesOn (fun a=>onT a k→P a) a v0 v1 v1 v1 v1 v1 v1 f v1 v1 v2 v2 h
noncomputable def Vg (a:AV)(k:List AV→Prop):Prop:=@AV.casesOn (fun _=>Prop) a False w1 w1 w1 w1 w1 w1 w1 k w1 w2 w2
@[elab_as_elim] theorem K5 {a:AV}{k}{P:AV→Prop}(h:Vg a k)(f:∀i,k i→P (.lst i)):P a:=@AV.casesOn (fun a=>Vg a k→P a) a v0 v1 v1 v1 v1 v1 v1 v1 f v1 v2 v2 h
noncomputable def Zn (a:AV)(k:Prop):Prop:=@AV.casesOn (fun _=>Prop) a k w1 w1 w1 w1 w1 w1 w1 w1 w1 w2 w2
@[elab_as_elim] theorem TS {a:AV}{k}{P:AV→Prop}(h:Zn a k)(f:k→P .none):P a:=@AV.casesOn (fun a=>Zn a k→P a) a f v1 v1 v1 v1 v1 v1 v1 v1 v1 v2 v2 h
theorem hO {c:Prop}[Decidable c]{A B P:Prop}(q:if c then A else B)(f:c→A→P)(g:¬c→B→P):P:=@dite P c _ (fun h=>f h ((if_pos h).mp q)) fun h=>g h ((if_neg h).mp q)
inductive RP (Z:Program)(G:Gd)(ak:List Env)(H:AH)(s:Shared)(Q:AV→AH→Prop)(v:Value)(s':Shared):Prop
 | mk (av:AV) (H':AH) (a:au Z G ak H' s') (b:aj Z G.w H' s'.heap av v) (c:Ext noOwn H s.heap H' s'.heap) (d:aF s s') (q:Q av H'):RP Z G ak H s Q v s'
noncomputable def eQ (Z:Program)(G:Gd)(cls:Value)(ak:List Env)(H:AH)(s:Shared)(Q:AV→AH→Prop)(X:AH→Prop)(r:Result)(s':Shared):Prop:=
 @Except.casesOn _ _ (fun _=>Prop) r (fun e=>XP Z G cls ak H s X e s') fun f=>@Flow.casesOn (fun _=>Prop) f False False False fun v=>RP Z G ak H s Q v s'
@[elab_as_elim] theorem oE {Z G cls ak H s Q X s'}{r:Result}{P:Result→Prop}(z:eQ Z G cls ak H s Q X r s')(f:∀v,RP Z G ak H s Q v s'→P (.ok (.ret v)))(g:∀e,XP Z G cls ak H s X e s'→P (.error e)):P r:=
 @Except.casesOn _ _ (fun r=>eQ Z G cls ak H s Q X r s'→P r) r g (fun fl=>@Flow.casesOn (fun fl=>eQ Z G cls ak H s Q X (.ok fl) s'→P (.ok fl)) fl v0 v0 v0 f) z
noncomputable def aw (Z:Program)(G:Gd)(cls:Value)(d:Nat)(f:Addr)(args:List AV)(H:AH)(Q:AV→AH→Prop)(X:AH→Prop):Prop:=
 ∀(A:Around) (ak:List Env) (s:Shared) (cargs:List Value),A.handled=none→A.frames=some ak→A.depth+d*4<recursionLimit→A.units+d*40+200<cLine→
  au Z G ak H s→am Z G.w H s.heap args cargs→codeAny (model Z G.w) A (.call (.ref f) ⟨cargs,[]⟩) (eQ Z G cls ak H s Q X) s
theorem eQ.mono {Z G cls ak H s Q Q' X X' r s'}(hQ:∀v h,Q v h→Q' v h)(hX:∀h,X h→X' h)(x:eQ Z G cls ak H s Q X r s'):eQ Z G cls ak H s Q' X' r s':=
 oE (P:=fun r=>eQ Z G cls ak H s Q' X' r s') x (fun v x=>RP.casesOn x fun av H' a b c d q=>⟨av,H',a,b,c,d,hQ _ _ q⟩) fun e x=>XP.casesOn x fun ea H' a b c d e q=>⟨ea,H',a,b,c,d,e,fun H2 s=>hX _ (q H2 s)⟩
theorem aw.mono {Z G cls d f args H Q Q' X X'}(x:aw Z G cls d f args H Q X)(hQ:∀v h,Q v h→Q' v h)(hX:∀h,X h→X' h):aw Z G cls d f args H Q' X':=
 fun A ak s cargs a b c e g r=>codeAny_mono (x A ak s cargs a b c e g r) fun _ _ p=>p.mono hQ hX
theorem aw.deeper {Z G cls d d' f args H Q X}(x:aw Z G cls d f args H Q X)(l:d≤d'):aw Z G cls d' f args H Q X:=
 fun A ak s cargs a b c e g r=>x A ak s cargs a b (Nat.lt_of_le_of_lt (Nat.add_le_add_left (Nat.mul_le_mul_right _ l) _) c) (Nat.lt_of_le_of_lt (Nat.add_le_add_right (Nat.add_le_add_left (Nat.mul_le_mul_right _ l) _) _) e) g r
inductive Fl where
 | next | brk | cont
 | ret (v:AV)
noncomputable def isData:Nat→AV→Bool
 | 0,v=>Tc v fun _=>true
 | n+1,v=>@AV.casesOn (fun _=>Bool) v false z1 (fun _=>true) z1 z1 z1 z1 (fun l=>l.all (isData n)) (fun l=>l.all (isData n)) z1 z2 z2
noncomputable def bR (H:AH)(v:AV)(xs:List AV):Prop:=@AV.casesOn (fun _=>Prop) v False w1 w1 w1 w1 (fun a=>H a=some (.list xs)) w1 w1 (fun l=>xs=l) w1 w2 w2
noncomputable def cY (H:AH)(v:AV)(xs:List (Int×AV)):Prop:=@AV.casesOn (fun _=>Prop) v False w1 w1 w1 w1 (fun a=>H a=some (.dict xs)) w1 w1 w1 (fun l=>xs=l) w2 w2
theorem LL {H:AH}{xs:List AV}{v:AV}{P:AV→Prop}(d:bR H v xs)(f:∀a,H a=some (.list xs)→P (.ref a))(g:P (.lst xs)):P v:=@AV.casesOn (fun v=>bR H v xs→P v) v v0 v1 v1 v1 v1 f v1 v1 (fun l e=>e▸g) v1 v2 v2 d
theorem VP {H:AH}{xs:List (Int×AV)}{v:AV}{P:AV→Prop}(d:cY H v xs)(f:∀a,H a=some (.dict xs)→P (.ref a))(g:P (.dC xs)):P v:=@AV.casesOn (fun v=>cY H v xs→P v) v v0 v1 v1 v1 v1 f v1 v1 v1 (fun l e=>e▸g) v2 v2 d
noncomputable def bo (l:List (Int×AV))(k:Int):Option AV:=(l.find? fun p=>p.1=k).map (·.2)
noncomputable def fQ:List (Int×AV)→Int→AV→List (Int×AV)
 | [],k,v=>[(k,v)]
 | p::r,k,v=>if p.1=k then(k,v)::r else p::fQ r k v
inductive xv {α:Type}(n:Nat)(v:α)(H:AH)(Q:α→AH→Prop):Prop
 | mk (a:n≤100000) (q:Q v H)
inductive afV (y:Int)(v:AV)(H:AH)(Q:AV→AH→Prop):Prop
 | mk (a:0<y) (q:Q v H)
inductive afZ (y:Int)(v:AV)(H:AH)(Q:AV→AH→Prop):Prop
 | mk (a:0≤y) (q:Q v H)
inductive afO (y:Int)(v:AV)(H:AH)(Q:AV→AH→Prop):Prop
 | mk (a:0<y) (b:y<2^30) (q:Q v H)
inductive acV (x y:Int)(v:AV)(H:AH)(Q:AV→AH→Prop):Prop
 | mk (a:0≤y) (b:y≤1000000) (c:-2^63<x) (d:x<2^63) (q:Q v H)
inductive acT (x y:Int)(H:AH)(Q:AV→AH→Prop):Prop
 | mk (a:(-2^63<x∧x<2^63)∨(-2^63<y∧y<2^63)) (q:Q (.int (x*y)) H)
inductive acU (x:List AV)(y:Int)(q:Prop):Prop
 | mk (a:x.length*y.toNat≤100000) (b:y<2^63) (c:-2^63<y) (q:q)
inductive acQ (b:Int)(v:AV)(H:AH)(Q:AV→AH→Prop):Prop
 | mk (h1:-2^62<b) (h2:b<2^62) (q:Q v H)
inductive afY (a b:Int)(H:AH)(Q:AV→AH→Prop):Prop
 | mk (h1:-2^62<a) (h2:a<2^62) (h3:-2^62<b) (h4:b<2^62) (q:Q (.uN a b) H)
inductive xw (a:AV)(f:List AV→AV)(H:AH)(Q:AV→AH→Prop):Prop
 | mk (xs:List AV) (d:bR H a xs) (z:xs.length≤100000) (q:Q (f xs) H)
noncomputable def Wu (a b:AV)(H:AH)(Q:AV→AH→Prop):Prop:=@AV.casesOn (fun _=>Prop) a False w1 (fun x=>ie b fun y=>Q (.int (x+y)) H) w1 w1 w1 w1 w1 (fun x=>Vg b fun y=>xv (x.length+y.length) (.lst (x++y)) H Q) w1 w2 w2
noncomputable def Yp (a b:AV)(H:AH)(Q:AV→AH→Prop):Prop:=@AV.casesOn (fun _=>Prop) a False w1 (fun x=>ie b fun y=>acT x y H Q) w1 w1 w1 w1 w1 (fun x=>ie b fun y=>acU x y (Q (.lst (List.replicate y.toNat x).flatten) H)) w1 w2 w2
noncomputable def fF (a b:AV)(k:Int→Int→Prop):Prop:=ie a fun x=>ie b (k x)
noncomputable def WD (op:Operator)(Q:AV→AH→Prop)(a b:AV)(H:AH):Prop:=@Operator.casesOn (fun _=>Prop) op
 (Wu a b H Q) (fF a b fun x y=>Q (.int (x-y)) H) (Yp a b H Q) False False (fF a b fun x y=>afV y (.int (x%y)) H Q) (fF a b fun x y=>acV x y (.int (x^y.toNat)) H Q)
 (fF a b fun x y=>acV x y (.int (x*2^y.toNat)) H Q) (fF a b fun x y=>afZ y (.int (x/2^y.toNat)) H Q) False False (fF a b fun x y=>Q (.int (Builtin.bitAnd x y)) H) (fF a b fun x y=>afO y (.int (x/y)) H Q)
noncomputable def Yt (Q:AV→AH→Prop)(a:AV)(H:AH):Prop:=ie a fun x=>Q (.int (-x)) H
inductive EqL (neg:Bool)(a b:AV)(H:AH)(Q:Bool→AH→Prop):Prop
 | mk (x y:List AV) (d1:bR H a x) (d2:bR H b y) (h1:isData 8 (.lst x)=true) (h2:isData 8 (.lst y)=true) (q:∀r:Bool,(r=true↔x=y)→Q (if neg then !r else r) H)
inductive EqD (neg:Bool)(a b:AV)(H:AH)(Q:Bool→AH→Prop):Prop
 | mk (x y:List (Int×AV)) (d1:cY H a x) (d2:cY H b y) (h1:∀p∈x,isData 1 p.2=true) (h2:∀p∈y,isData 1 p.2=true) (q:∀r:Bool,(r=true↔(x.length=y.length∧∀p∈x,bo y p.1=some p.2))→Q (if neg then !r else r) H)
inductive eqG (neg:Bool)(a b:AV)(H:AH)(Q:Bool→AH→Prop):Prop
 | inl (z:EqL neg a b H Q)
 | inr (z:EqD neg a b H Q)
inductive EqT (neg:Bool)(x y:List AV)(H:AH)(Q:Bool→AH→Prop):Prop
 | mk (h1:isData 8 (.tup x)=true) (h2:isData 8 (.tup y)=true) (q:∀r:Bool,(r=true↔x=y)→Q (if neg then !r else r) H)
noncomputable def Xi (neg:Bool)(a b:AV)(H:AH)(Q:Bool→AH→Prop):Prop:=@AV.casesOn (fun _=>Prop) a False w1 (fun x=>ie b fun y=>Q (if neg then !decide (x=y) else decide (x=y)) H) w1 w1 (fun r=>eqG neg (.ref r) b H Q) w1
 (fun x=>onT b fun y=>EqT neg x y H Q) (fun l=>eqG neg (.lst l) b H Q) (fun l=>eqG neg (.dC l) b H Q) w2 w2
noncomputable def ac5 (r:Bool)(a b:AV)(H:AH)(Q:Bool→AH→Prop):Prop:=Zn b (@AV.casesOn (fun _=>Prop) a (Q r H) w1 (fun _=>Q (!r) H) w1 w1 w1 w1 w1 w1 w1 w2 w2)
inductive afX (b:AV)(k:Int)(H:AH)(Q:Bool→AH→Prop):Prop
 | mk (l:List (Int×AV)) (d:cY H b l) (q:Q (bo l k).isNone H)
noncomputable def AX (op:CmpOp)(Q:Bool→AH→Prop)(a b:AV)(H:AH):Prop:=@CmpOp.casesOn (fun _=>Prop) op
 (Xi false a b H Q) (Xi true a b H Q) (fF a b fun x y=>Q (decide (x<y)) H) (fF a b fun x y=>Q (decide (x≤y)) H) (fF a b fun x y=>Q (decide (x>y)) H) (fF a b fun x y=>Q (decide (x≥y)) H) (ac5 true a b H Q) (ac5 false a b H Q) False
 (ie a fun k=>afX b k H Q)
noncomputable def d9 (Q:Bool→AH→Prop)(a:AV)(H:AH):Prop:=TO a fun b=>Q b H
noncomputable def itemAt (xs:List AV)(i:Int):Option AV:=if i<0 then(if -i≤xs.length then xs[(i+xs.length).toNat]? else none) else xs[i.toNat]?
inductive itR (xs:List AV)(k:Int)(H:AH)(Q:AV→AH→Prop):Prop
 | mk (a:-2^62<k) (b:k<2^62) (v:AV) (e:itemAt xs k=some v) (q:Q v H)
inductive afL (xs:List Int)(k:Int)(H:AH)(Q:AV→AH→Prop):Prop
 | mk (z:xs.length≤100000) (a:0≤k) (b:k<2^62) (v:Int) (e:xs[k.toNat]? =some v) (q:Q (.int v) H)
inductive VO (l:List (Int×AV))(k:Int)(H:AH)(Q:AV→AH→Prop):Prop
 | mk (v:AV) (e:bo l k=some v) (q:Q v H)
inductive IxL (a:Addr)(k:Int)(H:AH)(Q:AV→AH→Prop):Prop
 | mk (xs:List AV) (e:H a=some (.list xs)) (q:itR xs k H Q)
inductive IxD (a:Addr)(k:Int)(H:AH)(Q:AV→AH→Prop):Prop
 | mk (l:List (Int×AV)) (e:H a=some (.dict l)) (q:VO l k H Q)
inductive IxR (a:Addr)(k:Int)(H:AH)(Q:AV→AH→Prop):Prop
 | inl (z:IxL a k H Q)
 | inr (z:IxD a k H Q)
noncomputable def Ii (Q:AV→AH→Prop)(a i:AV)(H:AH):Prop:=@AV.casesOn (fun _=>Prop) a False w1 w1 w1 (fun xs=>ie i fun k=>afL xs k H Q)
 (fun a=>ie i fun k=>IxR a k H Q) w1 (fun xs=>ie i fun k=>itR xs k H Q) (fun xs=>ie i fun k=>itR xs k H Q) (fun l=>ie i fun k=>VO l k H Q) w2 w2
noncomputable def Sh (v:AV):Option (Option Int):=@AV.casesOn (fun _=>Option (Option Int)) v (some none) (fun _=>none) (fun k=>some (some k)) (fun _=>none) (fun _=>none) (fun _=>none) (fun _=>none) (fun _=>none) (fun _=>none) (fun _=>none) (fun _ _=>none) (fun _ _=>none)
noncomputable def cU {α:Type}(xs:List α)(lo hi:Option Int):List α:=(xs.drop (kms_lo lo xs.length)).take (kms_hi hi xs.length-kms_lo lo xs.length)
noncomputable def aiz (Q:AV→AH→Prop)(a:AV)(H:AH)(l u:Option Int):Prop:=@AV.casesOn (fun _=>Prop) a False w1 w1 w1 (fun xs=>xv xs.length (.bytes (cU xs l u)) H Q) (fun r=>xw (.ref r) (fun xs=>.lst (cU xs l u)) H Q) w1 w1 (fun x=>xw (.lst x) (fun xs=>.lst (cU xs l u)) H Q) w1 w2 w2
inductive ZY (Q:AV→AH→Prop)(a lo hi:AV)(H:AH):Prop
 | mk (l u:Option Int) (e1:Sh lo=some l) (e2:Sh hi=some u) (q:aiz Q a H l u)
noncomputable def ZL (Q:AV→AH→Prop)(a:AV)(H:AH):Prop:=xw a (fun xs=>.lst xs.reverse) H Q
noncomputable def pI (fs:List (String×AV))(nm:String):Option AV:=(fs.find? fun p=>p.1=nm).map (·.2)
noncomputable def N5:List (String×AV)→String→AV→List (String×AV)
 | [],k,v=>[(k,v)]
 | p::r,k,v=>if p.1=k then(k,v)::r else p::N5 r k v
noncomputable def aV (K:Frag)(C:Addr)(nm:String):Prop:=plainGet K C (Str.ofString nm)=true∧hasDictIn K C=true∧findIn K (.ref C) (Str.ofString nm)=some none
noncomputable def bu (K:Frag)(C:Addr)(nm:String):Prop:=findIn K (.ref C) "__setattr__" =some (some (.builtin "object.__setattr__"))∧plainOver K C=true∧takerIn K C (Str.ofString nm)=some none∧hasDictIn K C=true
noncomputable def bf (K:Frag)(C:Addr)(nm:String)(f:Addr):Prop:=findIn K (.ref C) "__getattribute__" =some (some (.builtin "object.__getattribute__"))∧findIn K (.ref C) "__getattr__" =some none∧
 findIn K (.ref C) (Str.ofString nm)=some (some (.ref f))∧typeIn K (.ref f)=some (.type "function")∧fnIn K f=true
noncomputable def PU (v:AV):Bool:=@AV.casesOn (fun _=>Bool) v true (fun _=>true) (fun _=>true) (fun _=>true) (fun _=>true) (fun _=>true) (fun _=>false) (fun _=>true) (fun _=>true) (fun _=>true) (fun _ _=>true) (fun _ _=>true)
inductive Pf (G:Gd)(C:Addr)(fs:List (String×AV))(nm:String)(H:AH)(Q:AV→AH→Prop):Prop
 | mk (ok:aV G.K C nm) (v:AV) (e:pI fs nm=some v) (n:PU v=true) (q:Q v H)
inductive AtI (G:Gd)(a:Addr)(nm:String)(H:AH)(Q:AV→AH→Prop):Prop
 | mk (C dx:Addr) (fs:List (String×AV)) (h1:H a=some (.inst C dx)) (h2:H dx=some (.attrs fs)) (q:Pf G C fs nm H Q)
noncomputable def SI (G:Gd)(nm:String)(Q:AV→AH→Prop)(a:AV)(H:AH):Prop:=@AV.casesOn (fun _=>Prop) a False w1 w1 w1 w1 (fun a=>AtI G a nm H Q) w1 w1 w1 w1 (fun C fs=>Pf G C fs nm H Q) w2
inductive SaI (G:Gd)(nm:String)(v:AV)(Q:AH→Prop)(a:Addr)(H:AH):Prop
 | mk (C dx:Addr) (fs:List (String×AV)) (h1:H a=some (.inst C dx)) (h2:H dx=some (.attrs fs)) (ok:bu G.K C nm) (z:fs.length≤500) (q:Q (H.set dx (.attrs (N5 fs nm v))))
noncomputable def mw (G:Gd)(nm:String)(v:AV)(Q:AH→Prop)(a:AV)(H:AH):Prop:=NS a fun a=>SaI G nm v Q a H
inductive SiL (v:AV)(Q:AH→Prop)(a:Addr)(k:Int)(H:AH):Prop
 | mk (xs:List AV) (e:H a=some (.list xs)) (h0:0≤k) (h1:k<xs.length) (h2:k<2^62) (q:Q (H.set a (.list (xs.set k.toNat v))))
inductive SiD (v:AV)(Q:AH→Prop)(a:Addr)(k:Int)(H:AH):Prop
 | mk (l:List (Int×AV)) (e:H a=some (.dict l)) (z:l.length≤100000) (q:Q (H.set a (.dict (fQ l k v))))
inductive SiR (v:AV)(Q:AH→Prop)(a:Addr)(k:Int)(H:AH):Prop
 | inl (z:SiL v Q a k H)
 | inr (z:SiD v Q a k H)
noncomputable def GU (v:AV)(Q:AH→Prop)(a i:AV)(H:AH):Prop:=NS a fun a=>ie i fun k=>SiR v Q a k H
noncomputable def fR:List AV→Option Int
 | []=>some 0
 | a::r=>@AV.casesOn (fun _=>Option Int) a none (fun _=>none) (fun x=>(fR r).map (x+·)) (fun _=>none) (fun _=>none) (fun _=>none) (fun _=>none) (fun _=>none) (fun _=>none) (fun _=>none) (fun _ _=>none) (fun _ _=>none)
noncomputable def Yc (a:AV)(H:AH)(Q:AV→AH→Prop):Prop:=@AV.casesOn (fun _=>Prop) a False w1 w1 w1 (fun xs=>xv xs.length (.int xs.length) H Q) (fun r=>xw (.ref r) (fun xs=>.int xs.length) H Q) w1 (fun xs=>xv xs.length (.int xs.length) H Q) (fun x=>xw (.lst x) (fun xs=>.int xs.length) H Q) w1 w2 w2
inductive zF (a:AV)(H:AH)(Q:AV→AH→Prop):Prop
 | mk (l:List (Int×AV)) (d:cY H a l) (z:l.length<64) (q:∀xs:List Int,xs.Perm (l.map (·.1))→xs.Pairwise (· ≤·)→Q (.lst (xs.map .int)) H)
inductive acW (a:AV)(H:AH)(Q:AV→AH→Prop):Prop
 | mk (xs:List AV) (t:Int) (d:bR H a xs) (e:fR xs=some t) (z:xs.length≤100000) (q:Q (.int t) H)
noncomputable def acX (id:String)(args:List AV)(H:AH)(Q:AV→AH→Prop):Prop:=
 if id="len" then pN args fun a=>Yc a H Q
 else if id="abs" then pN args fun a=>ie a fun x=>Q (.int x.natAbs) H
 else if id="max" then TM args fun a b=>fF a b fun x y=>Q (.int (max x y)) H
 else if id="min" then TM args fun a b=>fF a b fun x y=>Q (.int (min x y)) H
 else if id="sum" then pN args fun a=>acW a H Q
 else if id="sorted" then pN args fun a=>zF a H Q
 else False
inductive WK (a:AV)(H:AH)(Q:AV→AH→Prop):Prop
 | mk (xs:List Int) (d:bR H a (xs.map .int)) (b:∀x∈xs,0≤x∧x<256) (z:xs.length≤1000) (q:Q (.bytes xs) H)
noncomputable def WL (a:AV)(H:AH)(Q:AV→AH→Prop):Prop:=@AV.casesOn (fun _=>Prop) a False w1 w1 w1 (fun l=>Q (.bytes l) H) (fun r=>WK (.ref r) H Q) w1 w1 (fun x=>WK (.lst x) H Q) w1 w2 w2
noncomputable def afg (a:AV)(r:List AV)(H:AH)(Q:AV→AH→Prop):Prop:=@List.casesOn AV (fun _=>Prop) r (ie a fun b=>acQ b (.uN 0 b) H Q) fun b r=>Zk r (fF a b fun a b=>afY a b H Q)
inductive zv (a:AV)(H:AH)(Q:AV→AH→Prop):Prop
 | mk (l:List (Int×AV)) (d:bR H a (l.map fun p=>.tup [.int p.1,p.2])) (z:l.length≤1000) (n:(l.map (·.1)).Nodup) (q:Q (.dC l) H)
noncomputable def adm (id:String)(args:List AV)(H:AH)(Q:AV→AH→Prop):Prop:=
 if id="int" then pN args fun a=>TO a fun b=>Q (.int (if b then 1 else 0)) H
 else if id="bytes" then pN args fun a=>WL a H Q
 else if id="range" then U8 args fun a r=>afg a r H Q
 else if id="dict" then pN args fun a=>zv a H Q
 else False
noncomputable def onV (v:Value)(k k':String→Prop):Prop:=@Value.casesOn (fun _=>Prop) v False False False w1 w2 w2 w2 w2 k' k w1
@[elab_as_elim] theorem afd {v:Value}{k k'}{P:Value→Prop}(h:onV v k k')(f:∀i,k i→P (.builtin i))(g:∀i,k' i→P (.type i)):P v:=@Value.casesOn (fun v=>onV v k k'→P v) v v0 v0 v0 v1 v2 v2 v2 v2 g f v1 h
inductive adn (Z:Program)(G:Gd)(cls:Value)(d:Nat)(Q:AV→AH→Prop)(X:AH→Prop)(f:Addr)(args:List AV)(H:AH):Prop
 | mk (k:keepIn G.K (.ref f)=true∨∃c aQ,H f=some (.func c aQ)) (q:aw Z G cls d f args H Q X)
noncomputable def qa (Z:Program)(G:Gd)(cls:Value)(d:Nat)(Q:AV→AH→Prop)(X:AH→Prop)(f:AV)(args:List AV)(H:AH):Prop:=@AV.casesOn (fun _=>Prop) f False w1 w1 w1 w1
 (fun f=>adn Z G cls d Q X f args H) (fun v=>onV v (fun id=>acX id args H Q) fun id=>adm id args H Q) w1 w1 w1 w2 w2
inductive MK where
 | fn (f:Addr)
 | append
 | get
 | bits
inductive MtI (G:Gd)(nm:String)(Q:MK→Prop)(o:Addr)(H:AH):Prop
 | mk (C dx:Addr) (fs:List (String×AV)) (f:Addr) (h1:H o=some (.inst C dx)) (h2:H dx=some (.attrs fs)) (ok:bf G.K C nm f) (e:pI fs nm=none) (q:Q (.fn f))
inductive MtL (nm:String)(Q:MK→Prop)(o:Addr)(H:AH):Prop
 | mk (xs:List AV) (h:H o=some (.list xs)) (e:nm="append") (q:Q .append)
inductive MtD (nm:String)(Q:MK→Prop)(o:Addr)(H:AH):Prop
 | mk (l:List (Int×AV)) (h:H o=some (.dict l)) (e:nm="get") (q:Q .get)
inductive MtB (nm:String)(Q:MK→Prop)(o:Addr)(H:AH):Prop
 | inl (z:MtL nm Q o H)
 | inr (z:MtD nm Q o H)
inductive MtR (G:Gd)(nm:String)(Q:MK→Prop)(o:Addr)(H:AH):Prop
 | inl (z:MtI G nm Q o H)
 | inr (z:MtB nm Q o H)
inductive MtO (G:Gd)(nm:String)(Q:MK→Prop)(C:Addr)(fs:List (String×AV)):Prop
 | mk (f:Addr) (ok:bf G.K C nm f) (e:pI fs nm=none) (q:Q (.fn f))
inductive MtN (a nm:String)(k:MK)(Q:MK→Prop):Prop
 | mk (e:nm=a) (q:Q k)
noncomputable def ql (G:Gd)(nm:String)(Q:MK→Prop)(a:AV)(H:AH):Prop:=@AV.casesOn (fun _=>Prop) a False w1 (fun _=>MtN "bit_length" nm .bits Q) w1 w1
 (fun o=>MtR G nm Q o H) w1 w1 w1 (fun _=>MtN "get" nm .get Q) (fun C fs=>MtO G nm Q C fs) w2
inductive afK (o:Addr)(v:AV)(H:AH)(Q:AV→AH→Prop):Prop
 | mk (xs:List AV) (h:H o=some (.list xs)) (z:xs.length≤100000) (q:Q .none (H.set o (.list (xs++[v]))))
inductive afS (a:AV)(k:Int)(v:AV)(H:AH)(Q:AV→AH→Prop):Prop
 | mk (l:List (Int×AV)) (d:cY H a l) (q:Q ((bo l k).getD v) H)
noncomputable def GD (Z:Program)(G:Gd)(cls:Value)(d:Nat)(Q:AV→AH→Prop)(X:AH→Prop)(k:MK)(a:AV)(args:List AV)(H:AH):Prop:=@MK.casesOn (fun _=>Prop) k
 (fun f=>aw Z G cls d f (a::args) H Q X) (NS a fun o=>pN args fun v=>afK o v H Q)
 (TM args fun k v=>ie k fun k=>afS a k v H Q) (ie a fun x=>Zk args (Q (.int (Builtin.Int.intBits x)) H))
mutual
inductive Fz:AH→AV→AV→AH→Prop
 | same {H v}:Fz H v v H
 | list {H:AH} {a l}:H a=some (.list l)→Fz H (.ref a) (.lst l) (H.drop a)
 | dict {H:AH} {a l}:H a=some (.dict l)→Fz H (.ref a) (.dC l) (H.drop a)
 | obj {H H':AH} {a C dx fs Ph}:H a=some (.inst C dx)→H dx=some (.attrs fs)→FzF ((H.drop a).drop dx) fs Ph H'→Fz H (.ref a) (.obj C Ph) H'
inductive FzF:AH→List (String×AV)→List (String×AV)→AH→Prop
 | nil {H}:FzF H [] [] H
 | cons {H H1 H2 k v v' fs Ph}:Fz H v v' H1→FzF H1 fs Ph H2→FzF H ((k,v)::fs) ((k,v')::Ph) H2
end
noncomputable def Nk (Q:AV→AH→Prop)(o:AO)(H:AH):Prop:=∀a,H a=none→Q (.ref a) (H.set a o)
noncomputable def SW (op:Operator)(Q:AV→AH→Prop)(a b:AV)(H:AH):Prop:=@Operator.casesOn (fun _=>Prop) op
 (Vg a fun x=>Vg b fun y=>xv (x.length+y.length) (.list (x++y)) H (Nk Q)) False
 (Vg a fun x=>ie b fun y=>acU x y (Nk Q (.list (List.replicate y.toNat x).flatten) H)) False False False False False False False False False False
noncomputable def cL:Nat→List Int→List (Int×AV)
 | _,[]=>[]
 | i,x::r=>if 0<x then((i:Int),.int x)::cL (i+1) r else cL (i+1) r
inductive Src where
 | items (l:List AV)
 | live (a:Addr) (l:List AV)
noncomputable def Src.all (s:Src):List AV:=@Src.casesOn (fun _=>List AV) s (fun l=>l) fun _ l=>l
noncomputable def Src.here (H:AH)(s:Src):Prop:=@Src.casesOn (fun _=>Prop) s (fun _=>True) fun a l=>H a=some (.list l)
inductive SrcL (k:Src→AH→Prop)(a:Addr)(H:AH):Prop
 | mk (l:List AV) (h:H a=some (.list l)) (z:l.length≤100000) (q:k (.live a l) H)
inductive SrcR (lo hi:Int)(H:AH)(k:Src→AH→Prop):Prop
 | mk (a:-2^61<lo) (b:lo<2^61) (c:-2^61<hi) (d:hi<2^61) (z:(hi-lo).toNat≤100000) (q:k (.items ((List.range (hi-lo).toNat).map fun i:Nat=>.int (lo+(i:Int)))) H)
noncomputable def Lp (k:Src→AH→Prop)(v:AV)(H:AH):Prop:=@AV.casesOn (fun _=>Prop) v False w1 w1 w1 (fun l=>xv l.length (.items (l.map .int)) H k) (fun a=>SrcL k a H) w1 w1
 (fun l=>xv l.length (.items l) H k) (fun l=>xv l.length (.items (l.map fun p=>.int p.1)) H k) w2
 (fun lo hi=>SrcR lo hi H k)
end
section
set_option genInjectivity false
set_option backward.match.sparseCases false
variable (Z:Program)(G:Gd)(cls:Value)
noncomputable def flQ (H':AH)(h:Heap)(Q:Fl→Prop)(f:Flow):Prop:=@Flow.casesOn (fun _=>Prop) f (Q .next) (Q .brk) (Q .cont) fun v=>∃av,aj Z G.w H' h av v∧Q (.ret av)
noncomputable def flC (n b c:Prop)(r:AV→Prop)(f:Fl):Prop:=@Fl.casesOn (fun _=>Prop) f n b c r
inductive SP (C:FC)(vt:List VK)(H:AH)(s:Shared)(Q:Fl→Sg→AH→Prop)(f:Flow)(s':Shared):Prop
 | mk (σ':Sg) (H':AH) (a:Rep Z G C vt σ' H' s') (b:Ext C.own H s.heap H' s'.heap) (c:aF s s') (q:flQ Z G H' s'.heap (fun fl=>Q fl σ' H') f):SP C vt H s Q f s'
noncomputable def ur:AH→Prop:=fun _=>False
noncomputable def Vk {α β:Type}(f:α→β)(Q:β→AH→Prop):α→AH→Prop:=fun a H=>Q (f a) H
noncomputable def f0 {α β:Type}(e:Sg→AH→(β→AH→Prop)→(AH→Prop)→Prop)(σ:Sg)(X:AH→Prop)(k:α→β→AH→Prop):α→AH→Prop:=fun a H=>e σ H (k a) X
noncomputable def ac8 (Q:Bool→AH→Prop):Bool→AH→Prop:=fun b=>Q (!b)
noncomputable def X5 {β:Type}(ea eb:Sg→AH→β→(AH→Prop)→Prop)(σ:Sg)(Q:β)(X:AH→Prop):Bool→AH→Prop:=fun r H=>if r=true then ea σ H Q X else eb σ H Q X
noncomputable def W5 (o1 o2:CmpOp)(e:Sg→AH→(AV→AH→Prop)→(AH→Prop)→Prop)(σ:Sg)(Q:Bool→AH→Prop)(X:AH→Prop):AV→AV→AH→Prop:=fun x y=>AX o1 (fun r H=>if r=true then e σ H (AX o2 Q y) X else Q false H) x y
noncomputable def af4 (b:Bool)(t:Sg→AH→(AV→AH→Prop)→(AH→Prop)→Prop)(σ:Sg)(Q:AV→AH→Prop)(X:AH→Prop):AV→AH→Prop:=fun v=>d9 (fun r H=>if r=b then t σ H Q X else Q v H) v
noncomputable def tsK (b:Bool)(t:Sg→AH→(Bool→AH→Prop)→(AH→Prop)→Prop)(σ:Sg)(Q:Bool→AH→Prop)(X:AH→Prop):Bool→AH→Prop:=fun r H=>if r=b then t σ H Q X else Q (!b) H
noncomputable def adL (t:Sg→AH→(Bool→AH→Prop)→Prop)(σ:Sg)(Q:Bool→AH→Prop):Bool→AH→Prop:=fun r H=>if r=true then t σ H Q else Q false H
inductive VQ (Q:AV→AH→Prop)(v:AV)(H:AH):Prop
 | mk (v':AV) (H':AH) (f:Fz H v v' H') (q:Q v' H')
noncomputable def aiA (e:Sg→AH→(AV→AH→Prop)→(AH→Prop)→Prop)(σ:Sg)(Q:AV→AH→Prop)(X:AH→Prop):AV→AV→AH→Prop:=fun x=>f0 e σ X (ZY Q x)
noncomputable def ae1 (Z:Program)(G:Gd)(cls:Value)(d:Nat)(e:Sg→AH→(List AV→AH→Prop)→(AH→Prop)→Prop)(σ:Sg)(Q:AV→AH→Prop)(X:AH→Prop)(o:AV)(H:AH):MK→Prop:=fun k=>e σ H (GD Z G cls d Q X k o) X
noncomputable def Yn (Z:Program)(G:Gd)(cls:Value)(d:Nat)(nm:String)(e:Sg→AH→(List AV→AH→Prop)→(AH→Prop)→Prop)(σ:Sg)(Q:AV→AH→Prop)(X:AH→Prop):AV→AH→Prop:=fun o H=>ql G nm (ae1 Z G cls d e σ Q X o H) o H
noncomputable def adG (Z:Program)(G:Gd)(cls:Value)(d:Nat)(f:Addr)(Q:AV→AH→Prop)(X:AH→Prop):List AV→AH→Prop:=fun vs H=>aw Z G cls d f vs H Q X
noncomputable def adN (Q:List AV→AH→Prop):AV→List AV→AH→Prop:=fun v vs=>Q (v::vs)
noncomputable def lstK (Q:AV→AH→Prop):List AV→AH→Prop:=fun l H=>∀H',Sub H H'→Q (.lst l) H'
noncomputable def aeU (K:Option AV→Sg→AH→Prop)(σ:Sg):AV→AH→Prop:=fun y=>K (some y) σ
noncomputable def adM (e:Sg→AH→(AV→AH→Prop)→(AH→Prop)→Prop)(K:Option AV→Sg→AH→Prop)(σ:Sg):Bool→AH→Prop:=fun b H=>if b=true then e σ H (aeU K σ) ur else K none σ H
noncomputable def abg (c:Sg→AH→(Bool→AH→Prop)→Prop)(e:Sg→AH→(AV→AH→Prop)→(AH→Prop)→Prop)(K:Option AV→Sg→AH→Prop):Sg→AH→Prop:=fun σ H=>c σ H (adM e K σ)
noncomputable def Ho (t:AV→Sg→AH→(Sg→AH→Prop)→Prop)(c:Sg→AH→(Bool→AH→Prop)→Prop)(e:Sg→AH→(AV→AH→Prop)→(AH→Prop)→Prop):AV→Sg→AH→(Option AV→Sg→AH→Prop)→Prop:=fun x σ H K=>t x σ H (abg c e K)
inductive Wq (i:Nat)(v:AV)(σ:Sg)(H:AH)(Q:Sg→AH→Prop):Prop
 | mk (h:i<σ.length) (q:Q (σ.set i (some v)) H)
inductive af0 (n:Nat)(k:List AV→Sg→AH→(Sg→AH→Prop)→Prop)(σ:Sg)(H:AH)(Q:Sg→AH→Prop)(vs:List AV):Prop
 | mk (h:vs.length=n) (q:k vs σ H Q)
inductive VT (vs:List AV)(σ:Sg)(H:AH)(Q:Sg→AH→Prop):Prop
 | mk (h:vs=[]) (q:Q σ H)
inductive afM (c:Addr)(v:AV)(σ:Sg)(H:AH)(Q:Sg→AH→Prop):Prop
 | mk (o:Option AV) (h:H c=some (.cell o)) (q:Q σ (H.set c (.cell (some v))))
inductive afN (c:Addr)(H:AH)(Q:AV→AH→Prop):Prop
 | mk (v:AV) (h:H c=some (.cell (some v))) (q:Q v H)
noncomputable def Wz (t:List AV→Sg→AH→(Sg→AH→Prop)→Prop)(vs:List AV)(Q:Sg→AH→Prop):Sg→AH→Prop:=fun σ H=>t vs σ H Q
noncomputable def af6 (t:AV→Sg→AH→(Sg→AH→Prop)→Prop)(σ:Sg)(Q:Sg→AH→Prop):AV→AH→Prop:=fun v H=>t v σ H Q
noncomputable def adh (i:Nat)(σ:Sg)(Q:Sg→AH→Prop):AV→AH→Prop:=fun v H=>Wq i v σ H Q
noncomputable def af7 (i:Nat)(σ:Sg)(Q:Sg→AH→Prop)(x:AV):AV→AH→Prop:=fun v H=>fF x v fun x y=>Q (σ.set i (some (.int (x+y)))) H
noncomputable def gm (σ:Sg)(Q:Sg→AH→Prop):AV→AH→Prop:=fun _ H=>Q σ H
noncomputable def ah9 (σ:Sg)(Q:Fl→Sg→AH→Prop):AV→AH→Prop:=fun v H=>Q (.ret v) σ H
noncomputable def aiy (t:Sg→AH→(Fl→Sg→AH→Prop)→(AH→Prop)→Prop)(Q:Fl→Sg→AH→Prop)(X:AH→Prop):Fl→Sg→AH→Prop:=fun fl σ H=>flC (t σ H Q X) (Q .brk σ H) (Q .cont σ H) (fun v=>Q (.ret v) σ H) fl
noncomputable def Z8 (t:Sg→AH→(Bool→AH→Prop)→(AH→Prop)→Prop):Sg→AH→(Bool→AH→Prop)→Prop:=fun σ H K=>t σ H K ur
noncomputable def WG (t:Sg→AH→(Fl→Sg→AH→Prop)→(AH→Prop)→Prop):Sg→AH→(Fl→Sg→AH→Prop)→Prop:=fun σ H K=>t σ H K ur
noncomputable def afu (t:Sg→AH→(Fl→Sg→AH→Prop)→(AH→Prop)→Prop)(K:Fl→Sg→AH→Prop):Sg→AH→Prop:=fun σ H=>t σ H K ur
noncomputable def MF (a:AV→Sg→AH→(Sg→AH→Prop)→Prop)(t:Sg→AH→(Fl→Sg→AH→Prop)→(AH→Prop)→Prop):AV→Sg→AH→(Fl→Sg→AH→Prop)→Prop:=fun x σ H K=>a x σ H (afu t K)
inductive acS (i:Nat)(σ:Sg)(Q:Sg→AH→Prop)(v:AV)(H:AH):Prop
 | mk (xs:List Int) (d:bR H v (xs.map .int)) (z:xs.length≤1000) (h:i<σ.length) (q:∀a H',Sub H H'→H a=none→H' a=some (.dict (cL 0 xs))→Q (σ.set i (some (.ref a))) H')
noncomputable def dk (src:Src)(step:AV→Sg→AH→(Option AV→Sg→AH→Prop)→Prop):List AV→List AV→Sg→AH→(List AV→AH→Prop)→Prop
 | [],acc,_,H,Q=>src.here H∧acc.length≤100000∧Q acc H
 | x::r,acc,σ,H,Q=>src.here H∧step x σ H (fun o σ' H'=>dk src step r (acc++o.toList) σ' H' Q)
noncomputable def gH (src:Src)(step:AV→Sg→AH→(Fl→Sg→AH→Prop)→Prop):List AV→Sg→AH→(Fl→Sg→AH→Prop)→Prop
 | [],σ,H,Q=>src.here H∧∀H',Sub H H'→Q .next σ H'
 | x::r,σ,H,Q=>src.here H∧step x σ H (fun fl σ' H'=>flC (gH src step r σ' H' Q) (Q .next σ' H') (gH src step r σ' H' Q) (fun v=>Q (.ret v) σ' H') fl)
noncomputable def adK (step:AV→Sg→AH→(Option AV→Sg→AH→Prop)→Prop)(σ:Sg)(Q:AV→AH→Prop):Src→AH→Prop:=fun src H=>∀H',Sub H H'→dk src step src.all [] σ H' (lstK Q)
noncomputable def agn (step:AV→Sg→AH→(Fl→Sg→AH→Prop)→Prop)(σ:Sg)(Q:Fl→Sg→AH→Prop):Src→AH→Prop:=fun src H=>∀H',Sub H H'→gH src step src.all σ H' Q
noncomputable def jU (test:Sg→AH→(Bool→AH→Prop)→Prop)(body:Sg→AH→(Fl→Sg→AH→Prop)→Prop):Nat→Sg→AH→(Fl→Sg→AH→Prop)→Prop
 | 0,_,_,_=>False
 | n+1,σ,H,Q=>test σ H (fun b H1=>if b=true then body σ H1 (fun fl σ' H'=>flC (jU test body n σ' H' Q) (Q .next σ' H') (jU test body n σ' H' Q) (fun v=>Q (.ret v) σ' H') fl) else Q .next σ H1)
noncomputable def jV (K:Frag)(C:Addr)(nm:String)(f:Addr):Prop:=readsIn K C (.type "type")=true∧findCls K (.ref C) (.type "type") (Str.ofString nm)=some (.val (.ref f))∧fnIn K f=true∧specialIn K (.ref C) "__getattribute__" =some (some (.builtin "type.__getattribute__"))
noncomputable def UD (cs:List (Sg→AH→(Bool→AH→Prop)→Prop))(σ:Sg)(H:AH)(Q:Bool→AH→Prop):Prop:=match cs with
 | []=>Q true H
 | c::r=>c σ H (fun b H1=>if b=true then UD r σ H1 Q else Q false H1)
noncomputable def lS (aQ:List (Str×Nat))(σ:Sg):List (Str×Addr):=aQ.map fun p=>(p.1,@Option.casesOn _ (fun _=>Addr) (σ[p.2]?:Option (Option AV)) 0 fun o=>@Option.casesOn _ (fun _=>Addr) o 0 fun v=>@AV.casesOn (fun _=>Addr) v 0 (fun _=>0) (fun _=>0) (fun _=>0) (fun _=>0) (fun c=>c) (fun _=>0) (fun _=>0) (fun _=>0) (fun _=>0) (fun _ _=>0) (fun _ _=>0))
mutual
noncomputable def bI (d:Nat):MX→Sg→AH→(AV→AH→Prop)→(AH→Prop)→Prop
 | .var i,σ,H,Q,_=>(mj σ[i]? fun o=>mj o fun v=>Q v H)
 | .bb i,σ,H,Q,_=>(mj σ[i]? fun o=>mj o fun u=>NS u fun c=>afN c H Q)
 | .glob _ v,_,H,Q,_=>Q v H
 | .lit v,_,H,Q,_=>Q v H
 | .bin op a b,σ,H,Q,X=>bI d a σ H (f0 (bI d b) σ X (WD op Q)) X
 | .cmp op a b,σ,H,Q,X=>bI d a σ H (f0 (bI d b) σ X (AX op (Vk .bool Q))) X
 | .rl o1 o2 a b c,σ,H,Q,X=>bI d a σ H (f0 (bI d b) σ X (W5 o1 o2 (bI d c) σ (Vk .bool Q) X)) X
 | .and l,σ,H,Q,X=>Ly d true l σ H Q X
 | .or l,σ,H,Q,X=>Ly d false l σ H Q X
 | .not a,σ,H,Q,X=>bI d a σ H (d9 (ac8 (Vk .bool Q))) X
 | .neg a,σ,H,Q,X=>bI d a σ H (Yt Q) X
 | .ite c a b,σ,H,Q,X=>u7 d c σ H (X5 (bI d a) (bI d b) σ Q X) X
 | .tup l,σ,H,Q,X=>pY d l σ H (Vk .tup Q) X
 | .lst l,σ,H,Q,X=>pY d l σ H (Vk .lst Q) X
 | .gx l,σ,H,Q,X=>pY d l σ H (Vk .list (Nk Q)) X
 | .eK,_,H,Q,_=>Nk Q (.dict []) H
 | .wz i u,σ,H,Q,_=>(mj σ[i]? fun o=>mj o fun v=>ie v fun n=>Nk Q (.dict [(n,u)]) H)
 | .rn op a b,σ,H,Q,X=>bI d a σ H (f0 (bI d b) σ X (SW op Q)) X
 | .E3 a,σ,H,Q,X=>bI d a σ H (VQ Q) X
 | .idx a i,σ,H,Q,X=>bI d a σ H (f0 (bI d i) σ X (Ii Q)) X
 | .sL a lo hi,σ,H,Q,X=>bI d a σ H (f0 (bI d lo) σ X (aiA (bI d hi) σ Q X)) X
 | .absent,_,H,Q,_=>Q .none H
 | .rev a,σ,H,Q,X=>bI d a σ H (ZL Q) X
 | .attr a nm,σ,H,Q,X=>bI d a σ H (SI G nm Q) X
 | .call f args,σ,H,Q,X=>bI d f σ H (f0 (pY d args) σ X (qa Z G cls d Q X)) X
 | .aJ a nm args,σ,H,Q,X=>bI d a σ H (Yn Z G cls d nm (pY d args) σ Q X) X
 | .wo _ C nm f args,σ,H,Q,X=>jV G.K C nm f∧pY d args σ H (adG Z G cls d f Q X) X
 | .comp elt nms tg it bk,σ,H,Q,X=>bI d it σ H (Lp (adK (Ho (i9 d tg) (pX d bk) (bI d elt)) (σ++nms.map fun _=>none) Q)) X
 | .lam aQ ps sQ body,σ,H,Q,_=>∀f H',Sub H H'→H' f=some (.func (.expr ps sQ body) (lS aQ σ))→Q (.ref f) H'
noncomputable def pY (d:Nat):bA→Sg→AH→(List AV→AH→Prop)→(AH→Prop)→Prop
 | .nil,_,H,Q,_=>Q [] H
 | .cons a r,σ,H,Q,X=>bI d a σ H (f0 (pY d r) σ X (adN Q)) X
noncomputable def Ly (d:Nat)(wC:Bool):bA→Sg→AH→(AV→AH→Prop)→(AH→Prop)→Prop
 | .nil,_,_,_,_=>False
 | .cons a r,σ,H,Q,X=>@bA.casesOn (fun _=>Prop) r (bI d a σ H Q X) fun _ _=>bI d a σ H (af4 wC (Ly d wC r) σ Q X) X
noncomputable def pX (d:Nat):bA→Sg→AH→(Bool→AH→Prop)→Prop
 | .nil,_,H,Q=>Q true H
 | .cons a r,σ,H,Q=>u7 d a σ H (adL (pX d r) σ Q) ur
noncomputable def Uc (d:Nat)(wC:Bool):bA→Sg→AH→(Bool→AH→Prop)→(AH→Prop)→Prop
 | .nil,_,H,Q,_=>Q wC H
 | .cons a r,σ,H,Q,X=>u7 d a σ H (tsK wC (Uc d wC r) σ Q X) X
noncomputable def u7 (d:Nat):MX→Sg→AH→(Bool→AH→Prop)→(AH→Prop)→Prop
 | .not a,σ,H,Q,X=>u7 d a σ H (ac8 Q) X
 | .and l,σ,H,Q,X=>Uc d true l σ H Q X
 | .or l,σ,H,Q,X=>Uc d false l σ H Q X
 | .ite c a b,σ,H,Q,X=>u7 d c σ H (X5 (u7 d a) (u7 d b) σ Q X) X
 | .cmp op a b,σ,H,Q,X=>bI d a σ H (f0 (bI d b) σ X (AX op Q)) X
 | .rl o1 o2 a b c,σ,H,Q,X=>bI d a σ H (f0 (bI d b) σ X (W5 o1 o2 (bI d c) σ Q X)) X
 | .var i,σ,H,Q,_=>(mj σ[i]? fun o=>mj o fun v=>d9 Q v H)
 | .call f args,σ,H,Q,X=>bI d f σ H (f0 (pY d args) σ X (qa Z G cls d (d9 Q) X)) X
 | .aJ a nm args,σ,H,Q,X=>bI d a σ H (Yn Z G cls d nm (pY d args) σ (d9 Q) X) X
 | .lit v,_,H,Q,_=>d9 Q v H
 | _,_,_,_,_=>False
noncomputable def i9 (d:Nat):MT→AV→Sg→AH→(Sg→AH→Prop)→Prop
 | .var i,v,σ,H,Q=>Wq i v σ H Q
 | .bb i,v,σ,H,Q=>(mj σ[i]? fun o=>mj o fun u=>NS u fun c=>afM c v σ H Q)
 | .tup l,v,σ,H,Q=>onT v (af0 l.len (u5 d l) σ H Q)
 | .idx a i,v,σ,H,Q=>bI d a σ H (f0 (bI d i) σ ur (GU v (Q σ))) ur
 | .attr a nm,v,σ,H,Q=>bI d a σ H (mw G nm v (Q σ)) ur
noncomputable def u5 (d:Nat):qr→List AV→Sg→AH→(Sg→AH→Prop)→Prop
 | .nil,vs,σ,H,Q=>VT vs σ H Q
 | .cons t r,vs,σ,H,Q=>(U8 vs fun v vs=>i9 d t v σ H (Wz (u5 d r) vs Q))
end
variable (d:Nat)
mutual
noncomputable def vcS:MS→Sg→AH→(Fl→Sg→AH→Prop)→(AH→Prop)→Prop
 | .asg t e,σ,H,Q,X=>bI Z G cls d e σ H (af6 (i9 Z G cls d t) σ (Q .next)) X
 | .xA i elt nms tg it bk,σ,H,Q,X=>bI Z G cls d (.comp elt nms tg it bk) σ H (adh i σ (Q .next)) X
 | .aug i op e,σ,H,Q,X=>(mj σ[i]? fun o=>mj o fun v0=>bI Z G cls d e σ H (af7 i σ (Q .next) v0) X)
 | .expr e,σ,H,Q,X=>bI Z G cls d e σ H (gm σ (Q .next)) X
 | .ce c a b,σ,H,Q,X=>u7 Z G cls d c σ H (X5 (aU a) (aU b) σ Q X) X
 | .di c b,σ,H,Q,_=>∃n,jU (Z8 (u7 Z G cls d c)) (WG (aU b)) n σ H Q
 | .cV t it b,σ,H,Q,X=>bI Z G cls d it σ H (Lp (agn (MF (i9 Z G cls d t) (aU b)) σ Q)) X
 | .ret e,σ,H,Q,X=>bI Z G cls d e σ H (ah9 σ Q) X
 | .brk,σ,H,Q,_=>Q .brk σ H
 | .pass,σ,H,Q,_=>Q .next σ H
 | .On e _ C b,σ,H,Q,_=>bI Z G cls d e σ H (gm σ (Q .next)) (fun H1=>cls= .ref C∧Q (.ret (.bool b)) σ H1)
 | .Nc i _ e,σ,H,Q,X=>bI Z G cls d e σ H (acS i σ (Q .next)) X
 | .gy _ C _,_,H,_,X=>2≤d∧cls= .ref C∧∀H2,Sub H H2→X H2
 | .defn i aQ ps sQ body,σ,H,Q,_=>i<σ.length∧∀f H',Sub H H'→H' f=some (.func (.stmts ps sQ body) (lS aQ σ))→Q .next (σ.set i (some (.ref f))) H'
noncomputable def aU:ah→Sg→AH→(Fl→Sg→AH→Prop)→(AH→Prop)→Prop
 | .nil,σ,H,Q,_=>Q .next σ H
 | .cons a r,σ,H,Q,X=>vcS a σ H (aiy (aU r) Q X) X
end
end
section
set_option backward.match.sparseCases false
section
variable {Z:Program}{w:World}{H:AH}{h:Heap}{l m:List AV}{vs ws:List Value}
theorem am.len (r:am Z w H h l vs):l.length=vs.length:=by
 induction l generalizing vs with
 | nil=>exact r.cn rfl
 | cons a l ih=>exact r.bn fun _ _ _ r=>congrArg Nat.succ (ih r)
theorem am.d5 {vs:Array Value}(r:am Z w H h l vs.toList):l.length=vs.size:=r.len.trans Array.length_toList
theorem am.append (r:am Z w H h l vs)(b:am Z w H h m ws):am Z w H h (l++m) (vs++ws):=by
 induction l generalizing vs with
 | nil=>exact r.cn b
 | cons a l ih=>exact r.bn fun _ _ a r=>.cons a (ih r)
theorem am.get (r:am Z w H h l vs){i:Nat}{x:AV}(e:l[i]? =some x):∃v,vs[i]? =some v∧aj Z w H h x v:=by
 induction l generalizing vs i with
 | nil=>exact nomatch e
 | cons a l ih=>
  refine r.bn fun v _ a r=>?_
  cases i with
  | zero=>cases e;exact⟨v,rfl,a⟩
  | succ i=>exact ih r e
theorem am.MH {vs:Array Value}(r:am Z w H h l vs.toList){i:Nat}{x:AV}(e:l[i]? =some x):∃v,vs[i]? =some v∧aj Z w H h x v:=(r.get e).elim fun v q=>⟨v,Array.getElem?_toList.symm.trans q.1,q.2⟩
theorem am.set {x:AV}{v:Value}(r:am Z w H h l vs)(q:aj Z w H h x v)(i:Nat):am Z w H h (l.set i x) (vs.set i v):=by
 induction l generalizing vs i with
 | nil=>exact r.cn .nil
 | cons a l ih=>
  refine r.bn fun _ _ a r=>?_
  cases i with
  | zero=>exact .cons q r
  | succ i=>exact .cons a (ih r i)
theorem am.take (r:am Z w H h l vs)(i:Nat):am Z w H h (l.take i) (vs.take i):=by
 induction l generalizing vs i with
 | nil=>exact r.cn (by cases i<;>exact .nil)
 | cons a l ih=>
  refine r.bn fun _ _ a r=>?_
  cases i with
  | zero=>exact .nil
  | succ i=>exact .cons a (ih r i)
theorem am.drop (r:am Z w H h l vs)(i:Nat):am Z w H h (l.drop i) (vs.drop i):=by
 induction l generalizing vs i with
 | nil=>exact r.cn (by cases i<;>exact .nil)
 | cons a l ih=>
  cases i with
  | zero=>exact r
  | succ i=>exact r.bn fun _ _ a r=>ih r i
theorem am.reverse (r:am Z w H h l vs):am Z w H h l.reverse vs.reverse:=by
 induction l generalizing vs with
 | nil=>exact r.cn .nil
 | cons a l ih=>exact r.bn fun _ _ a r=>List.reverse_cons.symm▸List.reverse_cons.symm▸(ih r).append (.cons a .nil)
theorem am.rep (r:am Z w H h l vs)(n:Nat):am Z w H h (List.replicate n l).flatten (List.replicate n vs).flatten:=by
 induction n with
 | zero=>exact .nil
 | succ n ih=>exact r.append ih
end
section
variable {Z:Program}{G:Gd}{cls:Value}{C:FC}{vt:List VK}{σ:Sg}{H:AH}{s:Shared}{E:Value→Shared→Prop}{Q:AV→AH→Prop}{A:Around}
theorem Rep.grow {h':Heap}{t:Nat}(R:Rep Z G C vt σ H s)(k:∀b o,s.heap.get? b=some o→h'.get? b=some o):Rep Z G C vt σ H {s with heap:=h',toks:=t}:=
 R.step (s':={s with heap:=h',toks:=t}) (Ext.grow k) (R.g.grow k)
theorem EP.grow {h':Heap}{t:Nat}{v:Value}{av:AV}(R:Rep Z G C vt σ H s)(k:∀b o,s.heap.get? b=some o→h'.get? b=some o)(V:aj Z G.w H h' av v)(q:Q av H):
  EP Z G C vt σ H s Q v {s with heap:=h',toks:=t}:=⟨av,H,R.grow k,V,Ext.grow k,aF.mk _ _ _,q⟩
theorem EP.tok {t:Nat}{v:Value}{av:AV}(R:Rep Z G C vt σ H s)(V:aj Z G.w H s.heap av v)(q:Q av H):EP Z G C vt σ H s Q v {s with toks:=t}:=
 EP.grow (h':=s.heap) R (fun _ _ e=>e) V q
theorem EP.here {v:Value}{av:AV}(R:Rep Z G C vt σ H s)(V:aj Z G.w H s.heap av v)(q:Q av H):EP Z G C vt σ H s Q v s:=
 ⟨av,H,R,V,Ext.refl ..,aF.refl _,q⟩
theorem ax (h:Heap)(o:Obj):∀b x,h.get? b=some x→(h.push o).get? b=some x:=fun _ _ e=>Heap.get?_push_of_some _ e
theorem push_size (h:Heap)(o:Obj):h.objs.size≤(h.push o).objs.size:=by rw[Heap.size_push];exact Nat.le_succ _
theorem EP.Tw {l:List AV}{vs:Array Value}(R:Rep Z G C vt σ H s)(r:am Z G.w H s.heap l vs.toList)(q:Q (.lst l) H):
  EP Z G C vt σ H s Q (.ref s.heap.objs.size) {s with heap:=s.heap.push {cls:= .type "list",data:= .seq vs}}:=
 EP.grow (t:=s.toks) R (ax _ _) (.lst (Heap.get?_push_size _ rfl) rfl rfl rfl R.g.fresh (r.mono (bc.same (ax _ _)))) q
theorem EP.newList {l:List AV}{vs:List Value}(R:Rep Z G C vt σ H s)(r:am Z G.w H s.heap l vs)(q:Q (.lst l) H):
  EP Z G C vt σ H s Q (.ref s.heap.objs.size) {s with heap:=s.heap.push {cls:= .type "list",data:= .seq vs.toArray}}:=EP.Tw R r q
theorem EP.acg {l:List AV}{vs:List Value}(R:Rep Z G C vt σ H s)(r:am Z G.w H s.heap l vs)(q:Q (.tup l) H):
  EP Z G C vt σ H s Q (.ref s.heap.objs.size) {s with heap:=s.heap.push {cls:= .type "tuple",data:= .seq vs.toArray}}:=
 EP.grow (t:=s.toks) R (ax _ _) (.tup (Heap.get?_push_size _ rfl) rfl rfl R.g.fresh (r.mono (bc.same (ax _ _)))) q
theorem Hm {x:Int}(h:-2^63<x∧x<2^63):Builtin.Int.intBits x≤64:=intBits_le_64 (by lia) (by lia)
theorem Mt {a b:Addr}{o o2:Obj}{vs ws:Array Value}{n n2:Nat}{P:Value→Shared→Prop}(ho:s.heap.get? a=some o)(hc:o.cls= .type "list")(hd:o.data= .seq vs n)(UW:s.heap.get? b=some o2)(XD:o2.cls= .type "list")(hd2:o2.data= .seq ws n2)
  (hz:vs.size+ws.size≤100000) (k:P (.ref s.heap.objs.size) {s with heap:=s.heap.push {cls:= .type "list",data:= .seq (vs++ws)}}):wpAny (model Z G.w) A (binaryOp .Add (.ref a) (.ref b)) P E s:=by
 obtain⟨cl1,dd,data,sl⟩:=o
 obtain⟨cl2,dd2,data2,sl2⟩:=o2
 cases hc;cases hd;cases XD;cases hd2
 exact concat_meets ⟨_,ho,rfl⟩ ⟨_,UW,rfl⟩ noFill_list_add seq_list_add PySem.F.slot_list_add PySem.F.entry_list_add (PySem.F.args_list_add_2 _ _) (list_addW _ _ _ _ n n2 dd dd2 sl sl2 (Nat.le_trans hz (by decide))) ⟨ho,UW,k⟩
theorem N6 {a:Addr}{o:Obj}{vs:Array Value}{n:Nat}{x:Int}{u:Tok}{P:Value→Shared→Prop}(ho:s.heap.get? a=some o)(hc:o.cls= .type "list")(hd:o.data= .seq vs n)(hz:vs.size*x.toNat≤100000)(h1:x<2^63)(h2:-2^63<x)
  (k:P (.ref s.heap.objs.size) {s with heap:=s.heap.push {cls:= .type "list",data:= .seq (List.replicate x.toNat vs.toList).flatten.toArray}}):wpAny (model Z G.w) A (binaryOp .Mult (.ref a) (.int x u)) P E s:=by
 obtain⟨cl1,dd,data,sl⟩:=o
 cases hc;cases hd
 refine wpAny_binaryOp_repeat_ref (T:="list") (U:="int") (by decide) ⟨_,ho,rfl⟩ (fun s'=>typeIs_int s' _ u) noFill_list_mul F.fills_int_mul F.slot_int_rmul repeat_list F.slot_int_index.lookup
  (call_meets F.slot_int_rmul (typeIs_int s _ u) F.entry_int_rmul (F.args_int_rmul_2 _ _) (lm_int_rmul_list_any _ u _ vs n dd sl)
   ⟨ho,rfl,⟨_,ho,rfl⟩,call_meets F.slot_list_mul ⟨_,ho,rfl⟩ F.entry_list_mul (F.args_list_mul_2 _ _)
    (lm_list_mul_any _ vs n dd sl _ u (by simp [Builtin.List.listFitsIndex];lia) (by lia) (by simp [Builtin.List.listTooLong,sizeLine];lia))
    ⟨ho,?_⟩⟩)
 have key:List.foldl (fun x1 x2=>x1++x2) #[] (List.replicate (if vs.isEmpty=true then 0 else x.toNat) vs)=((List.replicate x.toNat vs.toList).flatten).toArray:=by
  have :=listMul_foldl_if (items:=vs) (k:=x.toNat)
  simpa using this
 exact key▸k
theorem Ij {x y:AV}{a b:Value}{h:Heap}{k:Int→Int→Prop}{P:Value→Value→Prop}(Va:aj Z G.w H h x a)(Vb:aj Z G.w H h y b)(q:fF x y k)(f:∀x y t u,k x y→P (.int x t) (.int y u)):P a b:=
 fY (P:=fun x=>aj Z G.w H h x a→P a b) q (fun i q Va=>fY (P:=fun y=>aj Z G.w H h y b→P a b) q (fun j q Vb=>Va.dT fun t=>Vb.dT fun u=>f i j t u q) Vb) Va
theorem af3 {x y:AV}{a b:Value}(R:Rep Z G C vt σ H s)(Va:aj Z G.w H s.heap x a)(Vb:aj Z G.w H s.heap y b)(q:Wu x y H Q):wpAny (model Z G.w) A (binaryOp .Add a b) (EP Z G C vt σ H s Q) E s:=by
 cases x with
 | int x=>exact Ij (k:=fun x y=>Q (.int (x+y)) H) (P:=fun a b=>wpAny (model Z G.w) A (binaryOp .Add a b) (EP Z G C vt σ H s Q) E s) Va Vb q fun _ _ _ _ q=>add_int (EP.tok R .int q)
 | lst x=>
  revert Vb
  refine K5 q fun y q Vb=>Va.uo fun a o n vs ho hc hd hp hn ra=>Vb.uo fun b o2 n2 ws UW XD hd2 hp2 wB rb=>?_
  exact q.casesOn fun z q=>Mt ho hc hd UW XD hd2 (ra.d5▸rb.d5▸z) (EP.Tw R (Array.toList_append.symm▸ra.append rb) q)
 | _=>exact v0 q
theorem ahB {x y:AV}{a b:Value}(R:Rep Z G C vt σ H s)(Va:aj Z G.w H s.heap x a)(Vb:aj Z G.w H s.heap y b)(q:Yp x y H Q):wpAny (model Z G.w) A (binaryOp .Mult a b) (EP Z G C vt σ H s Q) E s:=by
 cases x with
 | int x=>exact Ij (k:=fun x y=>acT x y H Q) (P:=fun a b=>wpAny (model Z G.w) A (binaryOp .Mult a b) (EP Z G C vt σ H s Q) E s) Va Vb q fun _ _ _ _ q=>q.casesOn fun z q=>mul_int (EP.tok R .int q) (z.elim (fun h=>.of_left (Hm h)) fun h=>.of_right (Hm h))
 | lst x=>
  revert Vb
  refine fY q fun y q Vb=>Va.uo fun a o n vs ho hc hd hp hn ra=>Vb.dT fun u=>?_
  exact q.casesOn fun z h1 h2 q=>N6 ho hc hd (ra.d5▸z) h1 h2 (EP.newList R (ra.rep _) q)
 | _=>exact v0 q
theorem af8 {op:Operator}{x y:AV}{a b:Value}(R:Rep Z G C vt σ H s)(Va:aj Z G.w H s.heap x a)(Vb:aj Z G.w H s.heap y b)(q:WD op Q x y H):
  wpAny (model Z G.w) A (binaryOp op a b) (EP Z G C vt σ H s Q) E s:=by
 have ii:∀{k:Int→Int→Prop},fF x y k→(∀x y t u,k x y→wpAny (model Z G.w) A (binaryOp op (.int x t) (.int y u)) (EP Z G C vt σ H s Q) E s)→wpAny (model Z G.w) A (binaryOp op a b) (EP Z G C vt σ H s Q) E s:=fun q f=>
  Ij (P:=fun a b=>wpAny (model Z G.w) A (binaryOp op a b) (EP Z G C vt σ H s Q) E s) Va Vb q f
 cases op with
 | Add=>exact af3 R Va Vb q
 | Sub=>exact ii q fun _ _ _ _ q=>sub_int (EP.tok R .int q)
 | Mult=>exact ahB R Va Vb q
 | FloorDiv=>exact ii q fun x y _ _ q=>q.casesOn fun h1 h2 q=>floordiv_int (Int.ne_of_gt h1) (Int.fdiv_eq_ediv_of_nonneg x (Int.le_of_lt h1)▸EP.tok R .int q) (.inl (PyProof.noPylong_small (by lia)))
 | Mod=>exact ii q fun x y _ _ q=>q.casesOn fun h1 q=>mod_int' (Int.ne_of_gt h1) (Int.fmod_eq_emod_of_nonneg x (Int.le_of_lt h1)▸EP.tok R .int q)
 | Pow=>exact ii q fun _ _ _ _ q=>q.casesOn fun h1 h2 h3 h4 q=>pow_int_small h1 h2 (by lia) (EP.tok R .int q)
 | LShift=>exact ii q fun _ _ _ _ q=>q.casesOn fun h1 h2 h3 h4 q=>lshift_int h1 (by have :=Hm ⟨h3,h4⟩;lia) (EP.tok R .int q)
 | RShift=>exact ii q fun x y _ _ q=>q.casesOn fun h1 q=>rshift_int h1 (Int.fdiv_eq_ediv_of_nonneg x (Int.pow_nonneg (by decide:(0:Int)≤2))▸EP.tok R .int q)
 | BitAnd=>exact ii q fun _ _ _ _ q=>and_int (EP.tok R .int q)
 | _=>exact v0 q
end
noncomputable def pyS (k:AV→PyData)(v:AV):PyData:=@AV.casesOn (fun _=>PyData) v .none (fun _=>.none) .int (fun _=>.none) (fun _=>.none) (fun _=>.none) (fun _=>.none) (fun l=>.tuple (l.map k)) (fun l=>.list (l.map k)) (fun _=>.none) (fun _ _=>.none) (fun _ _=>.none)
noncomputable def toPy:Nat→AV→PyData
 | 0=>pyS fun _=>.none
 | n+1=>pyS (toPy n)
@[elab_as_elim] theorem gG {P:Nat→AV→Prop}{n:Nat}{v:AV}(h:isData n v=true)(f:∀i,P n (.int i))(g:∀m l,n=m+1→(∀a∈l,isData m a=true)→P (m+1) (.tup l))(k:∀m l,n=m+1→(∀a∈l,isData m a=true)→P (m+1) (.lst l)):P n v:=by
 cases n with
 | zero=>exact Td h fun i _=>f i
 | succ m=>exact@AV.casesOn (fun v=>isData (m+1) v=true→P (m+1) v) v (fun h=>ff h) g1 (fun i _=>f i) g1 g1 g1 g1 (fun l h=>g m l rfl (List.all_eq_true.mp h)) (fun l h=>k m l rfl (List.all_eq_true.mp h)) g1 g2 g2 h
theorem afH (n:Nat)(i:Int):isData n (.int i)=true:=by cases n<;>rfl
theorem acr (n:Nat)(i:Int):toPy n (.int i)= .int i:=by cases n<;>rfl
section
variable {Z:Program}{w:World}{H:AH}{h:Heap}
theorem readsAll {n:Nat}(ih:∀{a v},isData n a=true→aj Z w H h a v→∃as,Reads h v (toPy n a) as):∀(l:List AV) {vs:List Value},(∀a∈l,isData n a=true)→am Z w H h l vs→∃as,ReadsAll h vs (l.map (toPy n)) as:=by
 intro l
 induction l with
 | nil=>exact fun _ V=>V.cn ⟨_,.nil⟩
 | cons a l hi=>exact fun e V=>V.bn fun _ _ a r=>(ih (e _ (.head _)) a).elim fun _ p=>(hi (fun x hx=>e x (.tail _ hx)) r).elim fun _ q=>⟨_,.cons p q⟩
theorem aj.reads (n:Nat):∀{a:AV} {v:Value},isData n a=true→aj Z w H h a v→∃as,Reads h v (toPy n a) as:=by
 induction n with
 | zero=>exact fun e=>gG (P:=fun n a=>aj Z w H h a _→∃as,Reads h _ (toPy n a) as) e (fun i V=>V.dT fun t=>⟨_,.int i t⟩) (fun _ _ e=>nomatch e) fun _ _ e=>nomatch e
 | succ n ih=>
  exact fun e=>gG (P:=fun n a=>aj Z w H h a _→∃as,Reads h _ (toPy n a) as) e (fun i V=>V.dT fun t=>⟨_,.int i t⟩)
   (fun m l e al V=>by cases e;exact V.G4 fun a o k vs ho hc hd hn r=>(readsAll ih l al r).elim fun _ q=>⟨_,reads_tuple_at ho hc hd q⟩)
   fun m l e al V=>by cases e;exact V.uo fun a o k vs ho hc hd hp hn r=>(readsAll ih l al r).elim fun _ q=>⟨_,reads_list_at ho hc hd q⟩
end
noncomputable def DL (n:Nat)(d:PyData):Prop:=d.canLay0=true∧d.depth≤n
theorem Gi (n:Nat):∀{a:AV},isData n a=true→DL n (toPy n a):=by
 have all:∀{n:Nat},(∀{a},isData n a=true→DL n (toPy n a))→∀l:List AV,(∀a∈l,isData n a=true)→PyData.canLayAll0 (l.map (toPy n))=true∧PyData.depthAll (l.map (toPy n))≤n:=by
  intro n ih l
  induction l with
  | nil=>exact fun _=>⟨rfl,Nat.zero_le _⟩
  | cons a l hi=>exact fun h=>have p:=ih (h a (.head _));have q:=hi fun x hx=>h x (.tail _ hx);⟨Bool.and_eq_true_iff.mpr ⟨p.1,q.1⟩,Nat.max_le.mpr ⟨p.2,q.2⟩⟩
 induction n with
 | zero=>exact fun e=>gG (P:=fun n a=>DL n (toPy n a)) e (fun i=>⟨rfl,Nat.le_refl _⟩) (fun _ _ e=>nomatch e) fun _ _ e=>nomatch e
 | succ n ih=>exact fun e=>gG (P:=fun n a=>DL n (toPy n a)) e (fun i=>⟨rfl,Nat.zero_le _⟩) (fun m l e al=>by cases e;exact(all ih l al).imp id Nat.succ_le_succ) fun m l e al=>by cases e;exact(all ih l al).imp id Nat.succ_le_succ
theorem jP {n:Nat}{a:AV}(hn:n≤64)(e:isData n a=true):SeqAt.shaped (toPy n a)=true:=Bool.and_eq_true_iff.mpr ⟨(Gi n e).1,decide_eq_true (Nat.le_trans (Gi n e).2 hn)⟩
theorem uu {P:Prop}(h:¬P):false=true↔P:=⟨fun e=>ff e,fun p=>(h p).elim⟩
theorem Gh (n:Nat):∀{a:AV},isData n a=true→∀b,isData n b=true→(PyData.eqv (toPy n a) (toPy n b)=true↔a=b):=by
 have all:∀{n:Nat},(∀{a},isData n a=true→∀b,isData n b=true→(PyData.eqv (toPy n a) (toPy n b)=true↔a=b))→∀(l m:List AV),(∀a∈l,isData n a=true)→(∀a∈m,isData n a=true)→
   (PyData.eqvAll (l.map (toPy n)) (m.map (toPy n))=true↔l=m):=by
  intro n ih l
  induction l with
  | nil=>intro m _ _;cases m with
   | nil=>exact⟨fun _=>rfl,fun _=>rfl⟩
   | cons _ _=>exact uu fun e=>nomatch e
  | cons a l hi=>
   intro m h1 h2
   cases m with
   | nil=>exact uu fun e=>nomatch e
   | cons b m=>exact Bool.and_eq_true_iff.trans ((and_congr (ih (h1 a (.head _)) b (h2 b (.head _))) (hi m (fun x hx=>h1 x (.tail _ hx)) fun x hx=>h2 x (.tail _ hx))).trans (List.cons_eq_cons).symm)
 have int:∀(n:Nat) (i:Int) {b:AV},isData n b=true→(PyData.eqv (.int i) (toPy n b)=true↔ .int i=b):=fun n i b e=>
  gG (P:=fun n b=>PyData.eqv (.int i) (toPy n b)=true↔ .int i=b) e (fun j=>acr n j▸(beq_iff_eq:(i==j)=true↔i=j).trans ⟨congrArg AV.int,fun e=>by cases e;rfl⟩) (fun _ _ _ _=>uu fun e=>nomatch e) fun _ _ _ _=>uu fun e=>nomatch e
 induction n with
 | zero=>exact fun e=>gG (P:=fun n a=>∀b,isData n b=true→(PyData.eqv (toPy n a) (toPy n b)=true↔a=b)) e (fun i _ e=>int 0 i e) (fun _ _ e=>nomatch e) fun _ _ e=>nomatch e
 | succ n ih=>
  intro a e
  refine gG (P:=fun n a=>∀b,isData n b=true→(PyData.eqv (toPy n a) (toPy n b)=true↔a=b)) e (fun i _ e=>int (n+1) i e) (fun m l e al b e'=>?_) fun m l e al b e'=>?_
  ·cases e
   exact gG (P:=fun k b=>k=n+1→(PyData.eqv (toPy (n+1) (.tup l)) (toPy k b)=true↔ .tup l=b)) e' (fun i _=>uu fun e=>nomatch e) (fun m' l' e al' _=>by cases e;exact(all ih l l' al al').trans ⟨congrArg AV.tup,fun e=>by cases e;rfl⟩) (fun _ _ _ _ _=>uu fun e=>nomatch e) rfl
  ·cases e
   exact gG (P:=fun k b=>k=n+1→(PyData.eqv (toPy (n+1) (.lst l)) (toPy k b)=true↔ .lst l=b)) e' (fun i _=>uu fun e=>nomatch e) (fun _ _ _ _ _=>uu fun e=>nomatch e) (fun m' l' e al' _=>by cases e;exact(all ih l l' al al').trans ⟨congrArg AV.lst,fun e=>by cases e;rfl⟩) rfl
section
variable {Z:Program}{G:Gd}{cls:Value}{C:FC}{vt:List VK}{σ:Sg}{H:AH}{s:Shared}{E:Value→Shared→Prop}{Q:AV→AH→Prop}{A:Around}{ak:List Env}
theorem SR {n:Nat}{x y:AV}{a b:Value}{neg:Bool}{Q:Value→Shared→Prop}(hn:n≤64)(hu:A.units+64<cLine)(h1:isData n x=true)(h2:isData n y=true)(ra:∃as,Reads s.heap a (toPy n x) as)(rb:∃as,Reads s.heap b (toPy n y) as)
  (q:∀r:Bool,(r=true↔x=y)→Q (.bool (if neg=true then !r else r)) s):wpAny (model Z G.w) A (compareOp (if neg=true then .NotEq else .Eq) a b) Q E s:=ra.elim fun as ra=>rb.elim fun bs rb=>
 match neg,q (PyData.eqv (toPy n x) (toPy n y)) (Gh n h1 _ h2) with
 | true,e=>ne_dataH ra rb (jP hn h1) (jP hn h2) hu e
 | false,e=>eq_dataH ra rb (jP hn h1) (jP hn h2) hu e
theorem bR.reads {n:Nat}{a:AV}{v:Value}{xs:List AV}(R:au Z G ak H s)(V:aj Z G.w H s.heap a v)(d:bR H a xs)(e:isData (n+1) (.lst xs)=true):∃as,Reads s.heap v (toPy (n+1) (.lst xs)) as:=
 LL (P:=fun a=>aj Z G.w H s.heap a v→∃as,Reads s.heap v (toPy (n+1) (.lst xs)) as) d
  (fun a d V=>V.im (by
   obtain⟨_,vs,⟨k,ho⟩,r⟩:=R.own _ _ d
   exact(readsAll (aj.reads n) xs (List.all_eq_true.mp e) r).elim fun _ q=>⟨_,reads_list_at ho rfl rfl q⟩)) (fun V=>V.reads _ e) V
theorem au.noSys (Ok:G.Ok)(R:au Z G ak H s){a:Addr}{o:AO}(e:H a=some o):(a==sysModules)=false:=Ok.sys.elim fun _ hx=>beq_eq_false_iff_ne.mpr fun q=>nomatch (q▸(R.own a o e).1:G.hb.get? sysModules=none).symm.trans hx
inductive Sz (Z:Program)(w:World)(H:AH)(h:Heap)(l:List (Int×AV)):Value→Prop
 | mk (x:Addr) (kvs:List (Int×Value)) (a:(x==sysModules)=false) (b:h.DictOf (intKind Z w) x kvs) (c:aG Z w H h l kvs):Sz Z w H h l (.ref x)
inductive LM (Z:Program)(w:World)(H:AH)(h:Heap)(l:List AV):Value→Prop
 | mk (x:Addr) (ob:Obj) (vs:Array Value) (n:Nat) (a:h.get? x=some ob) (b:ob.cls= .type "list") (c:ob.data= .seq vs n) (d:ob.dict=none) (e:am Z w H h l vs.toList):LM Z w H h l (.ref x)
theorem cY.dict {a:AV}{v:Value}{l:List (Int×AV)}(Ok:G.Ok)(R:au Z G ak H s)(V:aj Z G.w H s.heap a v)(d:cY H a l):Sz Z G.w H s.heap l v:=
 VP (P:=fun a=>aj Z G.w H s.heap a v→Sz Z G.w H s.heap l v) d (fun a d V=>V.im ((R.own _ _ d).2.elim fun kvs q=>⟨a,kvs,R.noSys Ok d,q.1,q.2⟩)) (fun V=>V.W8 fun a kvs hs q hn r=>⟨a,kvs,hs,q,r⟩) V
theorem bR.plain {a:AV}{v:Value}{xs:List AV}(R:au Z G ak H s)(V:aj Z G.w H s.heap a v)(d:bR H a xs):LM Z G.w H s.heap xs v:=
 LL (P:=fun a=>aj Z G.w H s.heap a v→LM Z G.w H s.heap xs v) d (fun a d V=>V.im ((R.own _ _ d).2.elim fun vs q=>q.1.elim fun n ho=>⟨a,_,vs,n,ho,rfl,rfl,rfl,q.2⟩)) (fun V=>V.uo fun a o n vs ho hc hd hp hn r=>⟨a,o,vs,n,ho,hc,hd,hp,r⟩) V
@[elab_as_elim] theorem cY.e {a:AV}{v:Value}{l:List (Int×AV)}{P:Value→Prop}(Ok:G.Ok)(R:au Z G ak H s)(V:aj Z G.w H s.heap a v)(d:cY H a l)(f:∀x kvs,(x==sysModules)=false→s.heap.DictOf (intKind Z G.w) x kvs→aG Z G.w H s.heap l kvs→P (.ref x)):P v:=Sz.casesOn (motive:=fun v _=>P v) (d.dict Ok R V) f
@[elab_as_elim] theorem bR.e {a:AV}{v:Value}{l:List AV}{P:Value→Prop}(R:au Z G ak H s)(V:aj Z G.w H s.heap a v)(d:bR H a l)(f:∀x vs,s.heap.IsList x vs→am Z G.w H s.heap l vs.toList→P (.ref x)):P v:=LM.casesOn (motive:=fun v _=>P v) (d.plain R V) fun x ob vs n a b c _ e=>f x vs ⟨ob,a,b,n,c⟩ e
end
theorem Nf (p:Int×AV)(l:List (Int×AV))(k:Int):bo (p::l) k=if p.1=k then some p.2 else bo l k:=by
 unfold bo
 by_cases h:p.1=k<;>simp [h]
theorem FR (p:Int×Value)(l:List (Int×Value))(k:Int):valueAt (p::l) k=if p.1=k then some p.2 else valueAt l k:=by
 unfold valueAt
 by_cases h:p.1=k<;>simp [h]
theorem PI {l:List (Int×AV)}{k:Int}{y:AV}(e:bo l k=some y):∃p∈l,p.2=y:=(Option.map_eq_some_iff.mp e).elim fun p q=>⟨p,List.mem_of_find?_eq_some q.1,q.2⟩
section
variable {Z:Program}{w:World}{H:AH}{h:Heap}{l m:List (Int×AV)}{vs ws:List (Int×Value)}
inductive vd (Z:Program)(w:World)(H:AH)(h:Heap):Option AV→Option Value→Prop
 | no:vd Z w H h none none
 | so (x:AV) (v:Value) (V:aj Z w H h x v):vd Z w H h (some x) (some v)
theorem aG.len (r:aG Z w H h l vs):l.length=vs.length:=by
 induction l generalizing vs with
 | nil=>exact r.cn rfl
 | cons a l ih=>exact r.bn fun _ _ _ r=>congrArg Nat.succ (ih r)
theorem aG.look (r:aG Z w H h l vs)(k:Int):vd Z w H h (bo l k) (valueAt vs k):=by
 induction l generalizing vs with
 | nil=>exact r.cn .no
 | cons p l ih=>
  refine r.bn fun v vs a r=>?_
  rw[Nf,FR]
  by_cases h:p.1=k
  ·rw[if_pos h,if_pos h];exact .so _ _ a
  ·rw[if_neg h,if_neg h];exact ih r
theorem vd.at {a b x}(r:vd Z w H h a b)(e:a=some x):∃v,b=some v∧aj Z w H h x v:=vd.casesOn (motive:=fun a b _=>a=some x→∃v,b=some v∧aj Z w H h x v) r (fun e=>nomatch e) (fun y v V e=>⟨v,rfl,Option.some.inj e▸V⟩) e
theorem vd.isN {a b}(r:vd Z w H h a b):a.isNone= !b.isSome:=vd.casesOn (motive:=fun a b _=>a.isNone= !b.isSome) r rfl fun _ _ _=>rfl
theorem vd.getD {a b x v}(r:vd Z w H h a b)(V:aj Z w H h x v):aj Z w H h (a.getD x) (b.getD v):=vd.casesOn (motive:=fun a b _=>aj Z w H h (a.getD x) (b.getD v)) r V fun _ _ V=>V
theorem aG.keys (r:aG Z w H h l vs):l.map (·.1)=vs.map (·.1):=by
 induction l generalizing vs with
 | nil=>exact r.cn rfl
 | cons a l ih=>exact r.bn fun _ _ _ r=>congrArg _ (ih r)
theorem aG.append (r:aG Z w H h l vs)(b:aG Z w H h m ws):aG Z w H h (l++m) (vs++ws):=by
 induction l generalizing vs with
 | nil=>exact r.cn b
 | cons a l ih=>exact r.bn fun _ _ a r=>.cons a (ih r)
theorem ab8 {vs:List (Int×Value)}{k:Int}{v:Value}(hk:k∉vs.map (·.1)):vs.map (fun kv=>if kv.1=k then(kv.1,v) else kv)=vs:=by
 induction vs with
 | nil=>rfl
 | cons p vs ih=>
  rw[List.map_cons,ih fun z=>hk (.tail _ z),if_neg fun z=>hk (by subst z;exact .head _)]
theorem Lr {vs:List (Int×Value)}{p:Int×Value}{v:Value}(hn:p.1∉vs.map (·.1)):stored (p::vs) p.1 v=(p.1,v)::vs:=by
 unfold stored
 rw[if_pos (by simp),List.map_cons,if_pos rfl,ab8 hn]
theorem FP {vs:List (Int×Value)}{p:Int×Value}{k:Int}{v:Value}(h:p.1≠k):stored (p::vs) k v=p::stored vs k v:=by
 unfold stored
 rw[List.any_cons,decide_eq_false h,Bool.false_or,List.map_cons,if_neg h]
 split<;>rfl
theorem aG.put {k:Int}{x:AV}{v:Value}(r:aG Z w H h l vs)(hn:(vs.map (·.1)).Nodup)(q:aj Z w H h x v):aG Z w H h (fQ l k x) (stored vs k v):=by
 induction l generalizing vs with
 | nil=>exact r.cn (.cons q .nil)
 | cons p l ih=>
  revert hn
  refine r.bn fun u vs a r hn=>?_
  rw[List.map_cons,List.nodup_cons] at hn
  unfold fQ
  by_cases h:p.1=k
  ·subst h
   rw[if_pos rfl,Lr (p:=(p.1,u)) hn.1];exact .cons q r
  ·rw[if_neg h,FP (p:=(p.1,u)) h];exact .cons a (ih r hn.2)
end
section
variable {Z:Program}{G:Gd}{cls:Value}{C:FC}{vt:List VK}{σ:Sg}{H:AH}{s:Shared}{E:Value→Shared→Prop}{Q:AV→AH→Prop}{A:Around}
theorem EP.put {v:Value}{av:AV}{h':Heap}{t:Nat}{a:Addr}{o o':AO}(R:Rep Z G C vt σ H s)(e:H a=some o)(az:o.kept=false)(hs:Heap.SameBut a s.heap h')(ho:dj Z G.w G.gl (H.set a o') h' a o')
  (V:aj Z G.w (H.set a o') h' av v) (q:Q av (H.set a o')):EP Z G C vt σ H s Q v {s with heap:=h',toks:=t}:=
 ⟨av,H.set a o',R.step (Ext.put e az hs ho.here) (R.g.put e az hs ho),V,Ext.put e az hs ho.here,aF.mk _ _ _,q⟩
theorem aer {m:List (Int×AV)}{X8:List (Int×Value)}(hu:A.units+80<cLine)(rp':aG Z G.w H s.heap m X8)(h2:∀p∈m,isData 1 p.2=true)(l:List (Int×AV)){kp:List (Int×Value)}(r:aG Z G.w H s.heap l kp)(h1:∀p∈l,isData 1 p.2=true):
  ∃r:Bool,KeqHits (K:=Int) A.in1 s X8 kp r∧(r=true↔∀p∈l,bo m p.1=some p.2):=by
 induction l generalizing kp with
 | nil=>exact r.cn ⟨true,.nil,⟨fun _ _ h=>(List.not_mem_nil h).elim,fun _=>rfl⟩⟩
 | cons p l ih=>
  refine r.bn fun v vs a r=>?_
  obtain⟨r',Pt,e'⟩:=ih r fun z hz=>h1 z (.tail _ hz)
  refine vd.casesOn (motive:=fun a b _=>bo m p.1=a→valueAt X8 p.1=b→_) (rp'.look p.1) (fun n1 n2=>?_) (fun y u vy n1 n2=>?_) rfl rfl
  ·exact⟨false,.miss n2,uu fun z=>nomatch (z p (.head _)).symm.trans n1⟩
  ·have hx:=h1 p (.head _)
   have hy:isData 1 y=true:=(PI n1).elim fun q z=>z.2▸h2 q z.1
   obtain⟨as,ra⟩:=aj.reads 1 hx a
   obtain⟨bs,rb⟩:=aj.reads 1 hy vy
   refine⟨PyData.eqv (toPy 1 p.2) (toPy 1 y)&&r',.hit n2 (keq_at ra rb (jP (by decide) hx) (jP (by decide) hy) (by show A.units+1+64<cLine;lia)) Pt,?_⟩
   rw[Bool.and_eq_true,Gh 1 hx _ hy,e',List.forall_mem_cons,n1,Option.some.injEq]
   exact and_congr_left fun _=>eq_comm
theorem Xg {neg:Bool}{x y:AV}{a b:Value}{Q:Bool→AH→Prop}{P:Value→Shared→Prop}(Ok:G.Ok)(hu:A.units+80<cLine)(R:Rep Z G C vt σ H s)(Va:aj Z G.w H s.heap x a)(Vb:aj Z G.w H s.heap y b)(q:eqG neg x y H Q)(fin:∀r:Bool,Q r H→P (.bool r) s):
  wpAny (model Z G.w) A (compareOp (if neg=true then .NotEq else .Eq) a b) P E s:=by
 rcases q with ⟨l,m,d1,d2,h1,h2,q⟩ | ⟨l,m,d1,d2,h1,h2,q⟩
 ·exact SR (n:=8) (by decide) (by lia) h1 h2 (bR.reads R.g Va d1 h1) (bR.reads R.g Vb d2 h2) fun r hr=>fin _ (q r (hr.trans ⟨fun e=>by cases e;rfl,congrArg AV.lst⟩))
 ·refine cY.e Ok R.g Va d1 fun p kp np dp rp=>cY.e Ok R.g Vb d2 fun p' X8 np' dp' rp'=>?_
  obtain⟨r,hr,e⟩:=aer hu rp' h2 l rp h1
  have key:=q _ ((Bool.and_eq_true_iff (x:=kp.length==X8.length) (y:=r)).trans (and_congr (by rw[beq_iff_eq,rp.len,rp'.len]) e))
  cases neg with
  | true=>exact keq_ne np np' dp dp' (by lia) (fun _=>hr) (fin _ key)
  | false=>exact keq_eq np np' dp dp' (by lia) (fun _=>hr) (fin _ key)
theorem eqP {neg:Bool}{x y:AV}{a b:Value}{Q:Bool→AH→Prop}{P:Value→Shared→Prop}(Ok:G.Ok)(hu:A.units+80<cLine)(R:Rep Z G C vt σ H s)(Va:aj Z G.w H s.heap x a)(Vb:aj Z G.w H s.heap y b)(q:Xi neg x y H Q)(fin:∀r:Bool,Q r H→P (.bool r) s):
  wpAny (model Z G.w) A (compareOp (if neg=true then .NotEq else .Eq) a b) P E s:=by
 cases x with
 | int x=>
  refine Ij (x:= .int x) (k:=fun x y=>Q (if neg then !decide (x=y) else decide (x=y)) H) (P:=fun a b=>wpAny (model Z G.w) A (compareOp (if neg=true then .NotEq else .Eq) a b) P E s) Va Vb q fun _ _ _ _ q=>?_
  cases neg with
  | true=>exact ne_int (fin _ q)
  | false=>exact eq_int (fin _ q)
 | tup x=>
  revert Vb
  exact Se q fun y q Vb=>q.casesOn fun h1 h2 q=>SR (n:=8) (by decide) (by lia) h1 h2 (aj.reads 8 h1 Va) (aj.reads 8 h2 Vb) fun r hr=>fin _ (q r (hr.trans ⟨fun e=>by cases e;rfl,congrArg AV.tup⟩))
 | ref _=>exact Xg Ok hu R Va Vb q fin
 | lst _=>exact Xg Ok hu R Va Vb q fin
 | dC _=>exact Xg Ok hu R Va Vb q fin
 | _=>exact v0 q
theorem Gf {op:CmpOp}{x y:AV}{a b:Value}{Q:Bool→AH→Prop}{P:Value→Shared→Prop}(Ok:G.Ok)(hu:A.units+80<cLine)(R:Rep Z G C vt σ H s)(Va:aj Z G.w H s.heap x a)(Vb:aj Z G.w H s.heap y b)(q:AX op Q x y H)
  (fin:∀(r:Bool) (t:Nat),Q r H→P (.bool r) {s with toks:=t}):wpAny (model Z G.w) A (compareOp op a b) P E s:=by
 have rm:∀r:Bool,Q r H→P (.bool r) s:=fun r q=>fin r s.toks q
 have ii:∀{k:Int→Int→Prop},fF x y k→(∀x y t u,k x y→wpAny (model Z G.w) A (compareOp op (.int x t) (.int y u)) P E s)→wpAny (model Z G.w) A (compareOp op a b) P E s:=fun q f=>
  Ij (P:=fun a b=>wpAny (model Z G.w) A (compareOp op a b) P E s) Va Vb q f
 cases op with
 | Eq=>exact eqP (neg:=false) Ok hu R Va Vb q rm
 | NotEq=>exact eqP (neg:=true) Ok hu R Va Vb q rm
 | Lt=>exact ii q fun _ _ _ _ q=>lt_int (rm _ q)
 | LtE=>exact ii q fun _ _ _ _ q=>le_int (rm _ q)
 | Gt=>exact ii q fun _ _ _ _ q=>gt_int (rm _ q)
 | GtE=>exact ii q fun _ _ _ _ q=>ge_int (rm _ q)
 | Is=>
  revert Vb
  refine TS q fun q Vb=>Vb.wP ?_
  cases x with
  | none=>exact Va.wP (is_none (rm _ q))
  | int i=>exact Va.dT fun t=>is_none (rm _ q)
  | _=>exact v0 q
 | IsNot=>
  revert Vb
  refine TS q fun q Vb=>Vb.wP ?_
  cases x with
  | none=>exact Va.wP (isNot_none (rm _ q))
  | int i=>exact Va.dT fun t=>isNot_none (rm _ q)
  | _=>exact v0 q
 | NotIn=>
  revert Va
  refine fY q fun k q Va=>Va.dT fun t=>?_
  obtain⟨l,d,q⟩:=q
  exact cY.e Ok R.g Vb d fun p kp np dp rp=>wpAny_notIn_of (k:=k) (intKind_is _ _ _ _) np dp.mapOf (fin _ _ ((rp.look k).isN▸q))
 | In=>exact v0 q
theorem u0 {x:AV}{a:Value}{Q:Bool→AH→Prop}{Q':Bool→Shared→Prop}(Va:aj Z G.w H s.heap x a)(q:d9 Q x H)(h:∀b,Q b H→Q' b s):wpAny (model Z G.w) A (truthy a) Q' E s:=
 TP (P:=fun x=>aj Z G.w H s.heap x a→wpAny (model Z G.w) A (truthy a) Q' E s) q (fun b q Va=>Va.WI (wpAny_truthy_bool (h _ q))) Va
theorem ahT {x:AV}{a:Value}(R:Rep Z G C vt σ H s)(Va:aj Z G.w H s.heap x a)(q:Yt Q x H):wpAny (model Z G.w) A (unaryOp .USub a) (EP Z G C vt σ H s Q) E s:=
 fY (P:=fun x=>aj Z G.w H s.heap x a→wpAny (model Z G.w) A (unaryOp .USub a) (EP Z G C vt σ H s Q) E s) q (fun b q Va=>Va.dT fun t=>neg_int (EP.tok R .int q)) Va
noncomputable def jM (e:PySem.Expr):Bool:= !pO e fun _ _ _=>true
theorem Sv {e:PySem.Expr}(h:jM e=true)(o i:Value):subscripted e false o i=operate [o,i] (getItem o i):=by
 cases e<;>first | rfl | exact ff h
theorem DN {T id:String}{value slice:PySem.Expr}{o i:Value}{Q:Value→Shared→Prop}(hs:jM slice=true)(hT:s.TypeIs o T)(hl:typeLookup (.type T) "__getitem__" =pure (some (.builtin id)))
  (h:wpAny (model Z G.w) A (getItem o i) Q E s):wpAny (model Z G.w) A (subscriptTail value slice o i) Q E s:=tail_any hT hl h (Sv hs o i)
theorem Gw {xs:List AV}{k:Int}{v:AV}(hv:itemAt xs k=some v):(k<0∧ -k≤xs.length∧xs[(k+xs.length).toNat]? =some v)∨(0≤k∧xs[k.toNat]? =some v):=by
 unfold itemAt at hv
 by_cases c:k<0
 ·rw[if_pos c] at hv
  by_cases d:-k≤xs.length
  ·rw[if_pos d] at hv;exact .inl ⟨c,d,hv⟩
  ·rw[if_neg d] at hv;exact nomatch hv
 ·rw[if_neg c] at hv;exact .inr ⟨by lia,hv⟩
theorem item_list {vs:Array Value}{xs:List AV}{l:Addr}{k:Int}{t:Tok}{P:Value→Shared→Prop}(hl:s.heap.IsList l vs)(r:am Z G.w H s.heap xs vs.toList)(q:itR xs k H Q)
  (h:∀v x,Q v H→aj Z G.w H s.heap v x→P x s):wpAny (model Z G.w) A (getItem (.ref l) (.int k t)) P E s:=by
 obtain⟨h1,h2,v,hv,q⟩:=q
 have hlen:=r.d5
 rcases Gw hv with ⟨c,d,hv⟩ | ⟨c,hv⟩
 ·obtain⟨x,hx,vr⟩:=r.MH hv
  exact wpAny_getItem_list_neg hl c (by lia) (by lia) (hlen▸hx) (h v x q vr)
 ·obtain⟨x,hx,vr⟩:=r.MH hv
  exact wpAny_getItem_list hl c (by lia) hx (h v x q vr)
theorem item_tup {vs:Array Value}{xs:List AV}{l:Addr}{k:Int}{t:Tok}{P:Value→Shared→Prop}(hl:IsTup s.heap l vs)(r:am Z G.w H s.heap xs vs.toList)(q:itR xs k H Q)
  (h:∀v x,Q v H→aj Z G.w H s.heap v x→P x s):wpAny (model Z G.w) A (getItem (.ref l) (.int k t)) P E s:=by
 obtain⟨h1,h2,v,hv,q⟩:=q
 have hlen:=r.d5
 have key:∃j,seqIndex? k vs.size=some j∧xs[j]? =some v:=by
  rcases Gw hv with ⟨c,d,hv⟩ | ⟨c,hv⟩
  ·exact⟨_,by unfold seqIndex?;simp;lia,hlen▸hv⟩
  ·have :=(List.getElem?_eq_some_iff.mp hv).1
   exact⟨k.toNat,by unfold seqIndex?;simp;lia,hv⟩
 obtain⟨j,hj,hv⟩:=key
 obtain⟨x,hx,vr⟩:=r.MH hv
 exact PyProof.Rows.getItem_tuple hl (by lia) (by lia) hj hx (h v x q vr)
theorem item_dict {a:Value}{k:Int}{t:Tok}{x:AV}{l:List (Int×AV)}{value slice:PySem.Expr}(hs:jM slice=true)(Ok:G.Ok)(R:Rep Z G C vt σ H s)(Va:aj Z G.w H s.heap x a)(d:cY H x l)(q:VO l k H Q):
  wpAny (model Z G.w) A (subscriptTail value slice a (.int k t)) (EP Z G C vt σ H s Q) E s:=
 cY.e Ok R.g Va d fun p kp np dp rp=>q.casesOn fun v e q=>((rp.look k).at e).elim fun u z=>DN hs dp.typeIs slot_dict_getitem.lookup (wpAny_getItem_of (intKind_is _ _ _ _) dp.mapOf z.1 (EP.tok R z.2 q))
theorem ahj {x y:AV}{a b:Value}{value slice:PySem.Expr}(hs:jM slice=true)(Ok:G.Ok)(R:Rep Z G C vt σ H s)(Va:aj Z G.w H s.heap x a)(Vb:aj Z G.w H s.heap y b)(q:Ii Q x y H):
  wpAny (model Z G.w) A (subscriptTail value slice a b) (EP Z G C vt σ H s Q) E s:=by
 have fin:∀v x,Q v H→aj Z G.w H s.heap v x→EP Z G C vt σ H s Q x s:=fun v x q V=>EP.here R V q
 have i:∀{k:Int→Prop},ie y k→(∀i t,k i→wpAny (model Z G.w) A (subscriptTail value slice a (.int i t)) (EP Z G C vt σ H s Q) E s)→wpAny (model Z G.w) A (subscriptTail value slice a b) (EP Z G C vt σ H s Q) E s:=fun q f=>
  fY (P:=fun y=>aj Z G.w H s.heap y b→wpAny (model Z G.w) A (subscriptTail value slice a b) (EP Z G C vt σ H s Q) E s) q (fun i q V=>V.dT fun t=>f i t q) Vb
 cases x with
 | tup xs=>exact i q fun k t q=>Va.G4 fun a o n vs ho hc hd hn r=>have ht:IsTup s.heap a vs:=⟨_,ho,hc,_,hd⟩;DN hs ht.typeIs slot_tuple_getitem.lookup (item_tup ht r q fin)
 | lst xs=>exact i q fun k t q=>bR.e (l:=xs) R.g Va rfl fun x vs hl r=>DN hs hl.typeIs slot_list_getitem.lookup (item_list hl r q fin)
 | bytes xs=>
  refine i q fun k t q=>Va.tc fun b t' e=>?_
  obtain⟨h0,h1,h2,v,hv,q⟩:=q
  have hM:k.toNat<xs.length:=(List.getElem?_eq_some_iff.mp hv).1
  have hl:xs.length=b.toList.length:=e▸List.length_map ..
  have hb:v=(b.toList.getD k.toNat 0).toNat:=by
   rw[←e,List.getElem?_map] at hv
   obtain⟨z,hz,rfl⟩:=Option.map_eq_some_iff.mp hv
   rw[List.getD_eq_getElem?_getD,hz];rfl
  exact DN (T:="bytes") hs (typeIs_bytes s b t') FB.slot_bytes_getitem.lookup ((Array.toArray_toList (xs:=b))▸getItem_bytes (by lia) h1 (by lia) (EP.tok R (hb▸ .int) q))
 | dC l=>exact i q fun k t q=>item_dict hs Ok R Va rfl q
 | ref a=>
  refine i q fun k t q=>q.casesOn (fun q=>?_) fun q=>?_
  ·exact q.casesOn fun xs e q=>bR.e R.g Va e fun x vs hl r=>DN hs hl.typeIs slot_list_getitem.lookup (item_list hl r q fin)
  ·exact q.casesOn fun l e q=>item_dict hs Ok R Va e q
 | _=>exact v0 q
end
section
variable {Z:Program}{G:Gd}{cls:Value}{C:FC}{vt:List VK}{σ:Sg}{H:AH}{s:Shared}{E:Value→Shared→Prop}{Q:AV→AH→Prop}{A:Around}
theorem ZD {x:AV}{v:Value}{k:Option Int}(V:aj Z G.w H s.heap x v)(e:Sh x=some k):IsPart v k:=by
 cases x with
 | none=>exact V.wP (Option.some.inj e▸ .none)
 | int i=>exact V.dT fun t=>Option.some.inj e▸ .int _ _
 | _=>exact nomatch e
theorem xN (h:Heap)(o o':Obj):∀b x,h.get? b=some x→((h.push o).push o').get? b=some x:=fun _ _ e=>Heap.get?_push_of_some _ (Heap.get?_push_of_some _ e)
theorem adf (h:Heap)(o o':Obj):h.objs.size≤((h.push o).push o').objs.size:=Nat.le_trans (push_size h o) (push_size _ o')
theorem ahx (x:Int):(max 0 x).toNat=x.toNat:=by cases x<;>rfl
theorem U3 (m n:Nat):(min (m:Int) n).toNat=min m n:=by
 rw[Int.min_def,Nat.min_def]
 by_cases h:m≤n
 ·rw[if_pos h,if_pos (Int.ofNat_le.mpr h)];rfl
 ·rw[if_neg h,if_neg (fun z=>h (Int.ofNat_le.mp z))];rfl
theorem Mr (x:Int)(n:Nat):clipAt n x=if x<0 then n-(-x).toNat else min x.toNat n:=by
 show(max (0:Int) _).toNat=ite _ _ _
 rw[ahx]
 by_cases h:x<0
 ·rw[if_pos h,if_pos h,Int.min_eq_left (by lia),←Int.toNat_sub,Int.toNat_of_nonneg (Int.neg_nonneg_of_nonpos (Int.le_of_lt h)),Int.sub_neg,Int.add_comm]
 ·obtain⟨m,rfl⟩:=Int.eq_ofNat_of_zero_le (Int.not_lt.mp h)
  rw[if_neg h,if_neg h];exact U3 m n
theorem W4 (k:Option Int)(n:Nat):k.elim 0 (clipAt n)=kms_lo k n:=by
 cases k with
 | none=>rfl
 | some x=>exact Mr x n
theorem W3 (k:Option Int)(n:Nat):k.elim n (clipAt n)=kms_hi k n:=by
 cases k with
 | none=>rfl
 | some x=>exact Mr x n
theorem ZC {a:AV}{av:Value}{xs ys:List AV}{vl vu vk:Value}{kl ku kk:Option Int}{value:PySem.Expr}{sl:PySem.Expr}(R:Rep Z G C vt σ H s)(Va:aj Z G.w H s.heap a av)(d:bR H a xs)(hz:xs.length≤100000)
  (pl:IsPart vl kl) (pu:IsPart vu ku) (pk:IsPart vk kk) (hk:kk≠some 0) (hr:∀vs:Array Value,am Z G.w H s.heap xs vs.toList→am Z G.w H s.heap ys (slicePick vs kl ku kk).toList) (ho:∀o i,∃ops,subscripted sl false o i=operate ops (getItem o i)) (q:Q (.lst ys) H):
  wpAny (model Z G.w) A (subscriptTail value sl av (.ref s.heap.objs.size)) (EP Z G C vt σ H s Q) E {s with heap:=s.heap.push {cls:= .type "slice",data:= .fields #[vl,vu,vk]}}:=
 bR.e R.g Va d fun y vs hl r=>by
  have yU:({s with heap:=s.heap.push {cls:= .type "slice",data:= .fields #[vl,vu,vk]}}:Shared).heap.IsList y vs:=hl.at fun o e=>ax _ _ _ _ e
  exact(ho (.ref y) (.ref s.heap.objs.size)).elim fun ops ho=>tail_any yU.typeIs slot_list_getitem.lookup (wpAny_getItem_list_slice yU (Heap.IsSliceOf.new _ _ _ _) pl pu pk hk
   (EP.grow (t:=s.toks) R (xN _ _ _) (.lst (Heap.get?_push_size _ rfl) rfl rfl rfl (R.g.dw (push_size _ _)) ((hr vs r).mono (bc.same (xN _ _ _)))) q) (r.d5▸Nat.le_trans hz (by decide))) ho
theorem UE {xs:List AV}{vs:Array Value}{l u:Option Int}{h:Heap}(r:am Z G.w H h xs vs.toList):am Z G.w H h (cU xs l u) (slicePick vs l u none).toList:=by
 rw[kms_pick_eq]
 show am Z G.w H h _ (kms_pick vs.toList l u)
 unfold cU kms_pick
 rw[r.len]
 exact(r.drop _).take _
theorem aiB {x l u:AV}{a vl vu:Value}{value:PySem.Expr}{lo hi:Option PySem.Expr}{p:Pos}(R:Rep Z G C vt σ H s)(Va:aj Z G.w H s.heap x a)(Vl:aj Z G.w H s.heap l vl)(Vu:aj Z G.w H s.heap u vu)(q:ZY Q x l u H):
  wpAny (model Z G.w) A (subscriptTail value (.Slice lo hi none p) a (.ref s.heap.objs.size)) (EP Z G C vt σ H s Q) E {s with heap:=s.heap.push {cls:= .type "slice",data:= .fields #[vl,vu,.none]}}:=by
 obtain⟨kl,ku,el,eu,q⟩:=q
 have pl:=ZD Vl el
 have pu:=ZD Vu eu
 have lst:∀{a v},aj Z G.w H s.heap a v→xw a (fun xs=>.lst (cU xs kl ku)) H Q→wpAny (model Z G.w) A (subscriptTail value (.Slice lo hi none p) v (.ref s.heap.objs.size)) (EP Z G C vt σ H s Q) E {s with heap:=s.heap.push {cls:= .type "slice",data:= .fields #[vl,vu,.none]}}:=fun V q=>
  q.casesOn fun xs d z q=>ZC R V d z pl pu .none (fun z=>nomatch z) (fun vs r=>UE r) (fun o i=>⟨_,rfl⟩) q
 cases x with
 | bytes xs=>
  refine Va.tc fun b t e=>?_
  have hl:xs.length=b.size:=by rw[←e,List.length_map,Array.length_toList]
  refine q.casesOn fun hz q=>?_
  refine tail_any (typeIs_bytes _ _ _) FB.slot_bytes_getitem.lookup (ops:=[.ref s.heap.objs.size,.bytes b t]) (getItem_meets (typeIs_bytes _ _ _) (by decide) FB.slot_bytes_getitem FB.entry_bytes_getitem (FB.args_bytes_getitem_2 _ _) (KBc.meets_slice2 b t _ pl pu)
   ⟨Heap.IsSliceOf.new _ _ _ _,Nat.le_trans (KBc.size_picked_le b kl ku) (hl▸Nat.le_trans hz (by decide)),fun t' k=>EP.grow R (ax _ _) (.bytes ?_) q⟩) rfl
  rw[KBc.picked_eq,W4,W3]
  unfold cU
  rw[List.map_take,List.map_drop,e,hl]
 | ref r=>exact lst Va q
 | lst r=>exact lst Va q
 | _=>exact v0 q
theorem aia {x:AV}{a k1:Value}{value:PySem.Expr}{e:PySem.Expr}{p:Pos}(R:Rep Z G C vt σ H s)(Va:aj Z G.w H s.heap x a)(hk:IsPart k1 (some (-1)))(q:ZL Q x H)
  (hs:∀o i,∃ops,subscripted (.Slice none none (some e) p) false o i=operate ops (getItem o i)):
  wpAny (model Z G.w) A (subscriptTail value (.Slice none none (some e) p) a (.ref s.heap.objs.size)) (EP Z G C vt σ H s Q) E {s with heap:=s.heap.push {cls:= .type "slice",data:= .fields #[.none,.none,k1]}}:=
 xw.casesOn q fun xs d z q=>ZC R Va d z .none .none hk (by decide) (fun vs r=>(krv_pick vs).symm▸r.reverse) hs q
theorem toNat_inj:∀{l m:List Char},l.map Char.toNat=m.map Char.toNat→l=m
 | [],[],_=>rfl
 | [],_::_,e=>by simp at e
 | _::_,[],e=>by simp at e
 | a::l,b::m,e=>by
  simp only [List.map_cons,List.cons.injEq] at e
  have :a=b:=Char.ext (UInt32.toNat_inj.mp e.1)
  rw[this,toNat_inj e.2]
theorem Fr {a b:String}(e:Str.ofString a=Str.ofString b):a=b:=by
 rw[Str.ofString_eq_toList,Str.ofString_eq_toList,Str.mk.injEq] at e
 have e2:=congrArg Array.toList e
 exact String.toList_inj.mp (toNat_inj e2)
theorem Gu {a b:String}{t:Tok}(h:a≠b):(Value.str (Str.ofString a) t).isStr (Str.ofString b)=false:=beq_eq_false_iff_ne.mpr fun e=>h (Fr e)
theorem Gs (a:String)(t:Tok):(Value.str (Str.ofString a) t).isStr (Str.ofString a)=true:=beq_self_eq_true _
inductive xU (Z:Program)(w:World)(H:AH)(h:Heap):Option AV→Option (Option Value)→Prop
 | no:xU Z w H h none (some none)
 | so (x:AV) (v:Value) (V:aj Z w H h x v):xU Z w H h (some x) (some (some v))
theorem bd.get {h:Heap}{fs:List (String×AV)}{es:List DictEntry}(r:bd Z G.w H h fs es)(nm:String):xU Z G.w H h (pI fs nm) (getL (Str.ofString nm) es):=by
 induction fs generalizing es with
 | nil=>exact r.cn .no
 | cons p l ih=>
  refine r.bn fun hs t v vs a r=>?_
  have ih:=ih r
  unfold pI getL at ih ⊢
  rw[List.find?_cons,List.find?_cons]
  by_cases h:p.1=nm
  ·subst h
   rw[Gs,decide_eq_true rfl];exact .so _ _ a
  ·rw[Gu h,decide_eq_false h]
   exact ih
theorem xU.at {h:Heap}{a b x}(r:xU Z G.w H h a b)(e:a=some x):∃v,b=some (some v)∧aj Z G.w H h x v:=xU.casesOn (motive:=fun a b _=>a=some x→∃v,b=some (some v)∧aj Z G.w H h x v) r (fun e=>nomatch e) (fun y v V e=>⟨v,rfl,Option.some.inj e▸V⟩) e
theorem xU.none {h:Heap}{a b}(r:xU Z G.w H h a b)(e:a= .none):b=some .none:=xU.casesOn (motive:=fun a b _=>a= .none→b=some .none) r (fun _=>rfl) (fun y v V e=>nomatch e) e
theorem xU.some {h:Heap}{a b}(r:xU Z G.w H h a b):b.isSome=true:=xU.casesOn (motive:=fun a b _=>b.isSome=true) r rfl fun _ _ _=>rfl
theorem bd.put {h:Heap}{fs:List (String×AV)}{es:List DictEntry}(r:bd Z G.w H h fs es)(nm:String){x:AV}{v:Value}(hs:Int)(t:Tok)(q:aj Z G.w H h x v):bd Z G.w H h (N5 fs nm x) (putL (Str.ofString nm) hs (.str (Str.ofString nm) t) v es):=by
 induction fs generalizing es with
 | nil=>exact r.cn (.cons q .nil)
 | cons p l ih=>
  refine r.bn fun hs' t' u vs a r=>?_
  unfold N5 putL
  by_cases h:p.1=nm
  ·subst h
   rw[if_pos rfl,if_pos (Gs _ _)]
   exact .cons q r
  ·rw[if_neg h,Gu h,if_neg Bool.false_ne_true]
   exact .cons a (ih r)
theorem bd.len {h:Heap}{fs:List (String×AV)}{es:List DictEntry}(r:bd Z G.w H h fs es):fs.length=es.length:=by
 induction fs generalizing es with
 | nil=>exact r.cn rfl
 | cons a l ih=>exact r.bn fun _ _ _ _ _ r=>congrArg Nat.succ (ih r)
theorem Vp (nm:Str)(hs:Int)(k v:Value)(es:List DictEntry):(putL nm hs k v es).length≤es.length+1:=by
 induction es with
 | nil=>exact Nat.le_refl _
 | cons e r ih=>
  unfold putL
  split
  ·exact Nat.le_succ _
  ·exact Nat.succ_le_succ ih
theorem XA {x:AV}{v:Value}(V:aj Z G.w H s.heap x v)(h:PU x=true):handedIn v=true:=aj.casesOn (motive_1:=fun x v _=>PU x=true→handedIn v=true) V (fun _=>rfl) (fun _=>rfl) (fun _=>rfl) (fun _=>rfl) (fun _ _=>rfl) (fun _=>rfl) (fun _ h=>ff h)
 (fun _ _ _ _ _ _=>rfl) (fun _ _ _ _ _ _ _=>rfl) (fun _ _ _ _ _=>rfl) (fun _ _ _=>rfl) (fun _ _ _ _ _ _=>rfl) h
inductive D1 (Z:Program)(w:World)(H:AH)(h:Heap)(C:Addr)(fs:List (String×AV))(a:Addr):Prop
 | mk (dx:Addr) (es:List DictEntry) (n:Nat) (h1:h.get? a=some (instObj C dx)) (h2:h.get? dx=some (dictOf es n)) (r:bd Z w H h fs es):D1 Z w H h C fs a
theorem au.inR {ak:List Env}{a C dx:Addr}{fs:List (String×AV)}(R:au Z G ak H s)(h1:H a=some (.inst C dx))(h2:H dx=some (.attrs fs)):D1 Z G.w H s.heap C fs a:=by
 obtain⟨es,n,h3,r⟩:=(R.own _ _ h2).2
 exact⟨dx,es,n,(R.own _ _ h1).2,h3,r⟩
theorem D1.inst {C a dx:Addr}{es:List DictEntry}{n:Nat}{h:Heap}(h1:h.get? a=some (instObj C dx))(h2:h.get? dx=some (dictOf es n)):InstAt h a (instObj C dx) C (some (dictOf es n)):=⟨h1,rfl,rfl,h2⟩
theorem SU {nm:String}{b:Bool}{o Cc:Addr}{fs:List (String×AV)}(Ok:G.Ok)(R:Rep Z G C vt σ H s)(I:D1 Z G.w H s.heap Cc fs o)(q:Pf G Cc fs nm H Q):wpAny (model Z G.w) A (getAttr (.ref o) (Str.ofString nm) b) (EP Z G C vt σ H s Q) E s:=
 D1.casesOn I fun dx es n h1 h2 r=>q.casesOn fun ok v e hn q=>((r.get nm).at e).elim fun u z=>get_value (Ok.X.keeps R.g.keep) (D1.inst h1 h2) (plainGet_of ok.1).1 (findObj_own ok.2.1 ok.2.2 rfl z.1) (XA z.2 hn) (EP.tok R z.2 q)
theorem adA {x:AV}{a:Value}{nm:String}{b:Bool}(Ok:G.Ok)(R:Rep Z G C vt σ H s)(Va:aj Z G.w H s.heap x a)(q:SI G nm Q x H):
  wpAny (model Z G.w) A (getAttr a (Str.ofString nm) b) (EP Z G C vt σ H s Q) E s:=by
 cases x with
 | obj Cc fs=>exact Va.objE fun a dx es n h1 _ h2 _ r=>SU Ok R ⟨dx,es,n,h1,h2,r⟩ q
 | ref a=>
  obtain⟨Cc,dx,fs,h1,h2,q⟩:=q
  exact Va.im (SU Ok R (R.g.inR h1 h2) q)
 | _=>exact v0 q
theorem ah4 {K:Frag}{x Cc dx:Addr}{name:Str}{tk:Tok}{v:Value}{es:List DictEntry}{n:Nat}{R:Result→Shared→Prop}(X:K.In s.heap)(h1:s.heap.get? x=some (instObj Cc dx))(h2:s.heap.get? dx=some (dictOf es n))(hp:plainOver K Cc=true)
  (ht:takerIn K Cc name=some none) (hh:hasDictIn K Cc=true) (hl:(getL name es).isSome=true) (hz:es.length≤999)
  (h:∀h',h'.get? dx=some (dictOf (putL name (PyData.keyHash G.w.params name) (.str name s.toks) v es) (putN name es n))→Heap.SameBut dx s.heap h'→R (.ok (.ret .none)) {s with heap:=h',toks:=s.toks+1}):
  codeAny (model Z G.w) A (.call (.builtin "object.__setattr__") ⟨[.ref x,.str name tk,v],[]⟩) R s:=by
 have I:InstAt s.heap x (instObj Cc dx) Cc (some (dictOf es n)):=⟨h1,rfl,rfl,h2⟩
 refine osa_open X I hp ht fun b=>?_
 obtain⟨cd,hc,hd'⟩:=any_some hh
 refine wpAny_bind (wpAny_pure (wpAny_bind (wpAny_bind (wpAny_loadPart h1 (wpAny_bind ((looks_clsIn X hc).here ?_))))))
 rw[hd']
 refine wpAny_pure (a:=some dx) (wpAny_bind (wpAny_pure (wpAny_bind ?_)))
 unfold nsSet
 refine wpAny_bind (wpAny_bind (wpAny_askSetting (wpAny_pure (wpAny_bind (wpAny_mkText (wpAny_bind (wpAny_loadPart h2 ?_)))))))
 have c:(!es.toArray.any (·.key.isStr name)&&es.toArray.any (·.refKey))=false:=by
  rw[←Array.any_toList,←Array.any_toList]
  unfold getL at hl
  split at hl
  ·rename_i en he
   rw[List.any_eq_true.mpr ⟨en,List.mem_of_find?_eq_some he,List.find?_some he⟩];rfl
  ·split at hl
   ·cases hl
   ·rename_i z;rw[Bool.not_eq_true] at z;rw[z,Bool.and_false]
 dsimp only
 rw[aRefKeyMayBeTheName_at,c]
 refine wpAny_updatePart h2 ?_
 have MQ:=Heap.get?_update_self (h:=s.heap) (f:=Obj.putName name (PyData.keyHash G.w.params name) (.str name s.toks) v) h2 (by rw[putName_dict];rfl)
 rw[putName_dict] at MQ
 have UX:=Vp name (PyData.keyHash G.w.params name) (.str name s.toks) v es
 refine wpAny_bind (wpAny_lookBehind MQ (pastItsLine_dict (by rw[List.size_toArray,sizeLine_eq];lia)) ?_)
 exact wpAny_pure (h _ MQ (Heap.SameBut.update _ _ _))
end
section
variable {Z:Program}{G:Gd}{cls:Value}{C:FC}{vt:List VK}{σ:Sg}{H:AH}{s:Shared}{E:Value→Shared→Prop}{Q:AV→AH→Prop}{A:Around}
theorem aau {d:Addr}{kvs:List (Int×Value)}(h:s.heap.DictOf (intKind Z G.w) d kvs):(kvs.map (·.1)).Nodup:=h.elim fun _ h=>h.elim fun _ h=>h.elim fun _ h=>h.2.2.2.2.2
inductive UP (Z:Program)(G:Gd)(C:FC)(vt:List VK)(σ:Sg)(H:AH)(s:Shared)(Q:AH→Prop)(u:Unit)(s':Shared):Prop
 | mk (H':AH) (a:Rep Z G C vt σ H' s') (b:Ext noOwn H s.heap H' s'.heap) (c:aF s s') (q:Q H'):UP Z G C vt σ H s Q u s'
theorem UP.put {Q:AH→Prop}{h':Heap}{t:Nat}{a:Addr}{o o':AO}(R:Rep Z G C vt σ H s)(e:H a=some o)(az:o.kept=false)(hs:Heap.SameBut a s.heap h')(ho:dj Z G.w G.gl (H.set a o') h' a o')
  (q:Q (H.set a o')):UP Z G C vt σ H s Q () {s with heap:=h',toks:=t}:=
 ⟨H.set a o',R.step (s':={s with heap:=h',toks:=t}) (Ext.put e az hs ho.here) (R.g.put e az hs ho),Ext.put e az hs ho.here,aF.mk _ _ _,q⟩
theorem ZV {x y z:AV}{a b c:Value}{Q:AH→Prop}(Ok:G.Ok)(R:Rep Z G C vt σ H s)(Va:aj Z G.w H s.heap x a)(Vb:aj Z G.w H s.heap y b)(Vc:aj Z G.w H s.heap z c)(q:GU z Q x y H):
  wpAny (model Z G.w) A (setItem a b c) (UP Z G C vt σ H s Q) E s:=by
 revert Va
 refine Sb q fun ad q Va=>Va.im ?_
 revert Vb
 refine fY q fun k q Vb=>Vb.dT fun t=>q.casesOn (fun q=>?_) fun q=>?_
 ·obtain⟨xs,hx,h0,h1,h2,q⟩:=q
  obtain⟨vs,⟨n,ho⟩,r⟩:=(R.g.own _ _ hx).2
  have hlen:=r.d5
  have hs:=Heap.SameBut.update s.heap ad (Obj.mapSeq (·.setIfInBounds k.toNat c))
  refine ki_setAt ho h0 (by lia) (by lia) (UP.put (o':= .list _) (t:=s.toks) R hx rfl hs ⟨_,⟨_,get?_update_seq ho _⟩,?_⟩ q)
  exact Array.toList_setIfInBounds.symm▸(r.mono (cM hx hs)).set (Vc.mono (cM hx hs)) _
 ·obtain⟨l,hx,hz,q⟩:=q
  obtain⟨kp,dp,rp⟩:=(R.g.own _ _ hx).2
  exact wpAny_setItem_pairs (intKind_is _ _ _ _) dp (fun h' hd hs=>UP.put (o':= .dict _) R hx rfl hs ⟨_,hd,(rp.mono (cM hx hs)).put (aau dp) (Vc.mono (cM hx hs))⟩ q) (Nat.le_trans (rp.len▸hz:kp.length≤100000) (by decide:100000≤sizeLine))
theorem Vr {x z:AV}{a c:Value}{nm:String}{Q:AH→Prop}(Ok:G.Ok)(R:Rep Z G C vt σ H s)(Va:aj Z G.w H s.heap x a)(Vc:aj Z G.w H s.heap z c)(q:mw G nm z Q x H):
  wpAny (model Z G.w) A (setAttr a (Str.ofString nm) c) (UP Z G C vt σ H s Q) E s:=by
 revert Va
 refine Sb q fun ad q Va=>Va.im ?_
 obtain⟨Cc,dx,fs,h1,h2,ok,hz,q⟩:=q
 obtain⟨es,n,h3,r⟩:=(R.g.own _ _ h2).2
 have h4:=(R.g.own _ _ h1).2
 have X:G.K.In s.heap:=Ok.X.keeps R.g.keep
 exact set_plain X (D1.inst h4 h3) ok.1 (ah4 (s:={s with toks:=s.toks+1}) X h4 h3 ok.2.1 ok.2.2.1 ok.2.2.2 (r.get nm).some (r.len▸Nat.le_trans hz (by decide)) fun h' hn hs=>
  UP.put (o':= .attrs _) R h2 rfl hs ⟨_,_,hn,(r.mono (cM h2 hs)).put _ _ _ (Vc.mono (cM h2 hs))⟩ q)
theorem intsOf {l:List Int}{vs:List Value}{h:Heap}(r:am Z G.w H h (l.map .int) vs):IntsAre vs l:=by
 induction l generalizing vs with
 | nil=>exact r.cn .nil
 | cons i l ih=>exact r.bn fun v vs a r=>a.dT fun t=>.cons _ _ (ih r)
theorem ofInts {l:List Int}{vs:List Value}{h:Heap}(r:IntsAre vs l):am Z G.w H h (l.map .int) vs:=by
 induction r with
 | nil=>exact .nil
 | cons _ _ _ ih=>exact .cons .int ih
theorem aiK {xs:List AV}{t:Int}{vs:List Value}{h:Heap}(e:fR xs=some t)(r:am Z G.w H h xs vs):∃ns:List Int,IntsAre vs ns∧ns.sum=t:=by
 induction xs generalizing vs t with
 | nil=>cases e;exact r.cn ⟨[],.nil,rfl⟩
 | cons a l ih=>
  cases a with
  | int x=>
   obtain⟨u,e2,rfl⟩:=Option.map_eq_some_iff.mp (show(fR l).map (x+·)=some t from e)
   exact r.bn fun v vs a r=>a.dT fun t=>(ih e2 r).elim fun ns p=>⟨x::ns,.cons _ _ p.1,p.2▸List.sum_cons⟩
  | _=>exact nomatch e
theorem N1 (ns:List Int):∀k,k≤ns.length→preSum (fun i=>ns.getD i 0) k=(ns.take k).sum:=by
 intro k
 induction k with
 | zero=>intro _;simp [preSum]
 | succ k ih=>
  intro hk
  rw[preSum,ih (by lia),List.take_add_one,List.sum_append]
  have :ns[k]? =some (ns.getD k 0):=by rw[List.getD_eq_getElem?_getD];simp [List.getElem?_eq_getElem (show k<ns.length by lia)]
  rw[this];simp
theorem M2 {vs:List Value}{ns:List Int}(r:IntsAre vs ns){i:Nat}{v:Value}(e:vs[i]? =some v):∃t,v= .int (ns.getD i 0) t:=by
 induction r generalizing i with
 | nil=>exact nomatch e
 | cons a t r ih=>
  cases i with
  | zero=>cases e;exact⟨t,rfl⟩
  | succ i=>exact ih e
theorem fresh_ne {h:Heap}{a:Addr}(e:∃o,h.get? a=some o):a≠h.objs.size:=e.elim fun o e=>Nat.ne_of_lt (Heap.lt_size e)
theorem szc {n:Nat}(h:n≤100000):(n:Int)<2^63:=Int.lt_of_le_of_lt (Int.ofNat_le.mpr h) (by decide)
theorem aht {a:AV}{v:Value}(R:Rep Z G C vt σ H s)(V:aj Z G.w H s.heap a v)(q:Yc a H Q):wpAny (model Z G.w) A (call (.builtin "len") [v]) (EP Z G C vt σ H s Q) E s:=by
 have lst:∀{a v},aj Z G.w H s.heap a v→xw a (fun xs=>.int xs.length) H Q→wpAny (model Z G.w) A (call (.builtin "len") [v]) (EP Z G C vt σ H s Q) E s:=fun V q=>
  q.casesOn fun xs d z q=>bR.e R.g V d fun y vs hl r=>call_len_list hl (szc (r.d5▸z)) (EP.tok R .int (r.d5▸q))
 cases a with
 | tup xs=>exact V.G4 fun a o n vs ho hc hd hn r=>q.casesOn fun z q=>PyProof.Rows.len_tuple (⟨_,ho,hc,_,hd⟩:IsTup s.heap a vs) (szc (r.d5▸z)) (EP.tok R .int (r.d5▸q))
 | bytes xs=>
  refine V.tc fun b t' e=>?_
  have e:xs.length=b.size:=by rw[←e,List.length_map,Array.length_toList]
  exact q.casesOn fun z q=>len_bytes (Nat.le_trans (e▸z:b.size≤100000) (by decide)) (EP.tok R .int (e▸q))
 | ref r=>exact lst V q
 | lst r=>exact lst V q
 | _=>exact v0 q
theorem Vw {a:AV}{v:Value}(hh:A.handled=none)(R:Rep Z G C vt σ H s)(V:aj Z G.w H s.heap a v)(q:acW a H Q):wpAny (model Z G.w) A (call (.builtin "sum") [v]) (EP Z G C vt σ H s Q) E s:=by
 obtain⟨xs,t,d,e,hz,q⟩:=q
 refine bR.e R.g V d fun y vs hl r=>?_
 obtain⟨ns,hi,rfl⟩:=aiK e r
 have hy:∃o,s.heap.get? y=some o:=hl.elim fun o ho=>⟨o,ho.1⟩
 refine call_sum_walkG (wpAny_pyIter_list hl ⟨s.heap.objs.size,_,_,_,_,_,fun i=>ns.getD i 0,rfl,Walks.list (prog:=Z) (w:=G.w) (A:=A.in1) hh s.heap.objs.size y (fresh_ne hy) vs,⟨⟨_,Heap.get?_push_size _ rfl,rfl,rfl⟩,hl.at fun o e=>ax _ _ _ _ e⟩,?_,?_,fun h' tk t' k=>?_⟩)
 ·intro b hb
  rw[Heap.size_push]
  rcases List.mem_cons.mp hb with rfl | hb
  ·exact Nat.lt_succ_self _
  ·rw[List.mem_singleton.mp hb];exact hy.elim fun o e=>Nat.lt_succ_of_lt (Heap.lt_size e)
 ·exact fun i v e=>M2 hi (Array.getElem?_toList.trans e)
 ·have hlen:=hi.length
  rw[Array.length_toList] at hlen
  rw[N1 ns _ (by lia),List.take_of_length_le (by lia)]
  exact EP.grow R (fun b o e=>k b o (fun z=>Nat.ne_of_lt (Heap.lt_size e) (List.mem_singleton.mp z)) (ax _ _ _ _ e)) .int q
@[elab_as_elim] theorem i0 {a:List AV}{l:List Value}{k:AV→Prop}{h:Heap}{P:List Value→Prop}(V:am Z G.w H h a l)(q:pN a k)(f:∀x v,aj Z G.w H h x v→k x→P [v]):P l:=
 KX (P:=fun a=>am Z G.w H h a l→P l) q (fun x r q V=>V.bn fun v vs a V=>R8 (P:=fun r=>am Z G.w H h r vs→P (v::vs)) q (fun q V=>V.cn (f x v a q)) V) V
@[elab_as_elim] theorem Sw {a:List AV}{l:List Value}{k:AV→AV→Prop}{h:Heap}{P:List Value→Prop}(V:am Z G.w H h a l)(q:TM a k)(f:∀x y v u,aj Z G.w H h x v→aj Z G.w H h y u→k x y→P [v,u]):P l:=
 KX (P:=fun a=>am Z G.w H h a l→P l) q (fun x r q V=>V.bn fun v vs a V=>i0 (P:=fun vs=>P (v::vs)) V q fun y u b q=>f x y v u a b q) V
theorem biP {id:String}{args:List AV}{cargs:List Value}(Ok:G.Ok)(hh:A.handled=none)(R:Rep Z G C vt σ H s)(Va:am Z G.w H s.heap args cargs)(q:acX id args H Q)
  (hs:∀a v,aj Z G.w H s.heap a v→zF a H Q→wpAny (model Z G.w) A (call (.builtin "sorted") [v]) (EP Z G C vt σ H s Q) E s):
  wpAny (model Z G.w) A (call (.builtin id) cargs) (EP Z G C vt σ H s Q) E s:=by
 refine hO q (fun e q=>?_) fun _ q=>hO q (fun e q=>?_) fun _ q=>hO q (fun e q=>?_) fun _ q=>hO q (fun e q=>?_) fun _ q=>hO q (fun e q=>?_) fun _ q=>hO q (fun e q=>?_) fun _ q=>q.elim
 ·subst e;exact i0 Va q fun x v V q=>aht R V q
 ·subst e;refine i0 Va q fun x v V q=>?_
  revert V
  refine fY q fun i q V=>V.dT fun t=>call_abs_int fun u tk=>EP.tok R ?_ q
  have :(if i<0 then -i else i)=(i.natAbs:Int):=by split<;>lia
  exact this▸ .int
 ·subst e;refine Sw Va q fun x y v u Vx Vy q=>Ij (P:=fun v u=>wpAny (model Z G.w) A (call (.builtin "max") [v,u]) (EP Z G C vt σ H s Q) E s) Vx Vy q fun x y _ _ q=>max_two_ints hh fun h' tk k=>?_
  by_cases c:y>x
  ·rw[if_pos c];exact EP.grow R k .int (Int.max_eq_right (Int.le_of_lt c)▸q)
  ·rw[if_neg c];exact EP.grow R k .int (Int.max_eq_left (Int.not_lt.mp c)▸q)
 ·subst e;refine Sw Va q fun x y v u Vx Vy q=>Ij (P:=fun v u=>wpAny (model Z G.w) A (call (.builtin "min") [v,u]) (EP Z G C vt σ H s Q) E s) Vx Vy q fun x y _ _ q=>min_two_ints hh fun h' tk k=>?_
  by_cases c:y<x
  ·rw[if_pos c];exact EP.grow R k .int (Int.min_eq_right (Int.le_of_lt c)▸q)
  ·rw[if_neg c];exact EP.grow R k .int (Int.min_eq_left (Int.not_lt.mp c)▸q)
 ·subst e;exact i0 Va q fun x v V q=>Vw hh R V q
 ·subst e;exact i0 Va q fun x v V q=>hs x v V q
end
section
variable {Z:Program}{G:Gd}{cls:Value}{C:FC}{vt:List VK}{σ:Sg}{H:AH}{s:Shared}{E:Value→Shared→Prop}{Q:AV→AH→Prop}{A:Around}
theorem Ed {xs:List Int}(h:∀x∈xs,0≤x∧x<256):(byteArr xs).toList.map (fun x=>(x.toNat:Int))=xs:=by
 unfold byteArr
 rw[List.map_map]
 induction xs with
 | nil=>rfl
 | cons a l ih=>
  obtain⟨h0,h1⟩:=h a (.head _)
  rw[List.map_cons,ih fun x hx=>h x (.tail _ hx)]
  refine congrArg (· ::l) ?_
  show((a.toNat.toUInt8.toNat:Nat):Int)=a
  rw[Nat.toUInt8_eq,UInt8.toNat_ofNat',Nat.mod_eq_of_lt (by lia)]
  exact Int.toNat_of_nonneg h0
theorem WB:Slot "bytes" "__bytes__" "bytes.__bytes__":=
 .of (owner:="bytes") (n:="__bytes__") (by rw[typeLookup_type,builtinLookup_eq_fast];kernel_rfl) (by decide+kernel) (by decide+kernel) (by decide+kernel)
  (by first | exact .inl (by decide+kernel) | exact .inr (by decide+kernel)) (by rw[isSubtype_type];kernel_rfl)
theorem aa8 {b:Array UInt8}{t:Tok}{Q:Value→Shared→Prop}(hQ:Q (.bytes b t) s):
  codeAny (model Z G.w) A (.call (.builtin "bytes.__new__") ⟨[.type "bytes",.bytes b t],[]⟩) (wants Q E) s:=by
 refine codeAny_of_tree ?_
 show wpAny _ A.in1 (do checkBuiltinCall "bytes.__new__" ⟨[.type "bytes",.bytes b t],[]⟩;again (.builtin "bytes.__new__" ⟨[.type "bytes",.bytes b t],[]⟩)) _ _ s
 refine wpAny_bind (wpAny_of_eq (F.bm_newCall _) (wpAny_pure ⟨plainId_quiet F.bm_plain _,codeAny_builtin F.bm_entry ?_⟩))
 rw[Around.under_plainId F.bm_plain _]
 have hT:s.TypeIs (.bytes b t) "bytes":=PySem.W.typeIs_bytes _ _ _
 unfold Builtin.«bytes.__new__»
 refine wpAny_bind (wpAny_of_eq (a:=true) rfl ?_)
 refine bm_if_false rfl ?_
 refine wpAny_bind (wpAny_of_eq F.bm_sub ?_)
 refine bm_if_false rfl ?_
 refine wpAny_bind (wpAny_of_eq (F.bm_bind _) ?_)
 refine wpAny_bind (wpAny_of_eq (a:=()) rfl ?_)
 refine wpAny_bind (wpAny_of_eq (a:=()) rfl ?_)
 refine bm_if_false rfl ?_
 refine wpAny_bind (wpAny_specialOf hT WB.lookup ?_)
 dsimp only
 refine wpAny_bind (wpAny_rule ?_)
 refine wpAny_bind (wpAny_typeOf hT ?_)
 refine bm_if_true (by decide) ?_
 show wpAny _ _ (if(Value.type "bytes" ==Value.type "bytes")=true then _ else _) _ _ _
 refine bm_if_true (by decide) ?_
 exact wpAny_pure hQ
theorem tV {b:Array UInt8}{t:Tok}{Q:Value→Shared→Prop}(hQ:Q (.bytes b t) s):wpAny (model Z G.w) A (call (.type "bytes") [.bytes b t]) Q E s:=by
 refine callType_codes (Q₁:=fun obj s₁=>s₁.TypeIs obj "bytes"∧Q obj s₁) F.bm_called (F.bm_typeCall _) F.entry_object_init
  (aa8 ⟨PySem.W.typeIs_bytes _ _ _,hQ⟩) fun obj s₁ h₁=>?_
 exact⟨h₁.1,F.args_object_init_2 obj _,object_init_meets F.bm_called.init.lookup F.bm_called.made (by decide) Z G.w A.in1 _ s₁ ⟨h₁.1,rfl,h₁.2⟩⟩
theorem aa9 {a:AV}{v:Value}(hh:A.handled=none)(R:Rep Z G C vt σ H s)(V:aj Z G.w H s.heap a v)(q:WL a H Q):wpAny (model Z G.w) A (call (.type "bytes") [v]) (EP Z G C vt σ H s Q) E s:=by
 have lst:∀{a v},aj Z G.w H s.heap a v→WK a H Q→wpAny (model Z G.w) A (call (.type "bytes") [v]) (EP Z G C vt σ H s Q) E s:=fun V q=>
  q.casesOn fun xs d hb z q=>bR.e R.g V d fun y vs hl r=>call_bytes_ints (vs:=vs.toList) (Array.toArray_toList.symm▸hl) (intsOf r) hb (Nat.le_trans ((intsOf r).length▸z) (by decide:1000≤sizeLine)) hh fun h' t k hk=>EP.grow R hk (.bytes (Ed hb)) q
 cases a with
 | bytes l=>exact V.tc fun b t e=>tV (EP.here R (.bytes e) q)
 | ref r=>exact lst V q
 | lst r=>exact lst V q
 | _=>exact v0 q
theorem tyP {id:String}{args:List AV}{cargs:List Value}(Ok:G.Ok)(hh:A.handled=none)(R:Rep Z G C vt σ H s)(Va:am Z G.w H s.heap args cargs)(q:adm id args H Q)
  (hd:∀a v,aj Z G.w H s.heap a v→zv a H Q→wpAny (model Z G.w) A (call (.type "dict") [v]) (EP Z G C vt σ H s Q) E s):
  wpAny (model Z G.w) A (call (.type id) cargs) (EP Z G C vt σ H s Q) E s:=by
 refine hO q (fun e q=>?_) fun _ q=>hO q (fun e q=>?_) fun _ q=>hO q (fun e q=>?_) fun _ q=>hO q (fun e q=>?_) fun _ q=>q.elim
 ·subst e
  refine i0 Va q fun x v V q=>?_
  revert V
  exact TP q fun b q V=>V.WI (call_int_bool (EP.tok R .int q))
 ·subst e;exact i0 Va q fun x v V q=>aa9 hh R V q
 ·subst e
  revert Va
  refine KX q fun a r q Va=>Va.bn fun v vs V Vs=>?_
  cases r with
  | nil=>
   refine Vs.cn ?_
   revert V
   exact fY q fun b q V=>V.dT fun t=>q.casesOn fun _ _ q=>call_range_1 (EP.grow R (ax _ _) (.uN (Heap.get?_push_size _ rfl) R.g.fresh) q)
  | cons b r=>
   refine Vs.bn fun u us U Us=>?_
   revert Us
   exact R8 q fun q Us=>Us.cn (Ij (P:=fun v u=>wpAny (model Z G.w) A (call (.type "range") [v,u]) (EP Z G C vt σ H s Q) E s) V U q fun _ _ _ _ q=>q.casesOn fun _ _ _ _ q=>call_range_2 (EP.grow R (ax _ _) (.uN (Heap.get?_push_size _ rfl) R.g.fresh) q))
 ·subst e;exact i0 Va q fun x v V q=>hd x v V q
noncomputable def VS (G:Gd)(av:Value)(k:MK)(p:Value×List Value):Prop:=p.2=[av]∧@MK.casesOn (fun _=>Prop) k (fun f=>p.1= .ref f∧fnIn G.K f=true) (p.1= .builtin "list.append") (p.1= .builtin "dict.get") (p.1= .builtin "int.bit_length")
theorem ac7 {o Cc:Addr}{fs:List (String×AV)}{nm:String}{pl:Sem Bool}{f:Addr}{P:Value×List Value→Shared→Prop}(Ok:G.Ok)(R:Rep Z G C vt σ H s)(I:D1 Z G.w H s.heap Cc fs o)(ok:bf G.K Cc nm f)(hn:pI fs nm=none)(k:VS G (.ref o) (.fn f) (.ref f,[.ref o])→P (.ref f,[.ref o]) s):
  wpAny (model Z G.w) A (getMethod (.ref o) (Str.ofString nm) pl) P E s:=
 D1.casesOn I fun dx es n h1 h2 r=>method_fn (Ok.X.keeps R.g.keep) (D1.inst h1 h2) ok.1 ok.2.1 ok.2.2.1 ok.2.2.2.1 (by
  show(lookIn _ (dictOf es n)).map _=_
  rw[lookIn_dict,(r.get nm).none hn];rfl) (k ⟨rfl,rfl,ok.2.2.2.2⟩)
theorem Xu {x:Addr}{kvs:List (Int×Value)}{pl:Sem Bool}{P:Value×List Value→Shared→Prop}(hd:s.heap.DictOf (intKind Z G.w) x kvs)(k:P (.builtin "dict.get",[.ref x]) s):wpAny (model Z G.w) A (getMethod (.ref x) (Str.ofString "get") pl) P E s:=by
 obtain⟨o,es,ep,ho,hx,_⟩:=id hd
 exact getMethod_builtin (hd.typeIs) PySem.F.plainAttrs_dict PySem.F.slot_dict_get PySem.F.type_dict_get (fun b e=>by cases e;exact⟨_,ho,hx.2.1⟩) k
theorem methP {x:AV}{a:Value}{nm:String}{pl:Sem Bool}{Q:MK→Prop}{P:Value×List Value→Shared→Prop}(Ok:G.Ok)(R:Rep Z G C vt σ H s)(Va:aj Z G.w H s.heap x a)(q:ql G nm Q x H)
  (k:∀mk p,Q mk→VS G a mk p→P p s):wpAny (model Z G.w) A (getMethod a (Str.ofString nm) pl) P E s:=by
 cases x with
 | obj Cc fs=>
  revert k
  exact Va.objE fun a dx es n h1 _ h2 _ r k=>q.casesOn fun f ok e q=>ac7 Ok R ⟨dx,es,n,h1,h2,r⟩ ok e (k _ _ q)
 | int i=>
  obtain⟨rfl,q⟩:=q
  revert k
  exact Va.dT fun t k=>getMethod_int_bit_length (k _ _ q ⟨rfl,rfl⟩)
 | dC l=>
  obtain⟨rfl,q⟩:=q
  revert k
  exact Va.W8 fun a kvs hs hd hn r k=>Xu hd (k _ _ q ⟨rfl,rfl⟩)
 | ref o=>
  revert k
  refine Va.im fun k=>?_
  rcases q with ⟨⟨Cc,dx,fs,f,h1,h2,ok,hn,q⟩⟩ | ⟨⟨xs,h1,e,q⟩ | ⟨l,h1,e,q⟩⟩
  ·exact ac7 Ok R (R.g.inR h1 h2) ok hn (k _ _ q)
  ·subst e
   obtain⟨vs,hl,r⟩:=(R.g.own _ _ h1).2
   obtain⟨n,ho⟩:=id hl
   exact getMethod_builtin hl.isList.typeIs PySem.F.plainAttrs_list slot_list_append PySem.F.type_list_append (fun b e=>by cases e;exact⟨_,ho,rfl⟩) (k _ _ q ⟨rfl,rfl⟩)
  ·subst e
   exact(R.g.own _ _ h1).2.elim fun kvs z=>Xu z.1 (k _ _ q ⟨rfl,rfl⟩)
 | _=>exact v0 q
theorem Wx {o:Addr}{v:AV}{w:Value}{xs:List AV}(R:Rep Z G C vt σ H s)(hx:H o=some (.list xs))(hz:xs.length≤100000)(V:aj Z G.w H s.heap v w)(q:Q .none (H.set o (.list (xs++[v])))):
  wpAny (model Z G.w) A (call (.builtin "list.append") [.ref o,w]) (EP Z G C vt σ H s Q) E s:=by
 obtain⟨vs,hl,r⟩:=(R.g.own _ _ hx).2
 refine wpAny_list_append_plain hl (fun h' yU hs=>EP.put (t:=s.toks) R hx rfl hs (o':= .list (xs++[v])) ⟨_,yU,?_⟩ .none q) (Nat.le_trans (r.d5▸hz:vs.size≤100000) (by decide:100000≤sizeLine))
 exact Array.toList_push.symm▸(r.mono (cM hx hs)).append (.cons (V.mono (cM hx hs)) .nil)
theorem agq {a:AV}{av:Value}{i:Int}{t:Tok}{v:AV}{w:Value}{l:List (Int×AV)}(Ok:G.Ok)(R:Rep Z G C vt σ H s)(Va:aj Z G.w H s.heap a av)(d:cY H a l)(V:aj Z G.w H s.heap v w)(q:Q ((bo l i).getD v) H):
  wpAny (model Z G.w) A (call (.builtin "dict.get") [av,.int i t,w]) (EP Z G C vt σ H s Q) E s:=
 cY.e Ok R.g Va d fun p kp np dp rp=>call_meetsIn F.slot_dict_get dp.typeIs F.entry_dict_get (F.args_dict_get_3 _ _ _) (meets_dict_get_default (knd:=intKind Z G.w) (k:=i) (key:= .int i t) (d:=p) (hkey:=intKind_is Z G.w i t) (hd:=np) (dflt:=w)) ⟨_,dp.mapOf,EP.tok R ((rp.look i).getD V) q⟩
end
section
variable (Z:Program)(G:Gd)(cls:Value)
inductive BP (C:FC)(vt:List VK)(σ:Sg)(H:AH)(s:Shared)(Q:Bool→AH→Prop)(b:Bool)(s':Shared):Prop
 | mk (H':AH) (a:Rep Z G C vt σ H' s') (c:Ext noOwn H s.heap H' s'.heap) (d:aF s s') (q:Q b H'):BP C vt σ H s Q b s'
inductive VsP (C:FC)(vt:List VK)(σ:Sg)(H:AH)(s:Shared)(n:Nat)(Q:List AV→AH→Prop)(vs:List Value)(s':Shared):Prop
 | mk (vm:List AV) (H':AH) (hz:vs.length=n) (a:Rep Z G C vt σ H' s') (b:am Z G.w H' s'.heap vm vs) (c:Ext noOwn H s.heap H' s'.heap) (d:aF s s') (q:Q vm H'):VsP C vt σ H s n Q vs s'
structure St (C:FC)(vt:List VK)(σ:Sg)(H0:AH)(s0:Shared)(H:AH)(s:Shared):Prop where
 R:Rep Z G C vt σ H s
 x:Ext noOwn H0 s0.heap H s.heap
 y:aF s0 s
noncomputable def SE (m:MX):Prop:=∀(d:Nat) (C:FC) (vt:List VK) (e:PySem.Expr),aW C d→aN G.gl C.sc vt m e=true→∀(σ:Sg) (H:AH) (s:Shared) (Q:AV→AH→Prop) (X:AH→Prop),
 Rep Z G C vt σ H s→bI Z G cls d m σ H Q X→wpAny (model Z G.w) C.A (eval e C.env) (EP Z G C vt σ H s Q) (XP Z G cls C.ak H s X) s
noncomputable def ST (m:MX):Prop:=∀(d:Nat) (C:FC) (vt:List VK) (e:PySem.Expr),aW C d→aN G.gl C.sc vt m e=true→∀(σ:Sg) (H:AH) (s:Shared) (Q:Bool→AH→Prop) (X:AH→Prop),
 Rep Z G C vt σ H s→u7 Z G cls d m σ H Q X→wpAny (model Z G.w) C.A (isTrue e C.env (eval e C.env)) (BP Z G C vt σ H s Q) (XP Z G cls C.ak H s X) s
noncomputable def vf (l:bA):Prop:=∀(d:Nat) (C:FC) (vt:List VK) (es:List PySem.Expr) (pos:Pos),aW C d→cJ G.gl C.sc vt l es=true→∀(σ:Sg) (H:AH) (s:Shared) (Q:List AV→AH→Prop) (X:AH→Prop),
 Rep Z G C vt σ H s→pY Z G cls d l σ H Q X→wpAny (model Z G.w) C.A (spliced (backTo pos (starEach es C.env))) (VsP Z G C vt σ H s es.length Q) (XP Z G cls C.ak H s X) s
end
section
variable {Z:Program}{G:Gd}{cls:Value}{d:Nat}{C:FC}{vt:List VK}{e:PySem.Expr}{σ:Sg}{H H0:AH}{s s0:Shared}{X:AH→Prop}{m:MX}
theorem St.here (R:Rep Z G C vt σ H s):St Z G C vt σ H s H s:=⟨R,Ext.refl ..,aF.refl _⟩
theorem St.ep {Q:AV→AH→Prop}{v:Value}{av:AV}(S:St Z G C vt σ H0 s0 H s)(V:aj Z G.w H s.heap av v)(q:Q av H):EP Z G C vt σ H0 s0 Q v s:=⟨av,H,S.R,V,S.x,S.y,q⟩
theorem St.tok {t:Nat}(S:St Z G C vt σ H0 s0 H s):St Z G C vt σ H0 s0 H {s with toks:=t}:=⟨S.R.grow (h':=s.heap) fun _ _ e=>e,S.x,S.y.trans (aF.mkt _ _)⟩
theorem St.bp {Q:Bool→AH→Prop}{b:Bool}(S:St Z G C vt σ H0 s0 H s)(q:Q b H):BP Z G C vt σ H0 s0 Q b s:=⟨H,S.R,S.x,S.y,q⟩
theorem St.mono {Q:AV→AH→Prop}{A:Around}{m:Sem Value}{E:Value→Shared→Prop}{s1:Shared}(S:St Z G C vt σ H0 s0 H s)(w:wpAny (model Z G.w) A m (EP Z G C vt σ H s Q) E s1):wpAny (model Z G.w) A m (EP Z G C vt σ H0 s0 Q) E s1:=
 wpAny_mono w (fun _ _ z=>EP.trans S.x S.y z) fun _ _ z=>z
theorem St.IB {Q:AV→AH→Prop}{A:Around}{m:Sem Value}(S:St Z G C vt σ H0 s0 H s)(w:wpAny (model Z G.w) A m (EP Z G C vt σ H s Q) (XP Z G cls C.ak H s X) s):wpAny (model Z G.w) A m (EP Z G C vt σ H0 s0 Q) (XP Z G cls C.ak H0 s0 X) s:=
 wpAny_mono w (fun _ _ z=>EP.trans S.x S.y z) fun _ _ z=>XP.trans S.x S.y z
theorem BP.trans {Q:Bool→AH→Prop}{dD:Shared}{b:Bool}(S:St Z G C vt σ H0 s0 H s)(z:BP Z G C vt σ H s Q b dD):BP Z G C vt σ H0 s0 Q b dD:=BP.casesOn z fun cb a c d q=>⟨cb,a,S.x.trans c,S.y.trans d,q⟩
theorem St.Yo {Q:Bool→AH→Prop}{A:Around}{m:Sem Bool}(S:St Z G C vt σ H0 s0 H s)(w:wpAny (model Z G.w) A m (BP Z G C vt σ H s Q) (XP Z G cls C.ak H s X) s):wpAny (model Z G.w) A m (BP Z G C vt σ H0 s0 Q) (XP Z G cls C.ak H0 s0 X) s:=
 wpAny_mono w (fun _ _ z=>BP.trans S z) fun _ _ z=>XP.trans S.x S.y z
theorem SE.go {Q:AV→AH→Prop}{P:Value→Shared→Prop}(h:SE Z G cls m)(F:aW C d)(hc:aN G.gl C.sc vt m e=true)(S:St Z G C vt σ H0 s0 H s)(q:bI Z G cls d m σ H Q X)
  (k:∀av v H1 s1,St Z G C vt σ H0 s0 H1 s1→aj Z G.w H1 s1.heap av v→bc H s.heap H1 s1.heap→Q av H1→P v s1):
  wpAny (model Z G.w) C.A (eval e C.env) P (XP Z G cls C.ak H0 s0 X) s:=
 wpAny_mono (h d C vt e F hc σ H s Q X S.R q) (fun v s1 z=>EP.casesOn z fun av H1 R1 V1 x1 y1 q1=>k av v H1 s1 ⟨R1,S.x.trans x1,S.y.trans y1⟩ V1 x1.bY q1) fun _ _ z=>XP.trans S.x S.y z
theorem ST.go {Q:Bool→AH→Prop}{P:Bool→Shared→Prop}(h:ST Z G cls m)(F:aW C d)(hc:aN G.gl C.sc vt m e=true)(S:St Z G C vt σ H0 s0 H s)(q:u7 Z G cls d m σ H Q X)
  (k:∀b H1 s1,St Z G C vt σ H0 s0 H1 s1→Q b H1→P b s1):wpAny (model Z G.w) C.A (isTrue e C.env (eval e C.env)) P (XP Z G cls C.ak H0 s0 X) s:=
 wpAny_mono (h d C vt e F hc σ H s Q X S.R q) (fun b s1 z=>BP.casesOn z fun H1 R1 x1 y1 q1=>k b H1 s1 ⟨R1,S.x.trans x1,S.y.trans y1⟩ q1) fun _ _ z=>XP.trans S.x S.y z
theorem vf.go {l:bA}{es:List PySem.Expr}{pos:Pos}{Q:List AV→AH→Prop}{P:List Value→Shared→Prop}(h:vf Z G cls l)(F:aW C d)(hc:cJ G.gl C.sc vt l es=true)(S:St Z G C vt σ H0 s0 H s)(q:pY Z G cls d l σ H Q X)
  (k:∀av v H1 s1,v.length=es.length→St Z G C vt σ H0 s0 H1 s1→am Z G.w H1 s1.heap av v→bc H s.heap H1 s1.heap→Q av H1→P v s1):
  wpAny (model Z G.w) C.A (spliced (backTo pos (starEach es C.env))) P (XP Z G cls C.ak H0 s0 X) s:=
 wpAny_mono (h d C vt es pos F hc σ H s Q X S.R q) (fun v s1 z=>VsP.casesOn z fun av H1 hz R1 V1 x1 y1 q1=>k av v H1 s1 hz ⟨R1,S.x.trans x1,S.y.trans y1⟩ V1 x1.bY q1) fun _ _ z=>XP.trans S.x S.y z
theorem aW.VG (F:aW C d):C.A.units+80<cLine:=by have :=F.units;lia
theorem aaC {op:Operator}{a b:MX}(ha:SE Z G cls a)(hb:SE Z G cls b):SE Z G cls (.bin op a b):=fun d C vt e F hc=>NJ hc fun l o r p hc=>cG hc fun h0 h1 h2=>dW h0 fun σ H s Q X R q=>
 wpAny_BinOp (ha.go F h1 (.here R) q fun _ _ _ _ S1 V1 _ q1=>hb.go F h2 S1 q1 fun _ _ _ _ S2 V2 z2 q2=>S2.mono (af8 S2.R (V1.mono z2) V2 q2))
theorem aaE {op:CmpOp}{a b:MX}(Ok:G.Ok)(ha:SE Z G cls a)(hb:SE Z G cls b):SE Z G cls (.cmp op a b):=fun d C vt e F hc=>wQ hc fun l o r p hc=>sX hc fun h0 hm h1 h2=>ck h0 fun σ H s Q X R q=>
 wpAny_Compare1 (ha.go F h1 (.here R) q fun _ _ _ _ S1 V1 _ q1=>hb.go F h2 S1 q1 fun _ _ _ _ S2 V2 z2 q2=>Gf Ok F.VG S2.R (V1.mono z2) V2 q2 fun r t q=>S2.tok.ep .bool q) (bz hm)
theorem aaX {op:CmpOp}{a b:MX}(Ok:G.Ok)(ha:SE Z G cls a)(hb:SE Z G cls b):ST Z G cls (.cmp op a b):=fun d C vt e F hc=>wQ hc fun l o r p hc=>sX hc fun h0 hm h1 h2=>ck h0 fun σ H s Q X R q=>
 wpAny_isTrue_Compare1 (ha.go F h1 (.here R) q fun _ _ _ _ S1 V1 _ q1=>hb.go F h2 S1 q1 fun _ _ _ _ S2 V2 z2 q2=>Gf Ok F.VG S2.R (V1.mono z2) V2 q2 fun r t q=>wpAny_truthy_bool (S2.tok.bp q)) (bz hm)
theorem aaM {a:MX}(ha:SE Z G cls a):SE Z G cls (.not a):=fun d C vt e F hc=>NQ hc fun x p hc σ H s Q X R q=>
 wpAny_UnaryOp (ha.go F hc (.here R) q fun _ _ _ _ S1 V1 _ q1=>not_value (u0 V1 q1 fun b q=>S1.ep .bool q))
theorem aa0 {a:MX}(ha:ST Z G cls a):ST Z G cls (.not a):=fun d C vt e F hc=>NQ hc fun x p hc σ H s Q X R q=>
 wpAny_isTrue_Not (ha.go F hc (.here R) q fun _ _ _ S1 q1=>S1.bp q1)
theorem aaL {a:MX}(ha:SE Z G cls a):SE Z G cls (.neg a):=fun d C vt e F hc=>Zm hc fun x p hc σ H s Q X R q=>
 wpAny_UnaryOp (ha.go F hc (.here R) q fun _ _ _ _ S1 V1 _ q1=>S1.mono (ahT S1.R V1 q1))
theorem aaH {c a b:MX}(yT:ST Z G cls c)(ha:SE Z G cls a)(hb:SE Z G cls b):SE Z G cls (.ite c a b):=fun d C vt e F hc=>NO hc fun te be oe p hc=>cG hc fun h0 h1 h2 σ H s Q X R q=>
 wpAny_IfExp (yT.go F h0 (.here R) q fun b H1 s1 S1 q1=>match b,q1 with
  | true,q1=>ha.go F h1 S1 q1 fun _ _ _ _ S2 V2 _ q2=>S2.ep V2 q2
  | false,q1=>hb.go F h2 S1 q1 fun _ _ _ _ S2 V2 _ q2=>S2.ep V2 q2)
theorem aaY {c a b:MX}(yT:ST Z G cls c)(ha:ST Z G cls a)(hb:ST Z G cls b):ST Z G cls (.ite c a b):=fun d C vt e F hc=>NO hc fun te be oe p hc=>cG hc fun h0 h1 h2 σ H s Q X R q=>by
 have key:wpAny (model Z G.w) C.A (do if ←isTrue te C.env (eval te C.env) then isTrue be C.env (eval be C.env) else isTrue oe C.env (eval oe C.env)) (BP Z G C vt σ H s Q) (XP Z G cls C.ak H s X) s:=
  wpAny_bind (yT.go F h0 (.here R) q fun b H1 s1 S1 q1=>match b,q1 with
   | true,q1=>ha.go F h1 S1 q1 fun _ _ _ S2 q2=>S2.bp q2
   | false,q1=>hb.go F h2 S1 q1 fun _ _ _ S2 q2=>S2.bp q2)
 exact key
theorem Vo {a:MX}{j:PySem.Expr}{gl:Gl}{sc:Scope}(h:aN gl sc vt a j=true):jM j=true:=by
 cases j<;>first | rfl | skip
 cases a<;>exact ff h
theorem aaG {a b:MX}(Ok:G.Ok)(ha:SE Z G cls a)(hb:SE Z G cls b):SE Z G cls (.idx a b):=fun d C vt e F hc=>ij hc fun v j p hc=>aS hc fun h1 h2 σ H s Q X R q=>
 Subscript_ (ha.go F h1 (.here R) q fun _ _ _ _ S1 V1 _ q1=>hb.go F h2 S1 q1 fun _ _ _ _ S2 V2 z2 q2=>S2.mono (ahj (Vo h2) Ok S2.R (V1.mono z2) V2 q2))
theorem adC {M:Model}{A:Around}{E:Value→Shared→Prop}{id:Str}{p1 p2:Pos}{a:Str}{env:Env}{whole:Sem Value}{Q:Value→Shared→Prop}(h:(id==("super":Str))=false)(hw:wpAny M A whole Q E s):wpAny M A (attributeBase (.Call (.Name id p1) [] [] p2) a env whole) Q E s:=by
 unfold attributeBase
 have :(id != ("super":Str))=true:=congrArg (!·) h
 show wpAny M A (ite _ _ _) Q E s
 rw[if_pos (by rw[this];rfl)]
 exact hw
theorem Hl {M:Model}{A:Around}{E:Value→Shared→Prop}{o:PySem.Expr}{a:Str}{env:Env}{whole:Sem Value}{Q:Value→Shared→Prop}(h:sP o=false)(hw:wpAny M A whole Q E s):wpAny M A (attributeBase o a env whole) Q E s:=by
 cases o with
 | Call f es ks p=>
  cases f with
  | Name id p1=>
   cases es with
   | cons _ _=>exact hw
   | nil=>
    cases ks with
    | cons _ _=>exact hw
    | nil=>exact adC h hw
  | _=>exact hw
 | _=>exact hw
theorem VX {a:MX}{nm:String}(Ok:G.Ok)(ha:SE Z G cls a):SE Z G cls (.attr a nm):=fun d C vt e F hc=>gQ hc fun v n p hc=>cG hc fun h0 hs h1=>ck h0 fun σ H s Q X R q=>
 (arm_eval_Attribute _ _ _ _).symm▸wpAny_bind (Hl (bz hs) (ha.go F h1 (.here R) q fun _ _ _ _ S1 V1 _ q1=>wpAny_bind (wpAny_standAt (wpAny_bind (wpAny_holding
  (wpAny_mono (adA Ok S1.R V1 q1) (fun _ _ z=>wpAny_bind (wpAny_letTemporaryGo (wpAny_pure (EP.trans S1.x S1.y z)))) fun _ _ z=>z))))))
theorem VK.ab4 {k:VK}{x:Str}{P:VK→Prop}(h:k.Yh x=true)(f:P (.loc x))(g:P (.bF x))(l:P (.c9 x)):P k:=@VK.casesOn (fun k=>k.Yh x=true→P k) k (fun y h=>dW h f) (fun y h=>dW h g) (fun y h=>dW h l) g1 (fun h=>ff h) (fun h=>ff h) h
theorem dN {α:Type}{o:Option α}{k:α→Bool}(h:cF o k=true):∃x,o=some x∧k x=true:=gR (O:=fun o=>∃x,o=some x∧k x=true) h fun x h=>⟨x,rfl,h⟩
theorem gJ {i:Nat}{x:Str}(h:eE vt i x=true):vt[i]? =some (.loc x)∨vt[i]? =some (.bF x)∨vt[i]? =some (.c9 x):=
 (dN h).elim fun k q=>VK.ab4 (P:=fun k=>vt[i]? =some k→_) q.2 .inl (fun e=>.inr (.inl e)) (fun e=>.inr (.inr e)) q.1
theorem VK.abd {k:VK}{x:Str}{P:VK→Prop}(h:k.W0 x=true)(f:P (.ar x)):P k:=@VK.casesOn (fun k=>k.W0 x=true→P k) k g1 g1 g1 (fun y h=>dW h f) (fun h=>ff h) (fun h=>ff h) h
theorem qg {i:Nat}{x:Str}(h:wD vt i x=true):vt[i]? =some (.ar x):=(dN h).elim fun k q=>VK.abd (P:=fun k=>vt[i]? =some k→_) q.2 id q.1
theorem uw {i:Nat}(h:Yz vt i=true)(y:Str):vt[i]? ≠some (.c9 y):=fun e=>(dN h).elim fun k q=>by cases e.symm.trans q.1;exact ff q.2
theorem Rep.at {i:Nat}{k:VK}(R:Rep Z G C vt σ H s)(e:vt[i]? =some k):Op C.env.scope k=true:=R.k.vk k (List.mem_of_getElem? e)
theorem DP {sc:Scope}{x:Str}(h:LA sc x=true):sc.names.lookup x=some .local∧(x==("__debug__":Str))=false:=aS h fun a b=>⟨eq_of_beq a,bz b⟩
theorem LC {sc:Scope}{x:Str}(h:Sx sc x=true):sc.names.lookup x=some .cell∧(x==("__debug__":Str))=false:=cG h fun a b c=>⟨eq_of_beq a,bz b⟩
theorem pZ {sc:Scope}{x:Str}(h:xk sc x=true):(sc.names.lookup x=some .cell∨sc.names.lookup x=some .free)∧(x==("__debug__":Str))=false∧(x==("__classdict__":Str))=false:=cG h fun a b c=>⟨(Bool.or_eq_true_iff.mp a).imp eq_of_beq eq_of_beq,bz b,bz c⟩
theorem W1 {x:Str}{c:Addr}{v:Value}{E:Value→Shared→Prop}{Q:Value→Shared→Prop}(F:aW C d)(h:xk C.env.scope x=true)(hc:C.env.cells.lookup x=some c)(hx:s.heap.IsCell c (some v))(k:Q v s):wpAny (model Z G.w) C.A (loadName C.env x) Q E s∧(x==("__debug__":Str))=false:=
 ⟨(pZ h).1.elim (fun z=>wpAny_loadName_cell F.kind z hc hx k) fun z=>wpAny_loadName_free F.kind z hc hx k (pZ h).2.2,(pZ h).2.1⟩
theorem BC {i:Nat}{x:Str}{av:AV}{E:Value→Shared→Prop}{Q:Value→Shared→Prop}(F:aW C d)(R:Rep Z G C vt σ H s)(h:eE vt i x=true)(hv:σ[i]? =some (some av))(k:∀v,aj Z G.w H s.heap av v→Q v s):
  wpAny (model Z G.w) C.A (loadName C.env x) Q E s∧(x==("__debug__":Str))=false:=by
 rcases gJ h with e | e | e
 ·have hk:=DP (R.at e)
  exact q9.casesOn R.loc fun m hn r=>(r i x av e hv).elim fun v q=>⟨wpAny_loadName_local F.kind hk.1 hn q.1 (k v q.2),hk.2⟩
 ·have hk:=LC (R.at e)
  exact qs.casesOn (R.pc i x (.inl e)) fun c hc _ _ _ v hx r=>(r av hv).elim fun v' q=>⟨wpAny_loadName_cell F.kind hk.1 hc (q.1▸hx) (k v' q.2),hk.2⟩
 ·exact qs.casesOn (R.pc i x (.inr e)) fun c hc _ _ _ v hx r=>(r av hv).elim fun v' q=>W1 F (R.at e) hc (q.1▸hx) (k v' q.2)
theorem acm {α:Type}{o:Option α}{k:α→Prop}(h:mj o k):∃x,o=some x∧k x:=Zp (P:=fun o=>∃x,o=some x∧k x) h fun x h=>⟨x,rfl,h⟩
theorem my {o:Option (Option AV)}{k:AV→Prop}(h:mj o fun o=>mj o k):∃v,o=some (some v)∧k v:=Zp (P:=fun o=>∃v,o=some (some v)∧k v) h fun x h=>(acm h).elim fun v q=>⟨v,congrArg some q.1,q.2⟩
theorem aaQ {i:Nat}:SE Z G cls (.var i):=fun d C vt e F hc=>aL hc fun x p hc σ H s Q X R q=>
 (my q).elim fun v q=>have :=BC (E:=XP Z G cls C.ak H s X) F R hc q.1 fun w V=>EP.here R V q.2
  wpAny_Name this.1 this.2
theorem au.cell {ak:List Env}{c:Addr}{v:AV}(R:au Z G ak H s)(e:H c=some (.cell (some v))):∃y,s.heap.IsCell c (some y)∧aj Z G.w H s.heap v y:=(R.own _ _ e).2.elim fun _ q=>q.2.elim fun y z=>⟨y,z.1▸q.1,z.2⟩
theorem Rep.scE {i:Nat}{x:Str}{u:AV}(R:Rep Z G C vt σ H s)(e:vt[i]? =some (.ar x))(hv:σ[i]? =some (some u)):∃c,C.env.cells.lookup x=some c∧u= .ref c:=(R.k.sc i x e).elim fun c q=>⟨c,q.1,Option.some.inj (Option.some.inj (hv.symm.trans q.2))⟩
theorem aaD {i:Nat}:SE Z G cls (.bb i):=fun d C vt e F hc=>aL hc fun x p hc σ H s Q X R q=>by
 obtain⟨u,hv,q⟩:=my q
 obtain⟨c,h1,rfl⟩:=R.scE (qg hc) hv
 obtain⟨v,hcv,q⟩:=q
 obtain⟨y,hx,V⟩:=R.g.cell hcv
 have :=W1 (Z:=Z) (G:=G) (E:=XP Z G cls C.ak H s X) F (R.at (qg hc)) h1 hx (EP.here R V q)
 exact wpAny_Name this.1 this.2
theorem rv.rep {u:AV}{v:Value}{h:Heap}(g:rv u v):aj Z G.w H h u v:=by
 cases u with
 | int i=>exact g.elim fun t e=>e▸ .int
 | ref a=>exact(show v= .ref a from g)▸ .ref
 | con c=>obtain⟨rfl,hp⟩:=g;exact .con hp
 | _=>exact g.elim
theorem wx {A:Around}{j:Nat}{x:Str}{u:AV}{E:Value→Shared→Prop}{Q:Value→Shared→Prop}(Ok:G.Ok)(F:aW C d)(R:Rep Z G C vt σ H s)(h:pz G.gl C.sc j x u=true)(k:∀v,aj Z G.w H s.heap u v→rv u v→Q v s):
  wpAny (model Z G.w) A (loadName C.env x) Q E s∧(x==("__debug__":Str))=false:=cG h fun h1 h2 h3=>by
 obtain⟨⟨y,u'⟩,e,h3⟩:=dN h3
 refine aS h3 fun h3 h4=>?_
 obtain rfl:=eq_of_beq h3
 obtain⟨v,gv,hh⟩:=Ok.gls _ _ _ e
 have gv:rv u v:=ZT (P:=fun u=>rv u v) h4 gv
 have hg:s.heap.Ns C.env.globals G.mg:=F.globals▸Ok.T.g.keeps R.g.keep
 refine⟨ks_loadName_global F.kind (F.rel _ _ (by decide) (eq_of_beq h1)) ?_,bz h2⟩
 rcases hh with z | ⟨z1,z2⟩
 ·exact loadGlobal_global hg z (k v gv.rep gv)
 ·exact loadGlobal_builtin hg z1 (F.builtins▸Ok.T.b.keeps R.g.keep) z2 (k v gv.rep gv)
theorem Wa {j:Nat}{u:AV}(Ok:G.Ok):SE Z G cls (.glob j u):=fun d C vt e F hc=>aL hc fun x p hc σ H s Q X R q=>
 have :=wx (A:=C.A) (E:=XP Z G cls C.ak H s X) Ok F R hc fun v V _=>EP.here R V q
 wpAny_Name this.1 this.2
theorem aaJ {u:AV}:SE Z G cls (.lit u):=fun d C vt e F hc=>eG hc fun c k p hc σ H s Q X R=>Bz (P:=fun u c=>Q u H→wpAny (model Z G.w) C.A (eval (.Constant c k p) C.env) (EP Z G C vt σ H s Q) (XP Z G cls C.ak H s X) s) hc
 (fun q=>wpAny_Constant_none (EP.here R .none q)) (fun b q=>wpAny_Constant_bool (EP.here R .bool q)) fun b q=>wpAny_Constant_int (EP.tok R .int q)
theorem aaZ {u:AV}:ST Z G cls (.lit u):=fun d C vt e F hc=>eG hc fun c k p hc σ H s Q X R=>Bz (P:=fun u c=>d9 Q u H→wpAny (model Z G.w) C.A (isTrue (.Constant c k p) C.env (eval (.Constant c k p) C.env)) (BP Z G C vt σ H s Q) (XP Z G cls C.ak H s X) s) hc
 v0 (fun b q=>wpAny_isTrue_value (wpAny_Constant_bool (wpAny_truthy_bool ((St.here R).bp q)))) fun b=>v0
theorem aa1 {i:Nat}:ST Z G cls (.var i):=fun d C vt e F hc=>aL hc fun x p hc σ H s Q X R q=>
 (my q).elim fun v q=>have :=BC (E:=XP Z G cls C.ak H s X) (Q:=fun v s'=>wpAny (model Z G.w) C.A (truthy v) (BP Z G C vt σ H s Q) (XP Z G cls C.ak H s X) s') F R hc q.1 fun w V=>u0 V q.2 fun b q=>(St.here R).bp q
  wpAny_isTrue_value (wpAny_Name this.1 this.2)
theorem Wv {a b c d e f g h i j k:Bool}{P:Prop}(z:(a&&b&&c&&d&&e&&f&&g&&h&&i&&j&&k)=true)(y:a=true→b=true→d=true→i=true→j=true→k=true→P):P:=jc z fun z _ _ i j k=>jc z fun a b _ d _ _=>y a b d i j k
theorem VY {o1 o2:CmpOp}{a b c:MX}(Ok:G.Ok)(ha:SE Z G cls a)(hb:SE Z G cls b)(sf:SE Z G cls c):SE Z G cls (.rl o1 o2 a b c):=fun d C vt e F hc=>GN hc fun l p1 p2 m r p hc=>Wv hc fun e1 e2 m2 h1 h2 h3=>ck e1 (ck e2 fun σ H s Q X R q=>
 Compare_chain (ha.go F h1 (.here R) q fun _ _ _ _ S1 V1 _ q1=>chain_link (hb.go F h2 S1 q1 fun _ _ _ _ S2 V2 z2 q2=>Gf Ok F.VG S2.R (V1.mono z2) V2 q2 fun t _ q3=>wpAny_truthy_bool (match t,q3 with
  | false,q3=>S2.tok.ep .bool q3
  | true,q3=>chain_last (sf.go F h3 S2.tok q3 fun _ _ _ _ S4 V4 z4 q4=>Gf Ok F.VG S4.R (V2.mono z4) V4 q4 fun r t q=>S4.tok.ep .bool q)))) (bz m2))
theorem Wn {o1 o2:CmpOp}{a b c:MX}(Ok:G.Ok)(ha:SE Z G cls a)(hb:SE Z G cls b)(sf:SE Z G cls c):ST Z G cls (.rl o1 o2 a b c):=fun d C vt e F hc=>GN hc fun l p1 p2 m r p hc=>Wv hc fun e1 e2 m2 h1 h2 h3=>ck e1 (ck e2 fun σ H s Q X R q=>
 isTrue_chain (ha.go F h1 (.here R) q fun _ _ _ _ S1 V1 _ q1=>test_link (hb.go F h2 S1 q1 fun _ _ _ _ S2 V2 z2 q2=>Gf Ok F.VG S2.R (V1.mono z2) V2 q2 fun t _ q3=>wpAny_truthy_bool (match t,q3 with
  | false,q3=>S2.tok.bp q3
  | true,q3=>test_last (sf.go F h3 S2.tok q3 fun _ _ _ _ S4 V4 z4 q4=>Gf Ok F.VG S4.R (V2.mono z4) V4 q4 fun r t q=>wpAny_truthy_bool (S4.tok.bp q))))) (bz m2))
theorem nh {e:PySem.Expr}{env:Env}(h:isStar e=false)(rest:List PySem.Expr):starEach (e::rest) env=(false,eval e env)::starEach rest env:=by
 cases e<;>first | rfl | exact nomatch h
theorem LU:vf Z G cls .nil:=fun d C vt es pos F hc=>d0 hc fun _ σ H s Q X R q=>wpAny_items_nil ⟨[],H,rfl,R,.nil,Ext.refl ..,aF.refl _,q⟩
theorem Ga {a:MX}{l:bA}(ha:SE Z G cls a)(hl:vf Z G cls l):vf Z G cls (.cons a l):=fun d C vt es pos F hc=>cN hc fun e es hc=>cG hc fun h0 h1 h2 σ H s Q X R q=>
 wpAny_items_cons (ha.go F h1 (.here R) q fun _ _ _ _ S1 V1 _ q1=>hl.go F h2 S1 q1 fun _ _ _ _ hz S2 V2 z2 q2=>⟨_,_,congrArg Nat.succ hz,S2.R,.cons (V1.mono z2) V2,S2.x,S2.y,q2⟩) (nh (bz h0) es)
theorem dP {gl:Gl}{sc:Scope}{pos:Pos}{env:Env}:∀{es:List PySem.Expr} {l:bA},cJ gl sc vt l es=true→(backTo pos (starEach es env)).any (·.1)=false
 | [],_,_=>rfl
 | e::es,.nil,h=>ff h
 | e::es,.cons a l,h=>cG h fun h0 _ h2=>(nh (bz h0) es).symm▸dP h2
end
section
variable (Z:Program)(G:Gd)(cls:Value)
noncomputable def TY (b:Bool):BoolOp:=if b=true then .And else .Or
noncomputable def zM (l:bA):Prop:=∀(b:Bool) (d:Nat) (C:FC) (vt:List VK) (es:List PySem.Expr) (pos:Pos),aW C d→cJ G.gl C.sc vt l es=true→∀(σ:Sg) (H:AH) (s:Shared) (Q:AV→AH→Prop) (X:AH→Prop),
 Rep Z G C vt σ H s→Ly Z G cls d b l σ H Q X→wpAny (model Z G.w) C.A (boolOp pos (TY b) (evalEach es C.env)) (EP Z G C vt σ H s Q) (XP Z G cls C.ak H s X) s
noncomputable def Un (l:bA):Prop:=∀(b:Bool) (d:Nat) (C:FC) (vt:List VK) (es:List PySem.Expr),aW C d→cJ G.gl C.sc vt l es=true→∀(σ:Sg) (H:AH) (s:Shared) (Q:Bool→AH→Prop) (X:AH→Prop),
 Rep Z G C vt σ H s→Uc Z G cls d b l σ H Q X→wpAny (model Z G.w) C.A (allTrue (TY b) es C.env) (BP Z G C vt σ H s Q) (XP Z G cls C.ak H s X) s
end
section
variable {Z:Program}{G:Gd}{cls:Value}{d:Nat}{C:FC}{vt:List VK}{e:PySem.Expr}{σ:Sg}{H H0:AH}{s s0:Shared}{X:AH→Prop}{m:MX}
theorem Ug:zM Z G cls .nil:=fun b d C vt es pos F hc σ H s Q X R q=>q.elim
theorem Uh {a:MX}(ha:SE Z G cls a):zM Z G cls (.cons a .nil):=fun b d C vt es pos F hc=>cN hc fun e es hc=>cG hc fun _ h1 h2=>d0 h2 fun _ σ H s Q X R q=>ha d C vt e F h1 σ H s Q X R q
theorem Hn {pos:Pos}{b:Bool}{x y:Sem Value}{r:List (Sem Value)}{A:Around}{P:Value→Shared→Prop}{E:Value→Shared→Prop}(h:wpAny (model Z G.w) A x (fun v s1=>wpAny (model Z G.w) A (truthy v) (fun t s2=>if t=b then wpAny (model Z G.w) A (boolOp pos (TY b) (y::r)) P E s2 else P v s2) E s1) E s):
  wpAny (model Z G.w) A (boolOp pos (TY b) (x::y::r)) P E s:=by
 cases b<;>refine wpAny_bind (wpAny_mono h (fun v s1 h=>wpAny_bind (wpAny_standAt (wpAny_bind (wpAny_holding (wpAny_mono h (fun t s2 h=>?_) fun _ _ z=>z))))) fun _ _ z=>z)<;>cases t<;>first | exact h | exact wpAny_pure h
theorem Oz {a b:MX}{l:bA}(ha:SE Z G cls a)(hl:zM Z G cls (.cons b l)):zM Z G cls (.cons a (.cons b l)):=fun t d C vt es pos F hc=>cN hc fun e1 es hc=>cG hc fun _ h1 h2=>cN h2 fun e2 es ML σ H s Q X R q=>
 Hn (ha.go F h1 (.here R) q fun _ _ _ _ S1 V1 _ q1=>u0 V1 q1 fun b q=>hO (P:=if b=t then _ else _) q (fun e q=>(if_pos e).mpr (S1.IB (hl t d C vt (e2::es) pos F ML _ _ _ _ _ S1.R q))) fun e q=>(if_neg e).mpr (S1.ep V1 q))
theorem Wp:Un Z G cls .nil:=fun b d C vt es F hc=>d0 hc fun _ σ H s Q X R q=>by
 cases b
 ·exact wpAny_allTrue_Or_nil ((St.here R).bp q)
 ·exact wpAny_allTrue_And_nil ((St.here R).bp q)
theorem Uo {a:MX}{l:bA}(ha:ST Z G cls a)(hl:Un Z G cls l):Un Z G cls (.cons a l):=fun t d C vt es F hc=>cN hc fun e es hc=>cG hc fun _ h1 h2 σ H s Q X R q=>by
 cases t
 ·exact wpAny_allTrue_Or_cons (ha.go F h1 (.here R) q fun b _ _ S1 q1=>match b,q1 with
   | false,q1=>S1.Yo (hl false d C vt _ F h2 _ _ _ _ _ S1.R q1)
   | true,q1=>S1.bp q1)
 ·exact wpAny_allTrue_And_cons (ha.go F h1 (.here R) q fun b _ _ S1 q1=>match b,q1 with
   | false,q1=>S1.bp q1
   | true,q1=>S1.Yo (hl true d C vt _ F h2 _ _ _ _ _ S1.R q1))
theorem aaB {l:bA}(hl:zM Z G cls l):SE Z G cls (.and l):=fun d C vt e F hc=>NH hc fun es p hc σ H s Q X R q=>(arm_eval_BoolOp _ _ _ _).symm▸hl true d C vt _ _ F hc σ H s Q X R q
theorem adt {l:bA}(hl:zM Z G cls l):SE Z G cls (.or l):=fun d C vt e F hc=>TU hc fun es p hc σ H s Q X R q=>(arm_eval_BoolOp _ _ _ _).symm▸hl false d C vt _ _ F hc σ H s Q X R q
theorem aaW {l:bA}(hl:Un Z G cls l):ST Z G cls (.and l):=fun d C vt e F hc=>NH hc fun es p hc σ H s Q X R q=>wpAny_isTrue_BoolOp (hl true d C vt _ F hc σ H s Q X R q)
theorem adv {l:bA}(hl:Un Z G cls l):ST Z G cls (.or l):=fun d C vt e F hc=>TU hc fun es p hc σ H s Q X R q=>wpAny_isTrue_BoolOp (hl false d C vt _ F hc σ H s Q X R q)
theorem few {α:Type}{es:List α}{vs:List Value}(h:vs.length=es.length)(z:decide (es.length<20)=true):vs.length≤sizeLine:=h▸Nat.le_trans (Nat.le_of_lt (of_decide_eq_true z)) (by decide:20≤sizeLine)
theorem aaP {l:bA}(hl:vf Z G cls l):SE Z G cls (.tup l):=fun d C vt e F hc=>jJ hc fun es k p hc=>aS hc fun z hc σ H s Q X R q=>
 wpAny_Tuple (hl.go F hc (.here R) q fun _ _ _ _ hz S1 V1 _ q1=>⟨few hz z,EP.trans S1.x S1.y (EP.acg S1.R V1 q1)⟩)
theorem aaK {l:bA}(hl:vf Z G cls l):SE Z G cls (.lst l):=fun d C vt e F hc=>NP hc fun es p hc=>aS hc fun z hc σ H s Q X R q=>
 wpAny_List (hl.go F hc (.here R) q fun _ _ _ _ hz S1 V1 _ q1=>⟨few hz z,EP.trans S1.x S1.y (EP.newList S1.R V1 q1)⟩)
theorem EP.new {h':Heap}{t:Nat}{o:AO}{Q:AV→AH→Prop}(R:Rep Z G C vt σ H s)(k:∀b o,s.heap.get? b=some o→h'.get? b=some o)(ho:dj Z G.w G.gl (H.set s.heap.objs.size o) h' s.heap.objs.size o)
  (q:∀a,H a=none→Q (.ref a) (H.set a o)):EP Z G C vt σ H s Q (.ref s.heap.objs.size) {s with heap:=h',toks:=t}:=
 ⟨.ref s.heap.objs.size,H.set s.heap.objs.size o,R.step (s':={s with heap:=h',toks:=t}) (Ext.new R.g k (Nat.le_refl _)) (R.g.new k (Nat.le_refl _) ho),.ref,Ext.new R.g k (Nat.le_refl _),aF.mk _ _ _,q _ R.g.fresh⟩
theorem EP.Yv {l:List AV}{vs:Array Value}{Q:AV→AH→Prop}(R:Rep Z G C vt σ H s)(V:am Z G.w H s.heap l vs.toList)(q:∀a,H a=none→Q (.ref a) (H.set a (.list l))):EP Z G C vt σ H s Q (.ref s.heap.objs.size) {s with heap:=s.heap.push {cls:= .type "list",data:= .seq vs}}:=
 EP.new (t:=s.toks) R (ax _ _) (o:= .list l) ⟨vs,⟨0,Heap.get?_push_size _ rfl⟩,V.mono (jy (ax _ _) (Nat.le_refl _))⟩ q
theorem Wd {l:bA}(hl:vf Z G cls l):SE Z G cls (.gx l):=fun d C vt e F hc=>NP hc fun es p hc=>aS hc fun z hc σ H s Q X R q=>
 wpAny_List (hl.go F hc (.here R) q fun _ _ _ _ hz S1 V1 _ q1=>⟨few hz z,EP.trans S1.x S1.y (EP.Yv (vs:=List.toArray _) S1.R V1 q1)⟩)
theorem Wc:SE Z G cls .eK:=fun d C vt e F hc=>RX hc fun p σ H s Q X R q=>wpAny_Dict_empty (EP.new (t:=_) R (ax _ _) (o:= .dict _) ⟨[],Heap.DictOf.new s.heap,.nil⟩ q)
theorem OA:SE Z G cls .absent:=fun d C vt e F hc=>ff hc
theorem SE.opt {Q:AV→AH→Prop}{P:Value→Shared→Prop}{eo:Option PySem.Expr}(h:SE Z G cls m)(F:aW C d)(hc:acZ G.gl C.sc vt m eo=true)(S:St Z G C vt σ H0 s0 H s)(q:bI Z G cls d m σ H Q X)
  (k:∀av v H1 s1,St Z G C vt σ H0 s0 H1 s1→aj Z G.w H1 s1.heap av v→bc H s.heap H1 s1.heap→Q av H1→P v s1):
  wpAny (model Z G.w) C.A (evalPart eo C.env) P (XP Z G cls C.ak H0 s0 X) s:=by
 cases eo with
 | some e=>exact evalPart_some_step (h.go F hc S q k)
 | none=>exact evalPart_none_step (M3 (P:=fun m=>bI Z G cls d m σ H Q X→_) hc (fun q=>k .none .none H s S .none bc.refl q) q)
theorem aaO {a lo hi:MX}(ha:SE Z G cls a)(hlo:SE Z G cls lo)(hhi:SE Z G cls hi):SE Z G cls (.sL a lo hi):=fun d C vt e F hc=>Zw hc fun v l u p p2 hc=>cG hc fun h1 h2 h3 σ H s Q X R q=>
 Subscript_ (ha.go F h1 (.here R) q fun _ _ _ _ S1 V1 _ q1=>wpAny_Slice (hlo.opt F h2 S1 q1 fun _ _ _ _ S2 V2 z2 q2=>hhi.opt F h3 S2 q2 fun _ _ _ _ S3 V3 z3 q3=>
  evalPart_none_step (S3.mono (aiB S3.R ((V1.mono z2).mono z3) (V2.mono z3) V3 q3))))
theorem aaN {a:MX}(ha:SE Z G cls a):SE Z G cls (.rev a):=fun d C vt e F hc=>Zt hc fun v k p1 p2 p3 p4 hc σ H s Q X R q=>
 Subscript_ (ha.go F hc (.here R) q fun _ _ H1 s1 S1 V1 _ q1=>wpAny_Slice (evalPart_none_step (evalPart_none_step (evalPart_some_step (wpAny_UnaryOp (wpAny_Constant_int (neg_int (S1.tok.mono (aia S1.tok.R V1 (.int (-1) _) q1 fun o i=>⟨_,rfl⟩)))))))))
theorem fU {g:PySem.Expr}{es:List PySem.Expr}{pos:Pos}{env:Env}(h:Te g=false):eval (.Call g es [] pos) env=(do callWith pos (←eval g env) [] (backTo pos (starEach es env)) (backToKw pos (keywordEach [] env))):=by
 cases g<;>first | rfl | exact nomatch h
theorem E1 {M:Model}{A:Around}{E:Value→Shared→Prop}{f:Value}{l:List (Bool×Sem Value)}{Q:Args→Shared→Prop}(hp:l.any (·.1)=false)(h:wpAny M A (spliced l) (fun vs s'=>Q ⟨vs,[]⟩ s') E s):wpAny M A (evalArgs f true l []) Q E s:=by
 cases l with
 | nil=>exact wpAny_bind (wpAny_mono h (fun vs s' h'=>wpAny_bind (wpAny_pure (wpAny_holding (wpAny_bind (wpAny_pure (wpAny_bind (wpAny_pure (wpAny_pure h')))))))) fun _ _ x=>x)
 | cons p r=>
  obtain⟨b,x⟩:=p
  cases b with
  | true=>exact nomatch hp
  | false=>exact evalArgs_plain h
noncomputable def Kept (Z:Program)(w:World)(f:Value)(h:Heap):Prop:=∃k,(k=Keeper.frame∨k=Keeper.machine∨k=Keeper.boundFrame)∧Looks (model Z w) h (keeperOf f) k
theorem fS {E:Value→Shared→Prop}{f:Value}{first:List Value}{es:List PySem.Expr}{env:Env}{pos:Pos}{P:Value→Shared→Prop}{A:Around}(hp:(backTo pos (starEach es env)).any (·.1)=false)
  (h:wpAny (model Z G.w) A (spliced (backTo pos (starEach es env))) (fun vs s1=>Kept Z G.w f s1.heap∧wpAny (model Z G.w) A (call f (first++vs)) P E s1) E s):
  wpAny (model Z G.w) A (callWith pos f first (backTo pos (starEach es env)) (backToKw pos (keywordEach [] env))) P E s:=
 callWith_of (P:=Kept Z G.w f) (by show(_||false)=false;rw[hp];rfl) (fun h x=>x) (E1 hp h)
theorem Kept.builtin {id:String}{h:Heap}:Kept Z G.w (.builtin id) h:=⟨.machine,.inr (.inl rfl),Looks.of_pure rfl⟩
theorem Kept.type {id:String}{h:Heap}:Kept Z G.w (.type id) h:=⟨.machine,.inr (.inl rfl),Looks.of_pure rfl⟩
theorem Kept.func {a:Addr}{o:Obj}{fd:FuncData}{h:Heap}(ho:h.get? a=some o)(hd:o.data= .func fd):Kept Z G.w (.ref a) h:=
 ⟨.frame,.inl rfl,(Looks.ld (part:=none) ho).andThen (by rw[hd];exact .now)⟩
theorem abp {K:Frag}{f:Addr}(e:fnIn K f=true):∃c d fd sl,K.lookup f=some ⟨c,d,.func fd,sl⟩:=by
 unfold fnIn at e
 generalize K.lookup f=o at e
 cases o with
 | none=>exact ff e
 | some o=>
  obtain⟨c,d,dt,sl⟩:=o
  cases dt with
  | func fd=>exact⟨c,d,fd,sl,rfl⟩
  | _=>exact ff e
theorem Kept.fn {f:Addr}{h:Heap}(X:G.K.In h)(e:fnIn G.K f=true):Kept Z G.w (.ref f) h:=(abp e).elim fun _ q=>q.elim fun _ q=>q.elim fun _ q=>q.elim fun _ q=>Kept.func (X _ _ q) rfl
theorem O0 {f:Addr}{args:List AV}{cargs:List Value}{Q:AV→AH→Prop}(F:aW C d)(R:Rep Z G C vt σ H s)(V:am Z G.w H s.heap args cargs)(q:aw Z G cls d f args H Q X):
  wpAny (model Z G.w) C.A (call (.ref f) cargs) (EP Z G C vt σ H s Q) (XP Z G cls C.ak H s X) s:=
 wpAny_call (codeAny_mono (q C.A C.ak s cargs F.handled F.ak F.depth F.units R.g V) fun r s' z=>oE z (fun v z=>RP.casesOn z fun av H' g V' x y q'=>⟨av,H',R.step x g,V',x,y,q'⟩) fun e z=>z)
theorem abc {fv:AV}{f:Value}{args:List AV}{cargs:List Value}{Q:AV→AH→Prop}(Ok:G.Ok)(F:aW C d)(R:Rep Z G C vt σ H s)(Vf:aj Z G.w H s.heap fv f)(V:am Z G.w H s.heap args cargs)(q:qa Z G cls d Q X fv args H)
  (hs:∀(E:Value→Shared→Prop) a v,aj Z G.w H s.heap a v→zF a H Q→wpAny (model Z G.w) C.A (call (.builtin "sorted") [v]) (EP Z G C vt σ H s Q) E s)
  (hdc:∀(E:Value→Shared→Prop) a v,aj Z G.w H s.heap a v→zv a H Q→wpAny (model Z G.w) C.A (call (.type "dict") [v]) (EP Z G C vt σ H s Q) E s):
  Kept Z G.w f s.heap∧wpAny (model Z G.w) C.A (call f cargs) (EP Z G C vt σ H s Q) (XP Z G cls C.ak H s X) s:=by
 cases fv with
 | ref f=>
  exact q.casesOn fun k q=>Vf.im ⟨k.elim (fun k=>keeps_K k _ (Ok.X.keeps R.g.keep)) fun⟨c,aQ,k⟩=>(R.g.own _ _ k).2.elim fun o z=>z.elim fun fd z=>Kept.func z.1 z.2.1,O0 F R V q⟩
 | con v=>
  refine Vf.agd fun _=>?_
  exact afd q (fun id q=>⟨Kept.builtin,biP Ok F.handled R V q (hs _)⟩) fun id q=>⟨Kept.type,tyP Ok F.handled R V q (hdc _)⟩
 | _=>exact v0 q
end
section
open Sem (wp)
variable {Z:Program}{w:World}{A:Around}{E:Value→Shared→Prop}{s:Shared}
set_option maxRecDepth 8000 in
theorem qG {a:Addr}{o:Obj}{xs:Array Value}{k:Nat}{name:Str}{Q:Option Value→Shared→Prop}
  (hx:s.heap.get? a=some o) (hc:o.cls= .type "list") (iy:o.data= .seq xs k) (hd:o.dict=none) (aey:typeLookup (.type "list") name=pure none) (aeA:(["__module__","__name__","__qualname__","__doc__","__annotations__"]:List Str).contains name=false) (hA:A.handled=none)
  (h:∀h' tk,(∀b ob,s.heap.get? b=some ob→h'.get? b=some ob)→Q none {s with heap:=h',toks:=tk}) (UX:name.length+100≤sizeLine):
  wpAny (model Z w) A (getAttr? (.ref a) name) Q E s:=by
 obtain⟨c,dC,dat,sl⟩:=o
 simp only at hc iy hd
 subst hc iy hd
 obtain⟨hp,g,d,tk,os⟩:=s
 have hT:∀VF,(⟨hp,g,d,VF,os⟩:Shared).TypeIs (.ref a) "list":=fun _=>⟨_,hx,rfl⟩
 have f1:=sub_AttributeError
 have f3:=F.slot_list_getattribute.lookup
 have f4:=F.slot_list_getattribute.bind (.ref a)
 have f5:=am_list_getattr_none
 unfold getAttr? getAttrBy? getAttrBy
 repeat (any_goals (first | assumption | exact hT _ | ((with_reducible show wpAny _ _ (call (Value.builtin "list.__getattribute__") _ _) _ _ _);refine call_meets F.slot_list_getattribute (hT _) am_entry_list_getattribute (F.args_list_getattribute_2 _ _) (meets_getattribute_miss_list a xs k sl name _ aey aeA UX) ⟨hx,hA,fun h' VF e E8=>?_⟩) | wp_step))
 obtain⟨t',u',he⟩:=E8.there
 have hTe:(⟨h',g,d,VF,os⟩:Shared).TypeIs (.ref e) "AttributeError":=⟨_,he,rfl⟩
 show wpAny _ _ (getattributeRaised _ _ _ _ _ _ _) _ _ _
 unfold getattributeRaised
 repeat (any_goals (first | assumption | wp_step))
 exact h _ _ E8.keeps
theorem mq:plainId "dict.update.loop" =true:=by decide+kernel
theorem A5:entryFor table "dict.update.loop" =some Builtin.«dict.update.loop»:=entryFor_of_fast (by kernel_rfl)
theorem FO {kvs:List (Int×Value)}{k:Int}{v:Value}(h:k∉kvs.map (·.1)):stored kvs k v=kvs++[(k,v)]:=if_neg fun z=>h (by simpa using z)
inductive D5 (h:Heap)(kvs:List (Int×Value))(i:Nat):Value→Prop
 | mk (t:Addr) (o:Obj) (k:Int) (u:Tok) (x:Value) (n:Nat) (a:h.get? t=some o) (b:o.cls= .type "tuple") (c:o.data= .seq #[.int k u,x] n) (d:kvs[i]? =some (k,x)):D5 h kvs i (.ref t)
structure DlI (Z:Program)(w:World)(h0:Heap)(I a D:Addr)(vs:Array Value)(kvs:List (Int×Value))(i:Nat)(h:Heap):Prop where
 le:i≤vs.size
 it:h.IsListIter I a i
 l:h.IsList a vs
 d:h.DictOf (intKind Z w) D (kvs.take i)
 keep:∀b o,b≠I→b≠D→h0.get? b=some o→h.get? b=some o
theorem df {I b:Addr}(z:b≠I):b∉[I]:=fun q=>z (List.mem_singleton.mp q)
theorem Nm {kvs:List (Int×Value)}{i:Nat}{k:Int}{x:Value}(hn:(kvs.map (·.1)).Nodup)(Po:kvs[i]? =some (k,x)):k∉(kvs.take i).map (·.1)∧kvs.take (i+1)=kvs.take i++[(k,x)]:=by
 have hsp:kvs.take (i+1)=kvs.take i++[(k,x)]:=by rw[List.take_add_one,Po];rfl
 refine⟨fun z=>?_,hsp⟩
 have h5:((kvs.take (i+1)).map (·.1)).Nodup:=hn.sublist ((List.take_sublist _ _).map _)
 rw[hsp,List.map_append,List.nodup_append] at h5
 exact h5.2.2 k z k (.head _) rfl
theorem UF {R:Result→Shared→Prop}(hh:A.handled=none){I a D:Addr}(az:a≠I)(hDI:D≠I)(hDa:D≠a){vs:Array Value}{kvs:List (Int×Value)}(hn:(kvs.map (·.1)).Nodup)(hz:kvs.length≤1000)(h0:Heap)(hlen:vs.size=kvs.length)
  (hP:∀(i:Nat) (v:Value),vs[i]? =some v→D5 h0 kvs i v) (hPn:∀t o,h0.get? t=some o→t≠I∧t≠D) (res:Value) (m:Nat):
  ∀(i:Nat) (s:Shared) (tk0:Tok),vs.size-i=m→DlI Z w h0 I a D vs kvs i s.heap→
  (∀h' tk,h'.DictOf (intKind Z w) D kvs→(∀b o,b≠I→b≠D→h0.get? b=some o→h'.get? b=some o)→R (.ok (.ret res)) {s with heap:=h',toks:=tk})→
  codeAny (model Z w) A (.builtin "dict.update.loop" ⟨[.ref D,.ref I,.int (i:Int) tk0,res],[]⟩) R s:=by
 have W:=Walks.list (prog:=Z) (w:=w) (A:=A.in1) hh I a az vs
 induction m with
 | zero=>
  intro i s tk0 hm q hR
  have hin:i=vs.size:=Nat.le_antisymm q.le (Nat.sub_eq_zero_iff_le.mp hm)
  subst hin
  refine codeAny_builtin A5 ?_
  rw[Around.under_plainId mq _]
  show wpAny _ A.in1 (pyNext (.ref I)>>=_) _ _ s
  refine wpAny_bind (W.done s _ _ ⟨q.it,q.l⟩ fun h' tk hk=>?_)
  have hd:=q.d
  rw[hlen,List.take_length] at hd
  exact wpAny_pure (hR h' tk (hd.at fun o e=>hk D o (df hDI) e) fun b o z1 z2 e=>hk b o (df z1) (q.keep b o z1 z2 e))
 | succ m ih=>
  intro i s tk0 hm q hR
  have hi:i<vs.size:=by lia
  refine codeAny_builtin A5 ?_
  rw[Around.under_plainId mq _]
  show wpAny _ A.in1 (pyNext (.ref I)>>=_) _ _ s
  refine wpAny_bind (W.item i s _ _ hi ⟨q.it,q.l⟩ fun v h' tk pv st hk=>D5.casesOn (hP i v pv) fun t o k u x n ho hc hd Po=>?_)
  obtain⟨t1,t2⟩:=hPn t o ho
  have iY:h'.get? t=some o:=hk t o (df t1) (q.keep t o t1 t2 ho)
  have hD:h'.DictOf (intKind Z w) D (kvs.take i):=q.d.at fun o e=>hk D o (df hDI) e
  refine wpAny_bind (wpAny_holding (wpAny_bind (wpAny_tryCatch ?_)))
  unfold Builtin.Dict.pairItems
  refine wpAny_bind (wpAny_typeOf (T:="tuple") ⟨o,iY,hc⟩ ?_)
  rw[if_pos (by decide)]
  refine wpAny_bind (wpAny_seqItems iY hd (wpAny_pure ?_))
  simp only [Option.getD_some]
  obtain⟨ag6,hsp⟩:=Nm hn Po
  refine wpAny_holding (wpAny_dictSet_pairs (k:=k) (intKind_is _ _ _ _) hD (fun h6 XH XV=>?_) (Nat.le_trans (List.length_take_le _ _) (Nat.le_trans (by lia:i≤1000) (by decide:1000≤sizeLine))))
  rw[FO ag6,←hsp] at XH
  have k6:∀b o,b≠D→h'.get? b=some o→h6.get? b=some o:=fun b o z e=>(XV.2 b z).trans e
  exact wpAny_pure ⟨plainId_quiet mq _,ih (i+1) _ 0 (by lia) ⟨hi,st.1.at fun o e=>k6 I o hDI.symm e,st.2.at fun o e=>k6 a o hDa.symm e,XH,fun b o z1 z2 e=>k6 b o z2 (hk b o (df z1) (q.keep b o z1 z2 e))⟩ fun h7 tk7 d7 k7=>hR h7 tk7 d7 k7⟩
theorem yN {a:Addr}{o:Obj}{vs:Array Value}{n:Nat}{kvs:List (Int×Value)}{Q:Value→Shared→Prop}(hh:A.handled=none)(ha:s.heap.get? a=some o)(hc:o.cls= .type "list")(iy:o.data= .seq vs n)(hdn:o.dict=none)
  (hn:(kvs.map (·.1)).Nodup) (hz:kvs.length≤1000) (hlen:vs.size=kvs.length)
  (hP:∀(i:Nat) (v:Value),vs[i]? =some v→D5 s.heap kvs i v)
  (h:∀h' tk,h'.DictOf (intKind Z w) s.heap.objs.size kvs→(∀b o,s.heap.get? b=some o→h'.get? b=some o)→Q (.ref s.heap.objs.size) {s with heap:=h',toks:=tk}):
  wpAny (model Z w) A (call (.type "dict") [.ref a]) Q E s:=by
 refine callType_codes (Q₁:=fun obj s₁=>obj= .ref s.heap.objs.size∧s₁={s with heap:=s.heap.push {cls:= .type "dict",data:= .dict #[]}}) F.kt_called_dict (F.kt_typeCall_dict_1 _) F.entry_dict_init (kt_code_dict_new _ ⟨rfl,rfl⟩) ?_
 rintro obj s₁ ⟨rfl,rfl⟩
 have SZ:(s.heap.push {cls:= .type "dict",data:= .dict #[]}).DictOf (intKind Z w) s.heap.objs.size []:=Heap.DictOf.new s.heap
 have k1:∀b o,s.heap.get? b=some o→(s.heap.push {cls:= .type "dict",data:= .dict #[]}).get? b=some o:=fun b o e=>Heap.get?_push_of_some _ e
 have hx:=k1 _ _ ha
 refine⟨SZ.typeIs,F.args_dict_init_2 _ _,?_⟩
 unfold Builtin.«dict.__init__»
 refine wpAny_bind ?_
 unfold Builtin.Dict.selfAndRest
 refine wpAny_bind (wpAny_notOrdered_dict SZ.typeIs ?_)
 show wpAny _ _ (pure (s.heap.objs.size,[Value.ref a])) _ _ _
 refine wpAny_pure ?_
 show wpAny _ _ (Builtin.Dict.updateFrom "dict.__init__" s.heap.objs.size (.ref a) [] .none) _ _ _
 unfold Builtin.Dict.updateFrom
 refine wpAny_bind (wpAny_typeOf (T:="list") ⟨o,hx,hc⟩ ?_)
 rw[if_pos (by decide)]
 refine wpAny_bind (qG (A:=A.in1.in1) (name:="keys") hx hc iy hdn (by rw[typeLookup_type,builtinLookup_eq_fast];kernel_rfl) (by decide+kernel) hh (fun h2 tk2 k2=>?_) (by decide+kernel))
 simp only [Option.isNone_none,if_true]
 refine wpAny_bind (wpAny_rule ?_)
 refine wpAny_bind (wpAny_pyIter_list (items:=vs) ⟨o,k2 _ _ hx,hc,n,iy⟩ ?_)
 have lt:∀{b:Addr} {ob:Obj} {hp:Heap},hp.get? b=some ob→b≠hp.objs.size:=fun e=>Nat.ne_of_lt (Heap.lt_size e)
 have hDn:s.heap.objs.size≠h2.objs.size:=by
  obtain⟨_,_,_,e,_⟩:=SZ
  exact lt (k2 _ _ e)
 have hDa:s.heap.objs.size≠a:=fun e=>lt ha e.symm
 refine wpAny_pure ⟨plainId_quiet mq _,?_⟩
 refine UF (A:=A.in1) (I:=h2.objs.size) (a:=a) (D:=s.heap.objs.size) hh (lt (k2 _ _ hx)) hDn hDa hn hz s.heap hlen hP (fun t o e=>⟨lt (k2 _ _ (k1 _ _ e)),lt e⟩) .none vs.size 0 _ 0 rfl
  ⟨Nat.zero_le _,⟨_,Heap.get?_push_size _ rfl,rfl,rfl⟩,⟨o,Heap.get?_push_of_some _ (k2 _ _ hx),hc,n,iy⟩,?_,fun b o _ _ e=>Heap.get?_push_of_some _ (k2 _ _ (k1 _ _ e))⟩ fun h' tk d7 k7=>⟨rfl,h h' tk d7 fun b o e=>k7 b o (lt (k2 _ _ (k1 _ _ e))) (lt e) e⟩
 rw[List.take_zero]
 exact(SZ.at fun o e=>k2 _ _ e).push _
end
section
variable {Z:Program}{G:Gd}{cls:Value}{d:Nat}{C:FC}{vt:List VK}{e:PySem.Expr}{σ:Sg}{H H0:AH}{s s0:Shared}{X:AH→Prop}{m:MX}{A:Around}{E:Value→Shared→Prop}{Q:AV→AH→Prop}
theorem U2:∀{acc:List Value} {kvs:List (Int×Value)},acc.length=kvs.length→(∀(j:Nat) v,acc[j]? =some v→∃k x,kvs[j]? =some (k,x)∧(intKind Z G.w).is k v=true)→IntsAre acc (kvs.map (·.1)):=by
 intro acc
 induction acc with
 | nil=>intro kvs h _;cases kvs with
  | nil=>exact .nil
  | cons _ _=>exact nomatch h
 | cons a r ih=>
  intro kvs h hk
  cases kvs with
  | nil=>exact nomatch h
  | cons kv kvs=>
   obtain⟨k,x,e,hv⟩:=hk 0 a rfl
   cases e
   obtain⟨t,rfl⟩:=Value.isInt_shape hv
   exact .cons _ _ (ih (Nat.succ.inj h) fun j v e=>hk (j+1) v e)
theorem ZZ {a:AV}{v:Value}(Ok:G.Ok)(hh:A.handled=none)(R:Rep Z G C vt σ H s)(V:aj Z G.w H s.heap a v)(q:zF a H Q):wpAny (model Z G.w) A (call (.builtin "sorted") [v]) (EP Z G C vt σ H s Q) E s:=by
 obtain⟨l,dd,hz,q⟩:=q
 refine cY.e Ok R.g V dd fun p kp np dp rp=>?_
 obtain⟨o,es,ep,ho,hx,hd,hk,hp,hn⟩:=id dp
 have hlen:=rp.len
 refine call_function_entry kind_sorted plain_sorted entry_sorted (args_sorted1 _) ?_
 unfold Builtin.«sorted»
 refine wpAny_bind (m:=checkCount "sorted" 1 1 _) (wpAny_pure ?_)
 refine wpAny_bind (kdu_collect (A:=A.in1) (kdl_dict (knd:=intKind Z G.w) (kvs:=kp) (ep:=ep) np) hh ⟨o,es,ho,hx,hd,hk,hp,hn⟩ (Nat.le_trans (Nat.le_of_lt (hlen▸hz)) (by decide:64≤sizeLine)) fun h' tk acc hkk ac2=>?_)
 have hl:acc.toList.length=kp.length:=Array.length_toList.trans ac2.1
 have hI:IntsAre acc.toList (kp.map (·.1)):=U2 hl fun j v e=>ac2.2 j v (Array.getElem?_toList.symm.trans e)
 have hz':acc.toList.length<64:=hl▸hlen▸hz
 refine wpAny_bind (wpAny_newList ?_ (Nat.le_trans (Nat.le_of_lt hz') (by decide:64≤sizeLine)))
 have hoL:(h'.push {cls:= .type "list",data:= .seq acc.toList.toArray}).get? h'.objs.size=some (seqObj "list" acc.toList.toArray 0):=Heap.get?_push_size _ rfl
 refine wpAny_bind (wpAny_holding (wpAny_call_entry slot_list_sort ⟨_,hoL,rfl⟩ entry_list_sort (list_sort_tree hoL hI hz' fun out ns' a1 a2 a3=>⟨_,rfl,?_⟩) (args_list_sort _)))
 obtain⟨c,hc⟩:=sortedHeap_at (vs:=acc.toList) (out:=out) hoL
 have keep:∀b o,s.heap.get? b=some o→(sortedHeap (h'.push {cls:= .type "list",data:= .seq acc.toList.toArray}) h'.objs.size acc.toList out).get? b=some o:=fun b o e=>by
  have e1:=hkk b o e
  have hM:=Heap.lt_size e1
  exact(sortedHeap_old (Nat.ne_of_lt hM) (by rw[Heap.size_push];exact Nat.lt_succ_of_lt hM)).trans (ax _ _ _ _ e1)
 have UX:H h'.objs.size=none:=Option.eq_none_iff_forall_ne_some.mpr fun o e=>(R.g.own _ _ e).2.here.elim fun oo ho=>Nat.lt_irrefl _ (Heap.lt_size (hkk _ _ ho))
 exact wpAny_pure ⟨_,rfl,EP.grow (t:=tk) R keep (.lst hc rfl rfl rfl UX (ofInts a1)) (q ns' (rp.keys▸a2) a3)⟩
theorem afe {w:World}{h:Heap}{k:Int}{x:AV}{v:Value}(V:aj Z w H h (.tup [.int k,x]) v):∃y,aj Z w H h x y∧∀(kvs:List (Int×Value)) (i:Nat),kvs[i]? =some (k,y)→D5 h kvs i v:=by
 refine V.G4 fun t o n ws ho hc hd hn r=>?_
 obtain⟨wl⟩:=ws
 revert hd
 exact am.bn (vs:=wl) r fun _ _ r1 r2=>r1.dT fun u=>r2.bn fun y _ r2 r3=>r3.cn fun hd=>⟨y,r2,fun _ _ e=>⟨t,o,k,u,y,n,ho,hc,hd,e⟩⟩
theorem D5.up {h:Heap}{kvs:List (Int×Value)}{p:Int×Value}{i:Nat}{v:Value}(x:D5 h kvs i v):D5 h (p::kvs) (i+1) v:=D5.casesOn x fun t o k u x n a b c d=>⟨t,o,k,u,x,n,a,b,c,d⟩
theorem pairsOf {w:World}{h:Heap}{l:List (Int×AV)}{vs:List Value}(V:am Z w H h (l.map fun p=>.tup [.int p.1,p.2]) vs):∃kvs:List (Int×Value),kvs.length=vs.length∧aG Z w H h l kvs∧∀(i:Nat) (v:Value),vs[i]? =some v→D5 h kvs i v:=by
 induction l generalizing vs with
 | nil=>exact V.cn ⟨[],rfl,.nil,fun i v e=>nomatch e⟩
 | cons p l ih=>
  refine V.bn fun v vs V Vs=>?_
  obtain⟨kvs,e2,e3,e4⟩:=ih Vs
  obtain⟨y,Y,pr⟩:=afe V
  refine⟨(p.1,y)::kvs,congrArg Nat.succ e2,.cons Y e3,fun i v e=>?_⟩
  cases i with
  | zero=>cases e;exact pr _ 0 rfl
  | succ i=>exact(e4 i v e).up
theorem Gd.Ok.aiM (Ok:G.Ok){ak:List Env}(R:au Z G ak H s):(s.heap.objs.size==sysModules)=false:=Ok.sys.elim fun ox hx=>beq_eq_false_iff_ne.mpr fun z=>Nat.ne_of_lt (Heap.lt_size (R.keep _ _ hx)) z.symm
theorem adR {a:AV}{v:Value}(Ok:G.Ok)(hh:A.handled=none)(R:Rep Z G C vt σ H s)(V:aj Z G.w H s.heap a v)(q:zv a H Q):wpAny (model Z G.w) A (call (.type "dict") [v]) (EP Z G C vt σ H s Q) E s:=by
 obtain⟨l,dd,hz,hn,q⟩:=q
 refine LM.casesOn (motive:=fun v _=>wpAny (model Z G.w) A (call (.type "dict") [v]) (EP Z G C vt σ H s Q) E s) (dd.plain R.g V) fun x ob vs n ho hc hd hp V=>?_
 obtain⟨kvs,e2,e3,e4⟩:=pairsOf V
 exact yN (kvs:=kvs) hh ho hc hd hp (e3.keys▸hn) (e3.len▸hz) (Array.length_toList.symm.trans e2.symm) (fun i v e=>e4 i v (Array.getElem?_toList.trans e)) fun h' tk d7 k7=>
  EP.grow (t:=tk) R k7 (.dC (Ok.aiM R.g) d7 R.g.fresh (e3.mono (bc.same k7))) q
theorem LQ {f:MX}{l:bA}(Ok:G.Ok)(hf:SE Z G cls f)(hl:vf Z G cls l):SE Z G cls (.call f l):=fun d C vt e F hc=>jI hc fun g es p hc=>sX hc fun ha _ h1 h2 σ H s Q X R q=>
 (fU (bz ha)).symm▸wpAny_bind (hf.go F h1 (.here R) q fun _ _ _ _ S1 V1 _ q1=>fS (dP h2) (hl.go F h2 S1 q1 fun _ _ _ _ _ S2 V2 z2 q2=>
  (abc Ok F S2.R (V1.mono z2) V2 q2 (fun E a v V q=>ZZ Ok F.handled S2.R V q) fun E a v V q=>adR Ok F.handled S2.R V q).imp id S2.IB))
theorem ab9 {k:MK}{a:AV}{av:Value}{p:Value×List Value}{args:List AV}{cargs:List Value}(Ok:G.Ok)(F:aW C d)(R:Rep Z G C vt σ H s)(Va:aj Z G.w H s.heap a av)(mk:VS G av k p)(V:am Z G.w H s.heap args cargs)(q:GD Z G cls d Q X k a args H):
  Kept Z G.w p.1 s.heap∧wpAny (model Z G.w) C.A (call p.1 (p.2++cargs)) (EP Z G C vt σ H s Q) (XP Z G cls C.ak H s X) s:=by
 obtain⟨f,first⟩:=p
 obtain⟨e1,e2⟩:=mk
 cases e1
 cases k with
 | fn g=>
  obtain⟨e,e2⟩:=e2
  cases e
  exact⟨Kept.fn (Ok.X.keeps R.g.keep) e2,O0 F R (.cons Va V) q⟩
 | append=>
  cases e2
  refine⟨Kept.builtin,?_⟩
  revert Va
  exact Sb q fun o q Va=>Va.im (i0 V q fun v u V q=>q.casesOn fun xs h z q=>Wx R h z V q)
 | get=>
  cases e2
  refine⟨Kept.builtin,Sw V q fun k v ku u K V q=>?_⟩
  revert K
  exact fY q fun k q K=>K.dT fun t=>q.casesOn fun l d q=>agq Ok R Va d V q
 | bits=>
  cases e2
  refine⟨Kept.builtin,?_⟩
  revert Va
  refine fY q fun x q Va=>Va.dT fun t=>?_
  revert V
  exact R8 q fun q V=>V.cn (call_int_bit_length (EP.tok R .int q))
theorem AS {gl:Gl}{sc:Scope}{pos:Pos}{env:Env}{l:bA}{es:List PySem.Expr}(h:cJ gl sc vt l es=true)(hz:es.length<20):methodCallForm (es.length+([]:List Keyword).length) (backTo pos (starEach es env)) (backToKw pos (keywordEach [] env))=true:=by
 unfold methodCallForm
 have :=List.any_eq_false.mp (dP (pos:=pos) (env:=env) h)
 rw[Bool.and_eq_true,Bool.and_eq_true,List.all_eq_true]
 refine⟨⟨fun x hx=>by simpa using this x hx,rfl⟩,decide_eq_true ?_⟩
 rw[if_pos (show(backToKw pos (keywordEach [] env)).isEmpty=true from rfl),List.length_nil];lia
theorem Nh {v:PySem.Expr}{env:Env}{ap cp:Pos}(h:(ap.endLine==cp.line)=true):methodCallPos true v env ap cp=pure cp:=by unfold methodCallPos;simp [eq_of_beq h]
theorem LS {a:MX}{nm:String}{l:bA}(Ok:G.Ok)(ha:SE Z G cls a)(hl:vf Z G cls l):SE Z G cls (.aJ a nm l):=fun d C vt e F hc=>wS hc fun v n ap es cp hc=>jc hc fun h0 l4 hs hz h1 h2=>ck h0 fun σ H s Q X R q=>by
 rw[arm_eval_Call]
 refine wpAny_bind (Hl (bz hs) (ha.go F h1 (.here R) q fun av vv _ s1 S1 V1 _ q1=>wpAny_bind (wpAny_standAt ?_)))
 unfold methodCall
 rw[AS h2 (of_decide_eq_true hz)]
 exact wpAny_bind (wpAny_holding (methP Ok S1.R V1 q1 fun k p q2 mk=>wpAny_bind (wpAny_of_eq (Nh l4) (fS (dP h2) (hl.go F h2 S1 q2 fun _ _ _ _ _ S2 V2 z2 q3=>
  (ab9 Ok F S2.R (V1.mono z2) mk V2 q3).imp id S2.IB)))))
theorem Uj {j:Nat}{Cc:Addr}{nm:String}{f:Addr}{l:bA}(Ok:G.Ok)(hl:vf Z G cls l):SE Z G cls (.wo j Cc nm f l):=fun d C vt e F hc=>RU hc fun x xp n ap es cp hc=>zP hc fun h0 l4 hz h1 h2=>ck h0 fun σ H s Q X R q=>by
 have g:=wx (A:=C.A) (E:=XP Z G cls C.ak H s X) (Q:=fun v s'=>v= .ref Cc∧s=s') Ok F R h1 fun v V gv=>⟨gv,rfl⟩
 rw[arm_eval_Call]
 refine wpAny_bind (Hl rfl (wpAny_mono (wpAny_Name g.1 g.2) ?_ fun _ _ z=>z))
 rintro _ _ ⟨rfl,rfl⟩
 refine wpAny_bind (wpAny_standAt ?_)
 unfold methodCall
 rw[AS h2 (of_decide_eq_true hz)]
 have S1:=(St.here R).tok (t:=s.toks+1)
 exact wpAny_bind (wpAny_holding (method_cls (Ok.X.keeps R.g.keep) q.1.2.2.2 (cls_value (Ok.X.keeps R.g.keep) q.1.1 q.1.2.1 rfl (wpAny_bind (wpAny_of_eq (Nh l4) (fS (dP h2) (hl.go F h2 S1 q.2 fun _ _ _ _ _ S2 V2 z2 q3=>
  ⟨Kept.fn (Ok.X.keeps S2.R.g.keep) q.1.2.2.1,S2.IB (O0 F S2.R V2 q3)⟩)))))))
theorem Wm {f:MX}{l:bA}(h:SE Z G cls (.call f l)):ST Z G cls (.call f l):=fun d C vt e F hc=>(by
 exact jI hc fun g es p _ hc σ H s Q X R q=>wpAny_isTrue_value (h.go F hc (.here R) (Q:=d9 Q) q fun _ _ _ _ S1 V1 _ q1=>u0 V1 q1 fun b q=>S1.bp q) rfl:aN G.gl C.sc vt (.call f l) e=true→_) hc
theorem Wo {a:MX}{nm:String}{l:bA}(h:SE Z G cls (.aJ a nm l)):ST Z G cls (.aJ a nm l):=fun d C vt e F hc=>(by
 exact wS hc fun v n ap es cp _ hc σ H s Q X R q=>wpAny_isTrue_value (h.go F hc (.here R) (Q:=d9 Q) q fun _ _ _ _ S1 V1 _ q1=>u0 V1 q1 fun b q=>S1.bp q) rfl:aN G.gl C.sc vt (.aJ a nm l) e=true→_) hc
end
noncomputable def lY:List String:=["enumerate","zip","dict_itemiterator","dict_reverseitemiterator","odict_iterator","itertools.zip_longest","itertools.pairwise"]
section
variable {Z:Program}{w:World}{A:Around}{E:Value→Shared→Prop}{s:Shared}
theorem goT {p:Pos}{I:Addr}{o:Obj}{n:String}{v:Value}{Q:Unit→Shared→Prop}(ho:s.heap.get? I=some o)(hc:o.cls= .type n)(hn:lY.contains n=false)(h:Q () s):
  wpAny (model Z w) A (letOwnedTupleGo (.List [] p) (.ref I) v) Q E s:=by
 cases v with
 | ref a=>
  obtain⟨c,d,dt,sl⟩:=o
  cases hc
  refine wpAny_bind (wpAny_load ho ?_)
  cases dt with
  | fields vs=>exact(congrArg (fun x=>wpAny (model Z w) A (if(x&&vs[0]? ==some (rawInt a))=true then _ else _) Q E s) hn).mpr (wpAny_pure h)
  | _=>exact wpAny_pure h
 | _=>exact wpAny_pure h
theorem Tr {target:PySem.Expr}{I:Addr}{o:Obj}{n:String}{v:Value}{Q:Unit→Shared→Prop}(ho:s.heap.get? I=some o)(hc:o.cls= .type n)(hn:lY.contains n=false)(h:Q () s):
  wpAny (model Z w) A (letOwnedTupleGo target (.ref I) v) Q E s:=by
 cases target with
 | List _ p=>exact goT (p:=p) ho hc hn h
 | Tuple _ _ p=>exact goT (p:=p) ho hc hn h
 | _=>exact wpAny_pure h
end
section
variable {Z:Program}{G:Gd}{cls:Value}{d:Nat}{C:FC}{vt:List VK}{e:PySem.Expr}{σ:Sg}{H H0 H1:AH}{s s0 s1:Shared}{X:AH→Prop}{m:MX}{A:Around}{E:Value→Shared→Prop}{ak:List Env}{I:Addr}{src:Src}{i:Nat}
inductive zJ (Z:Program)(G:Gd)(I:Addr)(H:AH)(h:Heap)(l:List AV)(i:Nat):Prop
 | mk (fp:List Addr) (P:Nat→Value→Prop) (St:Nat→Heap→Prop) (W:∀A:Around,A.handled=none→Walks Z G.w A I fp [I] l.length P St) (st:St i h) (Pn:∀b∈fp,b=I∨(H b=none∧∃o,h.get? b=some o))
   (hP:∀j v,j<l.length→P j v→∃x,l[j]? =some x∧aj Z G.w H h x v) (hk:∀j h,St j h→∃o n,h.get? I=some o∧o.cls= .type n∧lY.contains n=false):zJ Z G I H h l i
noncomputable def fK (Z:Program)(G:Gd)(I:Addr)(H:AH)(h:Heap)(src:Src)(i:Nat):Prop:=@Src.casesOn (fun _=>Prop) src (fun l=>zJ Z G I H h l i) fun a _=>h.IsListIter I a i
theorem fK.obj {h:Heap}(x:fK Z G I H h src i):∃o n,h.get? I=some o∧o.cls= .type n∧lY.contains n=false:=by
 cases src with
 | live a l=>obtain⟨o,ho,hc,_⟩:=x;exact⟨o,_,ho,hc,by decide⟩
 | items l=>exact zJ.casesOn x fun _ _ _ _ st _ _ k=>k _ _ st
theorem zJ.mono {H':AH}{h h':Heap}{l:List AV}(x:zJ Z G I H h l i)(eI:∀o,h.get? I=some o→h'.get? I=some o)(e:bc H h H' h'):zJ Z G I H' h' l i:=
 zJ.casesOn x fun fp P St W st Pn hP hk=>⟨fp,P,St,W,(W {} rfl).frame _ _ _ st fun b hb o ho=>(Pn b hb).elim (fun z=>by subst z;exact eI o ho) fun z=>(e b o z.1 ho).2,
  fun b hb=>(Pn b hb).imp id fun⟨z,o,ho⟩=>⟨(e b o z ho).1,o,(e b o z ho).2⟩,fun j v hj p=>(hP j v hj p).elim fun x q=>⟨x,q.1,q.2.mono e⟩,hk⟩
theorem fK.keep {own:Addr→Prop}{H':AH}{h h':Heap}(x:fK Z G I H h src i)(hI:H I=some .it)(hn:¬own I)(e:Ext own H h H' h'):fK Z G I H' h' src i:=by
 have eI:=(e.it I hI).2 hn
 cases src with
 | live a l=>exact x.elim fun o q=>⟨o,eI o q.1,q.2⟩
 | items l=>exact zJ.mono x eI e.bY
noncomputable def ja (I:Addr)(h h':Heap):Prop:=∀b o,b≠I→h.get? b=some o→h'.get? b=some o
theorem dQ {h h':Heap}{o:AO}(hI:H I=some o)(k:ja I h h'):bc H h H h':=fun a o hn ho=>⟨hn,k a o (aA hI hn) ho⟩
theorem BH {a b:Addr}{o:AO}(e:H a=some o)(q:H b=some .ns)(h:o≠ .ns):b≠a:=pK e q h
theorem Bo:AO.it≠AO.ns:=fun z=>nomatch z
theorem T9:AO.tab≠AO.ns:=fun z=>nomatch z
theorem Ik:AO.it≠AO.tab:=fun z=>nomatch z
theorem au.but {h':Heap}{t:Nat}(R:au Z G ak H s)(hI:H I=some .it)(k:ja I s.heap h')(hx:∃o,h'.get? I=some o):au Z G ak H {s with heap:=h',toks:=t}:=
 ⟨fun b o e=>k b o (R.Bg hI e) (R.keep b o e),fun a o e=>⟨(R.own a o e).1,@dite _ (a=I) _ (fun z=>by subst z;cases hI.symm.trans e;exact hx) fun z=>(R.own a o e).2.keep (dQ hI k) fun ob=>k a ob z⟩,
  fun x hx=>(R.frames x hx).map fun L o _ c e=>⟨c,k L o (BH hI c Bo) e⟩,R.tabs⟩
theorem au.IE {a:Addr}(R:au Z G ak H s)(h:H a≠some .tab):∀P∈G.tabs,P≠a:=fun P hP z=>h (by rw[←z];exact R.tabs P hP)
theorem bx {a b:Addr}(h:b≠a):H.drop a b=H b:=if_neg h
theorem drop_eq {a:Addr}:H.drop a a=none:=if_pos rfl
theorem A4 {a b:Addr}{o:AO}(e:H.drop a b=some o):b≠a∧H b=some o:=@dite _ (b=a) _ (fun z=>nomatch (if_pos z).symm.trans e) fun z=>⟨z,(if_neg z).symm.trans e⟩
theorem f9 {h h':Heap}{a:Addr}{o:AO}(hI:H a=some o)(k:ja a h h'):bc H h (H.drop a) h':=fun b ob hn ho=>have z:=aA hI hn
 ⟨(bx z).trans hn,k b ob z ho⟩
theorem dJ {h:Heap}{a:Addr}:bc H h (H.drop a) h:=fun b o hn ho=>⟨@dite _ (b=a) _ (fun z=>if_pos z) fun z=>(if_neg z).trans hn,ho⟩
theorem qb {a:Addr}{ak:List Env}(R:au Z G ak H s)(ha:H a≠some .ns):∀e∈ak,e.frame≠some a:=fun e he q=>ru.casesOn (R.frames e he) fun _ L o b c _ _=>by cases b.symm.trans q;exact ha c
theorem au.drop {a:Addr}(R:au Z G ak H s)(ht:∀P∈G.tabs,P≠a)(hf:∀e∈ak,e.frame≠some a):au Z G ak (H.drop a) s:=
 ⟨R.keep,fun b o e=>have z:=(A4 e).2
  ⟨(R.own b o z).1,(R.own b o z).2.mono dJ rfl⟩,fun x hx=>(R.frames x hx).map fun L o b c e=>⟨(bx (fun z:L=a=>hf x hx (z▸b))).trans c,e⟩,fun P hP=>(bx (ht P hP)).trans (R.tabs P hP)⟩
theorem au.L6 {h':Heap}{t:Nat}{a:Addr}{o:AO}(R:au Z G ak H s)(hI:H a=some o)(k:ja a s.heap h')(ht:∀P∈G.tabs,P≠a)(hf:∀e∈ak,e.frame≠some a):au Z G ak (H.drop a) {s with heap:=h',toks:=t}:=
 ⟨fun b ob e=>k b ob (R.Bg hI e) (R.keep b ob e),fun b ob e=>have z:=A4 e
  ⟨(R.own b ob z.2).1,(R.own b ob z.2).2.keep (f9 hI k) fun ob=>k b ob z.1⟩,fun x hx=>(R.frames x hx).map fun L o b c e=>have z:L≠a:=fun z=>hf x hx (z▸b)
   ⟨(bx z).trans c,k L o z e⟩,fun P hP=>(bx (ht P hP)).trans (R.tabs P hP)⟩
theorem zx {h:Heap}{a b:Addr}{o:Obj}(e:h.get? a=none)(q:h.get? b=some o):b≠a:=fun z=>nomatch (z▸q:h.get? a=some o).symm.trans e
theorem Ext.but {own:Addr→Prop}{h1 h h':Heap}(x:Ext own H1 h1 H h)(hI:h1.get? I=none)(hI2:H1 I=none)(k:ja I h h'):Ext own H1 h1 H h':=
 ⟨fun a o hn ho=>⟨(x.bY a o hn ho).1,k a o (zx hI ho) (x.bY a o hn ho).2⟩,fun a e=>⟨(x.ns a e).1,fun n o ho=>((x.ns a e).2 n o ho).elim fun sl q=>⟨sl,k a _ (zx hI ho) q⟩⟩,
  fun a e=>⟨(x.it a e).1,fun n o q=>k a o (fun z=>nomatch (z▸e:H1 I=some .it).symm.trans hI2) ((x.it a e).2 n o q)⟩,fun a o ho=>(x.here a o ho).elim fun o' q=>⟨o',k a o' (zx hI ho) q⟩⟩
theorem Ext.drop {own:Addr→Prop}{h1 h:Heap}{a:Addr}(x:Ext own H1 h1 H h)(hI2:H1 a=none):Ext own H1 h1 (H.drop a) h:=
 ⟨x.bY.trans dJ,fun b e=>⟨(bx (aA e hI2).symm).trans (x.ns b e).1,(x.ns b e).2⟩,fun b e=>⟨(bx (aA e hI2).symm).trans (x.it b e).1,(x.it b e).2⟩,x.here⟩
theorem Ext.aga {own:Addr→Prop}{h h':Heap}(hI:H I=some .it)(k:ja I h h')(hx:∃o,h'.get? I=some o):Ext (fun a=>own a∨a=I) H h H h':=
 ⟨dQ hI k,fun a e=>⟨e,fun n o ho=>⟨o.slots,k a o (fun z=>n (.inr z)) ho⟩⟩,fun a e=>⟨e,fun n o ho=>k a o (fun z=>n (.inr z)) ho⟩,qc k hx⟩
theorem tW {h h':Heap}{c:Addr}{v:Option Value}(k:∀o,h.get? c=some o→h'.get? c=some o)(x:h.IsCell c v):h'.IsCell c v:=x.elim fun o q=>⟨o,k o q.1,q.2⟩
theorem Rep.but {h':Heap}{t:Nat}(R:Rep Z G C vt σ H s)(hI:H I=some .it)(k:ja I s.heap h')(hx:∃o,h'.get? I=some o):Rep Z G C vt σ H {s with heap:=h',toks:=t}:=
 ⟨R.g.but hI k hx,R.L,R.loc.map (fun _ n=>n.at' fun o=>k _ o (BH hI R.L Bo)) (dQ hI k),fun i n e=>(R.pc i n e).map (fun c _ hn=>⟨hn,fun v=>tW fun o=>k c o (BH hI hn Bo)⟩) (dQ hI k),R.own,R.k⟩
theorem Oy {a:Addr}{l:List AV}(R:au Z G ak H s)(hI:H I=some .it)(hs:H a=some (.list l)):∃vs,s.heap.IsList a vs∧am Z G.w H s.heap l vs.toList∧a≠I:=(R.own _ _ hs).2.elim fun vs q=>q.1.elim fun n ho=>⟨vs,⟨_,ho,rfl,n,rfl⟩,q.2,pK hI hs fun z=>nomatch z⟩
theorem Yw {Q:Option Value→Shared→Prop}(hh:A.handled=none)(R:au Z G ak H s)(hI:H I=some .it)(it:fK Z G I H s.heap src i)(hs:src.here H)(hi:i<src.all.length)
  (k:∀v x h' tk,src.all[i]? =some x→ja I s.heap h'→fK Z G I H h' src (i+1)→aj Z G.w H h' x v→Q (some v) {s with heap:=h',toks:=tk}):wpAny (model Z G.w) A (pyNext (.ref I)) Q E s:=by
 cases src with
 | live a l=>
  obtain⟨vs,hl,r,az⟩:=Oy R hI hs
  refine(Walks.list hh I a az vs).item i s Q E (r.d5▸hi) ⟨it,hl⟩ fun v h' tk pv st hk=>?_
  have MR:ja I s.heap h':=fun b o z e=>hk b o (df z) e
  have hx:l[i]? =some (l[i]'hi):=List.getElem?_eq_getElem hi
  obtain⟨u,e,V⟩:=r.MH hx
  cases e.symm.trans pv
  exact k v _ h' tk hx MR st.1 (V.mono (dQ hI MR))
 | items l=>
  refine zJ.casesOn it fun fp P St W st Pn hP hg=>(W A hh).item i s Q E hi st fun v h' tk pv Vt hk=>?_
  have MR:ja I s.heap h':=fun b o z e=>hk b o (df z) e
  have fr:=dQ hI MR
  obtain⟨x,e,V⟩:=hP i v hi pv
  exact k v x h' tk e MR ⟨fp,P,St,W,Vt,fun b hb=>(Pn b hb).imp id fun⟨z,o,ho⟩=>⟨z,o,(fr b o z ho).2⟩,fun j v hj p=>(hP j v hj p).elim fun x q=>⟨x,q.1,q.2.mono fr⟩,hg⟩ (V.mono fr)
theorem Xc {Q:Option Value→Shared→Prop}(hh:A.handled=none)(R:au Z G ak H s)(hI:H I=some .it)(it:fK Z G I H s.heap src src.all.length)(hs:src.here H)
  (k:∀h' tk,ja I s.heap h'→Q none {s with heap:=h',toks:=tk}):wpAny (model Z G.w) A (pyNext (.ref I)) Q E s:=by
 cases src with
 | live a l=>
  obtain⟨vs,hl,r,az⟩:=Oy R hI hs
  exact(Walks.list hh I a az vs).done s Q E ⟨(r.d5▸it:s.heap.IsListIter I a vs.size),hl⟩ fun h' tk hk=>k h' tk fun b o z e=>hk b o (df z) e
 | items l=>exact zJ.casesOn it fun fp P St W st Pn hP hg=>(W A hh).done s Q E st fun h' tk hk=>k h' tk fun b o z e=>hk b o (df z) e
theorem afr {Q:Value→Shared→Prop}(hh:A.handled=none)(R:au Z G ak H s)(hI:H I=some .it)(it:fK Z G I H s.heap src i)(hs:src.here H)(k:Q (.ref I) s):wpAny (model Z G.w) A (pyIter (.ref I)) Q E s:=by
 cases src with
 | live a l=>
  obtain⟨vs,hl,r,az⟩:=Oy R hI hs
  exact(Walks.list hh I a az vs).self i s Q E ⟨it,hl⟩ k
 | items l=>exact zJ.casesOn it fun fp P St W st Pn hP hg=>(W A hh).self i s Q E st k
theorem fp2 {I a:Addr}{o:Obj}{h':Heap}(hn:H a=none)(ho:h'.get? a=some o):∀b∈[I,a],b=I∨(H b=none∧∃o,h'.get? b=some o):=fun b hb=>(List.mem_cons.mp hb).imp id fun z=>by cases List.mem_singleton.mp z;exact⟨hn,o,ho⟩
theorem ZN (lo hi:Int):Builtin.Range.rangeSize lo hi 1=(((hi-lo).toNat:Nat):Int):=by
 unfold Builtin.Range.rangeSize
 rw[if_pos (by decide)]
 split<;>lia
noncomputable abbrev zK (Z:Program)(G:Gd)(H:AH)(s:Shared)(Q:Src→Prop)(P:Value→Shared→Prop):Prop:=∀src o,Q src→src.here H→src.all.length≤100000→fK Z G s.heap.objs.size (H.set s.heap.objs.size .it) (s.heap.push o) src 0→P (.ref s.heap.objs.size) {s with heap:=s.heap.push o}
theorem abq {o:Obj}:bc H s.heap (H.set s.heap.objs.size .it) (s.heap.push o):=jy (ax _ _) (Nat.le_refl _)
theorem set_nil {h:Heap}{a:Addr}{o:Obj}{b:AO}(hn:H a=none)(ho:h.get? a=some o):H.set h.objs.size b a=none:=(AH.ae _ _ (cu ho (Nat.le_refl _))).trans hn
theorem aeR {l:List AV}{x:Value}{Q:Src→Prop}{P:Value→Shared→Prop}(V:aj Z G.w H s.heap (.lst l) x)(hz:l.length≤100000)(q:Q (.items l))(k:zK Z G H s Q P):wpAny (model Z G.w) A (pyIter x) P E s:=
 V.uo fun a o n vs ho hc hd hp hn r=>have hl:s.heap.IsList a vs:=⟨o,ho,hc,n,hd⟩
  wpAny_pyIter_list hl (k (.items l) _ q trivial hz ⟨[s.heap.objs.size,a],_,_,fun A hh=>r.d5▸Walks.list hh s.heap.objs.size a (cu ho (Nat.le_refl _)) vs,⟨⟨_,Heap.get?_push_size _ rfl,rfl,rfl⟩,hl.at fun o e=>ax _ _ _ _ e⟩,fp2 (set_nil hn ho) (ax _ _ _ _ ho),fun j v hj p=>by
   have hx:l[j]? =some (l[j]'hj):=List.getElem?_eq_getElem hj
   obtain⟨u,e2,V⟩:=r.MH hx
   cases e2.symm.trans p
   exact⟨_,hx,V.mono abq⟩,fun j h st=>st.1.elim fun o q=>⟨o,_,q.1,q.2.1,by decide⟩⟩)
theorem aeP {l:List Int}{x:Value}{Q:Src→Prop}{P:Value→Shared→Prop}(V:aj Z G.w H s.heap (.bytes l) x)(hz:l.length≤100000)(q:Q (.items (l.map .int)))(k:zK Z G H s Q P):wpAny (model Z G.w) A (pyIter x) P E s:=by
 refine V.tc fun b t e=>?_
 have e2:(l.map AV.int).length=b.size:=by rw[←e,List.length_map,List.length_map,Array.length_toList]
 refine KBw.pyIter_bytes (k (.items (l.map .int)) _ q trivial (List.length_map AV.int▸hz) ⟨[s.heap.objs.size],(fun i v=>∃c u,b[i]? =some c∧v= .int (c.toNat:Int) u),(fun i h=>KBw.IsBytesIter h s.heap.objs.size b t i),fun A hh=>e2▸KBw.walks hh s.heap.objs.size b t,⟨_,Heap.get?_push_size _ rfl,rfl,rfl⟩,fun b hb=>.inl (List.mem_singleton.mp hb),fun j v hj p=>?_,fun j h st=>st.elim fun o q=>⟨o,_,q.1,q.2.1,by decide⟩⟩)
 obtain⟨c,u,hc,rfl⟩:=p
 refine⟨.int (c.toNat:Int),?_,.int⟩
 rw[←e,List.getElem?_map,List.getElem?_map,Array.getElem?_toList,hc];rfl
theorem aeQ {l:List (Int×AV)}{x:Value}{Q:Src→Prop}{P:Value→Shared→Prop}(V:aj Z G.w H s.heap (.dC l) x)(hz:l.length≤100000)(q:Q (.items (l.map fun p=>.int p.1)))(k:zK Z G H s Q P):wpAny (model Z G.w) A (pyIter x) P E s:=by
 refine V.W8 fun a kvs hs hd hn r=>?_
 obtain⟨o,es,ep,ho,hx,Pm,hk,hp,hnd⟩:=id hd
 have hat:s.heap.DictAt (intKind Z G.w) a kvs ep:=⟨o,es,ho,hx,Pm,hk,hp,hnd⟩
 refine wpAny_pyIter_dict hs hat (k (.items (l.map fun p=>.int p.1)) _ q trivial (List.length_map (fun p:Int×AV=>AV.int p.1)▸hz) ⟨[s.heap.objs.size,a],(fun i v=>∃k x,kvs[i]? =some (k,x)∧(intKind Z G.w).is k v=true),(fun i h=>h.IsKeyIter s.heap.objs.size a i kvs.length ep∧Heap.DictAt (intKind Z G.w) h a kvs ep),fun A hh=>?_,
  ⟨⟨_,Heap.get?_push_size _ rfl,rfl,rfl⟩,hat.push _⟩,fp2 (set_nil hn ho) (ax _ _ _ _ ho),fun j v hj p=>?_,fun j h st=>st.1.elim fun o q=>⟨o,_,q.1,q.2.1,by decide⟩⟩)
 ·rw[List.length_map,r.len];exact Walks.dictKeys (knd:=intKind Z G.w) hh s.heap.objs.size a (cu ho (Nat.le_refl _)) kvs ep
 ·obtain⟨kk,x,e,hv⟩:=p
  obtain⟨t,rfl⟩:=Value.isInt_shape hv
  refine⟨.int kk,?_,.int⟩
  have :=congrArg (fun z=>z[j]?) r.keys
  simp only [List.getElem?_map,e,Option.map_some] at this ⊢
  obtain⟨y,h1,h2⟩:=Option.map_eq_some_iff.mp this
  rw[h1,←h2];rfl
theorem aeS {lo hi:Int}{x:Value}{Q:Src→AH→Prop}{P:Value→Shared→Prop}(V:aj Z G.w H s.heap (.uN lo hi) x)(q:SrcR lo hi H Q)(k:zK Z G H s (fun c=>Q c H) P):wpAny (model Z G.w) A (pyIter x) P E s:=by
 refine V.aib fun a t u v ho hn=>?_
 obtain⟨h1,h2,h3,h4,hz,q⟩:=q
 refine wpAny_pyIter_range (t:=t) (u:=u) (v:=v) ho (small_one (by lia) (by lia) (by lia) (by lia)) ?_
 rw[ZN]
 refine k (.items _) _ q trivial ?_ ⟨[s.heap.objs.size],(fun i v=>∃t,v= .int (lo+(i:Nat)*1) t),(fun i h=>IsRangeIter h s.heap.objs.size (lo+(i:Nat)*1) ((((hi-lo).toNat:Nat):Int)-(i:Nat)) 1),fun A hh=>?_,?_,fun b hb=>.inl (List.mem_singleton.mp hb),fun j v hj p=>?_,fun j h st=>⟨_,_,st,rfl,by decide⟩⟩
 ·show(List.map _ _).length≤_
  rw[List.length_map,List.length_range];exact hz
 ·rw[List.length_map,List.length_range];exact Walks.range hh s.heap.objs.size lo 1 (hi-lo).toNat
 ·show IsRangeIter _ _ (lo+((0:Nat):Int)*1) ((((hi-lo).toNat:Nat):Int)-((0:Nat):Int)) 1
  rw[show lo+((0:Nat):Int)*1=lo from Int.add_zero lo,show(((hi-lo).toNat:Nat):Int)-((0:Nat):Int)=(((hi-lo).toNat:Nat):Int) from Int.sub_zero _]
  exact Heap.get?_push_size _ rfl
 ·obtain⟨t,rfl⟩:=p
  refine⟨.int (lo+(j:Int)),?_,(Int.mul_one (j:Int)).symm▸ .int⟩
  rw[List.length_map,List.length_range] at hj
  rw[List.getElem?_map,List.getElem?_range hj];rfl
theorem Pw {v:AV}{x:Value}{Q:Src→AH→Prop}{P:Value→Shared→Prop}(Ok:G.Ok)(R:au Z G ak H s)(V:aj Z G.w H s.heap v x)(q:Lp Q v H)(k:zK Z G H s (fun c=>Q c H) P):wpAny (model Z G.w) A (pyIter x) P E s:=by
 cases v with
 | lst l=>exact q.casesOn fun z q=>aeR V z q k
 | bytes l=>exact q.casesOn fun z q=>aeP V z q k
 | dC l=>exact q.casesOn fun z q=>aeQ V z q k
 | uN lo hi=>exact aeS V q k
 | ref a=>
  obtain⟨l,hx,hz,q⟩:=q
  obtain⟨vs,⟨n,ho⟩,r⟩:=(R.own _ _ hx).2
  exact V.im (wpAny_pyIter_list ⟨_,ho,rfl,n,rfl⟩ (k (.live a l) _ q hx hz ⟨_,Heap.get?_push_size _ rfl,rfl,rfl⟩))
 | _=>exact v0 q
end
section
variable (Z:Program)(G:Gd)(cls:Value)
inductive AP (C:FC)(vt:List VK)(H:AH)(s:Shared)(Q:Sg→AH→Prop)(u:Unit)(s':Shared):Prop
 | mk (σ':Sg) (H':AH) (a:Rep Z G C vt σ' H' s') (b:Ext C.own H s.heap H' s'.heap) (c:aF s s') (q:Q σ' H'):AP C vt H s Q u s'
noncomputable def SA (t:MT):Prop:=∀(d:Nat) (C:FC) (vt:List VK) (e:PySem.Expr),aW C d→po G.gl C.sc vt t e=true→∀(σ:Sg) (H:AH) (s:Shared) (av:AV) (v:Value) (Q:Sg→AH→Prop) (E:Value→Shared→Prop),
 Rep Z G C vt σ H s→aj Z G.w H s.heap av v→i9 Z G cls d t av σ H Q→wpAny (model Z G.w) C.A (assign e C.env v) (AP Z G C vt H s Q) E s
noncomputable def VV (l:qr):Prop:=∀(d:Nat) (C:FC) (vt:List VK) (es:List PySem.Expr),aW C d→AT G.gl C.sc vt l es=true→∀(σ:Sg) (H:AH) (s:Shared) (av:List AV) (v:List Value) (Q:Sg→AH→Prop) (E:Value→Shared→Prop),
 Rep Z G C vt σ H s→am Z G.w H s.heap av v→u5 Z G cls d l av σ H Q→wpAny (model Z G.w) C.A (assignInOrder ((assignEach es C.env).map (·.2)) v) (AP Z G C vt H s Q) E s
end
section
variable {Z:Program}{G:Gd}{cls:Value}{d:Nat}{C:FC}{vt:List VK}{e:PySem.Expr}{σ:Sg}{H H0:AH}{s s0:Shared}{X:AH→Prop}{m:MX}
theorem AP.trans {Q:Sg→AH→Prop}{H':AH}{s' dD:Shared}{u:Unit}(x:Ext C.own H s.heap H' s'.heap)(y:aF s s')(z:AP Z G C vt H' s' Q u dD):AP Z G C vt H s Q u dD:=AP.casesOn z fun σ' cb a b c q=>⟨σ',cb,a,x.trans b,y.trans c,q⟩
theorem ux {h h':Heap}{a:Addr}(hH:H a=some .ns)(hs:Heap.SameBut a h h'):bc H h H h':=fun b o hn ho=>⟨hn,(hs.2 b (aA hH hn)).trans ho⟩
theorem Ext.uH {own:Addr→Prop}{h h':Heap}{a:Addr}(ha:own a)(hH:H a=some .ns)(hs:Heap.SameBut a h h')(hx:∃o,h'.get? a=some o):Ext own H h H h':=
 ⟨ux hH hs,fun b e=>⟨e,fun n=>bK.of_eq (hs.2 b (fun z=>n (z▸ha)))⟩,fun b e=>⟨e,fun n o q=>(hs.2 b (fun z=>n (z▸ha))).trans q⟩,qc (fun b _ z e=>(hs.2 b z).trans e) hx⟩
inductive xy (h:Heap)(a:Addr):Prop
 | mk (o:Obj) (b:h.get? a=some o) (f:∀vs,o.data≠ .fields vs):xy h a
theorem xy.here {h:Heap}{a:Addr}(x:xy h a):∃o,h.get? a=some o:=xy.casesOn x fun o b _=>⟨o,b⟩
theorem No {h:Heap}{a:Addr}{m}(n:h.Ns a m):xy h a:=by
 obtain⟨o,es,ep,ho,hd,_⟩:=n
 exact⟨o,ho,fun vs z=>nomatch hd.symm.trans z⟩
theorem rU {h:Heap}{a:Addr}{v}(n:h.IsCell a v):xy h a:=n.elim fun o q=>⟨o,q.1,fun vs z=>nomatch q.2.symm.trans z⟩
theorem au.uH {ak:List Env}{h':Heap}{t:Nat}{a:Addr}(R:au Z G ak H s)(hH:H a=some .ns)(hs:Heap.SameBut a s.heap h')(hx:xy h' a):au Z G ak H {s with heap:=h',toks:=t}:=
 ⟨fun b o e=>(hs.2 b (R.Bg hH e)).trans (R.keep b o e),fun b o e=>⟨(R.own b o e).1,@dite _ (b=a) _ (fun z=>by subst z;cases hH.symm.trans e;exact hx.here) fun z=>(R.own b o e).2.mono (ux hH hs) (hs.2 b z)⟩,
  fun x E8=>ru.casesOn (R.frames x E8) fun q L o b c e f=>@dite _ (L=a) _ (fun z=>xy.casesOn hx fun o' h1 h2=>⟨q,L,o',b,c,z▸h1,h2⟩) fun z=>⟨q,L,o,b,c,(hs.2 L z).trans e,f⟩,R.tabs⟩
theorem cz {i:Nat}{k:VK}{x:Str}(e:vt[i]? =some k)(n:k.name?=some x):nameAt vt i=some x:=(congrArg (Option.bind · VK.name?) e).trans n
theorem getElem?_set' {α:Type}{l:List α}{i j:Nat}{a b:α}{P:Nat→α→Prop}(h:(l.set i a)[j]? =some b)(hi:i<l.length)(f:P i a)(g:j≠i→l[j]? =some b→P j b):P j b:=
 @dite _ (j=i) _ (fun z=>by subst z;cases (List.getElem?_set_self hi).symm.trans h;exact f) fun z=>g z ((List.getElem?_set_ne (Ne.symm z)).symm.trans h)
theorem ZE {j:Nat}{y:Str}(e:jA vt j y):nameAt vt j=some y:=e.elim (fun e=>cz e rfl) fun e=>cz e rfl
theorem OD {i j:Nat}{a b:VK}(e:vt[i]? =some a)(e':vt[j]? =some b)(h:a≠b):i≠j:=fun z=>by subst z;exact h (Option.some.inj (e.symm.trans e'))
theorem LN.set {i:Nat}{av:AV}(R:LN G C vt σ)(h:∀y,vt[i]? ≠some (.ar y)):LN G C vt (σ.set i (some av)):=
 ⟨fun j y e=>(R.sc j y e).elim fun c q=>⟨c,q.1,(List.getElem?_set_ne (fun z:i=j=>h y (z▸e))).trans q.2⟩,R.vk,R.nd,R.dis,List.length_set.trans R.len,R.xR⟩
theorem uW {A:Around}{i:Nat}{x:Str}{av:AV}{v:Value}{Q:Sg→AH→Prop}{E:Value→Shared→Prop}(F:aW C d)(R:Rep Z G C vt σ H s)(e:vt[i]? =some (.loc x))(V:aj Z G.w H s.heap av v)
  (hi:i<σ.length) (q:Q (σ.set i (some av)) H):wpAny (model Z G.w) A (storeName C.env x v) (AP Z G C vt H s Q) E s:=
 q9.casesOn R.loc fun m hn r=>wpAny_storeName_local (DP (R.at e)).1 hn (fun h' Pp hs=>by
  have fr:=ux R.L hs
  refine⟨σ.set i (some av),H,⟨R.g.uH R.L hs (No Pp),R.L,⟨_,Pp,fun j y bv e1 e2=>?_⟩,fun j y e1=>?_,R.own,R.k.set fun y z=>nomatch e.symm.trans z⟩,Ext.uH F.ah6 R.L hs (No Pp).here,aF.mk _ _ _,q⟩
  ·revert e1
   refine getElem?_set' (P:=fun j o=>o=some bv→vt[j]? =some (.loc y)→∃v',(if y=x then some v else m y)=some v'∧aj Z G.w H h' bv v') e2 hi (fun z e1=>?_) (fun z e2 w e1=>?_) rfl
   ·cases z;cases e.symm.trans e1
    exact⟨v,if_pos rfl,V.mono fr⟩
   ·obtain⟨u,hu,hr⟩:=r j y bv e1 e2
    exact⟨u,(if_neg (fun w:y=x=>z (R.k.nd j i x (w▸cz e1 rfl) (cz e rfl)))).trans hu,hr.mono fr⟩
  ·have ji:j≠i:=e1.elim (fun e1=>OD e1 e fun z=>nomatch z) fun e1=>OD e1 e fun z=>nomatch z
   exact qs.casesOn (R.pc j y e1) fun c hc iY E7 az w hw rr=>⟨c,hc,iY,E7,az,w,tW (fun o ho=>(hs.2 c az).trans ho) hw,fun bv e2=>(rr bv ((List.getElem?_set_ne ji.symm).symm.trans e2)).elim fun w' q=>⟨w',q.1,q.2.mono fr⟩⟩) (by rw[F.kind];rfl)
theorem T7 {A:Around}{i:Nat}{x:Str}{av:AV}{v:Value}{Q:Sg→AH→Prop}{E:Value→Shared→Prop}(F:aW C d)(R:Rep Z G C vt σ H s)(e:vt[i]? =some (.bF x))(V:aj Z G.w H s.heap av v)
  (hi:i<σ.length) (q:Q (σ.set i (some av)) H):wpAny (model Z G.w) A (storeName C.env x v) (AP Z G C vt H s Q) E s:=
 qs.casesOn (R.pc i x (.inl e)) fun c hc ho E7 hcL w hw rr=>wpAny_storeName_cell F.kind (LC (R.at e)).1 hc hw fun h' Bl hs=>by
  have fr:=ux E7 hs
  refine⟨σ.set i (some av),H,⟨R.g.uH E7 hs (rU Bl),R.L,?_,fun j y e1=>?_,R.own,R.k.set fun y z=>nomatch e.symm.trans z⟩,Ext.uH (ho e) E7 hs (rU Bl).here,aF.zb _ _,q⟩
  ·refine q9.casesOn R.loc fun m hn r=>⟨m,hn.at' fun o z=>(hs.2 _ (fun z=>hcL z.symm)).trans z,fun j y bv e1 e2=>?_⟩
   have ji:i≠j:=OD e e1 fun z=>nomatch z
   exact(r j y bv e1 ((List.getElem?_set_ne ji).symm.trans e2)).elim fun u q=>⟨u,q.1,q.2.mono fr⟩
  ·by_cases z:j=i
   ·subst z
    cases e1 with
    | inl e1=>
     cases e.symm.trans e1
     exact⟨c,hc,fun _=>ho e,E7,hcL,some v,Bl,fun bv e2=>⟨v,rfl,by cases (List.getElem?_set_self hi).symm.trans e2;exact V.mono fr⟩⟩
    | inr e1=>exact nomatch e.symm.trans e1
   ·refine qs.casesOn (R.pc j y e1) fun c' yT iY ag5 agQ w' Pu rr'=>?_
    have hxy:y≠x:=fun w=>z (R.k.nd j i x (w▸ZE e1) (cz e rfl))
    have sf:c'≠c:=fun w=>hxy (R.k.dis j i y x c e1 (.inl e) (w▸yT) hc)
    exact⟨c',yT,iY,ag5,agQ,w',tW (fun o ho=>(hs.2 c' sf).trans ho) Pu,fun bv e2=>(rr' bv ((List.getElem?_set_ne (Ne.symm z)).symm.trans e2)).elim fun u q=>⟨u,q.1,q.2.mono fr⟩⟩
theorem Lq {A:Around}{i:Nat}{x:Str}{av:AV}{v:Value}{Q:Sg→AH→Prop}{E:Value→Shared→Prop}(F:aW C d)(R:Rep Z G C vt σ H s)(h:eE vt i x=true)(hf:∀y,vt[i]? ≠some (.c9 y))(V:aj Z G.w H s.heap av v)
  (hi:i<σ.length) (q:Q (σ.set i (some av)) H):wpAny (model Z G.w) A (storeName C.env x v) (AP Z G C vt H s Q) E s:=
 (gJ h).elim (fun e=>uW F R e V hi q) fun e=>e.elim (fun e=>T7 F R e V hi q) fun e=>absurd e (hf x)
theorem aaA {i:Nat}:SA Z G cls (.var i):=fun d C vt e F hc=>aL hc fun x p hc=>aS hc fun h1 h2 σ H s av v Q E R V q=>Wq.casesOn q fun h q=>wpAny_assign_Name (Lq F R h1 (uw h2) V h q)
theorem T2 {x:Str}{c:Addr}{o:Option AV}{av:AV}{v:Value}{A:Around}{P:Unit→Shared→Prop}{E:Value→Shared→Prop}(F:aW C d)(R:Rep Z G C vt σ H s)(hk:C.env.kindOf x=some .cell)(hc:C.env.cells.lookup x=some c)(E6:H c=some (.cell o))(V:aj Z G.w H s.heap av v)
  (k:∀h',St Z G C vt σ H s (H.set c (.cell (some av))) {s with heap:=h'}→P () {s with heap:=h'}):wpAny (model Z G.w) A (storeName C.env x v) P E s:=
 (R.g.own _ _ E6).2.elim fun cv q=>wpAny_storeName_cell F.kind hk hc q.1 fun h' hw Bk=>k h' (by
  have X:Ext noOwn H s.heap (H.set c (.cell (some av))) h':=Ext.put E6 rfl Bk (rU hw).here
  exact⟨R.step (s':={s with heap:=h'}) X (R.g.put (t:=s.toks) (o':= .cell (some av)) E6 rfl Bk ⟨some v,hw,v,rfl,V.mono (cM E6 Bk)⟩),X,aF.zb _ _⟩)
theorem St.ap {Q:Sg→AH→Prop}(S:St Z G C vt σ H0 s0 H s)(q:Q σ H):AP Z G C vt H0 s0 Q () s:=⟨σ,H,S.R,S.x.own,S.y,q⟩
theorem aax {i:Nat}:SA Z G cls (.bb i):=fun d C vt e F hc=>aL hc fun x p hc=>aS hc fun h1 h2 σ H s av v Q E R V q=>by
 obtain⟨u,hv,q⟩:=my q
 obtain⟨c,h3,rfl⟩:=R.scE (qg h1) hv
 obtain⟨o,E6,q⟩:=q
 exact wpAny_assign_Name (T2 F R (F.rel _ _ (by decide) (eq_of_beq h2)) h3 E6 V fun h' S=>S.ap q)
theorem noX {P:Unit→Shared→Prop}{E:Value→Shared→Prop}{A:Around}{m:Sem Unit}(h:wpAny (model Z G.w) A m P (XP Z G cls C.ak H s ur) s):wpAny (model Z G.w) A m P E s:=wpAny_mono h (fun _ _ z=>z) fun _ _ z=>XP.no z
theorem St.up {Q:AH→Prop}{Q':Sg→AH→Prop}{s':Shared}{u:Unit}(S:St Z G C vt σ H0 s0 H s)(z:UP Z G C vt σ H s Q u s')(h:∀H,Q H→Q' σ H):AP Z G C vt H0 s0 Q' () s':=UP.casesOn z fun H' R3 x3 y3 q3=>⟨σ,H',R3,(S.x.trans x3).own,S.y.trans y3,h _ q3⟩
theorem aay {a b:MX}(Ok:G.Ok)(ha:SE Z G cls a)(hb:SE Z G cls b):SA Z G cls (.idx a b):=fun d C vt e F hc=>ij hc fun v j p hc=>aS hc fun h1 h2 σ H s av v Q E R V q=>
 (assign_Subscript _ _ _ _).symm▸noX (Z:=Z) (G:=G) (cls:=cls) (wpAny_bind (wpAny_holding (ha.go F h1 (.here R) q fun _ _ _ _ S1 V1 z1 q1=>wpAny_bind (wpAny_holding (hb.go F h2 S1 q1 fun _ _ _ _ S2 V2 z2 q2=>
  wpAny_bind (wpAny_standAt (wpAny_bind (wpAny_holding (wpAny_mono (ZV Ok S2.R (V1.mono z2) V2 (V.mono S2.x.bY) q2) (fun _ _ z=>wpAny_release (S2.up z fun _ q=>q)) fun _ _ z=>z)))))))))
theorem VU {a:MX}{nm:String}(Ok:G.Ok)(ha:SE Z G cls a):SA Z G cls (.attr a nm):=fun d C vt e F hc=>gQ hc fun v n p hc=>aS hc fun h0 h1=>ck h0 fun σ H s av v Q E R V q=>
 (assign_Attribute _ _ _ _).symm▸noX (Z:=Z) (G:=G) (cls:=cls) (wpAny_bind (wpAny_holding (ha.go F h1 (.here R) q fun _ _ _ _ S1 V1 z1 q1=>
  wpAny_bind (wpAny_standAt (wpAny_bind (wpAny_holding (wpAny_mono (Vr Ok S1.R V1 (V.mono S1.x.bY) q1) (fun _ _ z=>wpAny_release (S1.up z fun _ q=>q)) fun _ _ z=>z)))))))
theorem eZ {env:Env}{e:PySem.Expr}(h:isStar e=false)(es:List PySem.Expr):assignEach (e::es) env=(false,assign e env)::assignEach es env:=by
 cases e<;>first | rfl | exact nomatch h
theorem tX {gl:Gl}{sc:Scope}{env:Env}:∀{es:List PySem.Expr} {l:qr},AT gl sc vt l es=true→(assignEach es env).length=l.len∧(assignEach es env).findIdx? (·.1)=none
 | [],.nil,_=>⟨rfl,rfl⟩
 | [],.cons _ _,h=>ff h
 | e::es,.nil,h=>ff h
 | e::es,.cons a l,h=>cG h fun h0 _ h2=>by
  have ih:=tX (env:=env) h2
  rw[eZ (bz h0)]
  exact⟨congrArg Nat.succ ih.1,by rw[List.findIdx?_cons,ih.2];rfl⟩
theorem VW:VV Z G cls .nil:=fun d C vt es F hc=>d0 hc fun _ σ H s av v Q E R V q=>by
 obtain⟨rfl,q⟩:=q
 exact V.cn (wpAny_assignInOrder_none ((St.here R).ap q))
theorem Ui {t:MT}{l:qr}(ht:SA Z G cls t)(hl:VV Z G cls l):VV Z G cls (.cons t l):=fun d C vt es F hc=>cN hc fun e es hc=>cG hc fun h0 h1 h2 σ H s av v Q E R V q=>by
 revert V
 refine KX q fun a av q V=>V.bn fun v vs a r=>?_
 rw[eZ (bz h0)]
 exact wpAny_assignInOrder_more (wpAny_mono (ht d C vt e F h1 σ H s _ _ _ E R a q) (fun _ s1 z=>AP.casesOn z fun σ1 H1 R1 x1 y1 q1=>wpAny_mono (hl d C vt es F h2 σ1 H1 s1 _ _ _ E R1 (r.mono x1.bY) q1) (fun _ _ z=>AP.trans x1 y1 z) fun _ _ z=>z) fun _ _ z=>z)
theorem aaz {l:qr}(hl:VV Z G cls l):SA Z G cls (.tup l):=fun d C vt e F hc=>jJ hc fun es k p hc σ H s av v Q E R V q=>by
 revert V
 refine Se q fun l' q V=>V.G4 fun a o n vs ho sf hd hn r=>q.casesOn fun hz q=>?_
 have hp:=tX (env:=C.env) hc
 refine wpAny_assign_Tuple F.handled ⟨o,ho,sf,n,hd⟩ (hp.1.trans (hz.symm.trans r.d5)) hp.2 fun h' hx=>?_
 have k:∀b o,s.heap.get? b=some o→h'.get? b=some o:=fun b o e=>hx b o (cu e (Nat.le_refl _)) e
 exact wpAny_mono (hl d C vt _ F hc σ H {s with heap:=h'} _ _ Q E (R.grow (t:=s.toks) k) (r.mono (bc.same k)) q) (fun _ _ z=>AP.trans (Ext.grow k) (aF.zb _ _) z) fun _ _ z=>z
end
section
variable (Z:Program)(G:Gd)(cls:Value)
noncomputable def O7 (env:Env)(c:PySem.Expr)(r:Bool):Sem (ForInStep Bool):=if r=true then do let ok ←isTrue c env (eval c env);pure (ForInStep.yield ok) else pure (ForInStep.yield r)
noncomputable def iw (l:bA):Prop:=∀(d:Nat) (C:FC) (vt:List VK) (es:List PySem.Expr),aW C d→cJ G.gl C.sc vt l es=true→∀(σ:Sg) (H:AH) (s:Shared) (Q:Bool→AH→Prop) (E:Value→Shared→Prop),
 Rep Z G C vt σ H s→pX Z G cls d l σ H Q→wpAny (model Z G.w) C.A (forIn es true (O7 C.env)) (BP Z G C vt σ H s Q) E s
end
section
variable {Z:Program}{G:Gd}{cls:Value}{d:Nat}{C:FC}{vt:List VK}{e:PySem.Expr}{σ:Sg}{H H0 H1:AH}{s s0 s1:Shared}{X:AH→Prop}{m:MX}
theorem Lv {M:Model}{A:Around}{E:Value→Shared→Prop}{env:Env}{Q:Bool→Shared→Prop}{s:Shared}(h:Q false s)(es:List PySem.Expr):wpAny M A (forIn es false (O7 env)) Q E s:=by
 induction es with
 | nil=>rw[List.forIn_nil];exact wpAny_pure h
 | cons e es ih=>rw[List.forIn_cons];exact wpAny_bind (wpAny_pure ih)
theorem LP:iw Z G cls .nil:=fun d C vt es F hc=>d0 hc fun _ σ H s Q E R q=>by rw[List.forIn_nil];exact wpAny_pure ((St.here R).bp q)
theorem G9 {a:MX}{l:bA}(ha:ST Z G cls a)(hl:iw Z G cls l):iw Z G cls (.cons a l):=fun d C vt es F hc=>cN hc fun e es hc=>cG hc fun _ h1 h2 σ H s Q E R q=>by
 rw[List.forIn_cons]
 exact wpAny_mono (E':=E) (E:=XP Z G cls C.ak H s ur) (wpAny_bind (wpAny_bind (ha.go F h1 (.here R) q fun b _ _ S1 q1=>wpAny_pure (match b,q1 with
  | true,q1=>wpAny_mono (hl d C vt es F h2 _ _ _ _ _ S1.R q1) (fun _ _ z=>BP.trans S1 z) fun _ _ z=>z
  | false,q1=>Lv (S1.bp (Q:=Q) q1) es)))) (fun _ _ z=>z) fun _ _ z=>XP.no z
theorem fy {scope:Scope}{env:Env}(h:∀x∈freeNames scope,∃c,env.cells.lookup x=some c):
  closureFor scope env=pure ((freeNames scope).map fun x=>(x,(env.cells.lookup x).getD 0)).reverse:=by
 have key:∀(names:List (Str×NameKind)) (cs:List (Str×Addr)),(∀x∈(names.filter fun p=>p.2== .free).map (·.1),∃c,env.cells.lookup x=some c)→
   (forIn names cs fun x r=>(if(x.2==NameKind.free)=true then(cellOf env x.1>>=fun c=>pure (ForInStep.yield ((x.1,c)::r))) else pure (ForInStep.yield r):Sem (ForInStep (List (Str×Addr)))))=
    pure ((((names.filter fun p=>p.2== .free).map (·.1)).map (fun x=>(x,(env.cells.lookup x).getD 0))).reverse++cs):=by
  intro names
  induction names with
  | nil=>intro cs _;rw[List.forIn_nil];rfl
  | cons p r ih=>
   intro cs hp
   rw[List.forIn_cons]
   cases hf:(p.2==NameKind.free) with
   | true=>
    rw[List.filter_cons,hf,if_pos rfl] at hp ⊢
    obtain⟨c,hc⟩:=hp p.1 (.head _)
    have :cellOf env p.1=pure c:=by unfold cellOf;rw[hc]
    rw[if_pos rfl,this,pure_bind,pure_bind]
    dsimp only
    rw[ih _ fun x hx=>hp x (.tail _ hx)]
    simp [hc]
   | false=>
    rw[List.filter_cons,hf,if_neg Bool.false_ne_true] at hp ⊢
    rw[if_neg Bool.false_ne_true,pure_bind]
    exact ih _ hp
 unfold closureFor
 have :=key scope.names [] h
 rw[List.append_nil] at this
 refine Eq.trans (congrArg (· >>=fun cs=>pure cs) (Eq.trans ?_ this)) (pure_bind _ _)
 congr 1
end
section
variable {Z:Program}{G:Gd}{cls:Value}{d:Nat}{C:FC}{vt:List VK}{e:PySem.Expr}{σ:Sg}{H H0 H1:AH}{s s0 s1:Shared}{X:AH→Prop}{m:MX}{A:Around}{E:Value→Shared→Prop}{ak:List Env}
noncomputable def afz (Z:Program)(w:World)(A:Around)(env:Env)(R:Result→Shared→Prop)(target:PySem.Expr)(ifs:List PySem.Expr)(it:Value)(add:Shared→Prop)(I:Shared→Prop)(s:Shared):Prop:=
 wpAny (model Z w) A (pyNext it) (fun r s₁=>@Option.casesOn _ (fun _=>Prop) r (R (.ok .next) s₁) fun v=>
  wpAny (model Z w) A (letOwnedTupleGo target it v) (fun _ s₀=>wpAny (model Z w) A (assign target env v) (fun _ s₂=>
   wpAny (model Z w) A (forIn ifs true (O7 env)) (fun ok s₃=>if ok=true then add s₃ else I s₃) (notedBy (model Z w) A env fun e s'=>R (.error e) s') s₂)
    (notedBy (model Z w) A env fun e s'=>R (.error e) s') s₀) (notedBy (model Z w) A env fun e s'=>R (.error e) s') s₁) (notedBy (model Z w) A env fun e s'=>R (.error e) s') s
theorem O4 {R:Result→Shared→Prop}{elt target iter:PySem.Expr}{ifs:List PySem.Expr}{scope:Scope}{pos:Pos}{it acc:Value}{env:Env}(I:Nat→Shared→Prop)
  (turn:∀n s,I n s→afz Z G.w A env R target ifs it (fun s₃=>wpAny (model Z G.w) A (eval elt env) (fun x s₄=>wpAny (model Z G.w) A (call (.builtin "list.append") [acc,x]) (fun _ s₅=>∃m,m<n∧I m s₅) (notedBy (model Z G.w) A env fun e s'=>R (.error e) s') s₄)
   (notedBy (model Z G.w) A env fun e s'=>R (.error e) s') s₃) (fun s₃=>∃m,m<n∧I m s₃) s)
  (n:Nat) (h:I n s):codeAny (model Z G.w) A (.compLoop (.ListComp elt [⟨target,iter,ifs,0⟩] scope pos) 0 it acc env) R s:=by
 refine codeAny_loop rfl I (fun n s hI=>?_) n h
 show wpAny _ A ((compTurn (.ListComp elt [⟨target,iter,ifs,0⟩] scope pos) 0 it acc env).onRaise (fun x=>do noteFrame x env;theTreesLotGoes x)) _ _ s
 refine wpAny_noted ?_
 rw[compTurn_list]
 refine wpAny_bind (wpAny_standAt (wpAny_bind (wpAny_mono (turn n s hI) (fun r s₁ h₁=>?_) fun _ _ h'=>h')))
 cases r with
 | none=>exact wpAny_pure h₁
 | some v=>
  refine wpAny_bind (wpAny_mono h₁ (fun _ s₀ h₀=>wpAny_bind (wpAny_mono h₀ (fun _ s₂ h₂=>wpAny_bind (wpAny_mono h₂ (fun ok s₃ h₃=>?_) fun _ _ h'=>h')) fun _ _ h'=>h')) fun _ _ h'=>h')
  cases ok with
  | false=>exact wpAny_pure ⟨rfl,h₃⟩
  | true=>exact wpAny_bind (wpAny_bind (wpAny_mono h₃ (fun x s₄ h₄=>wpAny_bind (wpAny_mono h₄ (fun _ s₅ h₅=>wpAny_pure (wpAny_pure ⟨rfl,h₅⟩)) fun _ _ h'=>h')) fun _ _ h'=>h'))
theorem Sub.drop {a:Addr}{o:AO}(h:H a=some o)(hk:o.kept=true):Sub H (H.drop a):=fun b o' n e=>(bx fun z=>by subst z;cases h.symm.trans e;exact nomatch n.symm.trans hk).trans e
theorem fK.but {J I:Addr}{src:Src}{i:Nat}{h h':Heap}(x:fK Z G I H h src i)(hI:H I=some .it)(hJ:H J=some .it)(az:I≠J)(k:ja J h h')(hx:∃o,h'.get? J=some o):fK Z G I H h' src i:=
 x.keep (own:=fun a=>noOwn a∨a=J) hI (fun z=>z.elim id az) (Ext.aga hJ k hx)
theorem Ext.pL {own:Addr→Prop}{h h':Heap}{H':AH}(x:Ext own H h H' h')(hn:∀a,own a→H a=none):Ext noOwn H h H' h':=
 ⟨x.bY,fun a e=>⟨(x.ns a e).1,fun _=>(x.ns a e).2 fun z=>nomatch (hn a z).symm.trans e⟩,fun a e=>⟨(x.it a e).1,fun _=>(x.it a e).2 fun z=>nomatch (hn a z).symm.trans e⟩,x.here⟩
inductive CI (Z:Program)(G:Gd)(cls:Value)(d:Nat)(C:FC)(vt:List VK)(tg:MT)(elt:MX)(bk:bA)(src:Src)(Qe:List AV→AH→Prop)(I D:Addr)(H1:AH)(s1:Shared)(n:Nat)(s:Shared):Prop
 | mk (i:Nat) (r ac:List AV) (σ:Sg) (H:AH) (ys:Array Value) (hn:n=r.length+1) (hr:src.all.drop i=r) (hlen:i+r.length=src.all.length) (R:Rep Z G C vt σ H s) (hI:H I=some .it) (hD:H D=some .it) (it:fK Z G I H s.heap src i) (hl:s.heap.PlainList D ys)
   (V:am Z G.w H s.heap ac ys.toList) (hac:ac.length≤i) (ex:Ext C.own H1 s1.heap H s.heap) (sm:aF s1 s) (q:dk src (Ho (i9 Z G cls d tg) (pX Z G cls d bk) (bI Z G cls d elt)) r ac σ H Qe):CI Z G cls d C vt tg elt bk src Qe I D H1 s1 n s
inductive CE (Z:Program)(G:Gd)(C:FC)(vt:List VK)(Qe:List AV→AH→Prop)(I D:Addr)(H1:AH)(s1:Shared)(s2:Shared):Prop
 | mk (σ':Sg) (H':AH) (ac:List AV) (ys:Array Value) (h':Heap) (tk:Nat) (s':Shared) (R:Rep Z G C vt σ' H' s') (hI:H' I=some .it) (hD:H' D=some .it) (hl:s'.heap.PlainList D ys) (V:am Z G.w H' s'.heap ac ys.toList) (ex:Ext C.own H1 s1.heap H' s'.heap) (sm:aF s1 s') (kb:ja I s'.heap h') (q:Qe ac H')
   (e:s2={s' with heap:=h',toks:=tk}):CE Z G C vt Qe I D H1 s1 s2
theorem Ext.Xp {own:Addr→Prop}{h h':Heap}{H':AH}{D:Addr}{ys:Array Value}(x:Ext own H h H' h')(hD:H D=some .it)(hn:¬own D)(hl:h.PlainList D ys):h'.PlainList D ys:=hl.elim fun n ho=>⟨n,(x.it D hD).2 hn _ ho⟩
theorem A3 {α:Type}{l r:List α}{x:α}{j:Nat}(h:l.drop j=x::r)(hl:j+(x::r).length=l.length):j<l.length∧l[j]? =some x∧l.drop (j+1)=r∧j+1+r.length=l.length:=by
 rw[List.length_cons] at hl
 exact⟨by lia,by have :=congrArg List.head? h;rwa [List.head?_drop] at this,by have :=congrArg List.tail h;rwa [List.tail_drop] at this,by lia⟩
theorem gz {a:Addr}{h h':Heap}(hs:Heap.SameBut a h h'):ja a h h':=fun b o hb e=>(hs.2 b hb).trans e
theorem O5 {tg:MT}{elt:MX}{bk:bA}{src:Src}{Qe:List AV→AH→Prop}{I D:Addr}{R:Result→Shared→Prop}{xe target iter:PySem.Expr}{ifs:List PySem.Expr}{scope:Scope}{pos:Pos}
  (hT:SA Z G cls tg) (hE:SE Z G cls elt) (hC:iw Z G cls bk) (F:aW C d) (h1:po G.gl C.sc vt tg target=true) (h2:cJ G.gl C.sc vt bk ifs=true) (h3:aN G.gl C.sc vt elt xe=true)
  (hID:I≠D) (oI:¬C.own I) (oD:¬C.own D) (fI:s1.heap.get? I=none) (fD:s1.heap.get? D=none) (fI':H1 I=none) (fD':H1 D=none) (hz:src.all.length≤100000)
  (n:Nat) (h:CI Z G cls d C vt tg elt bk src Qe I D H1 s1 n s) (hR:∀s2,CE Z G C vt Qe I D H1 s1 s2→R (.ok .next) s2):
  codeAny (model Z G.w) C.A (.compLoop (.ListComp xe [⟨target,iter,ifs,0⟩] scope pos) 0 (.ref I) (.ref D) C.env) R s:=by
 refine O4 (CI Z G cls d C vt tg elt bk src Qe I D H1 s1) (fun n s z=>CI.casesOn z fun i r ac σ H ys hn hr hlen Rp hI hD it hl V hac ex sm q=>?_) n h
 cases r with
 | nil=>
  cases (Nat.add_zero _).symm.trans hlen
  exact Xc F.handled Rp.g hI it q.1 fun h' tk k=>hR _ ⟨σ,H,ac,ys,h',tk,s,Rp,hI,hD,hl,V,ex,sm,k,q.2.2,rfl⟩
 | cons x r=>
  obtain⟨hi,hx,Pt,Bj⟩:=A3 hr hlen
  have lt:r.length+1<n:=hn▸Nat.lt_succ_self _
  refine Yw F.handled Rp.g hI it q.1 hi fun v x' h' tk E8 kb XZ V'=>?_
  cases hx.symm.trans E8
  obtain⟨o,n',ho,hc,hg⟩:=XZ.obj
  refine Tr (s:={s with heap:=h',toks:=tk}) ho hc hg (wpAny_mono (hT d C vt target F h1 σ H _ x v _ _ (Rp.but hI kb ⟨o,ho⟩) V' q.2) (fun _ s2 z=>AP.casesOn z fun σ2 H4 Rb eb sb q=>?_) fun _ _ z=>z)
  have exb:=(ex.but fI fI' kb).trans eb
  have smb:=(sm.trans (aF.mk _ h' tk)).trans sb
  have lb:=eb.Xp hD oD (hl.elim fun n e1=>⟨n,kb D _ (Ne.symm hID) e1⟩)
  have itb:=XZ.keep hI oI eb
  have hIb:=(eb.it I hI).1
  have hDb:=(eb.it D hD).1
  have Vb:=(V.mono (dQ hI kb)).mono eb.bY
  refine wpAny_mono (hC d C vt ifs F h2 σ2 H4 s2 _ _ Rb q) (fun b s3 z=>BP.casesOn z fun H5 Rc ec sc q=>?_) fun _ _ z=>z
  have lc:=ec.Xp hDb id lb
  have X0:=itb.keep hIb id ec
  have hIc:=(ec.it I hIb).1
  have hDc:=(ec.it D hDb).1
  have Vc:=Vb.mono ec.bY
  have exc:=exb.trans ec.own
  have smc:=smb.trans sc
  cases b with
  | false=>exact⟨r.length+1,lt,i+1,r,ac,σ2,H5,ys,rfl,Pt,Bj,Rc,hIc,hDc,X0,lc,Vc,Nat.le_succ_of_le hac,exc,smc,List.append_nil ac▸q⟩
  | true=>
   refine wpAny_mono (hE d C vt xe F h3 σ2 H5 s3 _ _ Rc q) (fun y s4 z=>EP.casesOn z fun yv H6 Rd Vy ed sd q=>?_) fun _ _ z=>XP.no z
   have ld:=ed.Xp hDc id lc
   have hId:=(ed.it I hIc).1
   have Xw:=(ed.it D hDc).1
   have Vd:=Vc.mono ed.bY
   refine wpAny_list_append_plain ld (fun h5 hl5 hs5=>?_) (Nat.le_trans (Vd.d5▸Nat.le_trans hac (Nat.le_trans (Nat.le_of_lt hi) hz):ys.size≤100000) (by decide:100000≤sizeLine))
   have kD:=gz hs5
   have h5D:∃o,h5.get? D=some o:=hl5.elim fun n e=>⟨_,e⟩
   exact⟨r.length+1,lt,i+1,r,ac++[yv],σ2,H6,ys.push y,rfl,Pt,Bj,Rd.but (t:=s4.toks) Xw kD h5D,hId,Xw,(X0.keep hIc id ed).but hId Xw hID kD h5D,hl5,
    Array.toList_push.symm▸(Vd.mono (dQ Xw kD)).append (.cons (Vy.mono (dQ Xw kD)) .nil),by rw[List.length_append];exact Nat.succ_le_succ hac,(exc.trans ed.own).but fD fD' kD,(smc.trans sd).trans (aF.zb _ _),q⟩
end
theorem Ls {a b:Str}(h:(a==b)=true):a=b:=eq_of_beq h
noncomputable def ZH (env:Env)(n:Str)(k:NameKind):NameKind:=if(k==NameKind.free&&env.scope.kind== .function&&env.kindOf n==some .cell)=true then NameKind.cell else k
theorem mZ {env:Env}{names:List (Str×NameKind)}{x:Str}{k:NameKind}(h:names.lookup x=some k):
  (names.map fun(n,k)=>if(k==NameKind.free&&env.scope.kind== .function&&env.kindOf n==some .cell) then(n,NameKind.cell) else(n,k)).lookup x=some (ZH env x k):=by
 induction names with
 | nil=>exact nomatch h
 | cons p r ih=>
  obtain⟨n,k'⟩:=p
  have e:(if(k'==NameKind.free&&env.scope.kind== .function&&env.kindOf n==some .cell)=true then(n,NameKind.cell) else(n,k'))=(n,ZH env n k'):=by unfold ZH;split<;>rfl
  show List.lookup x ((if(k'==NameKind.free&&env.scope.kind== .function&&env.kindOf n==some .cell)=true then(n,NameKind.cell) else(n,k'))::_)=_
  rw[e,List.lookup_cons]
  rw[List.lookup_cons] at h
  cases hx:x==n with
  | true=>rw[hx] at h;cases h;rw[Ls hx]
  | false=>rw[hx] at h;exact ih h
theorem mu (s:Scope)(env:Env):zO s (relabel s env):=fun x k hk h=>(mZ (env:=env) h).trans (congrArg some (if_neg fun z=>by
 rw[Bool.and_eq_true,Bool.and_eq_true,beq_iff_eq] at z;exact hk z.1.1))
theorem i4 {s:Scope}{env:Env}{x:Str}(h:s.names.lookup x=some .free):(relabel s env).names.lookup x=some .cell∨(relabel s env).names.lookup x=some .free:=by
 have e:(relabel s env).names.lookup x=some (ZH env x .free):=mZ h
 rw[e]
 unfold ZH
 split
 ·exact .inl rfl
 ·exact .inr rfl
theorem mem_of_lookup {x:Str}{k:NameKind}{l:List (Str×NameKind)}(h:l.lookup x=some k):(x,k)∈l:=by
 induction l with
 | nil=>exact nomatch h
 | cons p r ih=>
  rw[List.lookup_cons] at h
  cases hx:x==p.1 with
  | true=>rw[hx] at h;cases h;rw[Ls hx];exact .head _
  | false=>rw[hx] at h;exact .tail _ (ih h)
theorem Go {s:Scope}{x:Str}(h:s.names.lookup x=some .free):x∈freeNames s:=List.mem_map.mpr ⟨(x,.free),List.mem_filter.mpr ⟨mem_of_lookup h,rfl⟩,rfl⟩
theorem PJ {f:Str→Addr}{x:Str}{l:List Str}(h:x∈l):(l.map fun y=>(y,f y)).lookup x=some (f x):=by
 induction l with
 | nil=>exact nomatch h
 | cons y r ih=>
  rw[List.map_cons,List.lookup_cons]
  cases hx:x==y with
  | true=>rw[Ls hx]
  | false=>
   rcases List.mem_cons.mp h with rfl | h
   ·exact nomatch hx.symm.trans (beq_self_eq_true x)
   ·exact ih h
noncomputable def AU (s:Scope)(env:Env):List (Str×Addr):=((freeNames s).map fun x=>(x,(env.cells.lookup x).getD 0)).reverse
theorem lT {s:Scope}{env:Env}{x:Str}{c:Addr}(h:s.names.lookup x=some .free)(hc:env.cells.lookup x=some c):(AU s env).lookup x=some c:=by
 unfold AU
 rw[←List.map_reverse,PJ (f:=fun x=>(env.cells.lookup x).getD 0) (List.mem_reverse.mpr (Go h)),hc];rfl
inductive OB (s:Scope)(k:VK):VK→Prop
 | f (x:Str) (h:k= .bF x∨k= .c9 x) (l:s.names.lookup x=some .free):OB s k (.c9 x)
 | s (x:Str) (h:k= .ar x) (l:s.names.lookup x=some .free):OB s k (.ar x)
 | jz:OB s k .jz
theorem FQ (s:Scope)(k:VK):OB s k (zG s k):=by
 have key:∀{x a},(s.names.lookup x=some .free→OB s k a)→OB s k (if s.names.lookup x==some .free then a else .jz):=fun{x a} f=>by
  by_cases h:(s.names.lookup x==some .free)=true
  ·rw[if_pos h];exact f (eq_of_beq h)
  ·rw[if_neg h];exact .jz
 cases k with
 | bF x=>exact key fun h=>.f x (.inl rfl) h
 | c9 x=>exact key fun h=>.f x (.inr rfl) h
 | ar x=>exact key fun h=>.s x rfl h
 | _=>exact .jz
inductive CgR (vt:List VK)(s:Scope)(nms:List Str)(i:Nat):VK→Prop
 | old (h:i<vt.length) (k0 k:VK) (e:vt[i]? =some k0) (t:OB s k0 k):CgR vt s nms i k
 | new (h:vt.length≤i) (x:Str) (e:nms[i-vt.length]? =some x):CgR vt s nms i (.loc x)
theorem dI {vt:List VK}{s:Scope}{nms:List Str}{i:Nat}{k:VK}(h:(ct vt s nms)[i]? =some k):CgR vt s nms i k:=by
 unfold ct at h
 by_cases c:i<vt.length
 ·rw[List.getElem?_append_left (Nat.lt_of_lt_of_eq c (List.length_map (zG s)).symm),List.getElem?_map,List.getElem?_eq_getElem c] at h
  cases h
  exact .old c _ _ (List.getElem?_eq_getElem c) (FQ s _)
 ·rw[List.getElem?_append_right (Nat.le_trans (Nat.le_of_eq (List.length_map (zG s))) (Nat.not_lt.mp c)),List.length_map,List.getElem?_map] at h
  obtain⟨x,e,rfl⟩:=Option.map_eq_some_iff.mp h
  exact .new (Nat.not_lt.mp c) x e
structure VN (vt:List VK)(s:Scope)(nms:List Str):Prop where
 fn:s.kind= .function
 cell:∀p∈s.names,p.2≠ .cell
 loc:∀p∈s.names,p.2= .local→s.names.lookup p.1=some .local
 free:∀p∈s.names,p.2= .free→∃k∈vt,k.LV p.1=true
 nm:∀x∈nms,s.names.lookup x=some .local∧(x==("__debug__":Str))=false
 nd:nms.Nodup
theorem mi {α:Type}[BEq α][LawfulBEq α]{a b:α}(h:(a != b)=true):a≠b:=fun z=>nomatch (by subst z;exact(bne_self_eq_false a).symm.trans h:false=true)
theorem TZ {a b:Bool}{P:Prop}(h:(a||b)=true)(f:a=true→P)(g:b=true→P):P:=(Bool.or_eq_true_iff.mp h).elim f g
theorem csR {vt:List VK}{s:Scope}{nms:List Str}(h:lW vt s nms=true):VN vt s nms:=sX h fun h1 h2 h3 h4=>
 have q:∀p∈s.names,p.2≠ .cell∧(p.2= .local→s.names.lookup p.1=some .local)∧(p.2= .free→∃k∈vt,k.LV p.1=true):=fun p hp=>cG (List.all_eq_true.mp h2 p hp) fun a b c=>⟨mi a,fun e=>TZ b (fun z=>absurd e (mi z)) eq_of_beq,fun e=>TZ c (fun z=>absurd e (mi z)) List.any_eq_true.mp⟩
 ⟨eq_of_beq h1,fun p hp=>(q p hp).1,fun p hp=>(q p hp).2.1,fun p hp=>(q p hp).2.2,fun x hx=>aS (List.all_eq_true.mp h3 x hx) fun a b=>⟨eq_of_beq a,bz b⟩,of_decide_eq_true h4⟩
section
variable {Z:Program}{G:Gd}{cls:Value}{d:Nat}{C:FC}{vt:List VK}{e:PySem.Expr}{σ:Sg}{H H0 H1:AH}{s s0 s1:Shared}{X:AH→Prop}{m:MX}{A:Around}{E:Value→Shared→Prop}{ak:List Env}
noncomputable def lV (C:FC)(sc:Scope)(L:Addr):FC:=⟨C.A,compEnvC sc (AU sc C.env) L C.env,C.ak,fun a=>a=L,sc⟩
theorem O3 {sc:Scope}{L:Addr}(F:aW C d)(hk:sc.kind= .function):aW (lV C sc L) d:=
 ⟨F.handled,F.ak,F.depth,F.units,hk,mu sc C.env,F.globals,F.builtins,rfl⟩
theorem VK.aa5 {k:VK}{x:Str}{P:VK→Prop}(h:k.LV x=true)(f:P (.bF x))(g:P (.c9 x))(l:P (.ar x)):P k:=@VK.casesOn (fun k=>k.LV x=true→P k) k g1 (fun y h=>dW h f) (fun y h=>dW h g) (fun y h=>dW h l) (fun h=>ff h) (fun h=>ff h) h
theorem pP {sc:Scope}{nms:List Str}(R:Rep Z G C vt σ H s)(h:VN vt sc nms):∀x∈freeNames sc,∃c,C.env.cells.lookup x=some c:=fun x hx=>by
 obtain⟨p,hp,rfl⟩:=List.mem_map.mp hx
 obtain⟨hp,hf⟩:=List.mem_filter.mp hp
 obtain⟨k,hk,hn⟩:=h.free p hp (eq_of_beq hf)
 obtain⟨i,hi⟩:=List.getElem?_of_mem hk
 exact VK.aa5 (P:=fun k=>vt[i]? =some k→_) hn (fun hi=>qs.casesOn (R.pc i _ (.inl hi)) fun c hc _ _ _ _ _ _=>⟨c,hc⟩) (fun hi=>qs.casesOn (R.pc i _ (.inr hi)) fun c hc _ _ _ _ _ _=>⟨c,hc⟩) (fun hi=>(R.k.sc i _ hi).elim fun c q=>⟨c,q.1⟩) hi
theorem PP {H:AH}{c L:Addr}(e:H c=some .ns)(q:H L=none):c≠L:=(aA e q).symm
theorem Lz {sc:Scope}{x:Str}(h:sc.names.lookup x=some .cell∨sc.names.lookup x=some .free)(a:(x==("__debug__":Str))=false)(b:(x==("__classdict__":Str))=false):xk sc x=true:=by
 unfold xk
 rw[a,b]
 rcases h with h | h<;>rw[h]<;>rfl
theorem Ud {sc:Scope}{x:Str}(h:Sx sc x=true):(x==("__debug__":Str))=false∧(x==("__classdict__":Str))=false:=cG h fun a b c=>⟨bz b,bz c⟩
theorem rX {sc:Scope}{nms:List Str}{i:Nat}{y:Str}(e:jA (ct vt sc nms) i y):i<vt.length∧jA vt i y∧sc.names.lookup y=some .free∧(ct vt sc nms)[i]? =some (.c9 y):=by
 have key:∀k,(ct vt sc nms)[i]? =some k→CgR vt sc nms i k→(k= .bF y∨k= .c9 y)→i<vt.length∧jA vt i y∧sc.names.lookup y=some .free∧(ct vt sc nms)[i]? =some (.c9 y):=fun k ek g hk=>by
  cases g with
  | new _ x _=>exact hk.elim (fun z=>nomatch z) fun z=>nomatch z
  | old hi k0 k e0 t=>
   cases t with
   | jz=>exact hk.elim (fun z=>nomatch z) fun z=>nomatch z
   | s x _ _=>exact hk.elim (fun z=>nomatch z) fun z=>nomatch z
   | f x h0 l=>
    have z:x=y:=hk.elim (fun z=>nomatch z) fun z=>by cases z;rfl
    subst z
    exact⟨hi,h0.elim (fun z=>.inl (z▸e0)) (fun z=>.inr (z▸e0)),l,ek⟩
 exact e.elim (fun e=>key _ e (dI e) (.inl rfl)) fun e=>key _ e (dI e) (.inr rfl)
theorem GE {sc:Scope}{nms:List Str}{i:Nat}{y:Str}(h:nameAt (ct vt sc nms) i=some y):(nameAt vt i=some y∧sc.names.lookup y=some .free)∨(vt.length≤i∧nms[i-vt.length]? =some y):=by
 obtain⟨k,hk,hn⟩:=Option.bind_eq_some_iff.mp h
 cases dI hk with
 | new hi x e=>cases hn;exact .inr ⟨hi,e⟩
 | old hi k0 k e0 t=>
  cases t with
  | jz=>exact nomatch hn
  | s x h0 l=>cases hn;subst h0;exact .inl ⟨cz e0 rfl,l⟩
  | f x h0 l=>cases hn;exact .inl ⟨h0.elim (fun z=>cz (z▸e0) rfl) fun z=>cz (z▸e0) rfl,l⟩
theorem T5 {nms:List Str}{i:Nat}(l:σ.length=vt.length)(hi:i<vt.length):(σ++nms.map fun _=>none)[i]? =σ[i]? :=List.getElem?_append_left (l▸hi)
theorem adJ {sc:Scope}{nms:List Str}{L:Addr}(R:Rep Z G C vt σ H s)(hs:VN vt sc nms):LN G (lV C sc L) (ct vt sc nms) (σ++nms.map fun _=>none):=by
 refine⟨fun i y e=>?_,fun k hk=>?_,fun i j y e1 e2=>?_,fun i j y z c e1 e2 c1 c2=>?_,by simp [ct,R.k.len],fun h=>?_⟩
 ·cases dI e with
  | old hi k0 k e0 t=>
   cases t with
   | s x h0 l=>
    subst h0
    exact(R.k.sc i y e0).elim fun c q=>⟨c,lT l q.1,(T5 R.k.len hi).trans q.2⟩
 ·obtain⟨i,hi⟩:=List.getElem?_of_mem hk
  cases dI hi with
  | new _ x e0=>
   have :=hs.nm x (List.mem_of_getElem? e0)
   show LA _ x=true
   unfold LA
   rw[show(lV C sc L).env.scope.names.lookup x=some .local from mu sc C.env x _ (by decide) this.1,this.2];rfl
  | old _ k0 k e0 t=>
   have hv:=R.at e0
   cases t with
   | jz=>rfl
   | s x h0 l=>subst h0;exact Lz (i4 l) (pZ hv).2.1 (pZ hv).2.2
   | f x h0 l=>
    rcases h0 with h0 | h0<;>subst h0
    ·exact Lz (i4 l) (Ud hv).1 (Ud hv).2
    ·exact Lz (i4 l) (pZ hv).2.1 (pZ hv).2.2
 ·have no:∀{k},nms[k]? =some y→sc.names.lookup y=some .free→i=j:=fun b a=>nomatch a.symm.trans (hs.nm y (List.mem_of_getElem? b)).1
  rcases GE e1 with ⟨a1,a2⟩ | ⟨a1,a2⟩<;>rcases GE e2 with ⟨b1,b2⟩ | ⟨b1,b2⟩
  ·exact R.k.nd i j y a1 b1
  ·exact no b2 a2
  ·exact no a2 b2
  ·obtain⟨hi,ei⟩:=List.getElem?_eq_some_iff.mp a2
   obtain⟨hj,ej⟩:=List.getElem?_eq_some_iff.mp b2
   have :=(List.getElem_inj (h₀:=hi) (h₁:=hj) hs.nd).mp (ei.trans ej.symm)
   rw[←Nat.sub_add_cancel a1,←Nat.sub_add_cancel b1,this]
 ·obtain⟨_,a1,a2,_⟩:=rX e1
  obtain⟨_,b1,b2,_⟩:=rX e2
  have up:∀{i y},jA vt i y→sc.names.lookup y=some .free→(lV C sc L).env.cells.lookup y=some c→C.env.cells.lookup y=some c:=fun{i y} a b q=>qs.casesOn (R.pc i y a) fun cy hy _ _ _ _ _ _=>by cases (lT b hy).symm.trans q;exact hy
  exact R.k.dis i j y z c a1 b1 (up a1 a2 c1) (up b1 b2 c2)
 ·exfalso
  obtain⟨k,hk,ht⟩:=List.any_eq_true.mp h
  obtain⟨i,hi⟩:=List.getElem?_of_mem hk
  cases dI hi with
  | new=>exact ff ht
  | old _ k0 k e0 t=>cases t<;>exact ff ht
theorem W6 {sc:Scope}{nms:List Str}{L:Addr}{H':AH}{s':Shared}(R:Rep Z G C vt σ H s)(hs:VN vt sc nms)(xe:Ext noOwn H s.heap H' s'.heap)(g:au Z G C.ak H' s')(hL:H' L=some .ns)(Ic:H L=none)
  (hn:∃m,s'.heap.Ns L m):Rep Z G (lV C sc L) (ct vt sc nms) (σ++nms.map fun _=>none) H' s':=by
 refine⟨g,hL,hn.elim fun m hm=>⟨m,hm,fun i y av e1 e2=>?_⟩,fun i y e=>?_,fun a ha=>by cases ha;exact hL,adJ R hs⟩
 ·cases dI e1 with
  | old _ k0 k _ t=>cases t
  | new hi x _=>
   rw[List.getElem?_append_right (R.k.len▸hi),List.getElem?_map] at e2
   obtain⟨_,_,z⟩:=Option.map_eq_some_iff.mp e2
   exact nomatch z
 ·obtain⟨hi,a,hf,ef⟩:=rX e
  exact qs.casesOn (R.pc i y a) fun c hc ho E7 hcL v hcv r=>⟨c,lT hf hc,(fun z=>nomatch ef.symm.trans z),(xe.ns c E7).1,PP E7 Ic,v,((xe.ns c E7).2 id).cell hcv,
   fun av e2=>(r av ((T5 R.k.len hi).symm.trans e2)).elim fun v' q=>⟨v',q.1,q.2.mono xe.bY⟩⟩
end
section
variable {Z:Program}{G:Gd}{cls:Value}{d:Nat}{C:FC}{vt:List VK}{e:PySem.Expr}{σ σ':Sg}{H H0 H1 H3:AH}{s s0 s1 s':Shared}{X:AH→Prop}{m:MX}{A:Around}{E:Value→Shared→Prop}{ak:List Env}
theorem Rep.ua {h':Heap}{t:Nat}{L:Addr}{o:AO}(R0:Rep Z G C vt σ H s)(Ic:H L=none)(R3:Rep Z G C vt σ' H3 s')(E5:H3 L=some o)(k:ja L s'.heap h'):Rep Z G C vt σ' (H3.drop L) {s' with heap:=h',toks:=t}:=by
 have fr:=f9 E5 k
 have ne:∀b o,H b=some o→b≠L:=fun b o e=>(aA e Ic).symm
 refine⟨R3.g.L6 E5 k (R0.g.IE (fun z=>nomatch z.symm.trans Ic)) (qb R0.g (fun z=>nomatch z.symm.trans Ic)),(bx (ne _ _ R0.L)).trans R3.L,R3.loc.map (fun _ n=>n.at' fun o=>k _ o (ne _ _ R0.L)) fr,
  fun i n e=>qs.casesOn (R0.pc i n e) fun c0 hc0 _ hn0 _ _ _ _=>(R3.pc i n e).map (fun c hc hn=>?_) fr,fun a h=>(bx (ne _ _ (R0.own a h))).trans (R3.own a h),R3.k⟩
 cases hc0.symm.trans hc
 exact⟨(bx (ne _ _ hn0)).trans hn,fun v=>tW fun o=>k _ o (ne _ _ hn0)⟩
inductive CB (Z:Program)(G:Gd)(C:FC)(vt:List VK)(σ:Sg)(H:AH)(s:Shared)(Q:AV→AH→Prop)(D L:Addr)(s':Shared):Prop
 | mk (m:Str→Option Value) (ac:List AV) (H3:AH) (a:s'.heap.Ns L m) (b:H3 L=some .ns) (c:H L=none) (d:s.heap.get? L=none) (e:Rep Z G C vt σ H3 s') (f:aj Z G.w H3 s'.heap (.lst ac) (.ref D)) (g:Ext noOwn H s.heap H3 s'.heap) (h:aF s s') (q:∀H4,Sub H3 H4→Q (.lst ac) H4):CB Z G C vt σ H s Q D L s'
structure N3 (Z:Program)(G:Gd)(ak:List Env)(H:AH)(s:Shared)(I D L:Addr)(H4:AH)(h4:Heap)(src:Src):Prop where
 ID:I≠D
 IL:I≠L
 DL:D≠L
 I0:H I=none
 D0:H D=none
 L0:H L=none
 gI:s.heap.get? I=none
 gD:s.heap.get? D=none
 gL:s.heap.get? L=none
 I4:H4 I=some .it
 D4:H4 D=some .it
 L4:H4 L=some .ns
 sub:Sub H H4
 x:Ext noOwn H s.heap H4 h4
 g:au Z G ak H4 {s with heap:=h4}
 it:fK Z G I H4 h4 src 0
 l:h4.PlainList D #[]
theorem n3 {src:Src}{o:Obj}{h4:Heap}(R1:au Z G ak H s)(it:fK Z G s.heap.objs.size (H.set s.heap.objs.size .it) (s.heap.push o) src 0)
  (k4:∀b x,((s.heap.push o).push {cls:= .type "list",data:= .seq #[]}).get? b=some x→h4.get? b=some x) (h4L:∃ob,h4.get? ((s.heap.push o).push {cls:= .type "list",data:= .seq #[]}).objs.size=some ob):
  ∃H4,N3 Z G ak H s s.heap.objs.size (s.heap.push o).objs.size ((s.heap.push o).push {cls:= .type "list",data:= .seq #[]}).objs.size H4 h4 src:=by
 have R2:=R1.new (t:=s.toks) (o:= .it) (ax _ o) (Nat.le_refl _) (it.obj.elim fun o' q=>q.elim fun _ q=>⟨o',q.1⟩)
 have X2:Ext noOwn H s.heap (H.set s.heap.objs.size .it) (s.heap.push o):=Ext.new R1 (ax _ _) (Nat.le_refl _)
 have hD3:((s.heap.push o).push {cls:= .type "list",data:= .seq #[]}).get? (s.heap.push o).objs.size=some {cls:= .type "list",data:= .seq #[]}:=Heap.get?_push_size _ rfl
 have R3:=R2.new (t:=s.toks) (o:= .it) (a:=(s.heap.push o).objs.size) (ax _ {cls:= .type "list",data:= .seq #[]}) (Nat.le_refl _) ⟨_,hD3⟩
 have X3:=Ext.new (own:=noOwn) (o:= .it) (a:=(s.heap.push o).objs.size) R2 (ax _ {cls:= .type "list",data:= .seq #[]}) (Nat.le_refl _)
 have R4:=R3.new (t:=s.toks) (o:= .ns) (a:=((s.heap.push o).push {cls:= .type "list",data:= .seq #[]}).objs.size) k4 (Nat.le_refl _) h4L
 have X4:=Ext.new (own:=noOwn) (o:= .ns) (a:=((s.heap.push o).push {cls:= .type "list",data:= .seq #[]}).objs.size) R3 k4 (Nat.le_refl _)
 have zD:(s.heap.push o).objs.size=s.heap.objs.size+1:=Heap.size_push ..
 have zL:((s.heap.push o).push {cls:= .type "list",data:= .seq #[]}).objs.size=(s.heap.push o).objs.size+1:=Heap.size_push ..
 have lD:s.heap.objs.size<(s.heap.push o).objs.size:=zD▸Nat.lt_succ_self _
 have lL:(s.heap.push o).objs.size<((s.heap.push o).push {cls:= .type "list",data:= .seq #[]}).objs.size:=zL▸Nat.lt_succ_self _
 have X9:=Nat.lt_trans lD lL
 generalize ((s.heap.push o).push {cls:= .type "list",data:= .seq #[]}).objs.size=L at *
 generalize (s.heap.push o).objs.size=D at *
 have I0:=R1.fresh
 have D0:=R1.dw (Nat.le_of_lt lD)
 have L0:=R1.dw (Nat.le_of_lt X9)
 have I2:(H.set s.heap.objs.size .it) s.heap.objs.size=some .it:=AH.ag ..
 have I3:=(AH.ae (H.set s.heap.objs.size .it) .it (Nat.ne_of_lt lD)).trans I2
 have L3:((H.set s.heap.objs.size .it).set D .it) L=none:=(AH.ae _ _ (Nat.ne_of_gt lL)).trans ((AH.ae _ _ (Nat.ne_of_gt X9)).trans L0)
 exact⟨_,Nat.ne_of_lt lD,Nat.ne_of_lt X9,Nat.ne_of_lt lL,I0,D0,L0,jH (Nat.le_refl _),jH (Nat.le_of_lt lD),jH (Nat.le_of_lt X9),(AH.ae _ _ (Nat.ne_of_lt X9)).trans I3,(AH.ae _ _ (Nat.ne_of_lt lL)).trans (AH.ag ..),AH.ag ..,
  (Sub.ci I0).trans ((Sub.ci ((AH.ae _ _ (Nat.ne_of_gt lD)).trans D0)).trans (Sub.ci L3)),(X2.trans X3).trans X4,R4,(it.keep I2 id X3).keep I3 id X4,⟨0,k4 _ _ hD3⟩⟩
theorem A2 {tg:MT}{elt:MX}{bk:bA}{src:Src}{Q:AV→AH→Prop}{xe target iter:PySem.Expr}{ifs:List PySem.Expr}{scope:Scope}{pos:Pos}{nms:List Str}{o:Obj}{RR:Value→Addr→Result→Shared→Prop}
  (hT:SA Z G cls tg) (hE:SE Z G cls elt) (hC:iw Z G cls bk) (F:aW C d) (cR:VN vt scope nms)
  (h1:po G.gl scope (ct vt scope nms) tg target=true) (h2:cJ G.gl scope (ct vt scope nms) bk ifs=true) (h3:aN G.gl scope (ct vt scope nms) elt xe=true)
  (R1:Rep Z G C vt σ H s) (here:src.here H) (hz:src.all.length≤100000)
  (it:fK Z G s.heap.objs.size (H.set s.heap.objs.size .it) (s.heap.push o) src 0)
  (q:∀H2,Sub H H2→dk src (Ho (i9 Z G cls d tg) (pX Z G cls d bk) (bI Z G cls d elt)) src.all [] (σ++nms.map fun _=>none) H2 (fun acc H3=>∀H4,Sub H3 H4→Q (.lst acc) H4))
  (hR:∀D L s',CB Z G C vt σ H s Q D L s'→RR (.ref D) L (.ok .next) s'):
  wpAny (model Z G.w) C.A (newList []) (fun acc s₃=>wpAny (model Z G.w) C.A (newFunctionEnv scope C.env.globals (AU scope C.env) [] C.env.qual none .none (some C.env)) (fun acY s₄=>
   codeAny (model Z G.w) C.A (.compStart (.ListComp xe [⟨target,iter,ifs,0⟩] scope pos) 0 (.ref s.heap.objs.size) acc {acY with scope:=relabel scope C.env}) (RR acc acY.locals) s₄) E s₃) E {s with heap:=s.heap.push o}:=by
 refine wpAny_newList ?_ (Nat.zero_le _)
 refine wpAny_newFunctionEnv cR.cell (fun y hy=>(List.not_mem_nil hy).elim) (fun h4 gf Bk=>?_) cR.fn
 dsimp only at gf Bk ⊢
 obtain⟨H4,N⟩:=n3 (h4:=h4) R1.g it (fun b x e=>(Bk.2 b (Nat.ne_of_lt (Heap.lt_size e))).trans (ax _ _ _ _ e)) (let⟨ob,_,_,ho,_⟩:=gf;⟨ob,ho⟩)
 replace gf:∃m,h4.Ns _ m:=⟨_,gf⟩
 clear Bk
 generalize hI:s.heap.objs.size=I at *
 generalize hD:(s.heap.push o).objs.size=D at *
 generalize hL:((s.heap.push o).push {cls:= .type "list",data:= .seq #[]}).objs.size=L at *
 have RC:Rep Z G (lV C scope L) (ct vt scope nms) (σ++nms.map fun _=>none) H4 {s with heap:=h4,toks:=s.toks+([]:List (Str×Value)).length}:=W6 R1 cR N.x N.g N.L4 N.L0 gf
 have loop:codeAny (model Z G.w) C.A (.compLoop (.ListComp xe [⟨target,iter,ifs,0⟩] scope pos) 0 (.ref I) (.ref D) (compEnvC scope (AU scope C.env) L C.env)) (RR (.ref D) L) {s with heap:=h4,toks:=s.toks+([]:List (Str×Value)).length}:=by
  refine O5 (C:=lV C scope L) (Qe:=fun acc H3=>∀H4,Sub H3 H4→Q (.lst acc) H4) (src:=src) (s1:=s) (H1:=H) hT hE hC (O3 F cR.fn) h1 h2 h3 N.ID (fun z=>N.IL z) (fun z=>N.DL z) N.gI N.gD N.I0 N.D0 hz (src.all.length+1)
   ⟨0,src.all,[],_,H4,#[],rfl,rfl,Nat.zero_add _,RC,N.I4,N.D4,N.it,N.l,.nil,Nat.le_refl _,N.x.own,aF.mk _ _ _,q H4 N.sub⟩ fun s2 z=>CE.casesOn z fun σ' H' ac ys h' tk s' R' Xx hD' hl V ex sm kb qe e=>?_
  subst e
  have g1:au Z G C.ak (H'.drop I) {s' with heap:=h',toks:=tk}:=R'.g.L6 Xx kb (R'.g.IE (fun z=>Ik (Option.some.inj (Xx.symm.trans z)))) (qb R'.g (fun z=>Bo (Option.some.inj (Xx.symm.trans z))))
  have Xv:H'.drop I D=some .it:=(bx N.ID.symm).trans hD'
  have g2:=g1.drop (g1.IE (fun z=>Ik (Option.some.inj (Xv.symm.trans z)))) (qb g1 (fun z=>Bo (Option.some.inj (Xv.symm.trans z))))
  have e2:Ext noOwn H s.heap ((H'.drop I).drop D) h':=(((ex.but N.gI N.I0 kb).drop N.I0).drop N.D0).pL fun a z=>z▸N.L0
  refine q9.casesOn R'.loc fun m hm _=>hl.elim fun n e1=>hR D L _ ⟨m,ac,(H'.drop I).drop D,hm.at' fun o=>kb L o N.IL.symm,(bx N.DL.symm).trans ((bx N.IL.symm).trans R'.L),N.L0,N.gL,R1.step (s':={s' with heap:=h',toks:=tk}) e2 g2,
   .lst (kb D _ N.ID.symm e1) rfl rfl rfl drop_eq (V.mono ((f9 Xx kb).trans dJ)),e2,sm.trans (aF.mk _ _ _),fun H5 hs=>qe H5 ((Sub.drop Xx rfl).trans ((Sub.drop Xv rfl).trans hs))⟩
 exact codeAny_compStart_list loop (afr F.handled RC.g N.I4 N.it (by
  cases src with
  | items l=>trivial
  | live a l=>exact N.sub a _ rfl here) loop)
end
section
variable {Z:Program}{G:Gd}{cls:Value}{d:Nat}{C:FC}{vt:List VK}{e:PySem.Expr}{σ σ':Sg}{H H0 H1 H3:AH}{s s0 s1 s':Shared}{X:AH→Prop}{m:MX}{A:Around}{E:Value→Shared→Prop}{ak:List Env}
theorem rZ {gl:Gl}{sc:Scope}{i:PySem.Expr}{env:Env}(h0:aN gl sc vt m i=true):∀x,foldedSetIterable i env x=pure x:=by
 cases i<;>first | exact fun _=>rfl | skip
 cases m<;>exact ff h0
theorem VZ {elt it:MX}{nms:List Str}{tg:MT}{bk:bA}(Ok:G.Ok)(hI:SE Z G cls it)(hT:SA Z G cls tg)(hE:SE Z G cls elt)(hC:iw Z G cls bk):SE Z G cls (.comp elt nms tg it bk):=fun d C vt e F hc=>GO hc fun xe t i ifs a sc pos hc=>jc hc fun ha h0 cR h1 h2 h3=>ck ha fun σ H s Q X R q=>by
 have cs:=csR cR
 rw[eval_ListComp]
 show wpAny _ _ (comprehension (.ListComp xe [⟨t,i,ifs,0⟩] sc pos) sc C.env _ (newList []) false (eval i C.env)) _ _ s
 refine wpAny_comprehension_free (use:=none) (g:=⟨t,i,ifs,0⟩) (gs:=[]) rfl (rZ h0) (fy (pP R cs)) cs.fn (fun x hx hl=>cs.loc x hx hl) ?_
 refine hI.go F h0 (.here R) q fun av v H1 s1 S1 V1 z1 q1=>Pw Ok S1.R.g V1 q1 fun src o q2 here hz U0=>?_
 refine A2 (RR:=fun acc L=>compPost (model Z G.w) C.A (XP Z G cls C.ak H s X) none (EP Z G C vt σ H s Q) acc L) hT hE hC F cs h1 h2 h3 S1.R here hz U0 q2 fun D L s2 z=>CB.casesOn z fun m ac H3 hm E5 MM gL R3 V3 x3 y3 qf=>⟨m,hm,fun h' hs=>?_⟩
 have kb:=gz hs
 exact⟨.lst ac,H3.drop L,S1.R.ua (t:=s2.toks) MM R3 E5 kb,V3.mono (f9 E5 kb),S1.x.trans ((x3.but gL MM kb).drop MM),S1.y.trans (y3.trans (aF.zb _ _)),qf _ (Sub.drop E5 rfl)⟩
end
section
variable (Z:Program)(G:Gd)(cls:Value)
inductive XS (C:FC)(H:AH)(s:Shared)(X:AH→Prop)(v:Value)(s':Shared):Prop
 | mk (ea:Addr) (H':AH) (a:v= .ref ea) (b:au Z G C.ak H' s') (c:Ext C.own H s.heap H' s'.heap) (d:aF s s') (e:ExcAt s'.heap s.heap ea cls H') (q:∀H2,Sub H' H2→X H2):XS C H s X v s'
noncomputable def acR (C:FC):Prop:=C.sc=C.env.scope∧∃rest L,C.ak=C.env::rest∧C.env.frame=some L
noncomputable def SS (m:MS):Prop:=∀(d:Nat) (C:FC) (vt:List VK) (st:PySem.Stmt),aW C d→acR C→ac0 G.gl C.sc vt m st=true→∀(σ:Sg) (H:AH) (s:Shared) (Q:Fl→Sg→AH→Prop) (X:AH→Prop),
 Rep Z G C vt σ H s→vcS Z G cls d m σ H Q X→wpAny (model Z G.w) C.A (exec st C.env) (SP Z G C vt H s Q) (XS Z G cls C H s X) s
noncomputable def zN (l:ah):Prop:=∀(d:Nat) (C:FC) (vt:List VK) (st:List PySem.Stmt),aW C d→acR C→fT G.gl C.sc vt l st=true→∀(σ:Sg) (H:AH) (s:Shared) (Q:Fl→Sg→AH→Prop) (X:AH→Prop),
 Rep Z G C vt σ H s→aU Z G cls d l σ H Q X→wpAny (model Z G.w) C.A (execs st C.env) (SP Z G C vt H s Q) (XS Z G cls C H s X) s
structure Su (C:FC)(vt:List VK)(σ:Sg)(H0:AH)(s0:Shared)(H:AH)(s:Shared):Prop where
 R:Rep Z G C vt σ H s
 x:Ext C.own H0 s0.heap H s.heap
 y:aF s0 s
end
section
variable {Z:Program}{G:Gd}{cls:Value}{d:Nat}{C:FC}{vt:List VK}{e:PySem.Expr}{σ σ':Sg}{H H0 H1 H3:AH}{s s0 s1 s':Shared}{X:AH→Prop}{m:MX}{A:Around}{E:Value→Shared→Prop}{ak:List Env}
theorem Su.here (R:Rep Z G C vt σ H s):Su Z G C vt σ H s H s:=⟨R,Ext.refl ..,aF.refl _⟩
theorem Su.sp {Q:Fl→Sg→AH→Prop}{f:Flow}(S:Su Z G C vt σ H0 s0 H s)(q:flQ Z G H s.heap (fun fl=>Q fl σ H) f):SP Z G C vt H0 s0 Q f s:=⟨σ,H,S.R,S.x,S.y,q⟩
theorem Su.tok {t:Nat}(S:Su Z G C vt σ H0 s0 H s):Su Z G C vt σ H0 s0 H {s with toks:=t}:=⟨S.R.grow (h':=s.heap) fun _ _ e=>e,S.x,S.y.trans (aF.mkt _ _)⟩
theorem St.u (S:St Z G C vt σ H0 s0 H s):Su Z G C vt σ H0 s0 H s:=⟨S.R,S.x.own,S.y⟩
theorem Su.ap {Q:Sg→AH→Prop}{P:Prop}{s2:Shared}{u:Unit}(S:Su Z G C vt σ H0 s0 H s)(z:AP Z G C vt H s Q u s2)(k:∀σ' H',Su Z G C vt σ' H0 s0 H' s2→Q σ' H'→P):P:=AP.casesOn z fun σ' H' a b c q=>k σ' H' ⟨a,S.x.trans b,S.y.trans c⟩ q
theorem XP.toS {v:Value}(z:XP Z G cls C.ak H s X v s'):XS Z G cls C H s X v s':=XP.casesOn z fun ea H' a b c d e f=>⟨ea,H',a,b,c.own,d,e,f⟩
theorem XS.trans {v:Value}{H':AH}{dD:Shared}(x:Ext C.own H s.heap H' s'.heap)(y:aF s s')(z:XS Z G cls C H' s' X v dD):XS Z G cls C H s X v dD:=XS.casesOn z fun ea cb a b c d e q=>⟨ea,cb,a,b,x.trans c,y.trans d,e.le x.here,q⟩
theorem XS.no {v:Value}{P:Prop}(z:XS Z G cls C H s (fun _=>False) v s'):P:=XS.casesOn z fun _ _ _ _ _ _ _ q=>(q _ (Sub.refl _)).elim
theorem SP.trans {Q:Fl→Sg→AH→Prop}{H':AH}{dD:Shared}{f:Flow}(x:Ext C.own H s.heap H' s'.heap)(y:aF s s')(z:SP Z G C vt H' s' Q f dD):SP Z G C vt H s Q f dD:=SP.casesOn z fun σ' cb a b c q=>⟨σ',cb,a,x.trans b,y.trans c,q⟩
theorem Su.mono {Q:Fl→Sg→AH→Prop}{m:Sem Flow}(S:Su Z G C vt σ H0 s0 H s)(w:wpAny (model Z G.w) A m (SP Z G C vt H s Q) (XS Z G cls C H s X) s):wpAny (model Z G.w) A m (SP Z G C vt H0 s0 Q) (XS Z G cls C H0 s0 X) s:=
 wpAny_mono w (fun _ _ z=>SP.trans S.x S.y z) fun _ _ z=>XS.trans S.x S.y z
theorem SE.st {Q:AV→AH→Prop}{P:Value→Shared→Prop}(h:SE Z G cls m)(F:aW C d)(hc:aN G.gl C.sc vt m e=true)(R:Rep Z G C vt σ H s)(q:bI Z G cls d m σ H Q X)
  (k:∀av v H1 s1,Su Z G C vt σ H s H1 s1→Ext noOwn H s.heap H1 s1.heap→aj Z G.w H1 s1.heap av v→Q av H1→P v s1):
  wpAny (model Z G.w) C.A (eval e C.env) P (XS Z G cls C H s X) s:=
 wpAny_mono (h d C vt e F hc σ H s Q X R q) (fun v s1 z=>EP.casesOn z fun av H1 R1 V1 x1 y1 q1=>k av v H1 s1 ⟨R1,x1.own,y1⟩ x1 V1 q1) fun _ _ z=>XP.toS z
theorem ST.st {Q:Bool→AH→Prop}{P:Bool→Shared→Prop}(h:ST Z G cls m)(F:aW C d)(hc:aN G.gl C.sc vt m e=true)(R:Rep Z G C vt σ H s)(q:u7 Z G cls d m σ H Q X)
  (k:∀b H1 s1,Su Z G C vt σ H s H1 s1→Q b H1→P b s1):
  wpAny (model Z G.w) C.A (isTrue e C.env (eval e C.env)) P (XS Z G cls C H s X) s:=
 wpAny_mono (h d C vt e F hc σ H s Q X R q) (fun b s1 z=>BP.casesOn z fun H1 R1 x1 y1 q1=>k b H1 s1 ⟨R1,x1.own,y1⟩ q1) fun _ _ z=>XP.toS z
theorem Wl:zN Z G cls .nil:=fun d C vt st F cR hc=>d0 hc fun _ σ H s Q X R q=>wpAny_execs_nil ((Su.here R).sp q)
theorem Um {a:MS}{l:ah}(ha:SS Z G cls a)(hl:zN Z G cls l):zN Z G cls (.cons a l):=fun d C vt st F cR hc=>cN hc fun st rest hc=>aS hc fun h1 h2 σ H s Q X R q=>
 wpAny_execs_cons (wpAny_mono (ha d C vt st F cR h1 σ H s _ X R q) (fun f s1 z=>SP.casesOn z fun σ1 H1 R1 x1 y1 q1=>match f,q1 with
  | .next,q1=>Su.mono ⟨R1,x1,y1⟩ (hl d C vt rest F cR h2 σ1 H1 s1 Q X R1 q1)
  | .brk,q1=>⟨σ1,H1,R1,x1,y1,q1⟩
  | .cont,q1=>⟨σ1,H1,R1,x1,y1,q1⟩
  | .ret v,q1=>⟨σ1,H1,R1,x1,y1,q1⟩) fun _ _ z=>z)
theorem adu {c:MX}{a b:ah}(sf:ST Z G cls c)(ha:zN Z G cls a)(hb:zN Z G cls b):SS Z G cls (.ce c a b):=fun d C vt st F cR hc=>ack hc fun t x y p hc=>cG hc fun h0 h1 h2 σ H s Q X R q=>
 wpAny_If (sf.st F h0 R q fun b H1 s1 S1 q1=>match b,q1 with
  | true,q1=>S1.mono (ha d C vt _ F cR h1 _ _ _ Q X S1.R q1)
  | false,q1=>S1.mono (hb d C vt _ F cR h2 _ _ _ Q X S1.R q1))
theorem aaV {e:MX}(he:SE Z G cls e):SS Z G cls (.ret e):=fun d C vt st F cR hc=>NU hc fun v p hc σ H s Q X R q=>by
 cases v with
 | some v=>exact wpAny_Return_some (he.st F hc R q fun av v H1 s1 S1 x1 V1 q1=>S1.sp ⟨av,V1,q1⟩)
 | none=>exact wpAny_Return_none (M3 (P:=fun e=>vcS Z G cls d (.ret e) σ H Q X→_) hc (fun q=>(Su.here R).sp ⟨.none,.none,q⟩) q)
theorem aaT:SS Z G cls .brk:=fun d C vt st F cR hc=>Zd hc fun p σ H s Q X R q=>wpAny_Break ((Su.here R).sp q)
theorem Wi:SS Z G cls .pass:=fun d C vt st F cR hc=>Vj hc fun p σ H s Q X R q=>wpAny_Pass ((Su.here R).sp q)
theorem gM {v:PySem.Expr}{t:Option PySem.Expr}{n:Nat}{env:Env}(h:uh v=false):swapsWith v t n env=pure false:=by
 cases v<;>first | rfl | exact ff h.symm
theorem Wg {e:MX}(he:SE Z G cls e):SS Z G cls (.expr e):=fun d C vt st F cR hc=>Dk hc fun v p hc=>aS hc fun h0 h1 σ H s Q X R q=>
 wpAny_Expr_any (he.st F h1 R q fun av v H1 s1 S1 x1 V1 q1=>S1.sp q1) (by unfold interactive;rw[F.kind];rfl) (gM (bz h0))
@[elab_as_elim] theorem iiM {x y:AV}{a b:Value}{h:Heap}{k:Int→Int→Prop}{P:Value→Value→Prop}(Va:aj Z G.w H h x a)(Vb:aj Z G.w H h y b)(q:fF x y k)(f:∀x y t u,k x y→P (.int x t) (.int y u)):P a b:=Ij Va Vb q f
theorem aaS {i:Nat}{op:Operator}{e:MX}(he:SE Z G cls e):SS Z G cls (.aug i op e):=fun d C vt st F cR hc=>U6 hc fun x xp o v p hc=>zP hc fun h1 h2 h3 h4 h5=>by
 obtain rfl:=eq_of_beq h3
 obtain rfl:=eq_of_beq h4
 intro σ H s Q X R q
 obtain⟨v0,hv,q⟩:=my q
 have ld:=BC (E:=XS Z G cls C H s X) (Q:=fun old s1=>s=s1∧aj Z G.w H s.heap v0 old) F R h1 hv fun w V=>⟨rfl,V⟩
 refine wpAny_AugAssign_Name (wpAny_mono ld.1 (fun old s1 z=>?_) fun _ _ z=>z)
 obtain⟨rfl,V0⟩:=z
 refine he.st F h5 R q fun av v H1 s1 S1 x1 V1 q1=>iiM (V0.mono x1.bY) V1 q1 fun _ _ _ _ q1=>AutoIntOps.iadd_0 ?_
 exact wpAny_mono (Lq (Q:=fun σ' H'=>Q .next σ' H') F S1.tok.R h1 (uw h2) .int (List.getElem?_eq_some_iff.mp hv).1 q1) (fun _ _ z=>S1.tok.ap z fun σ' H' S q=>S.sp q) fun _ _ z=>z
inductive WhI (Z:Program)(G:Gd)(cls:Value)(d:Nat)(c:MX)(b:ah)(C:FC)(vt:List VK)(H:AH)(s:Shared)(Q:Fl→Sg→AH→Prop)(k:Nat)(s1:Shared):Prop
 | mk (σ1:Sg) (H1:AH) (S:Su Z G C vt σ1 H s H1 s1) (q:jU (Z8 (u7 Z G cls d c)) (WG (aU Z G cls d b)) k σ1 H1 Q):WhI Z G cls d c b C vt H s Q k s1
theorem Ul {c:MX}{b:ah}(sf:ST Z G cls c)(hb:zN Z G cls b):SS Z G cls (.di c b):=fun d C vt st F cR hc=>Sf hc fun t x y p hc=>d0 hc fun hc=>aS hc fun h0 h1 σ H s Q X R q=>by
 obtain⟨n,q⟩:=q
 refine wpAny_While (codeAny_whileLoop (WhI Z G cls d c b C vt H s Q) (fun k s1 z=>WhI.casesOn z fun σ1 H1 S1 q1=>?_) n ⟨σ,H,.here R,q⟩)
 cases k with
 | zero=>exact q1.elim
 | succ k=>
  refine wpAny_mono (sf d C vt _ F h0 σ1 H1 s1 _ _ S1.R q1) (fun t s2 z=>BP.casesOn z fun H2 R2 x2 y2 q2=>?_) fun _ _ z=>XP.no z
  have S2:Su Z G C vt σ1 H s H2 s2:=⟨R2,S1.x.trans x2.own,S1.y.trans y2⟩
  cases t with
  | false=>exact wpAny_execs_nil (S2.sp q2)
  | true=>
   refine wpAny_mono (hb d C vt _ F cR h1 σ1 H2 s2 _ _ R2 q2) (fun f s3 z=>SP.casesOn z fun σ3 H3 R3 x3 y3 q3=>?_) fun _ _ z=>XS.no z
   have S3:Su Z G C vt σ3 H s H3 s3:=⟨R3,S2.x.trans x3,S2.y.trans y3⟩
   cases f with
   | next=>exact⟨k,Nat.lt_succ_self _,σ3,H3,S3,q3⟩
   | cont=>exact⟨k,Nat.lt_succ_self _,σ3,H3,S3,q3⟩
   | brk=>exact S3.sp q3
   | ret v=>exact S3.sp q3
end
section
variable {Z:Program}{G:Gd}{cls:Value}{d:Nat}{C:FC}{vt:List VK}{e:PySem.Expr}{σ σ':Sg}{H H0 H1 H3:AH}{s s0 s1 s':Shared}{X:AH→Prop}{m:MX}{A:Around}{E:Value→Shared→Prop}{ak:List Env}
theorem Rep.kept {h':Heap}{t:Nat}{a:Addr}{o:AO}(R:Rep Z G C vt σ H s)(k:∀b o,s.heap.get? b=some o→h'.get? b=some o)(ha:s.heap.objs.size≤a)(ho:dj Z G.w G.gl (H.set a o) h' a o):
  Rep Z G C vt σ (H.set a o) {s with heap:=h',toks:=t}:=
 R.step (s':={s with heap:=h',toks:=t}) (Ext.new R.g k ha) (R.g.new k ha ho)
inductive FoI (Z:Program)(G:Gd)(cls:Value)(d:Nat)(t:MT)(b:ah)(C:FC)(vt:List VK)(src:Src)(Q:Fl→Sg→AH→Prop)(I:Addr)(H1:AH)(s1:Shared)(n:Nat)(s3:Shared):Prop
 | mk (i:Nat) (r:List AV) (σ3:Sg) (H3:AH) (hn:n=r.length+1) (hr:src.all.drop i=r) (hlen:i+r.length=src.all.length) (S:Su Z G C vt σ3 H1 s1 H3 s3) (hI:H3 I=some .it) (it:fK Z G I H3 s3.heap src i)
   (q:gH src (MF (i9 Z G cls d t) (aU Z G cls d b)) r σ3 H3 Q):FoI Z G cls d t b C vt src Q I H1 s1 n s3
theorem aaU {t:MT}{it:MX}{b:ah}(Ok:G.Ok)(hT:SA Z G cls t)(hI:SE Z G cls it)(hb:zN Z G cls b):SS Z G cls (.cV t it b):=fun d C vt st F cR hc=>Zh hc fun tg i body y p hc=>d0 hc fun hc=>cG hc fun h1 h2 h3 σ H s Q X R q=>by
 refine wpAny_For (hI.st F h2 R q fun av v H1 s1 S1 xx V1 q1=>Pw Ok S1.R.g V1 q1 fun src o q2 here hz U0=>?_) (rZ h2)
 have R2:Rep Z G C vt σ (H1.set s1.heap.objs.size .it) {s1 with heap:=s1.heap.push o}:=S1.R.kept (t:=s1.toks) (ax _ _) (Nat.le_refl _) (U0.obj.elim fun o' q=>q.elim fun _ q=>⟨o',q.1⟩)
 have X2:Ext noOwn H1 s1.heap (H1.set s1.heap.objs.size .it) (s1.heap.push o):=Ext.new S1.R.g (ax _ _) (Nat.le_refl _)
 have nI:H1 s1.heap.objs.size=none:=S1.R.g.fresh
 have gI:s1.heap.get? s1.heap.objs.size=none:=jH (Nat.le_refl _)
 have oI:¬C.own s1.heap.objs.size:=fun z=>nomatch (S1.R.own _ z).symm.trans nI
 have hin:(H1.set s1.heap.objs.size .it) s1.heap.objs.size=some .it:=AH.ag ..
 have q3:=q2 _ (Sub.ci (o:= .it) nI)
 generalize s1.heap.objs.size=I at *
 generalize H1.set I .it=H2 at *
 refine codeAny_forLoop_any (FoI Z G cls d t b C vt src Q I H1 s1) (fun n s3 z=>FoI.casesOn z fun j r σ3 H3 hn hr hlen S3 Pk it3 q4=>?_) (src.all.length+1) ⟨0,src.all,σ,H2,rfl,rfl,Nat.zero_add _,⟨R2,X2.own,aF.zb _ _⟩,hin,U0,q3⟩
 cases r with
 | nil=>
  cases (Nat.add_zero _).symm.trans hlen
  exact Xc F.handled S3.R.g Pk it3 q4.1 fun h' tk kb=>wpAny_execs_nil ⟨σ3,H3.drop I,S1.R.ua nI S3.R Pk kb,S1.x.trans ((S3.x.but gI nI kb).drop nI),S1.y.trans (S3.y.trans (aF.mk _ _ _)),q4.2 _ (Sub.drop Pk rfl)⟩
 | cons x r=>
  obtain⟨hj,hx,Pt,Bj⟩:=A3 hr hlen
  have lt:r.length+1<n:=hn▸Nat.lt_succ_self _
  refine Yw F.handled S3.R.g Pk it3 q4.1 hj fun v x' h' tk E8 kb XZ V'=>?_
  cases hx.symm.trans E8
  obtain⟨o',n',ho,hc,hg⟩:=XZ.obj
  refine Tr (s:={s3 with heap:=h',toks:=tk}) ho hc hg (wpAny_mono (hT d C vt tg F h1 σ3 H3 _ x v _ _ (S3.R.but Pk kb ⟨o',ho⟩) V' q4.2) (fun _ s4 z=>AP.casesOn z fun σ4 H4 Rb eb sb q7=>?_) fun _ _ z=>z)
  refine wpAny_mono (hb d C vt body F cR h3 σ4 H4 s4 _ _ Rb q7) (fun f s5 z=>SP.casesOn z fun σ5 H5 Rc ec sc q8=>?_) fun _ _ z=>XS.no z
  have hI4:=(eb.it I Pk).1
  have X0:=(XZ.keep Pk oI eb).keep hI4 oI ec
  have S5:Su Z G C vt σ5 H1 s1 H5 s5:=⟨Rc,((S3.x.but gI nI kb).trans eb).trans ec,((S3.y.trans (aF.mk _ _ _)).trans sb).trans sc⟩
  have out:∀{f:Flow},flQ Z G H5 s5.heap (fun fl=>Q fl σ5 H5) f→SP Z G C vt H s Q f s5:=fun q=>⟨σ5,H5,Rc,S1.x.trans S5.x,S1.y.trans S5.y,q⟩
  cases f with
  | next=>exact⟨r.length+1,lt,j+1,r,σ5,H5,rfl,Pt,Bj,S5,(ec.it I hI4).1,X0,q8⟩
  | cont=>exact⟨r.length+1,lt,j+1,r,σ5,H5,rfl,Pt,Bj,S5,(ec.it I hI4).1,X0,q8⟩
  | brk=>exact out q8
  | ret v=>exact out q8
end
section
variable {Z:Program}{G:Gd}{cls:Value}{d:Nat}{C:FC}{vt:List VK}{σ:Sg}{s:Shared}{ak:List Env}
theorem Ext.gm {own:Addr→Prop}{H:AH}{h:Heap}{a:Addr}{o:AO}(e:H a=some o)(k:o.kept=false):Ext own H h (H.drop a) h:=
 ⟨dJ,fun b q=>⟨(bx (jG e q k rfl)).trans q,fun _=>bK.refl _ _⟩,fun b q=>⟨(bx (jG e q k rfl)).trans q,fun _ _ z=>z⟩,fun b o z=>⟨o,z⟩⟩
theorem au.gm {H:AH}{a:Addr}{o:AO}(R:au Z G ak H s)(e:H a=some o)(k:o.kept=false):au Z G ak (H.drop a) s:=
 R.drop (R.IE (fun z=>by cases e.symm.trans z;exact nomatch k)) (qb R (fun z=>by cases e.symm.trans z;exact nomatch k))
inductive LH (Z:Program)(G:Gd)(ak:List Env)(s:Shared)(H:AH)(P:AH→Heap→Prop)(H':AH):Prop
 | mk (a:au Z G ak H' s) (b:P H' s.heap) (c:Ext noOwn H s.heap H' s.heap):LH Z G ak s H P H'
noncomputable def FzS (Z:Program)(G:Gd)(ak:List Env)(s:Shared)(H:AH)(v v':AV)(H':AH):Prop:=∀x,au Z G ak H s→aj Z G.w H s.heap v x→LH Z G ak s H (fun H h=>aj Z G.w H h v' x) H'
noncomputable def afQ (Z:Program)(G:Gd)(ak:List Env)(s:Shared)(H:AH)(v v':List (String×AV))(H':AH):Prop:=∀x,au Z G ak H s→bd Z G.w H s.heap v x→LH Z G ak s H (fun H h=>bd Z G.w H h v' x) H'
theorem Fz.sound (Ok:G.Ok){H:AH}{v v':AV}{H':AH}(f:Fz H v v' H'):FzS Z G ak s H v v' H':=by
 refine Fz.rec (motive_1:=fun H v v' H' _=>FzS Z G ak s H v v' H') (motive_2:=fun H v v' H' _=>afQ Z G ak s H v v' H') (fun x R V=>⟨R,V,Ext.refl ..⟩) (fun{H a l} e x R V=>V.im ?_) (fun{H a l} e x R V=>V.im ?_) (fun{H H' a C dx fs Ph} e1 e2 f ih x R V=>V.im ?_) (fun x R V=>V.cn ⟨R,.nil,Ext.refl ..⟩) (fun{H H1 H2 k v v' fs Ph} f fs ih1 ih2 x R V=>V.bn fun hs t u us V Vs=>?_) f
 ·obtain⟨vs,⟨n,ho⟩,r⟩:=(R.own _ _ e).2
  exact⟨R.gm e rfl,.lst ho rfl rfl rfl drop_eq (r.mono dJ),Ext.gm e rfl⟩
 ·obtain⟨vs,hd,r⟩:=(R.own _ _ e).2
  exact⟨R.gm e rfl,.dC (R.noSys Ok e) hd drop_eq (r.mono dJ),Ext.gm e rfl⟩
 ·have az:dx≠a:=pK e1 e2 fun z=>nomatch z
  obtain⟨es,n,h2,r⟩:=(R.own _ _ e2).2
  have e3:=(bx (H:=H) az).trans e2
  have X2:Ext noOwn H s.heap ((H.drop a).drop dx) s.heap:=(Ext.gm e1 rfl).trans (Ext.gm e3 rfl)
  refine LH.casesOn (ih _ ((R.gm e1 rfl).gm e3 rfl) (r.mono (dJ.trans dJ))) fun R3 r3 X3=>⟨R3,.obj (R.own _ _ e1).2 (X3.bY a _ ((bx az.symm).trans drop_eq) (R.own _ _ e1).2).1 h2 (X3.bY dx _ drop_eq h2).1 r3,X2.trans X3⟩
 ·exact LH.casesOn (ih1 _ R V) fun R1 V1 X1=>LH.casesOn (ih2 _ R1 (Vs.mono X1.bY)) fun R2 V2 X2=>⟨R2,.cons (V1.mono X2.bY) V2,X1.trans X2⟩
theorem aaF {a:MX}(Ok:G.Ok)(ha:SE Z G cls a):SE Z G cls (.E3 a):=fun d C vt e F hc=>aL hc fun x p hc σ H s Q X R q=>
 ha.go F hc (.here R) q fun _ _ _ _ S1 V1 _ q1=>q1.casesOn fun v' H2 f q=>LH.casesOn (Fz.sound Ok f _ S1.R.g V1) fun R2 V2 X2=>⟨v',H2,S1.R.step X2 R2,V2,S1.x.trans X2,S1.y,q⟩
theorem aw.fz {f:Addr}{args:List AV}{H:AH}{Q:AV→AH→Prop}{X:AH→Prop}(Ok:G.Ok)(h:aw Z G cls d f args H (VQ Q) X):aw Z G cls d f args H Q X:=
 fun A ak s cargs a b c e g r=>codeAny_mono (h A ak s cargs a b c e g r) fun r s' z=>oE (P:=fun r=>eQ Z G cls ak H s Q X r s') z (fun v z=>RP.casesOn z fun av H' g' V' x y q=>q.casesOn fun v' H2 f q=>LH.casesOn (Fz.sound Ok f _ g' V') fun R2 V2 X2=>⟨v',H2,R2,V2,x.trans X2,y,q⟩) fun e z=>z
theorem aeh {op:Operator}{x y:AV}{a b:Value}{A:Around}{E:Value→Shared→Prop}{H:AH}{Q:AV→AH→Prop}(R:Rep Z G C vt σ H s)(Va:aj Z G.w H s.heap x a)(Vb:aj Z G.w H s.heap y b)(q:SW op Q x y H):
  wpAny (model Z G.w) A (binaryOp op a b) (EP Z G C vt σ H s Q) E s:=by
 cases op with
 | Add=>
  revert Va
  refine K5 q fun x q Va=>Va.uo fun a o n vs ho hc hd hp hn ra=>?_
  revert Vb
  exact K5 q fun y q Vb=>Vb.uo fun b o2 n2 ws UW XD hd2 hp2 wB rb=>q.casesOn fun z q=>Mt ho hc hd UW XD hd2 (ra.d5▸rb.d5▸z) (EP.Yv R (Array.toList_append.symm▸ra.append rb) q)
 | Mult=>
  revert Va
  refine K5 q fun x q Va=>Va.uo fun a o n vs ho hc hd hp hn ra=>?_
  revert Vb
  exact fY q fun y q Vb=>Vb.dT fun u=>q.casesOn fun z h1 h2 q=>N6 ho hc hd (ra.d5▸z) h1 h2 (EP.Yv (vs:=List.toArray _) R (ra.rep _) q)
 | _=>exact v0 q
theorem Wb {op:Operator}{a b:MX}(ha:SE Z G cls a)(hb:SE Z G cls b):SE Z G cls (.rn op a b):=fun d C vt e F hc=>NJ hc fun l o r p hc=>cG hc fun h0 h1 h2=>dW h0 fun σ H s Q X R q=>
 wpAny_BinOp (ha.go F h1 (.here R) q fun _ _ _ _ S1 V1 _ q1=>hb.go F h2 S1 q1 fun _ _ _ _ S2 V2 z2 q2=>S2.mono (aeh S2.R (V1.mono z2) V2 q2))
end
section
variable {Z:Program}{G:Gd}{cls:Value}{d:Nat}{C:FC}{vt:List VK}{e:PySem.Expr}{σ σ':Sg}{H H0 H1 H3:AH}{s s0 s1 s':Shared}{X:AH→Prop}{m:MX}{A:Around}{E:Value→Shared→Prop}{ak:List Env}
theorem M7 {i:Nat}{x:Str}(R:Rep Z G C vt σ H s)(h:eE vt i x=true)(hf:∀y,vt[i]? ≠some (.c9 y)):(C.env.kindOf x=some .local∧vt[i]? =some (.loc x))∨(C.env.kindOf x=some .cell∧vt[i]? =some (.bF x)):=
 (gJ h).elim (fun e=>.inl ⟨(DP (R.at e)).1,e⟩) fun e=>e.elim (fun e=>.inr ⟨(LC (R.at e)).1,e⟩) fun e=>absurd e (hf _)
noncomputable def d8 (σ:Sg):List Nat→List AV→Sg
 | [],_=>σ
 | i::is,vs=>@List.casesOn AV (fun _=>Sg) vs σ fun v vs=>d8 (σ.set i (some v)) is vs
theorem Ln (j:Nat)(u:AV)(is:List Nat):∀(vs:List AV) (σ:Sg),j∉is→d8 (σ.set j (some u)) is vs=(d8 σ is vs).set j (some u):=by
 induction is with
 | nil=>exact fun _ _ _=>rfl
 | cons i is ih=>
  intro vs σ h
  cases vs with
  | nil=>rfl
  | cons v vs=>exact(congrArg (fun σ=>d8 σ is vs) (List.set_comm _ _ fun z:j=i=>h (z▸ .head _))).trans (ih vs _ fun z=>h (.tail _ z))
theorem FM (j:Nat)(u:AV)(is:List Nat):∀(vs:List AV) (σ:Sg),is.length=vs.length→d8 σ (is++[j]) (vs++[u])=(d8 σ is vs).set j (some u):=by
 induction is with
 | nil=>intro vs σ h;cases vs with
  | nil=>rfl
  | cons _ _=>exact nomatch h
 | cons i is ih=>intro vs σ h;cases vs with
  | nil=>exact nomatch h
  | cons v vs=>exact ih vs _ (Nat.succ.inj h)
theorem Lm (is:List Nat):∀(vs:List AV) (σ:Sg),is.Nodup→is.length=vs.length→d8 σ is.reverse vs.reverse=d8 σ is vs:=by
 induction is with
 | nil=>intro vs σ _ h;cases vs with
  | nil=>rfl
  | cons _ _=>exact nomatch h
 | cons i is ih=>intro vs σ hn h;cases vs with
  | nil=>exact nomatch h
  | cons v vs=>
   rw[List.nodup_cons] at hn
   rw[List.reverse_cons,List.reverse_cons,FM _ _ _ _ _ (by rw[List.length_reverse,List.length_reverse];exact Nat.succ.inj h),ih vs σ hn.2 (Nat.succ.inj h)]
   exact(Ln i v is vs σ hn.1).symm
@[elab_as_elim] theorem Ni {t:MT}{k:Nat→Option (List Nat)}{is:List Nat}{P:MT→Prop}(h:PL t k=some is)(f:∀i,k i=some is→P (.var i)):P t:=@MT.casesOn (fun t=>PL t k=some is→P t) t f (fun _ h=>nomatch h) (fun _ h=>nomatch h) (fun _ _ h=>nomatch h) (fun _ _ h=>nomatch h) h
theorem zQ:∀{vs:List AV} {l:qr} {is:List Nat} {σ:Sg} {Q:Sg→AH→Prop},uq l=some is→u5 Z G cls d l vs σ H Q→is.length=vs.length∧(∀i∈is,i<σ.length)∧Q (d8 σ is vs) H
 | [],.nil,is,σ,Q,h,q=>by cases h;exact⟨rfl,fun i hi=>(List.not_mem_nil hi).elim,VT.casesOn q fun _ q=>q⟩
 | v::vs,.nil,is,σ,Q,h,q=>VT.casesOn q fun h _=>nomatch h
 | [],.cons t r,is,σ,Q,h,q=>q.elim
 | v::vs,.cons t r,is,σ,Q,h,q=>Ni (P:=fun t=>i9 Z G cls d t v σ H (Wz (u5 Z G cls d r) vs Q)→_) h (fun i h q=>by
   obtain⟨js,hj,rfl⟩:=Option.map_eq_some_iff.mp h
   obtain⟨hi,q⟩:=q
   obtain⟨a,b,c⟩:=zQ hj q
   refine⟨congrArg Nat.succ a,fun k hk=>?_,c⟩
   rcases List.mem_cons.mp hk with rfl | hk
   ·exact hi
   ·exact(List.length_set▸b k hk)) q
theorem Sq (F:aW C d){Q:Sg→AH→Prop}{E:Value→Shared→Prop}:∀(ps:List (Nat×Str)) (vm:List AV) (vs:List Value) (σ:Sg) (H:AH) (s:Shared),(∀p∈ps,eE vt p.1 p.2=true∧∀y,vt[p.1]? ≠some (.c9 y))→ps.length=vm.length→Rep Z G C vt σ H s→am Z G.w H s.heap vm vs→
  (∀p∈ps,p.1<σ.length)→Q (d8 σ (ps.map (·.1)) vm) H→wpAny (model Z G.w) C.A (assignInOrder ((ps.map (·.2)).map fun n=>bindName C.env n) vs) (AP Z G C vt H s Q) E s:=by
 intro ps
 induction ps with
 | nil=>intro vm vs σ H s _ hl R V _ q;cases vm with
  | cons _ _=>exact nomatch hl
  | nil=>exact V.cn (wpAny_assignInOrder_none ((St.here R).ap q))
 | cons p ps ih=>intro vm vs σ H s hp hl R V hi q;cases vm with
  | nil=>exact nomatch hl
  | cons av vm=>
   refine V.bn fun v vs V Vs=>wpAny_assignInOrder_more (wpAny_bindName (wpAny_mono (Lq (Q:=fun σ' H'=>σ.set p.1 (some av)=σ'∧H=H') F R (hp p (.head _)).1 (hp p (.head _)).2 V (hi p (.head _)) ⟨rfl,rfl⟩) (fun _ s1 z=>AP.casesOn z fun σ1 H1 R1 x1 y1 z=>?_) fun _ _ z=>z))
   obtain⟨rfl,rfl⟩:=z
   exact wpAny_mono (ih vm _ _ _ s1 (fun p h=>hp p (.tail _ h)) (Nat.succ.inj hl) R1 (Vs.mono x1.bY) (fun p h=>by rw[List.length_set];exact hi p (.tail _ h)) q) (fun _ _ z=>AP.trans x1 y1 z) fun _ _ z=>z
theorem iG (F:aW C d):C.env.blockKind= .function:=by unfold Env.blockKind;rw[F.kind];rfl
theorem Oj {v:PySem.Expr}{x:Str}{p:Pos}{line:Nat}{env:Env}(e:(env.kindOf x==some .local)=false):swapsWith v (some (.Name x p)) line env=pure false:=by
 unfold swapsWith
 cases v<;>first | rfl | (dsimp only;rw[e,Bool.and_false,Bool.false_and,Bool.false_and])
theorem Lu {tg v:PySem.Expr}{t:MT}{line:Nat}(R:Rep Z G C vt σ H s)(cR:C.sc=C.env.scope)(ht:po G.gl C.sc vt t tg=true)(h:(!uh v||Wy vt t)=true):swapsWithSole [tg] v line C.env=pure false:=by
 show swapsWith v (some tg) line C.env=pure false
 refine TZ h (fun h=>gM (bz h)) fun h=>?_
 cases t with
 | var i=>
  refine aL ht fun x p hq=>aS hq fun h1 h2=>(M7 R h1 (uw h2)).elim (fun q=>?_) fun q=>Oj (q.1▸rfl)
  have :l6 vt i=true:=by unfold l6;rw[q.2];rfl
  exact nomatch this.symm.trans (bz h)
 | bb i=>exact aL ht fun x p hq=>aS hq fun h1 h2=>Oj (by show(C.env.scope.names.lookup x==_)=_;rw[←cR,eq_of_beq h2];rfl)
 | tup l=>exact jJ ht fun a b c _=>by cases v<;>rfl
 | idx a i=>exact ij ht fun a b c _=>by cases v<;>rfl
 | attr a nm=>exact gQ ht fun a b c _=>by cases v<;>rfl
@[elab_as_elim] theorem Yq {e:PySem.Expr}{x:Str}{P:PySem.Expr→Prop}(h:IC e=some x)(f:∀p,P (.Name x p)):P e:=by
 cases e with
 | Name y p=>cases h;exact f p
 | _=>exact nomatch h
theorem rq {gl:Gl}{sc:Scope}:∀{ts:List PySem.Expr} {l:qr} {is:List Nat} {names:List Str},uq l=some is→AT gl sc vt l ts=true→ts.map IC=names.map some→
  ∃ps:List (Nat×Str),is=ps.map (·.1)∧names=ps.map (·.2)∧∀p∈ps,eE vt p.1 p.2=true∧∀y,vt[p.1]? ≠some (.c9 y)
 | [],.cons _ _,_,_,_,c,_=>ff c
 | _::_,.nil,_,_,_,c,_=>ff c
 | _::_,.cons _ _,_,[],_,_,e=>nomatch e
 | [],.nil,_,_::_,_,_,e=>nomatch e
 | [],.nil,is,[],h,_,_=>by cases h;exact⟨[],rfl,rfl,fun p hp=>(List.not_mem_nil hp).elim⟩
 | e::ts,.cons t r,is,x::names,h,c,z=>cG c fun _ c2 c3=>by
  rw[List.map_cons,List.map_cons] at z
  revert c2
  refine Ni h fun i h c2=>?_
  obtain⟨js,hj,rfl⟩:=Option.map_eq_some_iff.mp h
  obtain⟨ps,e1,e2,hp⟩:=rq hj c3 (List.cons.inj z).2
  revert c2
  refine Yq (List.cons.inj z).1 fun p c2=>aS c2 fun c1 c2=>⟨(i,x)::ps,congrArg _ e1,congrArg _ e2,fun p h=>?_⟩
  rcases List.mem_cons.mp h with rfl | h
  ·exact⟨c1,uw c2⟩
  ·exact hp p h
theorem Ss {ts vs:List PySem.Expr}{k k':Nat}{tp vp:Pos}(F:aW C d)(cR:C.sc=C.env.scope)(h1:vs.all (fun e=>!isStar e)=true)(h2:vs.all (constantsAlone 8)=false):swappedStores [.Tuple ts k tp] (.Tuple vs k' vp) C.env=pure (uY C.sc ts vs):=by
 have iv:∀f:PySem.Expr→Bool,(∀e,f e=isStar e)→vs.any f=false:=fun f hf=>List.any_eq_false.mpr fun x hx=>by rw[hf x,bz (List.all_eq_true.mp h1 x hx)];exact Bool.false_ne_true
 have hb:(C.env.blockKind != .function)=false:=by rw[iG F];rfl
 have hnm:∀f:PySem.Expr→Option Str,(∀e,f e=nameP e fun id pos=>if C.sc.names.lookup id==some .local&&pos.line==(ts.head?.map (·.pos.line)).getD 0 then some id else none)→ts.filterMap f=Nl C.sc ts:=fun f hf=>congrArg (List.filterMap · ts) (funext hf)
 unfold uY
 show ite _ _ _=pure (ite _ _ _)
 rw[hb,Bool.or_false]
 by_cases c1:(!(ts.length==2||ts.length==3)||vs.length != ts.length)=true
 ·rw[if_pos c1,if_pos c1]
 rw[if_neg c1,if_neg c1]
 show ite _ _ _=pure (ite _ _ _)
 rw[if_neg (by rw[iv _ (fun e=>by cases e<;>rfl)];exact Bool.false_ne_true)]
 show ite _ _ _=pure (ite _ _ _)
 rw[hnm _ (fun e=>by rw[cR];cases e<;>rfl)]
 by_cases c2:((Nl C.sc ts).length != ts.length||(Nl C.sc ts).eraseDups.length != (Nl C.sc ts).length)=true
 ·rw[if_pos c2,if_pos c2]
 rw[if_neg c2,if_neg c2]
 show ite _ _ _=pure (ite _ _ _)
 by_cases c3:vs.all (foldedForSure 8)=true
 ·rw[if_pos c3,if_pos c3]
 rw[if_neg c3,if_neg c3]
 exact if_neg (by rw[h2];exact Bool.false_ne_true)
inductive SwR (Z:Program)(G:Gd)(C:FC)(v:PySem.Expr):MT→PySem.Expr→Prop
 | mk (l:qr) (ts:List PySem.Expr) (k:Nat) (tp:Pos) (is:List Nat) (names:List Str) (sw:swappedStores [.Tuple ts k tp] v C.env=pure (some names)) (hm:uq l=some is) (hn:is.Nodup) (hl:is.length=names.length) (hnm:ts.map IC=names.map some):SwR Z G C v (.tup l) (.Tuple ts k tp)
theorem Sr {tg v:PySem.Expr}{t:MT}(F:aW C d)(cR:C.sc=C.env.scope)(ht:po G.gl C.sc vt t tg=true)(h:storeOk C.sc t tg v=true):swappedStores [tg] v C.env=pure none∨SwR Z G C v t tg:=by
 cases t with
 | var i=>exact aL ht fun x p _=>.inl rfl
 | bb i=>exact aL ht fun x p _=>.inl rfl
 | idx a i=>exact ij ht fun x p q _=>.inl rfl
 | attr a nm=>exact gQ ht fun x p q _=>.inl rfl
 | tup l=>
  revert h
  refine jJ ht fun ts k tp _ h=>?_
  cases v with
  | Tuple vs k' vp=>
   refine cG h fun h1 h2 h3=>?_
   have key:=Ss (k:=k) (k':=k') (tp:=tp) (vp:=vp) (ts:=ts) F cR h1 (bz h2)
   cases hs:uY C.sc ts vs with
   | none=>rw[hs] at key;exact .inl key
   | some names=>
    rw[hs] at key h3
    obtain⟨is,hm,h3⟩:=dN h3
    exact .inr (cG h3 fun a b c=>⟨l,ts,k,tp,is,names,key,hm,of_decide_eq_true a,eq_of_beq b,eq_of_beq c⟩)
  | _=>exact .inl rfl
theorem notStar {t:MT}{tg:PySem.Expr}{gl:Gl}{sc:Scope}(h:po gl sc vt t tg=true):isStar tg=false:=by
 cases t with
 | var i=>exact aL h fun _ _ _=>rfl
 | bb i=>exact aL h fun _ _ _=>rfl
 | idx a i=>exact ij h fun _ _ _ _=>rfl
 | attr a nm=>exact gQ h fun _ _ _ _=>rfl
 | tup l=>exact jJ h fun _ _ _ _=>rfl
theorem aaR {t:MT}{e:MX}(ht:SA Z G cls t)(he:SE Z G cls e):SS Z G cls (.asg t e):=fun d C vt st F cR hc=>NI hc fun tg v pos hc=>sX hc fun h1 h2 h3 h4 σ H s Q X R q=>by
 rw[exec_Assign]
 refine wpAny_bind (wpAny_standAt ?_)
 rw[Lu R cR.1 h1 h4]
 refine wpAny_bind (wpAny_pure ?_)
 rw[if_neg (by decide)]
 refine wpAny_bind (he.st F h2 R q fun av vv H1 s1 S1 x1 V1 q1=>?_)
 rcases Sr (Z:=Z) F cR.1 h1 h3 with hw | hw
 ·rw[hw]
  refine wpAny_bind (wpAny_pure ?_)
  rw[eZ (notStar h1)]
  show wpAny (model Z G.w) C.A (do assignAll vv [assign tg C.env];pure Flow.next) _ _ _
  exact wpAny_bind (wpAny_mono (ht d C vt tg F h1 σ H1 s1 av vv _ _ S1.R V1 q1) (fun _ s2 z=>S1.ap z fun σ' H' S q=>wpAny_pure (S.sp q)) fun _ _ z=>z)
 ·revert h1
  refine SwR.casesOn (motive:=fun t tg _=>i9 Z G cls d t av σ H1 (Q .next)→po G.gl C.sc vt t tg=true→wpAny (model Z G.w) C.A (do assignStores C.env vv (←swappedStores [tg] v C.env) ((assignEach [tg] C.env).map (·.2))) (SP Z G C vt H s Q) (XS Z G cls C H s X) s1) hw (fun l ts k tp is names sw hm hn hl hnm q1 h1=>?_) q1
  rw[sw]
  refine wpAny_bind (wpAny_pure ?_)
  show wpAny _ _ (do rule "assign.swapped-stores";let items ←unpackItems vv names.length none;assignInOrder (names.reverse.map fun n=>bindName C.env n) items.reverse;pure Flow.next) _ _ s1
  revert V1
  refine Se q1 fun lv q1 V1=>V1.G4 fun a o n ws ho sf hd hnn r=>q1.casesOn fun _ q1=>?_
  obtain⟨ps,e1,e2,hp⟩:=rq hm h1 hnm
  obtain⟨a1,a2,a3⟩:=zQ hm q1
  refine wpAny_bind (wpAny_rule (wpAny_bind ?_))
  rw[show names.length=ws.size from hl.symm.trans (a1.trans r.d5)]
  refine wpAny_unpackItems_tuple F.handled ⟨o,ho,sf,n,hd⟩ fun h' hx=>?_
  have k:∀b o,s1.heap.get? b=some o→h'.get? b=some o:=fun b o e=>hx b o (cu e (Nat.le_refl _)) e
  subst e1 e2
  rw[←List.map_reverse]
  refine wpAny_bind (wpAny_mono (Sq F (Q:=fun σ' H'=>Q .next σ' H') ps.reverse _ _ σ H1 {s1 with heap:=h'} (fun p h=>hp p (List.mem_reverse.mp h)) (by rw[List.length_reverse,List.length_reverse,←a1,List.length_map]) (S1.R.grow (t:=s1.toks) k) (r.mono (bc.same k)).reverse
   (fun p h=>a2 _ (List.mem_map_of_mem (List.mem_reverse.mp h))) ?_) (fun _ s3 z=>Su.ap ⟨S1.R.grow (t:=s1.toks) k,S1.x.trans (Ext.grow k),S1.y.trans (aF.zb _ _)⟩ z fun σ' H' S q=>wpAny_pure (S.sp q)) fun _ _ z=>z)
  rw[List.map_reverse,Lm _ _ _ hn a1];exact a3
theorem wE {i:Nat}{x:Str}(h:eE vt i x=true)(h':l6 vt i=true):vt[i]? =some (.loc x):=(dN h').elim fun k q=>(gJ h).elim (fun e=>e) fun e=>e.elim (fun e=>by cases e.symm.trans q.1;exact ff q.2) fun e=>by cases e.symm.trans q.1;exact ff q.2
theorem We {i:Nat}{elt it:MX}{nms:List Str}{tg:MT}{bk:bA}(Ok:G.Ok)(hI:SE Z G cls it)(hT:SA Z G cls tg)(hE:SE Z G cls elt)(hC:iw Z G cls bk):SS Z G cls (.xA i elt nms tg it bk):=fun d C vt st F Ta hc=>GM hc fun x p v pos hc=>zP hc fun hx MV h0 l4 lZ=>by
 revert l4 lZ
 refine GO h0 fun xe t i' ifs a sc pos' sf l4 lZ=>jc sf fun ha hi0 cR h1 h2 h3=>?_
 obtain rfl:=eq_of_beq ha
 intro σ H s Q X R q
 have cs:=csR cR
 have el:vt[i]? =some (.loc x):=wE hx MV
 have hkx:C.env.kindOf x=some .local:=(DP (R.at el)).1
 have hsw:swapsWith (.ListComp xe [⟨t,i',ifs,0⟩] sc pos') (some (.Name x p)) pos.line C.env=pure true:=by
  unfold swapsWith
  simp only [iG F,hkx]
  rw[l4]
  have abB:(!(sc.names.any fun q=>q.1==x&&(q.2== .local||q.2== .cell)))=true:=lZ
  rw[abB]
  rfl
 rw[exec_Assign_Name_used _ _ _ _ hsw]
 refine wpAny_bind (wpAny_standAt (wpAny_bind ?_))
 show wpAny _ _ (do let _ ←comprehension (.ListComp xe [⟨t,i',ifs,0⟩] sc pos') sc C.env _ (newList []) false (eval i' C.env) (some (assign (.Name x p) C.env))) _ _ s
 refine wpAny_bind (wpAny_mono (wpAny_comprehension_free (use:=some (assign (.Name x p) C.env)) (Q:=fun _ s'=>SP Z G C vt H s Q .next s') (g:=⟨t,i',ifs,0⟩) (gs:=[]) rfl (rZ hi0) (fy (pP R cs)) cs.fn (fun x hx hl=>cs.loc x hx hl) ?_)
  (fun _ s' hq=>wpAny_pure (wpAny_pure hq)) fun _ _ e=>e)
 refine hI.st F hi0 R q fun av v H1 s1 S1 x1 V1 q1=>Pw Ok S1.R.g V1 q1 fun src o q2 here hz U0=>?_
 refine A2 (Q:=adh i σ (Q .next)) (RR:=fun acc L=>compPost (model Z G.w) C.A (XS Z G cls C H s X) (some (assign (.Name x p) C.env)) (fun _ s'=>SP Z G C vt H s Q .next s') acc L) hT hE hC F cs h1 h2 h3 S1.R here hz U0 q2 fun D L s2 z=>CB.casesOn z fun m ac H3 hm E5 MM gL R3 V3 x3 y3 qf=>?_
 show wpAny _ _ (assign (.Name x p) C.env (.ref D)) _ _ _
 refine wpAny_assign_Name (wpAny_mono (uW (Q:=fun σ' H'=>σ.set i (some (.lst ac))=σ'∧H3=H') F R3 el V3 ((qf H3 (Sub.refl _)).casesOn fun h _=>h) ⟨rfl,rfl⟩) (fun _ s4 z=>AP.casesOn z fun σ' H' R4 x4 y4 z=>?_) fun _ _ z=>z)
 obtain⟨rfl,rfl⟩:=z
 have nL:¬C.own L:=fun z=>nomatch (S1.R.own _ z).symm.trans MM
 refine⟨m,((x4.ns L E5).2 nL).ns hm,fun h' hs=>?_⟩
 have kb:=gz hs
 exact⟨_,H3.drop L,S1.R.ua (t:=s4.toks) MM R4 E5 kb,S1.x.trans (((x3.own.trans x4).but gL MM kb).drop MM),S1.y.trans (y3.trans (y4.trans (aF.zb _ _))),(qf _ (Sub.drop E5 rfl)).casesOn fun _ q=>q⟩
end
section
variable {Z:Program}{G:Gd}{cls:Value}{d:Nat}{C:FC}{vt:List VK}{e:PySem.Expr}{σ σ':Sg}{H H0 H1 H3:AH}{s s0 s1 s':Shared}{X:AH→Prop}{m:MX}{A:Around}{E:Value→Shared→Prop}{ak:List Env}
theorem A0 {a b:Int}{t u:Tok}{c:Value}{pos:Pos}{cv:Value}(l:List Value)(ok:TriplesOk l)(h:codeAmong pos (l++[.int a t,.int b u,c])=some cv):codeAmong pos l=some cv∨cv=c:=by
 fun_induction TriplesOk l with
 | case1=>
  simp only [List.nil_append,codeAmong] at h
  split at h
  ·cases h;exact .inr rfl
  ·cases h
 | case2 a1 t1 b1 u1 c1 rest ih=>
  simp only [List.cons_append,codeAmong] at h ⊢
  split at h
  ·rename_i z;rw[if_pos z];exact .inl h
  ·rename_i z;rw[if_neg z];exact ih ok h
 | case3 l h1 h2=>exact ok.elim
theorem Lw {a b:Int}{t u:Tok}{c:Value}(l:List Value)(ok:TriplesOk l):TriplesOk (l++[.int a t,.int b u,c]):=by
 fun_induction TriplesOk l with
 | case1=>trivial
 | case2 a1 t1 b1 u1 c1 rest ih=>exact ih ok
 | case3 l h1 h2=>exact ok.elim
theorem O2 {h:Heap}{c':Addr}{q:Str}(x:h.CodeRec (.ref c') q)(hn:H c'=none):cX H h (.ref c'):=by
 obtain⟨c,o,vs,t,e,h1,h2,h3⟩:=x
 cases e
 exact⟨_,o,vs,q,t,hn,h1,h2,h3⟩
theorem ww {P:Addr}{h h':Heap}(hP:H P=some .tab)(hx:Heap.ExtBut P h h'):bc H h H h':=fun a o hn ho=>⟨hn,hx a o (aA hP hn) ho⟩
theorem Xq {own:Addr→Prop}{P:Addr}{h h':Heap}(hP:H P=some .tab)(hx:Heap.ExtBut P h h')(hh:∃o,h'.get? P=some o):Ext own H h H h':=
 ⟨ww hP hx,fun a q=>⟨q,fun _ o ho=>⟨o.slots,hx a o (BH hP q T9) ho⟩⟩,fun a q=>⟨q,fun _ o ho=>hx a o (pK hP q Ik.symm) ho⟩,qc hx hh⟩
theorem au.tab {P:Addr}{h':Heap}{t:Nat}(R:au Z G ak H s)(hP:H P=some .tab)(hx:Heap.ExtBut P s.heap h')(ho:dj Z G.w G.gl H h' P .tab):au Z G ak H {s with heap:=h',toks:=t}:=
 ⟨fun b o e=>hx b o (R.Bg hP e) (R.keep b o e),fun b o e=>⟨(R.own b o e).1,@dite _ (b=P) _ (fun z=>by subst z;cases hP.symm.trans e;exact ho) fun z=>(R.own b o e).2.keep (ww hP hx) fun ob=>hx b ob z⟩,
  fun x E8=>(R.frames x E8).map fun L o _ c e=>⟨c,hx L o (BH hP c T9) e⟩,R.tabs⟩
theorem EP.func {h':Heap}{tk:Nat}{obj:Obj}{fd:FuncData}{c:zH}{aQ:List (Str×Addr)}{Q:AV→AH→Prop}(S:St Z G C vt σ H s H {s with heap:=h',toks:=tk})(n0:obj.isFreed=false)(hd:obj.data= .func fd)(ok:G8 G.gl fd c)(nZ:fd.closure=aQ)(hc:cX H h' fd.code)
  (q:∀f H',Sub H H'→H' f=some (.func c aQ)→Q (.ref f) H'):EP Z G C vt σ H s Q (.ref h'.objs.size) {s with heap:=h'.push obj,toks:=tk}:=
 EP.trans (s':={s with heap:=h',toks:=tk}) S.x S.y ⟨_,_,S.R.kept (t:=tk) (o:= .func c aQ) (ax _ _) (Nat.le_refl _) ⟨obj,fd,Heap.get?_push_size _ n0,hd,ok,nZ,hc.mono (jy (ax _ _) (Nat.le_refl _))⟩,.ref,Ext.new S.R.g (ax _ _) (Nat.le_refl _),aF.mk _ _ _,q _ _ (Sub.ci S.R.g.fresh) (AH.ag ..)⟩
theorem rk {sc:Scope}{aQ:List (Str×Nat)}(R:Rep Z G C vt σ H s)(h1:((freeNames sc).reverse==aQ.map (·.1))=true)(h2:(aQ.all fun p=>wD vt p.2 p.1)=true):closureFor sc C.env=pure (lS aQ σ):=by
 have h1:=eq_of_beq h1
 have at':∀p∈aQ,∃c,C.env.cells.lookup p.1=some c∧σ[p.2]? =some (some (.ref c)):=fun p hp=>R.k.sc _ _ (qg (List.all_eq_true.mp h2 p hp))
 rw[fy fun x hx=>?_]
 ·rw[←List.map_reverse,h1,List.map_map]
  refine congrArg pure (List.map_congr_left fun p hp=>(at' p hp).elim fun c e=>?_)
  show(p.1,_)=(p.1,_)
  rw[e.1,e.2];rfl
 ·have :x∈aQ.map (·.1):=h1▸List.mem_reverse.mpr hx
  obtain⟨p,hp,rfl⟩:=List.mem_map.mp this
  exact(at' p hp).elim fun c e=>⟨c,e.1⟩
theorem ri (aQ:List (Str×Nat))(σ:Sg):(lS aQ σ).map (·.1)=aQ.map (·.1):=by unfold lS;rw[List.map_map];rfl
inductive SD (Z:Program)(G:Gd)(C:FC)(H:AH)(s:Shared):Prop
 | mk (c P:Addr) (ps:Array Value) (e:C.env.code= .ref c) (hd:CodeHd s.heap c P) (hP:H P=some .tab) (e2:s.heap.get? P=some (tabObj ps)) (e3:TriplesOk ps.toList) (e4:∀pos cv,codeAmong pos ps.toList=some cv→cX H s.heap cv) (g1:mainGlobals≠P) (g2:s.heap.Ns mainGlobals G.mg) (g3:s.heap.BuiltinsAt G.mg P):SD Z G C H s
theorem G1 (Ok:G.Ok)(R:Rep Z G C vt σ H s)(h:vt.any dR=true):SD Z G C H s:=by
 obtain⟨c,P,e1,hd,hm⟩:=R.k.xR h
 have hP:=R.g.tabs P hm
 obtain⟨ps,e2,e3,e4⟩:=(R.g.own _ _ hP).2
 obtain⟨g1,g2⟩:=Ok.aiQ P hm
 obtain⟨bm,ob,b1,b2,b3,b4,b5⟩:=Ok.bmain
 exact⟨c,P,ps,e1,hd.keeps R.g.keep,hP,e2,e3,e4,g1.symm,Ok.T.g.keeps R.g.keep,bm,ob,b1,b2,b3,(zx g2 b4),R.g.keep _ _ b4,b5⟩
theorem newCode {h':Heap}{tk:Nat}{P c':Addr}{tp:Array Value}{q:Str}{a b:Int}{t u:Tok}(R:Rep Z G C vt σ H s)(hP:H P=some .tab)(e3:TriplesOk tp.toList)(e4:∀pos cv,codeAmong pos tp.toList=some cv→cX H s.heap cv)(hx:Heap.ExtBut P s.heap h')(XN:s.heap.objs.size≤c')
  (MY:h'.CodeRec (.ref c') q) (MZ:h'.get? P=some (tabObj (tp++#[.int a t,.int b u,.ref c']))):St Z G C vt σ H s H {s with heap:=h',toks:=tk}∧cX H h' (.ref c'):=by
 have uc:=O2 MY (R.g.dw XN)
 have oP:dj Z G.w G.gl H h' P .tab:=⟨_,MZ,by rw[Array.toList_append];exact Lw _ e3,fun pos' cv z=>by
  rw[Array.toList_append] at z
  rcases A0 _ e3 z with z | rfl
  ·exact(e4 _ _ z).mono (ww hP hx)
  ·exact uc⟩
 have x':Ext noOwn H s.heap H h':=Xq hP hx ⟨_,MZ⟩
 exact⟨⟨R.step (s':={s with heap:=h',toks:=tk}) x' (R.g.tab (t:=tk) hP hx oP),x',aF.mk _ _ _⟩,uc⟩
theorem NG {h':Heap}{tk:Nat}(R:Rep Z G C vt σ H s)(hk:∀b o,s.heap.get? b=some o→h'.get? b=some o):St Z G C vt σ H s H {s with heap:=h',toks:=tk}:=⟨R.grow (t:=tk) hk,Ext.grow hk,aF.mk _ _ _⟩
theorem SH {a b c d e f g h:Bool}{P:Prop}(z:(a&&b&&c&&d&&e&&f&&g&&h)=true)(y:a=true→b=true→c=true→d=true→e=true→f=true→g=true→h=true→P):P:=cG z fun z g h=>jc z fun a b c d e f=>y a b c d e f g h
theorem ib {α:Type}{l:List α}(h:l.isEmpty=true):l=[]:=List.isEmpty_iff.mp h
theorem Mu {sc:Scope}{aQ ps:List Str}(h:gO sc aQ ps vt=true):((freeNames sc).reverse==aQ)=true:=jc h fun h _ _ _ _ _=>sX h fun _ _ _ h=>h
theorem aaI {aQ:List (Str×Nat)}{ps:List Str}{sQ:List VK}{body:MX}(Ok:G.Ok):SE Z G cls (.lam aQ ps sQ body):=fun d C vt e F hc=>Zj hc fun args b sc pos hc=>zP hc fun ht hp hs XG hb σ H s Q X R q=>by
 refine SD.casesOn (G1 Ok R ht) fun c P tp e1 hd hP e2 e3 e4 g1 g2 g3=>?_
 have MN:=rk R (Mu hs) XG
 have XI:defaultsOf args C.env=([],[]):=SH hp fun _ _ _ _ _ h1 _ h2=>by
  obtain⟨p1,p2,p3,p4,p5,p6,p7⟩:=args
  cases ib h1;cases ib h2
  rfl
 have Y9:∀fd:FuncData,fd.globals=mainGlobals→fd.builtins=builtinsNs→fd.defaults= .none→fd.kwdefaults= .none→fd.params=args→fd.scope=sc→fd.body= .expr b→fd.closure=lS aQ σ→G8 G.gl fd (.expr ps sQ body):=fun fd a1 a2 a3 a4 a5 a6 a7 a8=>
  ⟨a1,a2,a3,a4,a5▸hp,by rw[a6,a8,ri];exact hs,b,a7,a6▸hb⟩
 refine kla_eval XI ?_
 cases hf:codeAmong pos tp.toList with
 | none=>
  refine kla_makeFunction (mg:=G.mg) MN F.globals g2 e1 hd e2 e3 hf g1 g3 fun c' ctv h' tk hx XN hM MY MZ=>?_
  obtain⟨S,uc⟩:=newCode (tk:=tk) R hP e3 e4 hx XN MY MZ
  exact EP.func S rfl rfl (Y9 _ rfl rfl rfl rfl rfl rfl rfl rfl) rfl uc q
 | some cv=>exact kla_makeFunctionHit (mg:=G.mg) MN F.globals g2 e1 hd e2 e3 hf g3 fun ctv h' tk hk UX=>EP.func (NG R hk) rfl rfl (Y9 _ rfl rfl rfl rfl rfl rfl rfl rfl) rfl ((e4 _ _ hf).mono (bc.same hk)) q
theorem Ww {p:List Arg}{env:Env}(h:p.all (·.annotation.isNone)=true):annotationsOf p env=[]:=by
 induction p with
 | nil=>rfl
 | cons a r ih=>
  rw[List.all_cons] at h
  refine aS h fun h1 h2=>?_
  obtain⟨n,an,ps⟩:=a
  cases an with
  | none=>exact ih h2
  | some _=>exact ff h1
theorem Wf {i:Nat}{aQ:List (Str×Nat)}{ps:List Str}{sQ:List VK}{body:ah}(Ok:G.Ok):SS Z G cls (.defn i aQ ps sQ body):=fun d C vt st F cR hc=>Zf hc fun nm args b sc bind pos hc=>aS hc fun hc hb=>aS hc fun hc XG=>jc hc fun hnb ht hl MV hp hs σ H s Q X R q=>by
 obtain⟨hi,q⟩:=q
 cases eq_of_beq hnb
 refine SD.casesOn (G1 Ok R ht) fun c P tp e1 hd hP e2 e3 e4 g1 g2 g3=>?_
 have MN:=rk R (Mu hs) XG
 have Y9:∀fd:FuncData,fd.globals=mainGlobals→fd.builtins=builtinsNs→fd.defaults= .none→fd.kwdefaults= .none→fd.params=args→fd.scope=sc→fd.body= .stmts b→fd.closure=lS aQ σ→G8 G.gl fd (.stmts ps sQ body):=fun fd a1 a2 a3 a4 a5 a6 a7 a8=>
  ⟨a1,a2,a3,a4,a5▸hp,by rw[a6,a8,ri];exact hs,b,a7,a6▸hb⟩
 have el:=wE hl MV
 have fin:∀v s1,EP Z G C vt σ H s (fun v H'=>Q .next (σ.set i (some v)) H') v s1→wpAny (model Z G.w) C.A (storeName C.env nm v) (fun _ dD=>SP Z G C vt H s Q .next dD) (XS Z G cls C H s X) s1:=fun v s1 z=>EP.casesOn z fun av H1 R1 V1 x1 y1 q1=>
  wpAny_mono (uW (Q:=fun σ' H'=>Q .next σ' H') F R1 el V1 hi q1) (fun _ s2 z=>Su.ap ⟨R1,x1.own,y1⟩ z fun σ' H' S q=>S.sp q) fun _ _ z=>z
 refine SH hp fun p1 p2 p3 p4 p5 p6 p7 p8=>nestDef_K (ib p8) (ib p6) ?_ ?_
 ·obtain⟨a1,a2,a3,a4,a5,a6,a7⟩:=args
  cases ib p1;cases ib p5;cases Option.isNone_iff_eq_none.mp p4;cases Option.isNone_iff_eq_none.mp p7
  show annotationsOf (a2++[]++[]++[]++[]) C.env++[]=[]
  rw[List.append_nil,List.append_nil,List.append_nil,List.append_nil,List.append_nil];exact Ww p3
 cases hf:codeAmong pos tp.toList with
 | none=>
  refine makeFunction_K (mg:=G.mg) MN F.globals g2 e1 hd e2 e3 hf g1 g3 fun c' ctv doc h' tk hx XN hM MY MZ=>?_
  obtain⟨S,uc⟩:=newCode (tk:=tk) R hP e3 e4 hx XN MY MZ
  exact fin _ _ (EP.func S rfl rfl (Y9 _ rfl rfl rfl rfl rfl rfl rfl rfl) rfl uc q)
 | some cv=>exact makeFunction_hit (mg:=G.mg) MN F.globals g2 e1 hd e2 e3 hf g3 fun ctv doc h' tk hk UX=>fin _ _ (EP.func (NG R hk) rfl rfl (Y9 _ rfl rfl rfl rfl rfl rfl rfl rfl) rfl ((e4 _ _ hf).mono (bc.same hk)) q)
end
end
section
set_option backward.match.sparseCases false
set_option genSizeOf false
set_option genInjectivity false
section
variable {Z:Program}{G:Gd}{cls:Value}{d:Nat}{C:FC}{vt:List VK}{e:PySem.Expr}{σ σ':Sg}{H H0 H1 H3:AH}{s s0 s1 s':Shared}{X:AH→Prop}{m:MX}{A:Around}{E:Value→Shared→Prop}{ak:List Env}
theorem Be {h h':Heap}{a b:Addr}{o o':AO}(k:∀b o,h.get? b=some o→h'.get? b=some o)(ha:h.objs.size≤a)(hb:h.objs.size≤b):bc H h ((H.set a o).set b o') h':=
 fun c ob hn hc=>⟨(AH.ae _ _ (cu hc hb)).trans ((AH.ae _ _ (cu hc ha)).trans hn),k c ob hc⟩
theorem au.T3 {a b c:Addr}{o o' q:AO}(R:au Z G ak H s)(ha:s.heap.objs.size≤a)(hb:s.heap.objs.size≤b)(e:H c=some q):((H.set a o).set b o') c=some q:=
 (AH.ae _ _ (Nat.ne_of_lt (Nat.lt_of_lt_of_le (R.lt e) hb))).trans (R.set ha e)
theorem au.Nj {h':Heap}{t:Nat}{a b:Addr}{o o':AO}(R:au Z G ak H s)(k:∀b o,s.heap.get? b=some o→h'.get? b=some o)(ha:s.heap.objs.size≤a)(hb:s.heap.objs.size≤b)(hab:a≠b)
  (ho:dj Z G.w G.gl ((H.set a o).set b o') h' a o) (iY:dj Z G.w G.gl ((H.set a o).set b o') h' b o'):au Z G ak ((H.set a o).set b o') {s with heap:=h',toks:=t}:=
 ⟨fun c ob e=>k c ob (R.keep c ob e),fun c ob e=>io (P:=fun c ob=>G.hb.get? c=none∧dj Z G.w G.gl ((H.set a o).set b o') h' c ob) e ⟨R.Id hb,iY⟩ fun _ e=>io (P:=fun c ob=>G.hb.get? c=none∧dj Z G.w G.gl ((H.set a o).set b o') h' c ob) e ⟨R.Id ha,ho⟩ fun _ e=>⟨(R.own c ob e).1,(R.own c ob e).2.keep (Be k ha hb) (k c)⟩,
  fun e he=>(R.frames e he).map fun L o _ c d=>⟨R.T3 ha hb c,k L o d⟩,fun P hP=>R.T3 ha hb (R.tabs P hP)⟩
theorem Ext.Nj {own:Addr→Prop}{h':Heap}{a b:Addr}{o o':AO}(R:au Z G ak H s)(k:∀b o,s.heap.get? b=some o→h'.get? b=some o)(ha:s.heap.objs.size≤a)(hb:s.heap.objs.size≤b):Ext own H s.heap ((H.set a o).set b o') h':=
 ⟨Be k ha hb,fun c e=>⟨R.T3 ha hb e,fun _ ob q=>⟨ob.slots,k c ob q⟩⟩,fun c e=>⟨R.T3 ha hb e,fun _ ob hc=>k c ob hc⟩,fun c ob e=>⟨ob,k c ob e⟩⟩
theorem stored_new {kvs:List (Int×Value)}{k:Int}{v:Value}(h:∀p∈kvs,p.1<k):stored kvs k v=kvs++[(k,v)]:=if_neg fun z=>by
 obtain⟨p,hp,e⟩:=List.any_eq_true.mp z
 exact Int.ne_of_lt (h p hp) (of_decide_eq_true e)
theorem Ms {RR:Result→Shared→Prop}{kx vx target iter:PySem.Expr}{ifs:List PySem.Expr}{scope:Scope}{pos:Pos}{it:Value}{D:Addr}{env:Env}(I:Nat→Shared→Prop)
  (turn:∀E n s,I n s→wpAny (model Z G.w) A (pyNext it) (fun r s₁=>@Option.casesOn Value (fun _=>Prop) r (RR (.ok .next) s₁)
   fun v=>wpAny (model Z G.w) A (letOwnedTupleGo target it v) (fun _ s₀=>wpAny (model Z G.w) A (assign target env v) (fun _ s₂=>
     wpAny (model Z G.w) A (forIn ifs true fun c r=>if r=true then do let ok ←isTrue c env (eval c env);pure (ForInStep.yield ok) else pure (ForInStep.yield r)) (fun ok s₃=>
      @Bool.casesOn (fun _=>Prop) ok (∃m,m<n∧I m s₃) (wpAny (model Z G.w) A (eval kx env) (fun kv s₄=>wpAny (model Z G.w) A (eval vx env) (fun vv s₅=>
       wpAny (model Z G.w) A (dictSet D kv vv) (fun _ s₆=>∃m,m<n∧I m s₆) E s₅) E s₄) E s₃)) E s₂) E s₀) E s₁) E s)
  (n:Nat) (h:I n s):
  codeAny (model Z G.w) A (.compLoop (.DictComp kx vx [⟨target,iter,ifs,0⟩] scope pos) 0 it (.ref D) env) RR s:=by
 refine codeAny_loop rfl I (fun n s hI=>?_) n h
 show wpAny _ A ((compTurn (.DictComp kx vx [⟨target,iter,ifs,0⟩] scope pos) 0 it (.ref D) env).onRaise (fun x=>do noteFrame x env;theTreesLotGoes x)) _ _ s
 refine wpAny_noted ?_
 rw[compTurn_dict]
 refine wpAny_bind (wpAny_standAt (wpAny_bind (wpAny_mono (turn _ n s hI) (fun r s₁=>?_) fun _ _ h'=>h')))
 cases r with
 | none=>exact fun h₁=>wpAny_pure h₁
 | some v=>
  refine fun h₁=>wpAny_bind (wpAny_mono h₁ (fun _ s₀ h₀=>?_) fun _ _ h'=>h')
  refine wpAny_bind (wpAny_mono h₀ (fun _ s₂ h₂=>wpAny_bind (wpAny_mono h₂ (fun ok s₃=>?_) fun _ _ h'=>h')) fun _ _ h'=>h')
  cases ok with
  | false=>exact fun h₃=>wpAny_pure ⟨rfl,h₃⟩
  | true=>
   exact fun h₃=>wpAny_bind (wpAny_bind (wpAny_mono h₃ (fun kv s₄ h₄=>wpAny_bind (wpAny_holding (wpAny_mono h₄ (fun vv s₅ h₅=>wpAny_bind (wpAny_standAt (wpAny_holding (wpAny_mono h₅ (fun _ s₆ h₆=>wpAny_pure ⟨rfl,h₆⟩) fun _ _ h'=>h')))) fun _ _ h'=>h'))) fun _ _ h'=>h'))
noncomputable def Kp (a b c e:Addr)(h h':Heap):Prop:=∀x o,x≠a→x≠b→x≠c→x≠e→h.get? x=some o→h'.get? x=some o
inductive EL (Z:Program)(G:Gd)(en it l D L:Addr)(vs:Array Value)(xs:List Int)(s:Shared):Nat→Shared→Prop
 | mk (k:Nat) (hh:Heap) (tk:Nat) (m:Str→Option Value) (kvs:List (Int×Value)) (hk:k≤xs.length) (st:(∃old,IsEnum hh en it k old)∧hh.IsListIter it l k∧hh.IsList l vs) (gf:hh.Ns L m) (hd:hh.DictOf (intKind Z G.w) D kvs)
   (hB:∀H h ul,aG Z G.w H h (cL k (xs.drop k)) ul→aG Z G.w H h (cL 0 xs) (kvs++ul)) (hM:∀p∈kvs,p.1<(k:Int)) (hz:kvs.length≤k) (keep:Kp en it D L s.heap hh):EL Z G en it l D L vs xs s (xs.length+1-k) {s with heap:=hh,toks:=tk}
inductive SB (Z:Program)(G:Gd)(en it l D L:Addr)(vs:Array Value)(xs:List Int)(s:Shared):Prop
 | mk (hei:en≠it) (hle:l≠en) (hli:l≠it) (UR:D≠en) (US:D≠it) (hDl:D≠l) (Xy:L≠en) (Xz:L≠it) (hLl:L≠l) (Ib:D≠L) (UY:IntsAre vs.toList xs) (hz:xs.length≤1000)
  (h0:IsEnum s.heap en it 0 .none) (h1:s.heap.IsListIter it l 0) (h2:s.heap.IsList l vs) (m:Str→Option Value) (h3:s.heap.Ns L m) (h4:s.heap.DictOf (intKind Z G.w) D [])
theorem Fq {a b c:Addr}(h:c≠a)(h':c≠b):c∉[a,b]:=fun z=>(List.mem_cons.mp z).elim h fun z=>h' (List.mem_singleton.mp z)
theorem in3 {a b c x:Addr}{P:Addr→Prop}(h:x∈[a,b,c])(h1:P a)(h2:P b)(h3:P c):P x:=(List.mem_cons.mp h).elim (fun z=>z▸h1) fun h=>(List.mem_cons.mp h).elim (fun z=>z▸h2) fun z=>List.mem_singleton.mp z▸h3
theorem drop_cons {xs:List Int}{k:Nat}(h:k<xs.length):xs.drop k=xs.getD k 0::xs.drop (k+1):=by
 rw[List.drop_eq_getElem_cons h,List.getD_eq_getElem?_getD,List.getElem?_eq_getElem h];rfl
theorem adW {n k:Nat}(h:k<n):n+1-(k+1)<n+1-k:=Nat.sub_lt_sub_left (Nat.lt_succ_of_lt h) (Nat.lt_succ_self k)
theorem Mx {en it l D L:Addr}{vs:Array Value}{xs:List Int}{s:Shared}{k:Nat}{hh:Heap}{tk:Nat}{m:Str→Option Value}{kvs:List (Int×Value)}(hk:k<xs.length)(st:(∃old,IsEnum hh en it (k+1:Nat) old)∧hh.IsListIter it l (k+1)∧hh.IsList l vs)(gf:hh.Ns L m)(hd:hh.DictOf (intKind Z G.w) D kvs)
   (hB:∀H h ul,aG Z G.w H h (cL (k+1) (xs.drop (k+1))) ul→aG Z G.w H h (cL 0 xs) (kvs++ul)) (hM:∀p∈kvs,p.1<((k+1:Nat):Int)) (hz:kvs.length≤k+1) (keep:Kp en it D L s.heap hh):∃n,n<xs.length+1-k∧EL Z G en it l D L vs xs s n {s with heap:=hh,toks:=tk}:=
 ⟨_,adW hk,.mk _ _ _ _ _ hk st gf hd hB hM hz keep⟩
theorem GB {kvs:List (Int×Value)}{k:Nat}(h:∀p∈kvs,p.1<(k:Int)):∀p∈kvs,p.1<((k+1:Nat):Int):=fun p hp=>Int.lt_trans (h p hp) (Int.ofNat_lt.mpr (Nat.lt_succ_self k))
theorem UH {na nb:Str}{p1 p2 p3 p4 p5:Pos}{k1:Nat}{en it l D:Addr}{env:Env}{vs:Array Value}{xs:List Int}{m:Str→Option Value}{kvs:List (Int×Value)}{k:Nat}{h:Heap}{tk:Nat}{t u:Tok}
  (ha:env.kindOf na=some .local) (hb:env.kindOf nb=some .local) (hk:env.scope.kind= .function) (hda:(na==("__debug__":Str))=false) (hdb:(nb==("__debug__":Str))=false)
  (O:SB Z G en it l D env.locals vs xs s) (XO:k<xs.length) (st:(∃old,IsEnum h en it (k+1:Nat) old)∧h.IsListIter it l (k+1)∧h.IsList l vs) (gf:h.Ns env.locals m) (hva:m na=some (.int k t)) (hvb:m nb=some (.int (xs.getD k 0) u)) (hd:h.DictOf (intKind Z G.w) D kvs)
   (hB:∀H h ul,aG Z G.w H h (cL k (xs.drop k)) ul→aG Z G.w H h (cL 0 xs) (kvs++ul)) (hM:∀p∈kvs,p.1<(k:Int)) (hz:kvs.length≤k) (keep:Kp en it D env.locals s.heap h) (W:∀h h',(∃old,IsEnum h en it (k+1:Nat) old)∧h.IsListIter it l (k+1)∧h.IsList l vs→(∀b∈[en,it,l],∀o,h.get? b=some o→h'.get? b=some o)→(∃old,IsEnum h' en it (k+1:Nat) old)∧h'.IsListIter it l (k+1)∧h'.IsList l vs):
  wpAny (model Z G.w) A (forIn [.Compare (.Name nb p1) [.Gt] [.Constant (.int 0) k1 p2] p3] true fun c r=>if r=true then do let ok ←isTrue c env (eval c env);pure (ForInStep.yield ok) else pure (ForInStep.yield r)) (fun ok s₃=>
      @Bool.casesOn (fun _=>Prop) ok (∃n,n<xs.length+1-k∧EL Z G en it l D env.locals vs xs s n s₃) (wpAny (model Z G.w) A (eval (.Name na p4) env) (fun kv s₄=>wpAny (model Z G.w) A (eval (.Name nb p5) env) (fun vv s₅=>
       wpAny (model Z G.w) A (dictSet D kv vv) (fun _ s₆=>∃n,n<xs.length+1-k∧EL Z G en it l D env.locals vs xs s n s₆) E s₅) E s₄) E s₃)) E {s with heap:=h,toks:=tk}:=by
 rw[List.forIn_cons]
 refine wpAny_bind (wpAny_bind (wpAny_isTrue_Compare1 (wpAny_Name (wpAny_loadName_local hk hb gf hvb (wpAny_Constant_int (gt_int (wpAny_truthy_bool (wpAny_pure (wpAny_pure ?_)))))) hdb) rfl))
 rw[drop_cons XO,cL] at hB
 refine@dite _ (0<xs.getD k 0) _ (fun c=>?_) fun c=>?_
 ·rw[decide_eq_true c]
  rw[if_pos c] at hB
  refine wpAny_Name (wpAny_loadName_local hk ha gf hva (wpAny_Name (wpAny_loadName_local hk hb gf hvb ?_) hdb)) hda
  refine SB.casesOn O fun _ _ _ UR US hDl _ _ _ Ib _ hx _ _ _ _ _ _=>wpAny_dictSet_pairs (k:=(k:Int)) (intKind_is _ _ _ _) hd (fun h6 XH XV=>?_) (by rw[sizeLine_eq];lia)
  rw[stored_new hM] at XH
  refine Mx XO (W _ h6 st fun b hb o e=>(XV.2 b (in3 (P:=fun b=>b≠D) hb UR.symm US.symm hDl.symm)).trans e) (gf.sameBut XV Ib.symm) XH (fun H h ul r=>?_) (fun p hp=>?_) ?_ fun b o z1 z2 z3 z4 z=>(XV.2 b z3).trans (keep b o z1 z2 z3 z4 z)
  ·rw[List.append_assoc];exact hB H h _ (.cons .int r)
  ·rcases List.mem_append.mp hp with hp | hp
   ·exact GB hM p hp
   ·rw[List.mem_singleton.mp hp];exact Int.ofNat_lt.mpr (Nat.lt_succ_self k)
  ·rw[List.length_append];exact Nat.succ_le_succ hz
 ·rw[decide_eq_false c]
  rw[if_neg c] at hB
  exact Mx XO st gf hd hB (GB hM) (Nat.le_succ_of_le hz) keep
theorem UI {RR:Result→Shared→Prop}{na nb:Str}{p1 p2 p3 p4 p5 p6 p7 p8:Pos}{k1 k2:Nat}{iter:PySem.Expr}{scope:Scope}{pos:Pos}{en it l D:Addr}{env:Env}{vs:Array Value}{xs:List Int}(hh:A.handled=none)
  (ha:env.kindOf na=some .local) (hb:env.kindOf nb=some .local) (hk:env.scope.kind= .function) (hab:na≠nb) (hda:(na==("__debug__":Str))=false) (hdb:(nb==("__debug__":Str))=false)
  (O:SB Z G en it l D env.locals vs xs s)
  (hR:∀h' tk m kvs,h'.Ns env.locals m→h'.DictOf (intKind Z G.w) D kvs→(∀H h,aG Z G.w H h (cL 0 xs) kvs)→Kp en it D env.locals s.heap h'→RR (.ok .next) {s with heap:=h',toks:=tk}):
  codeAny (model Z G.w) A (.compLoop (.DictComp (.Name na p1) (.Name nb p2) [⟨.Tuple [.Name na p3,.Name nb p4] k1 p5,iter,[.Compare (.Name nb p6) [.Gt] [.Constant (.int 0) k2 p7] p8],0⟩] scope pos) 0 (.ref en) (.ref D) env) RR s:=by
 have O':=O
 cases O with | mk hei hle hli UR US hDl Xy Xz hLl Ib UY hz h0 h1 h2 m0 h3 h4
 have hp:(env.scope.kind== .class||(env.scope.kind== .module&&env.locals != env.globals))=false:=by rw[hk];rfl
 have W:=WalksT.enumerate (prog:=Z) (w:=G.w) hh en it l hei hle hli vs
 refine Ms (EL Z G en it l D env.locals vs xs s) (fun E n s' I=>EL.casesOn I fun k h0 tk m kvs XO st gf hd hB hM hkz keep=>?_) _ (.mk 0 s.heap s.toks _ [] (Nat.zero_le _) ⟨⟨_,h0⟩,h1,h2⟩ h3 h4 (fun _ _ _ r=>r) (fun _ z=>nomatch z) (Nat.le_refl _) fun _ _ _ _ _ _ z=>z)
 refine(Nat.lt_or_eq_of_le XO).elim (fun MR=>?_) fun e=>?_
 ·refine W.item k _ _ _ (Nat.lt_of_lt_of_eq MR UY.length.symm) st fun T vals h1' tk1 hP hT hIT mid kk1=>?_
  obtain⟨t,x,hx,rfl⟩:=hP
  refine W.go _ _ _ k T _ _ _ mid fun ML st2 kk2=>?_
  have agD:ML.IsTuple T #[.int k t,x]:=hIT.at fun o a=>kk2 T o (Fq mid.2.2.2.1 mid.2.2.2.2) a
  have ag7:ML.Ns env.locals m:=gf.at' fun o z=>kk2 _ o (Fq Xy Xz) (kk1 _ o (Fq Xy Xz) z)
  refine wpAny_assign_Tuple hh agD rfl rfl fun h3' hx3=>?_
  have Vz:∀{b o},ML.get? b=some o→h3'.get? b=some o:=fun e=>hx3 _ _ (Nat.ne_of_lt (Heap.lt_size e)) e
  refine wpAny_assignInOrder_more (wpAny_assign_Name (wpAny_storeName_local ha (ag7.at' fun o z=>Vz z) (fun h4' hn4 hs4=>?_) hp))
  refine wpAny_assignInOrder_more (wpAny_assign_Name (wpAny_storeName_local hb hn4 (fun h5' hn5 hs5=>?_) hp))
  have k5:∀b o,b≠env.locals→ML.get? b=some o→h5'.get? b=some o:=fun b o hb e=>(hs5.2 b hb).trans ((hs4.2 b hb).trans (Vz e))
  obtain⟨u,rfl⟩:=M2 UY (Array.getElem?_toList.trans hx)
  exact wpAny_assignInOrder_none (UH ha hb hk hda hdb O' MR (W.frame _ _ h5' st2 fun b hb o e=>k5 b o (in3 (P:=fun b=>b≠env.locals) hb Xy.symm Xz.symm hLl.symm) e) hn5 ((if_neg hab).trans (if_pos rfl)) (if_pos rfl) (hd.at fun o z=>k5 D o Ib (kk2 D o (Fq UR US) (kk1 D o (Fq UR US) z))) hB hM hkz
   (fun b o z1 z2 z3 z4 z=>k5 b o z4 (kk2 b o (Fq z1 z2) (kk1 b o (Fq z1 z2) (keep b o z1 z2 z3 z4 z)))) (W.frame (k+1)))
 ·subst e
  refine W.done _ _ _ (UY.length▸st:(∃old,IsEnum h0 en it vs.toList.length old)∧h0.IsListIter it l vs.toList.length∧h0.IsList l vs) fun h' VF kk=>?_
  exact hR h' VF m kvs (gf.at' fun o z=>kk _ o (Fq Xy Xz) z) (hd.at fun o z=>kk D o (Fq UR US) z) (fun H h=>by have :=hB H h [];rw[List.drop_of_length_le (Nat.le_refl _),List.append_nil] at this;exact this .nil) fun b o z1 z2 z3 z4 z=>kk b o (Fq z1 z2) (keep b o z1 z2 z3 z4 z)
end
end
section
set_option backward.match.sparseCases false
section
variable {Z:Program}{G:Gd}{cls:Value}{d:Nat}{C:FC}{vt:List VK}{e:PySem.Expr}{σ σ':Sg}{H H0 H1 H3:AH}{s s0 s1 s':Shared}{X:AH→Prop}{m:MX}{A:Around}{E:Value→Shared→Prop}{ak:List Env}
theorem Xf {n l:Nat}{vs:Array Value}{xs:List Int}{m:Str→Option Value}(hl:l<n)(UY:IntsAre vs.toList xs)(hz:xs.length≤1000)(h0:IsEnum s.heap (n+1) n 0 .none)(h1:s.heap.IsListIter n l 0)(h2:s.heap.IsList l vs)(h3:s.heap.Ns (n+3) m)(h4:s.heap.DictOf (intKind Z G.w) (n+2) []):SB Z G (n+1) n l (n+2) (n+3) vs xs s:=
 have g:∀k,n+k≠l:=fun k=>Nat.ne_of_gt (Nat.lt_of_lt_of_le hl (Nat.le_add_right n k))
 have f:∀a b,a≠b→n+a≠n+b:=fun a b h z=>h (Nat.add_left_cancel z)
 ⟨f 1 0 (by decide),(g 1).symm,(g 0).symm,f 2 1 (by decide),f 2 0 (by decide),g 2,f 3 1 (by decide),f 3 0 (by decide),g 3,f 2 3 (by decide),UY,hz,h0,h1,h2,m,h3,h4⟩
theorem ab3 {x:Str}{p:Pos}{i:Nat}{D L:Addr}{m:Str→Option Value}{kvs:List (Int×Value)}{l:List (Int×AV)}{h':Heap}{tk:Nat}{Q:Fl→Sg→AH→Prop}(F:aW C d)(S1:Su Z G C vt σ H s H1 s1)(el:vt[i]? =some (.loc x))(hi:i<σ.length)(gD:s1.heap.objs.size≤D)(gL:s1.heap.objs.size≤L)(Ib:D≠L)(kk:∀b o,s1.heap.get? b=some o→h'.get? b=some o)
  (hm:h'.Ns L m) (hd:h'.DictOf (intKind Z G.w) D kvs) (Po:∀H h,aG Z G.w H h l kvs) (qf:∀a H2,Sub H1 H2→H1 a=none→H2 a=some (.dict l)→Q .next (σ.set i (some (.ref a))) H2):
  wpAny (model Z G.w) C.A (assign (.Name x p) C.env (.ref D)) (fun _ s4=>∃m,s4.heap.Ns L m∧∀yS,Heap.SameBut L s4.heap yS→SP Z G C vt H s Q .next {s4 with heap:=yS}) E {s1 with heap:=h',toks:=tk}:=by
 have nL:=S1.R.g.dw gL
 have nD:=S1.R.g.dw gD
 have x3:Ext noOwn H1 s1.heap ((H1.set D (.dict l)).set L .ns) h':=Ext.Nj S1.R.g kk gD gL
 have R3:Rep Z G C vt σ ((H1.set D (.dict l)).set L .ns) {s1 with heap:=h',toks:=tk}:=S1.R.step (s':={s1 with heap:=h',toks:=tk}) x3 (S1.R.g.Nj kk gD gL Ib ⟨kvs,hd,Po _ _⟩ (let⟨o,_,_,ho,_⟩:=hm;⟨o,ho⟩))
 have hnL:((H1.set D (.dict l)).set L .ns) L=some .ns:=AH.ag ..
 have hnD:((H1.set D (.dict l)).set L .ns) D=some (.dict l):=(AH.ae _ _ Ib).trans (AH.ag ..)
 have aiI:Sub H1 ((H1.set D (.dict l)).set L .ns):=(Sub.ci nD).trans (Sub.ci ((AH.ae _ _ Ib.symm).trans nL))
 generalize ((H1.set D (.dict l)).set L .ns)=H3 at *
 refine wpAny_assign_Name (wpAny_mono (uW (Q:=fun σ' H'=>σ.set i (some (.ref D))=σ'∧H3=H') F R3 el .ref hi ⟨rfl,rfl⟩) (fun _ s4 z=>AP.casesOn z fun σ' H' R4 x4 y4 z=>?_) fun _ _ z=>z)
 obtain⟨rfl,rfl⟩:=z
 have nL':¬C.own L:=fun z=>nomatch (S1.R.own _ z).symm.trans nL
 refine⟨m,((x4.ns _ hnL).2 nL').ns hm,fun yS hs=>?_⟩
 have kb:=gz hs
 exact⟨_,H3.drop L,S1.R.ua (t:=s4.toks) nL R4 hnL kb,S1.x.trans (((x3.own.trans x4).but (jH gL) nL kb).drop nL),S1.y.trans ((aF.mk _ _ _).trans (y4.trans (aF.zb _ _))),qf D _ (aiI.trans (Sub.drop hnL rfl)) nD ((bx Ib).trans hnD)⟩
theorem Wh {i j:Nat}{e:MX}(Ok:G.Ok)(hl:vf Z G cls (.cons e .nil)):SS Z G cls (.Nc i j e):=fun d C vt st F Ta hc=>Vh hc fun x p na p1 nb p2 PN p3 PO p4 k1 p5 yQ p6 it p7 BG p8 k2 p9 sJ sc vp pos hc=>jc hc fun hc hb1 hb2 cR l4 lZ=>jc hc fun hx MV iv hit ue hna=>by
 obtain rfl:=eq_of_beq hna
 obtain rfl:=eq_of_beq hb1
 obtain rfl:=eq_of_beq hb2
 intro σ H s Q X R q
 have cs:=csR cR
 have el:vt[i]? =some (.loc x):=wE hx MV
 have hkx:C.env.kindOf x=some .local:=(DP (R.at el)).1
 have hsw:swapsWith (.DictComp (.Name na p1) (.Name nb p2) [⟨.Tuple [.Name na p3,.Name nb p4] k1 p5,.Call (.Name yQ p6) [it] [] p7,[.Compare (.Name nb p8) [.Gt] [.Constant (.int 0) k2 p9] sJ],0⟩] sc vp) (some (.Name x p)) pos.line C.env=pure true:=by
  unfold swapsWith
  rw[iG F]
  show pure ((ScopeKind.function==ScopeKind.function)&&(C.env.kindOf x==some NameKind.local)&&p.line==vp.line&& !(sc.names.any fun q=>q.1==x&&(q.2== .local||q.2== .cell)))=_
  rw[hkx,l4,lZ]
  rfl
 have hab:na≠nb:=fun z=>(List.nodup_cons.mp cs.nd).1 (z▸ .head _)
 rw[exec_Assign_Name_used _ _ _ _ hsw]
 refine wpAny_bind (wpAny_standAt (wpAny_bind ?_))
 show wpAny _ _ (do let _ ←comprehension (.DictComp (.Name na p1) (.Name nb p2) [⟨.Tuple [.Name na p3,.Name nb p4] k1 p5,.Call (.Name yQ p6) [it] [] p7,[.Compare (.Name nb p8) [.Gt] [.Constant (.int 0) k2 p9] sJ],0⟩] sc vp) sc C.env _ newDict false (eval (.Call (.Name yQ p6) [it] [] p7) C.env) (some (assign (.Name x p) C.env))) _ _ s
 refine wpAny_bind (wpAny_mono (wpAny_comprehension_free (use:=some (assign (.Name x p) C.env)) (Q:=fun _ s'=>SP Z G C vt H s Q .next s')
  (g:=⟨.Tuple [.Name na p3,.Name nb p4] k1 p5,.Call (.Name yQ p6) [it] [] p7,[.Compare (.Name nb p8) [.Gt] [.Constant (.int 0) k2 p9] sJ],0⟩) (gs:=[]) rfl (fun _=>rfl) (fy (pP R cs)) cs.fn (fun x hx hl=>cs.loc x hx hl) ?_)
  (fun _ s' hq=>wpAny_pure (wpAny_pure hq)) fun _ _ e=>e)
 rw[fU rfl]
 have g:=wx (A:=C.A) (E:=XS Z G cls C H s X) (Q:=fun v s'=>v= .type "enumerate"∧s'=s) Ok F R ue fun v V gv=>⟨gv.1,rfl⟩
 refine wpAny_bind (wpAny_mono (wpAny_Name g.1 g.2) (fun _ s2 z=>?_) fun _ _ z=>z)
 obtain⟨rfl,XU⟩:=z
 subst XU
 have hcs:cJ G.gl C.sc vt (.cons e .nil) [it]=true:=by
  show(!isStar it&&aN G.gl C.sc vt e it&&true)=true
  rw[iv,hit];rfl
 refine fS (dP hcs) (wpAny_mono (hl d C vt [it] p7 F hcs σ H s2 (fun vs H1=>pN vs fun v=>acS i σ (Q .next) v H1) X R q) (fun vs s1 z=>⟨Kept.type,VsP.casesOn z fun vm H1 hz R1 V1 x1 y1 q1=>?_⟩) fun _ _ z=>XP.toS z)
 have S1:Su Z G C vt σ H s2 H1 s1:=⟨R1,x1.own,y1⟩
 refine i0 V1 q1 fun av v V q1=>?_
 obtain⟨xs,hL,hlen,hi,qf⟩:=q1
 refine bR.e R1.g V hL fun l ws hIL r=>?_
 refine call_enumerate_list hIL fun hE he1 hi1 szE kE=>wpAny_pyIter_enum he1 ?_
 have hM:l<s1.heap.objs.size:=hIL.elim fun o q=>Heap.lt_size q.1
 refine wpAny_newObj_type ?_
 have nD:(hE.push {cls:= .type "dict",dict:=none,data:= .dict #[]}).DictOf (intKind Z G.w) hE.objs.size []:=Heap.DictOf.new hE
 have k3:∀b o,hE.get? b=some o→(hE.push {cls:= .type "dict",dict:=none,data:= .dict #[]}).get? b=some o:=ax _ _
 have Vz:(hE.push {cls:= .type "dict",dict:=none,data:= .dict #[]}).objs.size=s1.heap.objs.size+3:=(Heap.size_push ..).trans (congrArg Nat.succ szE)
 dsimp only
 generalize (hE.push {cls:= .type "dict",dict:=none,data:= .dict #[]})=h3 at *
 refine wpAny_newFunctionEnv (fun x hx=>cs.cell x hx) (fun y hy=>nomatch hy) (fun h4 gf Bk=>?_) cs.fn
 dsimp only at gf Bk ⊢
 rw[Vz] at gf Bk
 rw[szE] at nD
 have k4:∀b x,h3.get? b=some x→h4.get? b=some x:=fun b x e=>(Bk.2 b (Vz▸cu e (Nat.le_refl _))).trans (ax _ _ _ _ e)
 have kE':∀b o,s1.heap.get? b=some o→h4.get? b=some o:=fun b o z=>k4 _ _ (k3 _ _ (kE b o z))
 have sg:∀y∈[na,nb],(relabel sc C.env).names.lookup y=some .local:=fun y hy=>mu sc C.env y _ (by decide) (cs.nm y hy).1
 have loop:codeAny (model Z G.w) C.A (.compLoop (.DictComp (.Name na p1) (.Name nb p2) [⟨.Tuple [.Name na p3,.Name nb p4] k1 p5,.Call (.Name yQ p6) [it] [] p7,[.Compare (.Name nb p8) [.Gt] [.Constant (.int 0) k2 p9] sJ],0⟩] sc vp) 0 (.ref (s1.heap.objs.size+1)) (.ref (s1.heap.objs.size+2)) (compEnvC sc (AU sc C.env) (s1.heap.objs.size+3) C.env))
   (compPost (model Z G.w) C.A (XS Z G cls C H s2 X) (some (assign (.Name x p) C.env)) (fun _ s'=>SP Z G C vt H s2 Q .next s') (.ref (s1.heap.objs.size+2)) (s1.heap.objs.size+3)) {s1 with heap:=h4,toks:=s1.toks+([]:List (Str×Value)).length}:=
  UI (s:={s1 with heap:=h4,toks:=s1.toks+([]:List (Str×Value)).length}) (env:=compEnvC sc (AU sc C.env) (s1.heap.objs.size+3) C.env) F.handled (sg na (.head _)) (sg nb (.tail _ (.head _))) cs.fn hab (cs.nm na (.head _)).2 (cs.nm nb (.tail _ (.head _))).2
   (Xf hM (intsOf r) hlen (k4 _ _ (k3 _ _ he1)) ((hi1.at fun o z=>k3 _ _ z).at fun o z=>k4 _ _ z) (hIL.at fun o z=>kE' _ _ z) gf (nD.at fun o z=>k4 _ _ z))
   fun h' tk m kvs hm hd Po keep=>ab3 (s1:=s1) F S1 el hi (Nat.le_add_right _ 2) (Nat.le_add_right _ 3) (Nat.ne_of_lt (Nat.lt_succ_self _)) (fun b o z=>keep b o (cu z (Nat.le_add_right _ 1)) (cu z (Nat.le_refl _)) (cu z (Nat.le_add_right _ 2)) (cu z (Nat.le_add_right _ 3)) (kE' b o z)) hm hd Po qf
 rw[szE,Vz]
 exact codeAny_compStart_dict loop (wpAny_pyIter_enum (k4 _ _ (k3 _ _ he1)) loop)
theorem ahu {u:AV}{c:Const}{k:Nat}{p:Pos}{env:Env}{Q:Value→Shared→Prop}(h:litOk u c=true):(∀v tk,(∀h:Heap,∀H:AH,aj Z G.w H h u v)→Q v {s with toks:=tk})→wpAny (model Z G.w) A (eval (.Constant c k p) env) Q E s:=
 Bz (P:=fun u c=>(∀v tk,(∀h:Heap,∀H:AH,aj Z G.w H h u v)→Q v {s with toks:=tk})→wpAny (model Z G.w) A (eval (.Constant c k p) env) Q E s) h (fun f=>wpAny_Constant_none (f _ _ fun _ _=>.none)) (fun b f=>wpAny_Constant_bool (f _ _ fun _ _=>.bool)) fun b f=>wpAny_Constant_int (f _ _ fun _ _=>.int)
theorem Uk {i:Nat}{u:AV}:SE Z G cls (.wz i u):=fun d C vt e F hc=>RY hc fun x p c k p2 p3 hc=>aS hc fun h1 h2 σ H s Q X R q=>by
 obtain⟨v0,hv,q⟩:=my q
 revert hv
 refine fY q fun n q hv=>?_
 refine wpAny_Dict_pairs (knd:=intKind Z G.w) (pairs:=[(eval (.Name x p) C.env,do let x ←eval (.Constant c k p2) C.env;standAt p3;pure x)]) rfl (fun z=>nomatch z) (Nat.le_add_left 1 14) ?_
 have R1:Rep Z G C vt σ H {s with heap:=s.heap.push {cls:= .type "dict",data:= .dict #[]}}:=R.grow (t:=s.toks) (ax _ _)
 have ld:=BC (E:=XP Z G cls C.ak H s X) (Q:=fun v s'=>aj Z G.w H (s.heap.push {cls:= .type "dict",data:= .dict #[]}) (.int n) v∧s'={s with heap:=s.heap.push {cls:= .type "dict",data:= .dict #[]}}) F R1 h1 hv fun w V=>⟨V,rfl⟩
 unfold evalPairs
 refine wpAny_bind (wpAny_mono (wpAny_Name ld.1 ld.2) (fun kv s1 z=>?_) fun _ _ z=>z)
 obtain⟨V,rfl⟩:=z
 refine V.dT fun t=>?_
 refine wpAny_bind (wpAny_holding (wpAny_bind ?_))
 exact ahu h2 fun v tk hu=>wpAny_bind (wpAny_standAt (wpAny_pure (wpAny_bind (wpAny_holding (wpAny_pure (wpAny_pure ⟨[(n,v)],⟨(intKind_is Z G.w n t:_),rfl,trivial⟩,Heap.DictOf.new s.heap,fun h' hd hs=>
   EP.new R (fun b o e=>(hs.2 b (cu e (Nat.le_refl _))).trans (ax _ _ _ _ e)) (o:= .dict [(n,u)]) ⟨[(n,v)],hd,.cons (hu _ _) .nil⟩ q⟩))))))
end
end
section
set_option backward.match.sparseCases false
set_option genSizeOf false
set_option genInjectivity false
noncomputable def Zu (k:VK)(f:Str→Bool)(g:Bool):Bool:=@VK.casesOn (fun _=>Bool) k (fun _=>g) (fun _=>g) (fun _=>g) f g g
noncomputable def ui (x:Str)(k:VK):Bool:=@VK.casesOn (fun _=>Bool) k z1 z1 z1 (x==·) false false
noncomputable def gZ (vt:List VK)(x:Str):AO:=if vt.any (ui x) then .cell none else .ns
noncomputable def GW (cf:Str→Addr)(k:VK):Option AV:=@VK.casesOn (fun _=>Option AV) k (fun _=>none) (fun _=>none) (fun _=>none) (fun x=>some (.ref (cf x))) none none
noncomputable def uR (vt:List VK)(cf:Str→Addr):Sg:=vt.map (GW cf)
noncomputable def N0 (sc:Scope)(k:VK):Bool:=Zu k (fun x=>sc.names.lookup x==some .cell) true
noncomputable def Tb (o:Option VK)(a b:Prop):Prop:=@Option.casesOn VK (fun _=>Prop) o b fun k=>@VK.casesOn (fun _=>Prop) k (fun _=>b) (fun _=>b) (fun _=>b) (fun _=>a) b b
noncomputable def du (vt:List VK):Nat→List AV→Sg→AH→(Sg→AH→Prop)→Prop
 | _,[],σ,H,K=>K σ H
 | i,v::vs,σ,H,K=>Tb vt[i]? (mj σ[i]? fun o=>mj o fun u=>NS u fun c=>∃o,H c=some (.cell o)∧du vt (i+1) vs σ (H.set c (.cell (some v))) K) (du vt (i+1) vs (σ.set i (some v)) H K)
noncomputable def noF (k:VK):Bool:=@VK.casesOn (fun _=>Bool) k (fun _=>true) (fun _=>true) z1 (fun _=>true) true true
noncomputable def pw (sc:Scope)(vt:List VK)(ps:List Str):Bool:=sc.kind== .function&& !sc.isCoroutine&& !sc.isGenerator&&vt.all (Op sc)&&vt.all noF&&(vt.take ps.length).map VK.name?==ps.map some&&(vt.take ps.length).all (N0 sc)&&decide (vt.filterMap VK.name?).Nodup
section
variable {Z:Program}{G:Gd}{cls:Value}{d:Nat}{C:FC}{vt:List VK}{σ σ':Sg}{H H0 H1 H3:AH}{s s0 s1 s':Shared}{X:AH→Prop}{A:Around}{E:Value→Shared→Prop}{ak:List Env}
theorem aiW {i:Nat}{y:Str}(h:∀k,vt[i]? =some k→noF k=true):vt[i]? ≠some (.c9 y):=fun z=>ff (h _ z)
inductive LK (Z:Program)(G:Gd)(ak:List Env)(ao:Str→AO)(names:List (Str×NameKind))(acc:List (Str×Addr))(H:AH)(s:Shared)(h':Heap):Prop
 | mk (H':AH) (g:au Z G ak H' {s with heap:=h'}) (sub:Sub H H') (x:Ext noOwn H s.heap H' h') (m:∀p∈cellsFrom s.heap.objs.size names acc,p∈acc∨(H' p.2=some (ao p.1)∧s.heap.objs.size≤p.2)) (b:∀b,b<s.heap.objs.size→H' b=H b):LK Z G ak ao names acc H s h'
theorem abY {ao:Str→AO}(hao:∀x,ao x= .ns∨ao x= .cell none)(names:List (Str×NameKind)):∀(acc:List (Str×Addr)) (H:AH) (s:Shared),au Z G ak H s→LK Z G ak ao names acc H s (pushCells s.heap names):=by
 induction names with
 | nil=>exact fun acc H s R=>⟨H,R,Sub.refl _,Ext.refl ..,fun p hp=>.inl hp,fun _ _=>rfl⟩
 | cons n r ih=>
  intro acc H s R
  obtain⟨x,k⟩:=n
  unfold pushCells
  refine@dite _ ((k== .cell)=true) _ (fun hk=>?_) fun hk=>?_
  ·rw[if_pos hk]
   have R1:=R.new (t:=s.toks) (ax _ {cls:= .type "cell",data:= .cell none}) (Nat.le_refl _) (o:=ao x) ((hao x).elim (fun e=>e▸⟨_,Heap.get?_push_size _ rfl⟩) fun e=>e▸⟨none,⟨_,Heap.get?_push_size _ rfl,rfl⟩,rfl⟩)
   refine LK.casesOn (ih ((x,s.heap.objs.size)::acc) _ _ R1) fun H' R2 S2 X2 m2 b2=>?_
   have sz:(s.heap.push {cls:= .type "cell",data:= .cell none}).objs.size=s.heap.objs.size+1:=Heap.size_push ..
   rw[sz] at m2 b2
   refine⟨H',R2,(Sub.ci R.fresh).trans S2,(Ext.new R (ax _ _) (Nat.le_refl _)).trans X2,fun p hp=>?_,fun b hb=>(b2 b (Nat.lt_succ_of_lt hb)).trans (AH.ae _ _ (Nat.ne_of_lt hb))⟩
   unfold cellsFrom at hp
   rw[if_pos hk] at hp
   refine(m2 p hp).elim (fun h=>?_) fun h=>.inr ⟨h.1,Nat.le_of_succ_le h.2⟩
   rcases List.mem_cons.mp h with rfl | h
   ·exact .inr ⟨(b2 _ (Nat.lt_succ_self _)).trans (AH.ag ..),Nat.le_refl _⟩
   ·exact .inl h
  ·rw[if_neg hk]
   have :=ih acc H s R
   exact LK.casesOn this fun H' a b c m q=>⟨H',a,b,c,fun p hp=>m p (by unfold cellsFrom at hp;rw[if_neg hk] at hp;exact hp),q⟩
theorem name_mem {i:Nat}{x:Str}(h:nameAt vt i=some x):x∈vt.filterMap VK.name?:=(Option.bind_eq_some_iff.mp h).elim fun a q=>List.mem_filterMap.mpr ⟨a,List.mem_of_getElem? q.1,q.2⟩
theorem uv (hn:(vt.filterMap VK.name?).Nodup):∀(i j:Nat) (x:Str),nameAt vt i=some x→nameAt vt j=some x→i=j:=by
 induction vt with
 | nil=>exact fun i j x h _=>nomatch h
 | cons k vt ih=>
  have h0:∀j x,k.name?=some x→nameAt vt j=some x→False:=fun j x e h=>by
   rw[List.filterMap_cons,e] at hn
   exact(List.nodup_cons.mp hn).1 (name_mem h)
  have Pp:(vt.filterMap VK.name?).Nodup:=by
   rw[List.filterMap_cons] at hn
   cases e:k.name? with
   | none=>rw[e] at hn;exact hn
   | some y=>rw[e] at hn;exact(List.nodup_cons.mp hn).2
  intro i j x h1 h2
  cases i with
  | zero=>cases j with
   | zero=>rfl
   | succ j=>exact(h0 j x h1 h2).elim
  | succ i=>cases j with
   | zero=>exact(h0 i x h2 h1).elim
   | succ j=>exact congrArg Nat.succ (ih Pp i j x h1 h2)
noncomputable def ac4 (k:VK):Prop:=@VK.casesOn (fun _=>Prop) k (fun _=>False) (fun _=>False) (fun _=>False) (fun _=>True) False False
theorem M0 {o:Option VK}{k:VK}{a b:Prop}(e:o=some k):(ac4 k→False)→Tb o a b→b:=by subst e;exact@VK.casesOn (fun k=>(ac4 k→False)→Tb (some k) a b→b) k (fun _ _ q=>q) (fun _ _ q=>q) (fun _ _ q=>q) (fun _ h _=>(h trivial).elim) (fun _ q=>q) fun _ q=>q
theorem XX {o:Option VK}{x:Str}{a b:Prop}(e:o=some (.ar x))(q:Tb o a b):a:=by subst e;exact q
inductive Wr (vt:List VK)(env:Env)(i:Nat)(x:Str):Prop
 | loc (e:vt[i]? =some (.loc x))
 | pc (e:vt[i]? =some (.bF x))
 | sc (e:vt[i]? =some (.ar x)) (hk:env.kindOf x=some .cell)
theorem adD (F:aW C d)(f:Str×Value→PUnit→Sem (ForInStep PUnit))(hf:∀n v u,f (n,v) u=(do storeName C.env n v;pure (.yield ⟨⟩))){Q:Sg→AH→Prop}{E:Value→Shared→Prop}(ps:List Str):
  ∀(k:Nat) (args:List AV) (cargs:List Value) (σ:Sg) (H:AH) (s:Shared),(∀(j:Nat) (x:Str),ps[j]? =some x→Wr vt C.env (k+j) x)→ps.length=args.length→
   Rep Z G C vt σ H s→am Z G.w H s.heap args cargs→du vt k args σ H Q→wpAny (model Z G.w) A (forIn (ps.zip cargs) ⟨⟩ f) (fun _ s'=>AP Z G C vt H s Q () s') E s:=by
 induction ps with
 | nil=>
  intro k args cargs σ H s _ hl R V q
  cases args with
  | cons _ _=>exact nomatch hl
  | nil=>exact V.cn (wpAny_pure ((St.here R).ap q))
 | cons x ps ih=>
  intro k args cargs σ H s hp hl R V q
  cases args with
  | nil=>exact nomatch hl
  | cons av args=>
   refine V.bn fun v vs V Vs=>?_
   rw[List.zip_cons_cons,List.forIn_cons,hf]
   have go:∀{σ1:Sg} {H1:AH} {s1:Shared},Su Z G C vt σ1 H s H1 s1→bc H s.heap H1 s1.heap→du vt (k+1) args σ1 H1 Q→wpAny (model Z G.w) A (forIn (ps.zip vs) ⟨⟩ f) (fun _ s'=>AP Z G C vt H s Q () s') E s1:=fun S fr q1=>
    wpAny_mono (ih (k+1) args vs _ _ _ (fun j y e=>(Nat.succ_add k j).symm▸hp (j+1) y e) (Nat.succ.inj hl) S.R (Vs.mono fr) q1) (fun _ _ z=>AP.trans S.x S.y z) fun _ _ z=>z
   refine wpAny_bind (wpAny_bind (wpAny_mono (Q:=fun _ s1=>wpAny (model Z G.w) A (forIn (ps.zip vs) ⟨⟩ f) (fun _ s'=>AP Z G C vt H s Q () s') E s1) ?_ (fun _ s1 z=>wpAny_pure z) fun _ _ z=>z))
   have hi:∀{z},vt[k]? =some z→k<σ.length:=fun e=>R.k.len.symm▸(List.getElem?_eq_some_iff.mp e).1
   cases hp 0 x rfl with
   | loc e=>exact wpAny_mono (uW (Q:=fun σ' H'=>du vt (k+1) args σ' H' Q) F R e V (hi e) (M0 e v0 q)) (fun _ s1 z=>AP.casesOn z fun σ' H' R4 x4 y4 q=>go ⟨R4,x4,y4⟩ x4.bY q) fun _ _ z=>z
   | pc e=>exact wpAny_mono (T7 (Q:=fun σ' H'=>du vt (k+1) args σ' H' Q) F R e V (hi e) (M0 e v0 q)) (fun _ s1 z=>AP.casesOn z fun σ' H' R4 x4 y4 q=>go ⟨R4,x4,y4⟩ x4.bY q) fun _ _ z=>z
   | sc e hk=>
    obtain⟨u,hv,q⟩:=my (XX e q)
    obtain⟨c,h3,rfl⟩:=R.scE e hv
    obtain⟨o,E6,q⟩:=q
    exact T2 F R hk h3 E6 V fun h' S=>go S.u S.x.bY q
end
noncomputable def AH.wr (H:AH)(T:Option Addr):AH:=fun b=>if T=some b then none else H b
inductive mL (H:AH)(h h' h0:Heap)(e:Addr)(T:Option Addr)(b:Addr):Prop
 | fr (q:H b=some .ns) (o:Obj) (sl:Array (Option Value)) (ho:h.get? b=some o) (nf:∀vs,o.data≠ .fields vs) (iY:h'.get? b=some {o with slots:=sl}):mL H h h' h0 e T b
 | it (q:H b=some .it) (n:h0.get? b=none) (z:b=e∨T=some b):mL H h h' h0 e T b
section
variable {Z:Program}{G:Gd}{cls:Value}{d:Nat}{C:FC}{vt:List VK}{σ σ':Sg}{H H0 H1 H3:AH}{s s0 s1 s':Shared}{X:AH→Prop}{A:Around}{E:Value→Shared→Prop}{ak:List Env}
theorem bG {α:Type}{x:Option α}{a:α}{P:Prop}(h:x=none)(e:x=some a):P:=nomatch h.symm.trans e
theorem Yx {x:Option AO}{P:Prop}(h:x=some .ns)(e:x=some .it):P:=nomatch h.symm.trans e
inductive Uf (Z:Program)(G:Gd)(cls:Value)(ak:List Env)(H0:AH)(h0:Heap)(H:AH)(s:Shared)(e:Addr)(s2:Shared):Prop
 | mk (cb:AH) (g:au Z G ak cb s2) (ex:ExcAt s2.heap h0 e cls cb) (x:Ext noOwn H0 h0 cb s2.heap) (y:aF s s2) (sub:Sub H cb):Uf Z G cls ak H0 h0 H s e s2
noncomputable def Gq (ak:List Env)(e:Addr)(T:Option Addr):List Addr:=ak.filterMap (·.frame)++(e::T.toList)
theorem ru.jz {env:Env}(h:ru H s.heap env){b:Addr}(e:env.frame=some b):H b=some .ns∧∃o,s.heap.get? b=some o∧∀vs,o.data≠ .fields vs:=
 ru.casesOn h fun _ L o q1 q2 q3 q4=>by cases e.symm.trans q1;exact⟨q2,o,q3,q4⟩
theorem Yb {T:Option Addr}{e:Addr}{h0 h':Heap}(R:au Z G ak H s)(he:H e=some .it)(hT:∀t,T=some t→H t=some .it∧h0.get? t=none∧t≠e)(UU:h0.get? e=none)(x:Ext noOwn H0 h0 H s.heap)
  (hit:∀a,H0 a=some .it→∃o,h0.get? a=some o) (z:Heap.Left (hideAll s.heap (Gq ak e T)) ak e cls s.heap h'):Uf Z G cls ak H0 h0 H s e {s with heap:=h'}:=by
 obtain⟨z1,z2,⟨oe,vs,T',oT,ts,a1,a2,a3,a4,a5,a6,a7,a8,a9⟩,z4⟩:=z
 have jz:∀b,b∈Gq ak e T→mL H s.heap h' h0 e T b:=fun b hb=>(List.mem_append.mp hb).elim (fun hb=>by
   obtain⟨en,ue,hfe⟩:=List.mem_filterMap.mp hb
   obtain⟨q1,o,q3,q4⟩:=(R.frames en ue).jz hfe
   exact(z4 _ o q3 q4).elim fun sl q5=>.fr q1 o sl q3 q4 q5) fun hb=>(List.mem_cons.mp hb).elim (fun z=>by subst z;exact .it he UU (.inl rfl)) fun hb=>have z:=Option.mem_toList.mp hb
   .it (hT b z).1 (hT b z).2.1 (.inr z)
 have Vq:∀b o,s.heap.get? b=some o→h'.get? b=some o∨mL H s.heap h' h0 e T b:=fun b o ho=>@dite _ (b∈Gq ak e T) _ (fun hb=>.inr (jz b hb)) fun hb=>.inl (z1 b o (hideAll_get _ ho hb))
 have hT':T=some T'∨s.heap.get? T'=none:=by
  cases q:s.heap.get? T' with
  | none=>exact .inr rfl
  | some o=>exact@dite _ (T'∈Gq ak e T) _ (fun hm=>.inl (mL.casesOn (jz _ hm) (fun _ o sl _ nf iY=>by cases a7.symm.trans iY;exact(nf _ a8).elim) fun _ _ z=>z.elim (fun z=>absurd z a6) id)) fun hm=>bG a5 (hideAll_get _ q hm)
 have ne:∀{b o},s.heap.get? b=some o→T≠some b→b≠T':=fun ho n z=>hT'.elim (fun w=>n (z▸w)) fun w=>bG w (z▸ho)
 have nT:∀{b},(∀o,H b=some o→o≠ .it)→T≠some b:=fun n ht=>n _ (hT _ ht).1 rfl
 have same:∀{b o},s.heap.get? b=some o→T≠some b→((H.wr T).set T' .it) b=H b:=fun ho n=>(AH.ae _ _ (ne ho n)).trans (if_neg n)
 have look:∀{b o},H b=some o→o≠ .it→((H.wr T).set T' .it) b=some o:=fun{b o} q n=>(R.own _ _ q).2.here.elim fun oo ho=>(same ho (nT fun o' q'=>by cases q.symm.trans q';exact n)).trans q
 have nns:AO.ns≠ .it:=fun z=>nomatch z
 have E3:bc H s.heap ((H.wr T).set T' .it) h':=fun a o hn ho=>⟨(same ho (nT fun _ q=>bG hn q)).trans hn,(Vq a o ho).elim id fun z=>mL.casesOn z (fun q=>bG hn q) fun q=>bG hn q⟩
 have ite:((H.wr T).set T' .it) e=some .it:=(AH.ae _ _ a6.symm).trans ((if_neg fun ht=>(hT _ ht).2.2 rfl).trans he)
 have sub:Sub H ((H.wr T).set T' .it):=fun a o n q=>look q fun z=>by subst z;exact nomatch n
 refine⟨_,⟨fun b o e=>(Vq b o (R.keep b o e)).elim id fun z=>mL.casesOn z (fun q=>bG (R.own _ _ q).1 e) fun q=>bG (R.own _ _ q).1 e,
  fun b o q=>io (P:=fun b o=>G.hb.get? b=none∧dj Z G.w G.gl ((H.wr T).set T' .it) h' b o) q ⟨hT'.elim (fun z=>(R.own _ _ (hT _ z).1).1) fun z=>Option.eq_none_iff_forall_ne_some.mpr fun o w=>bG z (R.keep _ _ w),_,a7⟩ fun _ q=>?_,
  fun en ue=>ru.casesOn (R.frames en ue) fun w0 L o w1 w2 w3 w4=>(z4 _ o w3 w4).elim fun sl q5=>⟨w0,L,_,w1,look w2 nns,q5,w4⟩,fun P hP=>look (R.tabs P hP) fun z=>(nomatch z)⟩,
  ⟨oe,vs,a1,a2,a3,UU,ite,.inr ⟨T',oT,ts,a4,hT'.elim (fun z=>(hT _ z).2.1) (iZ x.here),a6,a7,a8,a9,AH.ag ..⟩⟩,
  ⟨fun a o hn ho=>(x.bY a o hn ho).elim (E3 a o),fun a q=>have w:=x.ns a q
   ⟨look w.1 nns,fun n=>(w.2 n).trans fun o ho=>(Vq a o ho).elim (fun z=>⟨o.slots,z⟩) fun z=>mL.casesOn z (fun _ o' sl iY nf r=>⟨sl,by cases ho.symm.trans iY;exact r⟩) fun q=>Yx w.1 q⟩,
   fun a q=>?_,fun a o ho=>(x.here a o ho).elim fun o' iY=>(Vq a o' iY).elim (fun z=>⟨o',z⟩) fun z=>mL.casesOn z (fun _ o' sl _ _ r=>⟨_,r⟩) fun _ n=>bG n ho⟩,aF.zb _ _,sub⟩
 ·refine@dite _ (T=some b) _ (fun n=>bG (if_pos n) q) fun n=>?_
  have q:=(if_neg n).symm.trans q
  obtain⟨q3,q4⟩:=R.own b o q
  refine⟨q3,q4.here.elim fun oo ho=>(Vq b oo ho).elim (fun z=>q4.mono E3 (z.trans ho.symm)) fun z=>mL.casesOn z (fun q5 _ _ _ _ r=>?_) fun q5 _ z=>?_⟩
  ·cases q5.symm.trans q;exact⟨_,r⟩
  ·cases q5.symm.trans q
   exact z.elim (fun z=>z▸⟨oe,a1⟩) fun z=>absurd z n
 ·obtain⟨w1,w2⟩:=x.it a q
  obtain⟨o,ho⟩:=hit a q
  have hs:=w2 (fun z=>z) o ho
  have no:¬mL H s.heap h' h0 e T a:=fun z=>mL.casesOn z (fun q=>Yx q w1) fun _ n=>bG n ho
  exact⟨(same hs fun ht=>no (.it w1 (hT _ ht).2.1 (.inr ht))).trans w1,fun _ o' iY=>(Vq a o' (w2 (fun z=>z) o' iY)).elim id fun z=>absurd z no⟩
theorem Nn {base:Heap}{env:Env}{outer:List Env}{L e:Addr}{oe:Obj}{vs:Array Value}{M:Model}{Q:Unit→Shared→Prop}(n0:A.frames=some (env::outer))(hl:s.heap.FunFrames base (env::outer))(hf:env.frame=some L)
  (he:s.heap.get? e=some oe) (hkb:base.StaysIn s.heap) (ue:base.get? e=none) (hd:oe.data= .fields vs) (h1:vs[1]? =some .none)
  (h:∀h',Heap.Left base (env::outer) e oe.cls s.heap h'→Q () {s with heap:=h'}):wpAny M A (noteFrame (.ref e) env) (fun _ s'=>wpAny M A (setFlight (.ref e) none) Q E s') E s:=by
 unfold noteFrame
 rw[hf]
 refine wpAny_bind (wpAny_field he hd h1 ?_)
 rw[if_neg (by decide)]
 exact wpAny_newEntry n0 hl hf he hkb ue hd (Array.getElem?_eq_some_iff.mp h1).1 h
theorem PV {base:Heap}{env:Env}{outer:List Env}{L e:Addr}{M:Model}{Q:Unit→Shared→Prop}(n0:A.frames=some (env::outer))(hl:s.heap.FunFrames base (env::outer))(hf:env.frame=some L)(ht:s.heap.Traced base e cls)(hkb:base.StaysIn s.heap)(ue:base.get? e=none)
  (h:∀h',Heap.Left base (env::outer) e cls s.heap h'→Q () {s with heap:=h'}):wpAny M A (noteFrame (.ref e) env) (fun _ s'=>wpAny M A (setFlight (.ref e) none) Q E s') E s:=by
 obtain⟨oe,vs,T,oT,ts,he,px,hd,h1,hnT,hTe,hT,MP,h3⟩:=ht
 subst px
 unfold noteFrame
 rw[hf]
 refine wpAny_bind (wpAny_field he hd h1 ?_)
 rw[if_pos (show(Value.ref T != Value.none)=true from rfl)]
 refine wpAny_bind (wpAny_field hT MP h3 ?_)
 rw[if_neg (show¬((Value.none==rawInt L)=true) from fun z=>nomatch z)]
 refine wpAny_bind (wpAny_setField hT MP (Array.getElem?_eq_some_iff.mp h3).1 ?_)
 have other:∀b,b≠T→(s.heap.update T (Obj.mapFields (·.setIfInBounds 3 Value.none))).get? b=s.heap.get? b:=fun b hb=>Heap.get?_update_other _ _ (Ne.symm hb)
 have GF:∀b o,s.heap.get? b=some o→(∀vs,o.data≠ .fields vs)→(s.heap.update T (Obj.mapFields (·.setIfInBounds 3 Value.none))).get? b=some o:=fun b o hb UV=>(other b fun q=>by cases hT.symm.trans (q▸hb);exact UV ts MP).trans hb
 exact wpAny_newEntry n0 (hl.of_keeps fun b o hb UV=>⟨o,GF b o hb UV,rfl⟩) hf ((other e (Ne.symm hTe)).trans he)
  (fun b o hbo=>(other b fun q=>nomatch (q▸hbo).symm.trans hnT).trans (hkb b o hbo)) ue hd (Array.getElem?_eq_some_iff.mp h1).1
  fun h' x=>h h' ⟨x.1,x.2.1,x.2.2.1,fun b o hb UV=>x.2.2.2 b o (GF b o hb UV) UV⟩
theorem MG {base:Heap}(l:List Env):(∀en∈l,ru H s.heap en∧∀L,en.frame=some L→base.get? L=none)→s.heap.FunFrames base l:=by
 induction l with
 | nil=>exact fun _=>trivial
 | cons en r ih=>exact fun hl=>⟨ru.casesOn (hl en (.head _)).1 fun a _ _ _ _ _ _=>a,ru.casesOn (hl en (.head _)).1 fun _ L o w1 _ w3 w4=>⟨L,o,w1,(hl en (.head _)).2 L w1,w3,w4⟩,ih fun q hq=>hl q (.tail _ hq)⟩
theorem YA {env:Env}{L e:Addr}{h0:Heap}(n0:A.frames=some (env::ak))(hf:env.frame=some L)(R:au Z G (env::ak) H s)(z:ExcAt s.heap h0 e cls H)(x:Ext noOwn H0 h0 H s.heap)(hit:∀a,H0 a=some .it→∃o,h0.get? a=some o):
  wpAny (model Z G.w) A (noteFrame (.ref e) env) (fun _ s'=>wpAny (model Z G.w) A (setFlight (.ref e) none) (fun _ s2=>Uf Z G cls (env::ak) H0 h0 H s e s2) E s') E s:=ExcAt.casesOn z fun oe vs b1 b2 b3 b4 b5 b6=>by
 have frames:∀T:Option Addr,s.heap.FunFrames (hideAll s.heap (Gq (env::ak) e T)) (env::ak):=fun T=>MG _ fun en ue=>⟨R.frames en ue,fun L h=>hideAll_none _ (List.mem_append_left _ (List.mem_filterMap.mpr ⟨en,ue,h⟩))⟩
 have eh:∀T:Option Addr,(hideAll s.heap (Gq (env::ak) e T)).get? e=none:=fun T=>hideAll_none _ (List.mem_append_right _ (.head _))
 refine b6.elim (fun h1=>?_) fun⟨T,oT,ts,c1,c2,c3,c4,c5,c6,c7⟩=>?_
 ·exact Nn n0 (frames .none) hf b1 (fun b o q=>of_hideAll _ q) (eh _) b3 h1 fun h' hl=>Yb (T:= .none) R b5 (fun t ht=>bG rfl ht) b4 x hit (b2▸hl)
 ·exact PV n0 (frames (some T)) hf ⟨oe,vs,T,oT,ts,b1,b2,b3,c1,hideAll_none _ (List.mem_append_right _ (.tail _ (.head _))),c3,c4,c5,c6⟩ (fun b o q=>of_hideAll _ q) (eh _)
   fun h' hl=>Yb R b5 (fun t ht=>by cases ht;exact⟨c7,c2,c3⟩) b4 x hit hl
theorem ab1 {env:Env}{L e:Addr}{h0:Heap}(n0:A.frames=some (env::ak))(hf:env.frame=some L)(R:au Z G (env::ak) H s)(z:ExcAt s.heap h0 e cls H)(x:Ext noOwn H0 h0 H s.heap)(hit:∀a,H0 a=some .it→∃o,h0.get? a=some o):
  wpAny (model Z G.w) A (leaving env (.ref e)) (fun _ s2=>Uf Z G cls (env::ak) H0 h0 H s e s2) E s:=wpAny_bind (YA n0 hf R z x hit)
end
structure xV (sc:Scope)(vt:List VK)(ps:List Str):Prop where
 fn:sc.kind= .function
 co:sc.isCoroutine=false
 ge:sc.isGenerator=false
 vk:∀k∈vt,Op sc k=true
 nf:∀k∈vt,noF k=true
 nm:(vt.take ps.length).map VK.name?=ps.map some
 ow:∀k∈vt.take ps.length,N0 sc k=true
 nd:(vt.filterMap VK.name?).Nodup
theorem frK {sc:Scope}{vt:List VK}{ps:List Str}(h:pw sc vt ps=true):xV sc vt ps:=SH h fun a b c d e f g h=>⟨eq_of_beq a,bz b,bz c,List.all_eq_true.mp d,List.all_eq_true.mp e,eq_of_beq f,List.all_eq_true.mp g,of_decide_eq_true h⟩
inductive F7 (vt:List VK)(H H0:AH)(h2:Heap)(L:Addr)(cells:List (Str×Addr))(x:Str):Prop
 | mk (c:Addr) (hc:cells.lookup x=some c) (ho:H0 c=some (gZ vt x)) (hl:L<c) (hn:H c=none) (hv:h2.IsCell c none):F7 vt H H0 h2 L cells x
structure Ox (sc:Scope)(vt:List VK)(bV:List (Str×Addr))(H H0:AH)(h2:Heap)(L:Addr)(cells:List (Str×Addr)):Prop where
 own:∀x,sc.names.lookup x=some .cell→F7 vt H H0 h2 L cells x
 inj:∀x y c,sc.names.lookup x=some .cell→sc.names.lookup y=some .cell→cells.lookup x=some c→cells.lookup y=some c→x=y
 old:∀x c,bV.lookup x=some c→cells=bV
section
variable {Z:Program}{G:Gd}{cls:Value}{d:Nat}{C:FC}{vt:List VK}{σ σ':Sg}{H H0 H1 H3:AH}{s s0 s1 s':Shared}{X:AH→Prop}{A:Around}{E:Value→Shared→Prop}{ak:List Env}
theorem Uz {RR:Result→Shared→Prop}{a:Addr}{args:Args}{o:Obj}{fd:FuncData}(aeE:A.depth<recursionLimit)(ho:s.heap.get? a=some o)(hd':o.data= .func fd)(E6:fd.scope.isCoroutine=false)(agT:fd.scope.isGenerator=false)(hcd:cX H s.heap fd.code)
  (h:∀q,wpAny (model Z G.w) A.in1 (bindArgs fd args) (fun binds s₁=>
   wpAny (model Z G.w) A.in1 (newFunctionEnv fd.scope fd.globals fd.closure binds (q++".<locals>.") (some a) fd.code none fd.builtins)
    (fun env s₂=>s₂.heap.NoLimit∧codeAny (model Z G.w) A (match fd.body with | .stmts b=>.func b env | .expr e=>.expr e env) RR s₂) (fun e s'=>RR (.error e) s') s₁) (fun e s'=>RR (.error e) s') s):
  codeAny (model Z G.w) A (.call (.ref a) args) RR s:=by
 obtain⟨n1,n2,n3,n4,n5,n6,n7,n8,n9,n10,n11,PM,n13,U4,n15⟩:=fd
 dsimp only at *
 cases hcd with | mk c oc vs q t hn hoc hdc hq
 refine codeAny_of_tree ?_
 show wpAny _ A.in1 (callAny (.ref a) args) _ _ s
 unfold callAny
 refine wpAny_bind (wpAny_load ho ?_)
 rw[hd']
 dsimp only [callFunction]
 rw[E6,agT]
 refine wpAny_bind (m:=field (.ref c) 1) (wpAny_field hoc hdc hq (wpAny_bind (wpAny_pure ?_)))
 exact wpAny_bind (wpAny_mono (h q) (fun binds s₁ h₁=>wpAny_bind (wpAny_mono h₁ (fun env s₂ h₂=>wpAny_bind (wpAny_enterFrame h₂.1 aeE
   (wpAny_pure (And.intro (by cases n4<;>rfl) h₂.2)))) fun _ _ h'=>h')) fun _ _ h'=>h')
theorem au.push {env:Env}{L:Addr}{m:Str→Option Value}(R:au Z G ak H s)(h1:env.scope.kind≠ .module)(h2:env.frame=some L)(h3:H L=some .ns)(h4:s.heap.Ns L m):au Z G (env::ak) H s:=
 ⟨R.keep,R.own,fun e he=>by
  cases he with
  | head=>obtain⟨o,es,ep,ho,hd,_⟩:=h4;exact⟨h1,L,o,h2,h3,ho,fun vs z=>nomatch hd.symm.trans z⟩
  | tail _ he=>exact R.frames e he,R.tabs⟩
theorem au.pop {env:Env}(R:au Z G (env::ak) H s):au Z G ak H s:=⟨R.keep,R.own,fun e he=>R.frames e (.tail _ he),R.tabs⟩
theorem Oc {vt:List VK}{cf:Str→Addr}{i:Nat}{k:VK}(h:vt[i]? =some k):(uR vt cf)[i]? =some (GW cf k):=List.getElem?_map.trans (congrArg (Option.map (GW cf)) h)
theorem T4 {vt:List VK}{cf:Str→Addr}{i:Nat}{k:VK}{av:AV}(h:vt[i]? =some k)(e:(uR vt cf)[i]? =some (some av)):GW cf k=some av:=Option.some.inj ((Oc h).symm.trans e)
theorem xH {bV:List (Str×Addr)}:∀{names:List (Str×NameKind)} {n:Nat},(∀p∈names,p.2≠ .cell)→cellsFrom n names bV=bV
 | [],_,_=>rfl
 | (x,k)::r,_,h=>(if_neg fun z=>h (x,k) (.head _) (eq_of_beq z)).trans (xH fun p hp=>h p (.tail _ hp))
theorem My (vt:List VK)(x:Str):gZ vt x= .ns∨gZ vt x= .cell none:=@dite _ (vt.any (ui x)=true) _ (fun z=>.inr (if_pos z)) fun z=>.inl (if_neg z)
theorem Pv {x:Str}{k:VK}{P:VK→Prop}(h:ui x k=true)(f:P (.ar x)):P k:=@VK.casesOn (fun k=>ui x k=true→P k) k g1 g1 g1 (fun y h=>dW h f) (fun h=>ff h) (fun h=>ff h) h
theorem SQ {i:Nat}{x:Str}(hn:(vt.filterMap VK.name?).Nodup)(e:vt[i]? =some (.bF x)):gZ vt x= .ns:=if_neg fun z=>by
 obtain⟨k,hk,hs⟩:=List.any_eq_true.mp z
 obtain⟨j,hj⟩:=List.getElem?_of_mem hk
 refine Pv (P:=fun k=>vt[j]? =some k→False) hs (fun hj=>?_) hj
 cases uv hn i j x (cz e rfl) (cz hj rfl)
 exact nomatch e.symm.trans hj
theorem abm {x:Str}(e:VK.ar x∈vt):gZ vt x= .cell none:=if_pos (List.any_eq_true.mpr ⟨_,e,beq_self_eq_true x⟩)
theorem adH {sc:Scope}{bV:List (Str×Addr)}{h2:Heap}{L:Addr}(nZ:bV=[]∨∀p∈sc.names,p.2≠ .cell)(hn:∀a,L≤a→H a=none)(m:∀p∈cellsFrom (L+1) sc.names bV,p∈bV∨(H0 p.2=some (gZ vt p.1)∧L+1≤p.2))(ok:CellsOk h2 (L+1) (cellsFrom (L+1) sc.names [])):
  Ox sc vt bV H H0 h2 L (cellsFrom (L+1) sc.names bV):=by
 have no:∀{x},sc.names.lookup x=some .cell→bV=[]:=fun hx=>nZ.elim id fun e=>absurd rfl (e _ (Mine.mem_of_lookup hx))
 refine⟨fun x hx=>?_,fun x y c hx hy hcx hcy=>?_,fun x c e=>xH (nZ.elim (fun z=>by subst z;exact nomatch e) id)⟩
 ·cases no hx
  obtain⟨c,hc⟩:=Option.isSome_iff_exists.mp (cellsFrom_some sc.names (L+1) [] (.inl hx))
  have hm:=PySem.mem_of_lookup hc
  exact(m _ hm).elim (fun z=>(List.not_mem_nil z).elim) fun z=>⟨c,hc,z.1,z.2,hn c (Nat.le_of_succ_le z.2),(ok.empty x c hm).1⟩
 ·cases no hx
  exact name_of_addr ok.apart (PySem.mem_of_lookup hcx) (PySem.mem_of_lookup hcy)
noncomputable def jF (sc:Scope)(L:Addr)(cells:List (Str×Addr))(qual:Str)(fa:Option Addr)(cd:Value):Env:={scope:=sc,locals:=L,globals:=mainGlobals,cells:=cells,qual:=qual,func:=fa,code:=cd,frame:=some L,builtins:=builtinsNs}
noncomputable def xM (vt:List VK)(L:Addr)(cells:List (Str×Addr))(a:Addr):Prop:=a=L∨∃x,VK.bF x∈vt∧cells.lookup x=some a
noncomputable def qM (A:Around)(ak:List Env)(vt:List VK)(sc:Scope)(L:Addr)(cells:List (Str×Addr))(qual:Str)(fa:Option Addr)(cd:Value):FC:=⟨A.deeper (jF sc L cells qual fa cd),jF sc L cells qual fa cd,jF sc L cells qual fa cd::ak,xM vt L cells,sc⟩
theorem xV.pc {sc:Scope}{ps:List Str}(K:xV sc vt ps){x:Str}(e:VK.bF x∈vt):sc.names.lookup x=some .cell:=(LC (K.vk _ e)).1
theorem xV.jA {sc:Scope}{ps:List Str}(K:xV sc vt ps){i:Nat}{x:Str}(e:jA vt i x):vt[i]? =some (.bF x):=e.elim id fun e=>ff (K.nf _ (List.mem_of_getElem? e))
theorem Tv {sc:Scope}{ps:List Str}{h2:Heap}{L:Addr}{cells bV:List (Str×Addr)}{P:Addr→Prop}{a:Addr}(K:xV sc vt ps)(Cs:Ox sc vt bV H H0 h2 L cells)(h:xM vt L cells a)(f:P L)(g:∀x c,VK.bF x∈vt→H0 c=some (gZ vt x)→H c=none→P c):P a:=
 h.elim (fun z=>z▸f) fun⟨x,hx,hc⟩=>F7.casesOn (Cs.own x (K.pc hx)) fun c yT ho _ hn _=>by cases hc.symm.trans yT;exact g x _ hx ho hn
theorem acf {sc:Scope}{ps:List Str}{L:Addr}{cells bV:List (Str×Addr)}{qual:Str}{fa:Option Addr}{cd:Value}{cf:Str→Addr}(K:xV sc vt ps)(R:au Z G ak H0 s)(Cs:Ox sc vt bV H H0 s.heap L cells)(hL:H0 L=some .ns)(gf:s.heap.Ns L fun _=>none)
  (sl:∀x,VK.ar x∈vt→cells.lookup x=some (cf x)) (ug:vt.any dR=true→∃c P,cd= .ref c∧CodeHd G.hb c P∧P∈G.tabs):Rep Z G (qM A ak vt sc L cells qual fa cd) vt (uR vt cf) H0 s:=
 ⟨R.push (env:=jF sc L cells qual fa cd) (fun z=>nomatch K.fn.symm.trans z) rfl hL gf,hL,⟨_,gf,fun i x av a1 a2=>bG rfl (T4 a1 a2)⟩,
  fun i x a=>have a:=K.jA a
   F7.casesOn (Cs.own x (K.pc (List.mem_of_getElem? a))) fun c hc ho hl hn hv=>⟨c,hc,fun _=>.inr ⟨x,List.mem_of_getElem? a,hc⟩,ho.trans (congrArg some (SQ K.nd a)),Nat.ne_of_gt hl,none,hv,fun av a2=>bG rfl (T4 a a2)⟩,
  fun a ha=>Tv (P:=fun a=>H0 a=some .ns) K Cs ha hL fun x c hx ho hn=>(List.getElem?_of_mem hx).elim fun i hi=>ho.trans (congrArg some (SQ K.nd hi)),
  fun i x a=>⟨_,sl x (List.mem_of_getElem? a),Oc a⟩,K.vk,uv K.nd,fun i j x y c a1 a2 c1 c2=>Cs.inj x y c (K.pc (List.mem_of_getElem? (K.jA a1))) (K.pc (List.mem_of_getElem? (K.jA a2))) c1 c2,List.length_map _,ug⟩
theorem G2 {α:Type}{l:List α}{n j:Nat}{a:α}(h:(l.take n)[j]? =some a):l[j]? =some a:=by
 rw[List.getElem?_take] at h
 exact@dite _ (j<n) _ (fun c=>(if_pos c).symm.trans h) fun c=>bG (if_neg c) h
theorem xV.slot {sc:Scope}{ps:List Str}{env:Env}(K:xV sc vt ps)(he:env.scope=sc){j:Nat}{x:Str}(hj:ps[j]? =some x):Wr vt env j x:=by
 have :=congrArg (fun z=>z[j]?) K.nm
 rw[List.getElem?_map,List.getElem?_map,hj] at this
 obtain⟨k,hk,hn⟩:=Option.map_eq_some_iff.mp this
 have hv:=G2 hk
 have hm:=List.mem_of_getElem? hk
 cases k with
 | loc y=>cases hn;exact .loc hv
 | bF y=>cases hn;exact .pc hv
 | c9 y=>exact ff (K.nf _ (List.mem_of_getElem? hv))
 | ar y=>cases hn;exact .sc hv (by subst he;exact eq_of_beq (K.ow _ hm))
 | jz=>exact nomatch hn
 | xR=>exact nomatch hn
theorem ZO {a d n:Nat}(h:a+(d+1)*4<n):a+1+d*4<n:=by lia
theorem afh {a d n:Nat}(h:a+(d+1)*40+200<n):a+3+d*40+200<n:=by lia
theorem Yu {A':Around}{sc:Scope}{ps:List Str}{bV:List (Str×Addr)}{args:List AV}{cargs:List Value}{qual:Str}{fa:Option Addr}{cd:Value}{K:Sg→AH→Prop}{P:Env→Shared→Prop}
  (hA:A.handled=none) (n0:A.frames=some ak) (hd:A.depth+(d+1)*4<recursionLimit) (hu:A.units+(d+1)*40+200<cLine) (R:au Z G ak H s) (hk:xV sc vt ps)
  (nZ:bV=[]∨∀p∈sc.names,p.2≠ .cell) (lZ:∀x,VK.ar x∈vt→sc.names.lookup x≠some .cell→∃c,bV.lookup x=some c) (V:am Z G.w H s.heap args cargs) (hlen:ps.length=args.length)
  (ug:vt.any dR=true→∃c P,cd= .ref c∧CodeHd G.hb c P∧P∈G.tabs)
  (q:∀H0 cf,Sub H H0→(∀x,VK.ar x∈vt→(sc.names.lookup x=some .cell→H (cf x)=none∧H0 (cf x)=some (.cell none))∧(sc.names.lookup x≠some .cell→bV.lookup x=some (cf x)))→
   (∀x y,VK.ar x∈vt→VK.ar y∈vt→sc.names.lookup x=some .cell→sc.names.lookup y=some .cell→cf x=cf y→x=y)→du vt 0 args (uR vt cf) H0 K)
  (k:∀L cells σ1 H1 s1,(∀a,xM vt L cells a→H a=none)→aW (qM A ak vt sc L cells qual fa cd) d→Su Z G (qM A ak vt sc L cells qual fa cd) vt σ1 H s H1 s1→K σ1 H1→P (jF sc L cells qual fa cd) s1):
  wpAny (model Z G.w) A' (newFunctionEnv sc mainGlobals bV (ps.zip cargs) qual fa cd none builtinsNs) P E s:=by
 simp only [newFunctionEnv,Option.isSome_none,Bool.false_eq_true,if_false]
 refine wpAny_bind (wpAny_alloc ?_)
 have szL:(s.heap.push {cls:= .type "frame",data:= .dict #[]}).objs.size=s.heap.objs.size+1:=Heap.size_push ..
 have R1:au Z G ak (H.set s.heap.objs.size .ns) {s with heap:=s.heap.push {cls:= .type "frame",data:= .dict #[]}}:=R.new (t:=s.toks) (ax _ _) (Nat.le_refl _) ⟨_,Heap.get?_push_size _ rfl⟩
 have X1:Ext noOwn H s.heap (H.set s.heap.objs.size .ns) (s.heap.push {cls:= .type "frame",data:= .dict #[]}):=Ext.new R (ax _ _) (Nat.le_refl _)
 refine LK.casesOn (abY (My vt) sc.names bV _ _ R1) fun H0 R2 S2 X2 m2 b2=>?_
 have ok:=cellsFrom_ok sc.names (s.heap.push {cls:= .type "frame",data:= .dict #[]}) (s.heap.objs.size+1) [] ⟨fun _ _ hm=>(nomatch hm),List.Pairwise.nil⟩ (Nat.le_of_eq szL.symm)
 refine wpAny_bind (wpAny_layCells _ (fun name kind cells=>by cases kind==NameKind.cell<;>simp) _ _ _ _ ?_)
 dsimp only at ok m2 b2 X2 R2 ⊢
 rw[szL] at ok m2 b2 ⊢
 have hL:H0 s.heap.objs.size=some .ns:=(b2 _ (Nat.lt_succ_self _)).trans (AH.ag ..)
 have gf:(pushCells (s.heap.push {cls:= .type "frame",data:= .dict #[]}) sc.names).Ns s.heap.objs.size (fun _=>none):=(Heap.Ns.new s.heap (.type "frame")).keeps (pushCells_keeps _ _)
 have Cs:=adH nZ (fun a ha=>R.dw ha) m2 ok
 have X3:=X1.trans X2
 have S3:=(Sub.ci (R.dw (Nat.le_refl _))).trans S2
 generalize cellsFrom (s.heap.objs.size+1) sc.names bV=cells at *
 generalize pushCells (s.heap.push {cls:= .type "frame",data:= .dict #[]}) sc.names=h2 at *
 have hLn:H s.heap.objs.size=none:=R.dw (Nat.le_refl _)
 generalize s.heap.objs.size=L at *
 have sl:∀x,VK.ar x∈vt→cells.lookup x=some ((cells.lookup x).getD 0)∧(sc.names.lookup x≠some .cell→bV.lookup x=cells.lookup x):=fun x hx=>@dite _ (sc.names.lookup x=some .cell) _ (fun e=>F7.casesOn (Cs.own x e) fun c hc _ _ _ _=>⟨by rw[hc];rfl,fun n=>absurd e n⟩)
  fun e=>(lZ x hx e).elim fun c hc=>⟨by rw[Cs.old x c hc,hc];rfl,fun _=>by rw[Cs.old x c hc]⟩
 have Fo:aW (qM A ak vt sc L cells qual fa cd) d:=⟨hA,by show A.frames.map _=_;rw[n0];rfl,ZO hd,afh hu,hk.fn,zO.refl _,rfl,rfl,.inl rfl⟩
 have R3:Rep Z G (qM A ak vt sc L cells qual fa cd) vt (uR vt fun x=>(cells.lookup x).getD 0) H0 {s with heap:=h2}:=acf hk R2 Cs hL gf (fun x hx=>(sl x hx).1) ug
 refine wpAny_bind (wpAny_mono (adD (A:=A') (Q:=K) Fo _ (fun _ _ _=>rfl) ps 0 args cargs _ H0 {s with heap:=h2} (fun j x hj=>(Nat.zero_add j).symm▸hk.slot rfl hj) hlen R3 (V.mono X3.bY) (q H0 _ S3 (fun x hx=>⟨fun e=>F7.casesOn (Cs.own x e) fun c hc ho _ hn _=>?_,fun e=>((sl x hx).2 e).trans (sl x hx).1⟩) fun x y hx hy ex ey e=>Cs.inj x y _ ex ey (sl x hx).1 ((sl y hy).1.trans (congrArg some e.symm))))
  (fun _ s3 z=>AP.casesOn z fun σ1 H1 R4 x4 y4 q4=>wpAny_pure (k L cells σ1 H1 s3 (fun a ha=>Tv (P:=fun a=>H a=none) hk Cs ha hLn fun _ _ _ _ z=>z) Fo ⟨R4,X3.own.trans x4,(aF.zb _ _).trans y4⟩ q4)) fun _ _ z=>z)
 rw[hc]
 exact⟨hn,ho.trans (congrArg some (abm hx))⟩
end
end
section
set_option backward.match.sparseCases false
noncomputable def gS (a:Arguments)(ps:List Str):Bool:=a.posonlyargs.isEmpty&&(a.args.map (·.arg)==ps)&&a.vararg.isNone&&a.kwonlyargs.isEmpty&&a.kwarg.isNone
noncomputable def oG (s:List (Str×Value))(p:Str×Value):List (Str×Value):=if(s.lookup p.1).isNone=true then s++[p] else s
theorem wpF {α:Type}{M:Model}{A:Around}{c:Prop}[Decidable c]{t e:Sem α}{Q:α→Shared→Prop}{E:Value→Shared→Prop}{s:Shared}(h:¬c)(q:wpAny M A e Q E s):wpAny M A (if c then t else e) Q E s:=(if_neg h).symm▸q
theorem afC {α β:Type}{M:Model}{A:Around}{f:α→β→Sem (ForInStep β)}{g:β→α→β}{l:List α}{b:β}{Q:β→Shared→Prop}{E:Value→Shared→Prop}{s:Shared}(h:∀a b,f a b=pure (.yield (g b a)))(q:Q (l.foldl g b) s):wpAny M A (forIn l b f) Q E s:=by
 induction l generalizing b with
 | nil=>exact wpAny_pure q
 | cons a l ih=>
  rw[List.forIn_cons,h]
  exact wpAny_bind (wpAny_pure (ih q))
theorem zip_get {n:Str}:∀{ps:List Str} {vs:List Value} {i:Nat},ps.Nodup→ps[i]? =some n→(ps.zip vs).lookup n=vs[i]?
 | [],_,_,_,h=>nomatch h
 | p::ps,[],i,_,_=>rfl
 | p::ps,v::vs,0,_,h=>by cases h;rw[List.zip_cons_cons,List.lookup_cons,beq_self_eq_true];rfl
 | p::ps,v::vs,i+1,hn,h=>by
  rw[List.nodup_cons] at hn
  rw[List.zip_cons_cons,List.lookup_cons,beq_false_of_ne fun z:n=p=>hn.1 (z▸List.mem_of_getElem? h)]
  exact zip_get hn.2 h
theorem abo {g:Str→Option Value}{ps:List Str}:∀{vs:List Value},ps.length=vs.length→(∀(i:Nat) (n:Str),ps[i]? =some n→g n=vs[i]?)→ps.filterMap (fun n=>(g n).map (n,·))=ps.zip vs:=by
 induction ps with
 | nil=>exact fun _ _=>rfl
 | cons p ps ih=>
  intro vs hl h
  cases vs with
  | nil=>exact nomatch hl
  | cons v vs=>
   rw[List.filterMap_cons,h 0 p rfl,List.zip_cons_cons]
   exact congrArg _ (ih (Nat.succ.inj hl) fun i n e=>h (i+1) n e)
theorem Up {b:List (Str×Value)}{a:Str×Value}:(if(b.lookup a.1).isNone=true then pure (.yield (b++[(a.1,a.2)])) else pure (.yield b):Sem (ForInStep (List (Str×Value))))=pure (.yield (oG b a)):=by
 unfold oG
 cases (b.lookup a.1).isNone<;>rfl
theorem OC {s:List (Str×Value)}{p:Str×Value}{x:Str}:(oG s p).lookup x=(s.lookup x).or ([p].lookup x):=by
 unfold oG
 cases h:s.lookup p.1 with
 | none=>exact(congrArg (List.lookup x) (if_pos rfl)).trans List.lookup_append
 | some w=>
  refine(congrArg (List.lookup x) (if_neg fun z=>nomatch z)).trans ?_
  obtain⟨k,v⟩:=p
  rw[List.lookup_cons]
  cases e:x==k with
  | false=>exact(Option.or_none).symm
  | true=>cases eq_of_beq e;rw[h];rfl
theorem xz:∀(l s:List (Str×Value)) (x:Str),(l.foldl oG s).lookup x=(s.lookup x).or (l.lookup x)
 | [],s,x=>Option.or_none.symm
 | p::l,s,x=>by
  rw[List.foldl_cons,xz l,OC,Option.or_assoc]
  exact congrArg _ (List.lookup_append (l₁:=[p])).symm
theorem adQ {c m p i:Nat}(h:p≤c+m)(h3:m≤p)(hi:¬i<c):i-(p-m)=c+m-p+(i-c):=by
 obtain⟨k,rfl⟩:=Nat.exists_eq_add_of_le h3
 obtain⟨u,rfl⟩:=Nat.exists_eq_add_of_le (Nat.le_of_add_le_add_left (Nat.add_comm c m▸h):k≤c)
 obtain⟨t,rfl⟩:=Nat.exists_eq_add_of_le (Nat.not_lt.mp hi)
 rw[Nat.add_sub_cancel_left,Nat.add_sub_cancel_left,Nat.add_comm (k+u) m,←Nat.add_assoc,Nat.add_sub_cancel_left,Nat.add_assoc,Nat.add_sub_cancel_left]
theorem abj {c m p i:Nat}(h:p≤c+m)(h3:m≤p)(hi:¬i<c):p-m+(i-(p-m))=i:=Nat.add_sub_cancel' (Nat.le_trans (Nat.sub_le_of_le_add h) (Nat.not_lt.mp hi))
theorem SN {c m p:Nat}(h1:c≤p)(h:p≤c+m):p=c+(m-(c+m-p)):=by
 obtain⟨t,rfl⟩:=Nat.exists_eq_add_of_le h1
 rw[Nat.add_sub_add_left,Nat.sub_sub_self (Nat.le_of_add_le_add_left h)]
theorem W9 {ps:List Str}{cs fV:List Value}(h1:cs.length≤ps.length)(h2:ps.length≤cs.length+fV.length)(h3:fV.length≤ps.length)(hn:ps.Nodup):
  ps.filterMap (fun n=>((((ps.drop (ps.length-fV.length)).zip fV).foldl oG (ps.zip cs)).lookup n).map (n,·))=ps.zip (cs++fV.drop (cs.length+fV.length-ps.length)):=by
 refine abo (by rw[List.length_append,List.length_drop];exact SN h1 h2) fun i n hi=>?_
 rw[xz,zip_get hn hi,List.getElem?_append]
 refine@dite _ (i<cs.length) _ (fun c=>?_) fun c=>?_
 ·rw[if_pos c,List.getElem?_eq_getElem c];rfl
 ·have hd:(ps.drop (ps.length-fV.length))[i-(ps.length-fV.length)]? =some n:=by rw[List.getElem?_drop,abj h2 h3 c,hi]
  rw[if_neg c,List.getElem?_eq_none (Nat.not_lt.mp c),List.getElem?_drop,zip_get (hn.sublist (List.drop_sublist ..)) hd,adQ h2 h3 c]
  rfl
theorem N9 {M:Model}{A:Around}{E:Value→Shared→Prop}{s:Shared}{Q:Option (Array Value)→Shared→Prop}(q:Q none s):wpAny M A (seqItems? .none) Q E s:=wpAny_pure q
theorem Fw {a:Arguments}{ps:List Str}(hp:gS a ps=true):∃q k d,a=⟨[],q,none,[],k,none,d⟩∧q.map (·.arg)=ps:=zP hp fun q1 q2 q3 q4 q5=>by
 obtain⟨p1,p2,p3,p4,p5,p6,p7⟩:=a
 cases ib q1
 cases ib q4
 cases Option.isNone_iff_eq_none.mp q3
 cases Option.isNone_iff_eq_none.mp q5
 exact⟨p2,p5,p7,rfl,eq_of_beq q2⟩
theorem gX {s:Shared}{fd:FuncData}{ps:List Str}{cargs:List Value}{items:Option (Array Value)}(hp:gS fd.params ps=true)(hs:∀M A E Q,Q items s→wpAny M A (seqItems? fd.defaults) Q E s)
  (h1:cargs.length≤ps.length) (h2:ps.length≤cargs.length+(items.getD #[]).toList.length) (h3:(items.getD #[]).toList.length≤ps.length) (hn:ps.Nodup):
  BindsTo s fd ⟨cargs,[]⟩ (ps.zip (cargs++(items.getD #[]).toList.drop (cargs.length+(items.getD #[]).toList.length-ps.length))):=by
 intro M A E Q hq
 rw[←W9 h1 h2 h3 hn] at hq
 obtain⟨p2,p5,p7,e,rfl⟩:=Fw hp
 unfold bindArgs
 rw[e]
 have e0:(items.getD #[]).toList.drop ((items.getD #[]).toList.length-(p2.map Arg.arg).length)=(items.getD #[]).toList:=by rw[Nat.sub_eq_zero_of_le h3];rfl
 refine wpAny_bind (wpAny_pure (wpAny_bind (hs _ _ _ _ (wpF (fun z=>aS z fun z _=>Nat.not_lt.mpr h1 (of_decide_eq_true z)) (wpF (fun z=>?_) (wpAny_bind (afC (g:=oG) (fun a b=>?_) (wpAny_bind (wpAny_pure (wpF (fun z=>nomatch z) (wpAny_pure ?_)))))))))))
 ·replace z:(!(((p2.map Arg.arg).take ((p2.map Arg.arg).length-((items.getD #[]).toList.drop ((items.getD #[]).toList.length-(p2.map Arg.arg).length)).length)).filter fun n=>(((p2.map Arg.arg).zip cargs).lookup n).isNone).isEmpty)=true:=z
  rw[e0] at z
  have h:(((p2.map Arg.arg).take ((p2.map Arg.arg).length-(items.getD #[]).toList.length)).filter fun n=>(((p2.map Arg.arg).zip cargs).lookup n).isNone)=[]:=List.filter_eq_nil_iff.mpr fun n Pp z=>by
   obtain⟨i,hi⟩:=List.getElem?_of_mem Pp
   have hl:i<cargs.length:=Nat.lt_of_lt_of_le (List.getElem?_eq_some_iff.mp hi).1 (Nat.le_trans (List.length_take_le _ _) (Nat.sub_le_of_le_add h2))
   rw[zip_get hn (G2 hi),List.getElem?_eq_getElem hl] at z
   exact nomatch z
  exact nomatch (h▸z:(!List.isEmpty ([]:List Str))=true)
 ·exact Up
 ·show Q (((p2.map Arg.arg)++[]).filterMap fun n=>(((((p2.map Arg.arg).drop ((p2.map Arg.arg).length-((items.getD #[]).toList.drop ((items.getD #[]).toList.length-(p2.map Arg.arg).length)).length)).zip ((items.getD #[]).toList.drop ((items.getD #[]).toList.length-(p2.map Arg.arg).length))).foldl oG ((p2.map Arg.arg).zip cargs)).lookup n).map (n,·)) s
  rw[e0,List.append_nil];exact hq
end
section
set_option backward.match.sparseCases false
set_option genSizeOf false
set_option genInjectivity false
noncomputable def d6 (Q:AV→AH→Prop)(fl:Fl)(_:Sg)(H':AH):Prop:=@Fl.casesOn (fun _=>Prop) fl (Q .none H') False False fun v=>Q v H'
section
variable {Z:Program}{G:Gd}{cls:Value}{d:Nat}{C:FC}{vt:List VK}{σ σ':Sg}{H H0 H1 H3:AH}{s s0 s1 s':Shared}{X:AH→Prop}{A:Around}{E:Value→Shared→Prop}{ak:List Env}{Q:AV→AH→Prop}
section
variable {sc:Scope}{L:Addr}{cells:List (Str×Addr)}{qual:Str}{fa:Option Addr}{cd:Value}
theorem ade {e:Value}(R0:au Z G ak H s)(F:aW (qM A ak vt sc L cells qual fa cd) d)(ow:∀a,xM vt L cells a→H a=none)(S:Su Z G (qM A ak vt sc L cells qual fa cd) vt σ H s H1 s1)(z:XS Z G cls (qM A ak vt sc L cells qual fa cd) H1 s1 X e s'):
  wpAny (model Z G.w) (A.deeper (jF sc L cells qual fa cd)) (leaving (jF sc L cells qual fa cd) e) (fun _ s2=>eQ Z G cls ak H s Q X (.error e) s2) E s':=XS.casesOn z fun ea H' a g x1 y1 ex q=>by
 subst a
 exact wpAny_mono (ab1 F.ak rfl g (ex.le S.x.here) ((S.x.trans x1).pL ow) R0.Tf) (fun _ s2 z=>Uf.casesOn z fun cb g2 ex2 x2 y2 sb=>⟨ea,cb,rfl,g2.pop,x2,(S.y.trans y1).trans y2,ex2,fun H2 h=>q H2 (sb.trans h)⟩) fun _ _ z=>z
theorem WH {body:ah}{stmts:List PySem.Stmt}(hS:zN Z G cls body)(ud:fT G.gl sc vt body stmts=true)(R0:au Z G ak H s)(ow:∀a,xM vt L cells a→H a=none)(F:aW (qM A ak vt sc L cells qual fa cd) d)(S:Su Z G (qM A ak vt sc L cells qual fa cd) vt σ H s H1 s1)
  (q:aU Z G cls d body σ H1 (d6 Q) X):codeAny (model Z G.w) A (.func stmts (jF sc L cells qual fa cd)) (eQ Z G cls ak H s Q X) s1:=
 codeAny_func (wpAny_mono (hS d _ vt stmts F ⟨rfl,_,_,rfl,rfl⟩ ud σ H1 s1 _ X S.R q) (fun fl s2 z=>SP.casesOn z fun σ' H' R2 x2 y2 q2=>by
  have xx:=(S.x.trans x2).pL ow
  cases fl with
  | next=>exact⟨.none,H',R2.g.pop,.none,xx,S.y.trans y2,q2⟩
  | brk=>exact q2.elim
  | cont=>exact q2.elim
  | ret v=>exact q2.elim fun av q2=>⟨av,H',R2.g.pop,q2.1,xx,S.y.trans y2,q2.2⟩) fun e s2 z=>ade R0 F ow S z)
theorem adE {m:MX}{e:PySem.Expr}(hE:SE Z G cls m)(ud:aN G.gl sc vt m e=true)(R0:au Z G ak H s)(ow:∀a,xM vt L cells a→H a=none)(F:aW (qM A ak vt sc L cells qual fa cd) d)(S:Su Z G (qM A ak vt sc L cells qual fa cd) vt σ H s H1 s1)
  (q:bI Z G cls d m σ H1 Q X):codeAny (model Z G.w) A (.expr e (jF sc L cells qual fa cd)) (eQ Z G cls ak H s Q X) s1:=
 kla_codeExpr (wpAny_mono (hE d _ vt e F ud σ H1 s1 _ X S.R q) (fun v s2 z=>EP.casesOn z fun av H' R2 V2 x2 y2 q2=>⟨av,H',R2.g.pop,V2,(S.x.trans x2.own).pL ow,S.y.trans y2,q2⟩) fun e s2 z=>ade R0 F ow S (XP.toS z))
end
theorem OZ {f:Addr}{o:Obj}{fd:FuncData}{ps:List Str}{args:List AV}{cargs SL:List Value}{K:Sg→AH→Prop}{RR:Result→Shared→Prop}(Ok:G.Ok)(hA:A.handled=none)(n0:A.frames=some ak)(hd:A.depth+(d+1)*4<recursionLimit)(hu:A.units+(d+1)*40+200<cLine)(R:au Z G ak H s)
  (ho:s.heap.get? f=some o) (iy:o.data= .func fd) (hg:fd.globals=mainGlobals) (hb:fd.builtins=builtinsNs) (uc:cX H s.heap fd.code) (hk:xV fd.scope vt ps) (nZ:fd.closure=[]∨∀p∈fd.scope.names,p.2≠ .cell)
  (lZ:∀x,VK.ar x∈vt→fd.scope.names.lookup x≠some .cell→∃c,fd.closure.lookup x=some c) (Pl:BindsTo s fd ⟨cargs,[]⟩ (ps.zip SL)) (V:am Z G.w H s.heap args SL) (hlen:ps.length=args.length)
  (ug:vt.any dR=true→∃c P,fd.code= .ref c∧CodeHd G.hb c P∧P∈G.tabs)
  (q:∀H0 cf,Sub H H0→(∀x,VK.ar x∈vt→(fd.scope.names.lookup x=some .cell→H (cf x)=none∧H0 (cf x)=some (.cell none))∧(fd.scope.names.lookup x≠some .cell→fd.closure.lookup x=some (cf x)))→
   (∀x y,VK.ar x∈vt→VK.ar y∈vt→fd.scope.names.lookup x=some .cell→fd.scope.names.lookup y=some .cell→cf x=cf y→x=y)→du vt 0 args (uR vt cf) H0 K)
  (hG:∀L cells qual σ1 H1 s1,(∀a,xM vt L cells a→H a=none)→aW (qM A ak vt fd.scope L cells qual (some f) fd.code) d→Su Z G (qM A ak vt fd.scope L cells qual (some f) fd.code) vt σ1 H s H1 s1→K σ1 H1→
   codeAny (model Z G.w) A (match fd.body with | .stmts b=>.func b (jF fd.scope L cells qual (some f) fd.code) | .expr e=>.expr e (jF fd.scope L cells qual (some f) fd.code)) RR s1):codeAny (model Z G.w) A (.call (.ref f) ⟨cargs,[]⟩) RR s:=
 Uz (Nat.lt_of_le_of_lt (Nat.le_add_right _ _) hd) ho iy hk.co hk.ge uc fun qn=>Pl _ _ _ _ (by
  rw[hg,hb]
  exact Yu hA n0 hd hu R hk nZ lZ V hlen ug q fun L cells σ1 H1 s1 a F S z=>⟨Ok.T.nolimit.keeps S.R.g.keep,hG L cells _ σ1 H1 s1 a F S z⟩)
theorem A1 {cd:Value}{q0:Str}(Ok:G.Ok)(R:au Z G ak H s)(h:codeIn G.K cd q0=true):cX H s.heap cd:=by
 obtain⟨c,o,vs,t,e1,e2,e3,e4⟩:=codeRec_of Ok.X h
 rw[e1]
 exact⟨c,o,vs,q0,t,Option.eq_none_iff_forall_ne_some.mpr fun o z=>bG (R.own _ _ z).1 e2,R.keep _ _ e2,e3,e4⟩
theorem Ow {f:Addr}{args O8:List AV}{Xe:List Value}{ps:List Str}{body:ah}{stmts:List PySem.Stmt}{fd:FuncData}{o:Obj}{q0:Str}(Ok:G.Ok)(hS:zN Z G cls body)
  (hf:G.K.lookup f=some o) (iy:o.data= .func fd) (hg:fd.globals=mainGlobals) (hb:fd.builtins=builtinsNs) (nZ:fd.closure=[]) (hcd:codeIn G.K fd.code q0=true) (hG:fd.body= .stmts stmts)
  (n0:pw fd.scope vt ps=true) (how:vt.all (N0 fd.scope)=true) (ud:fT G.gl fd.scope vt body stmts=true) (ug:vt.any dR=true→∃c P,fd.code= .ref c∧CodeHd G.hb c P∧P∈G.tabs)
  (Pl:∀(s:Shared) (cargs:List Value),G.hb.StaysIn s.heap→cargs.length=args.length→BindsTo s fd ⟨cargs,[]⟩ (ps.zip (cargs++Xe))) (hdv:∀H h,am Z G.w H h O8 Xe) (hlen:ps.length=(args++O8).length)
  (q:∀H0 cf,Sub H H0→(∀x,VK.ar x∈vt→H (cf x)=none∧H0 (cf x)=some (.cell none))→(∀x y,VK.ar x∈vt→VK.ar y∈vt→cf x=cf y→x=y)→
   du vt 0 (args++O8) (uR vt cf) H0 (fun σ H1=>aU Z G cls d body σ H1 (d6 Q) X)):aw Z G cls (d+1) f args H Q X:=fun A ak s cargs hA uf hd hu R V=>by
 have sg:∀x,VK.ar x∈vt→fd.scope.names.lookup x=some .cell:=fun x hx=>eq_of_beq (List.all_eq_true.mp how _ hx)
 exact OZ Ok hA uf hd hu R (Ok.X.keeps R.keep _ _ hf) iy hg hb (A1 Ok R hcd) (frK n0) (.inl nZ) (fun x hx e=>absurd (sg x hx) e) (Pl s cargs R.keep V.len.symm) (V.append (hdv _ _)) hlen ug (fun H0 cf sb c1 c2=>q H0 cf sb (fun x hx=>(c1 x hx).1 (sg x hx)) fun x y hx hy=>c2 x y hx hy (sg x hx) (sg y hy))
  fun L cells qual σ1 H1 s1 a F S z=>hG▸WH hS ud R a F S z
noncomputable def HU (Z:Program)(G:Gd)(cls:Value)(d:Nat)(bV:List (Str×Addr))(c:zH)(args:List AV)(H:AH)(Q:AV→AH→Prop)(X:AH→Prop):Prop:=@zH.casesOn (fun _=>Prop) c
 (fun ps vt body=>ps.length=args.length∧∀H0,Sub H H0→du vt 0 args (uR vt fun x=>(bV.lookup x).getD 0) H0 (fun σ H1=>bI Z G cls d body σ H1 Q X))
 (fun ps vt body=>ps.length=args.length∧∀H0,Sub H H0→du vt 0 args (uR vt fun x=>(bV.lookup x).getD 0) H0 (fun σ H1=>aU Z G cls d body σ H1 (d6 Q) X))
structure VM (sc:Scope)(aQ ps:List Str)(vt:List VK):Prop where
 k:xV sc vt ps
 nc:∀p∈sc.names,p.2≠ .cell
 cap:∀x,VK.ar x∈vt→x∈aQ
 tab:vt.any dR=true→False
 nd:ps.Nodup
theorem Ge {sc:Scope}{aQ ps:List Str}(h:gO sc aQ ps vt=true):VM sc aQ ps vt:=zP h fun h h7 h8 h9 MI=>jc h fun h1 h2 h3 h4 h5 h6=>by
 have nc:∀p∈sc.names,p.2≠ .cell:=fun p hp=>mi (List.all_eq_true.mp h4 p hp)
 have nm:=eq_of_beq h7
 have nd:=of_decide_eq_true MI
 refine⟨⟨eq_of_beq h1,bz h2,bz h3,List.all_eq_true.mp h6,fun k hk=>@VK.casesOn (fun k=>(!k.isP&& !k.isF&& !dR k)=true→noF k=true) k (fun _ _=>rfl) (fun _ _=>rfl) (fun _ h=>h) (fun _ _=>rfl) (fun _=>rfl) (fun _=>rfl) (List.all_eq_true.mp h9 k hk),nm,
  fun k hk=>@VK.casesOn (fun k=>k.isL=true→N0 sc k=true) k (fun _ _=>rfl) (fun _ _=>rfl) (fun _ _=>rfl) (fun _ h=>ff h) (fun _=>rfl) (fun _=>rfl) (List.all_eq_true.mp h8 k hk),nd⟩,nc,fun x hx=>?_,fun z=>?_,?_⟩
 ·have :=(pZ (List.all_eq_true.mp h6 _ hx)).1.elim (fun z=>absurd rfl (nc _ (Mine.mem_of_lookup z))) id
  rw[←eq_of_beq h5];exact List.mem_reverse.mpr (Go this)
 ·obtain⟨k,hk,z⟩:=List.any_eq_true.mp z
  exact cG (List.all_eq_true.mp h9 k hk) fun _ _ h=>ff (z▸h:(!true)=true)
 ·have e:(vt.take ps.length).filterMap VK.name?=ps:=by
   rw[show(vt.take ps.length).filterMap VK.name?=((vt.take ps.length).map VK.name?).filterMap id from by rw[List.filterMap_map];rfl,nm,List.filterMap_map]
   exact List.filterMap_some
  exact e▸nd.sublist ((List.take_sublist _ _).filterMap _)
theorem ZW {cf:Str→Addr}{bV:List (Str×Addr)}(h:∀x,VK.ar x∈vt→bV.lookup x=some (cf x)):(uR vt fun x=>(bV.lookup x).getD 0)=uR vt cf:=
 List.map_congr_left fun k hk=>@VK.casesOn (fun k=>k∈vt→GW (fun x=>(bV.lookup x).getD 0) k=GW cf k) k (fun _ _=>rfl) (fun _ _=>rfl) (fun _ _=>rfl) (fun x hk=>congrArg (fun z=>some (AV.ref (Option.getD z 0))) (h x hk)) (fun _=>rfl) (fun _=>rfl) hk
theorem UB {aQ:List (Str×Addr)}{x:Str}(h:x∈aQ.map (·.1)):∃c,aQ.lookup x=some c:=by
 obtain⟨p,hp,e⟩:=List.mem_map.mp h
 exact Option.isSome_iff_exists.mp (List.lookup_isSome_iff.mpr ⟨p,hp,by rw[e];exact beq_self_eq_true x⟩)
theorem ZG {a:Arguments}{ps:List Str}(h:jL a ps=true):gS a ps=true:=SH h fun a b _ c d _ e _=>by
 unfold gS
 rw[a,b,c,d,e];rfl
theorem Ou {f:Addr}{args:List AV}{c:zH}{bV:List (Str×Addr)}(Ok:G.Ok)(hS:∀body,zN Z G cls body)(hE:∀m,SE Z G cls m)(hf:H f=some (.func c bV))(q:HU Z G cls d bV c args H Q X):aw Z G cls (d+1) f args H Q X:=fun A ak s cargs hA uf hd hu R V=>by
 obtain⟨o,fd,ho,iy,ok,nZ,uc⟩:=(R.own _ _ hf).2
 obtain⟨hg,hb,hdf,hkd,ok⟩:=ok
 have run:∀{ps vt} {K:Sg→AH→Prop},jL fd.params ps=true→VM fd.scope (fd.closure.map (·.1)) ps vt→ps.length=args.length→(∀H0,Sub H H0→du vt 0 args (uR vt fun x=>(bV.lookup x).getD 0) H0 K)→(∀L cells qual σ1 H1 s1,(∀a,xM vt L cells a→H a=none)→aW (qM A ak vt fd.scope L cells qual (some f) fd.code) d→Su Z G (qM A ak vt fd.scope L cells qual (some f) fd.code) vt σ1 H s H1 s1→K σ1 H1→
   codeAny (model Z G.w) A (match fd.body with | .stmts b=>.func b (jF fd.scope L cells qual (some f) fd.code) | .expr e=>.expr e (jF fd.scope L cells qual (some f) fd.code)) (eQ Z G cls ak H s Q X) s1)→codeAny (model Z G.w) A (.call (.ref f) ⟨cargs,[]⟩) (eQ Z G cls ak H s Q X) s:=fun{ps vt K} hp T hlen q hG=>by
  refine OZ Ok hA uf hd hu R ho iy hg hb uc T.k (.inr T.nc) (fun x hx _=>UB (T.cap x hx)) ?_ V hlen (fun z=>(T.tab z).elim) (fun H0 cf sb c1 c2=>?_) hG
  ·have e:=hlen.trans V.len
   have :=gX (s:=s) (cargs:=cargs) (items:=none) (ZG hp) (fun M A E Q q=>hdf▸N9 q) (Nat.le_of_eq e.symm) (Nat.le_of_eq e) (Nat.zero_le _) T.nd
   rw[show(((none:Option (Array Value)).getD #[]).toList.drop _:List Value)=[] from List.drop_nil,List.append_nil] at this
   exact this
  ·rw[←ZW (cf:=cf) fun x hx=>nZ▸(c1 x hx).2 fun z=>T.nc _ (Mine.mem_of_lookup z) rfl]
   exact q H0 sb
 cases c with
 | expr ps vt body=>
  obtain⟨hp,cR,e,hG,ud⟩:=ok
  exact run hp (Ge cR) q.1 q.2 fun L cells qual σ1 H1 s1 a F S z=>hG▸adE (hE body) ud R a F S z
 | stmts ps vt body=>
  obtain⟨hp,cR,e,hG,ud⟩:=ok
  exact run hp (Ge cR) q.1 q.2 fun L cells qual σ1 H1 s1 a F S z=>hG▸WH (hS body) ud R a F S z
theorem xS (A:Around)(c:Addr)(r:List Value):(A.under (.builtin "type.__call__" ⟨.ref c::r,[]⟩)).frames=A.frames:=by
 show pushEnvs (Code.envs (.builtin "type.__call__" ⟨.ref c::r,[]⟩)) A.frames=A.frames
 rfl
theorem Ov {Cc fI:Addr}{args:List AV}(Ok:G.Ok)(hm:makesIn G.K Cc=true)(hi:findIn G.K (.ref Cc) "__init__" =some (some (.ref fI)))(hf:typeIn G.K (.ref fI)=some (.type "function"))
  (q:∀a dx,a≠dx→H a=none→H dx=none→aw Z G cls d fI (.ref a::args) ((H.set dx (.attrs [])).set a (.inst Cc dx)) (fun v H2=>v= .none∧Q (.ref a) H2) X):aw Z G cls (d+1) Cc args H Q X:=fun A ak s cargs hA uf hd hu R V=>by
 obtain⟨h,g,dr,t,os⟩:=s
 have Xh:=Ok.X.keeps R.keep
 have k:∀b o,h.get? b=some o→((h.push emptyDict).push (instObj Cc h.objs.size)).get? b=some o:=fun b o e=>Heap.get?_push_of_some _ (Heap.get?_push_of_some _ e)
 have ne:h.objs.size≠h.objs.size+1:=Nat.ne_of_lt (Nat.lt_succ_self _)
 have R2:=R.Nj (t:=t) (a:=h.objs.size) (b:=h.objs.size+1) (o:= .attrs []) (o':= .inst Cc h.objs.size) k (Nat.le_refl _) (Nat.le_succ _) ne ⟨[],0,Heap.get?_push_of_some _ (Heap.get?_push_size _ rfl),.nil⟩ (by
  have :=Heap.get?_push_size (h.push emptyDict) (o:=instObj Cc h.objs.size) rfl
  rwa [Heap.size_push] at this)
 have X2:Ext noOwn H h ((H.set h.objs.size (.attrs [])).set (h.objs.size+1) (.inst Cc h.objs.size)) ((h.push emptyDict).push (instObj Cc h.objs.size)):=Ext.Nj R k (Nat.le_refl _) (Nat.le_succ _)
 have Y2:aF ⟨h,g,dr,t,os⟩ ⟨(h.push emptyDict).push (instObj Cc h.objs.size),g,dr,t,os⟩:=⟨_,_,rfl⟩
 refine make_core (makes_of Xh hm) (looks_findIn Xh hi) (fun self=>bind_fn Xh self hf) (.inl rfl) ?_
 exact codeAny_mono (q (h.objs.size+1) h.objs.size (Ne.symm ne) (R.dw (Nat.le_succ _)) (R.dw (Nat.le_refl _)) _ ak ⟨(h.push emptyDict).push (instObj Cc h.objs.size),g,dr,t,os⟩ (.ref (h.objs.size+1)::cargs) hA (by rw[xS];exact uf) (by show A.depth+1+_<_;exact ZO hd) (by show A.units+1+_+_<_;exact Nat.lt_of_le_of_lt (by lia) hu) R2 (.cons .ref (V.mono X2.bY)))
  fun r s' z=>oE z (fun v z=>RP.casesOn z fun av H' g' V' x y q'=>by
   obtain⟨rfl,q'⟩:=q'
   exact V'.wP ⟨rfl,.ref (h.objs.size+1),H',g',.ref,X2.trans x,Y2.trans y,q'⟩) fun e z=>XP.trans (s':=⟨(h.push emptyDict).push (instObj Cc h.objs.size),g,dr,t,os⟩) X2 Y2 z
end
end
section
set_option backward.match.sparseCases false
open Sem (wp)
section
variable {Z:Program}{w:World}{A:Around}{R:Result→Shared→Prop}{h:Heap}{g:Array GenState}{d:Drawn}{t:Nat}{os:OsState}{K:Frag}{E:Value→Shared→Prop}
variable {nm q:Str}{C N:Addr}{bs bm:List Value}{eK:Bool}{sn:List Str}{sub:List Value}{ab:Bool}{col:Option Bool}{dd:Option Addr}{k0 k1 k2 k3 k5:Option Value}{newId M1:String}{Ur:List Value}{Bn:String}
noncomputable abbrev bP (C:Addr)(T:Addr):Obj:={cls:= .ref C,data:= .fields #[.ref T,.none,.none,.none,.bool false,.none]}
theorem Xk (Fn:ExcBaseFacts Bn newId M1 Ur)(Bh:(Value.ref C::bm).contains (.type Bn)=true)(XE:(Value.ref C::bm).contains (.type "AttributeError")=false)(XF:(Value.ref C::bm).contains (.type "NameError")=false){rest:List Value}
  (hC:h.get? C=some (excClassObj nm q C N bs bm eK sn sub ab col dd k0 k1 k2 k3 k5 newId))
  (hq:R (.ok (.ret (.ref (h.objs.size+1)))) ⟨(h.push {cls:= .type "tuple",data:= .seq rest.toArray}).push (bP C h.objs.size),g,d,t,os⟩) (Ih:rest.length≤sizeLine):
  codeAny (model Z w) A (.builtin newId ⟨.ref C::rest,[]⟩) R ⟨h,g,d,t,os⟩:=by
 have aj7:=Fn.ends
 refine codeAny_builtinAt Fn.entry ?_
 unfold Builtin.«BaseException.__new__»
 refine PySem.wpAt_bind ?_
 show PySem.wpAt _ _ _ (stack>>=_) _ _ _
 refine PySem.wpAt_bind (PySem.wpAt_stack fun p below=>PySem.wpAt_of_wpAny ?_)
 wp_walk
 refine PySem.wpAt_of_wpAny ?_
 rw[Fn.owner]
 repeat (first | with_reducible refine wpAny_madeHere_exc Fn.canon hC ?_ | with_reducible refine wpAny_loadPart_at hC ?_ | (with_reducible refine wpAny_isSubtype_exc hC ?_;first | rw[Bh] | rw[XE] | rw[XF]) | wp_step)
 show R _ _
 rw[Heap.size_push]
 exact hq
theorem E2 (Fn:ExcBaseFacts Bn newId M1 Ur)(hB:bm.contains (.type Bn)=true)(Bh:(Value.ref C::bm).contains (.type Bn)=true)(XE:(Value.ref C::bm).contains (.type "AttributeError")=false)(XF:(Value.ref C::bm).contains (.type "NameError")=false){rest:List Value}{fI:Addr}(X:K.In h)
  (hi:findIn K (.ref C) "__init__" =some (some (.ref fI))) (hf:typeIn K (.ref fI)=some (.type "function")) (Ih:rest.length≤sizeLine)
  (hC:h.get? C=some (excClassObj nm q C N bs bm eK sn sub ab col dd k0 k1 k2 k3 k5 newId)) {A':Around}
  (hq:codeAny (model Z w) A' (.call (.ref fI) ⟨.ref (h.objs.size+1)::rest,[]⟩) (InitBack (h.objs.size+1) R) ⟨(h.push {cls:= .type "tuple",data:= .seq rest.toArray}).push (bP C h.objs.size),g,d,t,os⟩):
  wpAny (model Z w) A' (Builtin.«type.__call__» ⟨.ref C::rest,[]⟩) (fun fin s'=>match fin with | .done f=>R (.ok f) s' | .again c'=>False) (fun e s'=>R (.error e) s') ⟨h,g,d,t,os⟩:=by
 repeat (first | with_reducible refine wpAny_loadPart_at hC ?_ | with_reducible refine wpAny_madeBy_exc hC ?_ | wp_step)
 refine codeAny_call_builtin_code (Code.quiet_builtin _ Fn.quiet) (wpAny_check_new_subU Fn hB .base hC ?_)
 refine Xk Fn Bh XE XF hC ?_ Ih
 show wpAny _ _ _ _ _ _
 have k:∀b o,h.get? b=some o→((h.push {cls:= .type "tuple",data:= .seq rest.toArray}).push (bP C h.objs.size)).get? b=some o:=fun b o e=>Heap.get?_push_of_some _ (Heap.get?_push_of_some _ e)
 have hC₁:=k _ _ hC
 have SX:((h.push {cls:= .type "tuple",data:= .seq rest.toArray}).push (bP C h.objs.size)).get? (h.objs.size+1)=some (bP C h.objs.size):=by heap_get
 have hcC:(Value.ref C::bm).contains (.ref C)=true:=by simp
 unfold isInstance
 repeat (first | with_reducible refine wpAny_loadPart_at SX ?_ | (with_reducible refine wpAny_isSubtype_exc hC₁ ?_;rw[hcC]) | wp_step)
 have Xh:=X.keeps k
 refine(looks_findIn Xh hi).here ?_
 dsimp only
 refine wpAny_holding (wpAny_bind ((bind_fn Xh _ hf).here ?_))
 dsimp only
 refine wpAny_bind (wpAny_call (codeAny_mono hq fun r s' z=>?_))
 cases r with
 | error e=>exact z
 | ok f=>cases f with
  | ret v=>
   obtain⟨rfl,z⟩:v= .none∧R (.ok (.ret (.ref (h.objs.size+1)))) s':=z
   exact wpAny_pure (wpAny_pure z)
  | next=>exact z.elim
  | brk=>exact z.elim
  | cont=>exact z.elim
end
end
section
set_option backward.match.sparseCases false
open Builtin Builtin.ObjectAttr
section
variable {Z:Program}{w:World}{A:Around}{R:Result→Shared→Prop}{s:Shared}{K:Frag}{E:Value→Shared→Prop}{C x:Addr}{ox:Obj}{cd:ClassData}{name:Str}{tk:Tok}{v:Value}
theorem Xl (X:K.In s.heap)(I:InstAt s.heap x ox C none)(hc:clsIn K C=some cd)(hr:∀self,refuseLoop self "__setattr__" cd.mro=pure ())(hob:cd.mro.contains (.type "object")=true)(az:cd.mro.isEmpty=false)(ha:findIn K (.ref C) name=some none)(hhd:cd.hasDict=true)
  (Ie:∃vs,ox.data= .fields vs) (hod:ox.dict=none)
  (h:∀h' tk,(∀b o,b≠x→s.heap.get? b=some o→h'.get? b=some o)→h'.get? x=some {ox with dict:=some s.heap.objs.size}→R (.ok (.ret .none)) {s with heap:=h',toks:=tk}):
  codeAny (model Z w) A (.call (.builtin "object.__setattr__") ⟨[.ref x,.str name tk,v],[]⟩) R s:=by
 have SF:=PySem.F.store_object
 have sub:Looks (model Z w) s.heap (isInstance (.ref x) (.type "object")) true:=I.type.andThen (looks_mroIn X (by unfold mroIn;rw[hc,Option.bind_some,if_neg (by rw[az];decide),hob]))
 refine codeAny_call_builtin SF.slot.plain SF.entry (@check_slot (model Z w) _ _ s "object.__setattr__" "object" "__setattr__" (.ref x) [.str name tk,v] [] _ SF.kind SF.split sub (SF.args (.ref x) (.str name tk) v) ?_)
 have hm:Looks (model Z w) s.heap (mroOf (.ref C)) cd.mro:=(looks_clsIn X hc).andThen .now
 rw[osa_eq,refuse_eq]
 refine wpAny_bind (wpAny_bind (I.type.here (wpAny_bind (hm.here ?_))))
 rw[hr]
 refine wpAny_pure (wpAny_bind (I.type.here (wpAny_bind ((looks_findIn X ha).here (wpAny_bind (wpAny_pure ?_))))))
 dsimp only
 obtain⟨hx,nZ,hn,-⟩:=I
 obtain⟨vs,Ie⟩:=Ie
 obtain⟨oc,odi,oda,osl⟩:=ox
 dsimp only at nZ Ie hod
 subst nZ Ie hod
 unfold storeInOwnDict
 refine wpAny_bind (wpAny_pure ?_)
 show wpAny _ _ (ownDictForStores (.ref x)>>=_) _ _ _
 refine wpAny_bind ?_
 show wpAny _ _ (instanceDict x true) _ _ _
 unfold instanceDict
 refine wpAny_bind (wpAny_loadPart hx ?_)
 dsimp only
 refine wpAny_bind ((looks_clsIn X hc).here ?_)
 rw[hhd]
 show wpAny _ _ (alloc emptyDict>>=_) _ _ _
 refine wpAny_bind (wpAny_alloc ?_)
 have hx1:(s.heap.push emptyDict).get? x=some ⟨.ref C,none,.fields vs,osl⟩:=Heap.get?_push_of_some _ hx
 refine wpAny_bind (wpAny_update hx1 ?_)
 refine wpAny_pure ?_
 have hM:=Heap.lt_size hx
 have Xv:(s.heap.push emptyDict).get? s.heap.objs.size=some emptyDict:=Heap.get?_push_size _ rfl
 have hD:((s.heap.push emptyDict).update x fun o=>{o with dict:=some s.heap.objs.size}).get? s.heap.objs.size=some emptyDict:=by
  rw[Heap.get?_update_other _ _ (Nat.ne_of_lt hM)];exact Xv
 have hX:((s.heap.push emptyDict).update x fun o=>{o with dict:=some s.heap.objs.size}).get? x=some ⟨.ref C,some s.heap.objs.size,.fields vs,osl⟩:=Heap.get?_update_self (fun o=>{o with dict:=some s.heap.objs.size}) hx1 rfl
 have hk:∀b o,b≠x→s.heap.get? b=some o→((s.heap.push emptyDict).update x fun o=>{o with dict:=some s.heap.objs.size}).get? b=some o:=fun b o hb e=>by
  rw[Heap.get?_update_other _ _ (Ne.symm hb)];exact Heap.get?_push_of_some _ e
 generalize (s.heap.push emptyDict).update x (fun o=>{o with dict:=some s.heap.objs.size})=h2 at *
 dsimp only
 unfold storeInDict
 refine wpAny_bind (wpAny_pure (wpAny_bind ?_))
 unfold nsSet
 refine wpAny_bind (wpAny_bind (wpAny_askSetting (wpAny_pure (wpAny_bind (wpAny_mkText (wpAny_bind (wpAny_loadPart hD ?_)))))))
 have yT:(!(#[]:Array DictEntry).any (·.key.isStr name)&&(#[]:Array DictEntry).any (·.refKey))=false:=by simp
 dsimp only
 rw[aRefKeyMayBeTheName_at,yT]
 refine wpAny_updatePart hD ?_
 have MQ:=Heap.get?_update_self (h:=h2) (Obj.putName name (PyData.keyHash w.params name) (.str name s.toks) v) hD (by rfl)
 refine wpAny_bind (wpAny_lookBehind MQ (by first | exact pastItsLine_dict (by simp) | (unfold Obj.putName;exact pastItsLine_dict (by simp))) ?_)
 refine wpAny_pure (h _ _ (fun b o hb e=>?_) ?_)
 ·rw[Heap.get?_update_other _ _ (Nat.ne_of_gt (Heap.lt_size e))];exact hk b o hb e
 ·rw[Heap.get?_update_other _ _ (Nat.ne_of_gt hM)];exact hX
end
end
section
set_option backward.match.sparseCases false
set_option genSizeOf false
set_option genInjectivity false
open Sem (wp)
section
variable {Z:Program}{w:World}{A:Around}{R:Result→Shared→Prop}{h:Heap}{g:Array GenState}{d:Drawn}{t:Nat}{os:OsState}{K:Frag}{E:Value→Shared→Prop}
variable {nm q:Str}{C N:Addr}{bs bm:List Value}{eK:Bool}{sn:List Str}{sub:List Value}{ab:Bool}{col:Option Bool}{dd:Option Addr}{k0 k1 k2 k3 k5:Option Value}{newId M1:String}{Ur:List Value}{Bn:String}
theorem A8 (Fn:ExcBaseFacts Bn newId M1 Ur)(Bh:(Value.ref C::bm).contains (.type Bn)=true){M:Model}{e:Addr}{oe:Obj}{rest:List Value}{Q:Unit→Shared→Prop}
  (hC:h.get? C=some (excClassObj nm q C N bs bm eK sn sub ab col dd k0 k1 k2 k3 k5 newId)) (he:h.get? e=some oe) (px:oe.cls= .ref C) (hq:Q () ⟨h,g,d,t,os⟩):
  wpAny M A (checkBuiltinCall M1 ⟨.ref e::rest,[]⟩) Q E ⟨h,g,d,t,os⟩:=by
 have aiT:=Fn.noStar
 simp only [checkBuiltinCall,Fn.initKind,Fn.initSplit,Fn.initRow]
 repeat (first | (with_reducible refine wpAny_loadPart_at he ?_;rw[px]) | with_reducible refine wpAny_loadPart_at hC ?_ | (with_reducible refine wpAny_isSubtype_exc hC ?_;rw[Bh]) | wp_step)
 refine wpAny_onRaise ?_
 rw[show∀(a b:String) (n:Nat),Bind.check ⟨.positional,"*",Bn,.self,[⟨"args",.varPos,false⟩]⟩ a b n (List.map (fun x=>x.fst) ({pos:=Value.ref e::rest}:Args).kw)=pure () from
  fun a b n=>check_star_args _ _ _ _ _ _]
 exact wpAny_pure hq
theorem Pc (Fn:ExcBaseFacts Bn newId M1 Ur)(Bh:(Value.ref C::bm).contains (.type Bn)=true){e T:Addr}{v:Value}{Q:Value→Shared→Prop}
  (hC:h.get? C=some (excClassObj nm q C N bs bm eK sn sub ab col dd k0 k1 k2 k3 k5 newId)) (he:h.get? e=some (bP C T))
  (hq:∀h' T',(∀b o,b≠e→h.get? b=some o→h'.get? b=some o)→h'.get? e=some (bP C T')→Q .none ⟨h',g,d,t,os⟩):
  wpAny (model Z w) A (call (.builtin M1) [.ref e,v]) Q E ⟨h,g,d,t,os⟩:=by
 refine wpAny_call (codeAny_call_builtin Fn.init.plain Fn.initEntry (A8 Fn Bh hC he rfl ?_))
 have hM:=Heap.lt_size he
 wp_walk
 refine hq _ h.objs.size (fun b o hb e=>?_) ?_
 ·rw[Heap.get?_update_other _ _ (Ne.symm hb)];exact Heap.get?_push_of_some _ e
 ·rw[Heap.get?_update_self _ (Heap.get?_push_of_some _ he) rfl]
  rfl
inductive RsR (K:Frag)(C:Addr)(E:Value→Shared→Prop)(v:Value)(s:Shared):Prop
 | mk (e t:Addr) (od:Option Addr) (hv:v= .ref e) (X:K.In s.heap) (he:s.heap.get? e=some {cls:= .ref C,dict:=od,data:= .fields #[.ref t,.none,.none,.none,.bool false,.none]}) (hE:E (.ref e) s):RsR K C E v s
theorem A9 {env:Env}{s:Shared}{M:Model}{x:Sem Value}{Q:Flow→Shared→Prop}(hC:K.lookup C=some (excClassObj nm q C N bs bm eK sn sub ab col dd k0 k1 k2 k3 k5 newId))(Bh:(Value.ref C::bm).contains (.type "BaseException")=true)(hh:A.handled=none)
  (hx:wpAny M A x (RsR K C E) E s):wpAny M A (raiseStmt env (some x) none) Q E s:=by
 unfold raiseStmt
 refine wpAny_bind (wpAny_mono hx (fun v s₁ h₁=>RsR.casesOn h₁ fun e t od hv X he hE=>?_) fun _ _ x=>x)
 subst hv
 replace hC:=X _ _ hC
 obtain⟨hp,g,d,tk,os⟩:=s₁
 repeat (first | with_reducible refine wpAny_loadPart_at he ?_ | with_reducible refine wpAny_loadPart_at hC ?_ | (with_reducible refine wpAny_isSubtype_exc hC ?_;rw[Bh]) | wp_step)
 exact wpAny_raiseNew_none hh hE
theorem Fg {s:Shared}{name:Str}{T:String}{pl:Sem Bool}{Q:Value×List Value→Shared→Prop}{v:Value}(X:K.In s.heap)(ht:typeOf (.type T)=pure (.type "type"))(hs:Manifest.isStub T=false)
  (e:findCls K (.type T) (.type "type") name=some (.val v)) (hh:handedIn v=true) (hq:Q (v,[]) {s with toks:=s.toks+1}):wpAny (model Z w) A (getMethod (.type T) name pl) Q E s:=by
 have aeG:opaqueClassAbove (.type T)=pure none:=by unfold opaqueClassAbove;dsimp only;rw[hs];rfl
 have L0:Looks (model Z w) s.heap (typeOf (.type T)) (.type "type"):=Looks.of_pure ht
 have hg:findIn K (.type "type") "__getattribute__" =some (some (.builtin "type.__getattribute__")):=type_tga
 unfold getMethod specialOf
 refine wpAny_bind (wpAny_bind (L0.here ((looks_findIn X hg).here ?_)))
 dsimp only
 rw[if_pos canon_tga]
 refine wpAny_bind (wpAny_mono (Q:=fun v=>Q (v,[])) (E:=E) ?_ (fun _ _ z=>wpAny_pure z) fun _ _ z=>z)
 have LO:Looks (model Z w) s.heap (opaqueClassAbove (.type T)) none:=Looks.of_pure aeG
 exact cls_open X LO L0 hg (looks_hook X (r:=none) (by rfl)) (by show subIn K _ _=_;rfl) e
  (wpAny_pure (by show wpAny _ _ (handedOut v) _ _ _;rw[handedOut_of hh];exact wpAny_pure hq))
theorem UL (Fn:ExcBaseFacts Bn newId M1 Ur)(hB:bm.contains (.type Bn)=true)(Bh:(Value.ref C::bm).contains (.type Bn)=true)(XE:(Value.ref C::bm).contains (.type "AttributeError")=false)(XF:(Value.ref C::bm).contains (.type "NameError")=false){rest:List Value}{fI:Addr}(X:K.In h)
  (hi:findIn K (.ref C) "__init__" =some (some (.ref fI))) (hf:typeIn K (.ref fI)=some (.type "function")) (Ih:rest.length≤sizeLine)
  (hC:h.get? C=some (excClassObj nm q C N bs bm eK sn sub ab col dd k0 k1 k2 k3 k5 newId))
  (hq:codeAny (model Z w) (A.under (.builtin "type.__call__" ⟨.ref C::rest,[]⟩)) (.call (.ref fI) ⟨.ref (h.objs.size+1)::rest,[]⟩) (InitBack (h.objs.size+1) R) ⟨(h.push {cls:= .type "tuple",data:= .seq rest.toArray}).push (bP C h.objs.size),g,d,t,os⟩):
  codeAny (model Z w) A (.call (.ref C) ⟨rest,[]⟩) R ⟨h,g,d,t,os⟩:=by
 have f1:=tc_lookup
 have f2:=tc_bind (.ref C)
 have hT:(⟨h,g,d,t,os⟩:Shared).TypeIs (.ref C) "type":=⟨_,hC,rfl⟩
 refine codeAny_of_tree ?_
 show wpAny _ _ (callAny (.ref C) _) _ _ _
 repeat (any_goals (first | assumption | with_reducible refine wpAny_loadPart_at hC ?_ | wp_step))
 refine⟨rfl,?_⟩
 refine codeAny_call_builtin_at (Code.quiet_builtin _ (by decide+kernel)) entry_typeCall (wpAny_check_type_call_sub hC (wpAny_mono (E2 Fn hB Bh XE XF X hi hf Ih hC hq) (fun fin s' z=>?_) fun _ _ z=>z))
 cases fin with
 | done f=>exact z
 | again c=>exact z.elim
end
end
section
set_option backward.match.sparseCases false
set_option genSizeOf false
set_option genInjectivity false
open Sem (wp)
inductive F8 (G:Gd)(Cc:Addr):Prop
 | mk (nm q:Str) (N:Addr) (bs bm:List Value) (sn:List Str) (sub:List Value) (ab:Bool) (col:Option Bool) (dd:Option Addr) (k0 k1 k2 k3 k5:Option Value) (hC:G.K.lookup Cc=some (excClassObj nm q Cc N bs bm true sn sub ab col dd k0 k1 k2 k3 k5 "ValueError.__new__"))
  (cB:bm.contains (.type "ValueError")=true) (c1:(Value.ref Cc::bm).contains (.type "ValueError")=true) (c2:(Value.ref Cc::bm).contains (.type "AttributeError")=false) (c3:(Value.ref Cc::bm).contains (.type "NameError")=false) (c4:(Value.ref Cc::bm).contains (.type "BaseException")=true)
  (c5:(Value.ref Cc::bm).contains (.type "object")=true) (c6:∀self,refuseLoop self "__setattr__" (.ref Cc::bm)=pure ()):F8 G Cc
inductive FnX (G:Gd)(fI:Addr):Prop
 | mk (oc:Value) (od:Option Addr) (fd:FuncData) (sl:Array (Option Value)) (q0 se re:Str) (j:Nat) (p1 p2 p3 p4 p5 p6 p7 p8 p9 sJ:Pos) (b1:G.K.lookup fI=some ⟨oc,od,.func fd,sl⟩) (b2:fd.globals=mainGlobals) (b3:fd.builtins=builtinsNs) (b4:fd.closure=[]) (b5:codeIn G.K fd.code q0=true)
  (b6:fd.body= .stmts [.Expr (.Call (.Attribute (.Name "ValueError" p1) "__init__" p2) [.Name se p3,.Name re p4] [] p5) p6,.Assign [.Attribute (.Name se p7) "reason" p8] (.Name re p9) sJ]) (b7:p2.endLine=p5.line)
  (b8:pw fd.scope [.loc se,.loc re] [se,re]=true) (b9:pz G.gl fd.scope j "ValueError" (.con (.type "ValueError"))=true) (b10:∀(s:Shared) (cargs:List Value),G.hb.StaysIn s.heap→cargs.length=2→BindsTo s fd ⟨cargs,[]⟩ ([se,re].zip cargs)):FnX G fI
structure ee (G:Gd)(Cc fI:Addr):Prop where
 cls:F8 G Cc
 ini:findIn G.K (.ref Cc) "__init__" =some (some (.ref fI))
 ahl:typeIn G.K (.ref fI)=some (.type "function")
 sat:findIn G.K (.ref Cc) "__setattr__" =some (some (.builtin "object.__setattr__"))
 nor:findIn G.K (.ref Cc) "reason" =some none
 ve:findCls G.K (.type "ValueError") (.type "type") "__init__" =some (.val (.builtin "ValueError.__init__"))
 keep:keepIn G.K (.ref Cc)=true
 ahZ:instIn G.K (.ref Cc) (.type "tuple")=some false
 alq:instIn G.K (.ref Cc) (.type "type")=some true
 ahz:mroIn G.K Cc (.type "BaseException")=some true
 ahA:mroIn G.K Cc (.ref Cc)=some true
 fn:FnX G fI
section
variable {Z:Program}{G:Gd}{cls:Value}{d:Nat}{C:FC}{vt:List VK}{σ σ':Sg}{H H0 H1 H3:AH}{s s0 s1 s':Shared}{X:AH→Prop}{A:Around}{E:Value→Shared→Prop}{ak:List Env}{Cc fI e T:Addr}
@[elab_as_elim] theorem aj.aiH {w:World}{h:Heap}{v:Value}{m:String}{P:Value→Prop}(V:aj Z w H h (.str m) v)(k:∀t,P (.str (Str.ofString m) t)):P v:=V.inv k
theorem Lo {i:Nat}{x:Str}{av:AV}{p:Pos}{Q:Value→Shared→Prop}(F:aW C d)(R:Rep Z G C vt σ H s)(h:vt[i]? =some (.loc x))(hv:σ[i]? =some (some av))(k:∀v,aj Z G.w H s.heap av v→Q v s):wpAny (model Z G.w) C.A (eval (.Name x p) C.env) Q E s:=
 have l:=BC (E:=E) F R (by unfold eE;rw[h];exact beq_self_eq_true x) hv k
 wpAny_Name l.1 l.2
section
variable {se re:Str}{j:Nat}{p1 p2 p3 p4 p5 p6 p7 p8 p9 sJ:Pos}{m:String}{P:Flow→Shared→Prop}
set_option maxHeartbeats 4000000 in
theorem Xn (Ok:G.Ok)(Y:ee G Cc fI)(F:aW C d)(R:Rep Z G C [.loc se,.loc re] [some (.ref e),some (.str m)] H s)(hx:s.heap.get? e=some (bP Cc T))(hp:p2.endLine=p5.line)(hg:pz G.gl C.sc j "ValueError" (.con (.type "ValueError"))=true)
  (k:∀h' T',ja e s.heap h'→h'.get? e=some (bP Cc T')→P .next {s with heap:=h',toks:=s.toks+1}):wpAny (model Z G.w) C.A (exec (.Expr (.Call (.Attribute (.Name "ValueError" p1) "__init__" p2) [.Name se p3,.Name re p4] [] p5) p6) C.env) P E s:=by
 refine wpAny_Expr_any ?_ (by unfold interactive;rw[F.kind];rfl) (gM rfl)
 have g:=wx (A:=C.A) (E:=E) (Q:=fun v s'=>v= .type "ValueError"∧s'=s) Ok F R hg fun v V gv=>⟨gv.1,rfl⟩
 rw[arm_eval_Call]
 refine wpAny_bind (Hl rfl (wpAny_mono (wpAny_Name g.1 g.2) (fun v s2 z=>?_) fun _ _ z=>z))
 obtain⟨rfl,XU⟩:=z
 subst XU
 refine wpAny_bind (wpAny_standAt ?_)
 have Xh:=Ok.X.keeps R.g.keep
 unfold methodCall
 rw[show methodCallForm _ _ _=true from rfl]
 refine wpAny_bind (wpAny_holding (Fg Xh rfl rfl Y.ve rfl ?_))
 refine wpAny_bind (wpAny_of_eq (show methodCallPos true (.Name "ValueError" p1) C.env p2 p5=pure p5 from if_pos (beq_iff_eq.mpr hp)) ?_)
 have R1:Rep Z G C [.loc se,.loc re] [some (.ref e),some (.str m)] H {s2 with toks:=s2.toks+1}:=R.grow (h':=s2.heap) (fun _ _ e=>e)
 refine fS rfl (wpAny_items_cons (Lo (i:=0) F R1 rfl rfl fun v V=>V.im (wpAny_items_cons (Lo (i:=1) F R1 rfl rfl fun v V=>V.aiH fun t=>wpAny_items_nil ⟨Kept.builtin,?_⟩))))
 obtain⟨hp0,gs,dr,tk0,os⟩:=s2
 exact F8.casesOn Y.cls fun _ _ _ _ _ _ _ _ _ _ _ _ _ _ _ hC _ c1 _ _ _ _ _=>Pc PySem.F.excBase_ValueError c1 (Xh _ _ hC) hx k
theorem Xo (Ok:G.Ok)(Y:ee G Cc fI)(F:aW C d)(R:Rep Z G C [.loc se,.loc re] [some (.ref e),some (.str m)] H s)(hx:s.heap.get? e=some (bP Cc T))
  (k:∀h' tk d',ja e s.heap h'→h'.get? e=some {cls:= .ref Cc,dict:=some d',data:= .fields #[.ref T,.none,.none,.none,.bool false,.none]}→P .next {s with heap:=h',toks:=tk}):wpAny (model Z G.w) C.A (exec (.Assign [.Attribute (.Name se p7) "reason" p8] (.Name re p9) sJ) C.env) P E s:=by
 rw[exec_Assign]
 refine wpAny_bind (wpAny_standAt (wpAny_bind (m:=swapsWithSole [.Attribute (.Name se p7) "reason" p8] (.Name re p9) sJ.line C.env) (wpAny_pure ?_)))
 rw[if_neg (by decide)]
 refine wpAny_bind (Lo (i:=1) F R rfl rfl fun v V=>wpAny_bind (m:=swappedStores [.Attribute (.Name se p7) "reason" p8] (.Name re p9) C.env) (wpAny_pure ?_))
 show wpAny _ _ (do assignAll v [assign (.Attribute (.Name se p7) "reason" p8) C.env];pure Flow.next) _ _ _
 refine wpAny_bind ?_
 show wpAny _ _ (assign (.Attribute (.Name se p7) "reason" p8) C.env v) _ _ _
 rw[assign_Attribute]
 refine wpAny_bind (wpAny_holding (Lo (i:=0) F R rfl rfl fun u U=>U.im (wpAny_bind (wpAny_standAt (wpAny_bind (wpAny_holding ?_))))))
 have Xh2:=Ok.X.keeps R.g.keep
 have I:InstAt s.heap e (bP Cc T) Cc none:=⟨hx,rfl,rfl,trivial⟩
 exact F8.casesOn Y.cls fun nm q N bs bm sn sub ab col dd k0 k1 k2 k3 k5 hC _ _ _ _ _ c5 c6=>set_plain Xh2 I Y.sat (Xl (s:={s with toks:=s.toks+1}) (cd:={name:=nm,bases:=bs,mro:= .ref Cc::bm,ns:=N,qualname:=q,hasDict:=true,slotNames:=sn,subclasses:=sub,abstract:=ab,collection:=col,hasDel:=false}) Xh2 I (by unfold clsIn;rw[hC]) c6 c5 rfl Y.nor rfl ⟨_,rfl⟩ rfl
  fun h2 tk2 kb2 h2e=>wpAny_release (wpAny_pure (k h2 tk2 _ kb2 h2e)))
theorem UK (Ok:G.Ok)(Y:ee G Cc fI)(F:aW C d)(R:Rep Z G C [.loc se,.loc re] [some (.ref e),some (.str m)] H s)(he:H e=some .it)(hx:s.heap.get? e=some (bP Cc T))(hp:p2.endLine=p5.line)(hg:pz G.gl C.sc j "ValueError" (.con (.type "ValueError"))=true)
  (k:∀h' tk T' d',ja e s.heap h'→h'.get? e=some {cls:= .ref Cc,dict:=some d',data:= .fields #[.ref T',.none,.none,.none,.bool false,.none]}→P .next {s with heap:=h',toks:=tk}):
  wpAny (model Z G.w) C.A (execs [.Expr (.Call (.Attribute (.Name "ValueError" p1) "__init__" p2) [.Name se p3,.Name re p4] [] p5) p6,.Assign [.Attribute (.Name se p7) "reason" p8] (.Name re p9) sJ] C.env) P E s:=
 wpAny_execs_cons (Xn Ok Y F R hx hp hg fun h1 T1 kb h1e=>wpAny_execs_cons (Xo (s:={s with heap:=h1,toks:=s.toks+1}) Ok Y F (R.but (t:=s.toks+1) he kb ⟨_,h1e⟩) h1e fun h2 tk d' kb2 h2e=>wpAny_execs_nil (k h2 tk T1 d' (fun b o hb e=>kb2 b o hb (kb b o hb e)) h2e)))
end
end
end
section
set_option backward.match.sparseCases false
open Sem (wp)
section
variable {Z:Program}{G:Gd}{cls:Value}{d:Nat}{C:FC}{vt:List VK}{σ σ':Sg}{H H0 H1 H3:AH}{s s0 s1 s':Shared}{X:AH→Prop}{A:Around}{E:Value→Shared→Prop}{ak:List Env}{Cc fI e T:Addr}
theorem Xm {m:String}{t:Tok}{RR:Result→Shared→Prop}(Ok:G.Ok)(Y:ee G Cc fI)(hA:A.handled=none)(n0:A.frames=some ak)(hd:A.depth+(0+1)*4<recursionLimit)(hu:A.units+(0+1)*40+200<cLine)(R:au Z G ak H s)(he:H e=some .it)(hx:s.heap.get? e=some (bP Cc T))
  (k:∀H3 s3 h' tk d' T',Ext noOwn H s.heap H3 s3.heap→aF s s3→Sub H H3→H3 e=some .it→ja e s3.heap h'→au Z G ak H3 {s3 with heap:=h',toks:=tk}→h'.get? e=some {cls:= .ref Cc,dict:=some d',data:= .fields #[.ref T',.none,.none,.none,.bool false,.none]}→RR (.ok (.ret .none)) {s3 with heap:=h',toks:=tk}):
  codeAny (model Z G.w) A (.call (.ref fI) ⟨[.ref e,.str (Str.ofString m) t],[]⟩) RR s:=
 FnX.casesOn Y.fn fun oc od fd sl q0 se re j p1 p2 p3 p4 p5 p6 p7 p8 p9 sJ b1 b2 b3 b4 b5 b6 b7 b8 b9 b10=>
  OZ (d:=0) (vt:=[.loc se,.loc re]) (args:=[.ref e,.str m]) (K:=fun σ H1=>[some (.ref e),some (.str m)]=σ∧Sub H H1) Ok hA n0 hd hu R (Ok.X.keeps R.keep _ _ b1) rfl b2 b3 (A1 Ok R b5) (frK b8) (.inl b4) (fun x hx=>nomatch hx) (b10 s _ R.keep rfl) (.cons .ref (.cons .str .nil)) rfl (fun z=>nomatch z) (fun H0 cf sb _ _=>⟨rfl,sb⟩)
   fun L cells qual σ1 H3 s3 ow F S q=>by
    obtain⟨rfl,sb⟩:=q
    have XJ:H3 e=some .it:=(S.x.it e he).1
    rw[b6]
    exact codeAny_func (UK Ok Y F S.R XJ ((S.x.it e he).2 (fun z=>bG (ow _ z) he) _ hx) b7 b9 fun h' tk T' d' kb XW=>k H3 s3 h' tk d' T' (S.x.pL ow) S.y sb XJ kb (S.R.g.but XJ kb ⟨_,XW⟩).pop XW)
theorem Wj {j:Nat}{m:String}(Ok:G.Ok)(Y:cls= .ref Cc→∃fI,ee G Cc fI):SS Z G cls (.gy j Cc m):=fun d C vt st F Ta hc=>Sc hc fun x np m' k cp p0 p1 hc=>aS hc fun hg hm σ H s Q X R q=>by
 cases eq_of_beq hm
 obtain⟨hd2,px,q⟩:=q
 obtain⟨fI,Y⟩:=Y px
 refine F8.casesOn Y.cls fun nm qn N bs bm sn sub ab col dd k0 k1 k2 k3 k5 hC cB c1 c2 c3 c4 c5 c6=>?_
 rw[arm_exec_Raise]
 refine wpAny_bind (wpAny_standAt ?_)
 show wpAny _ _ (raiseStmt C.env (some (do let v ←eval (.Call (.Name x np) [.Constant (.str (Str.ofString m)) k cp] [] p0) C.env;standAt p1;pure v)) none) _ _ s
 refine A9 hC c4 F.handled ?_
 rw[fU rfl]
 have g:=wx (A:=C.A) (E:=XS Z G cls C H s X) (Q:=fun v s'=>v= .ref Cc∧s'=s) Ok F R hg fun v V gv=>⟨gv,rfl⟩
 refine wpAny_bind (wpAny_bind (wpAny_mono (wpAny_Name g.1 g.2) (fun v s2 z=>?_) fun _ _ z=>z))
 obtain⟨rfl,XU⟩:=z
 subst XU
 have Xh:G.K.In s2.heap:=Ok.X.keeps R.g.keep
 refine fS rfl (wpAny_items_cons (wpAny_Constant_str (wpAny_items_nil ⟨keeps_K Y.keep _ Xh,?_⟩)))
 obtain⟨h,gs,dr,tk,os⟩:=s2
 dsimp only at *
 have kk:∀b o,h.get? b=some o→((h.push {cls:= .type "tuple",data:= .seq [Value.str (Str.ofString m) tk].toArray}).push (bP Cc h.objs.size)).get? b=some o:=fun b o e=>Heap.get?_push_of_some _ (Heap.get?_push_of_some _ e)
 have SX:((h.push {cls:= .type "tuple",data:= .seq [Value.str (Str.ofString m) tk].toArray}).push (bP Cc h.objs.size)).get? (h.objs.size+1)=some (bP Cc h.objs.size):=by heap_get
 have nE:H (h.objs.size+1)=none:=R.g.dw (Nat.le_succ _)
 have gE:h.get? (h.objs.size+1)=none:=jH (Nat.le_succ _)
 have R2:au Z G C.ak (H.set (h.objs.size+1) .it) ⟨(h.push {cls:= .type "tuple",data:= .seq [Value.str (Str.ofString m) tk].toArray}).push (bP Cc h.objs.size),gs,dr,tk+1,os⟩:=R.g.new (t:=tk+1) kk (Nat.le_succ _) ⟨_,SX⟩
 have X2:Ext noOwn H h (H.set (h.objs.size+1) .it) ((h.push {cls:= .type "tuple",data:= .seq [Value.str (Str.ofString m) tk].toArray}).push (bP Cc h.objs.size)):=Ext.new R.g kk (Nat.le_succ _)
 have Y2:aF ⟨h,gs,dr,tk,os⟩ ⟨(h.push {cls:= .type "tuple",data:= .seq [Value.str (Str.ofString m) tk].toArray}).push (bP Cc h.objs.size),gs,dr,tk+1,os⟩:=⟨_,_,rfl⟩
 refine wpAny_call (UL (rest:=[Value.str (Str.ofString m) tk]) PySem.F.excBase_ValueError cB c1 c2 c3 Xh Y.ini Y.ahl (by rw[sizeLine_eq];exact Nat.le_add_left 1 _) (Xh _ _ hC) ?_)
 have hd:=F.depth
 have hu:=F.units
 refine Xm Ok Y F.handled (by rw[xS];exact F.ak) (by show C.A.depth+1+_<_;lia) (by show C.A.units+1+_+_<_;lia) R2 (AH.ag ..) SX fun H3 s3 h' VF d' T' x3 y3 sb XJ kb g4 XW=>⟨rfl,wpAny_bind (wpAny_standAt (wpAny_pure ?_))⟩
 exact⟨_,T',_,rfl,Ok.X.keeps g4.keep,XW,_,H3,rfl,g4,((X2.trans x3).but gE nE kb).own,Y2.trans (y3.trans (aF.mk _ _ _)),⟨_,_,XW,px.symm,rfl,gE,XJ,.inl rfl⟩,fun H4 hs=>q H4 (((Sub.ci nE).trans sb).trans hs)⟩
theorem Ia {M:Model}{e:Addr}{oe:Obj}{Q:Bool→Shared→Prop}(Y:ee G Cc fI)(X:G.K.In s.heap)(he:s.heap.get? e=some oe)(hc:oe.cls= .ref Cc)(hq:Q true s):wpAny M A (excMatches (.ref e) (.ref Cc)) Q E s:=by
 have t1:Looks M s.heap (typeOf (.ref e)) (.ref Cc):=(Looks.ld (part:=none) he).andThen (hc▸ .now)
 have le:Looks M s.heap (isExcClass (.ref Cc)) true:=F8.casesOn Y.cls fun nm qn N bs bm sn sub ab col dd k0 k1 k2 k3 k5 hC _ _ _ _ _ _ _=>((Looks.ld (X _ _ hC)).andThen .now:Looks M s.heap (isType (.ref Cc)) true).andThen (looks_mroIn X Y.ahz)
 unfold excMatches
 refine wpAny_bind ((looks_instIn X Y.ahZ).here ?_)
 refine wpAny_bind (wpAny_pure ?_)
 refine wpAny_bind (wpAny_bind (wpAny_bind (le.here ?_)))
 refine wpAny_pure (wpAny_pure (wpAny_bind (t1.here ?_)))
 exact wpAny_bind (wpAny_bind (wpAny_bind ((looks_mroIn X Y.ahA).here (wpAny_pure (wpAny_pure (wpAny_pure hq))))))
theorem MB {b:Bool}{k:Nat}{p3 p4:Pos}{ea:Addr}{Q:Fl→Sg→AH→Prop}{E:Value→Shared→Prop}(S:St Z G C vt σ H s H1 s1)(q2:Q (.ret (.bool b)) σ H1):wpAny (model Z G.w) (C.A.mark (some (.ref ea))) (execs [.Return (some (.Constant (.bool b) k p3)) p4] C.env) (fun f s₂=>SP Z G C vt H s Q f s₂) E s1:=
 wpAny_execs_cons (wpAny_Return_some (wpAny_Constant_bool (S.u.sp ⟨.bool b,.bool,q2⟩)))
theorem MA {ea:Addr}{x:Str}{j k:Nat}{b:Bool}{p2 p3 p4 p5:Pos}{Q:Fl→Sg→AH→Prop}(Ok:G.Ok)(Y:ee G Cc fI)(px:cls= .ref Cc)(F:aW C d)(hg:pz G.gl C.sc j x (.ref Cc)=true)(R0:au Z G ak H s)(S:St Z G C vt σ H s H1 s1)(ex:ExcAt s1.heap s.heap ea cls H1)(q2:Q (.ret (.bool b)) σ H1):
  wpAny (model Z G.w) C.A (handleBy (.ref ea) C.env [.ExceptHandler (some (.Name x p2)) none [.Return (some (.Constant (.bool b) k p3)) p4] p5]) (SP Z G C vt H s Q) (XS Z G cls C H s X) s1:=ExcAt.casesOn ex fun oe vs e1 e2 e3 e4 e5 e6=>by
 refine wpAny_handleBy_cons (codeAny_handlers_test ?_) (fun q=>nomatch q)
 have g:=wx (A:=C.A.mark (some (.ref ea))) (Q:=fun v s'=>v= .ref Cc∧s'=s1) (E:=notedBy (model Z G.w) (C.A.mark (some (.ref ea))) C.env fun x s₁=>cameBackBy (model Z G.w) C.A C.env (XS Z G cls C H s X) x s₁) Ok F S.R hg fun v V gv=>⟨gv,rfl⟩
 refine wpAny_mono (wpAny_Name g.1 g.2) (fun v s4 z=>?_) fun _ _ z=>z
 obtain⟨rfl,rfl⟩:=z
 refine Ia Y (Ok.X.keeps S.R.g.keep) e1 (e2.trans px) (codeAny_handlers_suite ?_)
 refine e6.elim (fun e6=>?_) fun⟨T,oT,ts,t1,t2,t3,t4,t5,t6,t7⟩=>?_
 ·unfold setFlight
  refine wpAny_bind (wpAny_field e1 e3 e6 ?_)
  rw[if_neg (by decide)]
  exact wpAny_pure (MB S q2)
 ·refine wpAny_setFlight_none e1 e3 t1 t4 t5 (Array.getElem?_eq_some_iff.mp t6).1 ?_
  have kb:ja T s4.heap (s4.heap.update T (Obj.mapFields (·.setIfInBounds 3 .none))):=fun b o hb e=>(Heap.get?_update_other _ _ (Ne.symm hb)).trans e
  have nT:H T=none:=Option.eq_none_iff_forall_ne_some.mpr fun o w=>(R0.own T o w).2.here.elim fun oo ho=>bG t2 ho
  exact MB ⟨S.R.but (t:=s4.toks) t7 kb ⟨_,Heap.get?_update_self _ t4 (Obj.isFreed_of_fields (Obj.data_mapFields t5 _))⟩,S.x.but t2 nT kb,S.y.trans (aF.zb _ _)⟩ q2
theorem Wk {j:Nat}{m:MX}{b:Bool}(Ok:G.Ok)(Y:cls= .ref Cc→∃fI,ee G Cc fI)(he:SE Z G cls m):SS Z G cls (.On m j Cc b):=fun d C vt st F Ta hc=>ZA hc fun v p1 x p2 b' k p3 p4 p5 p6 hc=>sX hc fun hb aej hg hce σ H s Q X R q=>by
 cases eq_of_beq hb
 refine wpAny_Try_except (wpAny_mono (wpAny_execs_cons (wpAny_Expr_any (wpAny_mono (he d C vt v F hce σ H s _ _ R q) (fun v s1 z=>wpAny_execs_nil (EP.casesOn z fun av H1 R1 V1 x1 y1 q1=>wpAny_execs_nil ⟨σ,H1,R1,x1.own,y1,q1⟩)) fun _ _ z=>z) (by unfold interactive;rw[F.kind];rfl) (gM (bz aej)))) (fun f s1 z=>z) fun e s1 z=>XP.casesOn z fun ea H1 hv g1 x1 y1 ex1 q1=>?_)
 subst hv
 have px:=(q1 H1 (Sub.refl _)).1
 obtain⟨fI,Y⟩:=Y px
 obtain⟨rest,L,uf,hfL⟩:=Ta.2
 rw[uf] at g1
 exact wpAny_mono (YA (F.ak.trans (congrArg some uf)) hfL g1 ex1 x1 R.g.Tf) (fun _ s2 z=>wpAny_mono z (fun _ s3 z=>Uf.casesOn z fun H2 g2 ex2 x2 y2 sb2=>MA Ok Y px F hg R.g ⟨R.step x2 (uf▸g2),x2,y1.trans y2⟩ ex2 (q1 H2 sb2).2) fun _ _ z=>z) fun _ _ z=>z
end
end
section
set_option backward.match.sparseCases false
section
variable {Z:Program}{G:Gd}{cls:Value}
theorem cZ {m:MX}(h:∀d σ H Q X,u7 Z G cls d m σ H Q X→False):ST Z G cls m:=fun d C vt e F hc σ H s Q X R q=>(h d σ H Q X q).elim
variable (Ok:G.Ok)
include Ok
mutual
theorem sE:∀m:MX,SE Z G cls m
 | .var i=>aaQ
 | .bb i=>aaD
 | .glob j v=>Wa Ok
 | .lit v=>aaJ
 | .bin op a b=>aaC (sE a) (sE b)
 | .cmp op a b=>aaE Ok (sE a) (sE b)
 | .rl o1 o2 a b c=>VY Ok (sE a) (sE b) (sE c)
 | .and l=>aaB (ZS l)
 | .or l=>adt (ZS l)
 | .not a=>aaM (sE a)
 | .neg a=>aaL (sE a)
 | .ite c a b=>aaH (sT c) (sE a) (sE b)
 | .tup l=>aaP (Lk l)
 | .lst l=>aaK (Lk l)
 | .gx l=>Wd (Lk l)
 | .eK=>Wc
 | .wz i v=>Uk
 | .rn op a b=>Wb (sE a) (sE b)
 | .E3 a=>aaF Ok (sE a)
 | .idx a i=>aaG Ok (sE a) (sE i)
 | .sL a lo hi=>aaO (sE a) (sE lo) (sE hi)
 | .absent=>OA
 | .rev a=>aaN (sE a)
 | .attr a nm=>VX Ok (sE a)
 | .call f args=>LQ Ok (sE f) (Lk args)
 | .aJ a nm args=>LS Ok (sE a) (Lk args)
 | .wo j C nm f args=>Uj Ok (Lk args)
 | .comp elt nms tg it bk=>VZ Ok (sE it) (sA tg) (sE elt) (Lj bk)
 | .lam aQ ps vt body=>aaI Ok
theorem sT:∀m:MX,ST Z G cls m
 | .not a=>aa0 (sT a)
 | .and l=>aaW (sTs l)
 | .or l=>adv (sTs l)
 | .ite c a b=>aaY (sT c) (sT a) (sT b)
 | .cmp op a b=>aaX Ok (sE a) (sE b)
 | .rl o1 o2 a b c=>Wn Ok (sE a) (sE b) (sE c)
 | .var i=>aa1
 | .call f args=>Wm (LQ Ok (sE f) (Lk args))
 | .aJ a nm args=>Wo (LS Ok (sE a) (Lk args))
 | .lit v=>aaZ
 | .bb i=>cZ fun _ _ _ _ _ q=>q
 | .glob j v=>cZ fun _ _ _ _ _ q=>q
 | .bin op a b=>cZ fun _ _ _ _ _ q=>q
 | .neg a=>cZ fun _ _ _ _ _ q=>q
 | .tup l=>cZ fun _ _ _ _ _ q=>q
 | .lst l=>cZ fun _ _ _ _ _ q=>q
 | .gx l=>cZ fun _ _ _ _ _ q=>q
 | .eK=>cZ fun _ _ _ _ _ q=>q
 | .wz i v=>cZ fun _ _ _ _ _ q=>q
 | .rn op a b=>cZ fun _ _ _ _ _ q=>q
 | .E3 a=>cZ fun _ _ _ _ _ q=>q
 | .idx a i=>cZ fun _ _ _ _ _ q=>q
 | .sL a lo hi=>cZ fun _ _ _ _ _ q=>q
 | .absent=>cZ fun _ _ _ _ _ q=>q
 | .rev a=>cZ fun _ _ _ _ _ q=>q
 | .attr a nm=>cZ fun _ _ _ _ _ q=>q
 | .wo j C nm f args=>cZ fun _ _ _ _ _ q=>q
 | .comp elt nms tg it bk=>cZ fun _ _ _ _ _ q=>q
 | .lam aQ ps vt body=>cZ fun _ _ _ _ _ q=>q
theorem Lk:∀l:bA,vf Z G cls l
 | .nil=>LU
 | .cons a r=>Ga (sE a) (Lk r)
theorem ZS:∀l:bA,zM Z G cls l
 | .nil=>Ug
 | .cons a .nil=>Uh (sE a)
 | .cons a (.cons b r)=>Oz (sE a) (ZS (.cons b r))
theorem sTs:∀l:bA,Un Z G cls l
 | .nil=>Wp
 | .cons a r=>Uo (sT a) (sTs r)
theorem Lj:∀l:bA,iw Z G cls l
 | .nil=>LP
 | .cons a r=>G9 (sT a) (Lj r)
theorem sA:∀t:MT,SA Z G cls t
 | .var i=>aaA
 | .bb i=>aax
 | .tup l=>aaz (sAs l)
 | .idx a i=>aay Ok (sE a) (sE i)
 | .attr a nm=>VU Ok (sE a)
theorem sAs:∀l:qr,VV Z G cls l
 | .nil=>VW
 | .cons t r=>Ui (sA t) (sAs r)
end
variable (Y:∀C,cls= .ref C→∃fI,ee G C fI)
include Y
mutual
theorem sS:∀m:MS,SS Z G cls m
 | .asg t e=>aaR (sA Ok t) (sE Ok e)
 | .xA i elt nms tg it bk=>We Ok (sE Ok it) (sA Ok tg) (sE Ok elt) (Lj Ok bk)
 | .aug i op e=>aaS (sE Ok e)
 | .expr e=>Wg (sE Ok e)
 | .ce c a b=>adu (sT Ok c) (Sl a) (Sl b)
 | .di c b=>Ul (sT Ok c) (Sl b)
 | .cV t it b=>aaU Ok (sA Ok t) (sE Ok it) (Sl b)
 | .ret e=>aaV (sE Ok e)
 | .brk=>aaT
 | .pass=>Wi
 | .gy j C m=>Wj Ok (Y C)
 | .On e j C b=>Wk Ok (Y C) (sE Ok e)
 | .Nc i j e=>Wh Ok (Ga (sE Ok e) LU)
 | .defn i aQ ps vt body=>Wf Ok
theorem Sl:∀l:ah,zN Z G cls l
 | .nil=>Wl
 | .cons a r=>Um (sS a) (Sl r)
end
theorem WZ {f:Addr}{args:List AV}{c:zH}{bV:List (Str×Addr)}{H:AH}{d:Nat}{Q:AV→AH→Prop}{X:AH→Prop}(hf:H f=some (.func c bV))(q:HU Z G cls d bV c args H Q X):aw Z G cls (d+1) f args H Q X:=
 Ou Ok (Sl Ok Y) (sE Ok) hf q
end
noncomputable def NR (v:Value)(n:Bool)(r:Addr→Bool):Bool:=@Value.casesOn (fun _=>Bool) v n false false z1 z2 z2 z2 z2 z1 z1 r
theorem TT {v:Value}{n:Bool}{r:Addr→Bool}{P:Value→Prop}(h:NR v n r=true)(f:n=true→P .none)(g:∀a,r a=true→P (.ref a)):P v:=@Value.casesOn (fun v=>NR v n r=true→P v) v f (fun h=>ff h) (fun h=>ff h) g1 g2 g2 g2 g2 g1 g1 g h
noncomputable def dv1 (a:AV)(v:Value):Bool:=@AV.casesOn (fun _=>Bool) a (NR v true z1) z1 (fun i=>@Value.casesOn (fun _=>Bool) v false false false z1 (fun j _=>i==j) z2 z2 z2 z1 z1 z1) z1 z1 z1 z1 z1 z1 z1 z2 z2
noncomputable def Mw:List AV→List Value→Bool
 | [],vs=>vs.isEmpty
 | a::r,vs=>iA vs fun v s=>dv1 a v&&Mw r s
theorem Xd {Z:Program}{w:World}{H:AH}{h:Heap}{a:AV}{v:Value}(e:dv1 a v=true):aj Z w H h a v:=
 @AV.casesOn (fun a=>dv1 a v=true→aj Z w H h a v) a (fun e=>TT (P:=fun v=>aj Z w H h .none v) e (fun _=>.none) g1) g1
  (fun i e=>@Value.casesOn (fun v=>dv1 (.int i) v=true→aj Z w H h (.int i) v) v (fun h=>ff h) (fun h=>ff h) (fun h=>ff h) g1 (fun j t e=>dW e .int) g2 g2 g2 g1 g1 g1 e) g1 g1 g1 g1 g1 g1 g1 g2 g2 e
theorem Gk {Z:Program}{w:World}{H:AH}{h:Heap}{l:List AV}:∀{vs:List Value},Mw l vs=true→am Z w H h l vs:=by
 induction l with
 | nil=>exact fun e=>ib e▸ .nil
 | cons a r ih=>exact fun e=>cN (P:=fun vs=>am Z w H h (a::r) vs) e fun v s e=>aS e fun x y=>.cons (Xd x) (ih y)
noncomputable def ac9 (o:Option Obj)(k:FuncData→Bool):Bool:=cF o fun o=>@Data.casesOn (fun _=>Bool) o.data false z1 z2 z2 (fun _=>z2) z2 z1 k z1 z1 false
noncomputable def adb (o:Option Obj)(k:List Value→Bool):Bool:=cF o fun o=>@Data.casesOn (fun _=>Bool) o.data false z1 (fun xs _=>k xs.toList) z2 (fun _=>z2) z2 z1 z1 z1 z1 false
theorem Zg {o:Option Obj}{k:FuncData→Bool}(h:ac9 o k=true):∃ob fd,o=some ob∧ob.data= .func fd∧k fd=true:=(dN h).elim fun ob q=>by
 obtain⟨c,dd,d,sl⟩:=ob
 exact@Data.casesOn (fun d=>o=some ⟨c,dd,d,sl⟩∧(@Data.casesOn (fun _=>Bool) d false z1 z2 z2 (fun _=>z2) z2 z1 k z1 z1 false)=true→∃ob fd,o=some ob∧ob.data= .func fd∧k fd=true) d (fun q=>ff q.2) (fun _ q=>ff q.2) (fun _ _ q=>ff q.2) (fun _ _ q=>ff q.2) (fun _ _ _ q=>ff q.2) (fun _ _ q=>ff q.2) (fun _ q=>ff q.2) (fun fd q=>⟨_,fd,q.1,rfl,q.2⟩) (fun _ q=>ff q.2) (fun _ q=>ff q.2) (fun q=>ff q.2) q
theorem Zx {o:Option Obj}{k:List Value→Bool}(h:adb o k=true):∃ob xs n,o=some ob∧ob.data= .seq xs n∧k xs.toList=true:=(dN h).elim fun ob q=>by
 obtain⟨c,dd,d,sl⟩:=ob
 exact@Data.casesOn (fun d=>o=some ⟨c,dd,d,sl⟩∧(@Data.casesOn (fun _=>Bool) d false z1 (fun xs _=>k xs.toList) z2 (fun _=>z2) z2 z1 z1 z1 z1 false)=true→∃ob xs n,o=some ob∧ob.data= .seq xs n∧k xs.toList=true) d (fun q=>ff q.2) (fun _ q=>ff q.2) (fun xs n q=>⟨_,xs,n,q.1,rfl,q.2⟩) (fun _ _ q=>ff q.2) (fun _ _ _ q=>ff q.2) (fun _ _ q=>ff q.2) (fun _ q=>ff q.2) (fun _ q=>ff q.2) (fun _ q=>ff q.2) (fun _ q=>ff q.2) (fun q=>ff q.2) q
noncomputable def Sd (b:FuncBody)(k:List PySem.Stmt→Bool):Bool:=@FuncBody.casesOn (fun _=>Bool) b k z1
@[elab_as_elim] theorem Zy {b:FuncBody}{k:List PySem.Stmt→Bool}{P:FuncBody→Prop}(h:Sd b k=true)(f:∀l,k l=true→P (.stmts l)):P b:=@FuncBody.casesOn (fun b=>Sd b k=true→P b) b f g1 h
noncomputable def aD (gl:Gl)(K:Frag)(f:Addr)(q:Str)(tb:List Addr)(nA:Nat)(dv:List AV)(vt:List VK)(ps:List Str)(body:ah):Bool:=ac9 (K.lookup f) fun fd=>
 fd.globals==mainGlobals&&fd.builtins==builtinsNs&&fd.closure.isEmpty&&codeIn K fd.code q&&Sd fd.body (fT gl fd.scope vt body ·)&&pw fd.scope vt ps&&vt.all (N0 fd.scope)&&gS fd.params ps&&decide ps.Nodup&&(!(vt.any dR)||NR fd.code false (tb.contains ·))&&
 NR fd.defaults (dv.isEmpty&&nA==ps.length) fun T=>adb (K.lookup T) fun fV=>decide (nA≤ps.length)&&decide (ps.length≤nA+fV.length)&&decide (fV.length≤ps.length)&&Mw dv (fV.drop (nA+fV.length-ps.length))
theorem UG {a m p:Nat}(h:p≤a+m)(h':a≤p):p=a+(m-(a+m-p)):=SN h' h
theorem Ue {Z:Program}{G:Gd}{cls:Value}{d:Nat}{H:AH}{Q:AV→AH→Prop}{X:AH→Prop}{f:Addr}{q0:Str}{tb:List Addr}{nA:Nat}{args dv:List AV}{vt:List VK}{ps:List Str}{body:ah}(Ok:G.Ok)(Y:∀C,cls= .ref C→∃fI,ee G C fI)
  (MZ:∀c∈tb,∃P,CodeHd G.hb c P∧P∈G.tabs) (hk:aD G.gl G.K f q0 tb nA dv vt ps body=true) (hn:args.length=nA)
  (q:∀H0 cf,Sub H H0→(∀x,VK.ar x∈vt→H (cf x)=none∧H0 (cf x)=some (.cell none))→(∀x y,VK.ar x∈vt→VK.ar y∈vt→cf x=cf y→x=y)→
   du vt 0 (args++dv) (uR vt cf) H0 (fun σ H1=>aU Z G cls d body σ H1 (d6 Q) X)):aw Z G cls (d+1) f args H Q X:=by
 obtain⟨ob,fd,hf,iy,hk⟩:=Zg hk
 refine jc hk fun hk h7 h8 h9 MI wy=>jc hk fun h1 h2 h3 h4 h5 h6=>?_
 subst hn
 have hb:∃b,fd.body= .stmts b∧fT G.gl fd.scope vt body b=true:=Zy (P:=fun z=>∃b,z= .stmts b∧fT G.gl fd.scope vt body b=true) h5 fun b h=>⟨b,rfl,h⟩
 obtain⟨b,hG,h5⟩:=hb
 have ug:vt.any dR=true→∃c P,fd.code= .ref c∧CodeHd G.hb c P∧P∈G.tabs:=fun e=>TZ MI (fun z=>ff (e▸z:(!true)=true)) fun z=>TT (P:=fun v=>∃c P,v= .ref c∧CodeHd G.hb c P∧P∈G.tabs) z (fun z=>ff z) fun c z=>(MZ c (List.contains_iff_mem.mp z)).elim fun P a=>⟨c,P,rfl,a⟩
 have run:∀(fV:Option (Array Value)),(∀(s:Shared),G.hb.StaysIn s.heap→∀M A E Q,Q fV s→wpAny M A (seqItems? fd.defaults) Q E s)→args.length≤ps.length→ps.length≤args.length+(fV.getD #[]).toList.length→(fV.getD #[]).toList.length≤ps.length→Mw dv ((fV.getD #[]).toList.drop (args.length+(fV.getD #[]).toList.length-ps.length))=true→aw Z G cls (d+1) f args H Q X:=fun fV hs a1 a2 a3 a4=>
  Ow Ok (Sl Ok Y body) hf iy (eq_of_beq h1) (eq_of_beq h2) (ib h3) h4 hG h6 h7 h5 ug (fun s cargs hb hl=>hl▸gX h8 (hs s hb) (hl▸a1) (hl▸a2) a3 (of_decide_eq_true h9)) (fun _ _=>Gk a4) (by
   rw[List.length_append,(Gk (Z:=Z) (w:=G.w) (H:=H) (h:=G.hb) a4).len,List.length_drop]
   exact UG a2 a1) q
 cases hd:fd.defaults with
 | none=>
  rw[hd] at wy
  refine aS wy fun z1 z2=>run none (fun s hb M A E Q q=>hd▸N9 q) (Nat.le_of_eq (eq_of_beq z2)) (Nat.le_of_eq (eq_of_beq z2).symm) (Nat.zero_le _) ?_
  rw[ib z1]
  show(List.drop _ ([]:List Value)).isEmpty=true
  rw[List.drop_nil];rfl
 | ref T=>
  rw[hd] at wy
  obtain⟨oT,xs,n,hT,MP,wy⟩:=Zx (o:=G.K.lookup T) (k:=fun fV=>decide (args.length≤ps.length)&&decide (ps.length≤args.length+fV.length)&&decide (fV.length≤ps.length)&&Mw dv (fV.drop (args.length+fV.length-ps.length))) wy
  exact sX wy fun a1 a2 a3 a4=>run (some xs) (fun s hb M A E Q q=>hd▸wpAny_seqItems (hb _ _ (Ok.X _ _ hT)) MP q) (of_decide_eq_true a1) (of_decide_eq_true a2) (of_decide_eq_true a3) a4
 | _=>rw[hd] at wy;exact ff wy
end
noncomputable section
noncomputable def aZ:Gl:=[(Str.ofString "PressError",AV.ref 39),(Str.ofString "BadArgument",AV.ref 52),(Str.ofString "check_steps",AV.ref 61),(Str.ofString "check_range",AV.ref 68),(Str.ofString "step_size",AV.ref 75),(Str.ofString "size_of",AV.ref 80),(Str.ofString "Trail",AV.ref 116),(Str.ofString "literals",AV.ref 126),(Str.ofString "greedy",AV.ref 133),(Str.ofString "Ways",AV.ref 164),(Str.ofString "least",AV.ref 176),(Str.ofString "price_of",AV.ref 183),(Str.ofString "slot_of",AV.ref 190),(Str.ofString "FlatPrice",AV.ref 222),(Str.ofString "Counts",AV.ref 250),(Str.ofString "counts_of",AV.ref 261),(Str.ofString "log_units",AV.ref 268),(Str.ofString "SymbolPrices",AV.ref 290),(Str.ofString "LearntPrice",AV.ref 324),(Str.ofString "learn",AV.ref 336),(Str.ofString "PlaceRow",AV.ref 374),(Str.ofString "Matcher",AV.ref 465),(Str.ofString "Finder",AV.ref 508),(Str.ofString "_law_bag",AV.ref 515),(Str.ofString "_law_take",AV.ref 522),(Str.ofString "_law_text",AV.ref 527),(Str.ofString "_law_drawn",AV.ref 534),(Str.ofString "_law_slot",AV.ref 541),(Str.ofString "_law_log",AV.ref 548),(Str.ofString "_law_tally",AV.ref 555),(Str.ofString "_law_table",AV.ref 560),(Str.ofString "_law_learnt",AV.ref 565),(Str.ofString "_law_flat",AV.ref 572),(Str.ofString "_law_cost",AV.ref 577),(Str.ofString "_law_matches",AV.ref 584),(Str.ofString "_law_ways",AV.ref 591),(Str.ofString "_law_least",AV.ref 596),(Str.ofString "_law_refused",AV.ref 603),(Str.ofString "_law_counts_right",AV.ref 608),(Str.ofString "_law_parses_right",AV.ref 613),(Str.ofString "law",AV.ref 620),(Str.ofString "LEAST_MATCH",AV.int 2),(Str.ofString "NOWHERE",AV.int (-1)),(Str.ofString "len",AV.con (.builtin "len")),(Str.ofString "abs",AV.con (.builtin "abs")),(Str.ofString "max",AV.con (.builtin "max")),(Str.ofString "min",AV.con (.builtin "min")),(Str.ofString "sum",AV.con (.builtin "sum")),(Str.ofString "sorted",AV.con (.builtin "sorted")),(Str.ofString "int",AV.con (.type "int")),(Str.ofString "bytes",AV.con (.type "bytes")),(Str.ofString "range",AV.con (.type "range")),(Str.ofString "dict",AV.con (.type "dict")),(Str.ofString "enumerate",AV.con (.type "enumerate")),(Str.ofString "ValueError",AV.con (.type "ValueError"))]
noncomputable def zt:List VK:=[.loc "steps",.loc "first",.loc "second"]
noncomputable def zk:List Str:=["steps"]
noncomputable def vT:MT:=(.tup (.cons (.var 1) (.cons (.var 2) .nil)))
noncomputable def vV:ah:=(.cons (.gy 1 52 "a match of less than two octets") .nil)
def vW:ah:=(.cons (.ce (.and (.cons (.cmp .NotEq (.var 1) (.lit (.int 0))) (.cons (.cmp .Lt (.var 1) (.glob 41 (.int 2))) .nil))) vV .nil) .nil)
noncomputable def vX:ah:=(.cons (.gy 1 52 "a literal that is no octet") .nil)
def vY:ah:=(.cons (.ce (.and (.cons (.cmp .Eq (.var 1) (.lit (.int 0))) (.cons (.not (.rl .LtE .LtE (.lit (.int 0)) (.var 2) (.lit (.int 255)))) .nil))) vX .nil) vW)
def vZ:ah:=(.cons (.cV vT (.var 0) vY) .nil)
def zX:ah:=vZ
noncomputable def zs:List VK:=[.loc "octets",.loc "start",.loc "most"]
noncomputable def zj:List Str:=["octets","start","most"]
noncomputable def vP:ah:=(.cons (.gy 1 52 "a longest match below 0") .nil)
def vQ:ah:=(.cons (.ce (.cmp .Lt (.var 2) (.lit (.int 0))) vP .nil) .nil)
noncomputable def vR:ah:=(.cons (.gy 1 52 "a parse begins outside of its octets") .nil)
def vS:ah:=(.cons (.ce (.not (.rl .LtE .LtE (.lit (.int 0)) (.var 1) (.call (.glob 43 (.con (.builtin "len"))) (.cons (.var 0) .nil)))) vR .nil) vQ)
def zW:ah:=vS
noncomputable def F5:List VK:=[.loc "step"]
noncomputable def FK:List Str:=["step"]
noncomputable def AQ:ah:=(.cons (.ret (.ite (.cmp .Eq (.idx (.var 0) (.lit (.int 0))) (.lit (.int 0))) (.lit (.int 1)) (.idx (.var 0) (.lit (.int 0))))) .nil)
def Hk:ah:=AQ
noncomputable def Oq:List VK:=[.loc "steps"]
noncomputable def N2:List Str:=["steps"]
noncomputable def HL:MX:=(.call (.glob 4 (.ref 75)) (.cons (.var 1) .nil))
noncomputable def HM:MT:=(.var 1)
def HN:ah:=(.cons (.ret (.call (.glob 47 (.con (.builtin "sum"))) (.cons (.comp HL ["step"] HM (.var 0) .nil) .nil))) .nil)
def OE:ah:=HN
noncomputable def xr:List VK:=[.loc "self",.loc "finder"]
noncomputable def w9:List Str:=["self","finder"]
noncomputable def tN:ah:=(.cons (.asg (.attr (.var 0) "known") (.lit (.int 0))) .nil)
def tO:ah:=(.cons (.asg (.attr (.var 0) "shortest") (.call (.glob 45 (.con (.builtin "max"))) (.cons (.attr (.var 1) "least") (.cons (.glob 41 (.int 2)) .nil)))) tN)
def tP:ah:=(.cons (.asg (.attr (.var 0) "finder") (.var 1)) tO)
def yb:ah:=tP
noncomputable def zq:List VK:=[.loc "self",.loc "place"]
noncomputable def zg:List Str:=["self","place"]
noncomputable def vJ:MX:=(.cmp .Lt (.attr (.var 0) "known") (.var 1))
noncomputable def vK:ah:=(.cons (.asg (.attr (.var 0) "known") (.bin .Add (.attr (.var 0) "known") (.lit (.int 1)))) .nil)
def vL:ah:=(.cons (.expr (.aJ (.attr (.var 0) "finder") "put" (.cons (.attr (.var 0) "known") .nil))) vK)
def vM:ah:=(.cons (.di vJ vL) .nil)
def zT:ah:=vM
noncomputable def zp:List VK:=[.bF "self",.loc "place",.loc "most"]
noncomputable def zf:List Str:=["self","place","most"]
noncomputable def vD:MX:=(.var 3)
noncomputable def vE:MT:=(.var 3)
noncomputable def vG:bA:=(.cons (.cmp .GtE (.idx (.var 3) (.lit (.int 0))) (.attr (.var 0) "shortest")) .nil)
def vH:ah:=(.cons (.ret (.comp vD ["match"] vE (.aJ (.attr (.var 0) "finder") "every" (.cons (.var 1) (.cons (.var 2) .nil))) vG)) .nil)
def vI:ah:=(.cons (.expr (.aJ (.var 0) "up_to" (.cons (.var 1) .nil))) vH)
def zS:ah:=vI
noncomputable def vc:List VK:=[.loc "octets",.loc "start"]
noncomputable def uM:List Str:=["octets","start"]
noncomputable def EO:MX:=(.tup (.cons (.lit (.int 0)) (.cons (.var 2) .nil)))
noncomputable def EQ:MT:=(.var 2)
def ER:ah:=(.cons (.ret (.comp EO ["octet"] EQ (.sL (.var 0) (.var 1) .absent) .nil)) .nil)
def ES:ah:=(.cons (.expr (.call (.glob 3 (.ref 68)) (.cons (.var 0) (.cons (.var 1) (.cons (.lit (.int 0)) .nil))))) ER)
def xB:ah:=ES
noncomputable def Sy:List VK:=[.loc "octets",.loc "start",.loc "finder",.loc "most",.loc "trail",.loc "steps",.loc "place",.loc "match",.loc "step"]
noncomputable def Si:List Str:=["octets","start","finder","most"]
noncomputable def L8:ah:=(.cons (.ret (.var 5)) .nil)
noncomputable def L9:MX:=(.cmp .Lt (.var 6) (.call (.glob 43 (.con (.builtin "len"))) (.cons (.var 0) .nil)))
noncomputable def Ma:ah:=(.cons (.asg (.var 6) (.bin .Add (.var 6) (.call (.glob 4 (.ref 75)) (.cons (.var 8) .nil)))) .nil)
def Mb:ah:=(.cons (.expr (.aJ (.var 5) "append" (.cons (.var 8) .nil))) Ma)
def Mc:ah:=(.cons (.asg (.var 8) (.ite (.cmp .Eq (.var 7) (.tup (.cons (.lit (.int 0)) (.cons (.lit (.int 0)) .nil)))) (.tup (.cons (.lit (.int 0)) (.cons (.idx (.var 0) (.var 6)) .nil))) (.var 7))) Mb)
def Md:ah:=(.cons (.asg (.var 7) (.aJ (.var 4) "best" (.cons (.var 6) (.cons (.var 3) .nil)))) Mc)
def Me:ah:=(.cons (.di L9 Md) L8)
def Mf:ah:=(.cons (.asg (.tup (.cons (.var 4) (.cons (.var 5) (.cons (.var 6) .nil)))) (.tup (.cons (.call (.glob 6 (.ref 116)) (.cons (.var 2) .nil)) (.cons (.gx .nil) (.cons (.var 1) .nil))))) Me)
def Mg:ah:=(.cons (.expr (.call (.glob 3 (.ref 68)) (.cons (.var 0) (.cons (.var 1) (.cons (.var 3) .nil))))) Mf)
def Uq:ah:=Mg
noncomputable def zr:List VK:=[.loc "self",.loc "size"]
noncomputable def zh:List Str:=["self","size"]
noncomputable def jt:ah:=(.cons (.asg (.attr (.var 0) "steps") (.rn .Mult (.lst (.cons (.lit .none) .nil)) (.bin .Add (.var 1) (.lit (.int 1))))) .nil)
def ju:ah:=(.cons (.asg (.attr (.var 0) "costs") (.rn .Add (.lst (.cons (.lit (.int 0)) .nil)) (.bin .Mult (.lst (.cons (.lit .none) .nil)) (.var 1)))) jt)
def vO:ah:=(.cons (.asg (.attr (.var 0) "size") (.var 1)) ju)
def zU:ah:=vO
noncomputable def DR:List VK:=[.loc "self",.loc "at",.loc "step",.loc "cost",.loc "there",.loc "whole"]
noncomputable def Dv:List Str:=["self","at","step","cost"]
noncomputable def yk:ah:=(.cons (.asg (.idx (.attr (.var 0) "steps") (.var 4)) (.var 2)) .nil)
def mQ:ah:=(.cons (.asg (.idx (.attr (.var 0) "costs") (.var 4)) (.var 5)) yk)
def yl:ah:=(.cons (.ce (.or (.cons (.cmp .Is (.idx (.attr (.var 0) "costs") (.var 4)) (.lit .none)) (.cons (.cmp .Lt (.var 5) (.idx (.attr (.var 0) "costs") (.var 4))) .nil))) mQ .nil) .nil)
def ym:ah:=(.cons (.asg (.var 5) (.bin .Add (.idx (.attr (.var 0) "costs") (.var 1)) (.var 3))) yl)
noncomputable def yn:ah:=(.cons (.ret .absent) .nil)
def yo:ah:=(.cons (.ce (.cmp .Gt (.var 4) (.attr (.var 0) "size")) yn .nil) ym)
def yp:ah:=(.cons (.asg (.var 4) (.bin .Add (.var 1) (.call (.glob 4 (.ref 75)) (.cons (.var 2) .nil)))) yo)
def D7:ah:=yp
noncomputable def FS:List VK:=[.loc "self",.loc "found",.loc "at"]
noncomputable def Fx:List Str:=["self"]
noncomputable def zZ:ah:=(.cons (.ret (.rev (.var 1))) .nil)
noncomputable def z6:MX:=(.cmp .Gt (.var 2) (.lit (.int 0)))
noncomputable def z8:ah:=(.cons (.asg (.var 2) (.bin .Sub (.var 2) (.call (.glob 4 (.ref 75)) (.cons (.idx (.attr (.var 0) "steps") (.var 2)) .nil)))) .nil)
def z9:ah:=(.cons (.expr (.aJ (.var 1) "append" (.cons (.idx (.attr (.var 0) "steps") (.var 2)) .nil))) z8)
def Aa:ah:=(.cons (.di z6 z9) zZ)
def Ab:ah:=(.cons (.asg (.tup (.cons (.var 1) (.cons (.var 2) .nil))) (.tup (.cons (.gx .nil) (.cons (.attr (.var 0) "size") .nil)))) Aa)
def Hb:ah:=Ab
noncomputable def G6:List VK:=[.loc "octets",.loc "start",.loc "finder",.loc "most",.loc "price",.loc "enough",.loc "trail",.loc "ways",.loc "at",.loc "place",.loc "matches",.loc "length",.loc "distance",.loc "part",.loc "taken"]
noncomputable def GT:List Str:=["octets","start","finder","most","price","enough"]
noncomputable def OQ:ah:=(.cons (.ret (.aJ (.var 7) "told" .nil)) .nil)
noncomputable def OR:MX:=(.cmp .Lt (.var 8) (.attr (.var 7) "size"))
noncomputable def OS:ah:=(.cons (.asg (.var 8) (.bin .Add (.var 8) (.var 14))) .nil)
noncomputable def OT:ah:=(.cons (.asg (.var 14) (.idx (.idx (.var 10) (.neg (.lit (.int 1)))) (.lit (.int 0)))) .nil)
def OU:ah:=(.cons (.ce (.and (.cons (.cmp .IsNot (.var 5) (.lit .none)) (.cons (.cmp .NotEq (.var 10) (.lst .nil)) (.cons (.cmp .GtE (.idx (.idx (.var 10) (.neg (.lit (.int 1)))) (.lit (.int 0))) (.var 5)) .nil)))) OT .nil) OS)
def rT:ah:=(.cons (.asg (.var 14) (.lit (.int 1))) OU)
noncomputable def OV:MT:=(.tup (.cons (.var 11) (.cons (.var 12) .nil)))
noncomputable def OW:MT:=(.var 13)
noncomputable def OX:ah:=(.cons (.expr (.aJ (.var 7) "offer" (.cons (.var 8) (.cons (.tup (.cons (.var 13) (.cons (.var 12) .nil))) (.cons (.aJ (.var 4) "match" (.cons (.var 13) (.cons (.var 12) .nil))) .nil))))) .nil)
def Mk:ah:=(.cons (.cV OW (.call (.glob 51 (.con (.type "range"))) (.cons (.attr (.var 6) "shortest") (.cons (.bin .Add (.var 11) (.lit (.int 1))) .nil))) OX) .nil)
def xE:ah:=(.cons (.cV OV (.var 10) Mk) rT)
def Ml:ah:=(.cons (.expr (.aJ (.var 7) "offer" (.cons (.var 8) (.cons (.tup (.cons (.lit (.int 0)) (.cons (.idx (.var 0) (.var 9)) .nil))) (.cons (.aJ (.var 4) "literal" (.cons (.idx (.var 0) (.var 9)) .nil)) .nil))))) xE)
def Mm:ah:=(.cons (.asg (.var 10) (.aJ (.var 6) "every" (.cons (.var 9) (.cons (.var 3) .nil)))) Ml)
def xF:ah:=(.cons (.asg (.var 9) (.bin .Add (.var 1) (.var 8))) Mm)
def Mn:ah:=(.cons (.di OR xF) OQ)
def Mo:ah:=(.cons (.asg (.tup (.cons (.var 6) (.cons (.var 7) (.cons (.var 8) .nil)))) (.tup (.cons (.call (.glob 6 (.ref 116)) (.cons (.var 2) .nil)) (.cons (.call (.glob 9 (.ref 164)) (.cons (.bin .Sub (.call (.glob 43 (.con (.builtin "len"))) (.cons (.var 0) .nil)) (.var 1)) .nil)) (.cons (.lit (.int 0)) .nil))))) Mn)
def Mp:ah:=(.cons (.expr (.call (.glob 3 (.ref 68)) (.cons (.var 0) (.cons (.var 1) (.cons (.var 3) .nil))))) Mo)
def zY:ah:=Mp
noncomputable def LF:List VK:=[.loc "steps",.loc "price",.loc "whole",.loc "first",.loc "second"]
noncomputable def Lh:List Str:=["steps","price"]
noncomputable def ET:ah:=(.cons (.ret (.var 2)) .nil)
noncomputable def EU:MT:=(.tup (.cons (.var 3) (.cons (.var 4) .nil)))
noncomputable def EV:ah:=(.cons (.asg (.var 2) (.bin .Add (.var 2) (.ite (.cmp .Eq (.var 3) (.lit (.int 0))) (.aJ (.var 1) "literal" (.cons (.var 4) .nil)) (.aJ (.var 1) "match" (.cons (.var 3) (.cons (.var 4) .nil)))))) .nil)
def EW:ah:=(.cons (.cV EU (.var 0) EV) ET)
def EX:ah:=(.cons (.asg (.var 2) (.lit (.int 0))) EW)
def LZ:ah:=EX
noncomputable def Os:List VK:=[.loc "value",.loc "high"]
noncomputable def N4:List Str:=["value"]
noncomputable def HO:ah:=(.cons (.ret (.tup (.cons (.bin .Add (.bin .Mult (.lit (.int 2)) (.var 1)) (.bin .BitAnd (.bin .RShift (.var 0) (.bin .Sub (.var 1) (.lit (.int 1)))) (.lit (.int 1)))) (.cons (.bin .Sub (.var 1) (.lit (.int 1))) .nil)))) .nil)
def HP:ah:=(.cons (.asg (.var 1) (.bin .Sub (.aJ (.var 0) "bit_length" .nil) (.lit (.int 1)))) HO)
noncomputable def HQ:ah:=(.cons (.ret (.tup (.cons (.var 0) (.cons (.lit (.int 0)) .nil)))) .nil)
def HR:ah:=(.cons (.ce (.cmp .Lt (.var 0) (.lit (.int 4))) HQ .nil) HP)
def OF:ah:=HR
noncomputable def gi:List VK:=[.loc "self",.loc "literal",.loc "match",.loc "bit"]
noncomputable def gh:List Str:=["self","literal","match","bit"]
noncomputable def nj:ah:=(.cons (.asg (.attr (.var 0) "of_bit") (.var 3)) .nil)
def nk:ah:=(.cons (.asg (.attr (.var 0) "of_match") (.var 2)) nj)
def nq:ah:=(.cons (.asg (.attr (.var 0) "of_literal") (.var 1)) nk)
noncomputable def nt:ah:=(.cons (.gy 1 52 "a price below 0") .nil)
def nu:ah:=(.cons (.ce (.or (.cons (.cmp .Lt (.var 1) (.lit (.int 0))) (.cons (.cmp .Lt (.var 2) (.lit (.int 0))) (.cons (.cmp .Lt (.var 3) (.lit (.int 0))) .nil)))) nt .nil) nq)
def dU:ah:=nu
noncomputable def oB:List VK:=[.loc "self",.loc "octet"]
noncomputable def on:List Str:=["self","octet"]
noncomputable def kc:ah:=(.cons (.ret (.attr (.var 0) "of_literal")) .nil)
def oK:ah:=kc
noncomputable def qX:List VK:=[.loc "self",.loc "length",.loc "distance"]
noncomputable def qN:List Str:=["self","length","distance"]
noncomputable def oQ:ah:=(.cons (.ret (.bin .Add (.attr (.var 0) "of_match") (.bin .Mult (.attr (.var 0) "of_bit") (.bin .Add (.idx (.call (.glob 12 (.ref 190)) (.cons (.bin .Sub (.var 1) (.glob 41 (.int 2))) .nil)) (.lit (.int 1))) (.idx (.call (.glob 12 (.ref 190)) (.cons (.bin .Sub (.var 2) (.lit (.int 1))) .nil)) (.lit (.int 1))))))) .nil)
noncomputable def oR:ah:=(.cons (.ret (.attr (.var 0) "of_match")) .nil)
def oU:ah:=(.cons (.ce (.cmp .Eq (.attr (.var 0) "of_bit") (.lit (.int 0))) oR .nil) oQ)
def rz:ah:=oU
noncomputable def u8:List VK:=[.loc "self"]
noncomputable def uJ:List Str:=["self"]
noncomputable def rD:ah:=(.cons (.asg (.attr (.var 0) "distances") .eK) .nil)
def rE:ah:=(.cons (.asg (.attr (.var 0) "lengths") .eK) rD)
def rF:ah:=(.cons (.asg (.attr (.var 0) "literals") (.rn .Mult (.lst (.cons (.lit (.int 0)) .nil)) (.lit (.int 256)))) rE)
def vn:ah:=rF
noncomputable def DQ:List VK:=[.loc "self",.loc "steps",.loc "first",.loc "second"]
noncomputable def Du:List Str:=["self","steps"]
noncomputable def ye:MT:=(.tup (.cons (.var 2) (.cons (.var 3) .nil)))
noncomputable def yf:ah:=(.cons (.asg (.idx (.attr (.var 0) "literals") (.var 3)) (.bin .Add (.idx (.attr (.var 0) "literals") (.var 3)) (.lit (.int 1)))) .nil)
noncomputable def yg:ah:=(.cons (.asg (.idx (.attr (.var 0) "distances") (.var 3)) (.bin .Add (.aJ (.attr (.var 0) "distances") "get" (.cons (.var 3) (.cons (.lit (.int 0)) .nil))) (.lit (.int 1)))) .nil)
def yh:ah:=(.cons (.asg (.idx (.attr (.var 0) "lengths") (.var 2)) (.bin .Add (.aJ (.attr (.var 0) "lengths") "get" (.cons (.var 2) (.cons (.lit (.int 0)) .nil))) (.lit (.int 1)))) yg)
def yi:ah:=(.cons (.ce (.cmp .Eq (.var 2) (.lit (.int 0))) yf yh) .nil)
def yj:ah:=(.cons (.cV ye (.var 1) yi) .nil)
def D6:ah:=yj
noncomputable def FZ:List VK:=[.loc "steps",.loc "found"]
noncomputable def FH:List Str:=["steps"]
noncomputable def Ad:ah:=(.cons (.ret (.var 1)) .nil)
def Ae:ah:=(.cons (.expr (.aJ (.var 1) "add" (.cons (.var 0) .nil))) Ad)
def Af:ah:=(.cons (.asg (.var 1) (.call (.glob 14 (.ref 250)) .nil)) Ae)
def Ag:ah:=(.cons (.expr (.call (.glob 2 (.ref 61)) (.cons (.var 0) .nil))) Af)
def Hi:ah:=Ag
noncomputable def F4:List VK:=[.loc "number",.loc "unit"]
noncomputable def FJ:List Str:=["number","unit"]
noncomputable def AN:ah:=(.cons (.ret (.bin .Sub (.aJ (.bin .Pow (.var 0) (.var 1)) "bit_length" .nil) (.lit (.int 1)))) .nil)
def Hj:ah:=AN
noncomputable def jT:List VK:=[.loc "self",.bF "counts",.loc "unit",.loc "whole",.loc "symbol"]
noncomputable def jO:List Str:=["self","counts","unit"]
noncomputable def iO:MT:=(.var 4)
noncomputable def iP:ah:=(.cons (.asg (.idx (.attr (.var 0) "known") (.var 4)) (.call (.glob 45 (.con (.builtin "max"))) (.cons (.lit (.int 1)) (.cons (.bin .Sub (.call (.glob 16 (.ref 268)) (.cons (.var 3) (.cons (.var 2) .nil))) (.call (.glob 16 (.ref 268)) (.cons (.bin .Mult (.lit (.int 2)) (.idx (.var 1) (.var 4))) (.cons (.var 2) .nil)))) .nil)))) .nil)
def iQ:ah:=(.cons (.cV iO (.call (.glob 48 (.con (.builtin "sorted"))) (.cons (.var 1) .nil)) iP) .nil)
def iR:ah:=(.cons (.asg (.attr (.var 0) "known") .eK) iQ)
def iS:ah:=(.cons (.asg (.attr (.var 0) "other") (.call (.glob 45 (.con (.builtin "max"))) (.cons (.lit (.int 1)) (.cons (.call (.glob 16 (.ref 268)) (.cons (.var 3) (.cons (.var 2) .nil))) .nil)))) iR)
noncomputable def iT:MX:=(.idx (.var 1) (.var 5))
noncomputable def iU:MT:=(.var 5)
def iV:ah:=(.cons (.asg (.var 3) (.bin .Add (.lit (.int 1)) (.bin .Mult (.lit (.int 2)) (.call (.glob 47 (.con (.builtin "sum"))) (.cons (.comp iT ["symbol"] iU (.var 1) .nil) .nil))))) iS)
def jZ:ah:=iV
noncomputable def mK:List VK:=[.loc "self",.loc "symbol"]
noncomputable def mr:List Str:=["self","symbol"]
noncomputable def jr:ah:=(.cons (.ret (.aJ (.attr (.var 0) "known") "get" (.cons (.var 1) (.cons (.attr (.var 0) "other") .nil)))) .nil)
def ni:ah:=jr
noncomputable def fJ:List VK:=[.loc "self",.loc "counts",.loc "unit",.loc "firsts",.loc "seconds",.loc "length",.loc "symbol",.loc "distance"]
noncomputable def fG:List Str:=["self","counts","unit"]
noncomputable def jg:ah:=(.cons (.asg (.attr (.var 0) "seconds") (.call (.glob 17 (.ref 290)) (.cons (.E3 (.var 4)) (.cons (.var 2) .nil)))) .nil)
def jh:ah:=(.cons (.asg (.attr (.var 0) "firsts") (.call (.glob 17 (.ref 290)) (.cons (.E3 (.var 3)) (.cons (.var 2) .nil)))) jg)
noncomputable def jj:MT:=(.var 7)
noncomputable def jk:ah:=(.cons (.asg (.idx (.var 4) (.var 6)) (.bin .Add (.aJ (.var 4) "get" (.cons (.var 6) (.cons (.lit (.int 0)) .nil))) (.idx (.attr (.var 1) "distances") (.var 7)))) .nil)
def jl:ah:=(.cons (.asg (.var 6) (.idx (.call (.glob 12 (.ref 190)) (.cons (.bin .Sub (.var 7) (.lit (.int 1))) .nil)) (.lit (.int 0)))) jk)
def jm:ah:=(.cons (.cV jj (.attr (.var 1) "distances") jl) jh)
noncomputable def jn:MT:=(.var 5)
noncomputable def jo:ah:=(.cons (.asg (.idx (.var 3) (.var 6)) (.bin .Add (.aJ (.var 3) "get" (.cons (.var 6) (.cons (.lit (.int 0)) .nil))) (.idx (.attr (.var 1) "lengths") (.var 5)))) .nil)
def jp:ah:=(.cons (.asg (.var 6) (.bin .Add (.lit (.int 256)) (.idx (.call (.glob 12 (.ref 190)) (.cons (.bin .Sub (.var 5) (.glob 41 (.int 2))) .nil)) (.lit (.int 0))))) jo)
def iH:ah:=(.cons (.cV jn (.attr (.var 1) "lengths") jp) jm)
def iI:ah:=(.cons (.asg (.var 4) .eK) iH)
def iJ:ah:=(.cons (.Nc 3 53 (.attr (.var 1) "literals")) iI)
def iK:ah:=(.cons (.asg (.attr (.var 0) "unit") (.var 2)) iJ)
noncomputable def iL:ah:=(.cons (.gy 1 52 "no parts of a bit") .nil)
def iM:ah:=(.cons (.ce (.cmp .Lt (.var 2) (.lit (.int 1))) iL .nil) iK)
def fL:ah:=iM
noncomputable def jS:List VK:=[.loc "self",.loc "octet"]
noncomputable def jN:List Str:=["self","octet"]
noncomputable def iN:ah:=(.cons (.ret (.aJ (.attr (.var 0) "firsts") "price" (.cons (.var 1) .nil))) .nil)
def jY:ah:=iN
noncomputable def oC:List VK:=[.loc "self",.loc "length",.loc "distance",.loc "one",.loc "more",.loc "other",.loc "further"]
noncomputable def oq:List Str:=["self","length","distance"]
noncomputable def kd:ah:=(.cons (.ret (.bin .Add (.bin .Add (.aJ (.attr (.var 0) "firsts") "price" (.cons (.bin .Add (.lit (.int 256)) (.var 3)) .nil)) (.aJ (.attr (.var 0) "seconds") "price" (.cons (.var 5) .nil))) (.bin .Mult (.attr (.var 0) "unit") (.bin .Add (.var 4) (.var 6))))) .nil)
def ke:ah:=(.cons (.asg (.tup (.cons (.var 5) (.cons (.var 6) .nil))) (.call (.glob 12 (.ref 190)) (.cons (.bin .Sub (.var 2) (.lit (.int 1))) .nil))) kd)
def kf:ah:=(.cons (.asg (.tup (.cons (.var 3) (.cons (.var 4) .nil))) (.call (.glob 12 (.ref 190)) (.cons (.bin .Sub (.var 1) (.glob 41 (.int 2))) .nil))) ke)
def oL:ah:=kf
noncomputable def G5:List VK:=[.loc "octets",.loc "start",.loc "finders",.loc "most",.loc "price",.loc "unit",.loc "steps",.loc "finder"]
noncomputable def GS:List Str:=["octets","start","finders","most","price","unit"]
noncomputable def OJ:ah:=(.cons (.ret (.var 6)) .nil)
noncomputable def OK:MT:=(.var 7)
noncomputable def OL:ah:=(.cons (.asg (.var 6) (.call (.glob 10 (.ref 176)) (.cons (.var 0) (.cons (.var 1) (.cons (.var 7) (.cons (.var 3) (.cons (.call (.glob 18 (.ref 324)) (.cons (.call (.glob 15 (.ref 261)) (.cons (.var 6) .nil)) (.cons (.var 5) .nil))) .nil))))))) .nil)
def OM:ah:=(.cons (.cV OK (.sL (.var 2) (.lit (.int 1)) .absent) OL) OJ)
def ON:ah:=(.cons (.asg (.var 6) (.call (.glob 10 (.ref 176)) (.cons (.var 0) (.cons (.var 1) (.cons (.idx (.var 2) (.lit (.int 0))) (.cons (.var 3) (.cons (.var 4) .nil))))))) OM)
noncomputable def OO:ah:=(.cons (.gy 1 52 "no finder to parse with") .nil)
def OP:ah:=(.cons (.ce (.cmp .Eq (.call (.glob 43 (.con (.builtin "len"))) (.cons (.var 2) .nil)) (.lit (.int 0))) OO .nil) ON)
def LY:ah:=OP
noncomputable def qZ:List VK:=[.loc "self",.loc "octets",.loc "size"]
noncomputable def qP:List Str:=["self","octets","size"]
noncomputable def o5:ah:=(.cons (.asg (.attr (.var 0) "before") (.rn .Mult (.lst (.cons (.glob 42 (.int (-1))) .nil)) (.call (.glob 43 (.con (.builtin "len"))) (.cons (.var 1) .nil)))) .nil)
def o6:ah:=(.cons (.asg (.attr (.var 0) "last") .eK) o5)
def o7:ah:=(.cons (.asg (.attr (.var 0) "size") (.var 2)) o6)
def o8:ah:=(.cons (.asg (.attr (.var 0) "octets") (.var 1)) o7)
noncomputable def o9:ah:=(.cons (.gy 1 52 "a row of places needs one octet at least") .nil)
def pa:ah:=(.cons (.ce (.cmp .Lt (.var 2) (.lit (.int 1))) o9 .nil) o8)
def rB:ah:=pa
noncomputable def xo:List VK:=[.loc "self",.loc "place",.loc "number",.loc "octet"]
noncomputable def wZ:List Str:=["self","place"]
noncomputable def tC:ah:=(.cons (.ret (.var 2)) .nil)
noncomputable def tD:MT:=(.var 3)
noncomputable def tE:ah:=(.cons (.asg (.var 2) (.bin .Add (.bin .Mult (.var 2) (.lit (.int 256))) (.var 3))) .nil)
def tF:ah:=(.cons (.cV tD (.sL (.attr (.var 0) "octets") (.var 1) (.bin .Add (.var 1) (.attr (.var 0) "size"))) tE) tC)
def tG:ah:=(.cons (.asg (.var 2) (.lit (.int 0))) tF)
noncomputable def tH:ah:=(.cons (.ret (.lit .none)) .nil)
def tI:ah:=(.cons (.ce (.cmp .Gt (.bin .Add (.var 1) (.attr (.var 0) "size")) (.call (.glob 43 (.con (.builtin "len"))) (.cons (.attr (.var 0) "octets") .nil))) tH .nil) tG)
def xZ:ah:=tI
noncomputable def xq:List VK:=[.loc "self",.loc "place",.loc "number"]
noncomputable def w5:List Str:=["self","place"]
noncomputable def tJ:ah:=(.cons (.asg (.idx (.attr (.var 0) "last") (.var 2)) (.var 1)) .nil)
def tK:ah:=(.cons (.asg (.idx (.attr (.var 0) "before") (.var 1)) (.aJ (.attr (.var 0) "last") "get" (.cons (.var 2) (.cons (.glob 42 (.int (-1))) .nil)))) tJ)
def tL:ah:=(.cons (.ce (.cmp .IsNot (.var 2) (.lit .none)) tK .nil) .nil)
def tM:ah:=(.cons (.asg (.var 2) (.aJ (.var 0) "key" (.cons (.var 1) .nil))) tL)
def ya:ah:=tM
noncomputable def q6:List VK:=[.loc "self",.loc "place",.loc "number",.loc "other"]
noncomputable def qQ:List Str:=["self","place"]
noncomputable def pb:ah:=(.cons (.ret (.var 3)) .nil)
noncomputable def pd:MX:=(.cmp .GtE (.var 3) (.var 1))
noncomputable def pe:ah:=(.cons (.asg (.var 3) (.idx (.attr (.var 0) "before") (.var 3))) .nil)
def pf:ah:=(.cons (.di pd pe) pb)
def pg:ah:=(.cons (.asg (.var 3) (.aJ (.attr (.var 0) "last") "get" (.cons (.var 2) (.cons (.glob 42 (.int (-1))) .nil)))) pf)
noncomputable def ph:ah:=(.cons (.ret (.glob 42 (.int (-1)))) .nil)
def pi:ah:=(.cons (.ce (.cmp .Is (.var 2) (.lit .none)) ph .nil) pg)
def pj:ah:=(.cons (.asg (.var 2) (.aJ (.var 0) "key" (.cons (.var 1) .nil))) pi)
def rC:ah:=pj
noncomputable def sR:List VK:=[.loc "self",.loc "octets",.loc "least",.loc "window",.loc "chain"]
noncomputable def sK:List Str:=["self","octets","least","window","chain"]
noncomputable def qt:ah:=(.cons (.asg (.attr (.var 0) "ahead") (.lit (.int 0))) .nil)
def qu:ah:=(.cons (.asg (.attr (.var 0) "chain") (.var 4)) qt)
def qv:ah:=(.cons (.asg (.attr (.var 0) "window") (.var 3)) qu)
def qw:ah:=(.cons (.asg (.attr (.var 0) "least") (.var 2)) qv)
def qx:ah:=(.cons (.asg (.attr (.var 0) "octets") (.call (.glob 50 (.con (.type "bytes"))) (.cons (.var 1) .nil))) qw)
noncomputable def qy:ah:=(.cons (.gy 1 52 "one place at least has to be looked at") .nil)
def qz:ah:=(.cons (.ce (.cmp .Lt (.var 4) (.lit (.int 1))) qy .nil) qx)
noncomputable def qA:ah:=(.cons (.gy 1 52 "a window has one octet at least") .nil)
def qB:ah:=(.cons (.ce (.cmp .Lt (.var 3) (.lit (.int 1))) qA .nil) qz)
noncomputable def oX:ah:=(.cons (.gy 1 52 "a match has one octet at least") .nil)
def oY:ah:=(.cons (.ce (.cmp .Lt (.var 2) (.lit (.int 1))) oX .nil) qB)
def sZ:ah:=oY
noncomputable def zo:List VK:=[.loc "self",.loc "place"]
noncomputable def ze:List Str:=["self","place"]
noncomputable def jq:ah:=(.cons (.expr (.aJ (.var 0) "enter" (.cons (.var 1) .nil))) .nil)
def vz:ah:=(.cons (.asg (.attr (.var 0) "ahead") (.bin .Add (.var 1) (.lit (.int 1)))) jq)
noncomputable def vA:ah:=(.cons (.gy 1 52 "places are entered once each, ascending, within the octets") .nil)
def vC:ah:=(.cons (.ce (.or (.cons (.cmp .Lt (.var 1) (.attr (.var 0) "ahead")) (.cons (.cmp .GtE (.var 1) (.call (.glob 43 (.con (.builtin "len"))) (.cons (.attr (.var 0) "octets") .nil))) .nil))) vA .nil) vz)
def zR:ah:=vC
noncomputable def vb:List VK:=[.loc "self",.loc "place",.loc "most"]
noncomputable def uL:List Str:=["self","place","most"]
noncomputable def rS:ah:=(.cons (.ret (.call (.glob 46 (.con (.builtin "min"))) (.cons (.var 2) (.cons (.bin .Sub (.call (.glob 43 (.con (.builtin "len"))) (.cons (.attr (.var 0) "octets") .nil)) (.var 1)) .nil)))) .nil)
def vq:ah:=rS
noncomputable def u9:List VK:=[.loc "self",.loc "place",.loc "other",.loc "known",.loc "limit",.loc "octets"]
noncomputable def uK:List Str:=["self","place","other","known","limit"]
noncomputable def rM:ah:=(.cons (.ret (.var 3)) .nil)
noncomputable def rN:MX:=(.and (.cons (.cmp .Lt (.var 3) (.var 4)) (.cons (.cmp .Eq (.idx (.var 5) (.bin .Add (.var 1) (.var 3))) (.idx (.var 5) (.bin .Add (.var 2) (.var 3)))) .nil)))
noncomputable def rP:ah:=(.cons (.aug 3 .Add (.lit (.int 1))) .nil)
def rQ:ah:=(.cons (.di rN rP) rM)
def rR:ah:=(.cons (.asg (.var 5) (.attr (.var 0) "octets")) rQ)
def vo:ah:=rR
noncomputable def qY:List VK:=[.loc "self",.loc "place",.loc "other"]
noncomputable def qO:List Str:=["self","place","other"]
noncomputable def oZ:ah:=(.cons (.ret (.and (.cons (.cmp .NotEq (.var 2) (.glob 42 (.int (-1)))) (.cons (.cmp .LtE (.bin .Sub (.var 1) (.var 2)) (.attr (.var 0) "window")) .nil)))) .nil)
def rA:ah:=oZ
noncomputable def dz:List VK:=[.loc "self",.loc "octets",.loc "least",.loc "window",.loc "chain"]
noncomputable def dy:List Str:=["self","octets","least","window","chain"]
noncomputable def rJ:ah:=(.cons (.asg (.attr (.var 0) "row") (.call (.glob 20 (.ref 374)) (.cons (.attr (.var 0) "octets") (.cons (.var 2) .nil)))) .nil)
def rK:ah:=(.cons (.expr (.wo 21 465 "__init__" 392 (.cons (.var 0) (.cons (.var 1) (.cons (.var 2) (.cons (.var 3) (.cons (.var 4) .nil))))))) rJ)
def cH:ah:=rK
noncomputable def xl:List VK:=[.loc "self",.loc "place"]
noncomputable def wX:List Str:=["self","place"]
noncomputable def th:ah:=(.cons (.expr (.aJ (.attr (.var 0) "row") "put" (.cons (.var 1) .nil))) .nil)
def xX:ah:=th
noncomputable def oz:List VK:=[.loc "self",.loc "place",.loc "found",.loc "other"]
noncomputable def om:List Str:=["self","place"]
noncomputable def j0:ah:=(.cons (.ret (.var 2)) .nil)
noncomputable def j4:MX:=(.and (.cons (.aJ (.var 0) "is_near" (.cons (.var 1) (.cons (.var 3) .nil))) (.cons (.cmp .Lt (.call (.glob 43 (.con (.builtin "len"))) (.cons (.var 2) .nil)) (.attr (.var 0) "chain")) .nil)))
noncomputable def j5:ah:=(.cons (.asg (.var 3) (.idx (.attr (.attr (.var 0) "row") "before") (.var 3))) .nil)
def j6:ah:=(.cons (.expr (.aJ (.var 2) "append" (.cons (.var 3) .nil))) j5)
def j7:ah:=(.cons (.di j4 j6) j0)
def j8:ah:=(.cons (.asg (.var 3) (.aJ (.attr (.var 0) "row") "newest" (.cons (.var 1) .nil))) j7)
def j9:ah:=(.cons (.asg (.var 2) (.gx .nil)) j8)
def oJ:ah:=j9
noncomputable def xm:List VK:=[.loc "self",.loc "place",.loc "most",.loc "found",.loc "limit",.loc "longest",.loc "other",.loc "count"]
noncomputable def wY:List Str:=["self","place","most"]
noncomputable def tj:ah:=(.cons (.ret (.var 3)) .nil)
noncomputable def tm:MT:=(.var 6)
noncomputable def tq:ah:=(.cons (.asg (.var 5) (.var 7)) .nil)
def tr:ah:=(.cons (.expr (.aJ (.var 3) "append" (.cons (.tup (.cons (.var 7) (.cons (.bin .Sub (.var 1) (.var 6)) .nil))) .nil))) tq)
def tu:ah:=(.cons (.ce (.cmp .Gt (.var 7) (.var 5)) tr .nil) .nil)
def tw:ah:=(.cons (.asg (.var 7) (.aJ (.var 0) "alike" (.cons (.var 1) (.cons (.var 6) (.cons (.lit (.int 0)) (.cons (.var 4) .nil)))))) tu)
def ty:ah:=(.cons (.ce (.cmp .Eq (.idx (.attr (.var 0) "octets") (.bin .Add (.var 6) (.var 5))) (.idx (.attr (.var 0) "octets") (.bin .Add (.var 1) (.var 5)))) tw .nil) .nil)
noncomputable def tz:ah:=(.cons .brk .nil)
def tA:ah:=(.cons (.ce (.cmp .GtE (.var 5) (.var 4)) tz .nil) ty)
def rG:ah:=(.cons (.cV tm (.aJ (.var 0) "candidates" (.cons (.var 1) .nil)) tA) tj)
def rH:ah:=(.cons (.asg (.var 5) (.bin .Sub (.attr (.var 0) "least") (.lit (.int 1)))) rG)
def rI:ah:=(.cons (.asg (.tup (.cons (.var 3) (.cons (.var 4) .nil))) (.tup (.cons (.gx .nil) (.cons (.aJ (.var 0) "limit" (.cons (.var 1) (.cons (.var 2) .nil))) .nil)))) rH)
def xY:ah:=rI
noncomputable def LD:List VK:=[.loc "script",.loc "great",.loc "seed",.loc "cell"]
noncomputable def Lf:List Str:=["script"]
noncomputable def Hp:ah:=(.cons (.ret (.gx (.cons (.var 1) (.cons (.lit (.int 0)) (.cons (.var 2) (.cons (.ite (.or (.cons (.cmp .NotEq (.var 1) (.lst .nil)) (.cons (.cmp .Gt (.call (.glob 43 (.con (.builtin "len"))) (.cons (.var 0) .nil)) (.lit (.int 1))) .nil))) (.lit (.int 14)) (.lit (.int 6))) .nil)))))) .nil)
noncomputable def Hq:MT:=(.var 3)
noncomputable def Hr:ah:=(.cons (.asg (.var 2) (.bin .Mod (.bin .Add (.bin .Mult (.var 2) (.lit (.int 48271))) (.var 3)) (.lit (.int 2147483629)))) .nil)
def Hs:ah:=(.cons (.cV Hq (.sL (.var 0) .absent (.lit (.int 24))) Hr) Hp)
def Ht:ah:=(.cons (.asg (.var 2) (.lit (.int 60013))) Hs)
noncomputable def Hu:MX:=(.bin .Sub (.call (.glob 44 (.con (.builtin "abs"))) (.cons (.var 4) .nil)) (.bin .Pow (.lit (.int 10)) (.lit (.int 18))))
noncomputable def Hv:MT:=(.var 4)
noncomputable def Hw:bA:=(.cons (.cmp .Gt (.call (.glob 44 (.con (.builtin "abs"))) (.cons (.var 4) .nil)) (.bin .Pow (.lit (.int 10)) (.lit (.int 18)))) .nil)
def Hx:ah:=(.cons (.xA 1 Hu ["cell"] Hv (.sL (.var 0) .absent (.lit (.int 24))) Hw) Ht)
def LW:ah:=Hx
noncomputable def FV:List VK:=[.loc "bag",.loc "many",.loc "digit",.loc "rest",.loc "blend"]
noncomputable def FE:List Str:=["bag","many"]
noncomputable def Es:ah:=(.cons (.ret (.bin .Mod (.bin .FloorDiv (.var 4) (.lit (.int 16))) (.var 1))) .nil)
def Et:ah:=(.cons (.asg (.var 4) (.bin .Mod (.bin .Pow (.bin .Add (.var 4) (.bin .Mult (.lit (.int 92993)) (.idx (.var 0) (.lit (.int 1))))) (.lit (.int 3))) (.lit (.int 2147483587)))) Es)
def Eu:ah:=(.cons (.asg (.var 4) (.bin .Mod (.bin .Pow (.bin .Add (.idx (.var 0) (.lit (.int 2))) (.bin .Mult (.lit (.int 40039)) (.idx (.var 0) (.lit (.int 1))))) (.lit (.int 5))) (.lit (.int 2147483647)))) Et)
noncomputable def Ev:ah:=(.cons (.ret (.var 2)) .nil)
def Ew:ah:=(.cons (.asg (.idx (.var 0) (.lit (.int 0))) (.bin .Add (.bin .Mult (.lst (.cons (.var 3) .nil)) (.call (.glob 49 (.con (.type "int"))) (.cons (.cmp .Gt (.var 3) (.lit (.int 0))) .nil))) (.sL (.idx (.var 0) (.lit (.int 0))) (.lit (.int 1)) .absent))) Ev)
def Ex:ah:=(.cons (.asg (.var 3) (.bin .FloorDiv (.idx (.idx (.var 0) (.lit (.int 0))) (.lit (.int 0))) (.var 1))) Ew)
def Ey:ah:=(.cons (.asg (.var 2) (.bin .Mod (.idx (.idx (.var 0) (.lit (.int 0))) (.lit (.int 0))) (.var 1))) Ex)
def rg:ah:=(.cons (.ce (.cmp .NotEq (.idx (.var 0) (.lit (.int 0))) (.lst .nil)) Ey .nil) Eu)
def Ez:ah:=(.cons (.asg (.idx (.var 0) (.lit (.int 1))) (.bin .Add (.idx (.var 0) (.lit (.int 1))) (.lit (.int 1)))) rg)
def Hf:ah:=Ez
noncomputable def FW:List VK:=[.bF "bag",.bF "letters",.loc "found",.loc "turn",.loc "begin"]
noncomputable def FF:List Str:=["bag"]
noncomputable def EA:ah:=(.cons (.ret (.call (.glob 50 (.con (.type "bytes"))) (.cons (.sL (.var 2) .absent (.idx (.var 0) (.lit (.int 3)))) .nil))) .nil)
noncomputable def EB:MT:=(.var 3)
noncomputable def EC:ah:=(.cons (.asg (.var 2) (.bin .Add (.var 2) (.sL (.var 2) (.var 4) (.bin .Add (.bin .Add (.var 4) (.lit (.int 2))) (.call (.glob 24 (.ref 522)) (.cons (.var 0) (.cons (.lit (.int 6)) .nil))))))) .nil)
def ED:ah:=(.cons (.asg (.var 4) (.call (.glob 24 (.ref 522)) (.cons (.var 0) (.cons (.call (.glob 43 (.con (.builtin "len"))) (.cons (.var 2) .nil)) .nil)))) EC)
noncomputable def EE:MX:=(.idx (.lst (.cons (.lit (.int 0)) (.cons (.lit (.int 255)) (.cons (.lit (.int 97)) .nil)))) (.call (.glob 24 (.ref 522)) (.cons (.var 0) (.cons (.var 1) .nil))))
noncomputable def EF:MT:=(.var 5)
def iW:ah:=(.cons (.asg (.var 2) (.bin .Add (.var 2) (.comp EE ["k"] EF (.call (.glob 51 (.con (.type "range"))) (.cons (.bin .Add (.lit (.int 1)) (.call (.glob 24 (.ref 522)) (.cons (.var 0) (.cons (.lit (.int 4)) .nil)))) .nil)) .nil))) .nil)
def EG:ah:=(.cons (.ce (.and (.cons (.cmp .NotEq (.var 2) (.lst .nil)) (.cons (.cmp .Gt (.call (.glob 24 (.ref 522)) (.cons (.var 0) (.cons (.lit (.int 3)) .nil))) (.lit (.int 0))) .nil))) ED iW) .nil)
def EH:ah:=(.cons (.cV EB (.call (.glob 51 (.con (.type "range"))) (.cons (.bin .Add (.lit (.int 2)) (.call (.glob 24 (.ref 522)) (.cons (.var 0) (.cons (.lit (.int 3)) .nil)))) .nil)) EG) EA)
def AM:ah:=(.cons (.asg (.tup (.cons (.var 1) (.cons (.var 2) .nil))) (.tup (.cons (.bin .Add (.lit (.int 1)) (.call (.glob 24 (.ref 522)) (.cons (.var 0) (.cons (.lit (.int 3)) .nil)))) (.cons (.lst .nil) .nil)))) EH)
def Hg:ah:=AM
noncomputable def DS:List VK:=[.loc "bag",.loc "found",.loc "turn",.loc "length"]
noncomputable def Dw:List Str:=["bag"]
noncomputable def Ah:ah:=(.cons (.ret (.var 1)) .nil)
noncomputable def Ai:MT:=(.var 2)
noncomputable def Aj:ah:=(.cons (.expr (.aJ (.var 1) "append" (.cons (.tup (.cons (.lit (.int 0)) (.cons (.idx (.lst (.cons (.lit (.int 0)) (.cons (.lit (.int 97)) (.cons (.lit (.int 255)) .nil)))) (.call (.glob 24 (.ref 522)) (.cons (.var 0) (.cons (.lit (.int 3)) .nil)))) .nil))) .nil))) .nil)
noncomputable def Ak:ah:=(.cons (.expr (.aJ (.var 1) "append" (.cons (.tup (.cons (.var 3) (.cons (.bin .Add (.lit (.int 1)) (.call (.glob 24 (.ref 522)) (.cons (.var 0) (.cons (.idx (.lst (.cons (.lit (.int 4)) (.cons (.lit (.int 60)) (.cons (.lit (.int 70000)) .nil)))) (.call (.glob 24 (.ref 522)) (.cons (.var 0) (.cons (.lit (.int 3)) .nil)))) .nil)))) .nil))) .nil))) .nil)
def Al:ah:=(.cons (.asg (.var 3) (.bin .Add (.lit (.int 2)) (.call (.glob 24 (.ref 522)) (.cons (.var 0) (.cons (.idx (.lst (.cons (.lit (.int 3)) (.cons (.lit (.int 9)) (.cons (.lit (.int 300)) .nil)))) (.call (.glob 24 (.ref 522)) (.cons (.var 0) (.cons (.lit (.int 3)) .nil)))) .nil))))) Ak)
def Am:ah:=(.cons (.ce (.cmp .Eq (.call (.glob 24 (.ref 522)) (.cons (.var 0) (.cons (.lit (.int 2)) .nil))) (.lit (.int 0))) Aj Al) .nil)
def An:ah:=(.cons (.cV Ai (.call (.glob 51 (.con (.type "range"))) (.cons (.bin .Add (.lit (.int 2)) (.call (.glob 24 (.ref 522)) (.cons (.var 0) (.cons (.bin .FloorDiv (.idx (.var 0) (.lit (.int 3))) (.lit (.int 2))) .nil)))) .nil)) Am) Ah)
def Ao:ah:=(.cons (.asg (.var 1) (.gx .nil)) An)
def D8:ah:=Ao
noncomputable def FU:List VK:=[.loc "value",.loc "more"]
noncomputable def FD:List Str:=["value"]
noncomputable def Em:ah:=(.cons (.ret (.tup (.cons (.bin .Add (.bin .Mult (.lit (.int 2)) (.var 1)) (.var 0)) (.cons (.var 1) .nil)))) .nil)
noncomputable def En:MX:=(.cmp .Gt (.var 0) (.lit (.int 3)))
noncomputable def Eo:ah:=(.cons (.asg (.tup (.cons (.var 0) (.cons (.var 1) .nil))) (.tup (.cons (.bin .FloorDiv (.var 0) (.lit (.int 2))) (.cons (.bin .Add (.var 1) (.lit (.int 1))) .nil)))) .nil)
def Ep:ah:=(.cons (.di En Eo) Em)
def Er:ah:=(.cons (.asg (.var 1) (.lit (.int 0))) Ep)
def He:ah:=Er
noncomputable def LE:List VK:=[.loc "count",.loc "parts",.loc "whole",.loc "found",.loc "jump"]
noncomputable def Lg:List Str:=["count","parts"]
noncomputable def Hz:ah:=(.cons (.ret (.var 3)) .nil)
noncomputable def HB:MT:=(.var 4)
noncomputable def HD:ah:=(.cons (.asg (.var 3) (.bin .Add (.var 3) (.var 4))) .nil)
def HE:ah:=(.cons (.ce (.cmp .LtE (.bin .LShift (.lit (.int 1)) (.bin .Add (.var 3) (.var 4))) (.var 2)) HD .nil) .nil)
def HF:ah:=(.cons (.cV HB (.lst (.cons (.lit (.int 256)) (.cons (.lit (.int 128)) (.cons (.lit (.int 64)) (.cons (.lit (.int 32)) (.cons (.lit (.int 16)) (.cons (.lit (.int 8)) (.cons (.lit (.int 4)) (.cons (.lit (.int 2)) (.cons (.lit (.int 1)) .nil)))))))))) HE) Hz)
def HG:ah:=(.cons (.asg (.tup (.cons (.var 2) (.cons (.var 3) .nil))) (.tup (.cons (.bin .Pow (.var 0) (.var 1)) (.cons (.lit (.int 0)) .nil)))) HF)
def LX:ah:=HG
noncomputable def DV:List VK:=[.loc "marks",.loc "found",.loc "mark"]
noncomputable def Dz:List Str:=["marks"]
noncomputable def AG:ah:=(.cons (.ret (.var 1)) .nil)
noncomputable def AI:MT:=(.var 2)
noncomputable def AJ:ah:=(.cons (.asg (.idx (.var 1) (.var 2)) (.bin .Add (.aJ (.var 1) "get" (.cons (.var 2) (.cons (.lit (.int 0)) .nil))) (.lit (.int 1)))) .nil)
def AK:ah:=(.cons (.cV AI (.var 0) AJ) AG)
def AL:ah:=(.cons (.asg (.var 1) .eK) AK)
def Eb:ah:=AL
noncomputable def DU:List VK:=[.bF "tally",.bF "parts",.bF "whole"]
noncomputable def Dy:List Str:=["tally","parts"]
noncomputable def AA:MX:=(.tup (.cons (.var 3) (.cons (.call (.glob 45 (.con (.builtin "max"))) (.cons (.lit (.int 1)) (.cons (.bin .Sub (.var 2) (.call (.glob 28 (.ref 548)) (.cons (.bin .Mult (.lit (.int 2)) (.idx (.var 0) (.var 3))) (.cons (.var 1) .nil)))) .nil))) .nil)))
noncomputable def AB:MT:=(.var 3)
def AC:ah:=(.cons (.ret (.tup (.cons (.call (.glob 52 (.con (.type "dict"))) (.cons (.comp AA ["mark"] AB (.var 0) .nil) .nil)) (.cons (.call (.glob 45 (.con (.builtin "max"))) (.cons (.lit (.int 1)) (.cons (.var 2) .nil))) .nil)))) .nil)
noncomputable def AD:MX:=(.idx (.var 0) (.var 3))
noncomputable def AE:MT:=(.var 3)
def AF:ah:=(.cons (.asg (.var 2) (.call (.glob 28 (.ref 548)) (.cons (.bin .Add (.lit (.int 1)) (.bin .Mult (.lit (.int 2)) (.call (.glob 47 (.con (.builtin "sum"))) (.cons (.comp AD ["mark"] AE (.var 0) .nil) .nil)))) (.cons (.var 1) .nil)))) AC)
def Ea:ah:=AF
noncomputable def cr:List VK:=[.loc "steps",.ar "parts",.loc "ones",.loc "first",.loc "second",.ar "near",.ar "unseen",.ar "far",.ar "beyond",.loc "match",.xR]
noncomputable def zi:List Str:=["steps","parts"]
noncomputable def yq:MX:=(.aJ (.bb 1) "get" (.cons (.var 0) (.cons (.bb 2) .nil)))
def yr:ah:=(.cons (.ret (.tup (.cons (.lam [("unseen",6),("near",5)] ["octet"] [.loc "octet",.ar "near",.ar "unseen"] yq) (.cons (.var 9) .nil)))) .nil)
noncomputable def yt:ah:=(.cons (.ret (.bin .Add (.bin .Add (.aJ (.bb 4) "get" (.cons (.bin .Add (.lit (.int 256)) (.idx (.var 2) (.lit (.int 0)))) (.cons (.bb 5) .nil))) (.aJ (.bb 6) "get" (.cons (.idx (.var 3) (.lit (.int 0))) (.cons (.bb 7) .nil)))) (.bin .Mult (.bb 8) (.bin .Add (.idx (.var 2) (.lit (.int 1))) (.idx (.var 3) (.lit (.int 1))))))) .nil)
def yu:ah:=(.cons (.asg (.tup (.cons (.var 2) (.cons (.var 3) .nil))) (.tup (.cons (.call (.glob 27 (.ref 541)) (.cons (.bin .Sub (.var 0) (.lit (.int 2))) .nil)) (.cons (.call (.glob 27 (.ref 541)) (.cons (.bin .Sub (.var 1) (.lit (.int 1))) .nil)) .nil)))) yt)
def yw:ah:=(.cons (.defn 9 [("unseen",6),("parts",1),("near",5),("far",7),("beyond",8)] ["length","distance"] [.loc "length",.loc "distance",.loc "one",.loc "other",.ar "near",.ar "unseen",.ar "far",.ar "beyond",.ar "parts"] yu) yr)
def yx:ah:=(.cons (.asg (.tup (.cons (.tup (.cons (.bb 5) (.cons (.bb 6) .nil))) (.cons (.tup (.cons (.bb 7) (.cons (.bb 8) .nil))) .nil))) (.tup (.cons (.call (.glob 30 (.ref 560)) (.cons (.var 3) (.cons (.bb 1) .nil))) (.cons (.call (.glob 30 (.ref 560)) (.cons (.var 4) (.cons (.bb 1) .nil))) .nil)))) yw)
noncomputable def yy:MX:=(.idx (.call (.glob 27 (.ref 541)) (.cons (.bin .Sub (.var 12) (.lit (.int 1))) .nil)) (.lit (.int 0)))
noncomputable def yz:MT:=(.tup (.cons (.var 11) (.cons (.var 12) .nil)))
noncomputable def yA:bA:=(.cons (.cmp .Gt (.var 11) (.lit (.int 0))) .nil)
def v6:ah:=(.cons (.asg (.tup (.cons (.var 3) (.cons (.var 4) .nil))) (.tup (.cons (.call (.glob 29 (.ref 555)) (.cons (.var 2) .nil)) (.cons (.call (.glob 29 (.ref 555)) (.cons (.comp yy ["length","other"] yz (.var 0) yA) .nil)) .nil)))) yx)
noncomputable def v9:MX:=(.ite (.cmp .Eq (.var 11) (.lit (.int 0))) (.var 12) (.bin .Add (.lit (.int 256)) (.idx (.call (.glob 27 (.ref 541)) (.cons (.bin .Sub (.var 11) (.lit (.int 2))) .nil)) (.lit (.int 0)))))
noncomputable def wa:MT:=(.tup (.cons (.var 11) (.cons (.var 12) .nil)))
def jv:ah:=(.cons (.xA 2 v9 ["length","other"] wa (.var 0) .nil) v6)
def zV:ah:=jv
noncomputable def gb:List VK:=[.ar "said",.ar "matched",.ar "each",.loc "match",.xR]
noncomputable def FA:List Str:=["said","matched","each"]
noncomputable def Ej:MX:=(.bb 1)
def Ek:ah:=(.cons (.ret (.tup (.cons (.lam [("said",0)] ["octet"] [.loc "octet",.ar "said"] Ej) (.cons (.var 3) .nil)))) .nil)
noncomputable def El:ah:=(.cons (.ret (.bin .Add (.bb 2) (.bin .Mult (.bb 3) (.bin .Add (.idx (.call (.glob 27 (.ref 541)) (.cons (.bin .Sub (.var 0) (.lit (.int 2))) .nil)) (.lit (.int 1))) (.idx (.call (.glob 27 (.ref 541)) (.cons (.bin .Sub (.var 1) (.lit (.int 1))) .nil)) (.lit (.int 1))))))) .nil)
def rd:ah:=(.cons (.defn 3 [("matched",1),("each",2)] ["length","distance"] [.loc "length",.loc "distance",.ar "matched",.ar "each"] El) Ek)
def Hd:ah:=rd
noncomputable def FT:List VK:=[.loc "steps",.bF "price"]
noncomputable def Fy:List Str:=["steps","price"]
noncomputable def Eg:MX:=(.ite (.cmp .Eq (.var 2) (.lit (.int 0))) (.call (.idx (.var 1) (.lit (.int 0))) (.cons (.var 3) .nil)) (.call (.idx (.var 1) (.lit (.int 1))) (.cons (.var 2) (.cons (.var 3) .nil))))
noncomputable def Eh:MT:=(.tup (.cons (.var 2) (.cons (.var 3) .nil)))
def Ei:ah:=(.cons (.ret (.call (.glob 47 (.con (.builtin "sum"))) (.cons (.comp Eg ["length","other"] Eh (.var 0) .nil) .nil))) .nil)
def Hc:ah:=Ei
noncomputable def xt:List VK:=[.loc "text",.loc "place",.loc "shape",.loc "shortest",.loc "window",.loc "most",.loc "found",.loc "distance",.loc "length"]
noncomputable def xb:List Str:=["text","place","shape"]
noncomputable def wb:ah:=(.cons (.ret (.var 6)) .nil)
noncomputable def wc:MT:=(.var 7)
noncomputable def jw:ah:=(.cons (.expr (.aJ (.var 6) "append" (.cons (.tup (.cons (.var 8) (.cons (.var 7) .nil))) .nil))) .nil)
def dO:ah:=(.cons (.ce (.and (.cons (.cmp .GtE (.var 8) (.var 3)) (.cons (.or (.cons (.cmp .Eq (.var 6) (.lst .nil)) (.cons (.cmp .Gt (.var 8) (.idx (.idx (.var 6) (.neg (.lit (.int 1)))) (.lit (.int 0)))) .nil))) .nil))) jw .nil) .nil)
noncomputable def we:MX:=(.and (.cons (.cmp .Lt (.var 8) (.var 5)) (.cons (.cmp .Lt (.bin .Add (.var 1) (.var 8)) (.call (.glob 43 (.con (.builtin "len"))) (.cons (.var 0) .nil))) (.cons (.cmp .Eq (.idx (.var 0) (.bin .Add (.var 1) (.var 8))) (.idx (.var 0) (.bin .Add (.bin .Sub (.var 1) (.var 7)) (.var 8)))) .nil))))
noncomputable def wf:ah:=(.cons (.asg (.var 8) (.bin .Add (.var 8) (.lit (.int 1)))) .nil)
def wg:ah:=(.cons (.di we wf) dO)
def wh:ah:=(.cons (.asg (.var 8) (.lit (.int 0))) wg)
def wi:ah:=(.cons (.cV wc (.call (.glob 51 (.con (.type "range"))) (.cons (.lit (.int 1)) (.cons (.bin .Add (.call (.glob 46 (.con (.builtin "min"))) (.cons (.var 1) (.cons (.var 4) .nil))) (.lit (.int 1))) .nil))) wh) wb)
def tR:ah:=(.cons (.asg (.var 6) (.gx .nil)) wi)
def tS:ah:=(.cons (.asg (.tup (.cons (.var 3) (.cons (.var 4) (.cons (.var 5) .nil)))) (.var 2)) tR)
def yc:ah:=tS
noncomputable def FY:List VK:=[.loc "text",.loc "at",.loc "many",.loc "matches",.loc "price",.loc "found",.loc "length",.loc "distance"]
noncomputable def FG:List Str:=["text","at","many","matches","price"]
noncomputable def EI:ah:=(.cons (.ret (.var 5)) .nil)
noncomputable def EJ:MT:=(.tup (.cons (.var 6) (.cons (.var 7) .nil)))
noncomputable def EK:ah:=(.cons (.expr (.aJ (.var 5) "append" (.cons (.tup (.cons (.tup (.cons (.var 2) (.cons (.var 7) .nil))) (.cons (.call (.idx (.var 4) (.lit (.int 1))) (.cons (.var 2) (.cons (.var 7) .nil))) .nil))) .nil))) .nil)
def EM:ah:=(.cons (.ce (.rl .LtE .LtE (.lit (.int 2)) (.var 2) (.var 6)) EK .nil) .nil)
def rh:ah:=(.cons (.cV EJ (.var 3) EM) EI)
def EN:ah:=(.cons (.asg (.var 5) (.ite (.cmp .Eq (.var 2) (.lit (.int 1))) (.gx (.cons (.tup (.cons (.tup (.cons (.lit (.int 0)) (.cons (.idx (.var 0) (.var 1)) .nil))) (.cons (.call (.idx (.var 4) (.lit (.int 0))) (.cons (.idx (.var 0) (.var 1)) .nil)) .nil))) .nil)) (.gx .nil))) rh)
def Hh:ah:=EN
noncomputable def DT:List VK:=[.loc "text",.loc "start",.loc "shape",.loc "there",.loc "price",.loc "enough",.loc "opened",.loc "at",.loc "longest",.loc "costs",.loc "last",.bF "goal",.loc "step",.loc "cost",.loc "found"]
noncomputable def Dx:List Str:=["text","start","shape","there","price","enough"]
noncomputable def Ap:ah:=(.cons (.ret (.rev (.var 14))) .nil)
noncomputable def Aq:MX:=(.cmp .Gt (.var 7) (.var 1))
noncomputable def Ar:ah:=(.cons (.asg (.var 7) (.bin .Sub (.var 7) (.call (.glob 45 (.con (.builtin "max"))) (.cons (.lit (.int 1)) (.cons (.idx (.idx (.var 10) (.var 7)) (.lit (.int 0))) .nil))))) .nil)
def As:ah:=(.cons (.expr (.aJ (.var 14) "append" (.cons (.idx (.var 10) (.var 7)) .nil))) Ar)
def Au:ah:=(.cons (.di Aq As) Ap)
def pn:ah:=(.cons (.asg (.tup (.cons (.var 14) (.cons (.var 7) .nil))) (.tup (.cons (.gx .nil) (.cons (.call (.glob 43 (.con (.builtin "len"))) (.cons (.var 0) .nil)) .nil)))) Au)
noncomputable def Av:MT:=(.var 11)
noncomputable def Aw:MT:=(.var 7)
noncomputable def Ax:MX:=(.var 15)
noncomputable def yB:MT:=(.var 15)
noncomputable def yC:bA:=(.cons (.cmp .Lt (.var 15) (.var 11)) .nil)
noncomputable def yD:MT:=(.tup (.cons (.var 12) (.cons (.var 13) .nil)))
noncomputable def mR:ah:=(.cons (.asg (.tup (.cons (.idx (.var 9) (.var 11)) (.cons (.idx (.var 10) (.var 11)) .nil))) (.tup (.cons (.bin .Add (.idx (.var 9) (.var 7)) (.var 13)) (.cons (.var 12) .nil)))) .nil)
def mV:ah:=(.cons (.ce (.or (.cons (.cmp .NotIn (.var 11) (.var 9)) (.cons (.cmp .Lt (.bin .Add (.idx (.var 9) (.var 7)) (.var 13)) (.idx (.var 9) (.var 11))) .nil))) mR .nil) .nil)
def gk:ah:=(.cons (.cV yD (.call (.glob 35 (.ref 591)) (.cons (.var 0) (.cons (.var 7) (.cons (.bin .Sub (.var 11) (.var 7)) (.cons (.idx (.var 3) (.var 7)) (.cons (.var 4) .nil)))))) mV) .nil)
def yE:ah:=(.cons (.ce (.or (.cons (.cmp .Eq (.bin .Sub (.var 11) (.var 7)) (.lit (.int 1))) (.cons (.cmp .GtE (.bin .Sub (.var 11) (.var 7)) (.idx (.var 2) (.lit (.int 0)))) .nil))) gk .nil) .nil)
def yF:ah:=(.cons (.cV Aw (.comp Ax ["place"] yB (.var 6) yC) yE) .nil)
def mW:ah:=(.cons (.cV Av (.call (.glob 51 (.con (.type "range"))) (.cons (.bin .Add (.var 1) (.lit (.int 1))) (.cons (.bin .Add (.call (.glob 43 (.con (.builtin "len"))) (.cons (.var 0) .nil)) (.lit (.int 1))) .nil))) yF) pn)
def yG:ah:=(.cons (.asg (.tup (.cons (.var 9) (.cons (.var 10) .nil))) (.tup (.cons (.wz 1 (.int 0)) (.cons .eK .nil)))) mW)
noncomputable def yH:MX:=(.cmp .Lt (.var 7) (.call (.glob 43 (.con (.builtin "len"))) (.cons (.var 0) .nil)))
noncomputable def mX:ah:=(.cons (.asg (.var 7) (.bin .Add (.var 7) (.ite (.and (.cons (.cmp .IsNot (.var 5) (.lit .none)) (.cons (.cmp .GtE (.var 8) (.var 5)) .nil))) (.var 8) (.lit (.int 1))))) .nil)
def yI:ah:=(.cons (.asg (.var 8) (.ite (.cmp .NotEq (.idx (.var 3) (.var 7)) (.lst .nil)) (.idx (.idx (.idx (.var 3) (.var 7)) (.neg (.lit (.int 1)))) (.lit (.int 0))) (.lit (.int 0)))) mX)
def yJ:ah:=(.cons (.expr (.aJ (.var 6) "append" (.cons (.var 7) .nil))) yI)
def yK:ah:=(.cons (.di yH yJ) yG)
def yL:ah:=(.cons (.asg (.tup (.cons (.var 6) (.cons (.var 7) .nil))) (.tup (.cons (.gx .nil) (.cons (.var 1) .nil)))) yK)
def D9:ah:=yL
noncomputable def xu:List VK:=[.loc "call"]
noncomputable def xc:List Str:=["call"]
noncomputable def wj:ah:=(.cons (.ret (.lit (.bool false))) .nil)
def wk:ah:=(.cons (.On (.call (.var 0) .nil) 1 52 true) wj)
def yd:ah:=wk
noncomputable def dq:List VK:=[.loc "steps",.loc "parts",.ar "bag",.ar "counts",.loc "price",.bF "said",.loc "told",.loc "seldom",.loc "some",.loc "length",.loc "other",.loc "due",.xR]
noncomputable def ou:List Str:=["steps","parts","bag"]
noncomputable def ny:MX:=(.call (.glob 18 (.ref 324)) (.cons (.bb 0) (.cons (.neg (.call (.glob 24 (.ref 522)) (.cons (.bb 1) (.cons (.lit (.int 2)) .nil)))) .nil)))
def nF:ah:=(.cons (.ret (.call (.glob 37 (.ref 603)) (.cons (.lam [("counts",3),("bag",2)] [] [.ar "counts",.ar "bag"] ny) .nil))) .nil)
noncomputable def nG:MT:=(.tup (.cons (.var 9) (.cons (.var 10) .nil)))
noncomputable def nH:ah:=(.cons (.ret (.lit (.bool false))) .nil)
def fM:ah:=(.cons (.ce (.cmp .NotEq (.call (.glob 12 (.ref 190)) (.cons (.var 10) .nil)) (.call (.glob 27 (.ref 541)) (.cons (.var 10) .nil))) nH .nil) .nil)
noncomputable def nJ:ah:=(.cons (.ret (.lit (.bool false))) .nil)
def nK:ah:=(.cons (.ce (.cmp .NotEq (.var 11) (.ite (.cmp .Eq (.var 9) (.lit (.int 0))) (.aJ (.var 6) "literal" (.cons (.var 10) .nil)) (.aJ (.var 6) "match" (.cons (.var 9) (.cons (.var 10) .nil))))) nJ .nil) fM)
def nM:ah:=(.cons (.asg (.var 11) (.ite (.cmp .Eq (.var 9) (.lit (.int 0))) (.call (.idx (.var 4) (.lit (.int 0))) (.cons (.var 10) .nil)) (.call (.idx (.var 4) (.lit (.int 1))) (.cons (.var 9) (.cons (.var 10) .nil))))) nK)
def nN:ah:=(.cons (.cV nG (.var 8) nM) nF)
noncomputable def kg:MX:=(.call (.glob 45 (.con (.builtin "max"))) (.cons (.lit (.int 1)) (.cons (.var 13) .nil)))
noncomputable def ki:MT:=(.tup (.cons (.var 13) (.cons (.var 14) .nil)))
noncomputable def kj:ah:=(.cons (.ret (.lit (.bool false))) .nil)
def km:ah:=(.cons (.ce (.cmp .NotEq (.call (.glob 5 (.ref 80)) (.cons (.var 8) .nil)) (.call (.glob 47 (.con (.builtin "sum"))) (.cons (.comp kg ["length","other"] ki (.var 8) .nil) .nil))) kj .nil) nN)
noncomputable def ko:ah:=(.cons (.ret (.lit (.bool false))) .nil)
def fe:ah:=(.cons (.ce (.cmp .NotEq (.call (.glob 11 (.ref 183)) (.cons (.var 8) (.cons (.var 6) .nil))) (.call (.glob 33 (.ref 577)) (.cons (.var 8) (.cons (.var 4) .nil)))) ko .nil) km)
def kq:ah:=(.cons (.asg (.var 8) (.bin .Add (.var 0) (.lst (.cons (.tup (.cons (.lit (.int 0)) (.cons (.call (.glob 24 (.ref 522)) (.cons (.bb 2) (.cons (.lit (.int 256)) .nil))) .nil))) (.cons (.var 7) .nil))))) fe)
def kr:ah:=(.cons (.asg (.tup (.cons (.var 6) (.cons (.var 7) .nil))) (.tup (.cons (.call (.glob 18 (.ref 324)) (.cons (.bb 3) (.cons (.var 1) .nil))) (.cons (.tup (.cons (.bin .Add (.lit (.int 2)) (.call (.glob 24 (.ref 522)) (.cons (.bb 2) (.cons (.lit (.int 300)) .nil)))) (.cons (.bin .Add (.lit (.int 1)) (.call (.glob 24 (.ref 522)) (.cons (.bb 2) (.cons (.bin .Pow (.lit (.int 10)) (.lit (.int 6))) .nil)))) .nil))) .nil)))) kq)
noncomputable def kt:MX:=(.var 14)
noncomputable def ky:MT:=(.tup (.cons (.var 13) (.cons (.var 14) .nil)))
noncomputable def kz:bA:=(.cons (.cmp .Gt (.var 13) (.lit (.int 0))) .nil)
noncomputable def kB:ah:=(.cons (.ret (.lit (.bool false))) .nil)
def kC:ah:=(.cons (.ce (.cmp .NotEq (.attr (.bb 3) "distances") (.call (.glob 29 (.ref 555)) (.cons (.comp kt ["length","other"] ky (.var 0) kz) .nil))) kB .nil) kr)
noncomputable def kG:MX:=(.var 13)
noncomputable def kH:MT:=(.tup (.cons (.var 13) (.cons (.var 14) .nil)))
noncomputable def kI:bA:=(.cons (.cmp .Gt (.var 13) (.lit (.int 0))) .nil)
noncomputable def kJ:ah:=(.cons (.ret (.lit (.bool false))) .nil)
def kK:ah:=(.cons (.ce (.cmp .NotEq (.attr (.bb 3) "lengths") (.call (.glob 29 (.ref 555)) (.cons (.comp kG ["length","other"] kH (.var 0) kI) .nil))) kJ .nil) kC)
noncomputable def kL:MX:=(.idx (.var 5) (.var 13))
noncomputable def kM:MT:=(.var 13)
noncomputable def kN:ah:=(.cons (.ret (.lit (.bool false))) .nil)
def kO:ah:=(.cons (.ce (.cmp .NotEq (.call (.glob 47 (.con (.builtin "sum"))) (.cons (.attr (.bb 3) "literals") .nil)) (.call (.glob 47 (.con (.builtin "sum"))) (.cons (.comp kL ["octet"] kM (.var 5) .nil) .nil))) kN .nil) kK)
noncomputable def kP:MX:=(.var 13)
noncomputable def kQ:MT:=(.var 13)
noncomputable def kR:bA:=(.cons (.cmp .NotEq (.idx (.attr (.bb 3) "literals") (.var 13)) (.idx (.var 5) (.var 13))) .nil)
noncomputable def kS:ah:=(.cons (.ret (.lit (.bool false))) .nil)
def kT:ah:=(.cons (.ce (.cmp .NotEq (.comp kP ["octet"] kQ (.var 5) kR) (.lst .nil)) kS .nil) kO)
noncomputable def kU:MX:=(.var 14)
noncomputable def kW:MT:=(.tup (.cons (.var 13) (.cons (.var 14) .nil)))
noncomputable def kX:bA:=(.cons (.cmp .Eq (.var 13) (.lit (.int 0))) .nil)
def kY:ah:=(.cons (.asg (.var 5) (.call (.glob 29 (.ref 555)) (.cons (.comp kU ["length","other"] kW (.var 0) kX) .nil))) kT)
def kZ:ah:=(.cons (.asg (.tup (.cons (.bb 3) (.cons (.var 4) .nil))) (.tup (.cons (.call (.glob 15 (.ref 261)) (.cons (.var 0) .nil)) (.cons (.call (.glob 31 (.ref 565)) (.cons (.var 0) (.cons (.var 1) .nil))) .nil)))) kY)
def oM:ah:=kZ
noncomputable def bH:List VK:=[.loc "bag",.ar "text",.loc "parts",.bF "shape",.loc "start",.loc "enough",.loc "said",.loc "matched",.loc "each",.loc "price",.ar "told",.loc "there",.loc "first",.loc "finders",.loc "second",.ar "out",.ar "spare",.loc "calls",.xR]
noncomputable def oy:List Str:=["bag","text","parts"]
noncomputable def nP:MX:=(.var 19)
noncomputable def nQ:MT:=(.var 19)
noncomputable def nR:bA:=(.cons (.not (.call (.glob 37 (.ref 603)) (.cons (.var 19) .nil))) .nil)
def fN:ah:=(.cons (.ret (.cmp .Eq (.comp nP ["call"] nQ (.var 17) nR) (.lst .nil))) .nil)
noncomputable def fO:MX:=(.call (.glob 13 (.ref 222)) (.cons (.lit (.int 0)) (.cons (.lit (.int 0)) (.cons (.neg (.lit (.int 1))) .nil))))
def nS:ah:=(.cons (.expr (.aJ (.var 17) "append" (.cons (.lam [] [] [] fO) .nil))) fN)
noncomputable def nU:MX:=(.call (.glob 19 (.ref 336)) (.cons (.bb 0) (.cons (.lit (.int 0)) (.cons (.lst .nil) (.cons (.lit (.int 9)) (.cons (.bb 1) .nil))))))
noncomputable def nV:MX:=(.call (.glob 13 (.ref 222)) (.cons (.neg (.lit (.int 1))) (.cons (.lit (.int 0)) .nil)))
noncomputable def nW:MX:=(.call (.glob 13 (.ref 222)) (.cons (.lit (.int 0)) (.cons (.neg (.lit (.int 1))) .nil)))
def lf:ah:=(.cons (.asg (.var 17) (.rn .Add (.var 17) (.lst (.cons (.lam [("told",10),("text",1)] [] [.ar "text",.ar "told"] nU) (.cons (.lam [] [] [] nV) (.cons (.lam [] [] [] nW) .nil)))))) nS)
noncomputable def lh:MX:=(.call (.glob 7 (.ref 126)) (.cons (.bb 0) (.cons (.bb 1) .nil)))
noncomputable def li:MX:=(.call (.glob 8 (.ref 133)) (.cons (.bb 0) (.cons (.bb 1) (.cons (.bb 2) (.cons (.lit (.int 9)) .nil)))))
noncomputable def lj:MX:=(.call (.glob 10 (.ref 176)) (.cons (.bb 0) (.cons (.lit (.int 0)) (.cons (.bb 1) (.cons (.neg (.lit (.int 1))) (.cons (.bb 2) .nil))))))
def fg:ah:=(.cons (.asg (.var 17) (.lst (.cons (.lam [("text",1),("out",15)] [] [.ar "text",.ar "out"] lh) (.cons (.lam [("text",1),("spare",16),("out",15)] [] [.ar "text",.ar "out",.ar "spare"] li) (.cons (.lam [("told",10),("text",1),("spare",16)] [] [.ar "text",.ar "spare",.ar "told"] lj) .nil))))) lf)
def ln:ah:=(.cons (.asg (.bb 16) (.call (.glob 22 (.ref 508)) (.cons (.bb 1) (.cons (.lit (.int 3)) .nil)))) fg)
def lq:ah:=(.cons (.asg (.bb 15) (.idx (.lst (.cons (.neg (.lit (.int 1))) (.cons (.bin .Add (.call (.glob 43 (.con (.builtin "len"))) (.cons (.bb 1) .nil)) (.lit (.int 1))) (.cons (.neg (.bin .Pow (.lit (.int 10)) (.lit (.int 20)))) .nil)))) (.call (.glob 24 (.ref 522)) (.cons (.var 0) (.cons (.lit (.int 3)) .nil))))) ln)
noncomputable def lr:MX:=(.tup (.cons (.lit (.int 0)) (.cons (.var 19) .nil)))
noncomputable def lu:MT:=(.var 19)
noncomputable def lx:ah:=(.cons (.ret (.lit (.bool false))) .nil)
def fh:ah:=(.cons (.ce (.cmp .NotEq (.call (.glob 7 (.ref 126)) (.cons (.bb 1) (.cons (.var 4) .nil))) (.comp lr ["octet"] lu (.sL (.bb 1) (.var 4) .absent) .nil)) lx .nil) lq)
noncomputable def ly:ah:=(.cons (.ret (.lit (.bool false))) .nil)
def fi:ah:=(.cons (.ce (.cmp .NotEq (.call (.glob 11 (.ref 183)) (.cons (.var 14) (.cons (.bb 10) .nil))) (.call (.glob 33 (.ref 577)) (.cons (.var 14) (.cons (.var 9) .nil)))) ly .nil) fh)
noncomputable def lz:ah:=(.cons (.ret (.lit (.bool false))) .nil)
def lA:ah:=(.cons (.ce (.cmp .NotEq (.call (.glob 19 (.ref 336)) (.cons (.bb 1) (.cons (.var 4) (.cons (.sL (.var 13) (.lit (.int 1)) .absent) (.cons (.idx (.var 3) (.lit (.int 2))) (.cons (.bb 10) (.cons (.var 2) .nil))))))) (.var 14)) lz .nil) fi)
def lC:ah:=(.cons (.asg (.var 14) (.call (.glob 36 (.ref 596)) (.cons (.bb 1) (.cons (.var 4) (.cons (.var 3) (.cons (.var 11) (.cons (.call (.glob 31 (.ref 565)) (.cons (.var 12) (.cons (.var 2) .nil))) (.cons (.lit .none) .nil)))))))) lA)
noncomputable def lE:ah:=(.cons (.ret (.lit (.bool false))) .nil)
def fj:ah:=(.cons (.ce (.cmp .NotEq (.call (.glob 10 (.ref 176)) (.cons (.bb 1) (.cons (.var 4) (.cons (.idx (.var 13) (.lit (.int 0))) (.cons (.idx (.var 3) (.lit (.int 2))) (.cons (.bb 10) (.cons (.var 5) .nil))))))) (.call (.glob 36 (.ref 596)) (.cons (.bb 1) (.cons (.var 4) (.cons (.var 3) (.cons (.var 11) (.cons (.var 9) (.cons (.var 5) .nil)))))))) lE .nil) lC)
noncomputable def lF:MX:=(.call (.glob 22 (.ref 508)) (.cons (.bb 1) (.cons (.idx (.var 3) (.lit (.int 0))) (.cons (.idx (.var 3) (.lit (.int 1))) (.cons (.call (.glob 43 (.con (.builtin "len"))) (.cons (.bb 1) .nil)) .nil)))))
noncomputable def lG:MT:=(.var 19)
def lH:ah:=(.cons (.xA 13 lF ["turn"] lG (.call (.glob 51 (.con (.type "range"))) (.cons (.lit (.int 3)) .nil)) .nil) fj)
def fk:ah:=(.cons (.asg (.var 12) (.call (.glob 36 (.ref 596)) (.cons (.bb 1) (.cons (.var 4) (.cons (.var 3) (.cons (.var 11) (.cons (.var 9) (.cons (.lit .none) .nil)))))))) lH)
noncomputable def lI:MX:=(.call (.glob 34 (.ref 584)) (.cons (.bb 1) (.cons (.var 19) (.cons (.var 3) .nil))))
noncomputable def lJ:MT:=(.var 19)
def fq:ah:=(.cons (.xA 11 lI ["place"] lJ (.call (.glob 51 (.con (.type "range"))) (.cons (.call (.glob 43 (.con (.builtin "len"))) (.cons (.bb 1) .nil)) .nil)) .nil) fk)
def lK:ah:=(.cons (.asg (.tup (.cons (.var 9) (.cons (.bb 10) .nil))) (.tup (.cons (.call (.glob 32 (.ref 572)) (.cons (.var 6) (.cons (.var 7) (.cons (.var 8) .nil)))) (.cons (.call (.glob 13 (.ref 222)) (.cons (.var 6) (.cons (.var 7) (.cons (.var 8) .nil)))) .nil)))) fq)
def lM:ah:=(.cons (.asg (.tup (.cons (.var 6) (.cons (.var 7) (.cons (.var 8) .nil)))) (.tup (.cons (.bin .Add (.lit (.int 1)) (.call (.glob 24 (.ref 522)) (.cons (.var 0) (.cons (.lit (.int 9)) .nil)))) (.cons (.bin .Add (.lit (.int 1)) (.call (.glob 24 (.ref 522)) (.cons (.var 0) (.cons (.lit (.int 24)) .nil)))) (.cons (.idx (.lst (.cons (.lit (.int 0)) (.cons (.lit (.int 1)) (.cons (.lit (.int 2)) .nil)))) (.call (.glob 24 (.ref 522)) (.cons (.var 0) (.cons (.lit (.int 3)) .nil)))) .nil))))) lK)
def lO:ah:=(.cons (.asg (.tup (.cons (.var 4) (.cons (.var 5) .nil))) (.tup (.cons (.idx (.lst (.cons (.lit (.int 0)) (.cons (.lit (.int 0)) (.cons (.call (.glob 24 (.ref 522)) (.cons (.var 0) (.cons (.bin .Add (.call (.glob 43 (.con (.builtin "len"))) (.cons (.bb 1) .nil)) (.lit (.int 1))) .nil))) .nil)))) (.call (.glob 24 (.ref 522)) (.cons (.var 0) (.cons (.lit (.int 3)) .nil)))) (.cons (.idx (.lst (.cons (.lit .none) (.cons (.lit .none) (.cons (.lit (.int 3)) (.cons (.lit (.int 5)) .nil))))) (.call (.glob 24 (.ref 522)) (.cons (.var 0) (.cons (.lit (.int 4)) .nil)))) .nil)))) lM)
def ft:ah:=(.cons (.asg (.var 3) (.tup (.cons (.bin .Add (.lit (.int 2)) (.call (.glob 24 (.ref 522)) (.cons (.var 0) (.cons (.lit (.int 3)) .nil)))) (.cons (.idx (.lst (.cons (.lit (.int 2)) (.cons (.lit (.int 6)) (.cons (.lit (.int 40)) .nil)))) (.call (.glob 24 (.ref 522)) (.cons (.var 0) (.cons (.lit (.int 3)) .nil)))) (.cons (.idx (.lst (.cons (.lit (.int 3)) (.cons (.lit (.int 6)) (.cons (.lit (.int 40)) .nil)))) (.call (.glob 24 (.ref 522)) (.cons (.var 0) (.cons (.lit (.int 3)) .nil)))) .nil))))) lO)
def oN:ah:=ft
noncomputable def acD:List VK:=[.loc "script",.loc "bag",.loc "parts"]
noncomputable def acq:List Str:=["script"]
noncomputable def WQ:ah:=(.cons (.ret (.and (.cons (.call (.glob 38 (.ref 608)) (.cons (.call (.glob 26 (.ref 534)) (.cons (.var 1) .nil)) (.cons (.var 2) (.cons (.var 1) .nil)))) (.cons (.call (.glob 39 (.ref 613)) (.cons (.var 1) (.cons (.call (.glob 25 (.ref 527)) (.cons (.var 1) .nil)) (.cons (.var 2) .nil)))) .nil)))) .nil)
def WR:ah:=(.cons (.asg (.var 2) (.idx (.lst (.cons (.lit (.int 16)) (.cons (.lit (.int 1)) (.cons (.lit (.int 2)) (.cons (.lit (.int 5)) .nil))))) (.call (.glob 24 (.ref 522)) (.cons (.var 1) (.cons (.lit (.int 4)) .nil))))) WQ)
def WS:ah:=(.cons (.asg (.var 1) (.call (.glob 23 (.ref 515)) (.cons (.var 0) .nil))) WR)
def adB:ah:=WS
noncomputable def TB:List Addr:=[571,612,564,607]
end
section
variable (p:Params)
theorem Bv:aD aZ (KF p) 61 "check_steps" TB 1 [] zt zk zX=true:=by kernel_rfl
theorem Bu:aD aZ (KF p) 68 "check_range" TB 3 [] zs zj zW=true:=by kernel_rfl
theorem Iw:aD aZ (KF p) 75 "step_size" TB 1 [] F5 FK Hk=true:=by kernel_rfl
theorem PA:aD aZ (KF p) 80 "size_of" TB 1 [] Oq N2 OE=true:=by kernel_rfl
theorem y0:aD aZ (KF p) 94 "Trail.__init__" TB 2 [] xr w9 yb=true:=by kernel_rfl
theorem Br:aD aZ (KF p) 101 "Trail.up_to" TB 2 [] zq zg zT=true:=by kernel_rfl
theorem Bq:aD aZ (KF p) 113 "Trail.every" TB 3 [] zp zf zS=true:=by kernel_rfl
theorem xJ:aD aZ (KF p) 126 "literals" TB 2 [] vc uM xB=true:=by kernel_rfl
theorem aap:aD aZ (KF p) 126 "literals" TB 1 [.int 0] vc uM xB=true:=by kernel_rfl
theorem U1:aD aZ (KF p) 133 "greedy" TB 4 [] Sy Si Uq=true:=by kernel_rfl
theorem Bs:aD aZ (KF p) 147 "Ways.__init__" TB 2 [] zr zh zU=true:=by kernel_rfl
theorem Fa:aD aZ (KF p) 154 "Ways.offer" TB 4 [] DR Dv D7=true:=by kernel_rfl
theorem Il:aD aZ (KF p) 161 "Ways.told" TB 1 [] FS Fx Hb=true:=by kernel_rfl
theorem X7:aD aZ (KF p) 176 "least" TB 6 [] G6 GT zY=true:=by kernel_rfl
theorem Bw:aD aZ (KF p) 176 "least" TB 5 [.none] G6 GT zY=true:=by kernel_rfl
theorem M6:aD aZ (KF p) 183 "price_of" TB 2 [] LF Lh LZ=true:=by kernel_rfl
theorem PB:aD aZ (KF p) 190 "slot_of" TB 1 [] Os N4 OF=true:=by kernel_rfl
theorem qH:aD aZ (KF p) 205 "FlatPrice.__init__" TB 4 [] gi gh dU=true:=by kernel_rfl
theorem oa:aD aZ (KF p) 205 "FlatPrice.__init__" TB 3 [.int 0] gi gh dU=true:=by kernel_rfl
theorem pE:aD aZ (KF p) 212 "FlatPrice.literal" TB 2 [] oB on oK=true:=by kernel_rfl
theorem sq:aD aZ (KF p) 219 "FlatPrice.match" TB 3 [] qX qN rz=true:=by kernel_rfl
theorem wF:aD aZ (KF p) 240 "Counts.__init__" TB 1 [] u8 uJ vn=true:=by kernel_rfl
theorem E9:aD aZ (KF p) 247 "Counts.add" TB 2 [] DQ Du D6=true:=by kernel_rfl
theorem Iu:aD aZ (KF p) 261 "counts_of" TB 1 [] FZ FH Hi=true:=by kernel_rfl
theorem Iv:aD aZ (KF p) 268 "log_units" TB 2 [] F4 FJ Hj=true:=by kernel_rfl
theorem mc:aD aZ (KF p) 280 "SymbolPrices.__init__" TB 3 [] jT jO jZ=true:=by kernel_rfl
theorem og:aD aZ (KF p) 287 "SymbolPrices.price" TB 2 [] mK mr ni=true:=by kernel_rfl
theorem fP:aD aZ (KF p) 307 "LearntPrice.__init__" TB 3 [] fJ fG fL=true:=by kernel_rfl
theorem Gx:aD aZ (KF p) 307 "LearntPrice.__init__" TB 2 [.int 16] fJ fG fL=true:=by kernel_rfl
theorem l8:aD aZ (KF p) 314 "LearntPrice.literal" TB 2 [] jS jN jY=true:=by kernel_rfl
theorem pF:aD aZ (KF p) 321 "LearntPrice.match" TB 3 [] oC oq oL=true:=by kernel_rfl
theorem X6:aD aZ (KF p) 336 "learn" TB 6 [] G5 GS LY=true:=by kernel_rfl
theorem Pz:aD aZ (KF p) 336 "learn" TB 5 [.int 16] G5 GS LY=true:=by kernel_rfl
theorem su:aD aZ (KF p) 350 "PlaceRow.__init__" TB 3 [] qZ qP rB=true:=by kernel_rfl
theorem yY:aD aZ (KF p) 357 "PlaceRow.key" TB 2 [] xo wZ xZ=true:=by kernel_rfl
theorem yZ:aD aZ (KF p) 364 "PlaceRow.put" TB 2 [] xq w5 ya=true:=by kernel_rfl
theorem sx:aD aZ (KF p) 371 "PlaceRow.newest" TB 2 [] q6 qQ rC=true:=by kernel_rfl
theorem uj:aD aZ (KF p) 392 "Matcher.__init__" TB 5 [] sR sK sZ=true:=by kernel_rfl
theorem Bp:aD aZ (KF p) 399 "Matcher.put" TB 2 [] zo ze zR=true:=by kernel_rfl
theorem wI:aD aZ (KF p) 420 "Matcher.limit" TB 3 [] vb uL vq=true:=by kernel_rfl
theorem wH:aD aZ (KF p) 434 "Matcher.alike" TB 5 [] u9 uK vo=true:=by kernel_rfl
theorem sr:aD aZ (KF p) 441 "Matcher.is_near" TB 3 [] qY qO rA=true:=by kernel_rfl
theorem wG:aD aZ (KF p) 484 "Finder.__init__" TB 5 [] dz dy cH=true:=by kernel_rfl
theorem Py:aD aZ (KF p) 484 "Finder.__init__" TB 4 [.int 32] dz dy cH=true:=by kernel_rfl
theorem sk:aD aZ (KF p) 484 "Finder.__init__" TB 3 [.int 32768,.int 32] dz dy cH=true:=by kernel_rfl
theorem Px:aD aZ (KF p) 484 "Finder.__init__" TB 2 [.int 3,.int 32768,.int 32] dz dy cH=true:=by kernel_rfl
theorem yW:aD aZ (KF p) 491 "Finder.enter" TB 2 [] xl wX xX=true:=by kernel_rfl
theorem pD:aD aZ (KF p) 498 "Finder.candidates" TB 2 [] oz om oJ=true:=by kernel_rfl
theorem yX:aD aZ (KF p) 505 "Finder.every" TB 3 [] xm wY xY=true:=by kernel_rfl
theorem M4:aD aZ (KF p) 515 "_law_bag" TB 1 [] LD Lf LW=true:=by kernel_rfl
theorem Iq:aD aZ (KF p) 522 "_law_take" TB 2 [] FV FE Hf=true:=by kernel_rfl
theorem Ir:aD aZ (KF p) 527 "_law_text" TB 1 [] FW FF Hg=true:=by kernel_rfl
theorem Fb:aD aZ (KF p) 534 "_law_drawn" TB 1 [] DS Dw D8=true:=by kernel_rfl
theorem Ip:aD aZ (KF p) 541 "_law_slot" TB 1 [] FU FD He=true:=by kernel_rfl
theorem M5:aD aZ (KF p) 548 "_law_log" TB 2 [] LE Lg LX=true:=by kernel_rfl
theorem Fe:aD aZ (KF p) 555 "_law_tally" TB 1 [] DV Dz Eb=true:=by kernel_rfl
theorem Fd:aD aZ (KF p) 560 "_law_table" TB 2 [] DU Dy Ea=true:=by kernel_rfl
theorem Bt:aD aZ (KF p) 565 "_law_learnt" TB 2 [] cr zi zV=true:=by kernel_rfl
theorem Io:aD aZ (KF p) 572 "_law_flat" TB 3 [] gb FA Hd=true:=by kernel_rfl
theorem Im:aD aZ (KF p) 577 "_law_cost" TB 2 [] FT Fy Hc=true:=by kernel_rfl
theorem y6:aD aZ (KF p) 584 "_law_matches" TB 3 [] xt xb yc=true:=by kernel_rfl
theorem It:aD aZ (KF p) 591 "_law_ways" TB 5 [] FY FG Hh=true:=by kernel_rfl
theorem Fc:aD aZ (KF p) 596 "_law_least" TB 6 [] DT Dx D9=true:=by kernel_rfl
theorem za:aD aZ (KF p) 603 "_law_refused" TB 1 [] xu xc yd=true:=by kernel_rfl
theorem pG:aD aZ (KF p) 608 "_law_counts_right" TB 3 [] dq ou oM=true:=by kernel_rfl
theorem pH:aD aZ (KF p) 613 "_law_parses_right" TB 3 [] bH oy oN=true:=by kernel_rfl
theorem aeT:aD aZ (KF p) 620 "law" TB 1 [] acD acq adB=true:=by kernel_rfl
end
section
variable (p:Params)
theorem jf:aV (KF p) 116 "finder":=⟨by kernel_rfl,by kernel_rfl,by kernel_rfl⟩
theorem xi:bu (KF p) 116 "finder":=⟨by kernel_rfl,by kernel_rfl,by kernel_rfl,by kernel_rfl⟩
theorem gV:aV (KF p) 116 "shortest":=⟨by kernel_rfl,by kernel_rfl,by kernel_rfl⟩
theorem sO:bu (KF p) 116 "shortest":=⟨by kernel_rfl,by kernel_rfl,by kernel_rfl,by kernel_rfl⟩
theorem gj:aV (KF p) 116 "known":=⟨by kernel_rfl,by kernel_rfl,by kernel_rfl⟩
theorem m9:bu (KF p) 116 "known":=⟨by kernel_rfl,by kernel_rfl,by kernel_rfl,by kernel_rfl⟩
theorem zd:bf (KF p) 116 "up_to" 101:=⟨by kernel_rfl,by kernel_rfl,by kernel_rfl,by kernel_rfl,by kernel_rfl⟩
theorem zc:bf (KF p) 116 "every" 113:=⟨by kernel_rfl,by kernel_rfl,by kernel_rfl,by kernel_rfl,by kernel_rfl⟩
theorem UC:makesIn (KF p) 116=true∧findIn (KF p) (.ref 116) "__init__" =some (some (.ref 94))∧typeIn (KF p) (.ref 94)=some (.type "function"):=⟨by kernel_rfl,by kernel_rfl,by kernel_rfl⟩
theorem iF:aV (KF p) 164 "size":=⟨by kernel_rfl,by kernel_rfl,by kernel_rfl⟩
theorem FN:bu (KF p) 164 "size":=⟨by kernel_rfl,by kernel_rfl,by kernel_rfl,by kernel_rfl⟩
theorem dF:aV (KF p) 164 "costs":=⟨by kernel_rfl,by kernel_rfl,by kernel_rfl⟩
theorem DF:bu (KF p) 164 "costs":=⟨by kernel_rfl,by kernel_rfl,by kernel_rfl,by kernel_rfl⟩
theorem gW:aV (KF p) 164 "steps":=⟨by kernel_rfl,by kernel_rfl,by kernel_rfl⟩
theorem DG:bu (KF p) 164 "steps":=⟨by kernel_rfl,by kernel_rfl,by kernel_rfl,by kernel_rfl⟩
theorem pJ:bf (KF p) 164 "offer" 154:=⟨by kernel_rfl,by kernel_rfl,by kernel_rfl,by kernel_rfl,by kernel_rfl⟩
theorem Fh:bf (KF p) 164 "told" 161:=⟨by kernel_rfl,by kernel_rfl,by kernel_rfl,by kernel_rfl,by kernel_rfl⟩
theorem W2:makesIn (KF p) 164=true∧findIn (KF p) (.ref 164) "__init__" =some (some (.ref 147))∧typeIn (KF p) (.ref 147)=some (.type "function"):=⟨by kernel_rfl,by kernel_rfl,by kernel_rfl⟩
theorem iE:aV (KF p) 222 "of_literal":=⟨by kernel_rfl,by kernel_rfl,by kernel_rfl⟩
theorem i8:bu (KF p) 222 "of_literal":=⟨by kernel_rfl,by kernel_rfl,by kernel_rfl,by kernel_rfl⟩
theorem e8:aV (KF p) 222 "of_match":=⟨by kernel_rfl,by kernel_rfl,by kernel_rfl⟩
theorem mz:bu (KF p) 222 "of_match":=⟨by kernel_rfl,by kernel_rfl,by kernel_rfl,by kernel_rfl⟩
theorem gd:aV (KF p) 222 "of_bit":=⟨by kernel_rfl,by kernel_rfl,by kernel_rfl⟩
theorem pT:bu (KF p) 222 "of_bit":=⟨by kernel_rfl,by kernel_rfl,by kernel_rfl,by kernel_rfl⟩
theorem oj:bf (KF p) 222 "literal" 212:=⟨by kernel_rfl,by kernel_rfl,by kernel_rfl,by kernel_rfl,by kernel_rfl⟩
theorem qK:bf (KF p) 222 "match" 219:=⟨by kernel_rfl,by kernel_rfl,by kernel_rfl,by kernel_rfl,by kernel_rfl⟩
theorem rj:makesIn (KF p) 222=true∧findIn (KF p) (.ref 222) "__init__" =some (some (.ref 205))∧typeIn (KF p) (.ref 205)=some (.type "function"):=⟨by kernel_rfl,by kernel_rfl,by kernel_rfl⟩
theorem bU:aV (KF p) 250 "literals":=⟨by kernel_rfl,by kernel_rfl,by kernel_rfl⟩
theorem qS:bu (KF p) 250 "literals":=⟨by kernel_rfl,by kernel_rfl,by kernel_rfl,by kernel_rfl⟩
theorem cg:aV (KF p) 250 "lengths":=⟨by kernel_rfl,by kernel_rfl,by kernel_rfl⟩
theorem sN:bu (KF p) 250 "lengths":=⟨by kernel_rfl,by kernel_rfl,by kernel_rfl,by kernel_rfl⟩
theorem bL:aV (KF p) 250 "distances":=⟨by kernel_rfl,by kernel_rfl,by kernel_rfl⟩
theorem pS:bu (KF p) 250 "distances":=⟨by kernel_rfl,by kernel_rfl,by kernel_rfl,by kernel_rfl⟩
theorem BD:bf (KF p) 250 "add" 247:=⟨by kernel_rfl,by kernel_rfl,by kernel_rfl,by kernel_rfl,by kernel_rfl⟩
theorem O1:makesIn (KF p) 250=true∧findIn (KF p) (.ref 250) "__init__" =some (some (.ref 240))∧typeIn (KF p) (.ref 240)=some (.type "function"):=⟨by kernel_rfl,by kernel_rfl,by kernel_rfl⟩
theorem jX:aV (KF p) 290 "other":=⟨by kernel_rfl,by kernel_rfl,by kernel_rfl⟩
theorem mH:bu (KF p) 290 "other":=⟨by kernel_rfl,by kernel_rfl,by kernel_rfl,by kernel_rfl⟩
theorem fc:aV (KF p) 290 "known":=⟨by kernel_rfl,by kernel_rfl,by kernel_rfl⟩
theorem mG:bu (KF p) 290 "known":=⟨by kernel_rfl,by kernel_rfl,by kernel_rfl,by kernel_rfl⟩
theorem dc:bf (KF p) 290 "price" 287:=⟨by kernel_rfl,by kernel_rfl,by kernel_rfl,by kernel_rfl,by kernel_rfl⟩
theorem wm:makesIn (KF p) 290=true∧findIn (KF p) (.ref 290) "__init__" =some (some (.ref 280))∧typeIn (KF p) (.ref 280)=some (.type "function"):=⟨by kernel_rfl,by kernel_rfl,by kernel_rfl⟩
theorem oH:aV (KF p) 324 "unit":=⟨by kernel_rfl,by kernel_rfl,by kernel_rfl⟩
theorem pU:bu (KF p) 324 "unit":=⟨by kernel_rfl,by kernel_rfl,by kernel_rfl,by kernel_rfl⟩
theorem e9:aV (KF p) 324 "firsts":=⟨by kernel_rfl,by kernel_rfl,by kernel_rfl⟩
theorem mE:bu (KF p) 324 "firsts":=⟨by kernel_rfl,by kernel_rfl,by kernel_rfl,by kernel_rfl⟩
theorem je:aV (KF p) 324 "seconds":=⟨by kernel_rfl,by kernel_rfl,by kernel_rfl⟩
theorem jR:bu (KF p) 324 "seconds":=⟨by kernel_rfl,by kernel_rfl,by kernel_rfl,by kernel_rfl⟩
theorem jD:bf (KF p) 324 "literal" 314:=⟨by kernel_rfl,by kernel_rfl,by kernel_rfl,by kernel_rfl,by kernel_rfl⟩
theorem ol:bf (KF p) 324 "match" 321:=⟨by kernel_rfl,by kernel_rfl,by kernel_rfl,by kernel_rfl,by kernel_rfl⟩
theorem mY:makesIn (KF p) 324=true∧findIn (KF p) (.ref 324) "__init__" =some (some (.ref 307))∧typeIn (KF p) (.ref 307)=some (.type "function"):=⟨by kernel_rfl,by kernel_rfl,by kernel_rfl⟩
theorem gu:aV (KF p) 374 "octets":=⟨by kernel_rfl,by kernel_rfl,by kernel_rfl⟩
theorem qU:bu (KF p) 374 "octets":=⟨by kernel_rfl,by kernel_rfl,by kernel_rfl,by kernel_rfl⟩
theorem ix:aV (KF p) 374 "size":=⟨by kernel_rfl,by kernel_rfl,by kernel_rfl⟩
theorem uV:bu (KF p) 374 "size":=⟨by kernel_rfl,by kernel_rfl,by kernel_rfl,by kernel_rfl⟩
theorem fb:aV (KF p) 374 "last":=⟨by kernel_rfl,by kernel_rfl,by kernel_rfl⟩
theorem uU:bu (KF p) 374 "last":=⟨by kernel_rfl,by kernel_rfl,by kernel_rfl,by kernel_rfl⟩
theorem gt:aV (KF p) 374 "before":=⟨by kernel_rfl,by kernel_rfl,by kernel_rfl⟩
theorem qT:bu (KF p) 374 "before":=⟨by kernel_rfl,by kernel_rfl,by kernel_rfl,by kernel_rfl⟩
theorem jE:bf (KF p) 374 "key" 357:=⟨by kernel_rfl,by kernel_rfl,by kernel_rfl,by kernel_rfl,by kernel_rfl⟩
theorem wO:bf (KF p) 374 "put" 364:=⟨by kernel_rfl,by kernel_rfl,by kernel_rfl,by kernel_rfl,by kernel_rfl⟩
theorem qL:bf (KF p) 374 "newest" 371:=⟨by kernel_rfl,by kernel_rfl,by kernel_rfl,by kernel_rfl,by kernel_rfl⟩
theorem HS:makesIn (KF p) 374=true∧findIn (KF p) (.ref 374) "__init__" =some (some (.ref 350))∧typeIn (KF p) (.ref 350)=some (.type "function"):=⟨by kernel_rfl,by kernel_rfl,by kernel_rfl⟩
theorem bN:aV (KF p) 508 "octets":=⟨by kernel_rfl,by kernel_rfl,by kernel_rfl⟩
theorem uS:bu (KF p) 508 "octets":=⟨by kernel_rfl,by kernel_rfl,by kernel_rfl,by kernel_rfl⟩
theorem jd:aV (KF p) 508 "least":=⟨by kernel_rfl,by kernel_rfl,by kernel_rfl⟩
theorem xh:bu (KF p) 508 "least":=⟨by kernel_rfl,by kernel_rfl,by kernel_rfl,by kernel_rfl⟩
theorem sY:aV (KF p) 508 "window":=⟨by kernel_rfl,by kernel_rfl,by kernel_rfl⟩
theorem uT:bu (KF p) 508 "window":=⟨by kernel_rfl,by kernel_rfl,by kernel_rfl,by kernel_rfl⟩
theorem vi:aV (KF p) 508 "chain":=⟨by kernel_rfl,by kernel_rfl,by kernel_rfl⟩
theorem xg:bu (KF p) 508 "chain":=⟨by kernel_rfl,by kernel_rfl,by kernel_rfl,by kernel_rfl⟩
theorem vh:aV (KF p) 508 "ahead":=⟨by kernel_rfl,by kernel_rfl,by kernel_rfl⟩
theorem jQ:bu (KF p) 508 "ahead":=⟨by kernel_rfl,by kernel_rfl,by kernel_rfl,by kernel_rfl⟩
theorem gT:aV (KF p) 508 "row":=⟨by kernel_rfl,by kernel_rfl,by kernel_rfl⟩
theorem DE:bu (KF p) 508 "row":=⟨by kernel_rfl,by kernel_rfl,by kernel_rfl,by kernel_rfl⟩
theorem BE:bf (KF p) 508 "put" 399:=⟨by kernel_rfl,by kernel_rfl,by kernel_rfl,by kernel_rfl,by kernel_rfl⟩
theorem wN:bf (KF p) 508 "limit" 420:=⟨by kernel_rfl,by kernel_rfl,by kernel_rfl,by kernel_rfl,by kernel_rfl⟩
theorem wK:bf (KF p) 508 "alike" 434:=⟨by kernel_rfl,by kernel_rfl,by kernel_rfl,by kernel_rfl,by kernel_rfl⟩
theorem sC:bf (KF p) 508 "is_near" 441:=⟨by kernel_rfl,by kernel_rfl,by kernel_rfl,by kernel_rfl,by kernel_rfl⟩
theorem wL:bf (KF p) 508 "enter" 491:=⟨by kernel_rfl,by kernel_rfl,by kernel_rfl,by kernel_rfl,by kernel_rfl⟩
theorem oi:bf (KF p) 508 "candidates" 498:=⟨by kernel_rfl,by kernel_rfl,by kernel_rfl,by kernel_rfl,by kernel_rfl⟩
theorem wM:bf (KF p) 508 "every" 505:=⟨by kernel_rfl,by kernel_rfl,by kernel_rfl,by kernel_rfl,by kernel_rfl⟩
theorem AW:makesIn (KF p) 508=true∧findIn (KF p) (.ref 508) "__init__" =some (some (.ref 484))∧typeIn (KF p) (.ref 484)=some (.type "function"):=⟨by kernel_rfl,by kernel_rfl,by kernel_rfl⟩
theorem wn:jV (KF p) 465 "__init__" 392:=⟨by kernel_rfl,by kernel_rfl,by kernel_rfl,by kernel_rfl⟩
theorem akR:keepIn (KF p) (.ref 39)=true:=by kernel_rfl
theorem akS:keepIn (KF p) (.ref 52)=true:=by kernel_rfl
theorem aeW:keepIn (KF p) (.ref 61)=true:=by kernel_rfl
theorem Bx:keepIn (KF p) (.ref 68)=true:=by kernel_rfl
theorem PD:keepIn (KF p) (.ref 75)=true:=by kernel_rfl
theorem aeX:keepIn (KF p) (.ref 80)=true:=by kernel_rfl
theorem abK:keepIn (KF p) (.ref 116)=true:=by kernel_rfl
theorem Th:keepIn (KF p) (.ref 126)=true:=by kernel_rfl
theorem abL:keepIn (KF p) (.ref 133)=true:=by kernel_rfl
theorem abM:keepIn (KF p) (.ref 164)=true:=by kernel_rfl
theorem zy:keepIn (KF p) (.ref 176)=true:=by kernel_rfl
theorem Ti:keepIn (KF p) (.ref 183)=true:=by kernel_rfl
theorem md:keepIn (KF p) (.ref 190)=true:=by kernel_rfl
theorem zz:keepIn (KF p) (.ref 222)=true:=by kernel_rfl
theorem abN:keepIn (KF p) (.ref 250)=true:=by kernel_rfl
theorem Tj:keepIn (KF p) (.ref 261)=true:=by kernel_rfl
theorem Ix:keepIn (KF p) (.ref 268)=true:=by kernel_rfl
theorem Tk:keepIn (KF p) (.ref 290)=true:=by kernel_rfl
theorem Iy:keepIn (KF p) (.ref 324)=true:=by kernel_rfl
theorem Tl:keepIn (KF p) (.ref 336)=true:=by kernel_rfl
theorem abO:keepIn (KF p) (.ref 374)=true:=by kernel_rfl
theorem aiU:keepIn (KF p) (.ref 465)=true:=by kernel_rfl
theorem zA:keepIn (KF p) (.ref 508)=true:=by kernel_rfl
theorem abP:keepIn (KF p) (.ref 515)=true:=by kernel_rfl
theorem aX:keepIn (KF p) (.ref 522)=true:=by kernel_rfl
theorem abQ:keepIn (KF p) (.ref 527)=true:=by kernel_rfl
theorem abR:keepIn (KF p) (.ref 534)=true:=by kernel_rfl
theorem mf:keepIn (KF p) (.ref 541)=true:=by kernel_rfl
theorem Tm:keepIn (KF p) (.ref 548)=true:=by kernel_rfl
theorem uk:keepIn (KF p) (.ref 555)=true:=by kernel_rfl
theorem Tn:keepIn (KF p) (.ref 560)=true:=by kernel_rfl
theorem To:keepIn (KF p) (.ref 565)=true:=by kernel_rfl
theorem abS:keepIn (KF p) (.ref 572)=true:=by kernel_rfl
theorem Tp:keepIn (KF p) (.ref 577)=true:=by kernel_rfl
theorem abT:keepIn (KF p) (.ref 584)=true:=by kernel_rfl
theorem abU:keepIn (KF p) (.ref 591)=true:=by kernel_rfl
theorem Iz:keepIn (KF p) (.ref 596)=true:=by kernel_rfl
theorem Tq:keepIn (KF p) (.ref 603)=true:=by kernel_rfl
theorem abV:keepIn (KF p) (.ref 608)=true:=by kernel_rfl
theorem abW:keepIn (KF p) (.ref 613)=true:=by kernel_rfl
theorem aiV:keepIn (KF p) (.ref 620)=true:=by kernel_rfl
end
structure Cx (Z:Program)(G:Gd)(p:Params):Prop where
 ok:G.Ok
 gl:G.gl=aZ
 K:G.K=KF p
 tb:∀c∈TB,∃P,CodeHd G.hb c P∧P∈G.tabs
 Y:∃fI,ee G 52 fI
noncomputable abbrev BA:Value:= .ref 52
section
variable {Z:Program}{G:Gd}{p:Params}{d:Nat}{H H0 H1:AH}{Q:AV→AH→Prop}{X:AH→Prop}
theorem Cx.fn (c:Cx Z G p){f:Addr}{q0:Str}{nA:Nat}{args dv:List AV}{vt:List VK}{ps:List Str}{body:ah}(hk:aD aZ (KF p) f q0 TB nA dv vt ps body=true)(hn:args.length=nA)
  (q:∀H0 cf,Sub H H0→(∀x,VK.ar x∈vt→H (cf x)=none∧H0 (cf x)=some (.cell none))→(∀x y,VK.ar x∈vt→VK.ar y∈vt→cf x=cf y→x=y)→
   du vt 0 (args++dv) (uR vt cf) H0 (fun σ H1=>aU Z G BA d body σ H1 (d6 Q) X)):aw Z G BA (d+1) f args H Q X:=
 Ue c.ok (fun C e=>by cases e;exact c.Y) c.tb (by rw[c.gl,c.K];exact hk) hn q
theorem Cx.cls (c:Cx Z G p){Cc fI:Addr}{args:List AV}(h:makesIn (KF p) Cc=true∧findIn (KF p) (.ref Cc) "__init__" =some (some (.ref fI))∧typeIn (KF p) (.ref fI)=some (.type "function"))
  (q:∀a dx,a≠dx→H a=none→H dx=none→aw Z G BA d fI (.ref a::args) ((H.set dx (.attrs [])).set a (.inst Cc dx)) (fun v H2=>v= .none∧Q (.ref a) H2) X):aw Z G BA (d+1) Cc args H Q X:=
 Ov c.ok (by rw[c.K];exact h.1) (by rw[c.K];exact h.2.1) (by rw[c.K];exact h.2.2) q
theorem Cx.call (c:Cx Z G p){f:Addr}{args:List AV}(hk:keepIn (KF p) (.ref f)=true)(h:aw Z G BA d f args H Q X):qa Z G BA d Q X (.ref f) args H:=⟨.inl (by rw[c.K];exact hk),h⟩
end
@[simp] theorem ahm {a b:Int}:(AV.int a=AV.int b)=(a=b):=propext ⟨fun h=>by cases h;rfl,congrArg _⟩
theorem ry {a b:List (String×AV)}(h:some (AO.attrs a)=some (.attrs b)):a.length=b.length:=by cases h;rfl
theorem ltI {i n:Nat}(h:Nat.blt i n=true):i<n:=Nat.le_of_ble_eq_true h
theorem aO {P:Prop}[Decidable P]{A B:Prop}(h1:P→A)(h2:¬P→B):if decide P=true then A else B:=by
 by_cases h:P
 ·rw[if_pos (decide_eq_true h)];exact h1 h
 ·rw[if_neg (by simpa using h)];exact h2 h
theorem Gv {P:Prop}[Decidable P]{A B:Prop}(h1:¬P→A)(h2:P→B):if(!decide P)=true then A else B:=by
 by_cases h:P
 ·rw[if_neg (by simpa using h)];exact h2 h
 ·rw[if_pos (by simpa using h)];exact h1 h
section
variable {src:Src}{Q:Fl→Sg→AH→Prop}
theorem agm {step:AV→Sg→AH→(Fl→Sg→AH→Prop)→Prop}(I:List AV→Sg→AH→Prop)(hh:∀l σ H,I l σ H→src.here H)(hn:∀σ H,I [] σ H→∀H',Sub H H'→Q .next σ H')
  (hc:∀x r σ H K,I (x::r) σ H→(∀σ' H',I r σ' H'→K .next σ' H')→(∀σ' H',Q .next σ' H'→K .brk σ' H')→(∀v σ' H',Q (.ret v) σ' H'→K (.ret v) σ' H')→step x σ H K):
  ∀l σ H,I l σ H→gH src step l σ H Q
 | [],σ,H,h=>⟨hh _ _ _ h,hn _ _ h⟩
 | x::r,σ,H,h=>⟨hh _ _ _ h,hc x r σ H _ h (fun σ' H' h'=>agm I hh hn hc r σ' H' h') (fun _ _ q=>q) fun _ _ _ q=>q⟩
theorem gc {test:Sg→AH→(Bool→AH→Prop)→Prop}{body:Sg→AH→(Fl→Sg→AH→Prop)→Prop}(I:Nat→Sg→AH→Prop)
  (h:∀n σ H K,I n σ H→(∀m σ' H',n=m+1→I m σ' H'→K .next σ' H')→(∀σ' H',Q .next σ' H'→K .brk σ' H')→test σ H (fun b H1=>if b=true then body σ H1 K else Q .next σ H1)):
  ∀n σ H,I n σ H→jU test body (n+1) σ H Q
 | n,σ,H,q=>h n σ H _ q (fun m σ' H' e q'=>by subst e;exact gc I h m σ' H' q') fun _ _ q=>q
theorem adI {step:AV→Sg→AH→(Option AV→Sg→AH→Prop)→Prop}{R:List AV→AH→Prop}(I:List AV→List AV→Sg→AH→Prop)(hh:∀l acc σ H,I l acc σ H→src.here H)(hn:∀acc σ H,I [] acc σ H→acc.length≤100000∧R acc H)
  (hc:∀x r acc σ H K,I (x::r) acc σ H→(∀o σ' H',I r (acc++o.toList) σ' H'→K o σ' H')→step x σ H K):∀l acc σ H,I l acc σ H→dk src step l acc σ H R
 | [],acc,σ,H,h=>⟨hh _ _ _ _ h,hn _ _ _ h⟩
 | x::r,acc,σ,H,h=>⟨hh _ _ _ _ h,hc x r acc σ H _ h fun o σ' H' h'=>adI I hh hn hc r _ σ' H' h'⟩
theorem forM {α:Type}(f:α→AV){step:AV→Sg→AH→(Fl→Sg→AH→Prop)→Prop}(I:List α→Sg→AH→Prop)(hh:∀l σ H,I l σ H→src.here H)(hn:∀σ H,I [] σ H→∀H',Sub H H'→Q .next σ H')
  (hc:∀x r σ H K,I (x::r) σ H→(∀σ' H',I r σ' H'→K .next σ' H')→(∀σ' H',Q .next σ' H'→K .brk σ' H')→(∀v σ' H',Q (.ret v) σ' H'→K (.ret v) σ' H')→step (f x) σ H K):
  ∀l σ H,I l σ H→gH src step (l.map f) σ H Q
 | [],σ,H,h=>⟨hh _ _ _ h,hn _ _ h⟩
 | x::r,σ,H,h=>⟨hh _ _ _ h,hc x r σ H _ h (fun σ' H' h'=>forM f I hh hn hc r σ' H' h') (fun _ _ q=>q) fun _ _ _ q=>q⟩
theorem O6 {α:Type}(f:α→AV){step:AV→Sg→AH→(Option AV→Sg→AH→Prop)→Prop}{R:List AV→AH→Prop}(I:List α→List AV→Sg→AH→Prop)(hh:∀l acc σ H,I l acc σ H→src.here H)(hn:∀acc σ H,I [] acc σ H→acc.length≤100000∧R acc H)
  (hc:∀x r acc σ H K,I (x::r) acc σ H→(∀o σ' H',I r (acc++o.toList) σ' H'→K o σ' H')→step (f x) σ H K):∀l acc σ H,I l acc σ H→dk src step (l.map f) acc σ H R
 | [],acc,σ,H,h=>⟨hh _ _ _ _ h,hn _ _ _ h⟩
 | x::r,acc,σ,H,h=>⟨hh _ _ _ _ h,hc x r acc σ H _ h fun o σ' H' h'=>O6 f I hh hn hc r _ σ' H' h'⟩
theorem jB {α:Type}{w:List α}(h:w.length=1):∃a,w=[a]:=List.length_eq_one_iff.mp h
theorem By {α:Type}{w:List α}(h:w.length=2):∃a b,w=[a,b]:=by
 match w,h with
 | [a,b],_=>exact⟨a,b,rfl⟩
theorem cK {α:Type}(f:α→AV)(g:α→Option AV)(n:Nat){step:AV→Sg→AH→(Option AV→Sg→AH→Prop)→Prop}{R:List AV→AH→Prop}{H0:AH}{base w:Sg}{l0:List α}(hh:∀H,Sub H0 H→src.here H)(hl:l0.length≤100000)(hw:w.length=n)
  (hn:∀H,Sub H0 H→R (l0.filterMap g) H) (hc:∀x w H K,x∈l0→w.length=n→Sub H0 H→(∀w' H',w'.length=n→Sub H0 H'→K (g x) (base++w') H')→step (f x) (base++w) H K):dk src step (l0.map f) [] (base++w) H0 R:=by
 have key:=O6 (src:=src) (step:=step) (R:=R) f (fun l acc σ H=>Sub H0 H∧(∃w,w.length=n∧σ=base++w)∧∃done,l0=done++l∧acc=done.filterMap g) (fun l acc σ H h=>hh H h.1)
  (fun acc σ H h=>by
   obtain⟨h1,_,done,e,rfl⟩:=h
   rw[List.append_nil] at e
   subst e
   exact⟨Nat.le_trans (List.length_filterMap_le ..) hl,hn _ h1⟩)
  (fun x r acc σ H K h k=>by
   obtain⟨h1,⟨w,hw,rfl⟩,done,e,rfl⟩:=h
   exact hc x w H K (by rw[e];simp) hw h1 fun w' H' Bl s=>k _ _ _ ⟨s,⟨w',Bl,rfl⟩,done++[x],by simp [e],by rw[List.filterMap_append];cases h:g x<;>simp [h]⟩)
 exact key l0 [] _ H0 ⟨Sub.refl _,⟨w,hw,rfl⟩,[],rfl,rfl⟩
end
noncomputable abbrev aH (s:Int×Int):AV:= .tup [.int s.1,.int s.2]
noncomputable def bh (s:Int×Int):Int:=if s.1=0 then 1 else s.1
section
variable {Z:Program}{G:Gd}{p:Params}{d:Nat}{H H0 H1:AH}{Q:AV→AH→Prop}{X:AH→Prop}
theorem lQ (c:Cx Z G p){s:Int×Int}(hQ:∀H',Sub H H'→Q (.int (bh s)) H'):aw Z G BA (d+1) 75 [aH s] H Q X:=by
 refine c.fn (Iw p) rfl fun H0 cf hs _ _=>?_
 refine⟨by decide,by decide,_,rfl,?_⟩
 unfold bh at hQ
 refine aO (fun h=>?_) fun h=>?_
 ·rw[if_pos h] at hQ;exact hQ _ hs
 ·rw[if_neg h] at hQ;exact⟨by decide,by decide,_,rfl,hQ _ hs⟩
theorem dG (c:Cx Z G p){tx:List Int}{st mo:Int}(hl:tx.length≤1000)(h1:0≤st∧st≤tx.length∧0≤mo→∀H',Sub H H'→Q .none H')(h2:¬(0≤st∧st≤tx.length∧0≤mo)→∀H',Sub H H'→X H'):
  aw Z G BA (d+3) 68 [.bytes tx,.int st,.int mo] H Q X:=by
 refine c.fn (Bu p) rfl fun H0 cf hs _ _=>?_
 have bad:¬(0≤st∧st≤tx.length∧0≤mo)→2≤d+2∧BA= .ref 52∧∀H2,Sub H0 H2→X H2:=fun h=>⟨by lia,rfl,fun H2 s2=>h2 h _ (hs.trans s2)⟩
 have fin:0≤st∧st≤tx.length→if decide (mo<0)=true then 2≤d+2∧BA= .ref 52∧∀H2,Sub H0 H2→X H2 else Q .none H0:=fun h=>
  aO (fun m=>bad fun z=>by lia) fun m=>h1 ⟨h.1,h.2,by lia⟩ _ hs
 refine aO (fun a=>?_) fun a=>?_
 ·refine⟨by lia,?_⟩
  exact Gv (fun b=>bad fun z=>b z.2.1) fun b=>fin ⟨a,b⟩
 ·exact bad fun z=>a z.1
end
section
variable {Z:Program}{G:Gd}{p:Params}{d:Nat}{H H0 H1:AH}{Q:AV→AH→Prop}{X:AH→Prop}
noncomputable def cQ (s:Int×Int):Prop:=(s.1=0∧0≤s.2∧s.2≤255)∨(2≤s.1∧1≤s.2)
theorem Ac (c:Cx Z G p){l:List (Int×Int)}(hl:l.length≤1000)(ho:∀s∈l,cQ s)(hQ:∀H',Sub H H'→Q .none H'):aw Z G BA (d+1) 61 [.lst (l.map aH)] H Q X:=by
 refine c.fn (Bv p) rfl fun H0 cf hs _ _=>?_
 refine⟨by simpa using(by lia:l.length≤100000),fun H2 s2=>?_⟩
 have s2:=hs.trans s2
 refine forM (src:= .items (l.map aH)) aH (fun r σ H1=>Sub H H1∧(∃a b,σ=[some (.lst (l.map aH)),a,b])∧∀s∈r,s∈l) (fun _ _ _ _=>trivial) (fun σ H1 h H' s=>hQ _ (h.1.trans s)) (fun s m σ H1 K h k _ _=>?_) l _ _ ⟨s2,⟨none,none,rfl⟩,fun _ z=>z⟩
 obtain⟨h1,⟨a,b,rfl⟩,ac3⟩:=h
 have k:=fun a b=>k [_,a,b] H1 ⟨h1,⟨a,b,rfl⟩,fun s z=>ac3 s (.tail _ z)⟩
 refine⟨rfl,ltI rfl,ltI rfl,rfl,?_⟩
 have o:=ho s (ac3 s (.head _))
 unfold cQ at o
 refine aO (fun e=>?_) fun e=>?_
 ·refine aO (fun a=>?_) fun a=>?_
  ·refine Gv (fun b=>absurd ?_ b) fun b=>?_
   ·lia
   ·exact Gv (fun n=>absurd e n) fun n=>k _ _
  ·exact absurd a (by lia)
 ·exact Gv (fun n=>aO (fun z=>absurd z (by show¬s.1<2;lia)) fun z=>k _ _) fun n=>absurd n e
end
noncomputable def DD:Nat→Nat→Nat→Nat×Nat
 | 0,n,m=>(2*m+n,m)
 | f+1,n,m=>if n≤3 then(2*m+n,m) else DD f (n/2) (m+1)
noncomputable def i5 (n m:Nat):Nat×Nat:=DD n n m
theorem xO:∀(f g n m:Nat),n≤f→n≤g→DD f n m=DD g n m
 | 0,0,_,_,_,_=>rfl
 | 0,g+1,n,m,h,_=>(if_pos (Nat.le_trans h (Nat.zero_le 3))).symm
 | f+1,0,n,m,_,h=>if_pos (Nat.le_trans h (Nat.zero_le 3))
 | f+1,g+1,n,m,h,h'=>by
  unfold DD
  refine@dite _ (n≤3) _ (fun c=>by rw[if_pos c,if_pos c]) fun c=>?_
  have d:n/2<n:=Nat.div_lt_self (Nat.lt_of_lt_of_le (by decide) (Nat.not_le.mp c)) (by decide)
  rw[if_neg c,if_neg c]
  exact xO f g _ _ (Nat.le_of_lt_succ (Nat.lt_of_lt_of_le d h)) (Nat.le_of_lt_succ (Nat.lt_of_lt_of_le d h'))
theorem sM {n m:Nat}(h:n≤3):i5 n m=(2*m+n,m):=by
 unfold i5
 cases n with
 | zero=>rfl
 | succ n=>exact if_pos h
theorem pR {n m:Nat}(h:¬n≤3):i5 n m=i5 (n/2) (m+1):=by
 unfold i5
 cases n with
 | zero=>exact absurd (Nat.zero_le 3) h
 | succ n=>exact(if_neg h).trans (xO _ _ _ _ (Nat.le_of_lt_succ (Nat.div_lt_self (Nat.succ_pos n) (by decide))) (Nat.le_refl _))
noncomputable def slot1 (v:Int):Int:=((i5 v.toNat 0).1:Nat)
noncomputable def mx (v:Int):Int:=((i5 v.toNat 0).2:Nat)
theorem xP:∀{k n m:Nat},2^(k+2)≤n→n<2^(k+3)→i5 n m=(2*(m+(k+1))+2+(n/2^(k+1))%2,m+(k+1))
 | 0,n,m,h1,h2=>(pR (Nat.not_le.mpr h1)).trans ((sM ((by decide:∀x<8,x/2≤3) n h2)).trans (congrArg (·,m+1) ((congrArg (2*(m+1)+·) ((by decide:∀x<8,4≤x→x/2=2+x/2%2) n h2 h1)).trans (Nat.add_assoc ..).symm)))
 | k+1,n,m,h1,h2=>by
  rw[pR (Nat.not_le.mpr (Nat.le_trans (Nat.pow_le_pow_right (n:=2) (by decide) (Nat.le_add_left 2 (k+1)):2^2≤2^(k+1+2)) h1)),xP (k:=k) ((Nat.le_div_iff_mul_le (by decide)).mpr h1) (Nat.div_lt_of_lt_mul (Nat.lt_of_lt_of_le h2 (Nat.le_of_eq Nat.pow_succ'))),Nat.div_div_eq_div_mul,show 2*2^(k+1)=2^(k+1+1) from Nat.pow_succ'.symm,show m+1+(k+1)=m+(k+1+1) from Nat.add_right_comm m 1 (k+1)]
theorem GR (L:Nat):(2:Int)^L=((2^L:Nat):Int):=(Int.natCast_pow 2 L).symm
theorem WE {w:Int}{L:Nat}(h1:2^L≤w)(h2:w<2^(L+1)):Builtin.Int.intBits w=L+1:=by
 rw[GR] at h1 h2
 obtain⟨x,rfl⟩:=Int.eq_ofNat_of_zero_le (Int.le_trans (Int.natCast_nonneg _) h1)
 exact Nat.le_antisymm (intBits_le_iff.mpr (Int.ofNat_lt.mp h2)) (Nat.not_le.mp fun h=>absurd (intBits_le_iff.mp h) (Nat.not_lt.mpr (Int.ofNat_le.mp h1)))
theorem WF {w:Int}(h:1≤w):∃L,Builtin.Int.intBits w=L+1∧2^L≤w.toNat∧w.toNat<2^(L+1):=by
 obtain⟨x,rfl⟩:=Int.eq_ofNat_of_zero_le (Int.le_trans (by decide) h)
 cases e:Builtin.Int.intBits (x:Int) with
 | zero=>exact absurd (intBits_le_iff.mp (Nat.le_of_eq e)) (Nat.not_lt.mpr (Int.ofNat_le.mp h))
 | succ L=>exact⟨L,rfl,Nat.not_lt.mp fun z=>Nat.not_succ_le_self L (Nat.le_trans (Nat.le_of_eq e.symm) (intBits_le_iff.mpr z)),intBits_le_iff.mp (Nat.le_of_eq e)⟩
theorem Sn {v:Int}(h:4≤v):slot1 v=2*((Builtin.Int.intBits v:Int)-1)+(v/2^((Builtin.Int.intBits v:Int)-1-1).toNat)%2∧mx v=(Builtin.Int.intBits v:Int)-1-1∧3≤Builtin.Int.intBits v:=by
 obtain⟨L,e,h1,h2⟩:=WF (w:=v) (Int.le_trans (by decide) h)
 have hL:2≤L:=Nat.not_lt.mp fun n=>absurd h2 (Nat.not_lt.mpr (Nat.le_trans (Nat.pow_le_pow_right (by decide) n:2^(L+1)≤2^2) (Int.toNat_le_toNat h)))
 obtain⟨k,rfl⟩:∃k,L=k+2:=⟨L-2,(Nat.sub_add_cancel hL).symm⟩
 have s:=xP (k:=k) (m:=0) h1 h2
 unfold slot1 mx
 have t0:((k+2+1:Nat):Int)-1=((k+2:Nat):Int):=Int.add_sub_cancel ((k+2:Nat):Int) 1
 have t:((k+2:Nat):Int)-1=((k+1:Nat):Int):=Int.add_sub_cancel ((k+1:Nat):Int) 1
 have q:v/2^(k+1)%2=((v.toNat/2^(k+1)%2:Nat):Int):=by
  rw[show v=(v.toNat:Int) from(Int.toNat_of_nonneg (Int.le_trans (by decide) h)).symm,GR];rfl
 rw[s,e,t0,t,Int.toNat_natCast,q,Nat.zero_add]
 exact⟨rfl,rfl,Nat.le_add_left 3 k⟩
noncomputable def hV (w:Int):Int:=(Builtin.Int.intBits w:Int)-1
noncomputable def um (w:Int)(f:Int)(j:Int):Int:=if 2^(f+j).toNat≤w then f+j else f
inductive VR (w v:Int)(k:Nat):Prop
 | mk (f:Nat) (e:v=f) (a:(2:Int)^f≤w) (b:w<2^(f+k))
theorem VR.step {w v:Int}(k:Nat)(h:VR w v (k+k)):VR w (um w v k) k:=by
 obtain⟨f,rfl,a,b⟩:=h
 exact@dite _ ((2:Int)^(f+k)≤w) _ (fun h=>⟨f+k,if_pos h,h,Nat.add_assoc .. ▸b⟩) fun h=>⟨f,if_neg h,a,Int.not_le.mp h⟩
theorem ab2 {w:Int}(h1:1≤w)(h2:w<2^512):[256,128,64,32,16,8,4,2,1].foldl (um w) 0=hV w:=
 VR.casesOn (.step 1 (.step 2 (.step 4 (.step 8 (.step 16 (.step 32 (.step 64 (.step 128 (.step 256 ⟨0,rfl,h1,h2⟩)))))))):VR w ([256,128,64,32,16,8,4,2,1].foldl (um w) 0) 1) fun f e a b=>e.trans ((congrArg (fun n:Nat=>(n:Int)-1) (WE a b)).trans (Int.add_sub_cancel (f:Int) 1)).symm
noncomputable abbrev Gives (Z:Program)(G:Gd)(d:Nat)(f:Addr)(args:List AV)(H:AH)(v:AV):Prop:=∀(Q:AV→AH→Prop) (X:AH→Prop),(∀H',Sub H H'→Q v H')→aw Z G BA d f args H Q X
theorem Gives.deeper {Z G d d' f args H v}(h:Gives Z G d f args H v)(l:d≤d'):Gives Z G d' f args H v:=fun Q X q=>(h Q X q).deeper l
noncomputable abbrev pQ (v:Int):AV:= .tup [.int (slot1 v),.int (mx v)]
section
variable {Z:Program}{G:Gd}{p:Params}{d:Nat}{H H0 H1:AH}{X:AH→Prop}
theorem OY (c:Cx Z G p){l:List (Int×Int)}(hl:l.length≤1000):Gives Z G (d+2) 80 [.lst (l.map aH)] H (.int (l.map bh).sum):=by
 intro Q X hQ
 refine c.fn (PA p) rfl fun H0 cf hs _ _=>?_
 refine⟨by simpa using(by lia:l.length≤100000),fun H2 s2=>?_⟩
 refine cK (src:= .items (l.map aH)) (base:=[some (.lst (l.map aH))]) aH (fun s=>some (.int (bh s))) 1 (fun _ _=>trivial) (by lia) rfl (fun H3 h3 H4 h4=>?_) fun s w H3 K hm hw h3 k=>?_
 ·refine⟨_,(l.map bh).sum,rfl,?_,Nat.le_trans (List.length_filterMap_le ..) (by lia),hQ _ (((hs.trans s2).trans h3).trans h4)⟩
  have :∀l:List (Int×Int),fR (l.filterMap fun s=>some (AV.int (bh s)))=some (l.map bh).sum:=fun l=>by
   induction l with
   | nil=>rfl
   | cons s l ih=>simp only [List.filterMap_cons,fR,ih,Option.map_some,List.sum_cons,List.map_cons]
  exact this l
 ·obtain⟨a,rfl⟩:=jB hw
  exact⟨ltI rfl,c.call (PD p) (lQ c fun H4 h4=>k [_] H4 rfl (h3.trans h4))⟩
theorem ew (c:Cx Z G p){v:Int}(h0:0≤v)(h1:v<2^62):Gives Z G (d+1) 190 [.int v] H (pQ v):=by
 intro Q X hQ
 refine c.fn (PB p) rfl fun H0 cf hs _ _=>?_
 refine aO (fun h=>?_) fun h=>?_
 ·have e:pQ v= .tup [.int v,.int 0]:=by
   unfold pQ slot1 mx
   rw[sM (by lia)]
   simp;rw[Int.max_eq_left h0]
  have :=hQ _ hs
  rw[e] at this
  exact this
 ·obtain⟨e1,e2,e3⟩:=Sn (v:=v) (by lia)
  have e:pQ v= .tup [.int (2*((Builtin.Int.intBits v:Int)-1)+Builtin.bitAnd (v/2^((Builtin.Int.intBits v:Int)-1-1).toNat) 1),.int ((Builtin.Int.intBits v:Int)-1-1)]:=by
   unfold pQ
   rw[bitAnd_m1,e1,e2]
  have :=hQ _ hs
  rw[e] at this
  exact⟨rfl,ltI rfl,.inl ⟨by decide,by decide⟩,(by lia:0≤(Builtin.Int.intBits v:Int)-1-1),this⟩
theorem dH (c:Cx Z G p){v:Int}(h0:0≤v):Gives Z G (d+1) 541 [.int v] H (pQ v):=by
 intro Q X hQ
 refine c.fn (Ip p) rfl fun H0 cf hs _ _=>?_
 refine⟨ltI rfl,v.toNat+1,?_⟩
 refine gc (I:=fun n σ H1=>H1=H0∧∃a m:Nat,σ=[some (.int a),some (.int m)]∧a≤n∧i5 a m=i5 v.toNat 0) (fun n σ H1 K h k _=>?_) v.toNat _ _ ⟨rfl,v.toNat,0,by rw[show((v.toNat:Nat):Int)=v by lia];rfl,Nat.le_refl _,rfl⟩
 obtain⟨rfl,a,m,rfl,hn,e⟩:=h
 refine aO (fun h=>?_) fun h=>?_
 ·have h:¬a≤3:=by lia
  refine⟨by decide,by decide,rfl,ltI rfl,ltI rfl,rfl,?_⟩
  refine k (n-1) _ _ (by lia) ⟨rfl,a/2,m+1,?_,by lia,by rw[←e,pR h]⟩
  show[some (AV.int ((a:Int)/2)),some (AV.int ((m:Int)+1))]=_
  rw[show((a:Int)/2)=((a/2:Nat):Int) by lia];rfl
 ·have h:a≤3:=by lia
  rw[sM h] at e
  have :=hQ _ hs
  have e':pQ v= .tup [.int (2*(m:Int)+(a:Int)),.int (m:Int)]:=by
   unfold pQ slot1 mx
   rw[←e];simp
  rw[e'] at this
  exact⟨.inl ⟨by decide,by decide⟩,this⟩
end
theorem isI (n:Nat)(l:List Int):isData (n+1) (.lst (l.map .int))=true:=by
 show(l.map AV.int).all (isData n)=true
 rw[List.all_eq_true]
 intro x hx
 obtain⟨i,_,rfl⟩:=List.mem_map.mp hx
 cases n<;>rfl
theorem afI {a b:List Int}:a.map AV.int=b.map AV.int↔a=b:=⟨fun h=>(List.map_inj_right (fun x y e=>by cases e;rfl)).mp h,fun h=>by rw[h]⟩
theorem T8:∀{l:List Int},(∀x∈l,0≤x)→0≤l.sum
 | [],_=>by trivial
 | x::l,h=>by
  have a:=h x (.head _)
  have b:=T8 fun y hy=>h y (.tail _ hy)
  rw[List.sum_cons];lia
theorem rt {P A B:Prop}{r:Bool}(hr:r=true↔P)(h1:¬P→A)(h2:P→B):if(!r)=true then A else B:=by
 cases r with
 | true=>exact h2 (hr.mp rfl)
 | false=>exact h1 fun h=>by cases hr.mpr h
theorem eqB {P A B:Prop}{r:Bool}(hr:r=true↔P)(h1:P→A)(h2:¬P→B):if r=true then A else B:=by
 cases r with
 | true=>exact h1 (hr.mp rfl)
 | false=>exact h2 fun h=>by cases hr.mpr h
theorem Dq {P:Prop}[Decidable P]{A B:Prop}(h1:P→B)(h2:¬P→A):if decide P=false then A else B:=by
 by_cases h:P
 ·rw[if_neg (by simpa using h)];exact h1 h
 ·rw[if_pos (by simpa using h)];exact h2 h
theorem orN {P:Prop}[Decidable P]{A B:Prop}(h1:¬P→B)(h2:P→A):if(!decide P)=false then A else B:=by
 by_cases h:P
 ·rw[if_pos (by simpa using h)];exact h2 h
 ·rw[if_neg (by simpa using h)];exact h1 h
theorem ah3 {P A B:Prop}{r:Bool}(hr:r=true↔P)(h1:¬P→B)(h2:P→A):if(!r)=false then A else B:=by
 cases r with
 | true=>exact h2 (hr.mp rfl)
 | false=>exact h1 fun h=>by cases hr.mpr h
section
variable {Z:Program}{G:Gd}{p:Params}{d:Nat}{H H0 H1:AH}{X:AH→Prop}
theorem lP (c:Cx Z G p){n u:Int}(h0:0≤u)(h1:u≤1000000)(h2:-2^63<n)(h3:n<2^63):Gives Z G (d+1) 268 [.int n,.int u] H (.int (hV (n^u.toNat))):=by
 intro Q X hQ
 refine c.fn (Iv p) rfl fun H0 cf hs _ _=>?_
 exact⟨h0,h1,h2,h3,rfl,hQ _ hs⟩
theorem Ay (c:Cx Z G p){n u:Int}(h0:0≤u)(h1:u≤1000000)(h2:1≤n)(h3:n<2^63)(h4:n^u.toNat<2^512):Gives Z G (d+1) 548 [.int n,.int u] H (.int (hV (n^u.toNat))):=by
 intro Q X hQ
 refine c.fn (M5 p) rfl fun H0 cf hs _ _=>?_
 refine⟨h0,h1,by lia,h3,rfl,ltI rfl,ltI rfl,rfl,by decide,fun H2 s2=>?_⟩
 have h5:1≤n^u.toNat:=Int.pow_pos (by lia)
 refine forM (src:= .items ([256,128,64,32,16,8,4,2,1].map .int)) AV.int (fun r σ H1=>Sub H H1∧∃(f:Int) (j:Option AV),σ=[some (.int n),some (.int u),some (.int (n^u.toNat)),some (.int f),j]∧0≤f∧f+r.sum≤511∧(∀x∈r,0≤x)∧r.foldl (um (n^u.toNat)) f=hV (n^u.toNat))
  (fun _ _ _ _=>trivial) (fun σ H1 h H' s=>?_) (fun x r σ H1 K h k _ _=>?_) _ _ _ ⟨hs.trans s2,0,none,rfl,by decide,by decide,by decide,ab2 h5 h4⟩
 ·show let P:=_;P;intro P
  obtain⟨h1,f,j,rfl,_,_,_,e⟩:=h
  cases e
  exact hQ _ (h1.trans s)
 ·show let P:=_;P;intro P
  obtain⟨h1,f,j,rfl,a1,a2,a3,e⟩:=h
  have x0:=a3 x (.head _)
  have r0:0≤r.sum:=T8 fun y hy=>a3 y (.tail _ hy)
  rw[List.sum_cons] at a2
  rw[List.foldl_cons] at e
  refine⟨ltI rfl,by lia,by lia,by decide,by decide,?_⟩
  unfold um at e
  refine aO (fun z=>?_) fun z=>?_
  ·rw[if_pos (by simpa using z)] at e
   exact⟨ltI rfl,k _ _ ⟨h1,f+x,_,rfl,by lia,by lia,fun y hy=>a3 y (.tail _ hy),e⟩⟩
  ·rw[if_neg (by simpa using z)] at e
   exact k _ _ ⟨h1,f,_,rfl,by lia,by lia,fun y hy=>a3 y (.tail _ hy),e⟩
theorem wq {α:Type}{xs:List α}{a:Int}(h:0≤a):cU xs (some a) none=xs.drop a.toNat:=by
 unfold cU kms_lo kms_hi
 simp only [if_neg (show¬a<0 by lia)]
 by_cases l:a.toNat≤xs.length
 ·rw[Nat.min_eq_left l,List.take_of_length_le (by rw[List.length_drop];lia)]
 ·rw[Nat.min_eq_right (by lia),List.drop_length,List.drop_eq_nil_of_le (by lia)];simp
theorem SM {α:Type}{xs:List α}{a:Int}(h:0≤a):cU xs none (some a)=xs.take a.toNat:=by
 unfold cU kms_lo kms_hi
 simp only [if_neg (show¬a<0 by lia),List.drop_zero,Nat.sub_zero]
 by_cases l:a.toNat≤xs.length
 ·rw[Nat.min_eq_left l]
 ·rw[Nat.min_eq_right (by lia),List.take_length,List.take_of_length_le (by lia)]
theorem Mv {α:Type}{xs:List α}{a b:Int}(h:0≤a)(h':0≤b)(l:a.toNat≤xs.length):cU xs (some a) (some b)=(xs.drop a.toNat).take (b.toNat-a.toNat):=by
 unfold cU kms_lo kms_hi
 simp only [if_neg (show¬a<0 by lia),if_neg (show¬b<0 by lia)]
 rw[Nat.min_eq_left l]
 by_cases l2:b.toNat≤xs.length
 ·rw[Nat.min_eq_left l2]
 ·rw[Nat.min_eq_right (by lia),List.take_of_length_le (by rw[List.length_drop];lia),List.take_of_length_le (by rw[List.length_drop];lia)]
noncomputable abbrev xC (g:List Int)(k s n:Int):List AV:=[.lst (g.map .int),.int k,.int s,.int n]
structure G7 (g:List Int)(k:Int)(F:Nat)(s:Int):Prop where
 hg:g.length≤24
 k0:0≤k
 kF:k+F≤1000000
 s0:0≤s
 s1:s<2147483629
inductive aY (n:Int)(F:Nat)(H:AH)(b:Addr):Prop
 | mk (g:List Int) (k s:Int) (e:H b=some (.list (xC g k s n))) (r:G7 g k F s):aY n F H b
noncomputable def bw (b:Addr)(H H':AH):Prop:=∀a o,a≠b→o.kept=false→H a=some o→H' a=some o
theorem bw.trans {b:Addr}{H H' cb:AH}(x:bw b H H')(y:bw b H' cb):bw b H cb:=fun a o h k e=>y a o h k (x a o h k e)
theorem Sub.b {b:Addr}{H H':AH}(x:Sub H H'):bw b H H':=fun a o _ k e=>x a o k e
theorem bw.set {b:Addr}{H:AH}{o:AO}:bw b H (H.set b o):=fun a o' h _ e=>(AH.ae _ _ h).trans e
theorem aY.at {n:Int}{F:Nat}{H H':AH}{b:Addr}(h:aY n F H b)(s:∀o:AO,o.kept=false→H b=some o→H' b=some o):aY n F H' b:=h.casesOn fun g k s' e r=>⟨g,k,s',s _ rfl e,r⟩
theorem aY.sub {n:Int}{F:Nat}{H H':AH}{b:Addr}(h:aY n F H b)(s:Sub H H'):aY n F H' b:=h.at (s b)
theorem aY.le {n:Int}{F F':Nat}{H:AH}{b:Addr}(h:aY n F' H b)(l:F≤F'):aY n F H b:=h.casesOn fun g k s e r=>⟨g,k,s,e,r.hg,r.k0,Int.le_trans (Int.add_le_add_left (Int.ofNat_le.mpr l) k) r.kF,r.s0,r.s1⟩
theorem G7.take {g g':List Int}{k s:Int}{F:Nat}(r:G7 g k (F+1) s)(h:g'.length≤24):G7 g' (k+1) F s:=⟨h,Int.le_trans r.k0 (Int.le_add_of_nonneg_right (by decide)),by rw[Int.add_assoc,Int.add_comm 1];exact r.kF,r.s0,r.s1⟩
theorem Tu {x a k:Int}(h:0≤x)(ha:0≤a)(hk:0≤k):-2^63<x+a*k:=Int.lt_of_lt_of_le (by decide) (Int.add_nonneg h (Int.mul_nonneg ha hk))
theorem Tt {x a k:Int}(h:x<2147483647)(ha:0≤a)(hk:k≤1000000)(hb:2147483647+a*1000000≤2^63):x+a*k<2^63:=Int.lt_of_lt_of_le (Int.add_lt_add_of_lt_of_le h (Int.mul_le_mul_of_nonneg_left hk ha)) hb
theorem ay (c:Cx Z G p){n:Int}(m:Nat){F:Nat}{b:Addr}{Q:AV→AH→Prop}(hb:aY n (F+1) H b)(m1:0<m)(m2:m<2^30)
  (hQ:∀H' (x:Nat),x<m→bw b H H'→aY n F H' b→Q (.int x) H'):aw Z G BA (d+1) 522 [.ref b,.int m] H Q X:=by
 refine c.fn (Iq p) rfl fun H0 cf hs _ _=>?_
 refine(hb.sub hs).casesOn fun g k s e r=>?_
 have p1:(0:Int)<m:=Int.ofNat_lt.mpr m1
 have p2:(m:Int)<2^30:=Int.ofNat_lt.mpr m2
 refine .inl ⟨_,e,by decide,by decide,_,rfl,.inl ⟨_,e,by decide,(by decide:(1:Int)<4),by decide,?_⟩⟩
 have fin:∀(a:Int) H' g',bw b H H'→g'.length≤24→H' b=some (.list (xC g' (k+1) s n))→Q (.int (a%m)) H':=fun a H' g' sb hg e'=>by
  have h0:=Int.emod_nonneg a (Int.ne_of_gt p1)
  rw[←Int.toNat_of_nonneg h0]
  exact hQ _ _ ((Int.toNat_lt h0).mpr (Int.emod_lt_of_pos a p1)) sb ⟨g',k+1,s,e',r.take hg⟩
 show aU Z G BA d rg [some (.ref b),some (.int m),none,none,none] (H0.set b (.list (xC g (k+1) s n))) (d6 Q) X
 have si:bw b H (H0.set b (.list (xC g (k+1) s n))):=hs.b.trans .set
 have e1:(H0.set b (.list (xC g (k+1) s n))) b=some (.list (xC g (k+1) s n)):=AH.ag ..
 generalize H0.set b (.list (xC g (k+1) s n))=H1 at si e1
 refine .inl ⟨_,e1,by decide,by decide,_,rfl,.inl ⟨_,_,rfl,rfl,isI 7 g,rfl,fun t ht=>rt ht (fun z=>?_) fun z=>?_⟩⟩
 ·cases g with
  | nil=>exact absurd rfl z
  | cons g0 gs=>
   refine .inl ⟨_,e1,by decide,by decide,_,rfl,by decide,by decide,_,rfl,p1,ltI rfl,?_⟩
   refine .inl ⟨_,e1,by decide,by decide,_,rfl,by decide,by decide,_,rfl,p1,p2,ltI rfl,?_⟩
   have done:∀o:Bool,(List.replicate (if o=true then(1:Int) else 0).toNat [AV.int (g0/m)]).flatten.length≤1∧∃l:List Int,l.length≤1∧(List.replicate (if o=true then(1:Int) else 0).toNat [AV.int (g0/m)]).flatten=l.map .int:=fun o=>by
    cases o
    ·exact⟨Nat.zero_le _,[],Nat.zero_le _,rfl⟩
    ·exact⟨Nat.le_refl _,[g0/m],Nat.le_refl _,rfl⟩
   have small:∀o:Bool,([AV.int (g0/m)].length*(if o=true then(1:Int) else 0).toNat≤100000∧(if o=true then(1:Int) else 0)<2^63)∧ -2^63<(if o=true then(1:Int) else 0):=fun o=>by
    cases o
    ·exact⟨⟨Nat.zero_le 100000,by decide⟩,by decide⟩
    ·exact⟨⟨Nat.le_trans (Nat.le_refl 1) (by decide),by decide⟩,by decide⟩
   have sm:=small (decide (g0/m>0))
   obtain⟨d1,l,hl,el⟩:=done (decide (g0/m>0))
   have ro:cU ((g0::gs).map AV.int) (some 1) none=gs.map AV.int:=wq (by decide)
   have gl:gs.length+1≤24:=r.hg
   refine⟨sm.1.1,sm.1.2,sm.2,.inl ⟨_,e1,by decide,by decide,_,rfl,_,_,rfl,rfl,_,rfl,?_,?_⟩⟩
   ·rw[List.length_map];exact Nat.le_trans r.hg (by decide)
   ·rw[el,ro]
    refine⟨?_,.inl ⟨_,e1,by decide,(by decide:(0:Int)<4),by decide,fin g0 _ (l++gs) (si.trans .set) ?_ ?_⟩⟩
    ·rw[List.length_map,List.length_map];exact Nat.le_trans (Nat.add_le_add hl (Nat.le_of_succ_le gl)) (by decide)
    ·rw[List.length_append,Nat.add_comm];exact Nat.le_trans (Nat.add_le_add_left hl _) gl
    ·rw[AH.ag,←List.map_append];rfl
 ·have k1:0≤k+1:=(r.take r.hg).k0
  have k2:k+1≤1000000:=Int.le_trans (Int.le_add_of_nonneg_right (Int.natCast_nonneg F)) (r.take r.hg).kF
  refine .inl ⟨_,e1,by decide,by decide,_,rfl,.inl ⟨_,e1,by decide,by decide,_,rfl,.inl ⟨by decide,by decide⟩,by decide,by decide,Tu r.s0 (by decide) k1,Tt (Int.lt_trans r.s1 (by decide)) (by decide) k2 (by decide),by decide,ltI rfl,?_⟩⟩
  have x0:=Int.emod_nonneg ((s+40039*(k+1))^(5:Int).toNat) (b:=2147483647) (by decide)
  have x1:=Int.emod_lt_of_pos ((s+40039*(k+1))^(5:Int).toNat) (b:=2147483647) (by decide)
  generalize (s+40039*(k+1))^(5:Int).toNat%2147483647=x at x0 x1
  exact .inl ⟨_,e1,by decide,by decide,_,rfl,.inl ⟨by decide,by decide⟩,by decide,by decide,Tu x0 (by decide) k1,Tt x1 (by decide) k2 (by decide),by decide,ltI rfl,by decide,by decide,p1,fin _ _ g si r.hg e1⟩
theorem Li {w:Nat}{k:Src→AH→Prop}(h:w≤1000)(q:k (.items ((List.range w).map fun i:Nat=>AV.int (i:Int))) H):acQ (w:Int) (.uN 0 (w:Int)) H (Lp k):=by
 have hi:(w:Int)<2^61:=Int.lt_of_le_of_lt (Int.ofNat_le.mpr h) (by decide)
 refine⟨Int.lt_of_lt_of_le (by decide) (Int.natCast_nonneg w),Int.lt_trans hi (by decide),by decide,by decide,Int.lt_of_lt_of_le (by decide) (Int.natCast_nonneg w),hi,?_,?_⟩
 ·rw[Int.sub_zero];exact Nat.le_trans h (by decide)
 ·rw[Int.sub_zero,show(fun i:Nat=>AV.int (0+(i:Int)))=fun i:Nat=>AV.int (i:Int) from funext fun i=>congrArg AV.int (Int.zero_add _)];exact q
theorem adg {a:Nat}(h:a≤1000):(-2^62<(a:Int)∧(a:Int)<2^62)∧ -2^61<(a:Int)∧(a:Int)<2^61:=by
 have lo:=Int.natCast_nonneg a
 have hi:(a:Int)≤1000:=Int.ofNat_le.mpr h
 exact⟨⟨Int.lt_of_lt_of_le (by decide) lo,Int.lt_of_le_of_lt hi (by decide)⟩,Int.lt_of_lt_of_le (by decide) lo,Int.lt_of_le_of_lt hi (by decide)⟩
end
section
variable {Z:Program}{G:Gd}{p:Params}{d:Nat}{H H0 H1:AH}{X:AH→Prop}
theorem OI (c:Cx Z G p){sc:List Int}{Q:AV→AH→Prop}(hl:sc.length≤63)(hQ:∀H' b n,Sub H H'→aY n 1000 H' b→(n=14∨n=6)→Q (.ref b) H'):aw Z G BA (d+1) 515 [.lst (sc.map .int)] H Q X:=by
 refine c.fn (M4 p) rfl fun H0 cf hs _ _=>?_
 have ro:cU (sc.map AV.int) none (some 24)=(sc.take 24).map AV.int:=by rw[SM (by decide),List.map_take];rfl
 have hlen:(sc.map AV.int).length≤100000:=by rw[List.length_map];lia
 have XQ:(cU (sc.map AV.int) none (some 24)).length≤100000:=by rw[ro,List.length_map,List.length_take];lia
 refine⟨_,_,rfl,rfl,_,rfl,hlen,XQ,fun H2 s2=>?_⟩
 show dk (Src.items (cU (sc.map AV.int) none (some 24))) _ (cU (sc.map AV.int) none (some 24)) _ _ _ _
 rw[ro]
 refine cK (base:=[some (.lst (sc.map .int)),none,none,none]) AV.int (fun x:Int=>if(x.natAbs:Int)>10^18 then some (.int (x.natAbs-10^18)) else none) 1 (fun _ _=>trivial) (by rw[List.length_take];lia) rfl (fun H3 h3 H4 h4=>?_) fun x w H3 K hm hw h3 k=>?_
 ·have hg:∃g:List Int,(sc.take 24).filterMap (fun x:Int=>if(x.natAbs:Int)>10^18 then some (AV.int (x.natAbs-10^18)) else none)=g.map .int∧g.length≤24:=by
   refine⟨(sc.take 24).filterMap (fun x:Int=>if(x.natAbs:Int)>10^18 then some ((x.natAbs:Int)-10^18) else none),?_,Nat.le_trans (List.length_filterMap_le ..) (by rw[List.length_take];lia)⟩
   rw[List.map_filterMap]
   congr 1
   funext x
   split<;>rfl
  obtain⟨g,eg,hg⟩:=hg
  rw[eg]
  have s4:=((hs.trans s2).trans h3).trans h4
  refine⟨ltI rfl,ltI rfl,_,_,rfl,rfl,_,rfl,hlen,XQ,fun H5 s5=>?_⟩
  show gH (Src.items (cU (sc.map AV.int) none (some 24))) _ (cU (sc.map AV.int) none (some 24)) _ _ _
  rw[ro]
  refine forM (src:= .items _) AV.int (fun r σ H1=>Sub H H1∧∃(s:Int) (j:Option AV),σ=[some (.lst (sc.map .int)),some (.lst (g.map .int)),some (.int s),j]∧0≤s∧s<2147483629)
   (fun _ _ _ _=>trivial) (fun σ H1 h H' s=>?_) (fun x r σ H1 K h k _ _=>?_) _ _ _ ⟨s4.trans s5,60013,none,rfl,by decide,by decide⟩
  ·obtain⟨h1,s0,j,rfl,a1,a2⟩:=h
   have fin:∀n:Int,(n=14∨n=6)→∀a,H' a=none→Q (.ref a) (H'.set a (.list (xC g 0 s0 n))):=fun n hn a ha=>hQ _ _ _ ((h1.trans s).trans (Sub.ci ha)) ⟨g,0,s0,AH.ag ..,hg,by decide,by decide,a1,a2⟩ hn
   refine .inl ⟨_,_,rfl,rfl,isI 7 g,rfl,fun r hr=>ah3 hr (fun z=>fin 14 (.inl rfl)) fun z=>?_⟩
   exact⟨_,rfl,hlen,Dq (fun _=>fin 14 (.inl rfl)) fun _=>fin 6 (.inr rfl)⟩
  ·obtain⟨h1,s0,j,rfl,a1,a2⟩:=h
   exact⟨ltI rfl,.inr ⟨by decide,by decide⟩,by decide,ltI rfl,k _ _ ⟨h1,_,_,rfl,Int.emod_nonneg _ (by decide),Int.emod_lt_of_pos _ (by decide)⟩⟩
 ·obtain⟨a,rfl⟩:=jB hw
  refine⟨ltI rfl,by decide,by decide,by decide,by decide,aO (fun z=>?_) fun z=>?_⟩
  ·have k:=k [some (.int x)] H3 rfl h3
   rw[if_pos (by simpa using z)] at k
   exact⟨by decide,by decide,by decide,by decide,k⟩
  ·have k:=k [some (.int x)] H3 rfl h3
   rw[if_neg (by simpa using z)] at k
   exact k
end
noncomputable abbrev Dt:=List (Int×Int)
noncomputable def dA (l:Dt):List (Int×AV):=l.map fun p=>(p.1,.int p.2)
noncomputable def aB (l:Dt)(k:Int):Option Int:=(l.find? fun p=>p.1=k).map (·.2)
noncomputable def putD:Dt→Int→Int→Dt
 | [],k,v=>[(k,v)]
 | p::r,k,v=>if p.1=k then(k,v)::r else p::putD r k v
noncomputable def bump (l:Dt)(k n:Int):Dt:=putD l k ((aB l k).getD 0+n)
noncomputable def aI (ms:List Int):Dt:=ms.foldl (fun l m=>bump l m 1) []
theorem dS:∀(l:Dt) (k:Int),bo (dA l) k=(aB l k).map .int
 | [],k=>rfl
 | p::r,k=>by
  have ih:=dS r k
  unfold bo aB at *
  show Option.map (·.2) (List.find? (fun p=>decide (p.1=k)) ((p.1,AV.int p.2)::dA r))=_
  by_cases h:p.1=k
  ·simp [h]
  ·simpa [h] using ih
theorem ik:∀(l:Dt) (k v:Int),fQ (dA l) k (.int v)=dA (putD l k v)
 | [],k,v=>rfl
 | p::r,k,v=>by
  have ih:=ik r k v
  show(if p.1=k then(k,AV.int v)::dA r else(p.1,AV.int p.2)::fQ (dA r) k (.int v))=dA (if p.1=k then(k,v)::r else p::putD r k v)
  split
  ·rfl
  ·rw[ih];rfl
theorem fA (l:Dt)(k v:Int):(bo (dA l) k).getD (.int v)= .int ((aB l k).getD v):=by
 rw[dS];cases aB l k<;>rfl
theorem sB:∀(l:Dt) (k v j:Int),aB (putD l k v) j=if j=k then some v else aB l j
 | [],k,v,j=>by
  unfold aB putD
  by_cases h:j=k
  ·subst h;simp
  ·rw[if_neg h];simp [show¬k=j from fun e=>h e.symm]
 | p::r,k,v,j=>by
  have ih:=sB r k v j
  unfold putD
  by_cases e:p.1=k
  ·rw[if_pos e]
   unfold aB
   by_cases h:j=k
   ·subst h;simp
   ·simp [List.find?_cons,show¬k=j from fun z=>h z.symm,show¬p.1=j from fun z=>h (z.symm.trans e),h]
  ·rw[if_neg e]
   unfold aB at ih ⊢
   by_cases h:p.1=j
   ·have :¬j=k:=fun z=>e (h.trans z)
    simp [List.find?_cons,h,this]
   ·simpa [List.find?_cons,h] using ih
theorem Nd (l:Dt)(k n j:Int):aB (bump l k n) j=if j=k then some ((aB l k).getD 0+n) else aB l j:=sB ..
noncomputable def aM (l:Dt):List Int:=l.map (·.1)
theorem Ng:∀(l:Dt) (k v x:Int),x∈aM (putD l k v)↔x=k∨x∈aM l
 | [],k,v,x=>by simp [putD,aM]
 | p::r,k,v,x=>by
  have ih:=Ng r k v x
  unfold putD
  unfold aM at *
  split
  ·rename_i e;subst e;simp
  ·simp only [List.map_cons,List.mem_cons,ih]
   constructor<;>(intro h;rcases h with h | h | h<;>simp [h])
theorem ic:∀(l:Dt) (k v:Int),(aM l).Nodup→(aM (putD l k v)).Nodup
 | [],k,v,_=>by simp [putD,aM]
 | p::r,k,v,h=>by
  have h':p.1∉aM r∧(aM r).Nodup:=by unfold aM at *;simpa using h
  unfold putD
  split
  ·rename_i e;subst e;exact h
  ·rename_i e
   show(p.1::aM (putD r k v)).Nodup
   rw[List.nodup_cons]
   refine⟨fun z=>?_,ic r k v h'.2⟩
   rcases(Ng r k v p.1).mp z with z | z
   ·exact e z
   ·exact h'.1 z
theorem hU:∀(l:Dt) (k v:Int),(putD l k v).length≤l.length+1
 | [],k,v=>by simp [putD]
 | p::r,k,v=>by
  unfold putD
  split
  ·simp
  ·have :=hU r k v;simp;lia
theorem hZ:∀{l:Dt} {p:Int×Int},(aM l).Nodup→p∈l→aB l p.1=some p.2
 | q::r,p,h,hp=>by
  have h':q.1∉aM r∧(aM r).Nodup:=by unfold aM at *;simpa using h
  unfold aB
  rcases List.mem_cons.mp hp with rfl | hp
  ·simp
  ·have :¬q.1=p.1:=fun e=>h'.1 (e▸List.mem_map_of_mem hp)
   have ih:=hZ h'.2 hp
   unfold aB at ih
   simpa [List.find?_cons,this] using ih
theorem ac6 {l:Dt}{k v:Int}(h:aB l k=some v):(k,v)∈l:=by
 unfold aB at h
 rw[Option.map_eq_some_iff] at h
 obtain⟨⟨a,b⟩,h,rfl⟩:=h
 have :=List.find?_some h
 simp at this
 subst this
 exact List.mem_of_find?_eq_some h
theorem iz {l:Dt}{k:Int}:aB l k=none↔k∉aM l:=by
 unfold aB aM
 rw[Option.map_eq_none_iff,List.find?_eq_none]
 constructor
 ·intro h z
  obtain⟨p,hp,rfl⟩:=List.mem_map.mp z
  exact h p hp (by simp)
 ·intro h p hp e
  exact h (List.mem_map.mpr ⟨p,hp,by simpa using e⟩)
noncomputable def br (ms:List Int)(k:Int):Int:=(ms.countP (· =k):Nat)
theorem lU (m:Int)(ms:List Int)(k:Int):br (m::ms) k=(if m=k then 1 else 0)+br ms k:=by
 unfold br
 rw[List.countP_cons]
 split<;>simp_all<;>lia
theorem gY (ms:List Int)(k:Int):0≤br ms k:=Int.natCast_nonneg _
noncomputable def Tells (d:Dt)(f:Int→Int):Prop:=(aM d).Nodup∧∀k,(f k=0→aB d k=none)∧(f k≠0→aB d k=some (f k))
theorem Tells.nil:Tells [] fun _=>0:=⟨List.nodup_nil,fun _=>⟨fun _=>rfl,fun h=>absurd rfl h⟩⟩
theorem Tells.get {d:Dt}{f:Int→Int}(h:Tells d f)(k:Int):(aB d k).getD 0=f k:=by
 by_cases e:f k=0
 ·rw[(h.2 k).1 e,e];rfl
 ·rw[(h.2 k).2 e];rfl
theorem Tells.congr {d:Dt}{f g:Int→Int}(h:Tells d f)(e:∀k,f k=g k):Tells d g:=⟨h.1,fun k=>by rw[←e k];exact h.2 k⟩
theorem Tells.bump {d:Dt}{f g:Int→Int}(h:Tells d f)(k n:Int)(hn:0<n)(hf:∀k,0≤f k)(e1:g k=f k+n)(e2:∀j,j≠k→g j=f j):Tells (bump d k n) g:=
 ⟨ic _ _ _ h.1,fun j=>by
  rw[Nd,h.get]
  by_cases e:j=k
  ·subst e
   have :=hf j
   rw[if_pos rfl,e1]
   exact⟨fun z=>by lia,fun _=>rfl⟩
  ·rw[if_neg e,e2 j e];exact h.2 j⟩
theorem VC (ms:List Int):∀(d:Dt) (f:Int→Int),Tells d f→(∀k,0≤f k)→Tells (ms.foldl (fun l m=>bump l m 1) d) fun k=>f k+br ms k:=by
 induction ms with
 | nil=>intro d f h hf;exact h.congr fun k=>by simp [br]
 | cons m ms ih=>
  intro d f h hf
  refine(ih (Mine.bump d m 1) (fun k=>f k+if m=k then 1 else 0) (h.bump m 1 (by decide) hf (by simp) fun j hj=>by simp [Ne.symm hj]) (fun k=>?_)).congr fun k=>?_
  ·have :=hf k;show 0≤f k+_;split<;>lia
  ·show f k+_+br ms k=f k+br (m::ms) k
   rw[lU];lia
theorem bX (ms:List Int):Tells (aI ms) (br ms):=by
 exact(VC ms [] _ Tells.nil fun _=>Int.le_refl 0).congr fun k=>Int.zero_add _
theorem dh (ms:List Int):(aI ms).length≤ms.length:=by
 have :∀(ms:List Int) (d:Dt),(ms.foldl (fun l m=>bump l m 1) d).length≤d.length+ms.length:=fun ms=>by
  induction ms with
  | nil=>intro d;simp
  | cons m ms ih=>
   intro d
   have a:=ih (bump d m 1)
   have b:(bump d m 1).length≤d.length+1:=hU ..
   rw[List.foldl_cons,List.length_cons];lia
 have :=this ms []
 simpa [aI] using this
theorem Sub.new {H H0:AH}{a:Addr}{o:AO}(hs:Sub H H0)(ha:H0 a=none)(k:o.kept=false):H a≠some o:=fun e=>by rw[hs a o k e] at ha;cases ha
theorem Sub.O9 {H H0 H':AH}{a:Addr}(h:Sub H H')(hs:Sub H H0)(ha:H0 a=none):Sub H (H'.drop a):=fun b o k q=>by
 have z:b≠a:=fun z=>by subst z;exact hs.new ha k q
 show(if b=a then none else H' b)=some o
 rw[if_neg z];exact h b o k q
theorem Sub.Oa {H H0 H':AH}{a:Addr}{o:AO}(h:Sub H H')(hs:Sub H H0)(ha:H0 a=none):Sub H (H'.set a o):=fun b o' k q=>by
 have z:b≠a:=fun z=>by subst z;exact hs.new ha k q
 rw[AH.ae _ _ z];exact h b o' k q
theorem bw.O9 {c:Addr}{H H0 H':AH}{a:Addr}(h:bw c H H')(hs:Sub H H0)(ha:H0 a=none):bw c H (H'.drop a):=fun b o n k q=>by
 have z:b≠a:=fun z=>by subst z;exact hs.new ha k q
 show(if b=a then none else H' b)=some o
 rw[if_neg z];exact h b o n k q
theorem bw.Oa {c:Addr}{H H0 H':AH}{a:Addr}{o:AO}(h:bw c H H')(hs:Sub H H0)(ha:H0 a=none):bw c H (H'.set a o):=fun b o' n k q=>by
 have z:b≠a:=fun z=>by subst z;exact hs.new ha k q
 rw[AH.ae _ _ z];exact h b o' n k q
section
variable {Z:Program}{G:Gd}{p:Params}{d:Nat}{H H0 H1:AH}{X:AH→Prop}
theorem fx (c:Cx Z G p){ms:List Int}(hl:ms.length≤1000):Gives Z G (d+1) 555 [.lst (ms.map .int)] H (.dC (dA (aI ms))):=by
 intro Q X hQ
 refine aw.fz c.ok (c.fn (Fe p) rfl fun H0 cf hs _ _=>?_)
 intro a ha
 refine⟨ltI rfl,by simpa using(by lia:ms.length≤100000),fun H2 s2=>?_⟩
 refine forM (src:= .items _) AV.int (fun r σ H1=>Sub H H1∧∃(dd:Dt) (j:Option AV),H1 a=some (.dict (dA dd))∧σ=[some (.lst (ms.map .int)),some (.ref a),j]∧r.foldl (fun l m=>bump l m 1) dd=aI ms∧dd.length+r.length≤1000)
  (fun _ _ _ _=>trivial) (fun σ H1 h H' s=>?_) (fun x r σ H1 K h k _ _=>?_) _ _ _ ⟨(hs.Oa hs ha).trans s2,[],none,s2 _ _ rfl (AH.ag ..),rfl,rfl,by simpa using hl⟩
 ·show let P:=_;P;intro P
  obtain⟨h1,dd,j,e,rfl,t,_⟩:=h
  cases t
  exact⟨_,_,.dict (s _ _ rfl e),hQ _ ((h1.trans s).O9 hs ha)⟩
 ·show let P:=_;P;intro P
  obtain⟨h1,dd,j,e,rfl,t,l⟩:=h
  replace l:=(List.length_cons)▸l
  refine⟨ltI rfl,.inr (.inr ⟨_,e,rfl,_,e,?_⟩)⟩
  rw[fA]
  refine .inr ⟨_,e,by rw[dA,List.length_map];lia,?_⟩
  rw[ik]
  refine k _ _ ⟨h1.Oa hs ha,bump dd x 1,_,AH.ag ..,rfl,t,?_⟩
  have :(bump dd x 1).length≤dd.length+1:=hU ..
  lia
theorem ZM {n:Nat}:(List.range (((n:Int)-0)).toNat).map (fun i:Nat=>AV.int (0+(i:Int)))=(List.range n).map fun i:Nat=>AV.int (i:Int):=by
 congr 1
 funext i
 rw[Int.zero_add]
theorem ace (x:Nat):-2^62<(x:Int):=Int.lt_of_lt_of_le (by decide) (Int.natCast_nonneg x)
theorem qi {m n:Nat}{b:Int}(h:m≤n)(q:(n:Int)<b):(m:Int)<b:=Int.lt_of_le_of_lt (Int.ofNat_le.mpr h) q
theorem zE {x:Nat}{a b e:Int}{Q:AV→AH→Prop}(h:x<3)(q:∀v:Int,(v=a∨v=b∨v=e)→Q (.int v) H):itR [.int a,.int b,.int e] x H Q:=
 ((by decide:∀x<3,x=0∨x=1∨x=2) x h).elim (fun z=>z▸⟨by decide,by decide,_,rfl,q a (.inl rfl)⟩) fun z=>z.elim (fun z=>z▸⟨by decide,by decide,_,rfl,q b (.inr (.inl rfl))⟩) fun z=>z▸⟨by decide,by decide,_,rfl,q e (.inr (.inr rfl))⟩
noncomputable def D3 (l:List Int):Prop:=∀x∈l,0≤x∧x≤255
theorem D3.app {f g:List Int}(a:D3 f)(b:D3 g):D3 (f++g):=fun x h=>(List.mem_append.mp h).elim (a x) (b x)
noncomputable def Ec:List Nat→Nat→Nat
 | [],F=>F
 | _::r,F=>Ec r F+20
theorem SJ (F:Nat):∀r:List Nat,Ec r F≤F+20*r.length
 | []=>Nat.le_refl _
 | _::r=>Nat.add_le_add_right (SJ F r) 20
theorem SK {F B m:Nat}(h:20*m≤B):Ec (List.range m) F≤F+B:=Nat.le_trans (SJ F _) (Nat.add_le_add_left (Nat.le_trans (Nat.mul_le_mul_left 20 (Nat.le_of_eq List.length_range)) h) F)
noncomputable def Vv (b:Addr)(L:Nat)(f:List Int)(t1 t2:Option AV):Sg:=[some (.ref b),some (.int L),some (.lst (f.map .int)),t1,t2]
inductive TX (n:Int)(F:Nat)(b:Addr)(L:Nat)(H:AH)(r:List Nat):Sg→AH→Prop
 | mk (H4:AH) (f:List Int) (t1 t2:Option AV) (s:bw b H H4) (hb:aY n (Ec r F) H4 b) (hf:f.length+7*r.length≤40) (ho:D3 f) (az:f=[]→r≠[]):TX n F b L H r (Vv b L f t1 t2) H4
inductive PX (n:Int)(F:Nat)(b:Addr)(σ:Sg)(w:Nat)(H:AH)(r:List Nat)(acc:List AV):Sg→AH→Prop
 | mk (H4:AH) (g:List Int) (t:Option AV) (s:bw b H H4) (hb:aY n (F+r.length) H4 b) (ha:acc=g.map .int) (hg:g.length+r.length=w) (ho:D3 g):PX n F b σ w H r acc (σ++[t]) H4
theorem room {a g r:Nat}(h:a+7*(r+1)≤40)(hg:g≤7):a+g+7*r≤40:=Nat.le_trans (by rw[Nat.add_assoc,Nat.add_comm g];exact Nat.add_le_add_left (Nat.add_le_add_left hg (7*r)) a) h
theorem VB {f:List Int}{n:Int}(hn:n=14∨n=6)(h:f≠[]):1≤(f.take n.toNat).length∧(f.take n.toNat).length≤14∧0≤n:=by
 cases f with
 | nil=>exact absurd rfl h
 | cons a l=>rcases hn with rfl | rfl<;>exact⟨Nat.succ_le_succ (Nat.zero_le _),Nat.le_trans (List.length_take_le ..) (by decide),by decide⟩
theorem VE (c:Cx Z G p){n:Int}{F L:Nat}{b:Addr}{f:List Int}{t1 t2:Option AV}{K:Fl→Sg→AH→Prop}(hb:aY n (F+6) H b)(Ic:0<L)(hL:L≤3)(hf:f.length≤40)
  (k:∀H' (g:List Int),bw b H H'→aY n F H' b→g.length≤7→D3 g→g≠[]→K .next (Vv b L (f++g) t1 t2) H'):aU Z G BA (d+1) iW (Vv b L f t1 t2) H K ur:=by
 refine c.call (aX p) (ay c 4 hb (by decide) (by decide) fun H6 x6 h6 s6 b6=>?_)
 refine Li (w:=1+x6) (Nat.le_trans (Nat.add_le_add_left (Nat.le_of_lt h6) 1) (by decide)) fun H7 s7=>?_
 refine O6 (src:= .items _) (fun i:Nat=>AV.int (i:Int)) (PX n F b (Vv b L f t1 t2) (1+x6) H) (fun _ _ _ _ _=>trivial) (fun acc σ H8 h=>PX.casesOn h fun H8 g t s hb ha hg ho=>?_) (fun j r acc σ H8 K8 h k8=>PX.casesOn h fun H8 g t s hb ha hg ho=>?_) _ _ _ _ ⟨_,[],none,s6.trans s7.b,(b6.sub s7).le (Nat.add_le_add_left (List.length_range▸Nat.add_le_add_left (Nat.le_of_lt h6) 1) F),rfl,(Nat.zero_add _).trans List.length_range,fun _ h=>absurd h List.not_mem_nil⟩
 ·subst ha
  have g5:g.length≤5:=Nat.le_trans (Nat.le_of_eq hg) (Nat.add_le_add_left (Nat.le_of_lt h6) 1)
  refine⟨by rw[List.length_map];exact Nat.le_trans g5 (by decide),fun H9 s9=>⟨by rw[List.length_map,List.length_map];exact Nat.le_trans (Nat.add_le_add hf g5) (by decide),ltI rfl,?_⟩⟩
  rw[←List.map_append]
  exact k _ g (s.trans s9.b) (hb.sub s9) (Nat.le_trans g5 (by decide)) ho fun z=>by rw[z,List.length_nil] at hg;exact Nat.ne_of_gt (Nat.add_comm 1 x6▸Nat.succ_pos x6) hg.symm
 ·subst ha
  refine⟨ltI rfl,c.call (aX p) (ay c L (F:=F+r.length) hb Ic (Nat.lt_of_le_of_lt hL (by decide)) fun H9 x9 h9 s9 b9=>zE (Nat.lt_of_lt_of_le h9 hL) fun v hv=>k8 _ _ _ ⟨_,g++[v],_,s.trans s9,b9,by rw[List.map_append];rfl,?_,ho.app ?_⟩)⟩
  ·rw[List.length_append,Nat.add_assoc,Nat.add_comm [v].length];exact hg
  ·intro x hx
   rw[List.mem_singleton.mp hx]
   rcases hv with rfl | rfl | rfl<;>decide
theorem Mi (c:Cx Z G p){n:Int}{F:Nat}{b:Addr}{Q:AV→AH→Prop}(hb:aY n (F+100) H b)(hn:n=14∨n=6)
  (hQ:∀H' tx,bw b H H'→aY n F H' b→1≤tx.length→tx.length≤14→D3 tx→Q (.bytes tx) H'):aw Z G BA (d+2) 527 [.ref b] H Q X:=by
 refine c.fn (Ir p) rfl fun H0 cf hs _ _=>?_
 refine c.call (aX p) (ay c 3 (hb.sub hs) (by decide) (by decide) fun H1 x1 h1 s1 b1=>?_)
 refine⟨rfl,ltI rfl,ltI rfl,rfl,?_⟩
 refine c.call (aX p) (ay c 3 b1 (by decide) (by decide) fun H2 x2 h2 s2 b2=>?_)
 have l2:2+x2≤4:=Nat.add_le_add_left (Nat.le_of_lt_succ h2) 2
 have hL:1+x1≤3:=Nat.add_le_add_left (Nat.le_of_lt_succ h1) 1
 have Ic:0<1+x1:=Nat.lt_of_lt_of_le (by decide) (Nat.le_add_right 1 x1)
 refine Li (w:=2+x2) (Nat.le_trans l2 (by decide)) fun H3 s3=>?_
 refine forM (src:= .items _) (fun i:Nat=>AV.int (i:Int)) (TX n F b (1+x1) H) (fun _ _ _ _=>trivial) (fun σ H4 h=>TX.casesOn h fun H4 f t1 t2 s hb hf ho az H5 s5=>?_) (fun i r σ H4 K h k _ _=>TX.casesOn h fun H4 f t1 t2 s hb hf ho az=>?_) _ _ _
  ⟨_,[],none,none,((hs.b.trans s1).trans s2).trans s3.b,(b2.sub s3).le (SK (Nat.le_trans (Nat.mul_le_mul_left 20 l2) (by decide))),by rw[List.length_range];exact Nat.le_trans (Nat.le_of_eq (Nat.zero_add _)) (Nat.le_trans (Nat.mul_le_mul_left 7 l2) (by decide)),fun _ h=>absurd h List.not_mem_nil,fun _ z=>by have :=congrArg List.length z;rw[List.length_range,Nat.add_comm] at this;cases this⟩
 ·have tl:=VB hn fun z=>az z rfl
  have XR:(f.map AV.int).length≤100000:=by rw[List.length_map];exact Nat.le_trans hf (by decide)
  have ro:cU (f.map AV.int) none (some n)=(f.take n.toNat).map .int:=by rw[SM tl.2.2,List.map_take]
  have ot:D3 (f.take n.toNat):=fun x hx=>ho x (List.mem_of_mem_take hx)
  exact(hb.sub s5).casesOn fun g k s' e r=>.inl ⟨_,e,by decide,by decide,_,rfl,_,_,rfl,rfl,_,rfl,XR,f.take n.toNat,ro.symm,fun x hx=>⟨(ot x hx).1,Int.lt_of_le_of_lt (ot x hx).2 (by decide)⟩,Nat.le_trans tl.2.1 (by decide),hQ _ _ (s.trans s5.b) ⟨g,k,s',e,r⟩ tl.1 tl.2.1 ot⟩
 ·have f40:f.length≤40:=Nat.le_trans (Nat.le_add_right _ _) hf
  have XR:(f.map AV.int).length≤100000:=by rw[List.length_map];exact Nat.le_trans f40 (by decide)
  have next:∀(H5:AH) (g:List Int) (t1 t2:Option AV),bw b H H5→aY n (Ec r F) H5 b→g.length≤7→D3 g→f++g≠[]→K .next (Vv b (1+x1) (f++g) t1 t2) H5:=fun H5 g t1 t2 s5 b5 hg hgo hn=>k _ _ ⟨_,f++g,t1,t2,s5,b5,by rw[List.length_append];exact room hf hg,ho.app hgo,fun z=>absurd z hn⟩
  have ZF:∀(H5:AH) (t2:Option AV),bw b H H5→aY n (Ec r F+6) H5 b→aU Z G BA (d+1) iW (Vv b (1+x1) f (some (.int (i:Int))) t2) H5 K ur:=fun H5 t2 s5 b5=>VE c b5 Ic hL f40 fun H6 g s6 b6 hg ho az=>next _ _ _ _ (s5.trans s6) b6 hg ho fun z=>az (List.append_eq_nil_iff.mp z).2
  refine⟨ltI rfl,.inl ⟨_,_,rfl,rfl,isI 7 f,rfl,fun r' hr=>rt hr (fun z=>?_) fun z=>ZF _ _ s (hb.le (Nat.add_le_add_left (by decide) _))⟩⟩
  refine c.call (aX p) (ay c 3 (F:=Ec r F+19) hb (by decide) (by decide) fun H5 x5 h5 s5 b5=>aO (fun y=>?_) fun y=>ZF _ _ (s.trans s5) (b5.le (Nat.add_le_add_left (by decide) _)))
  refine⟨_,rfl,XR,c.call (aX p) (ay c (f.map AV.int).length b5 (List.length_pos_iff.mpr z) (Nat.lt_of_le_of_lt XR (by decide)) fun H6 x6 h6 s6 b6=>?_)⟩
  refine⟨ltI rfl,c.call (aX p) (ay c 6 b6 (by decide) (by decide) fun H7 x7 h7 s7 b7=>?_)⟩
  have ro:cU (f.map AV.int) (some (x6:Int)) (some ((x6:Int)+2+x7))=((f.drop x6).take (x6+2+x7-x6)).map .int:=(Mv (b:=(x6:Int)+2+x7) (Int.natCast_nonneg x6) (Int.natCast_nonneg (x6+2+x7)) (Nat.le_of_lt h6)).trans (by rw[List.map_take,List.map_drop];rfl)
  have nZ:((f.drop x6).take (x6+2+x7-x6)).length≤7:=Nat.le_trans (List.length_take_le ..) (by rw[Nat.add_assoc,Nat.add_sub_cancel_left];exact Nat.add_le_add_left (Nat.le_of_lt_succ h7) 2)
  refine⟨_,_,rfl,rfl,_,rfl,XR,by rw[ro,List.length_map,List.length_map];exact Nat.le_trans (Nat.add_le_add f40 nZ) (by decide),ltI rfl,?_⟩
  rw[ro,←List.map_append]
  exact next _ _ _ _ (((s.trans s5).trans s6).trans s7) (b7.le (Nat.le_add_right _ _)) nZ (fun x hx=>ho x (List.mem_of_mem_drop (List.mem_of_mem_take hx))) fun z'=>z (by rw[(List.append_eq_nil_iff.mp z').1];rfl)
end
theorem qp {x a b e:Nat}{H:AH}{Q:AV→AH→Prop}(h:x<3)(q:∀v:Nat,(v=a∨v=b∨v=e)→Q (.int (v:Int)) H):itR [.int (a:Int),.int (b:Int),.int (e:Int)] x H Q:=
 zE h fun v hv=>hv.elim (fun z=>z▸q a (.inl rfl)) fun z=>z.elim (fun z=>z▸q b (.inr (.inl rfl))) fun z=>z▸q e (.inr (.inr rfl))
noncomputable def T6 (s:Int×Int):Prop:=cQ s∧s.1≤400∧s.2≤70000
noncomputable def stD (b a:Addr)(t1 t2:Option AV):Sg:=[some (.ref b),some (.ref a),t1,t2]
inductive DX (n:Int)(F:Nat)(b a:Addr)(m:Nat)(H:AH)(r:List Nat):Sg→AH→Prop
 | mk (H4:AH) (l:List (Int×Int)) (t1 t2:Option AV) (s:bw b H H4) (e:H4 a=some (.list (l.map aH))) (hb:aY n (Ec r F) H4 b) (hl:l.length+r.length=m) (ho:∀s∈l,T6 s):DX n F b a m H r (stD b a t1 t2) H4
section
variable {Z:Program}{G:Gd}{p:Params}{d:Nat}{H H0 H1:AH}{X:AH→Prop}
theorem Hy (c:Cx Z G p){n:Int}{F:Nat}{b:Addr}{Q:AV→AH→Prop}(hb:aY n (F+200) H b)(hn:n=14∨n=6)
  (hQ:∀(H':AH) (l:List (Int×Int)),bw b H H'→aY n F H' b→2≤l.length→l.length≤8→(∀s∈l,T6 s)→Q (.lst (l.map aH)) H'):aw Z G BA (d+2) 534 [.ref b] H Q X:=by
 refine aw.fz c.ok (c.fn (Fb p) rfl fun H0 cf hs _ _=>?_)
 intro a ha
 have XC:b≠a:=(hb.sub hs).casesOn fun g k s e _=>(aA e ha).symm
 have XB:aY n (F+200) (H0.set a (.list [])) b:=(hb.sub hs).at fun o _ e=>(AH.ae _ _ XC).trans e
 obtain⟨h,eh,h0,h7⟩:∃h:Nat,n/2=h∧0<h∧h≤7:=hn.elim (fun z=>⟨7,z▸rfl,by decide,by decide⟩) fun z=>⟨3,z▸rfl,by decide,by decide⟩
 refine XB.casesOn fun g k0 s e r=>⟨ltI rfl,.inl ⟨_,e,by decide,by decide,_,rfl,by decide,by decide,?_⟩⟩
 rw[eh]
 refine c.call (aX p) (ay c h XB h0 (Nat.lt_of_le_of_lt h7 (by decide)) fun H1 x1 hx1 s1 b1=>?_)
 have m8:2+x1≤8:=Nat.add_le_add_left (Nat.le_of_lt_succ (Nat.lt_of_lt_of_le hx1 h7)) 2
 refine Li (w:=2+x1) (Nat.le_trans m8 (by decide)) fun H3 s3=>?_
 have WA:H1 a=some (.list []):=s1 _ _ (Ne.symm XC) rfl (AH.ag ..)
 refine forM (src:= .items _) (fun i:Nat=>AV.int (i:Int)) (DX n F b a (2+x1) H) (fun _ _ _ _=>trivial) (fun σ H4 h=>DX.casesOn h fun H4 l t1 t2 s e hb hl ho H5 s5=>?_) (fun i r σ H4 K h k _ _=>DX.casesOn h fun H4 l t1 t2 s e hb hl ho=>?_) _ _ _
  ⟨_,[],none,none,((hs.b.Oa hs ha).trans s1).trans s3.b,s3 _ _ rfl WA,(b1.sub s3).le (SK (Nat.le_trans (Nat.mul_le_mul_left 20 m8) (by decide))),(Nat.zero_add _).trans List.length_range,fun _ h=>absurd h List.not_mem_nil⟩
 ·exact⟨_,_,.list (s5 _ _ rfl e),hQ _ l ((s.trans s5.b).O9 hs ha) ((hb.sub s5).at fun o _ e=>(if_neg XC).trans e) (Nat.le_trans (Nat.le_add_right 2 x1) (Nat.le_of_eq hl.symm)) (Nat.le_trans (Nat.le_of_eq hl) m8) ho⟩
 ·have hll:(l.map aH).length≤100000:=by rw[List.length_map];exact Nat.le_trans (Nat.le_add_right _ _) (Nat.le_trans (Nat.le_of_eq hl) (Nat.le_trans m8 (by decide)))
  have fin:∀(H5:AH) (st:Int×Int) (t:Option AV),bw b H H5→H5 a=some (.list (l.map aH))→aY n (Ec r F) H5 b→T6 st→K .next (stD b a (some (.int (i:Int))) t) (H5.set a (.list (l.map aH++[aH st]))):=fun H5 st t h5 hl5 hb5 iv=>
   k _ _ ⟨_,l++[st],_,_,h5.Oa hs ha,by rw[AH.ag,List.map_append];rfl,hb5.at fun o _ e=>(AH.ae _ _ XC).trans e,by rw[List.length_append,Nat.add_assoc,Nat.add_comm [st].length];exact hl,fun s hs'=>(List.mem_append.mp hs').elim (ho s) fun h=>List.mem_singleton.mp h▸iv⟩
  have keep:∀{H5 H6:AH},bw b H5 H6→H5 a=some (.list (l.map aH))→H6 a=some (.list (l.map aH)):=fun s e=>s _ _ (Ne.symm XC) rfl e
  refine⟨ltI rfl,c.call (aX p) (ay c 2 (F:=Ec r F+19) hb (by decide) (by decide) fun H5 x5 h5 s5 b5=>aO (fun y=>?_) fun y=>?_)⟩
  ·have l5:=keep s5 e
   refine .inr (.inl ⟨_,l5,rfl,c.call (aX p) (ay c 3 b5 (by decide) (by decide) fun H6 x6 h6 s6 b6=>zE h6 fun v hv=>⟨_,keep s6 l5,hll,fin H6 (0,v) _ ((s.trans s5).trans s6) (keep s6 l5) (b6.le (Nat.le_add_right _ _)) ?_⟩)⟩)
   rcases hv with rfl | rfl | rfl<;>exact⟨.inl ⟨rfl,by decide,by decide⟩,(by decide:(0:Int)≤400),by decide⟩
  ·have l5:=keep s5 e
   refine c.call (aX p) (ay c 3 b5 (by decide) (by decide) fun H6 x6 h6 s6 b6=>qp (a:=3) (b:=9) (e:=300) h6 fun v hv=>?_)
   have v0:0<v∧v≤300:=by rcases hv with rfl | rfl | rfl<;>decide
   refine c.call (aX p) (ay c v b6 v0.1 (Nat.lt_of_le_of_lt v0.2 (by decide)) fun H7 x7 h7 s7 b7=>?_)
   have l7:=keep s7 (keep s6 l5)
   refine⟨ltI rfl,.inr (.inl ⟨_,l7,rfl,?_⟩)⟩
   refine c.call (aX p) (ay c 3 b7 (by decide) (by decide) fun H8 x8 h8 s8 b8=>qp (a:=4) (b:=60) (e:=70000) h8 fun w hw=>?_)
   have w0:0<w∧w≤70000:=by rcases hw with rfl | rfl | rfl<;>decide
   refine c.call (aX p) (ay c w b8 w0.1 (Nat.lt_of_le_of_lt w0.2 (by decide)) fun H9 x9 h9 s9 b9=>?_)
   have l9:=keep s9 (keep s8 l7)
   have a1:2+x7≤400:=Nat.le_trans (Nat.add_le_add_left (Nat.le_trans (Nat.le_of_lt h7) v0.2) 2) (by decide)
   have a2:1+x9≤70000:=Nat.le_trans (Nat.le_of_eq (Nat.add_comm 1 x9)) (Nat.lt_of_lt_of_le h9 w0.2)
   exact⟨_,l9,hll,fin H9 ((2:Int)+x7,(1:Int)+x9) _ (((((s.trans s5).trans s6).trans s7).trans s8).trans s9) l9 (b9.le (Nat.le_add_right _ _)) ⟨.inr ⟨Int.ofNat_le.mpr (Nat.le_add_right 2 x7),Int.ofNat_le.mpr (Nat.le_add_right 1 x9)⟩,Int.ofNat_le.mpr a1,Int.ofNat_le.mpr a2⟩⟩
end
noncomputable def cE (l:Dt):Int:=(l.map (·.2)).sum
theorem Oi:∀(l:Dt) (k v:Int),(aM l).Nodup→cE (putD l k v)=cE l-(aB l k).getD 0+v
 | [],k,v,_=>by simp [putD,cE,aB]
 | p::r,k,v,h=>by
  have h':p.1∉aM r∧(aM r).Nodup:=by unfold aM at *;simpa using h
  have ih:=Oi r k v h'.2
  unfold putD
  by_cases e:p.1=k
  ·rw[if_pos e]
   unfold cE aB
   simp [e];lia
  ·rw[if_neg e]
   have :aB (p::r) k=aB r k:=by unfold aB;simp [e]
   rw[this]
   unfold cE at *
   simp only [List.map_cons,List.sum_cons]
   lia
theorem GZ {l:Dt}{k n:Int}(h:(aM l).Nodup):cE (bump l k n)=cE l+n:=by
 unfold bump;rw[Oi _ _ _ h];lia
theorem iq (ms:List Int):cE (aI ms)=ms.length:=by
 have :∀(ms:List Int) (d:Dt),(aM d).Nodup→cE (ms.foldl (fun l m=>bump l m 1) d)=cE d+ms.length:=fun ms=>by
  induction ms with
  | nil=>intro d _;simp
  | cons m ms ih=>
   intro d h
   rw[List.foldl_cons,ih (bump d m 1) (ic _ _ _ h),GZ h,List.length_cons];lia
 have :=this ms [] List.nodup_nil
 simpa [cE,aI] using this
structure Pr where
 lit:Int→Int
 oh:Int→Int→Int
noncomputable def uZ (f:Int→Int)(eH:Int)(u:Nat)(s:Int):Int:=if f s=0 then max 1 (hV ((1+2*eH)^u)) else max 1 (hV ((1+2*eH)^u)-hV ((2*f s)^u))
noncomputable def pW (t:Dt)(eH:Int)(u:Nat):Dt:=t.map fun p=>(p.1,max 1 (hV ((1+2*eH)^u)-hV ((2*p.2)^u)))
theorem DK {t:Dt}{f:Int→Int}{eH:Int}{u:Nat}(h:Tells t f)(s:Int):(aB (pW t eH u) s).getD (max 1 (hV ((1+2*eH)^u)))=uZ f eH u s:=by
 have e:aB (pW t eH u) s=(aB t s).map fun v=>max 1 (hV ((1+2*eH)^u)-hV ((2*v)^u)):=by
  unfold aB pW
  rw[List.find?_map]
  cases z:List.find? _ t with
  | none=>
   have z':List.find? (fun p=>decide (p.1=s)) t=none:=z
   rw[z'];rfl
  | some p=>
   have z':List.find? (fun p=>decide (p.1=s)) t=some p:=z
   rw[z'];rfl
 rw[e]
 unfold uZ
 by_cases z:f s=0
 ·rw[if_pos z,(h.2 s).1 z];rfl
 ·rw[if_neg z,(h.2 s).2 z];rfl
theorem Dr {n:Int}{u:Nat}(h1:1≤n)(h2:n≤2^12)(h3:u≤16):n^u<2^512:=by
 obtain⟨m,rfl⟩:∃m:Nat,n=m:=⟨n.toNat,by lia⟩
 have a:m^u≤(2^12)^u:=Nat.pow_le_pow_left (by lia) u
 rw[←Nat.pow_mul] at a
 have b:2^(12*u)<2^512:=Nat.pow_lt_pow_right (by decide) (by lia)
 have e:((m:Int))^u=((m^u:Nat):Int):=by simp
 have g:(2:Int)^512=((2^512:Nat):Int):=by simp
 rw[e,g]
 exact Int.ofNat_lt.mpr (Nat.lt_of_le_of_lt a b)
theorem Pg {α β:Type}(g:α→β):∀l:List α,l.filterMap (fun x=>some (g x))=l.map g
 | []=>rfl
 | x::l=>by rw[List.filterMap_cons,Pg g l];rfl
section
variable {Z:Program}{G:Gd}{p:Params}{d:Nat}{H H0 H1:AH}{X:AH→Prop}
theorem tU (c:Cx Z G p){t:Dt}{f:Int→Int}{eH:Int}{u:Nat}(h:Tells t f)(hf:∀k,0≤f k∧f k≤1000)(hs:cE t=eH)(h0:0≤eH)(h1:eH≤1000)(hl:t.length≤1000)(hu:u≤16):
  Gives Z G (d+2) 560 [.dC (dA t),.int u] H (.tup [.dC (dA (pW t eH u)),.int (max 1 (hV ((1+2*eH)^u)))]):=by
 intro Q X hQ
 refine c.fn (Fd p) rfl fun H0 cf s0 _ _=>?_
 have it:(dA t).map (fun p=>AV.int p.1)=t.map fun p=>AV.int p.1:=by unfold dA;rw[List.map_map];rfl
 have yU:(dA t).length≤100000:=by unfold dA;rw[List.length_map];lia
 have val:∀x∈t,bo (dA t) x.1=some (.int x.2)∧1≤x.2∧x.2≤1000:=fun x hx=>by
  have a:=hZ h.1 hx
  refine⟨by rw[dS,a];rfl,?_⟩
  have b:=h.get x.1
  rw[a] at b
  have b:x.2=f x.1:=b
  have z:f x.1≠0:=fun z=>by rw[(h.2 x.1).1 z] at a;cases a
  have :=hf x.1
  lia
 refine⟨yU,fun H2 s2=>?_⟩
 show dk (Src.items ((dA t).map fun p=>AV.int p.1)) _ ((dA t).map fun p=>AV.int p.1) _ _ _ _
 rw[it]
 refine cK (src:= .items _) (base:=[some (.dC (dA t)),some (.int u),none]) (fun x:Int×Int=>AV.int x.1) (fun x=>some (.int x.2)) 1 (fun _ _=>trivial) (by lia) rfl (fun H3 h3 H4 h4=>?_) fun x w H3 K hm hw h3 k=>?_
 ·have s4:=((s0.trans s2).trans h3).trans h4
  have es:∀l:Dt,fR (l.filterMap fun x=>some (AV.int x.2))=some (cE l):=fun l=>by
   induction l with
   | nil=>rfl
   | cons x l ih=>simp only [List.filterMap_cons,fR,ih,Option.map_some];rfl
  refine⟨_,eH,rfl,by rw[es,hs],Nat.le_trans (List.length_filterMap_le ..) (by lia),.inl ⟨by decide,by decide⟩,c.call (Tm p) (Ay c (by lia) (by lia) (by lia) (by lia) (Dr (by lia) (by lia) (by rw[Int.toNat_natCast];exact hu)) _ _ fun H5 s5=>?_)⟩
  rw[show((u:Int)).toNat=u from Int.toNat_natCast u]
  refine⟨ltI rfl,yU,fun H6 s6=>?_⟩
  show dk (Src.items ((dA t).map fun p=>AV.int p.1)) _ ((dA t).map fun p=>AV.int p.1) _ _ _ _
  rw[it]
  refine cK (src:= .items _) (base:=[some (.dC (dA t)),some (.int u),some (.int (hV ((1+2*eH)^u)))]) (fun x:Int×Int=>AV.int x.1) (fun x=>some (.tup [.int x.1,.int (max 1 (hV ((1+2*eH)^u)-hV ((2*x.2)^u)))])) 1 (fun _ _=>trivial) (by lia) rfl (fun H7 h7 H8 h8=>?_) fun x w H7 K hm hw h7 k=>?_
  ·refine⟨dA (pW t eH u),?_,by unfold dA pW;rw[List.length_map,List.length_map];exact hl,?_,hQ _ ((((s4.trans s5).trans s6).trans h7).trans h8)⟩
   ·show _=_
    unfold dA pW
    rw[Pg,List.map_map,List.map_map]
    rfl
   ·have :(dA (pW t eH u)).map (·.1)=aM t:=by unfold dA pW aM;rw[List.map_map,List.map_map];rfl
    rw[this];exact h.1
  ·obtain⟨a,rfl⟩:=jB hw
   obtain⟨e,v1,v2⟩:=val x hm
   refine⟨ltI rfl,_,e,.inl ⟨by decide,by decide⟩,c.call (Tm p) (Ay c (by lia) (by lia) (by lia) (by lia) (Dr (by lia) (by lia) (by rw[Int.toNat_natCast];exact hu)) _ _ fun H8 h8=>?_)⟩
   have k:=k [some (.int x.1)] H8 rfl (h7.trans h8)
   rw[show((u:Int)).toNat=u from Int.toNat_natCast u]
   exact k
 ·obtain⟨a,rfl⟩:=jB hw
  exact⟨ltI rfl,_,(val x hm).1,k _ H3 rfl h3⟩
end
theorem Sub.uQ {H H':AH}{a:Addr}{o:AO}(h:Sub H H')(e:H a=none):Sub H (H'.set a o):=fun b o' k q=>by
 by_cases z:b=a
 ·subst z;rw[e] at q;cases q
 ·rw[AH.ae _ _ z];exact h b o' k q
noncomputable def adl:AO→Bool
 | .func _ _=>true
 | .cell (some _)=>true
 | _=>false
noncomputable def jb (H H':AH):Prop:=∀a o,adl o=true→H a=some o→H' a=some o
theorem jb.trans {H H' cb:AH}(x:jb H H')(y:jb H' cb):jb H cb:=fun a o k e=>y a o k (x a o k e)
theorem mI:∀{o:AO},adl o=true→o.kept=false
 | .func _ _,_=>rfl
 | .cell (some _),_=>rfl
theorem Sub.s {H H':AH}(x:Sub H H'):jb H H':=fun a o k e=>x a o (mI k) e
noncomputable def bQ (Z:Program)(G:Gd)(d:Nat)(pv:AV)(P:Pr)(H:AH):Prop:=∃f1 f2 c1 k1 c2 k2,pv= .tup [.ref f1,.ref f2]∧H f1=some (.func c1 k1)∧H f2=some (.func c2 k2)∧
 ∀H',jb H H'→(∀x,Gives Z G d f1 [.int x] H' (.int (P.lit x)))∧∀l x,2≤l→1≤x→Gives Z G d f2 [.int l,.int x] H' (.int (P.oh l x))
theorem bQ.GX {Z G d pv P H H'}(h:bQ Z G d pv P H)(s:jb H H'):bQ Z G d pv P H':=by
 obtain⟨f1,f2,c1,k1,c2,k2,e,e1,e2,h⟩:=h
 exact⟨f1,f2,c1,k1,c2,k2,e,s _ _ rfl e1,s _ _ rfl e2,fun cb s'=>h cb (s.trans s')⟩
theorem bQ.sub {Z G d pv P H H'}(h:bQ Z G d pv P H)(s:Sub H H'):bQ Z G d pv P H':=h.GX s.s
theorem bQ.deeper {Z G d d' pv P H}(h:bQ Z G d pv P H)(l:d≤d'):bQ Z G d' pv P H:=by
 obtain⟨f1,f2,c1,k1,c2,k2,e,e1,e2,h⟩:=h
 exact⟨f1,f2,c1,k1,c2,k2,e,e1,e2,fun H' s=>⟨fun x=>((h H' s).1 x).deeper l,fun n x a b=>((h H' s).2 n x a b).deeper l⟩⟩
noncomputable def bq (l:List (Int×Int)):List Int:=l.map fun s=>if s.1=0 then s.2 else 256+slot1 (s.1-2)
noncomputable def dg (l:List (Int×Int)):List Int:=l.filterMap fun s=>if s.1>0 then some (slot1 (s.2-1)) else none
noncomputable def xL (l:List (Int×Int))(u:Nat):Pr where
 lit x:=uZ (br (bq l)) (bq l).length u x
 oh n x:=uZ (br (bq l)) (bq l).length u (256+slot1 (n-2))+uZ (br (dg l)) (dg l).length u (slot1 (x-1))+u*(mx (n-2)+mx (x-1))
noncomputable def Pe (s m e:Int):Pr where
 lit _:=s
 oh n x:=m+e*(mx (n-2)+mx (x-1))
section
variable {Z:Program}{G:Gd}{p:Params}{d:Nat}{H H0 H1:AH}{X:AH→Prop}
theorem Cx.bV (c:Cx Z G p){f:Addr}{args:List AV}{cl:zH}{bV:List (Str×Addr)}{Q:AV→AH→Prop}(hf:H f=some (.func cl bV))(q:HU Z G BA d bV cl args H Q X):aw Z G BA (d+1) f args H Q X:=
 WZ c.ok (fun C e=>by cases e;exact c.Y) hf q
theorem Mh (c:Cx Z G p){s m e:Int}{Q:AV→AH→Prop}(he:0≤e∧e≤2)(hQ:∀H' pv,Sub H H'→bQ Z G (d+2) pv (Pe s m e) H'→Q pv H'):aw Z G BA (d+1) 572 [.int s,.int m,.int e] H Q X:=by
 refine c.fn (Io p) rfl fun H0 cf hs hc hi=>?_
 have m0:VK.ar "said"∈gb:=List.mem_of_getElem? (i:=0) rfl
 have m1:VK.ar "matched"∈gb:=List.mem_of_getElem? (i:=1) rfl
 have m2:VK.ar "each"∈gb:=List.mem_of_getElem? (i:=2) rfl
 have n01:cf "said"≠cf "matched":=fun z=>absurd (hi _ _ m0 m1 z) (by decide+kernel)
 have n02:cf "said"≠cf "each":=fun z=>absurd (hi _ _ m0 m2 z) (by decide+kernel)
 have PM:cf "matched"≠cf "each":=fun z=>absurd (hi _ _ m1 m2 z) (by decide+kernel)
 refine⟨_,(hc _ m0).2,_,by rw[AH.ae _ _ (Ne.symm n01)];exact(hc _ m1).2,_,by rw[AH.ae _ _ (Ne.symm PM),AH.ae _ _ (Ne.symm n02)];exact(hc _ m2).2,?_⟩
 generalize r9:(((H0.set (cf "said") (.cell (some (.int s)))).set (cf "matched") (.cell (some (.int m)))).set (cf "each") (.cell (some (.int e))))=H1
 have e0:H1 (cf "said")=some (.cell (some (.int s))):=by rw[←r9,AH.ae _ _ n02,AH.ae _ _ n01,AH.ag]
 have e1:H1 (cf "matched")=some (.cell (some (.int m))):=by rw[←r9,AH.ae _ _ PM,AH.ag]
 have e2:H1 (cf "each")=some (.cell (some (.int e))):=by rw[←r9,AH.ag]
 have s1:Sub H H1:=r9▸(((hs.uQ (hc _ m0).1).uQ (hc _ m1).1).uQ (hc _ m2).1)
 show aU Z G BA d rd [some (.ref (cf "said")),some (.ref (cf "matched")),some (.ref (cf "each")),none,none] H1 _ _
 refine⟨ltI rfl,fun f2 H2 s2 h2 f1 H3 s3 h3=>?_⟩
 refine hQ _ _ ((s1.trans s2).trans s3) ⟨f1,f2,_,_,_,_,rfl,h3,s3 _ _ rfl h2,fun H4 s4=>⟨fun x Q X q=>?_,fun l x hl hx Q X q=>?_⟩⟩
 ·refine c.bV (s4 _ _ rfl h3) ⟨rfl,fun H5 s5=>?_⟩
  exact⟨_,s5 _ _ rfl (s4 _ _ rfl (s3 _ _ rfl (s2 _ _ rfl e0))),q _ s5⟩
 ·refine c.bV (s4 _ _ rfl (s3 _ _ rfl h2)) ⟨rfl,fun H5 s5=>?_⟩
  have st:jb H1 H5:=((s2.trans s3).s.trans s4).trans s5.s
  refine⟨_,st _ _ rfl e1,_,st _ _ rfl e2,c.call (mf p) (dH c (by lia) _ _ fun H6 s6=>⟨by decide,by decide,_,rfl,c.call (mf p) (dH c (by lia) _ _ fun H7 s7=>⟨by decide,by decide,_,rfl,.inl ⟨by lia,by lia⟩,q _ ((s5.trans s6).trans s7)⟩)⟩)⟩
end
theorem tY (ms:List Int)(k:Int):br ms k≤ms.length:=by
 exact Int.ofNat_le.mpr List.countP_le_length
section
variable {Z:Program}{G:Gd}{p:Params}{d:Nat}{H H0 H1:AH}{X:AH→Prop}
theorem rf (c:Cx Z G p){l:List (Int×Int)}{u:Nat}{Q:AV→AH→Prop}(hl:l.length≤1000)(ho:∀s∈l,cQ s)(hu:u≤16)(hQ:∀H' pv,Sub H H'→bQ Z G (d+2) pv (xL l u) H'→Q pv H'):
  aw Z G BA (d+3) 565 [.lst (l.map aH),.int u] H Q X:=by
 refine c.fn (Bt p) rfl fun H0 cf hs hc hi=>?_
 have mP:VK.ar "parts"∈cr:=List.mem_of_getElem? (i:=1) rfl
 have mN:VK.ar "near"∈cr:=List.mem_of_getElem? (i:=5) rfl
 have mU:VK.ar "unseen"∈cr:=List.mem_of_getElem? (i:=6) rfl
 have mF:VK.ar "far"∈cr:=List.mem_of_getElem? (i:=7) rfl
 have mB:VK.ar "beyond"∈cr:=List.mem_of_getElem? (i:=8) rfl
 have nPN:cf "parts"≠cf "near":=fun z=>absurd (hi _ _ mP mN z) (by decide+kernel)
 have nPU:cf "parts"≠cf "unseen":=fun z=>absurd (hi _ _ mP mU z) (by decide+kernel)
 have nPF:cf "parts"≠cf "far":=fun z=>absurd (hi _ _ mP mF z) (by decide+kernel)
 have nPB:cf "parts"≠cf "beyond":=fun z=>absurd (hi _ _ mP mB z) (by decide+kernel)
 have nNU:cf "near"≠cf "unseen":=fun z=>absurd (hi _ _ mN mU z) (by decide+kernel)
 have nNF:cf "near"≠cf "far":=fun z=>absurd (hi _ _ mN mF z) (by decide+kernel)
 have nNB:cf "near"≠cf "beyond":=fun z=>absurd (hi _ _ mN mB z) (by decide+kernel)
 have nUF:cf "unseen"≠cf "far":=fun z=>absurd (hi _ _ mU mF z) (by decide+kernel)
 have nUB:cf "unseen"≠cf "beyond":=fun z=>absurd (hi _ _ mU mB z) (by decide+kernel)
 have nFB:cf "far"≠cf "beyond":=fun z=>absurd (hi _ _ mF mB z) (by decide+kernel)
 refine⟨_,(hc _ mP).2,?_⟩
 generalize r9:H0.set (cf "parts") (.cell (some (.int u)))=H1
 have eP:H1 (cf "parts")=some (.cell (some (.int u))):=by rw[←r9,AH.ag]
 have eN:H1 (cf "near")=some (.cell none):=by rw[←r9,AH.ae _ _ (Ne.symm nPN)];exact(hc _ mN).2
 have eU:H1 (cf "unseen")=some (.cell none):=by rw[←r9,AH.ae _ _ (Ne.symm nPU)];exact(hc _ mU).2
 have eF:H1 (cf "far")=some (.cell none):=by rw[←r9,AH.ae _ _ (Ne.symm nPF)];exact(hc _ mF).2
 have eB:H1 (cf "beyond")=some (.cell none):=by rw[←r9,AH.ae _ _ (Ne.symm nPB)];exact(hc _ mB).2
 have s1:Sub H H1:=r9▸hs.uQ (hc _ mP).1
 let σ0:Sg:=[some (.lst (l.map aH)),some (.ref (cf "parts")),none,none,none,some (.ref (cf "near")),some (.ref (cf "unseen")),some (.ref (cf "far")),some (.ref (cf "beyond")),none,none]
 show aU Z G BA (d+2) jv σ0 H1 _ _
 refine⟨by simpa using(by lia:l.length≤100000),fun H2 s2=>?_⟩
 refine cK (src:= .items (l.map aH)) (base:=σ0) aH (fun s=>some (.int (if s.1=0 then s.2 else 256+slot1 (s.1-2)))) 2 (fun _ _=>trivial) (by lia) rfl (fun H3 h3 H4 h4=>?_) fun s w H3 K hm hw h3 k=>?_
 rotate_left
 ·obtain⟨a,b,rfl⟩:=By hw
  refine⟨rfl,ltI rfl,ltI rfl,rfl,?_⟩
  have o:=ho s hm
  unfold cQ at o
  refine aO (fun z=>?_) fun z=>?_
  ·have k:=k [some (.int s.1),some (.int s.2)] H3 rfl h3
   rw[if_pos z] at k;exact k
  ·refine c.call (mf p) (dH c (by lia) _ _ fun H4 s4=>⟨by decide,by decide,_,rfl,?_⟩)
   have k:=k [some (.int s.1),some (.int s.2)] H4 rfl (h3.trans s4)
   rw[if_neg z] at k;exact k
 rw[Pg]
 have eo:l.map (fun s=>AV.int (if s.1=0 then s.2 else 256+slot1 (s.1-2)))=(bq l).map .int:=by unfold bq;rw[List.map_map];rfl
 refine(eo)▸?_
 have s4:=((s1.trans s2).trans h3).trans h4
 have t4:=(s2.trans h3).trans h4
 have l1:(bq l).length≤1000:=by unfold bq;rw[List.length_map];exact hl
 have l2:(dg l).length≤1000:=Nat.le_trans (List.length_filterMap_le ..) hl
 refine⟨ltI rfl,c.call (uk p) (fx c l1 _ _ fun H5 s5=>?_)⟩
 refine⟨by simpa using(by lia:l.length≤100000),fun H6 s6=>?_⟩
 refine cK (src:= .items (l.map aH)) (base:=[some (.lst (l.map aH)),some (.ref (cf "parts")),some (.lst ((bq l).map .int)),none,none,some (.ref (cf "near")),some (.ref (cf "unseen")),some (.ref (cf "far")),some (.ref (cf "beyond")),none,none]) aH
  (fun s=>if s.1>0 then some (.int (slot1 (s.2-1))) else none) 2 (fun _ _=>trivial) (by lia) rfl (fun H7 h7 H8 h8=>?_) fun s w H3 K hm hw h3 k=>?_
 rotate_left
 ·obtain⟨a,b,rfl⟩:=By hw
  refine⟨rfl,ltI rfl,ltI rfl,rfl,?_⟩
  have o:=ho s hm
  unfold cQ at o
  refine aO (fun z=>?_) fun z=>?_
  ·refine c.call (mf p) (dH c (by lia) _ _ fun H4 s4=>⟨by decide,by decide,_,rfl,?_⟩)
   have k:=k [some (.int s.1),some (.int s.2)] H4 rfl (h3.trans s4)
   rw[if_pos z] at k;exact k
  ·have k:=k [some (.int s.1),some (.int s.2)] H3 rfl h3
   rw[if_neg z] at k;exact k
 have es:l.filterMap (fun s=>if s.1>0 then some (AV.int (slot1 (s.2-1))) else none)=(dg l).map .int:=by
  unfold dg
  refine(List.map_filterMap)▸?_
  congr 1
  funext s
  split<;>rfl
 rw[es]
 refine c.call (uk p) (fx c l2 _ _ fun H9 s9=>⟨rfl,ltI rfl,ltI rfl,rfl,?_⟩)
 have t9:=((((t4.trans s5).trans s6).trans h7).trans h8).trans s9
 refine⟨_,t9 _ _ rfl eP,c.call (Tn p) (tU c (bX (bq l)) (fun k=>⟨gY ..,by have :=tY (bq l) k;lia⟩) (iq _) (by lia) (by lia) (Nat.le_trans (dh _) l1) hu _ _ fun LI uO=>?_)⟩
 have t10:=t9.trans uO
 refine⟨_,t10 _ _ rfl eP,c.call (Tn p) (tU c (bX (dg l)) (fun k=>⟨gY ..,by have :=tY (dg l) k;lia⟩) (iq _) (by lia) (by lia) (Nat.le_trans (dh _) l2) hu _ _ fun zI N8=>?_)⟩
 have VA:=t10.trans N8
 generalize hA:(AV.dC (dA (pW (aI (bq l)) (bq l).length u)))=vN
 generalize hB:AV.int (max 1 (hV ((1+2*((bq l).length:Int))^u)))=vU
 generalize hC:(AV.dC (dA (pW (aI (dg l)) (dg l).length u)))=vF
 generalize hD:AV.int (max 1 (hV ((1+2*((dg l).length:Int))^u)))=vB
 refine⟨rfl,rfl,_,VA _ _ rfl eN,_,by rw[AH.ae _ _ (Ne.symm nNU)];exact VA _ _ rfl eU,rfl,rfl,_,by rw[AH.ae _ _ (Ne.symm nUF),AH.ae _ _ (Ne.symm nNF)];exact VA _ _ rfl eF,_,
  by rw[AH.ae _ _ (Ne.symm nFB),AH.ae _ _ (Ne.symm nUB),AH.ae _ _ (Ne.symm nNB)];exact VA _ _ rfl eB,rfl,rfl,?_⟩
 generalize hH:((((zI.set (cf "near") (.cell (some vN))).set (cf "unseen") (.cell (some vU))).set (cf "far") (.cell (some vF))).set (cf "beyond") (.cell (some vB)))=xW
 have gN:xW (cf "near")=some (.cell (some vN)):=by rw[←hH,AH.ae _ _ nNB,AH.ae _ _ nNF,AH.ae _ _ nNU,AH.ag]
 have gU:xW (cf "unseen")=some (.cell (some vU)):=by rw[←hH,AH.ae _ _ nUB,AH.ae _ _ nUF,AH.ag]
 have gF:xW (cf "far")=some (.cell (some vF)):=by rw[←hH,AH.ae _ _ nFB,AH.ag]
 have gB:xW (cf "beyond")=some (.cell (some vB)):=by rw[←hH,AH.ag]
 have gP:xW (cf "parts")=some (.cell (some (.int u))):=by rw[←hH,AH.ae _ _ nPB,AH.ae _ _ nPF,AH.ae _ _ nPU,AH.ae _ _ nPN];exact VA _ _ rfl eP
 have zn:Sub H xW:=hH▸((((s1.trans VA).uQ (hc _ mN).1).uQ (hc _ mU).1).uQ (hc _ mF).1).uQ (hc _ mB).1
 refine⟨ltI rfl,fun f2 H13 s13 h2 f1 H14 s14 h1=>?_⟩
 have t14:=s13.trans s14
 refine hQ _ _ (zn.trans t14) ⟨f1,f2,_,_,_,_,rfl,h1,s14 _ _ rfl h2,fun H4 s4=>⟨fun x Q X q=>?_,fun n x hn hx Q X q=>?_⟩⟩
 ·refine c.bV (s4 _ _ rfl h1) ⟨rfl,fun H5 s5=>?_⟩
  have t5:=(t14.s.trans s4).trans s5.s
  refine⟨_,t5 _ _ rfl gN,?_⟩
  subst hA hB
  refine⟨rfl,_,t5 _ _ rfl gU,_,rfl,?_⟩
  rw[fA,DK (bX _)]
  exact q _ s5
 ·refine c.bV (s4 _ _ rfl (s14 _ _ rfl h2)) ⟨rfl,fun H5 s5=>?_⟩
  have t5:=(t14.s.trans s4).trans s5.s
  refine c.call (mf p) (dH c (by lia) _ _ fun H6 s6=>c.call (mf p) (dH c (by lia) _ _ fun H7 s7=>⟨rfl,ltI rfl,ltI rfl,rfl,?_⟩))
  have t7:=(t5.trans s6.s).trans s7.s
  refine⟨_,t7 _ _ rfl gN,?_⟩
  subst hA hB hC hD
  refine⟨rfl,by decide,by decide,_,rfl,_,t7 _ _ rfl gU,_,rfl,_,t7 _ _ rfl gF,rfl,by decide,by decide,_,rfl,_,t7 _ _ rfl gB,_,rfl,?_⟩
  rw[fA,DK (bX _),fA,DK (bX _)]
  exact⟨_,t7 _ _ rfl gP,by decide,by decide,_,rfl,by decide,by decide,_,rfl,.inl ⟨by lia,by lia⟩,q _ ((s5.trans s6).trans s7)⟩
end
theorem dM {a b:Nat}(h:Nat.ble a b=true):a≤b:=Nat.le_of_ble_eq_true h
noncomputable def aq (H:AH)(a:Addr):Prop:=∀o,o.kept=false→H a≠some o
theorem aq.of {H H0:AH}{a:Addr}(hs:Sub H H0)(ha:H0 a=none):aq H a:=fun o k=>hs.new ha k
theorem aq.back {H H0:AH}{a:Addr}(n:aq H0 a)(hs:Sub H H0):aq H a:=fun o k e=>n o k (hs _ _ k e)
theorem Sub.c8 {H H':AH}{a:Addr}(h:Sub H H')(n:aq H a):Sub H (H'.drop a):=fun b o k q=>by
 have z:b≠a:=fun z=>by subst z;exact n o k q
 show(if b=a then none else H' b)=some o
 rw[if_neg z];exact h b o k q
theorem Sub.aE {H H':AH}{a:Addr}{o:AO}(h:Sub H H')(n:aq H a):Sub H (H'.set a o):=fun b o' k q=>by
 have z:b≠a:=fun z=>by subst z;exact n o' k q
 rw[AH.ae _ _ z];exact h b o' k q
theorem dX {H:AH}{a b:Addr}(h:b≠a):H.drop a b=H b:=by show(if b=a then none else H b)=_;rw[if_neg h]
section
variable {Z:Program}{G:Gd}{p:Params}{d:Nat}{H H0 H1:AH}{X:AH→Prop}
theorem Cx.st (c:Cx Z G p){C nm}(h:bu (KF p) C nm):bu G.K C nm:=by rw[c.K];exact h
theorem Cx.at (c:Cx Z G p){C nm}(h:aV (KF p) C nm):aV G.K C nm:=by rw[c.K];exact h
theorem Cx.mt (c:Cx Z G p){C nm f}(h:bf (KF p) C nm f):bf G.K C nm f:=by rw[c.K];exact h
theorem Cx.cm (c:Cx Z G p){C nm f}(h:jV (KF p) C nm f):jV G.K C nm f:=by rw[c.K];exact h
noncomputable def dE (Z:Program)(G:Gd)(d:Nat)(pv:AV)(P:Pr):Prop:=∃C fs fl fm,pv= .obj C fs∧bf G.K C "literal" fl∧pI fs "literal" =none∧bf G.K C "match" fm∧pI fs "match" =none∧
 ∀H,(∀x,Gives Z G d fl [pv,.int x] H (.int (P.lit x)))∧∀n x,2≤n→1≤x→n<2^60→x<2^60→Gives Z G d fm [pv,.int n,.int x] H (.int (P.oh n x))
noncomputable abbrev rY (s m e:Int):AV:= .obj 222 [("of_literal",.int s),("of_match",.int m),("of_bit",.int e)]
theorem Xs (c:Cx Z G p){s m e:Int}(he:0≤e∧e≤2):dE Z G (d+2) (rY s m e) (Pe s m e):=by
 refine⟨_,_,_,_,rfl,c.mt (oj p),rfl,c.mt (qK p),rfl,fun H=>⟨fun x Q X q=>?_,fun n x hn hx n2 x2 Q X q=>?_⟩⟩
 ·refine c.fn (pE p) rfl fun H0 cf hs _ _=>?_
  exact⟨c.at (iE p),_,rfl,rfl,q _ hs⟩
 ·refine c.fn (sq p) rfl fun H0 cf hs _ _=>?_
  refine⟨c.at (gd p),_,rfl,rfl,aO (fun z=>?_) fun z=>?_⟩
  ·have e:(Pe s m e).oh n x=m:=by show m+e*_=m;rw[z,Int.zero_mul,Int.add_zero]
   rw[e] at q
   exact⟨c.at (e8 p),_,rfl,rfl,q _ hs⟩
  ·refine⟨c.at (e8 p),_,rfl,rfl,c.at (gd p),_,rfl,rfl,c.call (md p) (ew c (by lia) (by lia) _ _ fun H2 s2=>⟨by decide,by decide,_,rfl,c.call (md p) (ew c (by lia) (by lia) _ _ fun H3 s3=>?_)⟩)⟩
   exact⟨by decide,by decide,_,rfl,.inl ⟨by lia,by lia⟩,q _ ((hs.trans s2).trans s3)⟩
theorem Bc (c:Cx Z G p){s m e:Int}{a dx:Addr}{Q:AV→AH→Prop}{H H0:AH}(az:a≠dx)(ha:H a=none)(hd:H dx=none)(hs:Sub ((H.set dx (.attrs [])).set a (.inst 222 dx)) H0)
  (h1:0≤s∧0≤m∧0≤e→∀H',Sub H H'→Q (rY s m e) H') (h2:¬(0≤s∧0≤m∧0≤e)→∀H',Sub H H'→X H'):
  aU Z G BA (d+2) dU [some (.ref a),some (.int s),some (.int m),some (.int e)] H0 (d6 fun v H2=>v= .none∧VQ Q (.ref a) H2) X:=by
 have na:aq H a:=fun o k e=>by rw[ha] at e;cases e
 have nd:aq H dx:=fun o k e=>by rw[hd] at e;cases e
 have yV:Sub H H0:=fun b o k q=>hs b o k (by
  have z1:b≠a:=fun z=>by subst z;rw[ha] at q;cases q
  have z2:b≠dx:=fun z=>by subst z;rw[hd] at q;cases q
  rw[AH.ae _ _ z1,AH.ae _ _ z2];exact q)
 have bad:¬(0≤s∧0≤m∧0≤e)→2≤d+2∧BA= .ref 52∧∀H2,Sub H0 H2→X H2:=fun h=>⟨by lia,rfl,fun H2 s2=>h2 h _ (yV.trans s2)⟩
 refine Dq (fun z=>bad (by lia)) fun z=>Dq (fun y=>bad (by lia)) fun y=>Dq (fun x=>bad (by lia)) fun x=>?_
 have ea:H0 a=some (.inst 222 dx):=hs _ _ rfl (AH.ag ..)
 have ed:H0 dx=some (.attrs []):=hs _ _ rfl (((AH.ae _ _ (Ne.symm az)).trans (AH.ag ..)))
 refine⟨_,_,_,ea,ed,c.st (i8 p),by decide,_,_,_,((AH.ae _ _ az).trans ea),AH.ag ..,c.st (mz p),dM rfl,_,_,_,((AH.ae _ _ az).trans ((AH.ae _ _ az).trans ea)),AH.ag ..,c.st (pT p),dM rfl,rfl,?_⟩
 refine⟨_,_,.obj (((AH.ae _ _ az).trans ((AH.ae _ _ az).trans ((AH.ae _ _ az).trans ea)))) (AH.ag ..) (.cons .same (.cons .same (.cons .same .nil))),h1 (by lia) _ ?_⟩
 exact((((yV.aE nd).aE nd).aE nd).c8 na).c8 nd
theorem tB (c:Cx Z G p){s m e:Int}{Q:AV→AH→Prop}(h1:0≤s∧0≤m∧0≤e→∀H',Sub H H'→Q (rY s m e) H')(h2:¬(0≤s∧0≤m∧0≤e)→∀H',Sub H H'→X H'):
  aw Z G BA (d+4) 222 [.int s,.int m,.int e] H Q X:=
 aw.fz c.ok (c.cls (rj p) fun a dx az ha hd=>c.fn (qH p) rfl fun H0 cf hs _ _=>Bc c az ha hd hs h1 h2)
theorem rc (c:Cx Z G p){s m:Int}{Q:AV→AH→Prop}(h1:0≤s∧0≤m∧(0:Int)≤0→∀H',Sub H H'→Q (rY s m 0) H')(h2:¬(0≤s∧0≤m∧(0:Int)≤0)→∀H',Sub H H'→X H'):
  aw Z G BA (d+4) 222 [.int s,.int m] H Q X:=
 aw.fz c.ok (c.cls (rj p) fun a dx az ha hd=>c.fn (oa p) rfl fun H0 cf hs _ _=>Bc c az ha hd hs h1 h2)
end
noncomputable def uX (P:Pr)(s:Int×Int):Int:=if s.1=0 then P.lit s.2 else P.oh s.1 s.2
noncomputable def iX (P:Pr)(l:List (Int×Int)):Int:=(l.map (uX P)).sum
noncomputable def fH (s:Int×Int):Prop:=cQ s∧s.1<2^60∧s.2<2^60
section
variable {Z:Program}{G:Gd}{p:Params}{d:Nat}{H H0 H1:AH}{X:AH→Prop}
theorem dE.literal (c:Cx Z G p){pv:AV}{P:Pr}{x:Int}{Q:AV→AH→Prop}{K:MK→Prop}(h:dE Z G d pv P)(k:∀f,aw Z G BA d f [pv,.int x] H Q X→K (.fn f))(q:∀H',Sub H H'→Q (.int (P.lit x)) H'):ql G "literal" K pv H:=by
 show let P:=_;P;intro P
 obtain⟨C,fs,fl,fm,rfl,m1,n1,m2,n2,h⟩:=h
 exact⟨_,m1,n1,k _ ((h H).1 x Q X q)⟩
theorem dE.match(c:Cx Z G p){pv:AV}{P:Pr}{n x:Int}{Q:AV→AH→Prop}{K:MK→Prop}(h:dE Z G d pv P)(k:∀f,aw Z G BA d f [pv,.int n,.int x] H Q X→K (.fn f))(h1:2≤n)(h2:1≤x)(h3:n<2^60)(h4:x<2^60)(q:∀H',Sub H H'→Q (.int (P.oh n x)) H'):
  ql G "match" K pv H:=by
 show let P:=_;P;intro P
 obtain⟨C,fs,fl,fm,rfl,m1,n1,m2,n2,h⟩:=h
 exact⟨_,m2,n2,k _ ((h H).2 n x h1 h2 h3 h4 Q X q)⟩
theorem dE.aJ {pv:AV}{P:Pr}(h:dE Z G d pv P):∃C fs,pv= .obj C fs:=let⟨C,fs,_,_,e,_⟩:=h;⟨C,fs,e⟩
theorem xG (c:Cx Z G p){l:List (Int×Int)}{pv:AV}{P:Pr}(hl:l.length≤1000)(ho:∀s∈l,fH s)(hp:dE Z G d pv P):Gives Z G (d+1) 183 [.lst (l.map aH),pv] H (.int (iX P l)):=by
 intro Q X hQ
 obtain⟨C,fs,fl,fm,rfl,m1,n1,m2,n2,hP⟩:=hp
 refine c.fn (M6 p) rfl fun H0 cf hs _ _=>?_
 refine⟨ltI rfl,by simpa using(by lia:l.length≤100000),fun H2 s2=>?_⟩
 refine forM (src:= .items (l.map aH)) aH (fun r σ H1=>Sub H H1∧∃(w:Int) (a b:Option AV),σ=[some (.lst (l.map aH)),some (.obj C fs),some (.int w),a,b]∧w+iX P r=iX P l∧∀s∈r,s∈l)
  (fun _ _ _ _=>trivial) (fun σ H1 h H' s=>?_) (fun s r σ H1 K h k _ _=>?_) l _ _ ⟨hs.trans s2,0,none,none,rfl,Int.zero_add _,fun _ z=>z⟩
 ·obtain⟨h1,w,a,b,rfl,e,_⟩:=h
  have e:w=iX P l:=by rw[←e];exact(Int.add_zero w).symm
  subst e
  exact hQ _ (h1.trans s)
 ·obtain⟨h1,w,a,b,rfl,e,hm⟩:=h
  refine⟨rfl,ltI rfl,ltI rfl,rfl,?_⟩
  have o:=ho s (hm s (.head _))
  have e':∀v,v=uX P s→w+v+iX P r=iX P l:=fun v hv=>by
   subst hv;rw[←e];unfold iX;rw[List.map_cons,List.sum_cons];lia
  refine aO (fun z=>?_) fun z=>?_
  ·exact⟨_,m1,n1,(hP H1).1 s.2 _ _ fun H3 s3=>⟨ltI rfl,k _ _ ⟨h1.trans s3,_,_,_,rfl,e' _ (by unfold uX;rw[if_pos z]),fun s' h'=>hm s' (.tail _ h')⟩⟩⟩
  ·have o2:2≤s.1∧1≤s.2:=by rcases o.1 with h | h<;>lia
   exact⟨_,m2,n2,(hP H1).2 s.1 s.2 o2.1 o2.2 o.2.1 o.2.2 _ _ fun H3 s3=>⟨ltI rfl,k _ _ ⟨h1.trans s3,_,_,_,rfl,e' _ (by unfold uX;rw[if_neg z]),fun s' h'=>hm s' (.tail _ h')⟩⟩⟩
theorem bQ.lit {pv:AV}{P:Pr}{x:Int}{Q K:AV→AH→Prop}(h:bQ Z G d pv P H)(k:∀f,qa Z G BA d Q X f [.int x] H→K f H)(q:∀H',Sub H H'→Q (.int (P.lit x)) H'):Ii K pv (.int 0) H:=by
 show let P:=_;P;intro P
 obtain⟨f1,f2,c1,k1,c2,k2,rfl,e1,e2,h⟩:=h
 exact⟨by decide,by decide,_,rfl,k _ ⟨.inr ⟨_,_,e1⟩,(h H (Sub.refl _).s).1 x Q X q⟩⟩
theorem bQ.oh {pv:AV}{P:Pr}{n x:Int}{Q K:AV→AH→Prop}(h:bQ Z G d pv P H)(k:∀f,qa Z G BA d Q X f [.int n,.int x] H→K f H)(h1:2≤n)(h2:1≤x)(q:∀H',Sub H H'→Q (.int (P.oh n x)) H'):Ii K pv (.int 1) H:=by
 show let P:=_;P;intro P
 obtain⟨f1,f2,c1,k1,c2,k2,rfl,e1,e2,h⟩:=h
 exact⟨by decide,by decide,_,rfl,k _ ⟨.inr ⟨_,_,e2⟩,(h H (Sub.refl _).s).2 n x h1 h2 Q X q⟩⟩
theorem xD (c:Cx Z G p){l:List (Int×Int)}{pv:AV}{P:Pr}(hl:l.length≤1000)(ho:∀s∈l,cQ s)(hp:bQ Z G d pv P H):Gives Z G (d+1) 577 [.lst (l.map aH),pv] H (.int (iX P l)):=by
 intro Q X hQ
 refine c.fn (Im p) rfl fun H0 cf hs _ _=>?_
 refine⟨by simpa using(by lia:l.length≤100000),fun H2 s2=>?_⟩
 refine cK (src:= .items (l.map aH)) (base:=[some (.lst (l.map aH)),some pv]) aH (fun s=>some (.int (uX P s))) 2 (fun _ _=>trivial) (by lia) rfl (fun H3 h3 H4 h4=>?_) fun s w H3 K hm hw h3 k=>?_
 ·refine⟨_,iX P l,rfl,?_,Nat.le_trans (List.length_filterMap_le ..) (by lia),hQ _ (((hs.trans s2).trans h3).trans h4)⟩
  have :∀l:List (Int×Int),fR (l.filterMap fun s=>some (AV.int (uX P s)))=some (iX P l):=fun l=>by
   induction l with
   | nil=>rfl
   | cons s l ih=>simp only [List.filterMap_cons,fR,ih,Option.map_some];rfl
  exact this l
 ·obtain⟨a,b,rfl⟩:=By hw
  refine⟨rfl,ltI rfl,ltI rfl,rfl,?_⟩
  have hp3:=hp.sub ((hs.trans s2).trans h3)
  have e:∀{v},v=uX P s→∀H',Sub H2 H'→K (some (.int v)) ([some (.lst (l.map aH)),some pv]++[some (.int s.1),some (.int s.2)]) H':=fun hv H' s'=>by subst hv;exact k _ _ rfl s'
  refine aO (fun z=>?_) fun z=>?_
  ·exact hp3.lit (fun _ z=>z) fun H4 s4=>e (by unfold uX;rw[if_pos z]) _ (h3.trans s4)
  ·have o:=ho s hm
   have o2:2≤s.1∧1≤s.2:=by rcases o with h | h<;>lia
   exact hp3.oh (fun _ z=>z) o2.1 o2.2 fun H4 s4=>e (by unfold uX;rw[if_neg z]) _ (h3.trans s4)
end
noncomputable def bt (l:List (Int×Int)):List Int:=l.filterMap fun s=>if s.1=0 then some s.2 else none
noncomputable def bZ (l:List (Int×Int)):List Int:=l.filterMap fun s=>if s.1=0 then none else some s.1
noncomputable def dm (l:List (Int×Int)):List Int:=l.filterMap fun s=>if s.1=0 then none else some s.2
noncomputable def cW (ms:List Int):List Int:=(List.range 256).map fun i:Nat=>br ms i
noncomputable abbrev tZ (l:List (Int×Int)):AV:= .obj 250 [("literals",.lst ((cW (bt l)).map .int)),("lengths",.dC (dA (aI (bZ l)))),("distances",.dC (dA (aI (dm l))))]
theorem fX (ms:List Int):(cW ms).length=256:=by unfold cW;rw[List.length_map,List.length_range]
theorem fW {ms:List Int}{i:Nat}(h:i<256):(cW ms)[i]? =some (br ms i):=by
 unfold cW
 rw[List.getElem?_map,List.getElem?_range h];rfl
theorem Gg (ms:List Int)(m k:Int):br (ms++[m]) k=br ms k+if m=k then 1 else 0:=by
 unfold br
 rw[List.countP_append]
 simp only [List.countP_cons,List.countP_nil]
 split<;>simp_all
theorem GK {ms:List Int}{v:Int}(h0:0≤v)(h1:v≤255):(cW ms).set v.toNat (br ms v+1)=cW (ms++[v]):=by
 apply List.ext_getElem?
 intro i
 rw[List.getElem?_set]
 by_cases e:v.toNat=i
 ·rw[if_pos e,fX,if_pos (by lia),fW (by lia),Gg,if_pos (by lia)]
  rw[show((i:Nat):Int)=v by lia]
 ·rw[if_neg e]
  by_cases l:i<256
  ·rw[fW l,fW l,Gg,if_neg (by lia),Int.add_zero]
  ·rw[List.getElem?_eq_none (by rw[fX];lia),List.getElem?_eq_none (by rw[fX];lia)]
theorem DO (ms:List Int)(m:Int):aI (ms++[m])=bump (aI ms) m 1:=by unfold aI;rw[List.foldl_append];rfl
structure VL (H:AH)(a dx la ld dd:Addr)(l:List (Int×Int)):Prop where
 hA:H a=some (.inst 250 dx)
 hX:H dx=some (.attrs [("literals",.ref la),("lengths",.ref ld),("distances",.ref dd)])
 hL:H la=some (.list ((cW (bt l)).map .int))
 hN:H ld=some (.dict (dA (aI (bZ l))))
 hD:H dd=some (.dict (dA (aI (dm l))))
 ne:ld≠dd
theorem VL.sub {H H' a dx la ld dd l}(h:VL H a dx la ld dd l)(s:Sub H H'):VL H' a dx la ld dd l:=⟨s _ _ rfl h.hA,s _ _ rfl h.hX,s _ _ rfl h.hL,s _ _ rfl h.hN,s _ _ rfl h.hD,h.ne⟩
section
variable {Z:Program}{G:Gd}{p:Params}{d:Nat}{H H0 H1:AH}{X:AH→Prop}
theorem tQ (c:Cx Z G p){l:List (Int×Int)}(hl:l.length≤1000)(ho:∀s∈l,cQ s):Gives Z G (d+3) 261 [.lst (l.map aH)] H (tZ l):=by
 intro Q X hQ
 refine aw.fz c.ok (c.fn (Iu p) rfl fun H0 cf hs _ _=>?_)
 refine c.call (aeW p) (Ac c hl ho fun H1 s1=>?_)
 refine c.call (abN p) (c.cls (O1 p) fun a dx az ha hd=>c.fn (wF p) rfl fun H2 cf s2 _ _=>?_)
 have FL:=hs.trans s1
 have na:aq H a:= .of FL ha
 have nd:aq H dx:= .of FL hd
 have s2':Sub H H2:=fun b o k q=>s2 b o k (by
  have z1:b≠a:=fun z=>by subst z;exact na o k q
  have z2:b≠dx:=fun z=>by subst z;exact nd o k q
  rw[AH.ae _ _ z1,AH.ae _ _ z2];exact FL b o k q)
 have ea:H2 a=some (.inst 250 dx):=s2 _ _ rfl (AH.ag ..)
 have ed:H2 dx=some (.attrs []):=s2 _ _ rfl (((AH.ae _ _ (Ne.symm az)).trans (AH.ag ..)))
 refine⟨by decide,by decide,by decide,fun la Ig=>?_⟩
 have Fp:aq H la:= .of s2' Ig
 have a1:a≠la:=(aA (ea) Ig).symm
 have d1:dx≠la:=(aA (ed) Ig).symm
 refine⟨_,_,_,((AH.ae _ _ a1).trans ea),((AH.ae _ _ d1).trans ed),c.st (qS p),by decide,fun ld Bi=>?_⟩
 have a2:a≠ld:=(aA ((AH.ae _ _ az).trans ((AH.ae _ _ a1).trans ea)) Bi).symm
 have d2:dx≠ld:=(aA (AH.ag ..) Bi).symm
 have l2:la≠ld:=(aA ((AH.ae _ _ (Ne.symm d1)).trans (AH.ag ..)) Bi).symm
 have PR:aq H ld:= .of ((s2'.aE Fp).aE nd) Bi
 refine⟨_,_,_,((AH.ae _ _ a2).trans ((AH.ae _ _ az).trans ((AH.ae _ _ a1).trans ea))),by rw[AH.ae _ _ d2];exact AH.ag ..,c.st (sN p),dM rfl,fun dd Pm=>?_⟩
 have a3:a≠dd:=(aA ((AH.ae _ _ az).trans ((AH.ae _ _ a2).trans ((AH.ae _ _ az).trans ((AH.ae _ _ a1).trans ea)))) Pm).symm
 have d3:dx≠dd:=(aA (AH.ag ..) Pm).symm
 have l3:la≠dd:=(aA ((AH.ae _ _ (Ne.symm d1)).trans ((AH.ae _ _ l2).trans ((AH.ae _ _ (Ne.symm d1)).trans (AH.ag ..)))) Pm).symm
 have f3:ld≠dd:=(aA ((AH.ae _ _ (Ne.symm d2)).trans (AH.ag ..)) Pm).symm
 have Ys:aq H dd:= .of ((((s2'.aE Fp).aE nd).aE PR).aE nd) Pm
 refine⟨_,_,_,((AH.ae _ _ a3).trans ((AH.ae _ _ az).trans ((AH.ae _ _ a2).trans ((AH.ae _ _ az).trans ((AH.ae _ _ a1).trans ea))))),by rw[AH.ae _ _ d3];exact AH.ag ..,c.st (pS p),dM rfl,rfl,?_⟩
 generalize hH3:((((((H2.set la _).set dx _).set ld _).set dx _).set dd _).set dx _)=H3
 have s3:Sub H H3:=hH3▸((((((s2'.aE Fp).aE nd).aE PR).aE nd).aE Ys).aE nd)
 have c3:VL H3 a dx la ld dd []:=by
  subst hH3
  refine⟨?_,?_,?_,?_,?_,f3⟩
  ·exact(AH.ae _ _ az).trans ((AH.ae _ _ a3).trans ((AH.ae _ _ az).trans ((AH.ae _ _ a2).trans ((AH.ae _ _ az).trans ((AH.ae _ _ a1).trans ea)))))
  ·exact AH.ag ..
  ·rw[AH.ae _ _ (Ne.symm d1),AH.ae _ _ l3,AH.ae _ _ (Ne.symm d1),AH.ae _ _ l2,AH.ae _ _ (Ne.symm d1),AH.ag]
   have :(List.replicate (Int.toNat 256) [AV.int 0]).flatten=(cW (bt [])).map .int:=by kernel_rfl
   rw[this]
  ·rw[AH.ae _ _ (Ne.symm d2),AH.ae _ _ f3,AH.ae _ _ (Ne.symm d2),AH.ag];rfl
  ·rw[AH.ae _ _ (Ne.symm d3),AH.ag];rfl
 clear hH3
 refine⟨ltI rfl,.inl ⟨_,_,_,_,c3.hA,c3.hX,c.mt (BD p),rfl,?_⟩⟩
 refine c.fn (E9 p) rfl fun H4 cf s4 _ _=>?_
 refine⟨by simpa using(by lia:l.length≤100000),fun H5 s5=>?_⟩
 refine forM (src:= .items (l.map aH)) aH (fun r σ H1=>Sub H H1∧∃(pre:List (Int×Int)) (x y:Option AV),VL H1 a dx la ld dd pre∧σ=[some (.ref a),some (.lst (l.map aH)),x,y]∧l=pre++r)
  (fun _ _ _ _=>trivial) (fun σ H1 h H' s=>?_) (fun s r σ H1 K h k _ _=>?_) l _ _ ⟨(s3.trans s4).trans s5,[],none,none,(c3.sub s4).sub s5,rfl,rfl⟩
 ·show let P:=_;P;intro P
  obtain⟨h1,pre,x,y,cc,rfl,e⟩:=h
  rw[List.append_nil] at e
  subst e
  have cc:=cc.sub s
  have k1:la≠a∧la≠dx∧ld≠a∧ld≠dx∧ld≠la∧dd≠a∧dd≠dx∧dd≠la:=⟨Ne.symm a1,Ne.symm d1,Ne.symm a2,Ne.symm d2,Ne.symm l2,Ne.symm a3,Ne.symm d3,Ne.symm l3⟩
  obtain⟨m1,m2,m3,m4,m5,m6,m7,m8⟩:=k1
  refine⟨_,_,.obj cc.hA cc.hX (.cons (.list ?_) (.cons (.dict ?_) (.cons (.dict ?_) .nil))),hQ _ (((((h1.trans s).c8 na).c8 nd).c8 Fp).c8 PR |>.c8 Ys)⟩
  ·rw[dX m2,dX m1];exact cc.hL
  ·rw[dX m5,dX m4,dX m3];exact cc.hN
  ·rw[dX (Ne.symm f3),dX m8,dX m7,dX m6];exact cc.hD
 ·obtain⟨h1,pre,x,y,cc,rfl,e⟩:=h
  have hs':s∈l:=by rw[e];simp
  have hpl:pre.length≤1000:=by have :=congrArg List.length e;rw[List.length_append] at this;lia
  have o:=ho s hs'
  have e':l=pre++[s]++r:=by rw[e];simp
  refine⟨rfl,ltI rfl,ltI rfl,rfl,aO (fun z=>?_) fun z=>?_⟩
  ·have ov:0≤s.2∧s.2≤255:=by rcases o with h | h<;>lia
   have i1:itemAt ((cW (bt pre)).map AV.int) s.2=some (.int (br (bt pre) s.2)):=by
    unfold itemAt
    rw[if_neg (by lia),List.getElem?_map,fW (by lia),show((s.2.toNat:Nat):Int)=s.2 by lia];rfl
   have p1:bt (pre++[s])=bt pre++[s.2]:=by unfold bt;rw[List.filterMap_append];simp [z]
   have p2:bZ (pre++[s])=bZ pre:=by unfold bZ;rw[List.filterMap_append];simp [z]
   have p3:dm (pre++[s])=dm pre:=by unfold dm;rw[List.filterMap_append];simp [z]
   refine⟨_,_,_,cc.hA,cc.hX,c.at (bU p),_,rfl,rfl,.inl ⟨_,cc.hL,by lia,by lia,_,i1,?_⟩⟩
   refine⟨_,_,_,cc.hA,cc.hX,c.at (bU p),_,rfl,rfl,.inl ⟨_,cc.hL,ov.1,?_,by lia,?_⟩⟩
   ·rw[List.length_map,fX];lia
   ·refine k _ _ ⟨h1.aE Fp,pre++[s],_,_,⟨?_,?_,?_,?_,?_,f3⟩,rfl,e'⟩
    ·exact(AH.ae _ _ a1).trans cc.hA
    ·rw[AH.ae _ _ d1];exact cc.hX
    ·rw[AH.ag,p1,←GK ov.1 ov.2,List.map_set]
    ·rw[AH.ae _ _ (Ne.symm l2),p2];exact cc.hN
    ·rw[AH.ae _ _ (Ne.symm l3),p3];exact cc.hD
  ·have p1:bt (pre++[s])=bt pre:=by unfold bt;rw[List.filterMap_append];simp [z]
   have p2:bZ (pre++[s])=bZ pre++[s.1]:=by unfold bZ;rw[List.filterMap_append];simp [z]
   have p3:dm (pre++[s])=dm pre++[s.2]:=by unfold dm;rw[List.filterMap_append];simp [z]
   have b1:(dA (aI (bZ pre))).length≤100000:=by unfold dA;rw[List.length_map];exact Nat.le_trans (dh _) (Nat.le_trans (List.length_filterMap_le ..) (by lia))
   have b2:(dA (aI (dm pre))).length≤100000:=by unfold dA;rw[List.length_map];exact Nat.le_trans (dh _) (Nat.le_trans (List.length_filterMap_le ..) (by lia))
   refine⟨_,_,_,cc.hA,cc.hX,c.at (cg p),_,rfl,rfl,.inr (.inr ⟨_,cc.hN,rfl,_,cc.hN,?_⟩)⟩
   rw[fA]
   refine⟨_,_,_,cc.hA,cc.hX,c.at (cg p),_,rfl,rfl,.inr ⟨_,cc.hN,b1,?_⟩⟩
   rw[ik]
   have ea':(H1.set ld (.dict (dA (putD (aI (bZ pre)) s.1 ((aB (aI (bZ pre)) s.1).getD 0+1))))) a=some (.inst 250 dx):=((AH.ae _ _ a2).trans cc.hA)
   have ex':(H1.set ld (.dict (dA (putD (aI (bZ pre)) s.1 ((aB (aI (bZ pre)) s.1).getD 0+1))))) dx=some (.attrs [("literals",.ref la),("lengths",.ref ld),("distances",.ref dd)]):=((AH.ae _ _ d2).trans cc.hX)
   have ed':(H1.set ld (.dict (dA (putD (aI (bZ pre)) s.1 ((aB (aI (bZ pre)) s.1).getD 0+1))))) dd=some (.dict (dA (aI (dm pre)))):=((AH.ae _ _ (Ne.symm f3)).trans cc.hD)
   refine⟨_,_,_,ea',ex',c.at (bL p),_,rfl,rfl,.inr (.inr ⟨_,ed',rfl,_,ed',?_⟩)⟩
   rw[fA]
   refine⟨_,_,_,ea',ex',c.at (bL p),_,rfl,rfl,.inr ⟨_,ed',b2,?_⟩⟩
   rw[ik]
   refine k _ _ ⟨(h1.aE PR).aE Ys,pre++[s],_,_,⟨?_,?_,?_,?_,?_,f3⟩,rfl,e'⟩
   ·exact(AH.ae _ _ a3).trans ea'
   ·rw[AH.ae _ _ d3];exact ex'
   ·rw[AH.ae _ _ l3,AH.ae _ _ l2,p1];exact cc.hL
   ·rw[AH.ae _ _ f3,AH.ag,p2,DO];rfl
   ·rw[AH.ag,p3,DO];rfl
end
noncomputable def bW:Nat→List Int→Dt
 | _,[]=>[]
 | i,x::r=>if 0<x then((i:Int),x)::bW (i+1) r else bW (i+1) r
theorem pq:∀(i:Nat) (xs:List Int),cL i xs=dA (bW i xs)
 | _,[]=>rfl
 | i,x::r=>by
  unfold cL bW
  split
  ·rw[pq];rfl
  ·exact pq ..
theorem g8:∀(xs:List Int) (i:Nat) (k:Int),k∈aM (bW i xs)→(i:Int)≤k
 | [],_,_,h=>by simp [bW,aM] at h
 | x::r,i,k,h=>by
  unfold bW at h
  split at h
  ·rcases List.mem_cons.mp h with rfl | h
   ·exact Int.le_refl _
   ·have :=g8 r (i+1) k h;lia
  ·have :=g8 r (i+1) k h;lia
theorem lX:∀(xs:List Int) (i:Nat),(aM (bW i xs)).Nodup
 | [],_=>List.nodup_nil
 | x::r,i=>by
  unfold bW
  split
  ·show((i:Int)::aM (bW (i+1) r)).Nodup
   rw[List.nodup_cons]
   exact⟨fun h=>by have :=g8 _ _ _ h;lia,lX r (i+1)⟩
  ·exact lX r (i+1)
theorem pp:∀(xs:List Int) (i j:Nat),(∀x∈xs,0≤x)→(aB (bW i xs) ((i+j:Nat):Int))=(xs[j]?).bind fun x=>if x=0 then none else some x
 | [],i,j,_=>rfl
 | x::r,i,0,h=>by
  have x0:=h x (.head _)
  unfold bW
  by_cases e:0<x
  ·rw[if_pos e]
   simp only [aB,List.find?_cons,Nat.add_zero,decide_true,Option.map_some,List.getElem?_cons_zero,Option.bind_some]
   rw[if_neg (by lia)]
  ·rw[if_neg e]
   simp only [List.getElem?_cons_zero,Option.bind_some]
   rw[if_pos (by lia),iz]
   intro z
   have :=g8 _ _ _ z;lia
 | x::r,i,j+1,h=>by
  have ih:=pp r (i+1) j fun y hy=>h y (.tail _ hy)
  rw[show i+1+j=i+(j+1) by lia] at ih
  unfold bW
  split
  ·simp only [List.getElem?_cons_succ,←ih,aB,List.find?_cons]
   have :decide ((i:Int)=((i+(j+1):Nat):Int))=false:=by simp;lia
   rw[this]
  ·simpa using ih
theorem A6:∀(xs:List Int) (i:Nat),(∀x∈xs,0≤x)→cE (bW i xs)=xs.sum
 | [],_,_=>rfl
 | x::r,i,h=>by
  have x0:=h x (.head _)
  have ih:=A6 r (i+1) fun y hy=>h y (.tail _ hy)
  unfold bW
  split
  ·show x+cE (bW (i+1) r)=_
   rw[ih,List.sum_cons]
  ·rw[ih,List.sum_cons];lia
theorem rW:∀(xs:List Int) (i:Nat),(∀x∈xs,0≤x)→((bW i xs).length:Int)≤xs.sum
 | [],_,_=>by simp [bW]
 | x::r,i,h=>by
  have x0:=h x (.head _)
  have ih:=rW r (i+1) fun y hy=>h y (.tail _ hy)
  unfold bW
  rw[List.sum_cons]
  split
  ·rw[List.length_cons];lia
  ·lia
theorem pM (ms:List Int):∀x∈cW ms,0≤x:=fun x hx=>by
 obtain⟨i,_,rfl⟩:=List.mem_map.mp hx
 exact gY ..
theorem NF {ms:List Int}(h:∀x∈ms,0≤x∧x≤255):Tells (bW 0 (cW ms)) (br ms):=by
 refine⟨lX ..,fun k=>?_⟩
 by_cases b:0≤k∧k≤255
 ·have :=pp (cW ms) 0 k.toNat (pM ms)
  rw[Nat.zero_add,show((k.toNat:Nat):Int)=k by lia,fW (by lia),show((k.toNat:Nat):Int)=k by lia] at this
  refine(this)▸?_
  exact⟨fun z=>by simp [z],fun z=>by simp [z]⟩
 ·have z:br ms k=0:=by
   unfold br
   have :ms.countP (· =k)=0:=List.countP_eq_zero.mpr fun x hx e=>by have :=h x hx;simp at e;lia
   rw[this];rfl
  refine⟨fun _=>?_,fun e=>absurd z e⟩
  by_cases n:0≤k
  ·have :=pp (cW ms) 0 k.toNat (pM ms)
   rw[Nat.zero_add,show((k.toNat:Nat):Int)=k by lia,List.getElem?_eq_none (by rw[fX];lia)] at this
   exact this
  ·exact iz.mpr fun e=>by have :=g8 _ _ _ e;lia
theorem sum_set:∀(l:List Int) (i:Nat) (v w:Int),l[i]? =some w→(l.set i v).sum=l.sum-w+v
 | [],_,_,_,h=>by cases h
 | x::l,0,v,w,h=>by cases h;simp only [List.set_cons_zero,List.sum_cons];lia
 | x::l,i+1,v,w,h=>by
  have :=sum_set l i v w h
  simp only [List.set_cons_succ,List.sum_cons,this];lia
theorem GL:∀{ms pre:List Int},(∀x∈ms,0≤x∧x≤255)→(cW (pre++ms)).sum=(cW pre).sum+ms.length
 | [],pre,_=>by simp
 | m::ms,pre,h=>by
  have hm:=h m (.head _)
  have ih:=GL (ms:=ms) (pre:=pre++[m]) fun x hx=>h x (.tail _ hx)
  rw[List.append_assoc,List.singleton_append] at ih
  rw[ih,←GK hm.1 hm.2,sum_set _ _ _ _ (fW (by lia)),show((m.toNat:Nat):Int)=m by lia,List.length_cons];lia
theorem qm {ms:List Int}(h:∀x∈ms,0≤x∧x≤255):(cW ms).sum=ms.length:=by
 have :=GL (ms:=ms) (pre:=[]) h
 rw[List.nil_append] at this
 refine(this)▸?_
 have :(cW []).sum=0:=by decide+kernel
 rw[this];lia
noncomputable def gw (g:Int→Int)(t:Dt)(k:Int):Int:=((t.filter fun p=>g p.1=k).map (·.2)).sum
theorem Gp (g:Int→Int):∀(t:Dt) (m v k:Int),(aM t).Nodup→gw g (putD t m v) k=gw g t k+if g m=k then v-(aB t m).getD 0 else 0
 | [],m,v,k,_=>by
  unfold gw putD aB
  by_cases e:g m=k
  ·simp [e]
  ·simp [e]
 | p::r,m,v,k,h=>by
  have h':p.1∉aM r∧(aM r).Nodup:=by unfold aM at *;simpa using h
  have ih:=Gp g r m v k h'.2
  unfold putD
  by_cases e:p.1=m
  ·subst e
   unfold gw aB
   by_cases z:g p.1=k
   ·simp [z];lia
   ·simp [z]
  ·refine(if_neg e)▸?_
   have l:aB (p::r) m=aB r m:=by unfold aB;simp [e]
   rw[l]
   unfold gw at *
   by_cases z:g p.1=k
   ·simp only [List.filter_cons,z,decide_true,if_true,List.map_cons,List.sum_cons,ih];lia
   ·simp only [List.filter_cons,z,decide_false,Bool.false_eq_true,if_false,ih]
theorem xI (g:Int→Int)(ms:List Int)(k:Int):gw g (aI ms) k=br (ms.map g) k:=by
 have :∀(ms:List Int) (d:Dt),(aM d).Nodup→gw g (ms.foldl (fun l m=>bump l m 1) d) k=gw g d k+br (ms.map g) k:=fun ms=>by
  induction ms with
  | nil=>intro d _;simp [br]
  | cons m ms ih=>
   intro d h
   rw[List.foldl_cons,ih (bump d m 1) (ic _ _ _ h),List.map_cons,lU]
   have :gw g (bump d m 1) k=gw g d k+if g m=k then 1 else 0:=by
    unfold bump
    rw[Gp _ _ _ _ _ h]
    split<;>lia
   rw[this];lia
 have :=this ms [] List.nodup_nil
 rw[show aI ms=ms.foldl (fun l m=>bump l m 1) [] from rfl,this]
 simp [gw]
theorem abe (a b:List Int)(k:Int):br (a++b) k=br a k+br b k:=by
 unfold br;rw[List.countP_append];lia
theorem GQ:∀(l:List (Int×Int)) (k:Int),br (bq l) k=br (bt l) k+br ((bZ l).map fun n=>256+slot1 (n-2)) k
 | [],k=>by simp [bq,bt,bZ,br]
 | s::l,k=>by
  have ih:=GQ l k
  unfold bq bt bZ at *
  by_cases z:s.1=0
  ·simp only [List.map_cons,List.filterMap_cons,z,if_true,lU,ih];lia
  ·simp only [List.map_cons,List.filterMap_cons,z,if_false,lU,ih];lia
theorem DC:∀{l:List (Int×Int)},(∀s∈l,cQ s)→dg l=(dm l).map fun x=>slot1 (x-1)
 | [],_=>rfl
 | s::l,h=>by
  have ih:=DC fun s' hs=>h s' (.tail _ hs)
  have o:=h s (.head _)
  unfold cQ at o
  unfold dg dm at *
  by_cases z:s.1=0
  ·have z':¬s.1>0:=by lia
   simp only [List.filterMap_cons,z,z',if_true,if_false,gt_iff_lt,Int.lt_irrefl];exact ih
  ·have z':s.1>0:=by lia
   simp only [List.filterMap_cons,z,z',if_true,if_false,List.map_cons,ih]
theorem un (l:List (Int×Int)):(bt l).length+(bZ l).length=l.length:=by
 unfold bt bZ
 induction l with
 | nil=>rfl
 | cons s l ih=>
  by_cases z:s.1=0
  ·simp only [List.filterMap_cons,z,if_true,List.length_cons];lia
  ·simp only [List.filterMap_cons,z,if_false,List.length_cons];lia
theorem Xa (l:List (Int×Int)):(dm l).length=(bZ l).length:=by
 unfold dm bZ
 induction l with
 | nil=>rfl
 | cons s l ih=>
  by_cases z:s.1=0
  ·simp only [List.filterMap_cons,z,if_true];exact ih
  ·simp only [List.filterMap_cons,z,if_false,List.length_cons,ih]
noncomputable def fill (g:Int→Int)(t d:Dt):Dt:=t.foldl (fun d p=>bump d (g p.1) p.2) d
theorem pt (g:Int→Int):∀(t d:Dt) (f:Int→Int),Tells d f→(∀k,0≤f k)→(∀p∈t,0<p.2)→Tells (fill g t d) fun k=>f k+gw g t k
 | [],d,f,h,_,_=>h.congr fun k=>by simp [gw]
 | p::t,d,f,h,hf,hp=>by
  have p0:=hp p (.head _)
  refine(pt g t (bump d (g p.1) p.2) (fun k=>f k+if g p.1=k then p.2 else 0) (h.bump _ _ p0 hf (by simp) fun j hj=>by simp [Ne.symm hj]) (fun k=>?_) fun q hq=>hp q (.tail _ hq)).congr fun k=>?_
  ·have :=hf k;show 0≤f k+_;split<;>lia
  ·show f k+_+gw g t k=f k+gw g (p::t) k
   unfold gw
   by_cases z:g p.1=k
   ·simp only [List.filter_cons,z,decide_true,if_true,List.map_cons,List.sum_cons];lia
   ·simp only [List.filter_cons,z,decide_false,Bool.false_eq_true,if_false];lia
theorem wv (g:Int→Int):∀(t d:Dt),(aM d).Nodup→cE (fill g t d)=cE d+cE t
 | [],d,_=>by simp [fill,cE]
 | p::t,d,h=>by
  have ih:=wv g t (bump d (g p.1) p.2) (ic _ _ _ h)
  show cE (fill g t (bump d (g p.1) p.2))=_
  rw[ih,GZ h]
  show _=cE d+(p.2+cE t)
  lia
theorem wu (g:Int→Int):∀(t d:Dt),(fill g t d).length≤d.length+t.length
 | [],d=>Nat.le_refl _
 | p::t,d=>by
  have ih:=wu g t (bump d (g p.1) p.2)
  have :(bump d (g p.1) p.2).length≤d.length+1:=hU ..
  rw[List.length_cons]
  show(fill g t (bump d (g p.1) p.2)).length≤_
  lia
theorem ir {ms:List Int}:∀p∈aI ms,0<p.2∧aB (aI ms) p.1=some p.2∧p.1∈ms:=fun p hp=>by
 have t:=bX ms
 have a:=hZ t.1 hp
 have b:=t.get p.1
 rw[a] at b
 have b:p.2=br ms p.1:=b
 have z:br ms p.1≠0:=fun z=>by rw[(t.2 p.1).1 z] at a;cases a
 have nn:=gY ms p.1
 refine⟨by lia,a,?_⟩
 apply Classical.byContradiction
 intro n
 apply z
 unfold br
 have :ms.countP (· =p.1)=0:=List.countP_eq_zero.mpr fun x hx e=>n (by simp at e;exact e▸hx)
 rw[this];rfl
noncomputable abbrev G0 (K:Dt)(o:Int):AV:= .obj 290 [("other",.int o),("known",.dC (dA K))]
section
variable {Z:Program}{G:Gd}{p:Params}{d:Nat}{H H0 H1:AH}{X:AH→Prop}
theorem mM (c:Cx Z G p){t:Dt}{f:Int→Int}{eH:Int}{u:Nat}{Q:AV→AH→Prop}(h:Tells t f)(hf:∀k,0≤f k∧f k≤1000)(hs:cE t=eH)(h0:0≤eH)(h1:eH≤1000)(hl:t.length<64)(hu:u≤16)
  (hQ:∀H' K o,Sub H H'→(∀s,(aB K s).getD o=uZ f eH u s)→Q (G0 K o) H'):aw Z G BA (d+3) 290 [.dC (dA t),.int u] H Q X:=by
 refine aw.fz c.ok (c.cls (wm p) fun a dx az ha hd=>c.fn (mc p) rfl fun H0 cf yV _ _=>?_)
 have na:aq H a:=fun o k e=>by rw[ha] at e;cases e
 have nd:aq H dx:=fun o k e=>by rw[hd] at e;cases e
 have s0:Sub H H0:=fun b o k q=>yV b o k (by
  have z1:b≠a:=fun z=>by subst z;exact na o k q
  have z2:b≠dx:=fun z=>by subst z;exact nd o k q
  rw[AH.ae _ _ z1,AH.ae _ _ z2];exact q)
 have ea:H0 a=some (.inst 290 dx):=yV _ _ rfl (AH.ag ..)
 have ed:H0 dx=some (.attrs []):=yV _ _ rfl (((AH.ae _ _ (Ne.symm az)).trans (AH.ag ..)))
 have it:(dA t).map (fun p=>AV.int p.1)=t.map fun p=>AV.int p.1:=by unfold dA;rw[List.map_map];rfl
 have yU:(dA t).length≤100000:=by unfold dA;rw[List.length_map];lia
 have ub:(0:Int)≤u∧(u:Int)≤1000000:=by lia
 have ut:((u:Int)).toNat=u:=Int.toNat_natCast u
 have val:∀x∈t,bo (dA t) x.1=some (.int x.2)∧1≤x.2∧x.2≤1000∧x.2=f x.1:=fun x hx=>by
  have a:=hZ h.1 hx
  refine⟨by rw[dS,a];rfl,?_⟩
  have b:=h.get x.1
  rw[a] at b
  have b:x.2=f x.1:=b
  have z:f x.1≠0:=fun z=>by rw[(h.2 x.1).1 z] at a;cases a
  have :=hf x.1
  lia
 refine⟨yU,fun H2 s2=>?_⟩
 rw[it]
 refine cK (src:= .items _) (base:=[some (.ref a),some (.dC (dA t)),some (.int u),none,none]) (fun x:Int×Int=>AV.int x.1) (fun x=>some (.int x.2)) 1 (fun _ _=>trivial) (by lia) rfl (fun H3 h3 H4 h4=>?_) fun x w H3 K hm hw h3 k=>?_
 rotate_left
 ·obtain⟨b,rfl⟩:=jB hw
  exact⟨ltI rfl,_,(val x hm).1,k _ H3 rfl h3⟩
 have t4:=(s2.trans h3).trans h4
 have es:∀l:Dt,fR (l.filterMap fun x=>some (AV.int x.2))=some (cE l):=fun l=>by
  induction l with
  | nil=>rfl
  | cons x l ih=>simp only [List.filterMap_cons,fR,ih,Option.map_some];rfl
 refine⟨_,eH,rfl,by rw[es,hs],Nat.le_trans (List.length_filterMap_le ..) (by lia),.inl ⟨by decide,by decide⟩,ltI rfl,?_⟩
 refine c.call (Ix p) (lP c ub.1 ub.2 (by lia) (by lia) _ _ fun H5 s5=>?_)
 have t5:=t4.trans s5
 have Pb:=t5 _ _ rfl ea
 refine⟨_,_,_,Pb,t5 _ _ rfl ed,c.st (mH p),by decide,fun ld Bi=>?_⟩
 have n5:aq H ld:= .of ((s0.trans t5).aE nd) Bi
 have a1:a≠ld:=(aA ((AH.ae _ _ az).trans Pb) Bi).symm
 have d1:dx≠ld:=(aA (AH.ag ..) Bi).symm
 refine⟨_,_,_,((AH.ae _ _ a1).trans ((AH.ae _ _ az).trans Pb)),((AH.ae _ _ d1).trans (AH.ag ..)),c.st (mG p),dM rfl,?_⟩
 refine⟨dA t,rfl,by unfold dA;rw[List.length_map];exact hl,fun xs Ps XT=>⟨?_,fun H6 s6=>?_⟩⟩
 ·have :=Ps.length_eq
  rw[List.length_map] at this ⊢
  lia
 have mem:∀x,x∈xs↔x∈aM t:=fun x=>by
  rw[Ps.mem_iff]
  unfold dA aM
  rw[List.map_map];exact Iff.rfl
 generalize hv:max 1 (hV ((1+2*eH)^u))=o
 let kn (x:Int):Int:=max 1 (hV ((1+2*eH)^u)-hV ((2*f x)^u))
 refine forM (src:= .items _) AV.int (fun r σ H1=>Sub H H1∧∃(K:Dt) (y:Option AV),H1 a=some (.inst 290 dx)∧H1 dx=some (.attrs [("other",.int o),("known",.ref ld)])∧H1 ld=some (.dict (dA K))∧
   σ=[some (.ref a),some (.dC (dA t)),some (.int u),some (.int (1+2*eH)),y]∧K.length+r.length≤100∧(∀x∈r,x∈aM t)∧(∀x,aB K x=some (kn x)∧x∈aM t∨aB K x=none∧(x∉aM t∨x∈r)))
  (fun _ _ _ _=>trivial) (fun σ H1 hI H' s=>?_) (fun x r σ H1 K hI k _ _=>?_) xs _ _ ⟨?_,[],none,?_,?_,?_,rfl,?_,fun x hx=>(mem x).mp hx,fun x=>.inr ⟨rfl,?_⟩⟩
 ·show let P:=_;P;intro P
  obtain⟨h1,K,y,e1,e2,e3,rfl,_,_,hK⟩:=hI
  refine⟨rfl,_,_,.obj (s _ _ rfl e1) (s _ _ rfl e2) (.cons .same (.cons (.dict ?_) .nil)),hQ _ K o ((((h1.trans s).c8 na).c8 nd).c8 n5) fun x=>?_⟩
  ·rw[dX (Ne.symm d1),dX (Ne.symm a1)];exact s _ _ rfl e3
  ·unfold uZ
   rcases hK x with ⟨g,m⟩ | ⟨g,m⟩
   ·have z:f x≠0:=fun z=>iz.mp ((h.2 x).1 z) m
    rw[g,if_neg z];rfl
   ·rcases m with m | m
    ·have z:f x=0:=Classical.byContradiction fun z=>by have :=(h.2 x).2 z;rw[iz.mpr m] at this;cases this
     rw[g,if_pos z,←hv];rfl
    ·show let P:=_;P;intro P
     cases m
 ·show let P:=_;P;intro P
  obtain⟨h1,K',y,e1,e2,e3,rfl,hlen,hr,hK⟩:=hI
  replace hlen:=(List.length_cons)▸hlen
  have hx:=hr x (.head _)
  obtain⟨q,hq,rfl⟩:=List.mem_map.mp hx
  obtain⟨v1,v2,v3,v4⟩:=val q hq
  refine⟨ltI rfl,c.call (Ix p) (lP c ub.1 ub.2 (by lia) (by lia) _ _ fun H7 s7=>?_)⟩
  refine⟨_,v1,.inl ⟨by decide,by decide⟩,c.call (Ix p) (lP c ub.1 ub.2 (by lia) (by lia) _ _ fun H8 s8=>?_)⟩
  rw[ut]
  have t8:=s7.trans s8
  refine⟨_,_,_,t8 _ _ rfl e1,t8 _ _ rfl e2,c.at (fc p),_,rfl,rfl,.inr ⟨_,t8 _ _ rfl e3,by unfold dA;rw[List.length_map];lia,?_⟩⟩
  rw[ik]
  refine k _ _ ⟨(h1.trans t8).aE n5,putD K' q.1 _,_,?_,?_,AH.ag ..,rfl,?_,fun x hx=>hr x (.tail _ hx),fun x=>?_⟩
  ·rw[AH.ae _ _ a1];exact t8 _ _ rfl e1
  ·rw[AH.ae _ _ d1];exact t8 _ _ rfl e2
  ·have :=hU K' q.1 (max 1 (hV ((1+2*eH)^u)-hV ((2*q.2)^u)));lia
  ·rw[sB]
   by_cases e:x=q.1
   ·subst e;rw[if_pos rfl,v4];exact .inl ⟨rfl,hx⟩
   ·refine(if_neg e)▸?_
    rcases hK x with g | ⟨g,m⟩
    ·exact .inl g
    ·refine .inr ⟨g,?_⟩
     rcases m with m | m
     ·exact .inl m
     ·rcases List.mem_cons.mp m with m | m
      ·exact absurd m e
      ·exact .inr m
 ·exact((((s0.trans t5).aE nd).aE n5).aE nd).trans s6
 ·exact s6 _ _ rfl (((AH.ae _ _ az).trans ((AH.ae _ _ a1).trans ((AH.ae _ _ az).trans Pb))))
 ·refine s6 _ _ rfl ?_
  rw[AH.ag,←hv];rfl
 ·exact s6 _ _ rfl (by rw[AH.ae _ _ (Ne.symm d1),AH.ag];rfl)
 ·have :=Ps.length_eq
  unfold dA at this
  rw[List.length_map,List.length_map] at this
  simp;lia
 ·by_cases m:x∈aM t
  ·exact .inr ((mem x).mpr m)
  ·exact .inl m
theorem lR (c:Cx Z G p){K:Dt}{o s:Int}:Gives Z G (d+1) 287 [G0 K o,.int s] H (.int ((aB K s).getD o)):=by
 intro Q X hQ
 refine c.fn (og p) rfl fun H0 cf hs _ _=>?_
 refine⟨c.at (fc p),_,rfl,rfl,rfl,c.at (jX p),_,rfl,rfl,_,rfl,?_⟩
 rw[fA]
 exact hQ _ hs
end
noncomputable abbrev UQ (n:Int):Int:=256+slot1 (n-2)
noncomputable abbrev Pj (x:Int):Int:=slot1 (x-1)
noncomputable def DJ (l:List (Int×Int)):Dt:=fill UQ (aI (bZ l)) (bW 0 (cW (bt l)))
noncomputable def xQ (l:List (Int×Int)):Dt:=fill Pj (aI (dm l)) []
theorem BB {l:List (Int×Int)}(h:∀s∈l,cQ s):∀x∈bt l,0≤x∧x≤255:=fun x hx=>by
 unfold bt at hx
 obtain⟨s,hs,e⟩:=List.mem_filterMap.mp hx
 have o:=h s hs
 unfold cQ at o
 split at e
 ·cases e;lia
 ·cases e
theorem Yd {l:List (Int×Int)}(h:∀s∈l,fH s):∀x∈bZ l,2≤x∧x<2^60:=fun x hx=>by
 unfold bZ at hx
 obtain⟨s,hs,e⟩:=List.mem_filterMap.mp hx
 obtain⟨o,o1,o2⟩:=h s hs
 unfold cQ at o
 split at e
 ·cases e
 ·cases e;lia
theorem Xb {l:List (Int×Int)}(h:∀s∈l,fH s):∀x∈dm l,1≤x∧x<2^60:=fun x hx=>by
 unfold dm at hx
 obtain⟨s,hs,e⟩:=List.mem_filterMap.mp hx
 obtain⟨o,o1,o2⟩:=h s hs
 unfold cQ at o
 split at e
 ·cases e
 ·cases e;lia
theorem Z6 {l:List (Int×Int)}(h:∀s∈l,cQ s):Tells (DJ l) (br (bq l))∧cE (DJ l)=(bq l).length∧(DJ l).length≤l.length:=by
 have lo:=BB h
 have t:=NF lo
 refine⟨(pt UQ _ _ _ t (gY _) fun p hp=>(ir p hp).1).congr fun k=>?_,?_,?_⟩
 ·rw[xI,GQ]
 ·unfold DJ
  rw[wv _ _ _ t.1,A6 _ _ (pM _),qm lo,iq]
  have :=un l
  unfold bq
  rw[List.length_map];lia
 ·have a:=wu UQ (aI (bZ l)) (bW 0 (cW (bt l)))
  have b:=rW (cW (bt l)) 0 (pM _)
  rw[qm lo] at b
  have e:=dh (bZ l)
  have :=un l
  unfold DJ;lia
theorem Z7 {l:List (Int×Int)}(h:∀s∈l,cQ s):Tells (xQ l) (br (dg l))∧cE (xQ l)=(dg l).length∧(xQ l).length≤l.length:=by
 have e:(dg l).length=(dm l).length:=by rw[DC h,List.length_map]
 refine⟨(pt Pj _ _ _ Tells.nil (fun _=>Int.le_refl 0) fun p hp=>(ir p hp).1).congr fun k=>?_,?_,?_⟩
 ·rw[xI,DC h];exact Int.zero_add _
 ·unfold xQ
  rw[wv Pj _ [] List.nodup_nil,iq,e];simp [cE]
 ·have a:=wu Pj (aI (dm l)) []
  have b:=dh (dm l)
  have :=un l
  have :=Xa l
  unfold xQ
  simp only [List.length_nil] at a;lia
section
variable {Z:Program}{G:Gd}{p:Params}{d:Nat}{H H0 H1:AH}{X:AH→Prop}
noncomputable abbrev ahw (u:Int)(K1:Dt)(o1:Int)(K2:Dt)(o2:Int):AV:= .obj 324 [("unit",.int u),("firsts",G0 K1 o1),("seconds",G0 K2 o2)]
theorem ab6 (c:Cx Z G p){l:List (Int×Int)}{u:Nat}{K1 K2:Dt}{o1 o2:Int}(hu:u≤16)(h1:∀s,(aB K1 s).getD o1=uZ (br (bq l)) (bq l).length u s)(h2:∀s,(aB K2 s).getD o2=uZ (br (dg l)) (dg l).length u s):
  dE Z G (d+2) (ahw u K1 o1 K2 o2) (xL l u):=by
 refine⟨_,_,_,_,rfl,c.mt (jD p),rfl,c.mt (ol p),rfl,fun H=>⟨fun x Q X q=>?_,fun n x hn hx n2 x2 Q X q=>?_⟩⟩
 ·refine c.fn (l8 p) rfl fun H0 cf hs _ _=>?_
  refine⟨c.at (e9 p),_,rfl,rfl,_,c.mt (dc p),rfl,lR c _ _ fun H2 s2=>?_⟩
  rw[h1]
  exact q _ (hs.trans s2)
 ·refine c.fn (pF p) rfl fun H0 cf hs _ _=>?_
  refine c.call (md p) (ew c (by lia) (by lia) _ _ fun H2 s2=>⟨rfl,ltI rfl,ltI rfl,rfl,c.call (md p) (ew c (by lia) (by lia) _ _ fun H3 s3=>⟨rfl,ltI rfl,ltI rfl,rfl,?_⟩)⟩)
  refine⟨c.at (e9 p),_,rfl,rfl,_,c.mt (dc p),rfl,lR c _ _ fun H4 s4=>⟨c.at (je p),_,rfl,rfl,_,c.mt (dc p),rfl,lR c _ _ fun H5 s5=>?_⟩⟩
  rw[h1,h2]
  exact⟨c.at (oH p),_,rfl,rfl,.inl ⟨by lia,by lia⟩,q _ ((((hs.trans s2).trans s3).trans s4).trans s5)⟩
theorem oV (c:Cx Z G p){l:List (Int×Int)}{u:Nat}{Q:AV→AH→Prop}(hl:l.length≤30)(ho:∀s∈l,fH s)(hu:u≤16)(h1:1≤u→∀H' pv,Sub H H'→dE Z G (d+2) pv (xL l u)→Q pv H')(h2:u=0→∀H',Sub H H'→X H'):
  aw Z G BA (d+5) 324 [tZ l,.int u] H Q X:=by
 have iY:∀s∈l,cQ s:=fun s hs=>(ho s hs).1
 refine aw.fz c.ok (c.cls (mY p) fun a dx az ha hd=>c.fn (fP p) rfl fun H0 cf yV _ _=>?_)
 have na:aq H a:=fun o k e=>by rw[ha] at e;cases e
 have nd:aq H dx:=fun o k e=>by rw[hd] at e;cases e
 have s0:Sub H H0:=fun b o k q=>yV b o k (by
  have z1:b≠a:=fun z=>by subst z;exact na o k q
  have z2:b≠dx:=fun z=>by subst z;exact nd o k q
  rw[AH.ae _ _ z1,AH.ae _ _ z2];exact q)
 have ea:H0 a=some (.inst 324 dx):=yV _ _ rfl (AH.ag ..)
 have ed:H0 dx=some (.attrs []):=yV _ _ rfl (((AH.ae _ _ (Ne.symm az)).trans (AH.ag ..)))
 refine aO (fun z=>⟨by lia,rfl,fun H2 s2=>h2 (by lia) _ (s0.trans s2)⟩) fun z=>?_
 have h1:=h1 (by lia)
 refine⟨_,_,_,ea,ed,c.st (pU p),by decide,c.at (bU p),_,rfl,rfl,cW (bt l),rfl,by rw[fX];decide,ltI rfl,fun fa H2 s2 hfa efa=>?_⟩
 have nfa:aq H fa:= .of (s0.aE nd) hfa
 have a1:a≠fa:=(aA ((AH.ae _ _ az).trans ea) hfa).symm
 have d1:dx≠fa:=(aA (AH.ag ..) hfa).symm
 have rV:H2 a=some (.inst 324 dx):=s2 _ _ rfl (((AH.ae _ _ az).trans ea))
 have qF:H2 dx=some (.attrs [("unit",.int u)]):=s2 _ _ rfl (by rw[AH.ag];rfl)
 have t2:Sub H H2:=(s0.aE nd).trans s2
 rw[pq] at efa
 intro sa hsa
 have nsa:aq H sa:= .of t2 hsa
 have a2:a≠sa:=(aA (rV) hsa).symm
 have d2:dx≠sa:=(aA (qF) hsa).symm
 have f2:fa≠sa:=(aA (efa) hsa).symm
 have kA:∀t:Dt,(dA t).map (fun p=>AV.int p.1)=t.map fun p=>AV.int p.1:=fun t=>by unfold dA;rw[List.map_map];rfl
 have tl1:(aI (bZ l)).length≤30:=Nat.le_trans (dh _) (Nat.le_trans (List.length_filterMap_le ..) hl)
 have tl2:(aI (dm l)).length≤30:=Nat.le_trans (dh _) (Nat.le_trans (List.length_filterMap_le ..) hl)
 have el:(bW 0 (cW (bt l))).length≤30:=by
  have b:=rW (cW (bt l)) 0 (pM _)
  rw[qm (BB iY)] at b
  have :=un l
  lia
 refine⟨ltI rfl,c.at (cg p),_,rfl,rfl,by unfold dA;rw[List.length_map];lia,fun H3 s3=>?_⟩
 rw[kA]
 let At (H1:AH) (K1 K2:Dt):Prop:=Sub H H1∧H1 a=some (.inst 324 dx)∧H1 dx=some (.attrs [("unit",.int u)])∧H1 fa=some (.dict (dA K1))∧H1 sa=some (.dict (dA K2))
 have vg:∀{H1 H' K1 K2},At H1 K1 K2→Sub H1 H'→At H' K1 K2:=fun⟨x1,x2,x3,x4,x5⟩ s=>⟨x1.trans s,s _ _ rfl x2,s _ _ rfl x3,s _ _ rfl x4,s _ _ rfl x5⟩
 have at3:At H3 (bW 0 (cW (bt l))) []:=vg ⟨t2.aE nsa,((AH.ae _ _ a2).trans rV),((AH.ae _ _ d2).trans qF),((AH.ae _ _ f2).trans efa),AH.ag ..⟩ s3
 refine forM (src:= .items _) (fun q:Int×Int=>AV.int q.1) (fun r σ H1=>∃(K1:Dt) (x y:Option AV),At H1 K1 []∧σ=[some (.ref a),some (tZ l),some (.int u),some (.ref fa),some (.ref sa),x,y,none]∧fill UQ r K1=DJ l∧K1.length+r.length≤100∧∀q∈r,q∈aI (bZ l))
  (fun _ _ _ _=>trivial) (fun σ H1 hI H' s=>?_) (fun q r σ H1 K hI k _ _=>?_) _ _ _ ⟨_,none,none,at3,rfl,rfl,by lia,fun _ z=>z⟩
 ·show let P:=_;P;intro P
  obtain⟨K1,x,y,WA,rfl,e,_,_⟩:=hI
  subst e
  refine⟨c.at (bL p),_,rfl,rfl,by unfold dA;rw[List.length_map];lia,fun H4 s4=>?_⟩
  rw[kA]
  refine forM (src:= .items _) (fun q:Int×Int=>AV.int q.1) (fun r σ H1=>∃(K2:Dt) (x y z:Option AV),At H1 (DJ l) K2∧σ=[some (.ref a),some (tZ l),some (.int u),some (.ref fa),some (.ref sa),x,y,z]∧fill Pj r K2=xQ l∧K2.length+r.length≤100∧∀q∈r,q∈aI (dm l))
   (fun _ _ _ _=>trivial) (fun σ H1 hI H' s=>?_) (fun q r σ H1 K hI k _ _=>?_) _ _ _ ⟨_,_,_,none,vg (vg WA s) s4,rfl,rfl,by simp;lia,fun _ z=>z⟩
  ·show let P:=_;P;intro P
   obtain⟨K2,x,y,z,at2,rfl,e,_,_⟩:=hI
   subst e
   obtain⟨b1,b2,b3,b4,b5⟩:=vg at2 s
   obtain⟨u1,u2,u3⟩:=Z6 iY
   obtain⟨w1,w2,w3⟩:=Z7 iY
   have lo:(bq l).length≤30:=by unfold bq;rw[List.length_map];exact hl
   have ls:(dg l).length≤30:=Nat.le_trans (List.length_filterMap_le ..) hl
   refine⟨_,_,.dict b4,c.call (Tk p) (mM c u1 (fun k=>⟨gY ..,by have :=tY (bq l) k;lia⟩) u2 (by lia) (by lia) (by lia) hu fun H5 K1 o1 s5 hK1=>?_)⟩
   have v5:Sub H H5:=(b1.c8 nfa).trans s5
   have Pb:H5 a=some (.inst 324 dx):=s5 _ _ rfl (by rw[dX a1];exact b2)
   have ed5:H5 dx=some (.attrs [("unit",.int u)]):=s5 _ _ rfl (by rw[dX d1];exact b3)
   have es5:H5 sa=some (.dict (dA (xQ l))):=s5 _ _ rfl (by rw[dX (Ne.symm f2)];exact b5)
   refine⟨_,_,_,Pb,ed5,c.st (mE p),dM rfl,?_⟩
   have es6:(H5.set dx (.attrs (N5 [("unit",.int u)] "firsts" (G0 K1 o1)))) sa=some (.dict (dA (xQ l))):=((AH.ae _ _ (Ne.symm d2)).trans es5)
   refine⟨_,_,.dict es6,c.call (Tk p) (mM c w1 (fun k=>⟨gY ..,by have :=tY (dg l) k;lia⟩) w2 (by lia) (by lia) (by lia) hu fun H7 K2 o2 s7 hK2=>?_)⟩
   have v7:Sub H H7:=((v5.aE nd).c8 nsa).trans s7
   have ea7:H7 a=some (.inst 324 dx):=s7 _ _ rfl (by rw[dX a2,AH.ae _ _ az];exact Pb)
   have ed7:H7 dx=some (.attrs [("unit",.int u),("firsts",G0 K1 o1)]):=s7 _ _ rfl (by rw[dX d2,AH.ag];rfl)
   refine⟨_,_,_,ea7,ed7,c.st (jR p),dM rfl,rfl,?_⟩
   refine⟨_,_,.obj (((AH.ae _ _ az).trans ea7)) (AH.ag ..) (.cons .same (.cons .same (.cons .same .nil))),h1 _ _ (((v7.aE nd).c8 na).c8 nd) (ab6 c hu hK1 hK2)⟩
  ·show let P:=_;P;intro P
   obtain⟨K2,x,y,z,at2,rfl,e,hlen,hm⟩:=hI
   rw[List.length_cons] at hlen
   obtain⟨p1,p2,p3⟩:=ir q (hm q (.head _))
   obtain⟨q1,q2⟩:=Xb ho q.1 p3
   refine⟨ltI rfl,c.call (md p) (ew c (by lia) (by lia) _ _ fun H5 s5=>⟨by decide,by decide,_,rfl,ltI rfl,?_⟩)⟩
   show let P:=_;P;intro P
   obtain⟨b1,b2,b3,b4,b5⟩:=vg at2 s5
   refine .inr (.inr ⟨_,b5,rfl,_,b5,?_⟩)
   rw[fA]
   refine⟨c.at (bL p),_,rfl,rfl,.int q.2,by rw[dS,p2];rfl,.inr ⟨_,b5,by unfold dA;rw[List.length_map];lia,?_⟩⟩
   rw[ik]
   refine k _ _ ⟨bump K2 (Pj q.1) q.2,_,_,_,⟨b1.aE nsa,((AH.ae _ _ a2).trans b2),((AH.ae _ _ d2).trans b3),((AH.ae _ _ f2).trans b4),AH.ag ..⟩,rfl,e,?_,fun q' h'=>hm q' (.tail _ h')⟩
   have :(bump K2 (Pj q.1) q.2).length≤K2.length+1:=hU ..
   lia
 ·show let P:=_;P;intro P
  obtain⟨K1,x,y,WA,rfl,e,hlen,hm⟩:=hI
  rw[List.length_cons] at hlen
  obtain⟨p1,p2,p3⟩:=ir q (hm q (.head _))
  obtain⟨q1,q2⟩:=Yd ho q.1 p3
  refine⟨ltI rfl,c.call (md p) (ew c (by lia) (by lia) _ _ fun H5 s5=>⟨by decide,by decide,_,rfl,ltI rfl,?_⟩)⟩
  show let P:=_;P;intro P
  obtain⟨b1,b2,b3,b4,b5⟩:=vg WA s5
  refine .inr (.inr ⟨_,b4,rfl,_,b4,?_⟩)
  rw[fA]
  refine⟨c.at (cg p),_,rfl,rfl,.int q.2,by rw[dS,p2];rfl,.inr ⟨_,b4,by unfold dA;rw[List.length_map];lia,?_⟩⟩
  rw[ik]
  refine k _ _ ⟨bump K1 (UQ q.1) q.2,_,_,⟨b1.aE nfa,((AH.ae _ _ a1).trans b2),((AH.ae _ _ d1).trans b3),AH.ag ..,((AH.ae _ _ (Ne.symm f2)).trans b5)⟩,rfl,e,?_,fun q' h'=>hm q' (.tail _ h')⟩
  have :(bump K1 (UQ q.1) q.2).length≤K1.length+1:=hU ..
  lia
end
theorem sj {x y:Int}{A B:Prop}(e:x=y)(h:B):if(!decide (x=y))=true then A else B:=Gv (fun n=>absurd e n) fun _=>h
theorem zw (t:Dt):∀q∈dA t,isData 1 q.2=true:=fun q hq=>by
 unfold dA at hq
 obtain⟨x,_,rfl⟩:=List.mem_map.mp hq
 rfl
theorem SO {t:Dt}{r:Bool}{A B:Prop}(n:(aM t).Nodup)(hr:r=true↔((dA t).length=(dA t).length∧∀q∈dA t,bo (dA t) q.1=some q.2))(h:B):if(!r)=true then A else B:=
 rt hr (fun z=>absurd ⟨rfl,fun q hq=>by
  unfold dA at hq
  obtain⟨x,hx,rfl⟩:=List.mem_map.mp hq
  rw[dS,hZ n hx];rfl⟩ z) fun _=>h
theorem DI:∀l:List Int,fR (l.map .int)=some l.sum
 | []=>rfl
 | x::l=>by simp only [List.map_cons,fR,DI l,Option.map_some,List.sum_cons]
theorem Og:∀l:Dt,fR (l.filterMap fun x=>some (AV.int x.2))=some (cE l)
 | []=>rfl
 | x::l=>by simp only [List.filterMap_cons,fR,Og l,Option.map_some];rfl
theorem kA (t:Dt):(dA t).map (fun p=>AV.int p.1)=t.map fun p=>AV.int p.1:=by unfold dA;rw[List.map_map];rfl
theorem abi (t:Dt):(dA t).length=t.length:=List.length_map ..
theorem Gz:∀{l:List (Int×Int)},(∀s∈l,cQ s)→l.filterMap (fun s=>if s.1>0 then some (AV.int s.1) else none)=(bZ l).map .int
 | [],_=>rfl
 | s::l,h=>by
  have ih:=Gz fun s' hs=>h s' (.tail _ hs)
  have o:=h s (.head _)
  unfold cQ at o
  unfold bZ at *
  by_cases z:s.1=0
  ·have z':¬s.1>0:=by lia
   simp only [List.filterMap_cons,z',z,if_false,if_true,gt_iff_lt,Int.lt_irrefl];exact ih
  ·have z':s.1>0:=by lia
   simp only [List.filterMap_cons,z,z',if_true,if_false,List.map_cons,ih]
theorem Gj:∀{l:List (Int×Int)},(∀s∈l,cQ s)→l.filterMap (fun s=>if s.1>0 then some (AV.int s.2) else none)=(dm l).map .int
 | [],_=>rfl
 | s::l,h=>by
  have ih:=Gj fun s' hs=>h s' (.tail _ hs)
  have o:=h s (.head _)
  unfold cQ at o
  unfold dm at *
  by_cases z:s.1=0
  ·have z':¬s.1>0:=by lia
   simp only [List.filterMap_cons,z',z,if_false,if_true,gt_iff_lt,Int.lt_irrefl];exact ih
  ·have z':s.1>0:=by lia
   simp only [List.filterMap_cons,z,z',if_true,if_false,List.map_cons,ih]
theorem Ye (l:List (Int×Int)):l.filterMap (fun s=>if s.1=0 then some (AV.int s.2) else none)=(bt l).map .int:=by
 unfold bt
 rw[List.map_filterMap]
 congr 1
 funext s
 split<;>rfl
section
variable {Z:Program}{G:Gd}{p:Params}{d:Nat}{H H0 H1:AH}{X:AH→Prop}
theorem rL (c:Cx Z G p){cv:AV}{u:Int}{Q:AV→AH→Prop}(hu:u<1)(h2:∀H',Sub H H'→X H'):aw Z G BA (d+5) 324 [cv,.int u] H Q X:=by
 refine c.cls (mY p) fun a dx az ha hd=>c.fn (fP p) rfl fun H0 cf yV _ _=>?_
 have s0:Sub H H0:=fun b o k q=>yV b o k (by
  have z1:b≠a:=fun z=>by subst z;rw[ha] at q;cases q
  have z2:b≠dx:=fun z=>by subst z;rw[hd] at q;cases q
  rw[AH.ae _ _ z1,AH.ae _ _ z2];exact q)
 exact aO (fun z=>⟨by lia,rfl,fun H2 s2=>h2 _ (s0.trans s2)⟩) fun z=>absurd hu z
theorem bM (c:Cx Z G p){f:Addr}{cl:zH}{bV:List (Str×Addr)}{Q:AV→AH→Prop}(hf:H f=some (.func cl bV))(h:∀H0,Sub H H0→HU Z G BA d bV cl [] H0 (fun _ H1=>Q (.bool false) H1) (fun H1=>Q (.bool true) H1)):
  aw Z G BA (d+2) 603 [.ref f] H Q X:=by
 refine c.fn (za p) rfl fun H0 cf hs _ _=>?_
 refine⟨.inr ⟨_,_,hs _ _ rfl hf⟩,aw.mono (c.bV (hs _ _ rfl hf) (h _ hs)) (fun v H1 q=>q) fun H1 q=>⟨rfl,q⟩⟩
end
section
set_option maxHeartbeats 2000000
section
variable {Z:Program}{G:Gd}{p:Params}{d:Nat}{H H0 H1:AH}{X:AH→Prop}
theorem bw.refl (b:Addr)(H:AH):bw b H H:=fun _ _ _ _ e=>e
theorem bw.s {n:Int}{K:Nat}{b:Addr}{H H':AH}(s:bw b H H')(hb:aY n K H b):jb H H':=fun a o k e=>s a o (fun z=>by
 exact hb.casesOn fun _ _ _ e' _=>by rw[z,e'] at e;cases e;cases k) (mI k) e
structure LG (Z:Program)(G:Gd)(d:Nat)(n:Int)(K:Nat)(b cB cC:Addr)(pv cv:AV)(P:Pr)(H:AH):Prop where
 gB:H cB=some (.cell (some (.ref b)))
 gC:H cC=some (.cell (some cv))
 lp:bQ Z G d pv P H
 bg:aY n K H b
theorem LG.sub {Z G d n K b cB cC pv cv P H H'}(h:LG Z G d n K b cB cC pv cv P H)(s:Sub H H'):LG Z G d n K b cB cC pv cv P H':=⟨s _ _ rfl h.gB,s _ _ rfl h.gC,h.lp.sub s,h.bg.sub s⟩
theorem LG.take {Z G d n K K' b cB cC pv cv P H H'}(h:LG Z G d n K b cB cC pv cv P H)(hB:cB≠b)(hC:cC≠b)(s:bw b H H')(hb:aY n K' H' b):LG Z G d n K' b cB cC pv cv P H':=⟨s _ _ hB rfl h.gB,s _ _ hC rfl h.gC,h.lp.GX (s.s h.bg),hb⟩
theorem dE.deeper {Z:Program}{G:Gd}{d d':Nat}{pv:AV}{P:Pr}(h:dE Z G d pv P)(l:d≤d'):dE Z G d' pv P:=by
 show let P:=_;P;intro P
 obtain⟨C,fs,fl,fm,e,m1,n1,m2,n2,h⟩:=h
 exact⟨C,fs,fl,fm,e,m1,n1,m2,n2,fun H=>⟨fun x=>((h H).1 x).deeper l,fun n x a b c e=>((h H).2 n x a b c e).deeper l⟩⟩
theorem Oh:∀{l:List (Int×Int)},(∀s∈l,cQ s)→fR (l.filterMap fun s=>some (AV.int (max 1 s.1)))=some (l.map bh).sum
 | [],_=>rfl
 | s::l,h=>by
  have e:bh s=max 1 s.1:=by have o:=h s (.head _);unfold cQ at o;unfold bh;split<;>lia
  simp only [List.filterMap_cons,fR,Oh fun s' h'=>h s' (.tail _ h'),Option.map_some,List.map_cons,List.sum_cons,e]
theorem HW (c:Cx Z G p){l m:List (Int×Int)}{u:Nat}{n:Int}{K:Nat}{b cB cC:Addr}{cv pv ov:AV}{x7 y5:Option AV}{Q:AV→AH→Prop}(hm:m.length≤1000)(Gr:∀s∈m,fH s)(hu:1≤u∧u≤16)
  (h:LG Z G (d+6) n (K+1) b cB cC pv cv (xL l u) H) (op':dE Z G (d+4) ov (xL l u)) (nB:cB≠b) (nC:cC≠b) (hQ:∀H',bw b H H'→aY n K H' b→Q (.bool true) H'):
  aU Z G BA (d+7) fe [some (.lst (l.map aH)),some (.int u),some (.ref cB),some (.ref cC),some pv,y5,some ov,x7,some (.lst (m.map aH)),none,none,none,none] H (d6 Q) X:=by
 have hok:∀s∈m,cQ s:=fun s hs=>(Gr s hs).1
 have op:=op'.deeper (Nat.le_add_right (d+4) 2)
 refine c.call (Ti p) ((xG c (by lia) Gr op _ _ fun H1 s1=>?_))
 have st1:=h.sub s1
 refine c.call (Tp p) ((xD c (by lia) hok st1.lp _ _ fun H2 s2=>sj rfl ?_))
 have st2:=st1.sub s2
 have ml:(m.map aH).length≤100000:=by rw[List.length_map];lia
 refine c.call (aeX p) (OY c hm _ _ fun H3 s3=>⟨ml,fun H4 s4=>?_⟩)
 have st4:=(st2.sub s3).sub s4
 refine cK (src:= .items (m.map aH)) (base:=[some (.lst (l.map aH)),some (.int u),some (.ref cB),some (.ref cC),some pv,y5,some ov,x7,some (.lst (m.map aH)),none,none,none,none]) aH
  (fun s=>some (.int (max 1 s.1))) 2 (fun _ _=>trivial) (by lia) rfl (fun H5 h5 H6 h6=>?_) fun s w H' K hm hw h3 k=>?_
 rotate_left
 ·show let P:=_;P;intro P
  obtain⟨x,y,rfl⟩:=By hw
  exact⟨rfl,ltI rfl,ltI rfl,rfl,k [some (.int s.1),some (.int s.2)] H' rfl h3⟩
 refine⟨_,(m.map bh).sum,rfl,Oh hok,Nat.le_trans (List.length_filterMap_le ..) (by lia),sj rfl ?_⟩
 have st6:=(st4.sub h5).sub h6
 have sb6:=(((((s1.trans s2).trans s3).trans s4).trans h5).trans h6)
 refine⟨ml,fun H7 s7=>?_⟩
 refine forM (src:= .items (m.map aH)) aH (fun r σ H'=>Sub H6 H'∧(∀s∈r,fH s)∧∃a b e f:Option AV,σ=[some (.lst (l.map aH)),some (.int u),some (.ref cB),some (.ref cC),some pv,y5,some ov,x7,some (.lst (m.map aH)),a,b,e,f])
  (fun _ _ _ _=>trivial) (fun σ H' h H8 s8=>?_) (fun s r σ H' K h k _ _=>?_) m _ _ ⟨s7,Gr,_,_,_,_,rfl⟩
 ·show let P:=_;P;intro P
  obtain⟨h1,_,a,b,e,f,rfl⟩:=h
  have st8:=(st6.sub h1).sub s8
  have sb8:=(sb6.trans h1).trans s8
  refine fun fa H9 s9 hf=>c.call (Tq p) (bM c hf fun alo aie=>⟨rfl,fun LI afl=>?_⟩)
  have uO:=aie.trans afl
  have Z0:=(st8.sub s9).sub uO
  have ais:=(sb8.trans s9).trans uO
  refine⟨_,Z0.gC,_,Z0.gB,c.call (aX p) (ay c 2 Z0.bg (by decide) (by decide) fun zI x hx N8 b11=>?_)⟩
  exact c.call (Iy p) (rL c (Int.lt_of_le_of_lt (Int.neg_nonpos_of_nonneg (Int.natCast_nonneg x)) (by decide)) fun xW zn=>hQ _ ((ais.b.trans N8).trans zn.b) (b11.sub zn))
 ·show let P:=_;P;intro P
  obtain⟨h1,hr,a,b,e,f,rfl⟩:=h
  have o:=hr s (.head _)
  have nx:=fun s' h'=>hr s' (.tail _ h')
  have o2:0≤s.2:=by rcases o.1 with h | h<;>lia
  have o3:s.2<2^62:=by have :=o.2.2;lia
  have Vt:=st6.sub h1
  have slots:∀H8:AH,Sub H' H8→∀v:AV,aU Z G BA (d+7) fM [some (.lst (l.map aH)),some (.int u),some (.ref cB),some (.ref cC),some pv,y5,some ov,x7,some (.lst (m.map aH)),some (.int s.1),some (.int s.2),some v,f] H8 K (fun _=>False):=fun H8 s8 v=>by
   refine c.call (md p) (ew c o2 o3 _ _ fun H9 s9=>c.call (mf p) (dH c o2 _ _ fun LI uO=>⟨rfl,rfl,fun q hq=>rt hq (fun z=>absurd rfl z) fun _=>?_⟩))
   exact k _ _ ⟨((h1.trans s8).trans s9).trans uO,nx,_,_,_,_,rfl⟩
  refine⟨rfl,ltI rfl,ltI rfl,rfl,aO (fun z=>?_) fun z=>?_⟩
  ·refine(Vt.lp.deeper (Nat.le_succ (d+6))).lit (fun _ z=>z) fun H8 s8=>⟨ltI rfl,aO (fun _=>?_) fun n=>absurd z n⟩
   exact(op.deeper (Nat.le_succ _)).literal c (fun _ z=>z) fun H9 s9=>sj rfl (slots H9 (s8.trans s9) _)
  ·have o4:2≤s.1∧1≤s.2:=by rcases o.1 with h | h<;>lia
   refine(Vt.lp.deeper (Nat.le_succ (d+6))).oh (fun _ z=>z) o4.1 o4.2 fun H8 s8=>⟨ltI rfl,aO (fun n=>absurd n z) fun _=>?_⟩
   exact(op.deeper (Nat.le_succ _)).match c (fun _ z=>z) o4.1 o4.2 o.2.1 o.2.2 fun H9 s9=>sj rfl (slots H9 (s8.trans s9) _)
theorem qC (c:Cx Z G p){l:List (Int×Int)}{u:Nat}{n:Int}{K:Nat}{b:Addr}{Q:AV→AH→Prop}(hl:2≤l.length∧l.length≤8)(ho:∀s∈l,T6 s)(hu:1≤u∧u≤16)(hb:aY n (K+4) H b)
  (hQ:∀H',bw b H H'→aY n K H' b→Q (.bool true) H'):aw Z G BA (d+8) 608 [.lst (l.map aH),.int u,.ref b] H Q X:=by
 have iv:∀s∈l,cQ s:=fun s hs=>(ho s hs).1
 have Gr:∀s∈l,fH s:=fun s hs=>⟨(ho s hs).1,by have :=(ho s hs).2.1;lia,by have :=(ho s hs).2.2;lia⟩
 refine c.fn (pG p) rfl fun H0 cf hs hc hi=>?_
 have mB:VK.ar "bag"∈dq:=List.mem_of_getElem? (i:=2) rfl
 have mC:VK.ar "counts"∈dq:=List.mem_of_getElem? (i:=3) rfl
 have nBC:cf "bag"≠cf "counts":=fun z=>absurd (hi _ _ mB mC z) (by decide+kernel)
 have nB:aq H (cf "bag"):=fun o k e=>by rw[(hc _ mB).1] at e;cases e
 have nC:aq H (cf "counts"):=fun o k e=>by rw[(hc _ mC).1] at e;cases e
 have bB:b≠cf "bag":=fun z=>hb.casesOn fun _ _ _ e _=>nB _ rfl (z▸e)
 have bC:b≠cf "counts":=fun z=>hb.casesOn fun _ _ _ e _=>nC _ rfl (z▸e)
 refine⟨_,(hc _ mB).2,?_⟩
 generalize r9:H0.set (cf "bag") (.cell (some (.ref b)))=H1
 have eB:H1 (cf "bag")=some (.cell (some (.ref b))):=by rw[←r9,AH.ag]
 have eC:H1 (cf "counts")=some (.cell none):=by rw[←r9,AH.ae _ _ (Ne.symm nBC)];exact(hc _ mC).2
 have s1:Sub H H1:=r9▸hs.aE nB
 refine c.call (Tj p) (tQ c (by lia) iv _ _ fun H2 s2=>?_)
 refine c.call (To p) (rf c (by lia) iv hu.2 fun H3 pv s3 lp=>?_)
 have t3:=s2.trans s3
 refine⟨rfl,_,t3 _ _ rfl eC,ltI rfl,rfl,?_⟩
 have aiJ:jb H3 (H3.set (cf "counts") (.cell (some (tZ l)))):=fun a o k e=>by
  have z:a≠cf "counts":=fun z=>by rw[z,t3 _ _ rfl eC] at e;cases e;cases k
  exact(AH.ae _ _ z).trans e
 have st4:LG Z G (d+6) n (K+4) b (cf "bag") (cf "counts") pv (tZ l) (xL l u) (H3.set (cf "counts") (.cell (some (tZ l)))):=
  ⟨by rw[AH.ae _ _ nBC];exact t3 _ _ rfl eB,AH.ag ..,(lp.deeper (by lia)).GX aiJ,hb.sub ((s1.trans t3).aE nC)⟩
 have s4:Sub H (H3.set (cf "counts") (.cell (some (tZ l)))):=(s1.trans t3).aE nC
 generalize H3.set (cf "counts") (.cell (some (tZ l)))=H4 at st4 s4
 have ll:(l.map aH).length≤100000:=by rw[List.length_map];lia
 refine⟨ll,fun H5 s5=>?_⟩
 refine cK (src:= .items (l.map aH)) (base:=[some (.lst (l.map aH)),some (.int u),some (.ref (cf "bag")),some (.ref (cf "counts")),some pv,none,none,none,none,none,none,none,none]) aH
  (fun s=>if s.1=0 then some (.int s.2) else none) 2 (fun _ _=>trivial) (by lia) rfl (fun H6 h6 H7 h7=>?_) fun s w H' K hm hw h3 k=>?_
 rotate_left
 ·obtain⟨x,y,rfl⟩:=By hw
  refine⟨rfl,ltI rfl,ltI rfl,rfl,aO (fun z=>?_) fun z=>?_⟩
  ·have k:=k [some (.int s.1),some (.int s.2)] H' rfl h3
   rw[if_pos z] at k;exact k
  ·have k:=k [some (.int s.1),some (.int s.2)] H' rfl h3
   rw[if_neg z] at k;exact k
 rw[Ye]
 have lL:(bt l).length≤8:=Nat.le_trans (List.length_filterMap_le ..) hl.2
 have lN:(bZ l).length≤8:=Nat.le_trans (List.length_filterMap_le ..) hl.2
 have lD:(dm l).length≤8:=Nat.le_trans (List.length_filterMap_le ..) hl.2
 have lo:=BB iv
 refine c.call (uk p) (fx c (by lia) _ _ fun H8 s8=>⟨ltI rfl,?_⟩)
 have tT:(aI (bt l)).length≤8:=Nat.le_trans (dh _) lL
 have dl:(dA (aI (bt l))).length≤100000:=by rw[abi];lia
 have st8:=st4.sub (((s5.trans h6).trans h7).trans s8)
 have sb8:bw b H H8:=(s4.trans (((s5.trans h6).trans h7).trans s8)).b
 have pos:=fun q hq=>ir (ms:=bt l) q hq
 refine⟨dl,fun H9 s9=>?_⟩
 rw[kA]
 refine cK (src:= .items _) (base:=[some (.lst (l.map aH)),some (.int u),some (.ref (cf "bag")),some (.ref (cf "counts")),some pv,some (.dC (dA (aI (bt l)))),none,none,none,none,none,none,none]) (fun x:Int×Int=>AV.int x.1) (fun _=>none) 1 (fun _ _=>trivial) (by lia) rfl (fun LI MI zI wy=>?_) fun q w H' K hm hw h3 k=>?_
 rotate_left
 ·obtain⟨x,rfl⟩:=jB hw
  obtain⟨p1,p2,p3⟩:=pos q hm
  have lw:=lo _ p3
  have i1:itemAt ((cW (bt l)).map AV.int) q.1=some (.int q.2):=by
   unfold itemAt
   rw[if_neg (by lia),List.getElem?_map,fW (by lia),show((q.1.toNat:Nat):Int)=q.1 by lia,←(bX (bt l)).get q.1,p2];rfl
  have Vt:=(st8.sub s9).sub h3
  exact⟨ltI rfl,_,Vt.gC,c.at (bU p),_,rfl,rfl,by lia,by lia,_,i1,.int q.2,by rw[dS,p2];rfl,sj rfl (k [some (.int q.1)] H' rfl h3)⟩
 have ez:(aI (bt l)).filterMap (fun _=>(none:Option AV))=[]:=by
  induction aI (bt l) with
  | nil=>rfl
  | cons _ _ ih=>rw[List.filterMap_cons];exact ih
 refine(ez)▸?_
 refine .inl ⟨_,_,rfl,rfl,rfl,rfl,fun r hr=>rt hr (fun z=>absurd rfl z) fun _=>?_⟩
 have adi:=((st8.sub s9).sub MI).sub wy
 have ait:bw b H zI:=sb8.trans ((s9.trans MI).trans wy).b
 refine⟨_,adi.gC,c.at (bU p),_,rfl,rfl,_,_,rfl,DI _,by rw[List.length_map,fX];decide,?_⟩
 refine⟨dl,fun xW zn=>?_⟩
 show dk (Src.items ((dA (aI (bt l))).map fun p=>AV.int p.1)) _ ((dA (aI (bt l))).map fun p=>AV.int p.1) _ _ _ _
 rw[kA]
 refine cK (src:= .items _) (base:=[some (.lst (l.map aH)),some (.int u),some (.ref (cf "bag")),some (.ref (cf "counts")),some pv,some (.dC (dA (aI (bt l)))),none,none,none,none,none,none,none]) (fun x:Int×Int=>AV.int x.1) (fun x=>some (.int x.2)) 1 (fun _ _=>trivial) (by lia) rfl (fun H13 h13 H14 h14=>?_) fun q w H' K hm hw h3 k=>?_
 rotate_left
 ·obtain⟨x,rfl⟩:=jB hw
  exact⟨ltI rfl,_,by rw[dS,(pos q hm).2.1];rfl,k _ H' rfl h3⟩
 refine⟨_,_,rfl,Og _,Nat.le_trans (List.length_filterMap_le ..) (by lia),sj (by rw[qm lo,iq]) ?_⟩
 have Od:=((adi.sub zn).sub h13).sub h14
 have aiu:bw b H H14:=ait.trans ((zn.trans h13).trans h14).b
 refine⟨_,Od.gC,c.at (cg p),_,rfl,rfl,ll,fun H15 s15=>?_⟩
 refine cK (src:= .items (l.map aH)) (base:=[some (.lst (l.map aH)),some (.int u),some (.ref (cf "bag")),some (.ref (cf "counts")),some pv,some (.dC (dA (aI (bt l)))),none,none,none,none,none,none,none]) aH
  (fun s=>if s.1>0 then some (.int s.1) else none) 2 (fun _ _=>trivial) (by lia) rfl (fun H16 h16 H17 h17=>?_) fun s w H' K hm hw h3 k=>?_
 rotate_left
 ·obtain⟨x,y,rfl⟩:=By hw
  refine⟨rfl,ltI rfl,ltI rfl,rfl,aO (fun z=>?_) fun z=>?_⟩
  ·have k:=k [some (.int s.1),some (.int s.2)] H' rfl h3
   rw[if_pos z] at k;exact k
  ·have k:=k [some (.int s.1),some (.int s.2)] H' rfl h3
   rw[if_neg z] at k;exact k
 rw[Gz iv]
 refine c.call (uk p) (fx c (by lia) _ _ fun H18 s18=>.inr ⟨_,_,rfl,rfl,zw _,zw _,fun r hr=>SO (bX _).1 hr ?_⟩)
 have adj:=((Od.sub s15).sub h16).sub h17 |>.sub s18
 have aiv:bw b H H18:=aiu.trans (((s15.trans h16).trans h17).trans s18).b
 refine⟨_,adj.gC,c.at (bL p),_,rfl,rfl,ll,fun H19 s19=>?_⟩
 refine cK (src:= .items (l.map aH)) (base:=[some (.lst (l.map aH)),some (.int u),some (.ref (cf "bag")),some (.ref (cf "counts")),some pv,some (.dC (dA (aI (bt l)))),none,none,none,none,none,none,none]) aH
  (fun s=>if s.1>0 then some (.int s.2) else none) 2 (fun _ _=>trivial) (by lia) rfl (fun H20 h20 H21 h21=>?_) fun s w H' K hm hw h3 k=>?_
 rotate_left
 ·obtain⟨x,y,rfl⟩:=By hw
  refine⟨rfl,ltI rfl,ltI rfl,rfl,aO (fun z=>?_) fun z=>?_⟩
  ·have k:=k [some (.int s.1),some (.int s.2)] H' rfl h3
   rw[if_pos z] at k;exact k
  ·have k:=k [some (.int s.1),some (.int s.2)] H' rfl h3
   rw[if_neg z] at k;exact k
 rw[Gj iv]
 refine c.call (uk p) (fx c (by lia) _ _ fun H22 s22=>.inr ⟨_,_,rfl,rfl,zw _,zw _,fun r hr=>SO (bX _).1 hr ?_⟩)
 have adk:=((adj.sub s19).sub h20).sub h21 |>.sub s22
 have aiw:bw b H H22:=aiv.trans (((s19.trans h20).trans h21).trans s22).b
 refine⟨_,adk.gC,c.call (Iy p) (oV c (by lia) Gr hu.2 (fun _ H23 ov s23 op=>?_) fun z=>by lia)⟩
 have Z1:=adk.sub s23
 have nB':cf "bag"≠b:=Ne.symm bB
 have nC':cf "counts"≠b:=Ne.symm bC
 refine⟨_,Z1.gB,c.call (aX p) (ay c 300 Z1.bg (by decide) (by decide) fun H24 x24 z24 s24 b24=>?_)⟩
 have Z2:=Z1.take nB' nC' s24 b24
 refine⟨_,Z2.gB,by decide,by decide,by decide,by decide,c.call (aX p) (ay c 1000000 Z2.bg (by decide) (by decide) fun H25 x25 z25 s25 b25=>?_)⟩
 have Z3:=Z2.take nB' nC' s25 b25
 refine⟨rfl,ltI rfl,ltI rfl,rfl,_,Z3.gB,c.call (aX p) (ay c 256 Z3.bg (by decide) (by decide) fun H26 x26 z26 s26 b26=>?_)⟩
 have aiE:=Z3.take nB' nC' s26 b26
 have aix:bw b H H26:=(((aiw.trans s23.b).trans s24).trans s25).trans s26
 let l2:List (Int×Int):=l++[((0:Int),(x26:Int)),((2:Int)+x24,(1:Int)+x25)]
 have HX:l.map aH++[.tup [.int 0,.int x26],.tup [.int (2+x24),.int (1+x25)]]=l2.map aH:=by show _=(l++_).map aH;rw[List.map_append];rfl
 have ll2:l2.length=l.length+2:=by show(l++_).length=_;rw[List.length_append];rfl
 have lw2:∀s∈l2,fH s:=fun s hs=>by
  rcases List.mem_append.mp hs with h | h
  ·exact Gr s h
  ·rcases List.mem_cons.mp h with rfl | h
   ·exact⟨.inl ⟨rfl,Int.natCast_nonneg x26,Int.ofNat_le.mpr (Nat.le_of_lt_succ z26)⟩,(by decide:(0:Int)<2^60),qi (Nat.le_of_lt z26) (by decide)⟩
   ·refine(List.mem_singleton.mp h)▸?_
    exact⟨.inr ⟨Int.ofNat_le.mpr (Nat.le_add_right 2 x24),Int.ofNat_le.mpr (Nat.le_add_right 1 x25)⟩,qi (m:=2+x24) (Nat.add_le_add_left (Nat.le_of_lt z24) 2) (by decide),qi (m:=1+x25) (Nat.add_le_add_left (Nat.le_of_lt z25) 1) (by decide)⟩
 refine⟨by rw[List.length_map];exact Nat.le_trans (Nat.add_le_add_right hl.2 2) (by decide),ltI rfl,?_⟩
 refine(HX)▸?_
 clear_value l2
 exact HW c (ll2▸Nat.le_trans (Nat.add_le_add_right hl.2 2) (by decide)) lw2 hu aiE op nB' nC' fun H' s' b'=>hQ H' (aix.trans s') b'
end
end
noncomputable def er (tx:List Int)(p q:Nat):Nat→Nat→Nat
 | 0,k=>k
 | f+1,k=>if tx[p+k]? =tx[q+k]? then er tx p q f (k+1) else k
theorem sW (tx:List Int)(p q:Nat):∀f k:Nat,k≤er tx p q f k∧er tx p q f k≤k+f∧(∀j,k≤j→j<er tx p q f k→tx[p+j]? =tx[q+j]?)∧(er tx p q f k<k+f→tx[p+er tx p q f k]? ≠tx[q+er tx p q f k]?)
 | 0,k=>⟨Nat.le_refl _,Nat.le_refl _,fun j a b=>absurd (Nat.lt_of_le_of_lt a b) (Nat.lt_irrefl _),fun h=>absurd h (Nat.lt_irrefl _)⟩
 | f+1,k=>by
  rw[er]
  by_cases e:tx[p+k]? =tx[q+k]?
  ·rw[if_pos e]
   obtain⟨a,b,c,x⟩:=sW tx p q f (k+1)
   refine⟨Nat.le_of_succ_le a,Nat.le_trans b (Nat.le_of_eq (Nat.add_right_comm k 1 f)),fun j h1 h2=>?_,fun h=>x (Nat.lt_of_lt_of_le h (Nat.le_of_eq (Nat.add_right_comm k f 1)))⟩
   by_cases z:j=k
   ·rw[z];exact e
   ·exact c j (Nat.lt_of_le_of_ne h1 (Ne.symm z)) h2
  ·rw[if_neg e]
   exact⟨Nat.le_refl _,Nat.le_add_right _ _,fun j a b=>absurd (Nat.lt_of_le_of_lt a b) (Nat.lt_irrefl _),fun _=>e⟩
noncomputable def qR (tx:List Int)(p lim lo:Nat):Nat→Nat→List (Nat×Nat)
 | 0,_=>[]
 | q+1,L=>if q<lo then[] else if L<er tx p q lim 0 then(er tx p q lim 0,p-q)::qR tx p lim lo q (er tx p q lim 0) else qR tx p lim lo q L
structure aC where
 tx:List Int
 sh:Nat
 aP:Nat
 mo:Nat
noncomputable def aC.lim (z:aC)(p:Nat):Nat:=min z.mo (z.tx.length-p)
noncomputable def ba (z:aC)(p:Nat):List (Nat×Nat):=qR z.tx p (z.lim p) (p-min p z.aP) p (z.sh-1)
theorem Ll {tx:List Int}{p lim lo:Nat}:∀{q L:Nat},q≤p→∀m∈qR tx p lim lo q L,L<m.1∧m.1≤lim∧1≤m.2∧m.2≤p-lo∧m.2≤p
 | 0,_,_,m,h=>by cases h
 | q+1,L,hq,m,h=>by
  rw[qR] at h
  have b:=(sW tx p q lim 0).2.1
  split at h
  ·cases h
  ·split at h
   ·rcases List.mem_cons.mp h with rfl | h
    ·exact⟨by assumption,Nat.le_trans b (Nat.le_of_eq (Nat.zero_add lim)),Nat.sub_pos_of_lt hq,Nat.sub_le_sub_left (Nat.not_lt.mp (by assumption)) p,Nat.sub_le p q⟩
    ·have :=Ll (Nat.le_of_succ_le hq) m h;exact⟨Nat.lt_trans (by assumption) this.1,this.2⟩
   ·exact Ll (Nat.le_of_succ_le hq) m h
theorem jC {z:aC}{p:Nat}:∀m∈ba z p,z.sh-1<m.1∧m.1≤z.lim p∧1≤m.2∧m.2≤z.aP∧m.2≤p:=fun m h=>by
 have :=Ll (Nat.le_refl _) m h
 exact⟨this.1,this.2.1,this.2.2.1,Nat.le_trans this.2.2.2.1 (Nat.le_trans (Nat.le_of_eq (Nat.sub_sub_self (Nat.min_le_left p z.aP))) (Nat.min_le_right p z.aP)),this.2.2.2.2⟩
theorem uP {tx:List Int}{p lim lo:Nat}:∀q L:Nat,(qR tx p lim lo q L).length≤q
 | 0,_=>Nat.le_refl _
 | q+1,L=>by
  rw[qR]
  split
  ·exact Nat.zero_le _
  ·split
   ·exact Nat.succ_le_succ (uP q _)
   ·exact Nat.le_succ_of_le (uP q L)
theorem mh:∀(l:List (Int×AV)) (k:Int) (v:AV) (j:Int),bo (fQ l k v) j=if j=k then some v else bo l j
 | [],k,v,j=>by
  unfold bo fQ
  by_cases e:j=k
  ·subst e;simp
  ·rw[if_neg e,List.find?_cons_of_neg (by simpa using Ne.symm e)]
 | (x,w)::r,k,v,j=>by
  have ih:=mh r k v j
  unfold bo at *
  unfold fQ
  by_cases e:x=k
  ·subst e
   rw[if_pos rfl]
   by_cases e':j=x
   ·subst e';simp
   ·rw[if_neg e',List.find?_cons_of_neg (by simpa using Ne.symm e'),List.find?_cons_of_neg (by simpa using Ne.symm e')]
  ·rw[if_neg (show¬(x,w).1=k from e)]
   by_cases e':x=j
   ·subst e';rw[if_neg e];simp
   ·rw[List.find?_cons_of_neg (by simpa using e'),ih,List.find?_cons_of_neg (by simpa using e')]
theorem qh:∀(l:List (Int×AV)) (k:Int) (v:AV),(fQ l k v).length≤l.length+1
 | [],_,_=>Nat.le_refl _
 | x::r,k,v=>by
  unfold fQ
  split
  ·exact Nat.le_succ _
  ·exact Nat.succ_le_succ (qh r k v)
theorem sy:∀{l:List (Int×AV)} {k:Int} {v:AV},bo l k≠none→(fQ l k v).length=l.length
 | [],_,_,h=>absurd rfl h
 | x::r,k,v,h=>by
  unfold fQ
  by_cases e:x.1=k
  ·rw[if_pos e];rfl
  ·rw[if_neg e]
   have :bo r k≠none:=fun z=>h (by unfold bo at *;rw[List.find?_cons_of_neg (by simpa using e)];exact z)
   exact congrArg (· +1) (sy this)
section
set_option maxHeartbeats 2000000
noncomputable abbrev mA (m:Nat×Nat):AV:= .tup [.int m.1,.int m.2]
theorem forR {src:Src}{Q:Fl→Sg→AH→Prop}{lo:Int}{n:Nat}{step:AV→Sg→AH→(Fl→Sg→AH→Prop)→Prop}(I:Nat→Sg→AH→Prop)(hh:∀H:AH,src.here H)(hn:∀σ H,I n σ H→∀H',Sub H H'→Q .next σ H')
  (hc:∀i σ H K,i<n→I i σ H→(∀σ' H',I (i+1) σ' H'→K .next σ' H')→(∀σ' H',Q .next σ' H'→K .brk σ' H')→step (.int (lo+(i:Int))) σ H K) {σ:Sg} {H:AH} (h:I 0 σ H):
  gH src step ((List.range n).map fun i:Nat=>.int (lo+(i:Int))) σ H Q:=by
 have key:∀k i,i+k=n→∀σ H,I i σ H→gH src step ((List.range' i k).map fun i:Nat=>.int (lo+(i:Int))) σ H Q:=by
  intro k
  induction k with
  | zero=>intro i e σ H h;exact⟨hh _,hn _ _ (by rw[←e];exact h)⟩
  | succ k ih=>intro i e σ H h;rw[List.range'_succ,List.map_cons];exact⟨hh _,hc i σ H _ (by lia) h (fun σ' H' h'=>ih (i+1) (by lia) σ' H' h') (fun _ _ q=>q)⟩
 refine(List.range_eq_range')▸?_
 exact key n 0 (Nat.zero_add n) σ H h
theorem orB {P A B:Prop}{r:Bool}(hr:r=true↔P)(h1:P→B)(h2:¬P→A):if r=false then A else B:=by
 cases r
 ·rw[if_pos rfl];exact h2 fun z=>absurd (hr.mpr z) (by decide)
 ·rw[if_neg (by decide)];exact h1 (hr.mp rfl)
theorem alp {P:Prop}[Decidable P]{A B:Prop}(h1:P→A)(h2:¬P→B):if decide P=true then A else B:=aO h1 h2
section
variable {Z:Program}{G:Gd}{p:Params}{d:Nat}{H H0 H1:AH}{X:AH→Prop}
theorem PE {α:Type}{f:α→AV}{l:List α}{m:α}:itemAt ((l++[m]).map f) (-1)=some (f m):=by
 rw[List.map_append]
 show itemAt (l.map f++[f m]) (-1)=_
 unfold itemAt
 have e:(-1+((l.map f++[f m]).length:Int)).toNat=l.length:=by
  rw[List.length_append,List.length_map,List.length_singleton,Int.natCast_add,Int.add_comm,Int.add_assoc];exact Int.toNat_natCast _
 rw[if_pos (by decide),if_pos (by rw[List.length_append];exact Int.ofNat_le.mpr (Nat.le_add_left 1 _)),e,List.getElem?_append_right (Nat.le_of_eq (List.length_map f)),List.length_map,Nat.sub_self];rfl
theorem GY {p i:Nat}(h:i<p):p-i=p-(i+1)+1:=(Nat.succ_pred_eq_of_pos (Nat.sub_pos_of_lt h)).symm
noncomputable def stM (z:aC)(pl:Nat)(fo:Addr)(a b:Option AV):Sg:=[some (.bytes z.tx),some (.int pl),some (.tup [.int z.sh,.int z.aP,.int z.mo]),some (.int z.sh),some (.int z.aP),some (.int z.mo),some (.ref fo),a,b]
inductive LR (z:aC)(L:Nat):List (Nat×Nat)→Prop
 | nil (e:L=z.sh-1):LR z L []
 | snoc (fd:List (Nat×Nat)) (m:Nat×Nat) (e:L=m.1) (hs:z.sh≤m.1):LR z L (fd++[m])
inductive MO (z:aC)(pl mn:Nat)(fo:Addr)(H:AH)(i:Nat):Sg→AH→Prop
 | mk (H1:AH) (fd:List (Nat×Nat)) (L:Nat) (a b:Option AV) (s:Sub H H1) (e:H1 fo=some (.list (fd.map mA))) (em:ba z pl=fd++qR z.tx pl (z.lim pl) (pl-mn) (pl-i) L) (hL:LR z L fd) (hl:fd.length≤i):MO z pl mn fo H i (stM z pl fo a b) H1
inductive MW (z:aC)(pl:Nat)(fo:Addr)(i:Nat)(H1:AH)(n:Nat):Sg→AH→Prop
 | mk (H':AH) (kk:Nat) (s:Sub H1 H') (hk:kk≤z.lim pl) (hn:n+kk=z.tx.length) (ea:er z.tx pl (pl-(i+1)) (z.lim pl) 0=er z.tx pl (pl-(i+1)) (z.lim pl-kk) kk):MW z pl fo i H1 n (stM z pl fo (some (.int (1+(i:Int)))) (some (.int kk))) H'
theorem aa4 (fd:List (Nat×Nat)):isData 8 (.lst (fd.map mA))=true:=List.all_eq_true.mpr fun x hx=>by
 obtain⟨m,_,rfl⟩:=List.mem_map.mp hx
 rfl
theorem ab7 {z:aC}{pl mn i kk L:Nat}{fo:Addr}{fd:List (Nat×Nat)}{K:Fl→Sg→AH→Prop}(ht:z.tx.length≤14)(hp:pl<z.tx.length)(hs:1≤z.sh)(hm:mn≤pl)(hi:i<mn)(dY:aq H fo)(s:Sub H H1)(e3:H1 fo=some (.list (fd.map mA)))(em:ba z pl=fd++qR z.tx pl (z.lim pl) (pl-mn) (pl-i) L)(hL:LR z L fd)(hl:fd.length≤i)
  (ek:er z.tx pl (pl-(i+1)) (z.lim pl) 0=kk) (k:∀σ' H',MO z pl mn fo H (i+1) σ' H'→K .next σ' H'):aU Z G BA d dO (stM z pl fo (some (.int (1+(i:Int)))) (some (.int kk))) H1 K (fun _=>False):=by
 have hn:¬pl-(i+1)<pl-mn:=Nat.not_lt.mpr (Nat.sub_le_sub_left hi pl)
 rw[GY (Nat.lt_of_lt_of_le hi hm),qR,if_neg hn,ek,Nat.sub_sub_self (Nat.le_trans hi hm)] at em
 have no:¬(L<kk)→K .next (stM z pl fo (some (.int (1+(i:Int)))) (some (.int kk))) H1:=fun n=>k _ _ ⟨_,fd,L,_,_,s,e3,em.trans (congrArg _ (if_neg n)),hL,Nat.le_succ_of_le hl⟩
 have yes:L<kk→z.sh≤kk→aU Z G BA d jw (stM z pl fo (some (.int (1+(i:Int)))) (some (.int kk))) H1 K (fun _=>False):=fun n n2=>by
  refine .inr (.inl ⟨_,e3,rfl,_,e3,?_,k _ _ ⟨_,fd++[(kk,i+1)],kk,_,_,s.aE dY,?_,?_,.snoc fd (kk,i+1) rfl n2,?_⟩⟩)
  ·rw[List.length_map];exact Nat.le_trans hl (Nat.le_trans (Nat.le_of_lt hi) (Nat.le_trans hm (Nat.le_trans (Nat.le_of_lt hp) (Nat.le_trans ht (by decide)))))
  ·rw[AH.ag,List.map_append,Int.add_comm];rfl
  ·rw[em,if_pos n,List.append_assoc];rfl
  ·rw[List.length_append];exact Nat.succ_le_succ hl
 have far:(kk:Int)≥z.sh∨¬(kk:Int)≥z.sh:=Decidable.em _
 refine aO (fun y=>?_) fun y=>no ?_
 ·have y':z.sh≤kk:=Int.ofNat_le.mp y
  refine .inl ⟨_,_,e3,rfl,aa4 fd,rfl,fun r hr=>?_⟩
  cases hL with
  | nil e=>exact orB hr (fun _=>yes (e▸Nat.lt_of_lt_of_le (Nat.sub_lt hs (by decide)) y') y') fun n=>absurd rfl n
  | snoc fd m e h'=>exact orB hr (fun y=>by simp at y) fun _=>.inl ⟨_,e3,by decide,by decide,_,PE,by decide,by decide,.int m.1,rfl,Dq (fun y=>yes (e▸Int.ofNat_lt.mp y) y') fun y=>no (e▸fun z=>y (Int.ofNat_lt.mpr z))⟩
 ·have y':kk<z.sh:=Nat.not_le.mp fun z=>y (Int.ofNat_le.mpr z)
  cases hL with
  | nil e=>exact e▸Nat.not_lt.mpr (Nat.le_sub_one_of_lt y')
  | snoc fd m e h'=>exact e▸Nat.not_lt.mpr (Nat.le_trans (Nat.le_of_lt y') h')
theorem Ts {z:aC}{p:Nat}:z.lim p≤z.tx.length-p:=Nat.min_le_right _ _
theorem Az (c:Cx Z G p){z:aC}{pl:Nat}(ht:z.tx.length≤14)(hp:pl<z.tx.length)(hs:1≤z.sh)(hw:z.aP≤40):
  Gives Z G (d+1) 584 [.bytes z.tx,.int pl,.tup [.int z.sh,.int z.aP,.int z.mo]] H (.lst ((ba z pl).map mA)):=by
 intro Q X hQ
 refine aw.fz c.ok (c.fn (y6 p) rfl fun H0 cf sb _ _=>?_)
 refine⟨rfl,ltI rfl,ltI rfl,ltI rfl,rfl,fun fo gn=>⟨ltI rfl,?_⟩⟩
 have dY:aq H fo:= .of sb gn
 have hm1:min pl z.aP≤pl:=Nat.min_le_left _ _
 have hm2:min pl z.aP≤14:=Nat.le_trans hm1 (Nat.le_trans (Nat.le_of_lt hp) ht)
 have em:min (pl:Int) z.aP=(min pl z.aP:Nat):=(Nat.le_total pl z.aP).elim (fun h=>by rw[Nat.min_eq_left h,Int.min_eq_left (Int.ofNat_le.mpr h)]) fun h=>by rw[Nat.min_eq_right h,Int.min_eq_right (Int.ofNat_le.mpr h)]
 have mA:(0:Int)≤min (pl:Int) z.aP+1:=em▸Int.natCast_nonneg (min pl z.aP+1)
 have mB:min (pl:Int) z.aP+1≤15:=em▸Int.ofNat_le.mpr (Nat.succ_le_succ hm2)
 have mC:(min (pl:Int) z.aP+1-1).toNat=min pl z.aP:=by rw[Int.add_sub_cancel,em];exact Int.toNat_natCast _
 refine⟨by decide,by decide,Int.lt_of_lt_of_le (by decide) mA,Int.lt_of_le_of_lt mB (by decide),by decide,by decide,Int.lt_of_lt_of_le (by decide) mA,Int.lt_of_le_of_lt mB (by decide),mC▸Nat.le_trans hm2 (by decide),fun H2 s2=>?_⟩
 refine mC▸?_
 refine forR (src:= .items _) (MO z pl (min pl z.aP) fo H) (fun _=>trivial) (fun σ H1 h=>MO.casesOn h fun H1 fd L a b h1 e em hL hl H' s=>⟨_,_,.list (s _ _ rfl e),?_⟩) (fun i σ H1 K hi h k _=>?_) ⟨_,[],z.sh-1,none,none,(sb.aE dY).trans s2,s2 _ _ rfl (AH.ag ..),rfl,.nil rfl,Nat.zero_le _⟩
 ·refine MO.casesOn h fun H1 fd L a b h1 e em hL hl=>⟨ltI rfl,ltI rfl,z.tx.length+1,?_⟩
  refine gc (MW z pl fo i H1) (fun n σ H3 K' hI next _=>MW.casesOn hI fun H3 kk h3 hk hn ek=>?_) z.tx.length _ _ ⟨_,0,Sub.refl _,Nat.zero_le _,rfl,rfl⟩
  have ip:i+1≤pl:=Nat.le_trans hi hm1
  have done:er z.tx pl (pl-(i+1)) (z.lim pl-kk) kk=kk→aU Z G BA d dO (stM z pl fo (some (.int (1+(i:Int)))) (some (.int kk))) H3 K (fun _=>False):=fun ea=>ab7 ht hp hs hm1 hi dY (h1.trans h3) (h3 _ _ rfl e) em hL hl (ek.trans ea) k
  have zero:z.lim pl≤kk→aU Z G BA d dO (stM z pl fo (some (.int (1+(i:Int)))) (some (.int kk))) H3 K (fun _=>False):=fun h=>done (by rw[Nat.sub_eq_zero_of_le h];rfl)
  have b0:(0:Int)≤(pl:Int)+kk:=Int.natCast_nonneg (pl+kk)
  refine aO (fun x1=>⟨Nat.le_trans ht (by decide),aO (fun x2=>?_) fun x2=>zero ?_⟩) fun x1=>zero (Nat.le_trans (Nat.min_le_left _ _) (Nat.not_lt.mp fun h=>x1 (Int.ofNat_lt.mpr h)))
  ·have x2':pl+kk<z.tx.length:=Int.ofNat_lt.mp x2
   have hk2:kk<z.lim pl:=Nat.lt_min.mpr ⟨Int.ofNat_lt.mp x1,Nat.lt_sub_of_add_lt (Nat.add_comm pl kk▸x2')⟩
   have qk:pl-(i+1)+kk<z.tx.length:=Nat.lt_of_le_of_lt (Nat.add_le_add_right (Nat.sub_le _ _) kk) x2'
   have cq:(pl:Int)-(1+(i:Int))+kk=(pl-(i+1)+kk:Nat):=by rw[Int.add_comm 1,Int.natCast_add,Int.ofNat_sub ip];rfl
   have EY:z.tx[pl+kk]? =some z.tx[pl+kk]:=List.getElem?_eq_getElem ..
   have EZ:z.tx[pl-(i+1)+kk]? =some (z.tx[pl-(i+1)+kk]'qk):=List.getElem?_eq_getElem ..
   obtain⟨f,hf⟩:∃f,z.lim pl-kk=f+1:=⟨_,GY hk2⟩
   have l62:∀n:Nat,n<z.tx.length→(n:Int)<2^62:=fun n h=>Int.lt_of_lt_of_le (Int.ofNat_lt.mpr (Nat.lt_of_lt_of_le h ht)) (by decide)
   have l5:z.tx.length≤100000:=Nat.le_trans ht (by decide)
   refine⟨l5,b0,l62 _ x2',_,EY,l5,(by rw[cq];exact Int.natCast_nonneg _),(by rw[cq];exact l62 _ qk),_,(by rw[cq];exact EZ),aO (fun x3=>?_) fun x3=>?_⟩
   ·refine⟨ltI rfl,next (z.tx.length-(kk+1)) _ _ (by lia) ⟨_,kk+1,h3,hk2,by lia,?_⟩⟩
    rw[ek,hf,er,EY,EZ,x3,if_pos rfl,show z.lim pl-(kk+1)=f from congrArg Nat.pred hf]
   ·exact done (by rw[hf,er,EY,EZ,if_neg (by simpa using x3)])
  ·exact Nat.le_trans Ts (Nat.sub_le_iff_le_add.mpr (Nat.add_comm kk pl▸Nat.not_lt.mp fun h=>x2 (Int.ofNat_lt.mpr h)))
 ·have :qR z.tx pl (z.lim pl) (pl-min pl z.aP) (pl-min pl z.aP) L=[]:=by
   cases hq:pl-min pl z.aP with
   | zero=>rfl
   | succ q=>rw[qR,if_pos (Nat.lt_succ_self q)]
  rw[this,List.append_nil] at em
  exact em▸hQ _ ((h1.trans s).c8 dY)
end
end
noncomputable def dB (ms:List (Nat×Nat))(P:Pr)(v:Int)(n:Nat):List ((Int×Int)×Int):=
 (if n=1 then[((0,v),P.lit v)] else[])++ms.filterMap fun m=>if 2≤n∧n≤m.1 then some (((n:Int),(m.2:Int)),P.oh n m.2) else none
noncomputable abbrev Cell:=Option (Int×(Int×Int))
noncomputable def upd (c:Int)(o:Cell)(w:(Int×Int)×Int):Cell:=match o with
 | none=>some (c+w.2,w.1)
 | some (x,s)=>if c+w.2<x then some (c+w.2,w.1) else some (x,s)
noncomputable def cst (o:Cell):Int:=match o with
 | none=>0
 | some (x,_)=>x
noncomputable def dZ (z:aC)(p:Nat):Int:=(z.tx[p]?).getD 0
noncomputable def vw (z:aC)(P:Pr)(st:Nat)(c:Int)(a g:Nat)(o:Cell):Cell:=if g-a=1∨z.sh≤g-a then(dB (ba z (st+a)) P (dZ z (st+a)) (g-a)).foldl (upd c) o else o
noncomputable def stepT (z:aC)(P:Pr)(st:Nat)(S:Nat→Cell)(a:Nat):Nat→Cell:=fun g=>if a<g then vw z P st (cst (S a)) a g (S g) else S g
noncomputable def eM:Nat→Cell:=fun g=>if g=0 then some (0,(0,0)) else none
noncomputable def da (z:aC)(p:Nat):Nat:=((ba z p).getLast?.map (·.1)).getD 0
noncomputable def tk (z:aC)(en:Option Nat)(p:Nat):Nat:=match en with
 | none=>1
 | some e=>if e≤da z p then da z p else 1
noncomputable def gp (z:aC)(en:Option Nat)(st n:Nat):Nat→Nat→List Nat
 | 0,_=>[]
 | f+1,a=>if a<n then a::gp z en st n f (a+tk z en (st+a)) else[]
noncomputable def fin (z:aC)(P:Pr)(st n:Nat)(en:Option Nat):Nat→Cell:=(gp z en st n n 0).foldl (stepT z P st) eM
noncomputable def qW (F:Nat→Cell):Nat→Nat→List (Int×Int)
 | 0,_=>[]
 | f+1,g=>if g=0 then[] else match F g with
  | none=>[]
  | some (_,s)=>s::qW F f (g-(bh s).toNat)
noncomputable def parse (z:aC)(P:Pr)(st n:Nat)(en:Option Nat):List (Int×Int):=(qW (fin z P st n en) n n).reverse
theorem aco {n a f t:Nat}(h:n≤a+(f+1))(r:1≤t):n≤a+t+f:=Nat.add_right_comm a f t▸Nat.le_trans h (Nat.add_le_add_left r (a+f))
theorem NW {s:Int}(h:1≤s):1≤s.toNat:=Int.toNat_le_toNat h
theorem sub_one {g f:Nat}{s:Int}(hg:g≤f+1)(h:1≤s):g-s.toNat≤f:=Nat.sub_le_of_le_add (Nat.le_trans hg (Nat.add_le_add_left (NW h) f))
theorem Oo {c:Int}:∀{ws:List ((Int×Int)×Int)} {o:Cell} {x:Int} {s:Int×Int},ws.foldl (upd c) o=some (x,s)→o=some (x,s)∨∃w∈ws,w.1=s
 | [],_,_,_,h=>.inl h
 | w::r,o,x,s,h=>by
  rw[List.foldl_cons] at h
  rcases Oo h with h | ⟨w',h,e⟩
  ·cases o with
   | none=>cases h;exact .inr ⟨w,.head _,rfl⟩
   | some q=>
    obtain⟨y,t⟩:=q
    unfold upd at h
    dsimp only at h
    split at h
    ·cases h;exact .inr ⟨w,.head _,rfl⟩
    ·exact .inl h
  ·exact .inr ⟨w',.tail _ h,e⟩
theorem Lx {c:Int}{o:Cell}{w:(Int×Int)×Int}:upd c o w≠none:=by
 cases o with
 | none=>intro h;cases h
 | some q=>
  obtain⟨y,t⟩:=q
  unfold upd
  dsimp only
  split<;>intro h<;>cases h
theorem u4 {c:Int}:∀{ws:List ((Int×Int)×Int)} {o:Cell},o≠none→ws.foldl (upd c) o≠none
 | [],_,h=>h
 | w::r,o,h=>by rw[List.foldl_cons];exact u4 Lx
theorem Ut {z P st c a g}{o:Cell}(h:o≠none):vw z P st c a g o≠none:=by
 unfold vw
 split
 ·exact u4 h
 ·exact h
theorem pV {z P st a g}{S:Nat→Cell}(h:S g≠none):stepT z P st S a g≠none:=by
 unfold stepT
 split
 ·exact Ut h
 ·exact h
theorem acE {z:aC}{P:Pr}{p n:Nat}{v:Int}(hz:z.tx.length≤14∧2≤z.sh∧z.aP≤40)(hv:0≤v∧v≤255)(hn:1≤n):∀w∈dB (ba z p) P v n,bh w.1=n∧fH w.1:=fun w h=>by
 unfold dB at h
 rcases List.mem_append.mp h with h | h
 ·split at h
  ·rename_i e
   rw[List.mem_singleton.mp h]
   subst e
   exact⟨rfl,.inl ⟨rfl,hv.1,hv.2⟩,by show(0:Int)<2^60;decide,Int.lt_of_le_of_lt hv.2 (by decide)⟩
  ·cases h
 ·obtain⟨m,hm,e⟩:=List.mem_filterMap.mp h
  split at e
  ·rename_i q
   cases e
   have o:=jC m hm
   have :m.1≤14:=Nat.le_trans o.2.1 (Nat.le_trans (Nat.min_le_right _ _) (Nat.le_trans (Nat.sub_le _ _) hz.1))
   refine⟨?_,.inr ⟨Int.ofNat_le.mpr q.1,Int.ofNat_le.mpr o.2.2.1⟩,qi (Nat.le_trans q.2 this) (by decide),qi (Nat.le_trans o.2.2.2.1 hz.2.2) (by decide)⟩
   show(if(n:Int)=0 then 1 else(n:Int))=n
   rw[if_neg (show¬(n:Int)=0 from fun e=>Nat.ne_of_gt hn (Int.ofNat.inj e))]
  ·cases e
theorem Gy {z:aC}{p:Nat}(h:da z p≠0):∃m∈ba z p,m.1=da z p:=by
 unfold da at *
 cases e:(ba z p).getLast? with
 | none=>rw[e] at h;exact absurd rfl h
 | some m=>exact⟨m,List.mem_of_getLast? e,rfl⟩
noncomputable def sV (S:Nat→Cell):Prop:=∀g c s,S g=some (c,s)→g=0∨(fH s∧1≤bh s∧bh s≤g∧S (g-(bh s).toNat)≠none)
theorem sV.nil:sV eM:=fun g c s h=>by
 unfold eM at h
 split at h
 ·rename_i e;exact .inl e
 ·cases h
theorem sV.step {z:aC}{P:Pr}{st a:Nat}{S:Nat→Cell}(hz:z.tx.length≤14∧2≤z.sh∧z.aP≤40)(hv:0≤dZ z (st+a)∧dZ z (st+a)≤255)(h:sV S)(ha:S a≠none):sV (stepT z P st S a):=fun g c s e=>by
 have old:S g=some (c,s)→g=0∨(fH s∧1≤bh s∧bh s≤g∧stepT z P st S a (g-(bh s).toNat)≠none):=fun e=>by
  rcases h g c s e with h | ⟨h1,h2,h3,h4⟩
  ·exact .inl h
  ·exact .inr ⟨h1,h2,h3,pV h4⟩
 unfold stepT at e
 split at e
 ·rename_i lt
  unfold vw at e
  split at e
  ·rcases Oo e with e | ⟨w,hw,rfl⟩
   ·exact old e
   ·have o:=acE hz hv (Nat.sub_pos_of_lt lt) w hw
    refine .inr ⟨o.2,Int.le_trans (Int.ofNat_le.mpr (Nat.sub_pos_of_lt lt):((1:Nat):Int)≤_) (Int.le_of_eq o.1.symm),Int.le_trans (Int.le_of_eq o.1) (Int.ofNat_le.mpr (Nat.sub_le g a)),pV ?_⟩
    rw[o.1,show g-((g-a:Nat):Int).toNat=a from Nat.sub_sub_self (Nat.le_of_lt lt)]
    exact ha
  ·exact old e
 ·exact old e
theorem afy {z:aC}{en:Option Nat}{p:Nat}(hp:p<z.tx.length):1≤tk z en p∨en=some 0:=by
 unfold tk
 cases en with
 | none=>exact .inl (Nat.le_refl _)
 | some e=>
  dsimp only
  split
  ·rcases Nat.eq_zero_or_pos e with h | h
   ·rw[h];exact .inr rfl
   ·exact .inl (Nat.le_trans h (by assumption))
  ·exact .inl (Nat.le_refl _)
theorem xj {z:aC}{P:Pr}{en:Option Nat}{st a n:Nat}{S:Nat→Cell}(hz:z.tx.length≤14∧2≤z.sh∧z.aP≤40)(he:∀e,en=some e→3≤e)(hn:st+n=z.tx.length)(ha:a<n)(hs:S a≠none):
  1≤tk z en (st+a)∧a+tk z en (st+a)≤n∧stepT z P st S a (a+tk z en (st+a))≠none:=by
 have one:1≤1∧a+1≤n∧stepT z P st S a (a+1)≠none:=by
  refine⟨Nat.le_refl _,ha,?_⟩
  unfold stepT vw
  rw[if_pos (Nat.lt_succ_self a),if_pos (.inl (Nat.add_sub_cancel_left ..)),show a+1-a=1 from Nat.add_sub_cancel_left ..]
  unfold dB
  rw[if_pos rfl,List.singleton_append,List.foldl_cons]
  exact u4 Lx
 unfold tk
 cases en with
 | none=>exact one
 | some e=>
  dsimp only
  have he:=he e rfl
  split
  ·rename_i q
   obtain⟨m,hm,em⟩:=Gy (z:=z) (p:=st+a) (Nat.ne_of_gt (Nat.lt_of_lt_of_le (by decide) (Nat.le_trans he q)))
   have o:=jC m hm
   rw[em] at o
   have l3:=Nat.le_trans he q
   have l0:0<da z (st+a):=Nat.lt_of_lt_of_le (by decide) l3
   refine⟨l0,Nat.add_le_of_le_sub' (Nat.le_of_lt ha) (Nat.le_trans (Nat.le_trans o.2.1 (Nat.min_le_right _ _)) (Nat.le_of_eq ((congrArg (· - (st+a)) hn.symm).trans (Nat.add_sub_add_left st n a)))),?_⟩
   unfold stepT vw
   rw[if_pos (Nat.lt_add_of_pos_right l0),show a+da z (st+a)-a=da z (st+a) from Nat.add_sub_cancel_left ..,if_pos (.inr (Nat.le_of_pred_lt o.1))]
   unfold dB
   rw[if_neg (Nat.ne_of_gt (Nat.lt_of_lt_of_le (by decide) l3)),List.nil_append]
   obtain⟨l1,l2,hl⟩:=List.append_of_mem hm
   rw[hl,List.filterMap_append,List.filterMap_cons,if_pos ⟨Nat.le_trans (by decide) l3,Nat.le_of_eq em.symm⟩,List.foldl_append,List.foldl_cons]
   exact u4 Lx
  ·exact one
theorem uG {z:aC}{P:Pr}{en:Option Nat}{st n:Nat}(hz:z.tx.length≤14∧2≤z.sh∧z.aP≤40)(ho:∀x∈z.tx,0≤x∧x≤255)(he:∀e,en=some e→3≤e)(hn:st+n=z.tx.length):∀(f a:Nat) (S:Nat→Cell),n≤a+f→a≤n→S a≠none→sV S→
  sV ((gp z en st n f a).foldl (stepT z P st) S)∧(gp z en st n f a).foldl (stepT z P st) S n≠none
 | 0,a,S,h1,h2,h3,h4=>⟨h4,Nat.le_antisymm h1 h2▸h3⟩
 | f+1,a,S,h1,h2,h3,h4=>by
  rw[gp]
  split
  ·rename_i lt
   obtain⟨r1,r2,r3⟩:=xj (P:=P) hz he hn lt h3
   have hv:0≤dZ z (st+a)∧dZ z (st+a)≤255:=by
    unfold dZ
    rw[List.getElem?_eq_getElem (hn▸Nat.add_lt_add_left lt st)]
    exact ho _ (List.getElem_mem _)
   rw[List.foldl_cons]
   exact uG hz ho he hn f _ _ (aco h1 r1) r2 r3 (h4.step hz hv h3)
  ·exact⟨h4,Nat.le_antisymm (Nat.not_lt.mp (by assumption)) h2▸h3⟩
theorem NZ {z:aC}{en:Option Nat}{st n:Nat}(he:∀e,en=some e→3≤e):∀f a:Nat,(gp z en st n f a).Pairwise (· < ·)∧∀x∈gp z en st n f a,a≤x∧x<n
 | 0,a=>⟨.nil,fun _ h=>(by cases h)⟩
 | f+1,a=>by
  have t1:1≤tk z en (st+a):=by
   unfold tk
   cases en with
   | none=>exact Nat.le_refl _
   | some e=>
    have :=he e rfl
    dsimp only
    split
    ·exact Nat.le_trans (Nat.le_trans (by decide) this) (by assumption)
    ·exact Nat.le_refl _
  rw[gp]
  split
  ·rename_i lt
   obtain⟨i1,i2⟩:=NZ (z:=z) (en:=en) (st:=st) (n:=n) he f (a+tk z en (st+a))
   refine⟨.cons (fun x hx=>Nat.lt_of_lt_of_le (Nat.lt_add_of_pos_right t1) (i2 x hx).1) i1,fun x hx=>?_⟩
   rcases List.mem_cons.mp hx with rfl | hx
   ·exact⟨Nat.le_refl _,lt⟩
   ·exact⟨Nat.le_trans (Nat.le_add_right _ _) (i2 x hx).1,(i2 x hx).2⟩
  ·exact⟨.nil,fun _ h=>(by cases h)⟩
theorem ME {z:aC}{P:Pr}{st:Nat}:∀(l:List Nat) (S:Nat→Cell),l.Pairwise (· < ·)→∀g,l.foldl (stepT z P st) S g=(l.filter fun a=>a<g).foldl (fun o a=>vw z P st (cst (l.foldl (stepT z P st) S a)) a g o) (S g)
 | [],S,_,g=>rfl
 | a::r,S,h,g=>by
  obtain⟨h1,h2⟩:=List.pairwise_cons.mp h
  have ih:=ME (z:=z) (P:=P) (st:=st) r (stepT z P st S a) h2
  have ea:(r.foldl (stepT z P st) (stepT z P st S a)) a=S a:=by
   rw[ih a,List.filter_eq_nil_iff.mpr (fun x hx q=>Nat.lt_asymm (of_decide_eq_true q) (h1 x hx))]
   show stepT z P st S a a=S a
   unfold stepT
   rw[if_neg (Nat.lt_irrefl _)]
  rw[List.foldl_cons]
  rw[ih g]
  by_cases e:a<g
  ·rw[List.filter_cons_of_pos (by exact decide_eq_true e),List.foldl_cons,ea]
   congr 1
   unfold stepT
   rw[if_pos e]
  ·rw[List.filter_cons_of_neg (by exact fun q=>e (of_decide_eq_true q))]
   congr 1
   unfold stepT
   rw[if_neg e]
theorem Ua {F:Nat→Cell}(h:sV F):∀f g:Nat,g≤f→(∀s∈qW F f g,fH s)∧(qW F f g).length≤g
 | 0,g,_=>⟨fun _ h=>(by cases h),Nat.zero_le _⟩
 | f+1,g,hg=>by
  rw[qW]
  split
  ·exact⟨fun _ h=>(by cases h),Nat.zero_le _⟩
  ·rename_i ng
   split
   ·exact⟨fun _ h=>(by cases h),Nat.zero_le _⟩
   ·rename_i x s e
    rcases h g x s e with h0 | ⟨h1,h2,h3,h4⟩
    ·exact absurd h0 ng
    ·have ih:=Ua h f (g-(bh s).toNat) (sub_one hg h2)
     refine⟨fun t ht=>?_,Nat.lt_of_le_of_lt ih.2 (Nat.sub_lt (Nat.pos_of_ne_zero ng) (NW h2))⟩
     rcases List.mem_cons.mp ht with rfl | ht
     ·exact h1
     ·exact ih.1 t ht
section
set_option maxHeartbeats 2000000
noncomputable abbrev wA (w:(Int×Int)×Int):AV:= .tup [aH w.1,.int w.2]
section
variable {Z:Program}{G:Gd}{p:Params}{d:Nat}{H H0 H1:AH}{X:AH→Prop}
theorem Mj (c:Cx Z G p){tx:List Int}{pl n:Nat}{ms:List (Nat×Nat)}{pv:AV}{P:Pr}{v:Int}(hv:tx[pl]? =some v)(ht:tx.length≤1000)(hm:∀m∈ms,1≤m.2)(hl:ms.length≤1000)(hp:bQ Z G d pv P H):
  Gives Z G (d+1) 591 [.bytes tx,.int pl,.int n,.lst (ms.map mA),pv] H (.lst ((dB ms P v n).map wA)):=by
 intro Q X hQ
 refine aw.fz c.ok (c.fn (It p) rfl fun H0 cf hs _ _=>?_)
 have hpl:pl<tx.length:=(List.getElem?_eq_some_iff.mp hv).1
 have ev:tx[((pl:Int)).toNat]? =some v:=by rw[Int.toNat_natCast];exact hv
 have loop:∀(fo:Addr) (H1:AH) (w0:List ((Int×Int)×Int)),Sub H H1→aq H fo→H1 fo=some (.list (w0.map wA))→w0.length≤1→w0=(if n=1 then[((0,v),P.lit v)] else[])→
   aU Z G BA d rh [some (.bytes tx),some (.int pl),some (.int n),some (.lst (ms.map mA)),some pv,some (.ref fo),none,none] H1 (d6 (VQ Q)) X:=fun fo H1 w0 h1 dY e0 l0 hw0=>by
  refine⟨by rw[List.length_map];lia,fun H2 s2=>?_⟩
  refine forM (src:= .items (ms.map mA)) mA (fun r σ H'=>Sub H H'∧∃(done:List (Nat×Nat)) (a b:Option AV),H' fo=some (.list ((dB done P v n).map wA))∧ms=done++r∧σ=[some (.bytes tx),some (.int pl),some (.int n),some (.lst (ms.map mA)),some pv,some (.ref fo),a,b])
   (fun _ _ _ _=>trivial) (fun σ H' h H3 s=>?_) (fun m r σ H' K h k _ _=>?_) ms _ _ ⟨h1.trans s2,[],none,none,?_,rfl,rfl⟩
  ·obtain⟨h1,done,a,b,e,em,rfl⟩:=h
   rw[List.append_nil] at em
   subst em
   exact⟨_,_,.list (s _ _ rfl e),hQ _ ((h1.trans s).c8 dY)⟩
  ·obtain⟨h1,done,a,b,e,em,rfl⟩:=h
   have mm:m∈ms:=by rw[em];exact List.mem_append_right _ (.head _)
   have dl:done.length≤1000:=by have :=congrArg List.length em;rw[List.length_append] at this;lia
   have em':ms=(done++[m])++r:=by rw[em,List.append_assoc];rfl
   have add:dB (done++[m]) P v n=dB done P v n++(if 2≤n∧n≤m.1 then[(((n:Int),(m.2:Int)),P.oh n m.2)] else[]):=by
    unfold dB
    rw[List.filterMap_append,List.append_assoc]
    congr 2
    rw[List.filterMap_cons]
    split<;>rename_i q
    ·split at q
     ·cases q
     ·rename_i z;rw[if_neg z];rfl
    ·split at q
     ·rename_i z;cases q;rw[if_pos z];rfl
     ·cases q
   have skip:¬(2≤n∧n≤m.1)→K .next [some (.bytes tx),some (.int pl),some (.int n),some (.lst (ms.map mA)),some pv,some (.ref fo),some (.int m.1),some (.int m.2)] H':=fun z=>by
    rw[if_neg z,List.append_nil] at add
    exact k _ _ ⟨h1,done++[m],_,_,by rw[add];exact e,em',rfl⟩
   refine⟨rfl,ltI rfl,ltI rfl,rfl,aO (fun z1=>aO (fun z2=>?_) fun z2=>skip (by lia)) fun z1=>skip (by lia)⟩
   have hp':=hp.sub h1
   obtain⟨f1,f2,c1,k1,c2,k2,rfl,e1,e2,hh⟩:=hp'
   have m1:=hm m mm
   refine .inr (.inl ⟨_,e,rfl,by decide,by decide,.ref f2,rfl,.inr ⟨_,_,e2⟩,(hh H' (Sub.refl _).s).2 n m.2 (by lia) (by lia) _ _ fun H3 s3=>⟨_,s3 _ _ rfl e,?_,k _ _ ⟨(h1.trans s3).aE dY,done++[m],_,_,?_,em',rfl⟩⟩⟩)
   ·rw[List.length_map]
    unfold dB
    rw[List.length_append]
    have :=List.length_filterMap_le (fun m:Nat×Nat=>if 2≤n∧n≤m.1 then some (((n:Int),(m.2:Int)),P.oh n m.2) else none) done
    split<;>simp only [List.length_cons,List.length_nil]<;>lia
   ·rw[AH.ag,add,if_pos (by lia),List.map_append];rfl
  ·have :dB [] P v n=w0:=by rw[hw0];unfold dB;rw[List.filterMap_nil,List.append_nil]
   rw[this]
   exact s2 _ _ rfl e0
 refine aO (fun z=>?_) fun z=>?_
 ·have hp':=hp.sub hs
  obtain⟨f1,f2,c1,k1,c2,k2,rfl,e1,e2,hh⟩:=hp'
  refine⟨by lia,by lia,by lia,_,ev,by decide,by decide,.ref f1,rfl,by lia,by lia,by lia,_,ev,.inr ⟨_,_,e1⟩,(hh H0 (Sub.refl _).s).1 v _ _ fun H3 s3=>?_⟩
  intro fo gn
  have dY:aq H fo:= .of (hs.trans s3) gn
  exact⟨ltI rfl,loop fo _ [((0,v),P.lit v)] ((hs.trans s3).aE dY) dY (AH.ag ..) (Nat.le_refl _) (by rw[if_pos (by lia)])⟩
 ·intro fo gn
  have dY:aq H fo:= .of hs gn
  exact⟨ltI rfl,loop fo _ [] (hs.aE dY) dY (AH.ag ..) (Nat.zero_le _) (by rw[if_neg (by lia)])⟩
end
end
section
set_option maxHeartbeats 4000000
noncomputable def cI (q:Int×(Int×Int)):AV:= .int q.1
noncomputable def sI (q:Int×(Int×Int)):AV:=aH q.2
structure LT (H:AH)(ca la:Addr)(st:Nat)(T:Nat→Cell)(b:Nat)(cl ll:List (Int×AV)):Prop where
 hC:H ca=some (.dict cl)
 hL:H la=some (.dict ll)
 c:∀j:Nat,bo cl ((st:Int)+j)=(T j).map cI
 l:∀j:Nat,1≤j→bo ll ((st:Int)+j)=(T j).map sI
 n:cl.length≤b
 m:ll.length≤b
theorem LT.sub {H H' ca la st T b cl ll}(h:LT H ca la st T b cl ll)(s:Sub H H'):LT H' ca la st T b cl ll:=⟨s _ _ rfl h.hC,s _ _ rfl h.hL,h.c,h.l,h.n,h.m⟩
theorem LT.congr {H ca la st T T' b b' cl ll}(h:LT H ca la st T b cl ll)(e:∀j,T j=T' j)(l:b≤b'):LT H ca la st T' b' cl ll:=⟨h.hC,h.hL,fun j=>by rw[←e];exact h.c j,fun j=>by rw[←e];exact h.l j,Nat.le_trans h.n l,Nat.le_trans h.m l⟩
theorem LT.put {H ca la st T T' b b' cl ll g}(h:LT H ca la st T b cl ll)(q:Int×(Int×Int))(az:ca≠la)(hg:1≤g)(hT:∀j,(if j=g then some q else T j)=T' j)(hb:T g=none→b+1≤b')(hb':b≤b'):LT ((H.set ca (.dict (fQ cl ((st:Int)+(g:Nat)) (cI q)))).set la (.dict (fQ ll ((st:Int)+(g:Nat)) (sI q)))) ca la st T' b'
  (fQ cl ((st:Int)+(g:Nat)) (cI q)) (fQ ll ((st:Int)+(g:Nat)) (sI q)):=by
 refine⟨((AH.ae _ _ az).trans (AH.ag ..)),AH.ag ..,fun j=>?_,fun j hj=>?_,?_,?_⟩
 ·rw[mh,←hT]
  by_cases e:j=g
  ·subst e;rw[if_pos rfl,if_pos rfl];rfl
  ·rw[if_neg e,if_neg (by lia)];exact h.c j
 ·rw[mh,←hT]
  by_cases e:j=g
  ·subst e;rw[if_pos rfl,if_pos rfl];rfl
  ·rw[if_neg e,if_neg (by lia)];exact h.l j hj
 ·cases e:T g with
  | none=>exact Nat.le_trans (qh ..) (Nat.le_trans (Nat.succ_le_succ h.n) (hb e))
  | some q=>rw[sy (by rw[h.c,e];intro y;cases y)];exact Nat.le_trans h.n hb'
 ·cases e:T g with
  | none=>exact Nat.le_trans (qh ..) (Nat.le_trans (Nat.succ_le_succ h.m) (hb e))
  | some q=>rw[sy (by rw[h.l _ hg,e];intro y;cases y)];exact Nat.le_trans h.m hb'
noncomputable def yP (en:Option Nat):AV:=match en with
 | none=>.none
 | some e=>.int e
theorem wJ {z:aC}{p:Nat}:(ba z p).length≤p:=uP ..
theorem aaf {ms P v n}:(dB ms P v n).length≤ms.length+1:=by
 unfold dB
 rw[List.length_append]
 have :=List.length_filterMap_le (fun m:Nat×Nat=>if 2≤n∧n≤m.1 then some (((n:Int),(m.2:Int)),P.oh n m.2) else none) ms
 split<;>simp only [List.length_cons,List.length_nil]<;>lia
noncomputable def iC (z:aC):AV:= .lst ((List.range z.tx.length).map fun q=>.lst ((ba z q).map mA))
theorem G3 {z:aC}{q:Nat}(h:q<z.tx.length):itemAt ((List.range z.tx.length).map fun q=>AV.lst ((ba z q).map mA)) (q:Int)=some (.lst ((ba z q).map mA)):=by
 unfold itemAt
 rw[if_neg (by lia),List.getElem?_map,List.getElem?_range (by lia)];rfl
section
variable {Z:Program}{G:Gd}{p:Params}{d:Nat}{H H0 H1:AH}{X:AH→Prop}
theorem M8 (c:Cx Z G p){z:aC}{st n:Nat}{F T:Nat→Cell}{ca la:Addr}{b:Nat}{cl ll:List (Int×AV)}{x3 x4 x5 x6 x7 x8 DW DY DZ:Option AV}{Q:AV→AH→Prop}(hn:st+n=z.tx.length)(ht:z.tx.length≤14)(hF:sV F)(E4:F n≠none)(hT:∀j,j≤n→T j=F j)(lt:LT H ca la st T b cl ll)
  (hQ:∀H',Sub H H'→Q (.lst ((qW F n n).reverse.map aH)) H'):
  aU Z G BA d pn [some (.bytes z.tx),some (.int st),some (.tup [.int z.sh,.int z.aP,.int z.mo]),x3,x4,x5,x6,x7,x8,some (.ref ca),some (.ref la),DW,DY,DZ,none] H (d6 Q) X:=by
 refine fun fo gn=>⟨by lia,rfl,ltI rfl,ltI rfl,rfl,n+1,?_⟩
 have dY:aq H fo:= .of (Sub.refl _) gn
 refine gc (fun f σ H'=>Sub H H'∧∃(g:Nat) (done:List (Int×Int)),g≤n∧g≤f∧F g≠none∧H' fo=some (.list (done.map aH))∧qW F n n=done++qW F f g∧done.length+g≤n∧
  σ=[some (.bytes z.tx),some (.int st),some (.tup [.int z.sh,.int z.aP,.int z.mo]),x3,x4,x5,x6,some (.int ((st:Int)+g)),x8,some (.ref ca),some (.ref la),DW,DY,DZ,some (.ref fo)])
  (fun f σ H' K hI next _=>?_) n _ _ ⟨(Sub.refl _).aE dY,n,[],Nat.le_refl _,Nat.le_refl _,E4,AH.ag ..,rfl,by show 0+n≤n;lia,by rw[show(z.tx.length:Int)=(st:Int)+n by lia];rfl⟩
 show let P:=_;P;intro P
 obtain⟨h1,g,done,hg,hf,ne,e,et,dl,rfl⟩:=hI
 refine aO (fun y=>?_) fun y=>?_
 ·show let P:=_;P;intro P
  cases f with
  | zero=>lia
  | succ f=>
   cases eq:F g with
   | none=>exact absurd eq ne
   | some q=>
    obtain⟨x,s⟩:=q
    rcases hF g x s eq with h0 | ⟨o1,o2,o3,o4⟩
    ·lia
    ·have lt':=lt.sub h1
     have lk:bo ll ((st:Int)+g)=some (aH s):=by rw[lt'.l g (by lia),hT g hg,eq];rfl
     have em:max 1 s.1=bh s:=by unfold bh;have :=o1.1;unfold cQ at this;split<;>lia
     refine .inr (.inl ⟨_,e,rfl,.inr ⟨_,lt'.hL,_,lk,_,e,by rw[List.length_map];lia,?_⟩⟩)
     have nl:la≠fo:=fun z=>by rw[z] at lt';have :=lt'.hL;rw[e] at this;cases this
     refine .inr ⟨_,((AH.ae _ _ nl).trans lt'.hL),.tup [.int s.1,.int s.2],lk,by decide,by decide,.int s.1,rfl,ltI rfl,next f _ _ rfl ⟨h1.aE dY,g-(bh s).toNat,done++[s],by lia,by lia,o4,?_,?_,?_,?_⟩⟩
     ·rw[AH.ag,List.map_append];rfl
     ·rw[et,qW,if_neg (by lia),eq,List.append_assoc];rfl
     ·rw[List.length_append];show done.length+1+_≤n;lia
     ·show[_,_,_,_,_,_,_,some (AV.int ((st:Int)+g-max 1 s.1)),_,_,_,_,_,_,_]=_
      rw[em,show(st:Int)+(g:Int)-bh s=(st:Int)+((g-(bh s).toNat:Nat):Int) by lia]
 ·have g0:g=0:=by lia
  subst g0
  have t0:qW F f 0=[]:=by cases f<;>rfl
  rw[t0,List.append_nil] at et
  refine⟨_,e,by rw[List.length_map];lia,?_⟩
  have :=hQ H' h1
  rw[et,List.map_reverse] at this
  exact this
end
theorem isN {x:Option AV}{A B:Prop}(e:x=none)(h:B):if x.isNone=false then A else B:=by subst e;exact h
theorem isS {x:Option AV}{v:AV}{A B:Prop}(e:x=some v)(h:A):if x.isNone=false then A else B:=by subst e;exact h
theorem Bd {z:aC}{P:Pr}{st:Nat}:∀{l:List Nat} {S:Nat→Cell} {g:Nat},S g≠none→l.foldl (stepT z P st) S g≠none
 | [],_,_,h=>h
 | a::r,S,g,h=>by rw[List.foldl_cons];exact Bd (pV h)
theorem NX {z:aC}{P:Pr}{en:Option Nat}{st n:Nat}(hz:z.tx.length≤14∧2≤z.sh∧z.aP≤40)(he:∀e,en=some e→3≤e)(hn:st+n=z.tx.length):∀(f a:Nat) (S:Nat→Cell),a≤n→S a≠none→
  ∀x∈gp z en st n f a,(gp z en st n f a).foldl (stepT z P st) S x≠none
 | 0,a,S,h2,h3,x,hx=>by cases hx
 | f+1,a,S,h2,h3,x,hx=>by
  rw[gp] at hx ⊢
  split at hx
  ·rename_i lt
   rw[if_pos lt]
   obtain⟨r1,r2,r3⟩:=xj (P:=P) hz he hn lt h3
   rcases List.mem_cons.mp hx with rfl | hx
   ·exact Bd h3
   ·rw[List.foldl_cons];exact NX hz he hn f _ _ r2 r3 x hx
  ·cases hx
noncomputable def Tg (F:Nat→Cell)(i:Nat)(o:Cell):Nat→Cell:=fun j=>if j≤i then F j else if j=i+1 then o else none
noncomputable def bO (i:Nat):Cell→Nat
 | none=>i+1
 | some _=>i+2
theorem Ha {i:Nat}{o:Cell}:bO i o≤i+2∧(o=none→bO i o+1≤i+2):=by
 cases o with
 | none=>exact⟨Nat.le_succ _,fun _=>Nat.le_refl _⟩
 | some q=>exact⟨Nat.le_refl _,fun h=>by cases h⟩
theorem aa2 {F:Nat→Cell}{i:Nat}{o:Cell}{q:Int×(Int×Int)}(j:Nat):(if j=i+1 then some q else Tg F i o j)=Tg F i (some q) j:=by
 unfold Tg
 by_cases e:j=i+1
 ·rw[if_pos e,if_neg (by lia),if_pos e]
 ·rw[if_neg e,if_neg e,if_neg e]
theorem Ws {F:Nat→Cell}{i:Nat}{o:Cell}:Tg F i o (i+1)=o:=by unfold Tg;rw[if_neg (by lia),if_pos rfl]
theorem SG {F:Nat→Cell}{i j:Nat}{o:Cell}(h:j≤i):Tg F i o j=F j:=by unfold Tg;rw[if_pos h]
theorem Wt {F:Nat→Cell}{i:Nat}(j:Nat):Tg F i (F (i+1)) j=Tg F (i+1) none j:=by
 unfold Tg
 by_cases e:j≤i
 ·rw[if_pos e,if_pos (by lia)]
 ·rw[if_neg e]
  by_cases e':j=i+1
  ·rw[if_pos e',if_pos (by lia),e']
  ·rw[if_neg e',if_neg (by lia)];split<;>rfl
section
variable {Z:Program}{G:Gd}{p:Params}{d:Nat}{H H0 H1:AH}{X:AH→Prop}
theorem HH (c:Cx Z G p){tx:List Int}{pl n:Nat}{ms:List (Nat×Nat)}{pv:AV}{P:Pr}{v xa xn:Int}(ea:xa=pl)(en:xn=n)(hv:tx[pl]? =some v)(ht:tx.length≤1000)(hm:∀m∈ms,1≤m.2)(hl:ms.length≤1000)(hp:bQ Z G d pv P H):
  Gives Z G (d+1) 591 [.bytes tx,.int xa,.int xn,.lst (ms.map mA),pv] H (.lst ((dB ms P v n).map wA)):=by
 subst ea en
 exact Mj c hv ht hm hl hp
theorem IA (c:Cx Z G p){z:aC}{st i a:Nat}{F:Nat→Cell}{o:Cell}{ca la:Addr}{cl ll:List (Int×AV)}{w:(Int×Int)×Int}{x3 x4 x5 x6 x8 F6:Option AV}{K:Fl→Sg→AH→Prop}{gv av:Int}(eg:gv=(st:Int)+((i+1:Nat):Int))(ea:av=(st:Int)+(a:Int))(hi:i≤14)(ha:a≤i)(hF:F a≠none)(az:ca≠la)(nC:aq H0 ca)(nL:aq H0 la)(hs:Sub H0 H)
  (lt:LT H ca la st (Tg F i o) (bO i o) cl ll)
  (k:∀H' cl ll,Sub H0 H'→(∀b o,b≠ca→b≠la→H b=some o→H' b=some o)→LT H' ca la st (Tg F i (upd (cst (F a)) o w)) (bO i (upd (cst (F a)) o w)) cl ll→K .next [some (.bytes z.tx),some (.int st),some (.tup [.int z.sh,.int z.aP,.int z.mo]),x3,x4,x5,x6,some (.int av),x8,some (.ref ca),some (.ref la),some (.int gv),some (aH w.1),some (.int w.2),F6] H'):
  aU Z G BA d mV [some (.bytes z.tx),some (.int st),some (.tup [.int z.sh,.int z.aP,.int z.mo]),x3,x4,x5,x6,some (.int av),x8,some (.ref ca),some (.ref la),some (.int gv),some (aH w.1),some (.int w.2),F6] H K (fun _=>False):=by
 subst eg ea
 have lg:bo cl ((st:Int)+((i+1:Nat):Int))=o.map cI:=by rw[lt.c,Ws]
 have la':bo cl ((st:Int)+(a:Int))=some (.int (cst (F a))):=by
  rw[lt.c,SG ha]
  cases e:F a with
  | none=>exact absurd e hF
  | some q=>rfl
 have put:upd (cst (F a)) o w=some (cst (F a)+w.2,w.1)→aU Z G BA d mR [some (.bytes z.tx),some (.int st),some (.tup [.int z.sh,.int z.aP,.int z.mo]),x3,x4,x5,x6,some (.int ((st:Int)+(a:Int))),x8,some (.ref ca),some (.ref la),some (.int ((st:Int)+((i+1:Nat):Int))),some (aH w.1),some (.int w.2),F6] H K (fun _=>False):=fun eu=>by
  have lp:=lt.put (g:=i+1) (T':=Tg F i (some (cst (F a)+w.2,w.1))) (b':=i+2) (cst (F a)+w.2,w.1) az (Nat.le_add_left 1 i) (fun j=>aa2 j) (fun h=>Ha.2 (by rw[Ws] at h;exact h)) Ha.1
  have bnd:bO i o≤16:=Nat.le_trans Ha.1 (by lia)
  rw[eu] at k
  exact .inr ⟨cl,lt.hC,.int (cst (F a)),la',rfl,.inr ⟨cl,lt.hC,Nat.le_trans lt.n (Nat.le_trans bnd (by decide)),.inr ⟨ll,((AH.ae _ _ (Ne.symm az)).trans lt.hL),Nat.le_trans lt.m (Nat.le_trans bnd (by decide)),rfl,
   k _ _ _ ((hs.aE nC).aE nL) (fun b o h1 h2 e=>((AH.ae _ _ h2).trans ((AH.ae _ _ h1).trans e))) lp⟩⟩⟩
 refine⟨cl,lt.hC,?_⟩
 cases o with
 | none=>exact isN lg (put rfl)
 | some q=>
  obtain⟨x,s⟩:=q
  have eu:upd (cst (F a)) (some (x,s)) w=if cst (F a)+w.2<x then some (cst (F a)+w.2,w.1) else some (x,s):=rfl
  refine isS lg (.inr ⟨cl,lt.hC,.int (cst (F a)),la',.inr ⟨cl,lt.hC,.int x,lg,Dq (fun y=>?_) fun y=>?_⟩⟩)
  ·rw[if_pos y] at eu;exact put eu
  ·rw[if_neg y] at eu
   rw[eu] at k
   exact k _ _ _ hs (fun _ _ _ _ e=>e) lt
end
section
variable {Z:Program}{G:Gd}{p:Params}{d:Nat}{H H0 H1:AH}{X:AH→Prop}
noncomputable abbrev oA (st:Nat)(a:Nat):AV:= .int ((st:Int)+(a:Int))
theorem UM {os:List Nat}{st g:Nat}:os.filterMap (fun a=>if a<g then some (oA st a) else none)=(os.filter fun a=>a<g).map (oA st):=by
 induction os with
 | nil=>rfl
 | cons a r ih=>
  by_cases e:a<g
  ·rw[List.filterMap_cons,if_pos e,List.filter_cons_of_pos (by exact decide_eq_true e),List.map_cons,ih]
  ·rw[List.filterMap_cons,if_neg e,List.filter_cons_of_neg (by exact fun q=>e (of_decide_eq_true q)),ih]
theorem YC {st a i:Nat}:(st:Int)+a<(st:Int)+1+i↔a<i+1:=⟨fun y=>Nat.add_comm 1 i▸Nat.lt_of_add_lt_add_left (Nat.add_assoc st 1 i▸Int.ofNat_lt.mp y),fun y=>Int.ofNat_lt.mpr (Nat.add_assoc st 1 i▸Nat.add_lt_add_left (Nat.add_comm 1 i▸y) st)⟩
theorem uy {st a i:Nat}(h:a≤i):(st:Int)+1+i-((st:Int)+a)=((i+1-a:Nat):Int):=by
 rw[Int.ofNat_sub (Nat.le_succ_of_le h),Int.add_assoc,Int.add_comm 1,Int.add_sub_add_left];rfl
noncomputable def sF (z:aC)(st:Nat)(pv:AV)(x5:Option AV)(fo:Addr)(y7 x8:Option AV)(ca la:Addr)(f8 cA cj:Option AV):Sg:=[some (.bytes z.tx),some (.int st),some (.tup [.int z.sh,.int z.aP,.int z.mo]),some (iC z),some pv,x5,some (.ref fo),y7,x8,some (.ref ca),some (.ref la),f8,cA,cj,none]
noncomputable def gA (st i:Nat):Option AV:=some (.int ((st:Int)+1+(i:Int)))
structure FX (Z:Program)(G:Gd)(d:Nat)(z:aC)(P:Pr)(st n:Nat)(fo ca la:Addr)(pv:AV)(H0:AH):Prop where
 hz:z.tx.length≤14∧2≤z.sh∧z.aP≤40
 hn:st+n=z.tx.length
 lp:bQ Z G d pv P H0
 nC:aq H0 ca
 nL:aq H0 la
 az:ca≠la
 Yr:fo≠ca
 Fp:fo≠la
inductive FI (z:aC)(st:Nat)(F:Nat→Cell)(os:List Nat)(fo ca la:Addr)(H0:AH)(i:Nat)(o:Cell)(H:AH):Prop
 | mk (cl ll:List (Int×AV)) (s:Sub H0 H) (e:H fo=some (.list (os.map (oA st)))) (lt:LT H ca la st (Tg F i o) (bO i o) cl ll):FI z st F os fo ca la H0 i o H
theorem FI.sub {z st F os fo ca la H0 i o H H'}(h:FI z st F os fo ca la H0 i o H)(s:Sub H H'):FI z st F os fo ca la H0 i o H':=h.casesOn fun cl ll a e lt=>⟨cl,ll,a.trans s,s _ _ rfl e,lt.sub s⟩
inductive F3 (z:aC)(st:Nat)(pv:AV)(x5 x8:Option AV)(F:Nat→Cell)(os:List Nat)(fo ca la:Addr)(H0:AH)(i a:Nat)(oT:Cell)(r:List ((Int×Int)×Int)):Sg→AH→Prop
 | mk (o:Cell) (H:AH) (cA cj:Option AV) (h:FI z st F os fo ca la H0 i o H) (e:r.foldl (upd (cst (F a))) o=oT):F3 z st pv x5 x8 F os fo ca la H0 i a oT r (sF z st pv x5 fo (some (oA st a)) x8 ca la (gA st i) cA cj) H
inductive F2 (z:aC)(P:Pr)(st:Nat)(pv:AV)(x5 x8:Option AV)(F:Nat→Cell)(os:List Nat)(fo ca la:Addr)(H0:AH)(n i:Nat)(r:List Nat):Sg→AH→Prop
 | mk (o:Cell) (H:AH) (y7 cA cj:Option AV) (h:FI z st F os fo ca la H0 i o H) (e:r.foldl (fun o a=>vw z P st (cst (F a)) a (i+1) o) o=F (i+1)) (m:∀a∈r,a≤i∧a<n∧F a≠none):F2 z P st pv x5 x8 F os fo ca la H0 n i r (sF z st pv x5 fo y7 x8 ca la (gA st i) cA cj) H
inductive F1 (z:aC)(st:Nat)(pv:AV)(x5 x8:Option AV)(F:Nat→Cell)(os:List Nat)(fo ca la:Addr)(H0:AH)(i:Nat):Sg→AH→Prop
 | mk (H:AH) (cl ll:List (Int×AV)) (y7 f8 cA cj:Option AV) (s:Sub H0 H) (e:H fo=some (.list (os.map (oA st)))) (lt:LT H ca la st (Tg F i none) (i+1) cl ll):F1 z st pv x5 x8 F os fo ca la H0 i (sF z st pv x5 fo y7 x8 ca la f8 cA cj) H
theorem Pd (c:Cx Z G p){z:aC}{P:Pr}{st n i a:Nat}{F:Nat→Cell}{os:List Nat}{fo ca la:Addr}{pv:AV}{x5 x8 cA cj:Option AV}{o:Cell}{K:Fl→Sg→AH→Prop}(x:FX Z G d z P st n fo ca la pv H0)(hi:i<n)(ha:a≤i∧a<n∧F a≠none)(h:FI z st F os fo ca la H0 i o H)
  (y:i+1-a=1∨z.sh≤i+1-a) (k:∀H' cA cj,FI z st F os fo ca la H0 i (vw z P st (cst (F a)) a (i+1) o) H'→K .next (sF z st pv x5 fo (some (oA st a)) x8 ca la (gA st i) cA cj) H'):
  aU Z G BA (d+1) gk (sF z st pv x5 fo (some (oA st a)) x8 ca la (gA st i) cA cj) H K ur:=by
 have Z5:st+a<z.tx.length:=x.hn▸Nat.add_lt_add_left ha.2.1 st
 have Od:st+a≤14:=Nat.le_trans (Nat.le_of_lt Z5) x.hz.1
 have i14:i≤14:=Nat.le_trans (Nat.le_of_lt hi) (Nat.le_trans (Nat.le_add_left n st) (x.hn▸x.hz.1))
 have ev:z.tx[st+a]? =some (dZ z (st+a)):=by unfold dZ;rw[List.getElem?_eq_getElem Z5];rfl
 have eb:vw z P st (cst (F a)) a (i+1) o=(dB (ba z (st+a)) P (dZ z (st+a)) (i+1-a)).foldl (upd (cst (F a))) o:=if_pos y
 have ml:(ba z (st+a)).length≤14:=Nat.le_trans wJ Od
 refine⟨ace (st+a),qi Od (by decide),_,G3 Z5,c.call (abU p) (HH c (pl:=st+a) (n:=i+1-a) rfl (uy ha.1) ev (Nat.le_trans x.hz.1 (by decide)) (fun m hm=>(jC m hm).2.2.1) (Nat.le_trans ml (by decide)) (x.lp.sub (h.casesOn fun _ _ s _ _=>s)) _ _ fun H9 s9=>?_)⟩
 have wl:(dB (ba z (st+a)) P (dZ z (st+a)) (i+1-a)).length≤15:=Nat.le_trans aaf (Nat.succ_le_succ ml)
 generalize dB (ba z (st+a)) P (dZ z (st+a)) (i+1-a)=ws at eb wl
 refine⟨by rw[List.length_map];exact Nat.le_trans wl (by decide),fun LI uO=>?_⟩
 refine forM (src:= .items (ws.map wA)) wA (F3 z st pv x5 x8 F os fo ca la H0 i a (vw z P st (cst (F a)) a (i+1) o)) (fun _ _ _ _=>trivial) (fun σ zI h=>F3.casesOn h fun o H cA cj h e xW zn=>k _ _ _ (e▸h.sub zn)) (fun w r σ zI K2 h k2 _ _=>F3.casesOn h fun o H cA cj h e=>?_) ws _ _ ⟨o,_,cA,cj,h.sub (s9.trans uO),eb.symm⟩
 exact h.casesOn fun cl ll s eo lt=>⟨rfl,ltI rfl,ltI rfl,rfl,IA c (Int.add_assoc _ _ _ |>.trans (congrArg _ (Int.add_comm 1 _))) rfl i14 ha.1 ha.2.2 x.az x.nC x.nL s lt fun H' cl' ll' s' fr lt2=>k2 _ _ ⟨_,_,_,_,⟨cl',ll',s',fr _ _ x.Yr x.Fp eo,lt2⟩,e⟩⟩
theorem M9 (c:Cx Z G p){z:aC}{P:Pr}{st n:Nat}{F:Nat→Cell}{os:List Nat}{fo ca la:Addr}{cl ll:List (Int×AV)}{pv:AV}{x5 x7 x8:Option AV}{Q:AV→AH→Prop}(hz:z.tx.length≤14∧2≤z.sh∧z.aP≤40)(hn:st+n=z.tx.length)
  (hos:os.Pairwise (· < ·)∧∀a∈os,a<n∧F a≠none) (hol:os.length≤14) (hFe:F=os.foldl (stepT z P st) eM) (hF:sV F) (E4:F n≠none) (lt:LT H ca la st eM 1 cl ll) (hp:bQ Z G d pv P H0) (hs:Sub H0 H) (nC:aq H0 ca) (nL:aq H0 la) (nO:aq H0 fo) (az:ca≠la)
  (gn:H fo=some (.list (os.map (oA st)))) (hQ:∀H',Sub H0 H'→Q (.lst ((qW F n n).reverse.map aH)) H'):
  aU Z G BA (d+1) mW [some (.bytes z.tx),some (.int st),some (.tup [.int z.sh,.int z.aP,.int z.mo]),some (iC z),some pv,x5,some (.ref fo),x7,x8,some (.ref ca),some (.ref la),none,none,none,none] H (d6 Q) X:=by
 have fa:=ME (z:=z) (P:=P) (st:=st) os eM hos.1
 replace fa:=(hFe)▸fa
 have F0:F 0=some (0,(0,0)):=by rw[fa 0,List.filter_eq_nil_iff.mpr (fun x _ q=>Nat.not_lt_zero x (of_decide_eq_true q))];rfl
 have x:FX Z G d z P st n fo ca la pv H0:=⟨hz,hn,hp,nC,nL,az,(fun e=>by have :=lt.hC;rw[←e,gn] at this;cases this),(fun e=>by have :=lt.hL;rw[←e,gn] at this;cases this)⟩
 have l1:z.tx.length+1≤1000:=Nat.le_trans (Nat.succ_le_succ hz.1) (by decide)
 have e1:((z.tx.length:Int)+1-((st:Int)+1)).toNat=n:=(Int.toNat_sub (z.tx.length+1) (st+1)).trans ((Nat.add_sub_add_right _ 1 st).trans (hn▸Nat.add_sub_cancel_left st n))
 have A:=adg (a:=st+1) (Nat.le_trans (Nat.succ_le_succ (hn▸Nat.le_add_right st n)) l1)
 have B:=adg l1
 refine⟨Nat.le_trans hz.1 (by decide),A.1.1,A.1.2,B.1.1,B.1.2,A.2.1,A.2.2,B.2.1,B.2.2,e1▸Nat.le_trans (hn▸Nat.le_add_left n st) (Nat.le_trans hz.1 (by decide)),fun H2 s2=>?_⟩
 refine e1▸?_
 refine forR (src:= .items _) (F1 z st pv x5 x8 F os fo ca la H0) (fun _=>trivial) (fun σ H' h=>F1.casesOn h fun H' cl ll y7 f8 cA cj s e lt' H3 s3=>M8 c hn hz.1 hF E4 (fun j hj=>SG hj) (lt'.sub s3) fun H4 s4=>hQ _ ((s.trans s3).trans s4)) (fun i σ H' K hi h k _=>F1.casesOn h fun H' cl ll y7 f8 cA cj s ho lt'=>?_) ⟨_,cl,ll,_,_,_,_,hs.trans s2,s2 _ _ rfl gn,(lt.sub s2).congr (fun j=>by
   unfold Tg
   by_cases e:j≤0
   ·rw[if_pos e,Nat.le_zero.mp e,F0];rfl
   ·rw[if_neg e]
    have :eM j=none:=if_neg fun z=>e (Nat.le_of_eq z)
    rw[this];split<;>rfl) (Nat.le_refl _)⟩
 refine⟨ltI rfl,_,ho,by rw[List.length_map];exact Nat.le_trans hol (by decide),fun H4 s4=>?_⟩
 refine cK (src:= .live fo (os.map (oA st))) (base:=sF z st pv x5 fo y7 x8 ca la (gA st i) cA cj) (oA st)
  (fun a=>if a<i+1 then some (oA st a) else none) 1 (fun H5 s5=>s5 _ _ rfl (s4 _ _ rfl ho)) (Nat.le_trans hol (by decide)) rfl (fun H5 s5 H6 s6=>?_) fun a w H5 K' hm hw s5 kk=>?_
 rotate_left
 ·obtain⟨x,rfl⟩:=jB hw
  have kk:=kk [some (oA st a)] H5 rfl s5
  refine⟨ltI rfl,aO (fun y=>?_) fun y=>?_⟩
  ·rw[if_pos (YC.mp y)] at kk;exact kk
  ·rw[if_neg (fun z=>y (YC.mpr z))] at kk;exact kk
 rw[UM]
 have t6:=(s4.trans s5).trans s6
 refine⟨by rw[List.length_map];exact Nat.le_trans (List.length_filter_le ..) (Nat.le_trans hol (by decide)),fun H7 s7=>?_⟩
 refine forM (src:= .items ((os.filter fun a=>a<i+1).map (oA st))) (oA st) (F2 z P st pv x5 x8 F os fo ca la H0 n i) (fun _ _ _ _=>trivial) (fun σ H8 h=>F2.casesOn h fun o H8 y7 cA cj h e _ H9 s9=>(h.sub s9).casesOn fun cl ll s eo lt2=>k _ _ ⟨_,cl,ll,_,_,_,_,s,eo,(Eq.subst (motive:=fun q=>LT H9 ca la st (Tg F i q) (bO i q) cl ll) (show o=F (i+1) from e) lt2).congr (fun j=>Wt j) Ha.1⟩)
  (fun a r σ H8 K' h k' _ _=>F2.casesOn h fun o H8 y7 cA cj h e m=>?_) _ _ _ ⟨none,_,_,_,_,⟨cl,ll,s.trans (t6.trans s7),(t6.trans s7) _ _ rfl ho,lt'.sub (t6.trans s7)⟩,(fa (i+1)).symm,fun a ha=>have q:=List.mem_filter.mp ha;⟨Nat.le_of_lt_succ (of_decide_eq_true q.2),hos.2 a q.1⟩⟩
 have ha:=m a (.head _)
 have nx:=fun a' h'=>m a' (.tail _ h')
 have WJ:(i+1-a=1∨z.sh≤i+1-a)→aU Z G BA (d+1) gk (sF z st pv x5 fo (some (oA st a)) x8 ca la (gA st i) cA cj) H8 K' ur:=fun y=>Pd c x hi ha h y fun H' cA cj h'=>k' _ _ ⟨_,_,_,_,_,h',e,nx⟩
 refine⟨ltI rfl,Dq (fun y=>WJ (.inl (Int.ofNat.inj ((uy ha.1).symm.trans y)))) fun y=>⟨by decide,by decide,_,rfl,Dq (fun y'=>WJ (.inr (Int.ofNat_le.mp (Int.le_trans y' (Int.le_of_eq (uy ha.1)))))) fun y'=>?_⟩⟩
 have eb:vw z P st (cst (F a)) a (i+1) o=o:=if_neg fun q=>q.elim (fun q=>y ((uy ha.1).trans (congrArg Int.ofNat q))) fun q=>y' (Int.le_trans (Int.ofNat_le.mpr q) (Int.le_of_eq (uy ha.1).symm))
 exact k' _ _ ⟨o,_,_,_,_,h,(congrArg (fun o=>r.foldl (fun o a=>vw z P st (cst (F a)) a (i+1) o) o) eb).symm.trans e,nx⟩
end
theorem GC {z:aC}{q n:Nat}:isData (n+3) (.lst ((ba z q).map mA))=true:=by
 show((ba z q).map mA).all (isData (n+2))=true
 rw[List.all_eq_true]
 intro x hx
 obtain⟨m,_,rfl⟩:=List.mem_map.mp hx
 rfl
theorem NY {z:aC}{en:Option Nat}{st n:Nat}:∀f a:Nat,(gp z en st n f a).length≤f
 | 0,_=>Nat.le_refl _
 | f+1,a=>by
  rw[gp]
  split
  ·rw[List.length_cons];exact Nat.succ_le_succ (NY f _)
  ·exact Nat.zero_le _
theorem afb {z:aC}(ho:∀x∈z.tx,0≤x∧x≤255):∀x∈z.tx,0≤x∧x≤255:=ho
section
variable {Z:Program}{G:Gd}{p:Params}{d:Nat}{H H0 H1:AH}{X:AH→Prop}
theorem k9 (c:Cx Z G p){z:aC}{P:Pr}{st n:Nat}{en:Option Nat}{pv:AV}(hz:z.tx.length≤14∧2≤z.sh∧z.aP≤40)(ho:∀x∈z.tx,0≤x∧x≤255)(he:∀e,en=some e→3≤e)(hn:st+n=z.tx.length)(hp:bQ Z G d pv P H):
  Gives Z G (d+2) 596 [.bytes z.tx,.int st,.tup [.int z.sh,.int z.aP,.int z.mo],iC z,pv,yP en] H (.lst ((parse z P st n en).map aH)):=by
 intro Q X hQ
 refine c.fn (Fc p) rfl fun H0 cf hs _ _=>?_
 refine fun fo gn=>⟨rfl,ltI rfl,ltI rfl,rfl,n+1,?_⟩
 have dY:aq H fo:= .of hs gn
 have S0:eM 0≠none:=by intro h;cases h
 obtain⟨hF,E4⟩:=uG (P:=P) hz ho he hn n 0 eM (by lia) (Nat.zero_le _) S0 sV.nil
 have agL:=NX (P:=P) hz he hn n 0 eM (Nat.zero_le _) S0
 have XT:=NZ (z:=z) (st:=st) (n:=n) he n 0
 have hlen:=NY (z:=z) (en:=en) (st:=st) (n:=n) n 0
 refine gc (fun f σ H'=>Sub H H'∧∃(a:Nat) (done:List Nat) (y8:Option AV),a≤n∧n≤a+f∧H' fo=some (.list (done.map (oA st)))∧gp z en st n n 0=done++gp z en st n f a∧
  σ=[some (.bytes z.tx),some (.int st),some (.tup [.int z.sh,.int z.aP,.int z.mo]),some (iC z),some pv,some (yP en),some (.ref fo),some (oA st a),y8,none,none,none,none,none,none])
  (fun f σ H' K hI next _=>?_) n _ _ ⟨hs.aE dY,0,[],none,Nat.zero_le _,by lia,AH.ag ..,rfl,by show _=[_,_,_,_,_,_,_,some (AV.int ((st:Int)+0)),_,_,_,_,_,_,_];rw[Int.add_zero];rfl⟩
 obtain⟨h1,a,done,y8,ha,hf,e,eo,rfl⟩:=hI
 have dl:done.length≤14:=by have :=congrArg List.length eo;rw[List.length_append] at this;lia
 refine⟨by lia,aO (fun y=>?_) fun y=>?_⟩
 ·have lt:a<n:=by lia
  cases f with
  | zero=>lia
  | succ f=>
   have t1:1≤tk z en (st+a):=by
    have :=(afy (z:=z) (en:=en) (p:=st+a) (by lia))
    rcases this with h | h
    ·exact h
    ·have :=he 0 h;lia
   have ti:=G3 (z:=z) (q:=st+a) (by lia)
   rw[show((st+a:Nat):Int)=(st:Int)+(a:Int) by lia] at ti
   have e1:(H'.set fo (.list ((done.map (oA st))++[oA st a]))) fo=some (.list ((done++[a]).map (oA st))):=by rw[AH.ag,List.map_append];rfl
   have eo':gp z en st n n 0=(done++[a])++gp z en st n f (a+tk z en (st+a)):=by rw[eo,gp,if_pos lt,List.append_assoc];rfl
   have reach:a+tk z en (st+a)≤n:=by
    unfold tk
    cases en with
    | none=>exact lt
    | some e=>
     dsimp only
     split
     ·by_cases z0:da z (st+a)=0
      ·lia
      ·obtain⟨m,hm,em⟩:=Gy z0
       have o:=jC m hm
       unfold aC.lim at o
       lia
     ·exact lt
   have SV:∀L:Nat,L=da z (st+a)→aU Z G BA (d+1) mX [some (.bytes z.tx),some (.int st),some (.tup [.int z.sh,.int z.aP,.int z.mo]),some (iC z),some pv,some (yP en),some (.ref fo),some (oA st a),some (.int L),none,none,none,none,none,none] (H'.set fo (.list ((done.map (oA st))++[oA st a]))) K (fun _=>False):=fun L hL=>by
    have go:∀t:Nat,t=tk z en (st+a)→K .next [some (.bytes z.tx),some (.int st),some (.tup [.int z.sh,.int z.aP,.int z.mo]),some (iC z),some pv,some (yP en),some (.ref fo),some (.int ((st:Int)+(a:Int)+(t:Int))),some (.int L),none,none,none,none,none,none] (H'.set fo (.list ((done.map (oA st))++[oA st a]))):=fun t ht=>by
     subst ht
     refine next f _ _ rfl ⟨h1.aE dY,a+tk z en (st+a),done++[a],some (.int L),reach,by lia,e1,eo',?_⟩
     rw[show(st:Int)+(a:Int)+((tk z en (st+a):Nat):Int)=(st:Int)+((a+tk z en (st+a):Nat):Int) by lia]
    cases en with
    | none=>exact⟨ltI rfl,go 1 rfl⟩
    | some e=>
     refine aO (fun y=>⟨ltI rfl,go L ?_⟩) fun y=>⟨ltI rfl,go 1 ?_⟩
     ·show L=if e≤da z (st+a) then _ else _
      rw[if_pos (by lia),hL]
     ·show 1=if e≤da z (st+a) then _ else _
      rw[if_neg (by lia)]
   refine .inr (.inl ⟨_,e,rfl,_,e,by rw[List.length_map];lia,?_⟩)
   refine⟨by lia,by lia,.lst ((ba z (st+a)).map mA),ti,.inl ⟨_,_,rfl,rfl,GC,rfl,fun r hr=>?_⟩⟩
   refine rt hr (fun nz=>?_) fun ez=>?_
   ·rcases List.eq_nil_or_concat (ba z (st+a)) with h | ⟨l,m,h⟩
    ·rw[h] at nz;exact absurd rfl nz
    ·refine⟨by lia,by lia,.lst ((ba z (st+a)).map mA),ti,by decide,by decide,mA m,?_,by decide,by decide,.int m.1,rfl,ltI rfl,SV m.1 ?_⟩
     ·rw[h,List.concat_eq_append];exact PE
     ·unfold da;rw[h,List.concat_eq_append,List.getLast?_append];rfl
   ·have ez':ba z (st+a)=[]:=List.map_eq_nil_iff.mp ez
    exact⟨ltI rfl,SV 0 (by unfold da;rw[ez'];rfl)⟩
 ·have an:a=n:=by lia
  subst an
  have o0:gp z en st a f a=[]:=by cases f with
   | zero=>rfl
   | succ f=>rw[gp,if_neg (Nat.lt_irrefl _)]
  rw[o0,List.append_nil] at eo
  refine fun ca uc la Ig=>⟨rfl,ltI rfl,ltI rfl,rfl,?_⟩
  have Yr:aq H ca:= .of h1 uc
  have caf:ca≠fo:=fun z=>by rw[z,e] at uc;cases uc
  have Fp:aq H la:= .of (h1.aE Yr) Ig
  have cl:ca≠la:=fun z=>by rw[←z,AH.ag] at Ig;cases Ig
  have laf:la≠fo:=fun z=>by rw[z,AH.ae _ _ (Ne.symm caf),e] at Ig;cases Ig
  refine M9 (F:=fin z P st a en) (os:=done) (cl:=[((st:Int),.int 0)]) (ll:=[]) c hz hn ⟨by rw[←eo];exact XT.1,fun x hx=>?_⟩ dl (by unfold fin;rw[eo]) hF E4 ⟨?_,?_,fun j=>?_,fun j hj=>?_,Nat.le_refl _,Nat.zero_le _⟩ hp ((h1.aE Yr).aE Fp) Yr Fp dY cl ?_ hQ
  ·rw[←eo] at hx
   exact⟨(XT.2 x hx).2,agL x hx⟩
  ·rw[AH.ae _ _ cl,AH.ag]
  ·exact AH.ag ..
  ·unfold eM bo
   by_cases ej:j=0
   ·subst ej
    rw[if_pos rfl,List.find?_cons_of_pos (by simp)];rfl
   ·rw[if_neg ej,List.find?_cons_of_neg (by simp;lia)];rfl
  ·unfold eM
   rw[if_neg (by lia)];rfl
  ·exact(AH.ae _ _ (Ne.symm laf)).trans ((AH.ae _ _ (Ne.symm caf)).trans e)
end
end
noncomputable def num (l:List Int):Int:=l.foldl (fun n o=>n*256+o) 0
noncomputable def dK (z:aC)(q:Nat):Option Int:=if q+z.sh≤z.tx.length then some (num ((z.tx.drop q).take z.sh)) else none
noncomputable def uI (z:aC):Nat→Int→Int
 | 0,_=>-1
 | k+1,n=>if dK z k=some n then(k:Int) else uI z k n
noncomputable def ta (z:aC)(q:Nat):Int:=match dK z q with
 | none=>-1
 | some n=>uI z q n
noncomputable def nX (z:aC)(p:Nat)(n:Int):Nat→List Nat
 | 0=>[]
 | q+1=>if dK z q=some n∧p-q≤z.aP then q::nX z p n q else nX z p n q
noncomputable def cands (z:aC)(p:Nat):List Nat:=match dK z p with
 | none=>[]
 | some n=>nX z p n p
noncomputable def wt (z:aC)(p lim:Nat):List Nat→Nat→List (Nat×Nat)
 | [],_=>[]
 | q::r,L=>if lim≤L then[] else if z.tx[q+L]? =z.tx[p+L]? then(if L<er z.tx p q lim 0 then(er z.tx p q lim 0,p-q)::wt z p lim r (er z.tx p q lim 0) else wt z p lim r L) else wt z p lim r L
theorem T0 {z:aC}{n:Int}:∀k:Nat,-1≤uI z k n∧uI z k n<k
 | 0=>⟨Int.le_refl _,(by decide:(-1:Int)<0)⟩
 | k+1=>by
  rw[uI]
  have :=T0 (z:=z) (n:=n) k
  split
  ·exact⟨Int.le_trans (by decide) (Int.natCast_nonneg k),Int.ofNat_lt.mpr (Nat.lt_succ_self k)⟩
  ·exact⟨this.1,Int.lt_trans this.2 (Int.ofNat_lt.mpr (Nat.lt_succ_self k))⟩
theorem DH {p k w:Nat}(h:¬p-k≤w):¬p-(k-1)≤w:=fun x=>h (Nat.le_trans (Nat.sub_le_sub_left (Nat.sub_le k 1) p) x)
theorem Ot {p q w:Nat}(h:q<p-min p w):¬p-q≤w:=fun x=>Nat.not_lt.mpr (Nat.sub_le_iff_le_add.mpr (Nat.add_comm _ _▸Nat.sub_le_iff_le_add.mp (Nat.le_min.mpr ⟨Nat.sub_le _ _,x⟩))) h
theorem VH {p q w:Nat}(h:¬q<p-min p w):p-q≤w:=Nat.le_trans (Nat.sub_le_iff_le_add.mpr (Nat.add_comm _ _▸Nat.sub_le_iff_le_add.mp (Nat.not_lt.mp h))) (Nat.min_le_right _ _)
theorem AY {z:aC}{p:Nat}{n:Int}:∀{k:Nat},¬(p-(k-1)≤z.aP)→nX z p n k=[]
 | 0,_=>rfl
 | k+1,h=>by
  rw[nX,if_neg (fun x=>h x.2)]
  exact AY (DH h)
theorem Ds {z:aC}{p:Nat}{n:Int}:∀k:Nat,(uI z k n= -1∧nX z p n k=[])∨∃q,q<k∧uI z k n=(q:Int)∧dK z q=some n∧(p-q≤z.aP→nX z p n k=q::nX z p n q)∧(¬p-q≤z.aP→nX z p n k=[])
 | 0=>.inl ⟨rfl,rfl⟩
 | k+1=>by
  rw[uI,nX]
  by_cases e:dK z k=some n
  ·rw[if_pos e]
   refine .inr ⟨k,Nat.lt_succ_self k,rfl,e,fun h=>by rw[if_pos ⟨e,h⟩],fun h=>?_⟩
   rw[if_neg (fun x=>h x.2)]
   exact AY (DH h)
  ·rw[if_neg e,if_neg (fun x=>e x.1)]
   rcases Ds (z:=z) (p:=p) (n:=n) k with h | ⟨q,a,b⟩
   ·exact .inl h
   ·exact .inr ⟨q,Nat.lt_succ_of_lt a,b⟩
theorem HV {z:aC}{p:Nat}{n:Int}:∀{k:Nat},∀q∈nX z p n k,q<k
 | 0,q,h=>by cases h
 | k+1,q,h=>by
  rw[nX] at h
  split at h
  ·rcases List.mem_cons.mp h with rfl | h
   ·exact Nat.lt_succ_self _
   ·exact Nat.lt_succ_of_lt (HV q h)
  ·exact Nat.lt_succ_of_lt (HV q h)
theorem UA {z:aC}{p:Nat}:∀q∈cands z p,q<p:=fun q h=>by
 unfold cands at h
 split at h
 ·cases h
 ·exact HV q h
theorem AZ {z:aC}{p:Nat}{n:Int}:∀k:Nat,(nX z p n k).length≤k
 | 0=>Nat.le_refl _
 | k+1=>by
  rw[nX]
  split
  ·rw[List.length_cons];exact Nat.succ_le_succ (AZ k)
  ·exact Nat.le_succ_of_le (AZ k)
theorem AR {z:aC}{p:Nat}:(cands z p).length≤p:=by
 unfold cands
 split
 ·exact Nat.zero_le _
 ·exact AZ p
theorem xf {tx:List Int}{p lim lo:Nat}:∀{k L:Nat},lim≤L→qR tx p lim lo k L=[]
 | 0,_,_=>rfl
 | k+1,L,h=>by
  have :=(sW tx p k lim 0).2.1
  rw[qR]
  split
  ·rfl
  ·rw[if_neg (Nat.not_lt.mpr (Nat.le_trans this (Nat.le_trans (Nat.le_of_eq (Nat.zero_add lim)) h)))];exact xf h
theorem PC {z:aC}{p q lim:Nat}{n:Int}(hq:q≤p)(hp:dK z p=some n)(h:z.sh≤er z.tx p q lim 0):dK z q=some n:=by
 unfold dK at *
 split at hp
 ·rename_i le
  rw[if_pos (Nat.le_trans (Nat.add_le_add_right hq _) le),←hp]
  congr 2
  refine List.ext_getElem? fun j=>?_
  rw[List.getElem?_take,List.getElem?_take,List.getElem?_drop,List.getElem?_drop]
  by_cases e:j<z.sh
  ·rw[if_pos e,if_pos e]
   exact((sW z.tx p q lim 0).2.2.1 j (Nat.zero_le _) (Nat.lt_of_lt_of_le e h)).symm
  ·rw[if_neg e,if_neg e]
 ·cases hp
theorem A7 {z:aC}{p lim:Nat}{n:Int}(hp:dK z p=some n):∀{k L:Nat},k≤p→z.sh≤L+1→wt z p lim (nX z p n k) L=qR z.tx p lim (p-min p z.aP) k L
 | 0,_,_,_=>rfl
 | q+1,L,hk,hL=>by
  have ok:=sW z.tx p q lim 0
  have ih:=A7 (lim:=lim) hp (k:=q) (L:=L) (Nat.le_of_succ_le hk) hL
  rw[nX,qR]
  by_cases h1:q<p-min p z.aP
  ·rw[if_pos h1,if_neg (fun x=>Ot h1 x.2),AY (DH (Ot h1))];rfl
  ·rw[if_neg h1]
   by_cases h2:dK z q=some n
   ·rw[if_pos ⟨h2,VH h1⟩,wt]
    by_cases h3:lim≤L
    ·rw[if_pos h3,if_neg (Nat.not_lt.mpr (Nat.le_trans ok.2.1 (Nat.le_trans (Nat.le_of_eq (Nat.zero_add lim)) h3))),xf h3]
    ·rw[if_neg h3]
     by_cases h4:z.tx[q+L]? =z.tx[p+L]?
     ·rw[if_pos h4]
      by_cases h5:L<er z.tx p q lim 0
      ·rw[if_pos h5,if_pos h5,A7 (lim:=lim) hp (k:=q) (Nat.le_of_succ_le hk) (Nat.le_succ_of_le (Nat.le_trans hL h5))]
      ·rw[if_neg h5,if_neg h5,ih]
     ·rw[if_neg h4,ih,if_neg (fun x=>h4 (ok.2.2.1 L (Nat.zero_le _) x).symm)]
   ·rw[if_neg (fun x=>h2 x.1),ih,if_neg (fun x:L<er z.tx p q lim 0=>h2 (PC (lim:=lim) (Nat.le_of_succ_le hk) hp (Nat.le_trans hL x)))]
theorem UJ {z:aC}{p:Nat}(hs:1≤z.sh)(hp:p≤z.tx.length):wt z p (z.lim p) (cands z p) (z.sh-1)=ba z p:=by
 unfold ba cands
 cases e:dK z p with
 | none=>
  rw[xf]
  ·rfl
  ·unfold dK at e
   split at e
   ·cases e
   ·exact Nat.le_trans (Nat.min_le_right _ _) (Nat.le_sub_one_of_lt (Nat.sub_lt_left_of_lt_add hp (Nat.not_le.mp (by assumption))))
 | some n=>exact A7 e (Nat.le_refl _) (Nat.le_of_eq (Nat.sub_add_cancel hs).symm)
section
set_option maxHeartbeats 4000000
noncomputable def SubL (F:List Addr)(H H':AH):Prop:=∀a o,a∉F→o.kept=false→H a=some o→H' a=some o
theorem SubL.trans {F:List Addr}{H H' cb:AH}(x:SubL F H H')(y:SubL F H' cb):SubL F H cb:=fun a o h k e=>y a o h k (x a o h k e)
theorem Sub.l {F:List Addr}{H H':AH}(x:Sub H H'):SubL F H H':=fun a o _ k e=>x a o k e
theorem SubL.mono {F F':List Addr}{H H':AH}(x:SubL F H H')(h:∀a∈F,a∈F'):SubL F' H H':=fun a o n k e=>x a o (fun m=>n (h a m)) k e
theorem SubL.set {F:List Addr}{H:AH}{a:Addr}{o:AO}(h:a∈F):SubL F H (H.set a o):=fun b o' n k e=>by rw[AH.ae _ _ (fun z=>n (by rw[z];exact h))];exact e
structure jW (H:AH)(z:aC)(k:Nat)(r rx ld lb:Addr):Prop where
 hR:H r=some (.inst 374 rx)
 hY:H rx=some (.attrs [("octets",.bytes z.tx),("size",.int z.sh),("last",.ref ld),("before",.ref lb)])
 dat:∃(D:List (Int×AV)) (B:List Int),H ld=some (.dict D)∧H lb=some (.list (B.map .int))∧(∀n,(bo D n).getD (.int (-1))= .int (uI z k n))∧D.length≤k∧B.length=z.tx.length∧∀q,q<z.tx.length→B[q]? =some (if q<k then ta z q else -1)
theorem jW.sub {H H' z k r rx ld lb}(h:jW H z k r rx ld lb)(s:Sub H H'):jW H' z k r rx ld lb:=by
 show let P:=_;P;intro P
 obtain⟨h1,h2,D,B,h3,h4,h5⟩:=h
 exact⟨s _ _ rfl h1,s _ _ rfl h2,D,B,s _ _ rfl h3,s _ _ rfl h4,h5⟩
noncomputable def ahq (o:Option Int):AV:=match o with
 | none=>.none
 | some n=>.int n
section
variable {Z:Program}{G:Gd}{p:Params}{d:Nat}{H H0 H1:AH}{X:AH→Prop}
theorem WP (c:Cx Z G p){z:aC}{r rx:Addr}{ld lb:AV}{q:Nat}(ht:z.tx.length≤14)(hR:H r=some (.inst 374 rx))(hY:H rx=some (.attrs [("octets",.bytes z.tx),("size",.int z.sh),("last",ld),("before",lb)])):
  Gives Z G (d+1) 357 [.ref r,.int q] H (ahq (dK z q)):=by
 intro Q X hQ
 refine c.fn (yY p) rfl fun H0 cf hs _ _=>?_
 have eR:=hs _ _ rfl hR
 have eY:=hs _ _ rfl hY
 refine⟨_,_,_,eR,eY,c.at (ix p),_,rfl,rfl,_,_,_,eR,eY,c.at (gu p),_,rfl,rfl,by lia,aO (fun y=>?_) fun y=>?_⟩
 ·have :dK z q=none:=by unfold dK;rw[if_neg (by lia)]
  replace hQ:=(this)▸hQ
  exact hQ _ hs
 ·have ek:dK z q=some (num ((z.tx.drop q).take z.sh)):=by unfold dK;rw[if_pos (by lia)]
  rw[ek] at hQ
  refine⟨ltI rfl,_,_,_,eR,eY,c.at (gu p),_,rfl,rfl,_,_,_,eR,eY,c.at (ix p),_,rfl,rfl,_,_,rfl,rfl,by lia,?_⟩
  have ec:cU z.tx (some (q:Int)) (some ((q:Int)+z.sh))=(z.tx.drop q).take z.sh:=by
   rw[Mv (by lia) (by lia) (by lia)]
   congr 1
   lia
  refine(ec)▸?_
  generalize hl:(z.tx.drop q).take z.sh=l at hQ
  have ll:l.length≤14:=by rw[←hl,List.length_take,List.length_drop];lia
  refine⟨by lia,fun H2 s2=>?_⟩
  refine forM (src:= .items (l.map .int)) AV.int (fun r' σ H'=>Sub H H'∧∃(dn:List Int) (y:Option AV),l=dn++r'∧σ=[some (.ref r),some (.int q),some (.int (num dn)),y]) (fun _ _ _ _=>trivial) (fun σ H' h H3 s=>?_) (fun o r' σ H' K h k _ _=>?_) l _ _ ⟨hs.trans s2,[],none,rfl,rfl⟩
  ·show let P:=_;P;intro P
   obtain⟨h1,dn,y,e,rfl⟩:=h
   rw[List.append_nil] at e
   subst e
   exact hQ _ (h1.trans s)
  ·obtain⟨h1,dn,y,e,rfl⟩:=h
   refine⟨ltI rfl,.inr ⟨by decide,by decide⟩,ltI rfl,k _ _ ⟨h1,dn++[o],some (.int o),by rw[e,List.append_assoc];rfl,?_⟩⟩
   have :num (dn++[o])=num dn*256+o:=by unfold num;rw[List.foldl_append];rfl
   rw[this];rfl
theorem Uy (c:Cx Z G p){z:aC}{k:Nat}{r rx ld lb:Addr}{Q:AV→AH→Prop}(ht:z.tx.length≤14)(hk:k<z.tx.length)(h:jW H z k r rx ld lb)(hQ:∀H',SubL [ld,lb] H H'→jW H' z (k+1) r rx ld lb→Q .none H'):
  aw Z G BA (d+2) 364 [.ref r,.int k] H Q X:=by
 refine c.fn (yZ p) rfl fun H0 cf hs _ _=>?_
 have h0:=h.sub hs
 refine .inl ⟨_,_,_,_,h0.hR,h0.hY,c.mt (jE p),rfl,WP c ht h0.hR h0.hY _ _ fun H1 s1=>⟨ltI rfl,?_⟩⟩
 have h1:=h0.sub s1
 obtain⟨eR,eY,D,B,eD,eB,fD,lD,lB,fB⟩:=h1
 have nRl:r≠lb:=fun e=>by rw[e,eB] at eR;cases eR
 have nYl:rx≠lb:=fun e=>by rw[e,eB] at eY;cases eY
 have nRd:r≠ld:=fun e=>by rw[e,eD] at eR;cases eR
 have nYd:rx≠ld:=fun e=>by rw[e,eD] at eY;cases eY
 have ndl:ld≠lb:=fun e=>by rw[e,eB] at eD;cases eD
 have FL:SubL [ld,lb] H H1:=(hs.trans s1).l
 cases ek:dK z k with
 | none=>
  refine hQ H1 FL ⟨eR,eY,D,B,eD,eB,fun n=>?_,by lia,lB,fun q hq=>?_⟩
  ·rw[uI,if_neg (by rw[ek];intro e;cases e)];exact fD n
  ·rw[fB q hq]
   by_cases e:q<k
   ·rw[if_pos e,if_pos (by lia)]
   ·rw[if_neg e]
    split
    ·rw[show q=k by lia];unfold ta;rw[ek]
    ·rfl
 | some n=>
  refine⟨_,_,_,eR,eY,c.at (fb p),_,rfl,rfl,.inr (.inr ⟨D,eD,rfl,D,eD,?_⟩)⟩
  rw[fD n]
  refine⟨_,_,_,eR,eY,c.at (gt p),.ref lb,rfl,rfl,.inl ⟨_,eB,by lia,by rw[List.length_map];lia,by lia,?_⟩⟩
  refine⟨_,_,_,((AH.ae _ _ nRl).trans eR),((AH.ae _ _ nYl).trans eY),c.at (fb p),.ref ld,rfl,rfl,.inr ⟨D,((AH.ae _ _ ndl).trans eD),by lia,?_⟩⟩
  refine hQ _ ((FL.trans (.set (.tail _ (.head _)))).trans (.set (.head _))) ⟨((AH.ae _ _ nRd).trans ((AH.ae _ _ nRl).trans eR)),((AH.ae _ _ nYd).trans ((AH.ae _ _ nYl).trans eY)),fQ D n (.int k),B.set k (uI z k n),AH.ag ..,?_,fun m=>?_,Nat.le_trans (qh ..) (by lia),by rw[List.length_set];exact lB,fun q hq=>?_⟩
  ·rw[AH.ae _ _ (Ne.symm ndl),AH.ag,List.map_set,Int.toNat_natCast]
  ·rw[mh,uI,ek]
   by_cases e:m=n
   ·subst e;rw[if_pos rfl,if_pos rfl];rfl
   ·rw[if_neg e,if_neg (fun h=>e (by cases h;rfl))];exact fD m
  ·by_cases e:q=k
   ·subst e
    rw[List.getElem?_set_self (by lia),if_pos (Nat.lt_succ_self _)]
    unfold ta;rw[ek]
   ·rw[List.getElem?_set_ne (Ne.symm e),fB q hq]
    by_cases e':q<k
    ·rw[if_pos e',if_pos (by lia)]
    ·rw[if_neg e',if_neg (by lia)]
end
structure aK (H:AH)(z:aC)(ch:Int)(k:Nat)(f dx r rx ld lb:Addr):Prop where
 hF:H f=some (.inst 508 dx)
 hX:H dx=some (.attrs [("octets",.bytes z.tx),("least",.int z.sh),("window",.int z.aP),("chain",.int ch),("ahead",.int k),("row",.ref r)])
 row:jW H z k r rx ld lb
theorem aK.sub {H H' z ch k f dx r rx ld lb}(h:aK H z ch k f dx r rx ld lb)(s:Sub H H'):aK H' z ch k f dx r rx ld lb:=⟨s _ _ rfl h.hF,s _ _ rfl h.hX,h.row.sub s⟩
theorem aK.fresh {H z ch k f dx r rx ld lb fo}(h:aK H z ch k f dx r rx ld lb)(e:H fo=none):f≠fo∧dx≠fo∧r≠fo∧rx≠fo∧ld≠fo∧lb≠fo:=by
 have w:∀{a:Addr} {o:AO},H a=some o→a≠fo:=fun q z=>by rw[z,e] at q;cases q
 show let P:=_;P;intro P
 obtain⟨D,B,eD,eB,_⟩:=h.row.dat
 exact⟨w h.hF,w h.hX,w h.row.hR,w h.row.hY,w eD,w eB⟩
theorem aK.Ob {H z ch k f dx r rx ld lb fo o}(h:aK H z ch k f dx r rx ld lb)(n:f≠fo∧dx≠fo∧r≠fo∧rx≠fo∧ld≠fo∧lb≠fo):aK (H.set fo o) z ch k f dx r rx ld lb:=by
 show let P:=_;P;intro P
 obtain⟨D,B,eD,eB,q⟩:=h.row.dat
 exact⟨by rw[AH.ae _ _ n.1];exact h.hF,by rw[AH.ae _ _ n.2.1];exact h.hX,by rw[AH.ae _ _ n.2.2.1];exact h.row.hR,by rw[AH.ae _ _ n.2.2.2.1];exact h.row.hY,D,B,by rw[AH.ae _ _ n.2.2.2.2.1];exact eD,by rw[AH.ae _ _ n.2.2.2.2.2];exact eB,q⟩
section
variable {Z:Program}{G:Gd}{p:Params}{d:Nat}{H H0 H1:AH}{X:AH→Prop}
theorem Ux (c:Cx Z G p){z:aC}{k:Nat}{r rx ld lb:Addr}(ht:z.tx.length≤14)(h:jW H z k r rx ld lb):Gives Z G (d+2) 371 [.ref r,.int k] H (.int (ta z k)):=by
 intro Q X hQ
 refine c.fn (sx p) rfl fun H0 cf hs _ _=>?_
 have h0:=h.sub hs
 refine .inl ⟨_,_,_,_,h0.hR,h0.hY,c.mt (jE p),rfl,WP c ht h0.hR h0.hY _ _ fun H1 s1=>⟨ltI rfl,?_⟩⟩
 have h1:=h0.sub s1
 obtain⟨eR,eY,D,B,eD,eB,fD,lD,lB,fB⟩:=h1
 cases ek:dK z k with
 | none=>
  have :ta z k= -1:=by unfold ta;rw[ek]
  replace hQ:=(this)▸hQ
  exact hQ _ (hs.trans s1)
 | some n=>
  have eb:ta z k=uI z k n:=by unfold ta;rw[ek]
  rw[eb] at hQ
  refine⟨_,_,_,eR,eY,c.at (fb p),_,rfl,rfl,.inr (.inr ⟨D,eD,rfl,D,eD,?_⟩)⟩
  rw[fD n]
  have :=(T0 (z:=z) (n:=n) k).2
  exact⟨ltI rfl,1,aO (fun y=>absurd y (by lia)) fun _=>hQ _ (hs.trans s1)⟩
theorem WV (c:Cx Z G p){z:aC}{ch:Int}{k q mo:Nat}{f dx r rx ld lb:Addr}(ht:z.tx.length≤14)(hq:q≤z.tx.length)(h:aK H z ch k f dx r rx ld lb):Gives Z G (d+1) 420 [.ref f,.int q,.int mo] H (.int (min mo (z.tx.length-q):Nat)):=by
 intro Q X hQ
 refine c.fn (wI p) rfl fun H0 cf hs _ _=>?_
 have h0:=h.sub hs
 have e:((min mo (z.tx.length-q):Nat):Int)=min (mo:Int) ((z.tx.length:Int)-q):=by lia
 rw[e] at hQ
 exact⟨_,_,_,h0.hF,h0.hX,c.at (bN p),_,rfl,rfl,by lia,hQ _ hs⟩
theorem WN (c:Cx Z G p){z:aC}{ch:Int}{k q o lim:Nat}{f dx r rx ld lb:Addr}(ht:z.tx.length≤14)(hq:q+lim≤z.tx.length)(ho:o≤q)(h:aK H z ch k f dx r rx ld lb):
  Gives Z G (d+1) 434 [.ref f,.int q,.int o,.int 0,.int lim] H (.int (er z.tx q o lim 0:Nat)):=by
 intro Q X hQ
 refine c.fn (wH p) rfl fun H0 cf hs _ _=>?_
 have h0:=h.sub hs
 refine⟨_,_,_,h0.hF,h0.hX,c.at (bN p),_,rfl,rfl,ltI rfl,lim+1,?_⟩
 refine gc (fun n σ H'=>H'=H0∧∃kk:Nat,n+kk=lim∧er z.tx q o lim 0=er z.tx q o n kk∧σ=[some (.ref f),some (.int q),some (.int o),some (.int kk),some (.int lim),some (.bytes z.tx)])
   (fun n σ H3 K' hI next _=>?_) lim _ _ ⟨rfl,0,rfl,rfl,rfl⟩
 show let P:=_;P;intro P
 obtain⟨rfl,kk,hn,ek,rfl⟩:=hI
 have done:er z.tx q o n kk=kk→Q (.int (kk:Nat)) H3:=fun ea=>by
  rw[ek,ea] at hQ;exact hQ _ hs
 refine aO (fun x1=>?_) fun x1=>done (by rw[show n=0 by lia];rfl)
 show let P:=_;P;intro P
 cases n with
 | zero=>lia
 | succ n=>
  have eA:z.tx[((q:Int)+(kk:Int)).toNat]? =some z.tx[q+kk]:=by rw[show((q:Int)+(kk:Int)).toNat=q+kk by lia];exact List.getElem?_eq_getElem ..
  have eB:z.tx[((o:Int)+(kk:Int)).toNat]? =some (z.tx[o+kk]'(by lia)):=by rw[show((o:Int)+(kk:Int)).toNat=o+kk by lia];exact List.getElem?_eq_getElem ..
  have EY:z.tx[q+kk]? =some z.tx[q+kk]:=List.getElem?_eq_getElem ..
  have EZ:z.tx[o+kk]? =some (z.tx[o+kk]'(by lia)):=List.getElem?_eq_getElem ..
  refine⟨by lia,by lia,by lia,_,eA,by lia,by lia,by lia,_,eB,aO (fun x3=>?_) fun x3=>?_⟩
  ·refine next n _ _ rfl ⟨rfl,kk+1,by lia,?_,rfl⟩
   rw[ek,er,EY,EZ,x3,if_pos rfl]
  ·exact done (by rw[er,EY,EZ,if_neg (by simpa using x3)])
theorem OH (c:Cx Z G p){z:aC}{ch o:Int}{k q:Nat}{f dx r rx ld lb:Addr}{Q:AV→AH→Prop}(h:aK H z ch k f dx r rx ld lb)(hQ:∀H' (b:Bool),Sub H H'→(b=true↔o≠ -1∧(q:Int)-o≤z.aP)→Q (.bool b) H'):
  aw Z G BA (d+1) 441 [.ref f,.int q,.int o] H Q X:=by
 refine c.fn (sr p) rfl fun H0 cf hs _ _=>?_
 have h0:=h.sub hs
 refine Gv (fun y=>?_) fun y=>?_
 ·refine⟨_,_,_,h0.hF,h0.hX,c.at (sY p),_,rfl,rfl,hQ _ _ hs ?_⟩
  rw[decide_eq_true_iff]
  exact⟨fun z=>⟨y,z⟩,fun z=>z.2⟩
 ·refine hQ _ _ hs ?_
  subst y
  exact⟨fun z=>absurd z (by decide),fun z=>absurd rfl z.1⟩
end
section
variable {Z:Program}{G:Gd}{p:Params}{d:Nat}{H H0 H1:AH}{X:AH→Prop}
theorem Uw (c:Cx Z G p){z:aC}{ch:Int}{k:Nat}{f dx r rx ld lb:Addr}{Q:AV→AH→Prop}(ht:z.tx.length≤14)(hk:k<z.tx.length)(h:aK H z ch k f dx r rx ld lb)(hQ:∀H',SubL [dx,ld,lb] H H'→aK H' z ch (k+1) f dx r rx ld lb→Q .none H'):
  aw Z G BA (d+4) 399 [.ref f,.int k] H Q X:=by
 refine c.fn (Bp p) rfl fun H0 cf hs _ _=>?_
 have h0:=h.sub hs
 refine⟨_,_,_,h0.hF,h0.hX,c.at (vh p),_,rfl,rfl,Dq (fun y=>absurd y (by lia)) fun _=>⟨_,_,_,h0.hF,h0.hX,c.at (bN p),_,rfl,rfl,by lia,Dq (fun y=>absurd y (by lia)) fun _=>?_⟩⟩
 have nf:f≠dx:=fun e=>by have :=h0.hF;rw[e,h0.hX] at this;cases this
 have nr:r≠dx:=fun e=>by have :=h0.row.hR;rw[e,h0.hX] at this;cases this
 have nx:rx≠dx:=fun e=>by have :=h0.row.hY;rw[e,h0.hX] at this;exact absurd (show(6:Nat)=4 from ry this) (by decide)
 refine⟨_,_,_,h0.hF,h0.hX,c.st (jQ p),dM rfl,?_⟩
 have s1:SubL [dx,ld,lb] H (H0.set dx (.attrs [("octets",.bytes z.tx),("least",.int z.sh),("window",.int z.aP),("chain",.int ch),("ahead",.int ((k:Int)+1)),("row",.ref r)])):=hs.l.trans (.set (.head _))
 have e1:(H0.set dx (.attrs [("octets",.bytes z.tx),("least",.int z.sh),("window",.int z.aP),("chain",.int ch),("ahead",.int ((k:Int)+1)),("row",.ref r)])) f=some (.inst 508 dx):=((AH.ae _ _ nf).trans h0.hF)
 have e2:(H0.set dx (.attrs [("octets",.bytes z.tx),("least",.int z.sh),("window",.int z.aP),("chain",.int ch),("ahead",.int ((k:Int)+1)),("row",.ref r)])) dx=some (.attrs [("octets",.bytes z.tx),("least",.int z.sh),("window",.int z.aP),("chain",.int ch),("ahead",.int ((k:Int)+1)),("row",.ref r)]):=AH.ag ..
 have e3:jW (H0.set dx (.attrs [("octets",.bytes z.tx),("least",.int z.sh),("window",.int z.aP),("chain",.int ch),("ahead",.int ((k:Int)+1)),("row",.ref r)])) z k r rx ld lb:=by
  show let P:=_;P;intro P
  obtain⟨eR,eY,D,B,eD,eB,fD⟩:=h0.row
  refine⟨((AH.ae _ _ nr).trans eR),((AH.ae _ _ nx).trans eY),D,B,?_,?_,fD⟩
  ·exact(AH.ae _ _ (fun e=>by rw[e,h0.hX] at eD;cases eD)).trans eD
  ·rw[AH.ae _ _ (fun e=>by rw[e,h0.hX] at eB;cases eB)];exact eB
 have Ys:dx≠ld:=fun e=>by obtain⟨D,B,eD,_⟩:=e3.dat;rw[←e,e2] at eD;cases eD
 have ndb:dx≠lb:=fun e=>by obtain⟨D,B,_,eB,_⟩:=e3.dat;rw[←e,e2] at eB;cases eB
 have nfd:f≠ld:=fun e=>by obtain⟨D,B,eD,_⟩:=e3.dat;rw[←e,e1] at eD;cases eD
 have nfb:f≠lb:=fun e=>by obtain⟨D,B,_,eB,_⟩:=e3.dat;rw[←e,e1] at eB;cases eB
 show aU Z G BA (d+3) jq [some (.ref f),some (.int k)] (H0.set dx (.attrs [("octets",.bytes z.tx),("least",.int z.sh),("window",.int z.aP),("chain",.int ch),("ahead",.int ((k:Int)+1)),("row",.ref r)])) _ _
 generalize (H0.set dx (.attrs [("octets",.bytes z.tx),("least",.int z.sh),("window",.int z.aP),("chain",.int ch),("ahead",.int ((k:Int)+1)),("row",.ref r)]))=H1 at s1 e1 e2 e3
 refine .inl ⟨_,_,_,_,e1,e2,c.mt (wL p),rfl,c.fn (yW p) rfl fun H2 cf s2 _ _=>?_⟩
 refine⟨_,_,_,s2 _ _ rfl e1,s2 _ _ rfl e2,c.at (gT p),.ref r,rfl,rfl,.inl ⟨_,_,_,_,s2 _ _ rfl e3.hR,s2 _ _ rfl e3.hY,c.mt (wO p),rfl,Uy c ht hk (e3.sub s2) fun H3 s3 h3=>?_⟩⟩
 refine hQ H3 ((s1.trans s2.l).trans (s3.mono fun a h=>.tail _ h)) ⟨s3 _ _ ?_ rfl (s2 _ _ rfl e1),?_,h3⟩
 ·intro h
  rcases List.mem_cons.mp h with h | h
  ·exact nfd h
  ·exact nfb (List.mem_singleton.mp h)
 ·skip
  refine s3 _ _ ?_ rfl (s2 _ _ rfl e2)
  intro h
  rcases List.mem_cons.mp h with h | h
  ·exact Ys h
  ·exact ndb (List.mem_singleton.mp h)
theorem WC {z:aC}{pl k:Nat}{n:Int}(e:dK z k=some n):ta z k=uI z k n:=by unfold ta;rw[e]
theorem Ee (c:Cx Z G p){z:aC}{ch:Int}{k:Nat}{f dx r rx ld lb:Addr}(ht:z.tx.length≤14)(hk:k<z.tx.length)(hc:(z.tx.length:Int)≤ch)(h:aK H z ch k f dx r rx ld lb):
  Gives Z G (d+3) 498 [.ref f,.int k] H (.lst ((cands z k).map fun q=>.int (q:Nat))):=by
 intro Q X hQ
 refine aw.fz c.ok (c.fn (pD p) rfl fun H0 cf hs _ _=>?_)
 refine fun fo gn=>⟨ltI rfl,?_⟩
 have dY:aq H fo:= .of hs gn
 have nfr:=(h.sub hs).fresh gn
 have h1:=(h.sub hs).sub (H':=H0.set fo (.list [])) ((Sub.refl _).uQ gn)
 refine⟨_,_,_,h1.hF,h1.hX,c.at (gT p),.ref r,rfl,rfl,.inl ⟨_,_,_,_,h1.row.hR,h1.row.hY,c.mt (qL p),rfl,Ux c ht h1.row _ _ fun H2 s2=>⟨ltI rfl,k+1,?_⟩⟩⟩
 have h2:=h1.sub s2
 refine gc (fun j σ H'=>Sub H H'∧aK H' z ch k f dx r rx ld lb∧∃(o:Int) (dn:List Nat) (todo:List Nat),H' fo=some (.list (dn.map fun q=>.int (q:Nat)))∧cands z k=dn++todo∧dn.length+j≤k∧
   ((o= -1∧todo=[])∨∃(q:Nat) (n:Int),o=(q:Int)∧q<j∧q<k∧dK z q=some n∧(k-q≤z.aP→todo=q::nX z k n q)∧(¬k-q≤z.aP→todo=[]))∧σ=[some (.ref f),some (.int k),some (.ref fo),some (.int o)])
  (fun j σ H' K hI next _=>?_) k _ _ ⟨((hs.aE dY).trans s2),h2,ta z k,[],cands z k,s2 _ _ rfl (AH.ag ..),rfl,by show 0+k≤k;lia,?_,rfl⟩
 ·show let P:=_;P;intro P
  obtain⟨t1,h3,o,dn,todo,e,ec,dl,ho,rfl⟩:=hI
  have SV:todo=[]→∀H4,Sub H' H4→VQ Q (.ref fo) H4:=fun et H4 s4=>by
   rw[et,List.append_nil] at ec
   replace hQ:=(ec)▸hQ
   exact⟨_,_,.list (s4 _ _ rfl e),hQ _ ((t1.trans s4).c8 dY)⟩
  refine .inl ⟨_,_,_,_,h3.hF,h3.hX,c.mt (sC p),rfl,OH c h3 fun H4 b s4 hb=>?_⟩
  have h4:=h3.sub s4
  have e4:=s4 _ _ rfl e
  refine eqB (P:=b=true) ⟨fun x=>x,fun x=>x⟩ (fun y=>?_) fun y=>?_
  ·show let P:=_;P;intro P
   obtain⟨y1,y2⟩:=hb.mp y
   rcases ho with ⟨h,_⟩ | ⟨q,n,eq,qj,qk,ek,w1,w2⟩
   ·exact absurd h y1
   ·subst eq
    have et:=w1 (by lia)
    refine⟨_,e4,by rw[List.length_map];lia,_,_,_,h4.hF,h4.hX,c.at (vi p),.int ch,rfl,rfl,aO (fun _=>?_) fun n=>absurd (by rw[List.length_map];lia) n⟩
    refine .inr (.inl ⟨_,e4,rfl,_,e4,by rw[List.length_map];lia,?_⟩)
    have h5:=h4.Ob (fo:=fo) (o:= .list ((dn.map fun q=>AV.int (q:Nat))++[AV.int (q:Nat)])) nfr
    show let P:=_;P;intro P
    obtain⟨eR,eY,D,B,eD,eB,fD,lD,lB,fB⟩:=h5.row
    cases j with
    | zero=>lia
    | succ j=>
     refine⟨_,_,_,h5.hF,h5.hX,c.at (gT p),.ref r,rfl,rfl,_,_,_,eR,eY,c.at (gt p),.ref lb,rfl,rfl,.inl ⟨_,eB,by lia,by lia,.int (ta z q),?_,ltI rfl,next j _ _ rfl ⟨(t1.trans s4).aE dY,h5,ta z q,dn++[q],nX z k n q,?_,?_,?_,?_,rfl⟩⟩⟩
     ·unfold itemAt
      rw[if_neg (by lia),List.getElem?_map,Int.toNat_natCast,fB q (by lia),if_pos qk];rfl
     ·rw[AH.ag,List.map_append];rfl
     ·rw[ec,et,List.append_assoc];rfl
     ·rw[List.length_append];show dn.length+1+j≤k;lia
     ·refine(WC (pl:=k) ek)▸?_
      show let P:=_;P;intro P
      rcases Ds (z:=z) (p:=k) (n:=n) q with ⟨x1,x2⟩ | ⟨q',a1,a2,a3,a4,a5⟩
      ·exact .inl ⟨x1,x2⟩
      ·exact .inr ⟨q',n,a2,by lia,by lia,a3,a4,a5⟩
  ·refine SV ?_ _ s4
   show let P:=_;P;intro P
   rcases ho with ⟨_,h⟩ | ⟨q,n,eq,qj,qk,ek,w1,w2⟩
   ·exact h
   ·exact w2 fun w=>y (hb.mpr ⟨by lia,by lia⟩)
 ·unfold cands ta
  cases ek:dK z k with
  | none=>exact .inl ⟨rfl,rfl⟩
  | some n=>
   show let P:=_;P;intro P
   rcases Ds (z:=z) (p:=k) (n:=n) k with ⟨x1,x2⟩ | ⟨q',a1,a2,a3,a4,a5⟩
   ·exact .inl ⟨x1,x2⟩
   ·exact .inr ⟨q',n,a2,a1,a1,a3,a4,a5⟩
end
section
variable {Z:Program}{G:Gd}{p:Params}{d:Nat}{H H0 H1:AH}{X:AH→Prop}
theorem WO (c:Cx Z G p){z:aC}{ch:Int}{k:Nat}{f dx r rx ld lb:Addr}(ht:z.tx.length≤14)(hk:k<z.tx.length)(si:1≤z.sh)(hc:(z.tx.length:Int)≤ch)(h:aK H z ch k f dx r rx ld lb):
  Gives Z G (d+4) 505 [.ref f,.int k,.int z.mo] H (.lst ((ba z k).map mA)):=by
 intro Q X hQ
 refine aw.fz c.ok (c.fn (yX p) rfl fun H0 cf hs _ _=>?_)
 refine fun fo gn=>?_
 have dY:aq H fo:= .of hs gn
 have nfr:=(h.sub hs).fresh gn
 have h1:=(h.sub hs).Ob (o:= .list []) nfr
 refine .inl ⟨_,_,_,_,h1.hF,h1.hX,c.mt (wN p),rfl,WV c ht (by lia) h1 _ _ fun H2 s2=>⟨rfl,ltI rfl,ltI rfl,rfl,?_⟩⟩
 have h2:=h1.sub s2
 refine⟨_,_,_,h2.hF,h2.hX,c.at (jd p),.int z.sh,rfl,rfl,ltI rfl,?_⟩
 refine .inl ⟨_,_,_,_,h2.hF,h2.hX,c.mt (oi p),rfl,Ee c ht hk hc h2 _ _ fun H3 s3=>⟨by rw[List.length_map];have :=AR (z:=z) (p:=k);lia,fun H4 s4=>?_⟩⟩
 have h4:=(h2.sub s3).sub s4
 have em:=UJ (z:=z) (p:=k) si (by lia)
 have lm:z.lim k≤z.tx.length-k:=by unfold aC.lim;lia
 refine forM (src:= .items ((cands z k).map fun q=>AV.int (q:Nat))) (fun q:Nat=>AV.int (q:Nat)) (fun r' σ H'=>Sub H H'∧aK H' z ch k f dx r rx ld lb∧∃(L:Nat) (dn:List (Nat×Nat)) (y7 y8:Option AV),H' fo=some (.list (dn.map mA))∧ba z k=dn++wt z k (z.lim k) r' L∧(∀q∈r',q<k)∧dn.length+r'.length≤k∧
   σ=[some (.ref f),some (.int k),some (.int z.mo),some (.ref fo),some (.int (z.lim k:Nat)),some (.int L),y7,y8])
  (fun _ _ _ _=>trivial) (fun σ H' h H5 s=>?_) (fun q r' σ H' K h k' kb _=>?_) (cands z k) _ _ ⟨((hs.aE dY).trans s2).trans (s3.trans s4),h4,z.sh-1,[],none,none,(s2.trans (s3.trans s4)) _ _ rfl (AH.ag ..),em.symm,UA,by have :=AR (z:=z) (p:=k);show 0+_≤k;lia,?_⟩
 ·show let P:=_;P;intro P
  obtain⟨t1,_,L,dn,y7,y8,e,ed,_,_,rfl⟩:=h
  have :wt z k (z.lim k) [] L=[]:=rfl
  rw[this,List.append_nil] at ed
  replace hQ:=(ed)▸hQ
  exact⟨_,_,.list (s _ _ rfl e),hQ _ ((t1.trans s).c8 dY)⟩
 ·show let P:=_;P;intro P
  obtain⟨t1,h5,L,dn,y7,y8,e,ed,hM,hl,rfl⟩:=h
  have hq:=hM q (.head _)
  have nx:=fun s h=>hM s (List.mem_cons_of_mem q h)
  refine⟨ltI rfl,aO (fun y=>?_) fun y=>?_⟩
  ·have :wt z k (z.lim k) (q::r') L=[]:=by rw[wt,if_pos (by lia)]
   rw[this,List.append_nil] at ed
   replace hQ:=(ed)▸hQ
   exact kb _ _ ⟨_,_,.list e,hQ _ (t1.c8 dY)⟩
  ·have y':¬z.lim k≤L:=by lia
   have eA:z.tx[((q:Int)+(L:Int)).toNat]? =some (z.tx[q+L]'(by lia)):=by rw[show((q:Int)+(L:Int)).toNat=q+L by lia];exact List.getElem?_eq_getElem ..
   have eB:z.tx[((k:Int)+(L:Int)).toNat]? =some (z.tx[k+L]'(by lia)):=by rw[show((k:Int)+(L:Int)).toNat=k+L by lia];exact List.getElem?_eq_getElem ..
   have EY:z.tx[q+L]? =some (z.tx[q+L]'(by lia)):=List.getElem?_eq_getElem ..
   have EZ:z.tx[k+L]? =some (z.tx[k+L]'(by lia)):=List.getElem?_eq_getElem ..
   have yU:dn.length+r'.length≤k:=by rw[List.length_cons] at hl;lia
   refine⟨_,_,_,h5.hF,h5.hX,c.at (bN p),.bytes z.tx,rfl,rfl,by lia,by lia,by lia,_,eA,_,_,_,h5.hF,h5.hX,c.at (bN p),.bytes z.tx,rfl,rfl,by lia,by lia,by lia,_,eB,aO (fun y2=>?_) fun y2=>?_⟩
   ·refine .inl ⟨_,_,_,_,h5.hF,h5.hX,c.mt (wK p),rfl,WN c ht (by lia) (by lia) h5 _ _ fun H6 s6=>⟨ltI rfl,aO (fun y3=>?_) fun y3=>?_⟩⟩
    ·have h6:=h5.sub s6
     have e6:=s6 _ _ rfl e
     refine .inr (.inl ⟨_,e6,rfl,_,e6,by rw[List.length_map];lia,ltI rfl,k' _ _ ⟨(t1.trans s6).aE dY,h6.Ob nfr,er z.tx k q (z.lim k) 0,dn++[(er z.tx k q (z.lim k) 0,k-q)],_,_,?_,?_,nx,?_,rfl⟩⟩)
     ·rw[AH.ag,List.map_append]
      have :(k:Int)-(q:Int)=((k-q:Nat):Int):=by lia
      rw[this];rfl
     ·rw[ed,wt,if_neg y',EY,EZ,y2,if_pos rfl,if_pos (by lia),List.append_assoc];rfl
     ·rw[List.length_append]
      show dn.length+1+r'.length≤k
      rw[List.length_cons] at hl
      lia
    ·exact k' _ _ ⟨t1.trans s6,h5.sub s6,L,dn,_,_,s6 _ _ rfl e,by rw[ed,wt,if_neg y',EY,EZ,y2,if_pos rfl,if_neg (by lia)],nx,yU,rfl⟩
   ·exact k' _ _ ⟨t1,h5,L,dn,_,_,e,by rw[ed,wt,if_neg y',EY,EZ,if_neg (by simpa using y2)],nx,yU,rfl⟩
 ·skip
  rw[show(z.sh:Int)-1=((z.sh-1:Nat):Int) by lia];rfl
end
theorem jx {v:AV}:∀n:Nat,(List.replicate n [v]).flatten=List.replicate n v
 | 0=>rfl
 | n+1=>by rw[List.replicate_succ,List.flatten_cons,jx n];rfl
theorem aq.none {H:AH}{a:Addr}(h:H a=none):aq H a:=fun o k e=>by rw[h] at e;cases e
theorem qq {H H0:AH}{a dx C:Addr}(ha:H a=none)(hd:H dx=none)(hs:Sub ((H.set dx (.attrs [])).set a (.inst C dx)) H0):Sub H H0:=fun b o k q=>hs b o k (by
 have z1:b≠a:=fun z=>by subst z;rw[ha] at q;cases q
 have z2:b≠dx:=fun z=>by subst z;rw[hd] at q;cases q
 rw[AH.ae _ _ z1,AH.ae _ _ z2];exact q)
section
variable {Z:Program}{G:Gd}{p:Params}{d:Nat}{H H0 H1:AH}{X:AH→Prop}
theorem L7 (c:Cx Z G p){z:aC}{Q:AV→AH→Prop}(ht:z.tx.length≤14)(si:1≤z.sh)(hQ:∀H' r rx ld lb,Sub H H'→jW H' z 0 r rx ld lb→aq H ld→aq H lb→Q (.ref r) H'):
  aw Z G BA (d+2) 374 [.bytes z.tx,.int z.sh] H Q X:=by
 refine c.cls (HS p) fun a dx az ha hd=>c.fn (su p) rfl fun H0 cf hs _ _=>?_
 have s0:=qq ha hd hs
 have na:aq H a:= .none ha
 have nd:aq H dx:= .none hd
 have ea:H0 a=some (.inst 374 dx):=hs _ _ rfl (AH.ag ..)
 have ed:H0 dx=some (.attrs []):=hs _ _ rfl (((AH.ae _ _ (Ne.symm az)).trans (AH.ag ..)))
 refine aO (fun y=>absurd y (by lia)) fun _=>?_
 refine⟨_,_,_,ea,ed,c.st (qU p),by decide,_,_,_,((AH.ae _ _ az).trans ea),AH.ag ..,c.st (uV p),dM rfl,fun ld Bi=>?_⟩
 have yO:((H0.set dx (.attrs [("octets",.bytes z.tx)])).set dx (.attrs [("octets",.bytes z.tx),("size",.int z.sh)])) a=some (.inst 374 dx):=((AH.ae _ _ az).trans ((AH.ae _ _ az).trans ea))
 have E0:((H0.set dx (.attrs [("octets",.bytes z.tx)])).set dx (.attrs [("octets",.bytes z.tx),("size",.int z.sh)])) dx=some (.attrs [("octets",.bytes z.tx),("size",.int z.sh)]):=AH.ag ..
 have s1:Sub H ((H0.set dx (.attrs [("octets",.bytes z.tx)])).set dx (.attrs [("octets",.bytes z.tx),("size",.int z.sh)])):=(s0.aE nd).aE nd
 have SY:((H0.set dx (.attrs [("octets",.bytes z.tx)])).set dx (.attrs [("octets",.bytes z.tx),("size",.int z.sh)])) ld=none:=Bi
 show mw G "last" (.ref ld) _ (.ref a) (((H0.set dx (.attrs [("octets",.bytes z.tx)])).set dx (.attrs [("octets",.bytes z.tx),("size",.int z.sh)])).set ld (.dict []))
 clear Bi
 generalize ((H0.set dx (.attrs [("octets",.bytes z.tx)])).set dx (.attrs [("octets",.bytes z.tx),("size",.int z.sh)]))=H1 at yO E0 s1 SY
 have PR:aq H ld:= .of s1 SY
 have al:a≠ld:=(aA (yO) SY).symm
 have dl:dx≠ld:=(aA (E0) SY).symm
 refine⟨_,_,_,((AH.ae _ _ al).trans yO),((AH.ae _ _ dl).trans E0),c.st (uU p),dM rfl,by lia,?_⟩
 refine⟨by rw[List.length_singleton];lia,by lia,by lia,fun lb hlb=>?_⟩
 have rV:((H1.set ld (.dict [])).set dx (.attrs [("octets",.bytes z.tx),("size",.int z.sh),("last",.ref ld)])) a=some (.inst 374 dx):=((AH.ae _ _ az).trans ((AH.ae _ _ al).trans yO))
 have qF:((H1.set ld (.dict [])).set dx (.attrs [("octets",.bytes z.tx),("size",.int z.sh),("last",.ref ld)])) dx=some (.attrs [("octets",.bytes z.tx),("size",.int z.sh),("last",.ref ld)]):=AH.ag ..
 have HX:((H1.set ld (.dict [])).set dx (.attrs [("octets",.bytes z.tx),("size",.int z.sh),("last",.ref ld)])) ld=some (.dict []):=((AH.ae _ _ (Ne.symm dl)).trans (AH.ag ..))
 have s2:Sub H ((H1.set ld (.dict [])).set dx (.attrs [("octets",.bytes z.tx),("size",.int z.sh),("last",.ref ld)])):=(s1.aE PR).aE nd
 have MU:((H1.set ld (.dict [])).set dx (.attrs [("octets",.bytes z.tx),("size",.int z.sh),("last",.ref ld)])) lb=none:=hlb
 show mw G "before" (.ref lb) _ (.ref a) (((H1.set ld (.dict [])).set dx (.attrs [("octets",.bytes z.tx),("size",.int z.sh),("last",.ref ld)])).set lb (.list (List.replicate ((z.tx.length:Int)).toNat [AV.int (-1)]).flatten))
 clear hlb
 generalize ((H1.set ld (.dict [])).set dx (.attrs [("octets",.bytes z.tx),("size",.int z.sh),("last",.ref ld)]))=H2 at rV qF HX s2 MU
 have nlb:aq H lb:= .of s2 MU
 have ab:a≠lb:=(aA (rV) MU).symm
 have db:dx≠lb:=(aA (qF) MU).symm
 have bl:ld≠lb:=(aA (HX) MU).symm
 rw[jx,Int.toNat_natCast]
 refine⟨_,_,_,((AH.ae _ _ ab).trans rV),((AH.ae _ _ db).trans qF),c.st (qT p),dM rfl,rfl,hQ _ a dx ld lb ((s2.aE nlb).aE nd) ⟨?_,AH.ag ..,[],List.replicate z.tx.length (-1),?_,?_,fun _=>rfl,Nat.le_refl _,List.length_replicate ..,fun q hq=>?_⟩ PR nlb⟩
 ·exact(AH.ae _ _ az).trans ((AH.ae _ _ ab).trans rV)
 ·rw[AH.ae _ _ (Ne.symm dl),AH.ae _ _ bl];exact HX
 ·rw[AH.ae _ _ (Ne.symm db),AH.ag,List.map_replicate]
 ·rw[List.getElem?_replicate,if_pos hq,if_neg (by lia)]
theorem WW (c:Cx Z G p){z:aC}{ch:Int}{a dx:Addr}{Q:AV→AH→Prop}(si:1≤z.sh)(hw:1≤z.aP)(hc:1≤ch)(ha:H a=some (.inst 508 dx))(hd:H dx=some (.attrs []))
  (hQ:∀H',SubL [dx] H H'→H' a=some (.inst 508 dx)→H' dx=some (.attrs [("octets",.bytes z.tx),("least",.int z.sh),("window",.int z.aP),("chain",.int ch),("ahead",.int 0)])→Q .none H'):
  aw Z G BA (d+1) 392 [.ref a,.bytes z.tx,.int z.sh,.int z.aP,.int ch] H Q X:=by
 refine c.fn (uj p) rfl fun H0 cf hs _ _=>?_
 have ea:=hs _ _ rfl ha
 have ed:=hs _ _ rfl hd
 have az:a≠dx:=fun e=>by rw[e,hd] at ha;cases ha
 refine aO (fun y=>absurd y (by lia)) fun _=>aO (fun y=>absurd y (by lia)) fun _=>aO (fun y=>absurd y (by lia)) fun _=>?_
 refine⟨_,_,_,ea,ed,c.st (uS p),by decide,_,_,_,((AH.ae _ _ az).trans ea),AH.ag ..,c.st (xh p),dM rfl,_,_,_,((AH.ae _ _ az).trans ((AH.ae _ _ az).trans ea)),AH.ag ..,c.st (uT p),dM rfl,
  _,_,_,((AH.ae _ _ az).trans ((AH.ae _ _ az).trans ((AH.ae _ _ az).trans ea))),AH.ag ..,c.st (xg p),dM rfl,_,_,_,((AH.ae _ _ az).trans ((AH.ae _ _ az).trans ((AH.ae _ _ az).trans ((AH.ae _ _ az).trans ea)))),AH.ag ..,c.st (jQ p),dM rfl,?_⟩
 refine hQ _ (hs.l.trans (((((SubL.set (.head _)).trans (.set (.head _))).trans (.set (.head _))).trans (.set (.head _))).trans (.set (.head _)))) ?_ (AH.ag ..)
 exact(AH.ae _ _ az).trans ((AH.ae _ _ az).trans ((AH.ae _ _ az).trans ((AH.ae _ _ az).trans ((AH.ae _ _ az).trans ea))))
theorem Gn (c:Cx Z G p){z:aC}{ch:Int}{a dx:Addr}{Q:AV→AH→Prop}{H H0:AH}(ht:z.tx.length≤14)(si:1≤z.sh)(hw:1≤z.aP)(hc:1≤ch)(az:a≠dx)(ha:H a=none)(hd:H dx=none)(hs:Sub ((H.set dx (.attrs [])).set a (.inst 508 dx)) H0)
  (hQ:∀H' f dx r rx ld lb,Sub H H'→aK H' z ch 0 f dx r rx ld lb→aq H dx→aq H ld→aq H lb→Q (.ref f) H'):
  aU Z G BA (d+2) cH [some (.ref a),some (.bytes z.tx),some (.int z.sh),some (.int z.aP),some (.int ch)] H0 (d6 fun v H2=>v= .none∧Q (.ref a) H2) X:=by
 have s0:=qq ha hd hs
 have nd:aq H dx:= .none hd
 have ea:H0 a=some (.inst 508 dx):=hs _ _ rfl (AH.ag ..)
 have ed:H0 dx=some (.attrs []):=hs _ _ rfl (((AH.ae _ _ (Ne.symm az)).trans (AH.ag ..)))
 refine⟨c.cm (wn p),WW c si hw hc ea ed fun H1 s1 yO E0=>?_⟩
 have FL:Sub H H1:=fun b o k e=>s1 b o (fun m=>by rw[List.mem_singleton.mp m] at e;exact nd o k e) k (s0 b o k e)
 refine⟨_,_,_,yO,E0,c.at (bN p),.bytes z.tx,rfl,rfl,c.call (abO p) (L7 c ht si fun H2 r rx ld lb s2 row nl nb=>?_)⟩
 have rV:=s2 _ _ rfl yO
 have qF:=s2 _ _ rfl E0
 refine⟨_,_,_,rV,qF,c.st (DE p),dM rfl,rfl,hQ _ a dx r rx ld lb ((FL.trans s2).aE nd) ⟨?_,AH.ag ..,?_⟩ nd (nl.back FL) (nb.back FL)⟩
 ·exact(AH.ae _ _ az).trans rV
 ·obtain⟨eR,eY,D,B,eD,eB,q⟩:=row
  refine⟨?_,?_,D,B,?_,?_,q⟩
  ·exact(AH.ae _ _ (fun e=>by rw[e,qF] at eR;cases eR)).trans eR
  ·rw[AH.ae _ _ (fun e=>by rw[e,qF] at eY;exact absurd (show(5:Nat)=4 from ry eY) (by decide))];exact eY
  ·exact(AH.ae _ _ (fun e=>by rw[e,qF] at eD;cases eD)).trans eD
  ·rw[AH.ae _ _ (fun e=>by rw[e,qF] at eB;cases eB)];exact eB
theorem Uu (c:Cx Z G p){z:aC}{ch:Int}{Q:AV→AH→Prop}(ht:z.tx.length≤14)(si:1≤z.sh)(hw:1≤z.aP)(hc:1≤ch)(hQ:∀H' f dx r rx ld lb,Sub H H'→aK H' z ch 0 f dx r rx ld lb→aq H dx→aq H ld→aq H lb→Q (.ref f) H'):
  aw Z G BA (d+4) 508 [.bytes z.tx,.int z.sh,.int z.aP,.int ch] H Q X:=
 c.cls (AW p) fun a dx az ha hd=>c.fn (wG p) rfl fun H0 cf hs _ _=>Gn c ht si hw hc az ha hd hs hQ
theorem OG (c:Cx Z G p){tx:List Int}{Q:AV→AH→Prop}(ht:tx.length≤14)(hQ:∀H' f dx r rx ld lb,Sub H H'→aK H' ⟨tx,3,32768,0⟩ 32 0 f dx r rx ld lb→aq H dx→aq H ld→aq H lb→Q (.ref f) H'):
  aw Z G BA (d+4) 508 [.bytes tx,.int 3] H Q X:=
 c.cls (AW p) fun a dx az ha hd=>c.fn (sk p) rfl fun H0 cf hs _ _=>Gn (z:=⟨tx,3,32768,0⟩) c ht (dM rfl) (dM rfl) (by decide) az ha hd hs hQ
end
structure eV (H:AH)(sh k:Nat)(t td f:Addr):Prop where
 hT:H t=some (.inst 116 td)
 hD:H td=some (.attrs [("finder",.ref f),("shortest",.int sh),("known",.int k)])
theorem eV.sub {H H' sh k t td f}(h:eV H sh k t td f)(s:Sub H H'):eV H' sh k t td f:=⟨s _ _ rfl h.hT,s _ _ rfl h.hD⟩
theorem vj {H:AH}{a b:Addr}{l l':List (String×AV)}(h:H a=some (.attrs l))(h':H b=some (.attrs l'))(n:Nat.beq l'.length l.length=false):a≠b:=fun e=>by
 rw[e,h'] at h
 exact Nat.ne_of_beq_eq_false n (ry h)
theorem Ub {H z ch k k' sh t td f g dx r rx ld lb}(hT:eV H sh k' t td g)(h:aK H z ch k f dx r rx ld lb):t∉[dx,ld,lb]∧td∉[dx,ld,lb]∧(f≠td∧dx≠td∧r≠td∧rx≠td∧ld≠td∧lb≠td):=by
 show let P:=_;P;intro P
 obtain⟨D,B,eD,eB,_⟩:=h.row.dat
 have h1:=hT.hT
 have h2:=hT.hD
 have nd:dx≠td:=vj h.hX h2 rfl
 have nx:rx≠td:=vj h.row.hY h2 rfl
 have nl:ld≠td:=fun e=>by rw[e,h2] at eD;cases eD
 have nb:lb≠td:=fun e=>by rw[e,h2] at eB;cases eB
 refine⟨fun m=>?_,fun m=>?_,fun e=>?_,nd,fun e=>?_,nx,nl,nb⟩
 ·rcases List.mem_cons.mp m with e | m
  ·have :=h.hX;rw[←e,h1] at this;cases this
  ·rcases List.mem_cons.mp m with e | m
   ·rw[←e,h1] at eD;cases eD
   ·rw[←List.mem_singleton.mp m,h1] at eB;cases eB
 ·rcases List.mem_cons.mp m with e | m
  ·exact nd e.symm
  ·rcases List.mem_cons.mp m with e | m
   ·exact nl e.symm
   ·exact nb (List.mem_singleton.mp m).symm
 ·have :=h.hF;rw[e,h2] at this;cases this
 ·have :=h.row.hR;rw[e,h2] at this;cases this
section
variable {Z:Program}{G:Gd}{p:Params}{d:Nat}{H H0 H1:AH}{X:AH→Prop}
theorem WM (c:Cx Z G p){z:aC}{ch:Int}{k:Nat}{f dx r rx ld lb:Addr}{Q:AV→AH→Prop}(si:2≤z.sh)(h:aK H z ch k f dx r rx ld lb)(hQ:∀H' t td,Sub H H'→eV H' z.sh 0 t td f→aq H td→Q (.ref t) H'):
  aw Z G BA (d+2) 116 [.ref f] H Q X:=by
 refine c.cls (UC p) fun a td az ha hd=>c.fn (y0 p) rfl fun H0 cf hs _ _=>?_
 have s0:=qq ha hd hs
 have nd:aq H td:= .none hd
 have ea:H0 a=some (.inst 116 td):=hs _ _ rfl (AH.ag ..)
 have ed:H0 td=some (.attrs []):=hs _ _ rfl (((AH.ae _ _ (Ne.symm az)).trans (AH.ag ..)))
 have h1:=(h.sub s0).Ob (o:= .attrs [("finder",.ref f)]) (h.fresh hd)
 refine⟨_,_,_,ea,ed,c.st (xi p),dM rfl,_,_,_,h1.hF,h1.hX,c.at (jd p),.int z.sh,rfl,rfl,?_⟩
 refine⟨_,_,_,((AH.ae _ _ az).trans ea),AH.ag ..,c.st (sO p),dM rfl,_,_,_,((AH.ae _ _ az).trans ((AH.ae _ _ az).trans ea)),AH.ag ..,c.st (m9 p),dM rfl,rfl,hQ _ a td (((s0.aE nd).aE nd).aE nd) ⟨?_,?_⟩ nd⟩
 ·exact(AH.ae _ _ az).trans ((AH.ae _ _ az).trans ((AH.ae _ _ az).trans ea))
 ·have e:max (z.sh:Int) 2=z.sh:=by lia
  rw[AH.ag]
  rw[e];rfl
theorem WY (c:Cx Z G p){z:aC}{ch:Int}{k pl:Nat}{t td f dx r rx ld lb:Addr}{Q:AV→AH→Prop}(ht:z.tx.length≤14)(hk:k≤pl)(hp:pl≤z.tx.length)(hT:eV H z.sh k t td f)(h:aK H z ch k f dx r rx ld lb)
  (hQ:∀H',SubL [td,dx,ld,lb] H H'→eV H' z.sh pl t td f→aK H' z ch pl f dx r rx ld lb→Q .none H'):aw Z G BA (d+5) 101 [.ref t,.int pl] H Q X:=by
 refine c.fn (Br p) rfl fun H0 cf hs _ _=>⟨pl-k+1,?_⟩
 refine gc (fun n σ H'=>SubL [td,dx,ld,lb] H H'∧σ=[some (.ref t),some (.int pl)]∧n≤pl∧eV H' z.sh (pl-n) t td f∧aK H' z ch (pl-n) f dx r rx ld lb)
  (fun n σ H' K hI next _=>?_) (pl-k) _ _ ⟨hs.l,rfl,Nat.sub_le ..,by rw[show pl-(pl-k)=k by lia];exact hT.sub hs,by rw[show pl-(pl-k)=k by lia];exact h.sub hs⟩
 show let P:=_;P;intro P
 obtain⟨s1,rfl,hn,nY,h1⟩:=hI
 refine⟨_,_,_,nY.hT,nY.hD,c.at (gj p),.int (pl-n:Nat),rfl,rfl,aO (fun y=>?_) fun y=>?_⟩
 ·cases n with
  | zero=>lia
  | succ n=>
   refine⟨_,_,_,nY.hT,nY.hD,c.at (jf p),.ref f,rfl,rfl,.inl ⟨_,_,_,_,h1.hF,h1.hX,c.mt (BE p),rfl,_,_,_,nY.hT,nY.hD,c.at (gj p),.int (pl-(n+1):Nat),rfl,rfl,Uw c ht (by lia) h1 fun H2 s2 h2=>?_⟩⟩
   show let P:=_;P;intro P
   obtain⟨o1,o2,_⟩:=Ub nY h1
   have Bf:eV H2 z.sh (pl-(n+1)) t td f:=⟨s2 _ _ o1 rfl nY.hT,s2 _ _ o2 rfl nY.hD⟩
   have o3:=(Ub Bf h2).2.2
   have tn:t≠td:=fun e=>by have :=Bf.hT;rw[e,Bf.hD] at this;cases this
   have ek:pl-(n+1)+1=pl-n:=by lia
   have ek':((pl-(n+1):Nat):Int)+1=((pl-n:Nat):Int):=by lia
   refine⟨_,_,_,Bf.hT,Bf.hD,c.at (gj p),.int (pl-(n+1):Nat),rfl,rfl,_,_,_,Bf.hT,Bf.hD,c.st (m9 p),dM rfl,next n _ _ rfl ⟨(s1.trans (s2.mono fun a m=>.tail _ m)).trans (.set (.head _)),rfl,by lia,⟨((AH.ae _ _ tn).trans Bf.hT),?_⟩,?_⟩⟩
   ·rw[AH.ag,←ek'];rfl
   ·rw[←ek];exact h2.Ob o3
 ·have :pl-n=pl:=by lia
  rw[this] at nY h1
  exact hQ _ s1 nY h1
theorem Uv (c:Cx Z G p){z:aC}{ch:Int}{k pl:Nat}{t td f dx r rx ld lb:Addr}{Q:AV→AH→Prop}(ht:z.tx.length≤14)(si:1≤z.sh)(hc:(z.tx.length:Int)≤ch)(hk:k≤pl)(hp:pl<z.tx.length)(hT:eV H z.sh k t td f)(h:aK H z ch k f dx r rx ld lb)
  (hQ:∀H',SubL [td,dx,ld,lb] H H'→eV H' z.sh pl t td f→aK H' z ch pl f dx r rx ld lb→Q (.lst ((ba z pl).map mA)) H'):aw Z G BA (d+6) 113 [.ref t,.int pl,.int z.mo] H Q X:=by
 refine c.fn (Bq p) rfl fun H0 cf hs _ _=>?_
 have hT0:=hT.sub hs
 refine .inl ⟨_,_,_,_,hT0.hT,hT0.hD,c.mt (zd p),rfl,WY c ht hk (by lia) hT0 (h.sub hs) fun H1 s1 nY h1=>?_⟩
 refine⟨_,_,_,nY.hT,nY.hD,c.at (jf p),.ref f,rfl,rfl,.inl ⟨_,_,_,_,h1.hF,h1.hX,c.mt (wM p),rfl,WO c ht hp si hc h1 _ _ fun H2 s2=>⟨by rw[List.length_map];have :=uP (tx:=z.tx) (p:=pl) (lim:=z.lim pl) (lo:=pl-min pl z.aP) pl (z.sh-1);unfold ba;lia,fun H3 s3=>?_⟩⟩⟩
 have hT3:=(nY.sub s2).sub s3
 have h3:=(h1.sub s2).sub s3
 refine cK (src:= .items ((ba z pl).map mA)) (base:=[some (.ref t),some (.int pl),some (.int z.mo)]) mA (fun m=>some (mA m)) 1 (fun _ _=>trivial) (Nat.le_trans wJ (by lia)) rfl (fun H4 s4 H5 s5=>?_) fun m w H4 K hm hw s4 k=>?_
 ·rw[Pg]
  exact hQ _ ((((hs.l.trans s1).trans s2.l).trans s3.l).trans (s4.trans s5).l) ((hT3.sub s4).sub s5) ((h3.sub s4).sub s5)
 ·obtain⟨x,rfl⟩:=jB hw
  have hT4:=hT3.sub s4
  have :=(jC m hm).1
  exact⟨ltI rfl,by decide,by decide,.int m.1,rfl,_,_,_,hT4.hT,hT4.hD,c.at (gV p),.int z.sh,rfl,rfl,aO (fun _=>k [some (mA m)] H4 rfl s4) fun y=>absurd (show(m.1:Int)≥z.sh by lia) y⟩
end
noncomputable def oI:Cell→AV
 | none=>.none
 | some q=>.int q.1
noncomputable def oS (g:Nat)(o:Cell):AV:=if g=0 then .none else match o with
 | none=>.none
 | some q=>aH q.2
structure iD (H:AH)(T:Nat→Cell)(n:Nat)(w wd lc ls:Addr):Prop where
 hW:H w=some (.inst 164 wd)
 hD:H wd=some (.attrs [("size",.int n),("costs",.ref lc),("steps",.ref ls)])
 hC:H lc=some (.list ((List.range (n+1)).map fun g=>oI (T g)))
 hS:H ls=some (.list ((List.range (n+1)).map fun g=>oS g (T g)))
 ne:lc≠ls
theorem iD.sub {H H' T n w wd lc ls}(h:iD H T n w wd lc ls)(s:Sub H H'):iD H' T n w wd lc ls:=⟨s _ _ rfl h.hW,s _ _ rfl h.hD,s _ _ rfl h.hC,s _ _ rfl h.hS,h.ne⟩
theorem iD.congr {H T T' n w wd lc ls}(h:iD H T n w wd lc ls)(e:∀j,T j=T' j):iD H T' n w wd lc ls:=by
 have :T=T':=funext e
 subst this
 exact h
theorem DB {n g:Nat}{F F':Nat→AV}{v:AV}(hg:g<n)(e0:F' g=v)(e:∀j,j≠g→F' j=F j):((List.range n).map F).set g v=(List.range n).map F':=by
 subst e0
 refine List.ext_getElem? fun j=>?_
 by_cases z:g=j
 ·subst z
  rw[List.getElem?_set_self (by rw[List.length_map,List.length_range];exact hg),List.getElem?_map,List.getElem?_range hg];rfl
 ·rw[List.getElem?_set_ne z,List.getElem?_map,List.getElem?_map]
  by_cases l:j<n
  ·rw[List.getElem?_range l];exact congrArg some (e j (Ne.symm z)).symm
  ·rw[List.getElem?_eq_none (by rw[List.length_range];lia)];rfl
theorem xd {n g:Nat}{F:Nat→AV}(hg:g<n):itemAt ((List.range n).map F) (g:Int)=some (F g):=by
 unfold itemAt
 rw[if_neg (by lia),Int.toNat_natCast,List.getElem?_map,List.getElem?_range hg];rfl
theorem DA (n:Nat)(F:Nat→Cell→AV)(v:AV)(h:∀j,1≤j→F j none=v):(List.range (n+1)).map (fun g=>F g (eM g))=F 0 (some (0,(0,0)))::List.replicate n v:=by
 rw[List.range_succ_eq_map,List.map_cons,List.map_map]
 congr 1
 refine List.ext_getElem? fun j=>?_
 refine(List.getElem?_map)▸?_
 by_cases l:j<n
 ·rw[List.getElem?_range l,List.getElem?_replicate,if_pos l]
  show some (F (j+1) (eM (j+1)))=_
  have :eM (j+1)=none:=by unfold eM;rw[if_neg (by lia)]
  rw[this,h _ (by lia)]
 ·rw[List.getElem?_eq_none (by rw[List.length_range];lia),List.getElem?_replicate,if_neg l];rfl
section
variable {Z:Program}{G:Gd}{p:Params}{d:Nat}{H H0 H1:AH}{X:AH→Prop}
theorem aba (c:Cx Z G p){n:Nat}{nv:Int}{Q:AV→AH→Prop}(hn:n≤14)(en:nv=n)(hQ:∀H' w wd lc ls,Sub H H'→iD H' eM n w wd lc ls→aq H w→aq H wd→aq H lc→aq H ls→Q (.ref w) H'):aw Z G BA (d+2) 164 [.int nv] H Q X:=by
 subst en
 refine c.cls (W2 p) fun a dx az ha hd=>c.fn (Bs p) rfl fun H0 cf hs _ _=>?_
 have s0:=qq ha hd hs
 have nd:aq H dx:= .none hd
 have ea:H0 a=some (.inst 164 dx):=hs _ _ rfl (AH.ag ..)
 have ed:H0 dx=some (.attrs []):=hs _ _ rfl (((AH.ae _ _ (Ne.symm az)).trans (AH.ag ..)))
 refine⟨_,_,_,ea,ed,c.st (FN p),dM rfl,?_⟩
 have yO:(H0.set dx (.attrs [("size",.int n)])) a=some (.inst 164 dx):=((AH.ae _ _ az).trans ea)
 have E0:(H0.set dx (.attrs [("size",.int n)])) dx=some (.attrs [("size",.int n)]):=AH.ag ..
 have s1:Sub H (H0.set dx (.attrs [("size",.int n)])):=s0.aE nd
 show aU Z G BA d ju [some (.ref a),some (.int n)] (H0.set dx (.attrs [("size",.int n)])) _ _
 generalize (H0.set dx (.attrs [("size",.int n)]))=H1 at yO E0 s1
 refine⟨by rw[List.length_singleton,Int.toNat_natCast];lia,by lia,by lia,by rw[jx,List.length_replicate,Int.toNat_natCast,List.length_singleton];lia,fun lc hlc=>?_⟩
 have PQ:aq H lc:= .of s1 hlc
 have al:a≠lc:=(aA (yO) hlc).symm
 have dl:dx≠lc:=(aA (E0) hlc).symm
 rw[jx,Int.toNat_natCast]
 refine⟨_,_,_,((AH.ae _ _ al).trans yO),((AH.ae _ _ dl).trans E0),c.st (DF p),dM rfl,?_⟩
 have ec:[AV.int 0]++List.replicate n AV.none=(List.range (n+1)).map (fun g=>oI (eM g)):=by
  rw[DA n (fun _ o=>oI o) .none (fun _ _=>rfl)];rfl
 refine(ec)▸?_
 have rV:((H1.set lc (.list ((List.range (n+1)).map (fun g=>oI (eM g))))).set dx (.attrs [("size",.int n),("costs",.ref lc)])) a=some (.inst 164 dx):=((AH.ae _ _ az).trans ((AH.ae _ _ al).trans yO))
 have qF:((H1.set lc (.list ((List.range (n+1)).map (fun g=>oI (eM g))))).set dx (.attrs [("size",.int n),("costs",.ref lc)])) dx=some (.attrs [("size",.int n),("costs",.ref lc)]):=AH.ag ..
 have HX:((H1.set lc (.list ((List.range (n+1)).map (fun g=>oI (eM g))))).set dx (.attrs [("size",.int n),("costs",.ref lc)])) lc=some (.list ((List.range (n+1)).map (fun g=>oI (eM g)))):=((AH.ae _ _ (Ne.symm dl)).trans (AH.ag ..))
 have s2:Sub H ((H1.set lc (.list ((List.range (n+1)).map (fun g=>oI (eM g))))).set dx (.attrs [("size",.int n),("costs",.ref lc)])):=(s1.aE PQ).aE nd
 show aU Z G BA d jt [some (.ref a),some (.int n)] ((H1.set lc (.list ((List.range (n+1)).map (fun g=>oI (eM g))))).set dx (.attrs [("size",.int n),("costs",.ref lc)])) _ _
 generalize ((H1.set lc (.list ((List.range (n+1)).map (fun g=>oI (eM g))))).set dx (.attrs [("size",.int n),("costs",.ref lc)]))=H2 at rV qF HX s2
 refine⟨by rw[List.length_singleton];lia,by lia,by lia,fun ls hls=>?_⟩
 have PT:aq H ls:= .of s2 hls
 have as:a≠ls:=(aA (rV) hls).symm
 have ds:dx≠ls:=(aA (qF) hls).symm
 have cs:lc≠ls:=(aA (HX) hls).symm
 refine⟨_,_,_,((AH.ae _ _ as).trans rV),((AH.ae _ _ ds).trans qF),c.st (DG p),dM rfl,rfl,hQ _ a dx lc ls ((s2.aE PT).aE nd) ⟨?_,AH.ag ..,?_,?_,cs⟩ (.none ha) nd PQ PT⟩
 ·exact(AH.ae _ _ az).trans ((AH.ae _ _ as).trans rV)
 ·rw[AH.ae _ _ (Ne.symm dl),AH.ae _ _ cs];exact HX
 ·rw[AH.ae _ _ (Ne.symm ds),AH.ag,jx,DA n oS .none (fun j hj=>by unfold oS;rw[if_neg (by lia)]),show((n:Int)+1).toNat=n+1 by lia];rfl
theorem WX (c:Cx Z G p){T:Nat→Cell}{n a g:Nat}{w wd lc ls:Addr}{s:Int×Int}{x:Int}{Q:AV→AH→Prop}(hn:n≤14)(hg:(a:Int)+bh s=(g:Int))(hgn:g≤n)(hag:a<g)(ha:T a≠none)(h:iD H T n w wd lc ls)
  (hQ:∀H',SubL [lc,ls] H H'→iD H' (fun j=>if j=g then upd (cst (T a)) (T g) (s,x) else T j) n w wd lc ls→Q .none H'):aw Z G BA (d+2) 154 [.ref w,.int a,aH s,.int x] H Q X:=by
 refine c.fn (Fa p) rfl fun H0 cf hs _ _=>?_
 refine c.call (PD p) (lQ c fun H1 s1=>⟨ltI rfl,?_⟩)
 have h1:=(h.sub hs).sub s1
 have t1:SubL [lc,ls] H H1:=(hs.trans s1).l
 refine⟨_,_,_,h1.hW,h1.hD,c.at (iF p),.int n,rfl,rfl,aO (fun y=>absurd y (by lia)) fun _=>?_⟩
 have ia:itemAt ((List.range (n+1)).map fun g=>oI (T g)) (a:Int)=some (.int (cst (T a))):=by
  rw[xd (by lia)]
  cases e:T a with
  | none=>exact absurd e ha
  | some q=>rfl
 have ig:itemAt ((List.range (n+1)).map fun g=>oI (T g)) ((a:Int)+bh s)=some (oI (T g)):=by rw[hg];exact xd (by lia)
 refine⟨_,_,_,h1.hW,h1.hD,c.at (dF p),.ref lc,rfl,rfl,.inl ⟨_,h1.hC,by lia,by lia,.int (cst (T a)),ia,ltI rfl,?_⟩⟩
 have cw:w≠lc:=fun e=>by have :=h1.hW;rw[e,h1.hC] at this;cases this
 have cd:wd≠lc:=fun e=>by have :=h1.hD;rw[e,h1.hC] at this;cases this
 have sw:w≠ls:=fun e=>by have :=h1.hW;rw[e,h1.hS] at this;cases this
 have sd:wd≠ls:=fun e=>by have :=h1.hD;rw[e,h1.hS] at this;cases this
 have put:upd (cst (T a)) (T g) (s,x)=some (cst (T a)+x,s)→aU Z G BA (d+1) mQ [some (.ref w),some (.int a),some (aH s),some (.int x),some (.int ((a:Int)+bh s)),some (.int (cst (T a)+x))] H1 (d6 Q) X:=fun eu=>by
  refine⟨_,_,_,h1.hW,h1.hD,c.at (dF p),.ref lc,rfl,rfl,.inl ⟨_,h1.hC,by lia,by rw[List.length_map,List.length_range];lia,by lia,?_⟩⟩
  refine⟨_,_,_,((AH.ae _ _ cw).trans h1.hW),((AH.ae _ _ cd).trans h1.hD),c.at (gW p),.ref ls,rfl,rfl,.inl ⟨_,((AH.ae _ _ (Ne.symm h1.ne)).trans h1.hS),by lia,by rw[List.length_map,List.length_range];lia,by lia,?_⟩⟩
  replace hQ:=(eu)▸hQ
  rw[hg,Int.toNat_natCast]
  refine hQ _ ((t1.trans (.set (.head _))).trans (.set (.tail _ (.head _)))) ⟨?_,?_,?_,?_,h1.ne⟩
  ·exact(AH.ae _ _ sw).trans ((AH.ae _ _ cw).trans h1.hW)
  ·rw[AH.ae _ _ sd,AH.ae _ _ cd];exact h1.hD
  ·rw[AH.ae _ _ h1.ne,AH.ag]
   exact congrArg (fun l=>some (AO.list l)) (DB (F':=fun j=>oI (if j=g then some (cst (T a)+x,s) else T j)) (by lia) (by show oI (if g=g then _ else _)=_;rw[if_pos rfl];rfl) fun j hj=>by show oI (if j=g then _ else _)=_;rw[if_neg hj])
  ·rw[AH.ag]
   exact congrArg (fun l=>some (AO.list l)) (DB (F':=fun j=>oS j (if j=g then some (cst (T a)+x,s) else T j)) (by lia) (by show oS g (if g=g then _ else _)=_;rw[if_pos rfl];unfold oS;rw[if_neg (by lia)]) fun j hj=>by show oS j (if j=g then _ else _)=_;rw[if_neg hj])
 have keep:upd (cst (T a)) (T g) (s,x)=T g→Q .none H1:=fun eu=>by
  rw[eu] at hQ
  refine hQ _ t1 (h1.congr fun j=>?_)
  split
  ·rename_i e;rw[e]
  ·rfl
 cases e:T g with
 | none=>
  rw[e] at ig put
  exact⟨_,_,_,h1.hW,h1.hD,c.at (dF p),.ref lc,rfl,rfl,.inl ⟨_,h1.hC,by lia,by lia,.none,ig,put rfl⟩⟩
 | some q=>
  obtain⟨y,t⟩:=q
  rw[e] at ig put keep
  have eu:upd (cst (T a)) (some (y,t)) (s,x)=if cst (T a)+x<y then some (cst (T a)+x,s) else some (y,t):=rfl
  refine⟨_,_,_,h1.hW,h1.hD,c.at (dF p),.ref lc,rfl,rfl,.inl ⟨_,h1.hC,by lia,by lia,.int y,ig,_,_,_,h1.hW,h1.hD,c.at (dF p),.ref lc,rfl,rfl,.inl ⟨_,h1.hC,by lia,by lia,.int y,ig,Dq (fun z=>?_) fun z=>?_⟩⟩⟩
  ·rw[if_pos z] at eu;exact put eu
  ·rw[if_neg z] at eu;exact keep eu
theorem abb (c:Cx Z G p){F:Nat→Cell}{n:Nat}{w wd lc ls:Addr}(hn:n≤14)(hF:sV F)(E4:F n≠none)(h:iD H F n w wd lc ls):Gives Z G (d+2) 161 [.ref w] H (.lst ((qW F n n).reverse.map aH)):=by
 intro Q X hQ
 refine c.fn (Il p) rfl fun H0 cf hs _ _=>?_
 refine fun fo gn=>?_
 have dY:aq H fo:= .of hs gn
 have h0:=h.sub hs
 have fw:w≠fo:=fun e=>by have :=h0.hW;rw[e,gn] at this;cases this
 have fd:wd≠fo:=fun e=>by have :=h0.hD;rw[e,gn] at this;cases this
 have fs:ls≠fo:=fun e=>by have :=h0.hS;rw[e,gn] at this;cases this
 refine⟨_,_,_,((AH.ae _ _ fw).trans h0.hW),((AH.ae _ _ fd).trans h0.hD),c.at (iF p),.int n,rfl,rfl,rfl,ltI rfl,ltI rfl,rfl,n+1,?_⟩
 refine gc (fun f σ H'=>Sub H H'∧H' w=some (.inst 164 wd)∧H' wd=some (.attrs [("size",.int n),("costs",.ref lc),("steps",.ref ls)])∧H' ls=some (.list ((List.range (n+1)).map fun g=>oS g (F g)))∧∃(g:Nat) (done:List (Int×Int)),g≤n∧g≤f∧F g≠none∧H' fo=some (.list (done.map aH))∧qW F n n=done++qW F f g∧done.length+g≤n∧
  σ=[some (.ref w),some (.ref fo),some (.int g)])
  (fun f σ H' K hI next _=>?_) n _ _ ⟨hs.aE dY,((AH.ae _ _ fw).trans h0.hW),((AH.ae _ _ fd).trans h0.hD),((AH.ae _ _ fs).trans h0.hS),n,[],Nat.le_refl _,Nat.le_refl _,E4,AH.ag ..,rfl,by show 0+n≤n;lia,rfl⟩
 show let P:=_;P;intro P
 obtain⟨h1,eW,eD,eS,g,done,hg,hf,ne,e,et,dl,rfl⟩:=hI
 refine aO (fun y=>?_) fun y=>?_
 ·show let P:=_;P;intro P
  cases f with
  | zero=>lia
  | succ f=>
   cases eq:F g with
   | none=>exact absurd eq ne
   | some q=>
    obtain⟨x,s⟩:=q
    rcases hF g x s eq with z0 | ⟨o1,o2,o3,o4⟩
    ·lia
    ·have ig:itemAt ((List.range (n+1)).map fun g=>oS g (F g)) (g:Int)=some (aH s):=by
      rw[xd (by lia),eq];unfold oS;rw[if_neg (by lia)]
     refine .inr (.inl ⟨_,e,rfl,_,_,_,eW,eD,c.at (gW p),.ref ls,rfl,rfl,.inl ⟨_,eS,by lia,by lia,aH s,ig,_,e,by rw[List.length_map];lia,?_⟩⟩)
     refine c.call (PD p) (lQ c fun H2 s2=>⟨ltI rfl,next f _ _ rfl ⟨(h1.aE dY).trans s2,?_,?_,?_,g-(bh s).toNat,done++[s],by lia,by lia,o4,?_,?_,?_,?_⟩⟩) |>fun q=>⟨_,_,_,((AH.ae _ _ fw).trans eW),((AH.ae _ _ fd).trans eD),c.at (gW p),.ref ls,rfl,rfl,.inl ⟨_,((AH.ae _ _ fs).trans eS),by lia,by lia,aH s,ig,q⟩⟩
     ·exact s2 _ _ rfl (((AH.ae _ _ fw).trans eW))
     ·exact s2 _ _ rfl (((AH.ae _ _ fd).trans eD))
     ·exact s2 _ _ rfl (((AH.ae _ _ fs).trans eS))
     ·exact s2 _ _ rfl (by rw[AH.ag,List.map_append];rfl)
     ·rw[et,qW,if_neg (by lia),eq,List.append_assoc];rfl
     ·rw[List.length_append];show done.length+1+_≤n;lia
     ·show[_,_,some (AV.int ((g:Int)-bh s))]=_
      rw[show(g:Int)-bh s=((g-(bh s).toNat:Nat):Int) by lia]
 ·have g0:g=0:=by lia
  subst g0
  have t0:qW F f 0=[]:=by cases f<;>rfl
  rw[t0,List.append_nil] at et
  refine⟨_,e,by rw[List.length_map];lia,?_⟩
  have :=hQ H' h1
  rw[et,List.map_reverse] at this
  exact this
end
theorem eV.iB {H H' sh k t td f}{F:List Addr}(h:eV H sh k t td f)(s:SubL F H H')(n:t∉F∧td∉F):eV H' sh k t td f:=⟨s _ _ n.1 rfl h.hT,s _ _ n.2 rfl h.hD⟩
theorem iD.iB {H H' T n w wd lc ls}{F:List Addr}(h:iD H T n w wd lc ls)(s:SubL F H H')(m:w∉F∧wd∉F∧lc∉F∧ls∉F):iD H' T n w wd lc ls:=⟨s _ _ m.1 rfl h.hW,s _ _ m.2.1 rfl h.hD,s _ _ m.2.2.1 rfl h.hC,s _ _ m.2.2.2 rfl h.hS,h.ne⟩
theorem aK.iB {H H' z ch k f dx r rx ld lb}{F:List Addr}(h:aK H z ch k f dx r rx ld lb)(s:SubL F H H')(m:f∉F∧dx∉F∧r∉F∧rx∉F∧ld∉F∧lb∉F):aK H' z ch k f dx r rx ld lb:=by
 show let P:=_;P;intro P
 obtain⟨D,B,eD,eB,q⟩:=h.row.dat
 exact⟨s _ _ m.1 rfl h.hF,s _ _ m.2.1 rfl h.hX,s _ _ m.2.2.1 rfl h.row.hR,s _ _ m.2.2.2.1 rfl h.row.hY,D,B,s _ _ m.2.2.2.2.1 rfl eD,s _ _ m.2.2.2.2.2 rfl eB,q⟩
noncomputable def d4 (z:aC)(P:Pr)(v:Int)(ms:List (Nat×Nat))(S:Nat→Cell)(a:Nat):Nat→Cell:=fun g=>if a<g then(if g-a=1∨z.sh≤g-a then(dB ms P v (g-a)).foldl (upd (cst (S a))) (S g) else S g) else S g
theorem Oe {z P v ms S a}:d4 z P v ms S a a=S a:=by unfold d4;rw[if_neg (Nat.lt_irrefl _)]
theorem VI {ms:List (Nat×Nat)}{m:Nat×Nat}{P:Pr}{v:Int}{n:Nat}:dB (ms++[m]) P v n=dB ms P v n++(if 2≤n∧n≤m.1 then[(((n:Int),(m.2:Int)),P.oh n m.2)] else[]):=by
 unfold dB
 rw[List.filterMap_append,List.append_assoc]
 congr 2
 rw[List.filterMap_cons]
 split<;>rename_i q
 ·split at q
  ·cases q
  ·rename_i z;rw[if_neg z];rfl
 ·split at q
  ·rename_i z;cases q;rw[if_pos z];rfl
  ·cases q
noncomputable def gr (z:aC)(P:Pr)(T:Nat→Cell)(c:Int)(a ds q:Nat):Nat→Cell:=fun g=>if a<g∧z.sh≤g-a∧g-a<q then upd c (T g) ((((g-a:Nat):Int),(ds:Int)),P.oh (g-a:Nat) ds) else T g
theorem akQ {α:Sort _}{c:Prop}[Decidable c]{a b:α}(h:c):(if c then a else b)=a:=if_pos h
theorem So {z:aC}{P:Pr}{v:Int}{ms:List (Nat×Nat)}{S:Nat→Cell}{a:Nat}{m:Nat×Nat}(h:2≤z.sh)(g:Nat):gr z P (d4 z P v ms S a) (cst (S a)) a m.2 (m.1+1) g=d4 z P v (ms++[m]) S a g:=by
 unfold gr d4
 refine@dite _ (a<g) _ (fun h1=>?_) fun h1=>((if_neg fun x=>h1 x.1).trans (if_neg h1)).trans (if_neg h1).symm
 rw[if_pos h1,if_pos h1,VI]
 refine@dite _ (z.sh≤g-a) _ (fun h2=>?_) fun h2=>(if_neg fun x=>h2 x.2.1).trans ?_
 ·have d1:g-a=1∨z.sh≤g-a:= .inr h2
  rw[if_pos d1,if_pos d1]
  refine@dite _ (g-a≤m.1) _ (fun h3=>?_) fun h3=>?_
  ·have n3:a<g∧z.sh≤g-a∧g-a<m.1+1:=⟨h1,h2,Nat.lt_succ_of_le h3⟩
   have n4:2≤g-a∧g-a≤m.1:=⟨Nat.le_trans h h2,h3⟩
   rw[if_pos n3,if_pos n4,List.foldl_append];rfl
  ·have n3:¬(a<g∧z.sh≤g-a∧g-a<m.1+1):=fun x=>h3 (Nat.le_of_lt_succ x.2.2)
   have n4:¬(2≤g-a∧g-a≤m.1):=fun x=>h3 x.2
   rw[if_neg n3,if_neg n4,List.append_nil]
 ·refine@dite _ (g-a=1) _ (fun h3=>?_) fun h3=>?_
  ·have d1:g-a=1∨z.sh≤g-a:= .inl h3
   have n4:¬(2≤g-a∧g-a≤m.1):=fun x=>absurd (h3▸x.1:2≤1) (by decide)
   rw[if_pos d1,if_pos d1,if_neg n4,List.append_nil]
  ·have d1:¬(g-a=1∨z.sh≤g-a):=fun x=>x.elim h3 h2
   rw[if_neg d1,if_neg d1]
theorem Sp {z:aC}{P:Pr}{T:Nat→Cell}{c:Int}{a ds q:Nat}(hq:z.sh≤q)(h0:1≤q)(j:Nat):(if j=a+q then upd c (gr z P T c a ds q (a+q)) (((q:Int),(ds:Int)),P.oh q ds) else gr z P T c a ds q j)=gr z P T c a ds (q+1) j:=by
 unfold gr
 refine@dite _ (j=a+q) _ (fun e=>?_) fun e=>(if_neg e).trans ?_
 ·subst e
  rw[if_pos rfl,Nat.add_sub_cancel_left,if_neg fun x=>Nat.lt_irrefl _ x.2.2,if_pos ⟨Nat.lt_add_of_pos_right h0,hq,Nat.lt_succ_self q⟩]
 ·refine@dite _ (a<j∧z.sh≤j-a∧j-a<q) _ (fun e'=>?_) fun e'=>?_
  ·rw[if_pos e',if_pos ⟨e'.1,e'.2.1,Nat.lt_succ_of_lt e'.2.2⟩]
  ·rw[if_neg e',if_neg fun x=>e' ⟨x.1,x.2.1,Nat.lt_of_le_of_ne (Nat.le_of_lt_succ x.2.2) fun z=>e (by rw[←z,Nat.add_sub_cancel' (Nat.le_of_lt x.1)])⟩]
theorem Of {z P T c a ds q}:gr z P T c a ds q a=T a:=by unfold gr;rw[if_neg (fun x=>Nat.lt_irrefl _ x.1)]
section
variable {Z:Program}{G:Gd}{p:Params}{d:Nat}{H H0 H1:AH}{X:AH→Prop}
theorem Gc (c:Cx Z G p){T T':Nat→Cell}{n a g:Nat}{w wd lc ls:Addr}{s:Int×Int}{x:Int}{Q:AV→AH→Prop}(hn:n≤14)(hg:(a:Int)+bh s=(g:Int))(hgn:g≤n)(hag:a<g)(ha:T a≠none)(h:iD H T n w wd lc ls)(e:∀j,(if j=g then upd (cst (T a)) (T g) (s,x) else T j)=T' j)
  (hQ:∀H',SubL [lc,ls] H H'→iD H' T' n w wd lc ls→Q .none H'):aw Z G BA (d+2) 154 [.ref w,.int a,.tup [.int s.1,.int s.2],.int x] H Q X:=
 WX c hn hg hgn hag ha h fun H' s' w'=>hQ H' s' (w'.congr e)
inductive OfI (F:Option AV→Option AV→Option AV→Sg)(L:List Addr)(H:AH)(ms:List (Nat×Nat))(W:List (Nat×Nat)→AH→Prop)(r:List (Nat×Nat)):Sg→AH→Prop
 | mk (H':AH) (dn:List (Nat×Nat)) (f8 cA cj:Option AV) (s:SubL L H H') (em:ms=dn++r) (hw:W dn H'):OfI F L H ms W r (F f8 cA cj) H'
inductive OfJ (F:Option AV→Sg)(L:List Addr)(H:AH)(W:Nat→AH→Prop)(i:Nat):Sg→AH→Prop
 | mk (H':AH) (cj:Option AV) (s:SubL L H H') (hw:W i H'):OfJ F L H W i (F cj) H'
noncomputable def stO (x0 x1 x2 x3 pv x5:AV)(t w:Addr)(a:Nat)(x9 x10:AV)(sU f8 cA cj:Option AV):Sg:=[some x0,some x1,some x2,some x3,some pv,some x5,some (.ref t),some (.ref w),some (.int a),some x9,some x10,f8,cA,cj,sU]
theorem Ff (c:Cx Z G p){z:aC}{P:Pr}{v:Int}{n a pl:Nat}{S:Nat→Cell}{t td f w wd lc ls:Addr}{k0:Nat}{pv x0 x1 x2 x3 x5 x9:AV}{f8 cA cj sU:Option AV}{K:Fl→Sg→AH→Prop}{X':AH→Prop}(hn:n≤14)(hsh:2≤z.sh)(ha:a<n)(hS:S a≠none)(hms:∀m∈ba z pl,a+m.1≤n∧1≤m.2∧m.2≤40∧z.sh≤m.1)(hml:(ba z pl).length≤1000)
  (op:dE Z G (d+2) pv P) (hT:eV H z.sh k0 t td f) (hw:iD H (d4 z P v [] S a) n w wd lc ls) (ht:t∉[lc,ls]∧td∉[lc,ls])
  (hk:∀H' f8 cA cj,SubL [lc,ls] H H'→iD H' (d4 z P v (ba z pl) S a) n w wd lc ls→aU Z G BA (d+2) rT (stO x0 x1 x2 x3 pv x5 t w a x9 (.lst ((ba z pl).map mA)) sU f8 cA cj) H' K X'):
  aU Z G BA (d+2) xE (stO x0 x1 x2 x3 pv x5 t w a x9 (.lst ((ba z pl).map mA)) sU f8 cA cj) H K X':=by
 obtain⟨C,fs,fl,fm,rfl,m1,n1,m2,n2,hP⟩:=op
 refine⟨(List.length_map mA).symm▸Nat.le_trans hml (by decide),fun H1 s1=>?_⟩
 refine forM (src:= .items ((ba z pl).map mA)) mA (OfI (stO x0 x1 x2 x3 (.obj C fs) x5 t w a x9 (.lst ((ba z pl).map mA)) sU) [lc,ls] H (ba z pl) fun dn H'=>iD H' (d4 z P v dn S a) n w wd lc ls)
  (fun _ _ _ _=>trivial) (fun σ H' h=>OfI.casesOn h fun H' dn f8 cA cj h1 em Bl H3 s=>hk H3 _ _ _ (h1.trans s.l) ((em.trans (List.append_nil dn)).symm▸Bl.sub s)) (fun m r σ H' K' h k _ _=>OfI.casesOn h fun H' dn f8 cA cj h1 em Bl=>?_) (ba z pl) _ _ ⟨_,[],_,_,_,s1.l,rfl,hw.sub s1⟩
 obtain⟨q1,q2,q3,q4⟩:=hms m (em▸List.mem_append_right _ (.head _))
 have nY:=hT.iB h1 ht
 have m14:m.1≤14:=Nat.le_trans (Nat.le_trans (Nat.le_add_left _ _) q1) hn
 refine⟨rfl,ltI rfl,ltI rfl,rfl,_,_,_,nY.hT,nY.hD,c.at (gV p),.int z.sh,rfl,rfl,by lia,by lia,by lia,by lia,by lia,by lia,by lia,by lia,by lia,fun H4 s4=>?_⟩
 have hm':((m.1:Int)+1-(z.sh:Int)).toNat=m.1+1-z.sh:=Int.toNat_sub (m.1+1) z.sh
 refine hm'▸?_
 refine forR (src:= .items _) (OfJ (stO x0 x1 x2 x3 (.obj C fs) x5 t w a x9 (.lst ((ba z pl).map mA)) sU (some (.int m.1)) (some (.int m.2))) [lc,ls] H fun i H'=>iD H' (gr z P (d4 z P v dn S a) (cst (S a)) a m.2 (z.sh+i)) n w wd lc ls)
  (fun _=>trivial) (fun σ H5 h=>OfJ.casesOn h fun H5 cj h2 Pu H6 s6=>k _ _ ⟨_,dn++[m],_,_,_,h2.trans s6.l,em.trans (List.append_cons dn m r),(Pu.sub s6).congr fun j=>?_⟩) (fun i σ H5 K2 hi h k2 _=>OfJ.casesOn h fun H5 cj h2 Pu=>?_) ⟨_,_,h1.trans s4.l,(Bl.sub s4).congr fun j=>(if_neg fun x=>Nat.not_lt.mpr x.2.1 x.2.2).symm⟩
 ·have e1:z.sh+(m.1+1-z.sh)=m.1+1:=Nat.add_sub_cancel' (Nat.le_succ_of_le q4)
  show gr z P (d4 z P v dn S a) (cst (S a)) a m.2 (z.sh+(m.1+1-z.sh)) j=_
  rw[e1];exact So hsh j
 ·have hi':z.sh+i≤m.1:=Nat.le_of_lt_succ (Nat.add_lt_of_lt_sub' hi)
  have h1':2≤z.sh+i:=Nat.le_trans hsh (Nat.le_add_right _ _)
  have sa:gr z P (d4 z P v dn S a) (cst (S a)) a m.2 (z.sh+i) a=S a:=Of.trans Oe
  have sz:bh (((z.sh+i:Nat):Int),(m.2:Int))=((z.sh+i:Nat):Int):=if_neg fun e=>absurd (Nat.le_trans h1' (Nat.le_of_eq (Int.ofNat.inj e))) (by decide)
  refine⟨ltI rfl,.inl ⟨_,_,_,_,Pu.hW,Pu.hD,c.mt (pJ p),rfl,⟨_,m2,n2,(hP H5).2 (z.sh+i:Nat) m.2 (by lia) (by lia) (by lia) (by lia) _ _ fun H6 s6=>?_⟩⟩⟩
  exact Gc (T':=gr z P (d4 z P v dn S a) (cst (S a)) a m.2 (z.sh+(i+1))) (s:=(((z.sh+i:Nat):Int),(m.2:Int))) (g:=a+(z.sh+i)) c hn (by rw[sz];rfl) (Nat.le_trans (Nat.add_le_add_left hi' a) q1) (Nat.lt_add_of_pos_right (Nat.lt_of_lt_of_le (by decide) h1')) (sa.symm▸hS) (Pu.sub s6) (fun j=>by rw[sa];exact Sp (Nat.le_add_right _ _) (Nat.le_trans (by decide) h1') j) fun H7 s7 hw7=>k2 _ _ ⟨_,_,(h2.trans s6.l).trans s7,hw7⟩
end
theorem SubL.aE {F:List Addr}{H H':AH}{a:Addr}{o:AO}(h:SubL F H H')(n:aq H a):SubL F H (H'.set a o):=fun b o' m k e=>by
 by_cases z:b=a
 ·rw[z] at e;exact absurd e (n o' k)
 ·rw[AH.ae _ _ z];exact h b o' m k e
theorem SubL.weak {F F':List Addr}{H H1 H2:AH}(h:SubL F H H1)(h':SubL F' H1 H2)(m:∀a∈F',a∈F∨aq H a):SubL F H H2:=fun b o n k e=>h' b o (fun z=>(m b z).elim n fun w=>w o k e) k (h b o n k e)
theorem aq.ne {H:AH}{a b:Addr}{o:AO}(n:aq H a)(e:H b=some o)(k:o.kept=false):b≠a:=fun z=>n o k (by rw[←z];exact e)
theorem ga {a x y:Addr}(h1:a≠x)(h2:a≠y):a∉[x,y]:=fun m=>by
 rcases List.mem_cons.mp m with e | m
 ·exact h1 e
 ·exact h2 (List.mem_singleton.mp m)
theorem zB {a x y u v:Addr}(h1:a≠x)(h2:a≠y)(h3:a≠u)(h4:a≠v):a∉[x,y,u,v]:=fun m=>by
 rcases List.mem_cons.mp m with e | m
 ·exact h1 e
 ·rcases List.mem_cons.mp m with e | m
  ·exact h2 e
  ·exact ga h3 h4 m
theorem uz {H z ch k k' sh t td f g dx r rx ld lb a}(hT:eV H sh k' t td g)(h:aK H z ch k f dx r rx ld lb)(n:aq H a):t≠a∧td≠a∧f≠a∧dx≠a∧r≠a∧rx≠a∧ld≠a∧lb≠a:=by
 show let P:=_;P;intro P
 obtain⟨D,B,eD,eB,_⟩:=h.row.dat
 exact⟨n.ne hT.hT rfl,n.ne hT.hD rfl,n.ne h.hF rfl,n.ne h.hX rfl,n.ne h.row.hR rfl,n.ne h.row.hY rfl,n.ne eD rfl,n.ne eB rfl⟩
theorem aft {z:aC}{P:Pr}{st a:Nat}{S:Nat→Cell}:d4 z P (dZ z (st+a)) (ba z (st+a)) S a=stepT z P st S a:=by
 funext g
 rfl
section
variable {Z:Program}{G:Gd}{p:Params}{d:Nat}{H H0 H1:AH}{X:AH→Prop}
noncomputable def Z4 (z:aC)(st:Int)(f:Addr)(pv:AV)(en:Option Nat)(t w:Addr)(a:Int)(y9 VJ f8 cA cj sU:Option AV):Sg:=[some (.bytes z.tx),some (.int st),some (.ref f),some (.int z.mo),some pv,some (yP en),some (.ref t),some (.ref w),some (.int a),y9,VJ,f8,cA,cj,sU]
theorem Nb {z:aC}{st:Int}{f t w:Addr}{pv:AV}{en:Option Nat}{a:Int}{pl:Nat}{y9 f8 cA cj sU:Option AV}{K:Fl→Sg→AH→Prop}{X':AH→Prop}(he:∀e,en=some e→3≤e)
  (go:K .next (Z4 z st f pv en t w (a+(tk z en pl:Nat)) y9 (some (.lst ((ba z pl).map mA))) f8 cA cj (some (.int (tk z en pl:Nat)))) H):aU Z G BA d rT (Z4 z st f pv en t w a y9 (some (.lst ((ba z pl).map mA))) f8 cA cj sU) H K X':=by
 refine⟨ltI rfl,?_⟩
 cases en with
 | none=>exact⟨ltI rfl,go⟩
 | some e=>
  have one:¬e≤da z pl→K .next (Z4 z st f pv (some e) t w (a+(1:Int)) y9 (some (.lst ((ba z pl).map mA))) f8 cA cj (some (.int 1))) H:=fun n=>by
   have e1:tk z (some e) pl=1:=if_neg n
   rw[e1] at go;exact go
  refine .inl ⟨_,_,rfl,rfl,GC,rfl,fun rr hr=>rt hr (fun nz=>?_) fun ez=>⟨ltI rfl,one ?_⟩⟩
  ·rcases List.eq_nil_or_concat (ba z pl) with h | ⟨l,m,h⟩
   ·rw[h] at nz;exact absurd rfl nz
   ·have eL:da z pl=m.1:=by unfold da;rw[h,List.concat_eq_append,List.getLast?_append];rfl
    have il:itemAt ((ba z pl).map mA) (-1)=some (mA m):=by rw[h,List.concat_eq_append];exact PE
    refine⟨by decide,by decide,mA m,il,by decide,by decide,.int m.1,rfl,aO (fun y=>?_) fun y=>⟨ltI rfl,one (eL▸fun z=>y (Int.ofNat_le.mpr z))⟩⟩
    have e1:tk z (some e) pl=m.1:=(if_pos (eL▸Int.ofNat_le.mp y)).trans eL
    rw[e1] at go
    exact⟨by decide,by decide,mA m,il,by decide,by decide,.int m.1,rfl,ltI rfl,ltI rfl,go⟩
  ·have ez':ba z pl=[]:=List.map_eq_nil_iff.mp ez
   have :da z pl=0:=by unfold da;rw[ez'];rfl
   exact this▸Nat.not_le.mpr (Nat.lt_of_lt_of_le (by decide) (he e rfl))
inductive SC (H:AH)(t td f dx r rx ld lb w wd lc ls:Addr):Prop
 | mk (oT:t∉[lc,ls]∧td∉[lc,ls]) (oF:f∉[lc,ls]∧dx∉[lc,ls]∧r∉[lc,ls]∧rx∉[lc,ls]∧ld∉[lc,ls]∧lb∉[lc,ls]) (oW:w∉[td,dx,ld,lb]∧wd∉[td,dx,ld,lb]∧lc∉[td,dx,ld,lb]∧ls∉[td,dx,ld,lb])
  (m4:∀a∈[td,dx,ld,lb],a∈[dx,ld,lb]∨aq H a) (m2:∀a∈[lc,ls],a∈[dx,ld,lb]∨aq H a):SC H t td f dx r rx ld lb w wd lc ls
inductive LB (H:AH)(z:aC)(P:Pr)(st n:Nat)(en:Option Nat)(ch:Int)(f dx r rx ld lb:Addr)(pv:AV)(t td w wd lc ls:Addr)(fu:Nat):Sg→AH→Prop
 | mk (H':AH) (a k:Nat) (T:Nat→Cell) (y9 VJ f8 cA cj sU:Option AV) (t1:SubL [dx,ld,lb] H H') (hT:eV H' z.sh k t td f) (hf:aK H' z ch k f dx r rx ld lb) (hk:k≤st+a) (hw:iD H' T n w wd lc ls) (UT:T a≠none) (han:a≤n) (XM:n≤a+fu) (ef:fin z P st n en=(gp z en st n fu a).foldl (stepT z P st) T):LB H z P st n en ch f dx r rx ld lb pv t td w wd lc ls fu (Z4 z st f pv en t w a y9 VJ f8 cA cj sU) H'
theorem Yg {z:aC}{P:Pr}{v:Int}{T:Nat→Cell}{a j:Nat}:(if j=a+1 then upd (cst (T a)) (T (a+1)) ((0,v),P.lit v) else T j)=d4 z P v [] T a j:=by
 unfold d4
 refine@dite _ (j=a+1) _ (fun e=>?_) fun e=>?_
 ·subst e
  rw[if_pos rfl,if_pos (Nat.lt_succ_self a),Nat.add_sub_cancel_left,if_pos (.inl rfl)];rfl
 ·rw[if_neg e]
  refine@dite _ (a<j) _ (fun e1=>?_) fun e1=>(if_neg e1).symm
  rw[if_pos e1]
  refine@dite _ (j-a=1∨z.sh≤j-a) _ (fun e2=>?_) fun e2=>(if_neg e2).symm
  rw[if_pos e2]
  unfold dB
  rw[if_neg fun z=>e (by rw[Nat.add_comm,←z,Nat.sub_add_cancel (Nat.le_of_lt e1)])];rfl
theorem Dg {z:aC}{q:Nat}(h:q<z.tx.length):z.tx[q]? =some (dZ z q):=by unfold dZ;rw[List.getElem?_eq_getElem h];rfl
theorem Na (c:Cx Z G p){z:aC}{P:Pr}{st n a k fu:Nat}{en:Option Nat}{ch:Int}{f dx r rx ld lb t td w wd lc ls:Addr}{pv:AV}{T:Nat→Cell}{y9 VJ f8 cA cj sU:Option AV}{K:Fl→Sg→AH→Prop}(hz:z.tx.length≤14∧2≤z.sh∧z.aP≤40)(he:∀e,en=some e→3≤e)(hn:st+n=z.tx.length)(hc:(z.tx.length:Int)≤ch)
  (op:dE Z G (d+6) pv P) (O:SC H t td f dx r rx ld lb w wd lc ls) (lt:a<n) (t1:SubL [dx,ld,lb] H H1) (hT:eV H1 z.sh k t td f) (hf:aK H1 z ch k f dx r rx ld lb) (hk:k≤st+a) (hw:iD H1 T n w wd lc ls) (UT:T a≠none) (XM:n≤a+(fu+1)) (ef:fin z P st n en=(gp z en st n fu (a+tk z en (st+a))).foldl (stepT z P st) (stepT z P st T a))
  (next:∀σ' H',LB H z P st n en ch f dx r rx ld lb pv t td w wd lc ls fu σ' H'→K .next σ' H'):aU Z G BA (d+6) xF (Z4 z st f pv en t w a y9 VJ f8 cA cj sU) H1 K (fun _=>False):=SC.casesOn O fun oT oF oW m4 m2=>by
 obtain⟨r1,r2,r3⟩:=xj (P:=P) hz he hn lt UT
 have pl:st+a<z.tx.length:=hn▸Nat.add_lt_add_left lt st
 have U4:n≤14:=Nat.le_trans (hn▸Nat.le_add_left n st) hz.1
 have p14:st+a≤14:=Nat.le_trans (Nat.le_of_lt pl) hz.1
 refine⟨ltI rfl,.inl ⟨_,_,_,_,hT.hT,hT.hD,c.mt (zc p),rfl,?_⟩⟩
 refine Uv (pl:=st+a) c hz.1 (Nat.le_trans (by decide) hz.2.1) hc hk pl hT hf fun H4 s4 hT4 hf4=>⟨ltI rfl,?_⟩
 have hw4:=hw.iB s4 oW
 obtain⟨C,fs,fl,fm,rfl,m1,n1,m2',n2,hP⟩:=id op
 have l5:z.tx.length≤100000:=Nat.le_trans hz.1 (by decide)
 have b0:(0:Int)≤(st:Int)+a:=Int.natCast_nonneg (st+a)
 have b1:(st:Int)+a<2^62:=Int.lt_of_le_of_lt (Int.ofNat_le.mpr p14) (by decide)
 refine .inl ⟨_,_,_,_,hw4.hW,hw4.hD,c.mt (pJ p),rfl,l5,b0,b1,_,Dg pl,_,m1,n1,l5,b0,b1,_,Dg pl,(hP H4).1 _ _ _ fun H5 s5=>?_⟩
 refine Gc (T':=d4 z P (dZ z (st+a)) [] T a) (s:=(0,dZ z (st+a))) (g:=a+1) c U4 rfl lt (Nat.lt_succ_self a) UT (hw4.sub s5) (fun j=>Yg) fun H6 s6 hw6=>?_
 have hT6:=(hT4.sub s5).iB s6 oT
 have hf6:=(hf4.sub s5).iB s6 oF
 refine Ff (d:=d+4) (S:=T) (n:=n) (pl:=st+a) c U4 hz.2.1 lt UT (fun m hm=>?_) (Nat.le_trans wJ (Nat.le_trans p14 (by decide))) op hT6 hw6 oT fun H7 f8 cA cj s7 hw7=>?_
 ·have o:=jC m hm
  have o2:m.1≤z.tx.length-(st+a):=Nat.le_trans o.2.1 Ts
  exact⟨Nat.add_le_of_le_sub' (Nat.le_of_lt lt) (Nat.add_sub_add_left st n a▸hn▸o2),o.2.2.1,Nat.le_trans o.2.2.2.1 hz.2.2,Nat.le_of_pred_lt o.1⟩
 ·refine Nb he (next _ _ ⟨_,a+tk z en (st+a),st+a,stepT z P st T a,_,_,_,_,_,_,((t1.weak s4 m4).trans s5.l).weak s6 m2 |>.weak s7 m2,hT6.iB s7 oT,hf6.iB s7 oF,Nat.add_le_add_left (Nat.le_add_right _ _) _,hw7,r3,r2,?_,ef⟩)
  exact Nat.le_trans XM (Nat.add_assoc a _ fu▸Nat.add_le_add_left (Nat.add_comm fu 1▸Nat.add_le_add_right r1 fu) a)
theorem Y8 {H2:AH}{z:aC}{ch:Int}{k k':Nat}{sh:Nat}{g t td f dx r rx ld lb w wd lc ls:Addr}(hT:eV H2 sh k' t td g)(h:aK H2 z ch k f dx r rx ld lb)(sH:Sub H H1)(sH2:Sub H H2)(ntd:aq H1 td)(nw:aq H2 w)(nwd:aq H2 wd)(PQ:aq H2 lc)(PT:aq H2 ls):SC H t td f dx r rx ld lb w wd lc ls:=by
 obtain⟨a1,a2,a3,a4,a5,a6,a7,a8⟩:=uz hT h PQ
 obtain⟨b1,b2,b3,b4,b5,b6,b7,b8⟩:=uz hT h PT
 obtain⟨_,w2,_,w4,_,_,w7,w8⟩:=uz hT h nw
 obtain⟨_,v2,_,v4,_,_,v7,v8⟩:=uz hT h nwd
 exact⟨⟨ga a1 b1,ga a2 b2⟩,⟨ga a3 b3,ga a4 b4,ga a5 b5,ga a6 b6,ga a7 b7,ga a8 b8⟩,
  ⟨zB (Ne.symm w2) (Ne.symm w4) (Ne.symm w7) (Ne.symm w8),zB (Ne.symm v2) (Ne.symm v4) (Ne.symm v7) (Ne.symm v8),zB (Ne.symm a2) (Ne.symm a4) (Ne.symm a7) (Ne.symm a8),zB (Ne.symm b2) (Ne.symm b4) (Ne.symm b7) (Ne.symm b8)⟩,
  fun a m=>(List.mem_cons.mp m).elim (fun e=>.inr (e▸ntd.back sH)) .inl,fun a m=>(List.mem_cons.mp m).elim (fun e=>.inr (e▸PQ.back sH2)) fun m=>.inr (List.mem_singleton.mp m▸PT.back sH2)⟩
theorem xK (c:Cx Z G p){z:aC}{P:Pr}{st n:Nat}{en:Option Nat}{ch:Int}{f dx r rx ld lb:Addr}{pv:AV}{Q:AV→AH→Prop}(hz:z.tx.length≤14∧2≤z.sh∧z.aP≤40)(ho:∀x∈z.tx,0≤x∧x≤255)(he:∀e,en=some e→3≤e)(hn:st+n=z.tx.length)(hc:(z.tx.length:Int)≤ch)
  (op:dE Z G (d+6) pv P) (h:aK H z ch 0 f dx r rx ld lb) (hs:Sub H H0) (hQ:∀H',SubL [dx,ld,lb] H H'→Q (.lst ((parse z P st n en).map aH)) H'):
  aU Z G BA (d+6) zY [some (.bytes z.tx),some (.int st),some (.ref f),some (.int z.mo),some pv,some (yP en),none,none,none,none,none,none,none,none,none] H0 (d6 Q) X:=by
 have U4:n≤14:=Nat.le_trans (hn▸Nat.le_add_left n st) hz.1
 refine c.call (Bx p) (dG c (by lia) (fun _ H1 s1=>?_) fun n=>absurd (by lia) n)
 have h1:=(h.sub hs).sub s1
 refine c.call (abK p) (WM c hz.2.1 h1 fun H2 t td s2 Bf ntd=>?_)
 have h2:=h1.sub s2
 refine⟨Nat.le_trans hz.1 (by decide),c.call (abM p) (aba c (n:=n) U4 (by lia) fun H3 w wd lc ls s3 hW3 nw nwd PQ PT=>⟨rfl,ltI rfl,ltI rfl,ltI rfl,rfl,n+1,?_⟩)⟩
 have sH1:=hs.trans s1
 have O:=Y8 Bf h2 sH1 (sH1.trans s2) ntd nw nwd PQ PT
 have S0:eM 0≠none:=fun h=>nomatch h
 obtain⟨hF,E4⟩:=uG (P:=P) hz ho he hn n 0 eM (Nat.le_of_eq (Nat.zero_add n).symm) (Nat.zero_le _) S0 sV.nil
 refine gc (LB H z P st n en ch f dx r rx ld lb pv t td w wd lc ls) (fun fu σ H' K hI next _=>LB.casesOn hI fun H' a k T y9 VJ f8 cA cj sU t1 hT hf hk hw UT han XM ef=>?_) n _ _ ⟨_,0,0,eM,_,_,_,_,_,_,((sH1.trans s2).trans s3).l,Bf.sub s3,h2.sub s3,Nat.zero_le _,hW3,S0,Nat.zero_le _,Nat.le_of_eq (Nat.zero_add n).symm,rfl⟩
 refine⟨_,_,_,hw.hW,hw.hD,c.at (iF p),.int n,rfl,rfl,aO (fun y=>?_) fun y=>?_⟩
 ·have lt:a<n:=Int.ofNat_lt.mp y
  cases fu with
  | zero=>exact absurd XM (Nat.not_le.mpr lt)
  | succ fu=>
   rw[gp,if_pos lt,List.foldl_cons] at ef
   exact Na c hz he hn hc op O lt t1 hT hf hk hw UT XM ef fun σ' H' b=>next fu σ' H' rfl b
 ·cases Nat.le_antisymm han (Nat.not_lt.mp fun h=>y (Int.ofNat_lt.mpr h))
  have o0:gp z en st n fu n=[]:=by cases fu with
   | zero=>rfl
   | succ f=>rw[gp,if_neg (Nat.lt_irrefl _)]
  rw[o0,List.foldl_nil] at ef
  subst ef
  exact .inl ⟨_,_,_,_,hw.hW,hw.hD,c.mt (Fh p),rfl,abb c U4 hF E4 hw _ _ fun H4 s4=>hQ _ (t1.trans s4.l)⟩
end
theorem wW {z:aC}{P:Pr}{st n:Nat}{en:Option Nat}(hz:z.tx.length≤14∧2≤z.sh∧z.aP≤40)(ho:∀x∈z.tx,0≤x∧x≤255)(he:∀e,en=some e→3≤e)(hn:st+n=z.tx.length):
  (∀s∈parse z P st n en,fH s)∧(parse z P st n en).length≤14:=by
 have S0:eM 0≠none:=by intro h;cases h
 obtain⟨hF,E4⟩:=uG (P:=P) hz ho he hn n 0 eM (by lia) (Nat.zero_le _) S0 sV.nil
 obtain⟨h1,h2⟩:=Ua hF n n (Nat.le_refl _)
 refine⟨fun s hs=>h1 s (List.mem_reverse.mp hs),?_⟩
 show(List.reverse _).length≤14
 rw[List.length_reverse]
 exact Nat.le_trans h2 (by lia)
section
variable {Z:Program}{G:Gd}{p:Params}{d:Nat}{H H0 H1:AH}{X:AH→Prop}
theorem WU (c:Cx Z G p){z:aC}{P:Pr}{st n:Nat}{en:Option Nat}{ch:Int}{f dx r rx ld lb:Addr}{pv:AV}{Q:AV→AH→Prop}(hz:z.tx.length≤14∧2≤z.sh∧z.aP≤40)(ho:∀x∈z.tx,0≤x∧x≤255)(he:∀e,en=some e→3≤e)(hn:st+n=z.tx.length)(hc:(z.tx.length:Int)≤ch)
  (op:dE Z G (d+6) pv P) (h:aK H z ch 0 f dx r rx ld lb) (hQ:∀H',SubL [dx,ld,lb] H H'→Q (.lst ((parse z P st n en).map aH)) H'):
  aw Z G BA (d+7) 176 [.bytes z.tx,.int st,.ref f,.int z.mo,pv,yP en] H Q X:=
 c.fn (X7 p) rfl fun H0 cf hs _ _=>xK c hz ho he hn hc op h hs hQ
theorem Gb (c:Cx Z G p){z:aC}{P:Pr}{st n:Nat}{ch:Int}{f dx r rx ld lb:Addr}{pv:AV}{Q:AV→AH→Prop}(hz:z.tx.length≤14∧2≤z.sh∧z.aP≤40)(ho:∀x∈z.tx,0≤x∧x≤255)(hn:st+n=z.tx.length)(hc:(z.tx.length:Int)≤ch)
  (op:dE Z G (d+6) pv P) (h:aK H z ch 0 f dx r rx ld lb) (hQ:∀H',SubL [dx,ld,lb] H H'→Q (.lst ((parse z P st n none).map aH)) H'):
  aw Z G BA (d+7) 176 [.bytes z.tx,.int st,.ref f,.int z.mo,pv] H Q X:=
 c.fn (Bw p) rfl fun H0 cf hs _ _=>xK (en:=none) c hz ho (fun e h=>by cases h) hn hc op h hs hQ
theorem HJ (c:Cx Z G p){tx:List Int}{st:Int}{fv pv:AV}{Q:AV→AH→Prop}(ht:tx.length≤1000)(hX:∀H',Sub H H'→X H'):aw Z G BA (d+7) 176 [.bytes tx,.int st,fv,.int (-1),pv] H Q X:=
 c.fn (Bw p) rfl fun H0 cf hs _ _=>c.call (Bx p) (dG c ht (fun z=>absurd z.2.2 (by decide)) fun _ H1 s1=>hX _ (hs.trans s1))
theorem Ef (c:Cx Z G p){tx:List Int}{st mo:Int}{fv:AV}{Q:AV→AH→Prop}(ht:tx.length≤1000)(iv:¬(0≤st∧st≤tx.length))(hX:∀H',Sub H H'→X H'):aw Z G BA (d+7) 133 [.bytes tx,.int st,fv,.int mo] H Q X:=
 c.fn (U1 p) rfl fun H0 cf hs _ _=>c.call (Bx p) (dG c ht (fun z=>absurd ⟨z.1,z.2.1⟩ iv) fun _ H1 s1=>hX _ (hs.trans s1))
theorem yM (c:Cx Z G p){tx:List Int}{st:Int}{Q:AV→AH→Prop}(ht:tx.length≤1000)(iv:¬(0≤st∧st≤tx.length))(hX:∀H',Sub H H'→X H'):aw Z G BA (d+7) 126 [.bytes tx,.int st] H Q X:=
 c.fn (xJ p) rfl fun H0 cf hs _ _=>c.call (Bx p) (dG c ht (fun z=>absurd ⟨z.1,z.2.1⟩ iv) fun _ H1 s1=>hX _ (hs.trans s1))
theorem Mq (c:Cx Z G p){tx:List Int}{st:Nat}(ht:tx.length≤1000)(iv:st≤tx.length):Gives Z G (d+7) 126 [.bytes tx,.int st] H (.lst ((tx.drop st).map fun o=>aH (0,o))):=by
 intro Q X hQ
 refine c.fn (xJ p) rfl fun H0 cf hs _ _=>c.call (Bx p) (dG c ht (fun _ H1 s1=>?_) fun z=>absurd ⟨by lia,by lia,by decide⟩ z)
 have ec:cU tx (some (st:Int)) none=tx.drop st:=by rw[wq (by lia),Int.toNat_natCast]
 have dl:(tx.drop st).length≤1000:=by rw[List.length_drop];lia
 refine⟨_,_,rfl,rfl,by lia,?_⟩
 rw[ec]
 refine⟨by lia,fun H2 s2=>?_⟩
 refine cK (src:= .items ((tx.drop st).map .int)) (base:=[some (.bytes tx),some (.int st)]) AV.int (fun o=>some (aH (0,o))) 1 (fun _ _=>trivial) (by lia) rfl (fun H3 s3 H4 s4=>?_) fun o w H3 K hm hw s3 k=>?_
 ·rw[Pg];exact hQ _ ((((hs.trans s1).trans s2).trans s3).trans s4)
 ·obtain⟨x,rfl⟩:=jB hw
  exact⟨ltI rfl,k [some (.int o)] H3 rfl s3⟩
theorem HI (c:Cx Z G p){tv sv mv pv:AV}{Q:AV→AH→Prop}(hX:∀H',Sub H H'→X H'):aw Z G BA (d+7) 336 [tv,sv,.lst [],mv,pv] H Q X:=
 c.fn (Pz p) rfl fun H0 cf hs _ _=>⟨[],rfl,dM rfl,by lia,rfl,fun H2 s2=>hX _ (hs.trans s2)⟩
theorem WT (c:Cx Z G p){z:aC}{P:Pr}{st n u:Nat}{ch:Int}{f dx r rx ld lb f2 qE r2 N7 qJ qI:Addr}{pv:AV}{Q:AV→AH→Prop}(hz:z.tx.length≤14∧2≤z.sh∧z.aP≤40)(ho:∀x∈z.tx,0≤x∧x≤255)(hn:st+n=z.tx.length)(hc:(z.tx.length:Int)≤ch)(hu:1≤u∧u≤16)
  (op:dE Z G (d+6) pv P) (h:aK H z ch 0 f dx r rx ld lb) (h2:aK H z ch 0 f2 qE r2 N7 qJ qI) (m:f2∉[dx,ld,lb]∧qE∉[dx,ld,lb]∧r2∉[dx,ld,lb]∧N7∉[dx,ld,lb]∧qJ∉[dx,ld,lb]∧qI∉[dx,ld,lb])
  (hQ:∀H',SubL [dx,ld,lb,qE,qJ,qI] H H'→Q (.lst ((parse z (xL (parse z P st n none) u) st n none).map aH)) H'):
  aw Z G BA (d+8) 336 [.bytes z.tx,.int st,.lst [.ref f,.ref f2],.int z.mo,pv,.int u] H Q X:=by
 refine c.fn (X6 p) rfl fun H0 cf hs _ _=>⟨[.ref f,.ref f2],rfl,dM rfl,?_⟩
 refine⟨by decide,by decide,_,rfl,c.call (zy p) (Gb c hz ho hn hc op (h.sub hs) fun H1 s1=>⟨ltI rfl,?_⟩)⟩
 have ML:=(h2.sub hs).iB s1 m
 obtain⟨p1,p2⟩:=wW (P:=P) (en:=none) hz ho (fun e h=>by cases h) hn
 generalize hl:parse z P st n none=l at p1 p2 hQ
 have e1:cU [AV.ref f,AV.ref f2] (some 1) none=[AV.ref f2]:=rfl
 refine⟨_,_,rfl,rfl,[.ref f,.ref f2],rfl,dM rfl,?_⟩
 rw[e1]
 refine⟨dM rfl,fun H2 s2=>⟨trivial,ltI rfl,?_⟩⟩
 refine c.call (Tj p) (tQ c (by lia) (fun s hs=>(p1 s hs).1) _ _ fun H3 s3=>c.call (Iy p) (oV c (by lia) p1 hu.2 (fun _ H4 ov s4 op2=>?_) fun z=>by lia))
 refine c.call (zy p) (Gb c hz ho hn hc (op2.deeper (by lia)) (((ML.sub s2).sub s3).sub s4) fun H5 s5=>⟨ltI rfl,trivial,fun H6 s6=>hQ _ ?_⟩)
 refine(((((hs.l.trans (s1.mono fun a m=>?_)).trans s2.l).trans s3.l).trans s4.l).trans (s5.mono fun a m=>?_)).trans s6.l
 ·exact List.mem_append_left [qE,qJ,qI] m
 ·exact List.mem_append_right [dx,ld,lb] m
end
section
variable {Z:Program}{G:Gd}{p:Params}{d:Nat}{H H0 H1:AH}{X:AH→Prop}
theorem Fs (c:Cx Z G p){tx:List Int}{cT cD cO cS b:Addr}{tv sv:AV}{o:Int}{x2 x3 x4 x5 x6 x7 x8 x9 DW DY DZ F6 x17:Option AV}{Q:AV→AH→Prop}(ht:tx.length≤14)(ho:¬(0≤o∧o≤tx.length))
  (eT:H cT=some (.cell (some (.bytes tx)))) (eD:H cD=some (.cell (some tv))) (eO:H cO=some (.cell (some (.int o)))) (eS:H cS=some (.cell (some sv))) (hQ:∀H',Q (.bool true) H'):
  aU Z G BA (d+12) fg [some (.ref b),some (.ref cT),x2,x3,x4,x5,x6,x7,x8,x9,some (.ref cD),DW,DY,DZ,F6,some (.ref cO),some (.ref cS),x17,none] H (d6 Q) X:=by
 refine fun f1 H1 s1 e1 f2 H2 s2 e2 f3 H3 s3 e3=>⟨ltI rfl,fun f4 H4 s4 e4 f5 H5 s5 e5 f6 H6 s6 e6=>⟨dM rfl,fun a ha=>⟨ltI rfl,?_⟩⟩⟩
 refine .inr (.inl ⟨_,AH.ag ..,rfl,fun f7 H7 s7 e7=>⟨_,s7 _ _ rfl (AH.ag ..),dM rfl,?_⟩⟩)
 have na:∀{x:Addr} {o:AO},H6 x=some o→x≠a:=fun e z=>by rw[z,ha] at e;cases e
 have u6:Sub H6 (H6.set a (.list [.ref f1,.ref f2,.ref f3,.ref f4,.ref f5,.ref f6])):=fun x o' k e=>((AH.ae _ _ (na e)).trans e)
 have nb:∀{x:Addr} {cl:zH} {cc:List (Str×Addr)},H7 x=some (.func cl cc)→x≠a:=fun e z=>by
  rw[z] at e
  have :=s7 _ _ rfl (AH.ag (H:=H6) (a:=a) (o:= .list [.ref f1,.ref f2,.ref f3,.ref f4,.ref f5,.ref f6]))
  rw[e] at this;cases this
 have w6:Sub H6 (H7.set a (.list ([.ref f1,.ref f2,.ref f3,.ref f4,.ref f5,.ref f6]++[.ref f7]))):=fun x o' k e=>by rw[AH.ae _ _ (na e)];exact(u6.trans s7) x o' k e
 have g7:=e7
 have t3:=s3;have t4:=s4
 have q5:Sub H5 _:=s6.trans w6
 have q4:Sub H4 _:=s5.trans q5
 have q3:Sub H3 _:=s4.trans q4
 have q2:Sub H2 _:=s3.trans q3
 have q1:Sub H1 _:=s2.trans q2
 have q0:Sub H _:=s1.trans q1
 have a1:=q1 _ _ rfl e1
 have a2:=q2 _ _ rfl e2
 have a3:=q3 _ _ rfl e3
 have a4:=q4 _ _ rfl e4
 have a5:=q5 _ _ rfl e5
 have a6:=w6 _ _ rfl e6
 have a7:(H7.set a (.list ([.ref f1,.ref f2,.ref f3,.ref f4,.ref f5,.ref f6]++[.ref f7]))) f7=some (.func (.expr [] [] fO) _):=(AH.ae _ _ (nb e7)).trans e7
 have bT:=q0 _ _ rfl eT
 have bD:=q0 _ _ rfl eD
 have bO:=q0 _ _ rfl eO
 have bS:=q0 _ _ rfl eS
 have bl:(H7.set a (.list ([.ref f1,.ref f2,.ref f3,.ref f4,.ref f5,.ref f6]++[.ref f7]))) a=some (.list ([f1,f2,f3,f4,f5,f6,f7].map .ref)):=AH.ag ..
 show aU Z G BA (d+12) fN [some (.ref b),some (.ref cT),x2,x3,x4,x5,x6,x7,x8,x9,some (.ref cD),DW,DY,DZ,F6,some (.ref cO),some (.ref cS),some (.ref a),none] (H7.set a (.list ([.ref f1,.ref f2,.ref f3,.ref f4,.ref f5,.ref f6]++[.ref f7]))) (d6 Q) X
 generalize (H7.set a (.list ([.ref f1,.ref f2,.ref f3,.ref f4,.ref f5,.ref f6]++[.ref f7])))=H8 at a1 a2 a3 a4 a5 a6 a7 bT bD bO bS bl
 clear q0 q1 q2 q3 q4 q5 w6 t3 t4
 have all:∀x∈[f1,f2,f3,f4,f5,f6,f7],∀H',Sub H8 H'→∀(Q:AV→AH→Prop) (X:AH→Prop),(∀cb,Sub H' cb→Q (.bool true) cb)→aw Z G BA (d+12) 603 [.ref x] H' Q X:=by
  intro x hx H' s Q X q
  rcases List.mem_cons.mp hx with rfl | hx
  ·refine bM c (s _ _ rfl a1) fun H0 h0=>⟨rfl,fun H h1=>?_⟩
   have hh:=(s.trans h0).trans h1
   exact⟨_,hh _ _ rfl bT,_,hh _ _ rfl bO,c.call (Th p) (yM c (by lia) ho fun cb dD=>q _ ((h0.trans h1).trans dD))⟩
  rcases List.mem_cons.mp hx with rfl | hx
  ·refine bM c (s _ _ rfl a2) fun H0 h0=>⟨rfl,fun H h1=>?_⟩
   have hh:=(s.trans h0).trans h1
   exact⟨_,hh _ _ rfl bT,_,hh _ _ rfl bO,_,hh _ _ rfl bS,c.call (abL p) (Ef c (by lia) ho fun cb dD=>q _ ((h0.trans h1).trans dD))⟩
  rcases List.mem_cons.mp hx with rfl | hx
  ·refine bM c (s _ _ rfl a3) fun H0 h0=>⟨rfl,fun H h1=>?_⟩
   have hh:=(s.trans h0).trans h1
   exact⟨_,hh _ _ rfl bT,_,hh _ _ rfl bS,_,hh _ _ rfl bD,c.call (zy p) (HJ c (by lia) fun cb dD=>q _ ((h0.trans h1).trans dD))⟩
  rcases List.mem_cons.mp hx with rfl | hx
  ·refine bM c (s _ _ rfl a4) fun H0 h0=>⟨rfl,fun H h1=>?_⟩
   have hh:=(s.trans h0).trans h1
   exact⟨_,hh _ _ rfl bT,_,hh _ _ rfl bD,c.call (Tl p) (HI c fun cb dD=>q _ ((h0.trans h1).trans dD))⟩
  rcases List.mem_cons.mp hx with rfl | hx
  ·exact bM c (s _ _ rfl a5) fun H0 h0=>⟨rfl,fun H h1=>c.call (zz p) (rc c (fun z=>absurd z.1 (by decide)) fun _ cb dD=>q _ ((h0.trans h1).trans dD))⟩
  rcases List.mem_cons.mp hx with rfl | hx
  ·exact bM c (s _ _ rfl a6) fun H0 h0=>⟨rfl,fun H h1=>c.call (zz p) (rc c (fun z=>absurd z.2.1 (by decide)) fun _ cb dD=>q _ ((h0.trans h1).trans dD))⟩
  rw[List.mem_singleton.mp hx]
  exact bM c (s _ _ rfl a7) fun H0 h0=>⟨rfl,fun H h1=>c.call (zz p) (tB c (fun z=>absurd z.2.2 (by decide)) fun _ cb dD=>q _ ((h0.trans h1).trans dD))⟩
 refine⟨_,bl,dM rfl,fun H9 s9=>?_⟩
 refine cK (src:= .live a ([f1,f2,f3,f4,f5,f6,f7].map .ref)) (base:=[some (.ref b),some (.ref cT),x2,x3,x4,x5,x6,x7,x8,x9,some (.ref cD),DW,DY,DZ,F6,some (.ref cO),some (.ref cS),some (.ref a),none]) AV.ref (fun _=>none) 1 (fun H' s=>s _ _ rfl (s9 _ _ rfl bl)) (dM rfl) rfl (fun LI uO zI N8=>?_) fun x w LI K hm hw uO k=>?_
 ·exact .inl ⟨[],[],rfl,rfl,rfl,rfl,fun r hr=>by
   have :r=true:=hr.mpr rfl
   subst this
   exact hQ _⟩
 ·obtain⟨y,rfl⟩:=jB hw
  exact⟨ltI rfl,c.call (Tq p) (all x hm LI (s9.trans uO) _ _ fun zI N8=>k [some (.ref x)] zI rfl (uO.trans N8))⟩
end
structure PS (H:AH)(tx:List Int)(b cT cD cO cS:Addr)(tv:Option AV)(n:Int)(K:Nat):Prop where
 eT:H cT=some (.cell (some (.bytes tx)))
 eD:H cD=some (.cell tv)
 eO:∃o,H cO=some (.cell o)
 eS:∃o,H cS=some (.cell o)
 bg:aY n K H b
theorem PS.sub {H H' tx b cT cD cO cS tv n K}(h:PS H tx b cT cD cO cS tv n K)(s:Sub H H'):PS H' tx b cT cD cO cS tv n K:=by
 obtain⟨o,eO⟩:=h.eO
 obtain⟨o',eS⟩:=h.eS
 exact⟨s _ _ rfl h.eT,s _ _ rfl h.eD,⟨o,s _ _ rfl eO⟩,⟨o',s _ _ rfl eS⟩,h.bg.sub s⟩
theorem PS.iB {H H' tx b cT cD cO cS tv n K}{F:List Addr}(h:PS H tx b cT cD cO cS tv n K)(s:SubL F H H')(m:b∉F∧cT∉F∧cD∉F∧cO∉F∧cS∉F):PS H' tx b cT cD cO cS tv n K:=by
 obtain⟨o,eO⟩:=h.eO
 obtain⟨o',eS⟩:=h.eS
 exact⟨s _ _ m.2.1 rfl h.eT,s _ _ m.2.2.1 rfl h.eD,⟨o,s _ _ m.2.2.2.1 rfl eO⟩,⟨o',s _ _ m.2.2.2.2 rfl eS⟩,h.bg.at (s b · m.1)⟩
theorem PS.bne {H tx b cT cD cO cS tv n K}{x:Addr}{o:Option AV}(h:PS H tx b cT cD cO cS tv n K)(e:H x=some (.cell o)):x≠b:=fun z=>h.bg.casesOn fun _ _ _ e' _=>by rw[z,e'] at e;cases e
theorem PS.take {H H' tx b cT cD cO cS tv n K K'}(h:PS H tx b cT cD cO cS tv n K)(s:bw b H H')(hb:aY n K' H' b):PS H' tx b cT cD cO cS tv n K':=by
 obtain⟨o,eO⟩:=h.eO
 obtain⟨o',eS⟩:=h.eS
 exact⟨s _ _ (h.bne h.eT) rfl h.eT,s _ _ (h.bne h.eD) rfl h.eD,⟨o,s _ _ (h.bne eO) rfl eO⟩,⟨o',s _ _ (h.bne eS) rfl eS⟩,hb⟩
section
variable {Z:Program}{G:Gd}{p:Params}{d:Nat}{H H0 H1:AH}{X:AH→Prop}
theorem GA {l:List Int}{n:Nat}:isData (n+3) (.lst (l.map fun o=>aH (0,o)))=true:=by
 show(l.map fun o=>aH (0,o)).all (isData (n+2))=true
 rw[List.all_eq_true]
 intro x hx
 obtain⟨m,_,rfl⟩:=List.mem_map.mp hx
 rfl
theorem Le (c:Cx Z G p){tx:List Int}{st:Nat}{n:Int}{K:Nat}{cT cD cO cS b:Addr}{tv:AV}{x2 x3 x5 x6 x7 x8 x9 DW DY DZ F6 x17:Option AV}{Q:AV→AH→Prop}(ht:tx.length≤14)(iv:st≤tx.length)(BF:cT≠cO)(Fm:cT≠cS)(Fi:cD≠cO)(Fj:cD≠cS)(Fk:cO≠cS)
  (h:PS H tx b cT cD cO cS (some tv) n (K+1)) (hQ:∀H',Q (.bool true) H'):
  aU Z G BA (d+12) fh [some (.ref b),some (.ref cT),x2,x3,some (.int st),x5,x6,x7,x8,x9,some (.ref cD),DW,DY,DZ,F6,some (.ref cO),some (.ref cS),x17,none] H (d6 Q) X:=by
 refine⟨_,h.eT,c.call (Th p) (Mq c (by lia) iv _ _ fun H1 s1=>?_)⟩
 have h1:=h.sub s1
 refine⟨_,h1.eT,_,_,rfl,rfl,by lia,?_⟩
 rw[show cU tx (some (st:Int)) none=tx.drop st by rw[wq (by lia),Int.toNat_natCast]]
 have dl:(tx.drop st).length≤1000:=by rw[List.length_drop];lia
 refine⟨by lia,fun H2 s2=>?_⟩
 refine cK (src:= .items ((tx.drop st).map .int)) (base:=[some (.ref b),some (.ref cT),x2,x3,some (.int st),x5,x6,x7,x8,x9,some (.ref cD),DW,DY,DZ,F6,some (.ref cO),some (.ref cS),x17,none]) AV.int (fun o=>some (aH (0,o))) 1 (fun _ _=>trivial) (by lia) rfl (fun H3 s3 H4 s4=>?_) fun o w H3 K hm hw s3 k=>?_
 rotate_left
 ·obtain⟨x,rfl⟩:=jB hw
  exact⟨ltI rfl,k [some (.int o)] H3 rfl s3⟩
 rw[Pg]
 refine .inl ⟨_,_,rfl,rfl,GA,GA,fun r hr=>rt hr (fun z=>absurd rfl z) fun _=>?_⟩
 have h4:=(((h1.sub s2).sub s3).sub s4)
 refine⟨_,h4.eT,by lia,by decide,by decide,by decide,by decide,?_⟩
 refine c.call (aX p) (ay c 3 h4.bg (by decide) (by decide) fun H5 i i1 s5 b5=>zE (a:= -1) (b:=(tx.length:Int)+1) (e:= -(10:Int)^((20:Int)).toNat) i1 fun v hv=>?_)
 have h5:=h4.take s5 b5
 have ho:¬(0≤v∧v≤tx.length):=by
  rcases hv with rfl | rfl | rfl
  ·exact fun z=>absurd z.1 (by decide)
  ·exact fun z=>Int.not_le.mpr (Int.lt_succ _) z.2
  ·exact fun z=>absurd z.1 (by decide)
 obtain⟨oO,eO⟩:=h5.eO
 obtain⟨oS,eS⟩:=h5.eS
 refine⟨oO,eO,?_⟩
 refine⟨_,((AH.ae _ _ BF).trans h5.eT),c.call (zA p) (OG c ht fun H6 f dx r rx ld lb s6 fin _ _ _=>⟨oS,s6 _ _ rfl (((AH.ae _ _ (Ne.symm Fk)).trans eS)),?_⟩)⟩
 refine Fs (o:=v) (tv:=tv) (sv:= .ref f) c ht ho ?_ ?_ ?_ (AH.ag ..) hQ
 ·rw[AH.ae _ _ Fm];exact s6 _ _ rfl (((AH.ae _ _ BF).trans h5.eT))
 ·rw[AH.ae _ _ Fj];exact s6 _ _ rfl (((AH.ae _ _ Fi).trans h5.eD))
 ·rw[AH.ae _ _ Fk];exact s6 _ _ rfl (AH.ag ..)
end
theorem mJ {l:List (Int×Int)}{n:Nat}:isData (n+3) (.lst (l.map aH))=true:=by
 show(l.map aH).all (isData (n+2))=true
 rw[List.all_eq_true]
 intro x hx
 show let P:=_;P;intro P
 obtain⟨m,_,rfl⟩:=List.mem_map.mp hx
 rfl
structure F9 (H:AH)(z:aC)(ch:Int)(f dx r rx ld lb b cT cD cO cS:Addr):Prop where
 fin:aK H z ch 0 f dx r rx ld lb
 off:b∉[dx,ld,lb]∧cT∉[dx,ld,lb]∧cD∉[dx,ld,lb]∧cO∉[dx,ld,lb]∧cS∉[dx,ld,lb]
theorem fC {a x y u:Addr}(h1:a≠x)(h2:a≠y)(h3:a≠u):a∉[x,y,u]:=fun m=>by
 rcases List.mem_cons.mp m with e | m
 ·exact h1 e
 ·exact ga h2 h3 m
theorem PS.off {H tx b cT cD cO cS tv n K x y u}(h:PS H tx b cT cD cO cS tv n K)(n1:aq H x)(n2:aq H y)(n3:aq H u):b∉[x,y,u]∧cT∉[x,y,u]∧cD∉[x,y,u]∧cO∉[x,y,u]∧cS∉[x,y,u]:=by
 show let P:=_;P;intro P
 obtain⟨o,eO⟩:=h.eO
 obtain⟨o',eS⟩:=h.eS
 obtain⟨g,k,s',e,r⟩:=h.bg
 exact⟨fC (n1.ne e rfl) (n2.ne e rfl) (n3.ne e rfl),fC (n1.ne h.eT rfl) (n2.ne h.eT rfl) (n3.ne h.eT rfl),fC (n1.ne h.eD rfl) (n2.ne h.eD rfl) (n3.ne h.eD rfl),fC (n1.ne eO rfl) (n2.ne eO rfl) (n3.ne eO rfl),fC (n1.ne eS rfl) (n2.ne eS rfl) (n3.ne eS rfl)⟩
theorem Bb {H z ch k f dx r rx ld lb z' ch' k' f2 qE r2 N7 qJ qI}(h:aK H z ch k f dx r rx ld lb)(h2:aK H z' ch' k' f2 qE r2 N7 qJ qI)(n1:qE≠dx)(n2:qJ≠ld)(n3:qI≠lb):
  f2∉[dx,ld,lb]∧qE∉[dx,ld,lb]∧r2∉[dx,ld,lb]∧N7∉[dx,ld,lb]∧qJ∉[dx,ld,lb]∧qI∉[dx,ld,lb]:=by
 show let P:=_;P;intro P
 obtain⟨D,B,eD,eB,_⟩:=h.row.dat
 show let P:=_;P;intro P
 obtain⟨D2,B2,eD2,eB2,_⟩:=h2.row.dat
 have w:∀{x y:Addr} {o o':AO},H x=some o→H y=some o'→o≠o'→x≠y:=fun e e' n z=>n (by rw[z,e'] at e;exact(Option.some.inj e).symm)
 have eX:=h.hX
 have eX2:=h2.hX
 exact⟨fC (w h2.hF eX nofun) (w h2.hF eD nofun) (w h2.hF eB nofun),fC n1 (w eX2 eD nofun) (w eX2 eB nofun),fC (w h2.row.hR eX nofun) (w h2.row.hR eD nofun) (w h2.row.hR eB nofun),
  fC (vj h2.row.hY eX rfl) (w h2.row.hY eD nofun) (w h2.row.hY eB nofun),fC (w eD2 eX nofun) n2 (w eD2 eB nofun),fC (w eB2 eX nofun) (w eB2 eD nofun) n3⟩
theorem UN {H H' z ch k f dx r rx ld lb}(h:aK H z ch k f dx r rx ld lb)(s:SubL [dx,ld,lb] H H'):jb H H':=fun a o k e=>by
 obtain⟨D,B,eD,eB,_⟩:=h.row.dat
 refine s a o (fun m=>?_) (mI k) e
 rcases List.mem_cons.mp m with z | m
 ·rw[z,h.hX] at e;cases e;cases k
 ·rcases List.mem_cons.mp m with z | m
  ·rw[z,eD] at e;cases e;cases k
  ·rw[List.mem_singleton.mp m,eB] at e;cases e;cases k
section
variable {Z:Program}{G:Gd}{p:Params}{d:Nat}{H H0 H1:AH}{X:AH→Prop}
theorem Fu (c:Cx Z G p){tx:List Int}{st:Nat}{n:Int}{K:Nat}{cT cD cO cS b:Addr}{tv pv:AV}{P:Pr}{l2:List (Int×Int)}{x2 x3 x5 x6 x7 x8 DW DY DZ:Option AV}{Q:AV→AH→Prop}(ht:tx.length≤14)(iv:st≤tx.length)(BF:cT≠cO)(Fm:cT≠cS)(Fi:cD≠cO)(Fj:cD≠cS)(Fk:cO≠cS)
  (h:PS H tx b cT cD cO cS (some tv) n (K+1)) (op:dE Z G (d+11) tv P) (lp:bQ Z G (d+11) pv P H) (h2:(∀s∈l2,fH s)∧l2.length≤14) (hQ:∀H',Q (.bool true) H'):
  aU Z G BA (d+12) fi [some (.ref b),some (.ref cT),x2,x3,some (.int st),x5,x6,x7,x8,some pv,some (.ref cD),DW,DY,DZ,some (.lst (l2.map aH)),some (.ref cO),some (.ref cS),none,none] H (d6 Q) X:=by
 refine⟨_,h.eD,c.call (Ti p) (xG c (by lia) h2.1 op _ _ fun H1 s1=>?_)⟩
 refine c.call (Tp p) (xD c (by lia) (fun s hs=>(h2.1 s hs).1) (lp.sub s1) _ _ fun H2 s2=>sj rfl ?_)
 exact Le c ht iv BF Fm Fi Fj Fk ((h.sub s1).sub s2) hQ
theorem Ft (c:Cx Z G p){z:aC}{st nn u:Nat}{en:Option Nat}{ch n:Int}{K:Nat}{cT cD cO cS b:Addr}{tv pv:AV}{P:Pr}{x6 x7 x8:Option AV}{f1 dx1 r1 rx1 ld1 lb1 f2 qE r2 N7 qJ qI f3 Pa r3 rx3 PH PF:Addr}{Q:AV→AH→Prop}(hz:z.tx.length≤14∧2≤z.sh∧z.aP≤40)(ho:∀x∈z.tx,0≤x∧x≤255)(he:∀e,en=some e→3≤e)(hn:st+nn=z.tx.length)(hc:(z.tx.length:Int)≤ch)(hu:1≤u∧u≤16)
  (BF:cT≠cO) (Fm:cT≠cS) (Fi:cD≠cO) (Fj:cD≠cS) (Fk:cO≠cS)
  (h:PS H z.tx b cT cD cO cS (some tv) n (K+1)) (op:dE Z G (d+10) tv P) (lp:bQ Z G (d+10) pv P H)
  (h1:F9 H z ch f1 dx1 r1 rx1 ld1 lb1 b cT cD cO cS) (h2:F9 H z ch f2 qE r2 N7 qJ qI b cT cD cO cS) (h3:F9 H z ch f3 Pa r3 rx3 PH PF b cT cD cO cS)
  (PM:qE≠dx1∧qJ≠ld1∧qI≠lb1) (n13:Pa≠dx1∧PH≠ld1∧PF≠lb1) (n23:Pa≠qE∧PH≠qJ∧PF≠qI) (hQ:∀H',Q (.bool true) H'):
  aU Z G BA (d+12) fj [some (.ref b),some (.ref cT),some (.int u),some (.tup [.int z.sh,.int z.aP,.int z.mo]),some (.int st),some (yP en),x6,x7,x8,some pv,some (.ref cD),some (iC z),some (.lst ((parse z P st nn none).map aH)),some (.lst [.ref f1,.ref f2,.ref f3]),none,some (.ref cO),some (.ref cS),none,none] H (d6 Q) X:=by
 have UU:∀e:Nat,(none:Option Nat)=some e→3≤e:=fun e h=>by cases h
 refine⟨_,h.eT,by decide,by decide,.ref f1,rfl,by decide,by decide,.int z.mo,rfl,_,h.eD,c.call (zy p) (WU c hz ho he hn hc (op.deeper (by lia)) h1.fin fun H1 s1=>?_)⟩
 have g1:=h.iB s1 h1.off
 have lp1:=lp.GX (UN h1.fin s1)
 have q2:=h2.fin.iB s1 (Bb h1.fin h2.fin PM.1 PM.2.1 PM.2.2)
 have q3:=h3.fin.iB s1 (Bb h1.fin h3.fin n13.1 n13.2.1 n13.2.2)
 refine⟨_,g1.eT,c.call (Iz p) (k9 c hz ho he hn lp1 _ _ fun H2 s2=>.inl ⟨_,_,rfl,rfl,mJ,mJ,fun r hr=>rt hr (fun z=>absurd rfl z) fun _=>?_⟩)⟩
 have g2:=g1.sub s2
 have lp2:=lp1.sub s2
 obtain⟨p1,p2⟩:=wW (P:=P) (en:=none) hz ho UU hn
 refine⟨_,g2.eT,c.call (To p) ((rf (d:=d+8) (u:=u) c (by lia) (fun s hs=>(p1 s hs).1) hu.2 fun H3 pv2 s3 lp3=>?_).deeper (by lia))⟩
 have g3:=g2.sub s3
 refine c.call (Iz p) (k9 (en:=none) c hz ho UU hn lp3 _ _ fun H4 s4=>⟨ltI rfl,?_⟩)
 have g4:=g3.sub s4
 have lp4:=(lp2.sub s3).sub s4
 have q2':=((q2.sub s2).sub s3).sub s4
 have q3':=((q3.sub s2).sub s3).sub s4
 obtain⟨p3,p4⟩:=wW (P:=xL (parse z P st nn none) u) (en:=none) hz ho UU hn
 refine⟨_,g4.eT,_,_,rfl,rfl,[.ref f1,.ref f2,.ref f3],rfl,dM rfl,?_⟩
 refine⟨by decide,by decide,.int z.mo,rfl,_,g4.eD,?_⟩
 refine c.call (Tl p) (WT (d:=d+4) c hz ho hn hc hu (op.deeper (by lia)) q2' q3' (Bb q2' q3' n23.1 n23.2.1 n23.2.2) fun H5 s5=>.inl ⟨_,_,rfl,rfl,mJ,mJ,fun r hr=>rt hr (fun z=>absurd rfl z) fun _=>?_⟩)
 have a2:=h2.off
 have a3:=h3.off
 have no:∀{x:Addr},x∉[qE,qJ,qI]→x∉[Pa,PH,PF]→x∉[qE,qJ,qI,Pa,PH,PF]:=fun u v m=>by
  rcases List.mem_append.mp (show _∈[qE,qJ,qI]++[Pa,PH,PF] from m) with m | m
  ·exact u m
  ·exact v m
 have g5:=g4.iB s5 ⟨no a2.1 a3.1,no a2.2.1 a3.2.1,no a2.2.2.1 a3.2.2.1,no a2.2.2.2.1 a3.2.2.2.1,no a2.2.2.2.2 a3.2.2.2.2⟩
 have ss:jb H4 H5:=fun a o k e=>s5 a o (no (fun m=>by
   obtain⟨D,B,eD,eB,_⟩:=q2'.row.dat
   rcases List.mem_cons.mp m with z | m
   ·rw[z,q2'.hX] at e;cases e;cases k
   ·rcases List.mem_cons.mp m with z | m
    ·rw[z,eD] at e;cases e;cases k
    ·rw[List.mem_singleton.mp m,eB] at e;cases e;cases k) fun m=>by
   obtain⟨D,B,eD,eB,_⟩:=q3'.row.dat
   rcases List.mem_cons.mp m with z | m
   ·rw[z,q3'.hX] at e;cases e;cases k
   ·rcases List.mem_cons.mp m with z | m
    ·rw[z,eD] at e;cases e;cases k
    ·rw[List.mem_singleton.mp m,eB] at e;cases e;cases k) (mI k) e
 exact Fu c hz.1 (by lia) BF Fm Fi Fj Fk g5 (op.deeper (by lia)) ((lp4.GX ss).deeper (by lia)) ⟨p3,p4⟩ hQ
end
section
variable {Z:Program}{G:Gd}{p:Params}{d:Nat}{H H0 H1:AH}{X:AH→Prop}
theorem F9.sub {H H' z ch f dx r rx ld lb b cT cD cO cS}(h:F9 H z ch f dx r rx ld lb b cT cD cO cS)(s:Sub H H'):F9 H' z ch f dx r rx ld lb b cT cD cO cS:=⟨h.fin.sub s,h.off⟩
theorem Ba {H z ch k f dx r rx ld lb x y u}(h:aK H z ch k f dx r rx ld lb)(n1:aq H x)(n2:aq H y)(n3:aq H u):x≠dx∧y≠ld∧u≠lb:=by
 obtain⟨D,B,eD,eB,_⟩:=h.row.dat
 exact⟨Ne.symm (n1.ne h.hX rfl),Ne.symm (n2.ne eD rfl),Ne.symm (n3.ne eB rfl)⟩
theorem Fv (c:Cx Z G p){z:aC}{st nn u:Nat}{en:Option Nat}{n:Int}{K:Nat}{cT cD cO cS b:Addr}{tv pv:AV}{P:Pr}{x6 x7 x8:Option AV}{Q:AV→AH→Prop}(hz:z.tx.length≤14∧2≤z.sh∧z.aP≤40)(ho:∀x∈z.tx,0≤x∧x≤255)(he:∀e,en=some e→3≤e)(hn:st+nn=z.tx.length)(ht1:1≤z.tx.length)(hw:1≤z.aP)(hu:1≤u∧u≤16)
  (BF:cT≠cO) (Fm:cT≠cS) (Fi:cD≠cO) (Fj:cD≠cS) (Fk:cO≠cS)
  (h:PS H z.tx b cT cD cO cS (some tv) n (K+1)) (op:dE Z G (d+10) tv P) (lp:bQ Z G (d+10) pv P H) (hQ:∀H',Q (.bool true) H'):
  aU Z G BA (d+12) fq [some (.ref b),some (.ref cT),some (.int u),some (.tup [.int z.sh,.int z.aP,.int z.mo]),some (.int st),some (yP en),x6,x7,x8,some pv,some (.ref cD),none,none,none,none,some (.ref cO),some (.ref cS),none,none] H (d6 Q) X:=by
 refine⟨_,h.eT,by lia,by lia,by lia,by decide,by decide,by lia,by lia,by lia,fun H1 s1=>?_⟩
 show dk (Src.items ((List.range (((z.tx.length:Nat):Int)-0).toNat).map fun i:Nat=>AV.int (0+(i:Int)))) _ ((List.range (((z.tx.length:Nat):Int)-0).toNat).map fun i:Nat=>AV.int (0+(i:Int))) _ _ _ _
 rw[ZM]
 refine cK (src:= .items _) (base:=[some (.ref b),some (.ref cT),some (.int u),some (.tup [.int z.sh,.int z.aP,.int z.mo]),some (.int st),some (yP en),x6,x7,x8,some pv,some (.ref cD),none,none,none,none,some (.ref cO),some (.ref cS),none,none]) (fun i:Nat=>AV.int (i:Int)) (fun q=>some (.lst ((ba z q).map mA))) 1 (fun _ _=>trivial) (by rw[List.length_range];lia) rfl (fun H2 s2 H3 s3=>⟨ltI rfl,?_⟩) fun q w H2 K hm Bl s2 k=>?_
 rotate_left
 ·obtain⟨x,rfl⟩:=jB Bl
  have hq:=List.mem_range.mp hm
  exact⟨ltI rfl,_,(h.sub (s1.trans s2)).eT,c.call (abT p) (Az c hz.1 hq (by lia) hz.2.2 _ _ fun H3 s3=>k [some (.int (q:Int))] H3 rfl (s2.trans s3))⟩
 rw[Pg]
 have g3:=(h.sub s1).sub (s2.trans s3)
 have lp3:=(lp.sub s1).sub (s2.trans s3)
 show aU Z G BA (d+12) fk [some (.ref b),some (.ref cT),some (.int u),some (.tup [.int z.sh,.int z.aP,.int z.mo]),some (.int st),some (yP en),x6,x7,x8,some pv,some (.ref cD),some (iC z),none,none,none,some (.ref cO),some (.ref cS),none,none] H3 (d6 Q) X
 refine⟨_,g3.eT,c.call (Iz p) (k9 (en:=none) c hz ho (fun e h=>by cases h) hn lp3 _ _ fun H4 s4=>⟨ltI rfl,?_⟩)⟩
 have g4:=g3.sub s4
 have lp4:=lp3.sub s4
 refine⟨by decide,by decide,by decide,by decide,by decide,by decide,by decide,fun H5 s5=>?_⟩
 have g5:=g4.sub s5
 have mk:∀(H:AH) (b':Addr) (Q:AV→AH→Prop) (X:AH→Prop),(∀H' f dx r rx ld lb,Sub H H'→aK H' z z.tx.length 0 f dx r rx ld lb→aq H dx→aq H ld→aq H lb→Q (.ref f) H')→aw Z G BA (d+12) 508 [.bytes z.tx,.int z.sh,.int z.aP,.int z.tx.length] H Q X:=
  fun H b' Q X q=>Uu c hz.1 (by lia) hw (by lia) q
 refine⟨trivial,ltI rfl,_,g5.eT,by decide,by decide,_,rfl,by decide,by decide,_,rfl,_,g5.eT,by lia,c.call (zA p) (mk _ b _ _ fun H6 f1 dx1 r1 rx1 ld1 lb1 s6 Xr i1 j1 k1=>?_)⟩
 have g6:=g5.sub s6
 have o1:=g5.off i1 j1 k1
 refine⟨trivial,ltI rfl,_,g6.eT,by decide,by decide,_,rfl,by decide,by decide,_,rfl,_,g6.eT,by lia,c.call (zA p) (mk _ b _ _ fun H7 f2 qE r2 N7 qJ qI s7 ac1 i2 j2 k2=>?_)⟩
 have g7:=g6.sub s7
 have o2:=g6.off i2 j2 k2
 refine⟨trivial,ltI rfl,_,g7.eT,by decide,by decide,_,rfl,by decide,by decide,_,rfl,_,g7.eT,by lia,c.call (zA p) (mk _ b _ _ fun H8 f3 Pa r3 rx3 PH PF s8 agl i3 j3 k3=>?_)⟩
 have o3:=g7.off i3 j3 k3
 refine⟨trivial,dM rfl,fun H9 s9=>⟨ltI rfl,?_⟩⟩
 have s69:=(s7.trans s8).trans s9
 exact Ft c hz ho he hn (Int.le_refl _) hu BF Fm Fi Fj Fk (((g7.sub s8).sub s9)) op ((((lp4.sub s5).sub s6).sub s69)) ⟨Xr.sub s69,o1⟩ ⟨ac1.sub (s8.trans s9),o2⟩ ⟨agl.sub s9,o3⟩
  (Ba Xr i2 j2 k2) (Ba (Xr.sub s7) i3 j3 k3) (Ba ac1 i3 j3 k3) hQ
theorem aff {x:Nat}{H:AH}{Q:AV→AH→Prop}(h:x<4)(q:∀en:Option Nat,(∀e,en=some e→3≤e)→Q (yP en) H):itR [AV.none,.none,.int 3,.int 5] x H Q:=by
 rcases(by decide:∀x<4,x=0∨x=1∨x=2∨x=3) x h with rfl | rfl | rfl | rfl
 ·exact⟨by decide,by decide,_,rfl,q none fun e h=>nomatch h⟩
 ·exact⟨by decide,by decide,_,rfl,q none fun e h=>nomatch h⟩
 ·exact⟨by decide,by decide,_,rfl,q (some 3) fun e h=>Option.some.inj h▸Nat.le_refl 3⟩
 ·exact⟨by decide,by decide,_,rfl,q (some 5) fun e h=>Option.some.inj h▸by decide⟩
theorem qD (c:Cx Z G p){tx:List Int}{u:Nat}{n:Int}{K:Nat}{b:Addr}{Q:AV→AH→Prop}(ht1:1≤tx.length)(ht:tx.length≤14)(ho:∀x∈tx,0≤x∧x≤255)(hu:1≤u∧u≤16)(hb:aY n (K+10) H b)(hQ:∀H',Q (.bool true) H'):
  aw Z G BA (d+13) 613 [.ref b,.bytes tx,.int u] H Q X:=by
 refine c.fn (pH p) rfl fun H0 cf hs hc hi=>?_
 have mT:VK.ar "text"∈bH:=List.mem_of_getElem? (i:=1) rfl
 have mD:VK.ar "told"∈bH:=List.mem_of_getElem? (i:=10) rfl
 have mO:VK.ar "out"∈bH:=List.mem_of_getElem? (i:=15) rfl
 have mS:VK.ar "spare"∈bH:=List.mem_of_getElem? (i:=16) rfl
 have nTD:cf "text"≠cf "told":=fun z=>absurd (hi _ _ mT mD z) (by decide+kernel)
 have BF:cf "text"≠cf "out":=fun z=>absurd (hi _ _ mT mO z) (by decide+kernel)
 have Fm:cf "text"≠cf "spare":=fun z=>absurd (hi _ _ mT mS z) (by decide+kernel)
 have Fi:cf "told"≠cf "out":=fun z=>absurd (hi _ _ mD mO z) (by decide+kernel)
 have Fj:cf "told"≠cf "spare":=fun z=>absurd (hi _ _ mD mS z) (by decide+kernel)
 have Fk:cf "out"≠cf "spare":=fun z=>absurd (hi _ _ mO mS z) (by decide+kernel)
 refine⟨_,(hc _ mT).2,?_⟩
 have XB:aY n (K+10) H0 b:=hb.sub hs
 have h1:PS (H0.set (cf "text") (.cell (some (.bytes tx)))) tx b (cf "text") (cf "told") (cf "out") (cf "spare") none n (K+10):=by
  have nb:b≠cf "text":=XB.casesOn fun _ _ _ e _ z=>by rw[z,(hc _ mT).2] at e;cases e
  exact⟨AH.ag ..,by rw[AH.ae _ _ (Ne.symm nTD)];exact(hc _ mD).2,⟨_,by rw[AH.ae _ _ (Ne.symm BF)];exact(hc _ mO).2⟩,⟨_,by rw[AH.ae _ _ (Ne.symm Fm)];exact(hc _ mS).2⟩,XB.at fun o _ e=>(AH.ae _ _ nb).trans e⟩
 show aU Z G BA (d+12) ft [some (.ref b),some (.ref (cf "text")),some (.int u),none,none,none,none,none,none,none,some (.ref (cf "told")),none,none,none,none,some (.ref (cf "out")),some (.ref (cf "spare")),none,none] (H0.set (cf "text") (.cell (some (.bytes tx)))) _ _
 generalize (H0.set (cf "text") (.cell (some (.bytes tx))))=H1 at h1
 generalize cf "text" =cT at *
 generalize cf "told" =cD at *
 generalize cf "out" =cO at *
 generalize cf "spare" =cS at *
 refine c.call (aX p) (ay c 3 h1.bg (by decide) (by decide) fun H2 a a1 s2 b2=>?_)
 have h2:=h1.take s2 b2
 refine c.call (aX p) (ay c 3 h2.bg (by decide) (by decide) fun H3 i i1 s3 b3=>qp (a:=2) (b:=6) (e:=40) i1 fun aP hw=>?_)
 have h3:=h2.take s3 b3
 refine c.call (aX p) (ay c 3 h3.bg (by decide) (by decide) fun H4 i' i1' s4 b4=>qp (a:=3) (b:=6) (e:=40) i1' fun mo hmo=>?_)
 have h4:=h3.take s4 b4
 refine⟨ltI rfl,?_⟩
 refine⟨_,h4.eT,Nat.le_trans ht (by decide),c.call (aX p) (ay c (tx.length+1) h4.bg (Nat.succ_pos _) (Nat.lt_of_le_of_lt (Nat.succ_le_succ ht) (by decide)) fun H5 y y1 s5 b5=>?_)⟩
 have h5:=h4.take s5 b5
 refine c.call (aX p) (ay c 3 h5.bg (by decide) (by decide) fun H6 i6 i61 s6 b6=>qp (a:=0) (b:=0) (e:=y) i61 fun st iv=>?_)
 have h6:=h5.take s6 b6
 refine c.call (aX p) (ay c 4 h6.bg (by decide) (by decide) fun H7 i7 i71 s7 b7=>aff i71 fun en ue=>?_)
 have h7:=h6.take s7 b7
 refine⟨rfl,ltI rfl,ltI rfl,rfl,?_⟩
 refine c.call (aX p) (ay c 9 h7.bg (by decide) (by decide) fun H8 sa sa1 s8 b8=>?_)
 have h8:=h7.take s8 b8
 refine c.call (aX p) (ay c 24 h8.bg (by decide) (by decide) fun H9 ma ma1 s9 b9=>?_)
 have h9:=h8.take s9 b9
 refine c.call (aX p) (ay c 3 h9.bg (by decide) (by decide) fun LI i10 ahi uO b10=>qp (a:=0) (b:=1) (e:=2) ahi fun ea hea=>?_)
 have MI:=h9.take uO b10
 refine⟨rfl,ltI rfl,ltI rfl,ltI rfl,rfl,?_⟩
 have e2:(0:Int)≤ea∧(ea:Int)≤2:=by rcases hea with rfl | rfl | rfl<;>decide
 refine c.call (abS p) ((Mh (d:=0) c e2 fun zI pv N8 lp=>?_).deeper (Nat.le_add_left 1 _))
 have wy:=MI.sub N8
 refine c.call (zz p) (tB c (fun _ xW zn=>?_) fun n=>absurd ⟨Int.natCast_nonneg (1+sa),Int.natCast_nonneg (1+ma),e2.1⟩ n)
 have MJ:=wy.sub zn
 refine⟨rfl,ltI rfl,_,MJ.eD,rfl,?_⟩
 have op:=Xs (d:=0) (s:=1+sa) (m:=1+ma) (e:=ea) c e2
 have h13:PS (xW.set cD (.cell (some (rY (1+sa) (1+ma) ea)))) tx b cT cD cO cS (some (rY (1+sa) (1+ma) ea)) n (K+1):=by
  obtain⟨oo,eO⟩:=MJ.eO
  obtain⟨os,eS⟩:=MJ.eS
  exact⟨((AH.ae _ _ nTD).trans MJ.eT),AH.ag ..,⟨oo,((AH.ae _ _ (Ne.symm Fi)).trans eO)⟩,⟨os,((AH.ae _ _ (Ne.symm Fj)).trans eS)⟩,MJ.bg.at fun o _ e=>(AH.ae _ _ (Ne.symm (MJ.bne MJ.eD))).trans e⟩
 have sS:jb zI (xW.set cD (.cell (some (rY (1+sa) (1+ma) ea)))):=fun x o k e=>by
  have e':=zn.s _ _ k e
  have nx:x≠cD:=fun z=>by rw[z,MJ.eD] at e';cases e';cases k
  exact(AH.ae _ _ nx).trans e'
 have w1:1≤aP∧aP≤40:=by rcases hw with rfl | rfl | rfl<;>decide
 have Z5:st≤tx.length:=iv.elim (fun z=>z▸Nat.zero_le _) fun z=>z.elim (fun z=>z▸Nat.zero_le _) fun z=>z▸Nat.le_of_lt_succ y1
 exact Fv (z:=⟨tx,2+a,aP,mo⟩) (nn:=tx.length-st) c ⟨ht,Nat.le_add_right 2 a,w1.2⟩ ho ue (Nat.add_sub_cancel' Z5) ht1 w1.1 hu BF Fm Fi Fj Fk h13 (op.deeper (Nat.le_add_left 2 _)) ((lp.GX sS).deeper (Nat.le_add_left 2 _)) hQ
end
section
variable {Z:Program}{G:Gd}{p:Params}{d:Nat}{H H0 H1:AH}{X:AH→Prop}
theorem acp {x a b e f:Nat}{H:AH}{Q:AV→AH→Prop}(h:x<4)(q:∀v:Nat,(v=a∨v=b∨v=e∨v=f)→Q (.int (v:Int)) H):itR [.int (a:Int),.int (b:Int),.int (e:Int),.int (f:Int)] x H Q:=by
 rcases(by decide:∀x<4,x=0∨x=1∨x=2∨x=3) x h with rfl | rfl | rfl | rfl
 ·exact⟨by decide,by decide,_,rfl,q a (.inl rfl)⟩
 ·exact⟨by decide,by decide,_,rfl,q b (.inr (.inl rfl))⟩
 ·exact⟨by decide,by decide,_,rfl,q e (.inr (.inr (.inl rfl)))⟩
 ·exact⟨by decide,by decide,_,rfl,q f (.inr (.inr (.inr rfl)))⟩
theorem adF (c:Cx Z G p){sc:List Int}{Q:AV→AH→Prop}(hl:sc.length≤63)(hQ:∀H',Q (.bool true) H'):aw Z G BA (d+14) 620 [.lst (sc.map .int)] H Q X:=by
 refine c.fn (aeT p) rfl fun H0 cf hs _ _=>?_
 refine c.call (abP p) (OI c hl fun H1 b n s1 b1 hn=>⟨ltI rfl,?_⟩)
 refine c.call (aX p) (ay c 4 b1 (by decide) (by decide) fun H2 x x1 s2 b2=>acp (a:=16) (b:=1) (e:=2) (f:=5) x1 fun u hu=>⟨ltI rfl,?_⟩)
 have hu':1≤u∧u≤16:=by rcases hu with rfl | rfl | rfl | rfl<;>decide
 refine c.call (abR p) (Hy c (F:=799) b2 hn fun H3 l s3 b3 l1 l2 hd=>?_)
 refine c.call (abV p) (qC c (K:=795) ⟨l1,l2⟩ hd hu' b3 fun H4 s4 b4=>?_)
 refine c.call (abQ p) (Mi c (F:=695) b4 hn fun H5 tx s5 b5 t1 t2 to=>?_)
 exact c.call (abW p) (qD c (K:=685) t1 t2 to hu' b5 hQ)
end
end
noncomputable def glP (K:Frag)(x:Str):AV→Prop
 | .ref a=>nsIn K mainGlobals x=some (some (.ref a))
 | .int i=>∃t,nsIn K mainGlobals x=some (some (.int i t))
 | .con c=>nsIn K mainGlobals x=some none∧bootBuiltins x=some c∧jK c=true∧(x==Str.ofString "__name__")=false
 | _=>False
noncomputable def Pi (K:Frag):Gl→Prop
 | []=>True
 | q::r=>glP K q.1 q.2∧Pi K r
theorem abr (P:Params):Pi (KF P) aZ:=⟨(by kernel_rfl:nsIn (KF P) mainGlobals (Str.ofString "PressError")=some (some (.ref 39))),(by kernel_rfl:nsIn (KF P) mainGlobals (Str.ofString "BadArgument")=some (some (.ref 52))),(by kernel_rfl:nsIn (KF P) mainGlobals (Str.ofString "check_steps")=some (some (.ref 61))),(by kernel_rfl:nsIn (KF P) mainGlobals (Str.ofString "check_range")=some (some (.ref 68))),(by kernel_rfl:nsIn (KF P) mainGlobals (Str.ofString "step_size")=some (some (.ref 75))),(by kernel_rfl:nsIn (KF P) mainGlobals (Str.ofString "size_of")=some (some (.ref 80))),(by kernel_rfl:nsIn (KF P) mainGlobals (Str.ofString "Trail")=some (some (.ref 116))),(by kernel_rfl:nsIn (KF P) mainGlobals (Str.ofString "literals")=some (some (.ref 126))),(by kernel_rfl:nsIn (KF P) mainGlobals (Str.ofString "greedy")=some (some (.ref 133))),(by kernel_rfl:nsIn (KF P) mainGlobals (Str.ofString "Ways")=some (some (.ref 164))),(by kernel_rfl:nsIn (KF P) mainGlobals (Str.ofString "least")=some (some (.ref 176))),(by kernel_rfl:nsIn (KF P) mainGlobals (Str.ofString "price_of")=some (some (.ref 183))),(by kernel_rfl:nsIn (KF P) mainGlobals (Str.ofString "slot_of")=some (some (.ref 190))),(by kernel_rfl:nsIn (KF P) mainGlobals (Str.ofString "FlatPrice")=some (some (.ref 222))),(by kernel_rfl:nsIn (KF P) mainGlobals (Str.ofString "Counts")=some (some (.ref 250))),(by kernel_rfl:nsIn (KF P) mainGlobals (Str.ofString "counts_of")=some (some (.ref 261))),(by kernel_rfl:nsIn (KF P) mainGlobals (Str.ofString "log_units")=some (some (.ref 268))),(by kernel_rfl:nsIn (KF P) mainGlobals (Str.ofString "SymbolPrices")=some (some (.ref 290))),(by kernel_rfl:nsIn (KF P) mainGlobals (Str.ofString "LearntPrice")=some (some (.ref 324))),(by kernel_rfl:nsIn (KF P) mainGlobals (Str.ofString "learn")=some (some (.ref 336))),(by kernel_rfl:nsIn (KF P) mainGlobals (Str.ofString "PlaceRow")=some (some (.ref 374))),(by kernel_rfl:nsIn (KF P) mainGlobals (Str.ofString "Matcher")=some (some (.ref 465))),(by kernel_rfl:nsIn (KF P) mainGlobals (Str.ofString "Finder")=some (some (.ref 508))),(by kernel_rfl:nsIn (KF P) mainGlobals (Str.ofString "_law_bag")=some (some (.ref 515))),(by kernel_rfl:nsIn (KF P) mainGlobals (Str.ofString "_law_take")=some (some (.ref 522))),(by kernel_rfl:nsIn (KF P) mainGlobals (Str.ofString "_law_text")=some (some (.ref 527))),(by kernel_rfl:nsIn (KF P) mainGlobals (Str.ofString "_law_drawn")=some (some (.ref 534))),(by kernel_rfl:nsIn (KF P) mainGlobals (Str.ofString "_law_slot")=some (some (.ref 541))),(by kernel_rfl:nsIn (KF P) mainGlobals (Str.ofString "_law_log")=some (some (.ref 548))),(by kernel_rfl:nsIn (KF P) mainGlobals (Str.ofString "_law_tally")=some (some (.ref 555))),(by kernel_rfl:nsIn (KF P) mainGlobals (Str.ofString "_law_table")=some (some (.ref 560))),(by kernel_rfl:nsIn (KF P) mainGlobals (Str.ofString "_law_learnt")=some (some (.ref 565))),(by kernel_rfl:nsIn (KF P) mainGlobals (Str.ofString "_law_flat")=some (some (.ref 572))),(by kernel_rfl:nsIn (KF P) mainGlobals (Str.ofString "_law_cost")=some (some (.ref 577))),(by kernel_rfl:nsIn (KF P) mainGlobals (Str.ofString "_law_matches")=some (some (.ref 584))),(by kernel_rfl:nsIn (KF P) mainGlobals (Str.ofString "_law_ways")=some (some (.ref 591))),(by kernel_rfl:nsIn (KF P) mainGlobals (Str.ofString "_law_least")=some (some (.ref 596))),(by kernel_rfl:nsIn (KF P) mainGlobals (Str.ofString "_law_refused")=some (some (.ref 603))),(by kernel_rfl:nsIn (KF P) mainGlobals (Str.ofString "_law_counts_right")=some (some (.ref 608))),(by kernel_rfl:nsIn (KF P) mainGlobals (Str.ofString "_law_parses_right")=some (some (.ref 613))),(by kernel_rfl:nsIn (KF P) mainGlobals (Str.ofString "law")=some (some (.ref 620))),⟨_,(by kernel_rfl:nsIn (KF P) mainGlobals (Str.ofString "LEAST_MATCH")=some (some (.int 2 242)))⟩,⟨_,(by kernel_rfl:nsIn (KF P) mainGlobals (Str.ofString "NOWHERE")=some (some (.int (-1) 657)))⟩,⟨by kernel_rfl,by kernel_rfl,rfl,by kernel_rfl⟩,⟨by kernel_rfl,by kernel_rfl,rfl,by kernel_rfl⟩,⟨by kernel_rfl,by kernel_rfl,rfl,by kernel_rfl⟩,⟨by kernel_rfl,by kernel_rfl,rfl,by kernel_rfl⟩,⟨by kernel_rfl,by kernel_rfl,rfl,by kernel_rfl⟩,⟨by kernel_rfl,by kernel_rfl,rfl,by kernel_rfl⟩,⟨by kernel_rfl,by kernel_rfl,rfl,by kernel_rfl⟩,⟨by kernel_rfl,by kernel_rfl,rfl,by kernel_rfl⟩,⟨by kernel_rfl,by kernel_rfl,rfl,by kernel_rfl⟩,⟨by kernel_rfl,by kernel_rfl,rfl,by kernel_rfl⟩,⟨by kernel_rfl,by kernel_rfl,rfl,by kernel_rfl⟩,⟨by kernel_rfl,by kernel_rfl,rfl,by kernel_rfl⟩,trivial⟩
theorem UO {K:Frag}:∀{l:Gl} {q:Str×AV},Pi K l→q∈l→glP K q.1 q.2:=by
 intro l q h m
 induction l with
 | nil=>cases m
 | cons p r ih=>
  rcases List.mem_cons.mp m with e | m
  ·rw[e];exact h.1
  ·exact ih h.2 m
theorem ad5 {K:Frag}{h:Heap}{p:Program}{loose:List Str}{mg mb:Str→Option Value}{x:Str}{u:AV}(X:K.In h)(T:TopRead p loose mg mb h)(e:glP K x u):∃v,rv u v∧(mg x=some v∨(mg x=none∧mb x=some v)):=by
 cases u with
 | ref a=>exact⟨_,rfl,.inl (mg_of X T.g e)⟩
 | int i=>exact let⟨t,e⟩:=e;⟨_,⟨t,rfl⟩,.inl (mg_of X T.g e)⟩
 | con c=>exact⟨c,⟨rfl,e.2.2.1⟩,.inr ⟨mg_none_of X T.g e.1,(T.builtins _ (beq_eq_false_iff_ne.mp e.2.2.2)).trans e.2.1⟩⟩
 | _=>exact e.elim
noncomputable abbrev Ol:List (Addr×Addr):=[(571,567),(612,610),(564,562),(607,605)]
theorem afx (P:Params):(Ol.all fun q=>codeHdIn (KF P) q.1 q.2)=true:=by kernel_rfl
theorem Yy (P:Params):noTabs (KF P)=true:=by kernel_rfl
theorem acB (P:Params):(KF P).lookup sysModules=some (boot_o_1 P):=by kernel_rfl
theorem Yl (P:Params):(KF P).lookup mainGlobals=some (KS P):=by kernel_rfl
theorem abX (P:Params):nsIn (KF P) mainGlobals "law" =some (some (.ref 620)):=by kernel_rfl
theorem Sj (self:Value):refuseLoop self "__setattr__" [.ref 52,.ref 39,.type "ValueError",.type "Exception",.type "BaseException",.type "object"]=pure ():=by
 rw[refuseLoop_ref,refuseLoop_ref]
 kernel_rfl
theorem HY (P:Params):(KF P).lookup 36=some (GJ):=by kernel_rfl
theorem HZ:FuncBody.stmts (MC (me 2 0))= .stmts [.Expr (.Call (.Attribute (.Name "ValueError" ⟨8,8,8,18⟩) "__init__" ⟨8,8,8,27⟩) [.Name "self" ⟨8,28,8,32⟩,.Name "reason" ⟨8,34,8,40⟩] [] ⟨8,8,8,41⟩) ⟨8,8,8,41⟩,
  .Assign [.Attribute (.Name "self" ⟨9,8,9,12⟩) "reason" ⟨9,8,9,19⟩] (.Name "reason" ⟨9,22,9,28⟩) ⟨9,8,9,28⟩]:=by kernel_rfl
theorem acL (P:Params):findIn (KF P) (.ref 52) "__init__" =some (some (.ref 36)):=by kernel_rfl
theorem aai (P:Params):typeIn (KF P) (.ref 36)=some (.type "function"):=by kernel_rfl
theorem acO (P:Params):findIn (KF P) (.ref 52) "__setattr__" =some (some (.builtin "object.__setattr__")):=by kernel_rfl
theorem acM (P:Params):findIn (KF P) (.ref 52) "reason" =some none:=by kernel_rfl
theorem afG (P:Params):findCls (KF P) (.type "ValueError") (.type "type") "__init__" =some (.val (.builtin "ValueError.__init__")):=by kernel_rfl
theorem aak (P:Params):keepIn (KF P) (.ref 52)=true:=by kernel_rfl
theorem aan (P:Params):instIn (KF P) (.ref 52) (.type "tuple")=some false:=by kernel_rfl
theorem aaj (P:Params):instIn (KF P) (.ref 52) (.type "type")=some true:=by kernel_rfl
theorem aal (P:Params):mroIn (KF P) 52 (.type "BaseException")=some true:=by kernel_rfl
theorem aam (P:Params):mroIn (KF P) 52 (.ref 52)=some true:=by kernel_rfl
theorem aah (P:Params):codeIn (KF P) (.ref 35) "PressError.__init__" =true:=by kernel_rfl
theorem acI (P:Params):(KF P).lookup 52=some (excClassObj "BadArgument" "BadArgument" 52 51 [.ref 39] [.ref 39,.type "ValueError",.type "Exception",.type "BaseException",.type "object"] true [] [] false none none (some (.ref 43)) none (some (.str "BadArgument" 224)) (some (.str "BadArgument" 232)) (some (.bool true)) "ValueError.__new__"):=by kernel_rfl
theorem acJ (P:Params):(KF P).lookup 29=some (GI):=by kernel_rfl
theorem acN:gS (MD (me 2 0)) ["self","reason"]=true:=by kernel_rfl
theorem acK:pw (Gm (me 2 0)) [.loc "self",.loc "reason"] ["self","reason"]=true:=by kernel_rfl
theorem afF:pz aZ (Gm (me 2 0)) 54 "ValueError" (.con (.type "ValueError"))=true:=by kernel_rfl
theorem aag {P:Params}{h:Heap}(X:(KF P).In h){s:Shared}{cargs:List Value}(hs:h.StaysIn s.heap)(hl:cargs.length=2):BindsTo s ⟨Str.ofString "__init__",Str.ofString "PressError.__init__",MD (me 2 0),.stmts (MC (me 2 0)),Gm (me 2 0),3,[],Value.ref 29,Value.none,Value.none,Value.str (Str.ofString "threepress.errors") 194,none,Value.ref 35,Value.none,0⟩ ⟨cargs,[]⟩ ((["self","reason"]:List Str).zip cargs):=by
 have :=gX (s:=s) (fd:=⟨Str.ofString "__init__",Str.ofString "PressError.__init__",MD (me 2 0),.stmts (MC (me 2 0)),Gm (me 2 0),3,[],Value.ref 29,Value.none,Value.none,Value.str (Str.ofString "threepress.errors") 194,none,Value.ref 35,Value.none,0⟩) (cargs:=cargs) (items:=some #[Value.str (Str.ofString "") 208]) acN (fun M A E Q q=>wpAny_seqItems (hs _ _ (X _ _ (acJ P))) rfl q) (by rw[hl];decide) (by rw[hl];decide) (by decide) (by decide)
 rw[hl] at this
 rw[show((some #[Value.str (Str.ofString "") 208]).getD #[]).toList.drop (2+((some #[Value.str (Str.ofString "") 208]).getD #[]).toList.length-(["self","reason"]:List Str).length)=[] from rfl,List.append_nil] at this
 exact this
theorem Xj {G:Gd}{P:Params}(hK:G.K=KF P)(hg:G.gl=aZ)(X:(KF P).In G.hb):ee G 52 36:=
 ⟨⟨_,_,_,_,_,_,_,_,_,_,_,_,_,_,_,hK▸acI P,rfl,rfl,rfl,rfl,rfl,rfl,Sj⟩,hK▸acL P,hK▸aai P,hK▸acO P,hK▸acM P,hK▸afG P,hK▸aak P,hK▸aan P,hK▸aaj P,hK▸aal P,hK▸aam P,
  ⟨_,_,_,_,"PressError.__init__","self","reason",54,_,_,_,_,_,_,_,_,_,_,hK▸HY P,rfl,rfl,rfl,hK▸aah P,HZ,rfl,acK,hg▸afF,fun s cargs hs hl=>aag X hs hl⟩⟩
section
variable {w:World}{h:Heap}
theorem DM (Y:HK.says w h):TabsAt Ol h:=fun q hq=>
 ⟨codeHd_of_K (km_in_of Y) (List.all_eq_true.mp (afx w.params) q hq),km_tabs_of Y q.2 (by
  rcases List.mem_cons.mp hq with rfl | hq
  ·exact .head _
  rcases List.mem_cons.mp hq with rfl | hq
  ·exact .tail _ (.head _)
  rcases List.mem_cons.mp hq with rfl | hq
  ·exact .tail _ (.tail _ (.head _))
  rw[List.mem_singleton.mp hq]
  exact .tail _ (.tail _ (.tail _ (.head _))))⟩
noncomputable abbrev loG (loose:List Str)(p:Program):List Str:=loose++(recsOf p).map (·.name)++(litsOf p).map (·.1)++(clssOf p loose).map (·.name)
noncomputable def Z9 (w:World)(h:Heap)(loose:List Str)(mg mb:Str→Option Value):Gd:=⟨w,ghostOf h Ol,KF w.params,topProg,loose,mg,mb,aZ,[567,610,562,605]⟩
theorem Om {p:Program}{loose:List Str}{Ym:ExcName→Option Value}{mg mb:Str→Option Value}(Y:HK.says w h)(T:Top p loose Ym mg mb h):(Z9 w h (loG loose p) mg mb).Ok:=by
 have hT:=DM Y
 have X:(KF w.params).In (ghostOf h Ol):=ghost_K hT (km_in_of Y) (Yy w.params)
 have T':=topRead_of (ghost_top hT T)
 exact⟨X,T',⟨_,X _ _ (acB w.params)⟩,(let⟨bm,ob,a1,a2,a3,a4,r⟩:=(ghost_top hT T).bmain;⟨bm,ob,a1,a2,fun(z:bm=mainGlobals)=>(by have :=X _ _ (Yl w.params);rw[←z,a3] at this;cases this;exact absurd (Value.type.inj (show Value.type "dict" =Value.type "module" from a4)) (by decide)),a3,a4,r⟩),fun P hP=>⟨fun z=>absurd (show mainGlobals∈[567,610,562,605] by rw[←z];exact hP) (by decide),hideAll_none _ hP⟩,fun j x u e=>ad5 X T' (UO (abr w.params) (List.mem_of_getElem? e))⟩
theorem aaa {Z:Program}{p:Program}{loose:List Str}{Ym:ExcName→Option Value}{mg mb:Str→Option Value}(Y:HK.says w h)(T:Top p loose Ym mg mb h):Cx Z (Z9 w h (loG loose p) mg mb) w.params:=by
 have hT:=DM Y
 refine⟨Om Y T,rfl,rfl,fun c hc=>?_,36,?_⟩
 ·have hd:∀q∈Ol,CodeHd (ghostOf h Ol) q.1 q.2:=fun q hq=>by
   obtain⟨o,vs,file,tf,flags,tg,inF,text,tt,e1,r1,r2,r3,r4,r5,r6,r7,r8,az⟩:=(hT q hq).1
   exact⟨o,vs,file,tf,flags,tg,inF,text,tt,ghost_get hT e1 (fun q=>by rw[q] at r1;cases r1),r1,r2,r3,r4,r5,r6,r7,r8,az⟩
  have yT:c=571∨c=612∨c=564∨c=607:=by simpa [TB] using hc
  rcases yT with rfl | rfl | rfl | rfl
  ·exact⟨567,hd (571,567) (.head _),.head _⟩
  ·exact⟨610,hd (612,610) (.tail _ (.head _)),.tail _ (.head _)⟩
  ·exact⟨562,hd (564,562) (.tail _ (.tail _ (.head _))),.tail _ (.tail _ (.head _))⟩
  ·exact⟨605,hd (607,605) (.tail _ (.tail _ (.tail _ (.head _)))),.tail _ (.tail _ (.tail _ (.head _)))⟩
 ·exact Xj rfl rfl (Om Y T).X
end
noncomputable def HT:AH:=fun a=>if a∈[567,610,562,605] then some .tab else none
theorem aat {P:Addr}(h:P∈[567,610,562,605]):HT P=some .tab:=by unfold HT;rw[if_pos h]
theorem aas {a:Addr}{o:AO}(h:HT a=some o):a∈[567,610,562,605]∧o= .tab:=by
 unfold HT at h
 split at h
 ·rename_i m;cases h;exact⟨m,rfl⟩
 ·cases h
theorem LJ {a:Addr}(h:a∉[567,610,562,605]):HT a=none:=by unfold HT;rw[if_neg h]
theorem xT {Z:Program}{w:World}{H:AH}{h:Heap}:∀{vs:List Value} {xs:List Int},IntsAre vs xs→am Z w H h (xs.map .int) vs
 | _,_,.nil=>.nil
 | _,_,.cons _ _ t=>.cons .int (xT t)
theorem walk:WalkO qV PK (XL qV []) (Hook.says HK) rO.toRowW dL.1 dL.2 fun f vs=>PySem.call f vs:=by
 intro w s₀ s₁ mg mb G Y fa o pm cd doc dV kV ho hd hcd hD hmg hg args vals as ahb agY hrd hwl hlo
 have T:=G.T
 have hT:=DM Y
 have cx:Cx rO.prog (Z9 w s₁.heap (loG (looseW qV PK) qV) mg mb) w.params:=aaa Y T
 have hn:dL.1.name="law":=by kernel_rfl
 rw[hn,mg_of (km_in_of Y) T.g (abX w.params)] at hmg
 cases hmg
 wrow_args ahb agY hrd hwl hlo
 rename_i sc _ _ _ _ _ _ _ a vs _ hL _ wl _ hI _ hc _
 have hw:∃xs:List Value,s₁.heap.get? a=some {cls:= .type "list",data:= .seq xs.toArray}:=by
  generalize hq:Value.ref a=v at wl
  generalize hr:ofPy _=r at wl
  cases wl<;>first | (cases hq;exact⟨_,by assumption⟩) | cases hr | cases hq
 obtain⟨xs,hx⟩:=hw
 refine enter_call ?_
 refine codeAny_mono (adF (d:=0) (H:=HT) (sc:=sc) (Q:=fun v _=>v= .bool true) (X:=fun _=>False) cx (by omega) (fun _=>rfl) callerA [] s₁ [.ref a] rfl rfl (by decide) (by decide) ?_ ?_) fun r s' post=>?_
 ·refine⟨fun b o e=>of_hideAll _ e,fun b o e=>?_,fun e he=>absurd he List.not_mem_nil,fun P hP=>aat hP⟩
  obtain⟨m,rfl⟩:=aas e
  exact⟨hideAll_none _ m,#[],km_tabs_of Y b m,trivial,fun _ _ h=>by cases h⟩
 ·obtain⟨o',e',_,n',d'⟩:=hL
  rw[hx] at e'
  cases e'
  cases d'
  exact .cons (.lst hx rfl rfl rfl (LJ fun m=>by have :=km_tabs_of Y a m;rw[hx] at this;cases this) (xT hI)) .nil
 ·refine oE post (fun v z=>RP.casesOn z fun av H' R V E y q=>?_) fun e z=>z.no
  ·obtain⟨hh,tk,rfl⟩:=y
   subst q
   cases V
   refine⟨.inl ⟨_,.bool true,[],rfl,fun _=>rfl,.bool true,by wrow_post,fun _=>⟨List.nodup_nil,fun _ hm=>absurd hm List.not_mem_nil⟩⟩,⟨fun b o e=>?_,fun b o e=>E.here b o e⟩,rfl,?_⟩
   ·by_cases m:b∈[567,610,562,605]
    ·obtain⟨_,ps,e2,_⟩:=R.own b _ (R.tabs b m)
     have e3:=km_tabs_of Y b m
     rw[e] at e3
     cases e3
     obtain⟨q,hq,rfl⟩:∃q∈Ol,q.2=b:=by
      have :b∈Ol.map (·.2):=m
      obtain⟨q,hq,e⟩:=List.mem_map.mp this
      exact⟨q,hq,e⟩
     exact .inr (.inl ⟨((hT q hq).1.tab (hT q hq).2).isCodeTable,rfl,#[],ps,rfl,by rw[Array.empty_append];exact e2⟩)
    ·exact .inl (E.bY b o (LJ m) e).2
   ·show AllBare s₁.gens
    rw[hg];exact AllBare.empty
end Mine
theorem PySem.Challenge.cw_no0103_01_holds : PySem.Challenge.rw_no0103_01.Holds := by
  exact Mine.MP Mine.walk
