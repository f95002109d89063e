import PyProof.Rows.All
import Wide.All
import OpenK.AllK
import Wide.FinOn
import PyProof.ExcArgsOwn
import PySem.Challenge.RW_ok0159_01
set_option Elab.async false
set_option backward.match.sparseCases false
set_option bootstrap.genMatcherCode false
set_option tactic.hygienic false
set_option linter.all false
set_option maxRecDepth 100000
noncomputable section
section
set_option maxHeartbeats 8000000
open PySem PySem.W PyProof.Rows
namespace Hd
noncomputable abbrev prog:Program:=PySem.Challenge.pw_ok0159_01
noncomputable abbrev Jbq:List Stmt:=prog.main.body
noncomputable def fnOfSt:Option Stmt->List Str×Scope×List Stmt
 |some (.FunctionDef m args body _ _ _ sc _ _ _)=>(args.args.map (·.arg),sc,body)
 |_=>([],default,[])
noncomputable def argOf:Option Stmt->Arguments
 |some (.FunctionDef m args body _ _ _ sc _ _ _)=>args
 |_=>default
noncomputable def inCls(j:Nat):Option Stmt->Option Stmt
 |some (.ClassDef _ _ _ body _ _ _ _ _ _ _)=>body[j]?
 |_=>none
noncomputable def fnn(i:Nat):List Str×Scope×List Stmt:=fnOfSt Jbq[i]?
noncomputable def mth(i j:Nat):List Str×Scope×List Stmt:=fnOfSt (inCls j Jbq[i]?)
noncomputable def fna(i:Nat):Arguments:=argOf Jbq[i]?
noncomputable def mta(i j:Nat):Arguments:=argOf (inCls j Jbq[i]?)
noncomputable def pm0:Value:=.str "__main__" 164
noncomputable def pm1:Value:=.str "ringgate.basics" 194
noncomputable def pm2:Value:=.str "ringgate.objects" 250
noncomputable def pm3:Value:=.str "law_ok0159_01" 534
noncomputable def fo(n q:Str)(a:Arguments)(t:List Str×Scope×List Stmt)(dv pm:Value)(c:Nat):Obj:=
 {cls:=.type "function",data:=.func { name:=n,qualname:=q,params:=a,body:=.stmts t.2.2,scope:=t.2.1,globals:=3,closure:=[],defaults:=dv,kwdefaults:=.none,pyModule:=pm,code:=.ref c } }
noncomputable def fq(n q:Str)(a:Arguments)(t:List Str×Scope×List Stmt):Obj:=
 {cls:=.none,data:=.func { name:=n,qualname:=q,params:=a,body:=.stmts t.2.2,scope:=t.2.1,globals:=0,closure:=[],defaults:=.none,kwdefaults:=.none } }
noncomputable def fl(t:String)(l:List Value):Obj:={ cls:=.type t,data:=.fields ⟨l⟩ }
noncomputable def nf(l:List Value):Obj:={ cls:=.none,data:=.fields ⟨l⟩ }
noncomputable def tu(l:List Value):Obj:={ cls:=.type "tuple",data:=.seq ⟨l⟩ }
noncomputable def ln(c:Int):List (Nat×Nat)->List Value
 |[]=>[]
 |(l,r)::t=>.int l 0::.int c 0::.ref r::ln c t
noncomputable def co(n q:Str)(t l a r:Nat)(u v:Value)(z k m:Nat):Obj:=
 fl "code" [.str n t,.str q (t+1),.str "/claim/cut.py" (t+2),.int l 0,.int a 0,.int 0 0,.int 0 0,.int 3 0,.ref r,.bool true,.int 181 0,.ref (r+1),.none,u,v,.ref z,.int k 0,.int l 0,.str "/claim/cut.py" m]
noncomputable def fr(a b:Nat)(v:Value):Obj:={ cls:=.type "frame",slots:=#[some (.ref a),some (.ref 3),some (.ref b),none,some v,none,some (.ref 0)] }
noncomputable def de(P:Params)(k:Str)(t:Nat)(v:Value):DictEntry:=⟨PyData.keyHash P k,.str k t,v⟩
noncomputable def dc(l:List DictEntry)(e:Nat):Obj:={ cls:=.type "dict",data:=.dict ⟨l⟩ e }
noncomputable def dn(l:List DictEntry)(e:Nat):Obj:={ cls:=.none,data:=.dict ⟨l⟩ e }
noncomputable def glb(P:Params):List DictEntry:=
 ([de P "__doc__" 166 .none,de P "__package__" 167 .none,de P "__loader__" 168 (.builtin "__main__.__loader__#opaque"),de P "__spec__" 169 .none,de P "__annotations__" 170 (.ref 6),de P "__builtins__" 171 (.ref 4),de P "__file__" 173 (.str "/claim/cut.py" 172),de P "__cached__" 174 .none,de P "_wall" 193 (.ref 21),de P "GateError" 233 (.ref 46),de P "TextError" 249 (.ref 59),de P "HEAD" 253 (.str "ringgate object 1" 252),de P "SLOT_WIDTH" 255 (.int 8 254),de P "MOST_NAME" 257 (.int 15 256),de P "FIGURES" 259 (.str "0123456789abcdef" 258),de P "NAME_SIGNS" 261 (.str "abcdefghijklmnopqrstuvwxyz0123456789_" 260),de P "MapRow" 305 (.ref 85),de P "Object" 386 (.ref 146),de P "is_name" 392 (.ref 155),de P "check_sum" 401 (.ref 162),de P "hex_of" 407 (.ref 167),de P "object_lines" 413 (.ref 172),de P "write_object" 421 (.ref 179),de P "LineReader" 497 (.ref 236),de P "read_map" 503 (.ref 245),de P "read_slot" 509 (.ref 250),de P "read_symbol" 515 (.ref 255),de P "read_relocation" 527 (.ref 262),de P "read_object" 533 (.ref 267),de P "_law_pen" 544 (.ref 274),de P "_law_draw" 553 (.ref 281),de P "_law_pick" 561 (.ref 288),de P "_law_figures" 567 (.ref 293),de P "_law_right_lines" 573 (.ref 298),de P "_law_is_octets" 579 (.ref 303),de P "_law_sum" 592 (.ref 310),de P "_law_end" 599 (.ref 317),de P "_law_bent" 613 (.ref 324),de P "_law_name" 619 (.ref 329),de P "_law_number" 625 (.ref 334)]:List DictEntry) ++
 ([de P "_law_map" 631 (.ref 339),de P "_law_slot" 639 (.ref 346),de P "_law_symbol" 645 (.ref 351),de P "_law_relocation" 655 (.ref 358),de P "_law_end_wrong" 664 (.ref 365),de P "_law_read" 670 (.ref 370),de P "_law_heard" 679 (.ref 377),de P "law" 691 (.ref 384)]:List DictEntry)
noncomputable def gdc(P:Params)(k:Nat)(v:Value):Obj:=dc ((de P "__name__" 165 v::glb P).take k) k
noncomputable def K1(P:Params):Frag:=
 ([(29,tu [.none]),(35,co "__init__" "GateError.__init__" 208 7 3 30 (.ref 32) (.ref 33) 34 214 215),(36,fo "__init__" "GateError.__init__" (mta 2 0) (mth 2 0) (.ref 29) pm1 35),(42,co "told" "GateError.told" 217 12 1 37 (.ref 39) (.ref 40) 41 221 222),(43,fo "told" "GateError.told" (mta 2 1) (mth 2 1) .none pm1 42),(45,dc [de P "__module__" 203 (.str "ringgate.basics" 194),de P "__firstlineno__" 207 (.int 5 206),de P "__init__" 216 (.ref 36),de P "told" 223 (.ref 43),de P "__static_attributes__" 226 (.ref 44),de P "__weakref__" 228 (.ref 47),de P "__doc__" 229 .none] 3),(46,({ cls:=.type "type",data:=.cls { name:="GateError",bases:=[.type "Exception"],mro:=[.ref 46,.type "Exception",.type "BaseException",.type "object"],ns:=45,qualname:="GateError",subclasses:=[.ref 59] },slots:=#[some (.ref 22),none,some (.str "GateError" 196),some (.str "GateError" 204),some (.builtin "Exception.__new__"),some (.bool true)] }:Obj)),(58,dc [de P "__module__" 241 (.str "ringgate.basics" 194),de P "__firstlineno__" 245 (.int 14 244),de P "__static_attributes__" 246 (.ref 57),de P "__doc__" 247 .none] 2),(59,({ cls:=.type "type",data:=.cls { name:="TextError",bases:=[.ref 46],mro:=[.ref 59,.ref 46,.type "Exception",.type "BaseException",.type "object"],ns:=58,qualname:="TextError" },slots:=#[some (.ref 50),none,some (.str "TextError" 234),some (.str "TextError" 242),some (.builtin "Exception.__new__"),some (.bool true)] }:Obj)),(74,co "__init__" "MapRow.__init__" 274 24 6 69 (.ref 71) (.ref 72) 73 283 284),(75,fo "__init__" "MapRow.__init__" (mta 10 0) (mth 10 0) .none pm2 74),(81,co "told" "MapRow.told" 286 31 1 76 (.ref 78) (.ref 79) 80 290 291),(82,fo "told" "MapRow.told" (mta 10 1) (mth 10 1) .none pm2 81),(84,dc [de P "__module__" 269 (.str "ringgate.objects" 250),de P "__firstlineno__" 273 (.int 22 272),de P "__init__" 285 (.ref 75),de P "told" 292 (.ref 82),de P "__static_attributes__" 298 (.ref 83),de P "__dict__" 300 (.ref 86),de P "__weakref__" 302 (.ref 87),de P "__doc__" 303 .none] 4),(85,({ cls:=.type "type",data:=.cls { name:="MapRow",bases:=[.type "object"],mro:=[.ref 85,.type "object"],ns:=84,qualname:="MapRow" },slots:=#[none,none,some (.str "MapRow" 262),some (.str "MapRow" 270),some (.builtin "object.__new__"),some (.bool true)] }:Obj)),(102,co "__init__" "Object.__init__" 318 35 5 97 (.ref 99) (.ref 100) 101 326 327),(103,fo "__init__" "Object.__init__" (mta 11 0) (mth 11 0) .none pm2 102),(107,co "told" "Object.told" 329 41 1 104 .none .none 106 332 333),(108,fo "told" "Object.told" (mta 11 1) (mth 11 1) .none pm2 107),(114,co "count" "Object.count" 335 45 1 109 (.ref 111) (.ref 112) 113 339 340),(115,fo "count" "Object.count" (mta 11 2) (mth 11 2) .none pm2 114),(142,co "slot" "Object.slot" 367 60 2 137 (.ref 139) (.ref 140) 141 372 373),(143,fo "slot" "Object.slot" (mta 11 6) (mth 11 6) .none pm2 142),(145,dc [de P "__module__" 313 (.str "ringgate.objects" 250),de P "__firstlineno__" 317 (.int 33 316),de P "__init__" 328 (.ref 103),de P "told" 334 (.ref 108),de P "count" 341 (.ref 115),de P "map_number" 349 (.ref 122),de P "symbol" 359 (.ref 129),de P "functions" 366 (.ref 136),de P "slot" 374 (.ref 143),de P "__static_attributes__" 379 (.ref 144),de P "__dict__" 381 (.ref 147),de P "__weakref__" 383 (.ref 148),de P "__doc__" 384 .none] 4),(146,({ cls:=.type "type",data:=.cls { name:="Object",bases:=[.type "object"],mro:=[.ref 146,.type "object"],ns:=145,qualname:="Object" },slots:=#[none,none,some (.str "Object" 306),some (.str "Object" 314),some (.builtin "object.__new__"),some (.bool true)] }:Obj)),(154,co "is_name" "is_name" 387 62 1 151 .none .none 153 390 391),(155,fo "is_name" "is_name" (fna 12) (fnn 12) .none pm2 154),(161,co "check_sum" "check_sum" 393 66 1 156 (.ref 158) (.ref 159) 160 399 400),(162,fo "check_sum" "check_sum" (fna 13) (fnn 13) .none pm2 161),(166,co "hex_of" "hex_of" 402 71 1 163 .none .none 165 405 406),(167,fo "hex_of" "hex_of" (fna 14) (fnn 14) .none pm2 166),(171,co "object_lines" "object_lines" 408 73 1 168 .none .none 170 411 412),(172,fo "object_lines" "object_lines" (fna 15) (fnn 15) .none pm2 171),(178,co "write_object" "write_object" 414 84 1 173 (.ref 175) (.ref 176) 177 419 420),(179,fo "write_object" "write_object" (fna 16) (fnn 16) .none pm2 178),(192,co "__init__" "LineReader.__init__" 434 90 2 187 (.ref 189) (.ref 190) 191 439 440),(193,fo "__init__" "LineReader.__init__" (mta 17 0) (mth 17 0) .none pm2 192),(199,co "words" "LineReader.words" 442 94 1 194 (.ref 196) (.ref 197) 198 446 447),(200,fo "words" "LineReader.words" (mta 17 1) (mth 17 1) .none pm2 199),(206,co "is_next" "LineReader.is_next" 449 99 2 201 (.ref 203) (.ref 204) 205 454 455)]:List (Addr×Obj)) ++
 ([(207,fo "is_next" "LineReader.is_next" (mta 17 2) (mth 17 2) .none pm2 206),(213,co "take" "LineReader.take" 457 102 2 208 (.ref 210) (.ref 211) 212 463 464),(214,fo "take" "LineReader.take" (mta 17 3) (mth 17 3) .none pm2 213),(220,co "refuse" "LineReader.refuse" 466 109 2 215 (.ref 217) (.ref 218) 219 471 472),(221,fo "refuse" "LineReader.refuse" (mta 17 4) (mth 17 4) .none pm2 220),(225,co "number" "LineReader.number" 474 112 2 222 .none .none 224 477 478),(226,fo "number" "LineReader.number" (mta 17 5) (mth 17 5) .none pm2 225),(232,co "name" "LineReader.name" 480 117 2 227 (.ref 229) (.ref 230) 231 485 486),(233,fo "name" "LineReader.name" (mta 17 6) (mth 17 6) .none pm2 232),(235,dc [de P "__module__" 429 (.str "ringgate.objects" 250),de P "__firstlineno__" 433 (.int 88 432),de P "__init__" 441 (.ref 193),de P "words" 448 (.ref 200),de P "is_next" 456 (.ref 207),de P "take" 465 (.ref 214),de P "refuse" 473 (.ref 221),de P "number" 479 (.ref 226),de P "name" 487 (.ref 233),de P "__static_attributes__" 490 (.ref 234),de P "__dict__" 492 (.ref 237),de P "__weakref__" 494 (.ref 238),de P "__doc__" 495 .none] 4),(236,({ cls:=.type "type",data:=.cls { name:="LineReader",bases:=[.type "object"],mro:=[.ref 236,.type "object"],ns:=235,qualname:="LineReader" },slots:=#[none,none,some (.str "LineReader" 422),some (.str "LineReader" 430),some (.builtin "object.__new__"),some (.bool true)] }:Obj)),(244,co "read_map" "read_map" 498 121 2 241 .none .none 243 501 502),(245,fo "read_map" "read_map" (fna 18) (fnn 18) .none pm2 244),(249,co "read_slot" "read_slot" 504 130 1 246 .none .none 248 507 508),(250,fo "read_slot" "read_slot" (fna 19) (fnn 19) .none pm2 249),(254,co "read_symbol" "read_symbol" 510 135 3 251 .none .none 253 513 514),(255,fo "read_symbol" "read_symbol" (fna 20) (fnn 20) .none pm2 254),(261,co "read_relocation" "read_relocation" 516 143 3 256 (.ref 258) (.ref 259) 260 525 526),(262,fo "read_relocation" "read_relocation" (fna 21) (fnn 21) .none pm2 261),(266,co "read_object" "read_object" 528 151 1 263 .none .none 265 531 532),(267,fo "read_object" "read_object" (fna 22) (fnn 22) .none pm2 266),(273,co "_law_pen" "_law_pen" 536 172 1 268 (.ref 270) (.ref 271) 272 542 543),(274,fo "_law_pen" "_law_pen" (fna 24) (fnn 24) .none pm3 273),(280,co "_law_draw" "_law_draw" 545 177 2 275 (.ref 277) (.ref 278) 279 551 552),(281,fo "_law_draw" "_law_draw" (fna 25) (fnn 25) .none pm3 280),(287,co "_law_pick" "_law_pick" 554 184 2 282 (.ref 284) (.ref 285) 286 559 560),(288,fo "_law_pick" "_law_pick" (fna 26) (fnn 26) .none pm3 287),(292,co "_law_figures" "_law_figures" 562 186 1 289 .none .none 291 565 566),(293,fo "_law_figures" "_law_figures" (fna 27) (fnn 27) .none pm3 292),(297,co "_law_right_lines" "_law_right_lines" 568 188 1 294 .none .none 296 571 572),(298,fo "_law_right_lines" "_law_right_lines" (fna 28) (fnn 28) .none pm3 297),(302,co "_law_is_octets" "_law_is_octets" 574 201 1 299 .none .none 301 577 578),(303,fo "_law_is_octets" "_law_is_octets" (fna 29) (fnn 29) .none pm3 302),(309,co "_law_sum" "_law_sum" 580 203 1 304 (.ref 306) (.ref 307) 308 590 591),(310,fo "_law_sum" "_law_sum" (fna 30) (fnn 30) .none pm3 309),(316,co "_law_end" "_law_end" 593 213 1 311 (.ref 313) (.ref 314) 315 597 598),(317,fo "_law_end" "_law_end" (fna 31) (fnn 31) .none pm3 316),(323,co "_law_bent" "_law_bent" 600 215 2 318 (.ref 320) (.ref 321) 322 611 612),(324,fo "_law_bent" "_law_bent" (fna 32) (fnn 32) .none pm3 323),(328,co "_law_name" "_law_name" 614 239 1 325 .none .none 327 617 618)]:List (Addr×Obj)) ++
 ([(329,fo "_law_name" "_law_name" (fna 33) (fnn 33) .none pm3 328),(333,co "_law_number" "_law_number" 620 243 1 330 .none .none 332 623 624),(334,fo "_law_number" "_law_number" (fna 34) (fnn 34) .none pm3 333),(338,co "_law_map" "_law_map" 626 250 2 335 .none .none 337 629 630),(339,fo "_law_map" "_law_map" (fna 35) (fnn 35) .none pm3 338),(345,co "_law_slot" "_law_slot" 632 264 2 340 (.ref 342) (.ref 343) 344 637 638),(346,fo "_law_slot" "_law_slot" (fna 36) (fnn 36) .none pm3 345),(350,co "_law_symbol" "_law_symbol" 640 271 2 347 .none .none 349 643 644),(351,fo "_law_symbol" "_law_symbol" (fna 37) (fnn 37) .none pm3 350),(357,co "_law_relocation" "_law_relocation" 646 285 2 352 (.ref 354) (.ref 355) 356 653 654),(358,fo "_law_relocation" "_law_relocation" (fna 38) (fnn 38) .none pm3 357),(364,co "_law_end_wrong" "_law_end_wrong" 656 299 3 359 (.ref 361) (.ref 362) 363 662 663),(365,fo "_law_end_wrong" "_law_end_wrong" (fna 39) (fnn 39) .none pm3 364),(369,co "_law_read" "_law_read" 665 313 1 366 .none .none 368 668 669),(370,fo "_law_read" "_law_read" (fna 40) (fnn 40) .none pm3 369),(376,co "_law_heard" "_law_heard" 671 330 1 371 (.ref 373) (.ref 374) 375 677 678),(377,fo "_law_heard" "_law_heard" (fna 41) (fnn 41) .none pm3 376),(383,co "law" "law" 680 336 1 378 (.ref 380) (.ref 381) 382 689 690),(384,fo "law" "law" (fna 42) (fnn 42) .none pm3 383)]:List (Addr×Obj))
noncomputable def K(P:Params):Frag:=(3,gdc P 49 pm3)::K1 P
noncomputable def Ka:List Addr:=3::(([29,35,36,42,43,45,46,58,59,74,75,81,82,84,85,102,103,107,108,114,115,142,143,145,146,154,155,161,162,166,167,171,172,178,179,192,193,199,200,206]:List Addr) ++
 ([207,213,214,220,221,225,226,232,233,235,236,244,245,249,250,254,255,261,262,266,267,273,274,280,281,287,288,292,293,297,298,302,303,309,310,316,317,323,324,328]:List Addr) ++
 ([329,333,334,338,339,345,346,350,351,357,358,364,365,369,370,376,377,383,384]:List Addr))
noncomputable def lns:List (Nat×Nat):=[(1,20),(5,27),(14,55),(22,67),(33,95),(62,154),(66,161),(71,166),(73,171),(84,178),(88,185),(121,244),(130,249),(135,254),(143,261),(151,266),(172,273),(177,280),(184,287),(186,292),(188,297),(201,302),(203,309),(213,316),(215,323),(239,328),(243,333),(250,338),(264,345),(271,350),(285,357),(299,364),(313,369),(330,376),(336,383)]
noncomputable def rst(P:Params)(j:Nat):List Obj:=
 ([boot_o_0 P,boot_o_1 P,dn [de P "type.__subclasses__.Exception.0" 230 (.int 46 0),de P "type.__subclasses__.Exception.n" 231 (.int 1 0)] 2,boot_o_4 P,boot_o_5 P,boot_o_6 P,boot_o_7 P,boot_o_8 P,boot_o_9 P,boot_o_10 P,tu [],nf (ln 0 (lns.take j)),fl "code" [.str "<module>" 182,.str "<module>" 183,.str "/claim/cut.py" 184,.int 1 0,.int 0 0,.int 0 0,.int 0 0,.int 0 0,.ref 11,.bool false,.int 181 0,.ref 12,.none,.none,.none,.none,.int 185 0,.int 1 0,.str "/claim/cut.py" 186],fr 13 3 pm0,tu [],nf [],tu [.str "k" 190],tu [],fq "_wall" "_wall" (fna 0) (fnn 0),co "_wall" "_wall" 187 1 1 15 (.ref 17) (.ref 18) 19 191 192,fo "_wall" "_wall" (fna 0) (fnn 0) .none pm0 20,tu [.type "Exception"],fl "builtin_function_or_method" [.builtin "type.__prepare__",.type "type"],dc [de P "__module__" 203 (.str "ringgate.basics" 194),de P "__qualname__" 205 (.str "GateError" 204),de P "__firstlineno__" 207 (.int 5 206),de P "__init__" 216 (.ref 36),de P "told" 223 (.ref 43),de P "__static_attributes__" 226 (.ref 44)] 6,tu [],nf (ln 4 [(7,35),(12,42)]),fl "code" [.str "GateError" 198,.str "GateError" 199,.str "/claim/cut.py" 200,.int 5 0,.int 0 0,.int 0 0,.int 0 0,.int 0 0,.ref 25,.bool false,.int 181 0,.ref 26,.none,.none,.none,.none,.int 201 0,.int 5 0,.str "/claim/cut.py" 202],fr 27 24 pm1,tu [],nf [],tu [.str "self" 211,.str "what" 212,.str "at" 213],tu [],fq "__init__" "GateError.__init__" (mta 2 0) (mth 2 0),tu [],nf [],tu [.str "self" 220],tu [],fq "told" "GateError.told" (mta 2 1) (mth 2 1),tu [.str "at" 224,.str "what" 225],fl "getset_descriptor" [.str "__weakref__" 227,.ref 46,.builtin "ExceptionGroup.__weakref__",.none]]:List Obj) ++
 ([fl "super" [.ref 46,.ref 46,.ref 46],fl "builtin_function_or_method" [.builtin "object.__init_subclass__",.ref 46],tu [.ref 46],fl "builtin_function_or_method" [.builtin "type.__prepare__",.type "type"],dc [de P "__module__" 241 (.str "ringgate.basics" 194),de P "__qualname__" 243 (.str "TextError" 242),de P "__firstlineno__" 245 (.int 14 244),de P "__static_attributes__" 246 (.ref 57)] 4,tu [],nf [],fl "code" [.str "TextError" 236,.str "TextError" 237,.str "/claim/cut.py" 238,.int 14 0,.int 0 0,.int 0 0,.int 0 0,.int 0 0,.ref 53,.bool false,.int 181 0,.ref 54,.none,.none,.none,.none,.int 239 0,.int 14 0,.str "/claim/cut.py" 240],fr 55 52 pm1,tu [],fl "super" [.ref 59,.ref 59,.ref 59],fl "builtin_function_or_method" [.builtin "object.__init_subclass__",.ref 59],tu [],fl "builtin_function_or_method" [.builtin "type.__prepare__",.type "type"],dc [de P "__module__" 269 (.str "ringgate.objects" 250),de P "__qualname__" 271 (.str "MapRow" 270),de P "__firstlineno__" 273 (.int 22 272),de P "__init__" 285 (.ref 75),de P "told" 292 (.ref 82),de P "__static_attributes__" 298 (.ref 83)] 6,tu [],nf (ln 4 [(24,74),(31,81)]),fl "code" [.str "MapRow" 264,.str "MapRow" 265,.str "/claim/cut.py" 266,.int 22 0,.int 0 0,.int 0 0,.int 0 0,.int 0 0,.ref 65,.bool false,.int 181 0,.ref 66,.none,.none,.none,.none,.int 267 0,.int 22 0,.str "/claim/cut.py" 268],fr 67 64 pm2,tu [],nf [],tu [.str "self" 277,.str "name" 278,.str "kind" 279,.str "key_width" 280,.str "value_width" 281,.str "most" 282],tu [],fq "__init__" "MapRow.__init__" (mta 10 0) (mth 10 0),tu [],nf [],tu [.str "self" 289],tu [],fq "told" "MapRow.told" (mta 10 1) (mth 10 1),tu [.str "key_width" 293,.str "kind" 294,.str "most" 295,.str "name" 296,.str "value_width" 297],fl "getset_descriptor" [.str "__dict__" 299,.ref 85,.builtin "function.__dict__",.builtin "function.__dict__#set"],fl "getset_descriptor" [.str "__weakref__" 301,.ref 85,.builtin "ExceptionGroup.__weakref__",.none],fl "super" [.ref 85,.ref 85,.ref 85],fl "builtin_function_or_method" [.builtin "object.__init_subclass__",.ref 85],tu [],fl "builtin_function_or_method" [.builtin "type.__prepare__",.type "type"],dc [de P "__module__" 313 (.str "ringgate.objects" 250),de P "__qualname__" 315 (.str "Object" 314),de P "__firstlineno__" 317 (.int 33 316),de P "__init__" 328 (.ref 103),de P "told" 334 (.ref 108),de P "count" 341 (.ref 115),de P "map_number" 349 (.ref 122),de P "symbol" 359 (.ref 129),de P "functions" 366 (.ref 136),de P "slot" 374 (.ref 143),de P "__static_attributes__" 379 (.ref 144)] 11,tu [],nf (ln 4 [(35,102),(41,107),(45,114),(48,121),(51,128),(57,135),(60,142)]),fl "code" [.str "Object" 308,.str "Object" 309,.str "/claim/cut.py" 310,.int 33 0,.int 0 0,.int 0 0,.int 0 0,.int 0 0,.ref 93,.bool false,.int 181 0,.ref 94,.none,.none,.none,.none,.int 311 0,.int 33 0,.str "/claim/cut.py" 312]]:List Obj) ++
 ([fr 95 92 pm2,tu [],nf [],tu [.str "self" 321,.str "maps" 322,.str "octets" 323,.str "symbols" 324,.str "relocations" 325],tu [],fq "__init__" "Object.__init__" (mta 11 0) (mth 11 0),tu [],nf [],fq "told" "Object.told" (mta 11 1) (mth 11 1),tu [],nf [],tu [.str "self" 338],tu [],fq "count" "Object.count" (mta 11 2) (mth 11 2),tu [],nf [],tu [.str "self" 345,.str "name" 346],tu [],fq "map_number" "Object.map_number" (mta 11 3) (mth 11 3),co "map_number" "Object.map_number" 342 48 2 116 (.ref 118) (.ref 119) 120 347 348,fo "map_number" "Object.map_number" (mta 11 3) (mth 11 3) .none pm2 121,tu [],nf [],tu [.str "self" 353,.str "name" 354,.str "one" 355,.str "slot" 356],tu [],fq "symbol" "Object.symbol" (mta 11 4) (mth 11 4),co "symbol" "Object.symbol" 350 51 2 123 (.ref 125) (.ref 126) 127 357 358,fo "symbol" "Object.symbol" (mta 11 4) (mth 11 4) .none pm2 128,tu [],nf [],tu [.str "self" 363],tu [],fq "functions" "Object.functions" (mta 11 5) (mth 11 5),co "functions" "Object.functions" 360 57 1 130 (.ref 132) (.ref 133) 134 364 365,fo "functions" "Object.functions" (mta 11 5) (mth 11 5) .none pm2 135,tu [],nf [],tu [.str "self" 370,.str "at" 371],tu [],fq "slot" "Object.slot" (mta 11 6) (mth 11 6)]:List Obj) ++
 ([tu [.str "maps" 375,.str "octets" 376,.str "relocations" 377,.str "symbols" 378],fl "getset_descriptor" [.str "__dict__" 380,.ref 146,.builtin "function.__dict__",.builtin "function.__dict__#set"],fl "getset_descriptor" [.str "__weakref__" 382,.ref 146,.builtin "ExceptionGroup.__weakref__",.none],fl "super" [.ref 146,.ref 146,.ref 146],fl "builtin_function_or_method" [.builtin "object.__init_subclass__",.ref 146],tu [],nf [],fq "is_name" "is_name" (fna 12) (fnn 12),tu [],nf [],tu [.str "octets" 396,.str "total" 397,.str "place" 398],tu [],fq "check_sum" "check_sum" (fna 13) (fnn 13),tu [],nf [],fq "hex_of" "hex_of" (fna 14) (fnn 14),tu [],nf [],fq "object_lines" "object_lines" (fna 15) (fnn 15),tu [],nf [],tu [.str "made" 417,.str "lines" 418],tu [],fq "write_object" "write_object" (fna 16) (fnn 16),tu [],fl "builtin_function_or_method" [.builtin "type.__prepare__",.type "type"],dc [de P "__module__" 429 (.str "ringgate.objects" 250),de P "__qualname__" 431 (.str "LineReader" 430),de P "__firstlineno__" 433 (.int 88 432),de P "__init__" 441 (.ref 193),de P "words" 448 (.ref 200),de P "is_next" 456 (.ref 207),de P "take" 465 (.ref 214),de P "refuse" 473 (.ref 221),de P "number" 479 (.ref 226),de P "name" 487 (.ref 233),de P "__static_attributes__" 490 (.ref 234)] 11,tu [],nf (ln 4 [(90,192),(94,199),(99,206),(102,213),(109,220),(112,225),(117,232)]),fl "code" [.str "LineReader" 424,.str "LineReader" 425,.str "/claim/cut.py" 426,.int 88 0,.int 0 0,.int 0 0,.int 0 0,.int 0 0,.ref 183,.bool false,.int 181 0,.ref 184,.none,.none,.none,.none,.int 427 0,.int 88 0,.str "/claim/cut.py" 428],fr 185 182 pm2,tu [],nf [],tu [.str "self" 437,.str "text" 438],tu [],fq "__init__" "LineReader.__init__" (mta 17 0) (mth 17 0),tu [],nf [],tu [.str "self" 445],tu []]:List Obj) ++
 ([fq "words" "LineReader.words" (mta 17 1) (mth 17 1),tu [],nf [],tu [.str "self" 452,.str "word" 453],tu [],fq "is_next" "LineReader.is_next" (mta 17 2) (mth 17 2),tu [],nf [],tu [.str "self" 460,.str "count" 461,.str "words" 462],tu [],fq "take" "LineReader.take" (mta 17 3) (mth 17 3),tu [],nf [],tu [.str "self" 469,.str "what" 470],tu [],fq "refuse" "LineReader.refuse" (mta 17 4) (mth 17 4),tu [],nf [],fq "number" "LineReader.number" (mta 17 5) (mth 17 5),tu [],nf [],tu [.str "self" 483,.str "word" 484],tu [],fq "name" "LineReader.name" (mta 17 6) (mth 17 6),tu [.str "at" 488,.str "lines" 489],fl "getset_descriptor" [.str "__dict__" 491,.ref 236,.builtin "function.__dict__",.builtin "function.__dict__#set"],fl "getset_descriptor" [.str "__weakref__" 493,.ref 236,.builtin "ExceptionGroup.__weakref__",.none],fl "super" [.ref 236,.ref 236,.ref 236],fl "builtin_function_or_method" [.builtin "object.__init_subclass__",.ref 236],tu [],nf [],fq "read_map" "read_map" (fna 18) (fnn 18),tu [],nf [],fq "read_slot" "read_slot" (fna 19) (fnn 19),tu [],nf [],fq "read_symbol" "read_symbol" (fna 20) (fnn 20),tu [],nf []]:List Obj) ++
 ([tu [.str "reader" 519,.str "relocations" 520,.str "count" 521,.str "words" 522,.str "slot" 523,.str "name" 524],tu [],fq "read_relocation" "read_relocation" (fna 21) (fnn 21),tu [],nf [],fq "read_object" "read_object" (fna 22) (fnn 22),tu [],nf [],tu [.str "script" 539,.str "number" 540,.str "cell" 541],tu [],fq "_law_pen" "_law_pen" (fna 24) (fnn 24),tu [],nf [],tu [.str "pen" 548,.str "many" 549,.str "digit" 550],tu [],fq "_law_draw" "_law_draw" (fna 25) (fnn 25),tu [],nf [],tu [.str "pen" 557,.str "some" 558],tu [],fq "_law_pick" "_law_pick" (fna 26) (fnn 26),tu [],nf [],fq "_law_figures" "_law_figures" (fna 27) (fnn 27),tu [],nf [],fq "_law_right_lines" "_law_right_lines" (fna 28) (fnn 28),tu [],nf [],fq "_law_is_octets" "_law_is_octets" (fna 29) (fnn 29),tu [],nf [],tu [.str "lines" 583,.str "total" 584,.str "place" 585,.str "line" 586,.str "words" 587,.str "spot" 588,.str "octet" 589],tu [],fq "_law_sum" "_law_sum" (fna 30) (fnn 30),tu [],nf [],tu [.str "lines" 596],tu [],fq "_law_end" "_law_end" (fna 31) (fnn 31)]:List Obj) ++
 ([tu [],nf [],tu [.str "pen" 603,.str "lines" 604,.str "at" 605,.str "kind" 606,.str "strange" 607,.str "words" 608,.str "spot" 609,.str "word" 610],tu [],fq "_law_bent" "_law_bent" (fna 32) (fnn 32),tu [],nf [],fq "_law_name" "_law_name" (fna 33) (fnn 33),tu [],nf [],fq "_law_number" "_law_number" (fna 34) (fnn 34),tu [],nf [],fq "_law_map" "_law_map" (fna 35) (fnn 35),tu [],nf [],tu [.str "words" 635,.str "held" 636],tu [],fq "_law_slot" "_law_slot" (fna 36) (fnn 36),tu [],nf [],fq "_law_symbol" "_law_symbol" (fna 37) (fnn 37),tu [],nf [],tu [.str "words" 649,.str "held" 650,.str "slot" 651,.str "rows" 652],tu [],fq "_law_relocation" "_law_relocation" (fna 38) (fnn 38),tu [],nf [],tu [.str "words" 659,.str "lines" 660,.str "at" 661],tu [],fq "_law_end_wrong" "_law_end_wrong" (fna 39) (fnn 39),tu [],nf [],fq "_law_read" "_law_read" (fna 40) (fnn 40),tu [],nf [],tu [.str "text" 674,.str "one" 675,.str "error" 676],tu [],fq "_law_heard" "_law_heard" (fna 41) (fnn 41)]:List Obj) ++
 ([tu [],nf [],tu [.str "script" 683,.str "pen" 684,.str "lines" 685,.str "turn" 686,.str "text" 687,.str "cut" 688],tu [],fq "law" "law" (fna 42) (fnn 42)]:List Obj)
noncomputable def weave:Nat->Nat->Frag->List Obj->List Obj
 |0,_,_,_=>[]
 |n+1,i,(a,o)::k,r=>if i=a then o::weave n (i+1) k r else match r with
  |[]=>[]
  |q::r=>q::weave n (i+1) ((a,o)::k) r
 |n+1,i,[],q::r=>q::weave n (i+1) [] r
 |_+1,_,[],[]=>[]
noncomputable def hp(n k j:Nat)(v:Value)(P:Params):Heap:={ objs:=⟨weave n 0 ((3,gdc P k v)::K1 P) (rst P j)⟩ }
noncomputable def hp15(P:Params):Heap:={ objs:=⟨[boot_o_0 P,boot_o_1 P,boot_o_2 P,boot_o_3 P,boot_o_4 P,boot_o_5 P,boot_o_6 P,boot_o_7 P,boot_o_8 P,boot_o_9 P,boot_o_10 P,tu [],nf [],fl "code" [.str "<module>" 182,.str "<module>" 183,.str "/claim/cut.py" 184,.int 1 0,.int 0 0,.int 0 0,.int 0 0,.int 0 0,.ref 11,.bool false,.int 181 0,.ref 12,.none,.none,.none,.none,.int 185 0,.int 1 0,.str "/claim/cut.py" 186],fr 13 3 pm0]⟩ }
noncomputable abbrev row:OpenRow:=Challenge.rw_ok0159_01.row
noncomputable abbrev tp:Program:=row.toRowW.1
noncomputable def hv:Program:={ prog with main:={ prog.main with body:=((Jbq.eraseIdx 23).eraseIdx 4).eraseIdx 1 } }
noncomputable def kh:Hook:=kHook K Ka λ_=>by kernel_rfl
noncomputable def henv:Env:={ scope:=tp.main.scope,locals:=mainNs,globals:=mainNs,cells:=[],code:=.ref 13,frame:=some 14 }
noncomputable abbrev bhi:List Stmt:=behindTheImports tp
noncomputable abbrev hcd:Code:=.body bhi henv
noncomputable abbrev q0:Pos:=⟨0,0,0,0⟩
abbrev SegOk(w:World)(os:OsState)(n:Nat)(h h':Params->Heap)(k k':Nat)(l:List Stmt)(p p':Pos):Prop:=
 segRun treeTable tp w 11 (some (.ref 6)) 1 n { heap:=h w.params,toks:=k,os:=os } (piecesOf l henv hcd p [topFrame q0])=some (.next,{ heap:=h' w.params,toks:=k',os:=os },hcd,p')
theorem seg_a(w:World)(os:OsState):topGo treeTable tp w 11 (some (.ref 6)) 12 { heap:=boot_heap w.params,drawn:=boot_drawn,toks:=boot_toks,os:=os } (topStub tp)=some ({ heap:=hp15 w.params,toks:=187,os:=os },⟨denote treeTable hcd,hcd,q0,[topFrame q0]⟩):=by
 kernel_rfl
theorem seg_b(w:World)(os:OsState):segRun treeTable tp w 11 (some (.ref 6)) 1 1 { heap:=hp15 w.params,toks:=187,os:=os } (blockOf bhi henv hcd q0 [topFrame q0])=some (.next,{ heap:=hp15 w.params,toks:=187,os:=os },hcd,q0):=by
 kernel_rfl
theorem seg_1(w:World)(os:OsState):SegOk w os 831 hp15 (hp 90 18 4 pm2) 187 306 (Jbq.take 11) q0 ⟨22,0,32,82⟩:=by
 unfold SegOk;rw[Fast.te14364793385576792824];kernel_rfl
theorem seg_2(w:World)(os:OsState):SegOk w os 557 (hp 90 18 4 pm2) (hp 180 24 10 pm2) 306 422 ((Jbq.drop 11).take 6) ⟨22,0,32,82⟩ ⟨84,0,87,34⟩:=by
 unfold SegOk;rw[Fast.te14364793385576792824];kernel_rfl
theorem seg_3(w:World)(os:OsState):SegOk w os 794 (hp 180 24 10 pm2) (hp 318 38 24 pm3) 422 600 ((Jbq.drop 17).take 15) ⟨84,0,87,34⟩ ⟨213,0,214,64⟩:=by
 unfold SegOk;rw[Fast.te14364793385576792824];kernel_rfl
theorem seg_4(w:World)(os:OsState):SegOk w os 325 (hp 318 38 24 pm3) (hp 385 49 35 pm3) 600 692 (Jbq.drop 32) ⟨213,0,214,64⟩ ⟨336,0,348,44⟩:=by
 unfold SegOk;rw[Fast.te14364793385576792824];kernel_rfl
theorem seg_z(w:World)(os:OsState):topRun treeTable tp w 11 (some (.ref 6)) 2 { heap:=hp 385 49 35 pm3 w.params,toks:=692,os:=os } ⟨doneF .next,hcd,⟨336,0,348,44⟩,[topFrame q0]⟩=some { heap:=hp 385 49 35 pm3 w.params,toks:=692,os:=os }:=by
 kernel_rfl
theorem body_is:bhi=Jbq.take 11++((Jbq.drop 11).take 6++((Jbq.drop 17).take 15++(Jbq.drop 32++[]))):=by kernel_rfl
theorem seg_run(w:World)(os:OsState):topRun treeTable tp w 11 (some (.ref 6)) (12+(1+(831+(557+(794+(325+2)))))) { heap:=boot_heap w.params,drawn:=boot_drawn,toks:=boot_toks,os:=os } (topStub tp)=some { heap:=hp 385 49 35 pm3 w.params,toks:=692,os:=os }:=by
 refine go_top (seg_a w os) (piece_block (seg_b w os) ?_)
 refine (congrArg (λb=>topRun treeTable tp w 11 (some (.ref 6)) (831+(557+(794+(325+2)))) { heap:=hp15 w.params,toks:=187,os:=os } (restOf b henv hcd q0 [topFrame q0])=some { heap:=hp 385 49 35 pm3 w.params,toks:=692,os:=os }) body_is).mpr ?_
 exact piece_app (seg_1 w os) (piece_app (seg_2 w os) (piece_app (seg_3 w os) (piece_app (seg_4 w os) (piece_nil (seg_z w os)))))
noncomputable abbrev xt:Shared->Bool:=λs=>xlAt hv [] s&&recOk (RowW.records row.toRowW) s
theorem look_1(w:World):(λos:OsState=>(staticsOk (importedModules tp.main.body) (boot_heap w.params) (hp 385 49 35 pm3 w.params)&&namesBound tp (hp 385 49 35 pm3 w.params)&&gensDone { heap:=hp 385 49 35 pm3 w.params,toks:=692,os:=os }&&laidKept (boot_heap w.params) (hp 385 49 35 pm3 w.params)))=λ_=>true:=by
 rw[Fast.te5923862056798008813];kernel_rfl
theorem look_2(w:World):(λos:OsState=>openSeen hv ["GateError"] (importedModules tp.main.body) xt true { heap:=hp 385 49 35 pm3 w.params,toks:=692,os:=os })=λ_=>openGood hv ["GateError"]:=by
 rw[Fast.te4187177175401517315,Fast.te5923862056798008813];kernel_rfl
theorem look_3(w:World):(λos:OsState=>kh.obs { heap:=hp 385 49 35 pm3 w.params,toks:=692,os:=os })=λ_=>kh.val w:=by
 kernel_rfl
theorem left:LeftO row.prog hv ["GateError"] xt kh.obs kh.val 5124:=by
 refine LeftO.of_pieces (boot_open (by rfl) (by rfl) (λ_=>by rfl)) (λw=>?_) seg_run (by rfl) λw=>funext λos=>?_
 ·kernel_rfl
 ·show (_,_,_)=(_,_,_)
  rw[show _=true from congrFun (look_1 w) os,show _=openGood hv ["GateError"] from congrFun (look_2 w) os,show _=kh.val w from congrFun (look_3 w) os]
theorem said:PySem.Challenge.rw_ok0159_01.wellSaid=true:=by kernel_rfl
noncomputable def dlaw:DefRec:=⟨"law",fna 42,(fnn 42).2.2,(fnn 42).2.1,⟨336,0,348,44⟩⟩
theorem hd(walk:WalkO hv ["GateError"] (XL hv []) kh.says row.toRowW dlaw [] λf vs=>PySem.call f vs):PySem.Challenge.rw_ok0159_01.Holds:=
 holds_law said λk1=>holds_open left kh.of kh.keeps (λs e=>xl_of s (Bool.and_eq_true_iff.mp e).1) XL.keeps (by kernel_rfl) (by kernel_rfl) (by kernel_rfl) (λs e=>recFacts_of (Bool.and_eq_true_iff.mp e).2) (by rfl) k1 (by decide +kernel) ⟨rfl,rfl,rfl,rfl,rfl,by decide +kernel⟩ ⟨[WData.list []],by decide +kernel,by decide +kernel⟩ walk
end Hd
end
section
namespace La
open Nat.Internal.Linear
noncomputable abbrev v0:Expr:=.var 0
noncomputable abbrev v1:Expr:=.var 1
noncomputable abbrev v2:Expr:=.var 2
noncomputable abbrev v3:Expr:=.var 3
noncomputable abbrev v4:Expr:=.var 4
noncomputable abbrev v5:Expr:=.var 5
noncomputable abbrev v6:Expr:=.var 6
noncomputable abbrev v7:Expr:=.var 7
noncomputable abbrev k(n:Nat):Expr:=.num n
noncomputable abbrev m(n:Nat)(x:Expr):Expr:=.mulL n x
noncomputable abbrev p(x y:Expr):Expr:=.add x y
noncomputable abbrev c1(a:Nat):Context:=(.leaf a)
noncomputable abbrev c2(a b:Nat):Context:=(.branch 1 (.leaf a) (.leaf b))
noncomputable abbrev c3(a b c:Nat):Context:=(.branch 2 (.branch 1 (.leaf a) (.leaf b)) (.leaf c))
noncomputable abbrev c4(a b c d:Nat):Context:=(.branch 2 (.branch 1 (.leaf a) (.leaf b)) (.branch 3 (.leaf c) (.leaf d)))
noncomputable abbrev c5(a b c d e:Nat):Context:=(.branch 3 (.branch 2 (.branch 1 (.leaf a) (.leaf b)) (.leaf c)) (.branch 4 (.leaf d) (.leaf e)))
noncomputable abbrev c6(a b c d e f:Nat):Context:=(.branch 3 (.branch 2 (.branch 1 (.leaf a) (.leaf b)) (.leaf c)) (.branch 5 (.branch 4 (.leaf d) (.leaf e)) (.leaf f)))
noncomputable abbrev c7(a b c d e f g:Nat):Context:=(.branch 4 (.branch 2 (.branch 1 (.leaf a) (.leaf b)) (.branch 3 (.leaf c) (.leaf d))) (.branch 6 (.branch 5 (.leaf e) (.leaf f)) (.leaf g)))
noncomputable abbrev c8(a b c d e f g h:Nat):Context:=(.branch 4 (.branch 2 (.branch 1 (.leaf a) (.leaf b)) (.branch 3 (.leaf c) (.leaf d))) (.branch 6 (.branch 5 (.leaf e) (.leaf f)) (.branch 7 (.leaf g) (.leaf h))))
end La
namespace Ok
open Nat.Internal.Linear
noncomputable def sumL:List (Nat×Expr×Expr)->Expr
 |[]=>.num 0
 |(m,x,_)::t=>.add (.mulL m x) (sumL t)
noncomputable def sumR:List (Nat×Expr×Expr)->Expr
 |[]=>.num 0
 |(m,_,y)::t=>.add (.mulL m y) (sumR t)
def Imp(ctx:Context)(P:Prop):List (Nat×Expr×Expr)->Prop
 |[]=>P
 |(_,x,y)::t=>x.denote ctx<=y.denote ctx->Imp ctx P t
theorem imp_of(ctx:Context)(P:Prop):∀(hs:List (Nat×Expr×Expr)),((sumL hs).denote ctx<=(sumR hs).denote ctx->P)->Imp ctx P hs
 |[],k=>k (Nat.le_refl _)
 |(m,_,_)::t,k=>λh=>imp_of ctx P t λh2=>k (Nat.add_le_add (Nat.mul_le_mul_left m h) h2)
theorem lin(ctx:Context)(hs:List (Nat×Expr×Expr))(a b:Expr)
  (h:(ExprCnstr.mk false (.add a (sumR hs)) (.add b (sumL hs))).toNormPoly.isValid=true) :
  Imp ctx (a.denote ctx<=b.denote ctx) hs:=
 imp_of ctx _ hs λh2=>Nat.le_of_add_le_add_right (Nat.le_trans (of_eq_true (ExprCnstr.eq_true_of_isValid ctx _ h)) (Nat.add_le_add_left h2 _))
open La
section
variable{a b c d e f g:Nat}{i j q r:Int}
theorem ar0:-1<0:=by lia
theorem ar6:2<=16777216:=Nat.le_of_ble_eq_true rfl
theorem ar11:0<=a:=lin (c1 a) [] (k 0) v0 rfl
theorem ar12:¬a<0:=Nat.not_lt_of_le (lin (c1 a) [] (k 0) v0 rfl)
theorem ar17:a≠a+1:=λh=>Nat.lt_irrefl 0 (lin (c1 a) [(1,p v0 (k 1),v0)] (k 1) (k 0) rfl (Nat.le_of_eq h.symm))
theorem ar18:a≠a+2:=λh=>Nat.lt_irrefl 0 (lin (c1 a) [(1,p v0 (k 2),v0)] (k 1) (k 0) rfl (Nat.le_of_eq h.symm))
theorem ar19:a≠a+3:=λh=>Nat.lt_irrefl 0 (lin (c1 a) [(1,p v0 (k 3),v0)] (k 1) (k 0) rfl (Nat.le_of_eq h.symm))
theorem ar20:a<=a+1:=lin (c1 a) [] v0 (p v0 (k 1)) rfl
theorem ar21:a<=a+2:=lin (c1 a) [] v0 (p v0 (k 2)) rfl
theorem ar22:a<=a+3:=lin (c1 a) [] v0 (p v0 (k 3)) rfl
theorem ar23:a % 16<16:=Nat.mod_lt _ (by decide)
theorem ar25:0<=(↑a:Int):=Int.natCast_nonneg _
theorem ar26:a+1≠a+2:=λh=>Nat.lt_irrefl 0 (lin (c1 a) [(1,p v0 (k 2),p v0 (k 1))] (k 1) (k 0) rfl (Nat.le_of_eq h.symm))
theorem ar27:a+1<=a+3:=lin (c1 a) [] (p v0 (k 1)) (p v0 (k 3)) rfl
theorem ar28:a+2 - a=2:=Nat.add_sub_cancel_left _ _
theorem ar29:a - 0<a+1:=by lia
theorem ar30(h0:a=1):a≠0:=λh=>Nat.lt_irrefl 0 (lin (c1 a) [(1,k 1,v0),(1,v0,k 0)] (k 1) (k 0) rfl (Nat.le_of_eq h0.symm) (Nat.le_of_eq h))
theorem ar31(h0:a=6):0<a:=lin (c1 a) [(1,k 6,v0)] (p (k 0) (k 1)) v0 rfl (Nat.le_of_eq h0.symm)
theorem ar32(h0:a=6):1<a:=lin (c1 a) [(1,k 6,v0)] (p (k 1) (k 1)) v0 rfl (Nat.le_of_eq h0.symm)
theorem ar35:a - b<=a:=Nat.sub_le _ _
theorem ar36:a<=a+b:=lin (c2 a b) [] v0 (p v0 v1) rfl
theorem ar37:¬a - b<0:=by lia
theorem ar38(h:i<0):i<0:=h
theorem ar39:a+1<=a+21:=lin (c1 a) [] (p v0 (k 1)) (p v0 (k 21)) rfl
theorem ar41:¬(↑a:Int)<0:=Int.not_lt.mpr (Int.natCast_nonneg _)
theorem ar42(h0:0<=i):¬i<0:=by lia
theorem ar43(h0:48<=a):33<=a:=lin (c1 a) [(1,k 48,v0)] (k 33) v0 rfl h0
theorem ar44(h0:48<=a):a≠43:=λh=>Nat.lt_irrefl 0 (lin (c1 a) [(1,k 48,v0),(1,v0,k 43)] (k 1) (k 0) rfl h0 (Nat.le_of_eq h))
theorem ar45(h0:48<=a):a≠45:=λh=>Nat.lt_irrefl 0 (lin (c1 a) [(1,k 48,v0),(1,v0,k 45)] (k 1) (k 0) rfl h0 (Nat.le_of_eq h))
theorem ar46(h0:48<=a):¬a=0:=λh=>Nat.lt_irrefl 0 (lin (c1 a) [(1,k 48,v0),(1,v0,k 0)] (k 1) (k 0) rfl h0 (Nat.le_of_eq h))
theorem ar47(h0:97<=a):48<=a:=lin (c1 a) [(1,k 97,v0)] (k 48) v0 rfl h0
theorem ar48(h0:97<=a):a≠95:=λh=>Nat.lt_irrefl 0 (lin (c1 a) [(1,k 97,v0),(1,v0,k 95)] (k 1) (k 0) rfl h0 (Nat.le_of_eq h))
theorem ar49:a*16=16*a:=Nat.le_antisymm (lin (c1 a) [] (.mulR v0 16) (m 16 v0) rfl) (lin (c1 a) [] (m 16 v0) (.mulR v0 16) rfl)
theorem ar50(h0:a<28):a<30:=lin (c1 a) [(1,p v0 (k 1),k 28)] (p v0 (k 1)) (k 30) rfl h0
theorem ar51:a<=2*a+200:=lin (c1 a) [] v0 (p (m 2 v0) (k 200)) rfl
theorem ar52(h0:a<=57):a≠95:=λh=>Nat.lt_irrefl 0 (lin (c1 a) [(1,v0,k 57),(1,k 95,v0)] (k 1) (k 0) rfl h0 (Nat.le_of_eq h.symm))
theorem ar53(h:¬i<0):¬i<0:=h
theorem ar55(h0:97<=a):¬a<=57:=Nat.not_le_of_lt (lin (c1 a) [(1,k 97,v0)] (p (k 57) (k 1)) v0 rfl h0)
theorem ar56(h0:a<=10):a<=640:=lin (c1 a) [(1,v0,k 10)] v0 (k 640) rfl h0
theorem ar57(h0:a<=57):a<=102:=lin (c1 a) [(1,v0,k 57)] v0 (k 102) rfl h0
theorem ar58:8*a<=8*a+8:=lin (c1 a) [] (m 8 v0) (p (m 8 v0) (k 8)) rfl
theorem ar59(h0:a<64):a<1920:=lin (c1 a) [(1,p v0 (k 1),k 64)] (p v0 (k 1)) (k 1920) rfl h0
theorem ar61(h0:a<=10):a<=4300:=lin (c1 a) [(1,v0,k 10)] v0 (k 4300) rfl h0
theorem ar62(h:a<=100):a<=100:=h
theorem ar63:a<=a+8*b:=lin (c2 a b) [] v0 (p v0 (m 8 v1)) rfl
theorem ar64:a<=a+b+1:=lin (c2 a b) [] v0 (p (p v0 v1) (k 1)) rfl
theorem ar65:a<=b+1+a:=lin (c2 a b) [] v0 (p (p v1 (k 1)) v0) rfl
theorem ar66(h:0<a):a - 1<a:=Nat.sub_lt h (by decide)
theorem ar67:a - b<=a - b:=by lia
theorem ar68(h:a<b):a<b:=h
theorem ar70(h0:a=b):b<=a:=lin (c2 a b) [(1,v1,v0)] v1 v0 rfl (Nat.le_of_eq h0.symm)
theorem ar71(h:a<=b):a<=b:=h
theorem ar73:0<(↑(a+1):Int):=Int.ofNat_lt.mpr (Nat.succ_pos _)
theorem ar74(h0:a<64):a+1<=64:=lin (c1 a) [(1,p v0 (k 1),k 64)] (p v0 (k 1)) (k 64) rfl h0
theorem ar75:a - (b+1)<=a:=Nat.sub_le _ _
theorem ar76(h0:a<b):¬a=b:=λh=>Nat.lt_irrefl 0 (lin (c2 a b) [(1,p v0 (k 1),v1),(1,v1,v0)] (k 1) (k 0) rfl h0 (Nat.le_of_eq h.symm))
theorem ar77(h0:¬a<=b):b<=a:=lin (c2 a b) [(1,p v1 (k 1),v0)] v1 v0 rfl (Nat.lt_of_not_le h0)
theorem ar78:16*a=2*(8*a):=Nat.le_antisymm (lin (c1 a) [] (m 16 v0) (m 2 (m 8 v0)) rfl) (lin (c1 a) [] (m 2 (m 8 v0)) (m 16 v0) rfl)
theorem ar80(h:a<=102):a - 97<6:=Nat.lt_of_le_of_lt (Nat.sub_le_sub_right h _) (by decide)
theorem ar81(h:a<=57):a - 48<10:=Nat.lt_of_le_of_lt (Nat.sub_le_sub_right h 48) (by decide)
theorem ar82(h:a<=57):a - 48<16:=Nat.lt_of_le_of_lt (Nat.sub_le_sub_right h 48) (by decide)
theorem ar83:8*a+8 - 8*a=8:=Nat.add_sub_cancel_left _ _
theorem ar84(h:a<256):a / 16<16:=Nat.div_lt_of_lt_mul (n:=16) (k:=16) h
theorem ar85(h:a<=102):a - 87<16:=Nat.lt_of_le_of_lt (Nat.sub_le_sub_right h _) (by decide)
theorem ar88:a+1<=a+1+b:=lin (c2 a b) [] (p v0 (k 1)) (p (p v0 (k 1)) v1) rfl
theorem ar89:(↑a:Int)=0↔a=0:=Int.natCast_eq_zero
theorem ar90(h0:0<a):(↑a:Int)≠0:=by lia
theorem ar91(h:1<a):1<(↑a:Int):=Int.ofNat_lt.mpr h
theorem ar92(h0:1=2*(a+1)):False:=Nat.lt_irrefl 0 (lin (c1 a) [(1,m 2 (p v0 (k 1)),k 1)] (k 1) (k 0) rfl (Nat.le_of_eq h0.symm))
theorem ar93(h0:a<=100):a<=16777216:=lin (c1 a) [(1,v0,k 100)] v0 (k 16777216) rfl h0
theorem ar95(h0:1+a<b):a<b:=lin (c2 a b) [(1,p (p (k 1) v0) (k 1),v1)] (p v0 (k 1)) v1 rfl h0
theorem ar96(h0:2*a<=b):a<=b:=lin (c2 a b) [(1,m 2 v0,v1)] v0 v1 rfl h0
theorem ar97(h0:a+1<b):a<b:=lin (c2 a b) [(1,p (p v0 (k 1)) (k 1),v1)] (p v0 (k 1)) v1 rfl h0
theorem ar98(h0:a+1=b):a<=b:=lin (c2 a b) [(1,p v0 (k 1),v1)] v0 v1 rfl (Nat.le_of_eq h0)
theorem ar99(h0:a+8<b):a<b:=lin (c2 a b) [(1,p (p v0 (k 8)) (k 1),v1)] (p v0 (k 1)) v1 rfl h0
theorem ar100(h0:a<b):a+1<=b:=lin (c2 a b) [(1,p v0 (k 1),v1)] (p v0 (k 1)) v1 rfl h0
theorem ar101(h0:a<b):a≠b+2:=λh=>Nat.lt_irrefl 0 (lin (c2 a b) [(1,p v0 (k 1),v1),(1,p v1 (k 2),v0)] (k 1) (k 0) rfl h0 (Nat.le_of_eq h.symm))
theorem ar102(h:a<b):a<=b - 1:=Nat.le_pred_of_lt h
theorem ar103(h0:a<=b):a<=b+1:=lin (c2 a b) [(1,v0,v1)] v0 (p v1 (k 1)) rfl h0
theorem ar104(h0:i<=1000):i<=1000000:=by lia
theorem ar105:2+2*a=2*(a+1):=Nat.le_antisymm (lin (c1 a) [] (p (k 2) (m 2 v0)) (m 2 (p v0 (k 1))) rfl) (lin (c1 a) [] (m 2 (p v0 (k 1))) (p (k 2) (m 2 v0)) rfl)
theorem ar106:8*(a+1)=8+8*a:=Nat.le_antisymm (lin (c1 a) [] (m 8 (p v0 (k 1))) (p (k 8) (m 8 v0)) rfl) (lin (c1 a) [] (p (k 8) (m 8 v0)) (m 8 (p v0 (k 1))) rfl)
theorem ar107:8+8*a=8*(a+1):=Nat.le_antisymm (lin (c1 a) [] (p (k 8) (m 8 v0)) (m 8 (p v0 (k 1))) rfl) (lin (c1 a) [] (m 8 (p v0 (k 1))) (p (k 8) (m 8 v0)) rfl)
theorem ar108(h:¬a=0):0<(↑a:Int):=Int.ofNat_lt.mpr (Nat.pos_of_ne_zero h)
theorem ar109(h0:a<=20):a<=b+21:=lin (c2 a b) [(1,v0,k 20)] v0 (p v1 (k 21)) rfl h0
theorem ar110:(↑a:Int)=16↔a=16:=Int.ofNat_inj (m:=a) (n:=16)
theorem ar112(h:¬1<a):¬1<(↑a:Int):=λk=>h (Int.ofNat_lt.mp k)
theorem ar113(h0:97<=a)(h1:48<=a):57<a:=lin (c1 a) [(1,k 97,v0)] (p (k 57) (k 1)) v0 rfl h0
theorem ar115(h:a<b):min a b=a:=Nat.min_eq_left (Nat.le_of_lt h)
theorem ar116(h0:a<=201):a<=16777216+1:=lin (c1 a) [(1,v0,k 201)] v0 (p (k 16777216) (k 1)) rfl h0
theorem ar117(h0:8*a+8<=b):a<=b:=lin (c2 a b) [(1,p (m 8 v0) (k 8),v1)] v0 v1 rfl h0
theorem ar118:a+1+b<=b+a+1:=lin (c2 a b) [] (p (p v0 (k 1)) v1) (p (p v1 v0) (k 1)) rfl
theorem ar119(h0:a+1<b):a+2<=b:=lin (c2 a b) [(1,p (p v0 (k 1)) (k 1),v1)] (p v0 (k 2)) v1 rfl h0
theorem ar120(h0:a+1<=b+1):a<=b:=lin (c2 a b) [(1,p v0 (k 1),p v1 (k 1))] v0 v1 rfl h0
theorem ar121(h:a - b=0):a - b=0:=h
theorem ar124(h0:a<=b):8*a<=8*b:=lin (c2 a b) [(8,v0,v1)] (m 8 v0) (m 8 v1) rfl h0
theorem ar125(h0:a<=b):a+1<=b+1:=lin (c2 a b) [(1,v0,v1)] (p v0 (k 1)) (p v1 (k 1)) rfl h0
theorem ar126(h0:a+b=c):a<=c:=lin (c3 a b c) [(1,p v0 v1,v2)] v0 v2 rfl (Nat.le_of_eq h0)
theorem ar127(h0:a+b=c):b<=c:=lin (c3 a b c) [(1,p v0 v1,v2)] v1 v2 rfl (Nat.le_of_eq h0)
theorem ar128(h0:a+b<=c):b<=c:=lin (c3 a b c) [(1,p v0 v1,v2)] v1 v2 rfl h0
theorem ar129(h0:i<0)(h1:j<i):j<0:=Int.lt_trans h1 h0
theorem ar130:2*(a+1)=2*a+1+1:=Nat.le_antisymm (lin (c1 a) [] (m 2 (p v0 (k 1))) (p (p (m 2 v0) (k 1)) (k 1)) rfl) (lin (c1 a) [] (p (p (m 2 v0) (k 1)) (k 1)) (m 2 (p v0 (k 1))) rfl)
theorem ar131(h:48<=a):48+(a - 48)=a:=Nat.add_sub_cancel' h
theorem ar132(h:97<=a):97+(a - 97)=a:=Nat.add_sub_cancel' h
theorem ar133:a % 4294967296<10000000000:=Nat.lt_trans (Nat.mod_lt _ (by decide)) (by decide)
theorem ar135(h0:16*a<=b):8*a<=b:=lin (c2 a b) [(1,m 16 v0,v1)] (m 8 v0) v1 rfl h0
theorem ar136(h:¬a+2<=b):b - a<=2:=Nat.sub_le_of_le_add (Nat.le_trans (Nat.le_of_lt (Nat.lt_of_not_le h)) (Nat.le_of_eq (Nat.add_comm a 2)))
theorem ar137(h0:¬a+2<=b):b<=a+2:=lin (c2 a b) [(1,p v1 (k 1),p v0 (k 2))] v1 (p v0 (k 2)) rfl (Nat.lt_of_not_le h0)
theorem ar138(h:i<0)(k:¬i<j):j<0:=Int.lt_of_le_of_lt (Int.not_lt.mp k) h
theorem ar140:3<0+1+1+1+1+1+a:=lin (c1 a) [] (p (k 3) (k 1)) (p (p (p (p (p (p (k 0) (k 1)) (k 1)) (k 1)) (k 1)) (k 1)) v0) rfl
theorem ar141(h0:97<=a):¬(48<=a/\a<=57):=by lia
theorem ar142(h0:a<=100000):a<10000000000:=lin (c1 a) [(1,v0,k 100000)] (p v0 (k 1)) (k 10000000000) rfl h0
theorem ar144:a+1+b=a+(b+1):=Nat.le_antisymm (lin (c2 a b) [] (p (p v0 (k 1)) v1) (p v0 (p v1 (k 1))) rfl) (lin (c2 a b) [] (p v0 (p v1 (k 1))) (p (p v0 (k 1)) v1) rfl)
theorem ar145(h0:a<16)(h1:b=16):a<b:=lin (c2 a b) [(1,p v0 (k 1),k 16),(1,k 16,v1)] (p v0 (k 1)) v1 rfl h0 (Nat.le_of_eq h1.symm)
theorem ar146(h0:a<=10)(h1:b=a):b<=15:=lin (c2 a b) [(1,v0,k 10),(1,v1,v0)] v1 (k 15) rfl h0 (Nat.le_of_eq h1)
theorem ar147(h0:a<=b)(h1:b<=a):a=b:=Nat.le_antisymm (lin (c2 a b) [(1,v0,v1)] v0 v1 rfl h0) (lin (c2 a b) [(1,v0,v1),(2,v1,v0)] v1 v0 rfl h0 h1)
theorem ar148(h:i<j):i<=j/\i<=i:=⟨Int.le_of_lt h,Int.le_refl _⟩
theorem ar149:a+1+1+1+1+3<=a+8:=lin (c1 a) [] (p (p (p (p (p v0 (k 1)) (k 1)) (k 1)) (k 1)) (k 3)) (p v0 (k 8)) rfl
theorem ar150(h0:a≠48)(h1:48<=a):0<a - 48:=Nat.sub_pos_of_lt (Nat.lt_of_le_of_ne h1 (Ne.symm h0))
theorem ar152(h0:¬a=0):0<(↑(2*a):Int):=Int.ofNat_lt.mpr (Nat.mul_pos (by decide) (Nat.pos_of_ne_zero h0))
theorem ar153(h:¬i<j):j<=j/\j<=i:=⟨Int.le_refl _,Int.not_lt.mp h⟩
theorem ar154(h0:a+10<1000000):a<1000000:=lin (c1 a) [(1,p (p v0 (k 10)) (k 1),k 1000000)] (p v0 (k 1)) (k 1000000) rfl h0
theorem ar155(h:1000000<=a):min 24 b<=a:=Nat.le_trans (Nat.min_le_left 24 b) (Nat.le_trans (by decide) h)
theorem ar156(h0:a+8<b):a+1+5<b:=lin (c2 a b) [(1,p (p v0 (k 8)) (k 1),v1)] (p (p (p v0 (k 1)) (k 5)) (k 1)) v1 rfl h0
theorem ar157(h0:a<b):8*a+8<=8*b:=lin (c2 a b) [(8,p v0 (k 1),v1)] (p (m 8 v0) (k 8)) (m 8 v1) rfl h0
theorem ar158(h0:a=b+1)(h1:a<=b):False:=Nat.lt_irrefl 0 (lin (c2 a b) [(1,p v1 (k 1),v0),(1,v0,v1)] (k 1) (k 0) rfl (Nat.le_of_eq h0.symm) h1)
theorem ar159(h0:a<=b):2+a<=b+1+1:=lin (c2 a b) [(1,v0,v1)] (p (k 2) v0) (p (p v1 (k 1)) (k 1)) rfl h0
theorem ar161(h:a<b):a - c<b+2:=Nat.lt_of_le_of_lt (Nat.sub_le a c) (Nat.lt_of_lt_of_le h (Nat.le_add_right b 2))
theorem ar163(h0:(↑a:Int)≠0):0<(↑a:Int):=by lia
theorem ar164:0+(↑a:Int)*1=(↑a:Int):=by lia
theorem ar166(h0:a<=1048576):a<=1099511627776:=lin (c1 a) [(1,v0,k 1048576)] v0 (k 1099511627776) rfl h0
theorem ar167(h:0<a)(k:b<=a - 1):b<a:=Nat.lt_of_le_of_lt k (Nat.sub_lt h Nat.one_pos)
theorem ar169(h0:a<8)(h1:b=16):2*a<b:=lin (c2 a b) [(2,p v0 (k 1),k 8),(1,k 16,v1)] (p (m 2 v0) (k 1)) v1 rfl h0 (Nat.le_of_eq h1.symm)
theorem ar170(h0:a=16)(h1:b<8):2*b<a:=lin (c2 a b) [(1,k 16,v0),(2,p v1 (k 1),k 8)] (p (m 2 v1) (k 1)) v0 rfl (Nat.le_of_eq h0.symm) h1
theorem ar172(h0:a=b)(h1:c<a):c<b:=lin (c3 a b c) [(1,v0,v1),(1,p v2 (k 1),v0)] (p v2 (k 1)) v1 rfl (Nat.le_of_eq h0) h1
theorem ar173(h0:a=b)(h1:c=a):c=b:=Nat.le_antisymm (lin (c3 a b c) [(1,v0,v1),(1,v2,v0)] v2 v1 rfl (Nat.le_of_eq h0) (Nat.le_of_eq h1)) (lin (c3 a b c) [(1,v1,v0),(1,v0,v2)] v1 v2 rfl (Nat.le_of_eq h0.symm) (Nat.le_of_eq h1.symm))
theorem ar174(h0:a<=b)(h1:b<=c):a<=c:=lin (c3 a b c) [(1,v0,v1),(1,v1,v2)] v0 v2 rfl h0 h1
theorem ar175(h0:a<=b)(h1:c<a):b≠c:=λh=>Nat.lt_irrefl 0 (lin (c3 a b c) [(1,v0,v1),(1,p v2 (k 1),v0),(1,v1,v2)] (k 1) (k 0) rfl h0 h1 (Nat.le_of_eq h))
theorem ar176(h0:a<=b)(h1:c<=a):c<=b:=lin (c3 a b c) [(1,v0,v1),(1,v2,v0)] v2 v1 rfl h0 h1
theorem ar177:i<=j->j<=q->i<=q:=Int.le_trans
theorem ar178(h:97<=a):10+(a - 97)=a - 87:=by obtain ⟨k,rfl⟩:=Nat.exists_eq_add_of_le h;rw[Nat.add_sub_cancel_left,show 97+k=87+(10+k) from (Nat.add_assoc 87 10 k),Nat.add_sub_cancel_left]
theorem ar179(h:97<=a):a - 87=10+(a - 97):=by obtain ⟨k,rfl⟩:=Nat.exists_eq_add_of_le h;rw[Nat.add_sub_cancel_left,show 97+k=87+(10+k) from (Nat.add_assoc 87 10 k),Nat.add_sub_cancel_left]
theorem ar181:0+(a+1)+b=a+1+b:=Nat.le_antisymm (lin (c2 a b) [] (p (p (k 0) (p v0 (k 1))) v1) (p (p v0 (k 1)) v1) rfl) (lin (c2 a b) [] (p (p v0 (k 1)) v1) (p (p (k 0) (p v0 (k 1))) v1) rfl)
theorem ar189(h0:a<=b):0+(a+1)<=b+1:=lin (c2 a b) [(1,v0,v1)] (p (k 0) (p v0 (k 1))) (p v1 (k 1)) rfl h0
theorem ar190(h0:a+(b+1)<c):a<c:=lin (c3 a b c) [(1,p (p v0 (p v1 (k 1))) (k 1),v2)] (p v0 (k 1)) v2 rfl h0
theorem ar191:(↑(8*a):Int) / 8=(↑a:Int):=(congrArg Int.ofNat (Nat.mul_div_cancel_left a (by decide:0<8)):Int.ofNat (8*a / 8)=Int.ofNat a)
theorem ar192:(↑(a+1):Int) - 1=(↑a:Int):=by lia
theorem ar193(h:0<a):0<10*a+(b - 48):=Nat.lt_of_lt_of_le (Nat.mul_pos (by decide) h) (Nat.le_add_right _ _)
theorem ar194(h0:16*a<=b):2*(8*a)<=b:=lin (c2 a b) [(1,m 16 v0,v1)] (m 2 (m 8 v0)) v1 rfl h0
theorem ar195(h0:a<=63)(h1:1000000<=b):a<=b:=lin (c2 a b) [(1,v0,k 63),(1,k 1000000,v1)] v0 v1 rfl h0 h1
theorem ar197:(↑(a+1):Int)<=10↔a+1<=10:=Int.ofNat_le (m:=a+1) (n:=10)
theorem ar198:(↑(a+1):Int)<=15↔a+1<=15:=Int.ofNat_le (m:=a+1) (n:=15)
theorem ar199(h0:a+10<1000000):a+1<1000000:=lin (c1 a) [(1,p (p v0 (k 10)) (k 1),k 1000000)] (p (p v0 (k 1)) (k 1)) (k 1000000) rfl h0
theorem ar200(h:¬(↑63:Int)<(↑a:Int)):a<=63:=Nat.le_of_not_lt λk=>h (Int.ofNat_lt.mpr k)
theorem ar203(h0:a<=200)(h1:b<=a+1):b<=201:=lin (c2 a b) [(1,v0,k 200),(1,v1,p v0 (k 1))] v1 (k 201) rfl h0 h1
theorem ar205(h0:a<=b):a+1<=c+1+b:=lin (c3 a b c) [(1,v0,v1)] (p v0 (k 1)) (p (p v2 (k 1)) v1) rfl h0
theorem ar206:10<(↑(a+1):Int)↔¬a+1<=10:=(Int.ofNat_lt (n:=10) (m:=a+1)).trans Nat.not_le.symm
theorem ar207:15<(↑(a+1):Int)↔¬a+1<=15:=(Int.ofNat_lt (n:=15)).trans Nat.not_le.symm
theorem ar208(h:a<16):(16*b+a) % 16=a:=by rw[Nat.mul_add_mod,Nat.mod_eq_of_lt h]
theorem ar209(h:a<16):(16*b+a) / 16=b:=by rw[Nat.mul_add_div (by decide),Nat.div_eq_of_lt h];rfl
theorem ar211(h0:a<8)(h1:b=16):2*a+1<b:=lin (c2 a b) [(2,p v0 (k 1),k 8),(1,k 16,v1)] (p (p (m 2 v0) (k 1)) (k 1)) v1 rfl h0 (Nat.le_of_eq h1.symm)
theorem ar212(h0:a=16)(h1:b<8):2*b+1<a:=lin (c2 a b) [(1,k 16,v0),(2,p v1 (k 1),k 8)] (p (p (m 2 v1) (k 1)) (k 1)) v0 rfl (Nat.le_of_eq h0.symm) h1
theorem ar213(h0:a<=b)(h1:c+1<=a):c<b:=lin (c3 a b c) [(1,v0,v1),(1,p v2 (k 1),v0)] (p v2 (k 1)) v1 rfl h0 h1
theorem ar214:(↑a:Int)<(↑b:Int)->a<b:=Int.ofNat_lt.mp
theorem ar215(h0:(↑a:Int)<(↑b:Int)):a<=b:=Nat.le_of_lt (Int.ofNat_lt.mp h0)
theorem ar216:(↑a:Int)=(↑b:Int)↔a=b:=Int.ofNat_inj
theorem ar217:(↑a:Int)<=(↑b:Int)↔a<=b:=Int.ofNat_le
theorem ar220:a+1+b+1=a+1+(b+1):=Nat.le_antisymm (lin (c2 a b) [] (p (p (p v0 (k 1)) v1) (k 1)) (p (p v0 (k 1)) (p v1 (k 1))) rfl) (lin (c2 a b) [] (p (p v0 (k 1)) (p v1 (k 1))) (p (p (p v0 (k 1)) v1) (k 1)) rfl)
theorem ar223:a<1+a+b/\b<1+a+b:=⟨lin (c2 a b) [] (p v0 (k 1)) (p (p (k 1) v0) v1) rfl,lin (c2 a b) [] (p v1 (k 1)) (p (p (k 1) v0) v1) rfl⟩
theorem ar226(h0:a<b):(↑a:Int)<(↑b:Int):=by omega
theorem ar227(h0:a<=30000)(h1:1000000<=b):a<b:=lin (c2 a b) [(1,v0,k 30000),(1,k 1000000,v1)] (p v0 (k 1)) v1 rfl h0 h1
theorem ar228(h0:a<=30000)(h1:1000000<=b):a<=b:=lin (c2 a b) [(1,v0,k 30000),(1,k 1000000,v1)] v0 v1 rfl h0 h1
theorem ar229(h0:a<=b):(↑a:Int)<=(↑b:Int):=Int.ofNat_le.mpr h0
theorem ar230(h0:a+3*(b+1)<c):a<c:=lin (c3 a b c) [(1,p (p v0 (m 3 (p v1 (k 1)))) (k 1),v2)] (p v0 (k 1)) v2 rfl h0
theorem ar232:0+(↑a:Int)*2=(↑(2*a):Int):=by lia
theorem ar233(h0:97<=a)(h1:a<=102):97<=a/\a<=122:=⟨lin (c1 a) [(1,k 97,v0)] (k 97) v0 rfl h0,lin (c1 a) [(1,k 97,v0),(2,v0,k 102)] v0 (k 122) rfl h0 h1⟩
theorem ar234(h0:1000000<=a)(h1:b<100000):b<a:=lin (c2 a b) [(1,k 1000000,v0),(1,p v1 (k 1),k 100000)] (p v1 (k 1)) v0 rfl h0 h1
theorem ar236(h0:a<=100000)(h1:1000000<=b):a<=b:=lin (c2 a b) [(1,v0,k 100000),(1,k 1000000,v1)] v0 v1 rfl h0 h1
theorem ar237(h:a<=b):¬(↑b:Int)<(↑a:Int):=λk=>Nat.not_lt.mpr h (Int.ofNat_lt.mp k)
theorem ar238(h:¬a=b):(↑a:Int)≠(↑b:Int):=λk=>h (Int.ofNat_inj.mp k)
theorem ar239(h:i<0):-i=(↑(Int.natAbs i):Int):=(Int.ofNat_natAbs_of_nonpos (Int.le_of_lt h)).symm
theorem ar240(h:¬i<0):i=(↑(Int.natAbs i):Int):=(Int.natAbs_of_nonneg (Int.not_lt.mp h)).symm
theorem ar241(h0:a+10<1000000):a+1+1<1000000:=lin (c1 a) [(1,p (p v0 (k 10)) (k 1),k 1000000)] (p (p (p v0 (k 1)) (k 1)) (k 1)) (k 1000000) rfl h0
theorem ar242(h:a<b):Int.natAbs (↑a:Int)<b:=h
theorem ar243(h:a<b):b - (a+1)+1=b - a:=Nat.succ_pred_eq_of_pos (Nat.sub_pos_of_lt h)
theorem ar244(h:a<=b):Int.natAbs (↑a:Int)<=b:=h
theorem ar246(h0:a+1<=b):a+1<=c+1+b:=lin (c3 a b c) [(1,p v0 (k 1),v1)] (p v0 (k 1)) (p (p v2 (k 1)) v1) rfl h0
theorem ar247:(↑(a+2):Int) - 1=(↑(a+1):Int):=by lia
theorem ar248:(↑(a+(b+1)):Int)≠(↑a:Int):=λk=>absurd (Int.ofNat_inj.mp k) (Nat.ne_of_gt (Nat.lt_add_of_pos_right (Nat.succ_pos _)))
theorem ar249(h0:a+b<=1048576):a+b<=16777216:=lin (c2 a b) [(1,p v0 v1,k 1048576)] (p v0 v1) (k 16777216) rfl h0
theorem ar250(h0:a<16)(h1:b<16):16*a+b<256:=lin (c2 a b) [(16,p v0 (k 1),k 16),(1,p v1 (k 1),k 16)] (p (p (m 16 v0) v1) (k 1)) (k 256) rfl h0 h1
theorem ar251(h0:a=16*b):16+a=16*(b+1):=Nat.le_antisymm (lin (c2 a b) [(1,v0,m 16 v1)] (p (k 16) v0) (m 16 (p v1 (k 1))) rfl (Nat.le_of_eq h0)) (lin (c2 a b) [(1,m 16 v1,v0)] (m 16 (p v1 (k 1))) (p (k 16) v0) rfl (Nat.le_of_eq h0.symm))
theorem ar252:a+1+b+c=c+1+b+a:=Nat.le_antisymm (lin (c3 a b c) [] (p (p (p v0 (k 1)) v1) v2) (p (p (p v2 (k 1)) v1) v0) rfl) (lin (c3 a b c) [] (p (p (p v2 (k 1)) v1) v0) (p (p (p v0 (k 1)) v1) v2) rfl)
theorem ar253(h0:a+10*b+8<c):a+8<c:=lin (c3 a b c) [(1,p (p (p v0 (m 10 v1)) (k 8)) (k 1),v2)] (p (p v0 (k 8)) (k 1)) v2 rfl h0
theorem ar254(h0:a<=b):c+1+a<=c+1+b:=lin (c3 a b c) [(1,v0,v1)] (p (p v2 (k 1)) v0) (p (p v2 (k 1)) v1) rfl h0
theorem ar255(h:i<0)(k:¬j<0)(l:j<i):q<0:=absurd (Int.lt_trans l h) k
theorem ar256(h:a % 4294967296=b):b<10000000000:=h▸Nat.lt_trans (Nat.mod_lt _ (by decide)) (by decide)
theorem ar257(h0:a+(b+1)<=100):a+1+b<=100:=lin (c2 a b) [(1,p v0 (p v1 (k 1)),k 100)] (p (p v0 (k 1)) v1) (k 100) rfl h0
theorem ar258(h0:a+1+1=2*(b+1)):a=2*b:=Nat.le_antisymm (lin (c2 a b) [(1,p (p v0 (k 1)) (k 1),m 2 (p v1 (k 1)))] v0 (m 2 v1) rfl (Nat.le_of_eq h0)) (lin (c2 a b) [(1,m 2 (p v1 (k 1)),p (p v0 (k 1)) (k 1))] (m 2 v1) v0 rfl (Nat.le_of_eq h0.symm))
theorem ar260(h0:a<=b+40)(h1:b<=20000):a<=100000:=lin (c2 a b) [(1,v0,p v1 (k 40)),(1,v1,k 20000)] v0 (k 100000) rfl h0 h1
theorem ar261(h0:a+3*(b+1)<c):a+1<c:=lin (c3 a b c) [(1,p (p v0 (m 3 (p v1 (k 1)))) (k 1),v2)] (p (p v0 (k 1)) (k 1)) v2 rfl h0
theorem ar262(h0:a<=b)(h1:c<=1):a+c<=b+21:=lin (c3 a b c) [(1,v0,v1),(1,v2,k 1)] (p v0 v2) (p v1 (k 21)) rfl h0 h1
theorem ar263(h0:a+(b+1)+c=d):b<d:=lin (c4 a b c d) [(1,p (p v0 (p v1 (k 1))) v2,v3)] (p v1 (k 1)) v3 rfl (Nat.le_of_eq h0)
theorem ar264(h:¬i<0)(k:j<0)(l:¬j<i):q<0:=absurd (Int.lt_of_lt_of_le k (Int.not_lt.mp h)) l
theorem ar265:((↑a:Int) - 0 - 1) / 1+1=(↑a:Int):=by rw[Int.sub_zero,Int.ediv_one,Int.sub_add_cancel]
theorem ar266(h0:a+(b+1)<c):a+1+b<c:=lin (c3 a b c) [(1,p (p v0 (p v1 (k 1))) (k 1),v2)] (p (p (p v0 (k 1)) v1) (k 1)) v2 rfl h0
theorem ar267(h0:a+16<=b)(h1:c=16):a+c<=b:=lin (c3 a b c) [(1,p v0 (k 16),v1),(1,v2,k 16)] (p v0 v2) v1 rfl h0 (Nat.le_of_eq h1)
theorem ar268(h0:a<=b+1+c):a<=b+(c+1):=lin (c3 a b c) [(1,v0,p (p v1 (k 1)) v2)] v0 (p v1 (p v2 (k 1))) rfl h0
theorem ar269(h:a+b<=c):a+min d b<=c:=Nat.le_trans (Nat.add_le_add_left (Nat.min_le_right d b) a) h
theorem ar270(h0:a+10<1000000):a+1+1+1<1000000:=lin (c1 a) [(1,p (p v0 (k 10)) (k 1),k 1000000)] (p (p (p (p v0 (k 1)) (k 1)) (k 1)) (k 1)) (k 1000000) rfl h0
theorem ar271:a*10+(b - 48)=10*a+(b - 48):=by lia
theorem ar273(h0:a<=102)(h1:b<=102):a<128/\b<128:=⟨lin (c2 a b) [(1,v0,k 102)] (p v0 (k 1)) (k 128) rfl h0,lin (c2 a b) [(1,v1,k 102)] (p v1 (k 1)) (k 128) rfl h1⟩
theorem ar274(h0:a<=b):(↑a:Int)<(↑(b+1):Int):=by omega
theorem ar275:(↑(2*a):Int)+2=(↑(2*a+2):Int):=by lia
theorem ar277(h:a<b):¬(↑b:Int)<(↑(a+1):Int):=λk=>Nat.not_lt.mpr h (Int.ofNat_lt.mp k)
theorem ar278:a+b+(c+1)=a+1+(b+c):=Nat.le_antisymm (lin (c3 a b c) [] (p (p v0 v1) (p v2 (k 1))) (p (p v0 (k 1)) (p v1 v2)) rfl) (lin (c3 a b c) [] (p (p v0 (k 1)) (p v1 v2)) (p (p v0 v1) (p v2 (k 1))) rfl)
theorem ar279(h:a<=b)(k:c<=a+(b - a)):c<=b:=Nat.le_trans k (Nat.le_of_eq (Nat.add_sub_of_le h))
theorem ar280(h0:a<b)(h1:c+d=a+1):c<=b:=lin (c4 a b c d) [(1,p v0 (k 1),v1),(1,p v2 v3,p v0 (k 1))] v2 v1 rfl h0 (Nat.le_of_eq h1)
theorem ar281(h:a<256):0<=(↑a:Int)/\(↑a:Int)<256:=⟨Int.natCast_nonneg _,Int.ofNat_lt.mpr h⟩
theorem ar282(h0:a+(b+1)<=100)(h1:c=a):c<=200:=lin (c3 a b c) [(1,p v0 (p v1 (k 1)),k 100),(1,v2,v0)] v2 (k 200) rfl h0 (Nat.le_of_eq h1)
theorem ar283(h0:a+3*(b+1)<c):a+1+1<c:=lin (c3 a b c) [(1,p (p v0 (m 3 (p v1 (k 1)))) (k 1),v2)] (p (p (p v0 (k 1)) (k 1)) (k 1)) v2 rfl h0
theorem ar284(h0:a<b)(h1:c<=a)(h2:b<d):c<=d:=lin (c4 a b c d) [(1,p v0 (k 1),v1),(1,v2,v0),(1,p v1 (k 1),v3)] v2 v3 rfl h0 h1 h2
theorem ar285(h0:a=b)(h1:c=b)(h2:d<a):d<c:=lin (c4 a b c d) [(1,v0,v1),(1,v1,v2),(1,p v3 (k 1),v0)] (p v3 (k 1)) v2 rfl (Nat.le_of_eq h0) (Nat.le_of_eq h1.symm) h2
theorem ar286(h0:a=b)(h1:c=d)(h2:b=d):a=c:=Nat.le_antisymm (lin (c4 a b c d) [(1,v0,v1),(1,v3,v2),(1,v1,v3)] v0 v2 rfl (Nat.le_of_eq h0) (Nat.le_of_eq h1.symm) (Nat.le_of_eq h2)) (lin (c4 a b c d) [(1,v1,v0),(1,v2,v3),(1,v3,v1)] v2 v0 rfl (Nat.le_of_eq h0.symm) (Nat.le_of_eq h1) (Nat.le_of_eq h2.symm))
theorem ar287(h0:a<=100000)(h1:1000000<=b):8*a+8<=b:=lin (c2 a b) [(8,v0,k 100000),(1,k 1000000,v1)] (p (m 8 v0) (k 8)) v1 rfl h0 h1
theorem ar289(h:a - b=c)(k:a<=c)(l:¬c=0):b=0:=(Nat.eq_zero_or_pos b).elim id λp=>absurd (Nat.sub_lt (Nat.pos_of_ne_zero λz=>l (by rw[<-h,z,Nat.zero_sub])) p) (Nat.not_lt.mpr (h.symm▸k))
theorem ar290(h0:a=16)(h1:b<=a)(h2:16<=c):b+0<=c:=lin (c3 a b c) [(1,v0,k 16),(1,v1,v0),(1,k 16,v2)] (p v1 (k 0)) v2 rfl (Nat.le_of_eq h0) h1 h2
theorem ar291(h:a<=20000):min b a+min 2 c<=20002:=Nat.le_trans (Nat.add_le_add (Nat.min_le_right b a) (Nat.min_le_left 2 c)) (Nat.add_le_add_right h 2)
theorem ar292(h0:a=b)(h1:c=d)(h2:¬b=d):a≠c:=λh=>h2 (Nat.le_antisymm (lin (c4 a b c d) [(1,v1,v0),(1,v2,v3),(1,v0,v2)] v1 v3 rfl (Nat.le_of_eq h0.symm) (Nat.le_of_eq h1) (Nat.le_of_eq h)) (lin (c4 a b c d) [(1,v0,v1),(1,v3,v2),(1,v2,v0)] v3 v1 rfl (Nat.le_of_eq h0) (Nat.le_of_eq h1.symm) (Nat.le_of_eq h.symm)))
theorem ar293(h:Int.toNat i<b):i<(↑b:Int):=Int.lt_of_le_of_lt (Int.self_le_toNat i) (Int.ofNat_lt.mpr h)
theorem ar294(h:i<=(↑b:Int)):Int.toNat i<=b:=Int.toNat_le.mpr h
theorem ar295(h0:a+10<1000000):a+1+1+1+1<1000000:=lin (c1 a) [(1,p (p v0 (k 10)) (k 1),k 1000000)] (p (p (p (p (p v0 (k 1)) (k 1)) (k 1)) (k 1)) (k 1)) (k 1000000) rfl h0
theorem ar296(h0:100<=a)(h1:b=7)(h2:c<=15):b+c<=a:=lin (c3 a b c) [(1,k 100,v0),(1,v1,k 7),(1,v2,k 15)] (p v1 v2) v0 rfl h0 (Nat.le_of_eq h1) h2
theorem ar297(h0:a=16)(h1:b=5)(h2:200<=c):b+a<=c:=lin (c3 a b c) [(1,v0,k 16),(1,v1,k 5),(1,k 200,v2)] (p v1 v0) v2 rfl (Nat.le_of_eq h0) (Nat.le_of_eq h1) h2
theorem ar298(h0:a<=10)(h1:100<=b)(h2:c=4):c+a<=b:=lin (c3 a b c) [(1,v0,k 10),(1,k 100,v1),(1,v2,k 4)] (p v2 v0) v1 rfl h0 h1 (Nat.le_of_eq h2)
theorem ar299(h:a<=b):min c a+(a - (c+1))<=b:=Nat.le_trans ((Nat.le_total c a).elim (λg=>Nat.le_trans (Nat.add_le_add (Nat.min_le_left c a) (Nat.sub_le_sub_left (Nat.le_succ c) a)) (Nat.le_of_eq (Nat.add_sub_cancel' g))) (λg=>by rw[Nat.sub_eq_zero_of_le (Nat.le_succ_of_le g)];exact Nat.min_le_right c a)) h
theorem ar300:((↑(2*a):Int) - 0 - 1) / 2+1=(↑a:Int):=by cases a with | zero=>rfl | succ n=>rw[Int.sub_zero,show ((2*(n+1):Nat):Int) - 1=((2*n+1:Nat):Int) from Int.add_sub_cancel ((2*n+1:Nat):Int) 1];exact congrArg (λk=>Int.ofNat k+1) (Nat.mul_add_div (by decide) n 1)
theorem ar302(h0:100<=a)(h1:b=11)(h2:c<=10):b+c<=a:=lin (c3 a b c) [(1,k 100,v0),(1,v1,k 11),(1,v2,k 10)] (p v1 v2) v0 rfl h0 (Nat.le_of_eq h1) h2
theorem ar304(h0:a<=100)(h1:b=4)(h2:200<=c):b+a<=c:=lin (c3 a b c) [(1,v0,k 100),(1,v1,k 4),(1,k 200,v2)] (p v1 v0) v2 rfl h0 (Nat.le_of_eq h1) h2
theorem ar305(h:(↑(2*a):Int)=(↑(2*b):Int)):a=b:=Nat.eq_of_mul_eq_mul_left (by decide) (Int.ofNat_inj.mp h)
theorem ar307(h:2*a<=b):Int.natAbs (↑(2*a):Int)<=b:=h
theorem ar309(h:a<Int.toNat j):0<j - (↑a:Int):=Int.sub_pos_of_lt (Int.lt_toNat.mp h)
theorem ar310(h1:1<a)(h:min b a+(a - (b+1))=0):False:=absurd (Nat.add_eq_zero_iff.mp h).1 (Nat.ne_of_gt (Nat.lt_min.mpr ⟨Nat.lt_of_succ_lt_succ (Nat.lt_of_lt_of_le h1 (Nat.sub_eq_zero_iff_le.mp (Nat.add_eq_zero_iff.mp h).2)),Nat.lt_trans (by decide) h1⟩))
theorem ar311(h0:a+(b+1)<=c+1):a+1+b<=c+1:=lin (c3 a b c) [(1,p v0 (p v1 (k 1)),p v2 (k 1))] (p (p v0 (k 1)) v1) (p v2 (k 1)) rfl h0
theorem ar312(h0:a+3*(b+1)<c):a+1+3*b<c:=lin (c3 a b c) [(1,p (p v0 (m 3 (p v1 (k 1)))) (k 1),v2)] (p (p (p v0 (k 1)) (m 3 v1)) (k 1)) v2 rfl h0
theorem ar313(h0:a=2*(8*b))(h1:c<8*b):2*c<a:=lin (c3 a b c) [(1,m 2 (m 8 v1),v0),(2,p v2 (k 1),m 8 v1)] (p (m 2 v2) (k 1)) v0 rfl (Nat.le_of_eq h0.symm) h1
theorem ar314(h0:a=8)(h1:b=a)(h2:100<=c):2*b+0<=c:=lin (c3 a b c) [(2,v0,k 8),(2,v1,v0),(1,k 100,v2)] (p (m 2 v1) (k 0)) v2 rfl (Nat.le_of_eq h0) (Nat.le_of_eq h1) h2
theorem ar317(h0:a<b)(h1:16*b<c)(h2:d<=a):d<=c:=lin (c4 a b c d) [(1,p v0 (k 1),v1),(1,p (m 16 v1) (k 1),v2),(1,v3,v0)] v3 v2 rfl h0 h1 h2
theorem ar318(h:Int.toNat i<=b):i - (↑b:Int)<=0:=Int.sub_nonpos_of_le (Int.toNat_le.mp h)
theorem ar319:(↑(16*a):Int)<=(↑(16*b):Int)↔a<=b:=Int.ofNat_le.trans (Nat.mul_le_mul_left_iff (by decide))
theorem ar320(h0:100<=a)(h1:b=7)(h2:c<=15):b+c+1<=a:=lin (c3 a b c) [(1,k 100,v0),(1,v1,k 7),(1,v2,k 15)] (p (p v1 v2) (k 1)) v0 rfl h0 (Nat.le_of_eq h1) h2
theorem ar321(h0:1000000<=a)(h1:b=4)(h2:c<=10):b+c<=a:=lin (c3 a b c) [(1,k 1000000,v0),(1,v1,k 4),(1,v2,k 10)] (p v1 v2) v0 rfl h0 (Nat.le_of_eq h1) h2
theorem ar326(h0:a<=10)(h1:100<=b)(h2:c=4):c+a+1<=b:=lin (c3 a b c) [(1,v0,k 10),(1,k 100,v1),(1,v2,k 4)] (p (p v2 v0) (k 1)) v1 rfl h0 h1 (Nat.le_of_eq h2)
theorem ar327(h:a<=20000):min b a+1+(a - c)<=50000:=Nat.le_trans (Nat.add_le_add (Nat.add_le_add (Nat.min_le_right b a) (Nat.le_refl 1)) (Nat.sub_le a c)) (Nat.le_trans (Nat.add_le_add (Nat.add_le_add h (Nat.le_refl 1)) h) (by decide))
theorem ar328:(↑a:Int) % 4294967296=(↑(a % 4294967296):Int):=by lia
theorem ar329(h:48<=a/\a<=57\/97<=a/\a<=102):a - 87<16:=h.elim (λh=>Nat.lt_of_le_of_lt (Nat.sub_le_sub_right h.2 87) (by decide)) (λh=>Nat.lt_of_le_of_lt (Nat.sub_le_sub_right h.2 87) (by decide))
theorem ar330(h0:100<=a)(h1:b=11)(h2:c<=10):b+c+1<=a:=lin (c3 a b c) [(1,k 100,v0),(1,v1,k 11),(1,v2,k 10)] (p (p v1 v2) (k 1)) v0 rfl h0 (Nat.le_of_eq h1) h2
theorem ar332(h0:16*a<b)(h1:c<a):8*min c a+8<=b:=Nat.le_trans (Nat.mul_le_mul_left 8 (Nat.succ_le_of_lt (Nat.lt_of_le_of_lt (Nat.min_le_left c a) h1))) (Nat.le_trans (Nat.mul_le_mul_right a (by decide:8<=16)) (Nat.le_of_lt h0))
theorem ar333(h:a - b<c+1)(hl:b<a):a - (b+1)<c:=Nat.lt_of_lt_of_le (Nat.sub_lt_sub_left hl (Nat.lt_succ_self b)) (Nat.le_of_lt_succ h)
theorem ar338(h0:a<16)(h1:b<16)(h2:16*a+b=c):c<256:=lin (c3 a b c) [(16,p v0 (k 1),k 16),(1,p v1 (k 1),k 16),(1,v2,p (m 16 v0) v1)] (p v2 (k 1)) (k 256) rfl h0 h1 (Nat.le_of_eq h2.symm)
theorem ar339(h0:8*(a+b+c+d+2)<=e):a<=e:=lin (c5 a b c d e) [(1,m 8 (p (p (p (p v0 v1) v2) v3) (k 2)),v4)] v0 v4 rfl h0
theorem ar340(h0:8*(a+b+c+d+2)<=e):b<=e:=lin (c5 a b c d e) [(1,m 8 (p (p (p (p v0 v1) v2) v3) (k 2)),v4)] v1 v4 rfl h0
theorem ar341(h0:8*(a+b+c+d+2)<=e):c<=e:=lin (c5 a b c d e) [(1,m 8 (p (p (p (p v0 v1) v2) v3) (k 2)),v4)] v2 v4 rfl h0
theorem ar342(h0:8*(a+b+c+d+2)<=e):d<=e:=lin (c5 a b c d e) [(1,m 8 (p (p (p (p v0 v1) v2) v3) (k 2)),v4)] v3 v4 rfl h0
theorem ar343(h:a=min b a+(0+1)+(0+1)):a=b+1+1:=(Nat.le_total b a).elim (λl=>by rw[Nat.min_eq_left l] at h;exact h) λl=>by rw[Nat.min_eq_right l] at h;exact absurd h (Nat.ne_of_lt (Nat.lt_succ_of_lt (Nat.lt_succ_self a)))
theorem ar344(h0:a+3*(b+1)<c):a+1+1+3*b<c:=lin (c3 a b c) [(1,p (p v0 (m 3 (p v1 (k 1)))) (k 1),v2)] (p (p (p (p v0 (k 1)) (k 1)) (m 3 v1)) (k 1)) v2 rfl h0
theorem ar345(h0:a=2*(8*b))(h1:c<8*b):2*c+1<a:=lin (c3 a b c) [(1,m 2 (m 8 v1),v0),(2,p v2 (k 1),m 8 v1)] (p (p (m 2 v2) (k 1)) (k 1)) v0 rfl (Nat.le_of_eq h0.symm) h1
theorem ar347(h:a<=57)(h1:b<c):b*10+(a - 48)<c*10:=Nat.lt_of_lt_of_le (Nat.add_lt_add_left (Nat.lt_of_le_of_lt (Nat.sub_le_sub_right h 48) (by decide:57 - 48<10)) (b*10)) (Nat.le_trans (Nat.le_of_eq (Nat.succ_mul b 10).symm) (Nat.mul_le_mul_right 10 h1))
theorem ar348(h0:16*a<b)(h1:c<=d)(h2:d<=a):8*c<=b:=lin (c4 a b c d) [(1,p (m 16 v0) (k 1),v1),(8,v2,v3),(8,v3,v0)] (m 8 v2) v1 rfl h0 h1 h2
theorem ar349(h0:a<=b)(h1:b=c+1)(h2:c<d):a<=d+40:=lin (c4 a b c d) [(1,v0,v1),(1,v1,p v2 (k 1)),(1,p v2 (k 1),v3)] v0 (p v3 (k 40)) rfl h0 (Nat.le_of_eq h1) h2
theorem ar350(h0:1000000<=a)(h1:b=4)(h2:c<=10):b+c+1<=a:=lin (c3 a b c) [(1,k 1000000,v0),(1,v1,k 4),(1,v2,k 10)] (p (p v1 v2) (k 1)) v0 rfl h0 (Nat.le_of_eq h1) h2
theorem ar352(h0:a=4)(h1:b<=10)(h2:c<=10):a+b+1+c<=40:=lin (c3 a b c) [(1,v0,k 4),(1,v1,k 10),(1,v2,k 10)] (p (p (p v0 v1) (k 1)) v2) (k 40) rfl (Nat.le_of_eq h0) h1 h2
theorem ar354(h:0<=i)(k:i<(↑b:Int)):Int.toNat i<b:=(Int.toNat_lt h).mpr k
theorem ar355:i - ((↑b:Int)+1)=i - (↑b:Int) - 1:=by lia
theorem ar357(h0:a+(b+1)+c=d):a+c<=2*d+200:=lin (c4 a b c d) [(1,p (p v0 (p v1 (k 1))) v2,v3)] (p v0 v2) (p (m 2 v3) (k 200)) rfl (Nat.le_of_eq h0)
theorem ar358(h0:1000000<=a)(h1:b<=50000):min c b+(0+1)<=a:=Nat.le_trans (Nat.add_le_add_right (Nat.le_trans (Nat.min_le_right c b) h1) 1) (Nat.le_trans (by decide) h0)
theorem ar359(h0:8*(a+b+c+d+2)<=e):8*b<=e:=lin (c5 a b c d e) [(1,m 8 (p (p (p (p v0 v1) v2) v3) (k 2)),v4)] (m 8 v1) v4 rfl h0
theorem ar361(h0:a+3*(b+1)<c):a+1+1+1+3*b<c:=lin (c3 a b c) [(1,p (p v0 (m 3 (p v1 (k 1)))) (k 1),v2)] (p (p (p (p (p v0 (k 1)) (k 1)) (k 1)) (m 3 v1)) (k 1)) v2 rfl h0
theorem ar362(h:a=b)(h1:Int.toNat q<b):q<(↑a:Int):=Int.lt_of_le_of_lt (Int.self_le_toNat q) (Int.ofNat_lt.mpr (h▸h1))
theorem ar365(h:min a b+min 2 (b - a)+c=0)(hl:a<b):False:=absurd (Nat.add_eq_zero_iff.mp (Nat.add_eq_zero_iff.mp h).1).2 (Nat.ne_of_gt (Nat.lt_min.mpr ⟨by decide,Nat.sub_pos_of_lt hl⟩))
theorem ar366(h0:1+a+b+c+d+e<f+1):c<f:=lin (c6 a b c d e f) [(1,p (p (p (p (p (p (k 1) v0) v1) v2) v3) v4) (k 1),p v5 (k 1))] (p v2 (k 1)) v5 rfl h0
theorem ar367(h:i<=(↑b:Int))(e:b=c):Int.toNat i<=c:=Int.toNat_le.mpr (e▸h)
theorem ar368(h0:a+10*(b+1)+8<c):a+3+10*b+8<c:=lin (c3 a b c) [(1,p (p (p v0 (m 10 (p v1 (k 1)))) (k 8)) (k 1),v2)] (p (p (p (p v0 (k 3)) (m 10 v1)) (k 8)) (k 1)) v2 rfl h0
theorem ar369(h0:a<b)(h1:16*b<c)(h2:d<=a):16*d+16<=c:=lin (c4 a b c d) [(16,p v0 (k 1),v1),(1,p (m 16 v1) (k 1),v2),(16,v3,v0)] (p (m 16 v3) (k 16)) v2 rfl h0 h1 h2
theorem ar370(h0:a<b)(h1:c<=a)(h2:16*b<d):8*(c+1)<=d:=lin (c4 a b c d) [(8,p v0 (k 1),v1),(8,v2,v0),(1,p (m 16 v1) (k 1),v3)] (m 8 (p v2 (k 1))) v3 rfl h0 h1 h2
theorem ar371:Int.toNat (max 0 (min (↑a:Int) (↑b:Int)))=min a b:=by rcases Nat.le_total a b with h | h;rw[Int.min_eq_left (Int.ofNat_le.mpr h),Nat.min_eq_left h,Int.max_eq_right (Int.natCast_nonneg _)];rfl;rw[Int.min_eq_right (Int.ofNat_le.mpr h),Nat.min_eq_right h,Int.max_eq_right (Int.natCast_nonneg _)];rfl
theorem ar372(h0:8*a+8<=b)(h1:c<=8*d)(h2:d<=a):c+8<=b:=lin (c4 a b c d) [(1,p (m 8 v0) (k 8),v1),(1,v2,m 8 v3),(8,v3,v0)] (p v2 (k 8)) v1 rfl h0 h1 h2
theorem ar373(h0:a<=b+c+1):d+1+a<=d+1+b+c+1:=lin (c4 a b c d) [(1,v0,p (p v1 v2) (k 1))] (p (p v3 (k 1)) v0) (p (p (p (p v3 (k 1)) v1) v2) (k 1)) rfl h0
theorem ar374(h0:8*(a+b+c+d+2)<=e):0+1+a<=e:=lin (c5 a b c d e) [(1,m 8 (p (p (p (p v0 v1) v2) v3) (k 2)),v4)] (p (p (k 0) (k 1)) v0) v4 rfl h0
theorem ar377(h0:a+10*(b+1)+8<c):a+1+3+10*b+8<c:=lin (c3 a b c) [(1,p (p (p v0 (m 10 (p v1 (k 1)))) (k 8)) (k 1),v2)] (p (p (p (p (p v0 (k 1)) (k 3)) (m 10 v1)) (k 8)) (k 1)) v2 rfl h0
theorem ar380(h0:a<=b)(h1:b=c+1)(h2:c<d)(h3:d<=20000):a<=20000:=lin (c4 a b c d) [(1,v0,v1),(1,v1,p v2 (k 1)),(1,p v2 (k 1),v3),(1,v3,k 20000)] v0 (k 20000) rfl h0 (Nat.le_of_eq h1) h2 h3
theorem ar381(h:i<=(↑b:Int)):min (Int.toNat i) b=Int.toNat i:=Nat.min_eq_left (Int.toNat_le.mpr h)
theorem ar382(h0:8*(a+b+c+d+2)<=e):0+1+a+b<=e:=lin (c5 a b c d e) [(1,m 8 (p (p (p (p v0 v1) v2) v3) (k 2)),v4)] (p (p (p (k 0) (k 1)) v0) v1) v4 rfl h0
theorem ar383(h0:a+b=c+d):e+1+a+b=e+1+c+d:=Nat.le_antisymm (lin (c5 a b c d e) [(1,p v0 v1,p v2 v3)] (p (p (p v4 (k 1)) v0) v1) (p (p (p v4 (k 1)) v2) v3) rfl (Nat.le_of_eq h0)) (lin (c5 a b c d e) [(1,p v2 v3,p v0 v1)] (p (p (p v4 (k 1)) v2) v3) (p (p (p v4 (k 1)) v0) v1) rfl (Nat.le_of_eq h0.symm))
theorem ar386(h0:a=8)(h1:b=a)(h2:c=2*b)(h3:d<=c+b*0):d<=16:=lin (c4 a b c d) [(2,v0,k 8),(2,v1,v0),(1,v2,m 2 v1),(1,v3,p v2 (.mulR v1 0))] v3 (k 16) rfl (Nat.le_of_eq h0) (Nat.le_of_eq h1) (Nat.le_of_eq h2) h3
theorem ar387(h0:a<=30000)(h1:1000000<=b)(h2:c=a+1)(h3:d<=c):d<b:=lin (c4 a b c d) [(1,v0,k 30000),(1,k 1000000,v1),(1,v2,p v0 (k 1)),(1,v3,v2)] (p v3 (k 1)) v1 rfl h0 h1 (Nat.le_of_eq h2) h3
theorem ar388(h:a<=20000):min b a+min 2 (a - b)+(a - (b+2))<=50002:=Nat.le_trans (Nat.add_le_add (Nat.add_le_add (Nat.min_le_right b a) (Nat.min_le_left 2 (a - b))) (Nat.sub_le a (b+2))) (Nat.le_trans (Nat.add_le_add (Nat.add_le_add h (Nat.le_refl 2)) h) (by decide))
theorem ar389(h0:a+10*(b+1)+8<c):a+3+1+3+10*b+8<c:=lin (c3 a b c) [(1,p (p (p v0 (m 10 (p v1 (k 1)))) (k 8)) (k 1),v2)] (p (p (p (p (p (p v0 (k 3)) (k 1)) (k 3)) (m 10 v1)) (k 8)) (k 1)) v2 rfl h0
theorem ar391(h0:a+b=c)(h1:d+e=b):a+d+e<=2*c+200:=lin (c5 a b c d e) [(1,p v0 v1,v2),(1,p v3 v4,v1)] (p (p v0 v3) v4) (p (m 2 v2) (k 200)) rfl (Nat.le_of_eq h0) (Nat.le_of_eq h1)
theorem ar392(h0:100<=a)(h1:b=11)(h2:c<=10)(h3:d<=4):b+c+1+d<=a:=lin (c4 a b c d) [(1,k 100,v0),(1,v1,k 11),(1,v2,k 10),(1,v3,k 4)] (p (p (p v1 v2) (k 1)) v3) v0 rfl h0 (Nat.le_of_eq h1) h2 h3
theorem ar393(h0:100<=a)(h1:b=7)(h2:c<=15)(h3:d<=10):b+c+1+d<=a:=lin (c4 a b c d) [(1,k 100,v0),(1,v1,k 7),(1,v2,k 15),(1,v3,k 10)] (p (p (p v1 v2) (k 1)) v3) v0 rfl h0 (Nat.le_of_eq h1) h2 h3
theorem ar394(h0:a+1<=b)(h1:b=c+1)(h2:c<d)(h3:d<=20000):a<=20000:=lin (c4 a b c d) [(1,p v0 (k 1),v1),(1,v1,p v2 (k 1)),(1,p v2 (k 1),v3),(1,v3,k 20000)] v0 (k 20000) rfl h0 (Nat.le_of_eq h1) h2 h3
theorem ar395(h0:a<=10)(h1:b<=10)(h2:100<=c)(h3:d=4):d+a+1+b<=c:=lin (c4 a b c d) [(1,v0,k 10),(1,v1,k 10),(1,k 100,v2),(1,v3,k 4)] (p (p (p v3 v0) (k 1)) v1) v2 rfl h0 h1 h2 (Nat.le_of_eq h3)
theorem ar396(h:(↑a:Int)=max 0 (min j (↑c:Int))):a<=c:=Int.ofNat_le.mp (h.symm▸Int.max_le.mpr ⟨Int.natCast_nonneg _,Int.min_le_right _ _⟩)
theorem ar398(h0:a<=30000)(h1:1000000<=b)(h2:c=a+1)(h3:d+1<=c):d<b:=lin (c4 a b c d) [(1,v0,k 30000),(1,k 1000000,v1),(1,v2,p v0 (k 1)),(1,p v3 (k 1),v2)] (p v3 (k 1)) v1 rfl h0 h1 (Nat.le_of_eq h2) h3
theorem ar400(h0:8*(a+b+c+d+2)<=e):0+1+a+b+c<=e:=lin (c5 a b c d e) [(1,m 8 (p (p (p (p v0 v1) v2) v3) (k 2)),v4)] (p (p (p (p (k 0) (k 1)) v0) v1) v2) v4 rfl h0
theorem ar401:10*(↑a:Int)+(↑(b - 48):Int)=(↑(a*10+(b - 48)):Int):=by rw[Nat.mul_comm a];rfl
theorem ar405(h0:a<=30000)(h1:1000000<=b)(h2:c=a+1)(h3:d<=c):16*d<b:=lin (c4 a b c d) [(16,v0,k 30000),(1,k 1000000,v1),(16,v2,p v0 (k 1)),(16,v3,v2)] (p (m 16 v3) (k 1)) v1 rfl h0 h1 (Nat.le_of_eq h2) h3
theorem ar406(h0:8*(a+b+c+d+2)<=e):1+a+b+c+d<=e:=lin (c5 a b c d e) [(1,m 8 (p (p (p (p v0 v1) v2) v3) (k 2)),v4)] (p (p (p (p (k 1) v0) v1) v2) v3) v4 rfl h0
theorem ar407(h0:100<=a)(h1:b=11)(h2:c<=10)(h3:d<=4):b+c+1+d+1<=a:=lin (c4 a b c d) [(1,k 100,v0),(1,v1,k 11),(1,v2,k 10),(1,v3,k 4)] (p (p (p (p v1 v2) (k 1)) v3) (k 1)) v0 rfl h0 (Nat.le_of_eq h1) h2 h3
theorem ar408(h0:1000000<=a)(h1:b=4)(h2:c<=10)(h3:d<=10):b+c+1+d<=a:=lin (c4 a b c d) [(1,k 1000000,v0),(1,v1,k 4),(1,v2,k 10),(1,v3,k 10)] (p (p (p v1 v2) (k 1)) v3) v0 rfl h0 (Nat.le_of_eq h1) h2 h3
theorem ar409(h0:1+a+(1+b+c+d+e)+f<g+1):b<g:=lin (c7 a b c d e f g) [(1,p (p (p (p (k 1) v0) (p (p (p (p (k 1) v1) v2) v3) v4)) v5) (k 1),p v6 (k 1))] (p v1 (k 1)) v6 rfl h0
theorem ar410(h0:1+a+(1+b+c+d+e)+f<g+1):c<g:=lin (c7 a b c d e f g) [(1,p (p (p (p (k 1) v0) (p (p (p (p (k 1) v1) v2) v3) v4)) v5) (k 1),p v6 (k 1))] (p v2 (k 1)) v6 rfl h0
theorem ar411(h0:1+a+(1+b+c+d+e)+f<g+1):d<g:=lin (c7 a b c d e f g) [(1,p (p (p (p (k 1) v0) (p (p (p (p (k 1) v1) v2) v3) v4)) v5) (k 1),p v6 (k 1))] (p v3 (k 1)) v6 rfl h0
theorem ar412:a<1+a+b+c/\b<1+a+b+c/\c<1+a+b+c:=⟨lin (c3 a b c) [] (p v0 (k 1)) (p (p (p (k 1) v0) v1) v2) rfl,lin (c3 a b c) [] (p v1 (k 1)) (p (p (p (k 1) v0) v1) v2) rfl,lin (c3 a b c) [] (p v2 (k 1)) (p (p (p (k 1) v0) v1) v2) rfl⟩
theorem ar413(h0:a<=1048576)(h1:b=c+1)(h2:c<=a+1)(h3:d=16777216):b<=d:=lin (c4 a b c d) [(1,v0,k 1048576),(1,v1,p v2 (k 1)),(1,v2,p v0 (k 1)),(1,k 16777216,v3)] v1 v3 rfl h0 (Nat.le_of_eq h1) h2 (Nat.le_of_eq h3.symm)
theorem ar414(h0:a<=b)(h1:b+1+c<=d+1)(h2:e=a)(h3:d<=f):e<=f:=lin (c6 a b c d e f) [(1,v0,v1),(1,p (p v1 (k 1)) v2,p v3 (k 1)),(1,v4,v0),(1,v3,v5)] v4 v5 rfl h0 h1 (Nat.le_of_eq h2) h3
theorem ar415(h0:1000000<=a)(h1:b<=50000):min c b+(0+1)+(b - (c+1))<=a:=Nat.le_trans (Nat.add_le_add (Nat.add_le_add (Nat.min_le_right c b) (Nat.le_refl (0+1))) (Nat.sub_le b (c+1))) (Nat.le_trans (Nat.add_le_add (Nat.add_le_add h1 (Nat.le_refl _)) h1) (Nat.le_trans (by decide) h0))
theorem ar418(h0:8*(a+b+c+d+2)<=e):0+1+a+b+c+d<=e:=lin (c5 a b c d e) [(1,m 8 (p (p (p (p v0 v1) v2) v3) (k 2)),v4)] (p (p (p (p (p (k 0) (k 1)) v0) v1) v2) v3) v4 rfl h0
theorem ar419(h0:a<=20)(h1:b<=c+a+1)(h2:c=d+1)(h3:d<e):b<=e+40:=lin (c5 a b c d e) [(1,v0,k 20),(1,v1,p (p v2 v0) (k 1)),(1,v2,p v3 (k 1)),(1,p v3 (k 1),v4)] v1 (p v4 (k 40)) rfl h0 h1 (Nat.le_of_eq h2) h3
theorem ar423(h0:a+(b+1)+c=d):e+1+a+(b+1)+c=e+1+d:=Nat.le_antisymm (lin (c5 a b c d e) [(1,p (p v0 (p v1 (k 1))) v2,v3)] (p (p (p (p v4 (k 1)) v0) (p v1 (k 1))) v2) (p (p v4 (k 1)) v3) rfl (Nat.le_of_eq h0)) (lin (c5 a b c d e) [(1,v3,p (p v0 (p v1 (k 1))) v2)] (p (p v4 (k 1)) v3) (p (p (p (p v4 (k 1)) v0) (p v1 (k 1))) v2) rfl (Nat.le_of_eq h0.symm))
theorem ar424(h0:a<b)(h1:c=0)(h2:d+e=b):d+(a+1+c)+e<=2*b+200:=lin (c5 a b c d e) [(1,p v0 (k 1),v1),(1,v2,k 0),(1,p v3 v4,v1)] (p (p v3 (p (p v0 (k 1)) v2)) v4) (p (m 2 v1) (k 200)) rfl h0 (Nat.le_of_eq h1) (Nat.le_of_eq h2)
theorem ar425(h0:a<=30)(h1:b=0)(h2:c+d=e):c+(a+1+b)+d<=2*e+200:=lin (c5 a b c d e) [(1,v0,k 30),(1,v1,k 0),(1,p v2 v3,v4)] (p (p v2 (p (p v0 (k 1)) v1)) v3) (p (m 2 v4) (k 200)) rfl h0 (Nat.le_of_eq h1) (Nat.le_of_eq h2)
theorem ar427(h0:a<=b+21)(h1:c+b=d+a)(h2:d=e+1)(h3:e<f):c<=f+40:=lin (c6 a b c d e f) [(1,v0,p v1 (k 21)),(1,p v2 v1,p v3 v0),(1,v3,p v4 (k 1)),(1,p v4 (k 1),v5)] v2 (p v5 (k 40)) rfl h0 (Nat.le_of_eq h1) (Nat.le_of_eq h2) h3
theorem ar428(h:a<b):(0<=(↑a:Int)/\(↑a:Int)<(↑b:Int))/\Int.toNat (↑a:Int)=a:=⟨⟨Int.natCast_nonneg _,Int.ofNat_lt.mpr h⟩,rfl⟩
theorem ar431(h0:100<=a)(h1:b=11)(h2:c<=15)(h3:d<=10)(h4:e<=4):b+d+1+e+1+c<=a:=lin (c5 a b c d e) [(1,k 100,v0),(1,v1,k 11),(1,v2,k 15),(1,v3,k 10),(1,v4,k 4)] (p (p (p (p (p v1 v3) (k 1)) v4) (k 1)) v2) v0 rfl h0 (Nat.le_of_eq h1) h2 h3 h4
theorem ar432(h0:1+a+(1+(1+b+c+d+e)+1)+f+g<a7+1):a<a7:=lin (c8 a b c d e f g a7) [(1,p (p (p (p (p (k 1) v0) (p (p (k 1) (p (p (p (p (k 1) v1) v2) v3) v4)) (k 1))) v5) v6) (k 1),p v7 (k 1))] (p v0 (k 1)) v7 rfl h0
theorem ar433(h0:1+a+(1+(1+b+c+d+e)+1)+f+g<a7+1):c<a7:=lin (c8 a b c d e f g a7) [(1,p (p (p (p (p (k 1) v0) (p (p (k 1) (p (p (p (p (k 1) v1) v2) v3) v4)) (k 1))) v5) v6) (k 1),p v7 (k 1))] (p v2 (k 1)) v7 rfl h0
theorem ar434(h0:1+a+(1+(1+b+c+d+e)+1)+f+g<a7+1):d<a7:=lin (c8 a b c d e f g a7) [(1,p (p (p (p (p (k 1) v0) (p (p (k 1) (p (p (p (p (k 1) v1) v2) v3) v4)) (k 1))) v5) v6) (k 1),p v7 (k 1))] (p v3 (k 1)) v7 rfl h0
theorem ar440(h:0<a):(0<=-1+(↑a:Int)/\-1+(↑a:Int)<(↑a:Int))/\Int.toNat (-1+(↑a:Int))=a - 1:=by cases a with | zero=>exact absurd h (by decide) | succ n=>rw[show -1+((n+1:Nat):Int)=(n:Int) from (Int.add_comm _ _).trans (Int.add_neg_cancel_right n 1)];exact ⟨⟨Int.natCast_nonneg _,Int.ofNat_lt.mpr (Nat.lt_succ_self _)⟩,rfl⟩
theorem ar442(h0:1+a+b+c+d=e)(h1:16*f<g)(h2:f=e+1+1):8*(a+b+c+d+2)<=g:=lin (c7 a b c d e f g) [(8,p (p (p (p (k 1) v0) v1) v2) v3,v4),(1,p (m 16 v5) (k 1),v6),(8,p (p v4 (k 1)) (k 1),v5)] (m 8 (p (p (p (p v0 v1) v2) v3) (k 2))) v6 rfl (Nat.le_of_eq h0) h1 (Nat.le_of_eq h2.symm)
theorem ar444:a<1+a+b+c+d/\b<1+a+b+c+d/\c<1+a+b+c+d/\d<1+a+b+c+d:=⟨lin (c4 a b c d) [] (p v0 (k 1)) (p (p (p (p (k 1) v0) v1) v2) v3) rfl,lin (c4 a b c d) [] (p v1 (k 1)) (p (p (p (p (k 1) v0) v1) v2) v3) rfl,lin (c4 a b c d) [] (p v2 (k 1)) (p (p (p (p (k 1) v0) v1) v2) v3) rfl,lin (c4 a b c d) [] (p v3 (k 1)) (p (p (p (p (k 1) v0) v1) v2) v3) rfl⟩
theorem ar445(h0:a<=b+40)(h1:c+d=b)(h2:e+f=d)(h3:g<=a)(h4:a7=0):c+(g+1+a7)+f<=2*b+100:=lin (c8 a b c d e f g a7) [(1,v0,p v1 (k 40)),(1,p v2 v3,v1),(1,p v4 v5,v3),(1,v6,v0),(1,v7,k 0)] (p (p v2 (p (p v6 (k 1)) v7)) v5) (p (m 2 v1) (k 100)) rfl h0 (Nat.le_of_eq h1) (Nat.le_of_eq h2) h3 (Nat.le_of_eq h4)
theorem ar446(h:0<=i)(k:0<=i/\b=Int.toNat i\/i<0/\-(↑c:Int)<=i/\b=Int.toNat (i+(↑c:Int))):b=Int.toNat i:=k.elim (·.2) λl=>absurd l.1 (Int.not_lt.mpr h)
theorem ar447(h0:a<=15)(h1:b<=15)(h2:c<=10)(h3:d<=10)(h4:e<=10)(h5:65<=f):a+(b+(c+(d+(e+0))))+(0+1+1+1+1+1)*1<=f:=lin (c6 a b c d e f) [(1,v0,k 15),(1,v1,k 15),(1,v2,k 10),(1,v3,k 10),(1,v4,k 10),(1,k 65,v5)] (p (p v0 (p v1 (p v2 (p v3 (p v4 (k 0)))))) (.mulR (p (p (p (p (p (k 0) (k 1)) (k 1)) (k 1)) (k 1)) (k 1)) 1)) v5 rfl h0 h1 h2 h3 h4 h5
theorem ar448(h0:a+1=b+1+(c+1+(d+1+(e+1+(f+1+g)))))(h1:b<=15)(h2:c<=15)(h3:d<=10)(h4:e<=10)(h5:f<=10)(h6:g=0):a<=100:=lin (c7 a b c d e f g) [(1,p v0 (k 1),p (p v1 (k 1)) (p (p v2 (k 1)) (p (p v3 (k 1)) (p (p v4 (k 1)) (p (p v5 (k 1)) v6))))),(1,v1,k 15),(1,v2,k 15),(1,v3,k 10),(1,v4,k 10),(1,v5,k 10),(1,v6,k 0)] v0 (k 100) rfl (Nat.le_of_eq h0) h1 h2 h3 h4 h5 (Nat.le_of_eq h6)
theorem ar450(h:0<=i)(h1:i<(↑b:Int)):Int.toNat i<b/\(0<=i/\Int.toNat i=Int.toNat i\/i<0/\-(↑b:Int)<=i/\Int.toNat i=Int.toNat (i+(↑b:Int))):=⟨(Int.toNat_lt h).mpr h1,.inl ⟨h,rfl⟩⟩
theorem ar453(h:0<=i+(↑b:Int))(k:i+(↑b:Int)<(↑b:Int)):Int.toNat (i+(↑b:Int))<b/\(0<=i/\Int.toNat (i+(↑b:Int))=Int.toNat i\/i<0/\-(↑b:Int)<=i/\Int.toNat (i+(↑b:Int))=Int.toNat (i+(↑b:Int))):=⟨(Int.toNat_lt h).mpr k,.inr ⟨Int.lt_of_add_lt_add_right (a:=i) (b:=b) (by rw[Int.zero_add];exact k),Int.le_of_add_le_add_right (b:=b) (by rw[Int.add_left_neg];exact h),rfl⟩⟩
end
end Ok
end
open PySem PySem.W PyProof.Rows
namespace Ok
section
inductive D where
 |none
 |bool (b:Bool)
 |int (i:Int)
 |str (s:Str)
 |bytes (b:Array UInt8)
 |tup (ds:List D)
 |lst (ds:List D)
 |inst (C:Addr) (ns:List Str) (ds:List D)
 |rng (a b c:Int)
 |val (v:Value)
 |loc (i:Nat)
 |obj (C:Addr) (i:Nat)
inductive M where
 |list (ds:List D)
 |dict (ns:List Str) (ds:List D)
abbrev Jaa:=List M
abbrev Jac:=Str->Option D
abbrev Fz:=Addr->Option Obj
inductive Out(α:Type) where
 |ok (a:α) (σ:Jaa)
 |exc (w:Str) (n:Int) (σ:Jaa)
 |bad
noncomputable def Out.bind{α β:Type}(x:Out α)(f:α->Jaa->Out β):Out β:=
 match x with
 |.ok a σ=>f a σ
 |.exc w n σ=>.exc w n σ
 |.bad=>.bad
section rel
variable(P:Params)(B:Fz)(ρ:List Addr)
mutual
noncomputable def Rel:D->Value->Prop
 |.none,v=>v=.none
 |.bool b,v=>v=.bool b
 |.int i,v=>∃t,v=.int i t
 |.str s,v=>∃t,v=.str s t
 |.bytes b,v=>∃t,v=.bytes b t
 |.tup ds,v=>∃a o vs n,v=.ref a/\B a=some o/\o.cls=.type "tuple"/\o.data=.seq vs n/\Jay ds vs.toList
 |.lst ds,v=>∃a o vs n,v=.ref a/\B a=some o/\o.cls=.type "list"/\o.data=.seq vs n/\Jay ds vs.toList
 |.inst C ns ds,v=>∃a dx es n,v=.ref a/\B a=some (instObj C dx)/\B dx=some (dictOf es n)/\RelF ns ds es
 |.rng a b c,v=>∃r t u z,v=.ref r/\B r=some { cls:=.type "range",data:=.fields #[.int a t,.int b u,.int c z] }
 |.val w,v=>v=w
 |.loc i,v=>∃a,v=.ref a/\ρ[i]?=some a
 |.obj C i,v=>∃a dx,v=.ref a/\B a=some (instObj C dx)/\ρ[i]?=some dx
noncomputable def Jay:List D->List Value->Prop
 |[],vs=>vs=[]
 |d::ds,vs=>∃v r,vs=v::r/\Rel d v/\Jay ds r
noncomputable def RelF:List Str->List D->List DictEntry->Prop
 |ns,[],es=>ns=[]/\es=[]
 |ns,d::ds,es=>∃n ns' h t v r,ns=n::ns'/\es=⟨h,.str n t,v⟩::r/\h=PyData.keyHash P n/\Rel d v/\RelF ns' ds r
end
noncomputable def RelM:M->Obj->Prop
 |.list ds,o=>∃vs n,o={ cls:=.type "list",data:=.seq vs n }/\Jay P B ρ ds vs.toList
 |.dict ns ds,o=>ns.Nodup/\∃es n,o=dictOf es n/\RelF P B ρ ns ds es
end rel
section mk
variable{P:Params}{B:Fz}{ρ:List Addr}
theorem mkTup{ds:List D}{v:Value}(h:∃a o vs n,v=.ref a/\B a=some o/\o.cls=.type "tuple"/\o.data=.seq vs n/\Jay P B ρ ds vs.toList):Rel P B ρ (.tup ds) v:=h
theorem mkLst{ds:List D}{v:Value}(h:∃a o vs n,v=.ref a/\B a=some o/\o.cls=.type "list"/\o.data=.seq vs n/\Jay P B ρ ds vs.toList):Rel P B ρ (.lst ds) v:=h
theorem mkInst{C:Addr}{ns:List Str}{ds:List D}{v:Value}(h:∃a dx es n,v=.ref a/\B a=some (instObj C dx)/\B dx=some (dictOf es n)/\RelF P B ρ ns ds es):Rel P B ρ (.inst C ns ds) v:=h
theorem mkRng{a b c:Int}{v:Value}(h:∃r t u z,v=.ref r/\B r=some { cls:=.type "range",data:=.fields #[.int a t,.int b u,.int c z] }):Rel P B ρ (.rng a b c) v:=h
theorem mkLoc{i:Nat}{v:Value}(h:∃a,v=.ref a/\ρ[i]?=some a):Rel P B ρ (.loc i) v:=h
theorem mkObj{C:Addr}{i:Nat}{v:Value}(h:∃a dx,v=.ref a/\B a=some (instObj C dx)/\ρ[i]?=some dx):Rel P B ρ (.obj C i) v:=h
theorem mkL{d:D}{ds:List D}{vs:List Value}(h:∃v r,vs=v::r/\Rel P B ρ d v/\Jay P B ρ ds r):Jay P B ρ (d::ds) vs:=h
theorem mkF{d:D}{ns:List Str}{ds:List D}{es:List DictEntry}(h:∃n ns' hh t v r,ns=n::ns'/\es=⟨hh,.str n t,v⟩::r/\hh=PyData.keyHash P n/\Rel P B ρ d v/\RelF P B ρ ns' ds r):RelF P B ρ ns (d::ds) es:=h
theorem rlInt{i:Int}{t:Tok}:Rel P B ρ (.int i) (.int i t):=(⟨t,rfl⟩:∃u,Value.int i t=.int i u)
theorem rlStr{i:Str}{t:Tok}:Rel P B ρ (.str i) (.str i t):=(⟨t,rfl⟩:∃u,Value.str i t=.str i u)
theorem rlByt{i:Array UInt8}{t:Tok}:Rel P B ρ (.bytes i) (.bytes i t):=(⟨t,rfl⟩:∃u,Value.bytes i t=.bytes i u)
theorem mkN:Jay P B ρ [] []:=(rfl:([]:List Value)=[])
theorem Jdp{vs:List Value}(h:Jay P B ρ [] vs):vs=[]:=h
theorem mkC{d:D}{ds:List D}{v:Value}{vs:List Value}(h:Rel P B ρ d v)(r:Jay P B ρ ds vs):Jay P B ρ (d::ds) (v::vs):=mkL ⟨v,vs,rfl,h,r⟩
theorem unC{d:D}{ds:List D}{v:Value}{vs:List Value}(h:Jay P B ρ (d::ds) (v::vs)):Rel P B ρ d v/\Jay P B ρ ds vs:=by
 obtain ⟨_,_,e,h1,h2⟩:=h
 cases e
 exact ⟨h1,h2⟩
theorem mkFC{n:Str}{t:Tok}{d:D}{v:Value}{ns:List Str}{ds:List D}{r:List DictEntry}(h:Rel P B ρ d v)(h2:RelF P B ρ ns ds r):RelF P B ρ (n::ns) (d::ds) (⟨PyData.keyHash P n,.str n t,v⟩::r):=mkF ⟨n,ns,_,t,v,r,rfl,rfl,rfl,h,h2⟩
end mk
section mono
variable{P:Params}{B B':Fz}{ρ ρ':List Addr}
structure Sub(B:Fz)(ρ:List Addr)(B':Fz)(ρ':List Addr):Prop where
 b:∀a o,B a=some o->B' a=some o
 r:∀(i:Nat) a,ρ[i]?=some a->ρ'[i]?=some a
mutual
theorem Rel.mono(S:Sub B ρ B' ρ'):∀{d:D} {v:Value},Rel P B ρ d v->Rel P B' ρ' d v
 |.none,_,h=>h
 |.bool _,_,h=>h
 |.int _,_,h=>h
 |.str _,_,h=>h
 |.bytes _,_,h=>h
 |.tup ds,_,h=>by
  obtain ⟨a,o,vs,n,e,h1,h2,h3,h4⟩:=h
  exact mkTup ⟨a,o,vs,n,e,S.b _ _ h1,h2,h3,Jay.mono S h4⟩
 |.lst ds,_,h=>by
  obtain ⟨a,o,vs,n,e,h1,h2,h3,h4⟩:=h
  exact mkLst ⟨a,o,vs,n,e,S.b _ _ h1,h2,h3,Jay.mono S h4⟩
 |.inst C ns ds,_,h=>by
  obtain ⟨a,dx,es,n,e,h1,h2,h3⟩:=h
  exact mkInst ⟨a,dx,es,n,e,S.b _ _ h1,S.b _ _ h2,RelF.mono S h3⟩
 |.rng _ _ _,_,h=>by
  obtain ⟨r,t,u,z,e,h1⟩:=h
  exact mkRng ⟨r,t,u,z,e,S.b _ _ h1⟩
 |.val _,_,h=>h
 |.loc _,_,h=>by
  obtain ⟨a,e,h1⟩:=h
  exact mkLoc ⟨a,e,S.r _ _ h1⟩
 |.obj _ _,_,h=>by
  obtain ⟨a,dx,e,h1,h2⟩:=h
  exact mkObj ⟨a,dx,e,S.b _ _ h1,S.r _ _ h2⟩
theorem Jay.mono(S:Sub B ρ B' ρ'):∀{ds:List D} {vs:List Value},Jay P B ρ ds vs->Jay P B' ρ' ds vs
 |[],_,h=>h
 |d::ds,_,h=>by
  obtain ⟨v,r,e,h1,h2⟩:=h
  exact mkL ⟨v,r,e,Rel.mono S h1,Jay.mono S h2⟩
theorem RelF.mono(S:Sub B ρ B' ρ'):∀{ns:List Str} {ds:List D} {es:List DictEntry},RelF P B ρ ns ds es->RelF P B' ρ' ns ds es
 |_,[],_,h=>h
 |_,d::ds,_,h=>by
  obtain ⟨n,ns',hh,t,v,r,e1,e2,e3,h1,h2⟩:=h
  exact mkF ⟨n,ns',hh,t,v,r,e1,e2,e3,Rel.mono S h1,RelF.mono S h2⟩
end
theorem RelM.mono(S:Sub B ρ B' ρ'){m:M}{o:Obj}(h:RelM P B ρ m o):RelM P B' ρ' m o:=by
 cases m with
 |list ds=>obtain ⟨vs,n,e,h⟩:=h;exact ⟨vs,n,e,h.mono S⟩
 |dict ns ds=>obtain ⟨hn,es,n,e,h⟩:=h;exact ⟨hn,es,n,e,h.mono S⟩
theorem Sub.refl(B:Fz)(ρ:List Addr):Sub B ρ B ρ:=⟨λ_ _ e=>e,λ_ _ e=>e⟩
end mono
end
section
structure Cx where
 prog:Program
 w:World
 K:Frag
 h0:Heap
 TE:Addr
structure Pt where
 B:Fz
 ρ:List Addr
 σ:Jaa
 s:Shared
noncomputable def frA(fs:List Env):List Addr:=fs.filterMap (·.frame)
noncomputable def Jaq(p:Pt):List Env->Prop
 |[]=>True
 |env::r=>(env.scope.kind≠.module/\∃L o,env.frame=some L/\p.s.heap.get? L=some o/\(∀vs,o.data≠.fields vs)/\p.B L=none/\L∉p.ρ)/\Jaq p r
structure Inv(x:Cx)(fs:List Env)(p:Pt):Prop where
 base:∀a o,x.h0.get? a=some o->p.B a=some o
 froz:∀a o,p.B a=some o->p.s.heap.get? a=some o
 len:p.ρ.length=p.σ.length
 nd:p.ρ.Nodup
 off:∀a∈p.ρ,p.B a=none
 mu:∀(i:Nat) a m,p.ρ[i]?=some a->p.σ[i]?=some m->∃o,p.s.heap.get? a=some o/\RelM x.w.params p.B p.ρ m o
 frames:Jaq p fs
structure Ext(fs:List Env)(Pv:List Addr)(p q:Pt):Prop where
 b:∀a o,p.B a=some o->q.B a=some o
 r:∃r,q.ρ=p.ρ++r
 bnew:∀a o,q.B a=some o->p.B a=some o\/p.s.heap.get? a=none
 rnew:∀a∈q.ρ,a∈p.ρ\/p.s.heap.get? a=none
 keep:∀a o,p.s.heap.get? a=some o->a∉p.ρ->a∉Pv->(∃sl,q.s.heap.get? a=some { o with slots:=sl })/\(a∉frA fs->q.s.heap.get? a=some o)
 there:∀a o,p.s.heap.get? a=some o->∃o',q.s.heap.get? a=some o'
 same:∃h tk,q.s={ p.s with heap:=h,toks:=tk }
theorem Ext.sub{fs Pv p q}(X:Ext fs Pv p q):Sub p.B p.ρ q.B q.ρ:=
 ⟨X.b,λi a e=>by
  obtain ⟨r,hr⟩:=X.r
  rw[hr]
  exact (List.getElem?_append_left (List.getElem?_eq_some_iff.mp e).1).trans e⟩
theorem Ext.none{fs Pv p q}(X:Ext fs Pv p q){a:Addr}(h:q.s.heap.get? a=.none):p.s.heap.get? a=.none:=by
 cases e:p.s.heap.get? a with
 |none=>rfl
 |some o=>obtain ⟨o',h'⟩:=X.there a o e;rw[h] at h';cases h'
theorem Ext.trans{fs Pv p q r}(X:Ext fs Pv p q)(Y:Ext fs Pv q r):Ext fs Pv p r where
 b:=λa o e=>Y.b _ _ (X.b _ _ e)
 r:=by
  obtain ⟨r1,e1⟩:=X.r
  obtain ⟨r2,e2⟩:=Y.r
  exact ⟨r1++r2,by rw[e2,e1,List.append_assoc]⟩
 bnew:=λa o e=>(Y.bnew a o e).elim (λh=>X.bnew a o h) λh=>.inr (X.none h)
 rnew:=λa e=>(Y.rnew a e).elim (λh=>X.rnew a h) λh=>.inr (X.none h)
 keep:=λa o e hr hp=>by
  obtain ⟨⟨sl,h1⟩,h2⟩:=X.keep a o e hr hp
  have hq:a∉q.ρ:=λh=>(X.rnew a h).elim hr (λh=>by rw[h] at e;cases e)
  obtain ⟨⟨sl',h3⟩,_⟩:=Y.keep a _ h1 hq hp
  exact ⟨⟨sl',h3⟩,λhf=>(Y.keep a _ (h2 hf) hq hp).2 hf⟩
 there:=λa o e=>by
  obtain ⟨o',h⟩:=X.there a o e
  exact Y.there a o' h
 same:=by
  obtain ⟨h1,t1,e1⟩:=X.same
  obtain ⟨h2,t2,e2⟩:=Y.same
  exact ⟨h2,t2,by rw[e2,e1]⟩
theorem Ext.refl(fs Pv)(p:Pt):Ext fs Pv p p where
 b:=λ_ _ e=>e
 r:=⟨[],by simp⟩
 bnew:=λ_ _ e=>.inl e
 rnew:=λ_ e=>.inl e
 keep:=λa o e _ _=>⟨⟨o.slots,e⟩,λ_=>e⟩
 there:=λa o e=>⟨o,e⟩
 same:=⟨_,_,rfl⟩
theorem Ext.mono{fs Pv Pv' p q}(X:Ext fs Pv p q)(h:∀a∈Pv,a∈Pv'):Ext fs Pv' p q:=
 { X with keep:=λa o e hr hp=>X.keep a o e hr λhm=>hp (h a hm) }
theorem Inv.lt{x fs p}(I:Inv x fs p){a:Addr}{o:Obj}(h:p.B a=some o):a<p.s.heap.objs.size:=Heap.lt_size (I.froz _ _ h)
theorem Inv.ρlt{x fs p}(I:Inv x fs p){a:Addr}(h:a∈p.ρ):∃o,p.s.heap.get? a=some o:=by
 obtain ⟨i,hi⟩:=List.getElem?_of_mem h
 have hl:=(List.getElem?_eq_some_iff.mp hi).1
 rw[I.len] at hl
 obtain ⟨o,ho,_⟩:=I.mu i a p.σ[i] hi (List.getElem?_eq_getElem hl)
 exact ⟨o,ho⟩
theorem Jbe(h:Heap):h.get? h.objs.size=none:=Heap.get?_none_of_le (Nat.le_refl _)
noncomputable def Fz.put(B:Fz)(a:Addr)(o:Obj):Fz:=λb=>if b=a then some o else B b
noncomputable def Pt.push(p:Pt)(o:Obj)(tk:Nat):Pt:={ p with B:=p.B.put p.s.heap.objs.size o,s:={ p.s with heap:=p.s.heap.push o,toks:=tk } }
noncomputable def Pt.pushM(p:Pt)(m:M)(o:Obj)(tk:Nat):Pt:={ p with ρ:=p.ρ++[p.s.heap.objs.size],σ:=p.σ++[m],s:={ p.s with heap:=p.s.heap.push o,toks:=tk } }
noncomputable def Pt.tick(p:Pt)(tk:Nat):Pt:={ p with s:={ p.s with toks:=tk } }
theorem Inv.tick{x fs p}(I:Inv x fs p)(tk:Nat):Inv x fs (p.tick tk):=by
 refine ⟨I.base,I.froz,I.len,I.nd,I.off,I.mu,?_⟩
 have:∀l,Jaq p l->Jaq (p.tick tk) l:=by
  intro l
  induction l with
  |nil=>exact λh=>h
  |cons e r ih=>exact λh=>⟨h.1,ih h.2⟩
 exact this _ I.frames
theorem Ext.tick(fs Pv)(p:Pt)(tk:Nat):Ext fs Pv p (p.tick tk):=
 { Ext.refl fs Pv p with same:=⟨p.s.heap,tk,rfl⟩ }
theorem Jaq.of{p q:Pt}(hB:∀a,p.B a=none->(∃o,p.s.heap.get? a=some o)->q.B a=none)(hρ:∀a,a∉p.ρ->(∃o,p.s.heap.get? a=some o)->a∉q.ρ)
  (hk:∀a o,p.s.heap.get? a=some o->a∉p.ρ->p.B a=none->(∀vs,o.data≠.fields vs)->∃o',q.s.heap.get? a=some o'/\∀vs,o'.data≠.fields vs):∀{fs},Jaq p fs->Jaq q fs
 |[],_=>trivial
 |_::_,⟨⟨h1,L,o,h2,h3,h4,h5,h6⟩,hr⟩=>by
  obtain ⟨o',h7,h8⟩:=hk L o h3 h6 h5 h4
  exact ⟨⟨h1,L,o',h2,h7,h8,hB L h5 ⟨o,h3⟩,hρ L h6 ⟨o,h3⟩⟩,Jaq.of hB hρ hk hr⟩
theorem Inv.push{x fs p}(I:Inv x fs p)(o:Obj)(hf:o.isFreed=false)(tk:Nat):Inv x fs (p.push o tk) where
 base:=λa o' e=>by
  have:=I.base a o' e
  unfold Pt.push Fz.put;dsimp only
  rw[if_neg (Nat.ne_of_lt (I.lt this))];exact this
 froz:=λa o' e=>by
  unfold Pt.push Fz.put at e;dsimp only at e
  split at e
  ·rename_i q;cases e;rw[q];exact Heap.get?_push_size _ hf
  ·exact Heap.get?_push_of_some _ (I.froz _ _ e)
 len:=I.len
 nd:=I.nd
 off:=λa h=>by
  unfold Pt.push Fz.put;dsimp only
  obtain ⟨o',ho⟩:=I.ρlt h
  rw[if_neg (Nat.ne_of_lt (Heap.lt_size ho))];exact I.off a h
 mu:=λi a m e1 e2=>by
  obtain ⟨o',h1,h2⟩:=I.mu i a m e1 e2
  refine ⟨o',Heap.get?_push_of_some _ h1,h2.mono ⟨λb ob hb=>?_,λ_ _ e=>e⟩⟩
  unfold Pt.push Fz.put;dsimp only
  rw[if_neg (Nat.ne_of_lt (I.lt hb))];exact hb
 frames:=Jaq.of (p:=p) (q:=p.push o tk) (λa h1 ⟨o',h2⟩=>by
   unfold Pt.push Fz.put;dsimp only
   rw[if_neg (Nat.ne_of_lt (Heap.lt_size h2))];exact h1) (λa h _=>h) (λa o' h _ _ hd=>⟨o',Heap.get?_push_of_some _ h,hd⟩) I.frames
theorem Ext.push{x fs p}(I:Inv x fs p)(o:Obj)(Pv)(tk:Nat):Ext fs Pv p (p.push o tk) where
 b:=λa o' e=>by
  unfold Pt.push Fz.put;dsimp only
  rw[if_neg (Nat.ne_of_lt (I.lt e))];exact e
 r:=⟨[],by simp[Pt.push]⟩
 bnew:=λa o' e=>by
  unfold Pt.push Fz.put at e;dsimp only at e
  split at e
  ·rename_i q;rw[q];exact .inr (Jbe _)
  ·exact .inl e
 rnew:=λa e=>.inl e
 keep:=λa o' e _ _=>⟨⟨o'.slots,Heap.get?_push_of_some _ e⟩,λ_=>Heap.get?_push_of_some _ e⟩
 there:=λa o' e=>⟨o',Heap.get?_push_of_some _ e⟩
 same:=⟨_,_,rfl⟩
theorem Pt.push_get(p:Pt)(o:Obj)(tk:Nat):(p.push o tk).B p.s.heap.objs.size=some o:=by
 unfold Pt.push Fz.put;dsimp only;rw[if_pos rfl]
theorem Inv.pushM{x fs p}(I:Inv x fs p)(m:M)(o:Obj)(hf:o.isFreed=false)(tk:Nat)(hm:RelM x.w.params p.B p.ρ m o):Inv x fs (p.pushM m o tk) where
 base:=I.base
 froz:=λa o' e=>Heap.get?_push_of_some _ (I.froz _ _ e)
 len:=by simp[Pt.pushM,I.len]
 nd:=by
  unfold Pt.pushM;dsimp only
  refine List.nodup_append.mpr ⟨I.nd,by simp,λa ha b hb=>?_⟩
  rw[List.mem_singleton.mp hb]
  obtain ⟨o',ho⟩:=I.ρlt ha
  exact Nat.ne_of_lt (Heap.lt_size ho)
 off:=λa h=>by
  rcases List.mem_append.mp h with h | h
  ·exact I.off a h
  ·rw[List.mem_singleton.mp h]
   cases e:p.B p.s.heap.objs.size with
   |none=>exact e
   |some o'=>exact absurd (I.lt e) (Nat.lt_irrefl _)
 mu:=λi a m' e1 e2=>by
  have S:Sub p.B p.ρ p.B (p.ρ++[p.s.heap.objs.size]):=⟨λ_ _ e=>e,λi a e=>(List.getElem?_append_left (List.getElem?_eq_some_iff.mp e).1).trans e⟩
  unfold Pt.pushM at e1 e2 ⊢;dsimp only at e1 e2 ⊢
  by_cases hi:i<p.ρ.length
  ·rw[List.getElem?_append_left hi] at e1
   rw[List.getElem?_append_left (I.len▸hi)] at e2
   obtain ⟨o',h1,h2⟩:=I.mu i a m' e1 e2
   exact ⟨o',Heap.get?_push_of_some _ h1,h2.mono S⟩
  ·rw[List.getElem?_append_right (Nat.le_of_not_lt hi)] at e1
   rw[List.getElem?_append_right (I.len▸Nat.le_of_not_lt hi)] at e2
   have:i - p.ρ.length=0:=by
    have:=(List.getElem?_eq_some_iff.mp e1).1
    simp at this;exact ar121 this
   rw[this] at e1
   rw[<-I.len,this] at e2
   simp at e1 e2
   subst e1 e2
   exact ⟨o,Heap.get?_push_size _ hf,hm.mono S⟩
 frames:=Jaq.of (p:=p) (q:=p.pushM m o tk) (λa h1 _=>h1) (λa h ⟨o',h2⟩ hm=>by
   rcases List.mem_append.mp hm with hm | hm
   ·exact h hm
   ·rw[List.mem_singleton.mp hm] at h2;exact absurd (Heap.lt_size h2) (Nat.lt_irrefl _)) (λa o' h _ _ hd=>⟨o',Heap.get?_push_of_some _ h,hd⟩) I.frames
theorem Ext.pushM{fs p}(m:M)(o:Obj)(Pv)(tk:Nat):Ext fs Pv p (p.pushM m o tk) where
 b:=λa o' e=>e
 r:=⟨[p.s.heap.objs.size],rfl⟩
 bnew:=λa o' e=>.inl e
 rnew:=λa e=>by
  rcases List.mem_append.mp e with e | e
  ·exact .inl e
  ·rw[List.mem_singleton.mp e];exact .inr (Jbe _)
 keep:=λa o' e _ _=>⟨⟨o'.slots,Heap.get?_push_of_some _ e⟩,λ_=>Heap.get?_push_of_some _ e⟩
 there:=λa o' e=>⟨o',Heap.get?_push_of_some _ e⟩
 same:=⟨_,_,rfl⟩
theorem Pt.pushM_get(p:Pt){x fs}(I:Inv x fs p)(m:M)(o:Obj)(tk:Nat):(p.pushM m o tk).ρ[p.σ.length]?=some p.s.heap.objs.size:=by
 unfold Pt.pushM;dsimp only
 rw[<-I.len];simp
noncomputable def Pt.upd(p:Pt)(i:Nat)(m:M)(h:Heap)(tk:Nat):Pt:={ p with σ:=p.σ.set i m,s:={ p.s with heap:=h,toks:=tk } }
theorem Inv.upd{x fs p}(I:Inv x fs p){i:Nat}{a:Addr}{m:M}{h:Heap}{o:Obj}(tk:Nat)(hi:p.ρ[i]?=some a)(hs:Heap.SameBut a p.s.heap h)(ho:h.get? a=some o)(hm:RelM x.w.params p.B p.ρ m o):Inv x fs (p.upd i m h tk) where
 base:=I.base
 froz:=λb o' e=>by
  have ne:b≠a:=by
   rintro rfl
   have h1:p.B b=none:=I.off b (List.mem_of_getElem? hi)
   have h2:p.B b=some o':=e
   rw[h2] at h1;cases h1
  exact (hs.2 b ne).trans (I.froz _ _ e)
 len:=by simp[Pt.upd,I.len]
 nd:=I.nd
 off:=I.off
 mu:=λj b m' e1 e2=>by
  unfold Pt.upd at e1 e2 ⊢;dsimp only at e1 e2 ⊢
  by_cases hj:i=j
  ·subst hj
   rw[hi] at e1;cases e1
   rw[List.getElem?_set_self'] at e2
   cases e3:p.σ[i]? with
   |none=>rw[e3] at e2;cases e2
   |some _=>rw[e3] at e2;cases e2;exact ⟨o,ho,hm⟩
  ·rw[List.getElem?_set_ne hj] at e2
   obtain ⟨o',h1,h2⟩:=I.mu j b m' e1 e2
   have ne:b≠a:=by
    rintro rfl
    have h3:=(List.getElem?_eq_some_iff.mp hi)
    have h4:=(List.getElem?_eq_some_iff.mp e1)
    exact hj ((List.getElem_inj I.nd).mp (h3.2.trans h4.2.symm))
   exact ⟨o',(hs.2 b ne).trans h1,h2⟩
 frames:=Jaq.of (p:=p) (q:=p.upd i m h tk) (λa h1 _=>h1) (λa h _=>h) (λb o' h hn _ hd=>⟨o',(hs.2 b (by rintro rfl;exact hn (List.mem_of_getElem? hi))).trans h,hd⟩) I.frames
theorem Ext.upd{fs p}{i:Nat}{a:Addr}(m:M){h:Heap}{o:Obj}(Pv)(tk:Nat)(hi:p.ρ[i]?=some a)(hs:Heap.SameBut a p.s.heap h)(ho:h.get? a=some o):Ext fs Pv p (p.upd i m h tk) where
 b:=λa o' e=>e
 r:=⟨[],by simp[Pt.upd]⟩
 bnew:=λa o' e=>.inl e
 rnew:=λa e=>.inl e
 keep:=λb o' e hn _=>by
  have ne:b≠a:=by rintro rfl;exact hn (List.mem_of_getElem? hi)
  exact ⟨⟨o'.slots,(hs.2 b ne).trans e⟩,λ_=>(hs.2 b ne).trans e⟩
 there:=λb o' e=>by
  by_cases ne:b=a
  ·subst ne;exact ⟨o,ho⟩
  ·exact ⟨o',(hs.2 b ne).trans e⟩
 same:=⟨_,_,rfl⟩
inductive TbOn(q:Pt)(h:Heap)(e:Addr)(vs:Array Value):Prop
 |mk (T:Addr) (oT:Obj) (ts:Array Value) (h1:vs[1]?=some (.ref T)) (h2:T≠e) (h3:q.s.heap.get? T=some oT) (h4:oT.data=.fields ts) (h5:3<ts.size) (h6:h.get? T=none) (h7:q.B T=none) (h8:T∉q.ρ)
inductive Jc1(x:Cx)(q:Pt)(h:Heap)(v:Value)(w:Str)(n:Int)(tb:Bool):Prop
 |mk (e:Addr) (oe:Obj) (vs:Array Value) (dx:Addr) (es:List DictEntry) (k:Nat) (h1:v=.ref e) (h2:q.s.heap.get? e=some oe) (h3:oe.cls=.ref x.TE) (h4:oe.dict=some dx) (h5:oe.data=.fields vs) (h6:vs.size=6) (h7:q.B dx=some (dictOf es k))
  (h8:RelF x.w.params q.B q.ρ ["what","at"] [.str w,.int n] es) (h9:h.get? e=none) (h10:q.B e=none) (h11:e∉q.ρ) (h12:(tb=false/\vs[1]?=some .none)\/TbOn q h e vs)
theorem Jc1.weak{x q h v w n}(X:Jc1 x q h v w n true):Jc1 x q h v w n false:=by
 obtain ⟨e,oe,vs,dx,es,k,h1,h2,h3,h4,h5,h6,h7,h8,h9,h10,h11,h12⟩:=X
 refine ⟨e,oe,vs,dx,es,k,h1,h2,h3,h4,h5,h6,h7,h8,h9,h10,h11,.inr ?_⟩
 rcases h12 with ⟨h,_⟩ | h
 ·cases h
 ·exact h
theorem Jc1.older{x q h h' v w n tb}(X:Jc1 x q h v w n tb)(k:∀a,h.get? a=none->h'.get? a=none):Jc1 x q h' v w n tb:=by
 obtain ⟨e,oe,vs,dx,es,kk,h1,h2,h3,h4,h5,h6,h7,h8,h9,h10,h11,h12⟩:=X
 refine ⟨e,oe,vs,dx,es,kk,h1,h2,h3,h4,h5,h6,h7,h8,k _ h9,h10,h11,h12.imp id ?_⟩
 rintro ⟨T,oT,ts,a1,a2,a3,a4,a5,a6,a7,a8⟩
 exact ⟨T,oT,ts,a1,a2,a3,a4,a5,k _ a6,a7,a8⟩
section W
variable{α β γ δ:Type}
inductive OkP(x:Cx)(fs:List Env)(Pv:List Addr)(p:Pt)(r:Out β)(R:Pt->β->α->Prop)(v:α)(s':Shared):Prop
 |mk (d:β) (q:Pt) (e:r=.ok d q.σ) (hs:q.s=s') (I:Inv x fs q) (X:Ext fs Pv p q) (h:R q d v)
inductive ExP(x:Cx)(fs:List Env)(Pv:List Addr)(p:Pt)(r:Out β)(v:Value)(s':Shared):Prop
 |mk (w:Str) (n:Int) (q:Pt) (e:r=.exc w n q.σ) (hs:q.s=s') (I:Inv x fs q) (X:Ext fs Pv p q) (h:Jc1 x q p.s.heap v w n false)
noncomputable def W(x:Cx)(fs:List Env)(A:Around)(Pv:List Addr)(t:Sem α)(r:Out β)(R:Pt->β->α->Prop)(p:Pt):Prop:=
 r≠.bad->wpAny (model x.prog x.w) A t (OkP x fs Pv p r R) (ExP x fs Pv p r) p.s
variable{x:Cx}{fs:List Env}{A:Around}{Pv:List Addr}{p:Pt}
theorem W.bind{t:Sem α}{f:α->Sem γ}{r:Out β}{k:β->Jaa->Out δ}{R:Pt->β->α->Prop}{R':Pt->δ->γ->Prop}(h:W x fs A Pv t r R p)
  (hk:∀v d q,r=.ok d q.σ->Inv x fs q->Ext fs Pv p q->R q d v->W x fs A Pv (f v) (k d q.σ) R' q):W x fs A Pv (t >>= f) (r.bind k) R' p:=by
 intro hne
 have hr:r≠.bad:=by rintro rfl;exact hne rfl
 refine wpAny_bind (wpAny_mono (h hr) ?_ ?_)
 ·rintro v s' ⟨d,q,rfl,rfl,I,X,hR⟩
  refine wpAny_mono (hk v d q rfl I X hR hne) ?_ ?_
  ·rintro u s'' ⟨d',q',e,rfl,I',X',hR'⟩
   exact ⟨d',q',e,rfl,I',X.trans X',hR'⟩
  ·rintro u s'' ⟨w,n,q',e,rfl,I',X',hE⟩
   exact ⟨w,n,q',e,rfl,I',X.trans X',hE.older λa=>X.none⟩
 ·rintro e s' ⟨w,n,q,rfl,rfl,I,X,hE⟩
  exact ⟨w,n,q,rfl,rfl,I,X,hE⟩
theorem W.pure{a:α}{b:β}{R:Pt->β->α->Prop}(I:Inv x fs p)(h:R p b a):W x fs A Pv (pure a) (.ok b p.σ) R p:=
 λ_=>wpAny_pure ⟨b,p,rfl,rfl,I,.refl ..,h⟩
theorem W.run{t:Sem α}{d:β}{σ:Jaa}{R:Pt->β->α->Prop}{Q:α->Shared->Prop}{E:Value->Shared->Prop}(h:W x fs A Pv t (.ok d σ) R p)(hk:∀v q,q.σ=σ->Inv x fs q->Ext fs Pv p q->R q d v->Q v q.s):wpAny (model x.prog x.w) A t Q E p.s:=by
 refine wpAny_mono (h λe=>nomatch e) ?_ ?_
 ·rintro v s' ⟨d',q,e,rfl,I,X,hR⟩
  injection e with e1 e2
  subst e1
  exact hk v q e2.symm I X hR
 ·rintro v s' ⟨w,n,q,e,_,_,_,_⟩
  exact nomatch e
theorem W.eqr{t:Sem α}{r r':Out β}{R:Pt->β->α->Prop}(e:r=r')(h:W x fs A Pv t r' R p):W x fs A Pv t r R p:=e▸h
end W
end
section
noncomputable def Jac.set(f:Jac)(x:Str)(d:D):Jac:=λy=>if y=x then some d else f y
inductive Fl where
 |next
 |ret (d:D)
structure Prg where
 glob:Str->Option D
 fn:Addr->Option (List Str×Scope×List Stmt)
 meth:Addr->Str->Option Addr
 cls:Addr->Option (Bool×List Str×Scope×List (Str×Expr))
 fld:Addr->Str->Bool
 exn:Str
 lasts:Pos->Bool
 turns:Nat
noncomputable def Jb7:D->Option Bool
 |.bool b=>some b
 |_=>none
noncomputable def brD{α:Type}(d:D)(t e:Out α):Out α:=match d with
 |.bool true=>t
 |.bool false=>e
 |_=>.bad
noncomputable def Jau(σ:Jaa):D->Option (List D)
 |.lst ds=>some ds
 |.loc i=>(σ[i]?).bind λm=>match m with | .list ds=>some ds | _=>none
 |_=>none
noncomputable def int?:D->Option Int
 |.int i=>some i
 |_=>none
noncomputable def str?:D->Option Str
 |.str s=>some s
 |_=>none
noncomputable def bytes?:D->Option (Array UInt8)
 |.bytes b=>some b
 |_=>none
noncomputable def tup?:D->Option (List D)
 |.tup ds=>some ds
 |_=>none
noncomputable def Jb5:List D->Option (List Str)
 |[]=>some []
 |d::r=>(str? d).bind λs=>(Jb5 r).map (s::·)
noncomputable def intsOf:List D->Option (List Int)
 |[]=>some []
 |d::r=>(int? d).bind λs=>(intsOf r).map (s::·)
noncomputable def boolsOf:List D->Option (List Bool)
 |[]=>some []
 |d::r=>(Jb7 d).bind λs=>(boolsOf r).map (s::·)
noncomputable def line:Nat:=2^20
noncomputable def Jb9(s:Str):List Str:=s.cps.toList.map λc=>⟨#[c]⟩
noncomputable def Jal(σ:Jaa):D->Option (List D)
 |.lst ds=>some ds
 |.tup ds=>some ds
 |.loc i=>Jau σ (.loc i)
 |.str s=>some ((Jb9 s).map .str)
 |.bytes b=>some (b.toList.map λc=>.int (c.toNat:Int))
 |.rng a b c=>if a.natAbs<=line/\b.natAbs<=line/\(c=1\/c=2) then some ((List.range (Builtin.Range.rangeSize a b c).toNat).map λ(i:Nat)=>.int (a+(i:Int)*c)) else none
 |_=>none
abbrev small(i:Int):Prop:=i.natAbs<2^64
noncomputable def Out.of{α:Type}(x:Option α)(σ:Jaa):Out α:=match x with | some a=>.ok a σ | none=>.bad
noncomputable def opt{α:Type}(c:Prop)[Decidable c](a:α):Option α:=if c then some a else none
noncomputable def two(a b:D)(k:Int->Int->Option D):Option D:=(int? a).bind λi=>(int? b).bind λj=>k i j
noncomputable def addL(a b:D)(σ:Jaa):Option D:=(Jau σ a).bind λxs=>(Jau σ b).bind λys=>opt (xs.length+ys.length<=line) (.lst (xs++ys))
noncomputable def addO(a b:D)(σ:Jaa):Option D:=
 match a with
 |.int i=>(int? b).map λj=>.int (i+j)
 |.str s=>(str? b).bind λt=>opt (s.length+t.length<=line) (.str (s++t))
 |.bytes s=>(bytes? b).bind λt=>opt (s.size+t.size<=line) (.bytes (s++t))
 |a=>addL a b σ
noncomputable def mulO(a b:D):Option D:=
 match a with
 |.int i=>(int? b).bind λj=>opt (small i\/small j) (.int (i*j))
 |.str s=>(int? b).bind λj=>opt (0<=j/\j<=1000/\s.length<=1000) (.str (Txt.mul s j))
 |_=>none
noncomputable def binO(op:Operator)(a b:D)(σ:Jaa):Option D:=
 match op with
 |.Add=>addO a b σ
 |.Sub=>two a b λi j=>some (.int (i - j))
 |.Mult=>mulO a b
 |.Mod=>two a b λi j=>opt (j≠0) (.int (i.fmod j))
 |.FloorDiv=>two a b λi j=>opt (j≠0/\j.natAbs<2^30) (.int (i.fdiv j))
 |.Pow=>two a b λi j=>opt (small i/\0<=j/\j<=1000) (.int (i^j.toNat))
 |.RShift=>two a b λi j=>opt (0<=j) (.int (i.fdiv (2^j.toNat)))
 |.BitAnd=>two a b λi j=>some (.int (Builtin.bitAnd i j))
 |_=>none
noncomputable def Jae(op:Operator)(a b:D)(σ:Jaa):Out D:=.of (binO op a b σ) σ
noncomputable def unO(op:UnaryOp)(a:D):Option D:=
 match op with
 |.Not=>(Jb7 a).map λb=>.bool !b
 |.USub=>(int? a).map λi=>.int (-i)
 |_=>none
noncomputable def unop(op:UnaryOp)(a:D)(σ:Jaa):Out D:=.of (unO op a) σ
noncomputable def Jem:Nat->D->Bool
 |_,.none=>true
 |_,.int _=>true
 |_,.str _=>true
 |_,.bytes _=>true
 |n+1,.tup ds=>ds.all (Jem n)
 |_,_=>false
noncomputable def eqL(σ:Jaa)(a b:D):Option Bool:=(Jau σ a).bind λxs=>(Jau σ b).bind λys=>
 if ys=[] then opt (xs.length<=line) xs.isEmpty else (Jb5 xs).bind λu=>(Jb5 ys).bind λv=>opt (u.length<=line/\v.length<=line) (u==v)
noncomputable def eqv(σ:Jaa)(a b:D):Option Bool:=
 match a with
 |.int i=>(int? b).map λj=>i==j
 |.str s=>(str? b).map λt=>s==t
 |.none=>(match b with | .none=>some true | _=>none)
 |.tup xs=>(tup? b).bind λys=>open Classical in opt (xs=ys/\Jem 6 (.tup xs)=true) true
 |a=>eqL σ a b
noncomputable def anyOf(s:Str)(ds:List D):Option Bool:=(Jb5 ds).bind λys=>opt (ys.length<=line) (ys.any (·==s))
noncomputable def isIn(σ:Jaa)(a b:D):Option Bool:=(str? a).bind λs=>
 match b with
 |.str t=>some (Txt.contains t s)
 |.tup ds=>anyOf s ds
 |b=>(Jau σ b).bind (anyOf s)
noncomputable def isNotO(a b:D):Option D:=
 match b with
 |.none=>(match a with | .none=>some (.bool false) | .tup _=>some (.bool true) | _=>none)
 |_=>none
noncomputable def cmpO(op:CmpOp)(a b:D)(σ:Jaa):Option D:=
 match op with
 |.Lt=>two a b λa b=>some (.bool (decide (a<b)))
 |.LtE=>two a b λa b=>some (.bool (decide (a<=b)))
 |.Gt=>two a b λa b=>some (.bool (decide (b<a)))
 |.GtE=>two a b λa b=>some (.bool (decide (b<=a)))
 |.Eq=>(eqv σ a b).map λc=>.bool c
 |.NotEq=>(eqv σ a b).map λc=>.bool !c
 |.In=>(isIn σ a b).map λc=>.bool c
 |.NotIn=>(isIn σ a b).map λc=>.bool !c
 |.IsNot=>isNotO a b
 |_=>none
noncomputable def Jag(op:CmpOp)(a b:D)(σ:Jaa):Out D:=.of (cmpO op a b σ) σ
noncomputable def lenOf(σ:Jaa):D->Option Nat
 |.str s=>some s.length
 |.bytes b=>some b.size
 |.tup ds=>some ds.length
 |d=>(Jau σ d).map (·.length)
noncomputable def Jbx(c:Nat):Option Nat:=if 48<=c/\c<=57 then some (c - 48) else if 97<=c/\c<=102 then some (c - 87) else none
noncomputable def hexTwo(s:Str):Option Int:=match s.cps.toList with
 |[a,b]=>(Jbx a).bind λx=>(Jbx b).map λy=>((16*x+y:Nat):Int)
 |_=>none
noncomputable def Jc0:List Int->Option (List UInt8)
 |[]=>some []
 |i::r=>if 0<=i/\i<256 then (Jc0 r).map (i.toNat.toUInt8::·) else none
noncomputable def cLen(σ:Jaa)(d:D):Option D:=(lenOf σ d).bind λn=>opt (n<=line) (.int n)
noncomputable def cAll(σ:Jaa)(d:D):Option D:=(Jau σ d).bind λds=>(boolsOf ds).bind λbs=>opt (bs.length<=line) (.bool (bs.all id))
noncomputable def cMin(σ:Jaa)(d:D):Option D:=(Jau σ d).bind λds=>(intsOf ds).bind λis=>match is with
 |i::r=>opt (r.length<=line) (.int (r.foldl (λm j=>if j<m then j else m) i))
 |[]=>none
noncomputable def cInt:D->Option D
 |.int i=>some (.int i)
 |.bool b=>some (.int (if b then 1 else 0))
 |.str s=>if s.length<=640 then (PySem.intText? s).map .int else none
 |_=>none
noncomputable def cStr:D->Option D
 |.int i=>opt (small i) (.str (Str.ofString (toString i)))
 |.str s=>opt (s.length<=line) (.str s)
 |_=>none
noncomputable def cSeq(σ:Jaa)(k:List D->D)(d:D):Option D:=(Jau σ d).bind λds=>opt (ds.length<=line) (k ds)
noncomputable def cBytes(σ:Jaa)(d:D):Option D:=
 match d with
 |.bytes b=>some (.bytes b)
 |d=>(Jau σ d).bind λds=>(intsOf ds).bind λis=>if is.length<=line then (Jc0 is).map λbs=>.bytes bs.toArray else none
noncomputable def cRange(a b c:D):Option D:=(int? a).bind λa=>(int? b).bind λb=>(int? c).bind λc=>opt (c≠0/\a.natAbs<=line/\b.natAbs<=line/\c.natAbs<=line) (.rng a b c)
noncomputable def oneB(n:String)(d:D)(σ:Jaa):Option D:=
 if n="len" then cLen σ d else if n="abs" then (int? d).map λi=>.int i.natAbs else if n="all" then cAll σ d else if n="min" then cMin σ d else none
noncomputable def oneT(n:String)(d:D)(σ:Jaa):Option D:=
 if n="int" then cInt d else if n="str" then cStr d else if n="range" then (int? d).bind λn=>opt (n.natAbs<=line) (.rng 0 n 1)
 else if n="tuple" then cSeq σ .tup d else if n="list" then cSeq σ .lst d else if n="bytes" then cBytes σ d else none
noncomputable def callO(f:Value)(as:List D)(σ:Jaa):Option D:=
 match f with
 |.builtin n=>(match as with
  |[d]=>oneB n d σ
  |[a,b]=>if n="min" then two a b λa b=>some (.int (if b<a then b else a)) else none
  |_=>none)
 |.type n=>(match as with
  |[d]=>oneT n d σ
  |[d,e]=>if n="int" then (str? d).bind λs=>(int? e).bind λj=>if j=16 then (hexTwo s).map .int else none else none
  |[a,b,c]=>if n="range" then cRange a b c else none
  |_=>none)
 |_=>none
noncomputable def Jai(f:Value)(as:List D)(σ:Jaa):Out D:=.of (callO f as σ) σ
noncomputable def cut{α:Type}(xs:List α)(lo hi:Option Int):List α:=(xs.drop (lo.elim 0 (clipAt xs.length))).take (hi.elim xs.length (clipAt xs.length) - lo.elim 0 (clipAt xs.length))
noncomputable def part:D->Option (Option Int)
 |.none=>some none
 |.int i=>some (some i)
 |_=>none
noncomputable def cutO(a:D)(lo hi:Option Int)(σ:Jaa):Option D:=
 match a with
 |.str x=>opt (x.length<=line) (.str ⟨(cut x.cps.toList lo hi).toArray⟩)
 |.bytes b=>opt (b.size<=line) (.bytes (cut b.toList lo hi).toArray)
 |a=>(Jau σ a).bind λds=>opt (ds.length<=line) (.lst (cut ds lo hi))
noncomputable def sliceO(a l u s:D)(σ:Jaa):Option D:=(part l).bind λlo=>(part u).bind λhi=>(part s).bind λst=>
 match st with
 |none=>cutO a lo hi σ
 |some k=>if k=-1/\lo=none/\hi=none then (Jau σ a).bind λds=>opt (ds.length<=line) (.lst ds.reverse) else none
noncomputable def slice(a l u s:D)(σ:Jaa):Out D:=.of (sliceO a l u s σ) σ
noncomputable def getF:List Str->List D->Str->Option D
 |n::ns,d::ds,x=>if n=x then some d else getF ns ds x
 |_,_,_=>none
noncomputable def setF:List Str->List D->Str->D->List D
 |n::ns,d::ds,x,e=>if n=x then e::ds else d::setF ns ds x e
 |_,ds,_,_=>ds
noncomputable def dict?(σ:Jaa)(j:Nat):Option (List Str×List D):=(σ[j]?).bind λm=>match m with | .dict ns ds=>some (ns,ds) | _=>none
noncomputable def list?(σ:Jaa)(j:Nat):Option (List D):=(σ[j]?).bind λm=>match m with | .list ds=>some ds | _=>none
noncomputable def itemL(ds:List D)(i:Int):Option D:=(seqIndex? i ds.length).bind λk=>if ds.length<=line then ds[k]? else none
noncomputable def itemI(a:D)(i:Int)(σ:Jaa):Option D:=
 match a with
 |.str x=>(seqIndex? i x.length).bind λk=>(x.cps[k]?).bind λc=>opt (x.length<=line) (.str ⟨#[c]⟩)
 |.bytes x=>if 0<=i/\x.size<=line then (x[i.toNat]?).map λc=>.int (c.toNat:Int) else none
 |.tup ds=>itemL ds i
 |a=>(Jau σ a).bind λds=>itemL ds i
noncomputable def loc?:D->Option Nat
 |.loc j=>some j
 |_=>none
noncomputable def itemO(a i:D)(σ:Jaa):Option D:=
 match i with
 |.int i=>itemI a i σ
 |.str n=>(loc? a).bind λj=>(dict? σ j).bind λt=>getF t.1 t.2 n
 |_=>none
noncomputable def item(a i:D)(σ:Jaa):Out D:=.of (itemO a i σ) σ
noncomputable def putO(a i d:D)(σ:Jaa):Option Jaa:=(loc? a).bind λj=>
 match i with
 |.int i=>(list? σ j).bind λds=>(seqIndex? i ds.length).bind λk=>opt (ds.length<=line/\0<=i) (σ.set j (.list (ds.set k d)))
 |.str n=>(dict? σ j).bind λt=>opt ((getF t.1 t.2 n).isSome=true/\t.1.length<=100) (σ.set j (.dict t.1 (setF t.1 t.2 n d)))
 |_=>none
noncomputable def Out.upd(x:Option Jaa):Out Unit:=match x with | some σ=>.ok () σ | none=>.bad
noncomputable def Ja7(a i d:D)(σ:Jaa):Out Unit:=.upd (putO a i d σ)
noncomputable def notVal:D->Bool
 |.val _=>false
 |_=>true
noncomputable def fieldsOf(σ:Jaa):D->Option (Addr×List Str×List D)
 |.inst C ns ds=>some (C,ns,ds)
 |.obj C j=>(dict? σ j).map λt=>(C,t)
 |_=>none
noncomputable def attrO(fld:Addr->Str->Bool)(a:D)(x:Str)(σ:Jaa):Option D:=(fieldsOf σ a).bind λt=>if fld t.1 x=true then (getF t.2.1 t.2.2 x).bind λd=>opt (notVal d=true) d else none
noncomputable def attr(fld:Addr->Str->Bool)(a:D)(x:Str)(σ:Jaa):Out D:=.of (attrO fld a x σ) σ
noncomputable def obj?:D->Option (Addr×Nat)
 |.obj C j=>some (C,j)
 |_=>none
noncomputable def Jd1(fld:Addr->Str->Bool)(a:D)(x:Str)(d:D)(σ:Jaa):Out Unit:=.upd ((obj? a).bind λc=>(dict? σ c.2).bind λt=>opt (fld c.1 x=true/\(getF t.1 t.2 x).isSome=true/\t.1.length<=100) (σ.set c.2 (.dict t.1 (setF t.1 t.2 x d))))
noncomputable def joinO(σ:Jaa)(s:Str)(d:D):Option D:=(Jau σ d).bind λds=>(Jb5 ds).bind λys=>opt ((ys.map (·.length)).sum+ys.length*s.length<=line) (.str (Txt.join s ys))
noncomputable def newL(lasts:Bool)(ds:List D)(σ:Jaa):Out D:=if lasts=true then .ok (.loc σ.length) (σ++[.list ds]) else .ok (.lst ds) σ
noncomputable def methsS(lasts:Bool)(s:Str)(x:Str)(d:D)(σ:Jaa):Out D:=
 if x="join" then .of (joinO σ s d) σ
 else (str? d).elim .bad λy=>if x="find" then .ok (.int (Txt.find s y)) σ
  else if x="split"/\y.length≠0/\s.length<=line then newL lasts ((Txt.split s y).map .str) σ
  else .bad
noncomputable def popL(j:Nat)(ds:List D)(d:D)(σ:Jaa):Out D:=((int? d).bind λi=>seqIndex? i ds.length).elim .bad λk=>.of (ds[k]?) (σ.set j (.list (ds.eraseIdx k)))
noncomputable def insL(j:Nat)(ds:List D)(i d:D)(σ:Jaa):Out D:=(int? i).elim .bad λi=>if 0<=i/\i<=ds.length then .ok .none (σ.set j (.list (ds.insertIdx i.toNat d))) else .bad
noncomputable def methsL(j:Nat)(x:Str)(as:List D)(σ:Jaa)(ds:List D):Out D:=
 if ds.length<=line then (match as with
  |[d]=>if x="append" then .ok .none (σ.set j (.list (ds++[d]))) else if x="pop" then popL j ds d σ else .bad
  |[i,d]=>if x="insert" then insL j ds i d σ else .bad
  |_=>.bad) else .bad
noncomputable def Jbu(lasts:Bool)(a:D)(x:Str)(as:List D)(σ:Jaa):Out D:=
 match a with
 |.str s=>(match as with | [d]=>methsS lasts s x d σ | _=>.bad)
 |.loc j=>(list? σ j).elim .bad (methsL j x as σ)
 |_=>.bad
noncomputable def constD:Const->Option D
 |.none=>some .none
 |.bool b=>some (.bool b)
 |.int i=>some (.int i)
 |.str s=>some (.str s)
 |.bytes b=>some (.bytes b.toArray)
 |_=>none
noncomputable def forI(its:Jaa->Option (List D))(bind:D->Jac->Option Jac)(body:Jac->Jaa->Out (Jac×Fl)):Nat->Nat->Jac->Jaa->Out (Jac×Fl)
 |0,_,_,_=>.bad
 |k+1,j,vars,σ=>match its σ with
  |none=>.bad
  |some ds=>match ds[j]? with
   |none=>.ok (vars,.next) σ
   |some d=>match bind d vars with
    |none=>.bad
    |some vars'=>(body vars' σ).bind λr σ'=>match r.2 with
     |.next=>forI its bind body k (j+1) r.1 σ'
     |.ret d=>.ok (r.1,.ret d) σ'
noncomputable def Jbh(test:Jac->Jaa->Out D)(body:Jac->Jaa->Out (Jac×Fl)):Nat->Jac->Jaa->Out (Jac×Fl)
 |0,_,_=>.bad
 |k+1,vars,σ=>(test vars σ).bind λc σ=>brD c ((body vars σ).bind λr σ'=>match r.2 with
   |.next=>Jbh test body k r.1 σ'
   |.ret d=>.ok (r.1,.ret d) σ') (.ok (vars,.next) σ)
noncomputable def compI(its:Jaa->Option (List D))(bind:D->Option Jac)(test:Jac->Jaa->Out Bool)(elt:Jac->Jaa->Out D):Nat->Nat->Jaa->Out (List D)
 |0,_,_=>.bad
 |k+1,j,σ=>match its σ with
  |none=>.bad
  |some ds=>match ds[j]? with
   |none=>.ok [] σ
   |some d=>match bind d with
    |none=>.bad
    |some vars=>(test vars σ).bind λb σ=>if b=true then (elt vars σ).bind λe σ=>(compI its bind test elt k (j+1) σ).bind λes σ=>.ok (e::es) σ
      else compI its bind test elt k (j+1) σ
noncomputable def compL(d:D)(bind:D->Option Jac)(test:Jac->Jaa->Out Bool)(elt:Jac->Jaa->Out D)(σ:Jaa):Out (List D):=
 (Jal σ d).elim .bad λds=>if ds.length<=line then compI (λσ=>Jal σ d) bind test elt (ds.length+1) 0 σ else .bad
noncomputable def forL(its:Jaa->Option (List D))(bind:D->Jac->Option Jac)(body:Jac->Jaa->Out (Jac×Fl))(ds:Option (List D))(vars:Jac)(σ:Jaa):Out (Jac×Fl):=
 ds.elim .bad λds=>if ds.length<=line then forI its bind body (ds.length+1) 0 vars σ else .bad
noncomputable def name?:Expr->Option Str
 |.Name x _=>some x
 |_=>none
noncomputable def tuple?:Expr->Option (List Expr)
 |.Tuple es _ _=>some es
 |_=>none
noncomputable def Ja4:List Expr->Option (List Str)
 |[]=>some []
 |e::r=>(name? e).bind λx=>(Ja4 r).map (x::·)
noncomputable def Jbs:List Str->List D->Jac->Option Jac
 |[],[],vars=>some vars
 |x::xs,d::ds,vars=>Jbs xs ds (vars.set x d)
 |_,_,_=>none
noncomputable def Jcd(e:Expr)(d:D)(vars:Jac):Option Jac:=match name? e with
 |some x=>some (vars.set x d)
 |none=>(tuple? e).bind λes=>(Ja4 es).bind λxs=>(tup? d).bind λds=>if xs.length<=8 then Jbs xs ds vars else none
noncomputable def const?:Expr->Option Const
 |.Constant c _ _=>some c
 |_=>none
noncomputable def strC?:Const->Option Str
 |.str s=>some s
 |_=>none
noncomputable def keysOf:List (Option Expr)->Option (List Str)
 |[]=>some []
 |o::r=>(o.bind λe=>(const? e).bind strC?).bind λs=>(keysOf r).map (s::·)
section ev
variable(G:Prg)(cf:Addr->List D->Jaa->Out D)(nm:List (Str×NameKind))
noncomputable def nameD(x:Str)(vars:Jac)(σ:Jaa):Out D:=match nm.lookup x with
 |some .globalImplicit=>.of (G.glob x) σ
 |some .local=>.of (vars x) σ
 |some .cell=>.of (vars x) σ
 |some .free=>.of (vars x) σ
 |_=>.bad
noncomputable def Jlu(f:D)(as:List D)(σ:Jaa):Out D:=match f with
 |.val (.ref a)=>cf a as σ
 |.val f=>Jai f as σ
 |_=>.bad
noncomputable def Jak(pos:Pos)(a:D)(x:Str)(as:List D)(σ:Jaa):Out D:=match a with
 |.inst C _ _=>(G.meth C x).elim .bad λf=>cf f (a::as) σ
 |.obj C _=>(G.meth C x).elim .bad λf=>cf f (a::as) σ
 |a=>Jbu (G.lasts pos) a x as σ
noncomputable def recOk(x:Str)(t:Addr×List Str×List D):Bool:=(getF t.2.1 t.2.2 x).isNone&&(G.meth t.1 x).isSome
noncomputable def Jah(a:D)(x:Str)(σ:Jaa):Bool:=match a with
 |.str _=>decide (x="join")||decide (x="find")||decide (x="split")
 |.loc j=>(list? σ j).isSome&&(decide (x="append")||decide (x="pop")||decide (x="insert"))
 |a=>(fieldsOf σ a).any (recOk G x)
noncomputable def plain:List Expr->Bool
 |[]=>true
 |.Starred ..::_=>false
 |_::r=>plain r
noncomputable def notSet:Expr->Bool
 |.Set ..=>false
 |_=>true
noncomputable def baseOk:Expr->Bool
 |.Call (.Name ..) [] [] _=>false
 |_=>true
noncomputable def Jdm(x:Str):Bool:=match nm.lookup x with
 |some .local=>true
 |some .cell=>true
 |_=>false
noncomputable def Jen(f:Str->Bool)(e:Expr):Bool:=match name? e with
 |some x=>f x
 |none=>((tuple? e).bind Ja4).any (·.all f)
noncomputable def Jck(e:Expr):Bool:=Jen (Jdm nm) e
noncomputable def targetOk(names:List (Str×NameKind))(e:Expr):Bool:=Jen (λx=>decide (names.lookup x=some .local)) e
noncomputable def compOk(sc:Scope)(t it:Expr):Bool:=
 decide (sc.kind=.function)&&(sc.names.all λy=>decide (y.2≠.cell)&&(decide (y.2≠.local)||decide (sc.names.lookup y.1=some .local))&&(decide (y.2≠.free)||(decide (nm.lookup y.1=some .cell)||decide (nm.lookup y.1=some .free))))
  && targetOk sc.names t&&decide (sc.names.lookup ("__debug__":Str)=none)&&decide (sc.names.lookup ("__classdict__":Str)=none)&&notSet it
noncomputable def seen(sc:Scope)(vars:Jac):Jac:=λx=>if sc.names.lookup x=some .free then vars x else none
end ev
noncomputable def Jd8:Expr->Bool
 |.Call ..=>true
 |_=>false
noncomputable def caught(y n:Str)(vars:Jac)(r:Out D):Out (Jac×Fl):=match r with
 |.ok d σ=>.ok (vars.set y d,.next) σ
 |.exc w k σ=>.ok (λz=>if z=n then none else vars z,.ret (.tup [.str w,.int k])) σ
 |.bad=>.bad
mutual
noncomputable def evE(G:Prg)(cf:Addr->List D->Jaa->Out D):Expr->List (Str×NameKind)->Jac->Jaa->Out D
 |.Constant c _ _,_,_,σ=>.of (constD c) σ
 |.Name x _,nm,vars,σ=>nameD G nm x vars σ
 |.BoolOp op es _,nm,vars,σ=>evB G cf op es nm vars σ
 |.BinOp l op r _,nm,vars,σ=>(evE G cf l nm vars σ).bind λa σ=>(evE G cf r nm vars σ).bind λb σ=>Jae op a b σ
 |.UnaryOp op e _,nm,vars,σ=>(evE G cf e nm vars σ).bind λa σ=>unop op a σ
 |.IfExp t b o _,nm,vars,σ=>(evE G cf t nm vars σ).bind λc σ=>brD c (evE G cf b nm vars σ) (evE G cf o nm vars σ)
 |.List es pos,nm,vars,σ=>if plain es=true/\es.length<=1000 then (evL G cf es nm vars σ).bind λds σ=>if G.lasts pos=true then .ok (.loc σ.length) (σ++[.list ds]) else .ok (.lst ds) σ else .bad
 |.Tuple es _ _,nm,vars,σ=>if plain es=true/\es.length<=1000 then (evL G cf es nm vars σ).bind λds σ=>.ok (.tup ds) σ else .bad
 |.Dict ks vs _,nm,vars,σ=>(keysOf ks).elim .bad λns=>if ns.Nodup/\ns.length<=10/\ns.length=vs.length/\0<ns.length then (evL G cf vs nm vars σ).bind λds σ=>.ok (.loc σ.length) (σ++[.dict ns ds]) else .bad
 |.ListComp elt [⟨t,it,ifs,0⟩] sc _,nm,vars,σ=>if compOk nm sc t it=true then (evE G cf it nm vars σ).bind λd σ=>(compL d (λe=>Jcd t e (seen sc vars)) (λvars σ=>evT G cf ifs sc.names vars σ) (λvars σ=>evE G cf elt sc.names vars σ) σ).bind λes σ=>.ok (.lst es) σ
  else .bad
 |.Compare l ops rs _,nm,vars,σ=>(evE G cf l nm vars σ).bind λa σ=>evC G cf a ops rs nm vars σ
 |.Call (.Attribute o x apos) args ks pos,nm,vars,σ=>if ks.isEmpty=true/\plain args=true/\args.length<28/\apos.endLine=pos.line/\baseOk o=true then
   (evE G cf o nm vars σ).bind λa σ=>if Jah G a x σ=true then (evL G cf args nm vars σ).bind λds σ=>Jak G cf pos a x ds σ else .bad else .bad
 |.Call f args ks _,nm,vars,σ=>if ks.isEmpty=true/\plain args=true/\args.length<28 then (evE G cf f nm vars σ).bind λa σ=>(evL G cf args nm vars σ).bind λds σ=>Jlu cf a ds σ else .bad
 |.Attribute o x _,nm,vars,σ=>if baseOk o=true then (evE G cf o nm vars σ).bind λa σ=>attr G.fld a x σ else .bad
 |.Subscript o (.Slice l u s _) _,nm,vars,σ=>(evE G cf o nm vars σ).bind λa σ=>(evO G cf l nm vars σ).bind λl σ=>(evO G cf u nm vars σ).bind λu σ=>(evO G cf s nm vars σ).bind λs σ=>slice a l u s σ
 |.Subscript o i _,nm,vars,σ=>(evE G cf o nm vars σ).bind λa σ=>(evE G cf i nm vars σ).bind λi σ=>item a i σ
 |_,_,_,_=>.bad
noncomputable def evO(G:Prg)(cf:Addr->List D->Jaa->Out D):Option Expr->List (Str×NameKind)->Jac->Jaa->Out D
 |none,_,_,σ=>.ok .none σ
 |some e,nm,vars,σ=>evE G cf e nm vars σ
noncomputable def evL(G:Prg)(cf:Addr->List D->Jaa->Out D):List Expr->List (Str×NameKind)->Jac->Jaa->Out (List D)
 |[],_,_,σ=>.ok [] σ
 |e::r,nm,vars,σ=>(evE G cf e nm vars σ).bind λd σ=>(evL G cf r nm vars σ).bind λds σ=>.ok (d::ds) σ
noncomputable def evB(G:Prg)(cf:Addr->List D->Jaa->Out D):BoolOp->List Expr->List (Str×NameKind)->Jac->Jaa->Out D
 |_,[],_,_,_=>.bad
 |_,[e],nm,vars,σ=>evE G cf e nm vars σ
 |.And,e::r,nm,vars,σ=>(evE G cf e nm vars σ).bind λd σ=>brD d (evB G cf .And r nm vars σ) (.ok d σ)
 |.Or,e::r,nm,vars,σ=>(evE G cf e nm vars σ).bind λd σ=>brD d (.ok d σ) (evB G cf .Or r nm vars σ)
noncomputable def evT(G:Prg)(cf:Addr->List D->Jaa->Out D):List Expr->List (Str×NameKind)->Jac->Jaa->Out Bool
 |[],_,_,σ=>.ok true σ
 |[e],nm,vars,σ=>(evE G cf e nm vars σ).bind λd σ=>.of (Jb7 d) σ
 |_,_,_,_=>.bad
noncomputable def evC(G:Prg)(cf:Addr->List D->Jaa->Out D):D->List CmpOp->List Expr->List (Str×NameKind)->Jac->Jaa->Out D
 |a,[op],[e],nm,vars,σ=>(evE G cf e nm vars σ).bind λb σ=>Jag op a b σ
 |a,op::ops,e::r,nm,vars,σ=>(evE G cf e nm vars σ).bind λb σ=>(Jag op a b σ).bind λc σ=>brD c (evC G cf b ops r nm vars σ) (.ok c σ)
 |_,_,_,_,_,_=>.bad
end
noncomputable def swapOk:Expr->Expr->Bool
 |.Tuple ..,.Tuple vs _ _=>vs.all (foldedForSure 8)||!vs.all (constantsAlone 8)
 |.List ..,.Tuple ..=>false
 |_,_=>true
noncomputable def asgT(nm:List (Str×NameKind))(vars:Jac)(d:D)(es:List Expr):Option Jac:=(Ja4 es).bind λxs=>(tup? d).bind λds=>if xs.Nodup/\xs.length<=8/\xs.all (Jdm nm)=true then Jbs xs ds vars else none
noncomputable def Jdh:Expr->Bool
 |.Slice ..=>false
 |_=>true
section asg
variable(G:Prg)(cf:Addr->List D->Jaa->Out D)
noncomputable def asg:Expr->D->List (Str×NameKind)->Jac->Jaa->Out Jac
 |.Name x _,d,nm,vars,σ=>if Jdm nm x=true then .ok (vars.set x d) σ else .bad
 |.Tuple es _ _,d,nm,vars,σ=>.of (asgT nm vars d es) σ
 |.Attribute o x _,d,nm,vars,σ=>(evE G cf o nm vars σ).bind λa σ=>(Jd1 G.fld a x d σ).bind λ_ σ=>.ok vars σ
 |.Subscript o i _,d,nm,vars,σ=>if Jdh i=true then (evE G cf o nm vars σ).bind λa σ=>(evE G cf i nm vars σ).bind λi σ=>(Ja7 a i d σ).bind λ_ σ=>.ok vars σ else .bad
 |_,_,_,_,_=>.bad
end asg
noncomputable def raiseD(a b:D)(σ:Jaa):Out (Jac×Fl):=((str? a).bind λw=>(int? b).map λn=>(w,n)).elim .bad λt=>.exc t.1 t.2 σ
noncomputable def two?{α:Type}:List α->Option (α×α)
 |[a,b]=>some (a,b)
 |_=>none
noncomputable def one?{α:Type}:List α->Option α
 |[a]=>some a
 |_=>none
noncomputable def call?:Expr->Option (Expr×List Expr×Pos)
 |.Call f as [] pos=>some (f,as,pos)
 |_=>none
noncomputable def attr?:Expr->Option (Expr×Str×Pos)
 |.Attribute o x pos=>some (o,x,pos)
 |_=>none
noncomputable def raised?(e:Expr):Option (Str×Expr×Expr):=(call? e).bind λc=>(name? c.1).bind λx=>(two? c.2.1).map λes=>(x,es)
set_option genInjectivity false in
structure Tried where
 y:Str
 e:Expr
 c:Str
 n:Str
 m:Str
 told:Str
 apos:Pos
 kpos:Pos
noncomputable def assign?:Stmt->Option (List Expr×Expr)
 |.Assign ts e _=>some (ts,e)
 |_=>none
noncomputable def return?:Stmt->Option Expr
 |.Return (some e) _=>some e
 |_=>none
noncomputable def handler?:ExceptHandler->Option (Expr×Str×List Stmt)
 |.ExceptHandler (some c) (some n) b _=>some (c,n,b)
 |_=>none
noncomputable def body?(b:List Stmt):Option (Str×Expr):=((one? b).bind assign?).bind λa=>((one? a.1).bind name?).map λy=>(y,a.2)
noncomputable def told?(e:Expr):Option (Str×Str×Pos×Pos):=(call? e).bind λk=>(attr? k.1).bind λa=>(name? a.1).bind λm=>opt (k.2.1=[]) (m,a.2.1,a.2.2,k.2.2)
noncomputable def hand?(h:List ExceptHandler):Option (Str×Str×Expr):=((one? h).bind handler?).bind λh=>(name? h.1).bind λc=>((one? h.2.2).bind return?).map λe=>(c,h.2.1,e)
noncomputable def tried?(b:List Stmt)(h:List ExceptHandler):Option Tried:=(body? b).bind λa=>(hand? h).bind λh=>(told? h.2.2).map λt=>⟨a.1,a.2,h.1,h.2.1,t.1,t.2.1,t.2.2.1,t.2.2.2⟩
mutual
noncomputable def evS(G:Prg)(cf:Addr->List D->Jaa->Out D):Stmt->List (Str×NameKind)->Jac->Jaa->Out (Jac×Fl)
 |.Expr e _,nm,vars,σ=>if Jd8 e=true then (evE G cf e nm vars σ).bind λ_ σ=>.ok (vars,.next) σ else .bad
 |.Return v _,nm,vars,σ=>(evO G cf v nm vars σ).bind λd σ=>.ok (vars,.ret d) σ
 |.Assign [t] e _,nm,vars,σ=>if swapOk t e=true then (evE G cf e nm vars σ).bind λd σ=>(asg G cf t d nm vars σ).bind λvars σ=>.ok (vars,.next) σ else .bad
 |.If t b o _,nm,vars,σ=>(evE G cf t nm vars σ).bind λc σ=>brD c (evSs G cf b nm vars σ) (evSs G cf o nm vars σ)
 |.While t b [] _,nm,vars,σ=>Jbh (λvars σ=>evE G cf t nm vars σ) (λvars σ=>evSs G cf b nm vars σ) G.turns vars σ
 |.For t it b [] _,nm,vars,σ=>if Jck nm t=true/\notSet it=true then (evE G cf it nm vars σ).bind λd σ=>forL (λσ=>Jal σ d) (Jcd t) (λvars σ=>evSs G cf b nm vars σ) (Jal σ d) vars σ else .bad
 |.Raise e none _,nm,vars,σ=>((e.bind raised?).bind λt=>opt (t.1=G.exn/\nm.lookup t.1=some .globalImplicit/\plain [t.2.1,t.2.2]=true) t).elim .bad λt=>(evE G cf t.2.1 nm vars σ).bind λa σ=>(evE G cf t.2.2 nm vars σ).bind λb σ=>raiseD a b σ
 |.Try b h [] [] _,nm,vars,σ=>((tried? b h).bind λt=>opt (t.c=G.exn/\t.m=t.n/\t.told="told"/\nm.lookup t.c=some .globalImplicit/\nm.lookup t.n=some .local/\Jdm nm t.y=true/\Jd8 t.e=true/\t.apos.endLine=t.kpos.line) t).elim .bad λt=>caught t.y t.n vars (evE G cf t.e nm vars σ)
 |_,_,_,_=>.bad
noncomputable def evSs(G:Prg)(cf:Addr->List D->Jaa->Out D):List Stmt->List (Str×NameKind)->Jac->Jaa->Out (Jac×Fl)
 |[],_,vars,σ=>.ok (vars,.next) σ
 |s::r,nm,vars,σ=>(evS G cf s nm vars σ).bind λv σ=>match v.2 with
  |.next=>evSs G cf r nm v.1 σ
  |.ret d=>.ok (v.1,.ret d) σ
end
noncomputable def evFs(G:Prg)(cf:Addr->List D->Jaa->Out D):List (Str×Expr)->List (Str×NameKind)->Jac->Jaa->Out (List D)
 |[],_,_,σ=>.ok [] σ
 |(_,e)::r,nm,vars,σ=>(evE G cf e nm vars σ).bind λd σ=>(evFs G cf r nm vars σ).bind λds σ=>.ok (d::ds) σ
noncomputable def Jbg:List Str->List D->Jac
 |x::xs,d::ds=>(Jbg xs ds).set x d
 |_,_=>λ_=>none
noncomputable def cfn(G:Prg):Nat->Addr->List D->Jaa->Out D
 |0,_,_,_=>.bad
 |n+1,a,as,σ=>match G.fn a,G.cls a with
  |some (ps,sc,body),_=>if ps.length=as.length then (evSs G (cfn G n) body sc.names (Jbg ps as) σ).bind λr σ=>(match r.2 with
    |.next=>.ok .none σ
    |.ret d=>.ok d σ) else .bad
  |none,some (frozen,ps,sc,fs)=>if ps.length=as.length then (evFs G (cfn G n) fs sc.names (Jbg ps as) σ).bind λds σ=>
    if frozen=true then .ok (.inst a (fs.map (·.1)) ds) σ else .ok (.obj a σ.length) (σ++[.dict (fs.map (·.1)) ds]) else .bad
  |none,none=>.bad
section eqs
variable{G:Prg}{cf:Addr->List D->Jaa->Out D}{nm:List (Str×NameKind)}{vars:Jac}{σ:Jaa}{pos:Pos}
theorem Jj6{c k}:evE G cf (.Constant c k pos) nm vars σ=.of (constD c) σ:=rfl
theorem Jej{y}:evE G cf (.Name y pos) nm vars σ=nameD G nm y vars σ:=rfl
theorem Jhv{op es}:evE G cf (.BoolOp op es pos) nm vars σ=evB G cf op es nm vars σ:=rfl
theorem Jrv{l op r}:evE G cf (.BinOp l op r pos) nm vars σ=(evE G cf l nm vars σ).bind λa σ=>(evE G cf r nm vars σ).bind λb σ=>Jae op a b σ:=rfl
theorem Jgv{op e}:evE G cf (.UnaryOp op e pos) nm vars σ=(evE G cf e nm vars σ).bind λa σ=>unop op a σ:=rfl
theorem Jj5{t b o}:evE G cf (.IfExp t b o pos) nm vars σ=(evE G cf t nm vars σ).bind λc σ=>brD c (evE G cf b nm vars σ) (evE G cf o nm vars σ):=rfl
theorem evE_List{es}:evE G cf (.List es pos) nm vars σ=if plain es=true/\es.length<=1000 then (evL G cf es nm vars σ).bind λds σ=>if G.lasts pos=true then .ok (.loc σ.length) (σ++[.list ds]) else .ok (.lst ds) σ else .bad:=rfl
theorem Jrt{es k}:evE G cf (.Tuple es k pos) nm vars σ=if plain es=true/\es.length<=1000 then (evL G cf es nm vars σ).bind λds σ=>.ok (.tup ds) σ else .bad:=rfl
theorem Jgw{l ops rs}:evE G cf (.Compare l ops rs pos) nm vars σ=(evE G cf l nm vars σ).bind λa σ=>evC G cf a ops rs nm vars σ:=rfl
theorem Jiy{elt t it ifs sc}:evE G cf (.ListComp elt [⟨t,it,ifs,0⟩] sc pos) nm vars σ=if compOk nm sc t it=true then (evE G cf it nm vars σ).bind λd σ=>(compL d (λe=>Jcd t e (seen sc vars)) (λvars σ=>evT G cf ifs sc.names vars σ) (λvars σ=>evE G cf elt sc.names vars σ) σ).bind λes σ=>.ok (.lst es) σ
  else .bad:=rfl
theorem Jiz{o y}:evE G cf (.Attribute o y pos) nm vars σ=if baseOk o=true then (evE G cf o nm vars σ).bind λa σ=>attr G.fld a y σ else .bad:=rfl
theorem evE_meth{o y apos args ks}:evE G cf (.Call (.Attribute o y apos) args ks pos) nm vars σ=if ks.isEmpty=true/\plain args=true/\args.length<28/\apos.endLine=pos.line/\baseOk o=true then
   (evE G cf o nm vars σ).bind λa σ=>if Jah G a y σ=true then (evL G cf args nm vars σ).bind λds σ=>Jak G cf pos a y ds σ else .bad else .bad:=rfl
theorem Jru{o l u s q}:evE G cf (.Subscript o (.Slice l u s q) pos) nm vars σ=(evE G cf o nm vars σ).bind λa σ=>(evO G cf l nm vars σ).bind λl σ=>(evO G cf u nm vars σ).bind λu σ=>(evO G cf s nm vars σ).bind λs σ=>slice a l u s σ:=rfl
theorem evL_nil:evL G cf [] nm vars σ=.ok [] σ:=rfl
theorem Jei{e r}:evL G cf (e::r) nm vars σ=(evE G cf e nm vars σ).bind λd σ=>(evL G cf r nm vars σ).bind λds σ=>.ok (d::ds) σ:=rfl
theorem Jrw{op e}:evB G cf op [e] nm vars σ=evE G cf e nm vars σ:=rfl
theorem Jrx{e e2 r}:evB G cf .And (e::e2::r) nm vars σ=(evE G cf e nm vars σ).bind λd σ=>brD d (evB G cf .And (e2::r) nm vars σ) (.ok d σ):=rfl
theorem evB_Or{e e2 r}:evB G cf .Or (e::e2::r) nm vars σ=(evE G cf e nm vars σ).bind λd σ=>brD d (.ok d σ) (evB G cf .Or (e2::r) nm vars σ):=rfl
theorem evC_one{a op e}:evC G cf a [op] [e] nm vars σ=(evE G cf e nm vars σ).bind λb σ=>Jag op a b σ:=rfl
theorem Jnj{y d}:asg G cf (.Name y pos) d nm vars σ=if Jdm nm y=true then .ok (vars.set y d) σ else .bad:=rfl
theorem Jg0{es k d}:asg G cf (.Tuple es k pos) d nm vars σ=.of (asgT nm vars d es) σ:=rfl
theorem Ji6{o i d}:asg G cf (.Subscript o i pos) d nm vars σ=if Jdh i=true then (evE G cf o nm vars σ).bind λa σ=>(evE G cf i nm vars σ).bind λi σ=>(Ja7 a i d σ).bind λ_ σ=>.ok vars σ else .bad:=rfl
theorem Ji7{o y d}:asg G cf (.Attribute o y pos) d nm vars σ=(evE G cf o nm vars σ).bind λa σ=>(Jd1 G.fld a y d σ).bind λ_ σ=>.ok vars σ:=rfl
theorem evS_Expr{e}:evS G cf (.Expr e pos) nm vars σ=if Jd8 e=true then (evE G cf e nm vars σ).bind λ_ σ=>.ok (vars,.next) σ else .bad:=rfl
theorem Joj{v}:evS G cf (.Return v pos) nm vars σ=(evO G cf v nm vars σ).bind λd σ=>.ok (vars,.ret d) σ:=rfl
theorem Jok{t e}:evS G cf (.Assign [t] e pos) nm vars σ=if swapOk t e=true then (evE G cf e nm vars σ).bind λd σ=>(asg G cf t d nm vars σ).bind λvars σ=>.ok (vars,.next) σ else .bad:=rfl
theorem evS_If{t b o}:evS G cf (.If t b o pos) nm vars σ=(evE G cf t nm vars σ).bind λc σ=>brD c (evSs G cf b nm vars σ) (evSs G cf o nm vars σ):=rfl
theorem Jrs{t b}:evS G cf (.While t b [] pos) nm vars σ=Jbh (λvars σ=>evE G cf t nm vars σ) (λvars σ=>evSs G cf b nm vars σ) G.turns vars σ:=rfl
theorem evS_For{t it b}:evS G cf (.For t it b [] pos) nm vars σ=if Jck nm t=true/\notSet it=true then (evE G cf it nm vars σ).bind λd σ=>forL (λσ=>Jal σ d) (Jcd t) (λvars σ=>evSs G cf b nm vars σ) (Jal σ d) vars σ else .bad:=rfl
theorem evSs_nil:evSs G cf [] nm vars σ=.ok (vars,.next) σ:=rfl
theorem Jrr{st r}:evSs G cf (st::r) nm vars σ=(evS G cf st nm vars σ).bind λv σ=>match v.2 with
  |.next=>evSs G cf r nm v.1 σ
  |.ret d=>.ok (v.1,.ret d) σ:=rfl
end eqs
end
section
noncomputable def Jaj(x:Cx)(q:Pt)(d:D)(v:Value):Prop:=Rel x.w.params q.B q.ρ d v
noncomputable def RelVs(x:Cx)(q:Pt)(ds:List D)(vs:List Value):Prop:=Jay x.w.params q.B q.ρ ds vs
section prim
variable{x:Cx}{fs:List Env}{A:Around}{Pv:List Addr}{p:Pt}
theorem W.tk{α:Type}{t:Sem α}{β:Type}{d:β}{R:Pt->β->α->Prop}(I:Inv x fs p)
  (h:∀(Q:α->Shared->Prop) (E:Value->Shared->Prop),(∀v tk,R (p.tick tk) d v->Q v { p.s with toks:=tk })->wpAny (model x.prog x.w) A t Q E p.s):W x fs A Pv t (.ok d p.σ) R p:=
 λ_=>h _ _ λv tk hr=>⟨d,p.tick tk,rfl,rfl,I.tick tk,.tick ..,hr⟩
theorem W.push{t:Sem Value}{d:D}(I:Inv x fs p)(o:Obj)(hf:o.isFreed=false)
  (h:∀(Q:Value->Shared->Prop) (E:Value->Shared->Prop),(∀tk,Q (.ref p.s.heap.objs.size) { p.s with heap:=p.s.heap.push o,toks:=tk })->wpAny (model x.prog x.w) A t Q E p.s)
  (hr:∀tk,Jaj x (p.push o tk) d (.ref p.s.heap.objs.size)):W x fs A Pv t (.ok d p.σ) (Jaj x) p:=
 λ_=>h _ _ λtk=>⟨d,p.push o tk,rfl,rfl,I.push o hf tk,.push I ..,hr tk⟩
theorem W.bad{α β:Type}{t:Sem α}{R:Pt->β->α->Prop}:W x fs A Pv t .bad R p:=λh=>absurd rfl h
theorem W.of{α β:Type}{t:Sem α}{R:Pt->β->α->Prop}{c:Option β}{σ:Jaa}(h:∀d,c=some d->W x fs A Pv t (.ok d σ) R p):W x fs A Pv t (.of c σ) R p:=by
 unfold Out.of
 split
 ·exact h _ rfl
 ·exact .bad
theorem ff{P:Prop}(h:false=true):P:=nomatch h
theorem no{P:Prop}{α:Type}{a:α}(h:(none:Option α)=some a):P:=nomatch h
theorem int?_was(d:D):(int? d).elim True λi=>d=.int i:=by cases d<;>first | exact trivial | rfl
theorem Jbp{d:D}{i:Int}(h:int? d=some i):d=.int i:=by have:=int?_was d;rwa [h] at this
theorem str?_was(d:D):(str? d).elim True λi=>d=.str i:=by cases d<;>first | exact trivial | rfl
theorem Jeu{d:D}{i:Str}(h:str? d=some i):d=.str i:=by have:=str?_was d;rwa [h] at this
theorem Jov(d:D):(bytes? d).elim True λi=>d=.bytes i:=by cases d<;>first | exact trivial | rfl
theorem Jsf{d:D}{i:Array UInt8}(h:bytes? d=some i):d=.bytes i:=by have:=Jov d;rwa [h] at this
theorem tup?_was(d:D):(tup? d).elim True λi=>d=.tup i:=by cases d<;>first | exact trivial | rfl
theorem Jkn{d:D}{i:List D}(h:tup? d=some i):d=.tup i:=by have:=tup?_was d;rwa [h] at this
theorem loc?_was(d:D):(loc? d).elim True λi=>d=.loc i:=by cases d<;>first | exact trivial | rfl
theorem Jqw{d:D}{i:Nat}(h:loc? d=some i):d=.loc i:=by have:=loc?_was d;rwa [h] at this
theorem Jsh(d:D):(Jb7 d).elim True λi=>d=.bool i:=by cases d<;>first | exact trivial | rfl
theorem Jnd{d:D}{i:Bool}(h:Jb7 d=some i):d=.bool i:=by have:=Jsh d;rwa [h] at this
theorem Jqo(e:Expr):(name? e).elim True λx=>∃pos,e=.Name x pos:=by cases e<;>first | exact trivial | exact ⟨_,rfl⟩
theorem Jeg{e:Expr}{x:Str}(h:name? e=some x):∃pos,e=.Name x pos:=by have:=Jqo e;rwa [h] at this
theorem Jnn(e:Expr):(tuple? e).elim True λes=>∃k pos,e=.Tuple es k pos:=by cases e<;>first | exact trivial | exact ⟨_,_,rfl⟩
theorem Jo8{e:Expr}{es:List Expr}(h:tuple? e=some es):∃k pos,e=.Tuple es k pos:=by have:=Jnn e;rwa [h] at this
theorem Jon(d:Expr):(const? d).elim True λi=>∃z0 z1,d=.Constant i z0 z1:=by cases d<;>first | exact trivial | exact ⟨_,_,rfl⟩
theorem Jr6{d:Expr}{i:Const}(h:const? d=some i):∃z0 z1,d=.Constant i z0 z1:=by have:=Jon d;rwa [h] at this
theorem Jpm(d:Const):(strC? d).elim True λi=>d=.str i:=by cases d<;>first | exact trivial | exact rfl
theorem strC?_of{d:Const}{i:Str}(h:strC? d=some i):d=.str i:=by have:=Jpm d;rwa [h] at this
theorem Jsj(d:Expr):(attr? d).elim True λi=>d=.Attribute i.1 i.2.1 i.2.2:=by cases d<;>first | exact trivial | exact rfl
theorem attr?_of{d:Expr}{i:Expr×Str×Pos}(h:attr? d=some i):d=.Attribute i.1 i.2.1 i.2.2:=by have:=Jsj d;rwa [h] at this
theorem Jlz(d:Stmt):(assign? d).elim True λi=>∃z0,d=.Assign i.1 i.2 z0:=by cases d<;>first | exact trivial | exact ⟨_,rfl⟩
theorem Jo1{d:Stmt}{i:List Expr×Expr}(h:assign? d=some i):∃z0,d=.Assign i.1 i.2 z0:=by have:=Jlz d;rwa [h] at this
theorem Jsc(d:Expr):(call? d).elim True λi=>d=.Call i.1 i.2.1 [] i.2.2:=by
 cases d with
 |Call f as ks pos=>cases ks<;>first | exact trivial | rfl
 |_=>exact trivial
theorem Jnc{d:Expr}{i:Expr×List Expr×Pos}(h:call? d=some i):d=.Call i.1 i.2.1 [] i.2.2:=by have:=Jsc d;rwa [h] at this
theorem Jku(d:Stmt):(return? d).elim True λi=>∃z,d=.Return (some i) z:=by
 cases d with
 |Return v pos=>cases v<;>first | exact trivial | exact ⟨_,rfl⟩
 |_=>exact trivial
theorem Jny{d:Stmt}{i:Expr}(h:return? d=some i):∃z,d=.Return (some i) z:=by have:=Jku d;rwa [h] at this
theorem Jjx(d:ExceptHandler):(handler? d).elim True λi=>∃z,d=.ExceptHandler (some i.1) (some i.2.1) i.2.2 z:=by
 obtain ⟨c,n,b,pos⟩:=d
 cases c<;>cases n<;>first | exact trivial | exact ⟨_,rfl⟩
theorem Jlh{d:ExceptHandler}{i:Expr×Str×List Stmt}(h:handler? d=some i):∃z,d=.ExceptHandler (some i.1) (some i.2.1) i.2.2 z:=by have:=Jjx d;rwa [h] at this
theorem Jif{α:Type}{l:List α}{a:α}(h:one? l=some a):l=[a]:=by
 match l,h with
 |[a],h=>cases h;rfl
 |[],h=>exact no h
 |_::_::_,h=>exact no h
theorem Jo6{α:Type}{l:List α}{a:α×α}(h:two? l=some a):l=[a.1,a.2]:=by
 match l,h with
 |[a,b],h=>cases h;rfl
 |[],h=>exact no h
 |[_],h=>exact no h
 |_::_::_::_,h=>exact no h
theorem Jax{α:Type}{c:Prop}[Decidable c]{a b:α}(h:opt c a=some b):c/\b=a:=by
 unfold opt at h;split at h
 ·rename_i hc;cases h;exact ⟨hc,rfl⟩
 ·cases h
theorem Jbd{α:Type}{c:Prop}[Decidable c]{x y:Option α}{b:α}(h:(if c then x else y)=some b):(c/\x=some b)\/y=some b:=by
 split at h
 ·rename_i hc;exact .inl ⟨hc,h⟩
 ·exact .inr h
inductive BindOf{α β:Type}(x:Option α)(f:α->Option β)(b:β):Prop
 |mk (a:α) (h:x=some a) (k:f a=some b)
theorem Jaf{α β:Type}{x:Option α}{f:α->Option β}{b:β}(h:x.bind f=some b):BindOf x f b:=by
 cases x with
 |none=>exact nomatch h
 |some a=>exact ⟨a,rfl,h⟩
theorem Ja3{α β:Type}{x:Option α}{f:α->β}{b:β}(h:x.map f=some b):∃a,x=some a/\f a=b:=Option.map_eq_some_iff.mp h
theorem two_of{a b d:D}{k:Int->Int->Option D}(h:two a b k=some d):∃i j,a=.int i/\b=.int j/\k i j=some d:=by
 obtain ⟨i,h1,h⟩:=Jaf h
 obtain ⟨j,h2,h⟩:=Jaf h
 exact ⟨i,j,Jbp h1,Jbp h2,h⟩
theorem Jbo{i:Int}{v:Value}{P B ρ}(h:Rel P B ρ (.int i) v):∃t,v=.int i t:=h
theorem Jb1{i:Str}{v:Value}{P B ρ}(h:Rel P B ρ (.str i) v):∃t,v=.str i t:=h
theorem Jdf{i:Array UInt8}{v:Value}{P B ρ}(h:Rel P B ρ (.bytes i) v):∃t,v=.bytes i t:=h
theorem Jdg{i:Bool}{v:Value}{P B ρ}(h:Rel P B ρ (.bool i) v):v=.bool i:=h
theorem Jcg{i:Int}{t:Tok}{q:Pt}:Jaj x q (.int i) (.int i t):=rlInt
theorem Jia{i:Str}{t:Tok}{q:Pt}:Jaj x q (.str i) (.str i t):=rlStr
theorem Ji3{i:Array UInt8}{t:Tok}{q:Pt}:Jaj x q (.bytes i) (.bytes i t):=rlByt
theorem Jdr{i:Bool}{q:Pt}:Jaj x q (.bool i) (.bool i):=(rfl:Value.bool i=.bool i)
theorem Jd0{v:Value}{P B ρ}(h:Rel P B ρ .none v):v=.none:=h
theorem W.elim{α β γ:Type}{t:Sem α}{R:Pt->β->α->Prop}{c:Option γ}{k:γ->Out β}(h:∀d,c=some d->W x fs A Pv t (k d) R p):W x fs A Pv t (c.elim .bad k) R p:=by
 cases c with
 |none=>exact .bad
 |some d=>exact h d rfl
theorem W.upd{α:Type}{t:Sem α}{R:Pt->Unit->α->Prop}{c:Option Jaa}(h:∀σ,c=some σ->W x fs A Pv t (.ok () σ) R p):W x fs A Pv t (.upd c) R p:=by
 cases c with
 |none=>exact .bad
 |some d=>exact h d rfl
theorem W.ite{α β:Type}{t:Sem α}{R:Pt->β->α->Prop}{c:Prop}[Decidable c]{k k':Out β}(h:c->W x fs A Pv t k R p)(h':¬ c->W x fs A Pv t k' R p):W x fs A Pv t (if c then k else k') R p:=by
 split
 ·exact h ‹_›
 ·exact h' ‹_›
theorem W.guard{α β:Type}{t:Sem α}{R:Pt->β->α->Prop}{c:Prop}[Decidable c]{k:Out β}(h:c->W x fs A Pv t k R p):W x fs A Pv t (if c then k else .bad) R p:=.ite h λ_=>.bad
inductive ListAt(x:Cx)(p:Pt)(ds:List D)(v:Value):Prop
 |mk (a:Addr) (vs:Array Value) (e:v=.ref a) (h:p.s.heap.IsList a vs) (r:RelVs x p ds vs.toList)
inductive TupAt(x:Cx)(p:Pt)(ds:List D)(v:Value):Prop
 |mk (a:Addr) (vs:Array Value) (e:v=.ref a) (h:p.s.heap.IsTuple a vs) (r:RelVs x p ds vs.toList)
theorem Jaw(I:Inv x fs p){d:D}{v:Value}{ds:List D}(h:Jaj x p d v)(e:Jau p.σ d=some ds):ListAt x p ds v:=by
 unfold Jaj at h
 cases d with
 |lst ds'=>
  cases e
  obtain ⟨a,o,vs,n,rfl,h1,h2,h3,h4⟩:=h
  exact ⟨a,vs,rfl,⟨o,I.froz _ _ h1,h2,n,h3⟩,h4⟩
 |loc i=>
  obtain ⟨m,hs,e⟩:=Jaf e
  cases m with
  |list ds'=>
   cases e
   obtain ⟨a,rfl,ha⟩:=h
   obtain ⟨o,ho,hm⟩:=I.mu i a _ ha hs
   obtain ⟨vs,n,rfl,hr⟩:=hm
   exact ⟨a,vs,rfl,⟨_,ho,rfl,n,rfl⟩,hr⟩
  |dict _ _=>exact no e
 |_=>exact no e
theorem Jay.len{P B ρ}:∀{ds:List D} {vs:List Value},Jay P B ρ ds vs->vs.length=ds.length
 |[],_,h=>by cases Jdp h;rfl
 |d::ds,_,h=>by
  obtain ⟨v,r,rfl,_,h⟩:=h
  rw[List.length_cons,List.length_cons,Jay.len h]
theorem Jay.app{P B ρ}:∀{ds es:List D} {vs us:List Value},Jay P B ρ ds vs->Jay P B ρ es us->Jay P B ρ (ds++es) (vs++us)
 |[],_,_,_,h,h'=>by cases Jdp h;exact h'
 |d::ds,_,_,_,h,h'=>by
  obtain ⟨v,r,rfl,h1,h⟩:=h
  exact mkC h1 (h.app h')
theorem Jay.get{P B ρ}:∀{ds:List D} {vs:List Value},Jay P B ρ ds vs->∀(k:Nat) d,ds[k]?=some d->∃v,vs[k]?=some v/\Rel P B ρ d v
 |[],_,_,k,d,e=>no e
 |d::ds,_,h,k,d',e=>by
  obtain ⟨v,r,rfl,h1,h⟩:=h
  cases k with
  |zero=>cases e;exact ⟨v,rfl,h1⟩
  |succ k=>exact h.get k d' e
theorem Jay.set{P B ρ}{d':D}{v':Value}(h':Rel P B ρ d' v'):∀{ds:List D} {vs:List Value},Jay P B ρ ds vs->∀k:Nat,Jay P B ρ (ds.set k d') (vs.set k v')
 |[],_,h,k=>by cases Jdp h;exact mkN
 |d::ds,_,h,k=>by
  obtain ⟨v,r,rfl,h1,h⟩:=h
  cases k with
  |zero=>exact mkC h' h
  |succ k=>exact mkC h1 (h.set h' k)
theorem Jay.erase{P B ρ}:∀{ds:List D} {vs:List Value},Jay P B ρ ds vs->∀k:Nat,Jay P B ρ (ds.eraseIdx k) (vs.eraseIdx k)
 |[],_,h,k=>by cases Jdp h;exact mkN
 |d::ds,_,h,k=>by
  obtain ⟨v,r,rfl,h1,h⟩:=h
  cases k with
  |zero=>exact h
  |succ k=>exact mkC h1 (h.erase k)
theorem Jay.insert{P B ρ}{d':D}{v':Value}(h':Rel P B ρ d' v'):∀{ds:List D} {vs:List Value},Jay P B ρ ds vs->∀k:Nat,k<=ds.length->Jay P B ρ (ds.insertIdx k d') (vs.insertIdx k v')
 |[],_,h,k,hk=>by
  cases Jdp h
  cases Nat.le_zero.mp hk
  exact mkC h' mkN
 |d::ds,_,h,k,hk=>by
  have hh:=h
  obtain ⟨v,r,rfl,h1,h⟩:=h
  cases k with
  |zero=>exact mkC h' hh
  |succ k=>exact mkC h1 (h.insert h' k (Nat.le_of_succ_le_succ hk))
theorem Jay.strs{P B ρ}:∀{ds:List D} {vs:List Value} {ys:List Str},Jay P B ρ ds vs->Jb5 ds=some ys->StrsAre vs ys
 |[],_,_,h,e=>by cases Jdp h;cases e;exact .nil
 |d::ds,_,_,h,e=>by
  obtain ⟨v,r,rfl,h1,h⟩:=h
  obtain ⟨i,e0,e⟩:=Jaf e
  cases Jeu e0
  obtain ⟨ys',e',rfl⟩:=Ja3 e
  obtain ⟨t,rfl⟩:=h1
  exact .cons _ _ (h.strs e')
theorem Jay.ints{P B ρ}:∀{ds:List D} {vs:List Value} {ys:List Int},Jay P B ρ ds vs->intsOf ds=some ys->IntsAre vs ys
 |[],_,_,h,e=>by cases Jdp h;cases e;exact .nil
 |d::ds,_,_,h,e=>by
  obtain ⟨v,r,rfl,h1,h⟩:=h
  obtain ⟨i,e0,e⟩:=Jaf e
  cases Jbp e0
  obtain ⟨ys',e',rfl⟩:=Ja3 e
  obtain ⟨t,rfl⟩:=h1
  exact .cons _ _ (h.ints e')
theorem Jay.bools{P B ρ}:∀{ds:List D} {vs:List Value} {ys:List Bool},Jay P B ρ ds vs->boolsOf ds=some ys->vs=ys.map .bool
 |[],_,_,h,e=>by cases Jdp h;cases e;rfl
 |d::ds,_,_,h,e=>by
  obtain ⟨v,r,rfl,h1,h⟩:=h
  obtain ⟨i,e0,e⟩:=Jaf e
  cases Jnd e0
  obtain ⟨ys',e',rfl⟩:=Ja3 e
  cases Jdg h1
  rw[h.bools e'];rfl
theorem Jay.of_strs{P B ρ}:∀{l:List (Str×Tok)},Jay P B ρ ((l.map (·.1)).map .str) (strValues l)
 |[]=>(rfl:([]:List Value)=[])
 |(y,t)::l=>by
  exact mkL ⟨_,_,rfl,rlStr,Jay.of_strs (l:=l)⟩
theorem Jdz{o:Obj}{vs:Array Value}{n:Nat}{tk:Nat}{ds:List D}(I:Inv x fs p)(h:RelVs x p ds vs.toList)(ho:o={ cls:=.type "list",data:=.seq vs n }):Jaj x (p.push o tk) (.lst ds) (.ref p.s.heap.objs.size):=by
 subst ho
 exact mkLst ⟨_,_,vs,n,rfl,Pt.push_get ..,rfl,rfl,Jay.mono (Ext.push I _ [] tk).sub h⟩
theorem Jmd{o:Obj}{vs:Array Value}{n:Nat}{tk:Nat}{ds:List D}(I:Inv x fs p)(h:RelVs x p ds vs.toList)(ho:o={ cls:=.type "tuple",data:=.seq vs n }):Jaj x (p.push o tk) (.tup ds) (.ref p.s.heap.objs.size):=by
 subst ho
 exact mkTup ⟨_,_,vs,n,rfl,Pt.push_get ..,rfl,rfl,Jay.mono (Ext.push I _ [] tk).sub h⟩
end prim
theorem Jb2:line<=sizeLine:=by rw[sizeLine_eq];unfold line;decide
theorem Jdl:line=1048576:=rfl
end
section
section
variable{x:Cx}{fs:List Env}{A:Around}{Pv:List Addr}{p:Pt}{n:Nat}
theorem Jg9{a:Int}(h:small a):Builtin.Int.intBits a<=64:=by
 unfold small at h
 unfold Builtin.Int.intBits
 split
 ·exact Nat.zero_le _
 ·rename_i hz;have:=(Nat.log2_lt (by simpa using hz)).mpr h;exact ar74 this
theorem mul_ok{a b:Int}(h:small a\/small b):IntMulOk a b:=by
 unfold IntMulOk
 rcases h with h | h
 ·have:=Jg9 h
  simp[shortFactorBits];omega
 ·have:=Jg9 h
  simp[shortFactorBits];omega
theorem Jnr{s:Str}{b:Int}(h0:0<=b)(h1:b<=1000)(h2:s.length<=1000):MulOk s b:=
 mulOk_of 1000 1000 h2 h1 (by omega) (by decide) (by decide)
theorem Jr7{prog:Program}{w:World}{A:Around}{E:Value->Shared->Prop}{s:Shared}{l b:Addr}{vs ws:Array Value}{Q:Value->Shared->Prop}(hl:s.heap.IsList l vs)(hb:s.heap.IsList b ws)
  (h:Q (.ref s.heap.objs.size) { s with heap:=s.heap.push { cls:=.type "list",data:=.seq (vs++ws) } }) (hsz:vs.size+ws.size<=sizeLine) :
  wpAny (model prog w) A (binaryOp .Add (.ref l) (.ref b)) Q E s:=by
 obtain ⟨⟨cls,dd,data,sl⟩,ho,hc,n,hd⟩:=id hl
 obtain ⟨⟨cls2,dd2,data2,sl2⟩,ho2,hc2,n2,hd2⟩:=id hb
 simp only at hc hd hc2 hd2
 subst hc hd hc2 hd2
 exact concat_meets ⟨_,ho,rfl⟩ ⟨_,ho2,rfl⟩ noFill_list_add seq_list_add PySem.F.slot_list_add PySem.F.entry_list_add (PySem.F.args_list_add_2 _ _) (list_addW l b vs ws n n2 dd dd2 sl sl2 hsz) ⟨ho,ho2,h⟩
theorem concat_W(I:Inv x fs p){a b d:D}{va vb:Value}(ha:Jaj x p a va)(hb:Jaj x p b vb)(h:addL a b p.σ=some d):W x fs A Pv (binaryOp .Add va vb) (.ok d p.σ) (Jaj x) p:=by
 obtain ⟨xs,e1,h⟩:=Jaf h
 obtain ⟨ys,e2,h⟩:=Jaf h
 obtain ⟨hc,rfl⟩:=Jax h
 obtain ⟨a1,vs,rfl,hl,hr⟩:=Jaw I ha e1
 obtain ⟨b1,ws,rfl,hl2,hr2⟩:=Jaw I hb e2
 have h1:=hr.len
 have h2:=hr2.len
 rw[Array.length_toList] at h1 h2
 refine W.push I { cls:=.type "list",data:=.seq (vs++ws) } rfl (λQ E h=>Jr7 hl hl2 (h _) (by rw[h1,h2];exact Nat.le_trans hc Jb2)) λtk=>Jdz I ?_ rfl
 show Jay _ _ _ _ _
 rw[Array.toList_append]
 exact hr.app hr2
theorem Jf9{t:Value->Value->Sem Value}{a b:D}{va vb:Value}{d:D}{k:Int->Int->Option D}(ha:Jaj x p a va)(hb:Jaj x p b vb)(h:two a b k=some d)(f:∀i t1 j t2,k i j=some d->W x fs A Pv (t (.int i t1) (.int j t2)) (.ok d p.σ) (Jaj x) p):W x fs A Pv (t va vb) (.ok d p.σ) (Jaj x) p:=by
 obtain ⟨i,j,rfl,rfl,h⟩:=two_of h
 obtain ⟨t1,rfl⟩:=Jbo ha
 obtain ⟨t2,rfl⟩:=Jbo hb
 exact f i t1 j t2 h
theorem add_W(I:Inv x fs p){a b d:D}{va vb:Value}(ha:Jaj x p a va)(hb:Jaj x p b vb)(h:addO a b p.σ=some d):W x fs A Pv (binaryOp .Add va vb) (.ok d p.σ) (Jaj x) p:=by
 cases a with
 |int i=>
  obtain ⟨j,h1,rfl⟩:=Ja3 h
  cases Jbp h1
  obtain ⟨t,rfl⟩:=Jbo ha
  obtain ⟨u,rfl⟩:=Jbo hb
  exact W.tk I λQ E h=>add_int (h _ _ Jcg)
 |str s=>
  obtain ⟨j,h1,h⟩:=Jaf h
  cases Jeu h1
  obtain ⟨hc,rfl⟩:=Jax h
  obtain ⟨t,rfl⟩:=Jb1 ha
  obtain ⟨u,rfl⟩:=Jb1 hb
  exact W.tk I λQ E h=>SBL.add (λt' k _=>h _ _ Jia) (Nat.le_trans hc Jb2)
 |bytes s=>
  obtain ⟨j,h1,h⟩:=Jaf h
  cases Jsf h1
  obtain ⟨hc,rfl⟩:=Jax h
  obtain ⟨t,rfl⟩:=Jdf ha
  obtain ⟨u,rfl⟩:=Jdf hb
  exact W.tk I λQ E h=>KBy.add_bytes (by rw[Jdl] at hc;exact ar249 hc) λt' k=>h _ _ Ji3
 |_=>exact concat_W I ha hb h
theorem mulO_W(I:Inv x fs p){a b d:D}{va vb:Value}(ha:Jaj x p a va)(hb:Jaj x p b vb)(h:mulO a b=some d):W x fs A Pv (binaryOp .Mult va vb) (.ok d p.σ) (Jaj x) p:=by
 cases a with
 |int i=>
  obtain ⟨j,h1,h⟩:=Jaf h
  cases Jbp h1
  obtain ⟨hc,rfl⟩:=Jax h
  obtain ⟨t,rfl⟩:=Jbo ha
  obtain ⟨u,rfl⟩:=Jbo hb
  exact W.tk I λQ E h=>mul_int (h _ _ Jcg) (mul_ok hc)
 |str s=>
  obtain ⟨j,h1,h⟩:=Jaf h
  cases Jbp h1
  obtain ⟨⟨h0,h1,h2⟩,rfl⟩:=Jax h
  obtain ⟨t,rfl⟩:=Jb1 ha
  obtain ⟨u,rfl⟩:=Jbo hb
  exact W.tk I λQ E h=>SB.mul (Jnr h0 h1 h2) λt' k=>h _ _ Jia
 |_=>exact no h
theorem binop_W(hA:A.handled=none)(I:Inv x fs p){op:Operator}{a b:D}{va vb:Value}(ha:Jaj x p a va)(hb:Jaj x p b vb):W x fs A Pv (binaryOp op va vb) (Jae op a b p.σ) (Jaj x) p:=by
 refine W.of λd h=>?_
 cases op with
 |Add=>exact add_W I ha hb h
 |Mult=>exact mulO_W I ha hb h
 |Sub=>exact Jf9 ha hb h λi t1 j t2 h=>by cases h;exact W.tk I λQ E h=>sub_int (h _ _ Jcg)
 |Mod=>exact Jf9 ha hb h λi t1 j t2 h=>by obtain ⟨hc,rfl⟩:=Jax h;exact W.tk I λQ E h=>mod_int' hc (h _ _ Jcg)
 |FloorDiv=>exact Jf9 ha hb h λi t1 j t2 h=>by obtain ⟨⟨h0,h1⟩,rfl⟩:=Jax h;exact W.tk I λQ E h=>floordiv_int h0 (h _ _ Jcg) (.inl (PyProof.noPylong_small h1))
 |Pow=>exact Jf9 ha hb h λi t1 j t2 h=>by obtain ⟨⟨h0,h1,h2⟩,rfl⟩:=Jax h;exact W.tk I λQ E h=>pow_int_small h1 (by exact ar104 h2) h0 (h _ _ Jcg)
 |RShift=>exact Jf9 ha hb h λi t1 j t2 h=>by obtain ⟨hc,rfl⟩:=Jax h;exact W.tk I λQ E h=>rshift_int hc (h _ _ Jcg)
 |BitAnd=>exact Jf9 ha hb h λi t1 j t2 h=>by cases h;exact W.tk I λQ E h=>and_int (h _ _ Jcg)
 |_=>exact no h
theorem unop_W(hA:A.handled=none)(I:Inv x fs p){op:UnaryOp}{a:D}{va:Value}(ha:Jaj x p a va):W x fs A Pv (unaryOp op va) (unop op a p.σ) (Jaj x) p:=by
 refine W.of λd h=>?_
 cases op with
 |Not=>
  obtain ⟨b,h1,rfl⟩:=Ja3 h
  cases Jnd h1
  cases Jdg ha
  exact W.tk I λQ E h=>not_of (wpAny_truthy_bool (h _ _ Jdr))
 |USub=>
  obtain ⟨b,h1,rfl⟩:=Ja3 h
  cases Jbp h1
  obtain ⟨t,rfl⟩:=Jbo ha
  exact W.tk I λQ E h=>neg_int (h _ _ Jcg)
 |_=>exact no h
end
end
section
open PySem.SeqAt
section
variable{x:Cx}{fs:List Env}{A:Around}{Pv:List Addr}{p:Pt}{n:Nat}
theorem Jc2(I:Inv x fs p){v:Value}{ds:List D}(h:Jaj x p (.tup ds) v):TupAt x p ds v:=by
 unfold Jaj at h
 obtain ⟨a,o,vs,n,rfl,h1,h2,h3,h4⟩:=h
 exact ⟨a,vs,rfl,⟨o,I.froz _ _ h1,h2,n,h3⟩,h4⟩
theorem Jgx{A:Around}{d:D}{v u:Value}(h:Jem 0 d=true)(hv:Jaj x p d v)(hu:Jaj x p d u):EqAt A p.s v u true:=by
 cases d with
 |none=>cases Jd0 hv;cases Jd0 hu;exact .same _
 |int i=>
  obtain ⟨t,rfl⟩:=hv;obtain ⟨t',rfl⟩:=hu
  have:=EqAt.int_int (A:=A) (s:=p.s) i t i t'
  rwa [beq_self_eq_true] at this
 |str y=>
  obtain ⟨t,rfl⟩:=hv;obtain ⟨t',rfl⟩:=hu
  have:=EqAt.str_str (A:=A) (s:=p.s) y t y t'
  rwa [beq_self_eq_true] at this
 |bytes b=>
  obtain ⟨t,rfl⟩:=hv;obtain ⟨t',rfl⟩:=hu
  exact λprog w E Q h=>eqBool_bytes (by rw[decide_eq_true rfl];exact h)
 |_=>exact ff h
theorem eq_same(I:Inv x fs p):∀(n:Nat) {A:Around} {d:D} {v u:Value},Jem n d=true->Jaj x p d v->Jaj x p d u->A.units+n<cLine->EqAt A p.s v u true:=by
 intro n
 induction n with
 |zero=>exact λh hv hu _=>Jgx h hv hu
 |succ n ih=>
  intro A d v u h hv hu hA
  cases d with
  |tup ds=>
   have h:ds.all (Jem n)=true:=h
   obtain ⟨a,vs,rfl,ha,ra⟩:=Jc2 I hv
   obtain ⟨b,us,rfl,hb,rb⟩:=Jc2 I hu
   by_cases e:a=b
   ·subst e;exact .same _
   ·have l1:=ra.len
    have l2:=rb.len
    simp only[Array.length_toList] at l1 l2
    have q:=RcAt.tuples (A:=A) (e:=λ_=>true) ha hb (by exact ar190 hA) (λj h1 h2=>by
     obtain ⟨v',e1,r1⟩:=ra.get j ds[j] (List.getElem?_eq_getElem (by exact ar172 l2 h2))
     obtain ⟨u',e2,r2⟩:=rb.get j ds[j] (List.getElem?_eq_getElem (by exact ar172 l2 h2))
     have e1':vs[j]=v':=by
      rw[Array.getElem?_toList,Array.getElem?_eq_getElem h1] at e1;exact Option.some.inj e1
     have e2':us[j]=u':=by
      rw[Array.getElem?_toList,Array.getElem?_eq_getElem h2] at e2;exact Option.some.inj e2
     rw[e1',e2']
     exact ih (List.all_eq_true.mp h _ (List.getElem_mem _)) r1 r2 (by simp only;exact ar266 hA))
    have e3:((List.range (min vs.size us.size)).all (λ_=>true)&&vs.size==us.size)=true:=by
     rw[l1,l2];simp
    rw[e3] at q
    exact .of_refs e q
  |none=>exact Jgx rfl hv hu
  |int i=>exact Jgx rfl hv hu
  |str y=>exact Jgx rfl hv hu
  |bytes b=>exact Jgx rfl hv hu
  |_=>exact ff h
theorem Jkm(I:Inv x fs p){A:Around}{ds:List D}{v u:Value}(h:Jem 6 (.tup ds)=true)(hv:Jaj x p (.tup ds) v)(hu:Jaj x p (.tup ds) u)(hA:A.units+8<cLine) :
  ∃a b,v=.ref a/\u=.ref b/\RcAt A p.s v u true/\RcNeAt A p.s v u false:=by
 obtain ⟨a,vs,rfl,ha,ra⟩:=Jc2 I hv
 obtain ⟨b,us,rfl,hb,rb⟩:=Jc2 I hu
 have l1:=ra.len
 have l2:=rb.len
 simp only[Array.length_toList] at l1 l2
 have h:ds.all (Jem 5)=true:=h
 have he:∀j (h1:j<vs.size) (h2:j<us.size),EqAt A.in1 p.s vs[j] us[j] ((λ_=>true) j):=λj h1 h2=>by
  obtain ⟨v',e1,r1⟩:=ra.get j ds[j] (List.getElem?_eq_getElem (by exact ar172 l2 h2))
  obtain ⟨u',e2,r2⟩:=rb.get j ds[j] (List.getElem?_eq_getElem (by exact ar172 l2 h2))
  have e1':vs[j]=v':=by
   rw[Array.getElem?_toList,Array.getElem?_eq_getElem h1] at e1;exact Option.some.inj e1
  have e2':us[j]=u':=by
   rw[Array.getElem?_toList,Array.getElem?_eq_getElem h2] at e2;exact Option.some.inj e2
  rw[e1',e2']
  exact eq_same I 5 (List.all_eq_true.mp h _ (List.getElem_mem _)) r1 r2 (by simp only;exact ar156 hA)
 have e3:((List.range (min vs.size us.size)).all (λ_=>true)&&vs.size==us.size)=true:=by
  rw[l1,l2];simp
 have q:=RcAt.tuples ha hb (by exact ar99 hA) he
 have q':=RcNeAt.tuples ha hb (by exact ar99 hA) he
 rw[e3] at q q'
 exact ⟨a,b,rfl,rfl,q,q'⟩
theorem Jl8{vs:List Value}{ys:List Str}(h:StrsAre vs ys):∀(j:Nat) (h1:j<vs.length) (h2:j<ys.length),∃t,vs[j]=.str ys[j] t:=by
 induction h with
 |nil=>intro j h1;simp at h1
 |cons y t _ ih=>
  intro j h1 h2
  cases j with
  |zero=>exact ⟨t,rfl⟩
  |succ j=>exact ih j (by simpa using h1) (by simpa using h2)
theorem strs_eqv:∀{us vs:List Str},us.length=vs.length->(List.range us.length).all (λj=>(us[j]?.getD Str.empty)==(vs[j]?.getD Str.empty))=(us==vs):=by
 intro us vs h
 rw[Bool.eq_iff_iff]
 simp only[List.all_eq_true,List.mem_range,beq_iff_eq]
 constructor
 ·intro hh
  refine List.ext_getElem h λj h1 h2=>?_
  have:=hh j h1
  simpa [h1,h2] using this
 ·rintro rfl j _;rfl
theorem Jjh{A:Around}{a b:Addr}{vs us:Array Value}{ys zs:List Str}(ha:p.s.heap.IsList a vs)(hb:p.s.heap.IsList b us)(ra:StrsAre vs.toList ys)(rb:StrsAre us.toList zs)(hA:A.units+8<cLine) :
  RcAt A p.s (.ref a) (.ref b) (ys==zs)/\RcNeAt A p.s (.ref a) (.ref b) (!(ys==zs)):=by
 have l1:vs.size=ys.length:=by have:=ra.length;simpa using this
 have l2:us.size=zs.length:=by have:=rb.length;simpa using this
 by_cases e:ys.length=zs.length
 ·have he:∀j (h1:j<vs.size) (h2:j<us.size),EqAt A.in1 p.s vs[j] us[j] ((λj=>(ys[j]?.getD Str.empty)==(zs[j]?.getD Str.empty)) j):=λj h1 h2=>by
   obtain ⟨t,e1⟩:=Jl8 ra j (by simpa using h1) (by exact ar285 l2 e h2)
   obtain ⟨u,e2⟩:=Jl8 rb j (by simpa using h2) (by exact ar172 l2 h2)
   simp only[Array.getElem_toList] at e1 e2
   rw[e1,e2]
   have e3:ys[j]?.getD Str.empty=ys[j]'(by exact ar285 l2 e h2):=by rw[List.getElem?_eq_getElem (by exact ar285 l2 e h2)];rfl
   have e4:zs[j]?.getD Str.empty=zs[j]'(by exact ar172 l2 h2):=by rw[List.getElem?_eq_getElem (by exact ar172 l2 h2)];rfl
   dsimp only
   rw[e3,e4]
   exact EqAt.str_str _ _ _ _
  have q:=RcAt.lists ha hb (by exact ar286 l1 l2 e) (by exact ar99 hA) he
  have q':=RcNeAt.lists ha hb (by exact ar286 l1 l2 e) (by exact ar99 hA) he
  rw[l1,strs_eqv e] at q q'
  exact ⟨q,q'⟩
 ·have hne:(ys==zs)=false:=by
   rw[beq_eq_false_iff_ne];rintro rfl;exact e rfl
  have hs:(vs.size != us.size)=true:=by rw[bne_iff_ne];exact ar292 l1 l2 e
  rw[hne]
  exact ⟨RcAt.lists_lengths ha hb hs (by exact ar99 hA),RcNeAt.lists_lengths ha hb hs (by exact ar99 hA)⟩
noncomputable def Says(x:Cx)(A:Around)(p:Pt)(o1 o2:CmpOp)(va vb:Value)(c:Bool):Prop:=
 (∀(Q:Value->Shared->Prop) (E:Value->Shared->Prop),(∀tk,Q (.bool c) { p.s with toks:=tk })->wpAny (model x.prog x.w) A (compareOp o1 va vb) Q E p.s) ∧
 (∀(Q:Value->Shared->Prop) (E:Value->Shared->Prop),(∀tk,Q (.bool !c) { p.s with toks:=tk })->wpAny (model x.prog x.w) A (compareOp o2 va vb) Q E p.s)
theorem Says.rc{a b:Addr}{c:Bool}(q:RcAt A p.s (.ref a) (.ref b) c/\RcNeAt A p.s (.ref a) (.ref b) (!c)):Says x A p .Eq .NotEq (.ref a) (.ref b) c:=
 ⟨λQ E h=>q.1 _ _ _ _ (h _),λQ E h=>q.2 _ _ _ _ (h _)⟩
theorem eqL_wp(hA:A.units+8<cLine)(I:Inv x fs p){a b:D}{va vb:Value}{c:Bool}(ha:Jaj x p a va)(hb:Jaj x p b vb)(h:eqL p.σ a b=some c):Says x A p .Eq .NotEq va vb c:=by
 obtain ⟨xs,e1,h⟩:=Jaf h
 obtain ⟨ys,e2,h⟩:=Jaf h
 obtain ⟨a1,vs,rfl,hl,hr⟩:=Jaw I ha e1
 obtain ⟨b1,ws,rfl,hl2,hr2⟩:=Jaw I hb e2
 have l1:=hr.len
 have l2:=hr2.len
 rw[Array.length_toList] at l1 l2
 by_cases hy:ys=[]
 ·rw[if_pos hy] at h
  obtain ⟨hz,rfl⟩:=Jax h
  subst hy
  rw[List.length_nil] at l2
  cases xs with
  |nil=>exact .rc (Jjh (A:=A) (ys:=[]) (zs:=[]) hl hl2 (Jay.strs hr rfl) (Jay.strs hr2 rfl) hA)
  |cons y ys=>
   have hs:(vs.size != ws.size)=true:=by rw[bne_iff_ne,l1,l2];exact Nat.succ_ne_zero _
   rw[List.length_cons] at hz l1
   have hz':vs.size<=line:=l1▸hz
   exact .rc ⟨RcAt.lists_lengths hl hl2 hs (Nat.lt_of_le_of_lt (Nat.le_add_right _ 8) hA),RcNeAt.lists_lengths hl hl2 hs (Nat.lt_of_le_of_lt (Nat.le_add_right _ 8) hA)⟩
 ·rw[if_neg hy] at h
  obtain ⟨u,e3,h⟩:=Jaf h
  obtain ⟨v,e4,h⟩:=Jaf h
  obtain ⟨_,rfl⟩:=Jax h
  exact .rc (Jjh (A:=A) hl hl2 (Jay.strs hr e3) (Jay.strs hr2 e4) hA)
theorem eqv_wp(hA:A.units+8<cLine)(I:Inv x fs p){a b:D}{va vb:Value}{c:Bool}(ha:Jaj x p a va)(hb:Jaj x p b vb)(h:eqv p.σ a b=some c):Says x A p .Eq .NotEq va vb c:=by
 cases a with
 |int i=>
  obtain ⟨j,h1,rfl⟩:=Ja3 h
  cases Jbp h1
  obtain ⟨t,rfl⟩:=Jbo ha
  obtain ⟨u,rfl⟩:=Jbo hb
  exact ⟨λQ E q=>eq_int (q _),λQ E q=>ne_int (q _)⟩
 |str i=>
  obtain ⟨j,h1,rfl⟩:=Ja3 h
  cases Jeu h1
  obtain ⟨t,rfl⟩:=Jb1 ha
  obtain ⟨u,rfl⟩:=Jb1 hb
  exact ⟨λQ E q=>eq_str (q _),λQ E q=>ne_str (q _)⟩
 |none=>
  cases Jd0 ha
  cases b with
  |none=>
   cases Jd0 hb
   cases h
   exact ⟨λQ E q=>EqNone.eq_none_none (q _),λQ E q=>EqNone.ne_none_none (q _)⟩
  |_=>exact no h
 |tup xs=>
  obtain ⟨ys,h1,h⟩:=Jaf h
  cases Jkn h1
  obtain ⟨⟨rfl,hk⟩,rfl⟩:=(by classical exact Jax h:(xs=ys/\Jem 6 (.tup xs)=true)/\c=true)
  obtain ⟨l,m,rfl,rfl,q⟩:=Jkm I hk ha hb hA
  exact .rc q
 |_=>exact eqL_wp hA I ha hb h
theorem Jl9{vs:List Value}{ys:List Str}(h:StrsAre vs ys)(a:Str):vs.any (λv=>v.isStr a)=ys.any (·==a):=by
 induction h with
 |nil=>rfl
 |cons y t _ ih=>rw[List.any_cons,List.any_cons,ih];rfl
theorem Jdw{A:Around}{vs:List Value}{ys:List Str}(h:StrsAre vs ys)(a:Str)(t:Tok):∀v∈vs,EqAt A p.s v (.str a t) (v.isStr a):=by
 induction h with
 |nil=>intro v hv;cases hv
 |cons y u _ ih=>
  intro v hv
  rcases List.mem_cons.mp hv with rfl | hv
  ·exact EqAt.str_str y u a t
  ·exact ih v hv
theorem in_tup(I:Inv x fs p){b:D}{ds:List D}{b1:Addr}{ws:Array Value}{s:Str}{t:Tok}{c:Bool}(hl:p.s.heap.IsTuple b1 ws)(hr:RelVs x p ds ws.toList)(h:anyOf s ds=some c):Says x A p .In .NotIn (.str s t) (.ref b1) c:=by
 obtain ⟨ys,e1,h⟩:=Jaf h
 obtain ⟨_,rfl⟩:=Jax h
 have hs:=Jay.strs hr e1
 have e:ws.any (λv=>v.isStr s)=ys.any (·==s):=by rw[<-Array.any_toList];exact Jl9 hs s
 have hq:=Jdw (p:=p) (A:=A) hs s t
 rw[<-e]
 exact ⟨λQ E q=>in_tupleAt (λv=>v.isStr _) hl (λy hy=>Jdw hs _ t y (Array.mem_toList_iff.mpr hy)) (q _),λQ E q=>notIn_tupleAt (λv=>v.isStr _) hl (λy hy=>Jdw hs _ t y (Array.mem_toList_iff.mpr hy)) (q _)⟩
theorem in_list(I:Inv x fs p){b:D}{ds:List D}{b1:Addr}{ws:Array Value}{s:Str}{t:Tok}{c:Bool}(hl:p.s.heap.IsList b1 ws)(hr:RelVs x p ds ws.toList)(h:anyOf s ds=some c):Says x A p .In .NotIn (.str s t) (.ref b1) c:=by
 obtain ⟨ys,e1,h⟩:=Jaf h
 obtain ⟨_,rfl⟩:=Jax h
 have hs:=Jay.strs hr e1
 have e:ws.any (λv=>v.isStr s)=ys.any (·==s):=by rw[<-Array.any_toList];exact Jl9 hs s
 rw[<-e]
 exact ⟨λQ E q=>in_listAt (λv=>v.isStr _) hl (λy hy=>Jdw hs _ t y (Array.mem_toList_iff.mpr hy)) (q _),λQ E q=>notIn_listAt (λv=>v.isStr _) hl (λy hy=>Jdw hs _ t y (Array.mem_toList_iff.mpr hy)) (q _)⟩
theorem Jre(I:Inv x fs p){a b:D}{va vb:Value}{c:Bool}(ha:Jaj x p a va)(hb:Jaj x p b vb)(h:isIn p.σ a b=some c):Says x A p .In .NotIn va vb c:=by
 obtain ⟨s,h1,h⟩:=Jaf h
 cases Jeu h1
 obtain ⟨t,rfl⟩:=Jb1 ha
 clear h1 ha
 have hlist:(Jau p.σ b).bind (anyOf s)=some c->Says x A p .In .NotIn (.str s t) vb c:=λh=>by
  obtain ⟨ds,e0,h⟩:=Jaf h
  obtain ⟨b1,vs,rfl,hl,hr⟩:=Jaw I hb e0
  exact in_list (b:=b) I hl hr h
 cases b with
 |str u=>
  obtain ⟨u,rfl⟩:=Jb1 hb
  cases h
  exact ⟨λQ E q=>PyProof.Rows.in_str (q _),λQ E q=>PyProof.Rows.notIn_str (q _)⟩
 |tup ds=>
  obtain ⟨b1,vs,rfl,hl,hr⟩:=Jc2 I hb
  exact in_tup (b:=.none) I hl hr h
 |_=>exact hlist h
theorem isNot_W(I:Inv x fs p){a b d:D}{va vb:Value}(ha:Jaj x p a va)(hb:Jaj x p b vb)(h:isNotO a b=some d):W x fs A Pv (compareOp .IsNot va vb) (.ok d p.σ) (Jaj x) p:=by
 cases b with
 |none=>
  cases Jd0 hb
  clear hb
  cases a with
  |none=>
   cases Jd0 ha
   cases h
   exact W.tk I λQ E h=>wpAny_isNot_self rfl (h _ _ Jdr)
  |tup ds=>
   cases h
   obtain ⟨a1,_,rfl,_⟩:=Jc2 I ha
   exact W.tk I λQ E h=>wpAny_isNot_other rfl (by simp) (h _ _ Jdr)
  |_=>exact no h
 |_=>exact no h
theorem Ji2(hA:A.units+8<cLine)(I:Inv x fs p){op:CmpOp}{a b:D}{va vb:Value}(ha:Jaj x p a va)(hb:Jaj x p b vb):W x fs A Pv (compareOp op va vb) (Jag op a b p.σ) (Jaj x) p:=by
 refine W.of λd h=>?_
 cases op with
 |Lt=>exact Jf9 ha hb h λi t1 j t2 h=>by cases h;exact W.tk I λQ E h=>lt_int (h _ _ Jdr)
 |LtE=>exact Jf9 ha hb h λi t1 j t2 h=>by cases h;exact W.tk I λQ E h=>le_int (h _ _ Jdr)
 |Gt=>exact Jf9 ha hb h λi t1 j t2 h=>by cases h;exact W.tk I λQ E h=>gt_int (h _ _ Jdr)
 |GtE=>exact Jf9 ha hb h λi t1 j t2 h=>by cases h;exact W.tk I λQ E h=>ge_int (h _ _ Jdr)
 |Eq=>
  obtain ⟨c,hc,rfl⟩:=Ja3 h
  exact W.tk I λQ E h=>(eqv_wp hA I ha hb hc).1 Q E λtk=>h _ _ Jdr
 |NotEq=>
  obtain ⟨c,hc,rfl⟩:=Ja3 h
  exact W.tk I λQ E h=>(eqv_wp hA I ha hb hc).2 Q E λtk=>h _ _ Jdr
 |In=>
  obtain ⟨c,hc,rfl⟩:=Ja3 h
  exact W.tk I λQ E h=>(Jre I ha hb hc).1 Q E λtk=>h _ _ Jdr
 |NotIn=>
  obtain ⟨c,hc,rfl⟩:=Ja3 h
  exact W.tk I λQ E h=>(Jre I ha hb hc).2 Q E λtk=>h _ _ Jdr
 |IsNot=>exact isNot_W I ha hb h
 |_=>exact no h
end
end
section
section
variable{x:Cx}{fs:List Env}{A:Around}{Pv:List Addr}{p:Pt}{n:Nat}
noncomputable def Pt.grow(p:Pt)(h:Heap)(tk:Nat):Pt:={ p with s:={ p.s with heap:=h,toks:=tk } }
theorem Inv.grow(I:Inv x fs p){h:Heap}(hk:∀b o,p.s.heap.get? b=some o->h.get? b=some o)(tk:Nat):Inv x fs (p.grow h tk) where
 base:=I.base
 froz:=λa o e=>hk _ _ (I.froz _ _ e)
 len:=I.len
 nd:=I.nd
 off:=I.off
 mu:=λi a m e1 e2=>let ⟨o,h1,h2⟩:=I.mu i a m e1 e2;⟨o,hk _ _ h1,h2⟩
 frames:=Jaq.of (p:=p) (q:=p.grow h tk) (λa h1 _=>h1) (λa h1 _=>h1) (λa o' h1 _ _ hd=>⟨o',hk _ _ h1,hd⟩) I.frames
theorem Ext.grow{h:Heap}(hk:∀b o,p.s.heap.get? b=some o->h.get? b=some o)(Pv)(tk:Nat):Ext fs Pv p (p.grow h tk) where
 b:=λ_ _ e=>e
 r:=⟨[],by simp[Pt.grow]⟩
 bnew:=λ_ _ e=>.inl e
 rnew:=λ_ e=>.inl e
 keep:=λa o e _ _=>⟨⟨o.slots,hk _ _ e⟩,λ_=>hk _ _ e⟩
 there:=λa o e=>⟨o,hk _ _ e⟩
 same:=⟨_,_,rfl⟩
noncomputable def Pt.add(p:Pt)(a:Addr)(o:Obj)(h:Heap)(tk:Nat):Pt:={ p with B:=p.B.put a o,s:={ p.s with heap:=h,toks:=tk } }
theorem Pt.add_get(p:Pt)(a:Addr)(o:Obj)(h:Heap)(tk:Nat):(p.add a o h tk).B a=some o:=by unfold Pt.add Fz.put;dsimp only;rw[if_pos rfl]
theorem Pt.add_sub(I:Inv x fs p){a:Addr}{o:Obj}{h:Heap}(hn:p.s.heap.get? a=none)(tk:Nat):Sub p.B p.ρ (p.add a o h tk).B p.ρ:=
 ⟨λb o' e=>by
  unfold Pt.add Fz.put;dsimp only
  rw[if_neg (by rintro rfl;rw[I.froz _ _ e] at hn;cases hn)];exact e,λ_ _ e=>e⟩
theorem Inv.add(I:Inv x fs p){a:Addr}{o:Obj}{h:Heap}(hk:∀b o,p.s.heap.get? b=some o->h.get? b=some o)(hn:p.s.heap.get? a=none)(ha:h.get? a=some o)(tk:Nat):Inv x fs (p.add a o h tk) where
 base:=λb o' e=>(Pt.add_sub I hn tk).b _ _ (I.base b o' e)
 froz:=λb o' e=>by
  unfold Pt.add Fz.put at e;dsimp only at e
  split at e
  ·rename_i q;cases e;rw[q];exact ha
  ·exact hk _ _ (I.froz _ _ e)
 len:=I.len
 nd:=I.nd
 off:=λb hb=>by
  unfold Pt.add Fz.put;dsimp only
  rw[if_neg (by rintro rfl;obtain ⟨o',ho⟩:=I.ρlt hb;rw[hn] at ho;cases ho)];exact I.off b hb
 mu:=λi b m e1 e2=>let ⟨o,h1,h2⟩:=I.mu i b m e1 e2;⟨o,hk _ _ h1,h2.mono (Pt.add_sub I hn tk)⟩
 frames:=Jaq.of (p:=p) (q:=p.add a o h tk) (λb h1 ⟨o',h2⟩=>by
   unfold Pt.add Fz.put;dsimp only
   rw[if_neg (by rintro rfl;rw[hn] at h2;cases h2)];exact h1) (λa h1 _=>h1) (λa o' h1 _ _ hd=>⟨o',hk _ _ h1,hd⟩) I.frames
theorem Ext.add(I:Inv x fs p){a:Addr}{o:Obj}{h:Heap}(hk:∀b o,p.s.heap.get? b=some o->h.get? b=some o)(hn:p.s.heap.get? a=.none)(Pv)(tk:Nat):Ext fs Pv p (p.add a o h tk) where
 b:=(Pt.add_sub I hn tk).b
 r:=⟨[],by simp[Pt.add]⟩
 bnew:=λb o' e=>by
  unfold Pt.add Fz.put at e;dsimp only at e
  split at e
  ·rename_i q;rw[q];exact .inr hn
  ·exact .inl e
 rnew:=λ_ e=>.inl e
 keep:=λa o e _ _=>⟨⟨o.slots,hk _ _ e⟩,λ_=>hk _ _ e⟩
 there:=λa o e=>⟨o,hk _ _ e⟩
 same:=⟨_,_,rfl⟩
theorem W.gr{α β:Type}{t:Sem α}{d:β}{R:Pt->β->α->Prop}(I:Inv x fs p)
  (h:∀(Q:α->Shared->Prop) (E:Value->Shared->Prop),(∀v h' tk,(∀b o,p.s.heap.get? b=some o->h'.get? b=some o)->R (p.grow h' tk) d v->Q v { p.s with heap:=h',toks:=tk })->wpAny (model x.prog x.w) A t Q E p.s) :
  W x fs A Pv t (.ok d p.σ) R p:=
 λ_=>h _ _ λv h' tk hk hr=>⟨d,p.grow h' tk,rfl,rfl,I.grow hk tk,.grow hk ..,hr⟩
theorem W.ad{t:Sem Value}{d:D}(I:Inv x fs p)
  (h:∀(Q:Value->Shared->Prop) (E:Value->Shared->Prop),(∀a o h' tk,(∀b o,p.s.heap.get? b=some o->h'.get? b=some o)->p.s.heap.get? a=none->h'.get? a=some o->Jaj x (p.add a o h' tk) d (.ref a)->Q (.ref a) { p.s with heap:=h',toks:=tk })->wpAny (model x.prog x.w) A t Q E p.s) :
  W x fs A Pv t (.ok d p.σ) (Jaj x) p:=
 λ_=>h _ _ λa o h' tk hk hn ha hr=>⟨d,p.add a o h' tk,rfl,rfl,I.add hk hn ha tk,.add I hk hn ..,hr⟩
theorem Jim{h:Heap}{a:Addr}{vs:Array Value}(hh:h.IsTuple a vs):IsTup h a vs:=hh
theorem Jsg{bs:List Bool}(i:Nat)(v:Value)(h:(bs.map Value.bool)[i]?=some v):∃b,bs[i]?=some b/\v=.bool b:=by
 rw[List.getElem?_map] at h
 obtain ⟨b,e,rfl⟩:=Option.map_eq_some_iff.mp h
 exact ⟨b,e,rfl⟩
theorem all_wp{prog:Program}{w:World}{E:Value->Shared->Prop}{s:Shared}{l:Addr}{vs:Array Value}{bs:List Bool}{Q:Value->Shared->Prop}(hh:A.handled=none)(hl:s.heap.IsList l vs)(hb:vs.toList=bs.map .bool)
  (h:∀h' tk,(∀b o,s.heap.get? b=some o->h'.get? b=some o)->Q (.bool (bs.all id)) { s with heap:=h',toks:=tk }):wpAny (model prog w) A (call (.builtin "all") [.ref l]) Q E s:=by
 have hlt:l<s.heap.objs.size:=by obtain ⟨_,e,_⟩:=hl;exact Heap.lt_size e
 have hlen:vs.size=bs.length:=by rw[<-Array.length_toList,hb,List.length_map]
 refine call_all_walk (wpAny_pyIter_list hl ?_)
 refine ⟨s.heap.objs.size,[s.heap.objs.size,l],[s.heap.objs.size],vs.size,_,_,λi=>(bs[i]?).getD true,rfl,Walks.list (A:=A.in1) hh _ l (Nat.ne_of_lt hlt) vs,
  ⟨⟨_,Heap.get?_push_size _ rfl,rfl,rfl⟩,hl.push _⟩,λi v s' Q' E' hP hQ=>?_,λh' tk hk=>?_⟩
 ·obtain ⟨b,e,rfl⟩:=Jsg (bs:=bs) i v (by rw[<-hb];simpa using hP)
  simp only[e,Option.getD_some] at hQ
  exact wpAny_truthy_bool hQ
 ·have e:((List.range vs.size).all λi=>(bs[i]?).getD true)=bs.all id:=by rw[hlen];exact LSm.range_all bs
  rw[e]
  exact h h' tk (LSm.kept_iter hk)
theorem Jmz:∀(r:List Int) (i:Int),(r.foldl (λm j=>if j<m then j else m) i∈i::r)/\∀a∈i::r,r.foldl (λm j=>if j<m then j else m) i<=a
 |[],i=>⟨by simp,by simp⟩
 |j::r,i=>by
  obtain ⟨h1,h2⟩:=Jmz r (if j<i then j else i)
  simp only[List.foldl_cons]
  constructor
  ·rcases List.mem_cons.mp h1 with e | e
   ·rw[e];split<;>simp
   ·exact List.mem_cons_of_mem _ (List.mem_cons_of_mem _ e)
  ·intro a ha
   have h3:=h2 (if j<i then j else i) (by simp)
   have h4:(if j<i then j else i)<=i/\(if j<i then j else i)<=j:=by split<;>(first | exact ar148 (by assumption) | exact ar153 (by assumption))
   rcases List.mem_cons.mp ha with rfl | ha
   ·exact ar177 h3 h4.1
   ·rcases List.mem_cons.mp ha with rfl | ha
    ·exact ar177 h3 h4.2
    ·exact h2 a (List.mem_cons_of_mem _ ha)
theorem min_wp{prog:Program}{w:World}{E:Value->Shared->Prop}{s:Shared}{l:Addr}{vs:Array Value}{i:Int}{r:List Int}{Q:Value->Shared->Prop}(hh:A.handled=none)(hl:s.heap.IsList l vs)(hi:IntsAre vs.toList (i::r))
  (h:∀h' t tk,(∀b o,s.heap.get? b=some o->h'.get? b=some o)->Q (.int (r.foldl (λm j=>if j<m then j else m) i) t) { s with heap:=h',toks:=tk }):wpAny (model prog w) A (call (.builtin "min") [.ref l]) Q E s:=by
 obtain ⟨xs,e⟩:=hi.allInts.items
 have hns:i::r=xs.toList.map (·.1):=by
  rw[<-hi.numsOf,<-nums_intItems,<-e]
 have hsz:0<xs.size:=by
  have h3:0<(i::r).length:=by simp
  rw[hns,List.length_map,Array.length_toList] at h3;exact h3
 have hl':s.heap.IsList l (intItems xs):=by rw[<-e];simpa using hl
 refine min_intList hh hl' hsz λv h' tk hv hk=>?_
 obtain ⟨t,rfl⟩:=intItems_at hv
 obtain ⟨h1,h2⟩:=argBest_lt (numAt xs) (xs.size - 1)
 have m1:numAt xs (argBest (λi j=>decide (numAt xs i<numAt xs j)) (xs.size - 1))∈i::r:=by
  rw[hns,numAt_eq];exact getD_mem (by rw[List.length_map,Array.length_toList];exact ar167 hsz h1)
 have m2:∀a∈i::r,numAt xs (argBest (λi j=>decide (numAt xs i<numAt xs j)) (xs.size - 1))<=a:=λa ha=>by
  rw[hns] at ha
  obtain ⟨j,hj,rfl⟩:=mem_getD ha
  rw[List.length_map,Array.length_toList] at hj
  rw[<-numAt_eq];exact h2 j (by exact ar102 hj)
 obtain ⟨f1,f2⟩:=Jmz r i
 have e2:=Int.le_antisymm (f2 _ m1) (m2 _ f1)
 have:=h h' t tk hk
 rw[e2] at this
 exact this
theorem Jff:∀{is:List Int} {bs:List UInt8},Jc0 is=some bs->(∀n∈is,0<=n/\n<256)/\bs=is.map λn=>n.toNat.toUInt8
 |[],bs,h=>by simp[Jc0] at h;subst h;simp
 |i::r,bs,h=>by
  unfold Jc0 at h
  split at h
  ·rename_i hc
   obtain ⟨bs',e,rfl⟩:=Option.map_eq_some_iff.mp h
   obtain ⟨h1,rfl⟩:=Jff e
   exact ⟨λn hn=>(List.mem_cons.mp hn).elim (λe=>e▸hc) (h1 n),rfl⟩
  ·cases h
end
end
section
open PySem.NumText
theorem Je7{a u:Nat}(h:Jbx a=some u):48<=a/\a<=102/\a≠95/\digit? a=some u/\u<16:=by
 unfold Jbx at h
 unfold digit?
 split at h
 ·rename_i hc;cases h
  refine ⟨hc.1,by exact ar57 hc.2,by exact ar52 hc.2,?_,by exact ar82 hc.2⟩
  rw[if_pos (by simpa using hc)]
 ·split at h
  ·rename_i h1 hc;cases h
   refine ⟨by exact ar47 hc.1,hc.2,by exact ar48 hc.1,?_,by exact ar85 hc.2⟩
   rw[if_neg (by simp;exact ar113 hc.1),if_pos (by simp;exact ar233 hc.1 hc.2)]
  ·cases h
set_option tactic.hygienic true in
theorem read_hex{a b u v:Nat}(ha:Jbx a=some u)(hb:Jbx b=some v):(int_private% "readNumeral") 0 16 [a,b]=(int_private% "Numeral.value") ((16*u+v:Nat):Int):=by
 obtain ⟨a1,a2,a3,a4,a5⟩:=Je7 ha
 obtain ⟨b1,b2,b3,b4,b5⟩:=Je7 hb
 have bl:∀c:Nat,48<=c->blank c=false:=λc hc=>blank_of (by exact ar43 hc)
 have d1:([a,b]:List Nat).dropWhile blank=[a,b]:=by rw[List.dropWhile_cons,bl a a1];rfl
 have s1:sign [a,b]=(false,[a,b]):=sign_of (by exact ar45 a1) (by exact ar44 a1)
 have p1:based 16 [a,b]=(16,false,[a,b]):=by
  unfold based
  split
  ·rename_i p hp
   have hne:((16:Nat)==0||(16:Nat)==p)=false:=by
    unfold prefix? at hp
    split at hp
    ·rename_i c r q
     have q2:b=c:=by simp at q;exact q.2.1
     subst q2
     split at hp
     ·rename_i hc
      have hc':b=120\/b=88:=by simpa using hc
      exfalso
      rcases hc' with rfl | rfl
      ·exact absurd b2 (by decide)
      ·rw[show Jbx 88=none from by decide] at hb;cases hb
     ·split at hp
      ·cases hp;rfl
      ·split at hp
       ·cases hp;rfl
       ·cases hp
    ·cases hp
   rw[hne];rfl
  ·rfl
 have r1:((([a,b]:List Nat).reverse.dropWhile blank).reverse)=[a,b]:=by
  show (([b,a]:List Nat).dropWhile blank).reverse=_
  rw[List.dropWhile_cons,bl b b1];rfl
 have st:∀(p:Array Nat×Bool) (c w:Nat),c≠95->digit? c=some w->w<16->NumText.step 16 p c=some (p.1.push w,true):=λp c w h1 h2 h3=>by
  unfold NumText.step
  rw[if_neg (by simpa using h1),h2]
  dsimp only
  rw[if_pos h3]
 have g1:digits? 16 [a,b]=some #[u,v]:=by
  unfold digits?
  rw[List.foldlM_cons,st _ a u a3 a4 a5]
  show ((List.foldlM (NumText.step 16) ((#[]:Array Nat).push u,true) [b]).bind _)=_
  rw[List.foldlM_cons,st _ b v b3 b4 b5]
  rfl
 refine (readNumeral_eq 0 16 [a,b]).trans ?_
 rw[d1,s1]
 dsimp only
 rw[p1]
 dsimp only
 rw[r1,g1]
 show (int_private% "Numeral.value") ((#[u,v].foldl (λacc d=>acc*16+d) 0:Nat):Int)=_
 have:#[u,v].foldl (λacc d=>acc*16+d) 0=16*u+v:=by simp;exact ar49
 rw[this]
theorem Jo2{M:Model}{A:Around}{E:Value->Shared->Prop}{s:Shared}{Q:Value->Shared->Prop}{v:Value}{text:List Nat}{n:Int}
  (hs:(text.takeWhile (· != 0)).length<=640) (hr:(int_private% "readNumeral") 0 16 (text.takeWhile (· != 0))=(int_private% "Numeral.value") n)
  (ha:((text.takeWhile (· != 0)).length==text.length)=true) (h:Q (.int n s.toks) { s with toks:=s.toks+1 }) :
  wpAny M A ((int_private% "intFromText") v text 16) Q E s:=by
 obtain ⟨hp,g,d,tk,os⟩:=s
 repeat (any_goals (first
  |assumption
  |(with_reducible refine wpAny_ite_true (decide_eq_true hs) ?_)
  |(with_reducible refine wpAny_ite_true (decide_eq_true ha) ?_)
  |wp_step))
 all_goals (try rw[hr])
 all_goals (try dsimp only)
 repeat (any_goals (first
  |assumption
  |(with_reducible refine wpAny_ite_true (decide_eq_true hs) ?_)
  |(with_reducible refine wpAny_ite_true (decide_eq_true ha) ?_)
  |wp_step))
structure Hid(p:Prop):Prop where
 out:p
set_option tactic.hygienic true in
theorem Jjv{x:Str}{n:Int}(h:hexTwo x=some n):∃a b u v,x=⟨#[a,b]⟩/\Jbx a=some u/\Jbx b=some v/\n=((16*u+v:Nat):Int):=by
 unfold hexTwo at h
 split at h
 ·rename_i a b e
  obtain ⟨u,h1,h⟩:=Option.bind_eq_some_iff.mp h
  obtain ⟨v,h2,rfl⟩:=Option.map_eq_some_iff.mp h
  refine ⟨a,b,u,v,?_,h1,h2,rfl⟩
  obtain ⟨c⟩:=x
  congr 1
  apply Array.ext'
  simpa using e
 ·cases h
set_option maxHeartbeats 4000000 in
theorem Jj0{a b u v:Nat}{t z:Tok}(ha:Jbx a=some u)(hb:Jbx b=some v):Gives (Builtin.«int.__new__» ⟨[.type "int",.str ⟨#[a,b]⟩ t,.int 16 z],[]⟩) (.int ((16*u+v:Nat):Int)):=
 .of_wp λM A E s Q h=>by
  obtain ⟨hp,g,d,tk,os⟩:=s
  obtain ⟨a1,a2,a3,a4,a5⟩:=Je7 ha
  obtain ⟨b1,b2,b3,b4,b5⟩:=Je7 hb
  have f1:=F.conv_sub_int
  have f2:=F.madeHere_int
  have f6:typeOf (.str ⟨#[a,b]⟩ t)=pure (.type "str"):=rfl
  have ht:numTextOf ⟨#[a,b]⟩=[a,b]:=by
   unfold numTextOf
   rw[if_pos (by simp;exact ar273 a2 b2)]
  have hseen:numSeenOf ⟨#[a,b]⟩=[a,b]:=by
   unfold numSeenOf
   rw[ht]
   have e1:(a != 0)=true:=by simp;exact ar46 a1
   have e2:(b != 0)=true:=by simp;exact ar46 b1
   simp[e1,e2]
  have hs:(numSeenOf ⟨#[a,b]⟩).length<=640:=by rw[hseen];simp
  have hr:(int_private% "readNumeral") 0 16 (numSeenOf ⟨#[a,b]⟩)=(int_private% "Numeral.value") ((16*u+v:Nat):Int)/\((numSeenOf ⟨#[a,b]⟩).length==(numTextOf ⟨#[a,b]⟩).length)=true:=by
   refine ⟨by rw[hseen];exact read_hex ha hb,by rw[hseen,ht];rfl⟩
  have hk:=Hid.mk (And.intro hs hr)
  clear hs hr hseen ht
  repeat (any_goals (first
   |assumption
   |((with_reducible show wpAny _ _ ((int_private% "intFromText") _ _ _) _ _ _);refine Jo2 hk.out.1 hk.out.2.1 hk.out.2.2 ?_)
   |wp_step))
  all_goals first | exact ⟨_,rfl,h⟩ | skip
theorem tc_int_2(a b:Value):checkTypeCall "int" ⟨[a,b],[]⟩=pure ():=by kernel_rfl
theorem nc_int_2(a b:Value):checkBuiltinCall "int.__new__" ⟨[.type "int",a,b],[]⟩=pure ():=by kernel_rfl
theorem Jqh(a b c:Value):argsOk "object.__init__" ⟨[a,b,c],[]⟩:=by unfold argsOk;kernel_rfl
theorem Jos{prog:Program}{w:World}{A:Around}{E:Value->Shared->Prop}{s:Shared}{Q:Value->Shared->Prop}{x:Str}{t z:Tok}{n:Int}(h:hexTwo x=some n)
  (q:Q (.int n s.toks) { s with toks:=s.toks+1 }):wpAny (model prog w) A (call (.type "int") [.str x t,.int 16 z]) Q E s:=by
 obtain ⟨a,b,u,v,rfl,ha,hb,rfl⟩:=Jjv h
 exact callType_new F.called_int F.newNe_int (tc_int_2 _ _) (nc_int_2 _ _) (λobj=>Jqh obj _ _) F.entry_int_new (Jj0 ha hb).meets (show (Made.int _).post _ s from ⟨rfl,q⟩)
theorem Jlv:typeLookup (.type "bytes") "__bytes__"=pure (some (.builtin "bytes.__bytes__")):=by rw[typeLookup_type,builtinLookup_eq_fast];kernel_rfl
theorem Jse:isSubtype (.type "bytes") (.type "bytes")=pure true:=F.bm_sub
theorem Jgs(b:Array UInt8)(t:Tok):Gives (Builtin.«bytes.__new__» ⟨[.type "bytes",.bytes b t],[]⟩) (.val (.bytes b t)):=
 .of_wp λM A E s Q h=>by
  obtain ⟨hp,g,d,tk,os⟩:=s
  have f1:=Jlv
  have f2:=Jse
  have f3:=F.bm_bind (.bytes b t)
  wp_walk
  all_goals first | exact ⟨_,rfl,h⟩ | skip
theorem Jfv{prog:Program}{w:World}{A:Around}{E:Value->Shared->Prop}{s:Shared}{Q:Value->Shared->Prop}{b:Array UInt8}{t:Tok}
  (q:Q (.bytes b t) s):wpAny (model prog w) A (call (.type "bytes") [.bytes b t]) Q E s:=
 callType_new F.bm_called (by decide) (F.bm_typeCall _) (F.bm_newCall _) (λobj=>F.args_object_init_2 obj _) F.bm_entry (Jgs b t).meets (show (Made.val _).post _ s from ⟨rfl,q⟩)
end
section
section
variable{x:Cx}{fs:List Env}{A:Around}{Pv:List Addr}{p:Pt}{n:Nat}
theorem Jk9{n:Nat}(h:n<=line):¬ ((n:Int) ≥ 2^63):=by rw[Jdl] at h;omega
theorem rel1{d:D}{vs:List Value}{P B ρ}(h:Jay P B ρ [d] vs):∃v,vs=[v]/\Rel P B ρ d v:=by
 obtain ⟨v,r,rfl,h1,rfl⟩:=h
 exact ⟨v,rfl,h1⟩
theorem rel2{d e:D}{vs:List Value}{P B ρ}(h:Jay P B ρ [d,e] vs):∃v u,vs=[v,u]/\Rel P B ρ d v/\Rel P B ρ e u:=by
 obtain ⟨v,r,rfl,h1,u,r',rfl,h2,rfl⟩:=h
 exact ⟨v,u,rfl,h1,h2⟩
theorem rel3{d e f:D}{vs:List Value}{P B ρ}(h:Jay P B ρ [d,e,f] vs):∃v u z,vs=[v,u,z]/\Rel P B ρ d v/\Rel P B ρ e u/\Rel P B ρ f z:=by
 obtain ⟨v,r,rfl,h1,u,r',rfl,h2,z,r'',rfl,h3,rfl⟩:=h
 exact ⟨v,u,z,rfl,h1,h2,h3⟩
theorem Jqu{a:Int}(h:small a):a.natAbs.log2<1920:=by
 unfold small at h
 by_cases e:a.natAbs=0
 ·rw[e];decide
 ·have:=(Nat.log2_lt e).mpr h;exact ar59 this
theorem lenOf_W(I:Inv x fs p){d e:D}{v:Value}(hr:Jaj x p d v)(h:cLen p.σ d=some e):W x fs A Pv (call (.builtin "len") [v]) (.ok e p.σ) (Jaj x) p:=by
 obtain ⟨n,h1,h⟩:=Jaf h
 obtain ⟨hn,rfl⟩:=Jax h
 have hlist:(Jau p.σ d).map (·.length)=some n->W x fs A Pv (call (.builtin "len") [v]) (.ok (.int n) p.σ) (Jaj x) p:=λh=>by
  obtain ⟨ds,h3,rfl⟩:=Ja3 h
  obtain ⟨a,vs,rfl,ht,hr'⟩:=Jaw I hr h3
  have e:=hr'.len
  rw[Array.length_toList] at e
  rw[<-e] at hn ⊢
  exact W.tk I λQ E h=>PyProof.Rows.len_list ht (Int.not_le.mp (Jk9 hn)) (h _ _ Jcg)
 cases d with
 |str _=>
  obtain ⟨t,rfl⟩:=Jb1 hr
  cases h1
  exact W.tk I λQ E h=>P.len_str (Jk9 hn) (h _ _ Jcg)
 |bytes _=>
  obtain ⟨t,rfl⟩:=Jdf hr
  cases h1
  exact W.tk I λQ E h=>W.len_bytes (by rw[Jdl] at hn;exact ar166 hn) (h _ _ Jcg)
 |tup _=>
  obtain ⟨a,vs,rfl,ht,hr'⟩:=Jc2 I hr
  cases h1
  have e:=hr'.len
  rw[Array.length_toList] at e
  rw[<-e] at hn ⊢
  exact W.tk I λQ E h=>PyProof.Rows.len_tuple (Jim ht) (Int.not_le.mp (Jk9 hn)) (h _ _ Jcg)
 |_=>exact hlist h1
theorem abs_W(I:Inv x fs p){i:Int}{t:Tok}:W x fs A Pv (call (.builtin "abs") [.int i t]) (.ok (.int i.natAbs) p.σ) (Jaj x) p:=by
 refine W.tk I λQ E h=>call_abs_int λu tk=>?_
 have e:(if i<0 then -i else i)=(i.natAbs:Int):=by split<;>(first | exact ar239 (by assumption) | exact ar240 (by assumption))
 rw[e]
 exact h _ _ Jcg
theorem all_W(hA:A.handled=none)(I:Inv x fs p){d e:D}{v:Value}(hr:Jaj x p d v)(h:cAll p.σ d=some e):W x fs A Pv (call (.builtin "all") [v]) (.ok e p.σ) (Jaj x) p:=by
 obtain ⟨ds,h1,h⟩:=Jaf h
 obtain ⟨bs,h3,h⟩:=Jaf h
 obtain ⟨hn,rfl⟩:=Jax h
 obtain ⟨a,vs,rfl,hl,hr'⟩:=Jaw I hr h1
 exact W.gr I λQ E h=>all_wp hA hl (Jay.bools hr' h3) λh' tk hk=>h _ _ _ hk Jdr
theorem min_W(hA:A.handled=none)(I:Inv x fs p){d e:D}{v:Value}(hr:Jaj x p d v)(h:cMin p.σ d=some e):W x fs A Pv (call (.builtin "min") [v]) (.ok e p.σ) (Jaj x) p:=by
 obtain ⟨ds,h1,h⟩:=Jaf h
 obtain ⟨is,h3,h⟩:=Jaf h
 cases is with
 |nil=>exact no h
 |cons i r=>
  obtain ⟨hn,rfl⟩:=Jax h
  obtain ⟨a,vs,rfl,hl,hr'⟩:=Jaw I hr h1
  exact W.gr I λQ E h=>min_wp hA hl (Jay.ints hr' h3) λh' t tk hk=>h _ _ _ hk Jcg
theorem min2_W(hA:A.handled=none)(I:Inv x fs p){i j:Int}{t u:Tok}:W x fs A Pv (call (.builtin "min") [.int i t,.int j u]) (.ok (.int (if j<i then j else i)) p.σ) (Jaj x) p:=by
 refine W.gr I λQ E h=>min_two_ints hA λh' tk hk=>?_
 split
 ·rename_i hc;exact h _ _ _ hk (by rw[if_pos hc];exact Jcg)
 ·rename_i hc;exact h _ _ _ hk (by rw[if_neg hc];exact Jcg)
theorem oneB_W(hA:A.handled=none)(I:Inv x fs p){n:String}{d e:D}{v:Value}(hr:Jaj x p d v)(h:oneB n d p.σ=some e):W x fs A Pv (call (.builtin n) [v]) (.ok e p.σ) (Jaj x) p:=by
 obtain ⟨rfl,h⟩ | h:=Jbd h
 ·exact lenOf_W I hr h
 obtain ⟨rfl,h⟩ | h:=Jbd h
 ·obtain ⟨i,h1,rfl⟩:=Ja3 h
  cases Jbp h1
  obtain ⟨t,rfl⟩:=Jbo hr
  exact abs_W I
 obtain ⟨rfl,h⟩ | h:=Jbd h
 ·exact all_W hA I hr h
 obtain ⟨rfl,h⟩ | h:=Jbd h
 ·exact min_W hA I hr h
 exact no h
theorem cInt_W(I:Inv x fs p){d e:D}{v:Value}(hr:Jaj x p d v)(h:cInt d=some e):W x fs A Pv (call (.type "int") [v]) (.ok e p.σ) (Jaj x) p:=by
 cases d with
 |int i=>
  cases h
  obtain ⟨t,rfl⟩:=Jbo hr
  exact W.tk I λQ E h=>call_int_int (h _ _ Jcg)
 |bool b=>
  cases h
  cases Jdg hr
  exact W.tk I λQ E h=>call_int_bool (h _ _ Jcg)
 |str s=>
  obtain ⟨t,rfl⟩:=Jb1 hr
  obtain ⟨hl,h⟩ | h:=Jbd h
  ·obtain ⟨i,h1,rfl⟩:=Ja3 h
   exact W.tk I λQ E h=>KIN.call_text h1 hl (h _ _ Jcg)
  ·exact no h
 |_=>exact no h
theorem cStr_W(I:Inv x fs p){d e:D}{v:Value}(hr:Jaj x p d v)(h:cStr d=some e):W x fs A Pv (call (.type "str") [v]) (.ok e p.σ) (Jaj x) p:=by
 cases d with
 |int i=>
  obtain ⟨hc,rfl⟩:=Jax h
  obtain ⟨t,rfl⟩:=Jbo hr
  exact W.tk I λQ E h=>P.str_of_int (Jqu hc) (h _ _ Jia)
 |str b=>
  obtain ⟨hc,rfl⟩:=Jax h
  obtain ⟨t,rfl⟩:=Jb1 hr
  exact W.tk I λQ E h=>P.str_of_str (h _ _ Jia)
 |_=>exact no h
theorem rng_V{a b c:Int}{t u z:Tok}{r:Addr}{q:Pt}(h:q.B r=some { cls:=.type "range",data:=.fields #[.int a t,.int b u,.int c z] }):Jaj x q (.rng a b c) (.ref r):=by
 exact mkRng ⟨_,_,_,_,rfl,h⟩
theorem Jo7(I:Inv x fs p){d e:D}{v:Value}(hr:Jaj x p d v)(h:cSeq p.σ .tup d=some e):W x fs A Pv (call (.type "tuple") [v]) (.ok e p.σ) (Jaj x) p:=by
 obtain ⟨ds,h1,h⟩:=Jaf h
 obtain ⟨hn,rfl⟩:=Jax h
 obtain ⟨a,vs,rfl,hl,hr'⟩:=Jaw I hr h1
 have e:=hr'.len
 rw[Array.length_toList] at e
 rw[<-e] at hn
 refine W.ad I λQ E h=>call_tuple_list hl (λh' hk=>?_) (Nat.le_trans hn Jb2)
 have hn':p.s.heap.get? h'.objs.size=none:=by
  cases q:p.s.heap.get? h'.objs.size with
  |none=>rfl
  |some o=>exact absurd (Heap.lt_size (hk _ _ q)) (Nat.lt_irrefl _)
 refine h _ _ _ _ (λb o e=>Heap.get?_push_of_some _ (hk _ _ e)) hn' (Heap.get?_push_size _ rfl) ?_
 exact mkTup ⟨_,_,_,_,rfl,Pt.add_get ..,rfl,rfl,Jay.mono (Pt.add_sub (h:=h') I hn' 0) hr'⟩
theorem listOf_W(I:Inv x fs p){d e:D}{v:Value}(hr:Jaj x p d v)(h:cSeq p.σ .lst d=some e):W x fs A Pv (call (.type "list") [v]) (.ok e p.σ) (Jaj x) p:=by
 obtain ⟨ds,h1,h⟩:=Jaf h
 obtain ⟨hn,rfl⟩:=Jax h
 obtain ⟨a,vs,rfl,hl,hr'⟩:=Jaw I hr h1
 have e:=hr'.len
 rw[Array.length_toList] at e
 rw[<-e] at hn
 obtain ⟨o,ho,hc,n,hd⟩:=hl
 refine W.ad I λQ E h=>call_list_seq a (.inl rfl) ho hc hd (λh' c' hk hg=>?_) (Nat.le_trans hn Jb2)
 refine h _ _ _ p.s.toks hk (Jbe _) hg ?_
 exact mkLst ⟨_,_,_,_,rfl,Pt.add_get ..,rfl,rfl,Jay.mono (Pt.add_sub (h:=h') I (Jbe _) 0) hr'⟩
theorem cBytes_W(hA:A.handled=none)(I:Inv x fs p){d e:D}{v:Value}(hr:Jaj x p d v)(h:cBytes p.σ d=some e):W x fs A Pv (call (.type "bytes") [v]) (.ok e p.σ) (Jaj x) p:=by
 have hlist:((Jau p.σ d).bind λds=>(intsOf ds).bind λis=>if is.length<=line then (Jc0 is).map λbs=>D.bytes bs.toArray else none)=some e->W x fs A Pv (call (.type "bytes") [v]) (.ok e p.σ) (Jaj x) p:=λh=>by
  obtain ⟨ds,h1,h⟩:=Jaf h
  obtain ⟨is,h3,h⟩:=Jaf h
  obtain ⟨hn,h⟩ | h:=Jbd h
  ·obtain ⟨bs,h5,rfl⟩:=Ja3 h
   obtain ⟨a,vs,rfl,hl,hr'⟩:=Jaw I hr h1
   obtain ⟨b1,rfl⟩:=Jff h5
   have hi:=Jay.ints hr' h3
   exact W.gr I λQ E h=>call_bytes_ints (vs:=vs.toList) (by simpa using hl) hi b1 (by rw[hi.length];exact Nat.le_trans hn Jb2) hA λh' t k hk=>h _ _ _ hk Ji3
  ·exact no h
 cases d with
 |bytes b=>
  cases h
  obtain ⟨t,rfl⟩:=Jdf hr
  exact W.tk I λQ E h=>Jfv (h _ _ Ji3)
 |_=>exact hlist h
theorem oneT_W(hA:A.handled=none)(I:Inv x fs p){n:String}{d e:D}{v:Value}(hr:Jaj x p d v)(h:oneT n d p.σ=some e):W x fs A Pv (call (.type n) [v]) (.ok e p.σ) (Jaj x) p:=by
 obtain ⟨rfl,h⟩ | h:=Jbd h
 ·exact cInt_W I hr h
 obtain ⟨rfl,h⟩ | h:=Jbd h
 ·exact cStr_W I hr h
 obtain ⟨rfl,h⟩ | h:=Jbd h
 ·obtain ⟨n,h1,h⟩:=Jaf h
  cases Jbp h1
  obtain ⟨hc,rfl⟩:=Jax h
  obtain ⟨t,rfl⟩:=Jbo hr
  exact W.ad I λQ E h=>call_range_1 (h _ _ _ _ (λb o e=>Heap.get?_push_of_some _ e) (Jbe _) (Heap.get?_push_size _ rfl) (rng_V (Pt.add_get ..)))
 obtain ⟨rfl,h⟩ | h:=Jbd h
 ·exact Jo7 I hr h
 obtain ⟨rfl,h⟩ | h:=Jbd h
 ·exact listOf_W I hr h
 obtain ⟨rfl,h⟩ | h:=Jbd h
 ·exact cBytes_W hA I hr h
 exact no h
theorem cRange_W(I:Inv x fs p){a b c e:D}{va vb vc:Value}(ha:Jaj x p a va)(hb:Jaj x p b vb)(hc:Jaj x p c vc)(h:cRange a b c=some e):W x fs A Pv (call (.type "range") [va,vb,vc]) (.ok e p.σ) (Jaj x) p:=by
 obtain ⟨i,h1,h⟩:=Jaf h
 obtain ⟨j,h2,h⟩:=Jaf h
 obtain ⟨k,h3,h⟩:=Jaf h
 cases Jbp h1
 cases Jbp h2
 cases Jbp h3
 obtain ⟨⟨c0,c1,c2,c3⟩,rfl⟩:=Jax h
 obtain ⟨t,rfl⟩:=Jbo ha
 obtain ⟨u,rfl⟩:=Jbo hb
 obtain ⟨z,rfl⟩:=Jbo hc
 exact W.ad I λQ E h=>call_range_3 c0 (h _ _ _ _ (λb o e=>Heap.get?_push_of_some _ e) (Jbe _) (Heap.get?_push_size _ rfl) (rng_V (Pt.add_get ..))) (.inl (PyProof.noPylong_small (Nat.lt_of_le_of_lt c3 (by rw[Jdl];decide))))
theorem calls_W(hA:A.handled=none)(I:Inv x fs p){f:Value}{as:List D}{vs:List Value}(ha:RelVs x p as vs):W x fs A Pv (call f vs) (Jai f as p.σ) (Jaj x) p:=by
 refine W.of λe h=>?_
 cases f with
 |builtin n=>match as,ha,h with
  |[],_,h=>exact no h
  |[d],ha,h=>
   obtain ⟨v,rfl,hr⟩:=rel1 ha
   exact oneB_W hA I hr h
  |[d,d'],ha,h=>
   obtain ⟨v,u,rfl,h1,h2⟩:=rel2 ha
   obtain ⟨rfl,h⟩ | h:=Jbd h
   ·exact Jf9 (t:=λv u=>call _ [v,u]) h1 h2 h λi t1 j t2 h=>by cases h;exact min2_W hA I
   ·exact no h
  |_::_::_::_,_,h=>exact no h
 |type n=>match as,ha,h with
  |[],_,h=>exact no h
  |[d],ha,h=>
   obtain ⟨v,rfl,hr⟩:=rel1 ha
   exact oneT_W hA I hr h
  |[d,d'],ha,h=>
   obtain ⟨v,u,rfl,h1,h2⟩:=rel2 ha
   obtain ⟨rfl,h⟩ | h:=Jbd h
   ·obtain ⟨s,h3,h⟩:=Jaf h
    obtain ⟨j,h4,h⟩:=Jaf h
    cases Jeu h3
    cases Jbp h4
    obtain ⟨t,rfl⟩:=Jb1 h1
    obtain ⟨u,rfl⟩:=Jbo h2
    obtain ⟨rfl,h⟩ | h:=Jbd h
    ·obtain ⟨i,h3,rfl⟩:=Ja3 h
     exact W.tk I λQ E h=>Jos h3 (h _ _ Jcg)
    ·exact no h
   ·exact no h
  |[a,b,c],ha,h=>
   obtain ⟨v,u,z,rfl,h1,h2,h3⟩:=rel3 ha
   obtain ⟨rfl,h⟩ | h:=Jbd h
   ·exact cRange_W I h1 h2 h3 h
   ·exact no h
  |_::_::_::_::_,_,h=>exact no h
 |_=>exact no h
end
end
section
section
variable{x:Cx}{fs:List Env}{A:Around}{Pv:List Addr}{p:Pt}{n:Nat}
theorem RelF.kvs{prog:Program}{w:World}{B ρ}:∀{ns:List Str} {ds:List D} {es:List DictEntry},RelF w.params B ρ ns ds es->
  ∃kvs:List (Str×Value),kvs.map (·.1)=ns/\Pairs (strKind prog w) es kvs/\(∀e∈es,∃k,(strKind prog w).is k e.key=true/\e.hash=(strKind prog w).hash k)/\Jay w.params B ρ ds (kvs.map (·.2))
 |_,[],_,h=>by
  obtain ⟨rfl,rfl⟩:=h
  exact ⟨[],rfl,.nil,λ_ h=>absurd h List.not_mem_nil,mkN⟩
 |_,d::ds,_,h=>by
  obtain ⟨n,ns',hh,t,v,r,rfl,rfl,rfl,h1,h2⟩:=h
  obtain ⟨kvs,e1,e2,e3,e4⟩:=RelF.kvs (prog:=prog) h2
  refine ⟨(n,v)::kvs,by simp[e1],.cons (strKind_is ..) rfl e2,?_,?_⟩
  ·intro e he
   rcases List.mem_cons.mp he with rfl | he
   ·exact ⟨n,strKind_is ..,rfl⟩
   ·exact e3 e he
  ·exact mkC h1 e4
theorem RelF.of_kvs{prog:Program}{w:World}{B ρ}{es:List DictEntry}{kvs:List (Str×Value)}(h:Pairs (strKind prog w) es kvs):∀{ds:List D},
  (∀e∈es,∃k,(strKind prog w).is k e.key=true/\e.hash=(strKind prog w).hash k)->Jay w.params B ρ ds (kvs.map (·.2))->RelF w.params B ρ (kvs.map (·.1)) ds es:=by
 induction h with
 |nil=>
  intro ds _ h
  cases ds with
  |nil=>exact (⟨rfl,rfl⟩:_/\_)
  |cons d ds=>obtain ⟨_,_,e,_⟩:=h;exact nomatch e
 |@cons e kv es kvs h1 h2 _ ih=>
  intro ds hk h
  cases ds with
  |nil=>exact nomatch Jdp h
  |cons d ds=>
   obtain ⟨h3,h4⟩:=unC h
   obtain ⟨t,ht⟩:=Value.isStrOf_shape h1
   obtain ⟨k,hk1,hk2⟩:=hk e (by simp)
   have:k=kv.1:=(strKind prog w).inj e.key k kv.1 hk1 h1
   subst this
   obtain ⟨eh,ek,ev⟩:=e
   simp only at ht h2 hk2
   subst ht h2 hk2
   exact mkFC h3 (ih (λe he=>hk e (List.mem_cons_of_mem _ he)) h4)
theorem Jhu{P B ρ}{y:Str}{d:D}:∀{kvs:List (Str×Value)} {ds:List D},Jay P B ρ ds (kvs.map (·.2))->getF (kvs.map (·.1)) ds y=some d->∃v,valueAt kvs y=some v/\Rel P B ρ d v
 |[],ds,_,e=>by simp[getF] at e
 |kv::kvs,[],_,e=>by simp[getF] at e
 |kv::kvs,d'::ds,h,e=>by
  obtain ⟨h1,h2⟩:=unC h
  simp only[List.map_cons,getF] at e
  by_cases hk:kv.1=y
  ·rw[if_pos hk] at e;cases e
   exact ⟨kv.2,by simp[valueAt,hk],h1⟩
  ·rw[if_neg hk] at e
   obtain ⟨v,e4,h4⟩:=Jhu h2 e
   refine ⟨v,?_,h4⟩
   unfold valueAt at e4 ⊢
   rw[List.find?_cons,decide_eq_false hk]
   exact e4
theorem Jir{y:Str}:∀{ns:List Str} {ds:List D},(getF ns ds y).isSome=true->y∈ns
 |[],_,e=>by simp[getF] at e
 |n::ns,[],e=>by simp[getF] at e
 |n::ns,d::ds,e=>by
  simp only[getF] at e
  by_cases hk:n=y
  ·simp[hk]
  ·rw[if_neg hk] at e;exact List.mem_cons_of_mem _ (Jir e)
theorem Jmk{y:Str}{v:Value}:∀{kvs:List (Str×Value)},y∉kvs.map (·.1)->kvs.map (λkv=>if kv.1=y then (kv.1,v) else kv)=kvs
 |[],_=>rfl
 |kv::kvs,h=>by
  simp only[List.map_cons,List.mem_cons,not_or] at h ⊢
  rw[if_neg λe=>h.1 e.symm,Jmk h.2]
theorem map_keys{y:Str}{v:Value}(kvs:List (Str×Value)):(kvs.map (λkv=>if kv.1=y then (kv.1,v) else kv)).map (·.1)=kvs.map (·.1):=by
 rw[List.map_map]
 refine List.map_congr_left λkv _=>?_
 simp only[Function.comp_apply];split<;>rfl
theorem Jnt{P B ρ}{y:Str}{d:D}{v:Value}(hv:Rel P B ρ d v){kvs:List (Str×Value)}{ds:List D}(hn:(kvs.map (·.1)).Nodup)(h:Jay P B ρ ds (kvs.map (·.2)))(hy:(getF (kvs.map (·.1)) ds y).isSome=true) :
  (stored kvs y v).map (·.1)=kvs.map (·.1)/\Jay P B ρ (setF (kvs.map (·.1)) ds y d) ((stored kvs y v).map (·.2)):=by
 have hm:kvs.any (λkv=>decide (kv.1=y))=true:=by
  have:=Jir hy
  rw[List.mem_map] at this
  obtain ⟨kv,h1,h2⟩:=this
  exact List.any_eq_true.mpr ⟨kv,h1,decide_eq_true h2⟩
 unfold stored
 rw[if_pos hm]
 refine ⟨map_keys kvs,?_⟩
 clear hm
 induction kvs generalizing ds with
 |nil=>simp[getF] at hy
 |cons kv kvs ih=>
  cases ds with
  |nil=>simp[getF] at hy
  |cons d' ds=>
   obtain ⟨h1,h2⟩:=unC h
   simp only[List.map_cons,List.nodup_cons] at hn
   simp only[List.map_cons,getF,setF] at hy ⊢
   by_cases hk:kv.1=y
   ·simp only[if_pos hk]
    rw[Jmk (hk▸hn.1)]
    exact mkC hv h2
   ·rw[if_neg hk] at hy
    simp only[if_neg hk]
    exact mkC h1 (ih hn.2 h2 hy)
theorem Jr2(I:Inv x fs p){j:Nat}{v:Value}{ns:List Str}{ds:List D}(h:Jaj x p (.loc j) v)(e:p.σ[j]?=some (.dict ns ds)) :
  ∃a kvs,v=.ref a/\p.ρ[j]?=some a/\p.s.heap.DictOf (strKind x.prog x.w) a kvs/\kvs.map (·.1)=ns/\RelVs x p ds (kvs.map (·.2)):=by
 unfold Jaj at h
 obtain ⟨a,rfl,ha⟩:=h
 obtain ⟨o,ho,hn,es,k,rfl,hr⟩:=I.mu j a _ ha e
 obtain ⟨kvs,e1,e2,e3,e4⟩:=RelF.kvs (prog:=x.prog) hr
 exact ⟨a,kvs,rfl,ha,⟨_,es.toArray,k,ho,⟨rfl,rfl,rfl⟩,rfl,λe he=>e3 e (by simpa using he),by simpa using e2,by rw[e1];exact hn⟩,e1,e4⟩
theorem Jj8{prog:Program}{w:World}{B ρ}{h:Heap}{a:Addr}{kvs:List (Str×Value)}{ds:List D}(hd:h.DictOf (strKind prog w) a kvs)(hr:Jay w.params B ρ ds (kvs.map (·.2))) :
  ∃o,h.get? a=some o/\RelM w.params B ρ (.dict (kvs.map (·.1)) ds) o:=by
 obtain ⟨o,es,ep,ho,⟨h1,h2,h3⟩,h4,h5,h6,h7⟩:=hd
 obtain ⟨oc,od,odd,os⟩:=o
 simp only at h1 h2 h3 h4
 subst h1 h2 h3 h4
 refine ⟨_,ho,h7,es.toList,ep,by simp,RelF.of_kvs h6 (λe he=>h5 e (by simpa using he)) hr⟩
theorem Jga(slice:Expr)(o i:Value):∃ops,subscripted slice false o i=operate ops (getItem o i):=by
 cases slice with
 |Slice l u s p=>cases s<;>exact ⟨_,rfl⟩
 |_=>exact ⟨_,rfl⟩
theorem Jde{prog:Program}{w:World}{A:Around}{E:Value->Shared->Prop}{s:Shared}{value slice:Expr}{o i:Value}{T id:String}{Q:Value->Shared->Prop}(hT:s.TypeIs o T)
  (hl:typeLookup (.type T) "__getitem__"=pure (some (.builtin id))) (h:wpAny (model prog w) A (getItem o i) Q E s):wpAny (model prog w) A (subscriptTail value slice o i) Q E s:=by
 unfold subscriptTail
 refine wpAny_bind ?_
 rw[getitemInPython_of_ne hT.not_modules]
 refine wpAny_bind (wpAny_specialOf hT hl ?_)
 have fin:wpAny (model prog w) A (subscripted slice false o i) (λr s₃=>wpAny (model prog w) A (letTemporaryGo value o r >>= λ_=>pure r) Q E s₃) E s:=by
  obtain ⟨ops,hs⟩:=Jga slice o i
  rw[hs]
  exact wpAny_operating (wpAny_mono h (λr s₃ h₃=>wpAny_bind (wpAny_letTemporaryGo (wpAny_pure h₃))) λ_ _ x=>x)
 first
  |exact wpAny_pure (wpAny_bind fin)
  |exact wpAny_bind (wpAny_pure (wpAny_bind fin))
  |exact wpAny_bind fin
theorem Jcy{k:Int}{n j:Nat}(h:seqIndex? k n=some j):j<n/\((0<=k/\j=k.toNat)\/(k<0/\-(n:Int)<=k/\j=(k+n).toNat)):=by
 unfold seqIndex? at h
 simp only[Bool.and_eq_true,decide_eq_true_eq] at h
 by_cases hk:k<0
 ·simp only[hk,if_true] at h
  split at h
  ·rename_i hc;cases h;exact ar453 hc.1 hc.2
  ·cases h
 ·simp only[hk,if_false] at h
  split at h
  ·rename_i hc;cases h;exact ar450 hc.1 hc.2
  ·cases h
theorem Jgr{i:Int}{n k:Nat}(hk:seqIndex? i n=some k)(h:n<=line):-2^63<=i/\i<2^63:=by
 obtain ⟨h1,h2⟩:=Jcy hk
 have h3:(n:Int)<=1048576:=Int.ofNat_le.mpr h
 rcases h2 with ⟨h2,rfl⟩ | ⟨h2,h4,_⟩
 ·exact ⟨Int.le_trans (by decide) h2,Int.lt_of_lt_of_le ((Int.toNat_lt h2).mp h1) (Int.le_trans h3 (by decide))⟩
 ·exact ⟨Int.le_trans (Int.le_trans (by decide) (Int.neg_le_neg h3)) h4,Int.lt_trans h2 (by decide)⟩
theorem Jqx{prog:Program}{w:World}{A:Around}{E:Value->Shared->Prop}{s:Shared}{l:Addr}{items:Array Value}{k:Int}{t:Tok}{j:Nat}{y:Value}{Q:Value->Shared->Prop}(hl:s.heap.IsList l items)
  (hz:items.size<=line) (hj:seqIndex? k items.size=some j) (hx:items[j]?=some y) (h:Q y s):wpAny (model prog w) A (getItem (.ref l) (.int k t)) Q E s:=by
 have b:=Jgr hj hz
 obtain ⟨h1,h2⟩:=Jcy hj
 rcases h2 with ⟨h2,rfl⟩ | ⟨h2,h3,rfl⟩
 ·exact wpAny_getItem_list hl h2 b.2 hx h
 ·exact wpAny_getItem_list_neg hl h2 h3 b.1 hx h
theorem Jf7{σ:Jaa}{j:Nat}{t:List Str×List D}(h:dict? σ j=some t):σ[j]?=some (.dict t.1 t.2):=by
 obtain ⟨m,e,h⟩:=Jaf h
 cases m with
 |list _=>exact no h
 |dict ns ds=>cases h;exact e
theorem Jik{σ:Jaa}{j:Nat}{ds:List D}(h:list? σ j=some ds):σ[j]?=some (.list ds):=by
 obtain ⟨m,e,h⟩:=Jaf h
 cases m with
 |list _=>cases h;exact e
 |dict ns ds=>exact no h
theorem Jmt{ds:List D}{i:Int}{e:D}(h:itemL ds i=some e):∃k,seqIndex? i ds.length=some k/\ds.length<=line/\ds[k]?=some e:=by
 obtain ⟨k,h1,h⟩:=Jaf h
 obtain ⟨hz,h⟩ | h:=Jbd h
 ·exact ⟨k,h1,hz,h⟩
 ·exact no h
theorem Jq9(I:Inv x fs p){value sl:Expr}{ds:List D}{e:D}{va:Value}{i:Int}{u:Tok}(ha:Jaj x p (.tup ds) va)(h:itemL ds i=some e):W x fs A Pv (subscriptTail value sl va (.int i u)) (.ok e p.σ) (Jaj x) p:=by
 obtain ⟨k,h1,hz,h2⟩:=Jmt h
 obtain ⟨a,vs,rfl,hl,hr⟩:=Jc2 I ha
 have hs:=hr.len
 rw[Array.length_toList] at hs
 obtain ⟨v,e1,hv⟩:=hr.get _ _ h2
 rw[Array.getElem?_toList] at e1
 exact W.tk I λQ E h=>Jde (T:="tuple") (Jim hl).typeIs slot_tuple_getitem.lookup (getItem_tuple (Jim hl) (Jgr h1 hz).1 (Jgr h1 hz).2 (by rw[hs];exact h1) e1 (h _ p.s.toks hv))
theorem Jra(I:Inv x fs p){value sl:Expr}{a e:D}{va:Value}{i:Int}{u:Tok}(ha:Jaj x p a va)(h:((Jau p.σ a).bind λds=>itemL ds i)=some e):W x fs A Pv (subscriptTail value sl va (.int i u)) (.ok e p.σ) (Jaj x) p:=by
 obtain ⟨ds,h1,h⟩:=Jaf h
 obtain ⟨k,h3,hz,h4⟩:=Jmt h
 obtain ⟨a,vs,rfl,hl,hr⟩:=Jaw I ha h1
 have hs:=hr.len
 rw[Array.length_toList] at hs
 obtain ⟨v,e1,hv⟩:=hr.get _ _ h4
 rw[Array.getElem?_toList] at e1
 exact W.tk I λQ E h=>Jde (T:="list") (Heap.IsList.typeIs (s:=p.s) hl) list_getitem_lookup (Jqx hl (hs▸hz) (by rw[hs];exact h3) e1 (h _ p.s.toks hv))
theorem Jlc(I:Inv x fs p){value sl:Expr}{b:Array UInt8}{e:D}{i:Int}{t u:Tok}(h:itemI (.bytes b) i p.σ=some e):W x fs A Pv (subscriptTail value sl (.bytes b t) (.int i u)) (.ok e p.σ) (Jaj x) p:=by
 obtain ⟨⟨h0,hz⟩,h⟩ | h:=Jbd h
 ·obtain ⟨c,h1,rfl⟩:=Ja3 h
  have hlt:i.toNat<b.size:=(Array.getElem?_eq_some_iff.mp h1).1
  rw[Jdl] at hz
  refine W.tk I λQ E h=>Jde (typeIs_bytes _ _ _) FB.slot_bytes_getitem.lookup ?_
  have e1:b=b.toList.toArray:=by simp
  rw[e1]
  refine getItem_bytes (by simp;exact ar166 hz) h0 (by simp;exact ar293 hlt) (h _ _ ?_)
  have:b.toList.getD i.toNat 0=c:=by
   rw[List.getD_eq_getElem?_getD,Array.getElem?_toList,h1];rfl
  rw[this]
  exact Jcg (t:=p.s.toks)
 ·exact no h
theorem itemI_W(I:Inv x fs p){value sl:Expr}{a e:D}{va:Value}{i:Int}{u:Tok}(ha:Jaj x p a va)(h:itemI a i p.σ=some e):W x fs A Pv (subscriptTail value sl va (.int i u)) (.ok e p.σ) (Jaj x) p:=by
 cases a with
 |str y=>
  obtain ⟨t,rfl⟩:=Jb1 ha
  obtain ⟨k,h1,h⟩:=Jaf h
  obtain ⟨c,h3,h⟩:=Jaf h
  obtain ⟨hz,rfl⟩:=Jax h
  refine W.tk I λQ E h=>Jde (typeIs_str _ _ _) F.slot_str_getitem.lookup (P.getItem_str ?_ (by rw[h1];exact h3) (h _ _ Jia))
  simp only[Bool.or_eq_false_iff,decide_eq_false_iff_not]
  exact ⟨Int.not_lt.mpr (Jgr h1 hz).1,Int.not_le.mpr (Jgr h1 hz).2⟩
 |bytes b=>
  obtain ⟨t,rfl⟩:=Jdf ha
  exact Jlc I h
 |tup ds=>exact Jq9 I ha h
 |_=>exact Jra I ha h
theorem item_W{value sl:Expr}(I:Inv x fs p){a i:D}{va vi:Value}(ha:Jaj x p a va)(hi:Jaj x p i vi):W x fs A Pv (subscriptTail value sl va vi) (item a i p.σ) (Jaj x) p:=by
 refine W.of λe h=>?_
 cases i with
 |int i=>
  obtain ⟨u,rfl⟩:=Jbo hi
  exact itemI_W I ha h
 |str n=>
  obtain ⟨u,rfl⟩:=Jb1 hi
  obtain ⟨j,h1,h⟩:=Jaf h
  cases Jqw h1
  obtain ⟨t,h2,h⟩:=Jaf h
  obtain ⟨a,kvs,rfl,_,hd,hn,hr⟩:=Jr2 I ha (Jf7 h2)
  rw[<-hn] at h
  obtain ⟨v,e1,hv⟩:=Jhu hr h
  exact W.tk I λQ E h=>Jde (T:="dict") hd.typeIs slot_dict_getitem.lookup (wpAny_getItem_of (strKind_is x.prog x.w _ u) hd.mapOf e1 (h _ _ hv))
 |_=>exact no h
theorem Jk4{P:Params}{B ρ}{d:D}{v:Value}{o:Option Int}(h:Rel P B ρ d v)(e:part d=some o):IsPart v o/\∃l,v=partValue l/\l.map (·.1)=o:=by
 cases d with
 |none=>cases Jd0 h;cases e;exact ⟨.none,none,rfl,rfl⟩
 |int i=>obtain ⟨t,rfl⟩:=Jbo h;cases e;exact ⟨.int _ _,some (_,t),rfl,rfl⟩
 |_=>exact no e
theorem cut_len{α:Type}(xs:List α)(lo hi:Option Int):(cut xs lo hi).length<=xs.length:=by
 unfold cut
 rw[List.length_take,List.length_drop]
 exact Nat.le_trans (Nat.min_le_right _ _) (Nat.sub_le _ _)
theorem Jr3{α:Type}(xs:List α)(lo hi:Option Int)(h:hi.elim xs.length (clipAt xs.length) - lo.elim 0 (clipAt xs.length)=xs.length):cut xs lo hi=xs:=by
 unfold cut
 rw[h]
 have h1:hi.elim xs.length (clipAt xs.length)<=xs.length:=by
  cases hi with
  |none=>exact Nat.le_refl _
  |some i=>have:=clipAt_cast xs.length i;simp only[Option.elim];exact ar396 this
 by_cases hx:xs.length=0
 ·rw[List.length_eq_zero_iff.mp hx];simp
 ·have:lo.elim 0 (clipAt xs.length)=0:=by exact ar289 h h1 hx
  rw[this];simp
theorem Jn5{α:Type}(xs:List α)(a k:Nat):((List.range k).map (a+·)).filterMap (xs[·]?)=(xs.drop a).take k:=by
 have:=pick_run xs.toArray a k
 simpa using this
theorem Jom{α:Type}(xs:List α)(lo hi:Option Int):(sliceRange (sliceBounds lo hi none xs.length).1 (sliceBounds lo hi none xs.length).2.1 (sliceBounds lo hi none xs.length).2.2).filterMap (xs[·]?)=cut xs lo hi:=by
 rw[sliceBounds_plain]
 simp only[sliceRange_one]
 rw[Jn5];rfl
theorem Jay.take{P B ρ}:∀{ds:List D} {vs:List Value},Jay P B ρ ds vs->∀k:Nat,Jay P B ρ (ds.take k) (vs.take k)
 |_,_,h,0=>mkN
 |[],_,h,k+1=>by cases Jdp h;exact mkN
 |d::ds,_,h,k+1=>by
  obtain ⟨v,r,rfl,h1,h2⟩:=h
  exact mkC h1 (h2.take k)
theorem Jay.drop{P B ρ}:∀{ds:List D} {vs:List Value},Jay P B ρ ds vs->∀k:Nat,Jay P B ρ (ds.drop k) (vs.drop k)
 |_,_,h,0=>h
 |[],_,h,k+1=>by cases Jdp h;exact mkN
 |d::ds,_,h,k+1=>by
  obtain ⟨v,r,rfl,h1,h2⟩:=h
  exact h2.drop k
theorem Jay.rev{P B ρ}:∀{ds:List D} {vs:List Value},Jay P B ρ ds vs->Jay P B ρ ds.reverse vs.reverse
 |[],_,h=>by cases Jdp h;exact mkN
 |d::ds,_,h=>by
  obtain ⟨v,r,rfl,h1,h2⟩:=h
  simp only[List.reverse_cons]
  exact h2.rev.app (mkC h1 mkN)
theorem Jpl{l1 l2:Option (Int×Tok)}{lo hi:Option Int}{y:Str}{t:Tok}{prog:Program}{w:World}{A:Around}{E:Value->Shared->Prop}{s:Shared}{i:Addr}{Q:Value->Shared->Prop}(q1:l1.map (·.1)=lo)(q2:l2.map (·.1)=hi)
  (hi':s.heap.IsSliceOf i (partValue l1) (partValue l2) .none) (hz:y.length<=line) (h:∀t' tk,Q (.str ⟨(cut y.cps.toList lo hi).toArray⟩ t') { s with toks:=tk }):wpAny (model prog w) A (getItem (.str y t) (.ref i)) Q E s:=by
 obtain ⟨o,h1,h2,h3⟩:=hi'
 refine wpAny_getItem_str_slice (l:=l1) (u:=l2) (st:=none) ⟨o,h1,h2,h3⟩ rfl ?_
 have e1:slicePicked y l1 l2 none=sliceRange (sliceBounds lo hi none y.length).1 (sliceBounds lo hi none y.length).2.1 (sliceBounds lo hi none y.length).2.2:=by
  unfold slicePicked
  rw[q1,q2]
  rfl
 have hl:y.cps.toList.length=y.length:=by rw[Array.length_toList];rfl
 have e2:(slicePicked y l1 l2 none).filterMap (y.cps[·]?)=cut y.cps.toList lo hi:=by
  rw[e1,<-Jom,hl]
  congr 1
  funext k
  rw[Array.getElem?_toList]
 unfold sliceMade
 refine post_val_or_str (c:=_=true) ?_
 rw[e2]
 have e3:(if ((((none:Option (Int×Tok)).map (·.1)).getD 1==1)&&((slicePicked y l1 l2 none).length==y.length))=true then y else ⟨(cut y.cps.toList lo hi).toArray⟩)=(⟨(cut y.cps.toList lo hi).toArray⟩:Str):=by
  split
  ·rename_i hc
   simp only[Bool.and_eq_true,beq_iff_eq] at hc
   have hc2:=hc.2
   rw[e1,sliceBounds_plain] at hc2
   simp only[sliceRange_one,List.length_map,List.length_range] at hc2
   rw[Jr3 y.cps.toList lo hi (by rw[hl];exact hc2)]
  ·rfl
 rw[e3]
 refine ⟨?_,h⟩
 show (cut y.cps.toList lo hi).toArray.size<=sizeLine
 have:=cut_len y.cps.toList lo hi
 rw[hl] at this
 rw[List.size_toArray]
 exact Nat.le_trans this (Nat.le_trans hz Jb2)
theorem Jr5(b:Array UInt8)(lo hi:Option Int):KBy.picked b lo hi=(cut b.toList lo hi).toArray:=by
 rw[KBc.picked_eq]
 unfold cut
 rw[Array.length_toList]
theorem cutO_W{value sl:Expr}(I:Inv x fs p){a e:D}{lo hi:Option Int}{l1 l2:Option (Int×Tok)}{va:Value}{i:Addr}(ha:Jaj x p a va)(p1:IsPart (partValue l1) lo)(q1:l1.map (·.1)=lo)(p2:IsPart (partValue l2) hi)(q2:l2.map (·.1)=hi)(p3:IsPart .none none)
  (hi':p.s.heap.IsSliceOf i (partValue l1) (partValue l2) .none) (h:cutO a lo hi p.σ=some e):W x fs A Pv (subscriptTail value sl va (.ref i)) (.ok e p.σ) (Jaj x) p:=by
 have hlist:((Jau p.σ a).bind λds=>opt (ds.length<=line) (D.lst (cut ds lo hi)))=some e->W x fs A Pv (subscriptTail value sl va (.ref i)) (.ok e p.σ) (Jaj x) p:=λh=>by
  obtain ⟨ds,h1,h⟩:=Jaf h
  obtain ⟨hz,rfl⟩:=Jax h
  obtain ⟨a,vs,rfl,hl',hr⟩:=Jaw I ha h1
  have hs':=hr.len
  rw[Array.length_toList] at hs'
  refine W.push I { cls:=.type "list",data:=.seq (slicePick vs lo hi none) } rfl (λQ E h=>Jde (T:="list") (Heap.IsList.typeIs (s:=p.s) hl') list_getitem_lookup (wpAny_getItem_list_slice hl' hi' p1 p2 p3 (λe=>nomatch e) (h _) (hs'▸Nat.le_trans hz Jb2))) λtk=>Jdz I ?_ rfl
  rw[slicePick_plain]
  unfold cut
  rw[hs']
  exact (Jay.drop hr _).take _
 cases a with
 |str y=>
  obtain ⟨t,rfl⟩:=Jb1 ha
  obtain ⟨hc,rfl⟩:=Jax h
  exact W.tk I λQ E h=>Jde (typeIs_str _ _ _) F.slot_str_getitem.lookup (Jpl q1 q2 hi' hc λt' tk=>h _ _ Jia)
 |bytes b=>
  obtain ⟨t,rfl⟩:=Jdf ha
  obtain ⟨hc,rfl⟩:=Jax h
  refine W.tk I λQ E h=>Jde (typeIs_bytes _ _ _) FB.slot_bytes_getitem.lookup ?_
  refine getItem_meets (typeIs_bytes _ _ _) (by decide) FB.slot_bytes_getitem FB.entry_bytes_getitem (FB.args_bytes_getitem_2 _ _) (KBc.meets_slice2 _ _ _ p1 p2) ⟨hi',Nat.le_trans (KBc.size_picked_le _ _ _) (Nat.le_trans hc Jb2),λt' k=>h _ _ ?_⟩
  rw[Jr5]
  exact Ji3
 |_=>exact hlist h
theorem slice_W{value sl:Expr}(I:Inv x fs p){a l u s:D}{va vl vu vs:Value}{i:Addr}(ha:Jaj x p a va)(hl:Jaj x p l vl)(hu:Jaj x p u vu)(hs:Jaj x p s vs)(hi:p.s.heap.IsSliceOf i vl vu vs) :
  W x fs A Pv (subscriptTail value sl va (.ref i)) (slice a l u s p.σ) (Jaj x) p:=by
 refine W.of λe h=>?_
 obtain ⟨lo,e1,h⟩:=Jaf h
 obtain ⟨hi',e2,h⟩:=Jaf h
 obtain ⟨st,e3,h⟩:=Jaf h
 obtain ⟨p1,l1,rfl,q1⟩:=Jk4 hl e1
 obtain ⟨p2,l2,rfl,q2⟩:=Jk4 hu e2
 obtain ⟨p3,l3,rfl,q3⟩:=Jk4 hs e3
 clear hl hu hs e1 e2 e3
 cases st with
 |none=>
  cases l3 with
  |none=>exact cutO_W I ha p1 q1 p2 q2 p3 hi h
  |some _=>exact no q3.symm
 |some k=>
  obtain ⟨⟨rfl,rfl,rfl⟩,h⟩ | h:=Jbd h
  ·obtain ⟨ds,h1,h⟩:=Jaf h
   obtain ⟨hz,rfl⟩:=Jax h
   obtain ⟨a,vs,rfl,hl',hr⟩:=Jaw I ha h1
   have hs':=hr.len
   rw[Array.length_toList] at hs'
   refine W.push I { cls:=.type "list",data:=.seq (slicePick vs none none (some (-1))) } rfl (λQ E h=>Jde (T:="list") (Heap.IsList.typeIs (s:=p.s) hl') list_getitem_lookup (wpAny_getItem_list_slice hl' hi p1 p2 p3 (by decide) (h _) (hs'▸Nat.le_trans hz Jb2))) λtk=>Jdz I ?_ rfl
   rw[krv_pick]
   exact Jay.rev hr
  ·exact no h
end
end
section
noncomputable def noHeap:Heap:={ objs:=#[] }
theorem Jn8(a:Addr):noHeap.get? a=none:=Heap.get?_none_of_le (by simp[noHeap])
theorem Jft{p:Pt}:∀{fs:List Env},Jaq p fs->p.s.heap.FunFrames noHeap fs
 |[],_=>trivial
 |_::_,⟨⟨h1,L,o,h2,h3,h4,_,_⟩,hr⟩=>⟨h1,⟨L,o,h2,Jn8 L,h3,h4⟩,Jft hr⟩
theorem Jbb{p:Pt}:∀{fs:List Env},Jaq p fs->∀a∈frA fs,p.B a=none/\a∉p.ρ/\∃o,p.s.heap.get? a=some o/\∀vs,o.data≠.fields vs
 |[],_,a,h=>by simp[frA] at h
 |env::r,⟨⟨h1,L,o,h2,h3,h4,h5,h6⟩,hr⟩,a,h=>by
  unfold frA at h
  simp only[List.filterMap_cons,h2] at h
  rcases List.mem_cons.mp h with rfl | h
  ·exact ⟨h5,h6,o,h3,h4⟩
  ·exact Jbb hr a h
theorem Jeq(o:Obj)(f):(o.mapFields f).dict=o.dict:=by obtain ⟨c,d,dt,sl⟩:=o;cases dt<;>rfl
inductive TbHas(h:Heap)(T:Addr):Prop
 |mk (oT:Obj) (ts:Array Value) (h1:h.get? T=some oT) (h2:oT.data=.fields ts) (h3:3<ts.size)
inductive TchE(e:Addr)(oe:Obj)(vs:Array Value)(h h':Heap):Prop
 |mk (oe':Obj) (vs':Array Value) (T:Addr) (h1:h'.get? e=some oe') (h2:oe'.cls=oe.cls) (h3:oe'.dict=oe.dict) (h4:oe'.data=.fields vs') (h5:vs'.size=vs.size) (h6:vs'[1]?=some (.ref T)) (h7:T≠e)
  (h8:vs[1]?=some (.ref T)\/h.get? T=none) (h9:TbHas h' T)
structure Tch(fs:List Env)(e:Addr)(oe:Obj)(vs:Array Value)(h h':Heap):Prop where
 exc:TchE e oe vs h h'
 keep:∀b o,h.get? b=some o->b≠e->vs[1]?≠some (.ref b)->(∃sl,h'.get? b=some { o with slots:=sl })/\(b∉frA fs->h'.get? b=some o)
 there:∀b o,h.get? b=some o->∃o',h'.get? b=some o'
inductive TbAt(h:Heap)(e:Addr)(vs:Array Value):Prop
 |mk (T:Addr) (oT:Obj) (ts:Array Value) (h1:vs[1]?=some (.ref T)) (h2:T≠e) (h3:h.get? T=some oT) (h4:oT.data=.fields ts) (h5:3<ts.size)
section
variable{M:Model}{A:Around}{E:Value->Shared->Prop}{s:Shared}{env e0:Env}{outer:List Env}{L e:Addr}{oe:Obj}{vs:Array Value}
theorem Jog{Q:Value->Shared->Prop}(hfr:A.frames=some (e0::outer))(h0:e0.frame=some L)(hf:env.frame=some L)(hl:s.heap.FunFrames noHeap (e0::outer))
  (h:∀h',Heap.SlotsOnly (frA (e0::outer)) s.heap h'->Q (.ref L) { s with heap:=h' }):wpAny M A (PySem.frameOf env) Q E s:=by
 unfold PySem.frameOf
 refine wpAny_bind (wpAny_frameEnvs hfr ?_)
 have hdw:((e0::outer).dropWhile λx=>x.frame != env.frame)=e0::outer:=by simp[List.dropWhile,h0,hf]
 rw[hdw]
 unfold frameObject
 refine wpAny_bind (wpAny_bind (wpAny_readyFrames_fun hl λh₁ hs₁=>wpAny_pure ?_))
 rw[h0]
 exact wpAny_pure (h h₁ hs₁)
theorem Jm4{head:Value}{hadNext:Bool}{Q:Unit->Shared->Prop}(hfr:A.frames=some (e0::outer))(h0:e0.frame=some L)(hf:env.frame=some L)(hl:s.heap.FunFrames noHeap (e0::outer))
  (he:s.heap.get? e=some oe) (hd:oe.data=.fields vs) (hsz:1<vs.size)
  (h:∀h' T,h'.get? e=some (oe.mapFields (·.setIfInBounds 1 (.ref T)))->T≠e->s.heap.get? T=none->TbHas h' T->
   (∀b o,s.heap.get? b=some o->b≠e->(∃sl,h'.get? b=some { o with slots:=sl })/\(b∉frA (e0::outer)->h'.get? b=some o))->Q () { s with heap:=h' }) :
  wpAny M A (do let a <-PySem.frameOf env;let pl <-entryPlaceOf L hadNext;let b <-EntryCells.newEntry head a .none (rawInt L) .none pl;setField (.ref e) 1 b) Q E s:=by
 have hene:e∉frA (e0::outer):=λhm=>by
  obtain ⟨_,o,ho,hnf⟩:=hl.mem hm
  rw[he] at ho;injection ho with ho;subst ho;exact hnf vs hd
 refine wpAny_bind (Jog hfr h0 hf hl λh₁ hs₁=>?_)
 refine wpAny_bind (wpAny_entryPlaceOf λpl hpl=>?_)
 unfold EntryCells.newEntry newFields
 refine wpAny_bind (wpAny_newObj_type ?_ (hpl.sizeOk5 _ _ _ _ _))
 have he₁:h₁.get? e=some oe:=(hs₁.2.1 e hene).trans he
 have he₂:=Heap.get?_push_of_some (h:=h₁) { cls:=.type "traceback",dict:=none,data:=.fields ([head,.ref L,.none,rawInt L,.none]++(if pl.isEmpty then List.replicate 6 Value.none else pl)).toArray } he₁
 refine wpAny_setField he₂ hd hsz ?_
 have hTe:h₁.objs.size≠e:=Nat.ne_of_gt (Heap.lt_size he₁)
 have hd₃:=Obj.data_mapFields hd (·.setIfInBounds 1 (Value.ref h₁.objs.size))
 refine h _ h₁.objs.size (Heap.get?_update_self (Obj.mapFields (·.setIfInBounds 1 (Value.ref h₁.objs.size))) he₂ (Obj.isFreed_of_fields hd₃)) hTe ?_ ⟨_,_,(Heap.get?_update_other _ _ (Ne.symm hTe)).trans (Heap.get?_push_size h₁ rfl),rfl,?_⟩ ?_
 ·cases q:s.heap.get? h₁.objs.size with
  |none=>rfl
  |some o=>exact absurd (Heap.lt_size q) (by rw[hs₁.1];exact Nat.lt_irrefl _)
 ·simp only[List.size_toArray,List.length_append,List.length_cons,List.length_nil];exact ar140
 ·intro b o hb hbe
  obtain ⟨sl,h2⟩:=hs₁.2.2 b o hb
  refine ⟨⟨sl,?_⟩,λhn=>?_⟩
  ·rw[Heap.get?_update_other _ _ (Ne.symm hbe)];exact Heap.get?_push_of_some _ h2
  ·rw[Heap.get?_update_other _ _ (Ne.symm hbe)];exact Heap.get?_push_of_some _ ((hs₁.2.1 b hn).trans hb)
theorem Jdy{T:Value}:(vs.setIfInBounds 1 T).size=vs.size:=by simp
theorem Jjm{Q:Unit->Shared->Prop}(hfr:A.frames=some (e0::outer))(h0:e0.frame=some L)(hf:env.frame=some L)(hl:s.heap.FunFrames noHeap (e0::outer))
  (he:s.heap.get? e=some oe) (hd:oe.data=.fields vs) (hsz:1<vs.size) (ht:vs[1]?=some .none\/TbAt s.heap e vs)
  (h:∀h',Tch (e0::outer) e oe vs s.heap h'->Q () { s with heap:=h' }):wpAny M A (noteFrame (.ref e) env) Q E s:=by
 unfold noteFrame
 simp only[hf]
 rcases ht with h1 | ⟨T,oT,ts,h1,hTe,hT,hdT,h3⟩
 ·refine wpAny_bind (wpAny_field he hd h1 ?_)
  rw[if_neg (by decide)]
  refine Jm4 hfr h0 hf hl he hd hsz λh' T g1 g2 g3 g4 g5=>h h' ⟨⟨_,_,T,g1,Obj.cls_mapFields ..,Jeq ..,Obj.data_mapFields hd _,Jdy,by simp[hsz],g2,.inr g3,g4⟩,λb o hb hbe _=>g5 b o hb hbe,λb o hb=>?_⟩
  by_cases hbe:b=e
  ·subst hbe;exact ⟨_,g1⟩
  ·obtain ⟨⟨sl,g6⟩,_⟩:=g5 b o hb hbe;exact ⟨_,g6⟩
 ·refine wpAny_bind (wpAny_field he hd h1 ?_)
  rw[if_pos (show (Value.ref T != Value.none)=true from by simp)]
  refine wpAny_bind (wpAny_field (x:=ts[3]) hT hdT (Array.getElem?_eq_getElem h3) ?_)
  by_cases hc:(ts[3]==rawInt L)=true
  ·rw[if_pos hc]
   exact wpAny_pure (h s.heap ⟨⟨oe,vs,T,he,rfl,rfl,hd,rfl,h1,hTe,.inl h1,oT,ts,hT,hdT,h3⟩,λb o hb _ _=>⟨⟨o.slots,hb⟩,λ_=>hb⟩,λb o hb=>⟨o,hb⟩⟩)
  ·rw[if_neg hc]
   refine wpAny_bind (wpAny_setField hT hdT h3 ?_)
   have other:∀b,b≠T->(s.heap.update T (Obj.mapFields (·.setIfInBounds 3 Value.none))).get? b=s.heap.get? b:=λb hb=>Heap.get?_update_other _ _ (Ne.symm hb)
   have self:=Heap.get?_update_self (Obj.mapFields (·.setIfInBounds 3 Value.none)) hT (Obj.isFreed_of_fields (Obj.data_mapFields hdT _))
   have noRecord:∀b o,s.heap.get? b=some o->(∀vs,o.data≠.fields vs)->b≠T:=λb o hb hnf q=>by
    rw[q,hT] at hb;injection hb with hb;subst hb;exact hnf ts hdT
   refine Jm4 hfr h0 hf (hl.of_keeps λb o hb hnf=>⟨o,(other b (noRecord b o hb hnf)).trans hb,rfl⟩) ((other e (Ne.symm hTe)).trans he) hd hsz
    λh' T' g1 g2 g3 g4 g5=>h h' ⟨⟨_,_,T',g1,Obj.cls_mapFields ..,Jeq ..,Obj.data_mapFields hd _,Jdy,by simp[hsz],g2,.inr ?_,g4⟩,λb o hb hbe hbT=>?_,λb o hb=>?_⟩
   ·by_cases q:T'=T
    ·rw[q,self] at g3;cases g3
    ·rw[<-other T' q];exact g3
   ·have hbT':b≠T:=by rintro rfl;exact hbT h1
    exact g5 b o ((other b hbT').trans hb) hbe
   ·by_cases hbe:b=e
    ·subst hbe;exact ⟨_,g1⟩
    ·by_cases hbT:b=T
     ·subst hbT
      obtain ⟨⟨sl,g6⟩,_⟩:=g5 b _ self hbe;exact ⟨_,g6⟩
     ·obtain ⟨⟨sl,g6⟩,_⟩:=g5 b o ((other b hbT).trans hb) hbe;exact ⟨_,g6⟩
end
inductive Jar(x:Cx)(fs:List Env)(Pv:List Addr)(p:Pt)(w:Str)(n:Int)(σ:Jaa)(tb:Bool)(e:Value)(s':Shared):Prop
 |mk (q:Pt) (h1:q.σ=σ) (h2:q.s=s') (I:Inv x fs q) (X:Ext fs Pv p q) (h:Jc1 x q p.s.heap e w n tb)
inductive FlyParts(x:Cx)(fs:List Env)(Pv:List Addr)(p:Pt)(w:Str)(n:Int)(σ:Jaa)(tb:Bool)(v:Value)(s:Shared):Prop
 |mk (e:Addr) (oe:Obj) (vs:Array Value) (h0:v=.ref e) (h1:s.heap.get? e=some oe) (h2:oe.data=.fields vs) (h3:1<vs.size) (h4:s.heap.FunFrames noHeap fs) (h5:(tb=false/\vs[1]?=some .none)\/TbAt s.heap e vs)
  (h6:∀h',Tch fs e oe vs s.heap h'->Jar x fs Pv p w n σ true v { s with heap:=h' })
theorem Jar.weak{x fs Pv p w n σ e s'}(X:Jar x fs Pv p w n σ true e s'):Jar x fs Pv p w n σ false e s':=by
 obtain ⟨q,h1,h2,h3,h4,h5⟩:=X
 exact ⟨q,h1,h2,h3,h4,h5.weak⟩
section
variable{x:Cx}{fs:List Env}{A:Around}{Pv:List Addr}{p:Pt}{w:Str}{n:Int}{σ:Jaa}{tb:Bool}{v:Value}{s:Shared}
theorem Jar.parts(X:Jar x fs Pv p w n σ tb v s):FlyParts x fs Pv p w n σ tb v s:=by
 obtain ⟨q,rfl,rfl,I,Y,e,oe,vs,dx,es,k,rfl,h2,h3,h4,h5,h6,h7,h8,h9,h10,h11,h12⟩:=X
 refine ⟨e,oe,vs,rfl,h2,h5,by exact ar32 h6,Jft I.frames,?_,λh' t=>?_⟩
 ·rcases h12 with h12 | ⟨T,oT,ts,a1,a2,a3,a4,a5,_⟩
  ·exact .inl h12
  ·exact .inr ⟨T,oT,ts,a1,a2,a3,a4,a5⟩
 ·have hT:∀T,vs[1]?=some (.ref T)->p.s.heap.get? T=none/\q.B T=none/\T∉q.ρ/\∃oT ts,q.s.heap.get? T=some oT/\oT.data=.fields ts:=λT e1=>by
   rcases h12 with ⟨_,h12⟩ | ⟨T',oT,ts,a1,a2,a3,a4,a5,a6,a7,a8⟩
   ·rw[h12] at e1;cases e1
   ·rw[a1] at e1;cases e1;exact ⟨a6,a7,a8,oT,ts,a3,a4⟩
  have fzE:∀b o,q.B b=some o->b≠e/\vs[1]?≠some (.ref b)/\b∉frA fs:=λb o hb=>⟨(by rintro rfl;rw[h10] at hb;cases hb),(λe1=>by rw[(hT b e1).2.1] at hb;cases hb),(λhm=>by rw[(Jbb I.frames b hm).1] at hb;cases hb)⟩
  have muE:∀b,b∈q.ρ->b≠e/\vs[1]?≠some (.ref b)/\b∉frA fs:=λb hb=>⟨by rintro rfl;exact h11 hb,λe1=>(hT b e1).2.2.1 hb,λhm=>(Jbb I.frames b hm).2.1 hb⟩
  have I':Inv x fs { q with s:={ q.s with heap:=h' } }:=
   {base:=I.base,froz:=λa o e1=>(t.keep a o (I.froz a o e1) (fzE a o e1).1 (fzE a o e1).2.1).2 (fzE a o e1).2.2,len:=I.len,nd:=I.nd,off:=I.off,mu:=λi a m e1 e2=>by
     obtain ⟨o,g1,g2⟩:=I.mu i a m e1 e2
     have hm:=muE a (List.mem_of_getElem? e1)
     exact ⟨o,(t.keep a o g1 hm.1 hm.2.1).2 hm.2.2,g2⟩,frames:=Jaq.of (p:=q) (q:={ q with s:={ q.s with heap:=h' } }) (λa g _=>g) (λa g _=>g) (λa o g1 g2 g3 g4=>by
     have ne:a≠e:=by rintro rfl;rw[h2] at g1;cases g1;exact g4 vs h5
     have nT:vs[1]?≠some (.ref a):=λe1=>by
      obtain ⟨_,_,_,oT,ts,b1,b2⟩:=hT a e1
      rw[g1] at b1;cases b1;exact g4 ts b2
     obtain ⟨⟨sl,g5⟩,_⟩:=t.keep a o g1 ne nT
     exact ⟨_,g5,g4⟩) I.frames }
  have Y':Ext fs Pv p { q with s:={ q.s with heap:=h' } }:=
   {b:=Y.b,r:=Y.r,bnew:=Y.bnew,rnew:=Y.rnew,keep:=λa o g1 g2 g3=>by
     obtain ⟨⟨sl,k1⟩,k2⟩:=Y.keep a o g1 g2 g3
     have ne:a≠e:=by rintro rfl;rw[h9] at g1;cases g1
     have nT:vs[1]?≠some (.ref a):=λe1=>by rw[(hT a e1).1] at g1;cases g1
     obtain ⟨⟨sl',k3⟩,_⟩:=t.keep a _ k1 ne nT
     exact ⟨⟨sl',k3⟩,λhn=>(t.keep a o (k2 hn) ne nT).2 hn⟩,there:=λa o g1=>by
     obtain ⟨o',g2⟩:=Y.there a o g1
     exact t.there a o' g2,same:=by
     obtain ⟨h,tk,g⟩:=Y.same
     exact ⟨h',tk,by show { q.s with heap:=h' }=_;rw[g]⟩ }
  obtain ⟨oe',vs',T,b1,b2,b3,b4,b5,b6,b7,b8,oT,ts,b9,b10,b11⟩:=t.exc
  refine (λ(b12:p.s.heap.get? T=none/\q.B T=none/\T∉q.ρ)=>?_) ?_
  exact ⟨{ q with s:={ q.s with heap:=h' } },rfl,rfl,I',Y',e,oe',vs',dx,es,k,rfl,b1,b2.trans h3,b3.trans h4,b4,b5.trans h6,h7,h8,h9,h10,h11,.inr ⟨T,oT,ts,b6,b7,b9,b10,b11,b12.1,b12.2.1,b12.2.2⟩⟩
  rcases b8 with b8 | b8
  ·exact ⟨(hT T b8).1,(hT T b8).2.1,(hT T b8).2.2.1⟩
  ·refine ⟨Y.none b8,?_,λhm=>by obtain ⟨o,ho⟩:=I.ρlt hm;rw[b8] at ho;cases ho⟩
   cases g:q.B T with
   |none=>rfl
   |some o=>rw[I.froz _ _ g] at b8;cases b8
theorem Jar.noteFrame{M:Model}{E:Value->Shared->Prop}{env e0:Env}{outer:List Env}{L:Addr}{Q:Unit->Shared->Prop}(hfr:A.frames=some (e0::outer))(h0:e0.frame=some L)(hf:env.frame=some L)
  (X:Jar x (e0::outer) Pv p w n σ tb v s) (h:∀s',Jar x (e0::outer) Pv p w n σ true v s'->Q () s'):wpAny M A (noteFrame v env) Q E s:=by
 obtain ⟨e,oe,vs,rfl,h1,h2,h3,h4,h5,h6⟩:=X.parts
 exact Jjm hfr h0 hf h4 h1 h2 h3 (h5.imp (·.2) id) λh' t=>h _ (h6 h' t)
theorem Jar.setFlight{M:Model}{E:Value->Shared->Prop}{fr:Option Addr}{Q:Unit->Shared->Prop}(X:Jar x fs Pv p w n σ true v s)(h:∀s',Jar x fs Pv p w n σ true v s'->Q () s'):wpAny M A (setFlight v fr) Q E s:=by
 obtain ⟨e,oe,vs,rfl,h1,h2,h3,h4,h5,h6⟩:=X.parts
 have ht:TbAt s.heap e vs:=h5.elim (λh=>nomatch h.1) id
 obtain ⟨T,oT,ts,g1,gTe,gT,gdT,g3⟩:=id ht
 unfold PySem.setFlight
 refine wpAny_bind (wpAny_field h1 h2 g1 ?_)
 rw[if_pos (show (Value.ref T != Value.none)=true from by simp)]
 have other:∀(f:Obj->Obj) b,b≠T->(s.heap.update T f).get? b=s.heap.get? b:=λf b hb=>Heap.get?_update_other _ _ (Ne.symm hb)
 refine wpAny_setField gT gdT g3 (h _ (h6 _ ⟨⟨oe,vs,T,(other _ e (Ne.symm gTe)).trans h1,rfl,rfl,h2,rfl,g1,gTe,.inl g1,_,_,Heap.get?_update_self _ gT (Obj.isFreed_of_fields (Obj.data_mapFields gdT _)),Obj.data_mapFields gdT _,by simp[g3]⟩,λb o hb hbe hbT=>?_,λb o hb=>?_⟩))
 ·have hbT':b≠T:=by rintro rfl;exact hbT g1
  exact ⟨⟨o.slots,(other _ b hbT').trans hb⟩,λ_=>(other _ b hbT').trans hb⟩
 ·by_cases hbT:b=T
  ·subst hbT;exact ⟨_,Heap.get?_update_self _ gT (Obj.isFreed_of_fields (Obj.data_mapFields gdT _))⟩
  ·exact ⟨o,(other _ b hbT).trans hb⟩
theorem Jar.leaving{M:Model}{E:Value->Shared->Prop}{env e0:Env}{outer:List Env}{L:Addr}{Q:Unit->Shared->Prop}(hfr:A.frames=some (e0::outer))(h0:e0.frame=some L)(hf:env.frame=some L)
  (X:Jar x (e0::outer) Pv p w n σ tb v s) (h:∀s',Jar x (e0::outer) Pv p w n σ true v s'->Q () s'):wpAny M A (leaving env v) Q E s:=by
 unfold PySem.leaving
 exact wpAny_bind (X.noteFrame hfr h0 hf λs' X'=>X'.setFlight h)
theorem Jar.passOn{M:Model}{α:Type}{E:Value->Shared->Prop}{env:Env}{what:String}{Q:α->Shared->Prop}(X:Jar x fs Pv p w n σ true v s)(h:∀s',Jar x fs Pv p w n σ true v s'->E v s'):wpAny M A (passOn what v env:Sem α) Q E s:=by
 unfold PySem.passOn
 obtain ⟨e,oe,vs,rfl,h1,h2,h3,h4,h5,h6⟩:=X.parts
 have ht:TbAt s.heap e vs:=h5.elim (λh=>nomatch h.1) id
 obtain ⟨T,oT,ts,g1,gTe,gT,gdT,g3⟩:=id ht
 refine wpAny_bind (wpAny_field h1 h2 g1 ?_)
 rw[if_neg (show ¬ ((Value.ref T==Value.none)=true) from by simp)]
 exact wpAny_bind (X.setFlight λs' X'=>wpAny_throw (h s' X'))
end
end
section
structure PrgOk(x:Cx)(G:Prg):Prop where
 K:x.K.In x.h0
 glob:∃mg mb,x.h0.Ns mainGlobals mg/\x.h0.Ns builtinsNs mb/\∀y d,G.glob y=some d->∃v,(mg y=some v\/(mg y=none/\mb y=some v))/\∀B ρ,Rel x.w.params B ρ d v
noncomputable def pvt(env:Env):List Addr:=env.locals::env.cells.map (·.2)
structure Jaz(x:Cx)(fs:List Env)(env:Env)(nm:List (Str×NameKind))(vars:Jac)(q:Pt):Prop where
 kind:env.scope.kind=.function
 names:∀y,env.kindOf y=nm.lookup y\/(env.kindOf y=some .cell/\nm.lookup y=some .free)
 glob:env.globals=mainGlobals
 bi:env.builtins=builtinsNs
 debug:nm.lookup ("__debug__":Str)=none
 clsd:nm.lookup ("__classdict__":Str)=none
 loc:∃m,q.s.heap.Ns env.locals m/\∀y d,nm.lookup y=some .local->vars y=some d->∃v,m y=some v/\Jaj x q d v
 cel:∀y,nm.lookup y=some .cell\/nm.lookup y=some .free->∃c u,env.cells.lookup y=some c/\q.s.heap.IsCell c u/\∀d,vars y=some d->∃v,u=some v/\Jaj x q d v
 apart:∀y z c,env.cells.lookup y=some c->env.cells.lookup z=some c->y=z
 off:∀y c,env.cells.lookup y=some c->c≠env.locals
 priv:∀a∈pvt env,q.B a=none/\a∉q.ρ/\∃o,q.s.heap.get? a=some o
 frame:∃e0 outer L,fs=e0::outer/\e0.frame=some L/\env.frame=some L
theorem Jmh{h h':Heap}{a:Addr}{m}(hn:h.Ns a m)(k:∀o,h.get? a=some o->∃sl,h'.get? a=some { o with slots:=sl }):h'.Ns a m:=by
 obtain ⟨o,es,ep,h1,h2,h3⟩:=hn
 obtain ⟨sl,h4⟩:=k o h1
 exact ⟨_,es,ep,h4,h2,h3⟩
theorem Jop{h h':Heap}{a:Addr}{u}(hn:h.IsCell a u)(k:∀o,h.get? a=some o->∃sl,h'.get? a=some { o with slots:=sl }):h'.IsCell a u:=by
 obtain ⟨o,h1,h2⟩:=hn
 obtain ⟨sl,h4⟩:=k o h1
 exact ⟨_,h4,h2⟩
theorem Jby{y:Str}{c:Addr}:∀{l:List (Str×Addr)},l.lookup y=some c->c∈l.map (·.2)
 |[],h=>by simp at h
 |(n,a)::r,h=>by
  simp only[List.lookup_cons] at h
  split at h
  ·cases h;simp
  ·exact List.mem_cons_of_mem _ (Jby h)
section
variable{x:Cx}{fs:List Env}{A:Around}{Pv:List Addr}{p q:Pt}{env:Env}{nm:List (Str×NameKind)}{vars:Jac}{G:Prg}
theorem Jaz.ext(R:Jaz x fs env nm vars p)(X:Ext fs Pv p q)(hp:∀a∈pvt env,a∉Pv):Jaz x fs env nm vars q where
 kind:=R.kind
 names:=R.names
 glob:=R.glob
 bi:=R.bi
 debug:=R.debug
 clsd:=R.clsd
 loc:=by
  obtain ⟨m,h1,h2⟩:=R.loc
  have hm:env.locals∈pvt env:=List.mem_cons_self ..
  refine ⟨m,Jmh h1 λo ho=>(X.keep _ _ ho (R.priv _ hm).2.1 (hp _ hm)).1,λy d e1 e2=>?_⟩
  obtain ⟨v,e3,hr⟩:=h2 y d e1 e2
  exact ⟨v,e3,Rel.mono X.sub hr⟩
 cel:=λy hy=>by
  obtain ⟨c,u,h1,h2,h3⟩:=R.cel y hy
  have hm:c∈pvt env:=List.mem_cons_of_mem _ (Jby h1)
  refine ⟨c,u,h1,Jop h2 λo ho=>(X.keep _ _ ho (R.priv _ hm).2.1 (hp _ hm)).1,λd e=>?_⟩
  obtain ⟨v,e3,hr⟩:=h3 d e
  exact ⟨v,e3,Rel.mono X.sub hr⟩
 apart:=R.apart
 off:=R.off
 priv:=λa ha=>by
  obtain ⟨h1,h2,o,h3⟩:=R.priv a ha
  refine ⟨?_,λhm=>?_,X.there a o h3⟩
  ·cases e:q.B a with
   |none=>rfl
   |some o'=>
    rcases X.bnew a o' e with h | h
    ·rw[h1] at h;cases h
    ·rw[h3] at h;cases h
  ·rcases X.rnew a hm with h | h
   ·exact h2 h
   ·rw[h3] at h;cases h
 frame:=R.frame
theorem Jaz.ext0(R:Jaz x fs env nm vars p)(X:Ext fs [] p q):Jaz x fs env nm vars q:=R.ext X λ_ _ h=>by cases h
theorem Inv.keepsBase(I:Inv x fs p):∀b o,x.h0.get? b=some o->p.s.heap.get? b=some o:=λb o e=>I.froz b o (I.base b o e)
theorem W.here{t:Sem Value}{d:D}{v:Value}(I:Inv x fs p)(h:Jaj x p d v)(ht:∀Q E,Q v p.s->wpAny (model x.prog x.w) A t Q E p.s):W x fs A Pv t (.ok d p.σ) (Jaj x) p:=
 λ_=>ht _ _ ⟨d,p,rfl,rfl,I,.refl ..,h⟩
theorem Jmi(H:PrgOk x G)(R:Jaz x fs env nm vars p)(I:Inv x fs p){y:Str}{pos:Pos}:W x fs A Pv (eval (.Name y pos) env) (nameD G nm y vars p.σ) (Jaj x) p:=by
 have hd:∀k,nm.lookup y=some k->(y==("__debug__":Str))=false:=λk e=>by
  cases h:y==("__debug__":Str) with
  |false=>rfl
  |true=>have:=R.debug;rw[<-eq_of_beq h,e] at this;cases this
 have hc:∀k,nm.lookup y=some k->(y==("__classdict__":Str))=false:=λk e=>by
  cases h:y==("__classdict__":Str) with
  |false=>rfl
  |true=>have:=R.clsd;rw[<-eq_of_beq h,e] at this;cases this
 unfold nameD
 split
 ·rename_i e
  refine W.of λd he=>?_
  obtain ⟨mg,mb,h1,h2,h3⟩:=H.glob
  obtain ⟨v,h4,h5⟩:=h3 y d he
  have hk:env.kindOf y=some .globalImplicit:=by
   rcases R.names y with h | h
   ·rw[h,e]
   ·rw[e] at h;cases h.2
  refine W.here I (h5 _ _) λQ E hQ=>Calls.Name_function_global R.kind hk ?_ (hd _ e)
  rcases h4 with h4 | ⟨h4,h6⟩
  ·exact Calls.loadGlobal_global (by rw[R.glob];exact h1.keeps I.keepsBase) h4 hQ
  ·exact Calls.loadGlobal_builtin (by rw[R.glob];exact h1.keeps I.keepsBase) h4 (by rw[R.bi];exact h2.keeps I.keepsBase) h6 hQ
 ·rename_i e
  refine W.of λd he=>?_
  obtain ⟨m,h1,h2⟩:=R.loc
  obtain ⟨v,h3,h4⟩:=h2 y d e he
  have hk:env.kindOf y=some .local:=by
   rcases R.names y with h | h
   ·rw[h,e]
   ·rw[e] at h;cases h.2
  exact W.here I h4 λQ E hQ=>wpAny_Name (wpAny_loadName_local R.kind hk h1 h3 hQ) (hd _ e)
 ·rename_i e
  refine W.of λd he=>?_
  obtain ⟨c,u,h1,h2,h3⟩:=R.cel y (.inl e)
  obtain ⟨v,rfl,h4⟩:=h3 d he
  have hk:env.kindOf y=some .cell:=by
   rcases R.names y with h | h
   ·rw[h,e]
   ·exact h.1
  exact W.here I h4 λQ E hQ=>wpAny_Name (wpAny_loadName_cell R.kind hk h1 h2 hQ) (hd _ e)
 ·rename_i e
  refine W.of λd he=>?_
  obtain ⟨c,u,h1,h2,h3⟩:=R.cel y (.inr e)
  obtain ⟨v,rfl,h4⟩:=h3 d he
  rcases R.names y with h | h
  ·exact W.here I h4 λQ E hQ=>wpAny_Name (wpAny_loadName_free R.kind (h.trans e) h1 h2 hQ (hc _ e)) (hd _ e)
  ·exact W.here I h4 λQ E hQ=>wpAny_Name (wpAny_loadName_cell R.kind h.1 h1 h2 hQ) (hd _ e)
 ·exact .bad
theorem Jaz.less{vars':Jac}(R:Jaz x fs env nm vars' p)(h:∀y d,vars y=some d->vars' y=some d):Jaz x fs env nm vars p:=
 { R with loc:=let ⟨m,h1,h2⟩:=R.loc;⟨m,h1,λy d e1 e2=>h2 y d e1 (h y d e2)⟩,cel:=λy hy=>let ⟨c,u,h1,h2,h3⟩:=R.cel y hy;⟨c,u,h1,h2,λd e=>h3 d (h y d e)⟩ }
noncomputable def Pt.own(p:Pt)(h:Heap)(tk:Nat):Pt:={ p with s:={ p.s with heap:=h,toks:=tk } }
theorem Inv.own(I:Inv x fs p){a:Addr}{h:Heap}{o:Obj}(tk:Nat)(hB:p.B a=none)(hρ:a∉p.ρ)(hs:Heap.SameBut a p.s.heap h)(ho:h.get? a=some o)(hf:∀vs,o.data≠.fields vs):Inv x fs (p.own h tk) where
 base:=I.base
 froz:=λb o' e=>(hs.2 b (by rintro rfl;have e':p.B b=some o':=e;rw[hB] at e';cases e')).trans (I.froz _ _ e)
 len:=I.len
 nd:=I.nd
 off:=I.off
 mu:=λi b m e1 e2=>by
  obtain ⟨o',h1,h2⟩:=I.mu i b m e1 e2
  exact ⟨o',(hs.2 b (by rintro rfl;exact hρ (List.mem_of_getElem? e1))).trans h1,h2⟩
 frames:=Jaq.of (p:=p) (q:=p.own h tk) (λ_ g _=>g) (λ_ g _=>g) (λb o' g1 _ _ g4=>by
  by_cases hb:b=a
  ·subst hb;exact ⟨o,ho,hf⟩
  ·exact ⟨o',(hs.2 b hb).trans g1,g4⟩) I.frames
theorem Ext.own{a:Addr}{h:Heap}{o:Obj}(tk:Nat)(hs:Heap.SameBut a p.s.heap h)(ho:h.get? a=some o)(hm:a∈Pv):Ext fs Pv p (p.own h tk) where
 b:=λ_ _ e=>e
 r:=⟨[],by simp[Pt.own]⟩
 bnew:=λ_ _ e=>.inl e
 rnew:=λ_ e=>.inl e
 keep:=λb o' e _ hp=>by
  have ne:b≠a:=by rintro rfl;exact hp hm
  exact ⟨⟨o'.slots,(hs.2 b ne).trans e⟩,λ_=>(hs.2 b ne).trans e⟩
 there:=λb o' e=>by
  by_cases hb:b=a
  ·subst hb;exact ⟨o,ho⟩
  ·exact ⟨o',(hs.2 b hb).trans e⟩
 same:=⟨_,_,rfl⟩
theorem Inv.chg(I:Inv x fs p){a:Addr}{h:Heap}(tk:Nat)(hB:p.B a=none)(hρ:a∉p.ρ)(hs:Heap.ExtBut a p.s.heap h)
  (hf:∀o,p.s.heap.get? a=some o->(∀vs,o.data≠.fields vs)->∃o',h.get? a=some o'/\∀vs,o'.data≠.fields vs):Inv x fs (p.own h tk) where
 base:=I.base
 froz:=λb o' e=>hs b o' (by rintro rfl;have e':p.B b=some o':=e;rw[hB] at e';cases e') (I.froz _ _ e)
 len:=I.len
 nd:=I.nd
 off:=I.off
 mu:=λi b m e1 e2=>by
  obtain ⟨o',h1,h2⟩:=I.mu i b m e1 e2
  exact ⟨o',hs b o' (by rintro rfl;exact hρ (List.mem_of_getElem? e1)) h1,h2⟩
 frames:=Jaq.of (p:=p) (q:=p.own h tk) (λ_ g _=>g) (λ_ g _=>g) (λb o' g1 _ _ g4=>by
  by_cases hb:b=a
  ·subst hb;exact hf o' g1 g4
  ·exact ⟨o',hs b o' hb g1,g4⟩) I.frames
theorem Ext.chg{p0:Pt}(X:Ext fs Pv p0 p){a:Addr}{h:Heap}(tk:Nat)(hs:Heap.ExtBut a p.s.heap h)(hn:p0.s.heap.get? a=Option.none):Ext fs Pv p0 (p.own h tk) where
 b:=X.b
 r:=X.r
 bnew:=X.bnew
 rnew:=X.rnew
 keep:=λb o e h1 h2=>by
  have ne:b≠a:=by rintro rfl;rw[hn] at e;cases e
  obtain ⟨⟨sl,k1⟩,k2⟩:=X.keep b o e h1 h2
  exact ⟨⟨sl,hs b _ ne k1⟩,λhm=>hs b _ ne (k2 hm)⟩
 there:=λb o e=>by
  have ne:b≠a:=by rintro rfl;rw[hn] at e;cases e
  obtain ⟨o',k⟩:=X.there b o e
  exact ⟨o',hs b _ ne k⟩
 same:=by
  obtain ⟨h1,t1,e1⟩:=X.same
  exact ⟨h,tk,by show { p.s with heap:=h,toks:=tk }=_;rw[e1]⟩
theorem Ext.drop{L:List Addr}{p0:Pt}(X:Ext fs (L++Pv) p0 p)(hn:∀a∈L,p0.s.heap.get? a=Option.none):Ext fs Pv p0 p:=
 { X with keep:=λa o e h1 h2=>X.keep a o e h1 λhm=>(List.mem_append.mp hm).elim (λh=>by rw[hn a h] at e;cases e) h2 }
theorem Jib(hP:env.locals∈Pv)(hPc:(∃y,nm.lookup y=some .cell)->∀a∈pvt env,a∈Pv)(R:Jaz x fs env nm vars p)(I:Inv x fs p){y:Str}{v:Value}{d:D}(hy:Jdm nm y=true)(hv:Jaj x p d v){Q:Unit->Shared->Prop}{E:Value->Shared->Prop}
  (h:∀q,q.σ=p.σ->Inv x fs q->Ext fs Pv p q->Jaz x fs env nm (vars.set y d) q->Q () q.s):wpAny (model x.prog x.w) A (storeName env y v) Q E p.s:=by
 unfold Jdm at hy
 have hkind:(env.scope.kind==.class||(env.scope.kind==.module&&env.locals != env.globals))=false:=by rw[R.kind];rfl
 split at hy
 ·rename_i e
  have hk:env.kindOf y=some .local:=by
   rcases R.names y with h | h
   ·rw[h,e]
   ·rw[e] at h;cases h.2
  obtain ⟨m,h1,h2⟩:=R.loc
  refine wpAny_storeName_local hk h1 (λh' hn hs=>?_) hkind
  have hm:env.locals∈pvt env:=List.mem_cons_self ..
  obtain ⟨o,es,ep,ho,hod,hoe⟩:=id hn
  have hq:=(Ext.own (fs:=fs) (p:=p) (p.s.toks+1) hs ho hP)
  refine h (p.own h' (p.s.toks+1)) rfl (I.own _ (R.priv _ hm).1 (R.priv _ hm).2.1 hs ho (λvs hvs=>by rw[hod] at hvs;cases hvs)) hq ⟨R.kind,R.names,R.glob,R.bi,R.debug,R.clsd,?_,?_,R.apart,R.off,?_,R.frame⟩
  ·refine ⟨_,hn,λz d' e1 e2=>?_⟩
   unfold Jac.set at e2
   split at e2
   ·rename_i ez;cases e2;subst ez;exact ⟨v,by simp,hv⟩
   ·rename_i ez
    obtain ⟨v',e3,hr⟩:=h2 z d' e1 e2
    exact ⟨v',by simp[ez,e3],hr⟩
  ·intro z hz
   obtain ⟨c,u,g1,g2,g3⟩:=R.cel z hz
   refine ⟨c,u,g1,g2.sameBut hs (R.off z c g1),λd' e2=>?_⟩
   unfold Jac.set at e2
   split at e2
   ·rename_i ez;subst ez;rw[e] at hz;rcases hz with hz | hz<;>cases hz
   ·exact g3 d' e2
  ·intro a ha
   obtain ⟨g1,g2,o',g3⟩:=R.priv a ha
   exact ⟨g1,g2,hq.there a o' g3⟩
 ·rename_i e
  have hk:env.kindOf y=some .cell:=by
   rcases R.names y with h | h
   ·rw[h,e]
   ·exact h.1
  obtain ⟨c,u,g1,g2,g3⟩:=R.cel y (.inl e)
  have hm:c∈pvt env:=List.mem_cons_of_mem _ (Jby g1)
  refine wpAny_storeName_cell R.kind hk g1 g2 λh' hn hs=>?_
  obtain ⟨o,ho,hod⟩:=id hn
  have hq:=(Ext.own (fs:=fs) (p:=p) (p.s.toks) hs ho (hPc ⟨_,e⟩ _ hm))
  refine h (p.own h' p.s.toks) rfl (I.own _ (R.priv _ hm).1 (R.priv _ hm).2.1 hs ho (λvs hvs=>by rw[hod] at hvs;cases hvs)) hq ⟨R.kind,R.names,R.glob,R.bi,R.debug,R.clsd,?_,?_,R.apart,R.off,?_,R.frame⟩
  ·obtain ⟨m,h1,h2⟩:=R.loc
   refine ⟨m,h1.sameBut hs (Ne.symm (R.off y c g1)),λz d' e1 e2=>?_⟩
   unfold Jac.set at e2
   split at e2
   ·rename_i ez;subst ez;rw[e] at e1;cases e1
   ·exact h2 z d' e1 e2
  ·intro z hz
   by_cases ez:z=y
   ·subst ez
    refine ⟨c,some v,g1,hn,λd' e2=>?_⟩
    unfold Jac.set at e2
    rw[if_pos rfl] at e2;cases e2
    exact ⟨v,rfl,hv⟩
   ·obtain ⟨c',u',k1,k2,k3⟩:=R.cel z hz
    refine ⟨c',u',k1,k2.sameBut hs (by rintro rfl;exact ez (R.apart _ _ _ k1 g1)),λd' e2=>?_⟩
    unfold Jac.set at e2
    rw[if_neg ez] at e2
    exact k3 d' e2
  ·intro a ha
   obtain ⟨g1,g2,o',g3⟩:=R.priv a ha
   exact ⟨g1,g2,hq.there a o' g3⟩
 ·cases hy
end
end
section
theorem Jc7{n y:Str}{t:Tok}:(Value.str n t).isStr y=(n==y):=rfl
theorem Je9{P B ρ}{y:Str}{d:D}:∀{ns:List Str} {ds:List D} {es:List DictEntry},RelF P B ρ ns ds es->getF ns ds y=some d->∃v,getL y es=some (some v)/\Rel P B ρ d v
 |_,[],_,h,e=>by
  obtain ⟨rfl,rfl⟩:=h;simp[getF] at e
 |_,d'::ds,_,h,e=>by
  obtain ⟨n,ns',hh,t,v,r,rfl,rfl,h1,h2,h3⟩:=h
  simp only[getF] at e
  by_cases hk:n=y
  ·rw[if_pos hk] at e;cases e
   exact ⟨v,by simp[getL,Jc7,hk],h2⟩
  ·rw[if_neg hk] at e
   obtain ⟨u,h4,h5⟩:=Je9 h3 e
   refine ⟨u,?_,h5⟩
   unfold getL at h4 ⊢
   have:((Value.str n t).isStr y)=false:=by rw[Jc7];exact beq_eq_false_iff_ne.mpr hk
   simp only[List.find?_cons,this]
   split at h4
   ·rename_i q;rw[q];exact h4
   ·split at h4<;>cases h4
theorem Jfa{P B ρ}{y:Str}:∀{ns:List Str} {ds:List D} {es:List DictEntry},RelF P B ρ ns ds es->(getF ns ds y).isNone=true->getL y es=some none
 |_,[],_,h,e=>by
  obtain ⟨rfl,rfl⟩:=h;simp[getL]
 |_,d'::ds,_,h,e=>by
  obtain ⟨n,ns',hh,t,v,r,rfl,rfl,h1,h2,h3⟩:=h
  simp only[getF] at e
  by_cases hk:n=y
  ·rw[if_pos hk] at e;cases e
  ·rw[if_neg hk] at e
   have ih:=Jfa h3 e
   unfold getL at ih ⊢
   have:((Value.str n t).isStr y)=false:=by rw[Jc7];exact beq_eq_false_iff_ne.mpr hk
   simp only[List.find?_cons,this]
   split at ih
   ·cases ih
   ·rename_i q
    rw[q]
    split at ih
    ·cases ih
    ·rename_i q2
     have q3:(List.any r λx=>x.refKey)=false:=by simpa using q2
     have q4:(DictEntry.refKey ⟨hh,.str n t,v⟩)=false:=rfl
     exact if_neg (by rw[List.any_cons,q3,q4];decide)
theorem Jmf{P B ρ}{y:Str}{d:D}{v:Value}{hsh:Int}{key:Value}(hv:Rel P B ρ d v):∀{ns:List Str} {ds:List D} {es:List DictEntry},RelF P B ρ ns ds es->(getF ns ds y).isSome=true->RelF P B ρ ns (setF ns ds y d) (putL y hsh key v es)
 |_,[],_,h,e=>by
  obtain ⟨rfl,rfl⟩:=h;simp[getF] at e
 |_,d'::ds,_,h,e=>by
  obtain ⟨n,ns',hh,t,v',r,rfl,rfl,h1,h2,h3⟩:=h
  simp only[getF,setF,putL] at e ⊢
  by_cases hk:n=y
  ·have:((Value.str n t).isStr y)=true:=by rw[Jc7];exact beq_iff_eq.mpr hk
   rw[if_pos hk,this,if_pos rfl]
   exact mkF ⟨n,ns',hh,t,v,r,rfl,rfl,h1,hv,h3⟩
  ·have:((Value.str n t).isStr y)=false:=by rw[Jc7];exact beq_eq_false_iff_ne.mpr hk
   rw[if_neg hk] at e
   rw[if_neg hk,this,if_neg Bool.false_ne_true]
   exact mkF ⟨n,ns',hh,t,v',_,rfl,rfl,h1,h2,Jmf hv h3 e⟩
theorem RelF.len{P B ρ}:∀{ns:List Str} {ds:List D} {es:List DictEntry},RelF P B ρ ns ds es->es.length=ns.length
 |_,[],_,h=>by obtain ⟨rfl,rfl⟩:=h;rfl
 |_,d'::ds,_,h=>by
  obtain ⟨n,ns',hh,t,v',r,rfl,rfl,h1,h2,h3⟩:=h
  rw[List.length_cons,List.length_cons,RelF.len h3]
structure FldOk(K:Frag)(C:Addr)(y:Str):Prop where
 ga:findIn K (.ref C) "__getattribute__"=some (some (.builtin "object.__getattribute__"))
 sa:findIn K (.ref C) "__setattr__"=some (some (.builtin "object.__setattr__"))
 over:plainOver K C=true
 has:(clsIn K C).any (·.hasDict)=true
 no:findIn K (.ref C) y=some none
structure MethOk(K:Frag)(C:Addr)(y:Str)(m:Addr):Prop where
 ga:findIn K (.ref C) "__getattribute__"=some (some (.builtin "object.__getattribute__"))
 gt:findIn K (.ref C) "__getattr__"=some none
 is:findIn K (.ref C) y=some (some (.ref m))
 typ:typeIn K (.ref m)=some (.type "function")
theorem FldOk.find{K:Frag}{C:Addr}{y:Str}(f:FldOk K C y){es:List DictEntry}{n:Nat}{v:Value}(e:getL y es=some (some v)):findObj K C (some (dictOf es n)) y=some (.value v):=by
 obtain ⟨cd,hc,hd⟩:=any_some f.has
 unfold findObj
 rw[hc,f.no]
 simp only[Option.bind_some]
 unfold W.ownOf
 rw[hd,if_pos rfl]
 dsimp only
 rw[lookIn_dict,e]
 rfl
theorem FldOk.taker{K:Frag}{C:Addr}{y:Str}(f:FldOk K C y):takerIn K C y=some none:=by
 unfold takerIn
 rw[f.no];rfl
section
variable{prog:Program}{w:World}{A:Around}{E:Value->Shared->Prop}{s:Shared}{K:Frag}{C a dx:Addr}{y:Str}{es:List DictEntry}{n:Nat}
theorem Jlf{h:Heap}(h1:h.get? a=some (instObj C dx))(h2:h.get? dx=some (dictOf es n)):InstAt h a (instObj C dx) C (some (dictOf es n)):=⟨h1,rfl,rfl,h2⟩
set_option tactic.hygienic true in
theorem Jhe{v:Value}{Q:Unit->Shared->Prop}(X:K.In s.heap)(I:InstAt s.heap a (instObj C dx) C (some (dictOf es n)))(f:FldOk K C y)(hl:(getL y es).isSome=true)(hz:es.length<=200)
  (h:∀h' tk key,Heap.SameBut dx s.heap h'->h'.get? dx=some (dictOf (putL y (PyData.keyHash w.params y) key v es) (putN y es n))->(∃t,key=.str y t)->Q () { s with heap:=h',toks:=tk }) :
  wpAny (model prog w) A (setAttr (.ref a) y v) Q E s:=by
 refine set_plain X I f.sa ?_
 refine osa_open (s:={ s with toks:=s.toks+1 }) X I f.over f.taker λb=>?_
 obtain ⟨cd,hc,hd'⟩:=any_some f.has
 obtain ⟨hx,-,-,D⟩:=I
 refine wpAny_bind (wpAny_pure (wpAny_bind (wpAny_bind (wpAny_loadPart hx (wpAny_bind ((looks_clsIn (h:=s.heap) X hc) _ _ _ _ (λ_ _ e=>e) ?_))))))
 rw[hd']
 refine wpAny_pure (a:=some dx) (wpAny_bind (wpAny_pure (wpAny_bind ?_)))
 unfold nsSet
 refine wpAny_bind (wpAny_bind (wpAny_askSetting (wpAny_pure (wpAny_bind (wpAny_mkText (wpAny_bind (wpAny_loadPart D ?_)))))))
 dsimp only
 have c:(!es.toArray.any (·.key.isStr y)&&es.toArray.any (·.refKey))=false:=by
  rw[<-Array.any_toList,<-Array.any_toList]
  unfold getL at hl
  split at hl
  ·rename_i en he
   rw[show es.toArray.toList=es from rfl,List.any_eq_true.mpr ⟨en,List.mem_of_find?_eq_some he,List.find?_some he⟩];rfl
  ·split at hl
   ·cases hl
   ·rename_i z;rw[Bool.not_eq_true] at z;rw[show es.toArray.toList=es from rfl,z,Bool.and_false]
 rw[aRefKeyMayBeTheName_at,c]
 refine wpAny_updatePart D ?_
 have D':=Heap.get?_update_self (Obj.putName y (PyData.keyHash w.params y) (.str y (s.toks+1)) v) D (by rw[putName_dict];rfl)
 rw[putName_dict] at D'
 have hz':(putL y (PyData.keyHash w.params y) (.str y (s.toks+1)) v es).length<=201:=by
  have:∀(k:Value) (l:List DictEntry),(putL y (PyData.keyHash w.params y) k v l).length<=l.length+1:=λk l=>by
   induction l with
   |nil=>simp[putL]
   |cons e r ih=>simp only[putL];split<;>simp;exact ih
  have:=this (.str y (s.toks+1)) es
  exact ar203 hz this
 refine wpAny_bind (wpAny_lookBehind D' (pastItsLine_dict (by rw[List.size_toArray,sizeLine_eq];exact ar116 hz')) ?_)
 exact wpAny_pure (h _ _ _ (Heap.SameBut.update ..) D' ⟨_,rfl⟩)
end
section
variable{x:Cx}{fs:List Env}{A:Around}{Pv:List Addr}{p:Pt}{n:Nat}{G:Prg}
structure ClsOk(x:Cx)(G:Prg):Prop where
 fld:∀C y,G.fld C y=true->FldOk x.K C y
 meth:∀C y m,G.meth C y=some m->MethOk x.K C y m
theorem Jod(I:Inv x fs p){C:Addr}{ns:List Str}{ds:List D}{v:Value}(h:Jaj x p (.inst C ns ds) v):∃a dx es n,v=.ref a/\InstAt p.s.heap a (instObj C dx) C (some (dictOf es n))/\RelF x.w.params p.B p.ρ ns ds es:=by
 unfold Jaj at h
 obtain ⟨a,dx,es,n,rfl,h1,h2,h3⟩:=h
 exact ⟨a,dx,es,n,rfl,Jlf (I.froz _ _ h1) (I.froz _ _ h2),h3⟩
theorem Jjl(I:Inv x fs p){C:Addr}{j:Nat}{ns:List Str}{ds:List D}{v:Value}(h:Jaj x p (.obj C j) v)(e:p.σ[j]?=some (.dict ns ds)) :
  ∃a dx es n,v=.ref a/\p.ρ[j]?=some dx/\ns.Nodup/\InstAt p.s.heap a (instObj C dx) C (some (dictOf es n))/\RelF x.w.params p.B p.ρ ns ds es:=by
 unfold Jaj at h
 obtain ⟨a,dx,rfl,h1,h2⟩:=h
 obtain ⟨o,ho,hn,es,k,rfl,hr⟩:=I.mu j dx _ h2 e
 exact ⟨a,dx,es,k,rfl,h2,hn,Jlf (I.froz _ _ h1) ho,hr⟩
theorem handed{P B ρ}{d:D}{v:Value}(h:Rel P B ρ d v)(hd:notVal d=true):handedIn v=true:=by
 cases d with
 |none=>cases Jd0 h;rfl
 |bool b=>cases Jdg h;rfl
 |int b=>obtain ⟨_,rfl⟩:=h;rfl
 |str b=>obtain ⟨_,rfl⟩:=h;rfl
 |bytes b=>obtain ⟨_,rfl⟩:=h;rfl
 |tup ds=>obtain ⟨_,_,_,_,rfl,_⟩:=h;rfl
 |lst ds=>obtain ⟨_,_,_,_,rfl,_⟩:=h;rfl
 |inst C ns ds=>obtain ⟨_,_,_,_,rfl,_⟩:=h;rfl
 |rng a b c=>obtain ⟨_,_,_,_,rfl,_⟩:=h;rfl
 |val w=>cases hd
 |loc i=>obtain ⟨_,rfl,_⟩:=h;rfl
 |obj C i=>obtain ⟨_,_,rfl,_⟩:=h;rfl
theorem Jj2(I:Inv x fs p){a:D}{va:Value}(ha:Jaj x p a va){t:Addr×List Str×List D}(e:fieldsOf p.σ a=some t):∃a dx es n,va=.ref a/\InstAt p.s.heap a (instObj t.1 dx) t.1 (some (dictOf es n))/\RelF x.w.params p.B p.ρ t.2.1 t.2.2 es:=by
 cases a with
 |inst C ns ds=>cases e;exact Jod I ha
 |obj C j=>
  obtain ⟨u,e1,rfl⟩:=Ja3 e
  obtain ⟨a,dx,es,n,rfl,_,_,hi,hr⟩:=Jjl I ha (Jf7 e1)
  exact ⟨a,dx,es,n,rfl,hi,hr⟩
 |_=>exact no e
theorem attr_W{expr:Bool}(H:PrgOk x G)(Hc:ClsOk x G)(I:Inv x fs p){a:D}{va:Value}{y:Str}(ha:Jaj x p a va):W x fs A Pv (getAttr va y expr) (attr G.fld a y p.σ) (Jaj x) p:=by
 refine W.of λd h=>?_
 obtain ⟨t,e,h⟩:=Jaf h
 obtain ⟨hf,h⟩ | h:=Jbd h
 ·obtain ⟨d',h1,h⟩:=Jaf h
  obtain ⟨hv,rfl⟩:=Jax h
  obtain ⟨a,dx,es,n,rfl,hi,hr⟩:=Jj2 I ha e
  obtain ⟨v,h3,h4⟩:=Je9 hr h1
  exact W.tk I λQ E h=>get_value (H.K.keeps I.keepsBase) hi (Hc.fld _ _ hf).ga ((Hc.fld _ _ hf).find h3) (handed h4 hv) (h _ _ h4)
 ·exact no h
theorem obj?_of{a:D}{c:Addr×Nat}(h:obj? a=some c):a=.obj c.1 c.2:=by
 cases a with
 |obj _ _=>cases h;rfl
 |_=>exact no h
theorem Jp9(H:PrgOk x G)(Hc:ClsOk x G)(I:Inv x fs p){a d:D}{va v:Value}{y:Str}(ha:Jaj x p a va)(hd:Jaj x p d v):W x fs A Pv (setAttr va y v) (Jd1 G.fld a y d p.σ) (λ_ _ _=>True) p:=by
 refine W.upd λσ' h=>?_
 obtain ⟨c,h1,h0⟩:=Jaf h
 clear h
 cases obj?_of h1
 obtain ⟨t,h2,h3⟩:=Jaf h0
 obtain ⟨⟨hf,hs,hz⟩,rfl⟩:=Jax h3
 clear h0 h3
 obtain ⟨a,dx,es,n,rfl,hρ,hn,hi,hr⟩:=Jjl I ha (Jf7 h2)
 have hlen:=hr.len
 intro _
 have hl:(getL y es).isSome=true:=by
  obtain ⟨d',e'⟩:=Option.isSome_iff_exists.mp hs
  obtain ⟨u,h3,_⟩:=Je9 hr e'
  rw[h3];rfl
 refine Jhe (H.K.keeps I.keepsBase) hi (Hc.fld _ _ hf) hl (hlen▸Nat.le_trans hz (by decide)) λh' tk key h1 h2 h3=>?_
 have hm:RelM x.w.params p.B p.ρ (.dict t.1 (setF t.1 t.2 y d)) (dictOf (putL y (PyData.keyHash x.w.params y) key v es) (putN y es n)):=⟨hn,_,_,rfl,Jmf hd hr hs⟩
 exact ⟨(),p.upd c.2 _ h' tk,rfl,rfl,I.upd tk hρ h1 h2 hm,Ext.upd _ _ _ hρ h1 h2,trivial⟩
noncomputable def MAt(G:Prg)(a:D)(y:Str)(f:Value):Prop:=match a with
 |.inst C _ _=>∃m,G.meth C y=some m/\f=.ref m
 |.obj C _=>∃m,G.meth C y=some m/\f=.ref m
 |.str _=>(y="join"/\f=.builtin "str.join")\/(y="find"/\f=.builtin "str.find")\/(y="split"/\f=.builtin "str.split")
 |.loc _=>(y="append"/\f=.builtin "list.append")\/(y="pop"/\f=.builtin "list.pop")\/(y="insert"/\f=.builtin "list.insert")
 |_=>False
theorem or3{a b c:Prop}[Decidable a][Decidable b][Decidable c](h:(decide a||decide b||decide c)=true):a\/b\/c:=by
 rcases Bool.or_eq_true_iff.mp h with h | h
 ·rcases Bool.or_eq_true_iff.mp h with h | h
  ·exact .inl (of_decide_eq_true h)
  ·exact .inr (.inl (of_decide_eq_true h))
 ·exact .inr (.inr (of_decide_eq_true h))
theorem rec_W{pl:Sem Bool}(H:PrgOk x G)(Hc:ClsOk x G)(I:Inv x fs p){a:D}{va:Value}{y:Str}(ha:Jaj x p a va)(hok:(fieldsOf p.σ a).any (recOk G y)=true){Q:Value×List Value->Shared->Prop}{E:Value->Shared->Prop}
  (h:∀f,MAt G a y f->Q (f,[va]) p.s):wpAny (model x.prog x.w) A (getMethod va y pl) Q E p.s:=by
 obtain ⟨t,e,hok⟩:=any_some hok
 obtain ⟨h1,h2⟩:=Bool.and_eq_true_iff.mp hok
 obtain ⟨m,hm⟩:=Option.isSome_iff_exists.mp h2
 have M:=Hc.meth _ _ _ hm
 have hat:MAt G a y (.ref m):=by
  cases a with
  |inst C _ _=>cases e;exact ⟨m,hm,rfl⟩
  |obj C j=>obtain ⟨u,_,rfl⟩:=Ja3 e;exact ⟨m,hm,rfl⟩
  |_=>exact no e
 obtain ⟨a,dx,es,n,rfl,hi,hr⟩:=Jj2 I ha e
 exact method_fn (H.K.keeps I.keepsBase) hi M.ga M.gt M.is M.typ (by unfold shadowIn;dsimp only;rw[lookIn_dict,Jfa hr h1];rfl) (h _ hat)
theorem Jli{pl:Sem Bool}(H:PrgOk x G)(Hc:ClsOk x G)(I:Inv x fs p){a:D}{va:Value}{y:Str}(ha:Jaj x p a va)(hok:Jah G a y p.σ=true){Q:Value×List Value->Shared->Prop}{E:Value->Shared->Prop}
  (h:∀f,MAt G a y f->Q (f,[va]) p.s):wpAny (model x.prog x.w) A (getMethod va y pl) Q E p.s:=by
 cases a with
 |str _=>
  obtain ⟨t,rfl⟩:=Jb1 ha
  obtain rfl | rfl | rfl:=or3 hok
  ·exact GM.join (h _ (.inl ⟨rfl,rfl⟩))
  ·exact GM.find (h _ (.inr (.inl ⟨rfl,rfl⟩)))
  ·exact GM.split (h _ (.inr (.inr ⟨rfl,rfl⟩)))
 |loc j=>
  obtain ⟨h1,h2⟩:=Bool.and_eq_true_iff.mp hok
  obtain ⟨ds,e⟩:=Option.isSome_iff_exists.mp h1
  obtain ⟨l,rfl,hl⟩:=ha
  obtain ⟨o,ho,vs,k,rfl,hr⟩:=I.mu _ _ _ hl (Jik e)
  have hT:p.s.TypeIs (.ref l) "list":=⟨_,ho,rfl⟩
  have hd:∀b,Value.ref l=.ref b->∃o,p.s.heap.get? b=some o/\o.dict=none:=λb e=>by cases e;exact ⟨_,ho,rfl⟩
  obtain rfl | rfl | rfl:=or3 h2
  ·exact getMethod_builtin hT F.plainAttrs_list PySem.F.slot_list_append PySem.F.type_list_append hd (h _ (.inl ⟨rfl,rfl⟩))
  ·exact getMethod_builtin hT F.plainAttrs_list PySem.F.slot_list_pop PySem.F.type_list_pop hd (h _ (.inr (.inl ⟨rfl,rfl⟩)))
  ·exact getMethod_builtin hT F.plainAttrs_list PySem.F.slot_list_insert PySem.F.type_list_insert hd (h _ (.inr (.inr ⟨rfl,rfl⟩)))
 |_=>exact rec_W H Hc I ha hok h
end
end
section
section
open Builtin Builtin.Str
variable{prog:Program}{w:World}{A:Around}{E:Value->Shared->Prop}{s:Shared}{y z:Str}{t u:Tok}{Q:Value->Shared->Prop}
theorem Jmb(hz:(z.length==0)=false)(hsz:y.length<=line)
  (hq:∀l k,l.map (·.1)=Txt.split y z->Q (.ref s.heap.objs.size) { s with heap:=s.heap.push { cls:=.type "list",data:=.seq (strValues l).toArray },toks:=k }) :
  wpAny (model prog w) A (call (.builtin "str.split") [.str y t,.str z u]) Q E s:=by
 have hy:y.length<=sizeLine:=Nat.le_trans hsz Jb2
 have hparts:(partsBetween y (occurrences y z 0 y.length (y.length+1)) z.length).length<=sizeLine:=by
  have h1:=length_partsBetween y (occurrences y z 0 y.length (y.length+1)) z.length
  have h2:=StrLaws.occ_length_le y z 0 y.length (y.length+1)
  have h3:=sizeLine_eq
  rw[Jdl] at hsz
  exact ar413 hsz h1 h2 h3
 cases h1:(decide (y.length<z.length)||decide (strKind y<strKind z))
 ·cases hf:(occurrences y z 0 y.length (y.length+1)).isEmpty
  ·refine call_meets F.slot_str_split (typeIs_str _ _ _) F.entry_str_split (F.args_str_split_2 _ _) (meets_str_split_sep y z t u h1 hz hf hy hparts) ?_
   show wants Q E _ { s with toks:=_,heap:=s.heap.push { cls:=.type "list",data:=.seq (strsFrom s.toks (partsBetween y (occurrences y z 0 y.length (y.length+1)) z.length)).toArray } }
   rw[strsFrom_eq]
   exact hq (numbered s.toks _) _ ((numbered_texts _ _).trans ((if_neg (ne_true_of_eq_false h1)).trans (if_neg (ne_true_of_eq_false hf))).symm)
  ·exact call_meets F.slot_str_split (typeIs_str _ _ _) F.entry_str_split (F.args_str_split_2 _ _) (meets_str_split_not_found y z t u h1 hz hf)
    (hq [(y,t)] _ ((if_neg (ne_true_of_eq_false h1)).trans (if_pos hf)).symm)
 ·exact call_meets F.slot_str_split (typeIs_str _ _ _) F.entry_str_split (F.args_str_split_2 _ _) (meets_str_split_cannot_occur y z t u h1)
   (hq [(y,t)] _ (if_pos h1).symm)
end
theorem Jje(vs:Array Value)(k:Nat):(vs.eraseIdxIfInBounds k).toList=vs.toList.eraseIdx k:=by
 simp
theorem Jmv(v:Value):∀(l:List Value) (k:Nat),k<=l.length->l.insertIdx k v=l.take k++v::l.drop k
 |l,0,_=>by simp
 |[],k+1,h=>by simp at h
 |a::l,k+1,h=>by simp[Jmv v l k (by simpa using h)]
theorem Jno(vs:Array Value)(k:Nat)(v:Value)(h:k<=vs.size):((vs.extract 0 k).push v++vs.extract k).toList=vs.toList.insertIdx k v:=by
 have h':k<=vs.toList.length:=by simpa using h
 obtain ⟨l⟩:=vs
 rw[Jmv _ _ _ h']
 simp only[Array.toList_append,Array.toList_push,Array.toList_extract,List.extract_eq_drop_take]
 simp
 rw[List.take_of_length_le (by simp)]
section
variable{x:Cx}{fs:List Env}{A:Around}{Pv:List Addr}{p:Pt}{n:Nat}{G:Prg}
theorem Jhm(I:Inv x fs p){j:Nat}{v:Value}{ds:List D}(h:Jaj x p (.loc j) v)(e:p.σ[j]?=some (.list ds)) :
  ∃l vs k,v=.ref l/\p.ρ[j]?=some l/\p.s.heap.get? l=some { cls:=.type "list",data:=.seq vs k }/\RelVs x p ds vs.toList:=by
 unfold Jaj at h
 obtain ⟨l,rfl,hl⟩:=h
 obtain ⟨o,ho,vs,k,rfl,hr⟩:=I.mu _ _ _ hl e
 exact ⟨l,vs,k,rfl,hl,ho,hr⟩
theorem Jh4{j:Nat}{l:Addr}{ds:List D}{vs:Array Value}{k tk:Nat}{h':Heap}{d:D}{v:Value}{σ':Jaa}(I:Inv x fs p)(hl:p.ρ[j]?=some l)(h1:Heap.SameBut l p.s.heap h')(h2:h'.get? l=some { cls:=.type "list",data:=.seq vs k })
  (hr:RelVs x p ds vs.toList) (hv:Jaj x p d v):OkP x fs Pv p (.ok d (p.σ.set j (.list ds))) (Jaj x) v { p.s with heap:=h',toks:=tk }:=
 ⟨d,p.upd j (.list ds) h' tk,rfl,rfl,I.upd tk hl h1 h2 ⟨vs,k,rfl,hr⟩,Ext.upd _ _ _ hl h1 h2,hv⟩
theorem join_W(I:Inv x fs p){s:Str}{d e:D}{v:Value}{t:Tok}(hr:Jaj x p d v)(h:joinO p.σ s d=some e):W x fs A Pv (call (.builtin "str.join") [.str s t,v]) (.ok e p.σ) (Jaj x) p:=by
 obtain ⟨ds,h1,h⟩:=Jaf h
 obtain ⟨ys,h3,h⟩:=Jaf h
 obtain ⟨hz,rfl⟩:=Jax h
 obtain ⟨l,vs,rfl,hl,hr'⟩:=Jaw I hr h1
 exact W.tk I λQ E h=>join_list hl (Jay.strs hr' h3) (by rw[Jdl] at hz;exact ar249 hz) λt' k=>h _ _ Jia
theorem split_W(I:Inv x fs p){lasts:Bool}{y z:Str}{t u:Tok}(hz:z.length≠0)(hsz:y.length<=line):W x fs A Pv (call (.builtin "str.split") [.str y t,.str z u]) (newL lasts ((Txt.split y z).map .str) p.σ) (Jaj x) p:=by
 have hz':(z.length==0)=false:=beq_eq_false_iff_ne.mpr hz
 refine W.ite (λ_ _=>Jmb hz' hsz λl k ht=>?_) λ_ _=>Jmb hz' hsz λl k ht=>?_
 ·refine ⟨_,p.pushM (.list _) { cls:=.type "list",data:=.seq (strValues l).toArray } k,rfl,rfl,I.pushM _ _ rfl k ⟨_,_,rfl,?_⟩,Ext.pushM _ _ _ k,⟨_,rfl,Pt.pushM_get p I _ _ _⟩⟩
  rw[List.toList_toArray,<-ht];exact Jay.of_strs
 ·refine ⟨_,p.push { cls:=.type "list",data:=.seq (strValues l).toArray } k,rfl,rfl,I.push _ rfl k,Ext.push I _ _ k,Jdz I ?_ rfl⟩
  show Jay _ _ _ _ _
  rw[List.toList_toArray,<-ht];exact Jay.of_strs
theorem methsS_W(I:Inv x fs p){lasts:Bool}{s y:Str}{t:Tok}{f v:Value}{d:D}(hf:(y="join"/\f=.builtin "str.join")\/(y="find"/\f=.builtin "str.find")\/(y="split"/\f=.builtin "str.split"))(hr:Jaj x p d v):W x fs A Pv (call f [.str s t,v]) (methsS lasts s y d p.σ) (Jaj x) p:=by
 refine W.ite (λe=>?_) λne=>W.elim λz hz=>?_
 ·subst e
  obtain ⟨_,rfl⟩ | ⟨e,_⟩ | ⟨e,_⟩:=hf
  ·exact W.of λd' h=>join_W I hr h
  ·exact absurd e (by decide)
  ·exact absurd e (by decide)
 ·cases Jeu hz
  obtain ⟨u,rfl⟩:=Jb1 hr
  refine W.ite (λe=>?_) λne2=>W.guard λhc=>?_
  ·subst e
   obtain ⟨e,_⟩ | ⟨_,rfl⟩ | ⟨e,_⟩:=hf
   ·exact absurd e ne
   ·exact W.tk I λQ E h=>SC.find (h _ _ Jcg)
   ·exact absurd e (by decide)
  ·obtain ⟨e,_⟩ | ⟨e,_⟩ | ⟨_,rfl⟩:=hf
   ·exact absurd e ne
   ·exact absurd e ne2
   ·exact split_W I hc.2.1 hc.2.2
theorem Jgm{l:Addr}{vs:Array Value}{k:Nat}{h:Heap}(f:Array Value->Array Value)(ho:h.get? l=some { cls:=.type "list",data:=.seq vs k }):∃n',(h.update l (Obj.mapSeq f)).get? l=some { cls:=.type "list",data:=.seq (f vs) n' }:=by
 obtain ⟨n',hd⟩:=Obj.data_mapSeq (o:={ cls:=.type "list",data:=.seq vs k }) rfl f
 refine ⟨n',(Heap.get?_update_self (Obj.mapSeq f) ho (Obj.isFreed_of_seq hd)).trans ?_⟩
 have hd3:Obj.mapSeq f { cls:=.type "list",data:=.seq vs k }={ cls:=.type "list",data:=.seq (f vs) n' }:=by
  simp only[Obj.mapSeq] at hd ⊢
  rw[hd]
 rw[hd3]
theorem append_W(I:Inv x fs p){j:Nat}{ds:List D}{l:Addr}{vs0:Array Value}{k:Nat}{v:Value}{d:D}(hz:vs0.size<=line)(hl:p.ρ[j]?=some l)(ho:p.s.heap.get? l=some { cls:=.type "list",data:=.seq vs0 k })(hr:RelVs x p ds vs0.toList)(hv:Jaj x p d v) :
  W x fs A Pv (call (.builtin "list.append") [.ref l,v]) (.ok .none (p.σ.set j (.list (ds++[d])))) (Jaj x) p:=by
 intro _
 refine append_at (hsz:=Nat.le_trans hz Jb2) ho λh' g1 g2=>?_
 refine Jh4 (σ':=p.σ) I hl g1 g2 ?_ rfl
 rw[Array.toList_push]
 exact hr.app ⟨v,[],rfl,hv,rfl⟩
theorem fits_idx{i:Int}{n k:Nat}(h:n<=line)(hk:seqIndex? i n=some k):Builtin.List.listFitsIndex i=true:=by
 unfold Builtin.List.listFitsIndex
 simp only[Bool.and_eq_true,decide_eq_true_eq];exact Jgr hk h
theorem pop_W(I:Inv x fs p){j:Nat}{ds:List D}{l:Addr}{vs0:Array Value}{k:Nat}{v:Value}{d:D}(hz:vs0.size<=line)(hl:p.ρ[j]?=some l)(ho:p.s.heap.get? l=some { cls:=.type "list",data:=.seq vs0 k })(hr:RelVs x p ds vs0.toList)(hv:Jaj x p d v) :
  W x fs A Pv (call (.builtin "list.pop") [.ref l,v]) (popL j ds d p.σ) (Jaj x) p:=by
 refine W.elim λk' h=>W.of λd' he=>?_
 obtain ⟨i,h1,hk⟩:=Jaf h
 cases Jbp h1
 clear h h1
 obtain ⟨u,rfl⟩:=Jbo hv
 have hlen:=hr.len
 rw[Array.length_toList] at hlen
 obtain ⟨y',e1,hy⟩:=hr.get _ _ he
 rw[Array.getElem?_toList] at e1
 rw[<-hlen] at hk
 have hT:p.s.TypeIs (.ref l) "list":=⟨_,ho,rfl⟩
 intro _
 refine call_meets PySem.F.slot_list_pop hT PySem.F.entry_list_pop (PySem.F.args_list_pop_2 _ _) (PySem.MeetsSeq.list_pop_at l vs0 k i u k' y' (fits_idx hz hk) hk e1 (Nat.le_trans hz Jb2)) ⟨ho,?_⟩
 obtain ⟨n',g2⟩:=Jgm (λxs=>xs.eraseIdxIfInBounds k') ho
 refine Jh4 (σ':=p.σ) (tk:=p.s.toks) I hl (Heap.SameBut.update ..) g2 ?_ hy
 rw[Jje];exact Jay.erase hr k'
theorem ins_at{i:Int}{n:Nat}(h0:0<=i)(h:i<=n):(if i<0 then (i+((n:Nat):Int)).toNat else min i.toNat n)=i.toNat:=by rw[if_neg (by exact ar42 h0)];exact ar381 h
theorem insert_W(I:Inv x fs p){j:Nat}{ds:List D}{l:Addr}{vs0:Array Value}{k:Nat}{vi v:Value}{i d:D}(hz:vs0.size<=line)(hl:p.ρ[j]?=some l)(ho:p.s.heap.get? l=some { cls:=.type "list",data:=.seq vs0 k })(hr:RelVs x p ds vs0.toList)(hi:Jaj x p i vi)(hv:Jaj x p d v) :
  W x fs A Pv (call (.builtin "list.insert") [.ref l,vi,v]) (insL j ds i d p.σ) (Jaj x) p:=by
 refine W.elim λi h=>W.guard λhc=>?_
 cases Jbp h
 clear h
 obtain ⟨u,rfl⟩:=Jbo hi
 obtain ⟨h0,h1⟩:=hc
 have hlen:=hr.len
 rw[Array.length_toList] at hlen
 rw[<-hlen] at h1
 have hfit:¬ (!Builtin.List.listFitsIndex i)=true:=by
  rw[Jdl] at hz
  have:Builtin.List.listFitsIndex i=true:=by
   unfold Builtin.List.listFitsIndex
   simp only[Bool.and_eq_true,decide_eq_true_eq];omega
  rw[this];decide
 have hT:p.s.TypeIs (.ref l) "list":=⟨_,ho,rfl⟩
 intro _
 refine call_meets PySem.F.slot_list_insert hT PySem.F.entry_list_insert (PySem.F.args_list_insert_3 _ _ _) (PySem.AutoListH.list_insert_list_int_val_1 l vs0 k i u v hfit (Nat.le_trans hz Jb2)) ⟨ho,?_⟩
 obtain ⟨n',g2⟩:=Jgm (λxs=>have k:=if i<0 then (i+((xs.size:Nat):Int)).toNat else min i.toNat xs.size;(xs.extract 0 k).push v++xs.extract k) ho
 refine Jh4 (σ':=p.σ) (tk:=p.s.toks) I hl (Heap.SameBut.update ..) g2 ?_ rfl
 dsimp only
 rw[ins_at h0 h1,Jno _ _ _ (by exact ar294 h1)]
 exact Jay.insert hv hr _ (by exact ar367 h1 hlen)
theorem methsL_W(I:Inv x fs p){j:Nat}{ds:List D}{l:Addr}{vs0:Array Value}{k:Nat}{f:Value}{y:Str}{as:List D}{vs:List Value}(hf:(y="append"/\f=.builtin "list.append")\/(y="pop"/\f=.builtin "list.pop")\/(y="insert"/\f=.builtin "list.insert"))
  (hl:p.ρ[j]?=some l) (ho:p.s.heap.get? l=some { cls:=.type "list",data:=.seq vs0 k }) (hr:RelVs x p ds vs0.toList) (has:RelVs x p as vs):W x fs A Pv (call f (.ref l::vs)) (methsL j y as p.σ ds) (Jaj x) p:=by
 refine W.guard λhz=>?_
 have hlen:=hr.len
 rw[Array.length_toList] at hlen
 rw[<-hlen] at hz
 clear hlen
 match as,has with
 |[],_=>exact .bad
 |[d],has=>
  obtain ⟨v,rfl,hv⟩:=rel1 has
  refine W.ite (λe=>?_) λne=>W.guard λe=>?_
  ·subst e
   obtain ⟨_,rfl⟩ | ⟨e,_⟩ | ⟨e,_⟩:=hf
   ·exact append_W I hz hl ho hr hv
   ·exact absurd e (by decide)
   ·exact absurd e (by decide)
  ·subst e
   obtain ⟨e,_⟩ | ⟨_,rfl⟩ | ⟨e,_⟩:=hf
   ·exact absurd e (by decide)
   ·exact pop_W I hz hl ho hr hv
   ·exact absurd e (by decide)
 |[i,d],has=>
  obtain ⟨vi,v,rfl,hi,hv⟩:=rel2 has
  refine W.guard λe=>?_
  subst e
  obtain ⟨e,_⟩ | ⟨e,_⟩ | ⟨_,rfl⟩:=hf
  ·exact absurd e (by decide)
  ·exact absurd e (by decide)
  ·exact insert_W I hz hl ho hr hi hv
 |_::_::_::_,_=>exact .bad
theorem meths_W(I:Inv x fs p){a:D}{va f:Value}{as:List D}{vs:List Value}{y:Str}{lasts:Bool}(hf:MAt G a y f)(hna:∀C ns ds,a≠.inst C ns ds)(hnb:∀C j,a≠.obj C j)(ha:Jaj x p a va)(has:RelVs x p as vs) :
  W x fs A Pv (call f (va::vs)) (Jbu lasts a y as p.σ) (Jaj x) p:=by
 cases a with
 |inst _ _ _=>exact absurd rfl (hna _ _ _)
 |obj _ _=>exact absurd rfl (hnb _ _)
 |str s=>
  clear hna hnb
  obtain ⟨t,rfl⟩:=Jb1 ha
  match as,has with
  |[],_=>exact .bad
  |[d],has=>
   obtain ⟨v,rfl,hr⟩:=rel1 has
   exact methsS_W I hf hr
  |_::_::_,_=>exact .bad
 |loc j=>
  refine W.elim λds hs=>?_
  obtain ⟨l,vs0,k,rfl,hl,ho,hr⟩:=Jhm I ha (Jik hs)
  exact methsL_W I hf hl ho hr has
 |_=>exact hf.elim
end
end
section
section
variable{prog:Program}{w:World}{A:Around}{E:Value->Shared->Prop}{s:Shared}
theorem Jic{l:Addr}{items:Array Value}{n:Nat}{k:Int}{t:Tok}{v:Value}{Q:Unit->Shared->Prop}(ho:s.heap.get? l=some { cls:=.type "list",data:=.seq items n })
  (h0:0<=k) (hfit:k<2^63) (hn:k<items.size)
  (hQ:Q () { s with heap:=s.heap.update l (Obj.mapSeq (·.setIfInBounds k.toNat v)) }) :
  wpAny (model prog w) A (setItem (.ref l) (.int k t) v) Q E s:=by
 have hT:s.TypeIs (.ref l) "list":=⟨_,ho,rfl⟩
 have hd:({ cls:=.type "list",data:=.seq items n }:Obj).data=.seq items n:=rfl
 unfold setItem
 try with_reducible refine wpAny_holding ?_
 first | refine wpAny_bind (wpAny_pure ?_) | skip
 refine wpAny_bind (wpAny_sequenceKey hT (by decide) ?_)
 refine wpAny_bind (wpAny_callSpecial?_slot (name:=Str.ofString "__setitem__") hT slot_list_setitem
  (wpAny_call_entry slot_list_setitem hT entry_list_setitem ?_ (args_list_setitem _ _ _)))
 show wpAny _ _ (Builtin.List.listSubscript? (.int k t) >>= _) _ _ s
 refine wpAny_bind (wpAny_listSubscript_int (fitsIndex_of h0 hfit) ?_)
 clear hfit
 obtain ⟨j,rfl⟩:=Int.eq_ofNat_of_zero_le h0
 have hj:j<items.size:=by exact ar214 hn
 have hx':items[j]?=some items[j]:=Array.getElem?_eq_getElem hj
 show wpAny _ _ ((seqItemAt l j >>= λr=>pure (r.map (j,·))) >>= _) _ _ s
 refine wpAny_bind (wpAny_bind (wpAny_seqItemAt ho hd (wpAny_pure ?_)))
 rw[hx']
 show wpAny _ _ (setSeqItemAt l j v >>= _) _ _ s
 refine wpAny_bind (wpAny_setSeqItemAt ho hd ?_)
 first
  |exact wpAny_bind (wpAny_pure (wpAny_pure ⟨.none,rfl,wpAny_pure hQ⟩))
  |exact wpAny_pure ⟨.none,rfl,wpAny_pure hQ⟩
end
section
variable{x:Cx}{fs:List Env}{A:Around}{Pv:List Addr}{p:Pt}{n:Nat}{G:Prg}
theorem put_int(I:Inv x fs p){j:Nat}{i:Int}{d:D}{va v:Value}{u:Tok}{σ:Jaa}(ha:Jaj x p (.loc j) va)(hd:Jaj x p d v)(h:((list? p.σ j).bind λds=>(seqIndex? i ds.length).bind λk=>opt (ds.length<=line/\0<=i) (p.σ.set j (.list (ds.set k d))))=some σ):W x fs A Pv (setItem va (.int i u) v) (.ok () σ) (λ_ _ _=>True) p:=by
 obtain ⟨ds,e,h⟩:=Jaf h
 obtain ⟨k,hk,h⟩:=Jaf h
 obtain ⟨⟨hz,h0⟩,rfl⟩:=Jax h
 obtain ⟨l,vs,m,rfl,hl,ho,hr⟩:=Jhm I ha (Jik e)
 have hlen:=hr.len
 rw[Array.length_toList] at hlen
 obtain ⟨h1,h2⟩:=Jcy hk
 have hkk:k=i.toNat:=by exact ar446 h0 h2
 subst hkk
 intro _
 refine Jic ho h0 (Jgr hk hz).2 (by exact ar362 hlen h1) ?_
 obtain ⟨n',g2⟩:=Jgm (·.setIfInBounds i.toNat v) ho
 refine ⟨(),p.upd j (.list (ds.set i.toNat d)) _ p.s.toks,rfl,rfl,I.upd p.s.toks hl (Heap.SameBut.update ..) g2 ⟨_,_,rfl,?_⟩,Ext.upd _ _ _ hl (Heap.SameBut.update ..) g2,trivial⟩
 rw[Array.toList_setIfInBounds]
 exact Jay.set hd hr _
theorem put_str(I:Inv x fs p){j:Nat}{n:Str}{d:D}{va v:Value}{u:Tok}{σ:Jaa}(ha:Jaj x p (.loc j) va)(hd:Jaj x p d v)(h:((dict? p.σ j).bind λt=>opt ((getF t.1 t.2 n).isSome=true/\t.1.length<=100) (p.σ.set j (.dict t.1 (setF t.1 t.2 n d))))=some σ):W x fs A Pv (setItem va (.str n u) v) (.ok () σ) (λ_ _ _=>True) p:=by
 obtain ⟨⟨ns,ds⟩,e,h⟩:=Jaf h
 obtain ⟨⟨hs,hz⟩,rfl⟩:=Jax h
 obtain ⟨a,kvs,rfl,hρ,hD,rfl,hr⟩:=Jr2 I ha (Jf7 e)
 have hn:(kvs.map (·.1)).Nodup:=by obtain ⟨_,_,_,_,_,_,_,_,hn⟩:=hD;exact hn
 obtain ⟨k1,k2⟩:=Jnt (y:=n) hd hn hr hs
 intro _
 refine wpAny_setItem_pairs (strKind_is x.prog x.w _ u) hD (λh' g1 g2=>?_) (by rw[List.length_map] at hz;rw[sizeLine_eq];exact ar93 hz)
 obtain ⟨o,g3,g4⟩:=Jj8 g1 k2
 rw[k1] at g4
 exact ⟨(),p.upd j _ h' (p.s.toks+1),rfl,rfl,I.upd _ hρ g2 g3 g4,Ext.upd _ _ _ hρ g2 g3,trivial⟩
theorem Jp8(I:Inv x fs p){a i d:D}{va vi v:Value}(ha:Jaj x p a va)(hi:Jaj x p i vi)(hd:Jaj x p d v):W x fs A Pv (setItem va vi v) (Ja7 a i d p.σ) (λ_ _ _=>True) p:=by
 refine W.upd λσ h=>?_
 obtain ⟨j,h1,h⟩:=Jaf h
 cases Jqw h1
 clear h1
 cases i with
 |int i=>obtain ⟨u,rfl⟩:=Jbo hi;exact put_int I ha hd h
 |str i=>obtain ⟨u,rfl⟩:=Jb1 hi;exact put_str I ha hd h
 |_=>exact no h
end
end
section
noncomputable def Jb0(y:Str):String:=if y.cps.all (·<128)=true then "str_ascii_iterator" else "str_iterator"
noncomputable def listy:D->Bool
 |.lst _=>true
 |.loc _=>true
 |_=>false
inductive ItAt(x:Cx)(I:Addr):D->Value->Nat->Pt->Prop
 |list {d:D} {ax:Addr} {j:Nat} {q:Pt} (hr:Jaj x q d (.ref ax)) (hd:listy d=true) (h:q.s.heap.IsListIter I ax j):ItAt x I d (.ref ax) j q
 |tup {ds:List D} {ax:Addr} {j:Nat} {q:Pt} (hr:Jaj x q (.tup ds) (.ref ax)) (h:q.s.heap.IsTupleIter I ax j):ItAt x I (.tup ds) (.ref ax) j q
 |str {y:Str} {t:Tok} {j:Nat} {q:Pt} (h:q.s.heap.IsStrIter I (Jb0 y) y t j):ItAt x I (.str y) (.str y t) j q
 |bytes {b:Array UInt8} {t:Tok} {j:Nat} {q:Pt} (h:KBw.IsBytesIter q.s.heap I b t j):ItAt x I (.bytes b) (.bytes b t) j q
 |rng {a b c:Int} {v:Value} {j:Nat} {q:Pt} (hr:Jaj x q (.rng a b c) v) (h:IsRangeIter q.s.heap I (a+(j:Nat)*c) (Builtin.Range.rangeSize a b c - (j:Nat)) c):ItAt x I (.rng a b c) v j q
section
variable{x:Cx}{fs:List Env}{A:Around}{Pv:List Addr}{p:Pt}{n:Nat}{I:Addr}{d:D}{va:Value}{j:Nat}
theorem ItAt.fields(h:ItAt x I d va j p):∃o vs,p.s.heap.get? I=some o/\o.data=.fields vs:=by
 cases h with
 |list _ _ h=>obtain ⟨o,h1,_,h2⟩:=h;exact ⟨o,_,h1,h2⟩
 |tup _ h=>obtain ⟨o,h1,_,h2⟩:=h;exact ⟨o,_,h1,h2⟩
 |str h=>obtain ⟨o,h1,_,h2⟩:=h;exact ⟨o,_,h1,h2⟩
 |bytes h=>obtain ⟨o,h1,_,h2⟩:=h;exact ⟨o,_,h1,h2⟩
 |rng _ h=>exact ⟨_,_,h,rfl⟩
theorem ItAt.move{q:Pt}(h:ItAt x I d va j p)(hr:Jaj x q d va)(e:q.s.heap.get? I=p.s.heap.get? I):ItAt x I d va j q:=by
 cases h with
 |list _ hd h=>obtain ⟨o,h1,r⟩:=h;exact .list hr hd ⟨o,e.trans h1,r⟩
 |tup _ h=>obtain ⟨o,h1,r⟩:=h;exact .tup hr ⟨o,e.trans h1,r⟩
 |str h=>obtain ⟨o,h1,r⟩:=h;exact .str ⟨o,e.trans h1,r⟩
 |bytes h=>obtain ⟨o,h1,r⟩:=h;exact .bytes ⟨o,e.trans h1,r⟩
 |rng _ h=>exact .rng hr (e.trans h)
theorem Jhs{σ:Jaa}{ds:List D}(h:listy d=true)(e:Jal σ d=some ds):Jau σ d=some ds:=by
 cases d with
 |lst _=>exact e
 |loc _=>exact e
 |_=>exact ff h
theorem Jq8{Q:Value->Shared->Prop}{E:Value->Shared->Prop}(h:ItAt x I d va j p)(hQ:Q (.ref I) p.s):wpAny (model x.prog x.w) A (pyIter (.ref I)) Q E p.s:=by
 cases h with
 |list _ _ h=>exact wpAny_pyIter_listiter h hQ
 |tup _ h=>exact wpAny_pyIter_tupleiter h hQ
 |str h=>
  unfold Jb0 at h
  split at h
  ·exact wpAny_pyIter_striter_ascii h hQ
  ·exact wpAny_pyIter_striter_wide h hQ
 |bytes h=>exact KBw.pyIter_self h hQ
 |rng _ h=>exact wpAny_pyIter_rangeiter h hQ
theorem fitL{v:Int}(h:-4000000<=v/\v<=4000000):Builtin.Range.rangeFitsLong v=true:=by
 unfold Builtin.Range.rangeFitsLong
 simp only[Bool.and_eq_true,decide_eq_true_eq]
 exact ⟨Int.le_trans (by decide) h.1,Int.lt_of_le_of_lt h.2 (by decide)⟩
theorem abs_bd{a:Int}(h:a.natAbs<=line):-1048576<=a/\a<=1048576:=by rw[Jdl] at h;omega
theorem size_bd{a b c:Int}(h1:-1048576<=a/\a<=1048576)(h2:-1048576<=b/\b<=1048576)(h3:c=1\/c=2):-4000000<=Builtin.Range.rangeSize a b c/\Builtin.Range.rangeSize a b c<=4000000:=by
 unfold Builtin.Range.rangeSize
 by_cases h:a<b
 ·rcases h3 with rfl | rfl
  ·rw[if_pos (by decide),if_pos h];omega
  ·rw[if_pos (by decide),if_pos h];omega
 ·rcases h3 with rfl | rfl
  ·rw[if_pos (by decide),if_neg h];decide
  ·rw[if_pos (by decide),if_neg h];decide
theorem Jkz{a b c:Int}(h1:a.natAbs<=line)(h2:b.natAbs<=line)(h3:c=1\/c=2):Builtin.Range.small a b c=true:=by
 have b1:=abs_bd h1
 have b2:=abs_bd h2
 unfold Builtin.Range.small
 have w:∀{v:Int},-1048576<=v/\v<=1048576->Builtin.Range.rangeFitsLong v=true:=λh=>fitL ⟨Int.le_trans (by decide) h.1,Int.le_trans h.2 (by decide)⟩
 rw[w b1,w b2,fitL (size_bd b1 b2 h3)]
 rcases h3 with rfl | rfl
 ·rw[if_pos (by decide),fitL ⟨Int.le_trans (by decide) (Int.add_le_add b2.1 (by decide:(0:Int)<=1 - 1)),Int.le_trans (Int.add_le_add b2.2 (by decide:(1 - 1:Int)<=0)) (by decide)⟩,Bool.or_true];rfl
 ·rw[if_pos (by decide),fitL ⟨Int.le_trans (by decide) (Int.add_le_add b2.1 (by decide:(0:Int)<=2 - 1)),Int.le_trans (Int.add_le_add b2.2 (by decide:(2 - 1:Int)<=1)) (by decide)⟩,Bool.or_true];rfl
theorem Jhq(V:Inv x fs p){ds:List D}(hr:Jaj x p d va)(hi:Jal p.σ d=some ds){Q:Value->Shared->Prop}{E:Value->Shared->Prop}
  (hQ:∀o,o.isFreed=false->(∀q:Pt,q.s.heap.get? p.s.heap.objs.size=some o->Jaj x q d va->ItAt x p.s.heap.objs.size d va 0 q)->Q (.ref p.s.heap.objs.size) { p.s with heap:=p.s.heap.push o }):wpAny (model x.prog x.w) A (pyIter va) Q E p.s:=by
 have list:∀d,Jaj x p d va->listy d=true->Jau p.σ d=some ds->(∀o,o.isFreed=false->(∀q:Pt,q.s.heap.get? p.s.heap.objs.size=some o->Jaj x q d va->ItAt x p.s.heap.objs.size d va 0 q)->Q (.ref p.s.heap.objs.size) { p.s with heap:=p.s.heap.push o })->wpAny (model x.prog x.w) A (pyIter va) Q E p.s:=λd hr hd hi hQ=>by
  obtain ⟨a,vs,rfl,hl,_⟩:=Jaw V hr hi
  exact wpAny_pyIter_list hl (hQ _ rfl λq hq hr=>.list hr hd ⟨_,hq,rfl,rfl⟩)
 cases d with
 |lst _=>exact list _ hr rfl hi hQ
 |loc _=>exact list _ hr rfl hi hQ
 |tup ds=>
  obtain ⟨a,vs,rfl,ht,_⟩:=Jc2 V hr
  exact wpAny_pyIter_tuple ht (hQ _ rfl λq hq hr=>.tup hr ⟨_,hq,rfl,rfl⟩)
 |str y=>
  obtain ⟨t,rfl⟩:=Jb1 hr
  cases ha:y.cps.all (·<128)
  ·exact wpAny_pyIter_wide ha (hQ _ rfl λq hq hr=>.str ⟨_,hq,by simp[Jb0,ha],rfl⟩)
  ·exact wpAny_pyIter_ascii ha (hQ _ rfl λq hq hr=>.str ⟨_,hq,by simp[Jb0,ha],rfl⟩)
 |bytes b=>
  obtain ⟨t,rfl⟩:=Jdf hr
  exact KBw.pyIter_bytes (hQ _ rfl λq hq hr=>.bytes ⟨_,hq,rfl,rfl⟩)
 |rng a b c=>
  obtain ⟨⟨c1,c2,c3⟩,_⟩ | hi:=Jbd hi
  ·obtain ⟨r,t,u,z,rfl,h1⟩:=hr
   refine wpAny_pyIter_range (V.froz _ _ h1) (Jkz c1 c2 c3) (hQ _ rfl λq hq hr=>.rng hr ?_)
   rw[show (((0:Nat):Int))=0 from rfl,Int.zero_mul,Int.add_zero,Int.sub_zero]
   exact hq
  ·exact no hi
 |_=>exact no hi
noncomputable def Next(x:Cx)(p:Pt)(I:Addr)(d:D)(va:Value)(j:Nat)(e:D)(Q:Option Value->Shared->Prop):Prop:=
 ∀v h' tk,Heap.SameBut I p.s.heap h'->(∃o vs,h'.get? I=some o/\o.data=.fields vs)->(∀q:Pt,q.s.heap.get? I=h'.get? I->Jaj x q d va->ItAt x I d va (j+1) q)->Jaj x p e v->Q (some v) { p.s with heap:=h',toks:=tk }
theorem Jna{s:Str}{j:Nat}{e:Option D}(he:((Jb9 s).map D.str)[j]?=e):(s.cps[j]?).map (λc=>D.str ⟨#[c]⟩)=e:=by
 unfold Jb9 at he
 rw[List.map_map,List.getElem?_map,Array.getElem?_toList] at he
 exact he
theorem next_rng{a b c:Int}{ds:List D}{e:D}(hr:Jaj x p (.rng a b c) va)(h:IsRangeIter p.s.heap I (a+(j:Nat)*c) (Builtin.Range.rangeSize a b c - (j:Nat)) c)(hi:Jal p.σ (.rng a b c)=some ds)(he:ds[j]?=some e){Q:Option Value->Shared->Prop}{E:Value->Shared->Prop}
  (hQ:Next x p I (.rng a b c) va j e Q):wpAny (model x.prog x.w) A (pyNext (.ref I)) Q E p.s:=by
 obtain ⟨_,hi⟩ | hi:=Jbd hi
 ·cases hi
  rw[List.getElem?_map] at he
  obtain ⟨k,e2,rfl⟩:=Ja3 he
  obtain ⟨hj,e3⟩:=List.getElem?_eq_some_iff.mp e2
  rw[List.length_range] at hj
  rw[List.getElem_range] at e3
  subst e3
  clear e2 he
  refine wpAny_pyNext_range_item h (by exact ar309 hj) λh' g1 g2=>hQ _ h' _ g2 ⟨_,_,g1,rfl⟩ (λq hq hr=>.rng hr ?_) Jcg
  have e4:a+(((j+1:Nat)):Int)*c=a+(j:Int)*c+c:=by push_cast;rw[Int.add_mul,Int.one_mul,Int.add_assoc]
  have e5:Builtin.Range.rangeSize a b c - ((j+1:Nat):Int)=Builtin.Range.rangeSize a b c - (j:Int) - 1:=by push_cast;exact ar355
  rw[e4,e5]
  exact hq.trans g1
 ·exact no hi
theorem next_item(hA:A.handled=none)(V:Inv x fs p){ds:List D}{e:D}(h:ItAt x I d va j p)(hi:Jal p.σ d=some ds)(he:ds[j]?=some e){Q:Option Value->Shared->Prop}{E:Value->Shared->Prop}
  (hQ:Next x p I d va j e Q):wpAny (model x.prog x.w) A (pyNext (.ref I)) Q E p.s:=by
 cases h with
 |list hr hd h=>
  obtain ⟨a,vs,e1,hl,h4⟩:=Jaw V hr (Jhs hd hi)
  cases e1
  obtain ⟨v,e2,hv⟩:=h4.get _ _ he
  rw[Array.getElem?_toList] at e2
  exact wpAny_pyNext_list_item h hl e2 λh' g1 g2=>hQ v h' p.s.toks g2 (let ⟨o,z1,_,z2⟩:=g1;⟨o,_,z1,z2⟩) (λq hq hr=>.list hr hd (let ⟨o,z1,z2⟩:=g1;⟨o,hq.trans z1,z2⟩)) hv
 |tup hr h=>
  cases hi
  obtain ⟨a,vs,e1,hl,h4⟩:=Jc2 V hr
  cases e1
  obtain ⟨v,e2,hv⟩:=h4.get _ _ he
  rw[Array.getElem?_toList] at e2
  exact wpAny_pyNext_tuple_item h hl e2 λh' g1 g2=>hQ v h' p.s.toks g2 (let ⟨o,z1,_,z2⟩:=g1;⟨o,_,z1,z2⟩) (λq hq hr=>.tup hr (let ⟨o,z1,z2⟩:=g1;⟨o,hq.trans z1,z2⟩)) hv
 |@str y t _ _ h=>
  cases hi
  obtain ⟨c,e2,rfl⟩:=Ja3 (Jna he)
  cases ha:y.cps.all (·<128)
  ·have hs:Jb0 y="str_iterator":=by simp[Jb0,ha]
   rw[hs] at h
   exact wpAny_pyNext_wide_item h e2 λh' g1 g2=>hQ _ h' _ g2 (let ⟨o,z1,_,z2⟩:=g1;⟨o,_,z1,z2⟩) (λq hq hr=>.str (let ⟨o,z1,z2⟩:=g1;⟨o,hq.trans z1,by rw[hs];exact z2⟩)) Jia
  ·have hs:Jb0 y="str_ascii_iterator":=by simp[Jb0,ha]
   rw[hs] at h
   exact wpAny_pyNext_ascii_item h e2 λh' g1 g2=>hQ _ h' _ g2 (let ⟨o,z1,_,z2⟩:=g1;⟨o,_,z1,z2⟩) (λq hq hr=>.str (let ⟨o,z1,z2⟩:=g1;⟨o,hq.trans z1,by rw[hs];exact z2⟩)) Jia
 |bytes h=>
  cases hi
  rw[List.getElem?_map,Array.getElem?_toList] at he
  obtain ⟨c,e2,rfl⟩:=Ja3 he
  exact KBw.next_item h e2 λh' g1 g2=>hQ _ h' _ g2 (let ⟨o,z1,_,z2⟩:=g1;⟨o,_,z1,z2⟩) (λq hq hr=>.bytes (let ⟨o,z1,z2⟩:=g1;⟨o,hq.trans z1,z2⟩)) Jcg
 |rng hr h=>exact next_rng hr h hi he hQ
theorem Jjn(hA:A.handled=none)(V:Inv x fs p){ds:List D}(h:ItAt x I d va j p)(hi:Jal p.σ d=some ds)(he:ds[j]?=none){Q:Option Value->Shared->Prop}{E:Value->Shared->Prop}
  (hQ:∀h' tk,Heap.ExtBut I p.s.heap h'->Q none { p.s with heap:=h',toks:=tk }):wpAny (model x.prog x.w) A (pyNext (.ref I)) Q E p.s:=by
 have none_of:∀{vs:Array Value},RelVs x p ds vs.toList->vs[j]?=none:=λ{vs} h=>by
  have:=h.len
  rw[Array.length_toList] at this
  rw[Array.getElem?_eq_none_iff,this]
  exact List.getElem?_eq_none_iff.mp he
 cases h with
 |list hr hd h=>
  obtain ⟨a,vs,e1,hl,h4⟩:=Jaw V hr (Jhs hd hi)
  cases e1
  exact wpAny_pyNext_list_end hA h hl (none_of h4) λh' g1=>hQ h' p.s.toks g1
 |tup hr h=>
  cases hi
  obtain ⟨a,vs,e1,hl,h4⟩:=Jc2 V hr
  cases e1
  exact wpAny_pyNext_tuple_end hA h hl (none_of h4) λh' g1=>hQ h' p.s.toks g1
 |@str y t _ _ h=>
  clear none_of
  cases hi
  have e2:=Option.map_eq_none_iff.mp (Jna he)
  cases ha:y.cps.all (·<128)
  ·have hs:Jb0 y="str_iterator":=by simp[Jb0,ha]
   rw[hs] at h
   exact wpAny_pyNext_wide_end hA h e2 λh' g1=>hQ h' p.s.toks g1
  ·have hs:Jb0 y="str_ascii_iterator":=by simp[Jb0,ha]
   rw[hs] at h
   exact wpAny_pyNext_ascii_end hA h e2 λh' g1=>hQ h' p.s.toks g1
 |bytes h=>
  clear none_of
  cases hi
  rw[List.getElem?_map,Array.getElem?_toList] at he
  exact KBw.next_end hA h (Option.map_eq_none_iff.mp he) λh' g1=>hQ h' p.s.toks g1
 |rng hr h=>
  clear none_of
  obtain ⟨_,hi⟩ | hi:=Jbd hi
  ·cases hi
   rw[List.getElem?_map] at he
   have e2:=Option.map_eq_none_iff.mp he
   rw[List.getElem?_eq_none_iff,List.length_range] at e2
   exact wpAny_pyNext_range_end hA h (by exact ar318 e2) λh' g1=>hQ h' p.s.toks g1
  ·exact no hi
end
end
section
theorem Jd5{e:Expr}{r:List Expr}{xs:List Str}(h:Ja4 (e::r)=some xs):∃y pos ys,e=.Name y pos/\xs=y::ys/\Ja4 r=some ys:=by
 obtain ⟨y,h1,h⟩:=Jaf h
 obtain ⟨ys,h2,rfl⟩:=Ja3 h
 obtain ⟨pos,rfl⟩:=Jeg h1
 exact ⟨_,_,_,rfl,rfl,h2⟩
theorem Jgk:∀{es:List Expr} {xs:List Str},Ja4 es=some xs->es.length=xs.length
 |[],_,h=>by cases h;rfl
 |e::r,_,h=>by
  obtain ⟨y,_,ys,rfl,rfl,h1⟩:=Jd5 h
  exact congrArg Nat.succ (Jgk h1)
theorem set_comm(f:Jac){a b:Str}(h:a≠b)(d e:D):(f.set a d).set b e=(f.set b e).set a d:=by
 funext y
 unfold Jac.set
 by_cases h1:y=a
 ·subst h1;simp[h]
 ·simp[h1]
theorem Jhf:∀{xs:List Str} {ds:List D} {vars vars':Jac} {a:Str} {d:D},a∉xs->Jbs xs ds vars=some vars'->Jbs xs ds (vars.set a d)=some (vars'.set a d)
 |[],[],_,_,_,_,_,h=>by cases h;rfl
 |[],_::_,_,_,_,_,_,h=>no h
 |_::_,[],_,_,_,_,_,h=>no h
 |x::xs,e::ds,vars,vars',a,d,hn,h=>by
  simp only[List.mem_cons,not_or] at hn
  have h:Jbs xs ds (vars.set x e)=some vars':=h
  show Jbs xs ds ((vars.set a d).set x e)=_
  rw[set_comm _ hn.1]
  exact Jhf hn.2 h
theorem Jgc:∀{xs:List Str} {ds:List D} {vars vars':Jac} {a:Str} {d:D},Jbs xs ds vars=some vars'->Jbs (xs++[a]) (ds++[d]) vars=some (vars'.set a d)
 |[],[],_,_,_,_,h=>by cases h;rfl
 |[],_::_,_,_,_,_,h=>no h
 |_::_,[],_,_,_,_,h=>no h
 |x::xs,e::ds,vars,vars',a,d,h=>by
  exact Jgc (xs:=xs) (ds:=ds) (vars:=vars.set x e) h
theorem Jee:∀{xs:List Str} {ds:List D} {vars vars':Jac},Jbs xs ds vars=some vars'->xs.length=ds.length
 |[],[],_,_,_=>rfl
 |[],_::_,_,_,h=>no h
 |_::_,[],_,_,h=>no h
 |x::xs,e::ds,vars,_,h=>congrArg Nat.succ (Jee (xs:=xs) (ds:=ds) (vars:=vars.set x e) h)
theorem Jgb:∀{xs:List Str} {ds:List D} {vars:Jac},xs.length=ds.length->∃v,Jbs xs ds vars=some v
 |[],[],vars,_=>⟨vars,rfl⟩
 |[],_::_,_,h=>nomatch h
 |_::_,[],_,h=>nomatch h
 |x::xs,e::ds,vars,h=>Jgb (xs:=xs) (ds:=ds) (vars:=vars.set x e) (Nat.succ.inj h)
theorem Jhg:∀{xs:List Str} {ds:List D} {vars vars':Jac},xs.Nodup->Jbs xs ds vars=some vars'->Jbs xs.reverse ds.reverse vars=some vars'
 |[],[],_,_,_,h=>h
 |[],_::_,_,_,_,h=>no h
 |_::_,[],_,_,_,h=>no h
 |x::xs,e::ds,vars,vars',hn,h=>by
  simp only[List.nodup_cons] at hn
  have h:Jbs xs ds (vars.set x e)=some vars':=h
  have hl:=Jee h
  have this:=Jgb (vars:=vars) hl
  obtain ⟨v0,h0⟩:=this
  have h1:=Jhf (a:=x) (d:=e) hn.1 h0
  rw[h] at h1;cases h1
  rw[List.reverse_cons,List.reverse_cons]
  exact Jgc (Jhg hn.2 h0)
section
variable{x:Cx}{fs:List Env}{A:Around}{Pv:List Addr}{p:Pt}{n:Nat}{env:Env}{nm:List (Str×NameKind)}{vars:Jac}
theorem Jsi(hP:env.locals∈Pv)(hPc:(∃y,nm.lookup y=some .cell)->∀a∈pvt env,a∈Pv)(R:Jaz x fs env nm vars p)(I:Inv x fs p){y:Str}{v:Value}{d:D}(hy:Jdm nm y=true)(hv:Jaj x p d v){Q:Unit->Shared->Prop}{E:Value->Shared->Prop}
  (h:∀q,q.σ=p.σ->Inv x fs q->Ext fs Pv p q->Jaz x fs env nm (vars.set y d) q->Q () q.s):wpAny (model x.prog x.w) A (bindName env y v) Q E p.s:=
 wpAny_bindName (Jib hP hPc R I hy hv h)
theorem Jht(hP:env.locals∈Pv)(hPc:(∃y,nm.lookup y=some .cell)->∀a∈pvt env,a∈Pv){names:List Str}:∀{ds:List D} {vs:List Value} {p:Pt} {vars vars':Jac} {ts:List (Value->Sem Unit)},Jaz x fs env nm vars p->Inv x fs p->names.all (Jdm nm)=true->RelVs x p ds vs->Jbs names ds vars=some vars'->
  ts.length=names.length->(∀(i:Nat) t y,ts[i]?=some t->names[i]?=some y->∀v s (Q:Unit->Shared->Prop) E,wpAny (model x.prog x.w) A (bindName env y v) Q E s->wpAny (model x.prog x.w) A (t v) Q E s)->
  ∀{Q:Unit->Shared->Prop} {E:Value->Shared->Prop},(∀q,q.σ=p.σ->Inv x fs q->Ext fs Pv p q->Jaz x fs env nm vars' q->Q () q.s)->wpAny (model x.prog x.w) A (assignInOrder ts vs) Q E p.s:=by
 induction names with
 |nil=>
  intro ds vs p vars vars' ts R I _ hr hs hl ht Q E hQ
  obtain rfl:ts=[]:=by simpa using hl
  cases ds with
  |nil=>
   cases hs
   unfold assignInOrder
   exact wpAny_pure (hQ p rfl I (.refl ..) R)
  |cons _ _=>exact no hs
 |cons y names ih=>
  intro ds vs p vars vars' ts R I ha hr hs hl ht Q E hQ
  cases ds with
  |nil=>exact no hs
  |cons d ds=>
   cases ts with
   |nil=>simp at hl
   |cons t ts=>
    obtain ⟨v,r,rfl,h1,h2⟩:=hr
    simp only[List.all_cons,Bool.and_eq_true] at ha
    have hs:Jbs names ds (vars.set y d)=some vars':=hs
    unfold assignInOrder
    refine wpAny_bind (wpAny_holding (ht 0 t y rfl rfl v _ _ _ (Jsi hP hPc R I ha.1 h1 λq e1 e2 e3 e4=>?_)))
    refine ih e4 e2 ha.2 (Jay.mono e3.sub h2) hs (by simpa using hl) (λi t' y' g1 g2=>ht (i+1) t' y' (by simpa using g1) (by simpa using g2)) λq' k1 k2 k3 k4=>?_
    exact hQ q' (k1.trans e1) k2 (e3.trans k3) k4
theorem Jhy{env:Env}:∀{es:List Expr} {xs:List Str},Ja4 es=some xs->(assignEach es env).length=xs.length/\(assignEach es env).findIdx? (·.1)=none ∧
  ∀(i:Nat) t y,((assignEach es env).map (·.2))[i]?=some t->xs[i]?=some y->∃pos,t=λv=>(standAt pos >>= λ_=>bindName env y v)
 |[],xs,h=>by
  cases h
  exact ⟨rfl,rfl,λi t y h=>no h⟩
 |e::r,xs,h=>by
  obtain ⟨y,pos,ys,rfl,rfl,h1⟩:=Jd5 h
  obtain ⟨g1,g2,g3⟩:=Jhy (env:=env) h1
  have e1:assignEach (.Name y pos::r) env=(false,assign (.Name y pos) env)::assignEach r env:=rfl
  rw[e1]
  refine ⟨by simp[g1],by simp[List.findIdx?_cons,g2],λi t z h2 h3=>?_⟩
  cases i with
  |zero=>
   simp at h2 h3
   subst h2 h3
   exact ⟨pos,rfl⟩
  |succ i=>
   simp at h2 h3
   exact g3 i t z (by simpa using h2) h3
theorem Jiq{h':Heap}(hs:Heap.ExtBut p.s.heap.objs.size p.s.heap h'):∀b o,p.s.heap.get? b=some o->h'.get? b=some o:=
 λb o e=>hs b o (Nat.ne_of_lt (Heap.lt_size e)) e
theorem Jne{t:Expr}{d:D}{vars vars':Jac}(h:Jcd t d vars=some vars'):(∃y pos,t=.Name y pos/\vars'=vars.set y d)\/∃es k pos xs ds,t=.Tuple es k pos/\Ja4 es=some xs/\d=.tup ds/\Jbs xs ds vars=some vars':=by
 unfold Jcd at h
 cases e:name? t with
 |some y=>
  rw[e] at h
  cases h
  obtain ⟨pos,rfl⟩:=Jeg e
  exact .inl ⟨_,_,rfl,rfl⟩
 |none=>
  rw[e] at h
  obtain ⟨es,h1,h4⟩:=Jaf h
  obtain ⟨xs,h2,h5⟩:=Jaf h4
  obtain ⟨ds,h3,h6⟩:=Jaf h5
  obtain ⟨k,pos,rfl⟩:=Jo8 h1
  obtain ⟨_,h7⟩ | h7:=Jbd h6
  ·exact .inr ⟨_,_,_,xs,ds,rfl,h2,Jkn h3,h7⟩
  ·exact no h7
theorem Jdb(hP:env.locals∈Pv)(hPc:(∃y,nm.lookup y=some .cell)->∀a∈pvt env,a∈Pv)(hA:A.handled=none)(R:Jaz x fs env nm vars p)(I:Inv x fs p){t:Expr}{v:Value}{d:D}{vars':Jac}(ht:Jck nm t=true)(hv:Jaj x p d v)(hb:Jcd t d vars=some vars'){Q:Unit->Shared->Prop}{E:Value->Shared->Prop}
  (h:∀q,q.σ=p.σ->Inv x fs q->Ext fs Pv p q->Jaz x fs env nm vars' q->Q () q.s):wpAny (model x.prog x.w) A (assign t env v) Q E p.s:=by
 obtain ⟨y,pos,rfl,rfl⟩ | ⟨es,k,pos,xs,ds,rfl,h1,rfl,h2⟩:=Jne hb
 ·exact wpAny_bind (wpAny_standAt (Jsi hP hPc R I ht hv h))
 ·have ht:(Ja4 es).any (·.all (Jdm nm))=true:=ht
  rw[h1] at ht
  obtain ⟨a,vs,rfl,hT,hr⟩:=Jc2 I hv
  obtain ⟨g1,g2,g3⟩:=Jhy (env:=env) h1
  have hlen:=hr.len
  rw[Array.length_toList] at hlen
  refine wpAny_assign_Tuple hA hT (g1.trans ((Jee h2).trans hlen.symm)) g2 λh' hs=>?_
  have X':Ext fs [] p (p.grow h' p.s.toks):=Ext.grow (Jiq hs) [] p.s.toks
  refine Jht hP hPc (p:=p.grow h' p.s.toks) (R.ext0 X') (I.grow (Jiq hs) p.s.toks) ht (Jay.mono X'.sub hr) h2 (by rw[List.length_map,g1]) (λi t y k1 k2 v' s' Q' E' hw=>?_) λq k1 k2 k3 k4=>h q k1 k2 ((X'.mono λ_ h=>by cases h).trans k3) k4
  obtain ⟨pos,rfl⟩:=g3 i t y k1 k2
  exact wpAny_bind (wpAny_standAt hw)
theorem Jkq(y:Str):(["enumerate","zip","dict_itemiterator","dict_reverseitemiterator","odict_iterator","itertools.zip_longest","itertools.pairwise"].contains (Jb0 y))=false:=by
 unfold Jb0;split<;>decide +kernel
theorem ItAt.owned{q:Pt}{I:Addr}{d:D}{va:Value}{j:Nat}(h:ItAt x I d va j q):∃o c vs,q.s.heap.get? I=some o/\o.cls=.type c/\o.data=.fields vs/\(["enumerate","zip","dict_itemiterator","dict_reverseitemiterator","odict_iterator","itertools.zip_longest","itertools.pairwise"].contains c)=false:=by
 cases h with
 |list _ _ h=>obtain ⟨o,h1,h2,h3⟩:=h;exact ⟨o,_,_,h1,h2,h3,by decide +kernel⟩
 |tup _ h=>obtain ⟨o,h1,h2,h3⟩:=h;exact ⟨o,_,_,h1,h2,h3,by decide +kernel⟩
 |str h=>obtain ⟨o,h1,h2,h3⟩:=h;exact ⟨o,_,_,h1,h2,h3,Jkq _⟩
 |bytes h=>obtain ⟨o,h1,h2,h3⟩:=h;exact ⟨o,_,_,h1,h2,h3,by decide +kernel⟩
 |rng _ h=>exact ⟨_,_,_,h,rfl,rfl,by decide +kernel⟩
set_option backward.match.sparseCases true in
theorem Jgp{q:Pt}{I:Addr}{d:D}{va v:Value}{j:Nat}{t:Expr}(h:ItAt x I d va j q){Q:Unit->Shared->Prop}{E:Value->Shared->Prop}(hQ:Q () q.s):wpAny (model x.prog x.w) A (letOwnedTupleGo t (.ref I) v) Q E q.s:=by
 have hc:=h.owned
 obtain ⟨o,c,vs,h1,h2,h3,h4⟩:=hc
 unfold letOwnedTupleGo
 have core:∀a,wpAny (model x.prog x.w) A (load I >>= λo=>(match o.cls,o.data with
   |.type n,.fields vs=>
    if ["enumerate","zip","dict_itemiterator","dict_reverseitemiterator","odict_iterator","itertools.zip_longest","itertools.pairwise"].contains n&&vs[0]?==some (rawInt a) then do
     rule "for.unpacks-the-owned-tuple"
     updateField I 0 .none
    else pure ()
   |_,_=>pure ():Sem Unit)) Q E q.s:=by
  intro a
  refine wpAny_bind (wpAny_load h1 ?_)
  rw[h2,h3]
  dsimp only
  rw[h4,Bool.false_and]
  exact wpAny_pure hQ
 cases t with
 |Tuple _ _ _=>cases v<;>first | exact core _ | exact wpAny_pure hQ
 |List _ _=>cases v<;>first | exact core _ | exact wpAny_pure hQ
 |_=>exact wpAny_pure hQ
end
end
section
theorem Jlr{env:Env}{y:Str}{a:Addr}(h:env.cells.lookup y=some a):cellOf env y=pure a:=by unfold cellOf;rw[h]
theorem Jd9{env:Env}:∀(l:List (Str×NameKind)) (cs:List (Str×Addr)),(∀y∈l,y.2=.free->∃a,env.cells.lookup y.1=some a)->(∀y∈cs,env.cells.lookup y.1=some y.2)->
  ∃cl,(forIn l cs (λ(r:Str×NameKind) (cs:List (Str×Addr))=>if (r.2==NameKind.free)=true then do let a <-cellOf env r.1;pure (ForInStep.yield ((r.1,a)::cs)) else pure (ForInStep.yield cs)):Sem (List (Str×Addr)))=pure cl ∧
   (∀y∈cl,env.cells.lookup y.1=some y.2)/\(∀y,(y,NameKind.free)∈l->∃a,cl.lookup y=some a)/\(∀y a,cs.lookup y=some a->∃a',cl.lookup y=some a')
 |[],cs,_,hc=>⟨cs,rfl,hc,λy h=>by simp at h,λy a h=>⟨a,h⟩⟩
 |(y,k)::l,cs,hf,hc=>by
  rw[List.forIn_cons]
  by_cases hk:k=.free
  ·subst hk
   obtain ⟨a,ha⟩:=hf (y,.free) (by simp) rfl
   obtain ⟨cl,h1,h2,h3,h4⟩:=Jd9 l ((y,a)::cs) (λz hz=>hf z (by simp[hz])) (λz hz=>by
    rcases List.mem_cons.mp hz with rfl | hz
    ·exact ha
    ·exact hc z hz)
   refine ⟨cl,?_,h2,λz hz=>?_,λz b hb=>?_⟩
   ·dsimp only
    rw[if_pos (by decide),Jlr ha]
    exact h1
   ·rcases List.mem_cons.mp hz with e | hz
    ·cases e;exact h4 y a (by simp)
    ·exact h3 z hz
   ·by_cases e:z=y
    ·subst e;exact h4 z a (by simp)
    ·exact h4 z b (by rw[List.lookup_cons];have:(z==y)=false:=beq_eq_false_iff_ne.mpr e;rw[this];exact hb)
  ·obtain ⟨cl,h1,h2,h3,h4⟩:=Jd9 l cs (λz hz=>hf z (by simp[hz])) hc
   refine ⟨cl,?_,h2,λz hz=>?_,h4⟩
   ·dsimp only
    rw[if_neg (by simpa using hk)]
    exact h1
   ·rcases List.mem_cons.mp hz with e | hz
    ·cases e;exact absurd rfl hk
    ·exact h3 z hz
theorem Jh1{env:Env}{sc:Scope}(hf:∀y∈sc.names,y.2=.free->∃a,env.cells.lookup y.1=some a) :
  ∃cl,closureFor sc env=pure cl/\(∀y∈cl,env.cells.lookup y.1=some y.2)/\∀y,(y,NameKind.free)∈sc.names->∃a,cl.lookup y=some a:=by
 obtain ⟨cl,h1,h2,h3,_⟩:=Jd9 (env:=env) sc.names [] hf (λ_ h=>by simp at h)
 refine ⟨cl,?_,h2,h3⟩
 show ((forIn sc.names ([]:List (Str×Addr)) _:Sem _) >>= λcs=>pure cs)=pure cl
 have:∀m:Sem (List (Str×Addr)),m=pure cl->(m >>= λcs=>pure cs)=pure cl:=λm h=>by rw[h];rfl
 exact this _ h1
theorem Jbr{y:Str}{k:NameKind}:∀{l:List (Str×NameKind)},l.lookup y=some k->(y,k)∈l
 |[],h=>by simp at h
 |(n,a)::r,h=>by
  simp only[List.lookup_cons] at h
  split at h
  ·rename_i e;cases h;rw[beq_iff_eq.mp e];simp
  ·exact List.mem_cons_of_mem _ (Jbr h)
theorem Jgn{y:Str}{a:Addr}:∀{l:List (Str×Addr)},l.lookup y=some a->(y,a)∈l
 |[],h=>by simp at h
 |(n,b)::r,h=>by
  simp only[List.lookup_cons] at h
  split at h
  ·rename_i e;cases h;rw[beq_iff_eq.mp e];simp
  ·exact List.mem_cons_of_mem _ (Jgn h)
theorem Jeo{env:Env}(y:Str):∀(l:List (Str×NameKind)),
  (l.map λ(n,k)=>if (k==NameKind.free&&env.scope.kind==.function&&env.kindOf n==some .cell)=true then (n,NameKind.cell) else (n,k)).lookup y=l.lookup y ∨
  ((l.map λ(n,k)=>if (k==NameKind.free&&env.scope.kind==.function&&env.kindOf n==some .cell)=true then (n,NameKind.cell) else (n,k)).lookup y=some .cell/\l.lookup y=some .free)
 |[]=>.inl rfl
 |(n,k)::r=>by
  have ih:=Jeo (env:=env) y r
  simp only[List.map_cons]
  by_cases hc:(k==NameKind.free&&env.scope.kind==.function&&env.kindOf n==some .cell)=true
  ·simp only[hc,if_true,List.lookup_cons]
   split
   ·right
    simp only[Bool.and_eq_true,beq_iff_eq] at hc
    exact ⟨rfl,by rw[hc.1.1]⟩
   ·exact ih
  ·rw[if_neg hc]
   simp only[List.lookup_cons]
   split
   ·exact .inl rfl
   ·exact ih
section
variable{x:Cx}{fs:List Env}{A:Around}{Pv:List Addr}{p:Pt}{n:Nat}{env:Env}{nm:List (Str×NameKind)}{vars:Jac}
theorem Jgj{it:Expr}(h:notSet it=true)(env:Env)(v:Value):foldedSetIterable it env v=pure v:=by
 cases it with
 |Set _ _=>exact ff h
 |_=>rfl
structure CompSc(nm:List (Str×NameKind))(sc:Scope)(t it:Expr):Prop where
 kind:sc.kind=.function
 nocell:∀y∈sc.names,y.2≠.cell
 loc:∀y∈sc.names,y.2=.local->sc.names.lookup y.1=some .local
 free:∀y∈sc.names,y.2=.free->nm.lookup y.1=some .cell\/nm.lookup y.1=some .free
 tgt:targetOk sc.names t=true
 debug:sc.names.lookup ("__debug__":Str)=none
 clsd:sc.names.lookup ("__classdict__":Str)=none
 iter:notSet it=true
theorem or_of{a b:Bool}(h:(a||b)=true)(ha:a=false):b=true:=by rw[ha] at h;exact h
theorem Jdd{a b:Bool}(h:(a&&b)=true):a=true/\b=true:=Bool.and_eq_true_iff.mp h
theorem dec_of{a b:Prop}[Decidable a][Decidable b](h:(decide a||decide b)=true):a\/b:=(Bool.or_eq_true_iff.mp h).imp of_decide_eq_true of_decide_eq_true
theorem Jfu{sc:Scope}{t it:Expr}(h:compOk nm sc t it=true):CompSc nm sc t it:=by
 obtain ⟨h,h6⟩:=Jdd h
 obtain ⟨h,h5⟩:=Jdd h
 obtain ⟨h,h4⟩:=Jdd h
 obtain ⟨h,h3⟩:=Jdd h
 obtain ⟨h1,h2⟩:=Jdd h
 have h2:=List.all_eq_true.mp h2
 refine ⟨of_decide_eq_true h1,λy hy=>?_,λy hy e=>?_,λy hy e=>?_,h3,of_decide_eq_true h4,of_decide_eq_true h5,h6⟩
 ·exact of_decide_eq_true (Jdd (Jdd (h2 y hy)).1).1
 ·exact (dec_of (Jdd (Jdd (h2 y hy)).1).2).resolve_left λn=>n e
 ·exact dec_of (or_of (Jdd (h2 y hy)).2 (decide_eq_false λn=>n e))
theorem comp_env(R:Jaz x fs env nm vars p){sc:Scope}{t it:Expr}(hc:compOk nm sc t it=true):∃cl,closureFor sc env=pure cl ∧
  ∀(q:Pt) (C:Addr),Jaz x fs env nm vars q->(∃m,q.s.heap.Ns C m)->(∀y c,env.cells.lookup y=some c->c≠C)->q.B C=none->C∉q.ρ->Jaz x fs (compEnvC sc cl C env) sc.names (seen sc vars) q:=by
 obtain ⟨k1,k2,_,k4,_,k6,k7,_⟩:=Jfu hc
 obtain ⟨cl,h1,h2,h3⟩:=Jh1 (env:=env) (sc:=sc) λy hy e=>let ⟨c,_,g,_⟩:=R.cel y.1 (k4 y hy e);⟨c,g⟩
 refine ⟨cl,h1,λq C R' hn ho hB hρ=>?_⟩
 have cells:∀y c,cl.lookup y=some c->env.cells.lookup y=some c:=λy c e=>h2 _ (Jgn e)
 refine ⟨k1,?_,R'.glob,R'.bi,k6,k7,?_,?_,λy z c e1 e2=>R'.apart y z c (cells _ _ e1) (cells _ _ e2),λy c e=>ho y c (cells _ _ e),?_,R'.frame⟩
 ·intro y
  exact Jeo (env:=env) y sc.names
 ·obtain ⟨m,hm⟩:=hn
  refine ⟨m,hm,λy d e1 e2=>?_⟩
  unfold seen at e2
  rw[e1,if_neg (by decide)] at e2;cases e2
 ·intro y hy
  have hf:sc.names.lookup y=some .free:=hy.resolve_left λe=>k2 _ (Jbr e) rfl
  obtain ⟨c',hc'⟩:=h3 y (Jbr hf)
  obtain ⟨c,u,g1,g2,g3⟩:=R'.cel y (k4 _ (Jbr hf) rfl)
  have:=cells _ _ hc'
  rw[g1] at this;cases this
  refine ⟨_,u,hc',g2,λd e=>?_⟩
  unfold seen at e
  rw[hf,if_pos rfl] at e
  exact g3 d e
 ·intro a ha
  rcases List.mem_cons.mp ha with rfl | ha
  ·obtain ⟨m,o,es,ep,ho',_⟩:=hn
   exact ⟨hB,hρ,o,ho'⟩
  ·obtain ⟨y,hy,rfl⟩:=List.mem_map.mp ha
   exact R'.priv _ (List.mem_cons_of_mem _ (Jby (h2 y hy)))
structure Jbn(x:Cx)(fs:List Env)(p0:Pt)(C L:Addr)(es:List D)(q:Pt):Prop where
 inv:Inv x fs q
 ext:Ext fs [] p0 q
 cn:p0.s.heap.get? C=none
 dn:p0.s.heap.get? L=none
 ne:L≠C
 ns:∃m,q.s.heap.Ns C m
 cB:q.B C=none
 cρ:C∉q.ρ
 dB:q.B L=none
 dρ:L∉q.ρ
 lst:∃ys n,q.s.heap.get? L=some { cls:=.type "list",data:=.seq ys n }/\RelVs x q es ys.toList
theorem ns_nf{h:Heap}{a:Addr}{m}(hn:h.Ns a m):∃o,h.get? a=some o/\∀vs,o.data≠.fields vs:=by
 obtain ⟨o,es,ep,h1,h2,_⟩:=hn
 exact ⟨o,h1,λvs e=>by rw[h2] at e;cases e⟩
noncomputable def Pt.ice(q:Pt)(a:Addr)(o:Obj):Pt:={ q with B:=q.B.put a o }
inductive Iced(x:Cx)(fs:List Env)(p0 q:Pt)(L:Addr)(es:List D):Prop
 |mk (q':Pt) (h1:q'.σ=q.σ) (h2:q'.s=q.s) (h3:Inv x fs q') (h4:Ext fs [] p0 q') (h5:Jaj x q' (.lst es) (.ref L)) (h6:∀a,a≠L->q'.B a=q.B a) (h7:q'.ρ=q.ρ)
theorem ice_of{p0 q:Pt}{L:Addr}{es:List D}(I0:Inv x fs p0)(V:Inv x fs q)(E:Ext fs [] p0 q)(dn:p0.s.heap.get? L=none)(dB:q.B L=none)(dρ:L∉q.ρ)(lst:∃ys n,q.s.heap.get? L=some { cls:=.type "list",data:=.seq ys n }/\RelVs x q es ys.toList):Iced x fs p0 q L es:=by
 obtain ⟨ys,n,h1,h2⟩:=lst
 have hL:L∉frA fs:=λhm=>by
  obtain ⟨_,_,o,ho,_⟩:=Jbb I0.frames L hm
  rw[dn] at ho;cases ho
 have S:Sub q.B q.ρ (q.ice L { cls:=.type "list",data:=.seq ys n }).B q.ρ:=⟨λa o e=>by
  unfold Pt.ice Fz.put;dsimp only
  rw[if_neg (by rintro rfl;rw[dB] at e;cases e)];exact e,λ_ _ e=>e⟩
 have hget:(q.ice L { cls:=.type "list",data:=.seq ys n }).B L=some { cls:=.type "list",data:=.seq ys n }:=by
  unfold Pt.ice Fz.put;dsimp only;rw[if_pos rfl]
 refine ⟨q.ice L { cls:=.type "list",data:=.seq ys n },rfl,rfl,⟨λa o e=>S.b _ _ (V.base a o e),λa o e=>?_,V.len,V.nd,λa ha=>?_,λi a m e1 e2=>?_,?_⟩,?_,?_,λa ha=>?_,rfl⟩
 ·unfold Pt.ice Fz.put at e;dsimp only at e
  split at e
  ·rename_i ea;cases e;rw[ea];exact h1
  ·exact V.froz _ _ e
 ·unfold Pt.ice Fz.put;dsimp only
  rw[if_neg (by rintro rfl;exact dρ ha)];exact V.off a ha
 ·obtain ⟨o,g1,g2⟩:=V.mu i a m e1 e2
  exact ⟨o,g1,g2.mono S⟩
 ·have:∀l,(∀a∈frA l,a≠L)->Jaq q l->Jaq (q.ice L { cls:=.type "list",data:=.seq ys n }) l:=by
   intro l
   induction l with
   |nil=>exact λ_ h=>h
   |cons e r ih=>
    rintro hl ⟨⟨g1,L',o,g2,g3,g4,g5,g6⟩,g7⟩
    have hm:L'∈frA (e::r):=by unfold frA;rw[List.filterMap_cons,g2];simp
    refine ⟨⟨g1,L',o,g2,g3,g4,?_,g6⟩,ih (λa ha=>hl a ?_) g7⟩
    ·unfold Pt.ice Fz.put;dsimp only
     rw[if_neg (hl L' hm)];exact g5
    ·unfold frA;rw[List.filterMap_cons,g2];exact List.mem_cons_of_mem _ ha
  exact this fs (λa ha=>by rintro rfl;exact hL ha) V.frames
 ·exact
     {b:=λa o e=>S.b _ _ (E.b a o e),r:=E.r,bnew:=λa o e=>by
       unfold Pt.ice Fz.put at e;dsimp only at e
       split at e
       ·rename_i ea;rw[ea];exact .inr dn
       ·exact E.bnew a o e,rnew:=E.rnew,keep:=E.keep,there:=E.there,same:=E.same }
 ·exact mkLst ⟨L,_,ys,n,rfl,hget,rfl,rfl,Jay.mono S h2⟩
 ·unfold Pt.ice Fz.put;dsimp only;rw[if_neg ha]
theorem Jbn.ice{p0 q:Pt}{C L:Addr}{es:List D}(I0:Inv x fs p0)(X:Jbn x fs p0 C L es q):∃q',q'.σ=q.σ/\q'.s=q.s/\Inv x fs q'/\Ext fs [] p0 q'/\Jaj x q' (.lst es) (.ref L)/\q'.B C=none/\C∉q'.ρ:=by
 obtain ⟨q',h1,h2,h3,h4,h5,h6,h7⟩:=ice_of I0 X.inv X.ext X.dn X.dB X.dρ X.lst
 refine ⟨q',h1,h2,h3,h4,h5,?_,by rw[h7];exact X.cρ⟩
 rw[h6 C (Ne.symm X.ne)];exact X.cB
noncomputable def CompR(x:Cx)(fs:List Env)(p0:Pt)(rT:Out (List D))(C L:Addr)(cenv:Env)(names:List (Str×NameKind))(vs:Jac)(r:Result)(s':Shared):Prop:=match r with
 |.ok f=>f=.next/\∃es q,rT=.ok es q.σ/\q.s=s'/\Jbn x fs p0 C L es q
 |.error e=>∃w n σ q1,rT=.exc w n σ/\Ext fs [] p0 q1/\Jaz x fs cenv names vs q1/\Jar x fs [] q1 w n σ true e s'
structure CompParts(x:Cx)(fs:List Env)(A:Around)(cenv:Env)(names:List (Str×NameKind))(t:Expr)(vs0:Jac)(ifs:List Expr)(elt:Expr)(test:Jac->Jaa->Out Bool)(val:Jac->Jaa->Out D):Prop where
 test:∀p vars,Jaz x fs cenv names vars p->Inv x fs p->W x fs A [] (forIn ifs true λc r=>if r=true then do let ok <-isTrue c cenv (eval c cenv);pure (ForInStep.yield ok) else pure (ForInStep.yield r)) (test vars p.σ) (λ_ b r=>r=b) p
 val:∀p vars,Jaz x fs cenv names vars p->Inv x fs p->W x fs A [] (eval elt cenv) (val vars p.σ) (Jaj x) p
theorem Jgd{names:List (Str×NameKind)}:∀{xs:List Str} {ds:List D} {vars vars':Jac},(∀z∈xs,names.lookup z=some .local)->Jbs xs ds vars=some vars'->∀y,names.lookup y=some .free->vars' y=vars y
 |[],[],_,_,_,h,_,_=>by cases h;rfl
 |[],_::_,_,_,_,h,_,_=>no h
 |_::_,[],_,_,_,h,_,_=>no h
 |z::xs,d::ds,vars,_,hl,h,y,hy=>by
  rw[Jgd (xs:=xs) (ds:=ds) (vars:=vars.set z d) (λw hw=>hl w (List.mem_cons_of_mem _ hw)) h y hy]
  exact if_neg (by rintro rfl;rw[hl _ (List.mem_cons_self ..)] at hy;cases hy)
theorem Jox{names:List (Str×NameKind)}{t:Expr}{d:D}{vars vars':Jac}(ht:targetOk names t=true)(hb:Jcd t d vars=some vars'):∀y,names.lookup y=some .free->vars' y=vars y:=by
 intro y hy
 obtain ⟨z,pos,rfl,rfl⟩ | ⟨es,k,pos,xs,ds,rfl,h1,rfl,h2⟩:=Jne hb
 ·exact if_neg (by rintro rfl;rw[show names.lookup y=some .local from of_decide_eq_true ht] at hy;cases hy)
 ·have ht:(Ja4 es).any (·.all λx=>decide (names.lookup x=some .local))=true:=ht
  rw[h1] at ht
  exact Jgd (λz hz=>of_decide_eq_true (List.all_eq_true.mp ht z hz)) h2 y hy
theorem Jko{f g:Str->Bool}(h:∀y,f y=true->g y=true){t:Expr}(ht:Jen f t=true):Jen g t=true:=by
 unfold Jen at ht ⊢
 cases e:name? t with
 |some y=>rw[e] at ht;exact h y ht
 |none=>
  rw[e] at ht
  have ht:((tuple? t).bind Ja4).any (·.all f)=true:=ht
  show ((tuple? t).bind Ja4).any (·.all g)=true
  revert ht
  cases (tuple? t).bind Ja4 with
  |none=>exact id
  |some xs=>exact λht=>List.all_eq_true.mpr λy hy=>h y (List.all_eq_true.mp ht y hy)
theorem Jjf{names:List (Str×NameKind)}{t:Expr}(ht:targetOk names t=true):Jck names t=true:=
 Jko (λy hy=>by unfold Jdm;rw[of_decide_eq_true hy]) ht
end
end
section
section
variable{x:Cx}{fs:List Env}{A:Around}{Pv:List Addr}{p:Pt}{n:Nat}
theorem Jbn.on{p0 q q':Pt}{C L:Addr}{es:List D}(I0:Inv x fs p0)(X:Jbn x fs p0 C L es q)(I':Inv x fs q')(E:Ext fs [C] q q')(hn:∃m,q'.s.heap.Ns C m):Jbn x fs p0 C L es q':=by
 obtain ⟨ys,k,h1,h2⟩:=X.lst
 have hL:L∉frA fs:=λhm=>by
  obtain ⟨_,_,o,ho,_⟩:=Jbb I0.frames L hm
  rw[X.dn] at ho;cases ho
 obtain ⟨m,oC,esC,ep,hC,_⟩:=X.ns
 refine ⟨I',(((X.ext.mono (Pv':=[C]) (λ_ h=>by cases h)).trans E).drop (L:=[C]) (Pv:=[]) (λa ha=>by rw[List.mem_singleton.mp ha];exact X.cn)),X.cn,X.dn,X.ne,hn,?_,λhm=>?_,?_,λhm=>?_,ys,k,(E.keep L _ h1 X.dρ (λhm=>X.ne (List.mem_singleton.mp hm))).2 hL,Jay.mono E.sub h2⟩
 ·cases e:q'.B C with
  |none=>rfl
  |some o=>
   rcases E.bnew _ _ e with g | g
   ·rw[X.cB] at g;cases g
   ·rw[hC] at g;cases g
 ·rcases E.rnew _ hm with g | g
  ·exact X.cρ g
  ·rw[hC] at g;cases g
 ·cases e:q'.B L with
  |none=>rfl
  |some o=>
   rcases E.bnew _ _ e with g | g
   ·rw[X.dB] at g;cases g
   ·rw[h1] at g;cases g
 ·rcases E.rnew _ hm with g | g
  ·exact X.dρ g
  ·rw[h1] at g;cases g
structure CompSt(x:Cx)(fs:List Env)(p0:Pt)(C L I:Addr)(d:D)(va:Value)(j:Nat)(acc:List D)(q:Pt):Prop where
 done:Jbn x fs p0 C L acc q
 rel:Jaj x q d va
 it:ItAt x I d va j q
 iN:p0.s.heap.get? I=none
 iB:q.B I=none
 iρ:I∉q.ρ
 iL:I≠L
 iC:I≠C
theorem CompSt.on{p0 q q':Pt}{C L I:Addr}{d:D}{va:Value}{j:Nat}{es:List D}(I0:Inv x fs p0)(X:CompSt x fs p0 C L I d va j es q)(I':Inv x fs q')(E:Ext fs [C] q q')(hn:∃m,q'.s.heap.Ns C m):CompSt x fs p0 C L I d va j es q':=by
 have hI:I∉frA fs:=λhm=>by
  obtain ⟨_,_,o,ho,_⟩:=Jbb I0.frames I hm
  rw[X.iN] at ho;cases ho
 obtain ⟨o,vs,h1,h2⟩:=X.it.fields
 have h3:=(E.keep I _ h1 X.iρ (λhm=>X.iC (List.mem_singleton.mp hm))).2 hI
 have r:Jaj x q' d va:=Rel.mono E.sub X.rel
 refine ⟨X.done.on I0 I' E hn,r,X.it.move r (h3.trans h1.symm),X.iN,?_,λhm=>?_,X.iL,X.iC⟩
 ·cases e:q'.B I with
  |none=>rfl
  |some o=>
   rcases E.bnew _ _ e with g | g
   ·rw[X.iB] at g;cases g
   ·rw[h1] at g;cases g
 ·rcases E.rnew _ hm with g | g
  ·exact X.iρ g
  ·rw[h1] at g;cases g
theorem Jbn.iter{p0 q:Pt}{C L I:Addr}{es:List D}(X:Jbn x fs p0 C L es q){h':Heap}(tk:Nat)(hs:Heap.ExtBut I q.s.heap h')(iN:p0.s.heap.get? I=none)(iB:q.B I=none)(iρ:I∉q.ρ)(iL:I≠L)(iC:I≠C)
  (hf:∃o vs,q.s.heap.get? I=some o/\o.data=.fields vs):Jbn x fs p0 C L es (q.own h' tk):=by
 obtain ⟨o,vs,h1,h2⟩:=hf
 obtain ⟨m,hm⟩:=X.ns
 obtain ⟨ys,k,h3,h4⟩:=X.lst
 exact ⟨X.inv.chg tk iB iρ hs (λo' g1 g2=>by rw[h1] at g1;cases g1;exact absurd h2 (g2 vs)),X.ext.chg tk hs iN,X.cn,X.dn,X.ne,⟨m,hm.extBut hs (Ne.symm iC)⟩,X.cB,X.cρ,X.dB,X.dρ,ys,k,hs L _ (Ne.symm iL) h3,h4⟩
variable{cenv:Env}{names:List (Str×NameKind)}{t elt iter:Expr}{vs0:Jac}{ifs:List Expr}{test:Jac->Jaa->Out Bool}{val:Jac->Jaa->Out D}{sc:Scope}{pos:Pos}
theorem Jaz.chg{env:Env}{nm:List (Str×NameKind)}{vars:Jac}{q:Pt}(R:Jaz x fs env nm vars q){a:Addr}{h':Heap}(tk:Nat)(hs:Heap.ExtBut a q.s.heap h')(ha:a∉pvt env):Jaz x fs env nm vars (q.own h' tk) where
 kind:=R.kind
 names:=R.names
 glob:=R.glob
 bi:=R.bi
 debug:=R.debug
 clsd:=R.clsd
 loc:=let ⟨m,h1,h2⟩:=R.loc;⟨m,h1.extBut hs (by rintro rfl;exact ha (List.mem_cons_self ..)),h2⟩
 cel:=λy hy=>by
  obtain ⟨c,u,h1,⟨o,h2,h2'⟩,h3⟩:=R.cel y hy
  exact ⟨c,u,h1,⟨o,hs c o (by rintro rfl;exact ha (List.mem_cons_of_mem _ (Jby h1))) h2,h2'⟩,h3⟩
 apart:=R.apart
 off:=R.off
 priv:=λb hb=>let ⟨h1,h2,o,h3⟩:=R.priv b hb;⟨h1,h2,o,hs b o (by rintro rfl;exact ha hb) h3⟩
 frame:=R.frame
theorem comp_acc(X:Jaa->Out (List D))(du:D)(acc:List D)(σ:Jaa):(((Out.ok du σ).bind λe σ=>(X σ).bind λes σ=>.ok (e::es) σ).bind λes σ=>.ok (acc++es) σ)=(X σ).bind λes σ=>.ok (acc++[du]++es) σ:=by
 show ((X σ).bind _).bind _=_
 cases X σ<;>simp[Out.bind]
set_option genInjectivity false in
structure LP where
 x:Cx
 fs:List Env
 A:Around
 cenv:Env
 names:List (Str×NameKind)
 t:Expr
 elt:Expr
 iter:Expr
 vs0:Jac
 ifs:List Expr
 test:Jac->Jaa->Out Bool
 val:Jac->Jaa->Out D
 sc:Scope
 pos:Pos
 p0:Pt
 L:Addr
 I:Addr
 d:D
 va:Value
 rT:Out (List D)
structure LP.Ok(l:LP):Prop where
 hA:l.A.handled=none
 hfr:l.A.frames=some l.fs
 I0:Inv l.x l.fs l.p0
 hce:∀a∈l.cenv.cells.map (·.2),∃o,l.p0.s.heap.get? a=some o
 ht:targetOk l.names l.t=true
 hnc:∀y∈l.names,y.2≠.cell
 h0:∀y d,l.vs0 y=some d->l.names.lookup y=some .free
 P:CompParts l.x l.fs l.A l.cenv l.names l.t l.vs0 l.ifs l.elt l.test l.val
 hbad:l.rT≠.bad
namespace LP
variable(l:LP)
noncomputable def code:Code:=.compLoop (.ListComp l.elt [⟨l.t,l.iter,l.ifs,0⟩] l.sc l.pos) 0 (.ref l.I) (.ref l.L) l.cenv
noncomputable def run(k j:Nat)(σ:Jaa):Out (List D):=compI (λσ=>Jal σ l.d) (λe=>Jcd l.t e l.vs0) l.test l.val k j σ
noncomputable def after(acc:List D)(r:Out (List D)):Out (List D):=r.bind λes σ=>.ok (acc++es) σ
abbrev S(j:Nat)(acc:List D)(q:Pt):Prop:=CompSt l.x l.fs l.p0 l.cenv.locals l.L l.I l.d l.va j acc q
abbrev R(vs:Jac)(q:Pt):Prop:=Jaz l.x l.fs l.cenv l.names vs q
noncomputable abbrev M:Model:=model l.x.prog l.x.w
inductive St(k:Nat)(s:Shared):Prop
 |mk (q:Pt) (j:Nat) (acc:List D) (hs:q.s=s) (S:l.S j acc q) (R:l.R l.vs0 q) (hr:l.rT=after acc (l.run k j q.σ)) (h1:acc.length<=j) (h2:j+k<=line+1)
noncomputable def C:Result->Shared->Prop:=CompR l.x l.fs l.p0 l.rT l.cenv.locals l.L l.cenv l.names l.vs0
noncomputable def Q(n:Nat)(fin:Fin)(s':Shared):Prop:=match fin with
 |.done f=>l.C (.ok f) s'
 |.again c'=>c'=l.code/\∃m,m<n/\l.St m s'
noncomputable def E:Value->Shared->Prop:=notedBy l.M l.A l.cenv λe s'=>l.C (.error e) s'
noncomputable def turn(k j:Nat)(vs:Jac)(σ:Jaa):Out (List D):=(l.test vs σ).bind λb σ=>if b=true then (l.val vs σ).bind λe σ=>(l.run k (j+1) σ).bind λes σ=>.ok (e::es) σ else l.run k (j+1) σ
theorem run_none{k j:Nat}{σ:Jaa}(h:Jal σ l.d=none):l.run (k+1) j σ=.bad:=by unfold run;rw[compI,h]
theorem run_end{k j:Nat}{σ:Jaa}{ds:List D}(h:Jal σ l.d=some ds)(he:ds[j]?=none):l.run (k+1) j σ=.ok [] σ:=by unfold run;rw[compI,h];simp only[he]
theorem run_un{k j:Nat}{σ:Jaa}{ds:List D}{e:D}(h:Jal σ l.d=some ds)(he:ds[j]?=some e)(hb:Jcd l.t e l.vs0=none):l.run (k+1) j σ=.bad:=by unfold run;rw[compI,h];simp only[he,hb]
theorem run_turn{k j:Nat}{σ:Jaa}{ds:List D}{e:D}{vs:Jac}(h:Jal σ l.d=some ds)(he:ds[j]?=some e)(hb:Jcd l.t e l.vs0=some vs):l.run (k+1) j σ=l.turn k j vs σ:=by unfold run turn;rw[compI,h];simp only[he,hb];rfl
variable{l}
theorem offp(H:l.Ok){a:Addr}(h1:l.p0.s.heap.get? a=none)(h2:a≠l.cenv.locals):a∉pvt l.cenv:=λhm=>by
 rcases List.mem_cons.mp hm with e | hm
 ·exact h2 e
 ·obtain ⟨o,ho⟩:=H.hce a hm;rw[h1] at ho;cases ho
theorem exc(H:l.Ok){q1:Pt}{w:Str}{m:Int}{σ:Jaa}{e:Value}{s':Shared}(h1:l.rT=.exc w m σ)(h2:Ext l.fs [] l.p0 q1)(h3:l.R l.vs0 q1)(h4:Jar l.x l.fs [] q1 w m σ false e s'):l.E e s':=by
 obtain ⟨e0,outer,FL,hfs,hf0,hf⟩:=h3.frame
 have hfr:=H.hfr
 have fin:∀s'',Jar l.x l.fs [] q1 w m σ true e s''->l.C (.error e) s'':=λs'' h5=>⟨w,m,σ,q1,h1,h2,h3,h5⟩
 revert h4 fin hfr
 rw[hfs]
 exact λh4 hfr fin=>h4.noteFrame hfr hf0 hf fin
theorem ns_of{vs:Jac}{q:Pt}(R:l.R vs q):∃m,q.s.heap.Ns l.cenv.locals m:=let ⟨m,hm,_⟩:=R.loc;⟨m,hm⟩
theorem laid_W(H:l.Ok){k j n:Nat}{acc:List D}{q:Pt}{du:D}{u:Value}(hn:k<n)(S:l.S (j+1) acc q)(R:l.R l.vs0 q)(hu:Jaj l.x q du u)(h1:acc.length<=j)(h2:j+1+k<=line+1)
  (hr:l.rT=after acc ((l.run k (j+1) q.σ).bind λes σ=>.ok (du::es) σ)):wpAny l.M l.A (call (.builtin "list.append") [.ref l.L,u]) (λ_ s'=>l.Q n (.again l.code) s') l.E q.s:=by
 obtain ⟨ys,kk,hL,hys⟩:=S.done.lst
 have hlen:=hys.len
 rw[Array.length_toList] at hlen
 refine append_at (hsz:=by have:=Jb2;exact ar414 h1 h2 hlen this) hL λh5 g3 g4=>⟨rfl,k,hn,q.own h5 q.s.toks,j+1,acc++[du],rfl,?_,R.chg _ g3.extBut (offp H S.done.dn S.done.ne),hr.trans (comp_acc _ _ _ _),by simp;exact ar71 h1,h2⟩
 obtain ⟨m4,hm4⟩:=S.done.ns
 refine ⟨⟨S.done.inv.chg _ S.done.dB S.done.dρ g3.extBut (λ_ _ _=>⟨_,g4,λvs e=>by cases e⟩),S.done.ext.chg _ g3.extBut S.done.dn,S.done.cn,S.done.dn,S.done.ne,⟨m4,hm4.sameBut g3 (Ne.symm S.done.ne)⟩,S.done.cB,S.done.cρ,S.done.dB,S.done.dρ,_,_,g4,?_⟩,
  S.rel,S.it.move S.rel ((g3.2 l.I S.iL)),S.iN,S.iB,S.iρ,S.iL,S.iC⟩
 rw[Array.toList_push]
 exact hys.app ⟨u,[],rfl,hu,rfl⟩
theorem tested_W(H:l.Ok){k j n:Nat}{acc:List D}{q:Pt}{vs:Jac}{b:Bool}(hn:k<n)(S:l.S (j+1) acc q)(R:l.R l.vs0 q)(Rv:l.R vs q)(h1:acc.length<=j)(h2:j+1+k<=line+1)
  (hr:l.rT=after acc (if b=true then (l.val vs q.σ).bind λe σ=>(l.run k (j+1) σ).bind λes σ=>.ok (e::es) σ else l.run k (j+1) q.σ)) :
  wpAny l.M l.A (if b=true then ((do let _ <-call (.builtin "list.append") [.ref l.L,<-eval l.elt l.cenv];pure ()) >>= λ_=>again l.code) else again l.code) (l.Q n) l.E q.s:=by
 cases b with
 |false=>exact wpAny_pure ⟨rfl,k,hn,q,j+1,acc,rfl,S,R,hr,Nat.le_succ_of_le h1,h2⟩
 |true=>
  have hr:l.rT=after acc ((l.val vs q.σ).bind λe σ=>(l.run k (j+1) σ).bind λes σ=>.ok (e::es) σ):=hr
  refine wpAny_bind (wpAny_bind (wpAny_mono (H.P.val q vs Rv S.done.inv λh=>H.hbad (by rw[hr,h];rfl)) ?_ ?_))
  ·rintro u s' ⟨du,q4,g2,rfl,I4,E4,hu⟩
   rw[g2] at hr
   have R4:=R.ext0 E4
   exact wpAny_bind (wpAny_mono (laid_W H hn (S.on H.I0 I4 (E4.mono λ_ h=>by cases h) (ns_of R4)) R4 hu h1 h2 hr) (λ_ _ h=>wpAny_pure (wpAny_pure h)) λ_ _ h=>h)
  ·rintro ev s' ⟨w,m,q4,g2,rfl,I4,E4,hE⟩
   exact exc H (by rw[hr,g2];rfl) S.done.ext R ⟨q4,rfl,rfl,I4,E4,hE⟩
theorem bound_W(H:l.Ok){k j n:Nat}{acc:List D}{q:Pt}{vs:Jac}(hn:k<n)(S:l.S (j+1) acc q)(R:l.R l.vs0 q)(Rv:l.R vs q)(h1:acc.length<=j)(h2:j+1+k<=line+1)(hr:l.rT=after acc (l.turn k j vs q.σ)) :
  wpAny l.M l.A (forIn l.ifs true (λc r=>if r=true then do let ok <-isTrue c l.cenv (eval c l.cenv);pure (ForInStep.yield ok) else pure (ForInStep.yield r)) >>= λb=>if b=true then ((do let _ <-call (.builtin "list.append") [.ref l.L,<-eval l.elt l.cenv];pure ()) >>= λ_=>again l.code) else again l.code) (l.Q n) l.E q.s:=by
 refine wpAny_bind (wpAny_mono (H.P.test q vs Rv S.done.inv λh=>H.hbad (by rw[hr];unfold turn;rw[h];rfl)) ?_ ?_)
 ·rintro b s' ⟨b',q3,g1,rfl,I3,E3,rfl⟩
  have R3:=R.ext0 E3
  refine tested_W H hn (S.on H.I0 I3 (E3.mono λ_ h=>by cases h) (ns_of R3)) R3 (Rv.ext0 E3) h1 h2 (hr.trans ?_)
  unfold turn
  rw[g1]
  rfl
 ·rintro ev s' ⟨w,m,q3,g1,rfl,I3,E3,hE⟩
  exact exc H (by rw[hr];unfold turn;rw[g1];rfl) S.done.ext R ⟨q3,rfl,rfl,I3,E3,hE⟩
theorem item_W(H:l.Ok){k j:Nat}{acc:List D}{q:Pt}{ds:List D}{e:D}{vs:Jac}(hi:Jal q.σ l.d=some ds)(he:ds[j]?=some e)(hb:Jcd l.t e l.vs0=some vs)(S:l.S j acc q)(R:l.R l.vs0 q)(h1:acc.length<=j)(h2:j+(k+1)<=line+1)(hr:l.rT=after acc (l.run (k+1) j q.σ)) :
  Next l.x q l.I l.d l.va j e (λr s=>wpAny l.M l.A (match r with
   |none=>pure (.done .next)
   |some v=>letOwnedTupleGo l.t (.ref l.I) v >>= λ_=>assign l.t l.cenv v >>= λ_=>forIn l.ifs true (λc r=>if r=true then do let ok <-isTrue c l.cenv (eval c l.cenv);pure (ForInStep.yield ok) else pure (ForInStep.yield r)) >>= λb=>if b=true then ((do let _ <-call (.builtin "list.append") [.ref l.L,<-eval l.elt l.cenv];pure ()) >>= λ_=>again l.code) else again l.code) (l.Q (k+1)) l.E s):=by
 intro v h' tk hs hf' hit hv
 have X1:=S.done.iter tk hs.extBut S.iN S.iB S.iρ S.iL S.iC S.it.fields
 have S1:l.S (j+1) acc (q.own h' tk):=⟨X1,S.rel,hit _ rfl S.rel,S.iN,S.iB,S.iρ,S.iL,S.iC⟩
 have R1:l.R l.vs0 (q.own h' tk):=R.chg tk hs.extBut (offp H S.iN S.iC)
 have hPc:(∃y,l.names.lookup y=some .cell)->∀a∈pvt l.cenv,a∈[l.cenv.locals]:=λ⟨y,hy⟩=>absurd rfl (H.hnc _ (Jbr hy))
 refine wpAny_bind (Jgp (q:=q.own h' tk) S1.it ?_)
 refine wpAny_bind (Jdb (p:=q.own h' tk) (Pv:=[l.cenv.locals]) (List.mem_singleton.mpr rfl) hPc H.hA R1 X1.inv (Jjf H.ht) hv hb λq2 e1 I2 E2 R2=>?_)
 have R2':l.R l.vs0 q2:=R2.less λy d' hy=>by rw[Jox H.ht hb y (H.h0 y d' hy)];exact hy
 refine bound_W H (Nat.lt_succ_self k) (S1.on H.I0 I2 E2 (ns_of R2')) R2' R2 h1 (by exact ar311 h2) ?_
 rw[hr,l.run_turn hi he hb,e1]
 rfl
theorem turn_W(H:l.Ok){n:Nat}{s:Shared}(h:l.St n s):wpAny l.M l.A (compTurn (.ListComp l.elt [⟨l.t,l.iter,l.ifs,0⟩] l.sc l.pos) 0 (.ref l.I) (.ref l.L) l.cenv) (l.Q n) l.E s:=by
 obtain ⟨q,j,acc,rfl,S,R,hr,h1,h2⟩:=h
 rw[compTurn_list]
 refine wpAny_bind (wpAny_standAt (wpAny_bind ?_))
 cases n with
 |zero=>exact absurd hr H.hbad
 |succ k=>
  cases hi:Jal q.σ l.d with
  |none=>rw[l.run_none hi] at hr;exact absurd hr H.hbad
  |some ds=>
   cases he:ds[j]? with
   |none=>
    rw[l.run_end hi he] at hr
    exact Jjn H.hA S.done.inv S.it hi he λh' tk hs=>wpAny_pure ⟨rfl,acc,q.own h' tk,by rw[hr];show Out.ok (acc++[]) q.σ=_;rw[List.append_nil];rfl,rfl,S.done.iter tk hs S.iN S.iB S.iρ S.iL S.iC S.it.fields⟩
   |some e=>
    cases hb:Jcd l.t e l.vs0 with
    |none=>rw[l.run_un hi he hb] at hr;exact absurd hr H.hbad
    |some vs=>exact next_item H.hA S.done.inv S.it hi he (item_W H hi he hb S R h1 h2 hr)
theorem loop_W(H:l.Ok){K:Nat}{s:Shared}(h:l.St K s):codeAny l.M l.A l.code l.C s:=
 codeAny_loop rfl l.St (λ_ _ h=>wpAny_noted (turn_W H h)) K h
end LP
end
end
section
section
variable{x:Cx}{fs:List Env}{A:Around}{Pv:List Addr}{p:Pt}{n:Nat}
theorem ad1{a b:Nat}(h:b<a):b≠a+2:=by exact ar101 h
theorem ad2(a:Nat):a≠a+2:=by exact ar18
theorem ad3(a:Nat):a+1≠a+2:=by exact ar26
theorem ad4(a:Nat):a≠a+1:=by exact ar17
theorem Jaq.by{p q:Pt}:∀{fs:List Env},(∀a∈frA fs,(p.B a=none->q.B a=none)/\(a∉p.ρ->a∉q.ρ)/\∀o,p.s.heap.get? a=some o->(∀vs,o.data≠.fields vs)->∃o',q.s.heap.get? a=some o'/\∀vs,o'.data≠.fields vs)->Jaq p fs->Jaq q fs
 |[],_,_=>trivial
 |e::r,hl,⟨⟨g1,L',o,g2,g3,g4,g5,g6⟩,g7⟩=>by
  have hm:L'∈frA (e::r):=by unfold frA;rw[List.filterMap_cons,g2];simp
  obtain ⟨k1,k2,k3⟩:=hl L' hm
  obtain ⟨o',k4,k5⟩:=k3 o g3 g4
  exact ⟨⟨g1,L',o',g2,k4,k5,k1 g5,k2 g6⟩,Jaq.by (λa ha=>hl a (by unfold frA;rw[List.filterMap_cons,g2];exact List.mem_cons_of_mem _ ha)) g7⟩
theorem Inv.chgF(I:Inv x fs p){a:Addr}{h:Heap}(tk:Nat)(hB:p.B a=none)(hρ:a∉p.ρ)(hF:a∉frA fs)(hs:Heap.ExtBut a p.s.heap h):Inv x fs (p.own h tk) where
 base:=I.base
 froz:=λb o' e=>hs b o' (by rintro rfl;have e':p.B b=some o':=e;rw[hB] at e';cases e') (I.froz _ _ e)
 len:=I.len
 nd:=I.nd
 off:=I.off
 mu:=λi b m e1 e2=>by
  obtain ⟨o',h1,h2⟩:=I.mu i b m e1 e2
  exact ⟨o',hs b o' (by rintro rfl;exact hρ (List.mem_of_getElem? e1)) h1,h2⟩
 frames:=Jaq.by (p:=p) (q:=p.own h tk) (λb hb=>⟨id,id,λo g1 g2=>⟨o,hs b o (by rintro rfl;exact hF hb) g1,g2⟩⟩) I.frames
theorem Ja8{p0:Pt}(I0:Inv x fs p0){a:Addr}(hn:p0.s.heap.get? a=none):a∉frA fs:=λhm=>by
 obtain ⟨_,_,o,ho,_⟩:=Jbb I0.frames a hm
 rw[hn] at ho;cases ho
theorem Jbn.last{p0 q:Pt}{C L:Addr}{es:List D}(I0:Inv x fs p0)(X:Jbn x fs p0 C L es q){h':Heap}(hs:Heap.SameBut C q.s.heap h') :
  ∃q',q'.σ=q.σ/\q'.s={ q.s with heap:=h' }/\Inv x fs q'/\Ext fs [] p0 q'/\Jaj x q' (.lst es) (.ref L):=by
 obtain ⟨ys,n,h1,h2⟩:=X.lst
 obtain ⟨q',e1,e2,e3,e4,e5,_,_⟩:=ice_of (q:=q.own h' q.s.toks) I0 (X.inv.chgF q.s.toks X.cB X.cρ (Ja8 I0 X.cn) hs.extBut) (X.ext.chg q.s.toks hs.extBut X.cn) X.dn X.dB X.dρ ⟨ys,n,(hs.2 L X.ne).trans h1,h2⟩
 exact ⟨q',e1,e2,e3,e4,e5⟩
theorem Jar.leaveC{p0 p1:Pt}{w:Str}{k:Int}{σ:Jaa}{tb:Bool}{v:Value}{s:Shared}{C:Addr}(I0:Inv x fs p0)(X:Jar x fs [] p1 w k σ tb v s)(E:Ext fs [] p0 p1)(hC:∃o,p1.s.heap.get? C=some o)(cn:p0.s.heap.get? C=none)
  (cB:p1.B C=none) (cρ:C∉p1.ρ) {h':Heap} (hs:Heap.SameBut C s.heap h'):Jar x fs [] p0 w k σ tb v { s with heap:=h' }:=by
 obtain ⟨q,rfl,rfl,I,Y,e,oe,vs,dx,es,m,rfl,h2,h3,h4,h5,h6,h7,h8,h9,h10,h11,h12⟩:=X
 obtain ⟨oC,hoC⟩:=hC
 have ne:e≠C:=by rintro rfl;rw[h9] at hoC;cases hoC
 have qB:q.B C=none:=by
  cases g:q.B C with
  |none=>rfl
  |some o=>rcases Y.bnew _ _ g with g | g<;>simp_all
 have qρ:C∉q.ρ:=λg=>by rcases Y.rnew _ g with g | g<;>simp_all
 refine ⟨q.own h' q.s.toks,rfl,rfl,I.chgF _ qB qρ (Ja8 I0 cn) hs.extBut,(E.trans Y).chg _ hs.extBut cn,e,oe,vs,dx,es,m,rfl,(hs.2 e ne).trans h2,h3,h4,h5,h6,h7,h8,E.none h9,h10,h11,?_⟩
 rcases h12 with h12 | ⟨T,oT,ts,a1,a2,a3,a4,a5,a6,a7,a8⟩
 ·exact .inl h12
 ·have nT:T≠C:=by rintro rfl;rw[a6] at hoC;cases hoC
  exact .inr ⟨T,oT,ts,a1,a2,(hs.2 T nT).trans a3,a4,a5,E.none a6,a7,a8⟩
theorem Jar.base{p0 p1:Pt}{w:Str}{k:Int}{σ:Jaa}{tb:Bool}{v:Value}{s:Shared}(E:Ext fs Pv p0 p1)(X:Jar x fs Pv p1 w k σ tb v s):Jar x fs Pv p0 w k σ tb v s:=by
 obtain ⟨q,h1,h2,h3,h4,h5⟩:=X
 exact ⟨q,h1,h2,h3,E.trans h4,h5.older λa=>E.none⟩
variable{env:Env}{nm:List (Str×NameKind)}{vars:Jac}{t elt it:Expr}{ifs:List Expr}{sc:Scope}{pos:Pos}{test:Jac->Jaa->Out Bool}{val:Jac->Jaa->Out D}
theorem Jpg{q1:Pt}(I1:Inv x fs q1){o oC:Obj}(hof:o.isFreed=false){h₁:Heap}{Ia:Nat}(hI:q1.s.heap.objs.size=Ia){m:Str->Option Value}(hns₁:h₁.Ns (Ia+2) m)(hsb₁:Heap.SameBut (Ia+2) (((q1.s.heap.push o).push { cls:=.type "list",dict:=none,data:=.seq ([]:List Value).toArray }).push oC) h₁)
  {d:D} {va:Value} (hd:Jaj x q1 d va) (hit:∀q:Pt,q.s.heap.get? Ia=some o->Jaj x q d va->ItAt x Ia d va 0 q):CompSt x fs q1 (Ia+2) (Ia+1) Ia d va 0 [] (q1.grow h₁ (q1.s.toks+0)):=by
 have sI:(q1.s.heap.push o).objs.size=Ia+1:=by rw[Heap.size_push,hI]
 have nI:q1.s.heap.get? Ia=none:=Heap.get?_none_of_le (hI▸Nat.le_refl _)
 have nL:q1.s.heap.get? (Ia+1)=none:=Heap.get?_none_of_le (hI▸Nat.le_succ _)
 have nC:q1.s.heap.get? (Ia+2)=none:=Heap.get?_none_of_le (hI▸Nat.le_add_right _ 2)
 have old:∀b ob,q1.s.heap.get? b=some ob->h₁.get? b=some ob:=λb ob e=>hsb₁.extBut b ob (ad1 (hI▸Heap.lt_size e)) (Heap.get?_push_of_some _ (Heap.get?_push_of_some _ (Heap.get?_push_of_some _ e)))
 have gI:h₁.get? Ia=some o:=hsb₁.extBut Ia o (ad2 _) (Heap.get?_push_of_some _ (Heap.get?_push_of_some _ (by rw[<-hI];exact Heap.get?_push_size _ hof)))
 have gL:=hsb₁.extBut (Ia+1) _ (ad3 _) (Heap.get?_push_of_some _ (by rw[<-sI];exact Heap.get?_push_size _ rfl))
 have bN:∀a,q1.s.heap.get? a=none->q1.B a=none:=λa ha=>by
  cases e:q1.B a with
  |none=>rfl
  |some ob=>rw[I1.froz _ _ e] at ha;cases ha
 have rN:∀a,q1.s.heap.get? a=none->a∉q1.ρ:=λa ha hm=>by
  obtain ⟨ob,ho⟩:=I1.ρlt hm
  rw[ha] at ho;cases ho
 have X2:Ext fs [] q1 (q1.grow h₁ (q1.s.toks+0)):=Ext.grow old _ _
 exact ⟨⟨I1.grow old _,X2,nC,nL,ad3 _,⟨_,hns₁⟩,bN _ nC,rN _ nC,bN _ nL,rN _ nL,_,_,gL,rfl⟩,Rel.mono X2.sub hd,hit _ gI (Rel.mono X2.sub hd),nI,bN _ nI,rN _ nI,ad4 _,ad2 _⟩
theorem Jpv{sc:Scope}{vars:Jac}(y:Str)(d:D)(h:seen sc vars y=some d):sc.names.lookup y=some .free:=by
 unfold seen at h
 split at h
 ·assumption
 ·cases h
theorem LP.after_nil(r:Out (List D)):LP.after [] r=r:=by cases r<;>rfl
theorem Jr8{prog:Program}{w:World}{A:Around}{E:Value->Shared->Prop}{use:Option (Value->Sem Unit)}{Q:Value->Shared->Prop}{q1:Pt}(I1:Inv x fs q1){rT:Out (List D)}{C L:Addr}{cenv:Env}{names:List (Str×NameKind)}{vs:Jac}(hl:cenv.locals=C)(nC:q1.s.heap.get? C=none)
  (hok:∀q es f,rT=.ok es q.σ->Jbn x fs q1 C L es q->compPost (model prog w) A E use Q (.ref L) C (.ok f) q.s)
  (herr:∀w k σ e s',rT=.exc w k σ->Jar x fs [] q1 w k σ true e s'->E e s') {r:Result} {s':Shared} (hr:CompR x fs q1 rT C L cenv names vs r s'):compPost (model prog w) A E use Q (.ref L) C r s':=by
 subst hl
 cases r with
 |ok f=>
  obtain ⟨_,es,q,g1,rfl,g2⟩:=hr
  exact hok q es f g1 g2
 |error e=>
  obtain ⟨w',k,σ,q3,g1,g2,g3,g4⟩:=hr
  obtain ⟨cB,cρ,cE⟩:=g3.priv _ (List.mem_cons_self ..)
  have hns:∃m,s'.heap.Ns cenv.locals m:=by
   obtain ⟨q,_,rfl,_,Y,_⟩:=g4
   obtain ⟨m',hm',_⟩:=(g3.ext0 Y).loc
   exact ⟨m',hm'⟩
  obtain ⟨m',hm'⟩:=hns
  have this:∀h',Heap.SameBut cenv.locals s'.heap h'->∀cv:Env,cv.locals=cenv.locals->wpAny (model prog w) A (passOn "comprehension.variables-let-go" e cv:Sem Value) (λ_ _=>False) E { s' with heap:=h' }:=λh' hs cv _=>
   (g4.leaveC I1 g2 cE nC cB cρ hs).passOn λs'' F'=>herr w' k σ e s'' g1 F'
  cases use<;>exact ⟨m',hm',this⟩
theorem Jkc(hA:A.handled=none)(hfr:A.frames=some fs)(R:Jaz x fs env nm vars p)(hc:compOk nm sc t it=true){rit:Out D}(Wit:W x fs A [] (eval it env) rit (Jaj x) p)
  (P:∀cenv,(∃cl C,closureFor sc env=pure cl/\cenv=compEnvC sc cl C env)->CompParts x fs A cenv sc.names t (seen sc vars) ifs elt test val) {rT:Out (List D)} (hbad:rT≠.bad)
  (hrT:rT=rit.bind λd σ=>compL d (λe=>Jcd t e (seen sc vars)) test val σ)
  {use:Option (Value->Sem Unit)} {Q E:Value->Shared->Prop}
  (hok:∀q1 q C L es f,Inv x fs q1->Ext fs [] p q1->Jaz x fs env nm vars q1->rT=.ok es q.σ->Jbn x fs q1 C L es q->compPost (model x.prog x.w) A E use Q (.ref L) C (.ok f) q.s)
  (herr:∀w k σ e s',rT=.exc w k σ->Jar x fs [] p w k σ false e s'->E e s') :
  wpAny (model x.prog x.w) A (comprehension (.ListComp elt [⟨t,it,ifs,0⟩] sc pos) sc env it.pos (newList []) false (eval it env) use) Q E p.s:=by
 have F:=Jfu hc
 obtain ⟨cl,hcl,henv⟩:=comp_env R hc
 refine wpAny_comprehension_free (g:=⟨t,it,ifs,0⟩) (gs:=[]) rfl (λv=>Jgj F.iter env v) hcl F.kind F.loc ?_
 refine wpAny_mono (Wit (by rintro rfl;exact hbad hrT)) ?_ ?_
 rotate_left
 ·rintro e s' ⟨w,k,q,h1,rfl,I,X,hE⟩
  exact herr w k q.σ e q.s (by rw[hrT,h1];rfl) ⟨q,rfl,rfl,I,X,hE⟩
 rintro va s' ⟨d,q1,h1,rfl,I1,X1,hd⟩
 have R1:=R.ext0 X1
 rw[h1] at hrT
 have hrT':rT=(Jal q1.σ d).elim .bad λds=>if ds.length<=line then compI (λσ=>Jal σ d) (λe=>Jcd t e (seen sc vars)) test val (ds.length+1) 0 q1.σ else .bad:=hrT
 clear hrT
 cases hi:Jal q1.σ d with
 |none=>rw[hi] at hrT';exact absurd hrT' hbad
 |some ds=>
  rw[hi,Option.elim] at hrT'
  by_cases hz:ds.length<=line
  rotate_left
  ·rw[if_neg hz] at hrT';exact absurd hrT' hbad
  rw[if_pos hz] at hrT'
  refine Jhq I1 hd hi λo hof hit=>?_
  refine wpAny_newObj_type (wpAny_newFunctionEnv F.nocell (λy hy=>nomatch hy) (λh₁ hns₁ hsb₁=>?_) F.kind)
  dsimp only at hns₁ hsb₁ ⊢
  generalize hI:q1.s.heap.objs.size=Ia at hit hns₁ hsb₁ ⊢
  have sI:(q1.s.heap.push o).objs.size=Ia+1:=by rw[Heap.size_push,hI]
  have sL:((q1.s.heap.push o).push { cls:=.type "list",dict:=none,data:=.seq ([]:List Value).toArray }).objs.size=Ia+2:=by rw[Heap.size_push,sI]
  rw[sL] at hns₁ hsb₁
  rw[sI,sL]
  have S:=Jpg I1 hof hI hns₁ hsb₁ hd hit
  have Rc:Jaz x fs (compEnvC sc cl (Ia+2) env) sc.names (seen sc vars) (q1.grow h₁ (q1.s.toks+0)):=by
   refine henv _ (Ia+2) (R1.ext0 S.done.ext) S.done.ns (λy c hy=>?_) S.done.cB S.done.cρ
   rintro rfl
   obtain ⟨_,_,ob,ho⟩:=R1.priv _ (List.mem_cons_of_mem _ (Jby hy))
   rw[S.done.cn] at ho;cases ho
  have hce:∀a∈(compEnvC sc cl (Ia+2) env).cells.map (·.2),∃ob,q1.s.heap.get? a=some ob:=λa ha=>by
   obtain ⟨y,hy,rfl⟩:=List.mem_map.mp ha
   have:env.cells.lookup y.1=some y.2:=by
    obtain ⟨cl',g1,g2,_⟩:=Jh1 (env:=env) (sc:=sc) λy hy e=>let ⟨c,_,g,_⟩:=R.cel y.1 (F.free y hy e);⟨c,g⟩
    rw[hcl] at g1
    cases g1
    exact g2 y hy
   obtain ⟨_,_,ob,ho⟩:=R1.priv _ (List.mem_cons_of_mem _ (Jby this))
   exact ⟨ob,ho⟩
  have H:LP.Ok ⟨x,fs,A,compEnvC sc cl (Ia+2) env,sc.names,t,elt,it,seen sc vars,ifs,test,val,sc,pos,q1,Ia+1,Ia,d,va,rT⟩:=
   ⟨hA,hfr,I1,hce,F.tgt,F.nocell,Jpv,P _ ⟨cl,Ia+2,hcl,rfl⟩,hbad⟩
  have loop:=LP.loop_W H (K:=ds.length+1) ⟨_,0,[],rfl,S,Rc,hrT'.trans (LP.after_nil _).symm,Nat.le_refl _,by exact ar189 hz⟩
  have fin:codeAny (model x.prog x.w) A (.compLoop (.ListComp elt [⟨t,it,ifs,0⟩] sc pos) 0 (.ref Ia) (.ref (Ia+1)) (compEnvC sc cl (Ia+2) env)) (compPost (model x.prog x.w) A E use Q (.ref (Ia+1)) (Ia+2)) (q1.grow h₁ (q1.s.toks+0)).s:=codeAny_mono loop λr s' hr=>Jr8 (prog:=x.prog) (w:=x.w) (A:=A) (E:=E) (use:=use) (Q:=Q) I1 rfl S.done.cn (λq es f g1 g2=>hok q1 q _ _ es f I1 X1 R1 g1 g2) (λw k σ e s'' g1 F'=>herr w k σ e s'' g1 (Jar.base X1 F').weak) hr
  exact codeAny_compStart_list fin (Jq8 S.it fin)
end
end
section
structure CfOk(x:Cx)(cf:Addr->List D->Jaa->Out D)(fs:List Env)(A:Around):Prop where
 call:∀p a as vs,Inv x fs p->RelVs x p as vs->W x fs A [] (call (.ref a) vs) (cf a as p.σ) (Jaj x) p
 keep:∀a as σ,cf a as σ≠.bad->keepIn x.K (.ref a)=true
section
variable{x:Cx}{fs:List Env}{A:Around}{Pv:List Addr}{p:Pt}{n:Nat}
theorem W.hold{α β:Type}{t:Sem α}{r:Out β}{R:Pt->β->α->Prop}{vs:List Value}(h:W x fs A Pv t r R p):W x fs A Pv (holding vs t) r R p:=λhne=>wpAny_holding (h hne)
theorem W.stand{α β:Type}{t:Sem α}{r:Out β}{R:Pt->β->α->Prop}{pos:Pos}(h:W x fs A Pv t r R p):W x fs A Pv (standAt pos >>= λ_=>t) r R p:=λhne=>wpAny_bind (wpAny_standAt (h hne))
theorem W.oper{β:Type}{t:Sem Value}{r:Out β}{R:Pt->β->Value->Prop}{vs:List Value}(h:W x fs A Pv t r R p):W x fs A Pv (operate vs t) r R p:=λhne=>wpAny_operating (h hne)
theorem Jc3{M:Model}{E:Value->Shared->Prop}{s:Shared}{vs ks:List Value}{Q:Unit->Shared->Prop}(h:Q () s):wpAny M A (release vs ks) Q E s:=λΓ p hΓ=>by rw[Sem.wp_release];exact h
theorem W.rele{α β:Type}{t:Sem α}{r:Out β}{R:Pt->β->α->Prop}{vs ks:List Value}(h:W x fs A Pv t r R p):W x fs A Pv (release vs ks >>= λ_=>t) r R p:=λhne=>wpAny_bind (Jc3 (h hne))
theorem W.pass{α β:Type}{t:Sem α}{r:Out β}{R:Pt->β->α->Prop}(h:W x fs A Pv t r R p){f:α->Sem α}(hf:∀v Q E s,Q v s->wpAny (model x.prog x.w) A (f v) Q E s):W x fs A Pv (t >>= f) r R p:=
 λhne=>wpAny_bind (wpAny_mono (h hne) (λv s' hv=>hf v _ _ _ hv) λ_ _ e=>e)
theorem Jow{α:Type}(r:Out D)(X Y:Jaa->Out α):((r.bind λd σ=>Out.of (Jb7 d) σ).bind λb σ=>if b=true then X σ else Y σ)=r.bind λc σ=>brD c (X σ) (Y σ):=by
 cases r with
 |ok d σ=>
  cases d with
  |bool b=>cases b<;>rfl
  |_=>rfl
 |_=>rfl
theorem Jat{α β γ:Type}(r:Out α)(f:α->Jaa->Out β)(g:β->Jaa->Out γ):(r.bind f).bind g=r.bind λa σ=>(f a σ).bind g:=by cases r<;>rfl
theorem bind_ok{α:Type}(r:Out α):(r.bind λa σ=>.ok a σ)=r:=by cases r<;>rfl
theorem Jl4{d:D}{v:Value}(I:Inv x fs p)(h:Jaj x p d v):W x fs A Pv (truthy v) (.of (Jb7 d) p.σ) (λ_ b r=>r=b) p:=by
 refine W.of λb hb=>?_
 cases d<;>simp only[Jb7,reduceCtorEq,Option.some.injEq] at hb
 subst hb
 cases Jdg h
 exact λ_=>wpAny_truthy_bool ⟨_,p,rfl,rfl,I,.refl ..,rfl⟩
theorem const_W{c:Const}{env:Env}(I:Inv x fs p):W x fs A Pv (constValue env c) (.of (constD c) p.σ) (Jaj x) p:=by
 refine W.of λd hd=>?_
 cases c<;>simp only[constD,reduceCtorEq,Option.some.injEq] at hd
 ·subst hd;exact λ_=>wpAny_pure ⟨_,p,rfl,rfl,I,.refl ..,rfl⟩
 ·subst hd;exact λ_=>wpAny_pure ⟨_,p,rfl,rfl,I,.refl ..,rfl⟩
 ·subst hd;exact W.tk I λQ E h=>(show wpAny _ _ (mkInt _) Q E p.s from wpAny_mkInt (h _ _ ⟨_,rfl⟩))
 ·subst hd;exact W.tk I λQ E h=>Calls.Constant_str (env:=env) (k:=0) (pos:=default) (h _ _ ⟨_,rfl⟩)
 ·subst hd;exact W.tk I λQ E h=>Constant_bytes (env:=env) (k:=0) (pos:=default) (h _ _ ⟨_,rfl⟩)
inductive Joined(x:Cx)(fs:List Env)(p0 q:Pt)(L:Addr)(m:M):Prop
 |mk (q':Pt) (h1:q'.σ=q.σ++[m]) (h2:q'.s=q.s) (h3:Inv x fs q') (h4:Ext fs [] p0 q') (h5:Jaj x q' (.loc q.σ.length) (.ref L)) (h6:q'.B=q.B)
theorem Jq7{p0 q:Pt}{L:Addr}{m:M}{o:Obj}(I0:Inv x fs p0)(V:Inv x fs q)(E:Ext fs [] p0 q)(dn:p0.s.heap.get? L=none)(dB:q.B L=none)(dρ:L∉q.ρ)(lo:q.s.heap.get? L=some o)(hm:RelM x.w.params q.B q.ρ m o):Joined x fs p0 q L m:=by
 have S:Sub q.B q.ρ q.B (q.ρ++[L]):=⟨λ_ _ e=>e,λi a e=>(List.getElem?_append_left (List.getElem?_eq_some_iff.mp e).1).trans e⟩
 refine ⟨{ q with ρ:=q.ρ++[L],σ:=q.σ++[m] },rfl,rfl,⟨V.base,V.froz,by simp[V.len],?_,λa ha=>?_,λi a m' e1 e2=>?_,?_⟩,?_,?_,rfl⟩
 ·refine List.nodup_append.mpr ⟨V.nd,by simp,λa ha b hb=>?_⟩
  rw[List.mem_singleton.mp hb];rintro rfl;exact dρ ha
 ·rcases List.mem_append.mp ha with h | h
  ·exact V.off a h
  ·rw[List.mem_singleton.mp h];exact dB
 ·dsimp only at e1 e2 ⊢
  by_cases hi:i<q.ρ.length
  ·rw[List.getElem?_append_left hi] at e1
   rw[List.getElem?_append_left (V.len▸hi)] at e2
   obtain ⟨o',h1,h2⟩:=V.mu i a m' e1 e2
   exact ⟨o',h1,h2.mono S⟩
  ·rw[List.getElem?_append_right (Nat.le_of_not_lt hi)] at e1
   rw[List.getElem?_append_right (V.len▸Nat.le_of_not_lt hi)] at e2
   have:i - q.ρ.length=0:=by
    have:=(List.getElem?_eq_some_iff.mp e1).1
    simp at this;exact ar121 this
   rw[this] at e1
   rw[<-V.len,this] at e2
   simp at e1 e2
   subst e1 e2
   exact ⟨o,lo,hm.mono S⟩
 ·exact Jaq.by (p:=q) (λa ha=>⟨id,λh hm=>by
   rcases List.mem_append.mp hm with hm | hm
   ·exact h hm
   ·exact Ja8 I0 dn (List.mem_singleton.mp hm▸ha),λo h1 h2=>⟨o,h1,h2⟩⟩) V.frames
 ·exact
     {b:=E.b,r:=(let ⟨r,hr⟩:=E.r;⟨r++[L],by show q.ρ++[L]=_;rw[hr,List.append_assoc]⟩),bnew:=E.bnew,rnew:=λa ha=>by
       rcases List.mem_append.mp ha with h | h
       ·exact E.rnew a h
       ·rw[List.mem_singleton.mp h];exact .inr dn,keep:=E.keep,there:=E.there,same:=E.same }
 ·exact mkLoc ⟨L,rfl,by rw[<-V.len];simp⟩
theorem Jfj{e:Expr}{r:List Expr}{env:Env}(h:plain (e::r)=true):starEach (e::r) env=(false,eval e env)::starEach r env/\plain r=true:=by
 cases e<;>first | exact ⟨rfl,h⟩ | cases h
theorem Jd2{env:Env}{pos:Pos}:∀{es:List Expr},plain es=true->(backTo pos (starEach es env)).any (·.1)=false
 |[],_=>rfl
 |e::r,h=>by
  obtain ⟨h1,h2⟩:=Jfj (env:=env) h
  rw[h1]
  show ((false,_)::backTo pos (starEach r env)).any (·.1)=false
  rw[List.any_cons,Jd2 h2];rfl
theorem Jfi{env:Env}{pos:Pos}{es:List Expr}{n:Nat}(h:plain es=true)(hn:n<30):methodCallForm n (backTo pos (starEach es env)) (backToKw pos (keywordEach [] env))=true:=by
 have:(backTo pos (starEach es env)).all (λy=>!y.1)=true:=by
  rw[List.all_eq_true]
  intro y hy
  have:=Jd2 (env:=env) (pos:=pos) h
  rw[List.any_eq_false] at this
  simpa using this y hy
 unfold methodCallForm
 rw[this]
 show (true&&decide (n+0<30))=true
 rw[Nat.add_zero,decide_eq_true hn];rfl
theorem Jcp{env:Env}{pos:Pos}{f:Value}{es:List Expr}{M:Model}{E:Value->Shared->Prop}{s:Shared}{Q:Args->Shared->Prop}(h:plain es=true)(hw:wpAny M A (spliced (backTo pos (starEach es env))) (λvs s'=>Q ⟨vs,[]⟩ s') E s) :
  wpAny M A (evalArgs f true (backTo pos (starEach es env)) (backToKw pos (keywordEach [] env))) Q E s:=by
 cases es with
 |nil=>
  refine evalArgs_kw_nil rfl ?_
  have:wpAny M A (spliced []) (λvs s'=>Q ⟨vs,[]⟩ s') E s:=hw
  exact wpAny_mono (Q:=λks s'=>ks=[]/\Q ⟨[],[]⟩ s') (by
   have h2:wpAny M A (pure ([]:List Value)) (λvs s'=>Q ⟨vs,[]⟩ s') E s:=hw
   exact λΓ p hΓ=>⟨rfl,h2 Γ p hΓ⟩) (λks s' ⟨e,hq⟩=>by subst e;exact hq) λ_ _ e=>e
 |cons e r=>
  obtain ⟨h1,h2⟩:=Jfj (env:=env) h
  rw[h1] at hw ⊢
  refine evalArgs_kw rfl ?_
  exact wpAny_mono hw (λvs s' hq=>(show wpAny M A (pure ([]:List Value)) _ E s' from λΓ p hΓ=>hq)) λ_ _ e=>e
theorem Jdj{M:Model}{h:Heap}(f:Value)(hf:∀a,f≠.ref a):Looks M h (keeperOf f) Keeper.machine:=by
 cases f<;>first | exact Looks.of_pure rfl | exact absurd rfl (hf _)
theorem Jfq{env:Env}{pos:Pos}{f:Value}{first:List Value}{es:List Expr}{rargs:Out (List D)}{δ:Type}{R:Pt->δ->Value->Prop}{k:List D->Jaa->Out δ}(hp:plain es=true)(hw:W x fs A [] (spliced (backTo pos (starEach es env))) rargs (RelVs x) p)
  (hk:∀vs ds q,rargs=.ok ds q.σ->Inv x fs q->Ext fs [] p q->RelVs x q ds vs->k ds q.σ≠.bad->(∃kk,(kk=Keeper.frame\/kk=Keeper.machine\/kk=Keeper.boundFrame)/\Looks (model x.prog x.w) q.s.heap (keeperOf f) kk)/\W x fs A [] (call f (first++vs)) (k ds q.σ) R q) :
  W x fs A [] (callWith pos f first (backTo pos (starEach es env)) (backToKw pos (keywordEach [] env))) (rargs.bind k) R p:=by
 intro hne
 have hr:rargs≠.bad:=by rintro rfl;exact hne rfl
 refine callWith_of (P:=λh=>∃kk,(kk=Keeper.frame\/kk=Keeper.machine\/kk=Keeper.boundFrame)/\Looks (model x.prog x.w) h (keeperOf f) kk) ?_ (λh hh=>hh) ?_
 ·rw[Jd2 hp];rfl
 ·refine Jcp hp (wpAny_mono (hw hr) ?_ ?_)
  ·rintro vs s' ⟨ds,q,rfl,rfl,I,X,hR⟩
   have hne':k ds q.σ≠.bad:=hne
   obtain ⟨h1,h2⟩:=hk vs ds q rfl I X hR hne'
   refine ⟨h1,wpAny_mono (h2 hne') ?_ ?_⟩
   ·rintro u s'' ⟨d',q',e,rfl,I',X',hR'⟩
    exact ⟨d',q',e,rfl,I',X.trans X',hR'⟩
   ·rintro u s'' ⟨w,n,q',e,rfl,I',X',hE⟩
    exact ⟨w,n,q',e,rfl,I',X.trans X',hE.older λa=>X.none⟩
  ·rintro e s' ⟨w,n,q,rfl,rfl,I,X,hE⟩
   exact ⟨w,n,q,rfl,rfl,I,X,hE⟩
end
end
section
structure Ctx(x:Cx)(G:Prg)(cf:Addr->List D->Jaa->Out D)(fs:List Env)(A:Around):Prop where
 H:PrgOk x G
 Hc:ClsOk x G
 hA:A.handled=none
 hfr:A.frames=some fs
 hu:A.units+8<cLine
 Cf:CfOk x cf fs A
section
variable{x:Cx}{G:Prg}{cf:Addr->List D->Jaa->Out D}{fs:List Env}{A:Around}{p:Pt}
structure Good(x:Cx)(G:Prg)(cf:Addr->List D->Jaa->Out D)(fs:List Env)(A:Around)(e:Expr):Prop where
 ev:∀{env nm vars p},Jaz x fs env nm vars p->Inv x fs p->W x fs A [] (eval e env) (evE G cf e nm vars p.σ) (Jaj x) p
 tr:∀{env nm vars p},Jaz x fs env nm vars p->Inv x fs p->W x fs A [] (isTrue e env (eval e env)) ((evE G cf e nm vars p.σ).bind λd σ=>.of (Jb7 d) σ) (λ_ b r=>r=b) p
theorem Jfh{t:Sem Value}{rest:List (Bool×Sem Value)}:spliced ((false,t)::rest)=(t >>= λv=>holding [v] (spliced rest) >>= λvs=>pure ([v]++vs)):=rfl
theorem Jol{es:List Expr}{env:Env}{nm:List (Str×NameKind)}{vars:Jac}{pos:Pos}:∀{p:Pt},(∀e∈es,Good x G cf fs A e)->plain es=true->Jaz x fs env nm vars p->Inv x fs p->W x fs A [] (spliced (backTo pos (starEach es env))) (evL G cf es nm vars p.σ) (RelVs x) p:=by
 induction es with
 |nil=>
  intro p _ _ R I
  exact W.pure I (mkN)
 |cons e r ih=>
  intro p h hp R I
  obtain ⟨h1,h2⟩:=Jfj (env:=env) hp
  rw[h1,Jei]
  show W x fs A [] (spliced ((false,eval e env)::backTo pos (starEach r env))) _ _ p
  rw[Jfh]
  exact W.bind ((h e (by simp)).ev R I) λv d q e1 I1 X1 hv=>W.bind (W.hold (ih (λe he=>h e (by simp[he])) h2 (R.ext0 X1) I1)) λvs ds q2 e2 I2 X2 hvs=>W.pure I2 (by
   exact mkC (Rel.mono X2.sub hv) hvs)
set_option backward.match.sparseCases true in
theorem evB_W{es:List Expr}{op:BoolOp}{env:Env}{nm:List (Str×NameKind)}{vars:Jac}{pos:Pos}:∀{p:Pt},(∀e∈es,Good x G cf fs A e)->Jaz x fs env nm vars p->Inv x fs p->W x fs A [] (boolOp pos op (evalEach es env)) (evB G cf op es nm vars p.σ) (Jaj x) p:=by
 induction es with
 |nil=>intro p _ R I;exact .eqr rfl .bad
 |cons e r ih=>
  intro p h R I
  cases r with
  |nil=>exact .eqr Jrw ((h e (by simp)).ev R I)
  |cons e2 r=>
   have e0:boolOp pos op (evalEach (e::e2::r) env)=(eval e env >>= λv=>standAt pos >>= λ_=>holding [v] (truthy v) >>= λt=>match op,t with
    |.And,false | .Or,true=>pure v
    |_,_=>boolOp pos op (evalEach (e2::r) env)):=rfl
   rw[e0]
   have step:∀(v:Value) (d:D) (q:Pt),Inv x fs q->Ext fs [] p q->Jaj x q d v->∀(X Y:Out D) (t1 t2:Sem Value),(W x fs A [] t1 X (Jaj x) q)->(W x fs A [] t2 Y (Jaj x) q)->∀f:Bool->Sem Value,f true=t1->f false=t2->W x fs A [] (standAt pos >>= λ_=>holding [v] (truthy v) >>= f) (brD d X Y) (Jaj x) q:=by
    intro v d q I1 X1 hv X Y t1 t2 h1 h2 f hf1 hf2
    refine W.stand ?_
    cases d with
    |bool b=>
     cases Jdg hv
     cases b with
     |true=>exact λhne=>wpAny_bind (wpAny_holding (wpAny_truthy_bool (by rw[hf1];exact h1 hne)))
     |false=>exact λhne=>wpAny_bind (wpAny_holding (wpAny_truthy_bool (by rw[hf2];exact h2 hne)))
    |_=>exact .bad
   cases op with
   |And=>
    rw[Jrx]
    exact W.bind ((h e (by simp)).ev R I) λv d q e1 I1 X1 hv=>step v d q I1 X1 hv _ _ _ _ (ih (λe he=>h e (by simp[he])) (R.ext0 X1) I1) (W.pure I1 hv) _ rfl rfl
   |Or=>
    rw[evB_Or]
    exact W.bind ((h e (by simp)).ev R I) λv d q e1 I1 X1 hv=>step v d q I1 X1 hv _ _ _ _ (W.pure I1 hv) (ih (λe he=>h e (by simp[he])) (R.ext0 X1) I1) _ rfl rfl
set_option backward.match.sparseCases true in
theorem Jsl{es:List Expr}{op:BoolOp}{env:Env}{nm:List (Str×NameKind)}{vars:Jac}:∀{p:Pt},(∀e∈es,Good x G cf fs A e)->Jaz x fs env nm vars p->Inv x fs p->
  W x fs A [] (allTrue op es env) ((evB G cf op es nm vars p.σ).bind λd σ=>.of (Jb7 d) σ) (λ_ b r=>r=b) p:=by
 induction es with
 |nil=>intro p _ R I;exact .eqr rfl .bad
 |cons e r ih=>
  intro p h R I
  have e0:allTrue op (e::r) env=(isTrue e env (eval e env) >>= λt=>match op,t with
    |.And,false=>pure false
    |.Or,true=>pure true
    |_,_=>allTrue op r env):=rfl
  rw[e0]
  cases r with
  |nil=>
   rw[Jrw]
   refine W.pass ((h e (by simp)).tr R I) λv Q E s hq=>?_
   cases op<;>cases v<;>exact wpAny_pure hq
  |cons e2 r=>
   have ihh:=λ{p} R I=>ih (p:=p) (λe he=>h e (by simp[he])) R I
   cases op with
   |And=>
    rw[Jrx,Jat]
    have:(λa σ=>(brD a (evB G cf .And (e2::r) nm vars σ) (.ok a σ)).bind λd σ=>Out.of (Jb7 d) σ)=λa σ=>brD a ((evB G cf .And (e2::r) nm vars σ).bind λd σ=>Out.of (Jb7 d) σ) (.ok false σ):=by
     funext a σ
     cases a with
     |bool b=>cases b<;>rfl
     |_=>rfl
    rw[this,<-Jow]
    refine W.bind ((h e (by simp)).tr R I) λv b q e1 I1 X1 hv=>?_
    subst hv
    cases v with
    |true=>exact ihh (R.ext0 X1) I1
    |false=>exact W.pure I1 rfl
   |Or=>
    rw[evB_Or,Jat]
    have:(λa σ=>(brD a (.ok a σ) (evB G cf .Or (e2::r) nm vars σ)).bind λd σ=>Out.of (Jb7 d) σ)=λa σ=>brD a (.ok true σ) ((evB G cf .Or (e2::r) nm vars σ).bind λd σ=>Out.of (Jb7 d) σ):=by
     funext a σ
     cases a with
     |bool b=>cases b<;>rfl
     |_=>rfl
    rw[this,<-Jow]
    refine W.bind ((h e (by simp)).tr R I) λv b q e1 I1 X1 hv=>?_
    subst hv
    cases v with
    |true=>exact W.pure I1 rfl
    |false=>exact ihh (R.ext0 X1) I1
theorem Jmj{op:CmpOp}{e:Expr}{env:Env}{nm:List (Str×NameKind)}{vars:Jac}{p:Pt}(h:Good x G cf fs A e)(R:Jaz x fs env nm vars p)(I:Inv x fs p):W x fs A [] (markedBehindIn op e (eval e env)) (evE G cf e nm vars p.σ) (Jaj x) p:=by
 cases hb:behindInMarks op e with
 |false=>rw[markedBehindIn_of_false hb];exact h.ev R I
 |true=>
  cases e<;>first | cases hb | exact .eqr rfl .bad
theorem evC_W(C:Ctx x G cf fs A){rs:List Expr}{env:Env}{nm:List (Str×NameKind)}{vars:Jac}{pos:Pos}:∀{ops:List CmpOp} {a:D} {va:Value} {p:Pt},(∀e∈rs,Good x G cf fs A e)->Jaz x fs env nm vars p->Inv x fs p->Jaj x p a va->
  W x fs A [] (compareChain pos va ops (markedEach ops rs (evalEach rs env))) (evC G cf a ops rs nm vars p.σ) (Jaj x) p ∧
  W x fs A [] (testChain pos va ops (markedEach ops rs (evalEach rs env))) ((evC G cf a ops rs nm vars p.σ).bind λd σ=>.of (Jb7 d) σ) (λ_ b r=>r=b) p:=by
 induction rs with
 |nil=>
  intro ops a va p _ R I ha
  have:evC G cf a ops [] nm vars p.σ=.bad:=by cases ops with
   |nil=>rfl
   |cons o ops=>cases ops<;>rfl
  rw[this]
  exact ⟨.bad,.bad⟩
 |cons e r ih=>
  intro ops a va p h R I ha
  cases ops with
  |nil=>
   have:evC G cf a [] (e::r) nm vars p.σ=.bad:=rfl
   rw[this]
   exact ⟨.bad,.bad⟩
  |cons op ops=>
   by_cases hs:ops=[]/\r=[]
   ·obtain ⟨rfl,rfl⟩:=hs
    have e1:compareChain pos va [op] (markedEach [op] [e] (evalEach [e] env))=(holding [va] (markedBehindIn op e (eval e env)) >>= λrv=>standAt pos >>= λ_=>operate [va,rv] (compareOp op va rv)):=rfl
    have e2:testChain pos va [op] (markedEach [op] [e] (evalEach [e] env))=(holding [va] (markedBehindIn op e (eval e env)) >>= λrv=>standAt pos >>= λ_=>operate [va,rv] (compareOp op va rv) >>= λc=>holding [c] (truthy c)):=rfl
    rw[e1,e2,evC_one]
    refine ⟨W.bind (W.hold (Jmj (h e (by simp)) R I)) λv b q _ I1 X1 hv=>W.stand (W.oper (Ji2 C.hu I1 (Rel.mono X1.sub ha) hv)),?_⟩
    rw[Jat]
    exact W.bind (W.hold (Jmj (h e (by simp)) R I)) λv b q _ I1 X1 hv=>W.stand (W.bind (W.oper (Ji2 C.hu I1 (Rel.mono X1.sub ha) hv)) λc d q2 _ I2 X2 hc=>W.hold (Jl4 I2 hc))
   ·have e0:evC G cf a (op::ops) (e::r) nm vars p.σ=(evE G cf e nm vars p.σ).bind λb σ=>(Jag op a b σ).bind λc σ=>brD c (evC G cf b ops r nm vars σ) (.ok c σ):=by
     cases ops with
     |nil=>cases r with
      |nil=>exact absurd ⟨rfl,rfl⟩ hs
      |cons _ _=>rfl
     |cons _ _=>rfl
    have em:markedEach (op::ops) (e::r) (evalEach (e::r) env)=eval e env::markedEach ops r (evalEach r env):=by
     cases ops with
     |nil=>cases r with
      |nil=>exact absurd ⟨rfl,rfl⟩ hs
      |cons _ _=>rfl
     |cons _ _=>rfl
    have ne:markedEach ops r (evalEach r env)=[]->ops≠[]:=λh0 h1=>by
     subst h1
     cases r with
     |nil=>exact hs ⟨rfl,rfl⟩
     |cons e2 r=>cases r<;>cases h0
    have e1:compareChain pos va (op::ops) (markedEach (op::ops) (e::r) (evalEach (e::r) env))=(holding [va] (eval e env) >>= λrv=>standAt pos >>= λ_=>holding [va,rv] (compareOp op va rv) >>= λc=>release [va,rv] [c] >>= λ_=>
      holding [c,rv] (truthy c) >>= λt=>if t=true then compareChain pos rv ops (markedEach ops r (evalEach r env)) else pure c):=by
     rw[em]
     cases ops with
     |nil=>cases hm:markedEach [] r (evalEach r env) with
      |nil=>exact absurd rfl (ne hm)
      |cons _ _=>rfl
     |cons _ _=>rfl
    have e2:testChain pos va (op::ops) (markedEach (op::ops) (e::r) (evalEach (e::r) env))=(holding [va] (eval e env) >>= λrv=>standAt pos >>= λ_=>holding [va,rv] (compareOp op va rv) >>= λc=>release [va,rv] [c] >>= λ_=>
      holding [c,rv] (truthy c) >>= λt=>if t=true then testChain pos rv ops (markedEach ops r (evalEach r env)) else pure false):=by
     rw[em]
     cases ops with
     |nil=>cases hm:markedEach [] r (evalEach r env) with
      |nil=>exact absurd rfl (ne hm)
      |cons _ _=>rfl
     |cons _ _=>rfl
    rw[e0,e1,e2]
    constructor
    ·refine W.bind (W.hold ((h e (by simp)).ev R I)) λv b q _ I1 X1 hv=>W.stand (W.bind (W.hold (Ji2 C.hu I1 (Rel.mono X1.sub ha) hv)) λc d q2 _ I2 X2 hc=>W.rele ?_)
     have ihh:=(ih (ops:=ops) (λe he=>h e (by simp[he])) ((R.ext0 X1).ext0 X2) I2 (Rel.mono X2.sub hv)).1
     cases d with
     |bool t=>
      cases Jdg hc
      cases t with
      |true=>exact λhne=>wpAny_bind (wpAny_holding (wpAny_truthy_bool (ihh hne)))
      |false=>exact λhne=>wpAny_bind (wpAny_holding (wpAny_truthy_bool (W.pure (A:=A) (Pv:=[]) I2 (show Jaj x q2 (.bool false) (.bool false) from rfl) hne)))
     |_=>exact .bad
    ·rw[Jat]
     refine W.bind (W.hold ((h e (by simp)).ev R I)) λv b q _ I1 X1 hv=>W.stand ?_
     rw[Jat]
     refine W.bind (W.hold (Ji2 C.hu I1 (Rel.mono X1.sub ha) hv)) λc d q2 _ I2 X2 hc=>W.rele ?_
     have ihh:=(ih (ops:=ops) (λe he=>h e (by simp[he])) ((R.ext0 X1).ext0 X2) I2 (Rel.mono X2.sub hv)).2
     cases d with
     |bool t=>
      cases Jdg hc
      cases t with
      |true=>exact λhne=>wpAny_bind (wpAny_holding (wpAny_truthy_bool (ihh hne)))
      |false=>exact λhne=>wpAny_bind (wpAny_holding (wpAny_truthy_bool (W.pure (A:=A) (Pv:=[]) (R:=λ_ b r=>r=b) I2 (rfl:false=false) hne)))
     |_=>exact .bad
end
end
section
section
variable{x:Cx}{G:Prg}{cf:Addr->List D->Jaa->Out D}{fs:List Env}{A:Around}{p:Pt}
theorem Joz(o:Expr){α:Type}(f:Str->Pos->Pos->α)(g:Expr->α)(h:baseOk o=true):attributeBase.match_7 (motive:=λ_=>α) o f g=g o:=by
 cases o with
 |Call c as ks pos=>
  cases c with
  |Name _ _=>cases as<;>cases ks<;>first | rfl | exact ff h
  |_=>rfl
 |_=>rfl
theorem Jgy{o:Expr}{name:Str}{env:Env}(h:baseOk o=true):attributeBase o name env (eval o env)=eval o env:=Joz o _ (λ_=>eval o env) h
theorem W.quietP{α β γ:Type}{Pv:List Addr}{t:Sem γ}{f:γ->Sem α}{r:Out β}{R:Pt->β->α->Prop}{P:γ->Prop}(h:∀Q E,(∀v tk,P v->Q v { p.s with toks:=tk })->wpAny (model x.prog x.w) A t Q E p.s)
  (hk:∀v tk,P v->W x fs A Pv (f v) r R (p.tick tk)):W x fs A Pv (t >>= f) r R p:=by
 intro hne
 refine wpAny_bind (h _ _ λv tk hv=>?_)
 refine wpAny_mono (hk v tk hv hne) ?_ ?_
 ·rintro u s'' ⟨d',q',e,rfl,I',X',hR'⟩
  exact ⟨d',q',e,rfl,I',(Ext.tick fs Pv p tk).trans X',hR'⟩
 ·rintro u s'' ⟨w,n,q',e,rfl,I',X',hE⟩
  exact ⟨w,n,q',e,rfl,I',(Ext.tick fs Pv p tk).trans X',hE⟩
theorem evT_W{ifs:List Expr}{env:Env}{nm:List (Str×NameKind)}{vars:Jac}{p:Pt}(h:∀e∈ifs,Good x G cf fs A e)(R:Jaz x fs env nm vars p)(I:Inv x fs p) :
  W x fs A [] (forIn ifs true λc r=>if r=true then do let ok <-isTrue c env (eval c env);pure (ForInStep.yield ok) else pure (ForInStep.yield r)) (evT G cf ifs nm vars p.σ) (λ_ b r=>r=b) p:=by
 cases ifs with
 |nil=>exact .eqr rfl (W.pure I rfl)
 |cons e r=>
  cases r with
  |nil=>
   refine .eqr (show evT G cf [e] nm vars p.σ=(evE G cf e nm vars p.σ).bind λd σ=>.of (Jb7 d) σ from rfl) ?_
   rw[List.forIn_cons]
   have t:=(h e (by simp)).tr R I
   intro hne
   rw[if_pos rfl]
   exact wpAny_bind (wpAny_bind (wpAny_mono (t hne) (λv s' hv=>wpAny_pure (wpAny_pure hv)) λ_ _ e=>e))
  |cons _ _=>exact .eqr rfl .bad
theorem Jgq{k:Option Expr}{ks:List (Option Expr)}{ns:List Str}(h:keysOf (k::ks)=some ns):∃s ns' kk pos,k=some (.Constant (.str s) kk pos)/\ns=s::ns'/\keysOf ks=some ns':=by
 obtain ⟨s,h1,h0⟩:=Jaf h
 obtain ⟨ns',h2,rfl⟩:=Ja3 h0
 obtain ⟨e,rfl,h5⟩:=Jaf h1
 obtain ⟨c,h3,h4⟩:=Jaf h5
 obtain ⟨kk,pos,rfl⟩:=Jr6 h3
 cases strC?_of h4
 exact ⟨_,_,_,_,rfl,rfl,h2⟩
theorem Jhp:∀{ks:List (Option Expr)} {ns:List Str},keysOf ks=some ns->ks.length=ns.length/\ks.all (·.isSome)=true
 |[],_,h=>by cases h;exact ⟨rfl,rfl⟩
 |k::ks,_,h=>by
  obtain ⟨s,ns',_,_,rfl,rfl,h1⟩:=Jgq h
  obtain ⟨h2,h3⟩:=Jhp h1
  exact ⟨congrArg Nat.succ h2,h3⟩
theorem Jqc{env:Env}{nm:List (Str×NameKind)}{vars:Jac}{pos:Pos}:∀{ks:List (Option Expr)} {vs:List Expr} {ns:List Str} {p:Pt},(∀e∈vs,Good x G cf fs A e)->keysOf ks=some ns->ns.length=vs.length->Jaz x fs env nm vars p->Inv x fs p->
  W x fs A [] (evalPairs (pairTrees ks vs env pos)) (evL G cf vs nm vars p.σ) (λq ds l=>∃kvs:List (Str×Value),Carries (strKind x.prog x.w) l kvs/\kvs.map (·.1)=ns/\RelVs x q ds (kvs.map (·.2))) p
 |[],vs,ns,p,h,hk,hl,R,I=>by
  cases hk
  obtain rfl:vs=[]:=List.eq_nil_of_length_eq_zero hl.symm
  refine .eqr evL_nil ?_
  exact W.pure I ⟨[],trivial,rfl,rfl⟩
 |k::ks,vs,ns,p,h,hk,hl,R,I=>by
  obtain ⟨s,ns',kk,kpos,rfl,rfl,h1⟩:=Jgq hk
  cases vs with
  |nil=>exact nomatch hl
  |cons v vs=>
   have hl:=Nat.succ.inj hl
   clear hk
   refine .eqr Jei ?_
   have e0:evalPairs (pairTrees (some (.Constant (.str s) kk kpos)::ks) (v::vs) env pos)=(eval (.Constant (.str s) kk kpos) env >>= λkv=>holding [kv] (eval v env >>= λx=>standAt pos >>= λ_=>pure x) >>= λvv=>holding [kv,vv] (evalPairs (pairTrees ks vs env pos)) >>= λr=>pure ((kv,vv)::r)):=rfl
   rw[e0]
   clear e0
   refine W.quietP (P:=λv=>∃t,v=.str s t) (λQ E hQ=>Calls.Constant_str (hQ _ _ ⟨_,rfl⟩)) λkv tk ⟨t,ht⟩=>?_
   subst ht
   refine W.bind (W.hold (W.pass ((h v (List.mem_cons_self ..)).ev (R.ext0 (Ext.tick fs [] p tk)) (I.tick tk)) λv Q E s hq=>wpAny_bind (wpAny_standAt (wpAny_pure hq)))) λu d q _ I1 X1 hu=>?_
   refine W.bind (W.hold (Jqc (λe he=>h e (List.mem_cons_of_mem _ he)) h1 hl ((R.ext0 (Ext.tick fs [] p tk)).ext0 X1) I1)) λl ds q2 _ I2 X2 hl2=>?_
   obtain ⟨kvs,g1,g2,g3⟩:=hl2
   exact W.pure I2 ⟨(s,u)::kvs,⟨strKind_is ..,rfl,g1⟩,congrArg (s::·) g2,u,_,rfl,Rel.mono X2.sub hu,g3⟩
theorem dict_W{env:Env}{nm:List (Str×NameKind)}{vars:Jac}{pos:Pos}{ks:List (Option Expr)}{vs:List Expr}(h:∀e∈vs,Good x G cf fs A e)(R:Jaz x fs env nm vars p)(I:Inv x fs p) :
  W x fs A [] (eval (.Dict ks vs pos) env) (evE G cf (.Dict ks vs pos) nm vars p.σ) (Jaj x) p:=by
 refine .eqr (show evE G cf (.Dict ks vs pos) nm vars p.σ=(keysOf ks).elim .bad λns=>if ns.Nodup/\ns.length<=10/\ns.length=vs.length/\0<ns.length then (evL G cf vs nm vars p.σ).bind λds σ=>.ok (.loc σ.length) (σ++[.dict ns ds]) else .bad from rfl) ?_
 cases hk:keysOf ks with
 |none=>exact .bad
 |some ns=>
  show W _ _ _ _ _ (if _ then _ else _) _ _
  split
  ·rename_i hc
   obtain ⟨hn,h10,hl,h0⟩:=hc
   obtain ⟨k1,k2⟩:=Jhp hk
   intro hne
   have hr:evL G cf vs nm vars p.σ≠.bad:=λe=>hne (by rw[e];rfl)
   have old:∀b o,p.s.heap.get? b=some o->(p.s.heap.push { cls:=.type "dict",data:=.dict #[] }).get? b=some o:=λb o e=>Heap.get?_push_of_some _ e
   let p1:Pt:=p.grow (p.s.heap.push { cls:=.type "dict",data:=.dict #[] }) p.s.toks
   have I1:Inv x fs p1:=I.grow old _
   have X1:Ext fs [] p p1:=Ext.grow old _ _
   have dn:p.s.heap.get? p.s.heap.objs.size=none:=Jbe _
   have dget:p1.s.heap.get? p.s.heap.objs.size=some { cls:=.type "dict",data:=.dict #[] }:=Heap.get?_push_size _ rfl
   have dB1:p1.B p.s.heap.objs.size=none:=by
    cases e:p.B p.s.heap.objs.size with
    |none=>exact e
    |some ob=>rw[I.froz _ _ e] at dn;cases dn
   have dρ1:p.s.heap.objs.size∉p1.ρ:=λhm=>by
    obtain ⟨ob,ho⟩:=I.ρlt hm
    rw[dn] at ho;cases ho
   refine wpAny_Dict_walk (knd:=strKind x.prog x.w) k2 (by exact ar173 hl k1) (by rintro rfl;cases hk;exact absurd h0 (Nat.lt_irrefl _)) (by exact ar146 h10 k1) ?_
   refine wpAny_mono (Jqc (p:=p1) (A:=A) (pos:=pos) h hk hl (R.ext0 X1) I1 hr) ?_ ?_
   ·rintro l s' ⟨ds,q,e1,rfl,I2,X2,kvs,g1,g2,g3⟩
    have dq:q.s.heap.get? p.s.heap.objs.size=some { cls:=.type "dict",data:=.dict #[] }:=(X2.keep _ _ dget dρ1 (by simp)).2 (Ja8 I dn)
    have dB:q.B p.s.heap.objs.size=none:=by
     cases e:q.B p.s.heap.objs.size with
     |none=>rfl
     |some ob=>
      rcases X2.bnew _ _ e with g | g
      ·rw[dB1] at g;cases g
      ·rw[dget] at g;cases g
    have dρ:p.s.heap.objs.size∉q.ρ:=λhm=>by
     rcases X2.rnew _ hm with g | g
     ·exact dρ1 g
     ·rw[dget] at g;cases g
    refine ⟨kvs,g1,⟨_,#[],0,dq,⟨rfl,rfl,rfl⟩,rfl,λ_ he=>by simp at he,Pairs.nil,by simp⟩,λh' k3 k4=>?_⟩
    rw[merged_nil_of_nodup kvs (by rw[g2];exact hn)] at k3
    obtain ⟨o,k5,k6⟩:=Jj8 k3 g3
    obtain ⟨q',j1,j2,j3,j4,j5,_⟩:=Jq7 (q:=q.own h' (q.s.toks+l.length)) I (I2.chgF _ dB dρ (Ja8 I dn) k4.extBut) ((X1.trans X2).chg _ k4.extBut dn) dn dB dρ k5 k6
    refine ⟨.loc q.σ.length,q',?_,j2,j3,j4,j5⟩
    rw[show evL G cf vs nm vars p.σ=.ok ds q.σ from e1,j1,g2];rfl
   ·rintro e s' ⟨w,k,q,e1,rfl,I2,X2,hE⟩
    exact ⟨w,k,q,by rw[show evL G cf vs nm vars p.σ=.exc w k q.σ from e1];rfl,rfl,I2,X1.trans X2,hE.older λa=>X1.none⟩
  ·exact .bad
theorem Jqb{env:Env}{nm:List (Str×NameKind)}{vars:Jac}{o:Option Expr}(h:∀e,o=some e->Good x G cf fs A e)(R:Jaz x fs env nm vars p)(I:Inv x fs p) :
  W x fs A [] (valueOrNone (evalOpt o env)) (evO G cf o nm vars p.σ) (Jaj x) p:=by
 cases o with
 |none=>exact .eqr rfl (W.pure I rfl)
 |some e=>exact .eqr rfl ((h e rfl).ev R I)
theorem Jkp{env:Env}{nm:List (Str×NameKind)}{vars:Jac}{o:Expr}{l u st:Option Expr}{pos' pos:Pos}(ho:Good x G cf fs A o)(hl:∀e,l=some e->Good x G cf fs A e)(hu:∀e,u=some e->Good x G cf fs A e)(hs:∀e,st=some e->Good x G cf fs A e)
  (R:Jaz x fs env nm vars p) (I:Inv x fs p):W x fs A [] (eval (.Subscript o (.Slice l u st pos') pos) env) (evE G cf (.Subscript o (.Slice l u st pos') pos) nm vars p.σ) (Jaj x) p:=by
 have e0:eval (.Subscript o (.Slice l u st pos') pos) env=(eval o env >>= λov=>holding [ov] (valueOrNone (evalOpt l env) >>= λvl=>holding [vl] (valueOrNone (evalOpt u env)) >>= λvu=>holding [vl,vu] (valueOrNone (evalOpt st env)) >>= λvs=>newFields "slice" [vl,vu,vs]) >>= λi=>
   standAt pos >>= λ_=>subscriptTail o (.Slice l u st pos') ov i):=rfl
 rw[e0,Jru]
 refine W.bind (ho.ev R I) λva a q _ I1 X1 ha=>?_
 have R1:=R.ext0 X1
 have e1:((evO G cf l nm vars q.σ).bind λl σ=>(evO G cf u nm vars σ).bind λu σ=>(evO G cf st nm vars σ).bind λs σ=>slice a l u s σ) =
   (((evO G cf l nm vars q.σ).bind λl σ=>(evO G cf u nm vars σ).bind λu σ=>(evO G cf st nm vars σ).bind λs σ=>(.ok (l,u,s) σ:Out (D×D×D)))).bind λt σ=>slice a t.1 t.2.1 t.2.2 σ:=by
  rw[Jat];congr 1;funext l σ;rw[Jat];congr 1;funext u σ;rw[Jat];rfl
 rw[e1]
 refine W.bind (R:=λq t i=>∃b vl vu vs,i=.ref b/\q.s.heap.IsSliceOf b vl vu vs/\Jaj x q t.1 vl/\Jaj x q t.2.1 vu/\Jaj x q t.2.2 vs) (W.hold ?_) ?_
 ·refine W.bind (Jqb hl R1 I1) λvl dl q2 _ I2 X2 h2=>W.bind (W.hold (Jqb hu (R1.ext0 X2) I2)) λvu du q3 _ I3 X3 h3=>W.bind (W.hold (Jqb hs ((R1.ext0 X2).ext0 X3) I3)) λvs ds q4 _ I4 X4 h4=>?_
  intro _
  have old:∀b o,q4.s.heap.get? b=some o->(q4.s.heap.push { cls:=.type "slice",data:=.fields #[vl,vu,vs] }).get? b=some o:=λb o e=>Heap.get?_push_of_some _ e
  exact wpAny_newObj_type ⟨_,q4.grow (q4.s.heap.push { cls:=.type "slice",data:=.fields #[vl,vu,vs] }) q4.s.toks,rfl,rfl,I4.grow old _,Ext.grow old _ _,_,vl,vu,vs,rfl,⟨_,Heap.get?_push_size _ rfl,rfl,rfl⟩,Rel.mono (X3.trans X4).sub h2,Rel.mono X4.sub h3,h4⟩
 ·rintro i t q2 _ I2 X2 ⟨b,vl,vu,vs,rfl,hsl,h2,h3,h4⟩
  exact W.stand (slice_W I2 (Rel.mono X2.sub ha) h2 h3 h4 hsl)
theorem sub_W{env:Env}{nm:List (Str×NameKind)}{vars:Jac}{o i:Expr}{pos:Pos}(ho:Good x G cf fs A o)(hi:Good x G cf fs A i)(R:Jaz x fs env nm vars p)(I:Inv x fs p) :
  W x fs A [] (eval (.Subscript o i pos) env) ((evE G cf o nm vars p.σ).bind λa σ=>(evE G cf i nm vars σ).bind λi σ=>item a i σ) (Jaj x) p:=by
 have e0:eval (.Subscript o i pos) env=(eval o env >>= λov=>holding [ov] (eval i env) >>= λiv=>standAt pos >>= λ_=>subscriptTail o i ov iv):=rfl
 rw[e0]
 exact W.bind (ho.ev R I) λva a q _ I1 X1 ha=>W.bind (W.hold (hi.ev (R.ext0 X1) I1)) λvi d q2 _ I2 X2 hi=>W.stand (item_W I2 (Rel.mono X2.sub ha) hi)
theorem Jlw(C:Ctx x G cf fs A){env:Env}{nm:List (Str×NameKind)}{vars:Jac}{o:Expr}{name:Str}{pos:Pos}(ho:Good x G cf fs A o)(R:Jaz x fs env nm vars p)(I:Inv x fs p) :
  W x fs A [] (eval (.Attribute o name pos) env) (evE G cf (.Attribute o name pos) nm vars p.σ) (Jaj x) p:=by
 rw[Jiz]
 split
 ·rename_i hb
  rw[arm_eval_Attribute,Jgy hb]
  exact W.bind (ho.ev R I) λva a q _ I1 X1 ha=>W.stand (W.pass (W.hold (attr_W C.H C.Hc I1 ha)) λv Q E s hq=>wpAny_bind (wpAny_letTemporaryGo (wpAny_pure hq)))
 ·exact .bad
theorem Jk7(C:Ctx x G cf fs A){env:Env}{nm:List (Str×NameKind)}{vars:Jac}{o:Expr}{name:Str}{as:List Expr}{ks:List Keyword}{apos pos:Pos}(ho:Good x G cf fs A o)(has:∀e∈as,Good x G cf fs A e)(R:Jaz x fs env nm vars p)(I:Inv x fs p) :
  W x fs A [] (eval (.Call (.Attribute o name apos) as ks pos) env) (evE G cf (.Call (.Attribute o name apos) as ks pos) nm vars p.σ) (Jaj x) p:=by
 rw[evE_meth]
 split
 ·rename_i hc
  obtain ⟨hk,hp,hl,hline,hb⟩:=hc
  obtain rfl:ks=[]:=by simpa using hk
  rw[arm_eval_Call,Jgy hb]
  refine W.bind (ho.ev R I) λva a q _ I1 X1 ha=>W.stand ?_
  split
  ·rename_i hok
   have R1:=R.ext0 X1
   intro hne
   unfold methodCall
   rw[Jfi hp (by simp;exact ar50 hl)]
   refine wpAny_bind (wpAny_holding (Jli C.H C.Hc I1 ha hok λf hf=>?_))
   have hpos:methodCallPos true o env apos pos=pure pos:=by unfold methodCallPos;simp[hline]
   refine wpAny_bind (wpAny_of_eq hpos ?_)
   refine Jfq (A:=A) (f:=f) (first:=[va]) hp (Jol has hp R1 I1) (k:=λds σ=>Jak G cf pos a name ds σ) (λvs ds q2 _ I2 X2 hvs hbad=>?_) hne
   have ha2:Jaj x q2 a va:=Rel.mono X2.sub ha
   have own:∀m,f=.ref m->Jak G cf pos a name ds q2.σ=cf m (a::ds) q2.σ->(∃kk,(kk=Keeper.frame\/kk=Keeper.machine\/kk=Keeper.boundFrame)/\Looks (model x.prog x.w) q2.s.heap (keeperOf f) kk)/\W x fs A [] (call f ([va]++vs)) (Jak G cf pos a name ds q2.σ) (Jaj x) q2:=by
    rintro m rfl e
    rw[e] at hbad ⊢
    refine ⟨keeps_K (C.Cf.keep _ _ _ hbad) _ (C.H.K.keeps I2.keepsBase),C.Cf.call q2 m (a::ds) (va::vs) I2 ?_⟩
    exact ⟨va,vs,rfl,ha2,hvs⟩
   have blt:∀id,f=.builtin id->(∀C ns ds,a≠.inst C ns ds)->(∀C j,a≠.obj C j)->Jak G cf pos a name ds q2.σ=Jbu (G.lasts pos) a name ds q2.σ->(∃kk,(kk=Keeper.frame\/kk=Keeper.machine\/kk=Keeper.boundFrame)/\Looks (model x.prog x.w) q2.s.heap (keeperOf f) kk)/\W x fs A [] (call f ([va]++vs)) (Jak G cf pos a name ds q2.σ) (Jaj x) q2:=by
    rintro id rfl h1 h2 e
    rw[e]
    exact ⟨⟨_,.inr (.inl rfl),Jdj _ λa e=>nomatch e⟩,meths_W (G:=G) I2 hf h1 h2 ha2 hvs⟩
   cases a with
   |inst C ns fds=>obtain ⟨m,h1,h2⟩:=hf;exact own m h2 (by show Option.elim (G.meth _ name) Out.bad _=_;rw[h1];rfl)
   |obj C j=>obtain ⟨m,h1,h2⟩:=hf;exact own m h2 (by show Option.elim (G.meth _ name) Out.bad _=_;rw[h1];rfl)
   |str s=>rcases hf with ⟨_,h⟩ | ⟨_,h⟩ | ⟨_,h⟩<;>exact blt _ h (λ_ _ _ e=>nomatch e) (λ_ _ e=>nomatch e) rfl
   |loc s=>rcases hf with ⟨_,h⟩ | ⟨_,h⟩ | ⟨_,h⟩<;>exact blt _ h (λ_ _ _ e=>nomatch e) (λ_ _ e=>nomatch e) rfl
   |_=>exact hf.elim
  ·exact .bad
 ·exact .bad
theorem Jh2{env:Env}{nm:List (Str×NameKind)}{vars:Jac}{σ:Jaa}{f:Expr}{as:List Expr}{ks:List Keyword}{pos:Pos}(hn:∀o n p,f≠.Attribute o n p):eval (.Call f as ks pos) env=(eval f env >>= λv=>callWith pos v [] (backTo pos (starEach as env)) (backToKw pos (keywordEach ks env))) ∧
  evE G cf (.Call f as ks pos) nm vars σ=if ks.isEmpty=true/\plain as=true/\as.length<28 then (evE G cf f nm vars σ).bind λa σ=>(evL G cf as nm vars σ).bind λds σ=>Jlu cf a ds σ else .bad:=by
 cases f with
 |Attribute _ _ _=>exact absurd rfl (hn _ _ _)
 |_=>exact ⟨rfl,rfl⟩
theorem Jlt(C:Ctx x G cf fs A){env:Env}{nm:List (Str×NameKind)}{vars:Jac}{f:Expr}{as:List Expr}{ks:List Keyword}{pos:Pos}(hn:∀o n p,f≠.Attribute o n p)(hf:Good x G cf fs A f)(has:∀e∈as,Good x G cf fs A e)(R:Jaz x fs env nm vars p)(I:Inv x fs p) :
  W x fs A [] (eval (.Call f as ks pos) env) (evE G cf (.Call f as ks pos) nm vars p.σ) (Jaj x) p:=by
 obtain ⟨e0,e1⟩:=Jh2 (G:=G) (cf:=cf) (env:=env) (nm:=nm) (vars:=vars) (σ:=p.σ) (as:=as) (ks:=ks) (pos:=pos) hn
 rw[e0,e1]
 split
 ·rename_i hc
  obtain ⟨hk,hp,hl⟩:=hc
  obtain rfl:ks=[]:=by simpa using hk
  refine W.bind (hf.ev R I) λva a q _ I1 X1 ha=>?_
  refine Jfq hp (Jol has hp (R.ext0 X1) I1) λvs ds q2 _ I2 X2 hvs hbad=>?_
  cases a with
  |val w=>
   have ha:va=w:=ha
   subst ha
   by_cases hw:∃b,va=.ref b
   ·obtain ⟨b,rfl⟩:=hw
    exact ⟨keeps_K (C.Cf.keep _ _ _ hbad) _ (C.H.K.keeps I2.keepsBase),C.Cf.call q2 b ds vs I2 hvs⟩
   ·have e2:Jlu cf (.val va) ds q2.σ=Jai va ds q2.σ:=by cases va<;>first | rfl | exact absurd ⟨_,rfl⟩ hw
    rw[e2]
    exact ⟨⟨_,.inr (.inl rfl),Jdj _ λa e=>hw ⟨a,e⟩⟩,calls_W C.hA I2 hvs⟩
  |_=>exact absurd rfl hbad
 ·exact .bad
end
end
section
section
variable{x:Cx}{G:Prg}{cf:Addr->List D->Jaa->Out D}{fs:List Env}{A:Around}{p:Pt}
theorem Jkd(rit:Out D)(f:D->Jaa->Out (List D)):(rit.bind λd σ=>(f d σ).bind λes σ=>(.ok (.lst es) σ:Out D))=(rit.bind f).bind λes σ=>.ok (.lst es) σ:=by rw[Jat]
theorem Jlp(C:Ctx x G cf fs A){env:Env}{nm:List (Str×NameKind)}{vars:Jac}{elt t it:Expr}{ifs:List Expr}{sc:Scope}{pos:Pos}(he:Good x G cf fs A elt)(hit:Good x G cf fs A it)(hifs:∀e∈ifs,Good x G cf fs A e)
  (R:Jaz x fs env nm vars p) (I:Inv x fs p):W x fs A [] (eval (.ListComp elt [⟨t,it,ifs,0⟩] sc pos) env) (evE G cf (.ListComp elt [⟨t,it,ifs,0⟩] sc pos) nm vars p.σ) (Jaj x) p:=by
 have e0:eval (.ListComp elt [⟨t,it,ifs,0⟩] sc pos) env=comprehension (.ListComp elt [⟨t,it,ifs,0⟩] sc pos) sc env it.pos (newList []) false (eval it env) none:=rfl
 rw[e0]
 by_cases hc:compOk nm sc t it=true
 ·intro hne
  have e1:evE G cf (.ListComp elt [⟨t,it,ifs,0⟩] sc pos) nm vars p.σ=((evE G cf it nm vars p.σ).bind λd σ=>compL d (λe=>Jcd t e (seen sc vars)) (λvars σ=>evT G cf ifs sc.names vars σ) (λvars σ=>evE G cf elt sc.names vars σ) σ).bind λes σ=>(.ok (.lst es) σ:Out D):=by
   rw[Jiy,if_pos hc,Jat]
  rw[e1] at hne ⊢
  refine Jkc C.hA C.hfr R hc (hit.ev R I) (λcenv hcenv=>⟨λp vars R I=>evT_W hifs R I,λp vars R I=>he.ev R I⟩) (λe=>hne (by rw[e];rfl)) rfl ?_ ?_
  ·intro q1 q Ca La es f' I1 X1 R1 h1 hd
   obtain ⟨m,hm⟩:=hd.ns
   refine ⟨m,hm,λh' hs=>?_⟩
   obtain ⟨q',g1,g2,g3,g4,g5⟩:=hd.last I1 hs
   exact ⟨.lst es,q',by rw[h1,g1];rfl,g2,g3,X1.trans g4,g5⟩
  ·rintro w k σ e s' h1 ⟨q,rfl,rfl,I2,X2,hE⟩
   exact ⟨w,k,q,by rw[h1];rfl,rfl,I2,X2,hE⟩
 ·rw[Jiy,if_neg hc];exact .bad
theorem Jbl{e:Expr}(h:∀nm vars σ,evE G cf e nm vars σ=.bad):Good x G cf fs A e where
 ev:=λR I=>by rw[h];exact .bad
 tr:=λR I=>by rw[h];exact .bad
theorem Jcb{e:Expr}(hev:∀{env nm vars p},Jaz x fs env nm vars p->Inv x fs p->W x fs A [] (eval e env) (evE G cf e nm vars p.σ) (Jaj x) p)
  (ht:∀env,isTrue e env (eval e env)=(eval e env >>= λv=>standAt e.pos >>= λ_=>holding [v] (truthy v))):Good x G cf fs A e where
 ev:=hev
 tr:=λR I=>by
  rw[ht]
  exact W.bind (hev R I) λv d q _ I1 X1 hv=>W.stand (W.hold (Jl4 I1 hv))
theorem unop_eq(r:Out D):(r.bind λa σ=>unop .Not a σ).bind (λd σ=>Out.of (Jb7 d) σ)=(r.bind λd σ=>Out.of (Jb7 d) σ).bind λb σ=>.ok (!b) σ:=by
 cases r with
 |ok d σ=>cases d<;>rfl
 |_=>rfl
theorem Jqg{α β:Type}{x:Out α}{f:α->Jaa->Out β}{b:β}{σ':Jaa}(h:x.bind f=.ok b σ'):∃a σ,x=.ok a σ/\f a σ=.ok b σ':=by
 cases x with
 |ok a σ=>exact ⟨a,σ,rfl,h⟩
 |exc _ _ _=>exact nomatch h
 |bad=>exact nomatch h
theorem Jll{nm:List (Str×NameKind)}{vars:Jac}:∀{es:List Expr} {σ:Jaa} {ds:List D} {σ':Jaa},evL G cf es nm vars σ=.ok ds σ'->ds.length=es.length
 |[],σ,ds,σ',h=>by cases h;rfl
 |e::r,σ,ds,σ',h=>by
  obtain ⟨d,σ1,h1,h2⟩:=Jqg h
  obtain ⟨es,σ2,h3,h4⟩:=Jqg h2
  cases h4
  exact congrArg Nat.succ (Jll h3)
theorem Jcx{a b n:Nat}(h:b<n+1)(hab:a<b):a<n:=Nat.lt_of_lt_of_le hab (Nat.le_of_lt_succ h)
theorem sz2(a b:Nat):a<1+a+b/\b<1+a+b:=by exact ar223
theorem sz3(a b c:Nat):a<1+a+b+c/\b<1+a+b+c/\c<1+a+b+c:=by exact ar412
theorem sz4(a b c d:Nat):a<1+a+b+c+d/\b<1+a+b+c+d/\c<1+a+b+c+d/\d<1+a+b+c+d:=by exact ar444
theorem size_mem{e:Expr}{es:List Expr}(h:e∈es):sizeOf e<sizeOf es:=List.sizeOf_lt_of_mem h
theorem Jkb(G:Prg)(cf:Addr->List D->Jaa->Out D)(elt:Expr)(gens:List Comprehension)(sc:Scope)(pos:Pos):(∃t it ifs,gens=[⟨t,it,ifs,0⟩])\/∀nm vars σ,evE G cf (.ListComp elt gens sc pos) nm vars σ=.bad:=by
 match gens with
 |[]=>exact .inr λ_ _ _=>rfl
 |[⟨t,it,ifs,.ofNat 0⟩]=>exact .inl ⟨_,_,_,rfl⟩
 |[⟨t,it,ifs,.ofNat (n+1)⟩]=>exact .inr λ_ _ _=>rfl
 |[⟨t,it,ifs,.negSucc n⟩]=>exact .inr λ_ _ _=>rfl
 |⟨t,it,ifs,.ofNat 0⟩::_::_=>exact .inr λ_ _ _=>rfl
 |⟨t,it,ifs,.ofNat (n+1)⟩::_::_=>exact .inr λ_ _ _=>rfl
 |⟨t,it,ifs,.negSucc n⟩::_::_=>exact .inr λ_ _ _=>rfl
theorem Jjg{o i:Expr}{pos:Pos}{nm:List (Str×NameKind)}{vars:Jac}{σ:Jaa}(hs:¬ ∃l u s q,i=.Slice l u s q):evE G cf (.Subscript o i pos) nm vars σ=(evE G cf o nm vars σ).bind λa σ=>(evE G cf i nm vars σ).bind λi σ=>item a i σ:=by
 cases i with
 |Slice _ _ _ _=>exact absurd ⟨_,_,_,_,rfl⟩ hs
 |_=>rfl
set_option maxHeartbeats 1000000 in
theorem good(C:Ctx x G cf fs A):∀(n:Nat) (e:Expr),sizeOf e<n->Good x G cf fs A e:=by
 intro n
 induction n with
 |zero=>intro e h;exact absurd h (Nat.not_lt_zero _)
 |succ n ih=>
  intro e h
  have all:∀{es:List Expr},sizeOf es<n->∀e∈es,Good x G cf fs A e:=λh e he=>ih e (Nat.lt_trans (size_mem he) h)
  cases e with
  |BoolOp op es pos=>
   have h1:sizeOf es<n:=Jcx h (Nat.lt_of_lt_of_eq (sz3 _ _ _).2.1 (Expr.BoolOp.sizeOf_spec op es pos).symm)
   exact { ev:=λR I=>.eqr Jhv (evB_W (all h1) R I),tr:=λR I=>by rw[Jhv];exact Jsl (all h1) R I }
  |BinOp l op r pos=>
   have h1:sizeOf l<n:=Jcx h (Nat.lt_of_lt_of_eq (sz4 _ _ _ _).1 (Expr.BinOp.sizeOf_spec l op r pos).symm)
   have h2:sizeOf r<n:=Jcx h (Nat.lt_of_lt_of_eq (sz4 _ _ _ _).2.2.1 (Expr.BinOp.sizeOf_spec l op r pos).symm)
   refine Jcb (λ{env nm vars p} R I=>?_) λ_=>rfl
   rw[Jrv,eval_BinOp]
   exact W.bind ((ih l h1).ev R I) λva a q _ I1 X1 ha=>W.bind (W.hold ((ih r h2).ev (R.ext0 X1) I1)) λvb b q2 _ I2 X2 hb=>W.stand (W.oper (binop_W C.hA I2 (Rel.mono X2.sub ha) hb))
  |UnaryOp op e pos=>
   have h1:sizeOf e<n:=Jcx h (Nat.lt_of_lt_of_eq (sz3 _ _ _).2.1 (Expr.UnaryOp.sizeOf_spec op e pos).symm)
   have ev:∀{env nm vars p},Jaz x fs env nm vars p->Inv x fs p->W x fs A [] (eval (.UnaryOp op e pos) env) (evE G cf (.UnaryOp op e pos) nm vars p.σ) (Jaj x) p:=λ{env nm vars p} R I=>by
    rw[Jgv,arm_eval_UnaryOp]
    exact W.bind ((ih e h1).ev R I) λva a q _ I1 X1 ha=>W.stand (W.hold (unop_W C.hA I1 ha))
   by_cases hop:op=.Not
   ·subst hop
    refine ⟨ev,λ{env nm vars p} R I=>?_⟩
    rw[Jgv,unop_eq]
    show W x fs A [] (isTrue e env (eval e env) >>= λb=>pure !b) _ _ p
    exact W.bind ((ih e h1).tr R I) λv b q _ I1 X1 hv=>W.pure I1 (by rw[hv])
   ·refine Jcb ev λenv=>?_
    cases op<;>first | rfl | exact absurd rfl hop
  |IfExp t b o pos=>
   have h1:sizeOf t<n:=Jcx h (Nat.lt_of_lt_of_eq (sz4 _ _ _ _).1 (Expr.IfExp.sizeOf_spec t b o pos).symm)
   have h2:sizeOf b<n:=Jcx h (Nat.lt_of_lt_of_eq (sz4 _ _ _ _).2.1 (Expr.IfExp.sizeOf_spec t b o pos).symm)
   have h3:sizeOf o<n:=Jcx h (Nat.lt_of_lt_of_eq (sz4 _ _ _ _).2.2.1 (Expr.IfExp.sizeOf_spec t b o pos).symm)
   constructor
   ·intro env nm vars p R I
    rw[Jj5,arm_eval_IfExp,<-Jow]
    refine W.bind ((ih t h1).tr R I) λv c q _ I1 X1 hv=>?_
    subst hv
    cases v with
    |true=>exact (ih b h2).ev (R.ext0 X1) I1
    |false=>exact (ih o h3).ev (R.ext0 X1) I1
   ·intro env nm vars p R I
    rw[Jj5,Jat]
    have e1:(λa σ=>(brD a (evE G cf b nm vars σ) (evE G cf o nm vars σ)).bind λd σ=>Out.of (Jb7 d) σ)=λa σ=>brD a ((evE G cf b nm vars σ).bind λd σ=>Out.of (Jb7 d) σ) ((evE G cf o nm vars σ).bind λd σ=>Out.of (Jb7 d) σ):=by
     funext a σ
     cases a with
     |bool c=>cases c<;>rfl
     |_=>rfl
    rw[e1,<-Jow]
    show W x fs A [] (isTrue t env (eval t env) >>= λc=>if c=true then isTrue b env (eval b env) else isTrue o env (eval o env)) _ _ p
    refine W.bind ((ih t h1).tr R I) λv c q _ I1 X1 hv=>?_
    subst hv
    cases v with
    |true=>exact (ih b h2).tr (R.ext0 X1) I1
    |false=>exact (ih o h3).tr (R.ext0 X1) I1
  |Dict ks vs pos=>
   have h1:sizeOf vs<n:=Jcx h (Nat.lt_of_lt_of_eq (sz3 _ _ _).2.1 (Expr.Dict.sizeOf_spec ks vs pos).symm)
   exact Jcb (λR I=>dict_W (all h1) R I) λ_=>rfl
  |ListComp elt gens sc pos=>
   obtain ⟨t,it,ifs,rfl⟩ | hb:=Jkb G cf elt gens sc pos
   ·have h1:sizeOf elt<n:=by simp at h;exact ar432 h
    have h2:sizeOf it<n:=by simp at h;exact ar433 h
    have h3:sizeOf ifs<n:=by simp at h;exact ar434 h
    exact Jcb (λR I=>Jlp C (ih _ h1) (ih _ h2) (all h3) R I) λ_=>rfl
   ·exact Jbl hb
  |Compare l ops rs pos=>
   have h1:sizeOf l<n:=Jcx h (Nat.lt_of_lt_of_eq (sz4 _ _ _ _).1 (Expr.Compare.sizeOf_spec l ops rs pos).symm)
   have h2:sizeOf rs<n:=Jcx h (Nat.lt_of_lt_of_eq (sz4 _ _ _ _).2.2.1 (Expr.Compare.sizeOf_spec l ops rs pos).symm)
   constructor
   ·intro env nm vars p R I
    rw[Jgw,arm_eval_Compare]
    exact W.bind ((ih l h1).ev R I) λva a q _ I1 X1 ha=>(evC_W C (all h2) (R.ext0 X1) I1 ha).1
   ·intro env nm vars p R I
    rw[Jgw,Jat]
    show W x fs A [] (eval l env >>= λv=>testChain pos v ops (markedEach ops rs (evalEach rs env))) _ _ p
    exact W.bind ((ih l h1).ev R I) λva a q _ I1 X1 ha=>(evC_W C (all h2) (R.ext0 X1) I1 ha).2
  |Call f as ks pos=>
   have h2:sizeOf as<n:=Jcx h (Nat.lt_of_lt_of_eq (sz4 _ _ _ _).2.1 (Expr.Call.sizeOf_spec f as ks pos).symm)
   by_cases hf:∃o m q,f=.Attribute o m q
   ·obtain ⟨o,m,q,rfl⟩:=hf
    have h1:sizeOf o<n:=Nat.lt_trans (Nat.lt_of_lt_of_eq (sz3 _ _ _).1 (Expr.Attribute.sizeOf_spec o m q).symm) (Jcx h (Nat.lt_of_lt_of_eq (sz4 _ _ _ _).1 (Expr.Call.sizeOf_spec _ as ks pos).symm))
    exact Jcb (λR I=>Jk7 C (ih o h1) (all h2) R I) λ_=>rfl
   ·have h1:sizeOf f<n:=Jcx h (Nat.lt_of_lt_of_eq (sz4 _ _ _ _).1 (Expr.Call.sizeOf_spec f as ks pos).symm)
    exact Jcb (λR I=>Jlt C (λo m q e=>hf ⟨o,m,q,e⟩) (ih f h1) (all h2) R I) λ_=>rfl
  |Constant c k pos=>exact Jcb (λR I=>.eqr Jj6 (const_W I)) λ_=>rfl
  |Attribute o m pos=>
   have h1:sizeOf o<n:=Jcx h (Nat.lt_of_lt_of_eq (sz3 _ _ _).1 (Expr.Attribute.sizeOf_spec o m pos).symm)
   exact Jcb (λR I=>Jlw C (ih o h1) R I) λ_=>rfl
  |Subscript o i pos=>
   have h1:sizeOf o<n:=Jcx h (Nat.lt_of_lt_of_eq (sz3 _ _ _).1 (Expr.Subscript.sizeOf_spec o i pos).symm)
   by_cases hs:∃l u s q,i=.Slice l u s q
   ·obtain ⟨l,u,s,q,rfl⟩:=hs
    have opt:∀(o:Option Expr),sizeOf o<n->∀e,o=some e->Good x G cf fs A e:=λo ho e he=>ih e (by subst he;simp at ho;exact ar95 ho)
    exact Jcb (λR I=>Jkp (ih o h1) (opt l (by simp at h;exact ar409 h)) (opt u (by simp at h;exact ar410 h)) (opt s (by simp at h;exact ar411 h)) R I) λ_=>rfl
   ·have h2:sizeOf i<n:=Jcx h (Nat.lt_of_lt_of_eq (sz3 _ _ _).2.1 (Expr.Subscript.sizeOf_spec o i pos).symm)
    refine Jcb (λ{env nm vars p} R I=>?_) λ_=>rfl
    rw[Jjg hs]
    exact sub_W (ih o h1) (ih i h2) R I
  |Name y pos=>exact Jcb (λR I=>.eqr Jej (Jmi C.H R I)) λ_=>rfl
  |List es pos=>
   have h1:sizeOf es<n:=Jcx h (Nat.lt_of_lt_of_eq (sz2 _ _).1 (Expr.List.sizeOf_spec es pos).symm)
   refine Jcb (λ{env nm vars p} R I=>?_) λ_=>rfl
   rw[evE_List,arm_eval_List]
   split
   ·rename_i hc
    refine W.stand (W.bind (Jol (all h1) hc.1 R I) λvs ds q e1 I1 X1 hvs=>?_)
    have hlen:vs.length<=sizeLine:=by
     have h2:=Jay.len hvs
     have h3:=Jll e1
     exact h2▸h3▸Nat.le_trans hc.2 (by rw[sizeLine_eq];decide)
    split
    ·intro _
     exact wpAny_newList ⟨_,q.pushM (.list ds) { cls:=.type "list",data:=.seq vs.toArray } q.s.toks,rfl,rfl,I1.pushM _ _ rfl _ ⟨_,_,rfl,hvs⟩,Ext.pushM _ _ _ _,by
      exact ⟨_,rfl,Pt.pushM_get q I1 _ _ _⟩⟩ hlen
    ·intro _
     exact wpAny_newList ⟨_,q.push { cls:=.type "list",data:=.seq vs.toArray } q.s.toks,rfl,rfl,I1.push _ rfl _,Ext.push I1 _ _ _,Jdz I1 hvs rfl⟩ hlen
   ·exact .bad
  |Tuple es k pos=>
   have h1:sizeOf es<n:=Jcx h (Nat.lt_of_lt_of_eq (sz3 _ _ _).1 (Expr.Tuple.sizeOf_spec es k pos).symm)
   refine Jcb (λ{env nm vars p} R I=>?_) λ_=>rfl
   rw[Jrt,arm_eval_Tuple]
   split
   ·rename_i hc
    refine W.stand (W.bind (Jol (all h1) hc.1 R I) λvs ds q e1 I1 X1 hvs=>?_)
    have hlen:vs.length<=sizeLine:=by
     have h2:=Jay.len hvs
     have h3:=Jll e1
     exact h2▸h3▸Nat.le_trans hc.2 (by rw[sizeLine_eq];decide)
    intro _
    exact wpAny_newTuple ⟨_,q.push { cls:=.type "tuple",data:=.seq vs.toArray } q.s.toks,rfl,rfl,I1.push _ rfl _,Ext.push I1 _ _ _,Jmd I1 hvs rfl⟩ hlen
   ·exact .bad
  |NamedExpr _ _ _=>exact Jbl λ_ _ _=>rfl
  |Lambda _ _ _ _=>exact Jbl λ_ _ _=>rfl
  |Set _ _ _=>exact Jbl λ_ _ _=>rfl
  |SetComp _ _ _ _=>exact Jbl λ_ _ _=>rfl
  |DictComp _ _ _ _ _=>exact Jbl λ_ _ _=>rfl
  |GeneratorExp _ _ _ _=>exact Jbl λ_ _ _=>rfl
  |Await _ _=>exact Jbl λ_ _ _=>rfl
  |Yield _ _=>exact Jbl λ_ _ _=>rfl
  |YieldFrom _ _=>exact Jbl λ_ _ _=>rfl
  |FormattedValue _ _ _ _=>exact Jbl λ_ _ _=>rfl
  |JoinedStr _ _=>exact Jbl λ_ _ _=>rfl
  |Starred _ _=>exact Jbl λ_ _ _=>rfl
  |Slice _ _ _ _=>exact Jbl λ_ _ _=>rfl
end
end
section
noncomputable def FlR(x:Cx)(q:Pt)(fl:Fl)(f:Flow):Prop:=match fl with
 |.next=>f=.next
 |.ret d=>∃v,f=.ret v/\Jaj x q d v
noncomputable def StR(x:Cx)(fs:List Env)(env:Env)(nm:List (Str×NameKind))(q:Pt)(r:Jac×Fl)(f:Flow):Prop:=Jaz x fs env nm r.1 q/\FlR x q r.2 f
section
variable{x:Cx}{G:Prg}{cf:Addr->List D->Jaa->Out D}{fs:List Env}{A:Around}{p:Pt}{env:Env}{nm:List (Str×NameKind)}{vars:Jac}
structure GoodS(x:Cx)(G:Prg)(cf:Addr->List D->Jaa->Out D)(fs:List Env)(A:Around)(st:Stmt):Prop where
 run:∀{env nm vars p},Jaz x fs env nm vars p->Inv x fs p->W x fs A (pvt env) (exec st env) (evS G cf st nm vars p.σ) (StR x fs env nm) p
noncomputable def GoodSs(x:Cx)(G:Prg)(cf:Addr->List D->Jaa->Out D)(fs:List Env)(A:Around)(l:List Stmt):Prop:=
 ∀{env nm vars p},Jaz x fs env nm vars p->Inv x fs p->W x fs A (pvt env) (execs l env) (evSs G cf l nm vars p.σ) (StR x fs env nm) p
theorem W.bind0{α β γ δ:Type}{Pv:List Addr}{t:Sem α}{f:α->Sem γ}{r:Out β}{k:β->Jaa->Out δ}{R:Pt->β->α->Prop}{R':Pt->δ->γ->Prop}(h:W x fs A [] t r R p)
  (hk:∀v d q,r=.ok d q.σ->Inv x fs q->Ext fs [] p q->R q d v->W x fs A Pv (f v) (k d q.σ) R' q):W x fs A Pv (t >>= f) (r.bind k) R' p:=by
 intro hne
 have hr:r≠.bad:=by rintro rfl;exact hne rfl
 refine wpAny_bind (wpAny_mono (h hr) ?_ ?_)
 ·rintro v s' ⟨d,q,rfl,rfl,I,X,hR⟩
  refine wpAny_mono (hk v d q rfl I X hR hne) ?_ ?_
  ·rintro u s'' ⟨d',q',e,rfl,I',X',hR'⟩
   exact ⟨d',q',e,rfl,I',(X.mono λ_ h=>by cases h).trans X',hR'⟩
  ·rintro u s'' ⟨w,n,q',e,rfl,I',X',hE⟩
   exact ⟨w,n,q',e,rfl,I',(X.mono λ_ h=>by cases h).trans X',hE.older λa=>X.none⟩
 ·rintro e s' ⟨w,n,q,rfl,rfl,I,X,hE⟩
  exact ⟨w,n,q,rfl,rfl,I,X.mono (λ_ h=>by cases h),hE⟩
theorem Jro:∀{l:List Stmt},(∀st∈l,GoodS x G cf fs A st)->GoodSs x G cf fs A l:=by
 intro l
 induction l with
 |nil=>
  intro _ env nm vars p R I
  exact .eqr evSs_nil (W.pure I ⟨R,rfl⟩)
 |cons st r ih=>
  intro h env nm vars p R I
  rw[Jrr,execs_cons]
  refine W.bind ((h st (by simp)).run R I) λf v q _ I1 X1 hf=>?_
  obtain ⟨vars',fl⟩:=v
  obtain ⟨R1,hf⟩:=hf
  cases fl with
  |next=>have hf:f=.next:=hf;subst hf;exact ih (λst hs=>h st (by simp[hs])) R1 I1
  |ret d=>obtain ⟨v,rfl,hv⟩:=hf;exact W.pure I1 ⟨R1,v,rfl,hv⟩
theorem Jfs:(∃y,nm.lookup y=some .cell)->∀a∈pvt env,a∈pvt env:=λ_ _ h=>h
theorem Jsk{d:D}{es:List Expr}{v:Jac}(h:asgT nm vars d es=some v):∃xs ds,Ja4 es=some xs/\d=.tup ds/\(xs.Nodup/\xs.length<=8/\xs.all (Jdm nm)=true)/\Jbs xs ds vars=some v:=by
 obtain ⟨xs,h1,h2⟩:=Jaf h
 obtain ⟨ds,h3,h4⟩:=Jaf h2
 obtain ⟨hc,h5⟩ | h5:=Jbd h4
 ·exact ⟨xs,ds,h1,Jkn h3,hc,h5⟩
 ·exact no h5
theorem Jkk{d:D}{es:List Expr}{v:Jac}{k:Nat}{pos:Pos}(h:asgT nm vars d es=some v):Jck nm (.Tuple es k pos)=true/\Jcd (.Tuple es k pos) d vars=some v:=by
 obtain ⟨xs,ds,h1,rfl,⟨_,h2,h3⟩,h4⟩:=Jsk h
 constructor
 ·show (Ja4 es).any (·.all (Jdm nm))=true
  rw[h1];exact h3
 ·show ((Ja4 es).bind λxs=>(some ds).bind λds=>if xs.length<=8 then Jbs xs ds vars else none)=_
  rw[h1]
  exact (if_pos h2).trans h4
theorem Jpn{o i:Expr}{pos:Pos}{v:Value}(h:Jdh i=true):assign (.Subscript o i pos) env v=(holding [v] (eval o env) >>= λov=>holding [v,ov] (eval i env) >>= λiv=>standAt pos >>= λ_=>holding [v,ov,iv] (setItem ov iv v) >>= λ_=>release [v,ov,iv] []):=by
 cases i with
 |Slice _ _ _ _=>exact ff h
 |_=>rfl
theorem asg_W(C:Ctx x G cf fs A){t:Expr}{d:D}{v:Value}(ht:∀e,Good x G cf fs A e)(R:Jaz x fs env nm vars p)(I:Inv x fs p)(hv:Jaj x p d v) :
  W x fs A (pvt env) (assign t env v) (asg G cf t d nm vars p.σ) (λq vars' _=>Jaz x fs env nm vars' q) p:=by
 cases t with
 |Name y pos=>
  refine .eqr Jnj (W.guard λhy _=>?_)
  exact Jdb (List.mem_cons_self ..) Jfs C.hA R I (t:=.Name _ _) hy hv rfl λq e1 I1 X1 R1=>⟨_,q,by rw[e1],rfl,I1,X1,R1⟩
 |Tuple es k pos=>
  refine .eqr Jg0 (W.of λvars' h _=>?_)
  exact Jdb (List.mem_cons_self ..) Jfs C.hA R I (t:=.Tuple es k pos) (Jkk h).1 hv (Jkk h).2 λq e1 I1 X1 R1=>⟨_,q,by rw[e1],rfl,I1,X1,R1⟩
 |Attribute o y pos=>
  show W x fs A (pvt env) (holding [v] (eval o env) >>= λov=>standAt pos.atName >>= λ_=>holding [v,ov] (setAttr ov y v) >>= λ_=>release [v,ov] []) _ _ p
  refine .eqr Ji7 (W.bind0 (W.hold ((ht o).ev R I)) λov a q _ I1 X1 ha=>W.stand ?_)
  refine W.bind0 (W.hold (Jp9 C.H C.Hc I1 ha (Rel.mono X1.sub hv))) λ_ _ q2 _ I2 X2 _=>?_
  exact λ_=>Jc3 ⟨vars,q2,rfl,rfl,I2,.refl ..,(R.ext0 X1).ext0 X2⟩
 |Subscript o i pos=>
  refine .eqr Ji6 (W.guard λhs=>?_)
  rw[Jpn hs]
  refine W.bind0 (W.hold ((ht o).ev R I)) λov a q _ I1 X1 ha=>?_
  refine W.bind0 (W.hold ((ht i).ev (R.ext0 X1) I1)) λiv ii q2 _ I2 X2 hi=>W.stand ?_
  refine W.bind0 (W.hold (Jp8 I2 (Rel.mono X2.sub ha) hi (Rel.mono (X1.trans X2).sub hv))) λ_ _ q3 _ I3 X3 _=>?_
  exact λ_=>Jc3 ⟨vars,q3,rfl,rfl,I3,.refl ..,((R.ext0 X1).ext0 X2).ext0 X3⟩
 |_=>exact .eqr rfl .bad
noncomputable def isComp:Expr->Bool
 |.ListComp ..=>true
 |.DictComp ..=>true
 |.SetComp ..=>true
 |_=>false
theorem Jr9(G:Prg)(cf:Addr->List D->Jaa->Out D){e:Expr}(h:isComp e=true):(∃elt gens sc pos,e=.ListComp elt gens sc pos)\/∀nm vars σ,evE G cf e nm vars σ=.bad:=by
 cases e with
 |ListComp _ _ _ _=>exact .inl ⟨_,_,_,_,rfl⟩
 |DictComp _ _ _ _ _=>exact .inr λ_ _ _=>rfl
 |SetComp _ _ _ _=>exact .inr λ_ _ _=>rfl
 |_=>exact ff h
theorem Jg8{t e:Expr}{ln:Nat}(h:isComp e=false):swapsWithSole [t] e ln env=pure false:=by
 cases e with
 |ListComp _ _ _ _=>exact ff h.symm
 |DictComp _ _ _ _ _=>exact ff h.symm
 |SetComp _ _ _ _=>exact ff h.symm
 |_=>rfl
theorem Jjj{o e:Expr}{y:Str}{q:Pos}{ln:Nat}:swapsWithSole [.Attribute o y q] e ln env=pure false:=by cases e<;>rfl
theorem Jsb{e:Expr}(h:Jd8 e=true):isComp e=false:=by
 cases e with
 |Call _ _ _ _=>rfl
 |_=>exact ff h
theorem Jpp{t elt:Expr}{gens:List Comprehension}{sc:Scope}{pos:Pos}{ln:Nat}:swapsWithSole [t] (.ListComp elt gens sc pos) ln env=pure false ∨
  (swapsWithSole [t] (.ListComp elt gens sc pos) ln env=pure true/\∃y pos,t=.Name y pos/\env.kindOf y=some .local):=by
 cases t with
 |Name y pos2=>
  have e1:swapsWithSole [.Name y pos2] (.ListComp elt gens sc pos) ln env=pure (env.blockKind==.function&&env.kindOf y==some .local&&pos2.line==pos.line&&!(sc.names.any λ(n,k)=>n==y&&(k==.local||k==.cell))):=rfl
  rw[e1]
  cases hb:(env.blockKind==.function&&env.kindOf y==some .local&&pos2.line==pos.line&&!(sc.names.any λ(n,k)=>n==y&&(k==.local||k==.cell))) with
  |false=>exact .inl rfl
  |true=>
   exact .inr ⟨rfl,y,pos2,rfl,beq_iff_eq.mp (Jdd (Jdd (Jdd hb).1).1).2⟩
 |_=>exact .inl rfl
theorem Jjo{f:Expr->Option Str}(hf:∀y pos,f (.Name y pos)=some y\/f (.Name y pos)=none):∀{ts:List Expr} {xs:List Str},Ja4 ts=some xs->(ts.filterMap f).length=ts.length->ts.filterMap f=xs
 |[],xs,h,_=>by cases h;rfl
 |e::r,xs,h,hl=>by
  obtain ⟨y,pos,ys,rfl,rfl,h1⟩:=Jd5 h
  rcases hf y pos with g | g
  ·rw[List.filterMap_cons,g] at hl ⊢
   simp only[List.length_cons,Nat.add_right_cancel_iff] at hl ⊢
   rw[Jjo hf h1 hl]
  ·rw[List.filterMap_cons,g] at hl
   have:=List.length_filterMap_le f r
   simp only[List.length_cons] at hl
   exact (ar158 hl this).elim
set_option backward.match.sparseCases true in
theorem Jh8{ts vs:List Expr}{k1 k2:Nat}{p1 p2:Pos}{env:Env}{xs:List Str}(hn:Ja4 ts=some xs)(hs:swapOk (.Tuple ts k1 p1) (.Tuple vs k2 p2)=true) :
  swappedStores [.Tuple ts k1 p1] (.Tuple vs k2 p2) env=pure none\/swappedStores [.Tuple ts k1 p1] (.Tuple vs k2 p2) env=pure (some xs):=by
 have hlen:=Jgk hn
 have hs:(vs.all (foldedForSure 8)||!vs.all (constantsAlone 8))=true:=hs
 simp only[Bool.or_eq_true,Bool.not_eq_true'] at hs
 unfold swappedStores
 dsimp only
 generalize hN:List.filterMap _ ts=N
 have hX:N.length=ts.length->N=xs:=λh=>by
  rw[<-hN] at h ⊢
  refine Jjo (λy pos=>?_) hn h
  dsimp only
  split
  ·exact .inl rfl
  ·exact .inr rfl
 generalize (!(ts.length==2||ts.length==3)||vs.length != ts.length||env.blockKind != ScopeKind.function)=c1
 generalize (vs.any λx=>match x with | .Starred ..=>true | _=>false)=c2
 cases c1 with
 |true=>exact .inl rfl
 |false=>
  cases c2 with
  |true=>exact .inl rfl
  |false=>
   cases h3:(N.length != ts.length||N.eraseDups.length != N.length) with
   |true=>left;simp
   |false=>
    simp only[Bool.or_eq_false_iff,bne_eq_false_iff_eq] at h3
    rcases hs with hs | hs
    ·left;simp[hs]
    ·cases h4:vs.all (foldedForSure 8) with
     |true=>left;simp
     |false=>right;simp[hs,hX h3.1]
end
end
section
section
variable{x:Cx}{G:Prg}{cf:Addr->List D->Jaa->Out D}{fs:List Env}{A:Around}{p:Pt}{env:Env}{nm:List (Str×NameKind)}{vars:Jac}
theorem Ext.bNone{Pv:List Addr}{q:Pt}(X:Ext fs Pv p q){a:Addr}(h:p.B a=Option.none)(ha:∃o,p.s.heap.get? a=some o):q.B a=Option.none:=by
 obtain ⟨o,ho⟩:=ha
 cases e:q.B a with
 |none=>rfl
 |some o'=>
  rcases X.bnew a o' e with g | g
  ·rw[h] at g;cases g
  ·rw[ho] at g;cases g
theorem Ext.rNone{Pv:List Addr}{q:Pt}(X:Ext fs Pv p q){a:Addr}(h:a∉p.ρ)(ha:∃o,p.s.heap.get? a=some o):a∉q.ρ:=λhm=>by
 obtain ⟨o,ho⟩:=ha
 rcases X.rnew a hm with g | g
 ·exact h g
 ·rw[ho] at g;cases g
theorem Je4{t e:Expr}{env:Env}(h:(∀es k q,t≠.Tuple es k q)\/∀es k q,e≠.Tuple es k q)(hl:∀es q,t≠.List es q):swappedStores [t] e env=pure none:=by
 cases t with
 |Tuple es k q=>
  rcases h with h | h
  ·exact absurd rfl (h _ _ _)
  ·cases e with
   |Tuple _ _ _=>exact absurd rfl (h _ _ _)
   |_=>rfl
 |List es q=>exact absurd rfl (hl _ _)
 |_=>rfl
noncomputable def okT:Expr->Bool
 |.Starred ..=>false
 |.List ..=>false
 |_=>true
theorem Jk3{t:Expr}{v:Value}(h:okT t=true):assignStores env v none ((assignEach [t] env).map (·.2))=(assign t env v >>= λ_=>pure .next):=by
 cases t with
 |Starred _ _=>exact ff h
 |_=>rfl
theorem not_okT{t:Expr}{d:D}{σ:Jaa}(h:okT t=false):asg G cf t d nm vars σ=.bad:=by
 cases t with
 |Starred _ _=>rfl
 |List _ _=>rfl
 |_=>exact ff h.symm
theorem swap_W(C:Ctx x G cf fs A){ts:List Expr}{k1:Nat}{p1:Pos}{d:D}{v:Value}{xs:List Str}(R:Jaz x fs env nm vars p)(I:Inv x fs p)(hv:Jaj x p d v)(hn:Ja4 ts=some xs) :
  W x fs A (pvt env) (assignStores env v (some xs) ((assignEach [.Tuple ts k1 p1] env).map (·.2))) ((asg G cf (.Tuple ts k1 p1) d nm vars p.σ).bind λvars σ=>.ok (vars,.next) σ) (StR x fs env nm) p:=by
 rw[Jg0]
 cases hT:asgT nm vars d ts with
 |none=>exact .bad
 |some vars'=>
  obtain ⟨xs',ds,h1,rfl,⟨c1,c2,c3⟩,hsa⟩:=Jsk hT
  rw[hn] at h1
  cases h1
  obtain ⟨a,items,rfl,hT,hr⟩:=Jc2 I hv
  have hlen:=hr.len
  rw[Array.length_toList] at hlen
  intro _
  unfold assignStores
  refine wpAny_bind (wpAny_rule (wpAny_bind ?_))
  rw[(Jee hsa).trans hlen.symm]
  refine wpAny_unpackItems_tuple C.hA hT λh' hs=>?_
  have X':Ext fs [] p (p.grow h' p.s.toks):=Ext.grow (Jiq hs) [] p.s.toks
  refine wpAny_bind (Jht (p:=p.grow h' p.s.toks) (names:=xs.reverse) (List.mem_cons_self ..) Jfs (R.ext0 X') (I.grow (Jiq hs) p.s.toks) (by rw[List.all_reverse];exact c3) (Jay.rev (Jay.mono X'.sub hr)) (Jhg c1 hsa) (by rw[List.length_map])
   (λi t' y g1 g2 v s Q E hw=>?_) λq g1 g2 g3 g4=>wpAny_pure ⟨(vars',.next),q,by rw[g1];rfl,rfl,g2,(X'.mono λ_ h=>by cases h).trans g3,g4,rfl⟩)
  rw[List.getElem?_map,g2] at g1
  cases g1;exact hw
theorem store_W(C:Ctx x G cf fs A){t e:Expr}{d:D}{v:Value}(ht:∀e,Good x G cf fs A e)(hsw:swapOk t e=true)(R:Jaz x fs env nm vars p)(I:Inv x fs p)(hv:Jaj x p d v) :
  W x fs A (pvt env) (swappedStores [t] e env >>= λsw=>assignStores env v sw ((assignEach [t] env).map (·.2))) ((asg G cf t d nm vars p.σ).bind λvars σ=>.ok (vars,.next) σ) (StR x fs env nm) p:=by
 cases hok:okT t with
 |false=>rw[not_okT hok];exact .bad
 |true=>
  have plainRoad:W x fs A (pvt env) (assignStores env v none ((assignEach [t] env).map (·.2))) ((asg G cf t d nm vars p.σ).bind λvars σ=>.ok (vars,.next) σ) (StR x fs env nm) p:=by
   rw[Jk3 hok]
   exact W.bind (asg_W C ht R I hv) λ_ vars' q _ I1 X1 R1=>W.pure I1 ⟨R1,rfl⟩
  by_cases h2:(∃es k q,t=.Tuple es k q)/\∃es k q,e=.Tuple es k q
  ·obtain ⟨⟨ts,k1,p1,rfl⟩,vs,k2,p2,rfl⟩:=h2
   cases hn:Ja4 ts with
   |none=>rw[Jg0,asgT,hn];exact .bad
   |some xs=>
    rcases Jh8 (env:=env) hn hsw with h | h
    ·rw[h];exact plainRoad
    ·rw[h];exact swap_W C R I hv hn
  ·have h3:(∀es k q,t≠.Tuple es k q)\/∀es k q,e≠.Tuple es k q:=by
    by_cases h4:∃es k q,t=.Tuple es k q
    ·exact .inr λes k q he=>h2 ⟨h4,es,k,q,he⟩
    ·exact .inl λes k q he=>h4 ⟨es,k,q,he⟩
   rw[Je4 h3 λes q he=>by subst he;exact ff hok.symm.symm]
   exact plainRoad
theorem Jld{y:Str}(R:Jaz x fs env nm vars p)(h:env.kindOf y=some .local):Jdm nm y=true:=by
 unfold Jdm
 rcases R.names y with g | g
 ·rw[<-g,h]
 ·rw[g.1] at h;cases h
theorem Jj9(C:Ctx x G cf fs A)(gd:∀e,Good x G cf fs A e){elt tt it:Expr}{ifs:List Expr}{sc:Scope}{cpos ypos:Pos}{y:Str}(hy:env.kindOf y=some .local)(R:Jaz x fs env nm vars p)(I:Inv x fs p) :
  W x fs A (pvt env) ((comprehension (.ListComp elt [⟨tt,it,ifs,0⟩] sc cpos) sc env it.pos (newList []) false (eval it env) (some λv=>assign (.Name y ypos) env v) >>= λ_=>pure ()) >>= λ_=>(pure Flow.next:Sem Flow))
   ((evE G cf (.ListComp elt [⟨tt,it,ifs,0⟩] sc cpos) nm vars p.σ).bind λd σ=>(asg G cf (.Name y ypos) d nm vars σ).bind λvars σ=>.ok (vars,.next) σ) (StR x fs env nm) p:=by
 rw[Jiy]
 by_cases hc:compOk nm sc tt it=true
 rotate_left
 ·rw[if_neg hc];exact .bad
 rw[if_pos hc,Jkd]
 intro hne
 have hvar:=Jld R hy
 refine wpAny_bind (wpAny_bind (Jkc C.hA C.hfr R hc ((gd it).ev R I) (λcenv hcenv=>⟨λp vars R I=>evT_W (λe _=>gd e) R I,λp vars R I=>(gd elt).ev R I⟩) (λe=>hne (by rw[e];rfl)) rfl ?_ ?_))
 ·intro q1 q Ca La es f' I1 X1 R1 h1 hd
  rw[h1]
  clear hne
  obtain ⟨q',g1,g2,g3,g4,g5,g6,g7⟩:=hd.ice I1
  have hCp:Ca∉pvt env:=λhm=>by
   obtain ⟨_,_,o,ho⟩:=R1.priv _ hm
   rw[hd.cn] at ho;cases ho
  obtain ⟨m,hm⟩:=hd.ns
  have hCe:∃o,q'.s.heap.get? Ca=some o:=by
   obtain ⟨o,_,_,ho,_⟩:=hm
   exact ⟨o,by rw[g2];exact ho⟩
  show wpAny _ A (assign (.Name y ypos) env (.ref La)) _ _ q.s
  rw[<-g2]
  refine Jdb (List.mem_cons_self ..) Jfs C.hA (R1.ext0 g4) g3 (t:=.Name y ypos) hvar g5 rfl λq2 e2 I3 X3 R3=>⟨m,Jmh (g2▸hm) λo ho=>(X3.keep _ _ ho g7 hCp).1,λh' hs=>?_⟩
  have X4:Ext fs (pvt env) p q2:=((X1.trans g4).mono λ_ h=>by cases h).trans X3
  refine wpAny_pure (wpAny_pure ⟨(vars.set y (.lst es),.next),q2.own h' q2.s.toks,?_,rfl,I3.chgF _ (X3.bNone g6 hCe) (X3.rNone g7 hCe) (Ja8 I1 hd.cn) hs.extBut,X4.chg _ hs.extBut (X1.none hd.cn),R3.chg _ hs.extBut hCp,rfl⟩)
  show (asg G cf (.Name y ypos) (.lst es) nm vars q.σ).bind _=_
  rw[Jnj,if_pos hvar]
  show Out.ok _ q.σ=_
  rw[<-g1,<-e2];rfl
 ·rintro w k σ e s' h1 ⟨q,rfl,rfl,I2,X2,hE⟩
  exact ⟨w,k,q,by rw[h1];rfl,rfl,I2,X2.mono (λ_ h=>by cases h),hE⟩
theorem Jly(C:Ctx x G cf fs A){t e:Expr}{pos:Pos}(R:Jaz x fs env nm vars p)(I:Inv x fs p):W x fs A (pvt env) (exec (.Assign [t] e pos) env) (evS G cf (.Assign [t] e pos) nm vars p.σ) (StR x fs env nm) p:=by
 have gd:∀e,Good x G cf fs A e:=λe=>good C (sizeOf e+1) e (Nat.lt_succ_self _)
 refine .eqr Jok (W.guard λhsw=>?_)
 have e0:exec (.Assign [t] e pos) env=(standAt pos >>= λ_=>swapsWithSole [t] e pos.line env >>= λb=>if b=true then (do evalThenUse e env λv=>assignAll v ((assignEach [t] env).map (·.2));pure .next) else (do
  let v <-eval e env
  assignStores env v (<-swappedStores [t] e env) ((assignEach [t] env).map (·.2)))):=rfl
 rw[e0]
 clear e0
 refine W.stand ?_
 have plain:swapsWithSole [t] e pos.line env=pure false->W x fs A (pvt env) (swapsWithSole [t] e pos.line env >>= λb=>if b=true then (do evalThenUse e env λv=>assignAll v ((assignEach [t] env).map (·.2));pure .next) else (do
  let v <-eval e env
  assignStores env v (<-swappedStores [t] e env) ((assignEach [t] env).map (·.2)))) ((evE G cf e nm vars p.σ).bind λd σ=>(asg G cf t d nm vars σ).bind λvars σ=>.ok (vars,.next) σ) (StR x fs env nm) p:=λh=>by
  rw[h]
  show W x fs A (pvt env) (eval e env >>= λv=>swappedStores [t] e env >>= λsw=>assignStores env v sw ((assignEach [t] env).map (·.2))) _ _ p
  exact W.bind0 ((gd e).ev R I) λv d q _ I1 X1 hv=>store_W C gd hsw (R.ext0 X1) I1 hv
 cases hcomp:isComp e with
 |false=>exact plain (Jg8 hcomp)
 |true=>
  obtain ⟨elt,gens,sc,cpos,rfl⟩ | hb:=Jr9 G cf hcomp
  ·obtain h | ⟨h,y,ypos,rfl,hy⟩:=Jpp (env:=env) (t:=t) (elt:=elt) (gens:=gens) (sc:=sc) (pos:=cpos) (ln:=pos.line)
   ·exact plain h
   ·rw[h]
    clear plain h
    obtain ⟨tt,it,ifs,rfl⟩ | hb:=Jkb G cf elt gens sc cpos
    ·exact Jj9 C gd hy R I
    ·rw[hb];exact .bad
  ·rw[hb];exact .bad
end
end
section
section
variable{x:Cx}{G:Prg}{cf:Addr->List D->Jaa->Out D}{fs:List Env}{A:Around}{p:Pt}{env:Env}{nm:List (Str×NameKind)}{vars:Jac}
theorem Jar.cameBack{Pv:List Addr}{w:Str}{k:Int}{σ:Jaa}{v:Value}{s:Shared}{E:Value->Shared->Prop}(X:Jar x fs Pv p w k σ true v s)(h:∀s',Jar x fs Pv p w k σ true v s'->E v s'):cameBackBy (model x.prog x.w) A env E v s:=by
 unfold cameBackBy
 obtain ⟨e,oe,vs,rfl,h1,h2,h3,h4,h5,h6⟩:=X.parts
 have ht:TbAt s.heap e vs:=h5.elim (λh=>nomatch h.1) id
 obtain ⟨T,oT,ts,g1,gTe,gT,gdT,g3⟩:=id ht
 refine wpAny_bind (wpAny_field h1 h2 g1 ?_)
 rw[if_neg (show ¬ ((Value.ref T==Value.none)=true) from by simp)]
 exact X.setFlight λs' X'=>h s' X'
theorem Jjp(A:Around):A.mark none=A:=by obtain ⟨h,d,f,g,u⟩:=A;rfl
theorem Jar.post{β:Type}{Pv:List Addr}{w:Str}{k:Int}{σ:Jaa}{v:Value}{s:Shared}{r:Out β}(hr:r=.exc w k σ)(X:Jar x fs Pv p w k σ true v s):ExP x fs Pv p r v s:=by
 obtain ⟨q,rfl,h2,h3,h4,h5⟩:=X
 exact ⟨w,k,q,hr,h2,h3,h4,h5.weak⟩
theorem Jlj{prog:Program}{w:World}{A:Around}{s:Shared}{R:Result->Shared->Prop}{Jen:Expr}{it:Value}{body:List Stmt}{env:Env}(I:Nat->Shared->Prop)
  (turn:∀n s,I n s->wpAny (model prog w) A (pyNext it) (λr s₁=>match r with
   |none=>R (.ok .next) s₁
   |some v=>wpAny (model prog w) A (letOwnedTupleGo Jen it v) (λ_ s₀=>wpAny (model prog w) A (assign Jen env v) (λ_ s₂=>wpAny (model prog w) A (execs body env) (λf s₃=>match f with
     |.next | .cont=>∃m,m<n/\I m s₃
     |.brk=>R (.ok .next) s₃
     |.ret v=>R (.ok (.ret v)) s₃) (notedBy (model prog w) A env λe s'=>R (.error e) s') s₂) (notedBy (model prog w) A env λe s'=>R (.error e) s') s₀) (notedBy (model prog w) A env λe s'=>R (.error e) s') s₁) (notedBy (model prog w) A env λe s'=>R (.error e) s') s)
  (n:Nat) (h:I n s):codeAny (model prog w) A (.forLoop Jen it body [] env) R s:=by
 refine codeAny_loop' rfl I (λn s hI=>?_) n h
 show wpAny _ _ ((forTurn Jen it body [] env).onRaise (λx=>do noteFrame x env;theTreesLotGoes x)) _ _ s
 refine wpAny_noted ?_
 simp only[forTurn]
 refine wpAny_bind (wpAny_standAt (wpAny_bind (wpAny_onRaise (wpAny_mono (turn n s hI) (λr s₁ h₁=>?_) λ_ _ h'=>wpAny_standAt h'))))
 cases r with
 |none=>exact wpAny_pure (.inr ⟨rfl,codeAny_block (wpAny_execs_nil h₁)⟩)
 |some v=>
  refine wpAny_bind (wpAny_mono h₁ (λ_ s₀ h₀=>?_) λ_ _ h'=>h')
  refine wpAny_bind (wpAny_mono h₀ (λ_ s₂ h₂=>wpAny_bind (wpAny_mono h₂ (λf s₃ h₃=>?_) λ_ _ h'=>h')) λ_ _ h'=>h')
  cases f with
  |next=>exact wpAny_pure (.inl ⟨rfl,h₃⟩)
  |cont=>exact wpAny_pure (.inl ⟨rfl,h₃⟩)
  |brk=>exact wpAny_pure h₃
  |ret v=>exact wpAny_pure h₃
set_option genInjectivity false in
structure FP where
 x:Cx
 G:Prg
 cf:Addr->List D->Jaa->Out D
 fs:List Env
 A:Around
 env:Env
 nm:List (Str×NameKind)
 b:List Stmt
 q:Pt
 rT:Out (Jac×Fl)
namespace FP
variable(l:FP)
noncomputable def R(r:Result)(s':Shared):Prop:=match r with
 |.ok f=>OkP l.x l.fs (pvt l.env) l.q l.rT (StR l.x l.fs l.env l.nm) f s'
 |.error e=>cameBackBy (model l.x.prog l.x.w) l.A l.env (ExP l.x l.fs (pvt l.env) l.q l.rT) e s'
noncomputable def E:Value->Shared->Prop:=notedBy (model l.x.prog l.x.w) l.A l.env λe s'=>l.R (.error e) s'
noncomputable def Q(P:Shared->Prop)(f:Flow)(s:Shared):Prop:=match f with
 |.next | .cont=>P s
 |.brk=>l.R (.ok .next) s
 |.ret v=>l.R (.ok (.ret v)) s
structure Ok:Prop where
 C:Ctx l.x l.G l.cf l.fs l.A
 hb:GoodSs l.x l.G l.cf l.fs l.A l.b
 hne:l.rT≠.bad
variable{l}
theorem exc(H:l.Ok){q:Pt}{vk:Jac}{Pv:List Addr}(hP:∀a∈Pv,a∈pvt l.env)(R:Jaz l.x l.fs l.env l.nm vk q)(X:Ext l.fs (pvt l.env) l.q q){r:Out (Jac×Fl)}{β:Type}{r0:Out β}{e:Value}{s':Shared}(hr:∀w k σ,r0=.exc w k σ->l.rT=.exc w k σ)(F:ExP l.x l.fs Pv q r0 e s'):l.E e s':=by
 obtain ⟨w,k,q2,g1,rfl,I2,X2,hE⟩:=F
 obtain ⟨e0,outer,FL,hfs,hf0,hf⟩:=R.frame
 have F:Jar l.x l.fs (pvt l.env) q w k q2.σ false e q2.s:=⟨q2,rfl,rfl,I2,X2.mono hP,hE⟩
 have hfr:=H.C.hfr
 have fin:∀s'',Jar l.x l.fs (pvt l.env) l.q w k q2.σ true e s''->l.R (.error e) s'':=λs'' F'=>F'.cameBack λs3 F3=>F3.post (hr _ _ _ g1)
 have F':=Jar.base X F
 revert F' hfr fin
 clear F hE X2 I2 X R
 rw[hfs]
 exact λhfr fin F'=>F'.noteFrame hfr hf0 hf fin
theorem body_W(H:l.Ok){q:Pt}{vk:Jac}(R:Jaz l.x l.fs l.env l.nm vk q)(I:Inv l.x l.fs q)(X:Ext l.fs (pvt l.env) l.q q){go:Jac->Jaa->Out (Jac×Fl)} (hr:l.rT=(evSs l.G l.cf l.b l.nm vk q.σ).bind λr σ'=>match r.2 with
  |.next=>go r.1 σ'
  |.ret d=>.ok (r.1,.ret d) σ') {P:Shared->Prop} (hP:∀q3 v3,Inv l.x l.fs q3->Ext l.fs (pvt l.env) q q3->Jaz l.x l.fs l.env l.nm v3 q3->l.rT=go v3 q3.σ->P q3.s):wpAny (model l.x.prog l.x.w) l.A (execs l.b l.env) (l.Q P) l.E q.s:=by
 refine wpAny_mono (H.hb R I λh=>H.hne (by rw[hr,h];rfl)) ?_ λe s' F=>exc H (r:=.bad) (λ_ h=>h) R X (λw k σ g=>by rw[hr,g];rfl) F
 rintro f s' ⟨⟨v3,fl⟩,q3,g2,rfl,I3,X3,R3,hf⟩
 rw[g2] at hr
 cases fl with
 |next=>
  have hf:f=.next:=hf
  subst hf
  exact hP q3 v3 I3 X3 R3 hr
 |ret d=>
  obtain ⟨v,rfl,hv⟩:=hf
  exact ⟨(v3,.ret d),q3,hr,rfl,I3,X.trans X3,R3,v,rfl,hv⟩
end FP
inductive WhSt(l:FP)(t:Expr)(k:Nat)(s:Shared):Prop
 |mk (q:Pt) (vk:Jac) (hs:q.s=s) (I:Inv l.x l.fs q) (X:Ext l.fs (pvt l.env) l.q q) (R:Jaz l.x l.fs l.env l.nm vk q) (h:l.rT=Jbh (λvars σ=>evE l.G l.cf t l.nm vars σ) (λvars σ=>evSs l.G l.cf l.b l.nm vars σ) k vk q.σ)
theorem Jnm{l:FP}(H:l.Ok){t:Expr}(gt:Good l.x l.G l.cf l.fs l.A t){n:Nat}{s:Shared}(h:WhSt l t n s):wpAny (model l.x.prog l.x.w) l.A (isTrue t l.env (eval t l.env)) (λb s₂=>
    if b then wpAny (model l.x.prog l.x.w) l.A (execs l.b l.env) (l.Q λs=>∃m,m<n/\WhSt l t m s) l.E s₂
    else wpAny (model l.x.prog l.x.w) l.A (execs [] l.env) (λf s₃=>l.R (.ok f) s₃) l.E s₂) l.E s:=by
 obtain ⟨q,vk,rfl,I1,X1,R1,h1⟩:=h
 cases n with
 |zero=>exact absurd h1 H.hne
 |succ k=>
  simp only[Jbh] at h1
  rw[<-Jow] at h1
  refine wpAny_mono (gt.tr R1 I1 λh=>H.hne (by rw[h1,h];rfl)) ?_ λe s' F=>FP.exc H (r:=.bad) (λ_ h=>by cases h) R1 X1 (λw k σ g=>by rw[h1,g];rfl) F
  rintro c s' ⟨c',q2,g1,rfl,I2,X2,rfl⟩
  rw[g1] at h1
  have R2:=R1.ext0 X2
  have X2':Ext l.fs (pvt l.env) l.q q2:=X1.trans (X2.mono λ_ h=>by cases h)
  clear X1 X2 R1 g1
  cases c with
  |false=>exact wpAny_execs_nil ⟨(vk,.next),q2,h1,rfl,I2,X2',R2,rfl⟩
  |true=>exact FP.body_W H R2 I2 X2' h1 λq3 v3 I3 X3 R3 h3=>⟨k,Nat.lt_succ_self _,q3,v3,rfl,I3,X2'.trans X3,R3,h3⟩
theorem while_W(C:Ctx x G cf fs A){t:Expr}{b:List Stmt}{pos:Pos}(hb:GoodSs x G cf fs A b)(R:Jaz x fs env nm vars p)(I:Inv x fs p):W x fs A (pvt env) (exec (.While t b [] pos) env) (evS G cf (.While t b [] pos) nm vars p.σ) (StR x fs env nm) p:=by
 rw[Jrs,exec_While]
 refine W.stand λhne=>wpAny_runOwn (h:=none) ?_
 rw[Jjp]
 let l:FP:=⟨x,G,cf,fs,A,env,nm,b,p,Jbh (λvars σ=>evE G cf t nm vars σ) (λvars σ=>evSs G cf b nm vars σ) G.turns vars p.σ⟩
 exact codeAny_whileLoop (R:=l.R) (WhSt l t) (λn s h=>Jnm ⟨C,hb,hne⟩ (good C (sizeOf t+1) t (Nat.lt_succ_self _)) h) G.turns ⟨p,vars,rfl,I,.refl ..,R,rfl⟩
inductive FoSt(l:FP)(t:Expr)(d:D)(va:Value)(Ia:Addr)(k:Nat)(s:Shared):Prop
 |mk (q:Pt) (j:Nat) (vk:Jac) (hs:q.s=s) (I:Inv l.x l.fs q) (X:Ext l.fs (pvt l.env) l.q q) (R:Jaz l.x l.fs l.env l.nm vk q) (hd:Jaj l.x q d va) (it:ItAt l.x Ia d va j q) (hB:q.B Ia=none) (hρ:Ia∉q.ρ)
  (h:l.rT=forI (λσ=>Jal σ d) (Jcd t) (λvars σ=>evSs l.G l.cf l.b l.nm vars σ) k j vk q.σ)
theorem for_turn{l:FP}(H:l.Ok){t:Expr}{d:D}{va:Value}{Ia:Addr}(ht:Jck l.nm t=true)(nI:l.q.s.heap.get? Ia=none)(offp:Ia∉pvt l.env)(hIF:Ia∉frA l.fs){n:Nat}{s:Shared}(h:FoSt l t d va Ia n s) :
  wpAny (model l.x.prog l.x.w) l.A (pyNext (.ref Ia)) (λr s₁=>match r with
   |none=>l.R (.ok .next) s₁
   |some v=>wpAny (model l.x.prog l.x.w) l.A (letOwnedTupleGo t (.ref Ia) v) (λ_ s₀=>wpAny (model l.x.prog l.x.w) l.A (assign t l.env v) (λ_ s₂=>wpAny (model l.x.prog l.x.w) l.A (execs l.b l.env) (l.Q λs=>∃m,m<n/\FoSt l t d va Ia m s) l.E s₂) l.E s₀) l.E s₁) l.E s:=by
 obtain ⟨q2,j,vk,rfl,I3,X3,R3,hd3,it3,b3,r3,h1⟩:=h
 cases n with
 |zero=>exact absurd h1 H.hne
 |succ k=>
  simp only[forI] at h1
  cases hi2:Jal q2.σ d with
  |none=>rw[hi2] at h1;exact absurd h1 H.hne
  |some ds2=>
   rw[hi2] at h1
   simp only at h1
   cases he:ds2[j]? with
   |none=>
    rw[he] at h1
    exact Jjn H.C.hA I3 it3 hi2 he λh' tk hs=>⟨(vk,.next),q2.own h' tk,h1,rfl,I3.chgF tk b3 r3 hIF hs,X3.chg tk hs nI,R3.chg tk hs offp,rfl⟩
   |some e=>
    rw[he] at h1
    simp only at h1
    cases hbt:Jcd t e vk with
    |none=>rw[hbt] at h1;exact absurd h1 H.hne
    |some v'=>
     rw[hbt] at h1
     simp only at h1
     refine next_item H.C.hA I3 it3 hi2 he λv h' tk hs hf' hit' hv=>?_
     have X4:Ext l.fs (pvt l.env) l.q (q2.own h' tk):=X3.chg tk hs.extBut nI
     have it4:ItAt l.x Ia d va (j+1) (q2.own h' tk):=hit' _ rfl hd3
     refine Jgp (q:=q2.own h' tk) it4 ?_
     refine Jdb (p:=q2.own h' tk) (List.mem_cons_self ..) Jfs H.C.hA (R3.chg tk hs.extBut offp) (I3.chgF tk b3 r3 hIF hs.extBut) ht hv hbt λq5 e5 I5 X5 R5=>?_
     refine FP.body_W H R5 I5 (X4.trans X5) (go:=λv σ=>forI (λσ=>Jal σ d) (Jcd t) (λvars σ=>evSs l.G l.cf l.b l.nm vars σ) k (j+1) v σ) (by rw[h1,e5];rfl) λq6 v6 I6 X6 R6 h6=>?_
     obtain ⟨o4,vs4,ho4,hv4⟩:=hf'
     have X56:=X5.trans X6
     have hd6:Jaj l.x q6 d va:=Rel.mono X56.sub hd3
     exact ⟨k,Nat.lt_succ_self _,q6,j+1,v6,rfl,I6,X4.trans X56,R6,hd6,it4.move hd6 (((X56.keep Ia o4 ho4 r3 offp).2 hIF).trans ho4.symm),X56.bNone b3 ⟨o4,ho4⟩,X56.rNone r3 ⟨o4,ho4⟩,h6⟩
theorem for_W(C:Ctx x G cf fs A){t it:Expr}{b:List Stmt}{pos:Pos}(hb:GoodSs x G cf fs A b)(R:Jaz x fs env nm vars p)(I:Inv x fs p):W x fs A (pvt env) (exec (.For t it b [] pos) env) (evS G cf (.For t it b [] pos) nm vars p.σ) (StR x fs env nm) p:=by
 refine .eqr evS_For (W.guard λhc=>?_)
 obtain ⟨ht,hset⟩:=hc
 have e0:exec (.For t it b [] pos) env=(standAt pos >>= λ_=>eval it env >>= λv=>foldedSetIterable it env v >>= λv=>standAt it.pos >>= λ_=>holding [v] (pyIter v) >>= λi=>runOwn (.forLoop t i b [] env) env):=rfl
 rw[e0]
 clear e0
 refine W.stand (W.bind0 ((good C (sizeOf it+1) it (Nat.lt_succ_self _)).ev R I) λva d q _ I1 X1 hd=>?_)
 have R1:=R.ext0 X1
 rw[Jgj hset]
 show W x fs A (pvt env) (standAt it.pos >>= λ_=>holding [va] (pyIter va) >>= λi=>runOwn (.forLoop t i b [] env) env) _ _ q
 refine W.stand (W.elim λds hi=>W.guard λhz hne=>?_)
 clear R X1 I hset
 refine wpAny_bind (wpAny_holding (Jhq I1 hd hi λo hof hit=>wpAny_runOwn (h:=none) ?_))
 rw[Jjp]
 have nI:q.s.heap.get? q.s.heap.objs.size=none:=Jbe _
 have old:∀b ob,q.s.heap.get? b=some ob->(q.s.heap.push o).get? b=some ob:=λb ob e=>Heap.get?_push_of_some _ e
 have offp:q.s.heap.objs.size∉pvt env:=λhm=>by
  obtain ⟨_,_,ob,ho⟩:=R1.priv _ hm
  rw[nI] at ho;cases ho
 have X2:Ext fs [] q (q.grow (q.s.heap.push o) q.s.toks):=Ext.grow old _ _
 have bI:q.B q.s.heap.objs.size=none:=by
  cases e:q.B q.s.heap.objs.size with
  |none=>rfl
  |some ob=>rw[I1.froz _ _ e] at nI;cases nI
 have rI:q.s.heap.objs.size∉q.ρ:=λhm=>by
  obtain ⟨ob,ho⟩:=I1.ρlt hm
  rw[nI] at ho;cases ho
 let l:FP:=⟨x,G,cf,fs,A,env,nm,b,q,forI (λσ=>Jal σ d) (Jcd t) (λvars σ=>evSs G cf b nm vars σ) (ds.length+1) 0 vars q.σ⟩
 have H:l.Ok:=⟨C,hb,hne⟩
 exact Jlj (R:=l.R) (FoSt l t d va q.s.heap.objs.size) (λn s h=>for_turn H ht nI offp (Ja8 I1 nI) h) (ds.length+1) ⟨q.grow (q.s.heap.push o) q.s.toks,0,vars,rfl,I1.grow old _,X2.mono (λ_ h=>by cases h),R1.ext0 X2,Rel.mono X2.sub hd,hit _ (Heap.get?_push_size _ hof) (Rel.mono X2.sub hd),bI,rI,rfl⟩
end
end
section
section
variable{x:Cx}{G:Prg}{cf:Addr->List D->Jaa->Out D}{fs:List Env}{A:Around}{p:Pt}{env:Env}{nm:List (Str×NameKind)}{vars:Jac}
noncomputable def RaiseOk(x:Cx)(G:Prg)(cf:Addr->List D->Jaa->Out D)(fs:List Env)(A:Around):Prop:=
 ∀{e1 e2:Expr} {npos cpos pos:Pos} {env nm vars p},Jaz x fs env nm vars p->Inv x fs p->nm.lookup G.exn=some .globalImplicit->plain [e1,e2]=true->
  W x fs A (pvt env) (exec (.Raise (some (.Call (.Name G.exn npos) [e1,e2] [] cpos)) none pos) env) ((evE G cf e1 nm vars p.σ).bind λa σ=>(evE G cf e2 nm vars σ).bind λb σ=>raiseD a b σ) (StR x fs env nm) p
noncomputable def TryOk(x:Cx)(G:Prg)(cf:Addr->List D->Jaa->Out D)(fs:List Env)(A:Around):Prop:=
 ∀{e:Expr} {y n:Str} {yp ap cpos mpos apos kpos rpos hpos pos:Pos} {env nm vars p},Good x G cf fs A e->Jd8 e=true->Jdm nm y=true->apos.endLine=kpos.line->Jaz x fs env nm vars p->Inv x fs p->nm.lookup G.exn=some .globalImplicit->nm.lookup n=some .local->
  W x fs A (pvt env) (exec (.Try [.Assign [.Name y yp] e ap] [.ExceptHandler (some (.Name G.exn cpos)) (some n) [.Return (some (.Call (.Attribute (.Name n mpos) "told" apos) [] [] kpos)) rpos] hpos] [] [] pos) env) (caught y n vars (evE G cf e nm vars p.σ)) (StR x fs env nm) p
theorem Jle{e:Expr}(h:Jd8 e=true):∃f as ks q,e=.Call f as ks q:=by
 cases e with
 |Call f as ks q=>exact ⟨_,_,_,_,rfl⟩
 |_=>exact ff h
theorem expr_W(C:Ctx x G cf fs A){e:Expr}{pos:Pos}(R:Jaz x fs env nm vars p)(I:Inv x fs p):W x fs A (pvt env) (exec (.Expr e pos) env) (evS G cf (.Expr e pos) nm vars p.σ) (StR x fs env nm) p:=by
 refine .eqr evS_Expr (W.guard λhc=>?_)
 obtain ⟨f,as,ks,q,rfl⟩:=Jle hc
 have hi:interactive env=false:=by unfold interactive;rw[R.kind];rfl
 rw[exec_Expr env _ _ hi rfl]
 refine W.stand (W.bind0 ((good C _ _ (Nat.lt_succ_self _)).ev R I) λv d q _ I1 X1 hv=>?_)
 exact λ_=>wpAny_dropValue ⟨(vars,.next),q,rfl,rfl,I1,.refl ..,R.ext0 X1,rfl⟩
theorem return_W(C:Ctx x G cf fs A){o:Option Expr}{pos:Pos}(R:Jaz x fs env nm vars p)(I:Inv x fs p):W x fs A (pvt env) (exec (.Return o pos) env) (evS G cf (.Return o pos) nm vars p.σ) (StR x fs env nm) p:=by
 rw[Joj]
 cases o with
 |none=>
  rw[exec_Return_none]
  exact W.stand (.eqr rfl (W.pure I ⟨R,.none,rfl,rfl⟩))
 |some e=>
  rw[exec_Return_some]
  exact W.stand (W.bind0 ((good C _ _ (Nat.lt_succ_self _)).ev R I) λv d q _ I1 X1 hv=>W.pure I1 ⟨R.ext0 X1,v,rfl,hv⟩)
theorem if_W(C:Ctx x G cf fs A){t:Expr}{b o:List Stmt}{pos:Pos}(hb:GoodSs x G cf fs A b)(ho:GoodSs x G cf fs A o)(R:Jaz x fs env nm vars p)(I:Inv x fs p) :
  W x fs A (pvt env) (exec (.If t b o pos) env) (evS G cf (.If t b o pos) nm vars p.σ) (StR x fs env nm) p:=by
 rw[evS_If,exec_If,<-Jow]
 refine W.stand (W.bind0 ((good C _ _ (Nat.lt_succ_self _)).tr R I) λc c' q _ I1 X1 hc=>?_)
 subst hc
 cases c with
 |true=>exact hb (R.ext0 X1) I1
 |false=>exact ho (R.ext0 X1) I1
theorem Jp5{e:Option Expr}{t:Str×Expr×Expr}(h:e.bind raised?=some t):∃np cp,e=some (.Call (.Name t.1 np) [t.2.1,t.2.2] [] cp):=by
 obtain ⟨e,rfl,h1⟩:=Jaf h
 obtain ⟨c,h2,h3⟩:=Jaf h1
 obtain ⟨y,h4,h5⟩:=Jaf h3
 obtain ⟨es,h6,rfl⟩:=Ja3 h5
 obtain ⟨np,h7⟩:=Jeg h4
 exact ⟨np,c.2.2,congrArg some (by rw[Jnc h2,h7,Jo6 h6])⟩
theorem raise_W(hR:RaiseOk x G cf fs A){e:Option Expr}{pos:Pos}(R:Jaz x fs env nm vars p)(I:Inv x fs p):W x fs A (pvt env) (exec (.Raise e none pos) env) (evS G cf (.Raise e none pos) nm vars p.σ) (StR x fs env nm) p:=by
 refine .eqr rfl (W.elim λt h=>?_)
 obtain ⟨t',h1,h⟩:=Jaf h
 obtain ⟨⟨hx,h2,h3⟩,rfl⟩:=Jax h
 clear h
 obtain ⟨np,cp,rfl⟩:=Jp5 h1
 rw[hx]
 exact hR R I (hx▸h2) h3
theorem body_of{b:List Stmt}{y:Str}{e:Expr}(h:body? b=some (y,e)):∃yp ap,b=[.Assign [.Name y yp] e ap]:=by
 obtain ⟨a,h1,h2⟩:=Jaf h
 obtain ⟨y',h3,h4⟩:=Ja3 h2
 clear h h2
 obtain ⟨s,h5,h6⟩:=Jaf h1
 obtain ⟨tt,h7,h8⟩:=Jaf h3
 clear h1 h3
 obtain ⟨ap,h9⟩:=Jo1 h6
 obtain ⟨yp,h10⟩:=Jeg h8
 have e1:y'=y:=congrArg Prod.fst h4
 have e2:a.2=e:=congrArg Prod.snd h4
 exact ⟨yp,ap,by rw[Jif h5,h9,Jif h7,h10,e1,e2]⟩
theorem told_of{e:Expr}{m told:Str}{apos kpos:Pos}(h:told? e=some (m,told,apos,kpos)):∃mp,e=.Call (.Attribute (.Name m mp) told apos) [] [] kpos:=by
 obtain ⟨k,h1,h2⟩:=Jaf h
 obtain ⟨a,h3,h4⟩:=Jaf h2
 obtain ⟨m',h5,h6⟩:=Jaf h4
 clear h h2 h4
 obtain ⟨h7,h8⟩:=Jax h6
 obtain ⟨mp,h9⟩:=Jeg h5
 clear h6 h5
 cases h8
 exact ⟨mp,by rw[Jnc h1,attr?_of h3,h9,h7]⟩
theorem hand_of{hs:List ExceptHandler}{c n:Str}{e:Expr}(h:hand? hs=some (c,n,e)):∃cp rp hp,hs=[.ExceptHandler (some (.Name c cp)) (some n) [.Return (some e) rp] hp]:=by
 obtain ⟨a,h1,h2⟩:=Jaf h
 obtain ⟨c',h3,h4⟩:=Jaf h2
 obtain ⟨e',h5,h6⟩:=Ja3 h4
 clear h h2 h4
 obtain ⟨s,h7,h8⟩:=Jaf h1
 obtain ⟨r,h9,h10⟩:=Jaf h5
 clear h1 h5
 obtain ⟨hp,h11⟩:=Jlh h8
 obtain ⟨cp,h12⟩:=Jeg h3
 obtain ⟨rp,h13⟩:=Jny h10
 clear h3 h8 h10
 cases h6
 exact ⟨cp,rp,hp,by rw[Jif h7,h11,h12,Jif h9,h13]⟩
theorem tried_of{b:List Stmt}{hs:List ExceptHandler}{t:Tried}(h:tried? b hs=some t):∃yp ap cp mp rp hp,b=[.Assign [.Name t.y yp] t.e ap]/\hs=[.ExceptHandler (some (.Name t.c cp)) (some t.n) [.Return (some (.Call (.Attribute (.Name t.m mp) t.told t.apos) [] [] t.kpos)) rp] hp]:=by
 obtain ⟨a,h1,h2⟩:=Jaf h
 obtain ⟨c,h3,h4⟩:=Jaf h2
 obtain ⟨k,h5,rfl⟩:=Ja3 h4
 clear h h2 h4
 obtain ⟨yp,ap,h6⟩:=body_of h1
 obtain ⟨cp,rp,hp,h7⟩:=hand_of h3
 obtain ⟨mp,h8⟩:=told_of h5
 exact ⟨yp,ap,cp,mp,rp,hp,h6,h7.trans (by rw[h8])⟩
theorem try_W(C:Ctx x G cf fs A)(hT:TryOk x G cf fs A){b:List Stmt}{hs:List ExceptHandler}{pos:Pos}(R:Jaz x fs env nm vars p)(I:Inv x fs p):W x fs A (pvt env) (exec (.Try b hs [] [] pos) env) (evS G cf (.Try b hs [] [] pos) nm vars p.σ) (StR x fs env nm) p:=by
 refine .eqr rfl (W.elim λt h=>?_)
 obtain ⟨t',h1,h⟩:=Jaf h
 obtain ⟨⟨hc,hm,ht,h2,h3,h4,h5,h6⟩,rfl⟩:=Jax h
 clear h
 obtain ⟨yp,ap,cp,mp,rp,hp,rfl,rfl⟩:=tried_of h1
 rw[hc,hm,ht]
 exact hT (good C _ _ (Nat.lt_succ_self _)) h5 h4 h6 R I (hc▸h2) h3
theorem goodS(C:Ctx x G cf fs A)(hR:RaiseOk x G cf fs A)(hT:TryOk x G cf fs A):∀(n:Nat) (st:Stmt),sizeOf st<n->GoodS x G cf fs A st:=by
 intro n
 induction n with
 |zero=>intro st h;exact absurd h (Nat.not_lt_zero _)
 |succ n ih=>
  intro st h
  have all:∀{l:List Stmt},sizeOf l<n->GoodSs x G cf fs A l:=λh=>Jro λst hs=>ih st (Nat.lt_trans (List.sizeOf_lt_of_mem hs) h)
  clear ih
  have bad:(∀nm vars σ,evS G cf st nm vars σ=.bad)->GoodS x G cf fs A st:=λh=>⟨λR I=>by rw[h];exact .bad⟩
  cases st with
  |Expr e pos=>exact ⟨λR I=>expr_W C R I⟩
  |Return o pos=>exact ⟨λR I=>return_W C R I⟩
  |If t b o pos=>
   have h1:sizeOf b<n:=Jcx h (Nat.lt_of_lt_of_eq (sz4 _ _ _ _).2.1 (Stmt.If.sizeOf_spec t b o pos).symm)
   have h2:sizeOf o<n:=Jcx h (Nat.lt_of_lt_of_eq (sz4 _ _ _ _).2.2.1 (Stmt.If.sizeOf_spec t b o pos).symm)
   exact ⟨λR I=>if_W C (all h1) (all h2) R I⟩
  |While t b o pos=>
   have h1:sizeOf b<n:=Jcx h (Nat.lt_of_lt_of_eq (sz4 _ _ _ _).2.1 (Stmt.While.sizeOf_spec t b o pos).symm)
   cases o with
   |nil=>exact ⟨λR I=>while_W C (all h1) R I⟩
   |cons _ _=>exact bad λnm vars σ=>rfl
  |For t it b o pos=>
   have h1:sizeOf b<n:=by simp at h;exact ar366 h
   cases o with
   |nil=>exact ⟨λR I=>for_W C (all h1) R I⟩
   |cons _ _=>exact bad λnm vars σ=>rfl
  |Assign ts e pos=>
   cases ts with
   |nil=>exact bad λnm vars σ=>rfl
   |cons t ts=>
    cases ts with
    |nil=>exact ⟨λR I=>Jly C R I⟩
    |cons _ _=>exact bad λnm vars σ=>rfl
  |Raise exc cause pos=>
   cases cause with
   |none=>exact ⟨λR I=>raise_W hR R I⟩
   |some _=>exact bad λnm vars σ=>rfl
  |Try b hs o f pos=>
   cases o with
   |cons _ _=>exact bad λnm vars σ=>rfl
   |nil=>
    cases f with
    |cons _ _=>exact bad λnm vars σ=>rfl
    |nil=>exact ⟨λR I=>try_W C hT R I⟩
  |_=>exact bad λnm vars σ=>rfl
end
end
section
theorem Jfp{y:Str}:∀(names:List (Str×NameKind)) (n:Nat) (acc:List (Str×Addr)),(acc.lookup y).isSome=true->((cellsFrom n names acc).lookup y).isSome=true
 |[],_,_,h=>h
 |(m,k)::r,n,acc,h=>by
  unfold cellsFrom
  split
  ·refine Jfp r _ _ ?_
   rw[List.lookup_cons]
   split
   ·rfl
   ·exact h
  ·exact Jfp r _ _ h
theorem Jfe{y:Str}:∀(names:List (Str×NameKind)) (n:Nat) (acc:List (Str×Addr)),(y,NameKind.cell)∈names->((cellsFrom n names acc).lookup y).isSome=true
 |(m,k)::r,n,acc,h=>by
  unfold cellsFrom
  rcases List.mem_cons.mp h with e | h
  ·cases e
   rw[if_pos (by decide)]
   exact Jfp r _ _ (by simp)
  ·split
   ·exact Jfe r _ _ h
   ·exact Jfe r _ _ h
theorem Jex:∀(names:List (Str×NameKind)) (n:Nat) (acc:List (Str×Addr)),(names.map (·.1)).Nodup->(∀z∈acc.map (·.1),z∉names.map (·.1))->(acc.map (·.1)).Nodup->((cellsFrom n names acc).map (·.1)).Nodup
 |[],_,_,_,_,h=>h
 |(m,k)::r,n,acc,hn,ha,h=>by
  simp only[List.map_cons,List.nodup_cons] at hn
  unfold cellsFrom
  split
  ·refine Jex r _ _ hn.2 (λz hz=>?_) ?_
   ·rcases List.mem_cons.mp hz with rfl | hz
    ·exact hn.1
    ·exact λhm=>ha z hz (List.mem_cons_of_mem _ hm)
   ·exact List.nodup_cons.mpr ⟨λhm=>ha m hm (by simp),h⟩
  ·exact Jex r _ _ hn.2 (λz hz hm=>ha z hz (List.mem_cons_of_mem _ hm)) h
theorem Je5:∀{l:List (Str×Addr)} {y:Str×Addr},(l.map (·.1)).Nodup->y∈l->l.lookup y.1=some y.2
 |[],_,_,h=>by cases h
 |(n,a)::r,y,hn,h=>by
  simp only[List.map_cons,List.nodup_cons] at hn
  rw[List.lookup_cons]
  rcases List.mem_cons.mp h with rfl | h
  ·simp
  ·have:(y.1==n)=false:=beq_eq_false_iff_ne.mpr λe=>hn.1 (e▸List.mem_map_of_mem h)
   rw[this]
   exact Je5 hn.2 h
theorem Jki{kindOf:Str->Option NameKind}{y:Str}:∀(binds:List (Str×Value)) (m:Str->Option Value),y∉binds.map (·.1)->bindL kindOf binds m y=m y
 |[],_,_=>rfl
 |(n,v)::r,m,h=>by
  simp only[List.map_cons,List.mem_cons,not_or] at h
  unfold bindL
  rw[Jki r _ h.2]
  split
  ·exact if_neg h.1
  ·rfl
theorem Jkj{kindOf:Str->Option NameKind}{y:Str}:∀(binds:List (Str×Value)) (m:Str->Option Value),y∉binds.map (·.1)->bindC kindOf binds m y=m y
 |[],_,_=>rfl
 |(n,v)::r,m,h=>by
  simp only[List.map_cons,List.mem_cons,not_or] at h
  unfold bindC
  rw[Jkj r _ h.2]
  split
  ·rfl
  ·exact if_neg h.1
theorem Jnf{kindOf:Str->Option NameKind}{y:Str}{v:Value}(hk:kindOf y=some .local):∀(binds:List (Str×Value)) (m:Str->Option Value),(binds.map (·.1)).Nodup->(y,v)∈binds->bindL kindOf binds m y=some v
 |(n,u)::r,m,hn,h=>by
  simp only[List.map_cons,List.nodup_cons] at hn
  unfold bindL
  rcases List.mem_cons.mp h with e | h
  ·cases e
   rw[Jki r _ hn.1,if_pos hk]
   exact if_pos rfl
  ·exact Jnf hk r _ hn.2 h
theorem Jng{kindOf:Str->Option NameKind}{y:Str}{v:Value}(hk:kindOf y≠some .local):∀(binds:List (Str×Value)) (m:Str->Option Value),(binds.map (·.1)).Nodup->(y,v)∈binds->bindC kindOf binds m y=some v
 |(n,u)::r,m,hn,h=>by
  simp only[List.map_cons,List.nodup_cons] at hn
  unfold bindC
  rcases List.mem_cons.mp h with e | h
  ·cases e
   rw[Jkj r _ hn.1,if_neg hk]
   exact if_pos rfl
  ·exact Jng hk r _ hn.2 h
theorem Ji4{P:Params}{B ρ}{y:Str}{d:D}:∀{ps:List Str} {ds:List D} {vs:List Value},Jay P B ρ ds vs->Jbg ps ds y=some d->∃v,(y,v)∈ps.zip vs/\Rel P B ρ d v
 |[],ds,vs,_,h=>by simp[Jbg] at h
 |x::ps,[],vs,_,h=>by simp[Jbg] at h
 |x::ps,e::ds,vs,hr,h=>by
  obtain ⟨v,r,rfl,h1,h2⟩:=hr
  simp only[Jbg,Jac.set] at h
  by_cases hy:y=x
  ·rw[if_pos hy] at h;cases h
   exact ⟨v,by simp[hy],h1⟩
  ·rw[if_neg hy] at h
   obtain ⟨u,h3,h4⟩:=Ji4 h2 h
   exact ⟨u,by simp[h3],h4⟩
inductive ObjOk(K:Frag)(a:Addr)(ps:List Str)(sc:Scope)(body:List Stmt):Prop
 |mk (oc:Value) (od:Option Addr) (osl:Array (Option Value)) (name qual:Str) (params:Arguments) (dV kV doc pm:Value) (an:Option Addr) (cdv ct:Value)
  (h:K.lookup a=some ⟨oc,od,.func (fnOf name qual params body sc dV kV doc pm an cdv ct),osl⟩) (hc:codeIn K cdv qual=true)
  (hb:∀(vals:List Value),vals.length=ps.length->∀s:Shared,K.In s.heap->BindsTo s (fnOf name qual params body sc dV kV doc pm an cdv ct) ⟨vals,[]⟩ (ps.zip vals))
structure Ja2(x:Cx)(a:Addr)(ps:List Str)(sc:Scope)(body:List Stmt):Prop where
 obj:ObjOk x.K a ps sc body
 co:sc.isCoroutine=false
 gen:sc.isGenerator=false
 kind:sc.kind=.function
 nodup:ps.Nodup
 pars:∀y∈ps,sc.names.lookup y=some .local\/sc.names.lookup y=some .cell
 nofree:∀y∈sc.names,y.2≠.free
 names:(sc.names.map (·.1)).Nodup
 debug:sc.names.lookup ("__debug__":Str)=none
 clsd:sc.names.lookup ("__classdict__":Str)=none
noncomputable def scB(ps:List Str)(sc:Scope):Bool:=decide ((sc.isCoroutine=false/\sc.isGenerator=false)/\ps.Nodup/\(∀y∈ps,sc.names.lookup y=some .local\/sc.names.lookup y=some .cell)/\(∀y∈sc.names,y.2≠.free)/\(sc.names.map (·.1)).Nodup/\sc.names.lookup ("__debug__":Str)=none/\sc.names.lookup ("__classdict__":Str)=none)
theorem Ja2.of{x:Cx}{a:Addr}{ps:List Str}{sc:Scope}{body:List Stmt}(o:ObjOk x.K a ps sc body)(k:sc.kind=.function)(h:scB ps sc=true):Ja2 x a ps sc body:=by
 obtain ⟨⟨h1,h2⟩,h3,h4,h5,h6,h7,h8⟩:=of_decide_eq_true h
 exact ⟨o,h1,h2,k,h3,h4,h5,h6,h7,h8⟩
section
variable{x:Cx}{G:Prg}{fs:List Env}{A:Around}{p:Pt}
theorem Ext.leave{Pv:List Addr}{q0 q:Pt}{env:Env}{L:Addr}(X0:Ext fs [] p q0)(hf:env.frame=some L)(X:Ext (env::fs) Pv q0 q)(hL:p.s.heap.get? L=Option.none)(hP:∀a∈Pv,p.s.heap.get? a=Option.none):Ext fs [] p q where
 b:=λa o e=>X.b _ _ (X0.b _ _ e)
 r:=by
  obtain ⟨r1,e1⟩:=X0.r
  obtain ⟨r2,e2⟩:=X.r
  exact ⟨r1++r2,by rw[e2,e1,List.append_assoc]⟩
 bnew:=λa o e=>(X.bnew a o e).elim (λh=>X0.bnew a o h) λh=>.inr (X0.none h)
 rnew:=λa e=>(X.rnew a e).elim (λh=>X0.rnew a h) λh=>.inr (X0.none h)
 keep:=λa o e hr _=>by
  obtain ⟨⟨sl,h1⟩,h2⟩:=X0.keep a o e hr (by simp)
  have hq:a∉q0.ρ:=λh=>(X0.rnew a h).elim hr (λh=>by rw[h] at e;cases e)
  have hp:a∉Pv:=λh=>by rw[hP a h] at e;cases e
  obtain ⟨⟨sl',h3⟩,_⟩:=X.keep a _ h1 hq hp
  refine ⟨⟨sl',h3⟩,λhm=>(X.keep a o (h2 hm) hq hp).2 ?_⟩
  unfold frA
  rw[List.filterMap_cons,hf]
  intro hm2
  rcases List.mem_cons.mp hm2 with rfl | hm2
  ·rw[hL] at e;cases e
  ·exact hm hm2
 there:=λa o e=>by
  obtain ⟨o',h⟩:=X0.there a o e
  exact X.there a o' h
 same:=by
  obtain ⟨h1,t1,e1⟩:=X0.same
  obtain ⟨h2,t2,e2⟩:=X.same
  exact ⟨h2,t2,by rw[e2,e1]⟩
theorem Inv.tail{env:Env}(I:Inv x (env::fs) p):Inv x fs p:={ I with frames:=I.frames.2 }
set_option backward.match.sparseCases true in
set_option maxHeartbeats 1000000 in
theorem Jf5{a:Addr}{ps:List Str}{sc:Scope}{body:List Stmt}(F:Ja2 x a ps sc body)(hK:x.K.In x.h0)(hlim:x.h0.NoLimit)(hroom:A.depth<recursionLimit){as:List D}{vs:List Value}(I:Inv x fs p)(hr:RelVs x p as vs)(hl:ps.length=as.length)
  {R:Result->Shared->Prop}
  (hb:∀env q,q.σ=p.σ->env.frame=some env.locals->env.scope.kind=.function->Inv x (env::fs) q->Jaz x (env::fs) env sc.names (Jbg ps as) q->Ext fs [] p q->(∀c∈pvt env,p.s.heap.get? c=none)->(∀b o,p.s.heap.get? b=some o->q.s.heap.get? b=some o)->
   wpAny (model x.prog x.w) (A.deeper env) (execs body env) (λf s'=>R (.ok (.ret (match f with | .ret v=>v | _=>.none))) s')
    (λe s'=>wpAny (model x.prog x.w) (A.deeper env) (leaving env e) (λ_ s''=>R (.error e) s'') (λe' s''=>R (.error e') s'') s') q.s) :
  codeAny (model x.prog x.w) A (.call (.ref a) ⟨vs,[]⟩) R p.s:=by
 obtain ⟨oc,od,osl,name,qual,params,dV,kV,doc,pm,an,cdv,ct,ho,hcd,hbind⟩:=F.obj
 have X:=hK.keeps I.keepsBase
 have hvl:vs.length=ps.length:=(Jay.len hr).trans hl.symm
 refine codeAny_call_function (fd:=fnOf name qual params body sc dV kV doc pm an cdv ct) (body:=body) hroom (X _ _ ho) rfl F.co F.gen rfl (codeRec_of X hcd) ?_
 refine hbind vs hvl p.s X _ _ _ _ ?_
 have hmap:(ps.zip vs).map (·.1)=ps:=by
  rw[List.map_fst_zip (by exact ar70 hvl)]
 have hkind:∀y∈ps.zip vs,sc.names.lookup y.1=some .local\/(sc.names.lookup y.1=some .cell/\((cellsFrom (p.s.heap.objs.size+1) sc.names []).lookup y.1).isSome=true):=λy hy=>by
  have hm:y.1∈ps:=by rw[<-hmap];exact List.mem_map_of_mem hy
  rcases F.pars _ hm with h | h
  ·exact .inl h
  ·exact .inr ⟨h,Jfe _ _ _ (Jbr h)⟩
 refine wpAny_newFunctionEnv_cells F.kind hkind λenv he s' Y=>?_
 have heL:env.locals=p.s.heap.objs.size:=by rw[he];rfl
 have hef:env.frame=some env.locals:=by rw[he];rfl
 have hek:env.scope=sc:=by rw[he];rfl
 have heg:env.globals=mainGlobals:=by rw[he];rfl
 have heb:env.builtins=builtinsNs:=by rw[he];rfl
 have hec:env.cells=cellsFrom (p.s.heap.objs.size+1) sc.names []:=by rw[he];rfl
 clear he
 obtain ⟨h₁,tk,rfl,hkeep⟩:=Y.toInCall.done
 have nL:p.s.heap.get? env.locals=none:=by rw[heL];exact Jbe _
 have nCells:∀c∈env.cells.map (·.2),p.s.heap.get? c=none/\c≠env.locals:=λc hc=>by
  obtain ⟨y,hy,rfl⟩:=List.mem_map.mp hc
  have:=Y.above _ _ hy
  rw[heL] at this ⊢
  exact ⟨Heap.get?_none_of_le (Nat.le_of_lt this),Nat.ne_of_gt this⟩
 let q0:Pt:=p.grow h₁ tk
 have I0:Inv x fs q0:=I.grow hkeep tk
 have X0:Ext fs [] p q0:=Ext.grow hkeep _ _
 have bN:∀c,p.s.heap.get? c=none->q0.B c=none:=λc hc=>by
  cases e:p.B c with
  |none=>exact e
  |some ob=>rw[I.froz _ _ e] at hc;cases hc
 have rN:∀c,p.s.heap.get? c=none->c∉q0.ρ:=λc hc hm=>by
  obtain ⟨ob,ho⟩:=I.ρlt hm
  rw[hc] at ho;cases ho
 obtain ⟨oL,hoL,hoLd⟩:=ns_nf Y.toInCall.ns
 have I1:Inv x (env::fs) q0:={ I0 with frames:=⟨⟨by rw[hek,F.kind];decide,env.locals,oL,hef,hoL,hoLd,bN _ nL,rN _ nL⟩,I0.frames⟩ }
 have hko:∀y,env.kindOf y=sc.names.lookup y:=λy=>by unfold Env.kindOf;rw[hek]
 have hr0:RelVs x q0 as vs:=Jay.mono X0.sub hr
 have R:Jaz x (env::fs) env sc.names (Jbg ps as) q0:=by
  refine ⟨by rw[hek];exact F.kind,λy=>.inl (hko y),heg,heb,F.debug,F.clsd,⟨_,Y.toInCall.ns,λy d e1 e2=>?_⟩,λy hy=>?_,λy z c e1 e2=>?_,λy c e=>(nCells c (Jby e)).2,λc hc=>?_,env,fs,env.locals,rfl,hef,hef⟩
  ·obtain ⟨v,h1,h2⟩:=Ji4 hr0 e2
   exact ⟨v,Jnf ((hko y).trans e1) _ _ (by rw[hmap];exact F.nodup) h1,h2⟩
  ·have hc:sc.names.lookup y=some .cell:=hy.resolve_right λh=>F.nofree _ (Jbr h) rfl
   obtain ⟨c,hcl⟩:=Option.isSome_iff_exists.mp (Jfe (n:=p.s.heap.objs.size+1) (acc:=[]) sc.names (Jbr hc))
   rw[<-hec] at hcl
   refine ⟨c,_,hcl,Y.cell y c hcl,λd e2=>?_⟩
   obtain ⟨v,h1,h2⟩:=Ji4 hr0 e2
   exact ⟨v,Jng (by rw[hko,hc];decide) _ _ (by rw[hmap];exact F.nodup) h1,h2⟩
  ·exact name_of_addr Y.apart (mem_of_lookup e1) (mem_of_lookup e2)
  ·rcases List.mem_cons.mp hc with rfl | hc
   ·exact ⟨bN _ nL,rN _ nL,oL,hoL⟩
   ·obtain ⟨y,hy,rfl⟩:=List.mem_map.mp hc
    have hn:=(nCells y.2 (List.mem_map_of_mem hy)).1
    refine ⟨bN _ hn,rN _ hn,?_⟩
    have hnd:(env.cells.map (·.1)).Nodup:=by rw[hec];exact Jex _ _ _ F.names (by simp) (by simp)
    obtain ⟨o,ho,_⟩:=Y.cell y.1 y.2 (Je5 hnd hy)
    exact ⟨o,ho⟩
 refine ⟨hlim.keeps λb o e=>hkeep _ _ (I.keepsBase b o e),codeAny_func ?_⟩
 exact hb env q0 rfl hef (by rw[hek];exact F.kind) I1 R X0 (λc hc=>by
  rcases List.mem_cons.mp hc with rfl | hc
  ·exact nL
  ·exact (nCells c hc).1) hkeep
theorem fn_W{a:Addr}{ps:List Str}{sc:Scope}{body:List Stmt}(F:Ja2 x a ps sc body)(hK:x.K.In x.h0)(hlim:x.h0.NoLimit)(hroom:A.depth<recursionLimit)(hfr:A.frames=some fs){as:List D}{vs:List Value}(I:Inv x fs p)(hr:RelVs x p as vs)(hl:ps.length=as.length)
  {r:Out (Jac×Fl)} (hb:∀env q,q.σ=p.σ->env.frame=some env.locals->env.scope.kind=.function->Inv x (env::fs) q->Jaz x (env::fs) env sc.names (Jbg ps as) q->W x (env::fs) (A.deeper env) (pvt env) (execs body env) r (StR x (env::fs) env sc.names) q) :
  W x fs A [] (call (.ref a) vs) (r.bind λr σ=>(match r.2 with
    |.next=>.ok .none σ
    |.ret d=>.ok d σ)) (Jaj x) p:=by
 intro hne
 have hrb:r≠.bad:=by rintro rfl;exact hne rfl
 refine wpAny_call (Jf5 F hK hlim hroom I hr hl λenv q0 hσ hef hek I1 R X0 hn hkeep=>?_)
 have nL:=hn env.locals (List.mem_cons_self ..)
 refine wpAny_mono (hb env q0 hσ hef hek I1 R hrb) ?_ ?_
 ·rintro f s'' ⟨⟨v',fl⟩,q,e1,rfl,I2,X2,R2,hf⟩
  have XL:Ext fs [] p q:=X0.leave hef X2 nL hn
  cases fl with
  |next=>
   have hf:f=.next:=hf
   subst hf
   exact ⟨.none,q,by rw[e1];rfl,rfl,I2.tail,XL,rfl⟩
  |ret d=>
   obtain ⟨v,rfl,hv⟩:=hf
   exact ⟨d,q,by rw[e1];rfl,rfl,I2.tail,XL,hv⟩
 ·rintro e s'' ⟨w,n,q,e1,rfl,I2,X2,hE⟩
  have Fl0:Jar x (env::fs) (pvt env) q0 w n q.σ false e q.s:=⟨q,rfl,rfl,I2,X2,hE⟩
  refine Fl0.leaving (A:=A.deeper env) (by show A.frames.map _=_;rw[hfr];rfl) hef hef λs3 F3=>?_
  obtain ⟨q3,g1,rfl,I3,X3,hE3⟩:=F3
  exact ⟨w,n,q3,by rw[e1,g1];rfl,rfl,I3.tail,X0.leave hef X3 nL hn,(hE3.weak).older λa=>X0.none⟩
end
end
section
theorem Jcr{P B ρ}{y:Str}{d:D}{v:Value}{key:Value}(hkey:∃t,key=.str y t)(hv:Rel P B ρ d v):∀{ns:List Str} {ds:List D} {es:List DictEntry},RelF P B ρ ns ds es->y∉ns->RelF P B ρ (ns++[y]) (ds++[d]) (putL y (PyData.keyHash P y) key v es)
 |ns,[],es,h,hn=>by
  obtain ⟨rfl,rfl⟩:=h
  obtain ⟨t,rfl⟩:=hkey
  exact mkFC hv (⟨rfl,rfl⟩:_/\_)
 |ns,e::ds,es,h,hn=>by
  obtain ⟨n,ns',hh,t,u,r,rfl,rfl,h1,h2,h3⟩:=h
  simp only[List.mem_cons,not_or] at hn
  have:((Value.str n t).isStr y)=false:=by rw[Jc7];exact beq_eq_false_iff_ne.mpr (Ne.symm hn.1)
  simp only[putL,this,Bool.false_eq_true,if_false,List.cons_append]
  exact mkF ⟨n,_,hh,t,u,_,rfl,rfl,h1,h2,Jcr hkey hv h3 hn.2⟩
theorem Jgt{P B ρ}{y:Str}{ns:List Str}{ds:List D}{es:List DictEntry}(h:RelF P B ρ ns ds es)(hn:y∉ns):getL y es=some none:=by
 refine Jfa h ?_
 cases e:getF ns ds y with
 |none=>rfl
 |some d=>exact absurd (Jir (ds:=ds) (by rw[e];rfl)) hn
noncomputable def InitBody(self:Str):List (Str×Expr)->List Stmt->Prop
 |[],l=>l=[]
 |(f,e)::r,l=>∃p1 p2 p3 l',l=.Assign [.Attribute (.Name self p1) f p2] e p3::l'/\InitBody self r l'
structure MakeOk(x:Cx)(C:Addr)(ps:List Str)(sc:Scope)(fields:List (Str×Expr)):Prop where
 makes:makesIn x.K C=true
 init:∃fI self body,findIn x.K (.ref C) "__init__"=some (some (.ref fI))/\typeIn x.K (.ref fI)=some (.type "function")/\Ja2 x fI (self::ps) sc body/\InitBody self fields body/\sc.names.lookup self=some .local
 fld:∀f∈fields,FldOk x.K C f.1
 nodup:(fields.map (·.1)).Nodup
 size:fields.length<=100
 keep:keepIn x.K (.ref C)=true
section
variable{x:Cx}{G:Prg}{cf:Addr->List D->Jaa->Out D}{fs:List Env}{A:Around}{p:Pt}{env:Env}{nm:List (Str×NameKind)}{vars:Jac}
inductive Frozen(x:Cx)(fs:List Env)(Pv:List Addr)(p0 q:Pt)(a:Addr)(o:Obj):Prop
 |mk (q':Pt) (h1:q'.σ=q.σ) (h2:q'.s=q.s) (h3:q'.ρ=q.ρ) (h4:∀b,b≠a->q'.B b=q.B b) (h5:q'.B a=some o) (h6:Inv x fs q') (h7:Ext fs Pv p0 q') (h8:Sub q.B q.ρ q'.B q'.ρ)
theorem Jrh{p0 q:Pt}{a:Addr}{o:Obj}{Pv:List Addr}(hF:a∉frA fs)(V:Inv x fs q)(E:Ext fs Pv p0 q)(an:p0.s.heap.get? a=none)(aB:q.B a=none)(aρ:a∉q.ρ)(ho:q.s.heap.get? a=some o):Frozen x fs Pv p0 q a o:=by
 have S:Sub q.B q.ρ (q.ice a o).B q.ρ:=⟨λb ob e=>by
  unfold Pt.ice Fz.put;dsimp only
  rw[if_neg (by rintro rfl;rw[aB] at e;cases e)];exact e,λ_ _ e=>e⟩
 have hget:(q.ice a o).B a=some o:=by unfold Pt.ice Fz.put;dsimp only;rw[if_pos rfl]
 have hne:∀b,b≠a->(q.ice a o).B b=q.B b:=λb hb=>by unfold Pt.ice Fz.put;dsimp only;rw[if_neg hb]
 refine ⟨q.ice a o,rfl,rfl,rfl,hne,hget,⟨λb ob e=>S.b _ _ (V.base b ob e),λb ob e=>?_,V.len,V.nd,λb hb=>?_,λi b m e1 e2=>?_,?_⟩,?_,S⟩
 ·by_cases hb:b=a
  ·subst hb;rw[hget] at e;cases e;exact ho
  ·rw[hne b hb] at e;exact V.froz _ _ e
 ·rw[hne b (by rintro rfl;exact aρ hb)];exact V.off b hb
 ·obtain ⟨ob,g1,g2⟩:=V.mu i b m e1 e2
  exact ⟨ob,g1,g2.mono S⟩
 ·exact Jaq.by (p:=q) (λb hb=>⟨λh=>by rw[hne b (by rintro rfl;exact hF hb)];exact h,id,λob h1 h2=>⟨ob,h1,h2⟩⟩) V.frames
 ·exact
     {b:=λb ob e=>S.b _ _ (E.b b ob e),r:=E.r,bnew:=λb ob e=>by
       by_cases hb:b=a
       ·subst hb;exact .inr an
       ·rw[hne b hb] at e;exact E.bnew b ob e,rnew:=E.rnew,keep:=E.keep,there:=E.there,same:=E.same }
structure InitSt(x:Cx)(fs:List Env)(p0:Pt)(C dx obj:Addr)(ns:List Str)(ds:List D)(q:Pt):Prop where
 inv:Inv x fs q
 ext:Ext fs [] p0 q
 dn:p0.s.heap.get? dx=none
 on:p0.s.heap.get? obj=none
 ne:dx≠obj
 dB:q.B dx=none
 oB:q.B obj=none
 dρ:dx∉q.ρ
 oρ:obj∉q.ρ
 dF:dx∉frA fs
 oF:obj∉frA fs
 obj_:q.s.heap.get? obj=some (instObj C dx)
 dict:∃es n,q.s.heap.get? dx=some (dictOf es n)/\RelF x.w.params q.B q.ρ ns ds es
theorem InitSt.on_{p0 q q':Pt}{C dx obj:Addr}{ns:List Str}{ds:List D}(X:InitSt x fs p0 C dx obj ns ds q)(I':Inv x fs q')(E:Ext fs [] q q'):InitSt x fs p0 C dx obj ns ds q':=by
 obtain ⟨es,n,h1,h2⟩:=X.dict
 exact ⟨I',X.ext.trans E,X.dn,X.on,X.ne,E.bNone X.dB ⟨_,h1⟩,E.bNone X.oB ⟨_,X.obj_⟩,E.rNone X.dρ ⟨_,h1⟩,E.rNone X.oρ ⟨_,X.obj_⟩,X.dF,X.oF,(E.keep _ _ X.obj_ X.oρ (by simp)).2 X.oF,es,n,(E.keep _ _ h1 X.dρ (by simp)).2 X.dF,h2.mono E.sub⟩
set_option maxHeartbeats 1000000 in
theorem init_run(C0:Ctx x G cf fs A){C dx obj:Addr}{self:Str}{p0:Pt}{vars0:Jac}(hv0:∀y d,vars0 y=some d->vars y=some d)(hself:vars self=some (.val (.ref obj)))(hsl:nm.lookup self=some .local)(hKx:x.K.In x.h0)(hdp:dx∉pvt env)
  {E:Value->Shared->Prop} {Q:Flow->Shared->Prop}:∀{fields:List (Str×Expr)} {body:List Stmt} {ns:List Str} {ds:List D} {q:Pt} {rT:Out (List D)},InitBody self fields body->(∀f∈fields,FldOk x.K C f.1)->(ns++fields.map (·.1)).Nodup->ns.length+fields.length<=100->
  InitSt x fs p0 C dx obj ns ds q->Jaz x fs env nm vars q->rT≠.bad->rT=(evFs G cf fields nm vars0 q.σ).bind (λes σ=>.ok (ds++es) σ)->
  (∀es q',rT=.ok es q'.σ->InitSt x fs p0 C dx obj (ns++fields.map (·.1)) es q'->Q .next q'.s)->
  (∀w k σ e s' q',rT=.exc w k σ->Ext fs [] p0 q'->Jar x fs [] q' w k σ false e s'->E e s')->wpAny (model x.prog x.w) A (execs body env) Q E q.s:=by
 intro fields
 induction fields with
 |nil=>
  intro body ns ds q rT hb hf hn hz S R hbad hrT hq he
  simp only[InitBody] at hb
  subst hb
  simp only[evFs] at hrT
  refine wpAny_execs_nil (hq ds q ?_ ?_)
  ·rw[hrT];show Out.ok (ds++[]) q.σ=_;rw[List.append_nil]
  ·rw[List.map_nil,List.append_nil];exact S
 |cons fe r ih=>
  obtain ⟨f,e⟩:=fe
  intro body ns ds q rT hb hf hn hz S R hbad hrT hq he
  simp only[InitBody] at hb
  obtain ⟨p1,p2,p3,l',rfl,hb'⟩:=hb
  simp only[evFs] at hrT
  rw[Jat] at hrT
  have ge:Good x G cf fs A e:=good C0 _ _ (Nat.lt_succ_self _)
  have R0:Jaz x fs env nm vars0 q:=R.less hv0
  refine wpAny_execs_cons ?_
  have e0:exec (.Assign [.Attribute (.Name self p1) f p2] e p3) env=(standAt p3 >>= λ_=>swapsWithSole [.Attribute (.Name self p1) f p2] e p3.line env >>= λb=>if b=true then (do evalThenUse e env λv=>assignAll v ((assignEach [.Attribute (.Name self p1) f p2] env).map (·.2));pure .next) else (do
   let v <-eval e env
   assignStores env v (<-swappedStores [.Attribute (.Name self p1) f p2] e env) ((assignEach [.Attribute (.Name self p1) f p2] env).map (·.2)))):=rfl
  rw[e0]
  refine wpAny_bind (wpAny_standAt ?_)
  rw[Jjj]
  show wpAny _ A (eval e env >>= λv=>swappedStores [.Attribute (.Name self p1) f p2] e env >>= λsw=>assignStores env v sw ((assignEach [.Attribute (.Name self p1) f p2] env).map (·.2))) _ _ q.s
  rw[Je4 (.inl λ_ _ _ h=>by cases h) λ_ _ h=>by cases h]
  refine wpAny_bind (wpAny_mono (ge.ev R0 S.inv λh=>hbad (by rw[hrT,h];rfl)) ?_ ?_)
  rotate_left
  ·rintro ev s' ⟨w,k,q2,g1,rfl,I2,X2,hE⟩
   exact he w k q2.σ ev q2.s q (by rw[hrT,g1];rfl) S.ext ⟨q2,rfl,rfl,I2,X2,hE⟩
  rintro v s' ⟨d,q2,g1,rfl,I2,X2,hv⟩
  rw[g1] at hrT
  have hrT2:rT=((evFs G cf r nm vars0 q2.σ).bind λes σ=>.ok (d::es) σ).bind λes σ=>.ok (ds++es) σ:=hrT
  have S2:=S.on_ I2 X2
  have R2:=R.ext0 X2
  show wpAny _ A (assign (.Attribute (.Name self p1) f p2) env v >>= λ_=>pure Flow.next) _ _ q2.s
  refine wpAny_bind ?_
  show wpAny _ A (holding [v] (eval (.Name self p1) env) >>= λov=>standAt p2.atName >>= λ_=>holding [v,ov] (setAttr ov f v) >>= λ_=>release [v,ov] []) _ _ q2.s
  obtain ⟨m,hns,hm⟩:=R2.loc
  obtain ⟨u,hu1,hu2⟩:=hm self _ hsl hself
  cases (hu2:u=.ref obj)
  have hk:env.kindOf self=some .local:=by
   rcases R2.names self with h | h
   ·rw[h,hsl]
   ·rw[hsl] at h;cases h.2
  have hd:(self==("__debug__":Str))=false:=by
   cases h:self==("__debug__":Str) with
   |false=>rfl
   |true=>have:=R2.debug;rw[<-eq_of_beq h,hsl] at this;cases this
  refine wpAny_bind (wpAny_holding (wpAny_Name (wpAny_loadName_local R2.kind hk hns hu1 ?_) hd))
  refine wpAny_bind (wpAny_standAt (wpAny_bind (wpAny_holding ?_)))
  obtain ⟨es,n,h1,h2⟩:=S2.dict
  have hnf:f∉ns:=λhm=>by
   rw[List.nodup_append] at hn
   exact hn.2.2 f hm f (by simp) rfl
  have hlen:=h2.len
  refine Jhe (hKx.keeps I2.keepsBase) (Jlf S2.obj_ h1) (hf (f,e) (by simp)) (by rw[Jgt h2 hnf];rfl) (by simp at hz;exact ar282 hz hlen) λh' tk key k1 k2 k3=>?_
  refine Jc3 (wpAny_pure ?_)
  have hs:=k1.extBut
  have S3:InitSt x fs p0 C dx obj (ns++[f]) (ds++[d]) (q2.own h' tk):=
   ⟨S2.inv.chgF tk S2.dB S2.dρ S2.dF hs,S2.ext.chg tk hs S2.dn,S2.dn,S2.on,S2.ne,S2.dB,S2.oB,S2.dρ,S2.oρ,S2.dF,S2.oF,(k1.2 obj (Ne.symm S2.ne)).trans S2.obj_,_,_,k2,Jcr k3 hv h2 hnf⟩
  refine ih (q:=q2.own h' tk) hb' (λg hg=>hf g (by simp[hg])) (by simpa using hn) (by simp at hz ⊢;exact ar257 hz) S3 (R2.chg tk hs hdp) hbad ?_ (λes q' g2 S4=>hq es q' g2 (by simpa using S4)) he
  rw[hrT2,Jat]
  congr 1
  funext es σ
  simp[Out.bind]
theorem Joy{self:Str}{ps:List Str}{d:D}{as:List D}(hn:self∉ps)(hl:ps.length=as.length):∀y e,Jbg ps as y=some e->Jbg (self::ps) (d::as) y=some e:=by
 intro y e h
 simp only[Jbg,Jac.set]
 split
 ·rename_i hy
  subst hy
  have:∀{ps:List Str} {as:List D},y∉ps->Jbg ps as y=none:=by
   intro ps
   induction ps with
   |nil=>intro as _;cases as<;>rfl
   |cons z zs ih=>
    intro as hz
    simp only[List.mem_cons,not_or] at hz
    cases as with
    |nil=>rfl
    |cons a as=>
     simp only[Jbg,Jac.set]
     rw[if_neg hz.1]
     exact ih hz.2
  rw[this hn] at h;cases h
 ·exact h
theorem Ext.frames{Pv:List Addr}{q:Pt}(X:Ext fs Pv p q):Ext (env::fs) Pv p q:=
 { X with keep:=λa o e h1 h2=>let ⟨k1,k2⟩:=X.keep a o e h1 h2;⟨k1,λhm=>k2 λh=>hm (by
   unfold frA at h ⊢
   rw[List.filterMap_cons]
   split
   ·exact h
   ·exact List.mem_cons_of_mem _ h)⟩ }
set_option maxHeartbeats 1000000 in
theorem make_W{vsOf:List Value}{C:Addr}{ps:List Str}{sc:Scope}{fields:List (Str×Expr)}(M:MakeOk x C ps sc fields)(hK:x.K.In x.h0)(hlim:x.h0.NoLimit)(hroom:A.depth+1<recursionLimit)(hfr:A.frames=some fs)
  (C0:∀env,env.frame=some env.locals->Ctx x G cf (env::fs) ((A.under (.builtin "type.__call__" ⟨.ref C::vsOf,[]⟩)).deeper env)) {as:List D} (I:Inv x fs p) (hr:RelVs x p as vsOf) (hl:ps.length=as.length) (frozen:Bool) :
  W x fs A [] (call (.ref C) vsOf) ((evFs G cf fields sc.names (Jbg ps as) p.σ).bind λds σ=>
    if frozen=true then .ok (.inst C (fields.map (·.1)) ds) σ else .ok (.obj C σ.length) (σ++[.dict (fields.map (·.1)) ds])) (Jaj x) p:=by
 intro hne
 have hrb:evFs G cf fields sc.names (Jbg ps as) p.σ≠.bad:=λe=>hne (by rw[e];rfl)
 obtain ⟨fI,self,body,hi,hft,F,hbody,hsl⟩:=M.init
 obtain ⟨B,ρ,σ,hp,g,dd,t,os⟩:=p
 have X:=hK.keeps I.keepsBase
 refine wpAny_call (make_core (makes_of X M.makes) (looks_findIn X hi) (λself=>bind_fn X self hft) (.inl rfl) ?_)
 let P:Pt:=⟨B,ρ,σ,⟨hp,g,dd,t,os⟩⟩
 have I:Inv x fs P:=I
 let h1:Heap:=(hp.push emptyDict).push (instObj C hp.objs.size)
 have old:∀b o,P.s.heap.get? b=some o->h1.get? b=some o:=λb o e=>Heap.get?_push_of_some _ (Heap.get?_push_of_some _ e)
 let p1:Pt:=P.grow h1 t
 have I1:Inv x fs p1:=I.grow old t
 have X1:Ext fs [] P p1:=Ext.grow old _ _
 have gd:p1.s.heap.get? hp.objs.size=some emptyDict:=Heap.get?_push_of_some _ (Heap.get?_push_size _ rfl)
 have go:p1.s.heap.get? (hp.objs.size+1)=some (instObj C hp.objs.size):=by
  have:=Heap.get?_push_size (hp.push emptyDict) (o:=instObj C hp.objs.size) rfl
  rw[Heap.size_push] at this
  exact this
 have nd:P.s.heap.get? hp.objs.size=none:=Jbe hp
 have no:P.s.heap.get? (hp.objs.size+1)=none:=Heap.get?_none_of_le (Nat.le_succ _)
 have bN:∀c,P.s.heap.get? c=none->p1.B c=none:=λc hc=>by
  cases e:P.B c with
  |none=>exact e
  |some ob=>rw[I.froz _ _ e] at hc;cases hc
 have rN:∀c,P.s.heap.get? c=none->c∉p1.ρ:=λc hc hm=>by
  obtain ⟨ob,ho⟩:=I.ρlt hm
  rw[hc] at ho;cases ho
 have hr1:RelVs x p1 (.val (.ref (hp.objs.size+1))::as) (.ref (hp.objs.size+1)::vsOf):=by
  exact mkC (rfl:_=_) (Jay.mono X1.sub hr)
 refine Jf5 (p:=p1) (A:=A.under (.builtin "type.__call__" ⟨.ref C::vsOf,[]⟩)) F hK hlim hroom I1 hr1 (by simp[hl]) λenv q0 hσ hef hek I0 R0 X0 hn hkeep=>?_
 have nL1:=hn env.locals (List.mem_cons_self ..)
 have back:∀c,p1.s.heap.get? c=none->P.s.heap.get? c=none:=λc hc=>X1.none hc
 have nL:P.s.heap.get? env.locals=none:=back _ nL1
 have dp:hp.objs.size∉pvt env:=λhm=>by have:=hn _ hm;rw[gd] at this;cases this
 have offF:∀c,P.s.heap.get? c=none->(∃o,p1.s.heap.get? c=some o)->c∉frA (env::fs):=λc hc ⟨o,ho⟩ hm=>by
  unfold frA at hm
  rw[List.filterMap_cons,hef] at hm
  rcases List.mem_cons.mp hm with rfl | hm
  ·rw[nL1] at ho;cases ho
  ·exact Ja8 I hc hm
 have XP0:Ext (env::fs) [] P q0:=(X1.trans X0).frames
 have S0:InitSt x (env::fs) P C hp.objs.size (hp.objs.size+1) [] [] q0:=
  ⟨I0,XP0,nd,no,Nat.ne_of_lt (Nat.lt_succ_self _),X0.bNone (bN _ nd) ⟨_,gd⟩,X0.bNone (bN _ no) ⟨_,go⟩,X0.rNone (rN _ nd) ⟨_,gd⟩,X0.rNone (rN _ no) ⟨_,go⟩,offF _ nd ⟨_,gd⟩,offF _ no ⟨_,go⟩,hkeep _ _ go,[],0,hkeep _ _ gd,by simp[RelF]⟩
 have hns:self∉ps:=λhm=>(List.nodup_cons.mp F.nodup).1 hm
 have hev:evFs G cf fields sc.names (Jbg ps as) q0.σ=evFs G cf fields sc.names (Jbg ps as) σ:=by rw[hσ];rfl
 refine init_run (C0 env hef) (vars0:=Jbg ps as) (Joy hns hl) (by simp[Jbg,Jac.set]) hsl hK dp (rT:=evFs G cf fields sc.names (Jbg ps as) q0.σ) hbody M.fld (by simpa using M.nodup) (by have:=M.size;simp;exact ar62 this) S0 R0 (by rw[hev];exact hrb) (by
   show _=Out.bind _ (λes σ=>Out.ok ([]++es) σ)
   simp only[List.nil_append]
   exact (bind_ok _).symm) ?_ ?_
 ·intro es q' h2 S
  refine ⟨rfl,?_⟩
  have VI:Inv x fs q':=S.inv.tail
  have VE:Ext fs [] P q':=(Ext.refl fs [] P).leave hef S.ext nL (by simp)
  obtain ⟨q1,f1,f2,f3,f4,f5,f6,f7,f8⟩:=Jrh (a:=hp.objs.size+1) (Ja8 I no) VI VE no S.oB S.oρ S.obj_
  obtain ⟨des,n,d1,d2⟩:=S.dict
  rw[List.nil_append] at d2
  have dB1:q1.B hp.objs.size=none:=by rw[f4 _ S.ne];exact S.dB
  have dρ1:hp.objs.size∉q1.ρ:=by rw[f3];exact S.dρ
  have d1':q1.s.heap.get? hp.objs.size=some (dictOf des n):=by rw[f2];exact d1
  have d2':=d2.mono f8
  rw[hev] at h2
  cases frozen with
  |true=>
   obtain ⟨q2,e1,e2,e3,e4,e5,e6,e7,e8⟩:=Jrh (a:=hp.objs.size) (Ja8 I nd) f6 f7 nd dB1 dρ1 d1'
   refine ⟨.inst C (fields.map (·.1)) es,q2,?_,e2.trans f2,e6,e7,?_⟩
   ·show Out.bind (evFs G cf fields sc.names (Jbg ps as) σ) _=_
    rw[h2]
    show Out.ok _ q'.σ=_
    rw[e1,f1]
   ·exact mkInst ⟨_,_,des,n,rfl,e8.b _ _ f5,e5,d2'.mono e8⟩
  |false=>
   obtain ⟨q2,e1,e2,e3,e4,e5,eB⟩:=Jq7 (m:=.dict (fields.map (·.1)) es) I f6 f7 nd dB1 dρ1 d1' ⟨M.nodup,des,n,rfl,d2'⟩
   refine ⟨.obj C q'.σ.length,q2,?_,e2.trans f2,e3,e4,?_⟩
   ·show Out.bind (evFs G cf fields sc.names (Jbg ps as) σ) _=_
    rw[h2]
    show Out.ok _ (q'.σ++_)=_
    rw[e1,f1]
   ·obtain ⟨a',e6,e7⟩:=e5
    cases e6
    exact mkObj ⟨_,_,rfl,by rw[eB];exact f5,by rw[<-f1];exact e7⟩
 ·intro w k σ' e s' qb h2 Eb Fl
  rw[hev] at h2
  have Fl0:Jar x (env::fs) [] P w k σ' false e s':=Jar.base Eb Fl
  refine Fl0.leaving (A:=(A.under (.builtin "type.__call__" ⟨.ref C::vsOf,[]⟩)).deeper env) (by show A.frames.map _=_;rw[hfr];rfl) hef hef λs3 F3=>?_
  obtain ⟨q3,g1,rfl,I3,X3,hE3⟩:=F3
  refine ⟨w,k,q3,?_,rfl,I3.tail,(Ext.refl fs [] P).leave hef X3 nL (by simp),hE3.weak⟩
  show Out.bind (evFs G cf fields sc.names (Jbg ps as) σ) _=_
  rw[h2,g1];rfl
end
end
section
open Builtin Builtin.ObjectAttr
noncomputable abbrev tbm:List Value:=[.ref 46,.type "Exception",.type "BaseException",.type "object"]
noncomputable abbrev teO(C:Addr):Obj:=excClassObj "TextError" "TextError" C 58 [.ref 46] tbm true [] [] false none none (some (.ref 50)) none (some (.str "TextError" 234)) (some (.str "TextError" 242)) (some (.bool true)) "Exception.__new__"
structure Jds(K:Frag)(C:Addr):Prop where
 obj:K.lookup C=some (teO C)
 pass:∀self,refuseLoop self "__setattr__" (.ref C::tbm)=pure ()
 sa:findIn K (.ref C) "__setattr__"=some (some (.builtin "object.__setattr__"))
theorem tbE:tbm.contains (.type "Exception")=true:=by decide
theorem tbB:tbm.contains (.type "BaseException")=true:=by decide
theorem tbA:tbm.contains (.type "AttributeError")=false:=by decide
theorem tbN:tbm.contains (.type "NameError")=false:=by decide
theorem tbO:tbm.contains (.type "object")=true:=by decide
theorem Jds.cls{K:Frag}{C:Addr}(T:Jds K C):∃cd,clsIn K C=some cd/\cd.mro=.ref C::tbm/\cd.hasDict=true:=⟨_,by unfold clsIn;rw[T.obj],rfl,rfl⟩
section
variable{prog:Program}{w:World}{A:Around}{E:Value->Shared->Prop}{h:Heap}{g:Array GenState}{d:Drawn}{t:Nat}{os:OsState}
variable{nm q:Str}{C N:Addr}{bs bm:List Value}{hdct:Bool}{sn:List Str}{sub:List Value}{ab:Bool}{col:Option Bool}{dd:Option Addr}{k0 k1 k2 k3 k5:Option Value}{B newId initId:String}{bmB:List Value}{K:Frag}
theorem Jiv(F:ExcBaseFacts B newId initId bmB)(hb:bm.contains (.type B)=true){rest:List Value}{Q:Unit->Shared->Prop}(hC:h.get? C=some (excClassObj nm q C N bs bm hdct sn sub ab col dd k0 k1 k2 k3 k5 newId))
  (hq:Q () ⟨h,g,d,t,os⟩):wpAny (model prog w) A (checkBuiltinCall newId ⟨.ref C::rest,[]⟩) Q E ⟨h,g,d,t,os⟩:=
 wpAny_check_new_subU F hb .base hC hq
theorem exc_new{R:Result->Shared->Prop}(F:ExcBaseFacts B newId initId bmB)(hb:bm.contains (.type B)=true)(hA:bm.contains (.type "AttributeError")=false)(hN:bm.contains (.type "NameError")=false){rest:List Value}(hC:h.get? C=some (excClassObj nm q C N bs bm hdct sn sub ab col dd k0 k1 k2 k3 k5 newId))
  (hq:R (.ok (.ret (.ref (h.objs.size+1)))) ⟨(h.push { cls:=.type "tuple",data:=.seq rest.toArray }).push
   {cls:=.ref C,data:=.fields #[.ref h.objs.size,.none,.none,.none,.bool false,.none] },g,d,t,os⟩) (hrest:rest.length<=sizeLine:=by size_fits) :
  codeAny (model prog w) A (.builtin newId ⟨.ref C::rest,[]⟩) R ⟨h,g,d,t,os⟩:=by
 have hends:=F.ends
 have hcB:(Value.ref C::bm).contains (.type B)=true:=by rw[List.contains_cons,hb,Bool.or_true]
 have hcA:(Value.ref C::bm).contains (.type "AttributeError")=false:=by rw[List.contains_cons,hA];rfl
 have hcN:(Value.ref C::bm).contains (.type "NameError")=false:=by rw[List.contains_cons,hN];rfl
 refine codeAny_builtinAt F.entry ?_
 unfold Builtin.«BaseException.__new__»
 refine PySem.wpAt_bind ?_
 show PySem.wpAt _ _ _ (stack >>= _) _ _ _
 refine PySem.wpAt_bind (PySem.wpAt_stack λp below=>PySem.wpAt_of_wpAny ?_)
 wp_walk
 refine PySem.wpAt_of_wpAny ?_
 rw[F.owner]
 repeat (first | with_reducible refine wpAny_madeHere_exc F.canon hC ?_ | with_reducible refine wpAny_loadPart_at hC ?_ | (with_reducible refine wpAny_isSubtype_exc hC ?_;first | rw[hcB] | rw[hcA] | rw[hcN]) | wp_step)
 show R _ _
 rw[Heap.size_push]
 exact hq
theorem Jg3(F:ExcBaseFacts B newId initId bmB)(hb:bm.contains (.type B)=true){e:Addr}{oe:Obj}{rest:List Value}{Q:Unit->Shared->Prop}{kid:String}
  (hC:h.get? C=some (excClassObj nm q C N bs bm hdct sn sub ab col dd k0 k1 k2 k3 k5 kid)) (he:h.get? e=some oe) (hcls:oe.cls=.ref C) (hq:Q () ⟨h,g,d,t,os⟩) :
  wpAny (model prog w) A (checkBuiltinCall initId ⟨.ref e::rest,[]⟩) Q E ⟨h,g,d,t,os⟩:=by
 have hcB:(Value.ref C::bm).contains (.type B)=true:=by rw[List.contains_cons,hb,Bool.or_true]
 have hshort:=F.noStar
 simp only[checkBuiltinCall,F.initKind,F.initSplit,F.initRow]
 repeat (first | (with_reducible refine wpAny_loadPart_at he ?_;rw[hcls]) | with_reducible refine wpAny_loadPart_at hC ?_ | (with_reducible refine wpAny_isSubtype_exc hC ?_;rw[hcB]) | wp_step)
 refine wpAny_onRaise ?_
 rw[show ∀(a b:String) (n:Nat),Bind.check ⟨.positional,"*",B,.self,[⟨"args",.varPos,false⟩]⟩ a b n (List.map (λx=>x.fst) ({ pos:=Value.ref e::rest }:Args).kw)=pure () from
  λa b n=>check_star_args _ _ _ _ _ _]
 exact wpAny_pure hq
theorem Jit(F:ExcBaseFacts B newId initId bmB)(hb:bm.contains (.type B)=true)(hA:bm.contains (.type "AttributeError")=false)(hN:bm.contains (.type "NameError")=false){rest:List Value}{fI:Addr}{Q:Fin->Shared->Prop}
  (hC:h.get? C=some (excClassObj nm q C N bs bm hdct sn sub ab col dd k0 k1 k2 k3 k5 newId)) (X:K.In h) (hi:findIn K (.ref C) "__init__"=some (some (.ref fI))) (hf:typeIn K (.ref fI)=some (.type "function"))
  (hq:wpAny (model prog w) A (call (.ref fI) (.ref (h.objs.size+1)::rest)) (λr s'=>r=.none/\Q (.done (.ret (.ref (h.objs.size+1)))) s') E
   ⟨(h.push { cls:=.type "tuple",data:=.seq rest.toArray }).push { cls:=.ref C,data:=.fields #[.ref h.objs.size,.none,.none,.none,.bool false,.none] },g,d,t,os⟩) (hrest:rest.length<=sizeLine:=by size_fits) :
  wpAny (model prog w) A (Builtin.«type.__call__» ⟨.ref C::rest,[]⟩) Q E ⟨h,g,d,t,os⟩:=by
 repeat (first | with_reducible refine wpAny_loadPart_at hC ?_ | with_reducible refine wpAny_madeBy_exc hC ?_ | wp_step)
 refine codeAny_call_builtin_code (Code.quiet_builtin _ F.quiet) (Jiv F hb hC ?_)
 refine exc_new F hb hA hN hC ?_ hrest
 show wpAny _ _ _ _ _ _
 have old:∀b o,h.get? b=some o->((h.push { cls:=.type "tuple",data:=.seq rest.toArray }).push { cls:=.ref C,data:=.fields #[.ref h.objs.size,.none,.none,.none,.bool false,.none] }).get? b=some o:=
  λb o e=>Heap.get?_push_of_some _ (Heap.get?_push_of_some _ e)
 have hC₁:=old _ _ hC
 have X₁:=X.keeps old
 have hget:((h.push { cls:=.type "tuple",data:=.seq rest.toArray }).push
   {cls:=.ref C,data:=.fields #[.ref h.objs.size,.none,.none,.none,.bool false,.none] }).get? (h.objs.size+1)=some
   {cls:=.ref C,data:=.fields #[.ref h.objs.size,.none,.none,.none,.bool false,.none] }:=by heap_get
 have hcC:(Value.ref C::bm).contains (.ref C)=true:=by simp
 unfold isInstance
 repeat (first | with_reducible refine wpAny_loadPart_at hget ?_ | (with_reducible refine wpAny_isSubtype_exc hC₁ ?_;rw[hcC]) | wp_step)
 show wpAny _ _ (typeLookup (.ref C) _) _ _ _
 refine (looks_findIn X₁ hi).here ?_
 refine wpAny_holding (wpAny_bind ?_)
 refine (bind_fn X₁ _ hf).here ?_
 refine wpAny_bind (wpAny_mono hq (λr s' hr=>?_) λ_ _ x=>x)
 obtain ⟨rfl,hQ⟩:=hr
 wp_walk
 exact hQ
theorem exc_call(F:ExcBaseFacts B newId initId bmB)(hb:bm.contains (.type B)=true)(hA:bm.contains (.type "AttributeError")=false)(hN:bm.contains (.type "NameError")=false){rest:List Value}{fI:Addr}{Q:Value->Shared->Prop}
  (hC:h.get? C=some (excClassObj nm q C N bs bm hdct sn sub ab col dd k0 k1 k2 k3 k5 newId)) (X:K.In h) (hi:findIn K (.ref C) "__init__"=some (some (.ref fI))) (hf:typeIn K (.ref fI)=some (.type "function"))
  (hq:wpAny (model prog w) (A.under (.builtin "type.__call__" ⟨.ref C::rest,[]⟩)) (call (.ref fI) (.ref (h.objs.size+1)::rest)) (λr s'=>r=.none/\Q (.ref (h.objs.size+1)) s') E
   ⟨(h.push { cls:=.type "tuple",data:=.seq rest.toArray }).push { cls:=.ref C,data:=.fields #[.ref h.objs.size,.none,.none,.none,.bool false,.none] },g,d,t,os⟩) (hrest:rest.length<=sizeLine:=by size_fits) :
  wpAny (model prog w) A (call (.ref C) rest) Q E ⟨h,g,d,t,os⟩:=by
 have f1:=tc_lookup
 have f2:=tc_bind (.ref C)
 have hT:(⟨h,g,d,t,os⟩:Shared).TypeIs (.ref C) "type":=⟨_,hC,rfl⟩
 refine wpAny_call (codeAny_of_tree ?_)
 show wpAny _ _ (callAny (.ref C) _) _ _ _
 repeat (any_goals (first | assumption | with_reducible refine wpAny_loadPart_at hC ?_ | wp_step))
 refine ⟨rfl,?_⟩
 refine codeAny_call_builtin_at (Code.quiet_builtin _ (by decide +kernel)) entry_typeCall (wpAny_check_type_call_sub hC (Jit (hrest:=hrest) F hb hA hN hC X hi hf hq))
theorem exc_init(F:ExcBaseFacts B newId initId bmB)(hb:bm.contains (.type B)=true){kid:String}{e t0:Addr}{oe:Obj}{vs:Array Value}{rest:List Value}{Q:Value->Shared->Prop}
  (hC:h.get? C=some (excClassObj nm q C N bs bm hdct sn sub ab col dd k0 k1 k2 k3 k5 kid)) (he:h.get? e=some oe) (hcls:oe.cls=.ref C) (hd:oe.data=.fields vs) (h0:vs[0]?=some (.ref t0))
  (hq:Q .none ⟨(h.push { cls:=.type "tuple",data:=.seq rest.toArray }).update e (Obj.mapFields (·.setIfInBounds 0 (.ref h.objs.size))),g,d,t,os⟩) (hrest:rest.length<=sizeLine:=by size_fits) :
  wpAny (model prog w) A (call (.builtin initId) (.ref e::rest)) Q E ⟨h,g,d,t,os⟩:=by
 refine wpAny_call (codeAny_call_builtin F.init.plain F.initEntry (Jg3 F hb hC he hcls ?_))
 unfold Builtin.«BaseException.__init__»
 dsimp only
 rw[if_neg (by simp)]
 unfold newTuple Builtin.BaseException.bexcPut
 have hsz:0<vs.size:=(Array.getElem?_eq_some_iff.mp h0).1
 have he₁:=Heap.get?_push_of_some (h:=h) { cls:=.type "tuple",data:=.seq rest.toArray } he
 refine wpAny_bind (wpAny_newObj_type (wpAny_bind (wpAny_bind (wpAny_field he₁ hd h0 (wpAny_bind (wpAny_setField he₁ hd hsz ?_))))) (by show rest.toArray.size<=sizeLine;rw[List.size_toArray];exact hrest))
 exact wpAny_letGo (wpAny_pure hq)
end
section
variable{prog:Program}{w:World}{A:Around}{E:Value->Shared->Prop}{s:Shared}{K:Frag}{C a:Addr}{y:Str}{R:Result->Shared->Prop}
theorem Jqd{ox:Obj}{od:Option Obj}{tk:Tok}{v:Value}(X:K.In s.heap)(I:InstAt s.heap a ox C od)(T:Jds K C)(ht:findIn K (.ref C) y=some none)
  (h:∀b,wpAny (model prog w) A.in1 (storeInOwnDict (.ref a) (.ref C) (.str y tk) y v b)
   (λfin s'=>match fin with | .done f=>R (.ok f) s' | .again c'=>c'.quiet=true/\codeAny (model prog w) A c' R s') (λe s'=>R (.error e) s') s) :
  codeAny (model prog w) A (.call (.builtin "object.__setattr__") ⟨[.ref a,.str y tk,v],[]⟩) R s:=by
 have SF:=PySem.F.store_object
 obtain ⟨cd,hc,hmro,_⟩:=T.cls
 have sub:Looks (model prog w) s.heap (isInstance (.ref a) (.type "object")) true:=I.type.andThen (looks_mroIn X (by unfold mroIn;rw[hc,Option.bind_some];rw[hmro];rw[List.contains_cons,tbO,Bool.or_true];rfl))
 refine codeAny_call_builtin SF.slot.plain SF.entry (@check_slot (model prog w) _ _ s "object.__setattr__" "object" "__setattr__" (.ref a) [.str y tk,v] [] _ SF.kind SF.split sub (SF.args (.ref a) (.str y tk) v) ?_)
 rw[osa_eq,refuse_eq]
 refine wpAny_bind (wpAny_bind (I.type.here (wpAny_bind ((show Looks (model prog w) s.heap (mroOf (.ref C)) cd.mro from (looks_clsIn X hc).andThen .now).here ?_))))
 rw[hmro,T.pass]
 refine wpAny_pure (wpAny_bind (I.type.here (wpAny_bind ((looks_findIn X ht).here (wpAny_bind (wpAny_pure ?_))))))
 exact h _
set_option tactic.hygienic true in
theorem Jhz{v:Value}{dx:Addr}{es:List DictEntry}{n:Nat}{t0:Tok}{Q:Fin->Shared->Prop}(D:s.heap.get? dx=some (dictOf es n))(hl:(getL y es).isSome=true)(hz:es.length<=200)
  (h:∀h' tk key,Heap.SameBut dx s.heap h'->h'.get? dx=some (dictOf (putL y (PyData.keyHash w.params y) key v es) (putN y es n))->(∃t,key=.str y t)->Q (.done (.ret .none)) { s with heap:=h',toks:=tk }) :
  wpAny (model prog w) A (storeInDict dx (.str y t0) y v) Q E s:=by
 unfold storeInDict newKeyGuard
 refine wpAny_bind (wpAny_pure (wpAny_bind ?_))
 unfold nsSet
 refine wpAny_bind (wpAny_bind (wpAny_askSetting (wpAny_pure (wpAny_bind (wpAny_mkText (wpAny_bind (wpAny_loadPart D ?_)))))))
 dsimp only
 have c:(!es.toArray.any (·.key.isStr y)&&es.toArray.any (·.refKey))=false:=by
  rw[<-Array.any_toList,<-Array.any_toList]
  unfold getL at hl
  split at hl
  ·rename_i en he
   rw[show es.toArray.toList=es from rfl,List.any_eq_true.mpr ⟨en,List.mem_of_find?_eq_some he,List.find?_some he⟩];rfl
  ·split at hl
   ·cases hl
   ·rename_i z;rw[Bool.not_eq_true] at z;rw[show es.toArray.toList=es from rfl,z,Bool.and_false]
 rw[aRefKeyMayBeTheName_at,c]
 refine wpAny_updatePart D ?_
 have D':=Heap.get?_update_self (Obj.putName y (PyData.keyHash w.params y) (.str y s.toks) v) D (by rw[putName_dict];rfl)
 rw[putName_dict] at D'
 have hz':(putL y (PyData.keyHash w.params y) (.str y s.toks) v es).length<=201:=by
  have:∀(k:Value) (l:List DictEntry),(putL y (PyData.keyHash w.params y) k v l).length<=l.length+1:=λk l=>by
   induction l with
   |nil=>simp[putL]
   |cons e r ih=>simp only[putL];split<;>simp;exact ih
  have:=this (.str y s.toks) es
  exact ar203 hz this
 refine wpAny_bind (wpAny_lookBehind D' (pastItsLine_dict (by rw[List.size_toArray,sizeLine_eq];exact ar116 hz')) ?_)
 exact wpAny_pure (h _ _ _ (Heap.SameBut.update ..) D' ⟨_,rfl⟩)
theorem Jj3{e:Addr}{ox:Obj}{od:Option Obj}{v:Value}{b:Bool}{tk:Tok}{Q:Fin->Shared->Prop}(X:K.In s.heap)(T:Jds K C)(I:InstAt s.heap e ox C od)
  (h:wpAny (model prog w) A (instanceDict e true) (λd s'=>match d with | some d=>wpAny (model prog w) A (storeInDict d (.str y tk) y v) Q E s' | none=>False) E s) :
  wpAny (model prog w) A (storeInOwnDict (.ref e) (.ref C) (.str y tk) y v b) Q E s:=by
 unfold storeInOwnDict
 refine wpAny_bind (wpAny_pure (wpAny_bind ?_))
 have h2:wpAny (model prog w) A (ownDictForStores (.ref e)) (λd s'=>match d with | some d=>wpAny (model prog w) A (storeInDict d (.str y tk) y v) Q E s' | none=>False) E s:=h
 refine wpAny_mono h2 (λd s' hd=>?_) λ_ _ z=>z
 cases d with
 |none=>exact hd.elim
 |some d=>exact hd
theorem exc_set0{e:Addr}{ox:Obj}{vs:Array Value}{v:Value}{Q:Unit->Shared->Prop}(X:K.In s.heap)(T:Jds K C)(hn:findIn K (.ref C) y=some none)(he:s.heap.get? e=some ox)(hcls:ox.cls=.ref C)(hd:ox.dict=none)(hdat:ox.data=.fields vs)
  (h:∀h' tk key dx,s.heap.get? dx=none->Heap.ExtBut e s.heap h'->h'.get? e=some { ox with dict:=some dx }->h'.get? dx=some (dictOf (putL y (PyData.keyHash w.params y) key v []) (putN y [] 0))->(∃t,key=.str y t)->Q () { s with heap:=h',toks:=tk }) :
  wpAny (model prog w) A (setAttr (.ref e) y v) Q E s:=by
 have I:InstAt s.heap e ox C none:=⟨he,hcls,by unfold notCls;rw[hdat],by rw[hd];trivial⟩
 refine set_plain X I T.sa ?_
 refine Jqd (s:={ s with toks:=s.toks+1 }) X I T hn λb=>Jj3 (s:={ s with toks:=s.toks+1 }) X T I ?_
 obtain ⟨cd,hc,_,hdict⟩:=T.cls
 unfold instanceDict
 refine wpAny_bind (wpAny_loadPart he ?_)
 rw[hcls]
 refine wpAny_bind ((looks_clsIn (h:=s.heap) X hc) _ _ _ _ (λ_ _ e=>e) ?_)
 rw[hdict]
 simp only[Bool.not_true,Bool.false_eq_true,if_false]
 rw[hd]
 dsimp only
 rw[hdat,if_neg (by simp[typeHasDict])]
 have hne:e≠s.heap.objs.size:=Nat.ne_of_lt (Heap.lt_size he)
 have he₁:(s.heap.push { cls:=.type "dict",data:=.dict #[] }).get? e=some ox:=Heap.get?_push_of_some _ he
 refine wpAny_bind (wpAny_alloc' (wpAny_bind (wpAny_update' he₁ (wpAny_pure ?_))))
 have hfr:({ ox with dict:=some s.heap.objs.size }:Obj).isFreed=false:=Obj.isFreed_of_fields hdat
 have gd:((s.heap.push { cls:=.type "dict",data:=.dict #[] }).update e λo=>{ o with dict:=some s.heap.objs.size }).get? s.heap.objs.size=some (dictOf [] 0):=
  (Heap.get?_update_ne _ _ _ _ hne.symm).trans (Heap.get?_push_at rfl rfl)
 refine Jhz gd rfl (Nat.zero_le _) λh' tk key k1 k2 k3=>h h' tk key _ (Jbe _) (λb o hb hg=>?_) ?_ k2 k3
 ·have hbs:b≠s.heap.objs.size:=Nat.ne_of_lt (Heap.lt_size hg)
  exact (k1.2 b hbs).trans ((Heap.get?_update_ne _ _ _ _ hb).trans (Heap.get?_push_of_some _ hg))
 ·exact (k1.2 e hne).trans (Heap.get?_update_self _ he₁ hfr)
theorem exc_set1{e dx:Addr}{ox:Obj}{vs:Array Value}{v:Value}{es:List DictEntry}{n:Nat}{Q:Unit->Shared->Prop}(X:K.In s.heap)(T:Jds K C)(hn:findIn K (.ref C) y=some none)(he:s.heap.get? e=some ox)(hcls:ox.cls=.ref C)(hd:ox.dict=some dx)(hdat:ox.data=.fields vs)
  (D:s.heap.get? dx=some (dictOf es n)) (hl:(getL y es).isSome=true) (hz:es.length<=200)
  (h:∀h' tk key,Heap.SameBut dx s.heap h'->h'.get? dx=some (dictOf (putL y (PyData.keyHash w.params y) key v es) (putN y es n))->(∃t,key=.str y t)->Q () { s with heap:=h',toks:=tk }) :
  wpAny (model prog w) A (setAttr (.ref e) y v) Q E s:=by
 have I:InstAt s.heap e ox C (some (dictOf es n)):=⟨he,hcls,by unfold notCls;rw[hdat],by rw[hd];exact D⟩
 refine set_plain X I T.sa ?_
 refine Jqd (s:={ s with toks:=s.toks+1 }) X I T hn λb=>Jj3 (s:={ s with toks:=s.toks+1 }) X T I ?_
 obtain ⟨cd,hc,_,hdict⟩:=T.cls
 unfold instanceDict
 refine wpAny_bind (wpAny_loadPart he ?_)
 rw[hcls]
 refine wpAny_bind ((looks_clsIn (h:=s.heap) X hc) _ _ _ _ (λ_ _ e=>e) ?_)
 rw[hdict]
 simp only[Bool.not_true,Bool.false_eq_true,if_false]
 rw[hd]
 refine wpAny_pure ?_
 exact Jhz (s:={ s with toks:=s.toks+1 }) D hl hz λh' tk key k1 k2 k3=>h h' tk key k1 k2 k3
end
end
section
open Builtin Builtin.ObjectAttr
inductive ExcInit(x:Cx):Prop
 |mk (fI:Addr) (sc:Scope) (p1 p2 p3 p4 p5 p6 a1 a2 a3 a4 b1 b2 b3 b4:Pos) (h1:findIn x.K (.ref x.TE) "__init__"=some (some (.ref fI))) (h2:typeIn x.K (.ref fI)=some (.type "function")) (h3:p2.endLine=p5.line)
  (h4:Ja2 x fI ["self","what","at"] sc [.Expr (.Call (.Attribute (.Name "Exception" p1) "__init__" p2) [.Name "self" p3,.Name "what" p4] [] p5) p6,.Assign [.Attribute (.Name "self" a1) "what" a2] (.Name "what" a3) a4,.Assign [.Attribute (.Name "self" b1) "at" b2] (.Name "at" b3) b4])
  (h5:sc.names.lookup ("self":Str)=some .local) (h6:sc.names.lookup ("what":Str)=some .local) (h7:sc.names.lookup ("at":Str)=some .local) (h8:sc.names.lookup ("Exception":Str)=some .globalImplicit)
structure Jdt(x:Cx)(G:Prg):Prop where
 glob:G.glob G.exn=some (.val (.ref x.TE))
 eglob:G.glob "Exception"=some (.val (.type "Exception"))
 keep:keepIn x.K (.ref x.TE)=true
 cls:Jds x.K x.TE
 base:findCls x.K (.type "Exception") (.type "type") "__init__"=some (.val (.builtin "Exception.__init__"))
 noWhat:findIn x.K (.ref x.TE) "what"=some none
 noAt:findIn x.K (.ref x.TE) "at"=some none
 init:ExcInit x
section
variable{x:Cx}{G:Prg}{cf:Addr->List D->Jaa->Out D}{fs:List Env}{A:Around}{p:Pt}{env:Env}{nm:List (Str×NameKind)}{vars:Jac}
theorem Jg2{prog:Program}{w:World}{K:Frag}{E:Value->Shared->Prop}{s:Shared}{T:String}{name:Str}{v:Value}{pl:Sem Bool}{Q:Value×List Value->Shared->Prop}(X:K.In s.heap)(ht:typeOf (.type T)=pure (.type "type"))(hs:Manifest.isStub T=false)
  (e:findCls K (.type T) (.type "type") name=some (.val v)) (hh:handedIn v=true) (h:Q (v,[]) { s with toks:=s.toks+1 }):wpAny (model prog w) A (getMethod (.type T) name pl) Q E s:=by
 have hstub:opaqueClassAbove (.type T)=pure none:=by unfold opaqueClassAbove;dsimp only;rw[hs];rfl
 have L0:Looks (model prog w) s.heap (typeOf (.type T)) (.type "type"):=Looks.of_pure ht
 have hg:findIn K (.type "type") "__getattribute__"=some (some (.builtin "type.__getattribute__")):=type_tga
 unfold getMethod specialOf
 refine wpAny_bind (wpAny_bind (L0.here ((looks_findIn X hg).here ?_)))
 dsimp only
 rw[if_pos canon_tga]
 refine wpAny_bind (wpAny_mono (Q:=λv=>Q (v,[])) (E:=E) ?_ (λ_ _ z=>wpAny_pure z) λ_ _ z=>z)
 have LO:Looks (model prog w) s.heap (opaqueClassAbove (.type T)) none:=Looks.of_pure hstub
 refine cls_open X LO L0 hg (looks_hook X (r:=none) (by rfl)) (by show subIn K _ _=_;rfl) e
  (wpAny_pure (by show wpAny _ _ (handedOut v) _ _ _;rw[handedOut_of hh];exact wpAny_pure h))
theorem ty_exc:typeOf (.type "Exception")=pure (.type "type"):=by rfl
theorem stub_exc:Manifest.isStub "Exception"=false:=by decide +kernel
theorem Jof:handedIn (.builtin "Exception.__init__")=true:=by first | rfl | kernel_rfl | decide +kernel
theorem ev_two{y z:Str}{p q:Pos}{d e:D}{σ:Jaa}(h1:nm.lookup y=some .local)(v1:vars y=some d)(h2:nm.lookup z=some .local)(v2:vars z=some e):evL G cf [.Name y p,.Name z q] nm vars σ=.ok [d,e] σ:=by
 rw[Jei,Jej,nameD,h1,v1]
 show (evL G cf [.Name z q] nm vars σ).bind (λds σ=>.ok (d::ds) σ)=_
 rw[Jei,Jej,nameD,h2,v2]
 rfl
theorem Jm1(C1:Ctx x G cf fs A)(R:Jaz x fs env nm vars p)(I:Inv x fs p){y:Str}{pos:Pos}{d:D}(hl:nm.lookup y=some .local)(hv:vars y=some d):W x fs A [] (eval (.Name y pos) env) (.ok d p.σ) (Jaj x) p:=by
 have:=(good C1 _ (Expr.Name y pos) (Nat.lt_succ_self _)).ev R I
 rw[Jej,nameD,hl,hv] at this
 exact this
set_option maxHeartbeats 1000000 in
theorem Jrp(C1:Ctx x G cf fs A)(X:Jdt x G)(hK:x.K.In x.h0)(R:Jaz x fs env nm vars p)(I:Inv x fs p){e t0:Addr}{dO:Option Addr}{sl:Array (Option Value)}{vs:Array Value}{dw:D}{p1 p2 p3 p4 p5 p6:Pos}(hl:p2.endLine=p5.line)
  (n1:nm.lookup ("self":Str)=some .local) (n2:nm.lookup ("what":Str)=some .local) (n3:nm.lookup ("Exception":Str)=some .globalImplicit) (v1:vars "self"=some (.val (.ref e))) (v2:vars "what"=some dw)
  (he:p.s.heap.get? e=some { cls:=.ref x.TE,dict:=dO,data:=.fields vs,slots:=sl }) (h0:vs[0]?=some (.ref t0)) (eρ:e∉p.ρ) (eF:e∉frA fs) {Q:Flow->Shared->Prop} {E:Value->Shared->Prop}
  (h:∀q tk h' t1,q.σ=p.σ->Inv x fs q->Ext fs [] p q->Heap.ExtBut e q.s.heap h'->h'.get? e=some { cls:=.ref x.TE,dict:=dO,data:=.fields (vs.setIfInBounds 0 (.ref t1)),slots:=sl }->Q .next { q.s with heap:=h',toks:=tk }) :
  wpAny (model x.prog x.w) A (exec (.Expr (.Call (.Attribute (.Name "Exception" p1) "__init__" p2) [.Name "self" p3,.Name "what" p4] [] p5) p6) env) Q E p.s:=by
 have hi:interactive env=false:=by unfold interactive;rw[R.kind];rfl
 rw[exec_Expr env _ _ hi rfl]
 refine wpAny_bind (wpAny_standAt (wpAny_bind ?_))
 rw[arm_eval_Call,Jgy rfl]
 have hE:W x fs A [] (eval (.Name "Exception" p1) env) (.ok (.val (.type "Exception")) p.σ) (Jaj x) p:=by
  have:=(good C1 _ (Expr.Name "Exception" p1) (Nat.lt_succ_self _)).ev R I
  rw[Jej,nameD,n3] at this
  have e:Out.of (G.glob "Exception") p.σ=.ok (.val (.type "Exception")) p.σ:=by rw[X.eglob];rfl
  exact e▸this
 refine wpAny_bind (hE.run λv q g1 I1 X1 hv=>?_)
 have hv:v=.type "Exception":=hv
 subst hv
 clear hE
 refine wpAny_bind (wpAny_standAt ?_)
 unfold methodCall
 rw[Jfi rfl (by simp)]
 refine wpAny_bind (wpAny_holding (Jg2 (hK.keeps I1.keepsBase) ty_exc stub_exc X.base Jof ?_))
 have hpos:methodCallPos true (.Name "Exception" p1) env p2 p5=pure p5:=by unfold methodCallPos;simp[hl]
 refine wpAny_bind (wpAny_of_eq hpos ?_)
 have I2:Inv x fs (q.tick (q.s.toks+1)):=I1.tick _
 have R2:Jaz x fs env nm vars (q.tick (q.s.toks+1)):=R.ext0 (X1.trans (Ext.tick ..))
 refine callWith_of (P:=λh=>True) (by rw[Jd2 rfl];rfl) (λh _=>⟨_,.inr (.inl rfl),Jdj _ λa e=>nomatch e⟩) ?_
 have hargs:W x fs A [] (spliced (backTo p5 (starEach [.Name "self" p3,.Name "what" p4] env))) (.ok [.val (.ref e),dw] q.σ) (RelVs x) (q.tick (q.s.toks+1)):=by
  have:=Jol (G:=G) (cf:=cf) (A:=A) (es:=[.Name "self" p3,.Name "what" p4]) (pos:=p5) (λe _=>good C1 _ e (Nat.lt_succ_self _)) rfl R2 I2
  rw[ev_two n1 v1 n2 v2] at this
  exact this
 refine Jcp rfl (hargs.run λus q3 g3 I3 X3 hR=>?_)
 obtain ⟨u1,u2,rfl,h1,h2⟩:=rel2 hR
 have h1:u1=.ref e:=h1
 subst h1
 clear hargs
 refine ⟨trivial,?_⟩
 have XX:Ext fs [] p q3:=X1.trans ((Ext.tick ..).trans X3)
 have he3:=(XX.keep _ _ he eρ (by simp)).2 eF
 have hC3:=hK.keeps I3.keepsBase _ _ X.cls.obj
 obtain ⟨hp3,g,dr,tk3,os,hq3⟩:∃a b c d e,q3.s=⟨a,b,c,d,e⟩:=⟨_,_,_,_,_,rfl⟩
 rw[hq3] at hC3 he3 ⊢
 refine exc_init PySem.F.excBase_Exception tbE hC3 he3 rfl rfl h0 ?_
 refine wpAny_dropValue ?_
 have hsz:0<vs.size:=(Array.getElem?_eq_some_iff.mp h0).1
 have he4:(hp3.push { cls:=.type "tuple",data:=.seq [u2].toArray }).get? e=some _:=Heap.get?_push_of_some _ he3
 have:=h q3 tk3 ((hp3.push { cls:=.type "tuple",data:=.seq [u2].toArray }).update e (Obj.mapFields (·.setIfInBounds 0 (.ref hp3.objs.size)))) hp3.objs.size (g3.trans g1) I3 XX (λb o hb hg=>by
  rw[hq3] at hg
  exact (Heap.get?_update_other _ _ (Ne.symm hb)).trans (Heap.get?_push_of_some _ hg)) (Heap.get?_update_self _ he4 rfl)
 rw[hq3] at this
 exact this
end
end
section
open Builtin Builtin.ObjectAttr
section
variable{x:Cx}{G:Prg}{cf:Addr->List D->Jaa->Out D}{fs:List Env}{A:Around}{p:Pt}{env:Env}{nm:List (Str×NameKind)}{vars:Jac}
theorem Jm0(C1:Ctx x G cf fs A)(R:Jaz x fs env nm vars p)(I:Inv x fs p){self y f:Str}{obj:Addr}{d:D}{p1 p2 p3 p4:Pos}(hsl:nm.lookup self=some .local)(hself:vars self=some (.val (.ref obj)))(hyl:nm.lookup y=some .local)(hy:vars y=some d)
  {Q:Flow->Shared->Prop} {E:Value->Shared->Prop} (h:∀v q,q.σ=p.σ->Inv x fs q->Ext fs [] p q->Jaz x fs env nm vars q->Jaj x q d v->wpAny (model x.prog x.w) A (setAttr (.ref obj) f v) (λ_ s'=>Q .next s') E q.s) :
  wpAny (model x.prog x.w) A (exec (.Assign [.Attribute (.Name self p1) f p2] (.Name y p3) p4) env) Q E p.s:=by
 have e0:exec (.Assign [.Attribute (.Name self p1) f p2] (.Name y p3) p4) env=(standAt p4 >>= λ_=>swapsWithSole [.Attribute (.Name self p1) f p2] (.Name y p3) p4.line env >>= λb=>if b=true then (do evalThenUse (.Name y p3) env λv=>assignAll v ((assignEach [.Attribute (.Name self p1) f p2] env).map (·.2));pure .next) else (do
   let v <-eval (.Name y p3) env
   assignStores env v (<-swappedStores [.Attribute (.Name self p1) f p2] (.Name y p3) env) ((assignEach [.Attribute (.Name self p1) f p2] env).map (·.2)))):=rfl
 rw[e0]
 refine wpAny_bind (wpAny_standAt ?_)
 rw[Jjj]
 show wpAny _ A (eval (.Name y p3) env >>= λv=>swappedStores [.Attribute (.Name self p1) f p2] (.Name y p3) env >>= λsw=>assignStores env v sw ((assignEach [.Attribute (.Name self p1) f p2] env).map (·.2))) _ _ p.s
 rw[Je4 (.inl λ_ _ _ h=>by cases h) λ_ _ h=>by cases h]
 refine wpAny_bind ((Jm1 C1 R I hyl hy).run λv q2 g1 I2 X2 hv=>?_)
 have R2:=R.ext0 X2
 show wpAny _ A (assign (.Attribute (.Name self p1) f p2) env v >>= λ_=>pure Flow.next) _ _ q2.s
 refine wpAny_bind ?_
 show wpAny _ A (holding [v] (eval (.Name self p1) env) >>= λov=>standAt p2.atName >>= λ_=>holding [v,ov] (setAttr ov f v) >>= λ_=>release [v,ov] []) _ _ q2.s
 refine wpAny_bind (wpAny_holding ((Jm1 C1 R2 I2 hsl hself).run λov q3 g3 I3 X3 hov=>?_))
 have hov:ov=.ref obj:=hov
 subst hov
 refine wpAny_bind (wpAny_standAt (wpAny_bind (wpAny_holding ?_)))
 refine wpAny_mono (h v q3 (g3.trans g1) I3 (X2.trans X3) (R2.ext0 X3) (Rel.mono X3.sub hv)) (λ_ s' hq=>?_) λ_ _ z=>z
 exact Jc3 (wpAny_pure hq)
structure ExSt(x:Cx)(fs:List Env)(p0:Pt)(e:Addr)(q:Pt)(dO:Option Addr):Prop where
 inv:Inv x fs q
 ext:Ext fs [] p0 q
 on:p0.s.heap.get? e=none
 oB:q.B e=none
 oρ:e∉q.ρ
 oF:e∉frA fs
 obj:∃vs t0,q.s.heap.get? e=some { cls:=.ref x.TE,dict:=dO,data:=.fields vs }/\vs.size=6/\vs[0]?=some (.ref t0)/\vs[1]?=some .none
structure ExDict(x:Cx)(fs:List Env)(p0:Pt)(dx:Addr)(q:Pt)(ns:List Str)(ds:List D):Prop where
 on:p0.s.heap.get? dx=none
 oB:q.B dx=none
 oρ:dx∉q.ρ
 oF:dx∉frA fs
 dict:∃es n,q.s.heap.get? dx=some (dictOf es n)/\RelF x.w.params q.B q.ρ ns ds es
theorem ExSt.on_{p0 q q':Pt}{e:Addr}{dO:Option Addr}(S:ExSt x fs p0 e q dO)(I':Inv x fs q')(E:Ext fs [] q q'):ExSt x fs p0 e q' dO:=by
 obtain ⟨vs,t0,h1,h2⟩:=S.obj
 exact ⟨I',S.ext.trans E,S.on,E.bNone S.oB ⟨_,h1⟩,E.rNone S.oρ ⟨_,h1⟩,S.oF,vs,t0,(E.keep _ _ h1 S.oρ (by simp)).2 S.oF,h2⟩
theorem ExDict.on_{p0 q q':Pt}{dx:Addr}{ns:List Str}{ds:List D}(S:ExDict x fs p0 dx q ns ds)(E:Ext fs [] q q'):ExDict x fs p0 dx q' ns ds:=by
 obtain ⟨es,n,h1,h2⟩:=S.dict
 exact ⟨S.on,E.bNone S.oB ⟨_,h1⟩,E.rNone S.oρ ⟨_,h1⟩,S.oF,es,n,(E.keep _ _ h1 S.oρ (by simp)).2 S.oF,h2.mono E.sub⟩
section steps
variable{p0 q:Pt}{e dx:Addr}{w:Str}{n:Int}{Q:Flow->Shared->Prop}{E:Value->Shared->Prop}
structure ExN(nm:List (Str×NameKind))(vars:Jac)(e:Addr)(w:Str)(n:Int):Prop where
 n1:nm.lookup ("self":Str)=some .local
 n2:nm.lookup ("what":Str)=some .local
 n3:nm.lookup ("at":Str)=some .local
 n4:nm.lookup ("Exception":Str)=some .globalImplicit
 v1:vars "self"=some (.val (.ref e))
 v2:vars "what"=some (.str w)
 v3:vars "at"=some (.int n)
theorem exc_s1(C1:Ctx x G cf fs A)(X:Jdt x G)(hK:x.K.In x.h0)(N:ExN nm vars e w n)(S:ExSt x fs p0 e q none)(R:Jaz x fs env nm vars q)(ep:e∉pvt env){p1 p2 p3 p4 p5 p6:Pos}(hl:p2.endLine=p5.line)
  (h:∀q',q'.σ=q.σ->ExSt x fs p0 e q' none->Jaz x fs env nm vars q'->Q .next q'.s):wpAny (model x.prog x.w) A (exec (.Expr (.Call (.Attribute (.Name "Exception" p1) "__init__" p2) [.Name "self" p3,.Name "what" p4] [] p5) p6) env) Q E q.s:=by
 obtain ⟨vs,t0,o0,z0,f0,f0'⟩:=S.obj
 refine Jrp C1 X hK R S.inv hl N.n1 N.n2 N.n4 N.v1 N.v2 o0 f0 S.oρ S.oF λq2 tk2 h2 t1 g2 I2 X2 k2 o2=>?_
 have S2:=S.on_ I2 X2
 refine h (q2.own h2 tk2) g2 ⟨S2.inv.chgF tk2 S2.oB S2.oρ S2.oF k2,S2.ext.chg tk2 k2 S2.on,S2.on,S2.oB,S2.oρ,S2.oF,_,t1,o2,?_,?_,?_⟩ ((R.ext0 X2).chg tk2 k2 ep)
 ·rw[Array.size_setIfInBounds];exact z0
 ·rw[Array.getElem?_setIfInBounds_self_of_lt (by exact ar31 z0)]
 ·rw[Array.getElem?_setIfInBounds_ne (by decide)];exact f0'
theorem exc_s2(C1:Ctx x G cf fs A)(X:Jdt x G)(hK:x.K.In x.h0)(N:ExN nm vars e w n)(S:ExSt x fs p0 e q none)(R:Jaz x fs env nm vars q)(ep:e∉pvt env){p1 p2 p3 p4:Pos}
  (h:∀q' dx,q'.σ=q.σ->dx≠e->ExSt x fs p0 e q' (some dx)->ExDict x fs p0 dx q' ["what"] [.str w]->Jaz x fs env nm vars q'->Q .next q'.s):wpAny (model x.prog x.w) A (exec (.Assign [.Attribute (.Name "self" p1) "what" p2] (.Name "what" p3) p4) env) Q E q.s:=by
 refine Jm0 C1 R S.inv N.n1 N.v1 N.n2 N.v2 λv4 q4 g4 I4 X4 R4 hv4=>?_
 have S4:=S.on_ I4 X4
 obtain ⟨vs4,t4,o4,z4,f4,f4'⟩:=S4.obj
 refine exc_set0 (hK.keeps I4.keepsBase) X.cls X.noWhat o4 rfl rfl rfl λh5 tk5 key5 dx dn k5 o5 d5 key5s=>?_
 have dB:q4.B dx=none:=by
  cases e:q4.B dx with
  |none=>rfl
  |some ob=>have:=S4.inv.froz _ _ e;rw[dn] at this;cases this
 exact h (q4.own h5 tk5) dx g4 (by rintro rfl;rw[dn] at o4;cases o4) ⟨S4.inv.chgF tk5 S4.oB S4.oρ S4.oF k5,S4.ext.chg tk5 k5 S4.on,S4.on,S4.oB,S4.oρ,S4.oF,_,_,o5,z4,f4,f4'⟩
  ⟨S4.ext.none dn,dB,(λhm=>by obtain ⟨ob,ho⟩:=S4.inv.ρlt hm;rw[dn] at ho;cases ho),Ja8 S4.inv dn,_,_,d5,Jcr (ns:=[]) (ds:=[]) (es:=[]) key5s hv4 ⟨rfl,rfl⟩ (λh=>by cases h)⟩ (R4.chg tk5 k5 ep)
theorem exc_s3(C1:Ctx x G cf fs A)(X:Jdt x G)(hK:x.K.In x.h0)(N:ExN nm vars e w n)(ne:dx≠e)(S:ExSt x fs p0 e q (some dx))(D:ExDict x fs p0 dx q ["what"] [.str w])(R:Jaz x fs env nm vars q){p1 p2 p3 p4:Pos}
  (h:∀q',q'.σ=q.σ->ExSt x fs p0 e q' (some dx)->ExDict x fs p0 dx q' ["what","at"] [.str w,.int n]->Q .next q'.s):wpAny (model x.prog x.w) A (exec (.Assign [.Attribute (.Name "self" p1) "at" p2] (.Name "at" p3) p4) env) Q E q.s:=by
 refine Jm0 C1 R S.inv N.n1 N.v1 N.n3 N.v3 λv6 q6 g6 I6 X6 R6 hv6=>?_
 have S6:=S.on_ I6 X6
 have D6:=D.on_ X6
 obtain ⟨vs6,t6,o6,z6,f6,f6'⟩:=S6.obj
 obtain ⟨es6,m6,d6,r6⟩:=D6.dict
 have hlen6:es6.length=1:=r6.len
 have hnot:("at":Str)∉(["what"]:List Str):=by decide
 refine exc_set1 (hK.keeps I6.keepsBase) X.cls X.noAt o6 rfl rfl rfl d6 (by rw[Jgt r6 hnot];rfl) (by rw[hlen6];decide) λh7 tk7 key7 k7 d7 key7s=>?_
 exact h (q6.own h7 tk7) g6 ⟨S6.inv.chgF tk7 D6.oB D6.oρ D6.oF k7.extBut,S6.ext.chg tk7 k7.extBut D6.on,S6.on,S6.oB,S6.oρ,S6.oF,_,_,(k7.2 _ (Ne.symm ne)).trans o6,z6,f6,f6'⟩
  ⟨D6.on,D6.oB,D6.oρ,D6.oF,_,_,d7,Jcr key7s hv6 r6 hnot⟩
abbrev ExcMade(x:Cx)(p:Pt)(w:Str)(n:Int)(q:Pt)(_:Unit)(v:Value):Prop:=Jc1 x q p.s.heap v w n false/\∃a vs dO,v=.ref a/\q.s.heap.get? a=some { cls:=.ref x.TE,dict:=dO,data:=.fields vs }/\vs[1]?=some .none
theorem exc_done(I:Inv x fs p){L:Addr}(hef:env.frame=some L)(nL:p.s.heap.get? env.locals=none)(hL:L=env.locals)(ne:dx≠e)(S:ExSt x (env::fs) p e q (some dx))(D:ExDict x (env::fs) p dx q ["what","at"] [.str w,.int n])(hσ:q.σ=p.σ) :
  OkP x fs [] p (.ok () p.σ) (ExcMade x p w n) (.ref e) q.s:=by
 subst hL
 have VI:Inv x fs q:=S.inv.tail
 have VE:Ext fs [] p q:=(Ext.refl fs [] p).leave hef S.ext nL (by simp)
 obtain ⟨es7,m7,d7',r7⟩:=D.dict
 obtain ⟨q8,e1,e2,e3,e4,e5,e6,e7,e8⟩:=Jrh (a:=dx) (Ja8 I D.on) VI VE D.on D.oB D.oρ d7'
 obtain ⟨vs7,t7,o7,z7,f7,f7'⟩:=S.obj
 exact ⟨(),q8,by rw[e1,hσ],e2,e6,e7,⟨_,_,vs7,dx,es7,m7,rfl,by rw[e2];exact o7,rfl,rfl,rfl,z7,e5,r7.mono e8,S.on,by rw[e4 _ (Ne.symm ne)];exact S.oB,by rw[e3];exact S.oρ,.inl ⟨rfl,f7'⟩⟩,_,vs7,_,rfl,by rw[e2];exact o7,f7'⟩
end steps
theorem Jrq{B:Fz}{ρ:List Addr}{σ:Jaa}{hp:Heap}{g:Array GenState}{dd:Drawn}{t:Nat}{os:OsState}(I:Inv x fs ⟨B,ρ,σ,⟨hp,g,dd,t,os⟩⟩){o1 o2:Obj}(h2:o2.isFreed=false):Inv x fs (Pt.grow ⟨B,ρ,σ,⟨hp,g,dd,t,os⟩⟩ ((hp.push o1).push o2) t)/\Ext fs [] ⟨B,ρ,σ,⟨hp,g,dd,t,os⟩⟩ (Pt.grow ⟨B,ρ,σ,⟨hp,g,dd,t,os⟩⟩ ((hp.push o1).push o2) t) ∧
  ((hp.push o1).push o2).get? (hp.objs.size+1)=some o2/\hp.get? (hp.objs.size+1)=none/\B (hp.objs.size+1)=none/\hp.objs.size+1∉ρ:=by
 have old:∀b o,hp.get? b=some o->((hp.push o1).push o2).get? b=some o:=λb o e=>Heap.get?_push_of_some _ (Heap.get?_push_of_some _ e)
 have no:hp.get? (hp.objs.size+1)=none:=Heap.get?_none_of_le (Nat.le_succ _)
 refine ⟨I.grow old t,Ext.grow old _ _,?_,no,?_,λhm=>?_⟩
 ·have:=Heap.get?_push_size (hp.push o1) (o:=o2) h2
  rw[Heap.size_push] at this
  exact this
 ·cases e:B (hp.objs.size+1) with
  |none=>rfl
  |some ob=>have:=I.froz _ _ e;exact absurd (no.symm.trans this) (λh=>nomatch h)
 ·obtain ⟨ob,ho⟩:=I.ρlt hm
  exact absurd (no.symm.trans ho) (λh=>nomatch h)
theorem Joi(X:Jdt x G)(hK:x.K.In x.h0)(hlim:x.h0.NoLimit)(hroom:A.depth+1<recursionLimit)(hfr:A.frames=some fs)
  (C0:∀vs env,env.frame=some env.locals->Ctx x G cf (env::fs) ((A.under (.builtin "type.__call__" ⟨.ref x.TE::vs,[]⟩)).deeper env)) (I:Inv x fs p) {w:Str} {n:Int} {vsOf:List Value} (hr:RelVs x p [.str w,.int n] vsOf) :
  W x fs A [] (call (.ref x.TE) vsOf) (.ok () p.σ) (ExcMade x p w n) p:=by
 intro _
 obtain ⟨fI,sc,p1,p2,p3,p4,p5,p6,a1,a2,a3,a4,b1,b2,b3,b4,hi,hft,hline,F,n1,n2,n3,n4⟩:=X.init
 obtain ⟨B,ρ,σ,hp,g,dd,t,os⟩:=p
 have XK:=hK.keeps I.keepsBase
 have hlen:vsOf.length=2:=Jay.len hr
 refine exc_call PySem.F.excBase_Exception tbE tbA tbN (XK _ _ X.cls.obj) XK hi hft ?_ (by rw[hlen,sizeLine_eq];exact ar6)
 clear XK hi hft hlen
 obtain ⟨I1,X1,go,no,bN,rN⟩:=Jrq I (o1:={ cls:=.type "tuple",data:=.seq vsOf.toArray }) (o2:={ cls:=.ref x.TE,data:=.fields #[.ref hp.objs.size,.none,.none,.none,.bool false,.none] }) rfl
 have hr1:RelVs x _ [.val (.ref (hp.objs.size+1)),.str w,.int n] (.ref (hp.objs.size+1)::vsOf):=⟨_,_,rfl,rfl,Jay.mono X1.sub hr⟩
 refine wpAny_call (Jf5 (A:=A.under (.builtin "type.__call__" ⟨.ref x.TE::vsOf,[]⟩)) F hK hlim hroom I1 hr1 rfl λenv q0 hσ hef hek I0 R0 X0 hn hkeep=>?_)
 have C1:=C0 vsOf env hef
 have nL1:=hn env.locals (List.mem_cons_self ..)
 have nL:hp.get? env.locals=none:=X1.none nL1
 have ep:hp.objs.size+1∉pvt env:=λhm=>by have:=hn _ hm;exact absurd (go.symm.trans this) (λh=>nomatch h)
 have eF:hp.objs.size+1∉frA (env::fs):=λhm=>by
  unfold frA at hm
  rw[List.filterMap_cons,hef] at hm
  rcases List.mem_cons.mp hm with h | hm
  ·exact ep (h▸List.mem_cons_self ..)
  ·exact Ja8 I no hm
 have S0:ExSt x (env::fs) ⟨B,ρ,σ,⟨hp,g,dd,t,os⟩⟩ (hp.objs.size+1) q0 none:=⟨I0,(X1.trans X0).frames,no,X0.bNone bN ⟨_,go⟩,X0.rNone rN ⟨_,go⟩,eF,_,_,hkeep _ _ go,rfl,rfl,rfl⟩
 have NN:ExN sc.names (Jbg ["self","what","at"] [.val (.ref (hp.objs.size+1)),.str w,.int n]) (hp.objs.size+1) w n:=⟨n1,n2,n3,n4,rfl,rfl,rfl⟩
 refine wpAny_execs_cons (exc_s1 C1 X hK NN S0 R0 ep hline λq3 g3 S3 R3=>?_)
 refine wpAny_execs_cons (exc_s2 C1 X hK NN S3 R3 ep λq5 dx g5 ne S5 D5 R5=>?_)
 refine wpAny_execs_cons (exc_s3 C1 X hK NN ne S5 D5 R5 λq7 g7 S7 D7=>?_)
 exact wpAny_execs_nil ⟨rfl,exc_done I hef nL rfl ne S7 D7 (g7.trans (g5.trans (g3.trans hσ)))⟩
end
end
section
open Builtin Builtin.ObjectAttr
section
variable{x:Cx}{G:Prg}{cf:Addr->List D->Jaa->Out D}{fs:List Env}{A:Around}{p:Pt}{env:Env}{nm:List (Str×NameKind)}{vars:Jac}
theorem Jn3{M:Model}{K:Frag}{C:Addr}{E:Value->Shared->Prop}{s:Shared}{t:Sem Value}{Q:Flow->Shared->Prop}(T:Jds K C)(hh:A.handled=none)
  (h:wpAny M A t (λv s₁=>K.In s₁.heap/\(∃a vs dO,v=.ref a/\s₁.heap.get? a=some { cls:=.ref C,dict:=dO,data:=.fields vs }/\vs[1]?=some .none)/\E v s₁) E s) :
  wpAny M A (raiseStmt env (some t) none) Q E s:=by
 unfold raiseStmt
 refine wpAny_bind (wpAny_mono h (λv s₁ h₁=>?_) λ_ _ x=>x)
 obtain ⟨X,⟨a,vs,dO,rfl,he,h1⟩,hE⟩:=h₁
 have hC:=X _ _ T.obj
 have hcB:(Value.ref C::tbm).contains (.type "BaseException")=true:=by rw[List.contains_cons,tbB,Bool.or_true]
 obtain ⟨hp,g,d,tk,os⟩:=s₁
 refine wpAny_bind (wpAny_pure ?_)
 dsimp only
 refine wpAny_bind (wpAny_holding ?_)
 have hnt:∀{Q':Bool->Shared->Prop},Q' false ⟨hp,g,d,tk,os⟩->wpAny M A (isType (.ref a)) Q' E ⟨hp,g,d,tk,os⟩:=by
  intro Q' hq
  simp only[isType,loadHead]
  refine wpAny_bind (wpAny_loadPart he ?_)
  exact wpAny_pure hq
 unfold excFromValue isExcClass
 refine wpAny_bind (wpAny_bind (hnt ?_))
 simp only[Bool.false_eq_true,if_false]
 refine wpAny_pure ?_
 simp only[Bool.false_eq_true,if_false]
 unfold isInstance
 refine wpAny_bind (wpAny_bind ?_)
 unfold typeOf
 refine wpAny_bind (wpAny_loadPart he (wpAny_pure ?_))
 refine wpAny_isSubtype_exc hC ?_
 rw[hcB]
 simp only[if_true]
 refine wpAny_pure ?_
 refine wpAny_bind (hnt ?_)
 simp only[Bool.false_eq_true,if_false]
 unfold raisedInstance
 refine wpAny_bind (wpAny_bind ?_)
 unfold typeOf
 refine wpAny_bind (wpAny_loadPart he (wpAny_pure ?_))
 refine wpAny_bind ?_
 dsimp only
 refine wpAny_bind (wpAny_loadPart hC (wpAny_pure ?_))
 rw[if_pos (by simp)]
 refine wpAny_pure ?_
 unfold setFlight raiseNew
 refine wpAny_bind (wpAny_bind (wpAny_field he rfl h1 ?_))
 rw[if_neg (by decide)]
 refine wpAny_pure (wpAny_bind (wpAny_handled ?_))
 rw[hh]
 first
  |exact wpAny_throw hE
  |exact wpAny_bind (wpAny_pure (wpAny_throw hE))
noncomputable def excD(ds:List D):Option (Str×Int):=(two? ds).bind λt=>(str? t.1).bind λw=>(int? t.2).map λn=>(w,n)
noncomputable def excK(ds:List D)(σ:Jaa):Out (Str×Int):=(excD ds).elim .bad λr=>.ok r σ
theorem excD_of{ds:List D}{r:Str×Int}(h:excD ds=some r):ds=[.str r.1,.int r.2]:=by
 obtain ⟨t,h1,h2⟩:=Jaf h
 obtain ⟨w,h3,h4⟩:=Jaf h2
 obtain ⟨n,h5,rfl⟩:=Ja3 h4
 simp only[Jo6 h1,Jeu h3,Jbp h5]
theorem raise_eq{e1 e2:Expr}{σ:Jaa}:((evE G cf e1 nm vars σ).bind λa σ=>(evE G cf e2 nm vars σ).bind λb σ=>raiseD a b σ)=((evL G cf [e1,e2] nm vars σ).bind excK).bind λr σ=>.exc r.1 r.2 σ:=by
 rw[Jei,Jat,Jat]
 congr 1
 funext a σ
 rw[Jei,Jat,Jat]
 congr 1
 funext b σ
 show ((str? a).bind λw=>(int? b).map λn=>(w,n)).elim Out.bad _=((((str? a).bind λw=>(int? b).map λn=>(w,n)).elim Out.bad λr=>Out.ok r σ).bind _)
 cases (str? a).bind λw=>(int? b).map λn=>(w,n)<;>rfl
theorem ev_exn(C:Ctx x G cf fs A)(X:Jdt x G)(R:Jaz x fs env nm vars p)(I:Inv x fs p)(hn:nm.lookup G.exn=some .globalImplicit){pos:Pos}:W x fs A [] (eval (.Name G.exn pos) env) (.ok (.val (.ref x.TE)) p.σ) (Jaj x) p:=by
 have:=(good C _ (Expr.Name G.exn pos) (Nat.lt_succ_self _)).ev R I
 simp only[Jej,nameD,hn] at this
 have e:Out.of (G.glob G.exn) p.σ=.ok (.val (.ref x.TE)) p.σ:=by simp only[X.glob];rfl
 exact e▸this
theorem Jn4(C:Ctx x G cf fs A)(X:Jdt x G)(hK:x.K.In x.h0)(hlim:x.h0.NoLimit)(hroom:A.depth+1<recursionLimit)
  (C0:∀vs env,env.frame=some env.locals->Ctx x G cf (env::fs) ((A.under (.builtin "type.__call__" ⟨.ref x.TE::vs,[]⟩)).deeper env)) (R:Jaz x fs env nm vars p) (I:Inv x fs p) (hn:nm.lookup G.exn=some .globalImplicit) {e1 e2:Expr} (hp:plain [e1,e2]=true) {npos cpos:Pos} :
  W x fs A [] (eval (.Name G.exn npos) env >>= λv=>callWith cpos v [] (backTo cpos (starEach [e1,e2] env)) (backToKw cpos (keywordEach [] env))) ((evL G cf [e1,e2] nm vars p.σ).bind excK) (λq r v=>ExcMade x p r.1 r.2 q () v) p:=by
 refine W.bind (r:=.ok (D.val (.ref x.TE)) p.σ) (k:=λ_ σ=>(evL G cf [e1,e2] nm vars σ).bind excK) (ev_exn C X R I hn) λv d q g1 I1 X1 hv=>?_
 injection g1 with g1 g1'
 subst g1
 have hv:v=.ref x.TE:=hv
 subst hv
 refine Jfq hp (Jol (λe _=>good C _ e (Nat.lt_succ_self _)) hp (R.ext0 X1) I1) λvs ds q2 g2 I2 X2 hvs hb2=>⟨keeps_K X.keep _ (hK.keeps I2.keepsBase),?_⟩
 clear g2
 show W x fs A [] _ ((excD ds).elim .bad λr=>.ok r q2.σ) _ _
 refine W.elim λr hr=>?_
 cases excD_of hr
 refine λ_=>wpAny_mono (Joi (A:=A) X hK hlim hroom C.hfr C0 I2 hvs λe=>nomatch e) ?_ ?_
 ·rintro v s' ⟨_,q3,g3,rfl,I3,X3,hE,hO⟩
  injection g3 with _ g3
  exact ⟨r,q3,by rw[g3],rfl,I3,X3,hE.older λa h=>X1.none (X2.none h),hO⟩
 ·rintro v s' ⟨_,_,_,g3,_⟩
  exact nomatch g3
theorem raiseOk(C:Ctx x G cf fs A)(X:Jdt x G)(hK:x.K.In x.h0)(hlim:x.h0.NoLimit)(hroom:A.depth+1<recursionLimit)
  (C0:∀vs env,env.frame=some env.locals->Ctx x G cf (env::fs) ((A.under (.builtin "type.__call__" ⟨.ref x.TE::vs,[]⟩)).deeper env)):RaiseOk x G cf fs A:=by
 intro e1 e2 npos cpos pos env nm vars p R I hn hp
 rw[raise_eq]
 intro hbad
 have e0:exec (.Raise (some (.Call (.Name G.exn npos) [e1,e2] [] cpos)) none pos) env=(do standAt pos;raiseStmt env (some (do let v <-(eval (.Name G.exn npos) env >>= λv=>callWith cpos v [] (backTo cpos (starEach [e1,e2] env)) (backToKw cpos (keywordEach [] env)));standAt pos;pure v)) none):=rfl
 rw[e0]
 clear e0
 refine wpAny_bind (wpAny_standAt (Jn3 X.cls C.hA (wpAny_bind (wpAny_mono (Jn4 C X hK hlim hroom C0 R I hn hp λe=>hbad (by rw[e];rfl)) ?_ ?_))))
 ·rintro v s' ⟨⟨w,n⟩,q,g,rfl,I2,X2,hE,hO⟩
  exact wpAny_bind (wpAny_standAt (wpAny_pure ⟨hK.keeps I2.keepsBase,hO,w,n,q,by rw[g];rfl,rfl,I2,X2.mono (λ_ h=>by cases h),hE⟩))
 ·rintro v s' ⟨w,n,q,g,rfl,I2,X2,hE⟩
  exact ⟨w,n,q,by rw[g];rfl,rfl,I2,X2.mono (λ_ h=>by cases h),hE⟩
end
end
section
open Builtin Builtin.ObjectAttr
section
variable{prog:Program}{w:World}{A:Around}{E:Value->Shared->Prop}{s:Shared}{K:Frag}{C a:Addr}{y:Str}{R:Result->Shared->Prop}
theorem exc_find(T:Jds K C)(hn:findIn K (.ref C) y=some none){es:List DictEntry}{n:Nat}{v:Value}(e:getL y es=some (some v)):findObj K C (some (dictOf es n)) y=some (.value v):=by
 obtain ⟨cd,hc,_,hd⟩:=T.cls
 unfold findObj
 rw[hc,hn]
 simp only[Option.bind_some]
 unfold W.ownOf
 rw[hd,if_pos rfl]
 dsimp only
 rw[lookIn_dict,e]
 rfl
theorem Jj4{M:Model}{h:Heap}{g:Array GenState}{d:Drawn}{t:Nat}{os:OsState}{nm q:Str}{N:Addr}{bs bm:List Value}{hdct:Bool}{sn:List Str}{sub:List Value}{ab:Bool}{col:Option Bool}{dd:Option Addr}{k0 k1 k2 k3 k5:Option Value}{newId:String}{oe:Obj}{nameV:Value}{Q:Unit->Shared->Prop}
  (hC:h.get? C=some (excClassObj nm q C N bs bm hdct sn sub ab col dd k0 k1 k2 k3 k5 newId)) (hcB:(Value.ref C::bm).contains (.type "BaseException")=true) (hx:h.get? a=some oe) (hc:oe.cls=.ref C) (hq:Q () ⟨h,g,d,t,os⟩) :
  wpAny M A (checkBuiltinCall "BaseException.__getattribute__" ⟨[.ref a,nameV],[]⟩) Q E ⟨h,g,d,t,os⟩:=by
 have hk:builtinKind "BaseException.__getattribute__"=some .slot:=by decide +kernel
 have hsplit:splitId "BaseException.__getattribute__"=some ("BaseException","__getattribute__"):=by decide +kernel
 have ha:=PySem.F.args_bexc_ga (.ref a) nameV
 simp only[checkBuiltinCall,hk,hsplit]
 refine wpAny_bind ?_
 ·unfold isInstance
  repeat (first | (with_reducible refine wpAny_loadPart_at hx ?_;rw[hc]) | (with_reducible refine wpAny_isSubtype_exc hC ?_;rw[hcB]) | wp_step)
  exact hq
theorem exc_get{ox:Obj}{es:List DictEntry}{n:Nat}{v:Value}{expr:Bool}{Q:Value->Shared->Prop}(X:K.In s.heap)(T:Jds K C)(I:InstAt s.heap a ox C (some (dictOf es n)))
  (hga:findIn K (.ref C) "__getattribute__"=some (some (.builtin "BaseException.__getattribute__"))) (hgt:findIn K (.ref C) "__getattr__"=some none) (hno:findIn K (.ref C) y=some none)
  (e:getL y es=some (some v)) (hh:handedIn v=true) (h:Q v { s with toks:=s.toks+1 }):wpAny (model prog w) A (getAttr (.ref a) y expr) Q E s:=by
 have f3:=PySem.F.excAttr_ValueError.ga.bind (.ref a)
 have hx0:(expr&&onTheHeap (Value.builtin "BaseException.__getattribute__"))=false:=by cases expr<;>rfl
 have hx2:(Value.builtin "BaseException.__getattribute__"==Value.builtin "object.__getattribute__")=false:=by decide +kernel
 have hf:=exc_find T hno (n:=n) e
 have hC:=X _ _ T.obj
 have hcB:(Value.ref C::tbm).contains (.type "BaseException")=true:=by rw[List.contains_cons,tbB];rfl
 unfold getAttr
 refine wpAny_bind (wpAny_mkText ?_)
 unfold getAttrBy
 have I1:InstAt ({ s with toks:=s.toks+1 }:Shared).heap a ox C (some (dictOf es n)):=I
 have X1:K.In ({ s with toks:=s.toks+1 }:Shared).heap:=X
 refine wpAny_holding (wpAny_bind (I1.type.here (wpAny_bind ((looks_findIn X1 hga).here ?_))))
 dsimp only
 rw[hx2,Bool.and_false,if_neg (by decide)]
 unfold getAttrByItsOwn hookBefore
 rw[if_pos (show onTheHeap (Value.ref C)=true from rfl)]
 refine wpAny_bind ((looks_findIn X1 hgt).here ?_)
 unfold callGetattribute
 rw[hx0]
 simp only[Bool.false_eq_true,if_false]
 refine wpAny_bind (wpAny_attempt (wpAny_holding ?_))
 unfold boundAndCalled
 rw[f3]
 refine wpAny_bind (wpAny_pure (wpAny_call (codeAny_call_builtin PySem.F.excAttr_ValueError.ga.plain PySem.F.entry_bexc_ga ?_)))
 obtain ⟨hp,g,dr,tk,os⟩:=s
 refine Jj4 (oe:=ox) hC hcB I.at_ I.cls ?_
 unfold Builtin.«object.__getattribute__»
 refine wpAny_bind (wpAny_pure (wpAny_bind (wpAny_pure (wpAny_bind (I1.type.here (wpAny_bind ((looks_find X1 I hf).here ?_)))))))
 refine wpAny_pure ?_
 dsimp only
 rw[handedOut_of hh]
 exact wpAny_pure h
end
end
section
open Builtin Builtin.ObjectAttr
inductive ExcTold(x:Cx):Prop
 |mk (fT:Addr) (sc:Scope) (p1 p2 p3 p4:Pos) (k:Nat) (p5 p6:Pos) (h1:findIn x.K (.ref x.TE) "told"=some (some (.ref fT))) (h2:typeIn x.K (.ref fT)=some (.type "function")) (h3:keepIn x.K (.ref fT)=true)
  (h4:Ja2 x fT ["self"] sc [.Return (some (.Tuple [.Attribute (.Name "self" p1) "what" p2,.Attribute (.Name "self" p3) "at" p4] k p5)) p6]) (h5:sc.names.lookup ("self":Str)=some .local)
structure Jes(x:Cx)(G:Prg):Prop where
 ga:findIn x.K (.ref x.TE) "__getattribute__"=some (some (.builtin "BaseException.__getattribute__"))
 gt:findIn x.K (.ref x.TE) "__getattr__"=some none
 told:ExcTold x
section
variable{x:Cx}{G:Prg}{cf:Addr->List D->Jaa->Out D}{fs:List Env}{A:Around}{p:Pt}{env:Env}{nm:List (Str×NameKind)}{vars:Jac}
theorem Jiu{q:Pt}(I:Inv x fs q){a:Addr}{o:Obj}{vs:Array Value}(h:q.s.heap.get? a=some o)(hd:o.data=.fields vs):a∉frA fs:=λhm=>by
 obtain ⟨_,_,o',h',hn⟩:=Jbb I.frames a hm
 rw[h] at h';cases h';exact hn vs hd
theorem Jc1.on{q q2:Pt}{h:Heap}{v:Value}{w:Str}{n:Int}{tb:Bool}(E0:Jc1 x q h v w n tb)(I:Inv x fs q)(X:Ext fs [] q q2):Jc1 x q2 h v w n tb:=by
 obtain ⟨e,oe,vs,dx,es,k,h1,h2,h3,h4,h5,h6,h7,h8,h9,h10,h11,h12⟩:=E0
 have he:=(X.keep _ _ h2 h11 (by simp)).2 (Jiu I h2 h5)
 refine ⟨e,oe,vs,dx,es,k,h1,he,h3,h4,h5,h6,X.b _ _ h7,h8.mono X.sub,h9,X.bNone h10 ⟨_,h2⟩,X.rNone h11 ⟨_,h2⟩,?_⟩
 rcases h12 with h12 | ⟨T,oT,ts,a1,a2,a3,a4,a5,a6,a7,a8⟩
 ·exact .inl h12
 ·exact .inr ⟨T,oT,ts,a1,a2,(X.keep _ _ a3 a8 (by simp)).2 (Jiu I a3 a4),a4,a5,a6,X.bNone a7 ⟨_,a3⟩,X.rNone a8 ⟨_,a3⟩⟩
theorem Jo0{Pv:List Addr}(hK:x.K.In x.h0)(X:Jdt x G)(T:Jes x G){h:Heap}{e:Addr}{w:Str}{n:Int}{tb expr:Bool}(E0:Jc1 x p h (.ref e) w n tb)(I:Inv x fs p){y:Str}{d:D}(hy:findIn x.K (.ref x.TE) y=some none)(hd:getF ["what","at"] [.str w,.int n] y=some d)(hv:notVal d=true) :
  W x fs A Pv (getAttr (.ref e) y expr) (.ok d p.σ) (Jaj x) p:=by
 obtain ⟨e',oe,vs,dx,es,k,h1,h2,h3,h4,h5,h6,h7,h8,h9,h10,h11,h12⟩:=E0
 cases h1
 obtain ⟨v,g1,g2⟩:=Je9 h8 hd
 have XK:=hK.keeps I.keepsBase
 exact W.tk I λQ E hq=>exc_get (n:=k) XK X.cls ⟨h2,h3,by unfold notCls;rw[h5],by rw[h4];exact I.froz _ _ h7⟩ T.ga T.gt hy g1 (handed g2 hv) (hq _ _ g2)
theorem Jgz(H:PrgOk x G)(hK:x.K.In x.h0)(X:Jdt x G)(T:Jes x G){h:Heap}{e:Addr}{w:Str}{n:Int}{tb:Bool}(E0:Jc1 x p h (.ref e) w n tb)(R:Jaz x fs env nm vars p)(I:Inv x fs p){self:Str}(hs:nm.lookup self=some .local)(hse:vars self=some (.val (.ref e))){y:Str}{d:D}{p1 p2:Pos}(hy:findIn x.K (.ref x.TE) y=some none)(hd:getF ["what","at"] [.str w,.int n] y=some d)(hv:notVal d=true) :
  W x fs A [] (eval (.Attribute (.Name self p1) y p2) env) (.ok d p.σ) (Jaj x) p:=by
 rw[arm_eval_Attribute,Jgy rfl]
 have hn:W x fs A [] (eval (.Name self p1) env) (.ok (.val (.ref e)) p.σ) (Jaj x) p:=by
  have:=Jmi (A:=A) (Pv:=[]) H R I (y:=self) (pos:=p1)
  rw[nameD,hs,hse] at this
  exact this
 refine W.bind (k:=λ_ σ=>.ok d σ) hn λva a q g1 I1 X1 ha=>W.stand (W.pass (W.hold ?_) λv Q E s hq=>wpAny_bind (wpAny_letTemporaryGo (wpAny_pure hq)))
 injection g1 with g1 g2
 subst g1
 have ha:va=.ref e:=ha
 subst ha
 exact Jo0 hK X T (E0.on I X1) I1 hy hd hv
theorem Jnu{t1 t2:Sem Value}{d1 d2:D}(h1:W x fs A [] t1 (.ok d1 p.σ) (Jaj x) p)(h2:∀q,Inv x fs q->Ext fs [] p q->W x fs A [] t2 (.ok d2 q.σ) (Jaj x) q):W x fs A [] (spliced [(false,t1),(false,t2)]) (.ok [d1,d2] p.σ) (RelVs x) p:=by
 rw[Jfh]
 refine W.bind (k:=λ_ σ=>.ok [d1,d2] σ) h1 λv1 d q1 g1 I2 X2 hv1=>?_
 injection g1 with g1 g1'
 subst g1
 refine W.bind (r:=.ok [d2] q1.σ) (R:=RelVs x) (k:=λ_ σ=>.ok [d1,d2] σ) (W.hold ?_) λvs ds q2 g2 I3 X3 hvs=>?_
 ·rw[Jfh]
  refine W.bind (k:=λ_ σ=>.ok [d2] σ) (h2 q1 I2 X2) λv2 d q2 g2 I3 X3 hv2=>?_
  injection g2 with g2 g2'
  subst g2
  refine W.bind (r:=.ok [] q2.σ) (R:=RelVs x) (k:=λ_ σ=>.ok [d2] σ) (W.hold (W.pure I3 rfl)) λvs ds q3 g3 I4 X4 hvs=>?_
  injection g3 with g3 g3'
  subst g3
  have hvs:vs=[]:=hvs
  subst hvs
  exact W.pure I4 ⟨v2,[],rfl,Rel.mono X4.sub hv2,rfl⟩
 ·injection g2 with g2 g2'
  subst g2
  exact W.pure I3 ⟨v1,vs,rfl,Rel.mono X3.sub hv1,hvs⟩
theorem Jpf(H:PrgOk x G)(hK:x.K.In x.h0)(X:Jdt x G)(T:Jes x G){h:Heap}{e:Addr}{w:Str}{n:Int}{tb:Bool}(E1:Jc1 x p h (.ref e) w n tb)(R:Jaz x fs env nm vars p)(I1:Inv x fs p)(hs:nm.lookup ("self":Str)=some .local)(hse:vars "self"=some (.val (.ref e))){p1 p2 p3 p4 p5:Pos}{k:Nat} :
  W x fs A [] (eval (.Tuple [.Attribute (.Name "self" p1) "what" p2,.Attribute (.Name "self" p3) "at" p4] k p5) env) (.ok (.tup [.str w,.int n]) p.σ) (Jaj x) p:=by
 rw[arm_eval_Tuple]
 refine W.stand ?_
 show W x fs A [] (spliced ((false,eval (.Attribute (.Name "self" p1) "what" p2) env)::(false,eval (.Attribute (.Name "self" p3) "at" p4) env)::[]) >>= λvs=>_) _ _ p
 refine W.bind (r:=.ok [.str w,.int n] p.σ) (R:=RelVs x) (k:=λ_ σ=>.ok (D.tup [.str w,.int n]) σ) (Jnu (Jgz H hK X T E1 R I1 hs hse X.noWhat rfl rfl) λq1 I2 X2=>Jgz H hK X T (E1.on I1 X2) (R.ext0 X2) I2 hs hse X.noAt rfl rfl) λvs ds q2 g2 I3 X3 hR=>?_
 injection g2 with g2 g2'
 subst g2
 have hlen:vs.length=2:=Jay.len hR
 exact λ_=>wpAny_newTuple ⟨_,q2.push { cls:=.type "tuple",data:=.seq vs.toArray } q2.s.toks,rfl,rfl,I3.push _ rfl _,Ext.push I3 _ _ _,Jmd I3 hR rfl⟩ (by rw[hlen,sizeLine_eq];exact ar6)
theorem told_W(H:PrgOk x G)(X:Jdt x G)(T:Jes x G)(hlim:x.h0.NoLimit)(hroom:A.depth<recursionLimit)(hfr:A.frames=some fs){fT:Addr}(hfT:findIn x.K (.ref x.TE) "told"=some (some (.ref fT))){h:Heap}{e:Addr}{w:Str}{n:Int}{tb:Bool}(E0:Jc1 x p h (.ref e) w n tb)(I:Inv x fs p) :
  W x fs A [] (call (.ref fT) [.ref e]) (.ok (.tup [.str w,.int n]) p.σ) (Jaj x) p:=by
 intro _
 obtain ⟨fT',sc,p1,p2,p3,p4,k,p5,p6,t1,t2,t3,F,hs⟩:=T.told
 rw[hfT] at t1
 cases t1
 clear t2 t3 hfT
 have hr:RelVs x p [.val (.ref e)] [.ref e]:=⟨_,_,rfl,rfl,rfl⟩
 refine wpAny_call (Jf5 F H.K hlim hroom I hr rfl λenv q0 hσ hef hek I1 R X0 hn hkeep=>?_)
 refine wpAny_execs_cons ?_
 rw[exec_Return_some]
 refine wpAny_bind (wpAny_standAt (wpAny_bind ((Jpf H H.K X T (E0.on I X0) R I1 hs rfl).run λv q g I2 X2 hv=>?_)))
 exact wpAny_pure ⟨.tup [.str w,.int n],q,by rw[g,hσ],rfl,I2.tail,X0.leave hef X2 (hn env.locals (List.mem_cons_self ..)) (by simp),hv⟩
end
end
section
open Builtin Builtin.ObjectAttr
section
variable{x:Cx}{G:Prg}{cf:Addr->List D->Jaa->Out D}{fs:List Env}{A:Around}{p:Pt}{env:Env}{nm:List (Str×NameKind)}{vars:Jac}
theorem Jlk{M:Model}{K:Frag}{C e:Addr}{oe:Obj}{s:Shared}{E:Value->Shared->Prop}{Q:Bool->Shared->Prop}(T:Jds K C)(XK:K.In s.heap)(he:s.heap.get? e=some oe)(hcls:oe.cls=.ref C)(hq:Q true s):wpAny M A (excMatches (.ref e) (.ref C)) Q E s:=by
 obtain ⟨hp,g,d,tk,os⟩:=s
 exact wpAny_excMatches_sub_self (XK _ _ T.obj) he hcls tbB hq
theorem Joh{prog:Program}{w:World}{K:Frag}{C a f:Addr}{s:Shared}{y:Str}{E:Value->Shared->Prop}{pl:Sem Bool}{Q:Value×List Value->Shared->Prop}{ox:Obj}{od:Option Obj}(X:K.In s.heap)(I:InstAt s.heap a ox C od)
  (hga:findIn K (.ref C) "__getattribute__"=some (some (.builtin "BaseException.__getattribute__"))) (hk:findIn K (.ref C) "__getattr__"=some none)
  (hf:findIn K (.ref C) y=some (some (.ref f))) (ht:typeIn K (.ref f)=some (.type "function")) (hs:shadowIn od y=some false) (h:Q (.ref f,[.ref a]) s) :
  wpAny (model prog w) A (getMethod (.ref a) y pl) Q E s:=by
 have hcan:(Manifest.canonical "BaseException.__getattribute__" != "object.__getattribute__")=false:=by decide +kernel
 unfold getMethod specialOf
 refine wpAny_bind (wpAny_bind (I.type.here ((looks_findIn X hga).here ?_)))
 dsimp only
 rw[hcan,if_neg (by decide)]
 refine wpAny_bind (wpAny_bind (I.type.here ((looks_findIn X hk).here ?_)))
 refine wpAny_bind (wpAny_bind (I.type.here ((looks_findIn X hf).here (wpAny_bind ((looks_typeIn X ht).here ?_)))))
 rw[if_neg (by decide +kernel)]
 refine wpAny_bind (wpAny_loadPart I.at_ ?_)
 have hd:=I.dict
 cases e:ox.dict with
 |none=>exact wpAny_bind (wpAny_rule (wpAny_pure h))
 |some dx=>
  cases od with
  |none=>rw[e] at hd;exact hd.elim
  |some o=>
   rw[e] at hd
   obtain ⟨r,a,b⟩:=Option.map_eq_some_iff.mp hs
   refine wpAny_bind (wpAny_bind (wpAny_loadPart hd ?_))
   rw[nsLook_of a]
   refine wpAny_pure ?_
   rw[b]
   exact wpAny_bind (wpAny_rule (wpAny_pure h))
theorem Jc1.onP{Pv:List Addr}{q q2:Pt}{h:Heap}{v:Value}{w:Str}{n:Int}{tb:Bool}(E0:Jc1 x q h v w n tb)(I:Inv x fs q)(X:Ext fs Pv q q2)(hP:∀a∈Pv,∃o,h.get? a=some o):Jc1 x q2 h v w n tb:=by
 obtain ⟨e,oe,vs,dx,es,k,h1,h2,h3,h4,h5,h6,h7,h8,h9,h10,h11,h12⟩:=E0
 have off:∀a,h.get? a=none->a∉Pv:=λa ha hm=>by obtain ⟨o,ho⟩:=hP a hm;rw[ha] at ho;cases ho
 have he:=(X.keep _ _ h2 h11 (off _ h9)).2 (Jiu I h2 h5)
 refine ⟨e,oe,vs,dx,es,k,h1,he,h3,h4,h5,h6,X.b _ _ h7,h8.mono X.sub,h9,X.bNone h10 ⟨_,h2⟩,X.rNone h11 ⟨_,h2⟩,?_⟩
 rcases h12 with h12 | ⟨T,oT,ts,a1,a2,a3,a4,a5,a6,a7,a8⟩
 ·exact .inl h12
 ·exact .inr ⟨T,oT,ts,a1,a2,(X.keep _ _ a3 a8 (off _ a6)).2 (Jiu I a3 a4),a4,a5,a6,X.bNone a7 ⟨_,a3⟩,X.rNone a8 ⟨_,a3⟩⟩
theorem Jaz.gone{q:Pt}(R:Jaz x fs env nm vars q){n:Str}{h':Heap}{tk:Nat}{m:Str->Option Value}{u:Option Value}(hnl:nm.lookup n=some .local)(hm0:∀y d,nm.lookup y=some .local->vars y=some d->∃v,m y=some v/\Jaj x q d v)(hn:h'.Ns env.locals (λy=>if y=n then u else m y))(hs:Heap.SameBut env.locals q.s.heap h') :
  Jaz x fs env nm (λz=>if z=n then none else vars z) (q.own h' tk):=by
 obtain ⟨o,es,ep,ho,hod,hoe⟩:=id hn
 refine ⟨R.kind,R.names,R.glob,R.bi,R.debug,R.clsd,⟨_,hn,λy d e1 e2=>?_⟩,λy hy=>?_,R.apart,R.off,λa ha=>?_,R.frame⟩
 ·by_cases hy:y=n
  ·subst hy
   simp at e2
  ·simp only[hy,if_false] at e2 ⊢
   exact hm0 y d e1 e2
 ·obtain ⟨c,u',g1,g2,g3⟩:=R.cel y hy
  refine ⟨c,u',g1,g2.sameBut hs (R.off y c g1),λd e2=>?_⟩
  by_cases hyn:y=n
  ·subst hyn;rw[hnl] at hy;rcases hy with hy | hy<;>cases hy
  ·simp only[hyn,if_false] at e2
   exact g3 d e2
 ·obtain ⟨g1,g2,o',g3⟩:=R.priv a ha
  refine ⟨g1,g2,?_⟩
  by_cases hb:a=env.locals
  ·subst hb;exact ⟨o,ho⟩
  ·exact ⟨o',(hs.2 a hb).trans g3⟩
section steps
variable{ea:Addr}{w:Str}{k:Int}{n:Str}{q p0:Pt}{h:Heap}
theorem Jpe(C:Ctx x G cf fs A)(X:Jdt x G)(T:Jes x G)(hlim:x.h0.NoLimit)(hroom:A.depth<recursionLimit)(E:Jc1 x q h (.ref ea) w k true)(R:Jaz x fs env nm vars q)(I:Inv x fs q)(hnl:nm.lookup n=some .local)(hv:vars n=some (.val (.ref ea))){mpos apos kpos:Pos}(hline:apos.endLine=kpos.line) :
  W x fs (A.mark (some (.ref ea))) [] (eval (.Call (.Attribute (.Name n mpos) "told" apos) [] [] kpos) env) (.ok (.tup [.str w,.int k]) q.σ) (Jaj x) q:=by
 rw[arm_eval_Call,Jgy rfl]
 have hn2:W x fs (A.mark (some (.ref ea))) [] (eval (.Name n mpos) env) (.ok (.val (.ref ea)) q.σ) (Jaj x) q:=by
  have:=Jmi (A:=A.mark (some (.ref ea))) (Pv:=[]) C.H R I (y:=n) (pos:=mpos)
  rw[nameD,hnl,hv] at this
  exact this
 refine W.bind (r:=.ok (D.val (.ref ea)) q.σ) (k:=λ_ σ=>.ok (D.tup [.str w,.int k]) σ) hn2 λva d q7 g7 I7 X7 hva=>W.stand λ_=>?_
 injection g7 with g7 g7'
 subst g7
 have hva:va=.ref ea:=hva
 subst hva
 have E7:=E.on I X7
 clear E hn2
 unfold methodCall
 rw[Jfi (es:=[]) rfl (by simp)]
 obtain ⟨fT,sc,p1,p2,p3,p4,kx,p5,p6,t1,t2,t3,FT,hst⟩:=T.told
 clear FT hst
 have XK7:=C.H.K.keeps I7.keepsBase
 have IA:∃ox es7 kk7,InstAt q7.s.heap ea ox x.TE (some (dictOf es7 kk7))/\RelF x.w.params q7.B q7.ρ ["what","at"] [.str w,.int k] es7:=by
  obtain ⟨_,oe7,vs7,dx7,es7,kk7,c1,c2,c3,c4,c5,c6,c7,c8,c9,c10,c11,c12⟩:=E7
  cases c1
  exact ⟨_,es7,kk7,⟨c2,c3,by unfold notCls;rw[c5],by rw[c4];exact I7.froz _ _ c7⟩,c8⟩
 obtain ⟨ox,es7,kk7,IA,c8⟩:=IA
 refine wpAny_bind (wpAny_holding (Joh XK7 IA T.ga T.gt t1 t2 (by unfold shadowIn;dsimp only;rw[lookIn_dict,Jfa c8 (by rfl)];rfl) ?_))
 clear IA c8
 have hpos':methodCallPos true (.Name n mpos) env apos kpos=pure kpos:=by unfold methodCallPos;simp[hline]
 refine wpAny_bind (wpAny_of_eq hpos' ?_)
 refine callWith_of (P:=λh=>x.K.In h) (by rw[Jd2 (es:=[]) rfl];rfl) (λh hh=>keeps_K t3 h hh) ?_
 refine Jcp (es:=[]) rfl (wpAny_pure ⟨XK7,?_⟩)
 exact (told_W (A:=A.mark (some (.ref ea))) C.H X T hlim hroom C.hfr t1 E7 I7).run λv q8 g8 I8 X8 hv=>⟨_,q8,by rw[g8],rfl,I8,X8,hv⟩
theorem unbind_W(hkn:env.kindOf n=some .local)(hnl:nm.lookup n=some .local)(R:Jaz x fs env nm vars q)(I:Inv x fs q){hpos:Pos}{Q:Unit->Shared->Prop}{E:Value->Shared->Prop}
  (hq:∀q',q'.σ=q.σ->Inv x fs q'->Ext fs (pvt env) q q'->Jaz x fs env nm (λz=>if z=n then none else vars z) q'->Q () q'.s):wpAny (model x.prog x.w) A (do bindName env n .none;unbindBehindTheSuite env n hpos) Q E q.s:=by
 refine wpAny_bind (wpAny_bindName (Jib (Pv:=pvt env) (List.mem_cons_self ..) Jfs R I (y:=n) (v:=.none) (d:=.none) (by unfold Jdm;rw[hnl]) rfl λq9 e9 I9 X9 R9=>?_))
 unfold unbindBehindTheSuite
 refine wpAny_onRaise ?_
 obtain ⟨m,hns,hm⟩:=R9.loc
 obtain ⟨u9,hu,_⟩:=hm n .none hnl (if_pos rfl)
 refine wpAny_unbindName_local hkn hns hu (by rw[R.kind];rfl) λh' u hn' hs'=>?_
 have R10:=R9.gone (tk:=q9.s.toks) hnl hm hn' hs'
 obtain ⟨o,es',ep,ho,hod,hoe⟩:=hn'
 have hpl:env.locals∈pvt env:=List.mem_cons_self ..
 refine hq (q9.own h' q9.s.toks) e9 (I9.own _ (R9.priv _ hpl).1 (R9.priv _ hpl).2.1 hs' ho (λvs hvs=>by rw[hod] at hvs;cases hvs)) (X9.trans (Ext.own _ hs' ho hpl)) (R10.less λz d hz=>?_)
 by_cases hzn:z=n
 ·simp[hzn] at hz
 ·simpa [hzn,Jac.set] using hz
theorem suite_W(C:Ctx x G cf fs A)(X:Jdt x G)(T:Jes x G)(hlim:x.h0.NoLimit)(hroom:A.depth<recursionLimit)(E:Jc1 x q p0.s.heap (.ref ea) w k true)(R:Jaz x fs env nm vars q)(I:Inv x fs q)(hP:∀a∈pvt env,∃o,p0.s.heap.get? a=some o)(hnl:nm.lookup n=some .local){mpos apos kpos rpos hpos:Pos}(hline:apos.endLine=kpos.line)(hkn:env.kindOf n=some .local)
  {Q:Flow->Shared->Prop} {E1 E2 E3:Value->Shared->Prop} (hq:∀q' v,q'.σ=q.σ->Inv x fs q'->Ext fs (pvt env) q q'->StR x fs env nm q' (λz=>if z=n then none else vars z,.ret (.tup [.str w,.int k])) (.ret v)->Q (.ret v) q'.s):wpAny (model x.prog x.w) (A.mark (some (.ref ea))) (storeName env n (.ref ea)) (λ_ s₂=>wpAny (model x.prog x.w) (A.mark (some (.ref ea))) (execs [.Return (some (.Call (.Attribute (.Name n mpos) "told" apos) [] [] kpos)) rpos] env)
   (λf s'=>wpAny (model x.prog x.w) A (do bindName env n .none;unbindBehindTheSuite env n hpos) (λ_ s''=>Q f s'') E1 s') E2 s₂) E3 q.s:=by
 refine Jib (Pv:=pvt env) (List.mem_cons_self ..) Jfs R I (y:=n) (v:=.ref ea) (d:=.val (.ref ea)) (by unfold Jdm;rw[hnl]) rfl λq6 e6 I6 X6 R6=>?_
 refine wpAny_execs_cons ?_
 rw[exec_Return_some]
 refine wpAny_bind (wpAny_standAt (wpAny_bind ((Jpe C X T hlim hroom (E.onP I X6 hP) R6 I6 hnl (if_pos rfl) hline).run λv q8 g8 I8 X8 hv=>wpAny_pure ?_)))
 refine unbind_W hkn hnl (R6.ext0 X8) I8 λq9 e9 I9 X9 R9=>hq q9 v (e9.trans (g8.trans e6)) I9 (X6.trans ((X8.mono λ_ h=>by cases h).trans X9)) ⟨R9.less λz d hz=>?_,v,rfl,Rel.mono X9.sub hv⟩
 have hz:(if z=n then none else vars z)=some d:=hz
 by_cases hzn:z=n
 ·rw[if_pos hzn] at hz;cases hz
 ·rw[if_neg hzn] at hz ⊢
  exact (if_neg hzn).trans hz
theorem handle_W(C:Ctx x G cf fs A)(X:Jdt x G)(T:Jes x G)(hlim:x.h0.NoLimit)(hroom:A.depth<recursionLimit){ev:Value}{σ:Jaa}{s:Shared}(F:Jar x fs [] p w k σ true ev s)(R:Jaz x fs env nm vars p)(hx:nm.lookup G.exn=some .globalImplicit)(hnl:nm.lookup n=some .local){cpos mpos apos kpos rpos hpos:Pos}(hline:apos.endLine=kpos.line)(hkn:env.kindOf n=some .local)
  {Q:Flow->Shared->Prop} {E:Value->Shared->Prop} (hq:∀q' v,q'.σ=σ->Inv x fs q'->Ext fs (pvt env) p q'->StR x fs env nm q' (λz=>if z=n then none else vars z,.ret (.tup [.str w,.int k])) (.ret v)->Q (.ret v) q'.s) :
  wpAny (model x.prog x.w) A (handleBy ev env [.ExceptHandler (some (.Name G.exn cpos)) (some n) [.Return (some (.Call (.Attribute (.Name n mpos) "told" apos) [] [] kpos)) rpos] hpos]) Q E s:=by
 obtain ⟨q3,e3,rfl,I3,X3,E3⟩:=F
 obtain ⟨ea,rfl⟩:∃ea,ev=.ref ea:=by obtain ⟨e,_,_,_,_,_,h,_⟩:=E3;exact ⟨e,h⟩
 have hn1:W x fs (A.mark (some (.ref ea))) [] (eval (.Name G.exn cpos) env) (.ok (.val (.ref x.TE)) q3.σ) (Jaj x) q3:=by
  have:=Jmi (A:=A.mark (some (.ref ea))) (Pv:=[]) C.H (R.ext0 X3) I3 (y:=G.exn) (pos:=cpos)
  rw[nameD,hx] at this
  have e:Out.of (G.glob G.exn) q3.σ=.ok (.val (.ref x.TE)) q3.σ:=by rw[X.glob];rfl
  exact e▸this
 refine wpAny_handleBy_cons (codeAny_handlers_test (hn1.run λva q4 g4 I4 X4 hva=>?_)) (by intro q;cases q)
 have hva:va=.ref x.TE:=hva
 subst hva
 have E4:=E3.on I3 X4
 obtain ⟨oe,b2,b3⟩:∃oe,q4.s.heap.get? ea=some oe/\oe.cls=.ref x.TE:=by
  obtain ⟨_,oe,vs,dx,es,kk,b1,b2,b3,_⟩:=E4
  cases b1
  exact ⟨oe,b2,b3⟩
 refine Jlk X.cls (C.H.K.keeps I4.keepsBase) b2 b3 ?_
 clear b2 b3
 refine codeAny_handlers_suite_as ?_
 have F4:Jar x fs [] p w k σ true (.ref ea) q4.s:=⟨q4,g4.trans e3,rfl,I4,X3.trans X4,E4⟩
 refine F4.setFlight λs5 F5=>?_
 obtain ⟨q5,e5,rfl,I5,X5,E5⟩:=F5
 exact suite_W C X T hlim hroom E5 (R.ext0 X5) I5 (λa ha=>(R.priv a ha).2.2) hnl hline hkn λq' v g I' X' S=>hq q' v (g.trans e5) I' ((X5.mono λ_ h=>by cases h).trans X') S
end steps
theorem tryOk(C:Ctx x G cf fs A)(X:Jdt x G)(T:Jes x G)(hlim:x.h0.NoLimit)(hroom:A.depth<recursionLimit):TryOk x G cf fs A:=by
 intro e y n yp ap cpos mpos apos kpos rpos hpos pos env nm vars p ge hcall hy hline R I hx hnl hbad
 have hE:evE G cf e nm vars p.σ≠.bad:=λh=>hbad (by rw[h];rfl)
 clear hbad
 have hkn:env.kindOf n=some .local:=by
  rcases R.names n with h | h
  ·rw[h,hnl]
  ·rw[hnl] at h;cases h.2
 refine wpAny_Try_except (wpAny_execs_cons ?_)
 have e0:exec (.Assign [.Name y yp] e ap) env=(standAt ap >>= λ_=>swapsWithSole [.Name y yp] e ap.line env >>= λb=>if b=true then (do evalThenUse e env λv=>assignAll v ((assignEach [.Name y yp] env).map (·.2));pure .next) else (do
   let v <-eval e env
   assignStores env v (<-swappedStores [.Name y yp] e env) ((assignEach [.Name y yp] env).map (·.2)))):=rfl
 rw[e0]
 clear e0
 refine wpAny_bind (wpAny_standAt ?_)
 rw[Jg8 (Jsb hcall)]
 show wpAny _ A (eval e env >>= λv=>swappedStores [.Name y yp] e env >>= λsw=>assignStores env v sw ((assignEach [.Name y yp] env).map (·.2))) _ _ p.s
 rw[Je4 (.inl λ_ _ _ h=>by cases h) λ_ _ h=>by cases h]
 refine wpAny_bind (wpAny_mono (ge.ev R I hE) ?_ ?_)
 ·rintro v s' ⟨d,q2,g1,rfl,I2,X2,hv⟩
  show wpAny _ A (assign (.Name y yp) env v >>= λ_=>pure Flow.next) _ _ q2.s
  refine wpAny_bind (Jdb (List.mem_cons_self ..) Jfs C.hA (R.ext0 X2) I2 (t:=.Name _ _) hy hv rfl λq3 e1 I3 X3 R3=>wpAny_pure (wpAny_execs_nil (wpAny_execs_nil ?_)))
  exact ⟨(vars.set y d,.next),q3,by rw[g1,e1];rfl,rfl,I3,(X2.mono (λ_ h=>by cases h)).trans X3,R3,rfl⟩
 rintro ev s' ⟨w,k,q1,g1,rfl,I1,X1,E1⟩
 obtain ⟨e0',outer,FL,rfl,hf0,hf⟩:=R.frame
 have F1:Jar x (e0'::outer) [] p w k q1.σ false ev q1.s:=⟨q1,rfl,rfl,I1,X1,E1⟩
 refine F1.noteFrame C.hfr hf0 hf λs2 F2=>F2.setFlight λs3 F3=>?_
 exact handle_W C X T hlim hroom F3 R hx hnl hline hkn λq' v g I' X' S=>⟨_,q',by rw[g1];show Out.ok _ q1.σ=_;rw[g],rfl,I',X',S⟩
end
end
section
structure AllOk(x:Cx)(G:Prg):Prop where
 H:PrgOk x G
 Hc:ClsOk x G
 X:Jdt x G
 T:Jes x G
 lim:x.h0.NoLimit
 fn:∀a ps sc body,G.fn a=some (ps,sc,body)->Ja2 x a ps sc body/\keepIn x.K (.ref a)=true
 cls:∀a fr ps sc fields,G.cls a=some (fr,ps,sc,fields)->MakeOk x a ps sc fields
structure Jez(A:Around)(fs:List Env)(n:Nat):Prop where
 handled:A.handled=none
 frames:A.frames=some fs
 depth:A.depth+3*n<recursionLimit
 units:A.units+10*n+8<cLine
section
variable{x:Cx}{G:Prg}{fs:List Env}{A:Around}{n:Nat}
theorem Jez.deeper(R:Jez A fs (n+1))(env:Env):Jez (A.deeper env) (env::fs) n:=
 ⟨R.handled,by show A.frames.map _=_;rw[R.frames];rfl,by have:=R.depth;show A.depth+1+_<_;exact ar312 this,by have:=R.units;show A.units+3+_+8<_;exact ar368 this⟩
theorem Jg5(A:Around)(C:Addr)(vs:List Value):(A.under (.builtin "type.__call__" ⟨.ref C::vs,[]⟩)).handled=A.handled/\(A.under (.builtin "type.__call__" ⟨.ref C::vs,[]⟩)).frames=A.frames/\(A.under (.builtin "type.__call__" ⟨.ref C::vs,[]⟩)).depth=A.depth+1/\(A.under (.builtin "type.__call__" ⟨.ref C::vs,[]⟩)).units=A.units+1:=by
 refine ⟨rfl,?_,?_,?_⟩
 ·have e:(Code.builtin "type.__call__" ⟨.ref C::vs,[]⟩).envs=[]:=by kernel_rfl
  unfold Around.under
  rw[e]
  cases A.frames<;>rfl
 ·have e:(Code.builtin "type.__call__" ⟨.ref C::vs,[]⟩).weight=1:=by kernel_rfl
  unfold Around.under
  rw[e]
 ·have e:(Code.builtin "type.__call__" ⟨.ref C::vs,[]⟩).cUnits=1:=by kernel_rfl
  unfold Around.under
  rw[e]
theorem Jez.make(R:Jez A fs (n+1))(C:Addr)(vs:List Value)(env:Env):Jez ((A.under (.builtin "type.__call__" ⟨.ref C::vs,[]⟩)).deeper env) (env::fs) n:=by
 obtain ⟨h1,h2,h3,h4⟩:=Jg5 A C vs
 exact ⟨h1.trans R.handled,by show Option.map _ _=_;rw[h2,R.frames];rfl,by have:=R.depth;show _+1+_<_;rw[h3];exact ar344 this,by have:=R.units;show _+3+_+8<_;rw[h4];exact ar377 this⟩
theorem Jez.make2(R:Jez A fs (n+1))(e1:Env)(C:Addr)(vs:List Value)(env:Env):Jez (((A.deeper e1).under (.builtin "type.__call__" ⟨.ref C::vs,[]⟩)).deeper env) (env::e1::fs) n:=by
 obtain ⟨h1,h2,h3,h4⟩:=Jg5 (A.deeper e1) C vs
 exact ⟨h1.trans R.handled,by show Option.map _ _=_;rw[h2];show Option.map _ (Option.map _ A.frames)=_;rw[R.frames];rfl,by have:=R.depth;show _+1+_<_;rw[h3];show A.depth+1+1+1+_<_;exact ar361 this,by have:=R.units;show _+3+_+8<_;rw[h4];show A.units+3+1+3+_+8<_;exact ar389 this⟩
theorem Jez.ctx(P:AllOk x G)(R:Jez A fs n)(Cf:CfOk x (cfn G n) fs A):Ctx x G (cfn G n) fs A:=⟨P.H,P.Hc,R.handled,R.frames,by have:=R.units;exact ar253 this,Cf⟩
theorem Jjz(P:AllOk x G)(ih:∀{A fs},Jez A fs n->CfOk x (cfn G n) fs A)(R:Jez A fs (n+1))(env:Env)(l:List Stmt):GoodSs x G (cfn G n) (env::fs) (A.deeper env) l:=by
 have R1:=R.deeper env
 have C1:=R1.ctx P (ih R1)
 have hd:=R.depth
 have hR:RaiseOk x G (cfn G n) (env::fs) (A.deeper env):=raiseOk C1 P.X P.H.K P.lim (by show A.depth+1+1<_;exact ar283 hd) λvs e2 _=>(R.make2 env x.TE vs e2).ctx P (ih (R.make2 env x.TE vs e2))
 have hT:TryOk x G (cfn G n) (env::fs) (A.deeper env):=tryOk C1 P.X P.T P.lim (by show A.depth+1<_;exact ar261 hd)
 intro e2 nm vars p R2 I2
 exact Jro (λst hs=>goodS C1 hR hT _ st (Nat.lt_succ_self _)) R2 I2
theorem cfOk(P:AllOk x G):∀(n:Nat) {A:Around} {fs:List Env},Jez A fs n->CfOk x (cfn G n) fs A:=by
 intro n
 induction n with
 |zero=>intro A fs R;exact ⟨λ_ _ _ _ _ _=>by unfold cfn;exact .bad,λ_ _ _ h=>absurd (by unfold cfn;rfl) h⟩
 |succ n ih=>
  intro A fs R
  have hd:=R.depth
  refine ⟨λp a as vs I hr=>?_,λa as σ h=>?_⟩
  ·unfold cfn
   cases e1:G.fn a with
   |some t=>
    obtain ⟨ps,sc,body⟩:=t
    obtain ⟨F,_⟩:=P.fn _ _ _ _ e1
    dsimp only
    split
    ·rename_i hl
     exact fn_W F P.H.K P.lim (by exact ar230 hd) R.frames I hr hl λenv q hσ hef hek I1 R1=>by
      rw[<-hσ]
      exact Jjz P ih R env body R1 I1
    ·exact .bad
   |none=>
    cases e2:G.cls a with
    |some t=>
     obtain ⟨fr,ps,sc,fields⟩:=t
     dsimp only
     split
     ·rename_i hl
      exact make_W (P.cls _ _ _ _ _ e2) P.H.K P.lim (by exact ar261 hd) R.frames (λenv _=>(R.make a vs env).ctx P (ih (R.make a vs env))) I hr hl fr
     ·exact .bad
    |none=>exact .bad
  ·unfold cfn at h
   cases e1:G.fn a with
   |some t=>exact (P.fn _ _ _ _ e1).2
   |none=>
    cases e2:G.cls a with
    |some t=>exact (P.cls _ _ _ _ _ e2).keep
    |none=>rw[e1,e2] at h;exact absurd rfl h
end
end
section
open Hd
noncomputable def laid:List Stmt->List (Str×Expr)
 |.Assign [.Attribute _ f _] e _::r=>(f,e)::laid r
 |_=>[]
noncomputable def rcd(frozen:Bool)(t:List Str×Scope×List Stmt):Bool×List Str×Scope×List (Str×Expr):=(frozen,t.1.tail,t.2.1,laid t.2.2)
noncomputable def fnTab:List (Nat×(List Str×Scope×List Stmt)):=
 [(82,mth 10 1),(108,mth 11 1),(115,mth 11 2),(143,mth 11 6),(155,fnn 12),(162,fnn 13),(167,fnn 14),(172,fnn 15),(179,fnn 16),
  (200,mth 17 1),(207,mth 17 2),(214,mth 17 3),(221,mth 17 4),(226,mth 17 5),(233,mth 17 6),(245,fnn 18),(250,fnn 19),(255,fnn 20),(262,fnn 21),(267,fnn 22),
  (274,fnn 24),(281,fnn 25),(288,fnn 26),(293,fnn 27),(298,fnn 28),(303,fnn 29),(310,fnn 30),(317,fnn 31),(324,fnn 32),(329,fnn 33),(334,fnn 34),(339,fnn 35),(346,fnn 36),(351,fnn 37),(358,fnn 38),(365,fnn 39),(370,fnn 40),(377,fnn 41),(384,fnn 42)]
noncomputable def clsTab:List (Nat×(Bool×List Str×Scope×List (Str×Expr))):=[(85,rcd true (mth 10 0)),(146,rcd true (mth 11 0)),(236,rcd false (mth 17 0))]
noncomputable def methTab:List ((Nat×Str)×Nat):=
 [((85,"told"),82),((146,"told"),108),((146,"count"),115),((146,"slot"),143),((236,"words"),200),((236,"is_next"),207),((236,"take"),214),((236,"refuse"),221),((236,"number"),226),((236,"name"),233)]
noncomputable def fldTab:List (Nat×Str):=
 [(85,"name"),(85,"kind"),(85,"key_width"),(85,"value_width"),(85,"most"),(146,"maps"),(146,"octets"),(146,"symbols"),(146,"relocations"),(236,"lines"),(236,"at")]
theorem len1{α:Type}{l:List α}(h:l.length=1):∃a,l=[a]:=List.length_eq_one_iff.mp h
theorem len2{α:Type}{l:List α}(h:l.length=2):∃a b,l=[a,b]:=by
 rcases l with _ | ⟨a,_ | ⟨b,_ | _⟩⟩<;>simp at h;exact ⟨_,_,rfl⟩
theorem len3{α:Type}{l:List α}(h:l.length=3):∃a b c,l=[a,b,c]:=by
 rcases l with _ | ⟨a,_ | ⟨b,_ | ⟨c,_ | _⟩⟩⟩<;>simp at h;exact ⟨_,_,_,rfl⟩
theorem len5{α:Type}{l:List α}(h:l.length=5):∃a b c d e,l=[a,b,c,d,e]:=by
 rcases l with _ | ⟨a,_ | ⟨b,_ | ⟨c,_ | ⟨d,_ | ⟨e,_ | _⟩⟩⟩⟩⟩<;>simp at h;exact ⟨_,_,_,_,_,rfl⟩
theorem len6{α:Type}{l:List α}(h:l.length=6):∃a b c d e f,l=[a,b,c,d,e,f]:=by
 rcases l with _ | ⟨a,_ | ⟨b,_ | ⟨c,_ | ⟨d,_ | ⟨e,_ | ⟨f,_ | _⟩⟩⟩⟩⟩⟩<;>simp at h;exact ⟨_,_,_,_,_,_,rfl⟩
section
variable{x:Cx}
theorem f82(hK:x.K=K x.w.params):Ja2 x 82 (mth 10 1).1 (mth 10 1).2.1 (mth 10 1).2.2:=
 Ja2.of (by rw[hK];exact ⟨_,_,_,_,_,_,_,_,_,_,_,_,_,rfl,rfl,λvals hl s X=>by obtain ⟨a,rfl⟩:=len1 hl;exact BindsTo.of_eq rfl⟩) rfl (by kernel_rfl)
theorem f108(hK:x.K=K x.w.params):Ja2 x 108 (mth 11 1).1 (mth 11 1).2.1 (mth 11 1).2.2:=
 Ja2.of (by rw[hK];exact ⟨_,_,_,_,_,_,_,_,_,_,_,_,_,rfl,rfl,λvals hl s X=>by obtain ⟨a,rfl⟩:=len1 hl;exact BindsTo.of_eq rfl⟩) rfl (by kernel_rfl)
theorem f115(hK:x.K=K x.w.params):Ja2 x 115 (mth 11 2).1 (mth 11 2).2.1 (mth 11 2).2.2:=
 Ja2.of (by rw[hK];exact ⟨_,_,_,_,_,_,_,_,_,_,_,_,_,rfl,rfl,λvals hl s X=>by obtain ⟨a,rfl⟩:=len1 hl;exact BindsTo.of_eq rfl⟩) rfl (by kernel_rfl)
theorem f143(hK:x.K=K x.w.params):Ja2 x 143 (mth 11 6).1 (mth 11 6).2.1 (mth 11 6).2.2:=
 Ja2.of (by rw[hK];exact ⟨_,_,_,_,_,_,_,_,_,_,_,_,_,rfl,rfl,λvals hl s X=>by obtain ⟨a,b,rfl⟩:=len2 hl;exact BindsTo.of_eq rfl⟩) rfl (by kernel_rfl)
theorem f155(hK:x.K=K x.w.params):Ja2 x 155 (fnn 12).1 (fnn 12).2.1 (fnn 12).2.2:=
 Ja2.of (by rw[hK];exact ⟨_,_,_,_,_,_,_,_,_,_,_,_,_,rfl,rfl,λvals hl s X=>by obtain ⟨a,rfl⟩:=len1 hl;exact BindsTo.of_eq rfl⟩) rfl (by kernel_rfl)
theorem f162(hK:x.K=K x.w.params):Ja2 x 162 (fnn 13).1 (fnn 13).2.1 (fnn 13).2.2:=
 Ja2.of (by rw[hK];exact ⟨_,_,_,_,_,_,_,_,_,_,_,_,_,rfl,rfl,λvals hl s X=>by obtain ⟨a,rfl⟩:=len1 hl;exact BindsTo.of_eq rfl⟩) rfl (by kernel_rfl)
theorem f167(hK:x.K=K x.w.params):Ja2 x 167 (fnn 14).1 (fnn 14).2.1 (fnn 14).2.2:=
 Ja2.of (by rw[hK];exact ⟨_,_,_,_,_,_,_,_,_,_,_,_,_,rfl,rfl,λvals hl s X=>by obtain ⟨a,rfl⟩:=len1 hl;exact BindsTo.of_eq rfl⟩) rfl (by kernel_rfl)
theorem f172(hK:x.K=K x.w.params):Ja2 x 172 (fnn 15).1 (fnn 15).2.1 (fnn 15).2.2:=
 Ja2.of (by rw[hK];exact ⟨_,_,_,_,_,_,_,_,_,_,_,_,_,rfl,rfl,λvals hl s X=>by obtain ⟨a,rfl⟩:=len1 hl;exact BindsTo.of_eq rfl⟩) rfl (by kernel_rfl)
theorem f179(hK:x.K=K x.w.params):Ja2 x 179 (fnn 16).1 (fnn 16).2.1 (fnn 16).2.2:=
 Ja2.of (by rw[hK];exact ⟨_,_,_,_,_,_,_,_,_,_,_,_,_,rfl,rfl,λvals hl s X=>by obtain ⟨a,rfl⟩:=len1 hl;exact BindsTo.of_eq rfl⟩) rfl (by kernel_rfl)
theorem f200(hK:x.K=K x.w.params):Ja2 x 200 (mth 17 1).1 (mth 17 1).2.1 (mth 17 1).2.2:=
 Ja2.of (by rw[hK];exact ⟨_,_,_,_,_,_,_,_,_,_,_,_,_,rfl,rfl,λvals hl s X=>by obtain ⟨a,rfl⟩:=len1 hl;exact BindsTo.of_eq rfl⟩) rfl (by kernel_rfl)
theorem f207(hK:x.K=K x.w.params):Ja2 x 207 (mth 17 2).1 (mth 17 2).2.1 (mth 17 2).2.2:=
 Ja2.of (by rw[hK];exact ⟨_,_,_,_,_,_,_,_,_,_,_,_,_,rfl,rfl,λvals hl s X=>by obtain ⟨a,b,rfl⟩:=len2 hl;exact BindsTo.of_eq rfl⟩) rfl (by kernel_rfl)
theorem f214(hK:x.K=K x.w.params):Ja2 x 214 (mth 17 3).1 (mth 17 3).2.1 (mth 17 3).2.2:=
 Ja2.of (by rw[hK];exact ⟨_,_,_,_,_,_,_,_,_,_,_,_,_,rfl,rfl,λvals hl s X=>by obtain ⟨a,b,rfl⟩:=len2 hl;exact BindsTo.of_eq rfl⟩) rfl (by kernel_rfl)
theorem f221(hK:x.K=K x.w.params):Ja2 x 221 (mth 17 4).1 (mth 17 4).2.1 (mth 17 4).2.2:=
 Ja2.of (by rw[hK];exact ⟨_,_,_,_,_,_,_,_,_,_,_,_,_,rfl,rfl,λvals hl s X=>by obtain ⟨a,b,rfl⟩:=len2 hl;exact BindsTo.of_eq rfl⟩) rfl (by kernel_rfl)
theorem f226(hK:x.K=K x.w.params):Ja2 x 226 (mth 17 5).1 (mth 17 5).2.1 (mth 17 5).2.2:=
 Ja2.of (by rw[hK];exact ⟨_,_,_,_,_,_,_,_,_,_,_,_,_,rfl,rfl,λvals hl s X=>by obtain ⟨a,b,rfl⟩:=len2 hl;exact BindsTo.of_eq rfl⟩) rfl (by kernel_rfl)
theorem f233(hK:x.K=K x.w.params):Ja2 x 233 (mth 17 6).1 (mth 17 6).2.1 (mth 17 6).2.2:=
 Ja2.of (by rw[hK];exact ⟨_,_,_,_,_,_,_,_,_,_,_,_,_,rfl,rfl,λvals hl s X=>by obtain ⟨a,b,rfl⟩:=len2 hl;exact BindsTo.of_eq rfl⟩) rfl (by kernel_rfl)
theorem f245(hK:x.K=K x.w.params):Ja2 x 245 (fnn 18).1 (fnn 18).2.1 (fnn 18).2.2:=
 Ja2.of (by rw[hK];exact ⟨_,_,_,_,_,_,_,_,_,_,_,_,_,rfl,rfl,λvals hl s X=>by obtain ⟨a,b,rfl⟩:=len2 hl;exact BindsTo.of_eq rfl⟩) rfl (by kernel_rfl)
theorem f250(hK:x.K=K x.w.params):Ja2 x 250 (fnn 19).1 (fnn 19).2.1 (fnn 19).2.2:=
 Ja2.of (by rw[hK];exact ⟨_,_,_,_,_,_,_,_,_,_,_,_,_,rfl,rfl,λvals hl s X=>by obtain ⟨a,rfl⟩:=len1 hl;exact BindsTo.of_eq rfl⟩) rfl (by kernel_rfl)
theorem f255(hK:x.K=K x.w.params):Ja2 x 255 (fnn 20).1 (fnn 20).2.1 (fnn 20).2.2:=
 Ja2.of (by rw[hK];exact ⟨_,_,_,_,_,_,_,_,_,_,_,_,_,rfl,rfl,λvals hl s X=>by obtain ⟨a,b,c,rfl⟩:=len3 hl;exact BindsTo.of_eq rfl⟩) rfl (by kernel_rfl)
theorem f262(hK:x.K=K x.w.params):Ja2 x 262 (fnn 21).1 (fnn 21).2.1 (fnn 21).2.2:=
 Ja2.of (by rw[hK];exact ⟨_,_,_,_,_,_,_,_,_,_,_,_,_,rfl,rfl,λvals hl s X=>by obtain ⟨a,b,c,rfl⟩:=len3 hl;exact BindsTo.of_eq rfl⟩) rfl (by kernel_rfl)
theorem f267(hK:x.K=K x.w.params):Ja2 x 267 (fnn 22).1 (fnn 22).2.1 (fnn 22).2.2:=
 Ja2.of (by rw[hK];exact ⟨_,_,_,_,_,_,_,_,_,_,_,_,_,rfl,rfl,λvals hl s X=>by obtain ⟨a,rfl⟩:=len1 hl;exact BindsTo.of_eq rfl⟩) rfl (by kernel_rfl)
theorem f274(hK:x.K=K x.w.params):Ja2 x 274 (fnn 24).1 (fnn 24).2.1 (fnn 24).2.2:=
 Ja2.of (by rw[hK];exact ⟨_,_,_,_,_,_,_,_,_,_,_,_,_,rfl,rfl,λvals hl s X=>by obtain ⟨a,rfl⟩:=len1 hl;exact BindsTo.of_eq rfl⟩) rfl (by kernel_rfl)
theorem f281(hK:x.K=K x.w.params):Ja2 x 281 (fnn 25).1 (fnn 25).2.1 (fnn 25).2.2:=
 Ja2.of (by rw[hK];exact ⟨_,_,_,_,_,_,_,_,_,_,_,_,_,rfl,rfl,λvals hl s X=>by obtain ⟨a,b,rfl⟩:=len2 hl;exact BindsTo.of_eq rfl⟩) rfl (by kernel_rfl)
theorem f288(hK:x.K=K x.w.params):Ja2 x 288 (fnn 26).1 (fnn 26).2.1 (fnn 26).2.2:=
 Ja2.of (by rw[hK];exact ⟨_,_,_,_,_,_,_,_,_,_,_,_,_,rfl,rfl,λvals hl s X=>by obtain ⟨a,b,rfl⟩:=len2 hl;exact BindsTo.of_eq rfl⟩) rfl (by kernel_rfl)
theorem f293(hK:x.K=K x.w.params):Ja2 x 293 (fnn 27).1 (fnn 27).2.1 (fnn 27).2.2:=
 Ja2.of (by rw[hK];exact ⟨_,_,_,_,_,_,_,_,_,_,_,_,_,rfl,rfl,λvals hl s X=>by obtain ⟨a,rfl⟩:=len1 hl;exact BindsTo.of_eq rfl⟩) rfl (by kernel_rfl)
theorem f298(hK:x.K=K x.w.params):Ja2 x 298 (fnn 28).1 (fnn 28).2.1 (fnn 28).2.2:=
 Ja2.of (by rw[hK];exact ⟨_,_,_,_,_,_,_,_,_,_,_,_,_,rfl,rfl,λvals hl s X=>by obtain ⟨a,rfl⟩:=len1 hl;exact BindsTo.of_eq rfl⟩) rfl (by kernel_rfl)
theorem f303(hK:x.K=K x.w.params):Ja2 x 303 (fnn 29).1 (fnn 29).2.1 (fnn 29).2.2:=
 Ja2.of (by rw[hK];exact ⟨_,_,_,_,_,_,_,_,_,_,_,_,_,rfl,rfl,λvals hl s X=>by obtain ⟨a,rfl⟩:=len1 hl;exact BindsTo.of_eq rfl⟩) rfl (by kernel_rfl)
theorem f310(hK:x.K=K x.w.params):Ja2 x 310 (fnn 30).1 (fnn 30).2.1 (fnn 30).2.2:=
 Ja2.of (by rw[hK];exact ⟨_,_,_,_,_,_,_,_,_,_,_,_,_,rfl,rfl,λvals hl s X=>by obtain ⟨a,rfl⟩:=len1 hl;exact BindsTo.of_eq rfl⟩) rfl (by kernel_rfl)
theorem f317(hK:x.K=K x.w.params):Ja2 x 317 (fnn 31).1 (fnn 31).2.1 (fnn 31).2.2:=
 Ja2.of (by rw[hK];exact ⟨_,_,_,_,_,_,_,_,_,_,_,_,_,rfl,rfl,λvals hl s X=>by obtain ⟨a,rfl⟩:=len1 hl;exact BindsTo.of_eq rfl⟩) rfl (by kernel_rfl)
theorem f324(hK:x.K=K x.w.params):Ja2 x 324 (fnn 32).1 (fnn 32).2.1 (fnn 32).2.2:=
 Ja2.of (by rw[hK];exact ⟨_,_,_,_,_,_,_,_,_,_,_,_,_,rfl,rfl,λvals hl s X=>by obtain ⟨a,b,rfl⟩:=len2 hl;exact BindsTo.of_eq rfl⟩) rfl (by kernel_rfl)
theorem f329(hK:x.K=K x.w.params):Ja2 x 329 (fnn 33).1 (fnn 33).2.1 (fnn 33).2.2:=
 Ja2.of (by rw[hK];exact ⟨_,_,_,_,_,_,_,_,_,_,_,_,_,rfl,rfl,λvals hl s X=>by obtain ⟨a,rfl⟩:=len1 hl;exact BindsTo.of_eq rfl⟩) rfl (by kernel_rfl)
theorem f334(hK:x.K=K x.w.params):Ja2 x 334 (fnn 34).1 (fnn 34).2.1 (fnn 34).2.2:=
 Ja2.of (by rw[hK];exact ⟨_,_,_,_,_,_,_,_,_,_,_,_,_,rfl,rfl,λvals hl s X=>by obtain ⟨a,rfl⟩:=len1 hl;exact BindsTo.of_eq rfl⟩) rfl (by kernel_rfl)
theorem f339(hK:x.K=K x.w.params):Ja2 x 339 (fnn 35).1 (fnn 35).2.1 (fnn 35).2.2:=
 Ja2.of (by rw[hK];exact ⟨_,_,_,_,_,_,_,_,_,_,_,_,_,rfl,rfl,λvals hl s X=>by obtain ⟨a,b,rfl⟩:=len2 hl;exact BindsTo.of_eq rfl⟩) rfl (by kernel_rfl)
theorem f346(hK:x.K=K x.w.params):Ja2 x 346 (fnn 36).1 (fnn 36).2.1 (fnn 36).2.2:=
 Ja2.of (by rw[hK];exact ⟨_,_,_,_,_,_,_,_,_,_,_,_,_,rfl,rfl,λvals hl s X=>by obtain ⟨a,b,rfl⟩:=len2 hl;exact BindsTo.of_eq rfl⟩) rfl (by kernel_rfl)
theorem f351(hK:x.K=K x.w.params):Ja2 x 351 (fnn 37).1 (fnn 37).2.1 (fnn 37).2.2:=
 Ja2.of (by rw[hK];exact ⟨_,_,_,_,_,_,_,_,_,_,_,_,_,rfl,rfl,λvals hl s X=>by obtain ⟨a,b,rfl⟩:=len2 hl;exact BindsTo.of_eq rfl⟩) rfl (by kernel_rfl)
theorem f358(hK:x.K=K x.w.params):Ja2 x 358 (fnn 38).1 (fnn 38).2.1 (fnn 38).2.2:=
 Ja2.of (by rw[hK];exact ⟨_,_,_,_,_,_,_,_,_,_,_,_,_,rfl,rfl,λvals hl s X=>by obtain ⟨a,b,rfl⟩:=len2 hl;exact BindsTo.of_eq rfl⟩) rfl (by kernel_rfl)
theorem f365(hK:x.K=K x.w.params):Ja2 x 365 (fnn 39).1 (fnn 39).2.1 (fnn 39).2.2:=
 Ja2.of (by rw[hK];exact ⟨_,_,_,_,_,_,_,_,_,_,_,_,_,rfl,rfl,λvals hl s X=>by obtain ⟨a,b,c,rfl⟩:=len3 hl;exact BindsTo.of_eq rfl⟩) rfl (by kernel_rfl)
theorem f370(hK:x.K=K x.w.params):Ja2 x 370 (fnn 40).1 (fnn 40).2.1 (fnn 40).2.2:=
 Ja2.of (by rw[hK];exact ⟨_,_,_,_,_,_,_,_,_,_,_,_,_,rfl,rfl,λvals hl s X=>by obtain ⟨a,rfl⟩:=len1 hl;exact BindsTo.of_eq rfl⟩) rfl (by kernel_rfl)
theorem f377(hK:x.K=K x.w.params):Ja2 x 377 (fnn 41).1 (fnn 41).2.1 (fnn 41).2.2:=
 Ja2.of (by rw[hK];exact ⟨_,_,_,_,_,_,_,_,_,_,_,_,_,rfl,rfl,λvals hl s X=>by obtain ⟨a,rfl⟩:=len1 hl;exact BindsTo.of_eq rfl⟩) rfl (by kernel_rfl)
theorem f384(hK:x.K=K x.w.params):Ja2 x 384 (fnn 42).1 (fnn 42).2.1 (fnn 42).2.2:=
 Ja2.of (by rw[hK];exact ⟨_,_,_,_,_,_,_,_,_,_,_,_,_,rfl,rfl,λvals hl s X=>by obtain ⟨a,rfl⟩:=len1 hl;exact BindsTo.of_eq rfl⟩) rfl (by kernel_rfl)
theorem f43(hK:x.K=K x.w.params):Ja2 x 43 (mth 2 1).1 (mth 2 1).2.1 (mth 2 1).2.2:=
 Ja2.of (by rw[hK];exact ⟨_,_,_,_,_,_,_,_,_,_,_,_,_,rfl,rfl,λvals hl s X=>by obtain ⟨a,rfl⟩:=len1 hl;exact BindsTo.of_eq rfl⟩) rfl (by kernel_rfl)
theorem f75(hK:x.K=K x.w.params):Ja2 x 75 (mth 10 0).1 (mth 10 0).2.1 (mth 10 0).2.2:=
 Ja2.of (by rw[hK];exact ⟨_,_,_,_,_,_,_,_,_,_,_,_,_,rfl,rfl,λvals hl s X=>by obtain ⟨a,b,c,d,e,f,rfl⟩:=len6 hl;exact BindsTo.of_eq rfl⟩) rfl (by kernel_rfl)
theorem f103(hK:x.K=K x.w.params):Ja2 x 103 (mth 11 0).1 (mth 11 0).2.1 (mth 11 0).2.2:=
 Ja2.of (by rw[hK];exact ⟨_,_,_,_,_,_,_,_,_,_,_,_,_,rfl,rfl,λvals hl s X=>by obtain ⟨a,b,c,d,e,rfl⟩:=len5 hl;exact BindsTo.of_eq rfl⟩) rfl (by kernel_rfl)
theorem f193(hK:x.K=K x.w.params):Ja2 x 193 (mth 17 0).1 (mth 17 0).2.1 (mth 17 0).2.2:=
 Ja2.of (by rw[hK];exact ⟨_,_,_,_,_,_,_,_,_,_,_,_,_,rfl,rfl,λvals hl s X=>by obtain ⟨a,b,rfl⟩:=len2 hl;exact BindsTo.of_eq rfl⟩) rfl (by kernel_rfl)
theorem f36(hK:x.K=K x.w.params):Ja2 x 36 (mth 2 0).1 (mth 2 0).2.1 (mth 2 0).2.2:=
 Ja2.of (by rw[hK];exact ⟨_,_,_,_,_,_,_,_,_,_,_,_,_,rfl,rfl,λvals hl s X=>by obtain ⟨a,b,c,rfl⟩:=len3 hl;exact BindsTo.of_defaults (k:=_) rfl (X 29 _ rfl) rfl rfl rfl⟩) rfl (by kernel_rfl)
theorem fnTab_ok(hK:x.K=K x.w.params):∀e∈fnTab,Ja2 x e.1 e.2.1 e.2.2.1 e.2.2.2/\keepIn x.K (.ref e.1)=true:=by
 unfold fnTab
 simp only[List.forall_mem_cons]
 rw[hK]
 refine ⟨⟨f82 hK,rfl⟩,⟨f108 hK,rfl⟩,⟨f115 hK,rfl⟩,⟨f143 hK,rfl⟩,⟨f155 hK,rfl⟩,⟨f162 hK,rfl⟩,⟨f167 hK,rfl⟩,⟨f172 hK,rfl⟩,⟨f179 hK,rfl⟩,⟨f200 hK,rfl⟩,⟨f207 hK,rfl⟩,⟨f214 hK,rfl⟩,⟨f221 hK,rfl⟩,⟨f226 hK,rfl⟩,⟨f233 hK,rfl⟩,⟨f245 hK,rfl⟩,⟨f250 hK,rfl⟩,⟨f255 hK,rfl⟩,⟨f262 hK,rfl⟩,⟨f267 hK,rfl⟩,⟨f274 hK,rfl⟩,⟨f281 hK,rfl⟩,⟨f288 hK,rfl⟩,⟨f293 hK,rfl⟩,⟨f298 hK,rfl⟩,⟨f303 hK,rfl⟩,⟨f310 hK,rfl⟩,⟨f317 hK,rfl⟩,⟨f324 hK,rfl⟩,⟨f329 hK,rfl⟩,⟨f334 hK,rfl⟩,⟨f339 hK,rfl⟩,⟨f346 hK,rfl⟩,⟨f351 hK,rfl⟩,⟨f358 hK,rfl⟩,⟨f365 hK,rfl⟩,⟨f370 hK,rfl⟩,⟨f377 hK,rfl⟩,⟨f384 hK,rfl⟩,λ_ h=>by cases h⟩
end
end
section
open Hd
noncomputable def globTab:List (Str×D):=
 [(("is_name":Str),D.val (Value.ref 155)),(("check_sum":Str),D.val (Value.ref 162)),(("hex_of":Str),D.val (Value.ref 167)),(("object_lines":Str),D.val (Value.ref 172)),(("write_object":Str),D.val (Value.ref 179)),(("read_map":Str),D.val (Value.ref 245)),(("read_slot":Str),D.val (Value.ref 250)),(("read_symbol":Str),D.val (Value.ref 255)),(("read_relocation":Str),D.val (Value.ref 262)),(("read_object":Str),D.val (Value.ref 267)),(("_law_pen":Str),D.val (Value.ref 274)),(("_law_draw":Str),D.val (Value.ref 281)),(("_law_pick":Str),D.val (Value.ref 288)),(("_law_figures":Str),D.val (Value.ref 293)),(("_law_right_lines":Str),D.val (Value.ref 298)),(("_law_is_octets":Str),D.val (Value.ref 303)),(("_law_sum":Str),D.val (Value.ref 310)),(("_law_end":Str),D.val (Value.ref 317)),(("_law_bent":Str),D.val (Value.ref 324)),(("_law_name":Str),D.val (Value.ref 329)),(("_law_number":Str),D.val (Value.ref 334)),(("_law_map":Str),D.val (Value.ref 339)),(("_law_slot":Str),D.val (Value.ref 346)),(("_law_symbol":Str),D.val (Value.ref 351)),(("_law_relocation":Str),D.val (Value.ref 358)),(("_law_end_wrong":Str),D.val (Value.ref 365)),(("_law_read":Str),D.val (Value.ref 370)),(("_law_heard":Str),D.val (Value.ref 377)),(("law":Str),D.val (Value.ref 384)),(("TextError":Str),D.val (Value.ref 59)),(("MapRow":Str),D.val (Value.ref 85)),(("Object":Str),D.val (Value.ref 146)),(("LineReader":Str),D.val (Value.ref 236)),(("HEAD":Str),D.str "ringgate object 1"),(("FIGURES":Str),D.str "0123456789abcdef"),(("NAME_SIGNS":Str),D.str "abcdefghijklmnopqrstuvwxyz0123456789_"),(("SLOT_WIDTH":Str),D.int 8),(("MOST_NAME":Str),D.int 15)]
noncomputable def bltTab:List (Str×D):=
 [(("len":Str),D.val (Value.builtin "len")),(("abs":Str),D.val (Value.builtin "abs")),(("all":Str),D.val (Value.builtin "all")),(("min":Str),D.val (Value.builtin "min")),(("int":Str),D.val (Value.type "int")),(("str":Str),D.val (Value.type "str")),(("range":Str),D.val (Value.type "range")),(("tuple":Str),D.val (Value.type "tuple")),(("list":Str),D.val (Value.type "list")),(("bytes":Str),D.val (Value.type "bytes")),(("Exception":Str),D.val (Value.type "Exception"))]
noncomputable def mgOf(K:Frag)(y:Str):Option Value:=match K.lookup mainGlobals with
 |some ⟨_,_,.dict es _,_⟩=>nsFind es y
 |_=>none
theorem Jan{P:Params}{v:Value}:∀B ρ,Rel P B ρ (.val v) v:=λB ρ=>(rfl:v=v)
theorem Jkv{P:Params}{s:Str}{t:Tok}:∀B ρ,Rel P B ρ (.str s) (.str s t):=λB ρ=>rlStr
theorem Jp2{P:Params}{i:Int}{t:Tok}:∀B ρ,Rel P B ρ (.int i) (.int i t):=λB ρ=>rlInt
section
variable{x:Cx}
set_option maxHeartbeats 4000000 in
theorem globs(hK:x.K=K x.w.params):∀e∈globTab,∃v,mgOf x.K e.1=some v/\∀B ρ,Rel x.w.params B ρ e.2 v:=by
 rw[hK]
 unfold globTab
 simp only[List.forall_mem_cons]
 refine ⟨⟨Value.ref 155,by first | kernel_rfl | rfl,Jan⟩,⟨Value.ref 162,by first | kernel_rfl | rfl,Jan⟩,⟨Value.ref 167,by first | kernel_rfl | rfl,Jan⟩,⟨Value.ref 172,by first | kernel_rfl | rfl,Jan⟩,⟨Value.ref 179,by first | kernel_rfl | rfl,Jan⟩,⟨Value.ref 245,by first | kernel_rfl | rfl,Jan⟩,⟨Value.ref 250,by first | kernel_rfl | rfl,Jan⟩,⟨Value.ref 255,by first | kernel_rfl | rfl,Jan⟩,⟨Value.ref 262,by first | kernel_rfl | rfl,Jan⟩,⟨Value.ref 267,by first | kernel_rfl | rfl,Jan⟩,⟨Value.ref 274,by first | kernel_rfl | rfl,Jan⟩,⟨Value.ref 281,by first | kernel_rfl | rfl,Jan⟩,⟨Value.ref 288,by first | kernel_rfl | rfl,Jan⟩,⟨Value.ref 293,by first | kernel_rfl | rfl,Jan⟩,⟨Value.ref 298,by first | kernel_rfl | rfl,Jan⟩,⟨Value.ref 303,by first | kernel_rfl | rfl,Jan⟩,⟨Value.ref 310,by first | kernel_rfl | rfl,Jan⟩,⟨Value.ref 317,by first | kernel_rfl | rfl,Jan⟩,⟨Value.ref 324,by first | kernel_rfl | rfl,Jan⟩,⟨Value.ref 329,by first | kernel_rfl | rfl,Jan⟩,⟨Value.ref 334,by first | kernel_rfl | rfl,Jan⟩,⟨Value.ref 339,by first | kernel_rfl | rfl,Jan⟩,⟨Value.ref 346,by first | kernel_rfl | rfl,Jan⟩,⟨Value.ref 351,by first | kernel_rfl | rfl,Jan⟩,⟨Value.ref 358,by first | kernel_rfl | rfl,Jan⟩,⟨Value.ref 365,by first | kernel_rfl | rfl,Jan⟩,⟨Value.ref 370,by first | kernel_rfl | rfl,Jan⟩,⟨Value.ref 377,by first | kernel_rfl | rfl,Jan⟩,⟨Value.ref 384,by first | kernel_rfl | rfl,Jan⟩,⟨Value.ref 59,by first | kernel_rfl | rfl,Jan⟩,⟨Value.ref 85,by first | kernel_rfl | rfl,Jan⟩,⟨Value.ref 146,by first | kernel_rfl | rfl,Jan⟩,⟨Value.ref 236,by first | kernel_rfl | rfl,Jan⟩,⟨Value.str "ringgate object 1" 252,by first | kernel_rfl | rfl,Jkv⟩,⟨Value.str "0123456789abcdef" 258,by first | kernel_rfl | rfl,Jkv⟩,⟨Value.str "abcdefghijklmnopqrstuvwxyz0123456789_" 260,by first | kernel_rfl | rfl,Jkv⟩,⟨Value.int 8 254,by first | kernel_rfl | rfl,Jp2⟩,⟨Value.int 15 256,by first | kernel_rfl | rfl,Jp2⟩,λ_ h=>by cases h⟩
set_option maxHeartbeats 4000000 in
theorem blts(hK:x.K=K x.w.params):∀e∈bltTab,∃v,(mgOf x.K e.1=none/\bootBuiltins e.1=some v/\e.1≠"__name__")/\∀B ρ,Rel x.w.params B ρ e.2 v:=by
 rw[hK]
 unfold bltTab
 simp only[List.forall_mem_cons]
 refine ⟨⟨Value.builtin "len",⟨by first | kernel_rfl | rfl,by first | kernel_rfl | rfl | decide +kernel,by decide⟩,Jan⟩,⟨Value.builtin "abs",⟨by first | kernel_rfl | rfl,by first | kernel_rfl | rfl | decide +kernel,by decide⟩,Jan⟩,⟨Value.builtin "all",⟨by first | kernel_rfl | rfl,by first | kernel_rfl | rfl | decide +kernel,by decide⟩,Jan⟩,⟨Value.builtin "min",⟨by first | kernel_rfl | rfl,by first | kernel_rfl | rfl | decide +kernel,by decide⟩,Jan⟩,⟨Value.type "int",⟨by first | kernel_rfl | rfl,by first | kernel_rfl | rfl | decide +kernel,by decide⟩,Jan⟩,⟨Value.type "str",⟨by first | kernel_rfl | rfl,by first | kernel_rfl | rfl | decide +kernel,by decide⟩,Jan⟩,⟨Value.type "range",⟨by first | kernel_rfl | rfl,by first | kernel_rfl | rfl | decide +kernel,by decide⟩,Jan⟩,⟨Value.type "tuple",⟨by first | kernel_rfl | rfl,by first | kernel_rfl | rfl | decide +kernel,by decide⟩,Jan⟩,⟨Value.type "list",⟨by first | kernel_rfl | rfl,by first | kernel_rfl | rfl | decide +kernel,by decide⟩,Jan⟩,⟨Value.type "bytes",⟨by first | kernel_rfl | rfl,by first | kernel_rfl | rfl | decide +kernel,by decide⟩,Jan⟩,⟨Value.type "Exception",⟨by first | kernel_rfl | rfl,by first | kernel_rfl | rfl | decide +kernel,by decide⟩,Jan⟩,λ_ h=>by cases h⟩
end
noncomputable def lastTab:List (Nat×Nat):=[(74,12),(152,68),(152,77),(152,81),(176,11),(189,12),(314,50),(314,80),(314,99),(218,12)]
noncomputable def G:Prg where
 glob:=λy=>(globTab++bltTab).lookup y
 fn:=λa=>fnTab.lookup a
 meth:=λC y=>methTab.lookup (C,y)
 cls:=λa=>clsTab.lookup a
 fld:=λC y=>fldTab.contains (C,y)
 exn:="TextError"
 lasts:=λp=>lastTab.contains (p.line,p.col)
 turns:=line+2
theorem Jd6{α β:Type}[BEq α][LawfulBEq α]{k:α}{v:β}:∀{l:List (α×β)},l.lookup k=some v->(k,v)∈l
 |(a,b)::r,h=>by
  rw[List.lookup_cons] at h
  split at h
  ·rename_i e;cases h;rw[eq_of_beq e];exact List.mem_cons_self ..
  ·exact List.mem_cons_of_mem _ (Jd6 h)
end
section
open Hd
noncomputable def strKeysB(es:Array DictEntry):Bool:=es.toList.all λe=>match e.key with
 |.str _ _=>true
 |_=>false
set_option tactic.hygienic true in
theorem Jns{es:Array DictEntry}(h:strKeysB es=true):StrKeys es:=λe he=>by
 unfold strKeysB at h
 rw[List.all_eq_true] at h
 have:=h e (Array.mem_toList_iff.mpr he)
 split at this
 ·rename_i n t hk;exact ⟨n,t,hk⟩
 ·cases this
section
variable{x:Cx}
noncomputable def globEs(K:Frag):Bool:=match K.lookup mainGlobals with
 |some ⟨_,_,.dict es _,_⟩=>strKeysB es
 |_=>false
set_option tactic.hygienic true in
theorem globNs(hK:x.K=K x.w.params){h:Heap}(XK:x.K.In h):h.Ns mainGlobals (mgOf x.K):=by
 have h1:globEs x.K=true:=by rw[hK];kernel_rfl
 unfold globEs at h1
 unfold mgOf
 split at h1
 ·rename_i es n sl e
  try simp only[e]
  exact ⟨_,es,n,XK _ _ e,rfl,Jns h1,λ_=>rfl⟩
 ·cases h1
theorem prgOk(hK:x.K=K x.w.params)(XK:x.K.In x.h0){mb:Str->Option Value}(hb:x.h0.Ns builtinsNs mb)(hbb:∀y:Str,y≠"__name__"->mb y=bootBuiltins y):PrgOk x G where
 K:=XK
 glob:=by
  refine ⟨mgOf x.K,mb,globNs hK XK,hb,λy d hy=>?_⟩
  have hm:=Jd6 hy
  rcases List.mem_append.mp hm with h | h
  ·obtain ⟨v,h1,h2⟩:=globs hK _ h
   exact ⟨v,.inl h1,h2⟩
  ·obtain ⟨v,⟨h1,h2,h3⟩,h4⟩:=blts hK _ h
   exact ⟨v,.inr ⟨h1,(hbb _ h3).trans h2⟩,h4⟩
theorem flds(hK:x.K=K x.w.params):∀e∈fldTab,FldOk x.K e.1 e.2:=by
 rw[hK]
 unfold fldTab
 simp only[List.forall_mem_cons]
 repeat' apply And.intro
 all_goals first
  |exact ⟨by kernel_rfl,by kernel_rfl,by kernel_rfl,by kernel_rfl,by kernel_rfl⟩
  |(intro _ h;cases h)
theorem meths_ok(hK:x.K=K x.w.params):∀e∈methTab,MethOk x.K e.1.1 e.1.2 e.2:=by
 rw[hK]
 unfold methTab
 simp only[List.forall_mem_cons]
 repeat' apply And.intro
 all_goals first
  |exact ⟨by kernel_rfl,by kernel_rfl,by kernel_rfl,by kernel_rfl⟩
  |(intro _ h;cases h)
theorem clsOk(hK:x.K=K x.w.params):ClsOk x G where
 fld:=λC y h=>flds hK (C,y) (by simpa [G] using h)
 meth:=λC y m h=>meths_ok hK ((C,y),m) (Jd6 h)
theorem make85(hK:x.K=K x.w.params):MakeOk x 85 (mth 10 0).1.tail (mth 10 0).2.1 (laid (mth 10 0).2.2) where
 makes:=by rw[hK];kernel_rfl
 init:=⟨75,"self",(mth 10 0).2.2,by rw[hK];kernel_rfl,by rw[hK];kernel_rfl,f75 hK,⟨_,_,_,_,rfl,_,_,_,_,rfl,_,_,_,_,rfl,_,_,_,_,rfl,_,_,_,_,rfl,rfl⟩,rfl⟩
 fld:=λf h=>by
  have h:(85,f.1)∈fldTab:=by
   have:f.1∈(["name","kind","key_width","value_width","most"]:List Str):=List.mem_map_of_mem (f:=(·.1)) h
   revert this;generalize f.1=g;revert g;decide
  exact flds hK _ h
 nodup:=by decide
 size:=by decide
 keep:=by rw[hK];kernel_rfl
theorem make146(hK:x.K=K x.w.params):MakeOk x 146 (mth 11 0).1.tail (mth 11 0).2.1 (laid (mth 11 0).2.2) where
 makes:=by rw[hK];kernel_rfl
 init:=⟨103,"self",(mth 11 0).2.2,by rw[hK];kernel_rfl,by rw[hK];kernel_rfl,f103 hK,⟨_,_,_,_,rfl,_,_,_,_,rfl,_,_,_,_,rfl,_,_,_,_,rfl,rfl⟩,rfl⟩
 fld:=λf h=>by
  have h:(146,f.1)∈fldTab:=by
   have:f.1∈(["maps","octets","symbols","relocations"]:List Str):=List.mem_map_of_mem (f:=(·.1)) h
   revert this;generalize f.1=g;revert g;decide
  exact flds hK _ h
 nodup:=by decide
 size:=by decide
 keep:=by rw[hK];kernel_rfl
theorem make236(hK:x.K=K x.w.params):MakeOk x 236 (mth 17 0).1.tail (mth 17 0).2.1 (laid (mth 17 0).2.2) where
 makes:=by rw[hK];kernel_rfl
 init:=⟨193,"self",(mth 17 0).2.2,by rw[hK];kernel_rfl,by rw[hK];kernel_rfl,f193 hK,⟨_,_,_,_,rfl,_,_,_,_,rfl,rfl⟩,rfl⟩
 fld:=λf h=>by
  have h:(236,f.1)∈fldTab:=by
   have:f.1∈(["lines","at"]:List Str):=List.mem_map_of_mem (f:=(·.1)) h
   revert this;generalize f.1=g;revert g;decide
  exact flds hK _ h
 nodup:=by decide
 size:=by decide
 keep:=by rw[hK];kernel_rfl
theorem Jqa(self:Value):refuseLoop self "__setattr__" [.ref 59,.ref 46,.type "Exception",.type "BaseException",.type "object"]=pure ():=by
 rw[refuseLoop_ref,refuseLoop_ref]
 exact PySem.F.store_Exception.passes self
theorem excCls(hK:x.K=K x.w.params):Jds x.K 59 where
 obj:=by rw[hK];kernel_rfl
 pass:=Jqa
 sa:=by rw[hK];kernel_rfl
theorem excOk(hK:x.K=K x.w.params)(hT:x.TE=59):Jdt x G where
 glob:=by rw[hT];rfl
 eglob:=rfl
 keep:=by rw[hK,hT];kernel_rfl
 cls:=by rw[hT];exact excCls hK
 base:=by rw[hK];kernel_rfl
 noWhat:=by rw[hK,hT];kernel_rfl
 noAt:=by rw[hK,hT];kernel_rfl
 init:=⟨36,(mth 2 0).2.1,_,_,_,_,_,_,_,_,_,_,_,_,_,_,by rw[hK,hT];kernel_rfl,by rw[hK];kernel_rfl,rfl,f36 hK,rfl,rfl,rfl,rfl⟩
theorem toldOk(hK:x.K=K x.w.params)(hT:x.TE=59):Jes x G where
 ga:=by rw[hK,hT];kernel_rfl
 gt:=by rw[hK,hT];kernel_rfl
 told:=⟨43,(mth 2 1).2.1,_,_,_,_,_,_,_,by rw[hK,hT];kernel_rfl,by rw[hK];kernel_rfl,by rw[hK];kernel_rfl,f43 hK,rfl⟩
theorem allOk(hK:x.K=K x.w.params)(hT:x.TE=59)(XK:x.K.In x.h0){mb:Str->Option Value}(hb:x.h0.Ns builtinsNs mb)(hbb:∀y:Str,y≠"__name__"->mb y=bootBuiltins y)(hl:x.h0.NoLimit):AllOk x G where
 H:=prgOk hK XK hb hbb
 Hc:=clsOk hK
 X:=excOk hK hT
 T:=toldOk hK hT
 lim:=hl
 fn:=λa ps sc body h=>fnTab_ok hK (a,(ps,sc,body)) (Jd6 h)
 cls:=λa fr ps sc fields h=>by
  have h:=Jd6 (l:=clsTab) h
  simp only[clsTab,List.mem_cons,List.not_mem_nil,or_false,rcd] at h
  rcases h with h | h | h<;>cases h
  ·exact make85 hK
  ·exact make146 hK
  ·exact make236 hK
end
end
section
open Hd
theorem Jpz:Jez callerA [] 20:=⟨rfl,rfl,by decide +kernel,by decide +kernel⟩
theorem ints_rel{P:Params}{B:Fz}{ρ:List Addr}{vs:List Value}{is:List Int}(h:IntsAre vs is):Jay P B ρ (is.map .int) vs:=by
 induction h with
 |nil=>exact (rfl:([]:List Value)=[])
 |cons n t _ ih=>exact mkL ⟨_,_,rfl,rlInt,ih⟩
theorem Jq2{x:Cx}(P:AllOk x G){h₁:Heap}{L:Addr}{m:Str->Option Value}{gens:Array GenState}{drawn:Drawn}{toks:Nat}{os:OsState}{sc:Scope}{body:List Stmt}{fa:Addr}{cd:Value}{name:Str}{vs:List Value}{is:List Int}{l:Addr}
  (F:Fr x.h0 L h₁ m) (hL:x.h0.get? L=none) (hm:m "script"=some (.ref l)) (hl:x.h0.IsList l vs.toArray) (hI:IntsAre vs is) (hk:sc.kind=.function) (hs:sc.names.lookup ("script":Str)=some .local)
  (hn:∀y∈sc.names,y.2=.local\/y.2=.globalImplicit) (hd:sc.names.lookup ("__debug__":Str)=none) (hc:sc.names.lookup ("__classdict__":Str)=none)
  (hpure:∃vars σ,evSs G (cfn G 19) body sc.names (Jbg ["script"] [.lst (is.map .int)]) []=.ok (vars,.ret (.bool true)) σ) {Q:Flow->Shared->Prop} {E:Value->Shared->Prop}
  (hq:∀h tk,(∀b o,x.h0.get? b=some o->h.get? b=some o)->Q (.ret (.bool true)) ⟨h,gens,drawn,tk,os⟩) :
  wpAny (model x.prog x.w) (callerA.deeper (envOf name sc L fa cd)) (execs body (envOf name sc L fa cd)) Q E ⟨h₁,gens,drawn,toks,os⟩:=by
 let env:=envOf name sc L fa cd
 let p:Pt:=⟨λa=>x.h0.get? a,[],[],⟨h₁,gens,drawn,toks,os⟩⟩
 obtain ⟨o,es,ep,ho,hod,hoe⟩:=id F.ns
 have I:Inv x [env] p:=
  {base:=λa o e=>e,froz:=F.keep,len:=rfl,nd:=List.nodup_nil,off:=λ_ h=>(by cases h),mu:=λi a m e=>(by simp[p] at e),frames:=⟨⟨by show sc.kind≠_;rw[hk];decide,L,o,rfl,ho,(λvs e=>by rw[hod] at e;cases e),hL,(λh=>by cases h)⟩,trivial⟩ }
 have R:Jaz x [env] env sc.names (Jbg ["script"] [.lst (is.map .int)]) p:=by
  have nocell:∀y,¬ (sc.names.lookup y=some .cell\/sc.names.lookup y=some .free):=λy h=>by
   rcases h with h | h<;>(rcases hn _ (Jbr h) with e | e<;>cases e)
  refine ⟨hk,λy=>.inl rfl,rfl,rfl,hd,hc,⟨m,F.ns,λy d e1 e2=>?_⟩,λy hy=>absurd hy (nocell y),λy z c e1 e2=>(by cases e1),λy c e=>(by cases e),λa ha=>?_,env,[],L,rfl,rfl,rfl⟩
  ·simp only[Jbg,Jac.set] at e2
   split at e2
   ·rename_i ey
    cases e2
    subst ey
    refine ⟨_,hm,?_⟩
    obtain ⟨ol,h1,h2,n,h3⟩:=hl
    exact mkLst ⟨l,ol,_,n,rfl,h1,h2,h3,by simpa using ints_rel hI⟩
   ·cases e2
  ·have:a=L:=by simpa [pvt,env,envOf] using ha
   subst this
   exact ⟨hL,(λh=>by cases h),o,ho⟩
 obtain ⟨vars,σ,hp⟩:=hpure
 have hb:=Jjz P (cfOk P 19) Jpz env body R I
 have e1:evSs G (cfn G 19) body sc.names (Jbg ["script"] [.lst (is.map .int)]) p.σ=.ok (vars,.ret (.bool true)) σ:=hp
 rw[e1] at hb
 refine wpAny_mono (hb λh=>nomatch h) ?_ ?_
 ·rintro f s' ⟨⟨v',fl⟩,q,g,rfl,I2,X2,R2,hf⟩
  injection g with g g'
  cases g
  obtain ⟨v,rfl,hv⟩:=hf
  cases Jdg hv
  obtain ⟨h,tk,hs'⟩:=X2.same
  rw[hs']
  refine hq h tk λb o e=>?_
  have:=I2.froz _ _ (X2.b b o e)
  rw[hs'] at this
  exact this
 ·rintro e s' ⟨_,_,_,g,_⟩
  cases g
end
section
set_option maxHeartbeats 8000000
open Hd
theorem law_holds(hpure:∀is:List Int,is.length<=63->∃vars σ,evSs G (cfn G 19) (fnn 42).2.2 (fnn 42).2.1.names (Jbg ["script"] [.lst (is.map .int)]) []=.ok (vars,.ret (.bool true)) σ):PySem.Challenge.rw_ok0159_01.Holds:=hd (by
 intro w s₀ s₁ mg mb G Y fa o pm cd doc dV kV ho hd hcd hD hmg hg args vals as hpre hlay hrd hwl hlo
 have KX:=kIn_of Y
 refine Ground.open G ?_
 intro T B D TE TW
 try (refine guard_noD D (by decide +kernel) ?_;clear D)
 obtain ⟨_,_,M⟩:=bmod_of_top T
 have TA:=at_of_top T
 try (obtain ⟨_,_,he,B0⟩:=based_of_top T rfl hmg ho hd;have he':cd=_:=he;subst he';clear he)
 clear hmg
 wrow_args hpre hlay hrd hwl hlo
 refine enter_call ?_
 w_top on
 try refine codeAny_mono ?_ (λ_ _ g=>GoodW.toG g)
 have K0:=below_caller (Top.heap T)
 w_call any ho hd hcd hD T F
 clear hd TA
 with_reducible rename Fr _ _ _ _=>F
 with_reducible rename Frag.In (K _) _=>KX
 with_reducible rename Top _ _ _ _ _ _=>T
 with_reducible rename IntsAre _ _=>hI
 with_reducible rename Heap.IsList _ _ _=>hL
 with_reducible rename ¬ (_<_)=>hlen
 with_reducible rename @Eq (Array GenState) _ _=>hg
 refine Jq2 (x:=⟨_,_,K _,_,59⟩) (allOk rfl rfl KX T.b T.builtins T.nolimit) F (Jbe _) rfl hL hI rfl rfl (by decide) rfl rfl (hpure _ (by exact ar200 hlen)) λh tk hk=>?_
 exact ⟨.inl ⟨.bool true,.bool true,[],rfl,λcls=>rfl,ReadsW.bool _,by first | kernel_rfl | decide | simp[Challenge.rw_ok0159_01,OpenLaw.row],λ_=>⟨List.nodup_nil,λ_ h=>by cases h⟩⟩,hk,rfl,hg⟩)
end
section
theorem bok{α β:Type}(a:α)(σ:Jaa)(f:α->Jaa->Out β):(Out.ok a σ).bind f=f a σ:=rfl
theorem brt{α:Type}(a b:Out α):brD (.bool true) a b=a:=rfl
theorem brf{α:Type}(a b:Out α):brD (.bool false) a b=b:=rfl
theorem bri{α:Type}(c:Bool)(a b:Out α):brD (.bool c) a b=if c=true then a else b:=by cases c<;>rfl
end
section
section
variable{σ:Jaa}
theorem Jel{α:Type}{c:Prop}[Decidable c]{a:α}(h:c):Out.of (opt c a) σ=.ok a σ:=congrArg (Out.of · σ) (if_pos h)
theorem Jed:∀(l:List Str),Jb5 (l.map .str)=some l
 |[]=>rfl
 |a::r=>by
  show (Jb5 (r.map .str)).map (a::·)=_
  rw[Jed r];rfl
theorem Jmu:∀(l:List Int),intsOf (l.map .int)=some l
 |[]=>rfl
 |a::r=>by
  show (intsOf (r.map .int)).map (a::·)=_
  rw[Jmu r];rfl
theorem Jkh:∀(l:List Bool),boolsOf (l.map .bool)=some l
 |[]=>rfl
 |a::r=>by
  show (boolsOf (r.map .bool)).map (a::·)=_
  rw[Jkh r];rfl
theorem c_le(a b:Int):Jag .LtE (.int a) (.int b) σ=.ok (.bool (decide (a<=b))) σ:=rfl
theorem c_lt(a b:Int):Jag .Lt (.int a) (.int b) σ=.ok (.bool (decide (a<b))) σ:=rfl
theorem c_gt(a b:Int):Jag .Gt (.int a) (.int b) σ=.ok (.bool (decide (b<a))) σ:=rfl
theorem c_ge(a b:Int):Jag .GtE (.int a) (.int b) σ=.ok (.bool (decide (b<=a))) σ:=rfl
theorem Jsd(a b:Int):Jag .Eq (.int a) (.int b) σ=.ok (.bool (a==b)) σ:=rfl
theorem Jou(a b:Int):Jag .NotEq (.int a) (.int b) σ=.ok (.bool !(a==b)) σ:=rfl
theorem Jkf(a b:Str):Jag .Eq (.str a) (.str b) σ=.ok (.bool (a==b)) σ:=rfl
theorem Jot(a b:Str):Jag .NotEq (.str a) (.str b) σ=.ok (.bool !(a==b)) σ:=rfl
theorem c_ins(a b:Str):Jag .In (.str a) (.str b) σ=.ok (.bool (Txt.contains b a)) σ:=rfl
theorem c_nins(a b:Str):Jag .NotIn (.str a) (.str b) σ=.ok (.bool !(Txt.contains b a)) σ:=rfl
theorem Jju{a:Str}{l:List Str}(h:l.length<=line):((Jb5 (l.map .str)).bind λys=>if ys.length<=line then some (ys.any (·==a)) else none)=some (l.any (·==a)):=by
 rw[Jed]
 exact if_pos h
theorem c_inl{a:Str}{l:List Str}(h:l.length<=line):Jag .In (.str a) (.lst (l.map .str)) σ=.ok (.bool (l.any (·==a))) σ:=by
 show Out.of (Option.map (λc=>D.bool c) ((Jb5 (l.map .str)).bind λys=>if ys.length<=line then some (ys.any (·==a)) else none)) σ=_
 rw[Jju h];rfl
theorem c_nint{a:Str}{l:List Str}(h:l.length<=line):Jag .NotIn (.str a) (.tup (l.map .str)) σ=.ok (.bool !(l.any (·==a))) σ:=by
 show Out.of (Option.map (λc=>D.bool !c) ((Jb5 (l.map .str)).bind λys=>if ys.length<=line then some (ys.any (·==a)) else none)) σ=_
 rw[Jju h];rfl
theorem Jm3{a b:List Str}{x y:D}(hx:Jau σ x=some (a.map .str))(hy:Jau σ y=some (b.map .str))(h1:a.length<=line)(h2:b.length<=line):eqL σ x y=some (a==b):=by
 unfold eqL
 rw[hx,hy]
 show (if b.map D.str=[] then opt ((a.map D.str).length<=line) (a.map D.str).isEmpty else (Jb5 (a.map D.str)).bind λu=>(Jb5 (b.map D.str)).bind λv=>opt (u.length<=line/\v.length<=line) (u==v))=_
 cases b with
 |nil=>
  refine (if_pos rfl).trans ((if_pos (by rwa [List.length_map])).trans ?_)
  cases a<;>rfl
 |cons c r=>
  refine (if_neg (λh=>nomatch h)).trans ?_
  rw[Jed,Jed]
  exact if_pos ⟨h1,h2⟩
theorem c_eql{a b:List Str}(h1:a.length<=line)(h2:b.length<=line):Jag .Eq (.lst (a.map .str)) (.lst (b.map .str)) σ=.ok (.bool (a==b)) σ:=
 congrArg (λx=>Out.of (Option.map (λc=>D.bool c) x) σ) (Jm3 (σ:=σ) (x:=.lst (a.map .str)) (y:=.lst (b.map .str)) rfl rfl h1 h2)
theorem c_nel{a b:List Str}(h1:a.length<=line)(h2:b.length<=line):Jag .NotEq (.lst (a.map .str)) (.lst (b.map .str)) σ=.ok (.bool !(a==b)) σ:=
 congrArg (λx=>Out.of (Option.map (λc=>D.bool !c) x) σ) (Jm3 (σ:=σ) (x:=.lst (a.map .str)) (y:=.lst (b.map .str)) rfl rfl h1 h2)
theorem Jh5(b:Bool):unop .Not (.bool b) σ=.ok (.bool !b) σ:=rfl
theorem Jo4(a:Int):unop .USub (.int a) σ=.ok (.int (-a)) σ:=rfl
theorem Jcq(a b:Int):Jae .Add (.int a) (.int b) σ=.ok (.int (a+b)) σ:=rfl
theorem b_sub(a b:Int):Jae .Sub (.int a) (.int b) σ=.ok (.int (a - b)) σ:=rfl
theorem Jg4{a b:Int}(h:small a\/small b):Jae .Mult (.int a) (.int b) σ=.ok (.int (a*b)) σ:=Jel h
theorem b_mod{a b:Int}(h:b≠0):Jae .Mod (.int a) (.int b) σ=.ok (.int (a.fmod b)) σ:=Jel h
theorem b_div{a b:Int}(h:b≠0/\b.natAbs<2^30):Jae .FloorDiv (.int a) (.int b) σ=.ok (.int (a.fdiv b)) σ:=Jel h
theorem b_pow{a b:Int}(h:small a/\0<=b/\b<=1000):Jae .Pow (.int a) (.int b) σ=.ok (.int (a^b.toNat)) σ:=Jel h
theorem b_shr{a b:Int}(h:0<=b):Jae .RShift (.int a) (.int b) σ=.ok (.int (a.fdiv (2^b.toNat))) σ:=Jel h
theorem b_and(a b:Int):Jae .BitAnd (.int a) (.int b) σ=.ok (.int (Builtin.bitAnd a b)) σ:=rfl
theorem Jbm{a b:Str}(h:a.length+b.length<=line):Jae .Add (.str a) (.str b) σ=.ok (.str (a++b)) σ:=Jel h
theorem b_addb{a b:Array UInt8}(h:a.size+b.size<=line):Jae .Add (.bytes a) (.bytes b) σ=.ok (.bytes (a++b)) σ:=Jel h
theorem k_len{d:D}{k:Nat}(hd:lenOf σ d=some k)(h:k<=line):Jai (.builtin "len") [d] σ=.ok (.int k) σ:=by
 show Out.of ((lenOf σ d).bind λn=>if n<=line then some (D.int n) else none) σ=_
 rw[hd]
 show Out.of (if k<=line then some (D.int k) else none) σ=_
 rw[if_pos h];rfl
theorem Jd7{s:Str}(h:s.length<=line):Jai (.builtin "len") [.str s] σ=.ok (.int s.length) σ:=k_len rfl h
theorem Jmo{l:List D}(h:l.length<=line):Jai (.builtin "len") [.lst l] σ=.ok (.int l.length) σ:=k_len rfl h
theorem k_lenb{b:Array UInt8}(h:b.size<=line):Jai (.builtin "len") [.bytes b] σ=.ok (.int b.size) σ:=k_len rfl h
theorem k_all{l:List Bool}(h:l.length<=line):Jai (.builtin "all") [.lst (l.map .bool)] σ=.ok (.bool (l.all id)) σ:=by
 show Out.of ((boolsOf (l.map .bool)).bind λbs=>if bs.length<=line then some (D.bool (bs.all id)) else none) σ=_
 rw[Jkh]
 show Out.of (if l.length<=line then some (D.bool (l.all id)) else none) σ=_
 rw[if_pos h];rfl
theorem Jfd{i:Nat}{ns:List Str}{ds:List D}(h:σ[i]?=some (.dict ns ds)):dict? σ i=some (ns,ds):=by unfold dict?;rw[h];rfl
theorem Jij{i:Nat}{ds:List D}(h:σ[i]?=some (.list ds)):list? σ i=some ds:=by unfold list?;rw[h];rfl
theorem Jnh{fld:Addr->Str->Bool}{C:Addr}{i:Nat}{ns:List Str}{ds:List D}{y:Str}(h:σ[i]?=some (.dict ns ds)):attr fld (.obj C i) y σ=.of (if fld C y=true then (getF ns ds y).bind λd=>opt (notVal d=true) d else none) σ:=by
 show Out.of (((dict? σ i).map λt=>(C,t)).bind _) σ=_
 rw[Jfd h];rfl
theorem Jk2{fld:Addr->Str->Bool}{C:Addr}{i:Nat}{ns:List Str}{ds:List D}{y:Str}{d:D}(h:σ[i]?=some (.dict ns ds)):Jd1 fld (.obj C i) y d σ=.upd (opt (fld C y=true/\(getF ns ds y).isSome=true/\ns.length<=100) (σ.set i (.dict ns (setF ns ds y d)))):=by
 show Out.upd ((dict? σ i).bind _)=_
 rw[Jfd h];rfl
theorem Joa{G:Prg}{C:Addr}{i:Nat}{ns:List Str}{ds:List D}{y:Str}(h:σ[i]?=some (.dict ns ds)):Jah G (.obj C i) y σ=((getF ns ds y).isNone&&(G.meth C y).isSome):=by
 show (((dict? σ i).map λt=>(C,t)).any _)=_
 rw[Jfd h];rfl
theorem Jhk{G:Prg}{i:Nat}{ds:List D}{y:Str}(h:σ[i]?=some (.list ds)):Jah G (.loc i) y σ=(decide (y="append")||decide (y="pop")||decide (y="insert")):=by
 show ((list? σ i).isSome&&_)=_
 rw[Jij h];rfl
theorem Jgl{l:Bool}{i:Nat}{ds:List D}{y:Str}{as:List D}(h:σ[i]?=some (.list ds)):Jbu l (.loc i) y as σ=methsL i y as σ ds:=by
 show (list? σ i).elim _ _=_
 rw[Jij h];rfl
theorem Jhn{i:Nat}{ds:List D}(h:σ[i]?=some (.list ds)):Jau σ (.loc i)=some ds:=by
 show (σ[i]?).bind _=_
 rw[h];rfl
theorem Jrb{i:Nat}{ns:List Str}{ds:List D}{y:Str}(h:σ[i]?=some (.dict ns ds)):item (.loc i) (.str y) σ=.of (getF ns ds y) σ:=by
 show Out.of ((dict? σ i).bind _) σ=_
 rw[Jfd h];rfl
theorem Jms{i:Nat}{ds:List D}{k:Int}(h:σ[i]?=some (.list ds)):item (.loc i) (.int k) σ=.of (itemL ds k) σ:=by
 show Out.of ((Jau σ (.loc i)).bind _) σ=_
 rw[Jhn h];rfl
theorem Jev{i:Nat}{ds:List D}{k:Int}{d:D}(h:σ[i]?=some (.list ds)):Ja7 (.loc i) (.int k) d σ=.upd ((seqIndex? k ds.length).bind λm=>opt (ds.length<=line/\0<=k) (σ.set i (.list (ds.set m d)))):=by
 show Out.upd ((list? σ i).bind _)=_
 rw[Jij h];rfl
theorem Jk1{i:Nat}{ns:List Str}{ds:List D}{y:Str}{d:D}(h:σ[i]?=some (.dict ns ds)):Ja7 (.loc i) (.str y) d σ=.upd (opt ((getF ns ds y).isSome=true/\ns.length<=100) (σ.set i (.dict ns (setF ns ds y d)))):=by
 show Out.upd ((dict? σ i).bind _)=_
 rw[Jfd h];rfl
end
end
section
section
noncomputable def kv{β:Type}(kn:Jac->Jaa->Out β)(kr:Jac->D->Jaa->Out β)(v:Jac×Fl)(σ:Jaa):Out β:=match v.2 with
 |.next=>kn v.1 σ
 |.ret d=>kr v.1 d σ
noncomputable def raised{β:Type}(a b:D)(σ:Jaa):Out β:=((str? a).bind λw=>(int? b).map λn=>(w,n)).elim .bad λt=>.exc t.1 t.2 σ
noncomputable def Jda(its:Jaa->Option (List D))(step:D->Jaa->Out (Option D)):Nat->Nat->Jaa->Out (List D)
 |0,_,_=>.bad
 |k+1,j,σ=>match its σ with
  |none=>.bad
  |some ds=>match ds[j]? with
   |none=>.ok [] σ
   |some d=>(step d σ).bind λe σ=>match e with
    |some e=>(Jda its step k (j+1) σ).bind λes σ=>.ok (e::es) σ
    |none=>Jda its step k (j+1) σ
noncomputable def Ja5(d:D)(step:D->Jaa->Out (Option D))(σ:Jaa):Out D:=match Jal σ d with
 |none=>.bad
 |some ds=>if ds.length<=line then (Jda (λσ=>Jal σ d) step (ds.length+1) 0 σ).bind λes σ=>.ok (.lst es) σ else .bad
noncomputable def forJ(its:Jaa->Option (List D))(step:D->Jac->Jaa->Out (Jac×Fl)):Nat->Nat->Jac->Jaa->Out (Jac×Fl)
 |0,_,_,_=>.bad
 |k+1,j,vars,σ=>match its σ with
  |none=>.bad
  |some ds=>match ds[j]? with
   |none=>.ok (vars,.next) σ
   |some d=>(step d vars σ).bind (kv (forJ its step k (j+1)) λV d σ=>.ok (V,.ret d) σ)
noncomputable def Jfg(d:D)(step:D->Jac->Jaa->Out (Jac×Fl))(vars:Jac)(σ:Jaa):Out (Jac×Fl):=match Jal σ d with
 |none=>.bad
 |some ds=>if ds.length<=line then forJ (λσ=>Jal σ d) step (ds.length+1) 0 vars σ else .bad
noncomputable def unp{β:Type}(x:Option Jac)(k:Jac->Out β):Out β:=match x with
 |none=>.bad
 |some V=>k V
noncomputable def tupT(xs:List Str)(d:D)(V:Jac):Option Jac:=(tup? d).bind λds=>Jbs xs ds V
theorem bas{α β γ:Type}(x:Out α)(f:α->Jaa->Out β)(g:β->Jaa->Out γ):(x.bind f).bind g=x.bind λa σ=>(f a σ).bind g:=by cases x<;>rfl
theorem bid{α:Type}(x:Out α):x.bind .ok=x:=by cases x<;>rfl
theorem bbr{α β:Type}(d:D)(a b:Out α)(f:α->Jaa->Out β):(brD d a b).bind f=brD d (a.bind f) (b.bind f):=by
 cases d with
 |bool c=>cases c<;>rfl
 |_=>rfl
theorem bco{α β:Type}{x:Out α}{f g:α->Jaa->Out β}(h:∀a σ,f a σ=g a σ):x.bind f=x.bind g:=by
 rw[show f=g from funext λa=>funext (h a)]
theorem Ji1{its:Jaa->Option (List D)}{bind:D->Option Jac}{test:Jac->Jaa->Out Bool}{elt:Jac->Jaa->Out D}{step:D->Jaa->Out (Option D)}
  (h:∀d σ,step d σ=unp (bind d) λvars=>(test vars σ).bind λb σ=>if b=true then (elt vars σ).bind λe σ=>.ok (some e) σ else .ok none σ):∀k j σ,compI its bind test elt k j σ=Jda its step k j σ
 |0,_,_=>rfl
 |k+1,j,σ=>by
  show (match its σ with | none=>Out.bad | some ds=>match ds[j]? with | none=>.ok [] σ | some d=>match bind d with | none=>.bad | some vars=>(test vars σ).bind λb σ=>if b=true then (elt vars σ).bind λe σ=>(compI its bind test elt k (j+1) σ).bind λes σ=>.ok (e::es) σ else compI its bind test elt k (j+1) σ)=(match its σ with | none=>Out.bad | some ds=>match ds[j]? with | none=>.ok [] σ | some d=>(step d σ).bind λe σ=>match e with | some e=>(Jda its step k (j+1) σ).bind λes σ=>.ok (e::es) σ | none=>Jda its step k (j+1) σ)
  cases its σ with
  |none=>rfl
  |some ds=>
   show (match ds[j]? with | none=>Out.ok [] σ | some d=>_)=(match ds[j]? with | none=>Out.ok [] σ | some d=>_)
   cases ds[j]? with
   |none=>rfl
   |some d=>
    show (match bind d with | none=>Out.bad | some vars=>_)=(step d σ).bind _
    rw[h]
    cases bind d with
    |none=>rfl
    |some vars=>
     show _=((test vars σ).bind _).bind _
     rw[bas]
     refine bco λb σ=>?_
     cases b with
     |false=>exact Ji1 h k (j+1) σ
     |true=>
      show (elt vars σ).bind _=((elt vars σ).bind _).bind _
      rw[bas]
      refine bco λe σ=>?_
      show (compI its bind test elt k (j+1) σ).bind _=(Jda its step k (j+1) σ).bind _
      rw[Ji1 h k (j+1) σ]
theorem Jrj{its:Jaa->Option (List D)}{bind:D->Jac->Option Jac}{body:Jac->Jaa->Out (Jac×Fl)}{step:D->Jac->Jaa->Out (Jac×Fl)}
  (h:∀d V σ,step d V σ=unp (bind d V) λV=>body V σ):∀k j V σ,forI its bind body k j V σ=forJ its step k j V σ
 |0,_,_,_=>rfl
 |k+1,j,V,σ=>by
  show (match its σ with | none=>Out.bad | some ds=>match ds[j]? with | none=>.ok (V,Fl.next) σ | some d=>match bind d V with | none=>.bad | some vars=>(body vars σ).bind λr σ'=>match r.2 with | .next=>forI its bind body k (j+1) r.1 σ' | .ret d=>.ok (r.1,.ret d) σ')=(match its σ with | none=>Out.bad | some ds=>match ds[j]? with | none=>.ok (V,Fl.next) σ | some d=>(step d V σ).bind (kv (forJ its step k (j+1)) λV d σ=>.ok (V,.ret d) σ))
  cases its σ with
  |none=>rfl
  |some ds=>
   show (match ds[j]? with | none=>Out.ok (V,Fl.next) σ | some d=>_)=(match ds[j]? with | none=>Out.ok (V,Fl.next) σ | some d=>_)
   cases ds[j]? with
   |none=>rfl
   |some d=>
    show (match bind d V with | none=>Out.bad | some vars=>_)=(step d V σ).bind _
    rw[h]
    cases bind d V with
    |none=>rfl
    |some vars=>
     refine bco λr σ=>?_
     obtain ⟨V',f⟩:=r
     cases f with
     |next=>exact Jrj h k (j+1) V' σ
     |ret d=>rfl
end
end
section
section
noncomputable def ofk0{β:Type}(o:Option D)(σ:Jaa)(k:D->Jaa->Out β):Out β:=match o with
 |some d=>k d σ
 |none=>.bad
noncomputable def ofk1{β:Type}(o:Option D)(σ:Jaa)(k:D->Jaa->Out β):Out β:=ofk0 o σ k
noncomputable def ofk2{β:Type}(o:Option D)(σ:Jaa)(k:D->Jaa->Out β):Out β:=ofk1 o σ k
noncomputable def ofk3{β:Type}(o:Option D)(σ:Jaa)(k:D->Jaa->Out β):Out β:=ofk2 o σ k
noncomputable def ofk{β:Type}(o:Option D)(σ:Jaa)(k:D->Jaa->Out β):Out β:=ofk3 o σ k
theorem ofk_eq{β:Type}(o:Option D)(σ:Jaa)(k:D->Jaa->Out β):ofk o σ k=(Out.of o σ).bind k:=by cases o<;>rfl
noncomputable def nameK{β:Type}(G:Prg)(nm:List (Str×NameKind))(x:Str)(vars:Jac)(σ:Jaa)(k:D->Jaa->Out β):Out β:=match nm.lookup x with
 |some .globalImplicit=>ofk (G.glob x) σ k
 |some .local=>ofk (vars x) σ k
 |some .cell=>ofk (vars x) σ k
 |some .free=>ofk (vars x) σ k
 |_=>.bad
theorem nameK_eq{β:Type}(G:Prg)(nm:List (Str×NameKind))(x:Str)(vars:Jac)(σ:Jaa)(k:D->Jaa->Out β):nameK G nm x vars σ k=(nameD G nm x vars σ).bind k:=by
 unfold nameK nameD
 cases nm.lookup x with
 |none=>rfl
 |some y=>cases y<;>first | rfl | exact ofk_eq _ _ _
mutual
noncomputable def Jb4(G:Prg)(cf:Addr->List D->Jaa->Out D):Expr->List (Str×NameKind)->Jac->Jaa->(β:Type)->(D->Jaa->Out β)->Out β
 |.Constant c _ _,_,_,σ,_,k=>ofk (constD c) σ k
 |.Name x _,nm,vars,σ,_,k=>nameK G nm x vars σ k
 |.BoolOp op es _,nm,vars,σ,_,k=>(evBk G cf op es nm vars σ).bind k
 |.BinOp l op r _,nm,vars,σ,β,k=>Jb4 G cf l nm vars σ β λa σ=>Jb4 G cf r nm vars σ β λb σ=>(Jae op a b σ).bind k
 |.UnaryOp op e _,nm,vars,σ,β,k=>Jb4 G cf e nm vars σ β λa σ=>(unop op a σ).bind k
 |.IfExp t b o _,nm,vars,σ,β,k=>Jb4 G cf t nm vars σ β λc σ=>(brD c (Jb4 G cf b nm vars σ D .ok) (Jb4 G cf o nm vars σ D .ok)).bind k
 |.List es pos,nm,vars,σ,β,k=>if plain es=true/\es.length<=1000 then evLk G cf es nm vars σ β λds σ=>if G.lasts pos=true then k (.loc σ.length) (σ++[.list ds]) else k (.lst ds) σ else .bad
 |.Tuple es _ _,nm,vars,σ,β,k=>if plain es=true/\es.length<=1000 then evLk G cf es nm vars σ β λds σ=>k (.tup ds) σ else .bad
 |.Dict ks vs _,nm,vars,σ,β,k=>(keysOf ks).elim .bad λns=>if ns.Nodup/\ns.length<=10/\ns.length=vs.length/\0<ns.length then evLk G cf vs nm vars σ β λds σ=>k (.loc σ.length) (σ++[.dict ns ds]) else .bad
 |.ListComp elt [⟨t,it,ifs,0⟩] sc _,nm,vars,σ,β,k=>if compOk nm sc t it=true then Jb4 G cf it nm vars σ β λd σ=>(Ja5 d (λe σ=>unp (Jcd t e (seen sc vars)) λvars=>evTk G cf ifs sc.names vars σ λσ=>Jb4 G cf elt sc.names vars σ (Option D) λe σ=>.ok (some e) σ) σ).bind k else .bad
 |.Compare l ops rs _,nm,vars,σ,β,k=>Jb4 G cf l nm vars σ β λa σ=>(evCk G cf a ops rs nm vars σ).bind k
 |.Call (.Attribute o x apos) args ks pos,nm,vars,σ,β,k=>if ks.isEmpty=true/\plain args=true/\args.length<28/\apos.endLine=pos.line/\baseOk o=true then
   Jb4 G cf o nm vars σ β λa σ=>if Jah G a x σ=true then evLk G cf args nm vars σ β λds σ=>(Jak G cf pos a x ds σ).bind k else .bad else .bad
 |.Call f args ks _,nm,vars,σ,β,k=>if ks.isEmpty=true/\plain args=true/\args.length<28 then Jb4 G cf f nm vars σ β λa σ=>evLk G cf args nm vars σ β λds σ=>(Jlu cf a ds σ).bind k else .bad
 |.Attribute o x _,nm,vars,σ,β,k=>if baseOk o=true then Jb4 G cf o nm vars σ β λa σ=>(attr G.fld a x σ).bind k else .bad
 |.Subscript o (.Slice l u s _) _,nm,vars,σ,β,k=>Jb4 G cf o nm vars σ β λa σ=>evOk G cf l nm vars σ β λl σ=>evOk G cf u nm vars σ β λu σ=>evOk G cf s nm vars σ β λs σ=>(slice a l u s σ).bind k
 |.Subscript o i _,nm,vars,σ,β,k=>Jb4 G cf o nm vars σ β λa σ=>Jb4 G cf i nm vars σ β λi σ=>(item a i σ).bind k
 |e,nm,vars,σ,_,k=>(evE G cf e nm vars σ).bind k
noncomputable def evOk(G:Prg)(cf:Addr->List D->Jaa->Out D):Option Expr->List (Str×NameKind)->Jac->Jaa->(β:Type)->(D->Jaa->Out β)->Out β
 |none,_,_,σ,_,k=>k .none σ
 |some e,nm,vars,σ,β,k=>Jb4 G cf e nm vars σ β k
noncomputable def evLk(G:Prg)(cf:Addr->List D->Jaa->Out D):List Expr->List (Str×NameKind)->Jac->Jaa->(β:Type)->(List D->Jaa->Out β)->Out β
 |[],_,_,σ,_,k=>k [] σ
 |e::r,nm,vars,σ,β,k=>Jb4 G cf e nm vars σ β λd σ=>evLk G cf r nm vars σ β λds σ=>k (d::ds) σ
noncomputable def evBk(G:Prg)(cf:Addr->List D->Jaa->Out D):BoolOp->List Expr->List (Str×NameKind)->Jac->Jaa->Out D
 |_,[],_,_,_=>.bad
 |_,[e],nm,vars,σ=>Jb4 G cf e nm vars σ D .ok
 |.And,e::r,nm,vars,σ=>Jb4 G cf e nm vars σ D λd σ=>brD d (evBk G cf .And r nm vars σ) (.ok d σ)
 |.Or,e::r,nm,vars,σ=>Jb4 G cf e nm vars σ D λd σ=>brD d (.ok d σ) (evBk G cf .Or r nm vars σ)
noncomputable def evTk(G:Prg)(cf:Addr->List D->Jaa->Out D):List Expr->List (Str×NameKind)->Jac->Jaa->(Jaa->Out (Option D))->Out (Option D)
 |[],_,_,σ,k=>k σ
 |[e],nm,vars,σ,k=>(Jb4 G cf e nm vars σ Bool λd σ=>.of (Jb7 d) σ).bind λb σ=>if b=true then k σ else .ok none σ
 |_,_,_,_,_=>.bad
noncomputable def evCk(G:Prg)(cf:Addr->List D->Jaa->Out D):D->List CmpOp->List Expr->List (Str×NameKind)->Jac->Jaa->Out D
 |a,[op],[e],nm,vars,σ=>Jb4 G cf e nm vars σ D λb σ=>Jag op a b σ
 |a,op::ops,e::r,nm,vars,σ=>Jb4 G cf e nm vars σ D λb σ=>(Jag op a b σ).bind λc σ=>brD c (evCk G cf b ops r nm vars σ) (.ok c σ)
 |_,_,_,_,_,_=>.bad
end
theorem bite{α β:Type}(c:Prop)[Decidable c](a:Out α)(f:α->Jaa->Out β):(if c then a else .bad).bind f=if c then a.bind f else .bad:=by
 by_cases h:c
 ·rw[if_pos h,if_pos h]
 ·rw[if_neg h,if_neg h];rfl
theorem bel{α β γ:Type}(x:Option γ)(f:γ->Out α)(g:α->Jaa->Out β):(x.elim .bad f).bind g=x.elim .bad λc=>(f c).bind g:=by cases x<;>rfl
theorem Jcj{β:Type}{c:Prop}[Decidable c]{a b:Out β}(h:a=b):(if c then a else Out.bad)=if c then b else Out.bad:=by rw[h]
end
end
section
section
variable(G:Prg)(cf:Addr->List D->Jaa->Out D)
theorem lst_k{β:Type}(c:Bool)(a b:D)(s1 s2:Jaa)(k:D->Jaa->Out β):(if c=true then k a s1 else k b s2)=(if c=true then Out.ok a s1 else .ok b s2).bind k:=by cases c<;>rfl
noncomputable def Agree(e:Expr):Prop:=∀(nm:List (Str×NameKind)) (vars:Jac) (σ:Jaa) (β:Type) (k:D->Jaa->Out β),Jb4 G cf e nm vars σ β k=(evE G cf e nm vars σ).bind k
noncomputable def AgreeL(es:List Expr):Prop:=∀(nm:List (Str×NameKind)) (vars:Jac) (σ:Jaa) (β:Type) (k:List D->Jaa->Out β),evLk G cf es nm vars σ β k=(evL G cf es nm vars σ).bind k
section forms
variable{nm:List (Str×NameKind)}{vars:Jac}{σ:Jaa}{β:Type}{k:D->Jaa->Out β}{f o i:Expr}{args:List Expr}{ks:List Keyword}{pos apos:Pos}{x:Str}
theorem Joq(hn:attr? f=none):Jb4 G cf (.Call f args ks pos) nm vars σ β k=if ks.isEmpty=true/\plain args=true/\args.length<28 then Jb4 G cf f nm vars σ β λa σ=>evLk G cf args nm vars σ β λds σ=>(Jlu cf a ds σ).bind k else .bad:=by
 cases f with
 |Attribute _ _ _=>exact no hn.symm
 |_=>rfl
theorem Jls(hn:attr? f=none)(ih:Agree G cf f)(il:AgreeL G cf args):Jb4 G cf (.Call f args ks pos) nm vars σ β k=(evE G cf (.Call f args ks pos) nm vars σ).bind k:=by
 rw[Joq G cf hn,(Jh2 (env:=default) (λo m q e=>by rw[e] at hn;exact no hn.symm)).2,bite,ih,bas]
 refine Jcj (bco λa σ=>?_)
 rw[il,bas]
theorem Jor(io:Agree G cf o)(il:AgreeL G cf args):Jb4 G cf (.Call (.Attribute o x apos) args ks pos) nm vars σ β k=(evE G cf (.Call (.Attribute o x apos) args ks pos) nm vars σ).bind k:=by
 show (if _ then Jb4 G cf o nm vars σ β _ else .bad)=(if _ then (evE G cf o nm vars σ).bind λa σ=>if Jah G a x σ=true then (evL G cf args nm vars σ).bind λds σ=>Jak G cf pos a x ds σ else .bad else .bad).bind k
 rw[bite,io,bas]
 refine Jcj (bco λa σ=>?_)
 rw[bite,il,bas]
theorem Jpk(hs:Jdh i=true):Jb4 G cf (.Subscript o i pos) nm vars σ β k=Jb4 G cf o nm vars σ β λa σ=>Jb4 G cf i nm vars σ β λi σ=>(item a i σ).bind k:=by
 cases i with
 |Slice _ _ _ _=>exact ff hs
 |_=>rfl
theorem Jnq(hs:Jdh i=true)(io:Agree G cf o)(ih:Agree G cf i):Jb4 G cf (.Subscript o i pos) nm vars σ β k=(evE G cf (.Subscript o i pos) nm vars σ).bind k:=by
 rw[Jpk G cf hs,Jjg (by rintro ⟨_,_,_,_,rfl⟩;exact ff hs),io,bas]
 refine bco λa σ=>?_
 rw[ih,bas]
end forms
mutual
theorem Jap:∀(e:Expr) (nm:List (Str×NameKind)) (vars:Jac) (σ:Jaa) (β:Type) (k:D->Jaa->Out β),Jb4 G cf e nm vars σ β k=(evE G cf e nm vars σ).bind k
 |.BoolOp op es _,nm,vars,σ,β,k=>by
  show (evBk G cf op es nm vars σ).bind k=(evB G cf op es nm vars σ).bind k
  rw[Jln]
 |.BinOp l op r _,nm,vars,σ,β,k=>by
  show Jb4 G cf l nm vars σ β _=((evE G cf l nm vars σ).bind λa σ=>(evE G cf r nm vars σ).bind λb σ=>Jae op a b σ).bind k
  rw[Jap l,bas]
  exact bco λa σ=>by rw[Jap r,bas]
 |.UnaryOp op e _,nm,vars,σ,β,k=>by
  show Jb4 G cf e nm vars σ β _=((evE G cf e nm vars σ).bind λa σ=>unop op a σ).bind k
  rw[Jap e,bas]
 |.IfExp t b o _,nm,vars,σ,β,k=>by
  show Jb4 G cf t nm vars σ β _=((evE G cf t nm vars σ).bind λc σ=>brD c (evE G cf b nm vars σ) (evE G cf o nm vars σ)).bind k
  rw[Jap t,bas]
  exact bco λc σ=>by rw[Jap b,Jap o,bid,bid]
 |.List es pos,nm,vars,σ,β,k=>by
  show (if _ then evLk G cf es nm vars σ β _ else .bad)=(if _ then (evL G cf es nm vars σ).bind λds σ=>if G.lasts pos=true then Out.ok (D.loc σ.length) (σ++[M.list ds]) else .ok (.lst ds) σ else .bad).bind k
  rw[bite,Jgu,bas]
  exact Jcj (bco λds σ=>lst_k _ _ _ _ _ _)
 |.Tuple es _ _,nm,vars,σ,β,k=>by
  show (if _ then evLk G cf es nm vars σ β _ else .bad)=(if _ then (evL G cf es nm vars σ).bind λds σ=>Out.ok (D.tup ds) σ else .bad).bind k
  rw[bite,Jgu,bas]
  rfl
 |.Dict ks vs _,nm,vars,σ,β,k=>by
  have il:=Jgu vs
  refine Eq.trans ?_ (bel _ _ _).symm
  refine congrArg (Option.elim _ Out.bad) (funext λns=>?_)
  rw[bite,il,bas]
  rfl
 |.ListComp elt [⟨t,it,ifs,0⟩] sc _,nm,vars,σ,β,k=>by
  show (if _ then Jb4 G cf it nm vars σ β _ else .bad)=(if _ then (evE G cf it nm vars σ).bind λd σ=>(compL d (λe=>Jcd t e (seen sc vars)) (λvars σ=>evT G cf ifs sc.names vars σ) (λvars σ=>evE G cf elt sc.names vars σ) σ).bind λes σ=>.ok (D.lst es) σ else .bad).bind k
  rw[bite,Jap it,bas]
  refine Jcj (bco λd σ=>congrArg (Out.bind · k) ?_)
  show (match Jal σ d with | none=>Out.bad | some ds=>if ds.length<=line then (Jda _ _ (ds.length+1) 0 σ).bind λes σ=>.ok (D.lst es) σ else .bad)=((Jal σ d).elim Out.bad λds=>if ds.length<=line then compI (λσ=>Jal σ d) (λe=>Jcd t e (seen sc vars)) (λvars σ=>evT G cf ifs sc.names vars σ) (λvars σ=>evE G cf elt sc.names vars σ) (ds.length+1) 0 σ else .bad).bind _
  cases Jal σ d with
  |none=>rfl
  |some ds=>
   refine Eq.trans ?_ (bite _ _ _).symm
   refine Jcj ?_
   rw[Ji1 λd σ=>?_]
   refine congrArg (unp (Jcd t d (seen sc vars))) (funext λV=>?_)
   rw[evTk_eq]
   refine bco λb σ=>?_
   cases b with
   |false=>rfl
   |true=>exact Jap elt _ _ _ _ _
 |.Compare l ops rs _,nm,vars,σ,β,k=>by
  show Jb4 G cf l nm vars σ β _=((evE G cf l nm vars σ).bind λa σ=>evC G cf a ops rs nm vars σ).bind k
  rw[Jap l,bas]
  exact bco λa σ=>by rw[Jlm]
 |.Call f args ks pos,nm,vars,σ,β,k=>by
  have ih:=Jap f
  have il:=Jgu args
  cases f with
  |Attribute o x apos=>exact Jor G cf (Jap o) il
  |_=>exact Jls G cf rfl ih il
 |.Attribute o x _,nm,vars,σ,β,k=>by
  show (if _ then Jb4 G cf o nm vars σ β _ else .bad)=(if _ then (evE G cf o nm vars σ).bind λa σ=>attr G.fld a x σ else .bad).bind k
  rw[bite,Jap o,bas]
 |.Subscript o i _,nm,vars,σ,β,k=>by
  have ih:=Jap i
  have io:=Jap o
  cases i with
  |Slice l u s p=>
   show Jb4 G cf o nm vars σ β _=((evE G cf o nm vars σ).bind λa σ=>(evO G cf l nm vars σ).bind λl σ=>(evO G cf u nm vars σ).bind λu σ=>(evO G cf s nm vars σ).bind λs σ=>slice a l u s σ).bind k
   rw[io,bas]
   refine bco λa σ=>?_
   rw[Jix l,bas]
   refine bco λa σ=>?_
   rw[Jix u,bas]
   refine bco λa σ=>?_
   rw[Jix s,bas]
  |_=>exact Jnq G cf rfl io ih
 |.NamedExpr ..,_,_,_,_,_=>rfl
 |.Lambda ..,_,_,_,_,_=>rfl
 |.Set ..,_,_,_,_,_=>rfl
 |.SetComp ..,_,_,_,_,_=>rfl
 |.DictComp ..,_,_,_,_,_=>rfl
 |.GeneratorExp ..,_,_,_,_,_=>rfl
 |.Await ..,_,_,_,_,_=>rfl
 |.Yield ..,_,_,_,_,_=>rfl
 |.YieldFrom ..,_,_,_,_,_=>rfl
 |.FormattedValue ..,_,_,_,_,_=>rfl
 |.JoinedStr ..,_,_,_,_,_=>rfl
 |.Constant ..,_,_,_,_,_=>ofk_eq _ _ _
 |.Starred ..,_,_,_,_,_=>rfl
 |.Name ..,_,_,_,_,_=>nameK_eq _ _ _ _ _ _
 |.Slice ..,_,_,_,_,_=>rfl
 |.ListComp _ [] _ _,_,_,_,_,_=>rfl
 |.ListComp _ [⟨_,_,_,.ofNat (_+1)⟩] _ _,_,_,_,_,_=>rfl
 |.ListComp _ [⟨_,_,_,.negSucc _⟩] _ _,_,_,_,_,_=>rfl
 |.ListComp _ (⟨_,_,_,.ofNat 0⟩::_::_) _ _,_,_,_,_,_=>rfl
 |.ListComp _ (⟨_,_,_,.ofNat (_+1)⟩::_::_) _ _,_,_,_,_,_=>rfl
 |.ListComp _ (⟨_,_,_,.negSucc _⟩::_::_) _ _,_,_,_,_,_=>rfl
theorem Jix:∀(e:Option Expr) (nm:List (Str×NameKind)) (vars:Jac) (σ:Jaa) (β:Type) (k:D->Jaa->Out β),evOk G cf e nm vars σ β k=(evO G cf e nm vars σ).bind k
 |none,_,_,_,_,_=>rfl
 |some e,nm,vars,σ,β,k=>Jap e nm vars σ β k
theorem Jgu:∀(es:List Expr) (nm:List (Str×NameKind)) (vars:Jac) (σ:Jaa) (β:Type) (k:List D->Jaa->Out β),evLk G cf es nm vars σ β k=(evL G cf es nm vars σ).bind k
 |[],_,_,_,_,_=>rfl
 |e::r,nm,vars,σ,β,k=>by
  show Jb4 G cf e nm vars σ β _=((evE G cf e nm vars σ).bind λd σ=>(evL G cf r nm vars σ).bind λds σ=>.ok (d::ds) σ).bind k
  rw[Jap e,bas]
  exact bco λa σ=>by rw[Jgu r,bas];rfl
theorem Jln:∀(op:BoolOp) (es:List Expr) (nm:List (Str×NameKind)) (vars:Jac) (σ:Jaa),evBk G cf op es nm vars σ=evB G cf op es nm vars σ
 |.And,[],_,_,_=>rfl
 |.Or,[],_,_,_=>rfl
 |.And,[e],nm,vars,σ=>(Jap e nm vars σ D .ok).trans (bid _)
 |.Or,[e],nm,vars,σ=>(Jap e nm vars σ D .ok).trans (bid _)
 |.And,e::e2::r,nm,vars,σ=>(Jap e nm vars σ D _).trans (bco λd σ=>by rw[Jln .And (e2::r)])
 |.Or,e::e2::r,nm,vars,σ=>(Jap e nm vars σ D _).trans (bco λd σ=>by rw[Jln .Or (e2::r)])
theorem evTk_eq:∀(es:List Expr) (nm:List (Str×NameKind)) (vars:Jac) (σ:Jaa) (k:Jaa->Out (Option D)),evTk G cf es nm vars σ k=(evT G cf es nm vars σ).bind λb σ=>if b=true then k σ else .ok none σ
 |[],_,_,_,_=>rfl
 |[e],nm,vars,σ,k=>by
  show Out.bind (Jb4 G cf e nm vars σ Bool _) _=_
  rw[Jap]
  rfl
 |_::_::_,_,_,_,_=>rfl
theorem Jlm:∀(a:D) (ops:List CmpOp) (es:List Expr) (nm:List (Str×NameKind)) (vars:Jac) (σ:Jaa),evCk G cf a ops es nm vars σ=evC G cf a ops es nm vars σ
 |a,[op],[e],nm,vars,σ=>Jap e nm vars σ D _
 |a,op::op2::ops,e::r,nm,vars,σ=>(Jap e nm vars σ D _).trans (bco λb σ=>bco λc σ=>by rw[Jlm b (op2::ops) r])
 |a,[op],e::e2::r,nm,vars,σ=>(Jap e nm vars σ D _).trans (bco λb σ=>bco λc σ=>by rw[Jlm b [] (e2::r)])
 |_,[],[],_,_,_=>rfl
 |_,[],_::_,_,_,_=>rfl
 |_,[_],[],_,_,_=>rfl
 |_,_::_::_,[],_,_,_=>rfl
end
end
end
section
section
section
variable(G:Prg)(cf:Addr->List D->Jaa->Out D)
noncomputable def asgk(t:Expr)(d:D)(nm:List (Str×NameKind))(vars:Jac)(σ:Jaa)(β:Type)(kn:Jac->Jaa->Out β):Out β:=match t with
 |.Name x _=>if Jdm nm x=true then kn (vars.set x d) σ else .bad
 |.Attribute o x _=>Jb4 G cf o nm vars σ β λa σ=>(Jd1 G.fld a x d σ).bind λ_ σ=>kn vars σ
 |.Subscript o i _=>if Jdh i=true then Jb4 G cf o nm vars σ β λa σ=>Jb4 G cf i nm vars σ β λi σ=>(Ja7 a i d σ).bind λ_ σ=>kn vars σ else .bad
 |t=>(asg G cf t d nm vars σ).bind kn
theorem basu{α β:Type}(x:Out α)(V:Jac)(kn:Jac->Jaa->Out β):(x.bind λ_ σ=>kn V σ)=(x.bind λ_ σ=>.ok V σ).bind kn:=by cases x<;>rfl
theorem sub_case(o i:Expr)(d:D)(nm:List (Str×NameKind))(vars:Jac)(σ:Jaa)(β:Type)(kn:Jac->Jaa->Out β):(Jb4 G cf o nm vars σ β λa σ=>Jb4 G cf i nm vars σ β λi σ=>(Ja7 a i d σ).bind λ_ σ=>kn vars σ)=((evE G cf o nm vars σ).bind λa σ=>(evE G cf i nm vars σ).bind λi σ=>(Ja7 a i d σ).bind λ_ σ=>.ok vars σ).bind kn:=by
 rw[Jap,bas]
 refine bco λa σ=>?_
 rw[Jap,bas]
 exact bco λi σ=>basu _ _ _
theorem asgk_eq(t:Expr)(d:D)(nm:List (Str×NameKind))(vars:Jac)(σ:Jaa)(β:Type)(kn:Jac->Jaa->Out β):asgk G cf t d nm vars σ β kn=(asg G cf t d nm vars σ).bind kn:=by
 cases t with
 |Name x p=>exact (bite _ (Out.ok (vars.set x d) σ) kn).symm
 |Attribute o x p=>
  refine (Jap G cf o nm vars σ β _).trans ?_
  refine Eq.trans ?_ (bas _ _ _).symm
  exact bco λa σ=>basu _ _ _
 |Subscript o i p=>
  show (if Jdh i=true then _ else Out.bad)=_
  rw[sub_case]
  exact (bite _ _ kn).symm
 |_=>rfl
end
noncomputable def okN:Jac->Jaa->Out (Jac×Fl):=λV σ=>.ok (V,.next) σ
noncomputable def okR:Jac->D->Jaa->Out (Jac×Fl):=λV d σ=>.ok (V,.ret d) σ
theorem kv_ok:kv okN okR=Out.ok:=funext λv=>funext λσ=>by obtain ⟨V,f⟩:=v;cases f<;>rfl
noncomputable def isE:Stmt->Option Expr
 |.Expr e _=>some e
 |_=>none
theorem isE_of{s:Stmt}{e:Expr}(h:isE s=some e):∃p,s=.Expr e p:=by
 cases s with
 |Expr e p=>cases h;exact ⟨p,rfl⟩
 |_=>exact no h
noncomputable def soleE:List Stmt->List Stmt->Option Expr
 |[s],[]=>isE s
 |_,_=>none
theorem soleE_of{b o:List Stmt}{e:Expr}(h:soleE b o=some e):∃p,b=[.Expr e p]/\o=[]:=by
 cases b with
 |nil=>exact no h
 |cons s b=>
  cases b with
  |cons _ _=>exact no h
  |nil=>
   cases o with
   |cons _ _=>exact no h
   |nil=>obtain ⟨p,rfl⟩:=isE_of h;exact ⟨p,rfl,rfl⟩
mutual
noncomputable def evSk(G:Prg)(cf:Addr->List D->Jaa->Out D):Stmt->List (Str×NameKind)->Jac->Jaa->(β:Type)->(Jac->Jaa->Out β)->(Jac->D->Jaa->Out β)->Out β
 |.Expr e _,nm,vars,σ,β,kn,_=>if Jd8 e=true then Jb4 G cf e nm vars σ β λ_ σ=>kn vars σ else .bad
 |.Return v _,nm,vars,σ,β,_,kr=>evOk G cf v nm vars σ β λd σ=>kr vars d σ
 |.Assign [t] e _,nm,vars,σ,β,kn,_=>if swapOk t e=true then Jb4 G cf e nm vars σ β λd σ=>asgk G cf t d nm vars σ β kn else .bad
 |.If t b o _,nm,vars,σ,β,kn,kr=>Jb4 G cf t nm vars σ β λc σ=>(soleE b o).elim (brD c (Jiw G cf b nm vars σ β kn kr) (Jiw G cf o nm vars σ β kn kr)) λe=>
  if Jd8 e=true then (brD c (Jb4 G cf e nm vars σ D λ_ σ=>.ok .none σ) (.ok .none σ)).bind λ_ σ=>kn vars σ else brD c .bad (kn vars σ)
 |.While t b [] _,nm,vars,σ,β,kn,kr=>(Jbh (λvars σ=>Jb4 G cf t nm vars σ D .ok) (λvars σ=>Jiw G cf b nm vars σ (Jac×Fl) okN okR) G.turns vars σ).bind (kv kn kr)
 |.For t it b [] _,nm,vars,σ,β,kn,kr=>if Jck nm t=true/\notSet it=true then Jb4 G cf it nm vars σ β λd σ=>(Jfg d (λd V σ=>unp (Jcd t d V) λV=>Jiw G cf b nm V σ (Jac×Fl) okN okR) vars σ).bind (kv kn kr) else .bad
 |.Raise e none _,nm,vars,σ,β,_,_=>((e.bind raised?).bind λt=>opt (t.1=G.exn/\nm.lookup t.1=some .globalImplicit/\plain [t.2.1,t.2.2]=true) t).elim .bad λt=>Jb4 G cf t.2.1 nm vars σ β λa σ=>Jb4 G cf t.2.2 nm vars σ β λb σ=>raised a b σ
 |s,nm,vars,σ,_,kn,kr=>(evS G cf s nm vars σ).bind (kv kn kr)
noncomputable def Jiw(G:Prg)(cf:Addr->List D->Jaa->Out D):List Stmt->List (Str×NameKind)->Jac->Jaa->(β:Type)->(Jac->Jaa->Out β)->(Jac->D->Jaa->Out β)->Out β
 |[],_,vars,σ,_,kn,_=>kn vars σ
 |s::r,nm,vars,σ,β,kn,kr=>evSk G cf s nm vars σ β (λV σ=>Jiw G cf r nm V σ β kn kr) kr
end
end
end
section
section
variable(G:Prg)(cf:Addr->List D->Jaa->Out D)
theorem basv{α β:Type}(x:Out α)(V:Jac)(kn:Jac->Jaa->Out β)(kr:Jac->D->Jaa->Out β):(x.bind λ_ σ=>kn V σ)=(x.bind λ_ σ=>Out.ok (V,Fl.next) σ).bind (kv kn kr):=by cases x<;>rfl
theorem basr{β:Type}(x:Out D)(V:Jac)(kn:Jac->Jaa->Out β)(kr:Jac->D->Jaa->Out β):(x.bind λd σ=>kr V d σ)=(x.bind λd σ=>Out.ok (V,Fl.ret d) σ).bind (kv kn kr):=by cases x<;>rfl
theorem basn{β:Type}(x:Out Jac)(kn:Jac->Jaa->Out β)(kr:Jac->D->Jaa->Out β):x.bind kn=(x.bind λV σ=>Out.ok (V,Fl.next) σ).bind (kv kn kr):=by cases x<;>rfl
theorem Jp6{β:Type}(a b:D)(σ:Jaa)(f:Jac×Fl->Jaa->Out β):raised a b σ=Out.bind (raiseD a b σ) f:=by
 unfold raised raiseD
 cases (str? a).bind λw=>(int? b).map λn=>(w,n)<;>rfl
theorem Jkl{t t':Jac->Jaa->Out D}{b b':Jac->Jaa->Out (Jac×Fl)}(ht:∀V σ,t V σ=t' V σ)(hb:∀V σ,b V σ=b' V σ)(n:Nat)(V:Jac)(σ:Jaa):Jbh t b n V σ=Jbh t' b' n V σ:=by
 rw[show t=t' from funext λV=>funext λσ=>ht V σ,show b=b' from funext λV=>funext λσ=>hb V σ]
theorem if_expr{β:Type}(c:D)(x:Out D)(V:Jac)(σ:Jaa)(kn:Jac->Jaa->Out β)(kr:Jac->D->Jaa->Out β) :
  ((brD c (x.bind λ_ σ=>Out.ok D.none σ) (.ok .none σ)).bind λ_ σ=>kn V σ)=(brD c ((x.bind λ_ σ=>Out.ok (V,Fl.next) σ).bind λv σ=>match v.2 with
   |.next=>.ok (v.1,.next) σ
   |.ret d=>.ok (v.1,.ret d) σ) (.ok (V,.next) σ)).bind (kv kn kr):=by
 cases c with
 |bool c=>cases c<;>cases x<;>rfl
 |_=>rfl
theorem if_sole(e:Expr)(p:Pos)(c:D)(nm:List (Str×NameKind))(vars:Jac)(σ:Jaa)(β:Type)(kn:Jac->Jaa->Out β)(kr:Jac->D->Jaa->Out β) :
  (if Jd8 e=true then (brD c (Jb4 G cf e nm vars σ D λ_ σ=>.ok .none σ) (.ok .none σ)).bind λ_ σ=>kn vars σ else brD c .bad (kn vars σ))=(brD c (evSs G cf [.Expr e p] nm vars σ) (.ok (vars,.next) σ)).bind (kv kn kr):=by
 show _=(brD c ((if Jd8 e=true then _ else Out.bad).bind _) _).bind _
 cases Jd8 e with
 |true=>
  refine (if_pos rfl).trans ?_
  rw[Jap]
  exact if_expr _ _ _ _ _ kr
 |false=>exact (bbr c .bad (.ok (vars,.next) σ) (kv kn kr)).symm
theorem Jn2(a:Option Expr)(p:Pos)(nm:List (Str×NameKind))(vars:Jac)(σ:Jaa)(β:Type)(kn:Jac->Jaa->Out β)(kr:Jac->D->Jaa->Out β):evSk G cf (.Raise a none p) nm vars σ β kn kr=(evS G cf (.Raise a none p) nm vars σ).bind (kv kn kr):=by
 refine Eq.trans ?_ (bel _ _ _).symm
 refine congrArg (Option.elim _ Out.bad) (funext λt=>?_)
 rw[Jap,bas]
 refine bco λa σ=>?_
 rw[Jap,bas]
 exact bco λb σ=>Jp6 _ _ _ _
mutual
theorem evSk_eq:∀(s:Stmt) (nm:List (Str×NameKind)) (vars:Jac) (σ:Jaa) (β:Type) (kn:Jac->Jaa->Out β) (kr:Jac->D->Jaa->Out β),evSk G cf s nm vars σ β kn kr=(evS G cf s nm vars σ).bind (kv kn kr)
 |.Expr e _,nm,vars,σ,β,kn,kr=>by
  refine Eq.trans ?_ (bite _ _ _).symm
  exact Jcj ((Jap G cf e nm vars σ β _).trans (basv _ _ _ _))
 |.Return v _,nm,vars,σ,β,kn,kr=>(Jix G cf v nm vars σ β _).trans (basr _ _ _ _)
 |.Assign [t] e _,nm,vars,σ,β,kn,kr=>by
  show (if swapOk t e=true then Jb4 G cf e nm vars σ β λd σ=>asgk G cf t d nm vars σ β kn else .bad)=(if swapOk t e=true then (evE G cf e nm vars σ).bind λd σ=>(asg G cf t d nm vars σ).bind λvars σ=>Out.ok (vars,Fl.next) σ else .bad).bind (kv kn kr)
  rw[bite,Jap,bas]
  refine Jcj (bco λd σ=>?_)
  rw[asgk_eq]
  exact basn _ _ _
 |.If t b o _,nm,vars,σ,β,kn,kr=>by
  refine Eq.trans ?_ (bas (evE G cf t nm vars σ) (λc σ=>brD c (evSs G cf b nm vars σ) (evSs G cf o nm vars σ)) (kv kn kr)).symm
  refine (Jap G cf t nm vars σ β _).trans (bco λc σ=>?_)
  have h:brD c (Jiw G cf b nm vars σ β kn kr) (Jiw G cf o nm vars σ β kn kr)=(brD c (evSs G cf b nm vars σ) (evSs G cf o nm vars σ)).bind (kv kn kr):=by
   rw[Jdn b,Jdn o,bbr]
  cases hs:soleE b o with
  |none=>exact h
  |some e=>
   obtain ⟨p,rfl,rfl⟩:=soleE_of hs
   exact if_sole G cf e p c nm vars σ β kn kr
 |.While t b [] _,nm,vars,σ,β,kn,kr=>by
  refine congrArg (Out.bind · (kv kn kr)) ?_
  refine Jkl (λV σ=>?_) (λV σ=>?_) _ _ _
  ·exact (Jap G cf t nm V σ D .ok).trans (bid _)
  ·rw[Jdn b,kv_ok];exact bid _
 |.For t it b [] _,nm,vars,σ,β,kn,kr=>by
  refine Eq.trans ?_ (bite _ _ _).symm
  refine Jcj ?_
  rw[Jap,bas]
  refine bco λd σ=>congrArg (Out.bind · (kv kn kr)) ?_
  show (match Jal σ d with | none=>Out.bad | some ds=>if ds.length<=line then forJ _ _ (ds.length+1) 0 vars σ else .bad)=(Jal σ d).elim Out.bad _
  cases Jal σ d with
  |none=>rfl
  |some ds=>
   refine Jcj ?_
   rw[Jrj λd V σ=>?_]
   refine congrArg (unp (Jcd t d V)) (funext λV=>?_)
   rw[Jdn b,kv_ok,bid]
 |.FunctionDef ..,_,_,_,_,_,_=>rfl
 |.AsyncFunctionDef ..,_,_,_,_,_,_=>rfl
 |.ClassDef ..,_,_,_,_,_,_=>rfl
 |.Delete ..,_,_,_,_,_,_=>rfl
 |.TypeAlias ..,_,_,_,_,_,_=>rfl
 |.AugAssign ..,_,_,_,_,_,_=>rfl
 |.AnnAssign ..,_,_,_,_,_,_=>rfl
 |.AsyncFor ..,_,_,_,_,_,_=>rfl
 |.With ..,_,_,_,_,_,_=>rfl
 |.AsyncWith ..,_,_,_,_,_,_=>rfl
 |.Match ..,_,_,_,_,_,_=>rfl
 |.Try ..,_,_,_,_,_,_=>rfl
 |.TryStar ..,_,_,_,_,_,_=>rfl
 |.Assert ..,_,_,_,_,_,_=>rfl
 |.Import ..,_,_,_,_,_,_=>rfl
 |.ImportFrom ..,_,_,_,_,_,_=>rfl
 |.Global ..,_,_,_,_,_,_=>rfl
 |.Nonlocal ..,_,_,_,_,_,_=>rfl
 |.Pass ..,_,_,_,_,_,_=>rfl
 |.Break ..,_,_,_,_,_,_=>rfl
 |.Continue ..,_,_,_,_,_,_=>rfl
 |.Assign [] ..,_,_,_,_,_,_=>rfl
 |.Assign (_::_::_) ..,_,_,_,_,_,_=>rfl
 |.While _ _ (_::_) _,_,_,_,_,_,_=>rfl
 |.For _ _ _ (_::_) _,_,_,_,_,_,_=>rfl
 |.Raise a none p,nm,vars,σ,β,kn,kr=>Jn2 G cf a p nm vars σ β kn kr
 |.Raise _ (some _) _,_,_,_,_,_,_=>rfl
theorem Jdn:∀(s:List Stmt) (nm:List (Str×NameKind)) (vars:Jac) (σ:Jaa) (β:Type) (kn:Jac->Jaa->Out β) (kr:Jac->D->Jaa->Out β),Jiw G cf s nm vars σ β kn kr=(evSs G cf s nm vars σ).bind (kv kn kr)
 |[],_,_,_,_,_,_=>rfl
 |s::r,nm,vars,σ,β,kn,kr=>by
  show evSk G cf s nm vars σ β _ kr=((evS G cf s nm vars σ).bind λv σ=>match v.2 with
   |.next=>evSs G cf r nm v.1 σ
   |.ret d=>.ok (v.1,Fl.ret d) σ).bind (kv kn kr)
  rw[evSk_eq,bas]
  refine bco λv σ=>?_
  obtain ⟨V,f⟩:=v
  cases f with
  |next=>exact Jdn r nm V σ β kn kr
  |ret d=>rfl
end
end
end
section
open Hd
section
noncomputable def V0:Jac:=λ_=>none
theorem Jbf{n:Nat}{a:Addr}{as:List D}{σ:Jaa}{ps:List Str}{sc:Scope}{body:List Stmt}(hf:G.fn a=some (ps,sc,body))(hl:ps.length=as.length):cfn G (n+1) a as σ=Jiw G (cfn G n) body sc.names (Jbg ps as) σ D (λ_ σ=>.ok .none σ) (λ_ d σ=>.ok d σ):=by
 rw[Jdn]
 show (match G.fn a,G.cls a with
  |some (ps,sc,body),_=>if ps.length=as.length then (evSs G (cfn G n) body sc.names (Jbg ps as) σ).bind λr σ=>(match r.2 with
    |.next=>Out.ok D.none σ
    |.ret d=>.ok d σ) else .bad
  |none,some (frozen,ps,sc,fs)=>if ps.length=as.length then (evFs G (cfn G n) fs sc.names (Jbg ps as) σ).bind λds σ=>
    if frozen=true then Out.ok (D.inst a (fs.map λx:Str×Expr=>x.1) ds) σ else .ok (.obj a σ.length) (σ++[M.dict (fs.map λx:Str×Expr=>x.1) ds]) else .bad
  |none,none=>.bad)=_
 rw[hf]
 exact if_pos hl
noncomputable def seen20(V:Jac):Jac:=match (fnn 20).2.2[2]? with
 |some (Stmt.If (Expr.Compare _ _ [Expr.ListComp _ _ sc _] _) _ _ _)=>seen sc V
 |_=>V
theorem w82(n:Nat)(a b c d e:D)(s:Jaa):cfn G (n+1) 82 [(.inst 85 ["name","kind","key_width","value_width","most"] [a,b,c,d,e])] s=(attr G.fld (.inst 85 ["name","kind","key_width","value_width","most"] [a,b,c,d,e]) "name" s).bind λx1 s=>(attr G.fld (.inst 85 ["name","kind","key_width","value_width","most"] [a,b,c,d,e]) "kind" s).bind λx2 s=>(attr G.fld (.inst 85 ["name","kind","key_width","value_width","most"] [a,b,c,d,e]) "key_width" s).bind λx3 s=>(attr G.fld (.inst 85 ["name","kind","key_width","value_width","most"] [a,b,c,d,e]) "value_width" s).bind λx4 s=>(attr G.fld (.inst 85 ["name","kind","key_width","value_width","most"] [a,b,c,d,e]) "most" s).bind λx5 s=>.ok (.tup [x1,x2,x3,x4,x5]) s:=
 (Jbf rfl rfl).trans (by kernel_rfl)
theorem w108(n:Nat)(a b c d:D)(s:Jaa):cfn G (n+1) 108 [(.inst 146 ["maps","octets","symbols","relocations"] [a,b,c,d])] s=(attr G.fld (.inst 146 ["maps","octets","symbols","relocations"] [a,b,c,d]) "maps" s).bind λx1 s=>(Ja5 x1 (λe2 s=>if Jah G e2 "told" s=true then ((Jak G (cfn G n) ⟨42,22,42,32⟩ e2 "told" [] s).bind λx3 s=>.ok (some x3) s) else .bad) s).bind λx4 s=>(Jai (.type "tuple") [x4] s).bind λx5 s=>(attr G.fld (.inst 146 ["maps","octets","symbols","relocations"] [a,b,c,d]) "octets" s).bind λx6 s=>(attr G.fld (.inst 146 ["maps","octets","symbols","relocations"] [a,b,c,d]) "symbols" s).bind λx7 s=>(Jai (.type "tuple") [x7] s).bind λx8 s=>(attr G.fld (.inst 146 ["maps","octets","symbols","relocations"] [a,b,c,d]) "relocations" s).bind λx9 s=>(Jai (.type "tuple") [x9] s).bind λx10 s=>.ok (.tup [x5,x6,x8,x10]) s:=
 (Jbf rfl rfl).trans (by kernel_rfl)
theorem w115(n:Nat)(a b c d:D)(s:Jaa):cfn G (n+1) 115 [(.inst 146 ["maps","octets","symbols","relocations"] [a,b,c,d])] s=(attr G.fld (.inst 146 ["maps","octets","symbols","relocations"] [a,b,c,d]) "octets" s).bind λx1 s=>(Jai (.builtin "len") [x1] s).bind λx2 s=>(Jae .FloorDiv x2 (.int 8) s).bind λx3 s=>.ok x3 s:=
 (Jbf rfl rfl).trans (by kernel_rfl)
theorem w143(n:Nat)(a b c d:D)(j:D)(s:Jaa):cfn G (n+1) 143 [(.inst 146 ["maps","octets","symbols","relocations"] [a,b,c,d]),j] s=(attr G.fld (.inst 146 ["maps","octets","symbols","relocations"] [a,b,c,d]) "octets" s).bind λx1 s=>(Jae .Mult (.int 8) j s).bind λx2 s=>(Jae .Mult (.int 8) j s).bind λx3 s=>(Jae .Add x3 (.int 8) s).bind λx4 s=>(slice x1 x2 x4 D.none s).bind λx5 s=>.ok x5 s:=
 (Jbf rfl rfl).trans (by kernel_rfl)
theorem w155(n:Nat)(t:Str)(s:Jaa):cfn G (n+1) 155 [(.str t)] s=(((Jai (.builtin "len") [(.str t)] s).bind λx1 s=>(Jag .Lt (.int 0) x1 s).bind λc2 s=>brD c2 (Jag .LtE x1 (.int 15) s) (.ok c2 s)).bind λx3 s=>(unop .Not x3 s).bind λx4 s=>brD x4 (.ok x4 s) ((item (.str t) (.int 0) s).bind λx5 s=>((slice (.str "0123456789abcdef") D.none (.int 10) D.none s).bind λx6 s=>Jag .In x5 x6 s).bind λx7 s=>.ok x7 s)).bind λx8 s=>brD x8 (.ok (.bool false) s) ((Ja5 (.str t) (λe9 s=>(Jag .In e9 (.str "abcdefghijklmnopqrstuvwxyz0123456789_") s).bind λx10 s=>.ok (some x10) s) s).bind λx11 s=>(Jai (.builtin "all") [x11] s).bind λx12 s=>.ok x12 s):=
 (Jbf rfl rfl).trans (by kernel_rfl)
noncomputable def eS(d4:D)(V3:Jac)(s:Jaa):Out (Jac×Fl):=ofk ((V3.set "place" d4) "total") s λx5 s=>(Jae .Add d4 (.int 1) s).bind λx6 s=>ofk ((V3.set "place" d4) "octets") s λx7 s=>(item x7 d4 s).bind λx8 s=>(Jae .Mult x6 x8 s).bind λx9 s=>(Jae .Add x5 x9 s).bind λx10 s=>.ok (((V3.set "place" d4).set "total" x10),.next) s
theorem w162(n:Nat)(o:D)(s:Jaa):cfn G (n+1) 162 [o] s=(Jai (.builtin "len") [o] s).bind λx1 s=>(Jai (.type "range") [x1] s).bind λx2 s=>(Jfg x2 eS ((V0.set "octets" o).set "total" (.int 0)) s).bind (kv (λV11 s=>ofk (V11 "total") s λx13 s=>(Jae .BitAnd x13 (.int 4294967295) s).bind λx14 s=>.ok x14 s) λV11 d12 s=>.ok d12 s):=
 (Jbf rfl rfl).trans (by kernel_rfl)
theorem w167(n:Nat)(o:D)(s:Jaa):cfn G (n+1) 167 [o] s=(Ja5 o (λe1 s=>(Jae .RShift e1 (.int 4) s).bind λx2 s=>(item (.str "0123456789abcdef") x2 s).bind λx3 s=>(Jae .BitAnd e1 (.int 15) s).bind λx4 s=>(item (.str "0123456789abcdef") x4 s).bind λx5 s=>(Jae .Add x3 x5 s).bind λx6 s=>.ok (some x6) s) s).bind λx7 s=>(Jbu false (.str "") "join" [x7] s).bind λx8 s=>.ok x8 s:=
 (Jbf rfl rfl).trans (by kernel_rfl)
noncomputable def kM2(n:Nat)(V:Jac)(x5 d4:D)(s:Jaa):Out (Jac×Fl):=if Jah G d4 "told" s=true then ((Jak G (cfn G n) ⟨76,62,76,72⟩ d4 "told" [] s).bind λx6 s=>(Ja5 x6 (λe7 s=>(Jai (.type "str") [e7] s).bind λx8 s=>.ok (some x8) s) s).bind λx9 s=>(Jbu false (.str " ") "join" [x9] s).bind λx10 s=>(Jae .Add (.str "map ") x10 s).bind λx11 s=>(Jak G (cfn G n) ⟨76,8,76,75⟩ x5 "append" [x11] s).bind λx12 s=>.ok (V,.next) s) else .bad
noncomputable def kM(n:Nat)(d4:D)(V3:Jac)(s:Jaa):Out (Jac×Fl):=ofk ((V3.set "row" d4) "lines") s λx5 s=>if Jah G x5 "append" s=true then kM2 n (V3.set "row" d4) x5 d4 s else .bad
noncomputable def kO2(n:Nat)(V:Jac)(x20 d19:D)(s:Jaa):Out (Jac×Fl):=ofk (V "made") s λx21 s=>if Jah G x21 "slot" s=true then ((Jak G (cfn G n) ⟨78,38,78,51⟩ x21 "slot" [d19] s).bind λx22 s=>(cfn G n 167 [x22] s).bind λx23 s=>(Jae .Add (.str "slot ") x23 s).bind λx24 s=>(Jak G (cfn G n) ⟨78,8,78,53⟩ x20 "append" [x24] s).bind λx25 s=>.ok (V,.next) s) else .bad
noncomputable def kO(n:Nat)(d19:D)(V18:Jac)(s:Jaa):Out (Jac×Fl):=ofk ((V18.set "at" d19) "lines") s λx20 s=>if Jah G x20 "append" s=true then kO2 n (V18.set "at" d19) x20 d19 s else .bad
noncomputable def kS2(n:Nat)(V32:Jac)(x33:D)(s:Jaa):Out (Jac×Fl):=ofk (V32 "name") s λx34 s=>(Jae .Add (.str "symbol ") x34 s).bind λx35 s=>(Jae .Add x35 (.str " ") s).bind λx36 s=>ofk (V32 "slot") s λx37 s=>(Jai (.type "str") [x37] s).bind λx38 s=>(Jae .Add x36 x38 s).bind λx39 s=>(Jak G (cfn G n) ⟨80,8,80,56⟩ x33 "append" [x39] s).bind λx40 s=>.ok (V32,.next) s
noncomputable def kS(n:Nat)(d31:D)(V30:Jac)(s:Jaa):Out (Jac×Fl):=unp (tupT ["name","slot"] d31 V30) λV32=>ofk (V32 "lines") s λx33 s=>if Jah G x33 "append" s=true then kS2 n V32 x33 s else .bad
noncomputable def kR2(n:Nat)(V47:Jac)(x48:D)(s:Jaa):Out (Jac×Fl):=ofk (V47 "slot") s λx49 s=>(Jai (.type "str") [x49] s).bind λx50 s=>(Jae .Add (.str "relocation ") x50 s).bind λx51 s=>(Jae .Add x51 (.str " ") s).bind λx52 s=>ofk (V47 "way") s λx53 s=>(Jae .Add x52 x53 s).bind λx54 s=>(Jae .Add x54 (.str " ") s).bind λx55 s=>ofk (V47 "name") s λx56 s=>(Jae .Add x55 x56 s).bind λx57 s=>(Jak G (cfn G n) ⟨82,8,82,72⟩ x48 "append" [x57] s).bind λx58 s=>.ok (V47,.next) s
noncomputable def kR(n:Nat)(d46:D)(V45:Jac)(s:Jaa):Out (Jac×Fl):=unp (tupT ["slot","way","name"] d46 V45) λV47=>ofk (V47 "lines") s λx48 s=>if Jah G x48 "append" s=true then kR2 n V47 x48 s else .bad
noncomputable def t4(V:Jac)(s:Jaa):Out D:=ofk (V "lines") s λx61 s=>.ok x61 s
noncomputable def t3(n:Nat)(V:Jac)(s:Jaa):Out D:=ofk (V "made") s λx43 s=>(attr G.fld x43 "relocations" s).bind λx44 s=>(Jfg x44 (kR n) V s).bind (kv t4 λ_ d s=>.ok d s)
noncomputable def t2(n:Nat)(V:Jac)(s:Jaa):Out D:=ofk (V "made") s λx28 s=>(attr G.fld x28 "symbols" s).bind λx29 s=>(Jfg x29 (kS n) V s).bind (kv (t3 n) λ_ d s=>.ok d s)
noncomputable def t1(n:Nat)(V:Jac)(s:Jaa):Out D:=ofk (V "made") s λx15 s=>if Jah G x15 "count" s=true then ((Jak G (cfn G n) ⟨77,20,77,32⟩ x15 "count" [] s).bind λx16 s=>(Jai (.type "range") [x16] s).bind λx17 s=>(Jfg x17 (kO n) V s).bind (kv (t2 n) λ_ d s=>.ok d s)) else .bad
theorem w172(n:Nat)(a b c d:D)(s:Jaa):cfn G (n+1) 172 [(.inst 146 ["maps","octets","symbols","relocations"] [a,b,c,d])] s=(Out.ok (D.loc s.length) (s++[M.list [(.str "ringgate object 1")]])).bind λx1 s=>(attr G.fld (.inst 146 ["maps","octets","symbols","relocations"] [a,b,c,d]) "maps" s).bind λx2 s=>(Jfg x2 (kM n) ((V0.set "made" (.inst 146 ["maps","octets","symbols","relocations"] [a,b,c,d])).set "lines" x1) s).bind (kv (t1 n) λ_ d s=>.ok d s):=
 (Jbf rfl rfl).trans (by kernel_rfl)
theorem w179(n:Nat)(a b c d:D)(s:Jaa):cfn G (n+1) 179 [(.inst 146 ["maps","octets","symbols","relocations"] [a,b,c,d])] s=(cfn G n 172 [(.inst 146 ["maps","octets","symbols","relocations"] [a,b,c,d])] s).bind λx1 s=>if Jah G x1 "append" s=true then ((Jai (.builtin "len") [x1] s).bind λx2 s=>(Jai (.type "str") [x2] s).bind λx3 s=>(Jae .Add (.str "end ") x3 s).bind λx4 s=>(Jae .Add x4 (.str " ") s).bind λx5 s=>(attr G.fld (.inst 146 ["maps","octets","symbols","relocations"] [a,b,c,d]) "octets" s).bind λx6 s=>(cfn G n 162 [x6] s).bind λx7 s=>(Jai (.type "str") [x7] s).bind λx8 s=>(Jae .Add x5 x8 s).bind λx9 s=>(Jak G (cfn G n) ⟨86,4,86,78⟩ x1 "append" [x9] s).bind λx10 s=>(Jbu false (.str "\n") "join" [x1] s).bind λx11 s=>(Jae .Add x11 (.str "\n") s).bind λx12 s=>.ok x12 s) else .bad:=
 (Jbf rfl rfl).trans (by kernel_rfl)
theorem w200(n:Nat)(i:Nat)(s:Jaa):cfn G (n+1) 200 [(.obj 236 i)] s=(attr G.fld (.obj 236 i) "at" s).bind λx1 s=>((attr G.fld (.obj 236 i) "lines" s).bind λx2 s=>(Jai (.builtin "len") [x2] s).bind λx3 s=>Jag .Gt x1 x3 s).bind λx4 s=>brD x4 ((attr G.fld (.obj 236 i) "at" s).bind λx5 s=>raised (.str "a line lacks") x5 s) ((attr G.fld (.obj 236 i) "lines" s).bind λx6 s=>(attr G.fld (.obj 236 i) "at" s).bind λx7 s=>(Jae .Sub x7 (.int 1) s).bind λx8 s=>(item x6 x8 s).bind λx9 s=>if Jah G x9 "split" s=true then ((Jak G (cfn G n) ⟨97,15,97,49⟩ x9 "split" [(.str " ")] s).bind λx10 s=>.ok x10 s) else .bad):=
 (Jbf rfl rfl).trans (by kernel_rfl)
theorem w207(n:Nat)(i:Nat)(w:D)(s:Jaa):cfn G (n+1) 207 [(.obj 236 i),w] s=if Jah G (.obj 236 i) "words" s=true then ((Jak G (cfn G n) ⟨100,15,100,27⟩ (.obj 236 i) "words" [] s).bind λx1 s=>(item x1 (.int 0) s).bind λx2 s=>(Jag .Eq x2 w s).bind λx3 s=>.ok x3 s) else .bad:=
 (Jbf rfl rfl).trans (by kernel_rfl)
theorem w214(n:Nat)(i:Nat)(w:D)(s:Jaa):cfn G (n+1) 214 [(.obj 236 i),w] s=if Jah G (.obj 236 i) "words" s=true then ((Jak G (cfn G n) ⟨103,16,103,28⟩ (.obj 236 i) "words" [] s).bind λx1 s=>(Jai (.builtin "len") [x1] s).bind λx2 s=>(Jag .NotEq x2 w s).bind λx3 s=>brD x3 ((attr G.fld (.obj 236 i) "at" s).bind λx4 s=>raised (.str "words") x4 s) ((attr G.fld (.obj 236 i) "at" s).bind λx5 s=>(Jae .Add x5 (.int 1) s).bind λx6 s=>(Jd1 G.fld (.obj 236 i) "at" x6 s).bind λ_ s=>.ok x1 s)) else .bad:=
 (Jbf rfl rfl).trans (by kernel_rfl)
theorem w221(n:Nat)(i:Nat)(w:D)(s:Jaa):cfn G (n+1) 221 [(.obj 236 i),w] s=(attr G.fld (.obj 236 i) "at" s).bind λx1 s=>(Jae .Sub x1 (.int 1) s).bind λx2 s=>raised w x2 s:=
 (Jbf rfl rfl).trans (by kernel_rfl)
noncomputable def nT(t:Str)(s:Jaa):Out D:=((Jai (.builtin "len") [(.str t)] s).bind λx1 s=>(Jag .Lt (.int 0) x1 s).bind λc2 s=>brD c2 (Jag .LtE x1 (.int 10) s) (.ok c2 s)).bind λx3 s=>(unop .Not x3 s).bind λx4 s=>brD x4 (.ok x4 s) ((Ja5 (.str t) (λe5 s=>((slice (.str "0123456789abcdef") D.none (.int 10) D.none s).bind λx6 s=>Jag .In e5 x6 s).bind λx7 s=>.ok (some x7) s) s).bind λx8 s=>(Jai (.builtin "all") [x8] s).bind λx9 s=>(unop .Not x9 s).bind λx10 s=>brD x10 (.ok x10 s) (((item (.str t) (.int 0) s).bind λx11 s=>(Jag .Eq x11 (.str "0") s).bind λx12 s=>brD x12 ((Jag .NotEq (.str t) (.str "0") s).bind λx13 s=>.ok x13 s) (.ok x12 s)).bind λx14 s=>.ok x14 s))
theorem w226(n:Nat)(i:Nat)(t:Str)(s:Jaa):cfn G (n+1) 226 [(.obj 236 i),(.str t)] s=(nT t s).bind λx15 s=>(brD x15 (if Jah G (.obj 236 i) "refuse" s=true then ((Jak G (cfn G n) ⟨114,12,114,33⟩ (.obj 236 i) "refuse" [(.str "number")] s).bind λx16 s=>Out.ok D.none s) else .bad) (.ok D.none s)).bind λ_ s=>(Jai (.type "int") [(.str t)] s).bind λx17 s=>.ok x17 s:=
 (Jbf rfl rfl).trans (by kernel_rfl)
theorem w233(n:Nat)(i:Nat)(t:Str)(s:Jaa):cfn G (n+1) 233 [(.obj 236 i),(.str t)] s=(cfn G n 155 [(.str t)] s).bind λx1 s=>(unop .Not x1 s).bind λx2 s=>(brD x2 (if Jah G (.obj 236 i) "refuse" s=true then ((Jak G (cfn G n) ⟨119,12,119,31⟩ (.obj 236 i) "refuse" [(.str "name")] s).bind λx3 s=>Out.ok D.none s) else .bad) (.ok D.none s)).bind λ_ s=>.ok (.str t) s:=
 (Jbf rfl rfl).trans (by kernel_rfl)
noncomputable def rm4(n i:Nat)(x1 x3 x9:D)(s:Jaa):Out D:=(item x1 (.int 2) s).bind λx10 s=>(cfn G n 155 [x10] s).bind λx11 s=>(unop .Not x11 s).bind λx12 s=>(brD x12 (if Jah G (.obj 236 i) "refuse" s=true then ((Jak G (cfn G n) ⟨128,8,128,29⟩ (.obj 236 i) "refuse" [(.str "kind")] s).bind λx13 s=>Out.ok D.none s) else .bad) (.ok D.none s)).bind λ_ s=>(item x1 (.int 2) s).bind λx14 s=>(item x9 (.int 0) s).bind λx15 s=>(item x9 (.int 1) s).bind λx16 s=>(item x9 (.int 2) s).bind λx17 s=>(cfn G n 85 [x3,x14,x15,x16,x17] s).bind λx18 s=>.ok x18 s
noncomputable def rm3(n i:Nat)(x1 x3:D)(s:Jaa):Out D:=(slice x1 (.int 3) D.none D.none s).bind λx6 s=>(Ja5 x6 (λe7 s=>if Jah G (.obj 236 i) "number" s=true then ((Jak G (cfn G n) ⟨126,14,126,33⟩ (.obj 236 i) "number" [e7] s).bind λx8 s=>.ok (some x8) s) else .bad) s).bind λx9 s=>rm4 n i x1 x3 x9 s
noncomputable def rm2(n i:Nat)(w x1 x3:D)(s:Jaa):Out D:=(Jag .In x3 w s).bind λx4 s=>(brD x4 (if Jah G (.obj 236 i) "refuse" s=true then ((Jak G (cfn G n) ⟨125,8,125,40⟩ (.obj 236 i) "refuse" [(.str "name told twice")] s).bind λx5 s=>Out.ok D.none s) else .bad) (.ok D.none s)).bind λ_ s=>rm3 n i x1 x3 s
noncomputable def rm1(n i:Nat)(w x1:D)(s:Jaa):Out D:=if Jah G (.obj 236 i) "name" s=true then ((item x1 (.int 1) s).bind λx2 s=>(Jak G (cfn G n) ⟨123,11,123,32⟩ (.obj 236 i) "name" [x2] s).bind λx3 s=>rm2 n i w x1 x3 s) else .bad
theorem w245(n:Nat)(i:Nat)(w:D)(s:Jaa):cfn G (n+1) 245 [(.obj 236 i),w] s=if Jah G (.obj 236 i) "take" s=true then ((Jak G (cfn G n) ⟨122,12,122,26⟩ (.obj 236 i) "take" [(.int 6)] s).bind λx1 s=>rm1 n i w x1 s) else .bad:=
 (Jbf rfl rfl).trans (by kernel_rfl)
noncomputable def roT(x2:D)(s:Jaa):Out D:=(Jai (.builtin "len") [x2] s).bind λx3 s=>((Jae .Mult (.int 2) (.int 8) s).bind λx4 s=>Jag .NotEq x3 x4 s).bind λx5 s=>brD x5 (.ok x5 s) ((Ja5 x2 (λe6 s=>(Jag .In e6 (.str "0123456789abcdef") s).bind λx7 s=>.ok (some x7) s) s).bind λx8 s=>(Jai (.builtin "all") [x8] s).bind λx9 s=>(unop .Not x9 s).bind λx10 s=>.ok x10 s)
noncomputable def roB(x2:D)(s:Jaa):Out D:=(Jai (.builtin "len") [x2] s).bind λx13 s=>(Jai (.type "range") [(.int 0),x13,(.int 2)] s).bind λx14 s=>(Ja5 x14 (λe15 s=>(Jae .Add e15 (.int 2) s).bind λx16 s=>(slice x2 e15 x16 D.none s).bind λx17 s=>(Jai (.type "int") [x17,(.int 16)] s).bind λx18 s=>.ok (some x18) s) s).bind λx19 s=>(Jai (.type "bytes") [x19] s).bind λx20 s=>.ok x20 s
noncomputable def ro1(n i:Nat)(x1:D)(s:Jaa):Out D:=(item x1 (.int 1) s).bind λx2 s=>(roT x2 s).bind λx11 s=>(brD x11 (if Jah G (.obj 236 i) "refuse" s=true then ((Jak G (cfn G n) ⟨133,8,133,31⟩ (.obj 236 i) "refuse" [(.str "octets")] s).bind λx12 s=>Out.ok D.none s) else .bad) (.ok D.none s)).bind λ_ s=>roB x2 s
theorem w250(n:Nat)(i:Nat)(s:Jaa):cfn G (n+1) 250 [(.obj 236 i)] s=if Jah G (.obj 236 i) "take" s=true then ((Jak G (cfn G n) ⟨131,14,131,28⟩ (.obj 236 i) "take" [(.int 2)] s).bind λx1 s=>ro1 n i x1 s) else .bad:=
 (Jbf rfl rfl).trans (by kernel_rfl)
noncomputable def rs3(n i:Nat)(a b x1 x3 x5:D)(s:Jaa):Out D:=((Ja5 a (λe6 s=>unp (tupT ["one","other"] e6 (seen20 ((((((V0.set "count" b).set "symbols" a).set "reader" (.obj 236 i)).set "words" x1).set "name" x3).set "slot" x5))) λV7=>ofk (V7 "one") s λx8 s=>.ok (some x8) s) s).bind λx9 s=>Jag .In x3 x9 s).bind λx10 s=>(brD x10 (if Jah G (.obj 236 i) "refuse" s=true then ((Jak G (cfn G n) ⟨139,8,139,40⟩ (.obj 236 i) "refuse" [(.str "name told twice")] s).bind λx11 s=>Out.ok D.none s) else .bad) (.ok D.none s)).bind λ_ s=>((Jag .GtE x5 b s).bind λx12 s=>brD x12 (.ok x12 s) (((Jag .NotEq a (.lst []) s).bind λx13 s=>brD x13 (((unop .USub (.int 1) s).bind λx14 s=>(item a x14 s).bind λx15 s=>(item x15 (.int 1) s).bind λx16 s=>Jag .LtE x5 x16 s).bind λx17 s=>.ok x17 s) (.ok x13 s)).bind λx18 s=>brD x18 (.ok x18 s) (((Jag .Eq a (.lst []) s).bind λx19 s=>brD x19 ((Jag .NotEq x5 (.int 0) s).bind λx20 s=>.ok x20 s) (.ok x19 s)).bind λx21 s=>.ok x21 s))).bind λx22 s=>(brD x22 (if Jah G (.obj 236 i) "refuse" s=true then ((Jak G (cfn G n) ⟨141,8,141,44⟩ (.obj 236 i) "refuse" [(.str "symbol out of order")] s).bind λx23 s=>Out.ok D.none s) else .bad) (.ok D.none s)).bind λ_ s=>.ok (.tup [x3,x5]) s
noncomputable def rs2(n i:Nat)(a b x1 x3:D)(s:Jaa):Out D:=if Jah G (.obj 236 i) "number" s=true then ((item x1 (.int 2) s).bind λx4 s=>(Jak G (cfn G n) ⟨137,41,137,64⟩ (.obj 236 i) "number" [x4] s).bind λx5 s=>rs3 n i a b x1 x3 x5 s) else .bad
noncomputable def rs1(n i:Nat)(a b x1:D)(s:Jaa):Out D:=if Jah G (.obj 236 i) "name" s=true then ((item x1 (.int 1) s).bind λx2 s=>(Jak G (cfn G n) ⟨137,18,137,39⟩ (.obj 236 i) "name" [x2] s).bind λx3 s=>rs2 n i a b x1 x3 s) else .bad
theorem w255(n:Nat)(i:Nat)(a b:D)(s:Jaa):cfn G (n+1) 255 [(.obj 236 i),a,b] s=if Jah G (.obj 236 i) "take" s=true then ((Jak G (cfn G n) ⟨136,12,136,26⟩ (.obj 236 i) "take" [(.int 3)] s).bind λx1 s=>rs1 n i a b x1 s) else .bad:=
 (Jbf rfl rfl).trans (by kernel_rfl)
noncomputable def rr4(n i:Nat)(a b x1 x3 x5:D)(s:Jaa):Out D:=((Jag .GtE x3 b s).bind λx9 s=>brD x9 (.ok x9 s) (((Jag .NotEq a (.lst []) s).bind λx10 s=>brD x10 (((unop .USub (.int 1) s).bind λx11 s=>(item a x11 s).bind λx12 s=>(item x12 (.int 0) s).bind λx13 s=>Jag .LtE x3 x13 s).bind λx14 s=>.ok x14 s) (.ok x10 s)).bind λx15 s=>.ok x15 s)).bind λx16 s=>(brD x16 (if Jah G (.obj 236 i) "refuse" s=true then ((Jak G (cfn G n) ⟨149,8,149,48⟩ (.obj 236 i) "refuse" [(.str "relocation out of order")] s).bind λx17 s=>Out.ok D.none s) else .bad) (.ok D.none s)).bind λ_ s=>(item x1 (.int 2) s).bind λx18 s=>.ok (.tup [x3,x18,x5]) s
noncomputable def rr3(n i:Nat)(a b x1 x3 x5:D)(s:Jaa):Out D:=(item x1 (.int 2) s).bind λx6 s=>(Jag .NotIn x6 (.tup [(.str "map"),(.str "call")]) s).bind λx7 s=>(brD x7 (if Jah G (.obj 236 i) "refuse" s=true then ((Jak G (cfn G n) ⟨147,8,147,35⟩ (.obj 236 i) "refuse" [(.str "relocation")] s).bind λx8 s=>Out.ok D.none s) else .bad) (.ok D.none s)).bind λ_ s=>rr4 n i a b x1 x3 x5 s
noncomputable def rr2(n i:Nat)(a b x1 x3:D)(s:Jaa):Out D:=if Jah G (.obj 236 i) "name" s=true then ((item x1 (.int 3) s).bind λx4 s=>(Jak G (cfn G n) ⟨145,43,145,64⟩ (.obj 236 i) "name" [x4] s).bind λx5 s=>rr3 n i a b x1 x3 x5 s) else .bad
noncomputable def rr1(n i:Nat)(a b x1:D)(s:Jaa):Out D:=if Jah G (.obj 236 i) "number" s=true then ((item x1 (.int 1) s).bind λx2 s=>(Jak G (cfn G n) ⟨145,18,145,41⟩ (.obj 236 i) "number" [x2] s).bind λx3 s=>rr2 n i a b x1 x3 s) else .bad
theorem w262(n:Nat)(i:Nat)(a b:D)(s:Jaa):cfn G (n+1) 262 [(.obj 236 i),a,b] s=if Jah G (.obj 236 i) "take" s=true then ((Jak G (cfn G n) ⟨144,12,144,26⟩ (.obj 236 i) "take" [(.int 4)] s).bind λx1 s=>rr1 n i a b x1 s) else .bad:=
 (Jbf rfl rfl).trans (by kernel_rfl)
noncomputable def rT(n:Nat)(p:Pos)(w:Str)(V:Jac)(s:Jaa):Out D:=ofk (V "reader") s λx10 s=>if Jah G x10 "is_next" s=true then ((Jak G (cfn G n) p x10 "is_next" [(.str w)] s).bind λx11 s=>.ok x11 s) else .bad
noncomputable def rM(n:Nat)(V12:Jac)(s:Jaa):Out (Jac×Fl):=ofk (V12 "maps") s λx13 s=>if Jah G x13 "append" s=true then (ofk (V12 "reader") s λx14 s=>ofk (V12 "maps") s λx15 s=>(Ja5 x15 (λe16 s=>(attr G.fld e16 "name" s).bind λx17 s=>.ok (some x17) s) s).bind λx18 s=>(cfn G n 245 [x14,x18] s).bind λx19 s=>(Jak G (cfn G n) ⟨156,8,156,65⟩ x13 "append" [x19] s).bind λx20 s=>.ok (V12,.next) s) else .bad
noncomputable def rS(n:Nat)(V26:Jac)(s:Jaa):Out (Jac×Fl):=ofk (V26 "octets") s λx27 s=>ofk (V26 "reader") s λx28 s=>(cfn G n 250 [x28] s).bind λx29 s=>(Jae .Add x27 x29 s).bind λx30 s=>.ok ((V26.set "octets" x30),.next) s
noncomputable def rY(n:Nat)(V36:Jac)(s:Jaa):Out (Jac×Fl):=ofk (V36 "symbols") s λx37 s=>if Jah G x37 "append" s=true then (ofk (V36 "reader") s λx38 s=>ofk (V36 "symbols") s λx39 s=>ofk (V36 "octets") s λx40 s=>(Jai (.builtin "len") [x40] s).bind λx41 s=>(Jae .FloorDiv x41 (.int 8) s).bind λx42 s=>(cfn G n 255 [x38,x39,x42] s).bind λx43 s=>(Jak G (cfn G n) ⟨160,8,160,79⟩ x37 "append" [x43] s).bind λx44 s=>.ok (V36,.next) s) else .bad
noncomputable def rR(n:Nat)(V50:Jac)(s:Jaa):Out (Jac×Fl):=ofk (V50 "relocations") s λx51 s=>if Jah G x51 "append" s=true then (ofk (V50 "reader") s λx52 s=>ofk (V50 "relocations") s λx53 s=>ofk (V50 "octets") s λx54 s=>(Jai (.builtin "len") [x54] s).bind λx55 s=>(Jae .FloorDiv x55 (.int 8) s).bind λx56 s=>(cfn G n 262 [x52,x53,x56] s).bind λx57 s=>(Jak G (cfn G n) ⟨162,8,162,91⟩ x51 "append" [x57] s).bind λx58 s=>.ok (V50,.next) s) else .bad
noncomputable def eE(n:Nat)(V:Jac)(s:Jaa):Out D:=ofk (V "maps") s λx92 s=>ofk (V "octets") s λx93 s=>ofk (V "symbols") s λx94 s=>ofk (V "relocations") s λx95 s=>(cfn G n 146 [x92,x93,x94,x95] s).bind λx96 s=>.ok x96 s
noncomputable def eD(n:Nat)(V:Jac)(s:Jaa):Out D:=ofk (V "reader") s λx83 s=>(attr G.fld x83 "lines" s).bind λx84 s=>ofk (V "reader") s λx85 s=>(attr G.fld x85 "at" s).bind λx86 s=>(Jae .Sub x86 (.int 1) s).bind λx87 s=>(slice x84 x87 D.none D.none s).bind λx88 s=>(Jag .NotEq x88 (.lst [(.str "")]) s).bind λx89 s=>brD x89 (ofk (V "reader") s λx90 s=>(attr G.fld x90 "at" s).bind λx91 s=>raised (.str "more behind the end") x91 s) (eE n V s)
noncomputable def eC(n:Nat)(V:Jac)(x65:D)(s:Jaa):Out D:=ofk (V "reader") s λx75 s=>if Jah G x75 "number" s=true then ((item x65 (.int 2) s).bind λx76 s=>(Jak G (cfn G n) ⟨166,7,166,30⟩ x75 "number" [x76] s).bind λx77 s=>(ofk (V "octets") s λx78 s=>(cfn G n 162 [x78] s).bind λx79 s=>Jag .NotEq x77 x79 s).bind λx80 s=>(brD x80 (ofk (V "reader") s λx81 s=>if Jah G x81 "refuse" s=true then ((Jak G (cfn G n) ⟨167,8,167,28⟩ x81 "refuse" [(.str "sum")] s).bind λx82 s=>Out.ok D.none s) else .bad) (.ok D.none s)).bind λ_ s=>eD n V s) else .bad
noncomputable def eB(n:Nat)(V:Jac)(x63 x65:D)(s:Jaa):Out D:=((item x65 (.int 0) s).bind λx66 s=>(Jag .NotEq x66 (.str "end") s).bind λx67 s=>brD x67 (.ok x67 s) (ofk (V "reader") s λx68 s=>if Jah G x68 "number" s=true then ((item x65 (.int 1) s).bind λx69 s=>(Jak G (cfn G n) ⟨164,28,164,51⟩ x68 "number" [x69] s).bind λx70 s=>(Jag .NotEq x70 x63 s).bind λx71 s=>.ok x71 s) else .bad)).bind λx72 s=>(brD x72 (ofk (V "reader") s λx73 s=>if Jah G x73 "refuse" s=true then ((Jak G (cfn G n) ⟨165,8,165,28⟩ x73 "refuse" [(.str "end")] s).bind λx74 s=>Out.ok D.none s) else .bad) (.ok D.none s)).bind λ_ s=>eC n V x65 s
noncomputable def eA(n:Nat)(V59:Jac)(s:Jaa):Out D:=ofk (V59 "reader") s λx61 s=>(attr G.fld x61 "at" s).bind λx62 s=>(Jae .Sub x62 (.int 1) s).bind λx63 s=>ofk (V59 "reader") s λx64 s=>if Jah G x64 "take" s=true then ((Jak G (cfn G n) ⟨163,35,163,49⟩ x64 "take" [(.int 3)] s).bind λx65 s=>eB n ((V59.set "count" x63).set "words" x65) x63 x65 s) else .bad
noncomputable def r4(n:Nat)(V:Jac)(s:Jaa):Out D:=(Jbh (rT n ⟨161,10,161,38⟩ "relocation") (rR n) G.turns V s).bind (kv (eA n) (λ_ d s=>.ok d s))
noncomputable def r3(n:Nat)(V:Jac)(s:Jaa):Out D:=(Jbh (rT n ⟨159,10,159,34⟩ "symbol") (rY n) G.turns V s).bind (kv (r4 n) (λ_ d s=>.ok d s))
noncomputable def r2(n:Nat)(V:Jac)(s:Jaa):Out D:=(Jbh (rT n ⟨157,10,157,32⟩ "slot") (rS n) G.turns V s).bind (kv (r3 n) (λ_ d s=>.ok d s))
noncomputable def r1(n:Nat)(V:Jac)(s:Jaa):Out D:=(Jbh (rT n ⟨155,10,155,31⟩ "map") (rM n) G.turns V s).bind (kv (r2 n) (λ_ d s=>.ok d s))
noncomputable def rH(n:Nat)(t:Str)(x1 x2 x3 x4 x5:D)(s:Jaa):Out D:=((Jbu false (.str "ringgate object 1") "split" [(.str " ")] s).bind λx6 s=>Jag .NotEq x5 x6 s).bind λx7 s=>(brD x7 (if Jah G x1 "refuse" s=true then ((Jak G (cfn G n) ⟨154,8,154,29⟩ x1 "refuse" [(.str "head")] s).bind λx8 s=>Out.ok D.none s) else .bad) (.ok D.none s)).bind λ_ s=>r1 n ((((((V0.set "text" (.str t)).set "reader" x1).set "maps" x2).set "octets" (.bytes #[])).set "symbols" x3).set "relocations" x4) s
theorem w267(n:Nat)(t:Str)(s:Jaa):cfn G (n+1) 267 [(.str t)] s=(cfn G n 236 [(.str t)] s).bind λx1 s=>(Out.ok (D.loc s.length) (s++[M.list []])).bind λx2 s=>(Out.ok (D.loc s.length) (s++[M.list []])).bind λx3 s=>(Out.ok (D.loc s.length) (s++[M.list []])).bind λx4 s=>if Jah G x1 "take" s=true then ((Jak G (cfn G n) ⟨153,7,153,21⟩ x1 "take" [(.int 3)] s).bind λx5 s=>rH n t x1 x2 x3 x4 x5 s) else .bad:=
 (Jbf rfl rfl).trans (by kernel_rfl)
noncomputable def nP(d3:D)(V2:Jac)(s:Jaa):Out (Jac×Fl):=ofk ((V2.set "cell" d3) "number") s λx4 s=>(Jae .Mult x4 (.int 1019) s).bind λx5 s=>(Jai (.type "int") [d3] s).bind λx6 s=>(Jai (.builtin "abs") [x6] s).bind λx7 s=>(Jae .Mult (.int 2) x7 s).bind λx8 s=>(Jag .Lt d3 (.int 0) s).bind λx9 s=>(Jai (.type "int") [x9] s).bind λx10 s=>(Jae .Add x8 x10 s).bind λx11 s=>(Jae .Pow (.int 10) (.int 40) s).bind λx12 s=>(Jae .Mod x11 x12 s).bind λx13 s=>(Jae .Add x5 x13 s).bind λx14 s=>.ok (((V2.set "cell" d3).set "number" x14),.next) s
theorem w274(n:Nat)(a:D)(s:Jaa):cfn G (n+1) 274 [a] s=(slice a D.none (.int 24) D.none s).bind λx1 s=>(Jfg x1 nP ((V0.set "script" a).set "number" (.int 13)) s).bind (kv (λV15 s=>ofk (V15 "number") s λx17 s=>(Out.ok (D.loc s.length) (s++[M.list [x17,(.int 0)]])).bind λx18 s=>.ok x18 s) λV15 d16 s=>.ok d16 s):=
 (Jbf rfl rfl).trans (by kernel_rfl)
noncomputable def dT(a b:D)(s:Jaa):Out D:=(item a (.int 0) s).bind λx13 s=>(Jae .Mod x13 b s).bind λx14 s=>(item a (.int 0) s).bind λx15 s=>(Jae .FloorDiv x15 b s).bind λx16 s=>(Ja7 a (.int 0) x16 s).bind λ_ s=>.ok x14 s
noncomputable def dQ(a b:D)(s:Jaa):Out D:=(item a (.int 1) s).bind λx5 s=>(Jae .Mult (.int 2038) x5 s).bind λx6 s=>(Jae .Add x6 (.int 7013) s).bind λx7 s=>(Jae .Pow x7 (.int 9) s).bind λx8 s=>(Ja7 a (.int 0) x8 s).bind λ_ s=>dT a b s
noncomputable def dP(a b:D)(s:Jaa):Out D:=(item a (.int 1) s).bind λx3 s=>(Jae .Add x3 (.int 1) s).bind λx4 s=>(Ja7 a (.int 1) x4 s).bind λ_ s=>dQ a b s
theorem w281(n:Nat)(a b:D)(s:Jaa):cfn G (n+1) 281 [a,b] s=(item a (.int 0) s).bind λx1 s=>(Jag .Eq x1 (.int 0) s).bind λx2 s=>brD x2 (dP a b s) (dT a b s):=
 (Jbf rfl rfl).trans (by kernel_rfl)
theorem w288(n:Nat)(a b:D)(s:Jaa):cfn G (n+1) 288 [a,b] s=(Jai (.builtin "len") [b] s).bind λx1 s=>(cfn G n 281 [a,x1] s).bind λx2 s=>(item b x2 s).bind λx3 s=>.ok x3 s:=
 (Jbf rfl rfl).trans (by kernel_rfl)
theorem w293(n:Nat)(a:D)(s:Jaa):cfn G (n+1) 293 [a] s=(Ja5 a (λe1 s=>(Jae .FloorDiv e1 (.int 16) s).bind λx2 s=>(item (.str "0123456789abcdef") x2 s).bind λx3 s=>(Jae .Mod e1 (.int 16) s).bind λx4 s=>(item (.str "0123456789abcdef") x4 s).bind λx5 s=>(Jae .Add x3 x5 s).bind λx6 s=>.ok (some x6) s) s).bind λx7 s=>(Jbu false (.str "") "join" [x7] s).bind λx8 s=>.ok x8 s:=
 (Jbf rfl rfl).trans (by kernel_rfl)
noncomputable def lM4(n:Nat)(V:Jac)(x10 x11 x13 x16 x19:D)(s:Jaa):Out (Jac×Fl):=ofk (V "pen") s λx20 s=>(Jae .Pow (.int 10) (.int 9) s).bind λx21 s=>(cfn G n 281 [x20,x21] s).bind λx22 s=>(Jai (.type "str") [x22] s).bind λx23 s=>(Jbu false (.str " ") "join" [(.lst [(.str "map"),x10,x13,x16,x19,x23])] s).bind λx24 s=>(Jak G (cfn G n) ⟨192,8,192,168⟩ x11 "append" [x24] s).bind λx25 s=>.ok (V,.next) s
noncomputable def lM3(n:Nat)(V:Jac)(x10 x11 x13:D)(s:Jaa):Out (Jac×Fl):=ofk (V "pen") s λx14 s=>(cfn G n 281 [x14,(.int 21)] s).bind λx15 s=>(Jai (.type "str") [x15] s).bind λx16 s=>ofk (V "pen") s λx17 s=>(cfn G n 281 [x17,(.int 400)] s).bind λx18 s=>(Jai (.type "str") [x18] s).bind λx19 s=>lM4 n V x10 x11 x13 x16 x19 s
noncomputable def lM2(n:Nat)(V:Jac)(x10:D)(s:Jaa):Out (Jac×Fl):=ofk (V "lines") s λx11 s=>if Jah G x11 "append" s=true then (ofk (V "pen") s λx12 s=>(cfn G n 288 [x12,(.lst [(.str "hash"),(.str "array"),(.str "odd")])] s).bind λx13 s=>lM3 n V x10 x11 x13 s) else .bad
noncomputable def lM(n:Nat)(d5:D)(V4:Jac)(s:Jaa):Out (Jac×Fl):=ofk ((V4.set "at" d5) "pen") s λx6 s=>(Jae .Mult (.str "z") (.int 14) s).bind λx7 s=>(cfn G n 288 [x6,(.lst [(.str "a"),(.str "b_1"),(.str "_"),x7])] s).bind λx8 s=>(item (.str "xy") d5 s).bind λx9 s=>(Jae .Add x8 x9 s).bind λx10 s=>lM2 n ((V4.set "at" d5).set "word" x10) x10 s
noncomputable def lS1(n:Nat)(V:Jac)(e35:D)(s:Jaa):Out (Option D):=ofk (V "pen") s λx36 s=>(cfn G n 281 [x36,(.int 256)] s).bind λx37 s=>.ok (some x37) s
noncomputable def lS2(n:Nat)(V:Jac)(x33 x38:D)(s:Jaa):Out (Jac×Fl):=(cfn G n 293 [x38] s).bind λx39 s=>(Jae .Add (.str "slot ") x39 s).bind λx40 s=>(Jak G (cfn G n) ⟨195,8,195,88⟩ x33 "append" [x40] s).bind λx41 s=>.ok (V,.next) s
noncomputable def lS(n:Nat)(d32:D)(V31:Jac)(s:Jaa):Out (Jac×Fl):=ofk ((V31.set "at" d32) "lines") s λx33 s=>if Jah G x33 "append" s=true then ((Jai (.type "range") [(.int 8)] s).bind λx34 s=>(Ja5 x34 (lS1 n (V31.set "at" d32)) s).bind λx38 s=>lS2 n (V31.set "at" d32) x33 x38 s) else .bad
noncomputable def lY2(n:Nat)(d50:D)(V:Jac)(x51 x54:D)(s:Jaa):Out (Jac×Fl):=(item (.str "uv") d50 s).bind λx55 s=>(Jae .Add x54 x55 s).bind λx56 s=>(Jae .Add x56 (.str " ") s).bind λx57 s=>(Jai (.type "str") [d50] s).bind λx58 s=>(Jae .Add x57 x58 s).bind λx59 s=>(Jak G (cfn G n) ⟨197,8,197,96⟩ x51 "append" [x59] s).bind λx60 s=>.ok (V,.next) s
noncomputable def lY(n:Nat)(d50:D)(V49:Jac)(s:Jaa):Out (Jac×Fl):=ofk ((V49.set "at" d50) "lines") s λx51 s=>if Jah G x51 "append" s=true then (ofk ((V49.set "at" d50) "pen") s λx52 s=>(cfn G n 288 [x52,(.lst [(.str "main"),(.str "f"),(.str "g9")])] s).bind λx53 s=>(Jae .Add (.str "symbol ") x53 s).bind λx54 s=>lY2 n d50 (V49.set "at" d50) x51 x54 s) else .bad
noncomputable def lR3(n:Nat)(V:Jac)(x70 x77:D)(s:Jaa):Out (Jac×Fl):=ofk (V "pen") s λx78 s=>(cfn G n 288 [x78,(.lst [(.str "ax"),(.str "mainu"),(.str "none")])] s).bind λx79 s=>(Jae .Add x77 x79 s).bind λx80 s=>(Jak G (cfn G n) ⟨199,8,199,133⟩ x70 "append" [x80] s).bind λx81 s=>.ok (V,.next) s
noncomputable def lR2(n:Nat)(V:Jac)(x70 x73:D)(s:Jaa):Out (Jac×Fl):=ofk (V "pen") s λx74 s=>(cfn G n 288 [x74,(.lst [(.str "map"),(.str "call")])] s).bind λx75 s=>(Jae .Add x73 x75 s).bind λx76 s=>(Jae .Add x76 (.str " ") s).bind λx77 s=>lR3 n V x70 x77 s
noncomputable def lR(n:Nat)(d69:D)(V68:Jac)(s:Jaa):Out (Jac×Fl):=ofk ((V68.set "at" d69) "lines") s λx70 s=>if Jah G x70 "append" s=true then ((Jai (.type "str") [d69] s).bind λx71 s=>(Jae .Add (.str "relocation ") x71 s).bind λx72 s=>(Jae .Add x72 (.str " ") s).bind λx73 s=>lR2 n (V68.set "at" d69) x70 x73 s) else .bad
noncomputable def l5(V:Jac)(s:Jaa):Out D:=ofk (V "lines") s λx84 s=>.ok x84 s
noncomputable def l4(n:Nat)(V:Jac)(s:Jaa):Out D:=ofk (V "pen") s λx63 s=>(cfn G n 281 [x63,(.int 3)] s).bind λx64 s=>ofk (V "count") s λx65 s=>(Jai (.builtin "min") [x64,x65] s).bind λx66 s=>(Jai (.type "range") [x66] s).bind λx67 s=>(Jfg x67 (lR n) V s).bind (kv l5 (λ_ d s=>.ok d s))
noncomputable def l3(n:Nat)(V:Jac)(s:Jaa):Out D:=ofk (V "pen") s λx44 s=>(cfn G n 281 [x44,(.int 3)] s).bind λx45 s=>ofk (V "count") s λx46 s=>(Jai (.builtin "min") [x45,x46] s).bind λx47 s=>(Jai (.type "range") [x47] s).bind λx48 s=>(Jfg x48 (lY n) V s).bind (kv (l4 n) (λ_ d s=>.ok d s))
noncomputable def l2(n:Nat)(V:Jac)(s:Jaa):Out D:=ofk (V "pen") s λx28 s=>(cfn G n 281 [x28,(.int 4)] s).bind λx29 s=>(Jai (.type "range") [x29] s).bind λx30 s=>(Jfg x30 (lS n) (V.set "count" x29) s).bind (kv (l3 n) (λ_ d s=>.ok d s))
noncomputable def l1(n:Nat)(V:Jac)(a:D)(s:Jaa):Out D:=(cfn G n 281 [a,(.int 3)] s).bind λx2 s=>(Jai (.type "range") [x2] s).bind λx3 s=>(Jfg x3 (lM n) V s).bind (kv (l2 n) (λ_ d s=>.ok d s))
theorem w298(n:Nat)(a:D)(s:Jaa):cfn G (n+1) 298 [a] s=(Out.ok (D.loc s.length) (s++[M.list [(.str "ringgate object 1")]])).bind λx1 s=>l1 n ((V0.set "pen" a).set "lines" x1) a s:=
 (Jbf rfl rfl).trans (by kernel_rfl)
theorem w303(n:Nat)(t:Str)(s:Jaa):cfn G (n+1) 303 [(.str t)] s=((Jai (.builtin "len") [(.str t)] s).bind λx1 s=>(Jag .Eq x1 (.int 16) s).bind λx2 s=>brD x2 ((Ja5 (.str t) (λe3 s=>((Jag .NotIn e3 (.str "0123456789abcdef") s).bind λx5 s=>Out.of (Jb7 x5) s).bind λb4 s=>if b4=true then .ok (some e3) s else .ok none s) s).bind λx6 s=>(Jag .Eq x6 (.lst []) s).bind λx7 s=>.ok x7 s) (.ok x2 s)).bind λx8 s=>.ok x8 s:=
 (Jbf rfl rfl).trans (by kernel_rfl)
noncomputable def pC(V:Jac)(x15 x26:D)(s:Jaa):Out (Jac×Fl):=ofk (V "total") s λx27 s=>(Jae .Mult x15 x26 s).bind λx28 s=>(Jae .Add x27 x28 s).bind λx29 s=>(Jae .Pow (.int 2) (.int 32) s).bind λx30 s=>(Jae .Mod x29 x30 s).bind λx31 s=>.ok ((V.set "total" x31),.next) s
noncomputable def pD(d13:D)(V:Jac)(x15:D)(s:Jaa):Out (Jac×Fl):=ofk (V "words") s λx16 s=>(item x16 (.int 1) s).bind λx17 s=>(item x17 d13 s).bind λx18 s=>(Jbu false (.str "0123456789abcdef") "find" [x18] s).bind λx19 s=>(Jae .Mult (.int 16) x19 s).bind λx20 s=>ofk (V "words") s λx21 s=>(item x21 (.int 1) s).bind λx22 s=>(Jae .Add d13 (.int 1) s).bind λx23 s=>(item x22 x23 s).bind λx24 s=>(Jbu false (.str "0123456789abcdef") "find" [x24] s).bind λx25 s=>(Jae .Add x20 x25 s).bind λx26 s=>pC (V.set "octet" x26) x15 x26 s
noncomputable def pB(d13:D)(V12:Jac)(s:Jaa):Out (Jac×Fl):=ofk ((V12.set "spot" d13) "place") s λx14 s=>(Jae .Add x14 (.int 1) s).bind λx15 s=>pD d13 ((V12.set "spot" d13).set "place" x15) x15 s
noncomputable def pE(V:Jac)(s:Jaa):Out (Jac×Fl):=(Jai (.type "range") [(.int 0),(.int 16),(.int 2)] s).bind λx11 s=>(Jfg x11 pB V s).bind (kv okN okR)
noncomputable def pT(n:Nat)(x3:D)(s:Jaa):Out D:=(item x3 (.int 0) s).bind λx4 s=>(Jag .Eq x4 (.str "slot") s).bind λx5 s=>brD x5 ((Jai (.builtin "len") [x3] s).bind λx6 s=>(Jag .Eq x6 (.int 2) s).bind λx7 s=>brD x7 ((item x3 (.int 1) s).bind λx8 s=>(cfn G n 303 [x8] s).bind λx9 s=>.ok x9 s) (.ok x7 s)) (.ok x5 s)
noncomputable def pA(n:Nat)(d2:D)(V1:Jac)(s:Jaa):Out (Jac×Fl):=if Jah G d2 "split" s=true then ((Jak G (cfn G n) ⟨206,16,206,31⟩ d2 "split" [(.str " ")] s).bind λx3 s=>(pT n x3 s).bind λx10 s=>brD x10 (pE ((V1.set "line" d2).set "words" x3) s) (.ok (((V1.set "line" d2).set "words" x3),.next) s)) else .bad
theorem w310(n:Nat)(a:D)(s:Jaa):cfn G (n+1) 310 [a] s=(Jfg a (pA n) (((V0.set "lines" a).set "total" (.int 0)).set "place" (.int 0)) s).bind (kv (λV34 s=>ofk (V34 "total") s λx36 s=>.ok x36 s) λV34 d35 s=>.ok d35 s):=
 (Jbf rfl rfl).trans (by kernel_rfl)
theorem w317(n:Nat)(a:D)(s:Jaa):cfn G (n+1) 317 [a] s=(Jai (.builtin "len") [a] s).bind λx1 s=>(Jai (.type "str") [x1] s).bind λx2 s=>(Jae .Add (.str "end ") x2 s).bind λx3 s=>(Jae .Add x3 (.str " ") s).bind λx4 s=>(cfn G n 310 [a] s).bind λx5 s=>(Jai (.type "str") [x5] s).bind λx6 s=>(Jae .Add x4 x6 s).bind λx7 s=>.ok x7 s:=
 (Jbf rfl rfl).trans (by kernel_rfl)
noncomputable def bT(b x2 x8:D)(s:Jaa):Out D:=(slice b D.none x2 D.none s).bind λx37 s=>(Jbu false (.str " ") "join" [x8] s).bind λx38 s=>(Jae .Add x37 (.lst [x38]) s).bind λx39 s=>(Jae .Add x2 (.int 1) s).bind λx40 s=>(slice b x40 D.none D.none s).bind λx41 s=>(Jae .Add x39 x41 s).bind λx42 s=>.ok x42 s
noncomputable def fb0(b:D)(x2:D)(s:Jaa):Out D:=(slice b D.none x2 D.none s).bind λx13 s=>(item b x2 s).bind λx14 s=>(Jae .Add x13 (.lst [x14]) s).bind λx15 s=>(slice b x2 D.none D.none s).bind λx16 s=>(Jae .Add x15 x16 s).bind λx17 s=>.ok x17 s
noncomputable def fb1(b:D)(x2:D)(s:Jaa):Out D:=(Jai (.builtin "len") [b] s).bind λx19 s=>(Jag .Gt x19 (.int 1) s).bind λx20 s=>(brD x20 ((slice b D.none x2 D.none s).bind λx21 s=>(Jae .Add x2 (.int 1) s).bind λx22 s=>(slice b x22 D.none D.none s).bind λx23 s=>(Jae .Add x21 x23 s).bind λx24 s=>.ok x24 s) (.ok b s)).bind λx25 s=>.ok x25 s
noncomputable def fb2(b:D)(x2:D)(s:Jaa):Out D:=(slice b D.none x2 D.none s).bind λx27 s=>(Jae .Add x2 (.int 2) s).bind λx28 s=>(slice b x2 x28 D.none s).bind λx29 s=>(unop .USub (.int 1) s).bind λx30 s=>(slice x29 D.none D.none x30 s).bind λx31 s=>(Jae .Add x27 x31 s).bind λx32 s=>(Jae .Add x2 (.int 2) s).bind λx33 s=>(slice b x33 D.none D.none s).bind λx34 s=>(Jae .Add x32 x34 s).bind λx35 s=>.ok x35 s
noncomputable def fb3(x8:D)(x10:D)(x11:D)(b:D)(x2:D)(s:Jaa):Out D:=(Ja7 x8 x10 x11 s).bind λ_ s=>bT b x2 x8 s
noncomputable def fb4(n:Nat)(x8:D)(x10:D)(x11:D)(b:D)(x2:D)(s:Jaa):Out D:=if Jah G x8 "insert" s=true then ((Jak G (cfn G n) ⟨229,8,229,32⟩ x8 "insert" [x10,x11] s).bind λx44 s=>bT b x2 x8 s) else .bad
noncomputable def fb5(n:Nat)(x8:D)(x10:D)(b:D)(x2:D)(s:Jaa):Out D:=if Jah G x8 "pop" s=true then ((Jak G (cfn G n) ⟨231,8,231,23⟩ x8 "pop" [x10] s).bind λx52 s=>bT b x2 x8 s) else .bad
noncomputable def fb6(x8:D)(x10:D)(b:D)(x2:D)(s:Jaa):Out D:=(item x8 x10 s).bind λx60 s=>(Jae .Add x60 (.str " ") s).bind λx61 s=>(Ja7 x8 x10 x61 s).bind λ_ s=>bT b x2 x8 s
noncomputable def fb7(n:Nat)(x8:D)(x10:D)(a:D)(b:D)(x2:D)(s:Jaa):Out D:=(item x8 x10 s).bind λx69 s=>(unop .USub (.int 1) s).bind λx70 s=>(slice x69 D.none x70 D.none s).bind λx71 s=>(cfn G n 288 [a,(.lst [(.str "0"),(.str "1"),(.str "f"),(.str "g"),(.str "_"),(.str "Z")])] s).bind λx72 s=>(Jae .Add x71 x72 s).bind λx73 s=>(Ja7 x8 x10 x73 s).bind λ_ s=>bT b x2 x8 s
noncomputable def fb8(n:Nat)(b:D)(x2:D)(a:D)(s:Jaa):Out D:=(slice b D.none x2 D.none s).bind λx80 s=>(cfn G n 288 [a,(.lst [(.str "map q hash 1 1 1"),(.str "slot 0000000000000001"),(.str "symbol w 2"),(.str "relocation 2 map q"),(.str "end 1 0"),(.str "")])] s).bind λx81 s=>(Jae .Add x80 (.lst [x81]) s).bind λx82 s=>(slice b x2 D.none D.none s).bind λx83 s=>(Jae .Add x82 x83 s).bind λx84 s=>.ok x84 s
noncomputable def chain(x:D)(s:Jaa):Nat->List (Jaa->Out D)->Out D
 |_,[]=>.bad
 |_,[f]=>f s
 |j,f::g::r=>(Jag .Eq x (.int (j:Int)) s).bind λc s=>brD c (f s) (chain x s (j+1) (g::r))
theorem w324(n:Nat)(a b:D)(s:Jaa):cfn G (n+1) 324 [a,b] s=(Jai (.builtin "len") [b] s).bind λx1 s=>(cfn G n 281 [a,x1] s).bind λx2 s=>(cfn G n 281 [a,(.int 9)] s).bind λx3 s=>(Jae .Mult (.str "x") (.int 16) s).bind λx4 s=>(Jae .Mult (.str "x") (.int 15) s).bind λx5 s=>(Jae .Mult (.str "ff") (.int 8) s).bind λx6 s=>(item b x2 s).bind λx7 s=>if Jah G x7 "split" s=true then ((Jak G (cfn G n) ⟨218,12,218,32⟩ x7 "split" [(.str " ")] s).bind λx8 s=>(Jai (.builtin "len") [x8] s).bind λx9 s=>(cfn G n 281 [a,x9] s).bind λx10 s=>(cfn G n 288 [a,(.lst [(.str ""),(.str "0"),(.str "00"),(.str "7"),(.str "12345678901"),(.str "9999999999"),(.str "end"),(.str "map"),(.str "slot"),(.str "symbol"),(.str "call"),(.str "A"),x4,x5,(.str "9a"),(.str "_"),x6,(.str "-1"),(.str "mainu")])] s).bind λx11 s=>chain x3 s 0 [fb0 b x2,fb1 b x2,fb2 b x2,fb3 x8 x10 x11 b x2,fb4 n x8 x10 x11 b x2,fb5 n x8 x10 b x2,fb6 x8 x10 b x2,fb7 n x8 x10 a b x2,fb8 n b x2 a]) else .bad:=
 (Jbf rfl rfl).trans (by kernel_rfl)
theorem w329(n:Nat)(t:Str)(s:Jaa):cfn G (n+1) 329 [(.str t)] s=((Jag .Eq (.str t) (.str "") s).bind λx1 s=>brD x1 (.ok x1 s) ((Jai (.builtin "len") [(.str t)] s).bind λx2 s=>(Jag .Gt x2 (.int 15) s).bind λx3 s=>brD x3 (.ok x3 s) ((item (.str t) (.int 0) s).bind λx4 s=>(Jag .In x4 (.str "0123456789") s).bind λx5 s=>.ok x5 s))).bind λx6 s=>brD x6 (.ok (.bool false) s) ((Ja5 (.str t) (λe7 s=>((Jag .NotIn e7 (.str "abcdefghijklmnopqrstuvwxyz0123456789_") s).bind λx9 s=>Out.of (Jb7 x9) s).bind λb8 s=>if b8=true then .ok (some e7) s else .ok none s) s).bind λx10 s=>(Jag .Eq x10 (.lst []) s).bind λx11 s=>.ok x11 s):=
 (Jbf rfl rfl).trans (by kernel_rfl)
theorem w334(n:Nat)(t:Str)(s:Jaa):cfn G (n+1) 334 [(.str t)] s=((Jag .Eq (.str t) (.str "") s).bind λx1 s=>brD x1 (.ok x1 s) ((Jai (.builtin "len") [(.str t)] s).bind λx2 s=>(Jag .Gt x2 (.int 10) s).bind λx3 s=>brD x3 (.ok x3 s) ((Ja5 (.str t) (λe4 s=>((Jag .NotIn e4 (.str "0123456789") s).bind λx6 s=>Out.of (Jb7 x6) s).bind λb5 s=>if b5=true then .ok (some e4) s else .ok none s) s).bind λx7 s=>(Jag .NotEq x7 (.lst []) s).bind λx8 s=>brD x8 (.ok x8 s) (((item (.str t) (.int 0) s).bind λx9 s=>(Jag .Eq x9 (.str "0") s).bind λx10 s=>brD x10 ((Jag .NotEq (.str t) (.str "0") s).bind λx11 s=>.ok x11 s) (.ok x10 s)).bind λx12 s=>.ok x12 s)))).bind λx13 s=>brD x13 ((unop .USub (.int 1) s).bind λx14 s=>.ok x14 s) ((Jfg (.str t) (λd16 V15 s=>ofk ((V15.set "sign" d16) "total") s λx17 s=>(Jae .Mult (.int 10) x17 s).bind λx18 s=>(Jbu false (.str "0123456789") "find" [d16] s).bind λx19 s=>(Jae .Add x18 x19 s).bind λx20 s=>.ok (((V15.set "sign" d16).set "total" x20),.next) s) ((V0.set "word" (.str t)).set "total" (.int 0)) s).bind (kv (λV21 s=>ofk (V21 "total") s λx23 s=>.ok x23 s) λV21 d22 s=>.ok d22 s)):=
 (Jbf rfl rfl).trans (by kernel_rfl)
noncomputable def m5(n:Nat)(a b x15:D)(s:Jaa):Out D:=(item b (.str "maps") s).bind λx21 s=>if Jah G x21 "append" s=true then ((item a (.int 1) s).bind λx22 s=>(item a (.int 2) s).bind λx23 s=>(item x15 (.int 0) s).bind λx24 s=>(item x15 (.int 1) s).bind λx25 s=>(item x15 (.int 2) s).bind λx26 s=>(Jak G (cfn G n) ⟨262,4,262,78⟩ x21 "append" [(.tup [x22,x23,x24,x25,x26])] s).bind λx27 s=>.ok (.str "") s) else .bad
noncomputable def m4(n:Nat)(a b x15:D)(s:Jaa):Out D:=(item a (.int 2) s).bind λx18 s=>(cfn G n 329 [x18] s).bind λx19 s=>(unop .Not x19 s).bind λx20 s=>brD x20 (.ok (.str "kind") s) (m5 n a b x15 s)
noncomputable def m3(n:Nat)(a b:D)(s:Jaa):Out D:=(slice a (.int 3) D.none D.none s).bind λx12 s=>(Ja5 x12 (λe13 s=>(cfn G n 334 [e13] s).bind λx14 s=>.ok (some x14) s) s).bind λx15 s=>(Jai (.builtin "min") [x15] s).bind λx16 s=>(Jag .Lt x16 (.int 0) s).bind λx17 s=>brD x17 (.ok (.str "number") s) (m4 n a b x15 s)
noncomputable def m2(n:Nat)(a b:D)(s:Jaa):Out D:=(item a (.int 1) s).bind λx6 s=>((item b (.str "maps") s).bind λx7 s=>(Ja5 x7 (λe8 s=>(item e8 (.int 0) s).bind λx9 s=>.ok (some x9) s) s).bind λx10 s=>Jag .In x6 x10 s).bind λx11 s=>brD x11 (.ok (.str "name told twice") s) (m3 n a b s)
noncomputable def m1(n:Nat)(a b:D)(s:Jaa):Out D:=(item a (.int 1) s).bind λx3 s=>(cfn G n 329 [x3] s).bind λx4 s=>(unop .Not x4 s).bind λx5 s=>brD x5 (.ok (.str "name") s) (m2 n a b s)
theorem w339(n:Nat)(a b:D)(s:Jaa):cfn G (n+1) 339 [a,b] s=(Jai (.builtin "len") [a] s).bind λx1 s=>(Jag .NotEq x1 (.int 6) s).bind λx2 s=>brD x2 (.ok (.str "words") s) (m1 n a b s):=
 (Jbf rfl rfl).trans (by kernel_rfl)
theorem w346(n:Nat)(a b:D)(s:Jaa):cfn G (n+1) 346 [a,b] s=(Jai (.builtin "len") [a] s).bind λx1 s=>(Jag .NotEq x1 (.int 2) s).bind λx2 s=>brD x2 (.ok (.str "words") s) ((item a (.int 1) s).bind λx3 s=>(cfn G n 303 [x3] s).bind λx4 s=>(unop .Not x4 s).bind λx5 s=>brD x5 (.ok (.str "octets") s) ((item b (.str "figures") s).bind λx6 s=>(item a (.int 1) s).bind λx7 s=>(Jae .Add x6 x7 s).bind λx8 s=>(Ja7 b (.str "figures") x8 s).bind λ_ s=>.ok (.str "") s)):=
 (Jbf rfl rfl).trans (by kernel_rfl)
noncomputable def y5(n:Nat)(a x7 x8:D)(s:Jaa):Out D:=if Jah G x8 "append" s=true then ((item a (.int 1) s).bind λx27 s=>(Jak G (cfn G n) ⟨283,4,283,33⟩ x8 "append" [(.tup [x27,x7])] s).bind λx28 s=>.ok (.str "") s) else .bad
noncomputable def yO(b x7 x8:D)(s:Jaa):Out D:=(Jae .Mult (.int 16) x7 s).bind λx15 s=>((item b (.str "figures") s).bind λx16 s=>(Jai (.builtin "len") [x16] s).bind λx17 s=>Jag .GtE x15 x17 s).bind λx18 s=>brD x18 (.ok x18 s) ((Jag .Eq x8 (.lst []) s).bind λx19 s=>(brD x19 ((Jag .NotEq x7 (.int 0) s).bind λx20 s=>.ok x20 s) (((unop .USub (.int 1) s).bind λx21 s=>(item x8 x21 s).bind λx22 s=>(item x22 (.int 1) s).bind λx23 s=>Jag .LtE x7 x23 s).bind λx24 s=>.ok x24 s)).bind λx25 s=>.ok x25 s)
noncomputable def y4(n:Nat)(a b x7 x8:D)(s:Jaa):Out D:=(yO b x7 x8 s).bind λx26 s=>brD x26 (.ok (.str "symbol out of order") s) (y5 n a x7 x8 s)
noncomputable def y3(n:Nat)(a b x7 x8:D)(s:Jaa):Out D:=(item a (.int 1) s).bind λx10 s=>((Ja5 x8 (λe11 s=>(item e11 (.int 0) s).bind λx12 s=>.ok (some x12) s) s).bind λx13 s=>Jag .In x10 x13 s).bind λx14 s=>brD x14 (.ok (.str "name told twice") s) (y4 n a b x7 x8 s)
noncomputable def y2(n:Nat)(a b:D)(s:Jaa):Out D:=(item a (.int 2) s).bind λx6 s=>(cfn G n 334 [x6] s).bind λx7 s=>(item b (.str "symbols") s).bind λx8 s=>(Jag .Lt x7 (.int 0) s).bind λx9 s=>brD x9 (.ok (.str "number") s) (y3 n a b x7 x8 s)
noncomputable def y1(n:Nat)(a b:D)(s:Jaa):Out D:=(item a (.int 1) s).bind λx3 s=>(cfn G n 329 [x3] s).bind λx4 s=>(unop .Not x4 s).bind λx5 s=>brD x5 (.ok (.str "name") s) (y2 n a b s)
theorem w351(n:Nat)(a b:D)(s:Jaa):cfn G (n+1) 351 [a,b] s=(Jai (.builtin "len") [a] s).bind λx1 s=>(Jag .NotEq x1 (.int 3) s).bind λx2 s=>brD x2 (.ok (.str "words") s) (y1 n a b s):=
 (Jbf rfl rfl).trans (by kernel_rfl)
noncomputable def z5(n:Nat)(a x4 x5:D)(s:Jaa):Out D:=if Jah G x5 "append" s=true then ((item a (.int 2) s).bind λx23 s=>(item a (.int 3) s).bind λx24 s=>(Jak G (cfn G n) ⟨297,4,297,43⟩ x5 "append" [(.tup [x4,x23,x24])] s).bind λx25 s=>.ok (.str "") s) else .bad
noncomputable def zO(b x4 x5:D)(s:Jaa):Out D:=(Jae .Mult (.int 16) x4 s).bind λx12 s=>((item b (.str "figures") s).bind λx13 s=>(Jai (.builtin "len") [x13] s).bind λx14 s=>Jag .GtE x12 x14 s).bind λx15 s=>brD x15 (.ok x15 s) (((Jag .NotEq x5 (.lst []) s).bind λx16 s=>brD x16 (((unop .USub (.int 1) s).bind λx17 s=>(item x5 x17 s).bind λx18 s=>(item x18 (.int 0) s).bind λx19 s=>Jag .LtE x4 x19 s).bind λx20 s=>.ok x20 s) (.ok x16 s)).bind λx21 s=>.ok x21 s)
noncomputable def z4(n:Nat)(a b x4 x5:D)(s:Jaa):Out D:=(zO b x4 x5 s).bind λx22 s=>brD x22 (.ok (.str "relocation out of order") s) (z5 n a x4 x5 s)
noncomputable def z2(n:Nat)(a b x4 x5:D)(s:Jaa):Out D:=(item a (.int 2) s).bind λx10 s=>(Jag .NotIn x10 (.tup [(.str "map"),(.str "call")]) s).bind λx11 s=>brD x11 (.ok (.str "relocation") s) (z4 n a b x4 x5 s)
noncomputable def z1(n:Nat)(a b x4 x5:D)(s:Jaa):Out D:=(item a (.int 3) s).bind λx7 s=>(cfn G n 329 [x7] s).bind λx8 s=>(unop .Not x8 s).bind λx9 s=>brD x9 (.ok (.str "name") s) (z2 n a b x4 x5 s)
noncomputable def z0(n:Nat)(a b:D)(s:Jaa):Out D:=(item a (.int 1) s).bind λx3 s=>(cfn G n 334 [x3] s).bind λx4 s=>(item b (.str "relocations") s).bind λx5 s=>(Jag .Lt x4 (.int 0) s).bind λx6 s=>brD x6 (.ok (.str "number") s) (z1 n a b x4 x5 s)
theorem w358(n:Nat)(a b:D)(s:Jaa):cfn G (n+1) 358 [a,b] s=(Jai (.builtin "len") [a] s).bind λx1 s=>(Jag .NotEq x1 (.int 4) s).bind λx2 s=>brD x2 (.ok (.str "words") s) (z0 n a b s):=
 (Jbf rfl rfl).trans (by kernel_rfl)
noncomputable def lerr(w:Str)(c:D)(s:Jaa):Out D:=(Jae .Add c (.int 1) s).bind λx s=>.ok (.tup [.str w,x]) s
noncomputable def u6(b c:D)(s:Jaa):Out D:=(Jae .Add c (.int 1) s).bind λx25 s=>(slice b x25 D.none D.none s).bind λx26 s=>(Jag .Eq x26 (.lst [(.str "")]) s).bind λx27 s=>(brD x27 (.ok D.none s) ((Jae .Add c (.int 2) s).bind λx28 s=>.ok (.tup [(.str "more behind the end"),x28]) s)).bind λx29 s=>.ok x29 s
noncomputable def u5(n:Nat)(a b c:D)(s:Jaa):Out D:=(item a (.int 2) s).bind λx19 s=>(cfn G n 334 [x19] s).bind λx20 s=>((slice b D.none c D.none s).bind λx21 s=>(cfn G n 310 [x21] s).bind λx22 s=>Jag .NotEq x20 x22 s).bind λx23 s=>brD x23 (lerr "sum" c s) (u6 b c s)
noncomputable def u4(n:Nat)(a b c:D)(s:Jaa):Out D:=(item a (.int 2) s).bind λx15 s=>(cfn G n 334 [x15] s).bind λx16 s=>(Jag .Lt x16 (.int 0) s).bind λx17 s=>brD x17 (lerr "number" c s) (u5 n a b c s)
noncomputable def u3(n:Nat)(a b c:D)(s:Jaa):Out D:=(item a (.int 1) s).bind λx11 s=>(cfn G n 334 [x11] s).bind λx12 s=>(Jag .NotEq x12 c s).bind λx13 s=>brD x13 (lerr "end" c s) (u4 n a b c s)
noncomputable def u2(n:Nat)(a b c:D)(s:Jaa):Out D:=(item a (.int 1) s).bind λx7 s=>(cfn G n 334 [x7] s).bind λx8 s=>(Jag .Lt x8 (.int 0) s).bind λx9 s=>brD x9 (lerr "number" c s) (u3 n a b c s)
noncomputable def u1(n:Nat)(a b c:D)(s:Jaa):Out D:=(item a (.int 0) s).bind λx4 s=>(Jag .NotEq x4 (.str "end") s).bind λx5 s=>brD x5 (lerr "end" c s) (u2 n a b c s)
theorem w365(n:Nat)(a b c:D)(s:Jaa):cfn G (n+1) 365 [a,b,c] s=(Jai (.builtin "len") [a] s).bind λx1 s=>(Jag .NotEq x1 (.int 3) s).bind λx2 s=>brD x2 (lerr "words" c s) (u1 n a b c s):=
 (Jbf rfl rfl).trans (by kernel_rfl)
noncomputable def vT(n:Nat)(V16:Jac)(s:Jaa):Out D:=(ofk (V16 "at") s λx17 s=>(ofk (V16 "lines") s λx18 s=>(Jai (.builtin "len") [x18] s).bind λx19 s=>Jag .Lt x17 x19 s).bind λx20 s=>brD x20 (ofk (V16 "lines") s λx21 s=>ofk (V16 "at") s λx22 s=>(item x21 x22 s).bind λx23 s=>if Jah G x23 "split" s=true then ((Jak G (cfn G n) ⟨318,34,318,54⟩ x23 "split" [(.str " ")] s).bind λx24 s=>(item x24 (.int 0) s).bind λx25 s=>(ofk (V16 "sort") s λx26 s=>Jag .Eq x25 x26 s).bind λx27 s=>.ok x27 s) else .bad) (.ok x20 s)).bind λx28 s=>.ok x28 s
noncomputable def vB(n:Nat)(V29:Jac)(s:Jaa):Out (Jac×Fl):=ofk (V29 "deed") s λx30 s=>ofk (V29 "lines") s λx31 s=>ofk (V29 "at") s λx32 s=>(item x31 x32 s).bind λx33 s=>if Jah G x33 "split" s=true then ((Jak G (cfn G n) ⟨319,25,319,45⟩ x33 "split" [(.str " ")] s).bind λx34 s=>ofk (V29 "held") s λx35 s=>(Jlu (cfn G n) x30 [x34,x35] s).bind λx36 s=>(Jag .NotEq x36 (.str "") s).bind λx37 s=>brD x37 (ofk ((V29.set "wrong" x36) "at") s λx38 s=>(Jae .Add x38 (.int 1) s).bind λx39 s=>.ok ((V29.set "wrong" x36),.ret (.tup [x36,x39])) s) (ofk ((V29.set "wrong" x36) "at") s λx40 s=>(Jae .Add x40 (.int 1) s).bind λx41 s=>.ok (((V29.set "wrong" x36).set "at" x41),.next) s)) else .bad
noncomputable def vA(V42:Jac)(s:Jaa):Out (Jac×Fl):=ofk (V42 "at") s λx44 s=>(ofk (V42 "lines") s λx45 s=>(Jai (.builtin "len") [x45] s).bind λx46 s=>Jag .Eq x44 x46 s).bind λx47 s=>brD x47 (ofk (V42 "at") s λx48 s=>(Jae .Add x48 (.int 1) s).bind λx49 s=>.ok (V42,.ret (.tup [(.str "a line lacks"),x49])) s) (.ok (V42,.next) s)
noncomputable def vL(n:Nat)(V15:Jac)(s:Jaa):Out (Jac×Fl):=(Jbh (vT n) (vB n) G.turns V15 s).bind (kv vA okR)
noncomputable def vS(n:Nat)(d14:D)(V13:Jac)(s:Jaa):Out (Jac×Fl):=unp (tupT ["sort","deed"] d14 V13) λV15=>vL n V15 s
noncomputable def c4(V:Jac)(x76:D)(s:Jaa):Out D:=ofk (V "held") s λx77 s=>(item x77 (.str "maps") s).bind λx78 s=>(Jai (.type "tuple") [x78] s).bind λx79 s=>(Jai (.type "bytes") [x76] s).bind λx80 s=>ofk (V "held") s λx81 s=>(item x81 (.str "symbols") s).bind λx82 s=>(Jai (.type "tuple") [x82] s).bind λx83 s=>ofk (V "held") s λx84 s=>(item x84 (.str "relocations") s).bind λx85 s=>(Jai (.type "tuple") [x85] s).bind λx86 s=>.ok (.tup [x79,x80,x83,x86]) s
noncomputable def cE(V:Jac)(e64:D)(s:Jaa):Out (Option D):=ofk (V "held") s λx65 s=>(item x65 (.str "figures") s).bind λx66 s=>(item x66 e64 s).bind λx67 s=>(Jbu false (.str "0123456789abcdef") "find" [x67] s).bind λx68 s=>(Jae .Mult (.int 16) x68 s).bind λx69 s=>ofk (V "held") s λx70 s=>(item x70 (.str "figures") s).bind λx71 s=>(Jae .Add e64 (.int 1) s).bind λx72 s=>(item x71 x72 s).bind λx73 s=>(Jbu false (.str "0123456789abcdef") "find" [x73] s).bind λx74 s=>(Jae .Add x69 x74 s).bind λx75 s=>.ok (some x75) s
noncomputable def c3(V:Jac)(s:Jaa):Out D:=ofk (V "held") s λx60 s=>(item x60 (.str "figures") s).bind λx61 s=>(Jai (.builtin "len") [x61] s).bind λx62 s=>(Jai (.type "range") [(.int 0),x62,(.int 2)] s).bind λx63 s=>(Ja5 x63 (cE V) s).bind λx76 s=>c4 (V.set "octets" x76) x76 s
noncomputable def c2(n:Nat)(V:Jac)(x58:D)(s:Jaa):Out D:=(Jag .IsNot x58 D.none s).bind λx59 s=>brD x59 (.ok x58 s) (c3 (V.set "wrong" x58) s)
noncomputable def c1(n:Nat)(V50:Jac)(s:Jaa):Out D:=ofk (V50 "lines") s λx52 s=>ofk (V50 "at") s λx53 s=>(item x52 x53 s).bind λx54 s=>if Jah G x54 "split" s=true then ((Jak G (cfn G n) ⟨325,27,325,47⟩ x54 "split" [(.str " ")] s).bind λx55 s=>ofk (V50 "lines") s λx56 s=>ofk (V50 "at") s λx57 s=>(cfn G n 365 [x55,x56,x57] s).bind λx58 s=>c2 n V50 x58 s) else .bad
noncomputable def cW(n:Nat)(x1:D)(s:Jaa):Out D:=(item x1 (.int 0) s).bind λx8 s=>if Jah G x8 "split" s=true then ((Jak G (cfn G n) ⟨316,30,316,49⟩ x8 "split" [(.str " ")] s).bind λx9 s=>(Jai (.builtin "len") [x9] s).bind λx10 s=>(Jag .Eq x10 (.int 3) s).bind λx11 s=>(brD x11 (.ok (.str "head") s) (.ok (.str "words") s)).bind λx12 s=>.ok (.tup [x12,(.int 1)]) s) else .bad
noncomputable def cF(n:Nat)(V:Jac)(s:Jaa):Out D:=(Jfg (.lst [(.tup [(.str "map"),(.val (.ref 339))]),(.tup [(.str "slot"),(.val (.ref 346))]),(.tup [(.str "symbol"),(.val (.ref 351))]),(.tup [(.str "relocation"),(.val (.ref 358))])]) (vS n) V s).bind (kv (c1 n) λV50 d51 s=>.ok d51 s)
noncomputable def cH(n:Nat)(t:Str)(x1 x5:D)(s:Jaa):Out D:=(item x1 (.int 0) s).bind λx6 s=>(Jag .NotEq x6 (.str "ringgate object 1") s).bind λx7 s=>brD x7 (cW n x1 s) (cF n ((((V0.set "text" (.str t)).set "lines" x1).set "held" x5).set "at" (.int 1)) s)
theorem w370(n:Nat)(t:Str)(s:Jaa):cfn G (n+1) 370 [(.str t)] s=if Jah G (.str t) "split" s=true then ((Jak G (cfn G n) ⟨314,23,314,39⟩ (.str t) "split" [(.str "\n")] s).bind λx1 s=>(Out.ok (D.loc s.length) (s++[M.list []])).bind λx2 s=>(Out.ok (D.loc s.length) (s++[M.list []])).bind λx3 s=>(Out.ok (D.loc s.length) (s++[M.list []])).bind λx4 s=>(Out.ok (D.loc s.length) (s++[M.dict ["maps","figures","symbols","relocations"] [x2,(.str ""),x3,x4]])).bind λx5 s=>cH n t x1 x5 s) else .bad:=
 (Jbf rfl rfl).trans (by kernel_rfl)
theorem w377(n:Nat)(t:Str)(s:Jaa):cfn G (n+1) 377 [(.str t)] s=(caught "one" "error" (V0.set "text" (.str t)) (cfn G n 267 [(.str t)] s)).bind (kv (λV1 s=>ofk (V1 "one") s λx2 s=>(cfn G n 179 [x2] s).bind λx3 s=>(ofk (V1 "text") s λx4 s=>Jag .Eq x3 x4 s).bind λx5 s=>(brD x5 (ofk (V1 "one") s λx6 s=>if Jah G x6 "told" s=true then ((Jak G (cfn G n) ⟨335,11,335,21⟩ x6 "told" [] s).bind λx7 s=>.ok x7 s) else .bad) (.ok D.none s)).bind λx8 s=>.ok x8 s) λ_ d s=>.ok d s):=
 (Jbf rfl rfl).trans (by kernel_rfl)
noncomputable def g3(n:Nat)(V:Jac)(x11:D)(s:Jaa):Out (Jac×Fl):=(unop .USub (.int 1) s).bind λx21 s=>(slice x11 D.none x21 D.none s).bind λx22 s=>(unop .USub (.int 1) s).bind λx23 s=>(slice x11 D.none x23 D.none s).bind λx24 s=>(cfn G n 317 [x24] s).bind λx25 s=>(Jae .Add x22 (.lst [x25]) s).bind λx26 s=>.ok ((V.set "lines" x26),.next) s
noncomputable def gT(n:Nat)(x11 x14:D)(s:Jaa):Out D:=brD x14 ((unop .USub (.int 1) s).bind λx15 s=>(item x11 x15 s).bind λx16 s=>if Jah G x16 "split" s=true then ((Jak G (cfn G n) ⟨342,37,342,57⟩ x16 "split" [(.str " ")] s).bind λx17 s=>(item x17 (.int 0) s).bind λx18 s=>(Jag .Eq x18 (.str "end") s).bind λx19 s=>.ok x19 s) else .bad) (.ok x14 s)
noncomputable def g2(n:Nat)(V:Jac)(x11:D)(s:Jaa):Out (Jac×Fl):=(ofk (V "pen") s λx12 s=>(cfn G n 281 [x12,(.int 3)] s).bind λx13 s=>(Jag .Gt x13 (.int 0) s).bind λx14 s=>gT n x11 x14 s).bind λx20 s=>brD x20 (g3 n V x11 s) (.ok (V,.next) s)
noncomputable def g1(n:Nat)(d8:D)(V7:Jac)(s:Jaa):Out (Jac×Fl):=ofk ((V7.set "turn" d8) "pen") s λx9 s=>ofk ((V7.set "turn" d8) "lines") s λx10 s=>(cfn G n 324 [x9,x10] s).bind λx11 s=>g2 n ((V7.set "turn" d8).set "lines" x11) x11 s
noncomputable def h4(n:Nat)(V:Jac)(x41:D)(s:Jaa):Out (Jac×Fl):=(cfn G n 377 [x41] s).bind λx42 s=>((cfn G n 370 [x41] s).bind λx43 s=>Jag .Eq x42 x43 s).bind λx44 s=>.ok ((V.set "cut" x41),Fl.ret x44) s
noncomputable def h3(n:Nat)(V:Jac)(x33:D)(s:Jaa):Out (Jac×Fl):=ofk (V "pen") s λx37 s=>(Jai (.builtin "len") [x33] s).bind λx38 s=>(Jae .Add x38 (.int 1) s).bind λx39 s=>(cfn G n 281 [x37,x39] s).bind λx40 s=>(slice x33 D.none x40 D.none s).bind λx41 s=>h4 n V x41 s
noncomputable def h2(n:Nat)(V:Jac)(x33:D)(s:Jaa):Out (Jac×Fl):=(cfn G n 377 [x33] s).bind λx34 s=>((cfn G n 370 [x33] s).bind λx35 s=>Jag .NotEq x34 x35 s).bind λx36 s=>brD x36 (.ok ((V.set "text" x33),Fl.ret (.bool false)) s) (h3 n (V.set "text" x33) x33 s)
noncomputable def h1(n:Nat)(V:Jac)(s:Jaa):Out (Jac×Fl):=ofk (V "lines") s λx29 s=>(Jbu false (.str "\n") "join" [x29] s).bind λx30 s=>ofk (V "pen") s λx31 s=>(cfn G n 288 [x31,(.lst [(.str "\n"),(.str "\n"),(.str "\n"),(.str ""),(.str "\n\n"),(.str " \n")])] s).bind λx32 s=>(Jae .Add x30 x32 s).bind λx33 s=>h2 n V x33 s
noncomputable def h0(n:Nat)(V:Jac)(x1:D)(s:Jaa):Out (Jac×Fl):=(cfn G n 281 [x1,(.int 3)] s).bind λx5 s=>(Jai (.type "range") [x5] s).bind λx6 s=>(Jfg x6 (g1 n) V s).bind (kv (h1 n) λV27 d28 s=>.ok (V27,Fl.ret d28) s)
noncomputable def hS(n:Nat)(V:Jac)(x1 x2:D)(s:Jaa):Out (Jac×Fl):=if Jah G x2 "append" s=true then ((cfn G n 317 [x2] s).bind λx3 s=>(Jak G (cfn G n) ⟨339,4,339,33⟩ x2 "append" [x3] s).bind λx4 s=>h0 n V x1 s) else .bad
theorem wlaw(n:Nat)(a:D)(s:Jaa):evSs G (cfn G n) (fnn 42).2.2 (fnn 42).2.1.names (Jbg ["script"] [a]) s=(cfn G n 274 [a] s).bind λx1 s=>(cfn G n 298 [x1] s).bind λx2 s=>hS n (((V0.set "script" a).set "pen" x1).set "lines" x2) x1 x2 s:=by
 rw[<-bid (evSs G (cfn G n) (fnn 42).2.2 (fnn 42).2.1.names (Jbg ["script"] [a]) s),<-kv_ok,<-Jdn]
 kernel_rfl
end
end
section
theorem Jad{β:Type}(d:D)(σ:Jaa)(k:D->Jaa->Out β):ofk (some d) σ k=k d σ:=rfl
theorem Jl2{β:Type}(V:Jac)(k:Jac->Out β):unp (some V) k=k V:=rfl
theorem Jao(V:Jac)(x:Str)(d:D):(V.set x d) x=some d:=if_pos rfl
theorem Jab{V:Jac}{x y:Str}{d:D}(h:y≠x):(V.set x d) y=V y:=if_neg h
theorem Jcz{β:Type}(kn:Jac->Jaa->Out β)(kr:Jac->D->Jaa->Out β)(V:Jac)(σ:Jaa):kv kn kr (V,.next) σ=kn V σ:=rfl
noncomputable abbrev Cs(t:Str):List Nat:=t.cps.toList
noncomputable abbrev sg(c:Nat):Str:=⟨#[c]⟩
theorem Jbv(t:Str):(Cs t).length=t.length:=Array.length_toList
theorem Je1(t:Str):(Jb9 t).length=t.length:=by unfold Jb9;rw[List.length_map];exact Jbv t
noncomputable def inS(x:Str)(c:Nat):Bool:=decide (c∈Cs x)
theorem Jdo(x:Str)(c:Nat):Txt.contains x (sg c)=inS x c:=StrLaws.found_one x c
theorem Jh0{its:Jaa->Option (List D)}{step:D->Jaa->Out (Option D)}{s:Jaa}{ds:List D}{g:D->Option D}(hi:its s=some ds)(h:∀d∈ds,step d s=.ok (g d) s):∀k j,ds.length - j<k->Jda its step k j s=.ok ((ds.drop j).filterMap g) s
 |0,j,hk=>by
  exact absurd hk (by exact ar37)
 |k+1,j,hk=>by
  show (match its s with
  |none=>Out.bad
  |some ds=>match ds[j]? with
   |none=>.ok [] s
   |some d=>(step d s).bind λe σ=>match e with
    |some e=>(Jda its step k (j+1) σ).bind λes σ=>.ok (e::es) σ
    |none=>Jda its step k (j+1) σ)=_
  rw[hi]
  show (match ds[j]? with
   |none=>Out.ok [] s
   |some d=>_)=_
  cases e:ds[j]? with
  |none=>
   rw[List.drop_eq_nil_of_le (List.getElem?_eq_none_iff.mp e)]
   rfl
  |some d=>
   obtain ⟨hj,rfl⟩:=List.getElem?_eq_some_iff.mp e
   show (step ds[j] s).bind _=_
   rw[h _ (List.getElem_mem hj),List.drop_eq_getElem_cons hj]
   have ih:=Jh0 hi h k (j+1) (by exact ar333 hk hj)
   show (match g ds[j] with
    |some e=>(Jda its step k (j+1) s).bind λes σ=>Out.ok (e::es) σ
    |none=>Jda its step k (j+1) s)=_
   rw[ih]
   cases e:g ds[j] with
   |none=>rw[List.filterMap_cons_none e]
   |some x=>rw[List.filterMap_cons_some e];rfl
theorem Jba{d:D}{step:D->Jaa->Out (Option D)}{s:Jaa}{ds:List D}{g:D->Option D}(hi:Jal s d=some ds)(hl:ds.length<=line)(h:∀d∈ds,step d s=.ok (g d) s):Ja5 d step s=.ok (.lst (ds.filterMap g)) s:=by
 unfold Ja5
 rw[hi]
 show (if ds.length<=line then _ else _)=_
 rw[if_pos hl,Jh0 hi h _ _ (by exact ar29)]
 rfl
theorem comp_all{t:Str}{step:D->Jaa->Out (Option D)}{s:Jaa}{g:Nat->D}(hl:t.length<=line)(h:∀c,step (.str (sg c)) s=.ok (some (g c)) s):Ja5 (.str t) step s=.ok (.lst ((Cs t).map g)) s:=by
 refine (Jba (g:=λd=>match d with | .str x=>(Cs x).head?.map g | _=>none) (ds:=(Jb9 t).map .str) rfl (by rw[List.length_map,Je1];exact hl) ?_).trans ?_
 ·intro d hd
  simp only[Jb9,List.map_map,List.mem_map,Function.comp] at hd
  obtain ⟨c,_,rfl⟩:=hd
  exact h c
 ·simp only[Jb9,List.map_map,List.filterMap_map]
  congr 2
  show _=List.map _ t.cps.toList
  generalize t.cps.toList=l
  induction l with
  |nil=>rfl
  |cons a r ih=>
   exact congrArg (g a::·) ih
theorem Jsa{t:Str}{step:D->Jaa->Out (Option D)}{s:Jaa}{q:Nat->Bool}(hl:t.length<=line)(h:∀c,step (.str (sg c)) s=.ok (if q c=true then some (.str (sg c)) else none) s):Ja5 (.str t) step s=.ok (.lst (((Cs t).filter q).map λc=>.str (sg c))) s:=by
 refine (Jba (g:=λd=>match d with | .str x=>(Cs x).head?.bind λc=>if q c=true then some (.str (sg c)) else none | _=>none) (ds:=(Jb9 t).map .str) rfl (by rw[List.length_map,Je1];exact hl) ?_).trans ?_
 ·intro d hd
  simp only[Jb9,List.map_map,List.mem_map,Function.comp] at hd
  obtain ⟨c,_,rfl⟩:=hd
  exact h c
 ·simp only[Jb9,List.map_map,List.filterMap_map]
  congr 2
  show _=List.map _ (List.filter q t.cps.toList)
  generalize t.cps.toList=l
  induction l with
  |nil=>rfl
  |cons a r ih=>
   cases e:q a with
   |false=>refine (List.filterMap_cons_none (by show (if q a=true then _ else _)=_;rw[e];rfl)).trans ?_;rw[List.filter_cons_of_neg (by rw[e];decide),ih]
   |true=>refine (List.filterMap_cons_some (b:=.str (sg a)) (by show (if q a=true then _ else _)=_;rw[e];rfl)).trans ?_;rw[List.filter_cons_of_pos e,List.map_cons,ih]
theorem Jdx{a b:Str}(h:Cs a=Cs b):a=b:=by
 obtain ⟨⟨a⟩⟩:=a;obtain ⟨⟨b⟩⟩:=b;cases h;rfl
theorem seq0(n:Nat):seqIndex? 0 (n+1)=some 0:=by
 unfold seqIndex?
 simp
theorem item0{t:Str}{c:Nat}{r:List Nat}{s:Jaa}(h:Cs t=c::r)(hl:t.length<=line):item (.str t) (.int 0) s=.ok (.str (sg c)) s:=by
 obtain ⟨⟨l⟩⟩:=t
 cases h
 show Out.of ((seqIndex? 0 (r.length+1)).bind λk=>((Array.mk (c::r))[k]?).bind λd=>if (r.length+1)<=line then some (D.str ⟨#[d]⟩) else none) s=_
 rw[seq0]
 show Out.of (if (r.length+1)<=line then some (D.str (sg c)) else none) s=_
 rw[if_pos (show r.length+1<=line from hl)]
 rfl
theorem fig10(s:Jaa):slice (.str "0123456789abcdef") D.none (.int 10) D.none s=.ok (.str "0123456789") s:=by kernel_rfl
theorem nil_eq{l:List Nat}{s:Jaa}(hl:l.length<=line):Jag .Eq (.lst (l.map λc=>.str (sg c))) (.lst []) s=.ok (.bool (l.isEmpty)) s:=by
 have:=c_eql (σ:=s) (a:=l.map sg) (b:=[]) (by simpa using hl) (by simp)
 rw[List.map_map] at this
 refine Eq.trans this ?_
 cases l<;>rfl
theorem nil_ne{l:List Nat}{s:Jaa}(hl:l.length<=line):Jag .NotEq (.lst (l.map λc=>.str (sg c))) (.lst []) s=.ok (.bool !(l.isEmpty)) s:=by
 have:=c_nel (σ:=s) (a:=l.map sg) (b:=[]) (by simpa using hl) (by simp)
 rw[List.map_map] at this
 refine Eq.trans this ?_
 cases l<;>rfl
theorem Jdq(l:List Nat)(q:Nat->Bool):(l.filter λc=>!q c).isEmpty=l.all q:=by
 induction l with
 |nil=>rfl
 |cons a r ih=>cases e:q a<;>simp[e,ih]
end
section
noncomputable abbrev Dig:Str:="0123456789"
noncomputable abbrev Hex:Str:="0123456789abcdef"
noncomputable abbrev Nam:Str:="abcdefghijklmnopqrstuvwxyz0123456789_"
noncomputable def Jc4(t:Str):Bool:=match Cs t with
 |[]=>false
 |c::r=>decide (t.length<=15)&&!inS Dig c&&(c::r).all (inS Nam)
noncomputable def Jbj(t:Str):Bool:=match Cs t with
 |[]=>false
 |c::r=>decide (t.length<=10)&&(c::r).all (inS Dig)&&!(c==48&&!(t=="0"))
noncomputable def Jbt(t:Str):Bool:=decide (t.length=16)&&(Cs t).all (inS Hex)
theorem Jqz{t:Str}(e:Cs t=[]):t.length=0:=by rw[<-Jbv,e];rfl
theorem Jf1{t:Str}{c:Nat}{r:List Nat}(e:Cs t=c::r):t.length=r.length+1:=by rw[<-Jbv,e];rfl
theorem is_nil{t:Str}(e:Cs t=[]):(t=="")=true:=by rw[beq_iff_eq];exact Jdx e
theorem Jqn{t:Str}{c:Nat}{r:List Nat}(e:Cs t=c::r):(t=="")=false:=by
 rw[beq_eq_false_iff_ne];rintro rfl;cases e
theorem map_all(l:List Nat)(q:Nat->Bool):(l.map q).all id=l.all q:=by rw[List.all_map];rfl
section
variable{n:Nat}{t:Str}{s:Jaa}
theorem in_step(x:Str)(c:Nat)(s:Jaa):((Jag .In (.str (sg c)) (.str x) s).bind λy s=>Out.ok (some y) s)=.ok (some (.bool (inS x c))) s:=by
 rw[c_ins,Jdo];rfl
theorem Jq3(x:Str)(c:Nat)(s:Jaa):(((Jag .NotIn (.str (sg c)) (.str x) s).bind λy s=>Out.of (Jb7 y) s).bind λb s=>if b=true then Out.ok (some (D.str (sg c))) s else .ok none s)=.ok (if (!inS x c)=true then some (D.str (sg c)) else none) s:=by
 rw[c_nins,Jdo]
 cases inS x c<;>rfl
theorem Jlo(x:Str)(h:t.length<=line):Ja5 (.str t) (λe s=>(Jag .In e (.str x) s).bind λy s=>Out.ok (some y) s) s=.ok (.lst (((Cs t).map (inS x)).map .bool)) s:=by
 refine (comp_all (g:=λc=>.bool (inS x c)) h (λc=>in_step x c s)).trans ?_
 rw[List.map_map];rfl
theorem Ji0(x:Str)(h:t.length<=line):Ja5 (.str t) (λe s=>((Jag .NotIn e (.str x) s).bind λy s=>Out.of (Jb7 y) s).bind λb s=>if b=true then Out.ok (some e) s else .ok none s) s=.ok (.lst (((Cs t).filter λc=>!inS x c).map λc=>.str (sg c))) s:=
 Jsa h (λc=>Jq3 x c s)
theorem all_b(x:Str)(h:t.length<=line):Jai (.builtin "all") [.lst (((Cs t).map (inS x)).map .bool)] s=.ok (.bool ((Cs t).all (inS x))) s:=by
 rw[k_all (by rw[List.length_map,Jbv];exact h),map_all]
theorem eq_b(x:Str)(h:t.length<=line):Jag .Eq (.lst (((Cs t).filter λc=>!inS x c).map λc=>.str (sg c))) (.lst []) s=.ok (.bool ((Cs t).all (inS x))) s:=by
 rw[nil_eq (Nat.le_trans (List.length_filter_le _ _) (by rw[Jbv];exact h)),Jdq]
theorem ne_b(x:Str)(h:t.length<=line):Jag .NotEq (.lst (((Cs t).filter λc=>!inS x c).map λc=>.str (sg c))) (.lst []) s=.ok (.bool (!(Cs t).all (inS x))) s:=by
 rw[nil_ne (Nat.le_trans (List.length_filter_le _ _) (by rw[Jbv];exact h)),Jdq]
theorem Jrd(h:t.length<=line):cfn G (n+1) 155 [.str t] s=.ok (.bool (Jc4 t)) s:=by
 simp only[w155,Jd7 h,Jlo Nam h,bok,all_b Nam h]
 unfold Jc4
 cases e:Cs t with
 |nil=>rw[Jqz e];rfl
 |cons c r=>
  simp only[item0 e h,Jf1 e,bok,c_lt,c_le,brt,brf,bri,Jh5,fig10,c_ins,Jdo]
  have h1:decide ((0:Int)<((r.length+1:Nat):Int))=true:=decide_eq_true (by exact ar73)
  have h2:decide (((r.length+1:Nat):Int)<=15)=decide (r.length+1<=15):=decide_eq_decide.mpr (by exact ar198)
  rw[h1,h2]
  generalize (c::r).all (inS Nam)=b
  generalize inS Dig c=d
  cases decide (r.length+1<=15)<;>cases d<;>cases b<;>rfl
theorem Jf2(h:t.length<=line):cfn G (n+1) 329 [.str t] s=.ok (.bool (Jc4 t)) s:=by
 simp only[w329,Jd7 h,Ji0 Nam h,bok,eq_b Nam h]
 unfold Jc4
 cases e:Cs t with
 |nil=>simp only[Jkf,is_nil e];rfl
 |cons c r=>
  simp only[item0 e h,Jf1 e,Jkf,Jqn e,bok,c_gt,brt,brf,bri,c_ins,Jdo]
  have h2:decide (15<((r.length+1:Nat):Int))=!decide (r.length+1<=15):=by
   rw[<-decide_not];exact decide_eq_decide.mpr (by exact ar207)
  rw[h2]
  generalize (c::r).all (inS Nam)=b
  generalize inS Dig c=d
  cases decide (r.length+1<=15)<;>cases d<;>cases b<;>rfl
theorem Jho(h:t.length<=line):cfn G (n+1) 303 [.str t] s=.ok (.bool (Jbt t)) s:=by
 simp only[w303,Jd7 h,Ji0 Hex h,bok,eq_b Hex h]
 unfold Jbt
 have h1:((t.length:Int)==16)=decide (t.length=16):=by
  rw[show ((t.length:Int)==16)=decide ((t.length:Int)=16) from rfl];exact decide_eq_decide.mpr (by exact ar110)
 simp only[bok,Jsd,h1]
 cases decide (t.length=16)<;>rfl
end
end
section
open PySem.NumText
theorem Jmy{its:Jaa->Option (List D)}{step:D->Jac->Jaa->Out (Jac×Fl)}{ds:List D}{I:Nat->Jac->Jaa->Prop}(hi:∀j V s,I j V s->its s=some ds)
  (h:∀j d V s,ds[j]?=some d->I j V s->∃V' s',step d V s=.ok (V',.next) s'/\I (j+1) V' s'):∀k j V s,ds.length - j<k->j<=ds.length->I j V s->∃V' s',forJ its step k j V s=.ok (V',.next) s'/\I ds.length V' s'
 |0,j,V,s,hk,_,_=>absurd hk (by exact ar37)
 |k+1,j,V,s,hk,hj,hI=>by
  have e:forJ its step (k+1) j V s=(match its s with
   |none=>Out.bad
   |some ds=>match ds[j]? with
    |none=>.ok (V,Fl.next) s
    |some d=>(step d V s).bind (kv (forJ its step k (j+1)) λV d σ=>.ok (V,.ret d) σ)):=rfl
  rw[e,hi j V s hI]
  show ∃V' s',(match ds[j]? with
    |none=>Out.ok (V,Fl.next) s
    |some d=>(step d V s).bind (kv (forJ its step k (j+1)) λV d σ=>.ok (V,.ret d) σ))=_/\_
  cases ed:ds[j]? with
  |none=>
   have:=List.getElem?_eq_none_iff.mp ed
   obtain rfl:j=ds.length:=by exact ar147 hj this
   exact ⟨V,s,rfl,hI⟩
  |some d=>
   obtain ⟨V',s',e1,hI'⟩:=h j d V s ed hI
   have hlt:=(List.getElem?_eq_some_iff.mp ed).1
   obtain ⟨V2,s2,e2,h2⟩:=Jmy hi h k (j+1) V' s' (by exact ar333 hk hlt) (by exact ar100 hlt) hI'
   refine ⟨V2,s2,?_,h2⟩
   show (step d V s).bind _=_
   rw[e1]
   exact e2
theorem Jcu{d:D}{step:D->Jac->Jaa->Out (Jac×Fl)}{ds:List D}(I:Nat->Jac->Jaa->Prop)(hl:ds.length<=line)(hi:∀j V s,I j V s->Jal s d=some ds)
  (h:∀j d V s,ds[j]?=some d->I j V s->∃V' s',step d V s=.ok (V',.next) s'/\I (j+1) V' s') {V:Jac} {s:Jaa} (h0:I 0 V s):∃V' s',Jfg d step V s=.ok (V',.next) s'/\I ds.length V' s':=by
 obtain ⟨V',s',e,h'⟩:=Jmy (its:=λs=>Jal s d) hi h (ds.length+1) 0 V s (by exact ar29) (by exact ar11) h0
 refine ⟨V',s',?_,h'⟩
 unfold Jfg
 rw[hi 0 V s h0]
 show (if ds.length<=line then _ else _)=_
 rw[if_pos hl]
 exact e
noncomputable def Ja6(t:Str):Nat:=digitsVal (Cs t)
theorem Jew(l:List Nat)(c:Nat):digitsVal (l++[c])=digitsVal l*10+(c - 48):=by
 unfold digitsVal
 rw[List.foldl_append];rfl
theorem Jio{c:Nat}(h:inS Dig c=true):48<=c/\c<=57:=by
 have h:c∈Cs Dig:=of_decide_eq_true h
 have e:Cs Dig=[48,49,50,51,52,53,54,55,56,57]:=by decide +kernel
 rw[e] at h
 exact of_decide_eq_true ((List.all_eq_true.mp (by decide:([48,49,50,51,52,53,54,55,56,57]:List Nat).all (λc=>decide (48<=c/\c<=57))=true)) c h)
theorem find_dig{c:Nat}(h0:48<=c/\c<=57):Txt.find Dig (sg c)=((c - 48:Nat):Int):=by
 have h:∀d:Fin 10,Txt.find Dig (sg (48+d.val))=(d.val:Int):=by decide +kernel
 have:=h ⟨c - 48,by exact ar81 h0.2⟩
 simp only[show 48+(c - 48)=c by exact ar131 h0.1] at this
 exact this
theorem Jqt(a b:Str)(s:Jaa):Jbu false (.str a) "find" [.str b] s=.ok (.int (Txt.find a b)) s:=rfl
section
variable{n:Nat}{t:Str}{s:Jaa}
theorem num_loop{V:Jac}(h:t.length<=line)(hd:(Cs t).all (inS Dig)=true)(hV:V "total"=some (.int 0)) :
  ((Jfg (.str t) (λd16 V15 s=>ofk ((V15.set "sign" d16) "total") s λx17 s=>(Jae .Mult (.int 10) x17 s).bind λx18 s=>(Jbu false (.str "0123456789") "find" [d16] s).bind λx19 s=>(Jae .Add x18 x19 s).bind λx20 s=>.ok (((V15.set "sign" d16).set "total" x20),.next) s) V s).bind (kv (λV21 s=>ofk (V21 "total") s λx23 s=>.ok x23 s) λV21 d22 s=>.ok d22 s))=.ok (.int (Ja6 t)) s:=by
 obtain ⟨V',s',e,hs,ht⟩:=Jcu (d:=.str t) (ds:=(Jb9 t).map .str) (V:=V) (s:=s) (λj V s'=>s'=s/\V "total"=some (.int (digitsVal ((Cs t).take j)))) (by rw[List.length_map,Je1];exact h) (λ_ _ _ _=>rfl) (step:=λd16 V15 s=>ofk ((V15.set "sign" d16) "total") s λx17 s=>(Jae .Mult (.int 10) x17 s).bind λx18 s=>(Jbu false (.str "0123456789") "find" [d16] s).bind λx19 s=>(Jae .Add x18 x19 s).bind λx20 s=>.ok (((V15.set "sign" d16).set "total" x20),.next) s) (λj d V s' hj ⟨hs,hv⟩=>by
   subst hs
   rw[List.getElem?_map] at hj
   unfold Jb9 at hj
   rw[List.getElem?_map] at hj
   cases ec:(Cs t)[j]? with
   |none=>rw[show t.cps.toList[j]?=none from ec] at hj;cases hj
   |some c=>
    rw[show t.cps.toList[j]?=some c from ec] at hj
    cases hj
    have hc:=Jio (List.all_eq_true.mp hd c (List.mem_of_getElem? ec))
    rw[Jab (by decide:("total":Str)≠"sign"),hv,Jad,Jg4 (.inl (by decide))]
    refine ⟨_,s',rfl,rfl,?_⟩
    rw[Jao,List.take_add_one,ec]
    show _=some (D.int ((digitsVal ((Cs t).take j++[c]):Nat):Int))
    rw[Jew]
    refine congrArg (λz=>some (D.int z)) ?_
    show (10:Int)*_+Txt.find Dig (sg c)=_
    rw[find_dig hc]
    exact ar401) ⟨rfl,hV⟩
 rw[e]
 subst hs
 show ofk (V' "total") s' _=_
 rw[ht,List.length_map,Je1,<-Jbv,List.take_length]
 rfl
theorem Jrc{c:Nat}{r:List Nat}(e:Cs t=c::r):(sg c==("0":Str))=(c==48):=by
 rw[Bool.eq_iff_iff,beq_iff_eq,beq_iff_eq]
 constructor
 ·intro h;have:=congrArg Cs h;have e2:Cs ("0":Str)=[48]:=by decide +kernel
  rw[e2] at this
  injection this
 ·rintro rfl;decide +kernel
theorem Jca(h:t.length<=line):cfn G (n+1) 334 [.str t] s=.ok (.int (if Jbj t=true then (Ja6 t:Int) else -1)) s:=by
 simp only[w334,Jd7 h,Ji0 Dig h,bok,ne_b Dig h]
 unfold Jbj
 cases e:Cs t with
 |nil=>simp only[Jkf,is_nil e];rfl
 |cons c r=>
  simp only[item0 e h,Jf1 e,Jkf,Jot,Jqn e,bok,c_gt,bri,Jrc e]
  have h2:decide (10<((r.length+1:Nat):Int))=!decide (r.length+1<=10):=by
   rw[<-decide_not];exact decide_eq_decide.mpr (by exact ar206)
  rw[h2]
  have L:=num_loop (V:=(V0.set "word" (.str t)).set "total" (.int 0)) (s:=s) h
  rw[e] at L
  have L:=λhd=>L hd (Jao _ _ _)
  revert L
  generalize (c::r).all (inS Dig)=b
  generalize (c==48)=z
  generalize (t=="0")=y
  cases decide (r.length+1<=10)<;>cases b<;>cases z<;>cases y<;>intro L<;>first | rfl | exact L rfl
end
end
section
open PySem.NumText
noncomputable def Rd(i:Nat)(L:List Str)(k:Int)(s:Jaa):Prop:=s[i]?=some (.dict ["lines","at"] [.lst (L.map .str),.int k])
section
variable{i n:Nat}{L:List Str}{k:Int}{s:Jaa}
theorem Jni(h:Rd i L k s):attr G.fld (.obj 236 i) "lines" s=.ok (.lst (L.map .str)) s:=by
 rw[Jnh h]
 kernel_rfl
theorem Jlx(h:Rd i L k s):attr G.fld (.obj 236 i) "at" s=.ok (.int k) s:=by
 rw[Jnh h]
 kernel_rfl
theorem put_at(h:Rd i L k s)(j:Int):Jd1 G.fld (.obj 236 i) "at" (.int j) s=.ok () (s.set i (.dict ["lines","at"] [.lst (L.map .str),.int j])):=by
 rw[Jk2 h]
 kernel_rfl
theorem rd_set(h:Rd i L k s)(j:Int):Rd i L j (s.set i (.dict ["lines","at"] [.lst (L.map .str),.int j])):=by
 unfold Rd
 rw[List.getElem?_set_self (List.getElem?_eq_some_iff.mp h).1]
theorem Jnz(h:Rd i L k s){x:Str}(hx:((getF ["lines","at"] [D.none,.none] x).isNone&&(G.meth 236 x).isSome)=true):Jah G (.obj 236 i) x s=true:=by
 rw[Joa h]
 refine Eq.trans (congrArg (·&&(G.meth 236 x).isSome) ?_) hx
 unfold getF
 split
 ·rfl
 ·unfold getF;split
  ·rfl
  ·rfl
theorem Jmg(h:Rd i L k s):Jah G (.obj 236 i) "words" s=true:=Jnz h (by kernel_rfl)
theorem Jfk(h:Rd i L k s):Jah G (.obj 236 i) "take" s=true:=Jnz h (by kernel_rfl)
theorem ok_next(h:Rd i L k s):Jah G (.obj 236 i) "is_next" s=true:=Jnz h (by kernel_rfl)
theorem Jqf(h:Rd i L k s):Jah G (.obj 236 i) "refuse" s=true:=Jnz h (by kernel_rfl)
theorem Jd3(h:Rd i L k s):Jah G (.obj 236 i) "number" s=true:=Jnz h (by kernel_rfl)
theorem Jk5(h:Rd i L k s):Jah G (.obj 236 i) "name" s=true:=Jnz h (by kernel_rfl)
variable{cf:Addr->List D->Jaa->Out D}{p:Pos}{as:List D}
theorem Jqr:Jak G cf p (.obj 236 i) "words" as s=cf 200 (.obj 236 i::as) s:=by kernel_rfl
theorem m_next:Jak G cf p (.obj 236 i) "is_next" as s=cf 207 (.obj 236 i::as) s:=by kernel_rfl
theorem Jhl:Jak G cf p (.obj 236 i) "take" as s=cf 214 (.obj 236 i::as) s:=by kernel_rfl
theorem m_refuse:Jak G cf p (.obj 236 i) "refuse" as s=cf 221 (.obj 236 i::as) s:=by kernel_rfl
theorem Jii:Jak G cf p (.obj 236 i) "number" as s=cf 226 (.obj 236 i::as) s:=by kernel_rfl
theorem m_name:Jak G cf p (.obj 236 i) "name" as s=cf 233 (.obj 236 i::as) s:=by kernel_rfl
theorem refuse(h:Rd i L k s)(w:Str):cfn G (n+1) 221 [.obj 236 i,.str w] s=.exc w (k - 1) s:=by
 rw[w221,Jlx h];rfl
theorem Jge(h:Rd i L k s)(w:Str)(b:Bool){β:Type}(q:D->Jaa->Out β):((brD (.bool b) (if Jah G (.obj 236 i) "refuse" s=true then ((Jak G (cfn G (n+1)) p (.obj 236 i) "refuse" [.str w] s).bind λx16 s=>Out.ok D.none s) else .bad) (.ok D.none s)).bind q)=if b=true then .exc w (k - 1) s else q .none s:=by
 cases b with
 |false=>rfl
 |true=>
  show Out.bind (if Jah G (.obj 236 i) "refuse" s=true then _ else _) q=_
  rw[if_pos (Jqf h),m_refuse,refuse h]
  rfl
theorem bcg{α β:Type}{x:Out α}{a:α}{s:Jaa}{f:α->Jaa->Out β}(h:x=.ok a s):x.bind f=f a s:=by rw[h];rfl
theorem int_text{t:Str}(h:Jbj t=true):Jai (.type "int") [.str t] s=.ok (.int (Ja6 t)) s:=by
 unfold Jbj at h
 cases e:Cs t with
 |nil=>rw[e] at h;cases h
 |cons c r=>
  rw[e] at h
  simp only[Bool.and_eq_true,decide_eq_true_eq] at h
  have hd:AllDigits (Cs t):=by
   rw[e];exact λc hc=>Jio (List.all_eq_true.mp h.1.2 c hc)
  have hi:=intText_digits hd (by show Cs t≠[];rw[e];exact List.cons_ne_nil _ _) (by exact ar61 h.1.1)
  show Out.of (if t.length<=640 then (PySem.intText? t).map D.int else none) s=_
  rw[if_pos (by exact ar56 h.1.1),hi]
  rfl
theorem num_test{t:Str}(hl:t.length<=line):nT t s=.ok (.bool (!Jbj t)) s:=by
 unfold nT
 simp only[Jd7 hl,fig10,bok,Jlo Dig hl,all_b Dig hl]
 unfold Jbj
 cases e:Cs t with
 |nil=>
  simp only[Jqz e]
  rfl
 |cons c r=>
  simp only[item0 e hl,Jf1 e,bok,c_lt,c_le,Jkf,Jot,Jh5,bri,Jrc e]
  have h1:decide ((0:Int)<((r.length+1:Nat):Int))=true:=decide_eq_true ar73
  have h2:decide (((r.length+1:Nat):Int)<=10)=decide (r.length+1<=10):=decide_eq_decide.mpr ar197
  rw[h1,h2]
  generalize (c::r).all (inS Dig)=b
  generalize (c==48)=z
  generalize (t=="0")=y
  cases decide (r.length+1<=10)<;>cases b<;>cases z<;>cases y<;>rfl
theorem number(h:Rd i L k s){t:Str}(hl:t.length<=line):cfn G (n+2) 226 [.obj 236 i,.str t] s=if Jbj t=true then .ok (.int (Ja6 t)) s else .exc "number" (k - 1) s:=by
 rw[w226]
 refine (bcg (num_test hl)).trans ((Jge h "number" _ _).trans ?_)
 cases e:Jbj t with
 |false=>rfl
 |true=>exact bcg (int_text e)
theorem name(h:Rd i L k s){t:Str}(hl:t.length<=line):cfn G (n+2) 233 [.obj 236 i,.str t] s=if Jc4 t=true then .ok (.str t) s else .exc "name" (k - 1) s:=by
 simp only[w233,Jrd hl,bok,Jh5]
 refine (Jge h "name" _ _).trans ?_
 cases Jc4 t<;>rfl
end
end
section
open PySem.NumText
noncomputable def Wd(l:Str):List Str:=Txt.split l " "
noncomputable def tot(l:List Str):Nat:=(l.map λx=>x.length+1).sum
theorem Jfx(x y:Str):Txt.split x y≠[]:=by
 unfold Txt.split
 split
 ·exact List.cons_ne_nil _ _
 ·split
  ·exact List.cons_ne_nil _ _
  ·rw[StrLaws.partsBetween_eq]
   obtain ⟨p,r,e⟩:=StrLaws.partsFrom_ne x y.length 0 (Builtin.Str.occurrences x y 0 x.length (x.length+1))
   rw[e];exact List.cons_ne_nil _ _
theorem Jav(a b:Str):(a++b).length=a.length+b.length:=Str.length_append a b
theorem Jas(x:Str)(l:List Str):tot (x::l)=x.length+1+tot l:=rfl
theorem Jeh(y:Str)(hy:y.length=1):∀(x:Str) (r:List Str),(Str.join y (x::r)).length+1=tot (x::r)
 |x,[]=>by rw[Jas];rfl
 |x,z::r=>by
  have:=Jeh y hy z r
  rw[Jas,<-this]
  show (x++y++Str.join y (z::r)).length+1=_
  rw[Jav,Jav,hy]
  exact ar220
theorem Jdu(x y:Str)(hy:y.length=1):tot (Txt.split x y)=x.length+1:=by
 have h:=StrLaws.join_split x y
 cases e:Txt.split x y with
 |nil=>exact absurd e (Jfx x y)
 |cons a r=>
  rw[e] at h
  rw[<-Jeh y hy,h]
theorem Ja9(l:List Str):l.length<=tot l:=by
 induction l with
 |nil=>exact Nat.le_refl _
 |cons a r ih=>rw[Jas,List.length_cons];exact ar205 ih
theorem Jc5{l:List Str}{x:Str}(h:x∈l):x.length+1<=tot l:=by
 induction h with
 |head=>rw[Jas];exact ar88
 |tail _ _ ih=>rw[Jas];exact ar246 ih
theorem Ja1:(" ":Str).length=1:=by decide +kernel
theorem Je3:("\n":Str).length=1:=by decide +kernel
theorem Jnl(l:Str):(Wd l).length<=l.length+1:=by
 have:=Ja9 (Wd l)
 unfold Wd at this ⊢
 rwa [Jdu _ _ Ja1] at this
theorem Wd_mem{l w:Str}(h:w∈Wd l):w.length<=l.length:=by
 have:=Jc5 h
 unfold Wd at this
 rw[Jdu _ _ Ja1] at this
 exact ar120 this
theorem Wd_ne(l:Str):Wd l≠[]:=Jfx _ _
theorem Jey(l:Str):Str.join " " (Wd l)=l:=StrLaws.join_split _ _
theorem Wd_inj{a b:Str}(h:Wd a=Wd b):a=b:=by rw[<-Jey a,h,Jey]
structure Bd(L:List Str):Prop where
 n:L.length<line
 n16:16*L.length<line
 l:∀l∈L,l.length<line
section
variable{i n:Nat}{L:List Str}{s:Jaa}{a:Nat}{cf:Addr->List D->Jaa->Out D}{p:Pos}
theorem Bd.w(B:Bd L){l w:Str}(hl:l∈L)(hw:w∈Wd l):w.length<=line:=Nat.le_trans (Wd_mem hw) (Nat.le_of_lt (B.l l hl))
theorem Bd.k(B:Bd L){l:Str}(hl:l∈L):(Wd l).length<=line:=Nat.le_trans (Jnl l) (B.l l hl)
theorem Jig(x:Str):Jah G (.str x) "split" s=true:=by
 show (decide (("split":Str)="join")||decide (("split":Str)="find")||decide (("split":Str)="split"))=true
 decide
theorem Jqs{x y:Str}(hy:y.length=1)(hx:x.length<=line)(hp:G.lasts p=false):Jak G cf p (.str x) "split" [.str y] s=.ok (.lst ((Txt.split x y).map .str)) s:=by
 have e:Jak G cf p (.str x) "split" [.str y] s=if ("split":Str)="split"/\y.length≠0/\x.length<=line then (if G.lasts p=true then Out.ok (D.loc s.length) (s++[M.list ((Txt.split x y).map .str)]) else .ok (.lst ((Txt.split x y).map .str)) s) else .bad:=by kernel_rfl
 rw[e,if_pos ⟨rfl,by exact ar30 hy,hx⟩,hp]
 rfl
theorem Jji{x y:Str}(hy:y.length=1)(hx:x.length<=line)(hp:G.lasts p=false){β:Type}(q:D->Jaa->Out β):(if Jah G (.str x) "split" s=true then ((Jak G cf p (.str x) "split" [.str y] s).bind q) else .bad)=q (.lst ((Txt.split x y).map .str)) s:=by
 rw[if_pos (Jig x),Jqs hy hx hp]
 rfl
theorem Jhh{a m:Nat}(h:a<m):seqIndex? (a:Int) m=some a:=by
 unfold seqIndex?
 simp
 rw[if_neg (by exact ar41)]
 exact ar428 h
theorem Jmr{ds:List D}{d:D}{a:Nat}(hl:ds.length<=line)(h:ds[a]?=some d):item (.lst ds) (.int a) s=.ok d s:=by
 have hlt:=(List.getElem?_eq_some_iff.mp h).1
 have e:=Jhh hlt
 show Out.of ((seqIndex? a ds.length).bind λk=>if ds.length<=line then ds[k]? else none) s=_
 rw[e]
 show Out.of (if ds.length<=line then ds[a]? else none) s=_
 rw[if_pos hl,h]
 rfl
theorem Jbc{l:List Str}{x:Str}{a:Nat}(hl:l.length<=line)(h:l[a]?=some x):item (.lst (l.map .str)) (.int a) s=.ok (.str x) s:=
 Jmr (by rwa [List.length_map]) (by rw[List.getElem?_map,h];rfl)
theorem words(h:Rd i L (a+1:Nat) s)(B:Bd L):cfn G (n+1) 200 [.obj 236 i] s=match L[a]? with
  |none=>.exc "a line lacks" (a+1:Nat) s
  |some l=>.ok (.lst ((Wd l).map .str)) s:=by
 rw[w200]
 have hl:Jai (.builtin "len") [.lst (L.map .str)] s=.ok (.int L.length) s:=by
  rw[Jmo (by rw[List.length_map];exact Nat.le_of_lt B.n),List.length_map]
 simp only[Jlx h,Jni h,bok,hl,c_gt,bri,b_sub]
 cases e:L[a]? with
 |none=>
  have:=List.getElem?_eq_none_iff.mp e
  rw[decide_eq_true (by exact ar274 this)]
  rfl
 |some l=>
  have:=(List.getElem?_eq_some_iff.mp e).1
  rw[decide_eq_false (by exact ar277 this),show (((a+1:Nat):Int) - 1)=(a:Int) by exact ar192,Jbc (Nat.le_of_lt B.n) e]
  exact Jji Ja1 (Nat.le_of_lt (B.l l (List.mem_of_getElem? e))) (by kernel_rfl) _
theorem is_next(h:Rd i L (a+1:Nat) s)(B:Bd L)(w:Str):cfn G (n+2) 207 [.obj 236 i,.str w] s=match L[a]? with
  |none=>.exc "a line lacks" (a+1:Nat) s
  |some l=>.ok (.bool ((Wd l).head?==some w)) s:=by
 rw[w207,if_pos (Jmg h),Jqr,words h B]
 cases e:L[a]? with
 |none=>rfl
 |some l=>
  have hm:=List.mem_of_getElem? e
  show (Out.ok (D.lst ((Wd l).map .str)) s).bind _=Out.ok (D.bool ((Wd l).head?==some w)) s
  cases ew:Wd l with
  |nil=>exact absurd ew (Wd_ne l)
  |cons x r=>
   show (item (.lst ((x::r).map .str)) (.int (0:Nat)) s).bind _=_
   rw[Jbc (l:=x::r) (a:=0) (by rw[<-ew];exact B.k hm) rfl]
   show Out.ok (D.bool (x==w)) s=.ok (D.bool (some x==some w)) s
   rfl
theorem take(h:Rd i L (a+1:Nat) s)(B:Bd L)(c:Nat):cfn G (n+2) 214 [.obj 236 i,.int c] s=match L[a]? with
  |none=>.exc "a line lacks" (a+1:Nat) s
  |some l=>if (Wd l).length=c then .ok (.lst ((Wd l).map .str)) (s.set i (.dict ["lines","at"] [.lst (L.map .str),.int (a+2:Nat)])) else .exc "words" (a+1:Nat) s:=by
 rw[w214,if_pos (Jmg h),Jqr,words h B]
 cases e:L[a]? with
 |none=>rfl
 |some l=>
  have hm:=List.mem_of_getElem? e
  have hk:Jai (.builtin "len") [.lst ((Wd l).map .str)] s=.ok (.int (Wd l).length) s:=by
   rw[Jmo (by rw[List.length_map];exact B.k hm),List.length_map]
  refine Eq.trans (bcg (a:=D.lst ((Wd l).map .str)) (s:=s) rfl) (Eq.trans (bcg hk) ?_)
  show brD (.bool (!(((Wd l).length:Int)==(c:Int)))) _ _=if (Wd l).length=c then _ else _
  by_cases hc:(Wd l).length=c
  ·rw[if_pos hc,hc,beq_self_eq_true,Bool.not_true,brf,Jlx h]
   show (Jd1 G.fld (.obj 236 i) "at" (.int (((a+1:Nat):Int)+1)) s).bind _=_
   rw[put_at h]
   rfl
  ·rw[if_neg hc,beq_eq_false_iff_ne.mpr (by exact ar238 hc),Bool.not_false,brt,Jlx h]
   rfl
end
end
section
open PySem.NumText
abbrev Row:=Str×Str×Nat×Nat×Nat
noncomputable def rowD(r:Row):D:=.inst 85 ["name","kind","key_width","value_width","most"] [.str r.1,.str r.2.1,.int r.2.2.1,.int r.2.2.2.1,.int r.2.2.2.2]
noncomputable def rowT(r:Row):D:=.tup [.str r.1,.str r.2.1,.int r.2.2.1,.int r.2.2.2.1,.int r.2.2.2.2]
noncomputable def rdMap(names:List Str)(ws:List Str):Except Str Row:=match ws with
 |[_,n,kd,x,y,z]=>if Jc4 n=true then (if names.any (·==n)=true then .error "name told twice" else if (Jbj x&&Jbj y&&Jbj z)=true then (if Jc4 kd=true then .ok (n,kd,Ja6 x,Ja6 y,Ja6 z) else .error "kind") else .error "number") else .error "name"
 |_=>.error "words"
abbrev Sy:=Str×Nat
noncomputable def symD(r:Sy):D:=.tup [.str r.1,.int r.2]
abbrev Re:=Nat×Str×Str
noncomputable def relD(r:Re):D:=.tup [.int r.1,.str r.2.1,.str r.2.2]
noncomputable def rdSym(c:Nat)(x:List Sy)(ws:List Str):Except Str Sy:=match ws with
 |[_,n,w]=>if Jc4 n=true then (if Jbj w=true then (if (x.map (·.1)).any (·==n)=true then .error "name told twice" else if (decide (c<=Ja6 w)||(match x.getLast? with | some u=>decide (Ja6 w<=u.2) | none=>!(Ja6 w==0)))=true then .error "symbol out of order" else .ok (n,Ja6 w)) else .error "number") else .error "name"
 |_=>.error "words"
noncomputable def rdRel(c:Nat)(x:List Re)(ws:List Str):Except Str Re:=match ws with
 |[_,w,way,n]=>if Jbj w=true then (if Jc4 n=true then (if ([("map":Str),"call"]).any (·==way)=true then (if (decide (c<=Ja6 w)||(match x.getLast? with | some u=>decide (Ja6 w<=u.1) | none=>false))=true then .error "relocation out of order" else .ok (Ja6 w,way,n)) else .error "relocation") else .error "name") else .error "number"
 |_=>.error "words"
noncomputable def Jco(ws:List Str):Except Str Str:=match ws with
 |[_,g]=>if Jbt g=true then .ok g else .error "octets"
 |_=>.error "words"
theorem no6{ws:List Str}(h:ws.length≠6)(names:List Str):rdMap names ws=.error "words":=by
 rcases ws with _ | ⟨_,_ | ⟨_,_ | ⟨_,_ | ⟨_,_ | ⟨_,_ | ⟨_,_ | ⟨_,_⟩⟩⟩⟩⟩⟩⟩<;>first | rfl | exact absurd rfl h
theorem no3{ws:List Str}(h:ws.length≠3)(c:Nat)(x:List Sy):rdSym c x ws=.error "words":=by
 rcases ws with _ | ⟨_,_ | ⟨_,_ | ⟨_,_ | ⟨_,_⟩⟩⟩⟩<;>first | rfl | exact absurd rfl h
theorem no4{ws:List Str}(h:ws.length≠4)(c:Nat)(x:List Re):rdRel c x ws=.error "words":=by
 rcases ws with _ | ⟨_,_ | ⟨_,_ | ⟨_,_ | ⟨_,_ | ⟨_,_⟩⟩⟩⟩⟩<;>first | rfl | exact absurd rfl h
theorem no2{ws:List Str}(h:ws.length≠2):Jco ws=.error "words":=by
 rcases ws with _ | ⟨_,_ | ⟨_,_ | ⟨_,_⟩⟩⟩<;>first | rfl | exact absurd rfl h
theorem ok_t{α:Type}{c:Bool}{x:Except Str α}{w:Str}{r:α}(h:(if c=true then x else .error w)=.ok r):c=true/\x=.ok r:=by
 cases c with
 |true=>exact ⟨rfl,h⟩
 |false=>exact nomatch h
theorem ok_f{α:Type}{c:Bool}{x:Except Str α}{w:Str}{r:α}(h:(if c=true then .error w else x)=.ok r):x=.ok r:=by
 cases c with
 |true=>exact nomatch h
 |false=>exact h
theorem of6{ws names:List Str}{r:Row}(h:rdMap names ws=.ok r):ws.length=6:=Decidable.byContradiction λz=>by rw[no6 z] at h;exact nomatch h
theorem of3{ws:List Str}{c:Nat}{x:List Sy}{r:Sy}(h:rdSym c x ws=.ok r):ws.length=3:=Decidable.byContradiction λz=>by rw[no3 z] at h;exact nomatch h
theorem of4{ws:List Str}{c:Nat}{x:List Re}{r:Re}(h:rdRel c x ws=.ok r):ws.length=4:=Decidable.byContradiction λz=>by rw[no4 z] at h;exact nomatch h
theorem of2{ws:List Str}{g:Str}(h:Jco ws=.ok g):∃w,ws=[w,g]/\Jbt g=true:=by
 obtain ⟨w,g',rfl⟩:=len2 (Decidable.byContradiction λz=>by rw[no2 z] at h;exact nomatch h)
 obtain ⟨h1,h2⟩:=ok_t h
 cases h2
 exact ⟨w,rfl,h1⟩
theorem len4{α:Type}{l:List α}(h:l.length=4):∃a b c d,l=[a,b,c,d]:=by
 rcases l with _ | ⟨a,_ | ⟨b,_ | ⟨c,_ | ⟨d,_ | _⟩⟩⟩⟩<;>simp at h;exact ⟨_,_,_,_,rfl⟩
section
variable{i n:Nat}{L:List Str}{s:Jaa}{a:Nat}{p:Pos}
theorem comp3{x y z:Str}{step:D->Jaa->Out (Option D)}{w:Str}{k:Int}(h:∀t∈[x,y,z],step (.str t) s=if Jbj t=true then .ok (some (.int (Ja6 t))) s else .exc w k s) :
  Ja5 (.lst [.str x,.str y,.str z]) step s=if (Jbj x&&Jbj y&&Jbj z)=true then .ok (.lst [.int (Ja6 x),.int (Ja6 y),.int (Ja6 z)]) s else .exc w k s:=by
 have e:Ja5 (.lst [.str x,.str y,.str z]) step s=((step (.str x) s).bind λe s=>match e with
  |some e=>((step (.str y) s).bind λe s=>match e with
   |some e=>((step (.str z) s).bind λe s=>match e with
    |some e=>(Out.ok [] s).bind λes s=>Out.ok (e::es) s
    |none=>Out.ok [] s).bind λes s=>Out.ok (e::es) s
   |none=>(step (.str z) s).bind λe s=>match e with
    |some e=>(Out.ok [] s).bind λes s=>Out.ok (e::es) s
    |none=>Out.ok [] s).bind λes s=>Out.ok (e::es) s
  |none=>(step (.str y) s).bind λe s=>match e with
   |some e=>((step (.str z) s).bind λe s=>match e with
    |some e=>(Out.ok [] s).bind λes s=>Out.ok (e::es) s
    |none=>Out.ok [] s).bind λes s=>Out.ok (e::es) s
   |none=>(step (.str z) s).bind λe s=>match e with
    |some e=>(Out.ok [] s).bind λes s=>Out.ok (e::es) s
    |none=>Out.ok [] s).bind λes s=>Out.ok (.lst es) s:=by kernel_rfl
 rw[e,h x (by simp)]
 cases Jbj x with
 |false=>rfl
 |true=>
  simp only[if_true,bok]
  rw[h y (by simp)]
  cases Jbj y with
  |false=>rfl
  |true=>
   simp only[if_true,bok]
   rw[h z (by simp)]
   cases Jbj z<;>rfl
noncomputable abbrev at_(L:List Str)(k:Nat):M:=.dict ["lines","at"] [.lst (L.map .str),.int k]
theorem Je0(h:Rd i L (a+1:Nat) s)(B:Bd L)(c:Nat){l:Str}(e:L[a]?=some l):cfn G (n+2) 214 [.obj 236 i,.int c] s=if (Wd l).length=c then .ok (.lst ((Wd l).map .str)) (s.set i (at_ L (a+2))) else .exc "words" (a+1:Nat) s:=by
 rw[take h B,e]
theorem Jie(h:Rd i L (a+1:Nat) s):Rd i L (a+2:Nat) (s.set i (at_ L (a+2))):=rd_set h _
noncomputable def rE{α:Type}(r:Except Str α)(k:Int)(s:Jaa)(f:α->Out D):Out D:=match r with
 |.error w=>.exc w k s
 |.ok x=>f x
section
variable{α β:Type}{f:α->Out D}{X:Except Str α}{w:Str}{b:Bool}
theorem Jhi{k:Int}{x:Out β}{d:β}{K:β->Jaa->Out D}(e:x=if b=true then .ok d s else .exc w k s)(h:K d s=rE X k s f):x.bind K=rE (if b=true then X else .error w) k s f:=by
 rw[e]
 cases b with
 |true=>exact h
 |false=>rfl
theorem kk:(((a+2:Nat):Int) - 1)=((a+1:Nat):Int):=ar247
theorem Jme(h1:Rd i L (a+2:Nat) s){q:D->Jaa->Out D}(h:q D.none s=rE X (a+1:Nat) s f):((brD (.bool b) (if Jah G (.obj 236 i) "refuse" s=true then ((Jak G (cfn G (n+1)) p (.obj 236 i) "refuse" [.str w] s).bind λx16 s=>Out.ok D.none s) else .bad) (.ok D.none s)).bind q)=rE (if b=true then .error w else X) (a+1:Nat) s f:=by
 refine (Jge h1 w b q).trans ?_
 rw[kk]
 cases b with
 |true=>rfl
 |false=>exact h
theorem Jk0(h1:Rd i L (a+2:Nat) s){q:D->Jaa->Out D}(h:b=true->q D.none s=rE X (a+1:Nat) s f):((brD (.bool (!b)) (if Jah G (.obj 236 i) "refuse" s=true then ((Jak G (cfn G (n+1)) p (.obj 236 i) "refuse" [.str w] s).bind λx16 s=>Out.ok D.none s) else .bad) (.ok D.none s)).bind q)=rE (if b=true then X else .error w) (a+1:Nat) s f:=by
 refine (Jge h1 w (!b) q).trans ?_
 rw[kk]
 cases b with
 |true=>exact h rfl
 |false=>rfl
theorem Ji5(h1:Rd i L (a+2:Nat) s){t:Str}(ht:t.length<=line):Jak G (cfn G (n+2)) p (.obj 236 i) "name" [.str t] s=if Jc4 t=true then .ok (.str t) s else .exc "name" (a+1:Nat) s:=by
 rw[m_name,name h1 ht,kk]
theorem Jfr(h1:Rd i L (a+2:Nat) s){t:Str}(ht:t.length<=line):Jak G (cfn G (n+2)) p (.obj 236 i) "number" [.str t] s=if Jbj t=true then .ok (.int (Ja6 t)) s else .exc "number" (a+1:Nat) s:=by
 rw[Jii,number h1 ht,kk]
end
section
variable{w0 w1 w2 w3 w4 w5:Str}
theorem q1_6:item (.lst ([w0,w1,w2,w3,w4,w5].map .str)) (.int 1) s=.ok (.str w1) s:=by kernel_rfl
theorem q2_6:item (.lst ([w0,w1,w2,w3,w4,w5].map .str)) (.int 2) s=.ok (.str w2) s:=by kernel_rfl
theorem q3_6:slice (.lst ([w0,w1,w2,w3,w4,w5].map .str)) (.int 3) D.none D.none s=.ok (.lst [.str w3,.str w4,.str w5]) s:=by kernel_rfl
theorem map_in(h1:Rd i L (a+2:Nat) s)(hw:∀w∈[w0,w1,w2,w3,w4,w5],w.length<=line){names:List Str}(hn:names.length<=line):rm1 (n+2) i (.lst (names.map .str)) (.lst ([w0,w1,w2,w3,w4,w5].map .str)) s=rE (rdMap names [w0,w1,w2,w3,w4,w5]) (a+1:Nat) s λr=>.ok (rowD r) s:=by
 have l3:∀t∈[w3,w4,w5],t.length<=line:=λt h=>hw t (.tail _ (.tail _ (.tail _ h)))
 unfold rm1
 refine (if_pos (Jk5 h1)).trans ((bcg q1_6).trans (Jhi (Ji5 h1 (hw w1 (.tail _ (.head _)))) ?_))
 unfold rm2
 refine (bcg (c_inl hn)).trans (Jme h1 ?_)
 unfold rm3
 refine (bcg q3_6).trans (Jhi (comp3 (w:="number") λt ht=>?_) ?_)
 ·refine (if_pos (Jd3 h1)).trans ?_
  rw[Jfr h1 (l3 t ht)]
  cases Jbj t<;>rfl
 unfold rm4
 exact (bcg q2_6).trans ((bcg (Jrd (hw w2 (.tail _ (.tail _ (.head _)))))).trans ((bcg (Jh5 _)).trans (Jk0 h1 λ_=>(bcg q2_6).trans rfl)))
end
theorem read_map(h:Rd i L (a+1:Nat) s)(B:Bd L){l:Str}(e:L[a]?=some l){names:List Str}(hn:names.length<=line):cfn G (n+3) 245 [.obj 236 i,.lst (names.map .str)] s=match rdMap names (Wd l) with
  |.error w=>.exc w (a+1:Nat) (if (Wd l).length=6 then s.set i (at_ L (a+2)) else s)
  |.ok r=>.ok (rowD r) (s.set i (at_ L (a+2))):=by
 rw[w245,if_pos (Jfk h),Jhl]
 refine (congrArg (Out.bind · _) (Je0 h B 6 e)).trans ?_
 by_cases hc:(Wd l).length=6
 ·rw[if_pos hc,if_pos hc]
  have hw:=λw (h:w∈Wd l)=>B.w (List.mem_of_getElem? e) h
  obtain ⟨w0,w1,w2,w3,w4,w5,ew⟩:=len6 hc
  rw[ew] at hw ⊢
  refine (map_in (n:=n) (Jie h) hw hn).trans ?_
  cases rdMap names [w0,w1,w2,w3,w4,w5]<;>rfl
 ·rw[if_neg hc,if_neg hc,no6 hc]
  rfl
end
end
section
open PySem.NumText
theorem Jek(n k:Nat):clipAt n (k:Int)=min k n:=by
 unfold clipAt
 rw[if_neg (by exact ar41)]
 exact ar371
theorem Jr4{α:Type}(l:List α){k m:Nat}(h1:k<=m)(h2:m<=l.length):cut l (some (k:Int)) (some (m:Int))=(l.drop k).take (m - k):=by
 show (l.drop (clipAt l.length (k:Int))).take (clipAt l.length (m:Int) - clipAt l.length (k:Int))=_
 rw[Jek,Jek,Nat.min_eq_left h2,Nat.min_eq_left (by exact ar174 h1 h2)]
theorem Jm6{α:Type}(l:List α)(m:Nat):cut l none (some (m:Int))=l.take m:=by
 show (l.drop 0).take (clipAt l.length (m:Int) - 0)=_
 rw[Jek,List.drop_zero,Nat.sub_zero,<-List.take_eq_take_min]
theorem Jm7{α:Type}(l:List α)(k:Nat):cut l (some (k:Int)) none=l.drop k:=by
 show (l.drop (clipAt l.length (k:Int))).take (l.length - clipAt l.length (k:Int))=_
 rw[Jek]
 by_cases h:k<=l.length
 ·rw[Nat.min_eq_left h,List.take_of_length_le (by rw[List.length_drop];exact ar67)]
 ·rw[Nat.min_eq_right (by exact ar77 h),Nat.sub_self,List.take_zero,List.drop_eq_nil_of_le (by exact ar77 h)]
theorem rng2(m:Nat):Builtin.Range.rangeSize 0 ((2*m:Nat):Int) 2=(m:Int):=by
 unfold Builtin.Range.rangeSize
 rw[if_pos (by decide)]
 by_cases h:m=0
 ·subst h;decide
 ·rw[if_pos (by exact ar152 h)];exact ar300
theorem rng1(m:Nat):Builtin.Range.rangeSize 0 (m:Int) 1=(m:Int):=by
 unfold Builtin.Range.rangeSize
 rw[if_pos (by decide)]
 by_cases h:m=0
 ·subst h;decide
 ·rw[if_pos (by exact ar108 h)];exact ar265
section
variable{s:Jaa}
theorem Jhr{m:Nat}(h:2*m<=line):Jal s (.rng 0 ((2*m:Nat):Int) 2)=some ((List.range m).map λi=>.int ((2*i:Nat):Int)):=by
 show (if (0:Int).natAbs<=line/\((2*m:Nat):Int).natAbs<=line/\((2:Int)=1\/(2:Int)=2) then some ((List.range (Builtin.Range.rangeSize 0 ((2*m:Nat):Int) 2).toNat).map λ(i:Nat)=>D.int (0+(i:Int)*2)) else none)=_
 rw[if_pos ⟨by decide,by exact ar307 h,by decide⟩,rng2]
 refine congrArg some (List.map_congr_left λi _=>?_)
 congr 1;exact ar232
theorem Jc6{m:Nat}(h:m<=line):Jal s (.rng 0 (m:Int) 1)=some ((List.range m).map λi=>.int (i:Int)):=by
 show (if (0:Int).natAbs<=line/\((m:Nat):Int).natAbs<=line/\((1:Int)=1\/(1:Int)=2) then some ((List.range (Builtin.Range.rangeSize 0 (m:Int) 1).toNat).map λ(i:Nat)=>D.int (0+(i:Int)*1)) else none)=_
 rw[if_pos ⟨by decide,by exact ar244 h,by decide⟩,rng1]
 refine congrArg some (List.map_congr_left λi _=>?_)
 congr 1;exact ar164
theorem Jmn{m:Nat}(h:m<=line):Jai (.type "range") [.int (m:Int)] s=.ok (.rng 0 (m:Int) 1) s:=Jel (by exact ar244 h)
theorem k_rng2{m:Nat}(h:m<=line):Jai (.type "range") [.int 0,.int (m:Int),.int 2] s=.ok (.rng 0 (m:Int) 2) s:=Jel ⟨by decide,by decide,by exact ar244 h,by decide⟩
theorem Joo{step:D->Jaa->Out (Option D)}{f:Nat->D}{d:D}{m:Nat}{q:Nat->D}(hi:Jal s d=some ((List.range m).map q))(hq:∀i j,q i=q j->i=j)(hl:m<=line)(h:∀j<m,step (q j) s=.ok (some (f j)) s):Ja5 d step s=.ok (.lst ((List.range m).map f)) s:=by
 classical
 refine (Jba (g:=λd=>if h:∃j,q j=d then some (f h.choose) else none) hi (by rw[List.length_map,List.length_range];exact hl) ?_).trans ?_
 ·intro d hd
  obtain ⟨j,hj,rfl⟩:=List.mem_map.mp hd
  rw[h j (List.mem_range.mp hj)]
  have hx:∃i,q i=q j:=⟨j,rfl⟩
  rw[dif_pos hx,hq _ _ hx.choose_spec]
 ·rw[List.filterMap_map]
  congr 2
  generalize List.range m=r
  induction r with
  |nil=>rfl
  |cons a r ih=>
   have hx:∃i,q i=q a:=⟨a,rfl⟩
   rw[List.filterMap_cons_some (b:=f a) (by show (if h:∃j,q j=q a then _ else _)=_;rw[dif_pos hx,hq _ _ hx.choose_spec]),ih]
   rfl
theorem Jka{step:D->Jaa->Out (Option D)}{f:Nat->D}{m:Nat}(hl:2*m<=line)(h:∀j<m,step (.int ((2*j:Nat):Int)) s=.ok (some (f j)) s):Ja5 (.rng 0 ((2*m:Nat):Int) 2) step s=.ok (.lst ((List.range m).map f)) s:=
 Joo (Jhr hl) (λi j e=>by injection e with e;exact ar305 e) (by exact ar96 hl) h
end
noncomputable def hv(c:Nat):Nat:=if c<=57 then c - 48 else c - 87
noncomputable def hexN:List Nat->List Nat
 |a::b::r=>(16*hv a+hv b)::hexN r
 |_=>[]
theorem Jin{c:Nat}(h:inS Hex c=true):(48<=c/\c<=57)\/(97<=c/\c<=102):=by
 have h:c∈Cs Hex:=of_decide_eq_true h
 have e:Cs Hex=[48,49,50,51,52,53,54,55,56,57,97,98,99,100,101,102]:=by decide +kernel
 rw[e] at h
 exact of_decide_eq_true ((List.all_eq_true.mp (by decide:([48,49,50,51,52,53,54,55,56,57,97,98,99,100,101,102]:List Nat).all (λc=>decide ((48<=c/\c<=57)\/(97<=c/\c<=102)))=true)) c h)
theorem Joe{c:Nat}(h:inS Hex c=true):hv c<16:=by
 have:=Jin h
 unfold hv;split<;>(first | exact ar82 (by assumption) | exact ar329 this)
theorem Jf6{c:Nat}(h:inS Hex c=true):Txt.find Hex (sg c)=(hv c:Int):=by
 have h1:∀d:Fin 10,Txt.find Hex (sg (48+d.val))=(d.val:Int):=by decide +kernel
 have h2:∀d:Fin 6,Txt.find Hex (sg (97+d.val))=((10+d.val:Nat):Int):=by decide +kernel
 unfold hv
 rcases Jin h with h | h
 ·have:=h1 ⟨c - 48,by exact ar81 h.2⟩
  simp only[show 48+(c - 48)=c by exact ar131 h.1] at this
  rw[if_pos h.2];exact this
 ·have:=h2 ⟨c - 97,by exact ar80 h.2⟩
  simp only[show 97+(c - 97)=c by exact ar132 h.1] at this
  rw[if_neg (by exact ar55 h.1),this];congr 1;exact ar178 h.1
theorem Jc8:∀(m:Nat) (l:List Nat),l.length=2*m->hexN l=(List.range m).map λj=>16*hv (l.getD (2*j) 0)+hv (l.getD (2*j+1) 0)
 |0,[],_=>rfl
 |m+1,a::b::r,h=>by
  show (16*hv a+hv b)::hexN r=_
  rw[List.range_succ_eq_map,List.map_cons,List.map_map,Jc8 m r (by simp at h;exact ar258 h)]
  refine congrArg ((16*hv a+hv b)::·) (List.map_congr_left λj _=>?_)
  show _=16*hv ((a::b::r).getD (2*(j+1)) 0)+hv ((a::b::r).getD (2*(j+1)+1) 0)
  rw[show 2*(j+1)=(2*j+1)+1 by exact ar130]
  rfl
 |0,_::_,h=>by simp at h
 |m+1,[],h=>by simp at h
 |m+1,[_],h=>by simp at h;exact (ar92 h).elim
theorem Jip:∀(m:Nat) (l:List Nat),l.length=2*m->(hexN l).length=m:=λm l h=>by rw[Jc8 m l h,List.length_map,List.length_range]
theorem Jlg:∀(l:List Nat),l.all (inS Hex)=true->∀x∈hexN l,x<256
 |[],_,x,h=>by cases h
 |[_],_,x,h=>by cases h
 |a::b::r,hl,x,h=>by
  simp only[List.all_cons,Bool.and_eq_true] at hl
  have ha:=Joe hl.1
  have hb:=Joe hl.2.1
  rcases List.mem_cons.mp h with rfl | h
  ·exact ar250 ha hb
  ·exact Jlg r hl.2.2 x h
theorem Jmx:∀(m:Nat) (l r:List Nat),l.length=2*m->hexN (l++r)=hexN l++hexN r
 |0,[],r,_=>rfl
 |m+1,a::b::l,r,h=>by
  show (16*hv a+hv b)::hexN (l++r)=(16*hv a+hv b)::(hexN l++hexN r)
  rw[Jmx m l r (by simp at h;exact ar258 h)]
 |0,_::_,_,h=>by simp at h
 |m+1,[],_,h=>by simp at h
 |m+1,[_],_,h=>by simp at h;exact (ar92 h).elim
noncomputable def u8s(l:List Nat):List UInt8:=l.map Nat.toUInt8
theorem Jkg:∀(l:List Nat),(∀x∈l,x<256)->Jc0 (l.map λx:Nat=>(x:Int))=some (u8s l)
 |[],_=>rfl
 |a::r,h=>by
  show (if 0<=(a:Int)/\(a:Int)<256 then (Jc0 (r.map λx:Nat=>(x:Int))).map ((a:Int).toNat.toUInt8::·) else none)=_
  have:=h a (List.mem_cons_self ..)
  rw[if_pos (by exact ar281 this),Jkg r (λx hx=>h x (List.mem_cons_of_mem _ hx))]
  rfl
theorem Jq6{s:Jaa}{l:List Nat}(hl:l.length<=line)(h:∀x∈l,x<256):Jai (.type "bytes") [.lst ((l.map λx:Nat=>(x:Int)).map .int)] s=.ok (.bytes (u8s l).toArray) s:=by
 show Out.of ((intsOf ((l.map λx:Nat=>(x:Int)).map .int)).bind λis=>if is.length<=line then (Jc0 is).map λbs=>D.bytes bs.toArray else none) s=_
 rw[Jmu]
 show Out.of (if (l.map λx:Nat=>(x:Int)).length<=line then (Jc0 (l.map λx:Nat=>(x:Int))).map λbs=>D.bytes bs.toArray else none) s=_
 rw[if_pos (by rw[List.length_map];exact hl),Jkg l h]
 rfl
end
section
open PySem.NumText
noncomputable def octs(g:Str):List UInt8:=u8s (hexN (Cs g))
section
variable{i n:Nat}{L:List Str}{s:Jaa}{a:Nat}{p:Pos}
theorem Jcf{g:Str}(h:Jbt g=true):(Cs g).length=16:=by
 unfold Jbt at h
 rw[Bool.and_eq_true,decide_eq_true_eq] at h
 rw[Jbv];exact h.1
theorem Jgh{g:Str}(h:Jbt g=true):(Cs g).all (inS Hex)=true:=by
 unfold Jbt at h
 rw[Bool.and_eq_true] at h
 exact h.2
theorem Jps{g:Str}(hl:g.length<=line){k:Nat}(hk:k+1<(Cs g).length):slice (.str g) (.int (k:Int)) (.int ((k+2:Nat):Int)) D.none s=.ok (.str ⟨#[(Cs g).getD k 0,(Cs g).getD (k+1) 0]⟩) s:=by
 refine Eq.trans (Jel (a:=D.str ⟨(cut (Cs g) (some (k:Int)) (some ((k+2:Nat):Int))).toArray⟩) hl) ?_
 rw[Jr4 _ (by exact ar21) (by exact ar119 hk),show k+2 - k=2 by exact ar28,List.drop_eq_getElem_cons (by exact ar97 hk),List.drop_eq_getElem_cons hk]
 rw[List.getD_eq_getElem?_getD,List.getD_eq_getElem?_getD,List.getElem?_eq_getElem (by exact ar97 hk),List.getElem?_eq_getElem hk]
 rfl
theorem Jmw{c:Nat}(h:inS Hex c=true):Jbx c=some (hv c):=by
 unfold Jbx hv
 rcases Jin h with h | h
 ·rw[if_pos h,if_pos h.2]
 ·rw[if_neg (by exact ar141 h.1),if_pos h,if_neg (by exact ar55 h.1)]
theorem k_hex2{a b:Nat}(ha:inS Hex a=true)(hb:inS Hex b=true):Jai (.type "int") [.str ⟨#[a,b]⟩,.int 16] s=.ok (.int ((16*hv a+hv b:Nat):Int)) s:=by
 show Out.of (((Jbx a).bind λx=>(Jbx b).map λy=>((16*x+y:Nat):Int)).map D.int) s=_
 rw[Jmw ha,Jmw hb]
 rfl
theorem Jcv{l:List Nat}(h:l.all (inS Hex)=true){k:Nat}(hk:k<l.length):inS Hex (l.getD k 0)=true:=by
 rw[List.getD_eq_getElem?_getD,List.getElem?_eq_getElem hk]
 exact List.all_eq_true.mp h _ (List.getElem_mem hk)
theorem Jnv{g:Str}(hl:g.length<=line)(h:Jbt g=true):(Ja5 (.rng 0 ((2*8:Nat):Int) 2) (λe15 s=>(Jae .Add e15 (.int 2) s).bind λx16 s=>(slice (.str g) e15 x16 D.none s).bind λx17 s=>(Jai (.type "int") [x17,(.int 16)] s).bind λx18 s=>.ok (some x18) s) s).bind (λx19 s=>(Jai (.type "bytes") [x19] s).bind λx20 s=>.ok x20 s)=.ok (.bytes (octs g).toArray) s:=by
 have hn:=Jcf h
 have ha:=Jgh h
 rw[Jka (f:=λj=>.int ((16*hv ((Cs g).getD (2*j) 0)+hv ((Cs g).getD (2*j+1) 0):Nat):Int)) (by decide) (λj hj=>?_)]
 ·have e:=Jc8 8 (Cs g) hn
  have hb:=Jq6 (s:=s) (l:=hexN (Cs g)) (by rw[Jip 8 _ hn];decide) (Jlg _ ha)
  rw[e,List.map_map,List.map_map] at hb
  refine Eq.trans (bcg (a:=D.lst _) (s:=s) rfl) (Eq.trans (bcg hb) ?_)
  rw[<-e]
  rfl
 ·refine Eq.trans (bcg (Jcq _ _)) ?_
  rw[show ((2*j:Nat):Int)+2=((2*j+2:Nat):Int) by exact ar275]
  refine Eq.trans (bcg (Jps hl (by exact ar212 hn hj))) ?_
  refine Eq.trans (bcg (k_hex2 (Jcv ha (by exact ar170 hn hj)) (Jcv ha (by exact ar212 hn hj)))) rfl
theorem oct_test{g:Str}(hg:g.length<=line):roT (.str g) s=.ok (.bool (!Jbt g)) s:=by
 have hcond:((Jae .Mult (.int 2) (.int 8) s).bind λx4 s=>Jag .NotEq (.int g.length) x4 s)=.ok (.bool (!decide (g.length=16))) s:=by
  show Out.ok (D.bool (!((g.length:Int)==16))) s=_
  rw[show ((g.length:Int)==16)=decide (g.length=16) from decide_eq_decide.mpr ar110]
 unfold roT Jbt
 refine (bcg (Jd7 hg)).trans ((bcg hcond).trans ?_)
 cases decide (g.length=16) with
 |false=>rfl
 |true=>
  show Out.bind _ _=_
  exact (bcg (Jlo Hex hg)).trans ((bcg (all_b Hex hg)).trans rfl)
theorem slot_in(h1:Rd i L (a+2:Nat) s){w0 g:Str}(hg:g.length<=line):ro1 (n+2) i (.lst ([w0,g].map .str)) s=rE (Jco [w0,g]) (a+1:Nat) s λg=>.ok (.bytes (octs g).toArray) s:=by
 have i1:item (.lst ([w0,g].map .str)) (.int 1) s=.ok (.str g) s:=by kernel_rfl
 unfold ro1
 refine (bcg i1).trans ((bcg (oct_test hg)).trans (Jk0 h1 λe=>?_))
 have ht:g.length=16:=by rw[<-Jbv];exact Jcf e
 have hl:=Jd7 (σ:=s) hg
 rw[ht] at hl
 unfold roB
 exact (bcg hl).trans ((bcg (a:=D.rng 0 ((2*8:Nat):Int) 2) (s:=s) rfl).trans (Jnv hg e))
theorem Jp3(h:Rd i L (a+1:Nat) s)(B:Bd L){l:Str}(e:L[a]?=some l):cfn G (n+3) 250 [.obj 236 i] s=match Jco (Wd l) with
  |.error w=>.exc w (a+1:Nat) (if (Wd l).length=2 then s.set i (at_ L (a+2)) else s)
  |.ok g=>.ok (.bytes (octs g).toArray) (s.set i (at_ L (a+2))):=by
 rw[w250,if_pos (Jfk h),Jhl]
 refine (congrArg (Out.bind · _) (Je0 h B 2 e)).trans ?_
 by_cases hc:(Wd l).length=2
 ·rw[if_pos hc,if_pos hc]
  have hw:=λw (h:w∈Wd l)=>B.w (List.mem_of_getElem? e) h
  obtain ⟨w0,g,ew⟩:=len2 hc
  rw[ew] at hw ⊢
  refine (slot_in (n:=n) (w0:=w0) (Jie h) (hw g (.tail _ (.head _)))).trans ?_
  cases Jco [w0,g]<;>rfl
 ·rw[if_neg hc,if_neg hc,no2 hc]
  rfl
end
end
section
open PySem.NumText
abbrev Ls(j:Nat)(ds:List D)(s:Jaa):Prop:=s[j]?=some (.list ds)
section
variable{i j n:Nat}{L:List Str}{s:Jaa}{a:Nat}{p:Pos}
theorem Jbk{ds:List D}(h:Ls j ds s):Jau s (.loc j)=some ds:=Jhn h
theorem Jrz{d:D}{ds:List D}(hd:Jau s d=some ds)(hl:ds.length<=line):eqL s d (.lst [])=some ds.isEmpty:=by
 unfold eqL
 rw[hd]
 show (if ([]:List D)=[] then opt (ds.length<=line) ds.isEmpty else (Jb5 ds).bind λu=>(Jb5 []).bind λv=>opt (u.length<=line/\v.length<=line) (u==v))=_
 exact (if_pos rfl).trans (if_pos hl)
theorem loc_eq{ds:List D}(h:Ls j ds s)(hl:ds.length<=line):Jag .Eq (.loc j) (.lst []) s=.ok (.bool ds.isEmpty) s:=
 congrArg (λx=>Out.of (Option.map (λc=>D.bool c) x) s) ((Jrz (Jbk h) hl:_=some ds.isEmpty))
theorem Jqv{ds:List D}(h:Ls j ds s)(hl:ds.length<=line):Jag .NotEq (.loc j) (.lst []) s=.ok (.bool !ds.isEmpty) s:=
 congrArg (λx=>Out.of (Option.map (λc=>D.bool !c) x) s) ((Jrz (Jbk h) hl:_=some ds.isEmpty))
theorem Jmc{m:Nat}(h:0<m):seqIndex? (-1) m=some (m - 1):=by
 unfold seqIndex?
 simp
 exact ar440 h
theorem Jf0{ds:List D}{d:D}(h:Ls j ds s)(hl:ds.length<=line)(hd:ds.getLast?=some d):item (.loc j) (.int (-1)) s=.ok d s:=by
 show Out.of ((Jau s (.loc j)).bind λds=>(seqIndex? (-1) ds.length).bind λk=>if ds.length<=line then ds[k]? else none) s=_
 have hne:ds≠[]:=by rintro rfl;cases hd
 rw[Jbk h]
 show Out.of ((seqIndex? (-1) ds.length).bind λk=>if ds.length<=line then ds[k]? else none) s=_
 rw[Jmc (List.length_pos_iff.mpr hne)]
 show Out.of (if ds.length<=line then ds[ds.length - 1]? else none) s=_
 rw[if_pos hl,<-List.getLast?_eq_getElem?,hd]
 rfl
theorem Jfn(c v:Nat):decide ((c:Int)<=(v:Int))=decide (c<=v):=decide_eq_decide.mpr (by exact ar217)
theorem Ji9(v:Nat):((v:Int)==0)=(v==0):=by
 rw[Bool.eq_iff_iff,beq_iff_eq,beq_iff_eq];exact ar89
theorem Jpi{x:List Sy}(h:Ls j (x.map symD) s)(hl:x.length<=line)(v c:Nat):((Jag .GtE (.int v) (.int c) s).bind λx12 s=>brD x12 (.ok x12 s) (((Jag .NotEq (.loc j) (.lst []) s).bind λx13 s=>brD x13 (((unop .USub (.int 1) s).bind λx14 s=>(item (.loc j) x14 s).bind λx15 s=>(item x15 (.int 1) s).bind λx16 s=>Jag .LtE (.int v) x16 s).bind λx17 s=>.ok x17 s) (.ok x13 s)).bind λx18 s=>brD x18 (.ok x18 s) (((Jag .Eq (.loc j) (.lst []) s).bind λx19 s=>brD x19 ((Jag .NotEq (.int v) (.int 0) s).bind λx20 s=>.ok x20 s) (.ok x19 s)).bind λx21 s=>.ok x21 s)))
  = .ok (.bool (decide (c<=v)||(match x.getLast? with | some u=>decide (v<=u.2) | none=>!(v==0)))) s:=by
 rw[c_ge,Jfn]
 have hl':(x.map symD).length<=line:=by rwa [List.length_map]
 have h1:=Jqv h hl'
 have h2:=loc_eq h hl'
 refine Eq.trans (bcg (a:=D.bool (decide (c<=v))) (s:=s) rfl) ?_
 cases decide (c<=v) with
 |true=>rfl
 |false=>
  rw[brf,Bool.false_or,h1]
  cases e:x.getLast? with
  |none=>
   obtain rfl:=List.getLast?_eq_none_iff.mp e
   refine Eq.trans (bcg (a:=D.bool false) (s:=s) rfl) ?_
   rw[brf,h2]
   show Out.ok (D.bool (!((v:Int)==0))) s=_
   rw[Ji9]
  |some u=>
   have hne:x≠[]:=by rintro rfl;cases e
   have he:(x.map symD).isEmpty=false:=by cases x with | nil=>exact absurd rfl hne | cons _ _=>rfl
   have hu:(x.map symD).getLast?=some (symD u):=by rw[List.getLast?_map,e];rfl
   rw[he] at h2 ⊢
   have h3:=Jf0 h hl' hu
   have hq:(((unop .USub (.int 1) s).bind λx14 s=>(item (.loc j) x14 s).bind λx15 s=>(item x15 (.int 1) s).bind λx16 s=>Jag .LtE (.int v) x16 s).bind λx17 s=>.ok x17 s)=.ok (.bool (decide (v<=u.2))) s:=by
    refine Eq.trans (congrArg (Out.bind · _) (bcg (a:=D.int (-1)) (s:=s) rfl)) ?_
    refine Eq.trans (congrArg (Out.bind · _) (bcg h3)) ?_
    show Out.ok (D.bool (decide ((v:Int)<=(u.2:Int)))) s=_
    rw[Jfn]
   refine Eq.trans (bcg (a:=D.bool (decide (v<=u.2))) (s:=s) ?_) ?_
   ·refine Eq.trans (bcg (a:=D.bool true) (s:=s) rfl) ?_
    rw[brt];exact hq
   ·show brD (.bool (decide (v<=u.2))) _ _=Out.ok (D.bool (decide (v<=u.2))) s
    cases decide (v<=u.2) with
    |true=>rfl
    |false=>rw[brf,h2];rfl
theorem Jp1{x:List Re}(h:Ls j (x.map relD) s)(hl:x.length<=line)(v c:Nat):((Jag .GtE (.int v) (.int c) s).bind λx9 s=>brD x9 (.ok x9 s) (((Jag .NotEq (.loc j) (.lst []) s).bind λx10 s=>brD x10 (((unop .USub (.int 1) s).bind λx11 s=>(item (.loc j) x11 s).bind λx12 s=>(item x12 (.int 0) s).bind λx13 s=>Jag .LtE (.int v) x13 s).bind λx14 s=>.ok x14 s) (.ok x10 s)).bind λx15 s=>.ok x15 s))
  = .ok (.bool (decide (c<=v)||(match x.getLast? with | some u=>decide (v<=u.1) | none=>false))) s:=by
 rw[c_ge,Jfn]
 have hl':(x.map relD).length<=line:=by rwa [List.length_map]
 have h1:=Jqv h hl'
 refine Eq.trans (bcg (a:=D.bool (decide (c<=v))) (s:=s) rfl) ?_
 cases decide (c<=v) with
 |true=>rfl
 |false=>
  rw[brf,Bool.false_or,h1]
  cases e:x.getLast? with
  |none=>
   obtain rfl:=List.getLast?_eq_none_iff.mp e
   rfl
  |some u=>
   have hne:x≠[]:=by rintro rfl;cases e
   have he:(x.map relD).isEmpty=false:=by cases x with | nil=>exact absurd rfl hne | cons _ _=>rfl
   have hu:(x.map relD).getLast?=some (relD u):=by rw[List.getLast?_map,e];rfl
   rw[he]
   have h3:=Jf0 h hl' hu
   have hq:(((unop .USub (.int 1) s).bind λx14 s=>(item (.loc j) x14 s).bind λx15 s=>(item x15 (.int 0) s).bind λx16 s=>Jag .LtE (.int v) x16 s).bind λx17 s=>.ok x17 s)=.ok (.bool (decide (v<=u.1))) s:=by
    refine Eq.trans (congrArg (Out.bind · _) (bcg (a:=D.int (-1)) (s:=s) rfl)) ?_
    refine Eq.trans (congrArg (Out.bind · _) (bcg h3)) ?_
    show Out.ok (D.bool (decide ((v:Int)<=(u.1:Int)))) s=_
    rw[Jfn]
   refine Eq.trans (bcg (a:=D.bool (decide (v<=u.1))) (s:=s) ?_) rfl
   refine Eq.trans (bcg (a:=D.bool true) (s:=s) rfl) ?_
   rw[brt];exact hq
noncomputable def tupHd:D->Option D
 |.tup (y::_)=>some y
 |_=>none
theorem fm_sym:∀x:List Sy,(x.map symD).filterMap tupHd=(x.map (·.1)).map .str
 |[]=>rfl
 |a::r=>congrArg (D.str a.1::·) (fm_sym r)
theorem Jpj{x:List Sy}(V:Jac)(h:Ls j (x.map symD) s)(hl:x.length<=line):Ja5 (.loc j) (λe6 s=>unp (tupT ["one","other"] e6 V) λV7=>ofk (V7 "one") s λx8 s=>.ok (some x8) s) s=.ok (.lst ((x.map (·.1)).map .str)) s:=by
 refine (Jba (g:=tupHd) (show Jal s (.loc j)=_ from Jbk h) (by rwa [List.length_map]) ?_).trans (congrArg (λl=>Out.ok (D.lst l) s) (fm_sym x))
 intro d hd
 obtain ⟨r,_,rfl⟩:=List.mem_map.mp hd
 show ofk (((V.set "one" (.str r.1)).set "other" (.int r.2)) "one") s _=_
 rw[Jab (by decide:("one":Str)≠"other"),Jao]
 rfl
end
end
section
open PySem.NumText
section
variable{i j n:Nat}{L:List Str}{s:Jaa}{a:Nat}{p:Pos}
section
variable{w0 w1 w2 w3:Str}
theorem q1_3:item (.lst ([w0,w1,w2].map .str)) (.int 1) s=.ok (.str w1) s:=by kernel_rfl
theorem q2_3:item (.lst ([w0,w1,w2].map .str)) (.int 2) s=.ok (.str w2) s:=by kernel_rfl
theorem sym_in(h1:Rd i L (a+2:Nat) s){x:List Sy}(hj:Ls j (x.map symD) s)(hx:x.length<=line)(hw:∀w∈[w0,w1,w2],w.length<=line)(c:Nat):rs1 (n+2) i (.loc j) (.int c) (.lst ([w0,w1,w2].map .str)) s=rE (rdSym c x [w0,w1,w2]) (a+1:Nat) s λr=>.ok (symD r) s:=by
 unfold rs1
 refine (if_pos (Jk5 h1)).trans ((bcg q1_3).trans (Jhi (Ji5 h1 (hw w1 (.tail _ (.head _)))) ?_))
 unfold rs2
 refine (if_pos (Jd3 h1)).trans ((bcg q2_3).trans (Jhi (Jfr h1 (hw w2 (.tail _ (.tail _ (.head _))))) ?_))
 unfold rs3
 exact (bcg ((bcg (Jpj _ hj hx)).trans (c_inl (by rwa [List.length_map])))).trans (Jme h1 ((bcg (Jpi hj hx (Ja6 w2) c)).trans (Jme h1 rfl)))
theorem q1_4:item (.lst ([w0,w1,w2,w3].map .str)) (.int 1) s=.ok (.str w1) s:=by kernel_rfl
theorem q2_4:item (.lst ([w0,w1,w2,w3].map .str)) (.int 2) s=.ok (.str w2) s:=by kernel_rfl
theorem q3_4:item (.lst ([w0,w1,w2,w3].map .str)) (.int 3) s=.ok (.str w3) s:=by kernel_rfl
theorem rel_in(h1:Rd i L (a+2:Nat) s){x:List Re}(hj:Ls j (x.map relD) s)(hx:x.length<=line)(hw:∀w∈[w0,w1,w2,w3],w.length<=line)(c:Nat):rr1 (n+2) i (.loc j) (.int c) (.lst ([w0,w1,w2,w3].map .str)) s=rE (rdRel c x [w0,w1,w2,w3]) (a+1:Nat) s λr=>.ok (relD r) s:=by
 unfold rr1
 refine (if_pos (Jd3 h1)).trans ((bcg q1_4).trans (Jhi (Jfr h1 (hw w1 (.tail _ (.head _)))) ?_))
 unfold rr2
 refine (if_pos (Jk5 h1)).trans ((bcg q3_4).trans (Jhi (Ji5 h1 (hw w3 (.tail _ (.tail _ (.tail _ (.head _)))))) ?_))
 unfold rr3
 refine (bcg q2_4).trans ((bcg (c_nint (a:=w2) (l:=["map","call"]) (by decide))).trans (Jk0 h1 λ_=>?_))
 unfold rr4
 exact (bcg (Jp1 hj hx (Ja6 w1) c)).trans (Jme h1 ((bcg q2_4).trans rfl))
end
theorem Jkw(h:Rd i L (a+1:Nat) s)(B:Bd L){l:Str}(e:L[a]?=some l){x:List Sy}(hj:Ls j (x.map symD) s)(hij:i≠j)(hx:x.length<=line)(c:Nat):cfn G (n+3) 255 [.obj 236 i,.loc j,.int c] s=match rdSym c x (Wd l) with
  |.error w=>.exc w (a+1:Nat) (if (Wd l).length=3 then s.set i (at_ L (a+2)) else s)
  |.ok r=>.ok (symD r) (s.set i (at_ L (a+2))):=by
 rw[w255,if_pos (Jfk h),Jhl]
 refine (congrArg (Out.bind · _) (Je0 h B 3 e)).trans ?_
 by_cases hc:(Wd l).length=3
 ·rw[if_pos hc,if_pos hc]
  have hj1:Ls j (x.map symD) (s.set i (at_ L (a+2))):=by
   unfold Ls;rw[List.getElem?_set_ne hij];exact hj
  have hw:=λw (h:w∈Wd l)=>B.w (List.mem_of_getElem? e) h
  obtain ⟨w0,w1,w2,ew⟩:=len3 hc
  rw[ew] at hw ⊢
  refine (sym_in (n:=n) (Jie h) hj1 hx hw c).trans ?_
  cases rdSym c x [w0,w1,w2]<;>rfl
 ·rw[if_neg hc,if_neg hc,no3 hc]
  rfl
theorem Jgf(h:Rd i L (a+1:Nat) s)(B:Bd L){l:Str}(e:L[a]?=some l){x:List Re}(hj:Ls j (x.map relD) s)(hij:i≠j)(hx:x.length<=line)(c:Nat):cfn G (n+3) 262 [.obj 236 i,.loc j,.int c] s=match rdRel c x (Wd l) with
  |.error w=>.exc w (a+1:Nat) (if (Wd l).length=4 then s.set i (at_ L (a+2)) else s)
  |.ok r=>.ok (relD r) (s.set i (at_ L (a+2))):=by
 rw[w262,if_pos (Jfk h),Jhl]
 refine (congrArg (Out.bind · _) (Je0 h B 4 e)).trans ?_
 by_cases hc:(Wd l).length=4
 ·rw[if_pos hc,if_pos hc]
  have hj1:Ls j (x.map relD) (s.set i (at_ L (a+2))):=by
   unfold Ls;rw[List.getElem?_set_ne hij];exact hj
  have hw:=λw (h:w∈Wd l)=>B.w (List.mem_of_getElem? e) h
  obtain ⟨w0,w1,w2,w3,ew⟩:=len4 hc
  rw[ew] at hw ⊢
  refine (rel_in (n:=n) (Jie h) hj1 hx hw c).trans ?_
  cases rdRel c x [w0,w1,w2,w3]<;>rfl
 ·rw[if_neg hc,if_neg hc,no4 hc]
  rfl
end
end
section
open PySem.NumText
noncomputable def secs{α:Type}(word:Str)(step:α->List Str->Except Str α):List Str->Nat->α->Except (Str×Nat) (Nat×α)
 |[],a,_=>.error ("a line lacks",a+1)
 |l::r,a,x=>if ((Wd l).head?==some word)=true then (match step x (Wd l) with
  |.error w=>.error (w,a+1)
  |.ok x'=>secs word step r (a+1) x') else .ok (a,x)
noncomputable def St(σ:Jaa)(L:List Str)(a:Nat)(ms:List Row)(ss:List Sy)(rs:List Re):Jaa:=σ++[at_ L (a+1),.list (ms.map rowD),.list (ss.map symD),.list (rs.map relD)]
section
variable{σ:Jaa}{L:List Str}{a n:Nat}{ms:List Row}{ss:List Sy}{rs:List Re}
theorem St.rd:Rd σ.length L (a+1:Nat) (St σ L a ms ss rs):=by
 unfold Rd St
 rw[List.getElem?_append_right (Nat.le_refl _),Nat.sub_self]
 rfl
theorem St.at1:Ls (σ.length+1) (ms.map rowD) (St σ L a ms ss rs):=by
 unfold Ls St
 rw[List.getElem?_append_right (by exact ar20),Nat.add_sub_cancel_left]
 rfl
theorem St.at2:Ls (σ.length+2) (ss.map symD) (St σ L a ms ss rs):=by
 unfold Ls St
 rw[List.getElem?_append_right (by exact ar21),Nat.add_sub_cancel_left]
 rfl
theorem St.at3:Ls (σ.length+3) (rs.map relD) (St σ L a ms ss rs):=by
 unfold Ls St
 rw[List.getElem?_append_right (by exact ar22),Nat.add_sub_cancel_left]
 rfl
theorem St.next:(St σ L a ms ss rs).set σ.length (at_ L (a+2))=St σ L (a+1) ms ss rs:=by
 unfold St
 rw[List.set_append_right _ _ (Nat.le_refl _),Nat.sub_self]
 rfl
theorem St.set1(r:Row):(St σ L a ms ss rs).set (σ.length+1) (.list (ms.map rowD++[rowD r]))=St σ L a (ms++[r]) ss rs:=by
 unfold St
 rw[List.set_append_right _ _ (by exact ar20),Nat.add_sub_cancel_left,List.map_append]
 rfl
theorem St.set2(r:Sy):(St σ L a ms ss rs).set (σ.length+2) (.list (ss.map symD++[symD r]))=St σ L a ms (ss++[r]) rs:=by
 unfold St
 rw[List.set_append_right _ _ (by exact ar21),Nat.add_sub_cancel_left,List.map_append]
 rfl
theorem St.set3(r:Re):(St σ L a ms ss rs).set (σ.length+3) (.list (rs.map relD++[relD r]))=St σ L a ms ss (rs++[r]):=by
 unfold St
 rw[List.set_append_right _ _ (by exact ar22),Nat.add_sub_cancel_left,List.map_append]
 rfl
end
section
variable{s:Jaa}{j:Nat}{ds:List D}{cf:Addr->List D->Jaa->Out D}{p:Pos}
theorem Jch(h:Ls j ds s):Jah G (.loc j) "append" s=true:=by
 rw[Jhk h]
 exact (by decide:(decide (("append":Str)="append")||decide (("append":Str)="pop")||decide (("append":Str)="insert"))=true)
theorem Jjr(h:Ls j ds s)(hl:ds.length<=line)(d:D):Jak G cf p (.loc j) "append" [d] s=.ok .none (s.set j (.list (ds++[d]))):=by
 show Jbu (G.lasts p) (.loc j) "append" [d] s=_
 rw[Jgl h]
 exact if_pos hl
end
theorem Jec(test:Jac->Jaa->Out D)(body:Jac->Jaa->Out (Jac×Fl))(k:Nat)(V:Jac)(s:Jaa):Jbh test body (k+1) V s=(test V s).bind λc s=>brD c ((body V s).bind λr s'=>match r.2 with
   |.next=>Jbh test body k r.1 s'
   |.ret d=>.ok (r.1,.ret d) s') (.ok (V,.next) s):=rfl
noncomputable def Ends{α:Type}(σ:Jaa)(r:Except (Str×Nat) (Nat×α))(o:Out (Jac×Fl))(Q:Nat->α->Out (Jac×Fl)->Prop):Prop:=match r with
 |.error e=>∃τ,o=.exc e.1 (e.2:Int) (σ++τ)
 |.ok p=>Q p.1 p.2 o
noncomputable def Stp{α:Type}(σ:Jaa)(r:Except Str α)(m:Nat)(o:Out (Jac×Fl))(Q:α->Out (Jac×Fl)->Prop):Prop:=match r with
 |.error w=>∃τ,o=.exc w (m:Int) (σ++τ)
 |.ok x=>Q x o
theorem loop{α:Type}{σ:Jaa}{L:List Str}{word:Str}{step:α->List Str->Except Str α}{S:Nat->α->Jaa}{VI:Nat->α->Jac->Prop}{test:Jac->Jaa->Out D}{body:Jac->Jaa->Out (Jac×Fl)}
  (hS:∀a x,∃τ,S a x=σ++τ)
  (ht:∀a x V,VI a x V->test V (S a x)=match L[a]? with | none=>.exc "a line lacks" (a+1:Nat) (S a x) | some l=>.ok (.bool ((Wd l).head?==some word)) (S a x))
  (hb:∀a x V l,VI a x V->L[a]?=some l->Stp σ (step x (Wd l)) (a+1) (body V (S a x)) λx' o=>∃V',o=.ok (V',.next) (S (a+1) x')/\VI (a+1) x' V') :
  ∀(rem:List Str) (a:Nat) (x:α) (V:Jac) (k:Nat),L.drop a=rem->rem.length<k->VI a x V->Ends σ (secs word step rem a x) (Jbh test body k V (S a x)) λa' x' o=>∃V',o=.ok (V',.next) (S a' x')/\VI a' x' V'
 |_,_,_,_,0,_,hk,_=>absurd hk (by exact ar12)
 |[],a,x,V,k+1,hd,_,hV=>by
  obtain ⟨τ,hτ⟩:=hS a x
  refine ⟨τ,?_⟩
  rw[Jec,ht a x V hV,List.getElem?_eq_none_iff.mpr (List.drop_eq_nil_iff.mp hd),<-hτ]
  rfl
 |l::r,a,x,V,k+1,hd,hk,hV=>by
  have hlt:a<L.length:=by
   refine Nat.lt_of_not_le λh=>?_
   rw[List.drop_eq_nil_of_le h] at hd
   cases hd
  have hd2:=List.drop_eq_getElem_cons hlt
  rw[hd] at hd2
  injection hd2 with e1 e2
  have el:L[a]?=some l:=by rw[List.getElem?_eq_getElem hlt,<-e1]
  unfold secs
  have hw:Jbh test body (k+1) V (S a x)=brD (.bool ((Wd l).head?==some word)) ((body V (S a x)).bind λr s'=>match r.2 with
   |.next=>Jbh test body k r.1 s'
   |.ret d=>.ok (r.1,.ret d) s') (.ok (V,.next) (S a x)):=by
   rw[Jec,ht a x V hV,el]
   rfl
  rw[hw]
  cases hh:((Wd l).head?==some word) with
  |false=>exact ⟨V,rfl,hV⟩
  |true=>
   rw[if_pos rfl,brt]
   have hbb:=hb a x V l hV el
   cases es:step x (Wd l) with
   |error w=>
    rw[es] at hbb
    obtain ⟨τ,eb⟩:=hbb
    exact ⟨τ,by rw[eb];rfl⟩
   |ok x'=>
    rw[es] at hbb
    obtain ⟨V',eb,hV'⟩:=hbb
    rw[eb]
    exact loop hS ht hb r (a+1) x' V' k e2.symm (by simp at hk;exact ar68 hk) hV'
end
section
open PySem.NumText
noncomputable def snoc{β:Type}(r:Except Str β)(x:List β):Except Str (List β):=match r with
 |.error w=>.error w
 |.ok y=>.ok (x++[y])
noncomputable def Jdi(x:List Row)(ws:List Str):Except Str (List Row):=snoc (rdMap (x.map (·.1)) ws) x
noncomputable def Jbi(x:List Str)(ws:List Str):Except Str (List Str):=snoc (Jco ws) x
noncomputable def Jb8(c:Nat)(x:List Sy)(ws:List Str):Except Str (List Sy):=snoc (rdSym c x ws) x
noncomputable def Jbw(c:Nat)(x:List Re)(ws:List Str):Except Str (List Re):=snoc (rdRel c x ws) x
noncomputable def Jam(fs:List Str):List UInt8:=fs.flatMap octs
structure VB(σ:Jaa)(fs:List Str)(V:Jac):Prop where
 rd:V "reader"=some (.obj 236 σ.length)
 ms:V "maps"=some (.loc (σ.length+1))
 os:V "octets"=some (.bytes (Jam fs).toArray)
 ss:V "symbols"=some (.loc (σ.length+2))
 rs:V "relocations"=some (.loc (σ.length+3))
 ok:∀g∈fs,Jbt g=true
section
variable{σ:Jaa}{L:List Str}{n:Nat}{ms:List Row}{ss:List Sy}{rs:List Re}{fs:List Str}
theorem Jcl(a:Nat)(ms:List Row)(ss:List Sy)(rs:List Re):∃τ,St σ L a ms ss rs=σ++τ:=⟨_,rfl⟩
theorem Jma{a:Nat}(c:Prop)[Decidable c]:∃τ,(if c then (St σ L a ms ss rs).set σ.length (at_ L (a+2)) else St σ L a ms ss rs)=σ++τ:=by
 by_cases h:c
 ·rw[if_pos h,St.next];exact Jcl _ _ _ _
 ·rw[if_neg h];exact Jcl _ _ _ _
theorem Jh6{a:Nat}{V:Jac}{w:Str}{p:Pos}(B:Bd L)(hV:V "reader"=some (.obj 236 σ.length)):rT (n+2) p w V (St σ L a ms ss rs)=match L[a]? with | none=>.exc "a line lacks" (a+1:Nat) (St σ L a ms ss rs) | some l=>.ok (.bool ((Wd l).head?==some w)) (St σ L a ms ss rs):=by
 unfold rT
 rw[hV,Jad,if_pos (ok_next St.rd),m_next,is_next St.rd B]
 cases L[a]?<;>rfl
theorem Jpy{s:Jaa}{j:Nat}{x:List Row}(h:Ls j (x.map rowD) s)(hl:x.length<=line):Ja5 (.loc j) (λe16 s=>(attr G.fld e16 "name" s).bind λx17 s=>.ok (some x17) s) s=.ok (.lst ((x.map (·.1)).map .str)) s:=by
 refine (Jba (g:=λd=>match d with | .inst _ _ (y::_)=>some y | _=>none) (show Jal s (.loc j)=_ from Jbk h) (by rwa [List.length_map]) ?_).trans (congrArg (λl=>Out.ok (D.lst l) s) ?_)
 ·intro d hd
  obtain ⟨r,_,rfl⟩:=List.mem_map.mp hd
  have e:attr G.fld (rowD r) "name" s=.ok (.str r.1) s:=by kernel_rfl
  rw[e];rfl
 ·clear h hl
  induction x with
  |nil=>rfl
  |cons a r ih=>exact congrArg (D.str a.1::·) ih
theorem maps_sec(B:Bd L){V:Jac}(hV:VB σ [] V){rem:List Str}{a:Nat}(hd:L.drop a=rem):Ends σ (secs "map" Jdi rem a []) (Jbh (rT (n+3) ⟨155,10,155,31⟩ "map") (rM (n+3)) G.turns V (St σ L a [] [] [])) λa' x' o=>∃V',o=.ok (V',.next) (St σ L a' x' [] [])/\x'.length<=a'/\VB σ [] V':=by
 refine loop (σ:=σ) (L:=L) (word:="map") (step:=Jdi) (S:=λa x=>St σ L a x [] []) (VI:=λa x V=>x.length<=a/\VB σ [] V) (λa x=>Jcl _ _ _ _) ?_ ?_ rem a [] V G.turns hd (by rw[<-hd,List.length_drop];have:=B.n;show _<line+2;exact ar161 this) ⟨Nat.zero_le _,hV⟩
 ·intro a x V h
  exact Jh6 B h.2.rd
 intro a x V l h el
 have ha:=(List.getElem?_eq_some_iff.mp el).1
 have hxl:x.length<=line:=by have:=h.1;have:=B.n;exact ar284 ha (by assumption) this
 have e:∀s,s=St σ L a x [] []->rM (n+3) V s=(cfn G (n+3) 245 [.obj 236 σ.length,.lst ((x.map (·.1)).map .str)] s).bind λx19 s=>(Jak G (cfn G (n+3)) ⟨156,8,156,65⟩ (.loc (σ.length+1)) "append" [x19] s).bind λx20 s=>Out.ok (V,Fl.next) s:=by
  rintro s rfl
  unfold rM
  simp only[h.2.ms,h.2.rd,Jad,if_pos (Jch St.at1),Jpy St.at1 hxl,bok]
 have r:=read_map (n:=n) (St.rd (σ:=σ) (ms:=x) (ss:=[]) (rs:=[])) B el (names:=x.map (·.1)) (by rwa [List.length_map])
 unfold Jdi snoc
 cases er:rdMap (x.map (·.1)) (Wd l) with
 |error w=>
  rw[er] at r
  obtain ⟨τ,et⟩:=Jma (σ:=σ) (L:=L) (a:=a) (ms:=x) (ss:=[]) (rs:=[]) ((Wd l).length=6)
  exact ⟨τ,by rw[e _ rfl,r,<-et];rfl⟩
 |ok y=>
  rw[er,St.next] at r
  refine ⟨V,?_,by rw[List.length_append];have:=h.1;show _+1<=_;exact ar125 this,h.2⟩
  rw[e _ rfl,r]
  show ((Jak G (cfn G (n+3)) ⟨156,8,156,65⟩ (.loc (σ.length+1)) "append" [rowD y] (St σ L (a+1) x [] [])).bind _)=_
  rw[Jjr St.at1 (by rwa [List.length_map]),St.set1]
  rfl
end
end
section
open PySem.NumText
section
variable{σ:Jaa}{L:List Str}{n:Nat}{ms:List Row}{ss:List Sy}{rs:List Re}{fs:List Str}
theorem Jef{g:Str}(h:Jbt g=true):(octs g).length=8:=by
 unfold octs u8s
 rw[List.length_map,Jip 8 _ (Jcf h)]
theorem Jea:∀{fs:List Str},(∀g∈fs,Jbt g=true)->(Jam fs).length=8*fs.length
 |[],_=>rfl
 |g::r,h=>by
  show (octs g++Jam r).length=_
  rw[List.length_append,Jef (h g (List.mem_cons_self ..)),Jea (λx hx=>h x (List.mem_cons_of_mem _ hx)),List.length_cons]
  exact ar107
theorem Jkr{ws:List Str}{g:Str}(h:Jco ws=.ok g):Jbt g=true:=by
 obtain ⟨_,_,h⟩:=of2 h
 exact h
theorem k_cnt{s:Jaa}(h:∀g∈fs,Jbt g=true)(hf:8*fs.length<=line):Jai (.builtin "len") [.bytes (Jam fs).toArray] s=.ok (.int ((8*fs.length:Nat):Int)) s:=by
 rw[k_lenb (by rw[List.size_toArray,Jea h];exact hf),List.size_toArray,Jea h]
theorem div8{s:Jaa}(k:Nat):Jae .FloorDiv (.int ((8*k:Nat):Int)) (.int 8) s=.ok (.int (k:Int)) s:=by
 rw[b_div (by decide)]
 congr 2
 rw[Int.fdiv_eq_ediv_of_nonneg _ (by decide)]
 exact ar191
theorem slot_sec(B:Bd L){V:Jac}(hV:VB σ [] V){rem:List Str}{a:Nat}(hd:L.drop a=rem):Ends σ (secs "slot" Jbi rem a []) (Jbh (rT (n+3) ⟨157,10,157,32⟩ "slot") (rS (n+3)) G.turns V (St σ L a ms [] [])) λa' x' o=>∃V',o=.ok (V',.next) (St σ L a' ms [] [])/\x'.length<=a'/\VB σ x' V':=by
 refine loop (σ:=σ) (L:=L) (word:="slot") (step:=Jbi) (S:=λa x=>St σ L a ms [] []) (VI:=λa x V=>x.length<=a/\VB σ x V) (λa x=>Jcl _ _ _ _) ?_ ?_ rem a [] V G.turns hd (by rw[<-hd,List.length_drop];have:=B.n;show _<line+2;exact ar161 this) ⟨Nat.zero_le _,hV⟩
 ·intro a x V h
  exact Jh6 B h.2.rd
 intro a x V l h el
 have ha:=(List.getElem?_eq_some_iff.mp el).1
 have e:∀s,s=St σ L a ms [] []->rS (n+3) V s=(cfn G (n+3) 250 [.obj 236 σ.length] s).bind λx29 s=>(Jae .Add (.bytes (Jam x).toArray) x29 s).bind λx30 s=>Out.ok ((V.set "octets" x30),Fl.next) s:=by
  rintro s rfl
  unfold rS
  simp only[h.2.rd,h.2.os,Jad]
 have r:=Jp3 (n:=n) (St.rd (σ:=σ) (ms:=ms) (ss:=[]) (rs:=[])) B el
 unfold Jbi snoc
 cases er:Jco (Wd l) with
 |error w=>
  rw[er] at r
  obtain ⟨τ,et⟩:=Jma (σ:=σ) (L:=L) (a:=a) (ms:=ms) (ss:=[]) (rs:=[]) ((Wd l).length=2)
  exact ⟨τ,by rw[e _ rfl,r,<-et];rfl⟩
 |ok y=>
  rw[er,St.next] at r
  have hy:=Jkr er
  have hall:∀g∈x++[y],Jbt g=true:=λg hg=>by
   rcases List.mem_append.mp hg with hg | hg
   ·exact h.2.ok g hg
   ·rw[List.mem_singleton.mp hg];exact hy
  have hsz:=Jea hall
  refine ⟨V.set "octets" (.bytes (Jam (x++[y])).toArray),?_,by rw[List.length_append];have:=h.1;show _+1<=_;exact ar125 this,?_⟩
  ·rw[e _ rfl,r]
   show ((Jae .Add (.bytes (Jam x).toArray) (.bytes (octs y).toArray) (St σ L (a+1) ms [] [])).bind _)=_
   have ea:Jam (x++[y])=Jam x++octs y:=by
    unfold Jam;rw[List.flatMap_append,List.flatMap_singleton]
   rw[b_addb (by
    have h2:=congrArg List.length ea
    rw[hsz,List.length_append,List.length_append] at h2
    rw[List.size_toArray,List.size_toArray,<-h2]
    have:=h.1;have:=B.n16;show 8*(x.length+1)<=line;exact ar370 ha (by assumption) this),ea,List.append_toArray]
   rfl
  ·exact ⟨(Jab (by decide)).trans h.2.rd,(Jab (by decide)).trans h.2.ms,Jao _ _ _,(Jab (by decide)).trans h.2.ss,(Jab (by decide)).trans h.2.rs,hall⟩
theorem sym_sec(B:Bd L){V:Jac}(hV:VB σ fs V)(hf:8*fs.length<=line){rem:List Str}{a:Nat}(hd:L.drop a=rem):Ends σ (secs "symbol" (Jb8 fs.length) rem a []) (Jbh (rT (n+3) ⟨159,10,159,34⟩ "symbol") (rY (n+3)) G.turns V (St σ L a ms [] [])) λa' x' o=>∃V',o=.ok (V',.next) (St σ L a' ms x' [])/\x'.length<=a'/\VB σ fs V':=by
 refine loop (σ:=σ) (L:=L) (word:="symbol") (step:=Jb8 fs.length) (S:=λa x=>St σ L a ms x []) (VI:=λa x V=>x.length<=a/\VB σ fs V) (λa x=>Jcl _ _ _ _) ?_ ?_ rem a [] V G.turns hd (by rw[<-hd,List.length_drop];have:=B.n;show _<line+2;exact ar161 this) ⟨Nat.zero_le _,hV⟩
 ·intro a x V h
  exact Jh6 B h.2.rd
 intro a x V l h el
 have ha:=(List.getElem?_eq_some_iff.mp el).1
 have hxl:x.length<=line:=by have:=h.1;have:=B.n;exact ar284 ha (by assumption) this
 have e:∀s,s=St σ L a ms x []->rY (n+3) V s=(cfn G (n+3) 255 [.obj 236 σ.length,.loc (σ.length+2),.int (fs.length:Nat)] s).bind λx19 s=>(Jak G (cfn G (n+3)) ⟨160,8,160,79⟩ (.loc (σ.length+2)) "append" [x19] s).bind λx20 s=>Out.ok (V,Fl.next) s:=by
  rintro s rfl
  unfold rY
  simp only[h.2.ss,h.2.rd,h.2.os,Jad,if_pos (Jch St.at2),k_cnt h.2.ok hf,div8,bok]
 have r:=Jkw (n:=n) (St.rd (σ:=σ) (ms:=ms) (ss:=x) (rs:=[])) B el (x:=x) (j:=σ.length+2) St.at2 (by exact ar18) hxl fs.length
 unfold Jb8 snoc
 cases er:rdSym fs.length x (Wd l) with
 |error w=>
  rw[er] at r
  obtain ⟨τ,et⟩:=Jma (σ:=σ) (L:=L) (a:=a) (ms:=ms) (ss:=x) (rs:=[]) ((Wd l).length=3)
  exact ⟨τ,by rw[e _ rfl,r,<-et];rfl⟩
 |ok y=>
  rw[er,St.next] at r
  refine ⟨V,?_,by rw[List.length_append];have:=h.1;show _+1<=_;exact ar125 this,h.2⟩
  rw[e _ rfl,r]
  show ((Jak G (cfn G (n+3)) ⟨160,8,160,79⟩ (.loc (σ.length+2)) "append" [symD y] (St σ L (a+1) ms x [])).bind _)=_
  rw[Jjr St.at2 (by rwa [List.length_map]),St.set2]
  rfl
theorem rel_sec(B:Bd L){V:Jac}(hV:VB σ fs V)(hf:8*fs.length<=line){rem:List Str}{a:Nat}(hd:L.drop a=rem):Ends σ (secs "relocation" (Jbw fs.length) rem a []) (Jbh (rT (n+3) ⟨161,10,161,38⟩ "relocation") (rR (n+3)) G.turns V (St σ L a ms ss [])) λa' x' o=>∃V',o=.ok (V',.next) (St σ L a' ms ss x')/\x'.length<=a'/\VB σ fs V':=by
 refine loop (σ:=σ) (L:=L) (word:="relocation") (step:=Jbw fs.length) (S:=λa x=>St σ L a ms ss x) (VI:=λa x V=>x.length<=a/\VB σ fs V) (λa x=>Jcl _ _ _ _) ?_ ?_ rem a [] V G.turns hd (by rw[<-hd,List.length_drop];have:=B.n;show _<line+2;exact ar161 this) ⟨Nat.zero_le _,hV⟩
 ·intro a x V h
  exact Jh6 B h.2.rd
 intro a x V l h el
 have ha:=(List.getElem?_eq_some_iff.mp el).1
 have hxl:x.length<=line:=by have:=h.1;have:=B.n;exact ar284 ha (by assumption) this
 have e:∀s,s=St σ L a ms ss x->rR (n+3) V s=(cfn G (n+3) 262 [.obj 236 σ.length,.loc (σ.length+3),.int (fs.length:Nat)] s).bind λx19 s=>(Jak G (cfn G (n+3)) ⟨162,8,162,91⟩ (.loc (σ.length+3)) "append" [x19] s).bind λx20 s=>Out.ok (V,Fl.next) s:=by
  rintro s rfl
  unfold rR
  simp only[h.2.rs,h.2.rd,h.2.os,Jad,if_pos (Jch St.at3),k_cnt h.2.ok hf,div8,bok]
 have r:=Jgf (n:=n) (St.rd (σ:=σ) (ms:=ms) (ss:=ss) (rs:=x)) B el (x:=x) (j:=σ.length+3) St.at3 (by exact ar19) hxl fs.length
 unfold Jbw snoc
 cases er:rdRel fs.length x (Wd l) with
 |error w=>
  rw[er] at r
  obtain ⟨τ,et⟩:=Jma (σ:=σ) (L:=L) (a:=a) (ms:=ms) (ss:=ss) (rs:=x) ((Wd l).length=4)
  exact ⟨τ,by rw[e _ rfl,r,<-et];rfl⟩
 |ok y=>
  rw[er,St.next] at r
  refine ⟨V,?_,by rw[List.length_append];have:=h.1;show _+1<=_;exact ar125 this,h.2⟩
  rw[e _ rfl,r]
  show ((Jak G (cfn G (n+3)) ⟨162,8,162,91⟩ (.loc (σ.length+3)) "append" [relD y] (St σ L (a+1) ms ss x)).bind _)=_
  rw[Jjr St.at3 (by rwa [List.length_map]),St.set3]
  rfl
end
end
section
open PySem.NumText
noncomputable def wsum:Nat->List UInt8->Nat
 |_,[]=>0
 |p,o::r=>(p+1)*o.toNat+wsum (p+1) r
theorem Jl1:∀(p:Nat) (l r:List UInt8),wsum p (l++r)=wsum p l+wsum (p+l.length) r
 |p,[],r=>by rw[List.nil_append,List.length_nil,Nat.add_zero];exact (Nat.zero_add _).symm
 |p,o::l,r=>by
  show (p+1)*o.toNat+wsum (p+1) (l++r)=(p+1)*o.toNat+wsum (p+1) l+wsum (p+(l.length+1)) r
  rw[Jl1 (p+1) l r,show p+1+l.length=p+(l.length+1) by exact ar144,Nat.add_assoc]
theorem Jja(l:List UInt8)(o:UInt8):wsum 0 (l++[o])=wsum 0 l+(l.length+1)*o.toNat:=by
 rw[Jl1,Nat.zero_add]
 rfl
section
variable{n:Nat}{s:Jaa}
theorem item_b{l:List UInt8}{j:Nat}{o:UInt8}(hl:l.length<=line)(h:l[j]?=some o):item (.bytes l.toArray) (.int (j:Int)) s=.ok (.int (o.toNat:Int)) s:=by
 show Out.of (if 0<=(j:Int)/\l.toArray.size<=line then (l.toArray[((j:Int)).toNat]?).map λc=>D.int (c.toNat:Int) else none) s=_
 rw[if_pos ⟨by exact ar25,by rw[List.size_toArray];exact hl⟩,Int.toNat_natCast,List.getElem?_toArray,h]
 rfl
theorem eS_ok{l:List UInt8}(hl:l.length<=line){j:Nat}{b:UInt8}(ej:l[j]?=some b){V:Jac}(ho:V "octets"=some (.bytes l.toArray))(ht:V "total"=some (.int (wsum 0 (l.take j):Nat))):eS (.int (j:Int)) V s=.ok ((V.set "place" (.int (j:Int))).set "total" (.int (wsum 0 (l.take (j+1)):Nat)),.next) s:=by
 have hjl:=(List.getElem?_eq_some_iff.mp ej).1
 have h2:=Jja (l.take j) b
 rw[List.length_take,Nat.min_eq_left (Nat.le_of_lt hjl),show l.take j++[b]=l.take (j+1) by rw[List.take_add_one,ej];rfl] at h2
 have hm:j+1<2^64:=Nat.lt_of_le_of_lt (Nat.le_trans hjl hl) (by decide)
 unfold eS
 rw[Jab (by decide:("total":Str)≠"place"),ht,Jad]
 refine (bcg (Jcq _ _)).trans ?_
 rw[Jab (by decide:("octets":Str)≠"place"),ho,Jad]
 refine (bcg (item_b hl ej)).trans ((bcg (Jg4 (a:=(j:Int)+1) (.inl (by show ((j:Int)+1).natAbs<2^64;exact hm)))).trans ((bcg (Jcq _ _)).trans ?_))
 rw[h2]
 rfl
theorem Jke{l:List UInt8}(hl:l.length<=line):cfn G (n+1) 162 [.bytes l.toArray] s=.ok (.int ((wsum 0 l % 4294967296:Nat):Int)) s:=by
 obtain ⟨V',s',e,hs,ho,ht⟩:=Jcu (d:=.rng 0 (l.length:Int) 1) (ds:=(List.range l.length).map λi:Nat=>.int (i:Int)) (V:=((V0.set "octets" (.bytes l.toArray)).set "total" (.int 0))) (s:=s)
  (λj V s'=>s'=s/\V "octets"=some (.bytes l.toArray)/\V "total"=some (.int (wsum 0 (l.take j):Nat))) (by rw[List.length_map,List.length_range];exact hl) (λ_ _ _ _=>Jc6 hl)
  (step:=eS) (λj d V s' hj ⟨hs,ho,ht⟩=>by
   have hjl:=(List.getElem?_eq_some_iff.mp hj).1
   rw[List.length_map,List.length_range] at hjl
   rw[List.getElem?_map,List.getElem?_range hjl] at hj
   cases hj
   exact ⟨_,s',eS_ok hl (List.getElem?_eq_getElem hjl) ho ht,hs,(Jab (by decide)).trans ((Jab (by decide)).trans ho),Jao _ _ _⟩)
  ⟨rfl,(Jab (by decide)).trans (Jao _ _ _),Jao _ _ _⟩
 subst hs
 rw[List.length_map,List.length_range,List.take_length] at ht
 rw[w162]
 refine (bcg (k_lenb (by rw[List.size_toArray];exact hl))).trans ?_
 rw[List.size_toArray]
 refine (bcg (Jmn hl)).trans ((bcg e).trans ?_)
 rw[Jcz,ht,Jad]
 refine (bcg (b_and _ _)).trans ?_
 rw[bitAnd_m32]
 rfl
end
noncomputable def endO{β:Type}(L:List Str)(d:Nat)(fs:List Str)(r:β):Except (Str×Nat) β:=match L[d]? with
 |none=>.error ("a line lacks",d+1)
 |some l=>match Wd l with
  |[w0,w1,w2]=>if (w0=="end")=true then (if Jbj w1=true then (if (Ja6 w1==d)=true then (if Jbj w2=true then (if (Ja6 w2==wsum 0 (Jam fs) % 4294967296)=true then (if (L.drop (d+1)==[("":Str)])=true then .ok r else .error ("more behind the end",d+2)) else .error ("sum",d+1)) else .error ("number",d+1)) else .error ("end",d+1)) else .error ("number",d+1)) else .error ("end",d+1)
  |_=>.error ("words",d+1)
end
section
open PySem.NumText
noncomputable def objD(ms:List Row)(fs:List Str)(ss:List Sy)(rs:List Re):D:=.inst 146 ["maps","octets","symbols","relocations"] [.lst (ms.map rowD),.bytes (Jam fs).toArray,.lst (ss.map symD),.lst (rs.map relD)]
noncomputable def Jeb{α:Type}(σ:Jaa)(r:Except (Str×Nat) α)(o:Out D)(Q:α->Out D->Prop):Prop:=match r with
 |.error e=>∃τ,o=.exc e.1 (e.2:Int) (σ++τ)
 |.ok x=>Q x o
section
variable{σ:Jaa}{L:List Str}{n d:Nat}{ms:List Row}{ss:List Sy}{rs:List Re}{fs:List Str}{s:Jaa}
theorem mk146(a b c d:D):cfn G (n+1) 146 [a,b,c,d] s=((Jai (.type "list") [a] s).bind λx1 s=>((Jai (.type "bytes") [b] s).bind λx2 s=>((Jai (.type "list") [c] s).bind λx3 s=>((Jai (.type "list") [d] s).bind λx4 s=>(Out.ok [] s).bind λds s=>Out.ok (x4::ds) s).bind λds s=>Out.ok (x3::ds) s).bind λds s=>Out.ok (x2::ds) s).bind λds s=>Out.ok (x1::ds) s).bind λds s=>Out.ok (D.inst 146 ["maps","octets","symbols","relocations"] ds) s:=by kernel_rfl
theorem Jq5{j:Nat}{ds:List D}(h:Ls j ds s)(hl:ds.length<=line):Jai (.type "list") [.loc j] s=.ok (.lst ds) s:=by
 show Out.of ((Jau s (.loc j)).bind λds=>if ds.length<=line then some (D.lst ds) else none) s=_
 rw[Jbk h]
 show Out.of (if ds.length<=line then some (D.lst ds) else none) s=_
 rw[if_pos hl];rfl
theorem mk_obj(h1:ms.length<=line)(h2:ss.length<=line)(h3:rs.length<=line):cfn G (n+1) 146 [.loc (σ.length+1),.bytes (Jam fs).toArray,.loc (σ.length+2),.loc (σ.length+3)] (St σ L d ms ss rs)=.ok (objD ms fs ss rs) (St σ L d ms ss rs):=by
 rw[mk146,Jq5 St.at1 (by rwa [List.length_map])]
 have e2:=Jq5 (St.at2 (σ:=σ) (L:=L) (a:=d) (ms:=ms) (ss:=ss) (rs:=rs)) (by rwa [List.length_map])
 have e3:=Jq5 (St.at3 (σ:=σ) (L:=L) (a:=d) (ms:=ms) (ss:=ss) (rs:=rs)) (by rwa [List.length_map])
 have eb:Jai (.type "bytes") [.bytes (Jam fs).toArray] (St σ L d ms ss rs)=.ok (.bytes (Jam fs).toArray) (St σ L d ms ss rs):=rfl
 simp only[bok,eb,e2,e3]
 rfl
theorem tail_nil{l:List Str}(h:l.length<=line):Jag .NotEq (.lst (l.map .str)) (.lst [(.str "")]) s=.ok (.bool (!(l==[("":Str)]))) s:=c_nel (b:=[("":Str)]) h (by decide)
theorem Jhc{l:List Str}(h:l.length<=line)(k:Nat):slice (.lst (l.map .str)) (.int (k:Int)) D.none D.none s=.ok (.lst ((l.drop k).map .str)) s:=by
 show Out.of ((Jau s (.lst (l.map .str))).bind λds=>if ds.length<=line then some (D.lst (cut ds (some (k:Int)) none)) else none) s=_
 show Out.of (if (l.map D.str).length<=line then some (D.lst (cut (l.map D.str) (some (k:Int)) none)) else none) s=_
 rw[if_pos (by rwa [List.length_map]),Jm7,List.map_drop]
 rfl
theorem Jd4(a b:Nat):((a:Int)==(b:Int))=(a==b):=by
 rw[Bool.eq_iff_iff,beq_iff_eq,beq_iff_eq];exact ar216
variable{V:Jac}{w0 w1 w2:Str}
theorem k1(d:Nat):(((d+1:Nat):Int) - 1)=(d:Int):=Int.add_sub_cancel (d:Int) 1
theorem i_0:item (.lst ([w0,w1,w2].map .str)) (.int 0) s=.ok (.str w0) s:=by kernel_rfl
theorem i_1:item (.lst ([w0,w1,w2].map .str)) (.int 1) s=.ok (.str w1) s:=by kernel_rfl
theorem i_2:item (.lst ([w0,w1,w2].map .str)) (.int 2) s=.ok (.str w2) s:=by kernel_rfl
theorem sub1(d:Nat):Jae .Sub (.int ((d+1:Nat):Int)) (.int 1) s=.ok (.int (d:Int)) s:=by rw[b_sub,k1]
theorem eE_ok(hV:VB σ fs V)(h1:ms.length<=line)(h2:ss.length<=line)(h3:rs.length<=line):eE (n+1) V (St σ L d ms ss rs)=.ok (objD ms fs ss rs) (St σ L d ms ss rs):=by
 unfold eE
 rw[hV.ms,Jad,hV.os,Jad,hV.ss,Jad,hV.rs,Jad,mk_obj h1 h2 h3]
 rfl
theorem eD_ok(hV:VB σ fs V)(hr:Rd σ.length L ((d+1:Nat):Int) s)(hL:L.length<=line):eD n V s=if (L.drop d==[("":Str)])=true then eE n V s else .exc "more behind the end" ((d+1:Nat):Int) s:=by
 unfold eD
 have ht:=tail_nil (s:=s) (l:=L.drop d) (Nat.le_trans (List.length_drop▸Nat.sub_le ..) hL)
 rw[hV.rd,Jad,bcg (Jni hr),Jad,bcg (Jlx hr),bcg (sub1 d),bcg (Jhc hL d),bcg ht,bri]
 cases (L.drop d==[("":Str)]) with
 |true=>rfl
 |false=>
  show (ofk (some _) s _)=_
  rw[Jad,bcg (Jlx hr)];rfl
theorem eC_ok(hV:VB σ fs V)(hr:Rd σ.length L ((d+1:Nat):Int) s)(hw:w2.length<=line)(hf:8*fs.length<=line):eC (n+2) V (.lst ([w0,w1,w2].map .str)) s=if Jbj w2=true then (if (Ja6 w2==wsum 0 (Jam fs) % 4294967296)=true then eD (n+2) V s else .exc "sum" (d:Int) s) else .exc "number" (d:Int) s:=by
 unfold eC
 rw[hV.rd,Jad,if_pos (Jd3 hr),bcg i_2,Jii,number hr hw]
 cases Jbj w2 with
 |false=>rw[k1];rfl
 |true=>
  rw[if_pos rfl,if_pos rfl,bok]
  have e:((ofk (V "octets") s λx78 s=>(cfn G (n+2) 162 [x78] s).bind λx79 s=>Jag .NotEq (.int (Ja6 w2)) x79 s))=.ok (.bool !(Ja6 w2==wsum 0 (Jam fs) % 4294967296)) s:=by
   rw[hV.os,Jad,bcg (Jke (by rw[Jea hV.ok];exact hf)),Jou,Jd4]
  refine (bcg e).trans ?_
  rw[Jad]
  refine (Jge hr _ _ _).trans ?_
  rw[k1]
  cases (Ja6 w2==wsum 0 (Jam fs) % 4294967296)<;>rfl
theorem eB_ok(hV:VB σ fs V)(hr:Rd σ.length L ((d+1:Nat):Int) s)(hw:w1.length<=line)(m:Nat):eB (n+2) V (.int m) (.lst ([w0,w1,w2].map .str)) s=if (w0=="end")=true then (if Jbj w1=true then (if (Ja6 w1==m)=true then eC (n+2) V (.lst ([w0,w1,w2].map .str)) s else .exc "end" (d:Int) s) else .exc "number" (d:Int) s) else .exc "end" (d:Int) s:=by
 have e:((item (.lst ([w0,w1,w2].map .str)) (.int 0) s).bind λx66 s=>(Jag .NotEq x66 (.str "end") s).bind λx67 s=>brD x67 (.ok x67 s) (ofk (V "reader") s λx68 s=>if Jah G x68 "number" s=true then ((item (.lst ([w0,w1,w2].map .str)) (.int 1) s).bind λx69 s=>(Jak G (cfn G (n+2)) ⟨164,28,164,51⟩ x68 "number" [x69] s).bind λx70 s=>(Jag .NotEq x70 (.int m) s).bind λx71 s=>.ok x71 s) else .bad))=if (w0=="end")=true then (if Jbj w1=true then .ok (.bool !(Ja6 w1==m)) s else .exc "number" (d:Int) s) else .ok (.bool true) s:=by
  rw[bcg i_0,Jot,bok,bri]
  cases (w0==("end":Str)) with
  |false=>rfl
  |true=>
   show (ofk (V "reader") s _)=_
   rw[hV.rd,Jad,if_pos (Jd3 hr),bcg i_1,Jii,number hr hw,k1]
   cases Jbj w1 with
   |false=>rfl
   |true=>
    show ((Jag .NotEq (.int (Ja6 w1)) (.int m) s).bind _)=_
    rw[Jou,Jd4];rfl
 have q:∀b:Bool,((brD (.bool b) (ofk (V "reader") s λx73 s=>if Jah G x73 "refuse" s=true then ((Jak G (cfn G (n+2)) ⟨165,8,165,28⟩ x73 "refuse" [(.str "end")] s).bind λx74 s=>Out.ok D.none s) else .bad) (.ok D.none s)).bind λ_ s=>eC (n+2) V (.lst ([w0,w1,w2].map .str)) s)=if b=true then .exc "end" (d:Int) s else eC (n+2) V (.lst ([w0,w1,w2].map .str)) s:=λb=>by
  rw[hV.rd,Jad]
  exact (Jge hr _ b _).trans (by rw[k1])
 unfold eB
 refine (congrArg (λo=>Out.bind o _) e).trans ?_
 cases (w0==("end":Str)) with
 |false=>exact q true
 |true=>
  cases Jbj w1 with
  |false=>rfl
  |true=>
   refine (q _).trans ?_
   cases (Ja6 w1==m)<;>rfl
theorem Jcn{α:Type}{c:Prop}[Decidable c]{r:Except (Str×Nat) α}{o:Out D}{w:Str}{k:Nat}{τ:Jaa}{Q:α->Out D->Prop}(hs:s=σ++τ)(h:Jeb σ r o Q):Jeb σ (if c then r else .error (w,k)) (if c then o else .exc w (k:Int) s) Q:=by
 by_cases hc:c
 ·rw[if_pos hc,if_pos hc];exact h
 ·rw[if_neg hc,if_neg hc];exact ⟨τ,hs▸rfl⟩
theorem end3{β:Type}(r:β)(hV:VB σ fs V)(hL:L.length<=line)(h1:ms.length<=line)(h2:ss.length<=line)(h3:rs.length<=line)(hf:8*fs.length<=line)(hw1:w1.length<=line)(hw2:w2.length<=line):Jeb σ (if (w0=="end")=true then (if Jbj w1=true then (if (Ja6 w1==d)=true then (if Jbj w2=true then (if (Ja6 w2==wsum 0 (Jam fs) % 4294967296)=true then (if (L.drop (d+1)==[("":Str)])=true then .ok r else .error ("more behind the end",d+2)) else .error ("sum",d+1)) else .error ("number",d+1)) else .error ("end",d+1)) else .error ("number",d+1)) else .error ("end",d+1)) (eB (n+2) V (.int d) (.lst ([w0,w1,w2].map .str)) (St σ L (d+1) ms ss rs)) λ_ o=>o=.ok (objD ms fs ss rs) (St σ L (d+1) ms ss rs):=by
 have hr:=St.rd (σ:=σ) (L:=L) (a:=d+1) (ms:=ms) (ss:=ss) (rs:=rs)
 obtain ⟨τ,hτ⟩:=Jcl (σ:=σ) (L:=L) (d+1) ms ss rs
 rw[eB_ok hV hr hw1,eC_ok hV hr hw2 hf,eD_ok hV hr hL,eE_ok hV h1 h2 h3]
 exact Jcn hτ (Jcn hτ (Jcn hτ (Jcn hτ (Jcn hτ (Jcn hτ rfl)))))
theorem eA_eq(hV:VB σ fs V):eA (n+1) V (St σ L d ms ss rs)=(cfn G (n+1) 214 [.obj 236 σ.length,.int 3] (St σ L d ms ss rs)).bind λx s=>eB (n+1) ((V.set "count" (.int d)).set "words" x) (.int d) x s:=by
 have hr:=St.rd (σ:=σ) (L:=L) (a:=d) (ms:=ms) (ss:=ss) (rs:=rs)
 unfold eA
 rw[hV.rd,Jad,bcg (Jlx hr),bcg (sub1 d),Jad,if_pos (Jfk hr),Jhl]
theorem VB.put(hV:VB σ fs V)(a b:D):VB σ fs ((V.set "count" a).set "words" b):=
 ⟨(Jab (by decide)).trans ((Jab (by decide)).trans hV.rd),(Jab (by decide)).trans ((Jab (by decide)).trans hV.ms),(Jab (by decide)).trans ((Jab (by decide)).trans hV.os),(Jab (by decide)).trans ((Jab (by decide)).trans hV.ss),(Jab (by decide)).trans ((Jab (by decide)).trans hV.rs),hV.ok⟩
theorem endO_bad{β:Type}{r:β}{l:Str}(el:L[d]?=some l)(hc:(Wd l).length≠3):endO L d fs r=.error ("words",d+1):=by
 unfold endO
 rw[el]
 show (match Wd l with
  |[w0,w1,w2]=>_
  |_=>_)=_
 generalize Wd l=ws at hc
 match ws,hc with
 |[],_=>rfl
 |[_],_=>rfl
 |[_,_],_=>rfl
 |[_,_,_],h=>exact absurd rfl h
 |_::_::_::_::_,_=>rfl
theorem end_sec{β:Type}(r:β)(B:Bd L)(hV:VB σ fs V)(h1:ms.length<=line)(h2:ss.length<=line)(h3:rs.length<=line)(hf:8*fs.length<=line):Jeb σ (endO L d fs r) (eA (n+2) V (St σ L d ms ss rs)) λ_ o=>o=.ok (objD ms fs ss rs) (St σ L (d+1) ms ss rs):=by
 have ht:=take (n:=n) (St.rd (σ:=σ) (L:=L) (a:=d) (ms:=ms) (ss:=ss) (rs:=rs)) B 3
 obtain ⟨τ,hτ⟩:=Jcl (σ:=σ) (L:=L) d ms ss rs
 rw[eA_eq hV,show (3:Int)=((3:Nat):Int) from rfl,ht]
 cases el:L[d]? with
 |none=>unfold endO;rw[el];exact ⟨τ,by rw[<-hτ];rfl⟩
 |some l=>
  by_cases hc:(Wd l).length=3
  ·have hw:=λw (h:w∈Wd l)=>B.w (List.mem_of_getElem? el) h
   show Jeb σ _ ((if (Wd l).length=3 then Out.ok (D.lst ((Wd l).map .str)) ((St σ L d ms ss rs).set σ.length (at_ L (d+2))) else Out.exc "words" ((d+1:Nat):Int) (St σ L d ms ss rs)).bind _) _
   rw[if_pos hc,St.next]
   obtain ⟨w0,w1,w2,ew⟩:=len3 hc
   unfold endO
   rw[el]
   show Jeb σ (match Wd l with
    |[w0,w1,w2]=>_
    |_=>_) _ _
   rw[ew] at hw ⊢
   exact end3 r (hV.put _ _) (Nat.le_of_lt B.n) h1 h2 h3 hf (hw w1 (.tail _ (.head _))) (hw w2 (.tail _ (.tail _ (.head _))))
  ·rw[endO_bad el hc]
   show Jeb σ _ ((if (Wd l).length=3 then Out.ok (D.lst ((Wd l).map .str)) ((St σ L d ms ss rs).set σ.length (at_ L (d+2))) else Out.exc "words" ((d+1:Nat):Int) (St σ L d ms ss rs)).bind _) _
   rw[if_neg hc]
   exact ⟨τ,by rw[<-hτ];rfl⟩
end
end
section
open PySem.NumText
noncomputable abbrev Head:Str:="ringgate object 1"
abbrev Got:=List Row×List Str×List Sy×List Re
noncomputable def eb{α β:Type}(r:Except (Str×Nat) α)(q:α->Except (Str×Nat) β):Except (Str×Nat) β:=match r with
 |.error e=>.error e
 |.ok p=>q p
noncomputable def readH(L:List Str)(h:Str):Except (Str×Nat) Got:=(if (Wd h).length=3 then (if (Wd h==Wd Head)=true then eb (secs "map" Jdi (L.drop 1) 1 []) λa=>eb (secs "slot" Jbi (L.drop a.1) a.1 []) λb=>eb (secs "symbol" (Jb8 b.2.length) (L.drop b.1) b.1 []) λc=>eb (secs "relocation" (Jbw b.2.length) (L.drop c.1) c.1 []) λd=>endO L d.1 b.2 (a.2,b.2,c.2,d.2) else .error ("head",1)) else .error ("words",1))
noncomputable def readO(L:List Str):Except (Str×Nat) Got:=match L with
 |[]=>.error ("a line lacks",1)
 |h::_=>readH L h
theorem Jpw{α:Type}{word:Str}{step:α->List Str->Except Str α}:∀{rem:List Str} {a:Nat} {x:α} {p:Nat×α},secs word step rem a x=.ok p->p.1<=a+rem.length
 |[],_,_,_,h=>by cases h
 |l::r,a,x,p,h=>by
  unfold secs at h
  split at h
  ·split at h
   ·cases h
   ·have:=Jpw h
    rw[List.length_cons];exact ar268 this
  ·cases h;exact Nat.le_add_right _ _
theorem Jcm{α:Type}{L:List Str}{word:Str}{step:α->List Str->Except Str α}{a:Nat}{x:α}{p:Nat×α}(ha:a<=L.length)(h:secs word step (L.drop a) a x=.ok p):p.1<=L.length:=by
 have:=Jpw h
 rw[List.length_drop] at this
 exact ar279 ha this
section
variable{σ:Jaa}{L:List Str}{n:Nat}{t:Str}{s:Jaa}
theorem mk236(ht:t.length<=line):cfn G (n+1) 236 [.str t] s=.ok (.obj 236 s.length) (s++[at_ (Txt.split t "\n") 1]):=by
 have e:cfn G (n+1) 236 [.str t] s=((if Jah G (.str t) "split" s=true then Jak G (cfn G n) ⟨91,21,91,37⟩ (.str t) "split" [.str "\n"] s else .bad).bind λx1 s=>((Out.ok (D.int 1) s).bind λx2 s=>(Out.ok [] s).bind λds s=>Out.ok (x2::ds) s).bind λds s=>Out.ok (x1::ds) s).bind λds s=>Out.ok (.obj 236 s.length) (s++[.dict ["lines","at"] ds]):=by kernel_rfl
 rw[e,if_pos (Jig t),Jqs Je3 ht (by kernel_rfl)]
 rfl
theorem head_ne{s:Jaa}{h:Str}(hk:(Wd h).length<=line):((Jbu false (.str "ringgate object 1") "split" [(.str " ")] s).bind λx6 s=>Jag .NotEq (.lst ((Wd h).map .str)) x6 s)=.ok (.bool (!(Wd h==Wd Head))) s:=by
 have e:Jbu false (.str "ringgate object 1") "split" [(.str " ")] s=.ok (.lst ((Wd Head).map .str)) s:=by
  have e:Jbu false (.str "ringgate object 1") "split" [.str " "] s=if ("split":Str)="split"/\(" ":Str).length≠0/\Head.length<=line then Out.ok (.lst ((Txt.split Head " ").map .str)) s else .bad:=by kernel_rfl
  rw[e,if_pos (by decide +kernel)]
  rfl
 rw[e]
 exact c_nel hk (by decide +kernel)
theorem Jci{α β:Type}{r:Except (Str×Nat) (Nat×α)}{o:Out (Jac×Fl)}{Q:Nat->α->Out (Jac×Fl)->Prop}(h:Ends σ r o Q){q:Nat×α->Except (Str×Nat) β}{k:Jac×Fl->Jaa->Out D}{R:β->Out D->Prop}
  (hk:∀p,r=.ok p->Q p.1 p.2 o->Jeb σ (q p) (o.bind k) R):Jeb σ (eb r q) (o.bind k) R:=by
 cases r with
 |error e=>
  obtain ⟨τ,rfl⟩:=h
  exact ⟨τ,rfl⟩
 |ok p=>exact hk p rfl h
theorem Jp0{α:Type}{r:Except (Str×Nat) α}{o:Out D}{Q R:α->Out D->Prop}(h:Jeb σ r o Q)(hq:∀x,r=.ok x->Q x o->R x o):Jeb σ r o R:=by
 cases r with
 |error e=>exact h
 |ok x=>exact hq x rfl h
theorem ok_e{ε α:Type}{c:Prop}[Decidable c]{x:Except ε α}{w:ε}{r:α}(h:(if c then x else .error w)=.ok r):c/\x=.ok r:=by
 by_cases k:c
 ·rw[if_pos k] at h;exact ⟨k,h⟩
 ·rw[if_neg k] at h;exact nomatch h
section
variable{L:List Str}{d:Nat}{fs:List Str}
theorem Jc9{β:Type}{r:β}{l w0 w1 w2:Str}(el:L[d]?=some l)(ew:Wd l=[w0,w1,w2]):endO L d fs r=if (w0=="end")=true then (if Jbj w1=true then (if (Ja6 w1==d)=true then (if Jbj w2=true then (if (Ja6 w2==wsum 0 (Jam fs) % 4294967296)=true then (if (L.drop (d+1)==[("":Str)])=true then .ok r else .error ("more behind the end",d+2)) else .error ("sum",d+1)) else .error ("number",d+1)) else .error ("end",d+1)) else .error ("number",d+1)) else .error ("end",d+1):=by
 unfold endO
 rw[el]
 dsimp only
 rw[ew]
theorem Jfb{β:Type}{r:β}{l:Str}(el:L[d]?=some l)(hc:(Wd l).length≠3):endO L d fs r=.error ("words",d+1):=by
 unfold endO
 rw[el]
 dsimp only
 generalize Wd l=ws at hc ⊢
 rcases ws with _ | ⟨_,_ | ⟨_,_ | ⟨_,_ | ⟨_,_⟩⟩⟩⟩<;>first | rfl | exact absurd rfl hc
theorem Jfc{β:Type}{r:β}(el:L[d]?=none):endO L d fs r=.error ("a line lacks",d+1):=by unfold endO;rw[el]
end
theorem Jr0{β:Type}{L:List Str}{d:Nat}{fs:List Str}{r g:β}(h:endO L d fs r=.ok g):g=r:=by
 cases el:L[d]? with
 |none=>rw[Jfc el] at h;exact nomatch h
 |some l=>
  by_cases hc:(Wd l).length=3
  ·obtain ⟨w0,w1,w2,e⟩:=len3 hc
   rw[Jc9 el e] at h
   exact (Except.ok.inj (ok_e (ok_e (ok_e (ok_e (ok_e (ok_e h).2).2).2).2).2).2).symm
  ·rw[Jfb el hc] at h;exact nomatch h
noncomputable def GotQ(σ:Jaa)(g:Got)(o:Out D):Prop:=∃τ,o=.ok (objD g.1 g.2.1 g.2.2.1 g.2.2.2) (σ++τ)
variable{V:Jac}{fs:List Str}{ms:List Row}{ss:List Sy}{a:Nat}
theorem r4_ok(B:Bd L)(hV:VB σ fs V)(ha:a<=L.length)(h1:ms.length<=line)(h2:ss.length<=line)(hf:8*fs.length<=line):Jeb σ (eb (secs "relocation" (Jbw fs.length) (L.drop a) a []) λd=>endO L d.1 fs (ms,fs,ss,d.2)) (r4 (n+3) V (St σ L a ms ss [])) (GotQ σ):=by
 unfold r4
 refine Jci (rel_sec (n:=n) B hV hf rfl) λd hd ⟨V4,o4,l4,hV4⟩=>?_
 rw[o4,bok,Jcz]
 refine Jp0 (end_sec (n:=n+1) (d:=d.1) (ms,fs,ss,d.2) B hV4 (ms:=ms) (ss:=ss) (rs:=d.2) h1 h2 (Nat.le_trans l4 (Nat.le_trans (Jcm ha hd) (Nat.le_of_lt B.n))) hf) λg hg ho=>?_
 rw[Jr0 hg]
 obtain ⟨τ,hτ⟩:=Jcl (σ:=σ) (L:=L) (d.1+1) ms ss d.2
 exact ⟨τ,by rw[<-hτ];exact ho⟩
theorem r3_ok(B:Bd L)(hV:VB σ fs V)(ha:a<=L.length)(h1:ms.length<=line)(hf:8*fs.length<=line):Jeb σ (eb (secs "symbol" (Jb8 fs.length) (L.drop a) a []) λc=>eb (secs "relocation" (Jbw fs.length) (L.drop c.1) c.1 []) λd=>endO L d.1 fs (ms,fs,c.2,d.2)) (r3 (n+3) V (St σ L a ms [] [])) (GotQ σ):=by
 unfold r3
 refine Jci (sym_sec (n:=n) B hV hf rfl) λc hc ⟨V3,o3,l3,hV3⟩=>?_
 rw[o3,bok,Jcz]
 exact r4_ok B hV3 (Jcm ha hc) h1 (Nat.le_trans l3 (Nat.le_trans (Jcm ha hc) (Nat.le_of_lt B.n))) hf
theorem r2_ok(B:Bd L)(hV:VB σ [] V)(ha:a<=L.length)(h1:ms.length<=line):Jeb σ (eb (secs "slot" Jbi (L.drop a) a []) λb=>eb (secs "symbol" (Jb8 b.2.length) (L.drop b.1) b.1 []) λc=>eb (secs "relocation" (Jbw b.2.length) (L.drop c.1) c.1 []) λd=>endO L d.1 b.2 (ms,b.2,c.2,d.2)) (r2 (n+3) V (St σ L a ms [] [])) (GotQ σ):=by
 unfold r2
 refine Jci (slot_sec (n:=n) B hV rfl) λb hb ⟨V2,o2,l2,hV2⟩=>?_
 rw[o2,bok,Jcz]
 exact r3_ok B hV2 (Jcm ha hb) h1 (by have b1:=Jcm ha hb;have hn16:=B.n16;exact ar348 hn16 l2 b1)
theorem r1_ok(B:Bd L)(hV:VB σ [] V)(h1:1<=L.length):Jeb σ (eb (secs "map" Jdi (L.drop 1) 1 []) λa=>eb (secs "slot" Jbi (L.drop a.1) a.1 []) λb=>eb (secs "symbol" (Jb8 b.2.length) (L.drop b.1) b.1 []) λc=>eb (secs "relocation" (Jbw b.2.length) (L.drop c.1) c.1 []) λd=>endO L d.1 b.2 (a.2,b.2,c.2,d.2)) (r1 (n+3) V (St σ L 1 [] [] [])) (GotQ σ):=by
 unfold r1
 refine Jci (maps_sec (n:=n) B hV rfl) λa ha ⟨V1,o1,l1,hV1⟩=>?_
 rw[o1,bok,Jcz]
 exact r2_ok B hV1 (Jcm h1 ha) (Nat.le_trans l1 (Nat.le_trans (Jcm h1 ha) (Nat.le_of_lt B.n)))
noncomputable def VR(t:Str)(σ:Jaa):Jac:=((((((V0.set "text" (.str t)).set "reader" (.obj 236 σ.length)).set "maps" (.loc (σ.length+1))).set "octets" (.bytes #[])).set "symbols" (.loc (σ.length+2))).set "relocations" (.loc (σ.length+3)))
theorem VR_ok(t:Str)(σ:Jaa):VB σ [] (VR t σ):=
 ⟨(Jab (by decide)).trans ((Jab (by decide)).trans ((Jab (by decide)).trans ((Jab (by decide)).trans (Jao _ _ _)))),(Jab (by decide)).trans ((Jab (by decide)).trans ((Jab (by decide)).trans (Jao _ _ _))),(Jab (by decide)).trans ((Jab (by decide)).trans (Jao _ _ _)),(Jab (by decide)).trans (Jao _ _ _),Jao _ _ _,λg hg=>(by cases hg)⟩
theorem rH_ok{h:Str}(hc:(Wd h).length<=line)(hr:Rd σ.length L ((1+1:Nat):Int) s):rH (n+1) t (.obj 236 σ.length) (.loc (σ.length+1)) (.loc (σ.length+2)) (.loc (σ.length+3)) (.lst ((Wd h).map .str)) s=if (Wd h==Wd Head)=true then r1 (n+1) (VR t σ) s else .exc "head" ((1:Nat):Int) s:=by
 unfold rH
 refine (bcg (head_ne hc)).trans ((Jge hr _ _ _).trans ?_)
 rw[k1]
 cases (Wd h==Wd Head)<;>rfl
theorem w267_eq(ht:t.length<=line):cfn G (n+2) 267 [.str t] σ=(cfn G (n+1) 214 [.obj 236 σ.length,.int 3] (St σ (Txt.split t "\n") 0 [] [] [])).bind λx s=>rH (n+1) t (.obj 236 σ.length) (.loc (σ.length+1)) (.loc (σ.length+2)) (.loc (σ.length+3)) x s:=by
 have s1:(σ++[at_ (Txt.split t "\n") 1]).length=σ.length+1:=List.length_append
 have s2:(σ++[at_ (Txt.split t "\n") 1]++[M.list []]).length=σ.length+2:=by rw[List.length_append,s1];rfl
 have s3:(σ++[at_ (Txt.split t "\n") 1]++[M.list []]++[M.list []]).length=σ.length+3:=by rw[List.length_append,s2];rfl
 have s4:σ++[at_ (Txt.split t "\n") 1]++[M.list []]++[M.list []]++[M.list []]=St σ (Txt.split t "\n") 0 [] [] []:=by
  rw[List.append_assoc,List.append_assoc,List.append_assoc];rfl
 rw[w267,mk236 ht,bok,bok,bok,bok,s1,s2,s3,s4,if_pos (Jfk St.rd),Jhl]
theorem Jkx(B:Bd L)(hL:Txt.split t "\n"=L)(ht:t.length<=line):Jeb σ (readO L) (cfn G (n+4) 267 [.str t] σ) (GotQ σ):=by
 obtain ⟨τ,hτ⟩:=Jcl (σ:=σ) (L:=L) 0 [] [] []
 rw[w267_eq ht,hL,show (3:Int)=((3:Nat):Int) from rfl,take (n:=n+1) St.rd B 3]
 cases L with
 |nil=>exact ⟨τ,by rw[<-hτ];rfl⟩
 |cons h L'=>
  show Jeb σ (readH (h::L') h) ((if (Wd h).length=3 then Out.ok (D.lst ((Wd h).map .str)) ((St σ (h::L') 0 [] [] []).set σ.length (at_ (h::L') (0+2))) else Out.exc "words" ((0+1:Nat):Int) (St σ (h::L') 0 [] [] [])).bind _) _
  unfold readH
  by_cases hc:(Wd h).length=3
  ·rw[if_pos hc,if_pos hc,St.next,bok,rH_ok (by rw[hc];decide) St.rd]
   obtain ⟨τ',hτ'⟩:=Jcl (σ:=σ) (L:=h::L') 1 [] [] []
   exact Jcn hτ' (r1_ok (n:=n) B (VR_ok t σ) (Nat.succ_le_succ (Nat.zero_le _)))
  ·rw[if_neg hc,if_neg hc]
   exact ⟨τ,by rw[<-hτ];rfl⟩
end
end
section
open PySem.NumText
noncomputable def figs(fs:List Str):Str:=⟨(fs.flatMap λg=>Cs g).toArray⟩
noncomputable def Lt(σ:Jaa)(ms:List Row)(fs:List Str)(ss:List Sy)(rs:List Re):Jaa:=σ++[.list (ms.map rowT),.list (ss.map symD),.list (rs.map relD),.dict ["maps","figures","symbols","relocations"] [.loc σ.length,.str (figs fs),.loc (σ.length+1),.loc (σ.length+2)]]
section
variable{σ:Jaa}{n:Nat}{ms:List Row}{fs:List Str}{ss:List Sy}{rs:List Re}{s:Jaa}
theorem Lt.at0:Ls σ.length (ms.map rowT) (Lt σ ms fs ss rs):=by
 unfold Ls Lt
 rw[List.getElem?_append_right (Nat.le_refl _),Nat.sub_self]
 rfl
theorem Lt.at1:Ls (σ.length+1) (ss.map symD) (Lt σ ms fs ss rs):=by
 unfold Ls Lt
 rw[List.getElem?_append_right (by exact ar20),Nat.add_sub_cancel_left]
 rfl
theorem Lt.at2:Ls (σ.length+2) (rs.map relD) (Lt σ ms fs ss rs):=by
 unfold Ls Lt
 rw[List.getElem?_append_right (by exact ar21),Nat.add_sub_cancel_left]
 rfl
theorem Lt.held:(Lt σ ms fs ss rs)[σ.length+3]?=some (.dict ["maps","figures","symbols","relocations"] [.loc σ.length,.str (figs fs),.loc (σ.length+1),.loc (σ.length+2)]):=by
 unfold Lt
 rw[List.getElem?_append_right (by exact ar22),Nat.add_sub_cancel_left]
 rfl
theorem Je8{x:Str}{d:D}(h:getF ["maps","figures","symbols","relocations"] [.loc σ.length,.str (figs fs),.loc (σ.length+1),.loc (σ.length+2)] x=some d):item (.loc (σ.length+3)) (.str x) (Lt σ ms fs ss rs)=.ok d (Lt σ ms fs ss rs):=by
 rw[Jrb Lt.held]
 rw[h];rfl
theorem Jrg:item (.loc (σ.length+3)) (.str "maps") (Lt σ ms fs ss rs)=.ok (.loc σ.length) (Lt σ ms fs ss rs):=Je8 (by kernel_rfl)
theorem Jjy:item (.loc (σ.length+3)) (.str "figures") (Lt σ ms fs ss rs)=.ok (.str (figs fs)) (Lt σ ms fs ss rs):=Je8 (by kernel_rfl)
theorem h_syms:item (.loc (σ.length+3)) (.str "symbols") (Lt σ ms fs ss rs)=.ok (.loc (σ.length+1)) (Lt σ ms fs ss rs):=Je8 (by kernel_rfl)
theorem h_rels:item (.loc (σ.length+3)) (.str "relocations") (Lt σ ms fs ss rs)=.ok (.loc (σ.length+2)) (Lt σ ms fs ss rs):=Je8 (by kernel_rfl)
theorem Lt.set0(r:Row):(Lt σ ms fs ss rs).set σ.length (.list (ms.map rowT++[rowT r]))=Lt σ (ms++[r]) fs ss rs:=by
 unfold Lt
 rw[List.set_append_right _ _ (Nat.le_refl _),Nat.sub_self,List.map_append]
 rfl
theorem Lt.set1(r:Sy):(Lt σ ms fs ss rs).set (σ.length+1) (.list (ss.map symD++[symD r]))=Lt σ ms fs (ss++[r]) rs:=by
 unfold Lt
 rw[List.set_append_right _ _ (by exact ar20),Nat.add_sub_cancel_left,List.map_append]
 rfl
theorem Lt.set2(r:Re):(Lt σ ms fs ss rs).set (σ.length+2) (.list (rs.map relD++[relD r]))=Lt σ ms fs ss (rs++[r]):=by
 unfold Lt
 rw[List.set_append_right _ _ (by exact ar21),Nat.add_sub_cancel_left,List.map_append]
 rfl
theorem put_figs(g:Str):Ja7 (.loc (σ.length+3)) (.str "figures") (.str (figs (fs++[g]))) (Lt σ ms fs ss rs)=.ok () (Lt σ ms (fs++[g]) ss rs):=by
 rw[Jk1 Lt.held]
 refine Eq.trans (b:=Out.ok () ((Lt σ ms fs ss rs).set (σ.length+3) (.dict ["maps","figures","symbols","relocations"] [.loc σ.length,.str (figs (fs++[g])),.loc (σ.length+1),.loc (σ.length+2)]))) (by kernel_rfl) ?_
 unfold Lt
 rw[List.set_append_right _ _ (by exact ar22),Nat.add_sub_cancel_left]
 rfl
theorem Jrn(fs:List Str)(g:Str):figs (fs++[g])=figs fs++g:=by
 apply Jdx
 show ((fs++[g]).flatMap λg=>Cs g).toArray.toList=((fs.flatMap λg=>Cs g).toArray++g.cps).toList
 rw[List.flatMap_append,List.flatMap_singleton,Array.toList_append]
noncomputable def hdT:D->Option D
 |.tup (y::_)=>some y
 |_=>none
theorem Jrf(y:D)(r:List D)(s:Jaa)(h:(y::r).length<=line):((item (.tup (y::r)) (.int 0) s).bind λx9 s=>Out.ok (some x9) s)=.ok (some y) s:=by
 have e:item (.tup (y::r)) (.int (0:Nat)) s=.ok y s:=by
  show Out.of ((seqIndex? ((0:Nat):Int) (y::r).length).bind λk=>if (y::r).length<=line then (y::r)[k]? else none) s=_
  rw[Jhh (a:=0) (by simp)]
  show Out.of (if (y::r).length<=line then (y::r)[0]? else none) s=_
  rw[if_pos h];rfl
 exact (bcg e)
theorem fm_row:∀x:List Row,(x.map rowT).filterMap hdT=(x.map (·.1)).map .str
 |[]=>rfl
 |a::r=>congrArg (D.str a.1::·) (fm_row r)
theorem Jrl:∀x:List Sy,(x.map symD).filterMap hdT=(x.map (·.1)).map .str
 |[]=>rfl
 |a::r=>congrArg (D.str a.1::·) (Jrl r)
theorem row_hd{j:Nat}{x:List Row}(h:Ls j (x.map rowT) s)(hl:x.length<=line):Ja5 (.loc j) (λe8 s=>(item e8 (.int 0) s).bind λx9 s=>.ok (some x9) s) s=.ok (.lst ((x.map (·.1)).map .str)) s:=by
 refine (Jba (g:=hdT) (show Jal s (.loc j)=_ from Jbk h) (by rwa [List.length_map]) ?_).trans (congrArg (λl=>Out.ok (D.lst l) s) (fm_row x))
 intro d hd
 obtain ⟨r,_,rfl⟩:=List.mem_map.mp hd
 exact Jrf _ _ _ (by show 5<=line;decide)
theorem sym_hd{j:Nat}{x:List Sy}(h:Ls j (x.map symD) s)(hl:x.length<=line):Ja5 (.loc j) (λe8 s=>(item e8 (.int 0) s).bind λx9 s=>.ok (some x9) s) s=.ok (.lst ((x.map (·.1)).map .str)) s:=by
 refine (Jba (g:=hdT) (show Jal s (.loc j)=_ from Jbk h) (by rwa [List.length_map]) ?_).trans (congrArg (λl=>Out.ok (D.lst l) s) (Jrl x))
 intro d hd
 obtain ⟨r,_,rfl⟩:=List.mem_map.mp hd
 exact Jrf _ _ _ (by show 2<=line;decide)
noncomputable def lnum(t:Str):Int:=if Jbj t=true then (Ja6 t:Int) else -1
theorem Jdk(t:Str):decide (lnum t<0)=!Jbj t:=by
 unfold lnum
 cases Jbj t with
 |true=>exact decide_eq_false (by rw[if_pos rfl];exact ar41)
 |false=>exact decide_eq_true (by rw[if_neg Bool.false_ne_true];exact ar0)
theorem Jgo{t:Str}(h:Jbj t=true):lnum t=(Ja6 t:Int):=if_pos h
theorem k_min3(a b c:Int):Jai (.builtin "min") [.lst [.int a,.int b,.int c]] s=.ok (.int (if c<(if b<a then b else a) then c else (if b<a then b else a))) s:=by kernel_rfl
theorem min3(x y z:Str):decide ((if lnum z<(if lnum y<lnum x then lnum y else lnum x) then lnum z else (if lnum y<lnum x then lnum y else lnum x))<0)=!(Jbj x&&Jbj y&&Jbj z):=by
 have hx:=Jdk x;have hy:=Jdk y;have hz:=Jdk z
 cases ex:Jbj x<;>cases ey:Jbj y<;>cases ez:Jbj z<;>rw[ex] at hx<;>rw[ey] at hy<;>rw[ez] at hz<;>
  simp only[Bool.not_true,Bool.not_false,decide_eq_true_eq,decide_eq_false_iff_not] at hx hy hz<;>simp only[Bool.and_true,Bool.and_false,Bool.true_and,Bool.false_and,Bool.not_true,Bool.not_false,decide_eq_true_eq,decide_eq_false_iff_not]<;>split<;>(try split)<;>(first | exact ar38 hz | exact ar138 hz (by assumption) | exact ar129 hy (by assumption) | exact ar38 hy | exact ar129 hx (by assumption) | exact ar38 hx | exact ar255 hx hy (by assumption) | exact ar264 hx hy (by assumption) | exact ar138 hy (by assumption) | exact ar53 hz | exact ar53 hy | exact ar53 hx)
end
end
section
open PySem.NumText
section
variable{σ:Jaa}{n:Nat}{ms:List Row}{fs:List Str}{ss:List Sy}{rs:List Re}{s:Jaa}{ws:List Str}
theorem klw{l:List Str}(hl:l.length<=line):Jai (.builtin "len") [.lst (l.map .str)] s=.ok (.int (l.length:Int)) s:=by
 rw[Jmo (by rwa [List.length_map]),List.length_map]
theorem nw(a b:Nat):Jag .NotEq (.int (a:Int)) (.int (b:Int)) s=.ok (.bool (!(a==b))) s:=by
 rw[Jou,Jd4]
theorem nw2(a:Nat):Jag .NotEq (.int (a:Int)) (.int 2) s=.ok (.bool (!(a==2))) s:=nw a 2
theorem nw3(a:Nat):Jag .NotEq (.int (a:Int)) (.int 3) s=.ok (.bool (!(a==3))) s:=nw a 3
theorem nw4(a:Nat):Jag .NotEq (.int (a:Int)) (.int 4) s=.ok (.bool (!(a==4))) s:=nw a 4
theorem nw6(a:Nat):Jag .NotEq (.int (a:Int)) (.int 6) s=.ok (.bool (!(a==6))) s:=nw a 6
noncomputable def lawS{α:Type}(r:Except Str α)(s:Jaa)(k:α->Jaa):Out D:=match r with
 |.error w=>.ok (.str w) s
 |.ok x=>.ok (.str "") (k x)
theorem nums3{x y z:Str}(h:∀t∈[x,y,z],t.length<=line):Ja5 (.lst [.str x,.str y,.str z]) (λe13 s=>(cfn G (n+1) 334 [e13] s).bind λx14 s=>.ok (some x14) s) s=.ok (.lst [.int (lnum x),.int (lnum y),.int (lnum z)]) s:=by
 refine Jba (ds:=[.str x,.str y,.str z]) (g:=λd=>match d with | .str t=>some (.int (lnum t)) | _=>none) rfl (by show 3<=line;decide) ?_
 intro d hd
 obtain ⟨t,ht,rfl⟩:∃t∈[x,y,z],d=D.str t:=by
  simp only[List.mem_cons,List.not_mem_nil,or_false] at hd ⊢
  rcases hd with rfl | rfl | rfl
  ·exact ⟨x,.inl rfl,rfl⟩
  ·exact ⟨y,.inr (.inl rfl),rfl⟩
  ·exact ⟨z,.inr (.inr rfl),rfl⟩
 exact bcg (Jca (h t ht))
theorem Jp4(names:List Str)(w0 n kd x y z:Str):rdMap names [w0,n,kd,x,y,z]=if Jc4 n=true then (if names.any (·==n)=true then .error "name told twice" else if (Jbj x&&Jbj y&&Jbj z)=true then (if Jc4 kd=true then .ok (n,kd,Ja6 x,Ja6 y,Ja6 z) else .error "kind") else .error "number") else .error "name":=rfl
theorem Jn0(w0 g:Str):Jco [w0,g]=if Jbt g=true then .ok g else .error "octets":=rfl
theorem Jky(c:Nat)(x:List Sy)(w0 n w:Str):rdSym c x [w0,n,w]=if Jc4 n=true then (if Jbj w=true then (if (x.map (·.1)).any (·==n)=true then .error "name told twice" else if (decide (c<=Ja6 w)||(match x.getLast? with | some u=>decide (Ja6 w<=u.2) | none=>!(Ja6 w==0)))=true then .error "symbol out of order" else .ok (n,Ja6 w)) else .error "number") else .error "name":=rfl
theorem Jn1(c:Nat)(x:List Re)(w0 w way n:Str):rdRel c x [w0,w,way,n]=if Jbj w=true then (if Jc4 n=true then (if ([("map":Str),"call"]).any (·==way)=true then (if (decide (c<=Ja6 w)||(match x.getLast? with | some u=>decide (Ja6 w<=u.1) | none=>false))=true then .error "relocation out of order" else .ok (Ja6 w,way,n)) else .error "relocation") else .error "name") else .error "number":=rfl
theorem Jct{α:Type}{b:Bool}{r:Except Str α}{w:Str}{o:Out D}{k:α->Jaa}(h:b=true->o=lawS r s k):brD (.bool !b) (.ok (.str w) s) o=lawS (if b=true then r else .error w) s k:=by
 cases b with
 |false=>rfl
 |true=>exact h rfl
theorem Jf3{α:Type}{b:Bool}{r:Except Str α}{w:Str}{o:Out D}{k:α->Jaa}(h:b=false->o=lawS r s k):brD (.bool b) (.ok (.str w) s) o=lawS (if b=true then .error w else r) s k:=by
 cases b with
 |false=>exact h rfl
 |true=>rfl
section
variable{w0 w1 w2 w3 w4 w5:Str}{a b c:Int}
theorem q_1:item (.lst ([w0,w1,w2,w3,w4,w5].map .str)) (.int 1) s=.ok (.str w1) s:=by kernel_rfl
theorem q_2:item (.lst ([w0,w1,w2,w3,w4,w5].map .str)) (.int 2) s=.ok (.str w2) s:=by kernel_rfl
theorem q_3:slice (.lst ([w0,w1,w2,w3,w4,w5].map .str)) (.int 3) D.none D.none s=.ok (.lst [.str w3,.str w4,.str w5]) s:=by kernel_rfl
theorem j_0:item (.lst [.int a,.int b,.int c]) (.int 0) s=.ok (.int a) s:=by kernel_rfl
theorem j_1:item (.lst [.int a,.int b,.int c]) (.int 1) s=.ok (.int b) s:=by kernel_rfl
theorem j_2:item (.lst [.int a,.int b,.int c]) (.int 2) s=.ok (.int c) s:=by kernel_rfl
theorem m5_ok(hm:ms.length<=line)(e3:(Jbj w3&&Jbj w4&&Jbj w5)=true):m5 n (.lst ([w0,w1,w2,w3,w4,w5].map .str)) (.loc (σ.length+3)) (.lst [.int (lnum w3),.int (lnum w4),.int (lnum w5)]) (Lt σ ms fs ss rs)=.ok (.str "") (Lt σ (ms++[(w1,w2,Ja6 w3,Ja6 w4,Ja6 w5)]) fs ss rs):=by
 rw[Bool.and_eq_true,Bool.and_eq_true] at e3
 have a0:=Lt.at0 (σ:=σ) (ms:=ms) (fs:=fs) (ss:=ss) (rs:=rs)
 have hset:=Lt.set0 (σ:=σ) (ms:=ms) (fs:=fs) (ss:=ss) (rs:=rs) (w1,w2,Ja6 w3,Ja6 w4,Ja6 w5)
 unfold m5
 refine (bcg Jrg).trans ?_
 rw[if_pos (Jch a0)]
 refine (bcg q_1).trans ((bcg q_2).trans ((bcg j_0).trans ((bcg j_1).trans ((bcg j_2).trans ?_))))
 rw[Jjr a0 (by rwa [List.length_map]),Jgo e3.1.1,Jgo e3.1.2,Jgo e3.2]
 exact congrArg (Out.ok (D.str "")) hset
theorem m4_ok(hm:ms.length<=line)(e3:(Jbj w3&&Jbj w4&&Jbj w5)=true)(hw:w2.length<=line):m4 (n+1) (.lst ([w0,w1,w2,w3,w4,w5].map .str)) (.loc (σ.length+3)) (.lst [.int (lnum w3),.int (lnum w4),.int (lnum w5)]) (Lt σ ms fs ss rs)=lawS (if Jc4 w2=true then .ok (w1,w2,Ja6 w3,Ja6 w4,Ja6 w5) else .error "kind") (Lt σ ms fs ss rs) λr=>Lt σ (ms++[r]) fs ss rs:=by
 unfold m4
 exact (bcg q_2).trans ((bcg (Jf2 hw)).trans ((bcg (Jh5 _)).trans (Jct λ_=>m5_ok hm e3)))
theorem m3_ok(hm:ms.length<=line)(hw:w2.length<=line)(h3:∀t∈[w3,w4,w5],t.length<=line):m3 (n+1) (.lst ([w0,w1,w2,w3,w4,w5].map .str)) (.loc (σ.length+3)) (Lt σ ms fs ss rs)=lawS (if (Jbj w3&&Jbj w4&&Jbj w5)=true then (if Jc4 w2=true then .ok (w1,w2,Ja6 w3,Ja6 w4,Ja6 w5) else .error "kind") else .error "number") (Lt σ ms fs ss rs) λr=>Lt σ (ms++[r]) fs ss rs:=by
 unfold m3
 refine (bcg q_3).trans ((bcg (nums3 h3)).trans ((bcg (k_min3 _ _ _)).trans ((bcg (c_lt _ _)).trans ?_)))
 rw[min3]
 exact Jct λe=>m4_ok hm e hw
theorem m2_ok(hm:ms.length<=line)(hw:w2.length<=line)(h3:∀t∈[w3,w4,w5],t.length<=line):m2 (n+1) (.lst ([w0,w1,w2,w3,w4,w5].map .str)) (.loc (σ.length+3)) (Lt σ ms fs ss rs)=lawS (if (ms.map (·.1)).any (·==w1)=true then .error "name told twice" else if (Jbj w3&&Jbj w4&&Jbj w5)=true then (if Jc4 w2=true then .ok (w1,w2,Ja6 w3,Ja6 w4,Ja6 w5) else .error "kind") else .error "number") (Lt σ ms fs ss rs) λr=>Lt σ (ms++[r]) fs ss rs:=by
 unfold m2
 have a0:=Lt.at0 (σ:=σ) (ms:=ms) (fs:=fs) (ss:=ss) (rs:=rs)
 exact (bcg q_1).trans ((bcg ((bcg Jrg).trans ((bcg (row_hd a0 hm)).trans (c_inl (by rwa [List.length_map]))))).trans (Jf3 λ_=>m3_ok hm hw h3))
theorem law_map(hl:ws.length<=line)(hw:∀w∈ws,w.length<=line)(hm:ms.length<=line):cfn G (n+2) 339 [.lst (ws.map .str),.loc (σ.length+3)] (Lt σ ms fs ss rs)=lawS (rdMap (ms.map (·.1)) ws) (Lt σ ms fs ss rs) λr=>Lt σ (ms++[r]) fs ss rs:=by
 rw[w339]
 refine (bcg (klw hl)).trans ((bcg (nw6 ws.length)).trans ?_)
 by_cases hc:ws.length=6
 ·rw[beq_iff_eq.mpr hc,Bool.not_true,brf]
  obtain ⟨w0,w1,w2,w3,w4,w5,rfl⟩:=len6 hc
  rw[Jp4]
  unfold m1
  exact (bcg q_1).trans ((bcg (Jf2 (hw w1 (.tail _ (.head _))))).trans ((bcg (Jh5 _)).trans (Jct λ_=>m2_ok hm (hw w2 (.tail _ (.tail _ (.head _)))) λt ht=>hw t (.tail _ (.tail _ (.tail _ ht))))))
 ·rw[beq_eq_false_iff_ne.mpr hc,Bool.not_false,brt,no6 hc]
  rfl
end
theorem law_slot(hl:ws.length<=line)(hw:∀w∈ws,w.length<=line)(hf:(figs fs).length+16<=line):cfn G (n+2) 346 [.lst (ws.map .str),.loc (σ.length+3)] (Lt σ ms fs ss rs)=lawS (Jco ws) (Lt σ ms fs ss rs) λg=>Lt σ ms (fs++[g]) ss rs:=by
 rw[w346]
 rw[klw hl,bok,nw2 ws.length,bok]
 by_cases hc:ws.length=2
 ·rw[beq_iff_eq.mpr hc,Bool.not_true,brf]
  obtain ⟨w0,g,rfl⟩:=len2 hc
  have hp:=put_figs (σ:=σ) (ms:=ms) (fs:=fs) (ss:=ss) (rs:=rs) g
  have hh:=Jjy (σ:=σ) (ms:=ms) (fs:=fs) (ss:=ss) (rs:=rs)
  generalize Lt σ ms fs ss rs=s at hp hh ⊢
  have i1:item (.lst ([w0,g].map .str)) (.int 1) s=.ok (.str g) s:=by kernel_rfl
  simp only[i1,bok,Jho (hw g (by simp)),Jh5,bri,hh]
  rw[Jn0]
  cases e:Jbt g with
  |false=>rfl
  |true=>
   have h16:g.length=16:=by rw[<-Jbv];exact Jcf e
   simp only[Bool.not_true,Bool.false_eq_true,if_false,if_true]
   rw[Jbm (by exact ar267 hf h16),bok,<-Jrn,hp]
   rfl
 ·rw[beq_eq_false_iff_ne.mpr hc,Bool.not_false,brt,no2 hc]
  rfl
end
end
section
open PySem.NumText
section
variable{σ:Jaa}{n j:Nat}{ms:List Row}{fs:List Str}{ss:List Sy}{rs:List Re}{s:Jaa}{ws:List Str}
theorem Jb3:∀{fs:List Str},(∀g∈fs,Jbt g=true)->(figs fs).length=16*fs.length
 |[],_=>rfl
 |g::r,h=>by
  have ih:=Jb3 (fs:=r) (λx hx=>h x (List.mem_cons_of_mem _ hx))
  rw[<-Jbv] at ih ⊢
  show (Cs g++r.flatMap λg=>Cs g).length=_
  rw[List.length_append,Jcf (h g (List.mem_cons_self ..)),List.length_cons]
  have:(r.flatMap λg=>Cs g).length=16*r.length:=ih
  exact ar251 this
theorem b_16(v:Nat):Jae .Mult (.int 16) (.int (v:Int)) s=.ok (.int ((16*v:Nat):Int)) s:=by
 rw[Jg4 (.inl (by decide))]
 congr 2
theorem ge16(v c:Nat):decide (((16*c:Nat):Int)<=((16*v:Nat):Int))=decide (c<=v):=decide_eq_decide.mpr (by exact ar319)
theorem last_sym{x:List Sy}{u:Sy}(h:Ls j (x.map symD) s)(hl:x.length<=line)(e:x.getLast?=some u)(v:Nat):((item (.loc j) (.int (-1)) s).bind λx22 s=>(item x22 (.int 1) s).bind λx23 s=>Jag .LtE (.int (v:Int)) x23 s)=.ok (.bool (decide (v<=u.2))) s:=by
 have hu:(x.map symD).getLast?=some (symD u):=by rw[List.getLast?_map,e];rfl
 rw[Jf0 h (by rwa [List.length_map]) hu]
 show Out.ok (D.bool (decide ((v:Int)<=(u.2:Int)))) s=_
 rw[Jfn]
theorem last_rel{x:List Re}{u:Re}(h:Ls j (x.map relD) s)(hl:x.length<=line)(e:x.getLast?=some u)(v:Nat):((item (.loc j) (.int (-1)) s).bind λx22 s=>(item x22 (.int 0) s).bind λx23 s=>Jag .LtE (.int (v:Int)) x23 s)=.ok (.bool (decide (v<=u.1))) s:=by
 have hu:(x.map relD).getLast?=some (relD u):=by rw[List.getLast?_map,e];rfl
 rw[Jf0 h (by rwa [List.length_map]) hu]
 show Out.ok (D.bool (decide ((v:Int)<=(u.1:Int)))) s=_
 rw[Jfn]
theorem Jhw{α:Type}{x:List α}{u:α}(e:x.getLast?=some u){f:α->D}:(x.map f).isEmpty=false:=by
 cases x with
 |nil=>cases e
 |cons _ _=>rfl
section
variable{w0 w1 w2:Str}
noncomputable def outY(c:Nat)(x:List Sy)(v:Nat):Bool:=decide (c<=v)||(match x.getLast? with | some u=>decide (v<=u.2) | none=>!(v==0))
theorem yO_ok(hs:ss.length<=line)(hf:16*fs.length<=line)(ho:∀g∈fs,Jbt g=true)(v:Nat):yO (.loc (σ.length+3)) (.int (v:Int)) (.loc (σ.length+1)) (Lt σ ms fs ss rs)=.ok (.bool (outY fs.length ss v)) (Lt σ ms fs ss rs):=by
 have a0:=Lt.at1 (σ:=σ) (ms:=ms) (fs:=fs) (ss:=ss) (rs:=rs)
 have hfl:=Jd7 (σ:=Lt σ ms fs ss rs) (s:=figs fs) (by rw[Jb3 ho];exact hf)
 rw[Jb3 ho] at hfl
 have e1:=loc_eq a0 (by rwa [List.length_map])
 unfold yO outY
 refine (bcg (b_16 v)).trans ((bcg ((bcg Jjy).trans ((bcg hfl).trans (c_ge _ _)))).trans ?_)
 rw[ge16]
 cases decide (fs.length<=v) with
 |true=>rfl
 |false=>
  rw[brf,Bool.false_or]
  refine (bcg e1).trans ?_
  cases el:ss.getLast? with
  |none=>
   obtain rfl:=List.getLast?_eq_none_iff.mp el
   rw[List.map_nil]
   refine (congrArg (λo=>Out.bind o _) (bcg (Jou _ _))).trans ?_
   rw[Ji9];rfl
  |some u=>
   rw[Jhw el]
   exact (congrArg (λo=>Out.bind o _) (bcg (last_sym a0 hs el v))).trans rfl
theorem y5_ok(hs:ss.length<=line)(v:Nat):y5 n (.lst ([w0,w1,w2].map .str)) (.int (v:Int)) (.loc (σ.length+1)) (Lt σ ms fs ss rs)=.ok (.str "") (Lt σ ms fs (ss++[(w1,v)]) rs):=by
 have a0:=Lt.at1 (σ:=σ) (ms:=ms) (fs:=fs) (ss:=ss) (rs:=rs)
 unfold y5
 rw[if_pos (Jch a0)]
 refine (bcg i_1).trans ?_
 rw[Jjr a0 (by rwa [List.length_map])]
 exact congrArg (Out.ok (D.str "")) (Lt.set1 (w1,v))
theorem y3_ok(hs:ss.length<=line)(hf:16*fs.length<=line)(ho:∀g∈fs,Jbt g=true)(v:Nat):y3 n (.lst ([w0,w1,w2].map .str)) (.loc (σ.length+3)) (.int (v:Int)) (.loc (σ.length+1)) (Lt σ ms fs ss rs)=lawS (if (ss.map (·.1)).any (·==w1)=true then .error "name told twice" else if outY fs.length ss v=true then .error "symbol out of order" else .ok (w1,v)) (Lt σ ms fs ss rs) λr=>Lt σ ms fs (ss++[r]) rs:=by
 have a0:=Lt.at1 (σ:=σ) (ms:=ms) (fs:=fs) (ss:=ss) (rs:=rs)
 unfold y3
 refine (bcg i_1).trans ((bcg ((bcg (sym_hd a0 hs)).trans (c_inl (by rwa [List.length_map])))).trans (Jf3 λ_=>?_))
 unfold y4
 exact (bcg (yO_ok hs hf ho v)).trans (Jf3 λ_=>y5_ok hs v)
theorem y2_ok(hw:w2.length<=line)(hs:ss.length<=line)(hf:16*fs.length<=line)(ho:∀g∈fs,Jbt g=true):y2 (n+1) (.lst ([w0,w1,w2].map .str)) (.loc (σ.length+3)) (Lt σ ms fs ss rs)=lawS (if Jbj w2=true then (if (ss.map (·.1)).any (·==w1)=true then .error "name told twice" else if outY fs.length ss (Ja6 w2)=true then .error "symbol out of order" else .ok (w1,Ja6 w2)) else .error "number") (Lt σ ms fs ss rs) λr=>Lt σ ms fs (ss++[r]) rs:=by
 unfold y2
 refine (bcg i_2).trans ((bcg (Jca hw)).trans ((bcg h_syms).trans ((bcg (c_lt _ _)).trans ?_)))
 change brD (.bool (decide (lnum w2<0))) _ (y3 (n+1) _ _ (.int (lnum w2)) _ _)=_
 rw[Jdk w2]
 exact Jct λe=>by rw[Jgo e];exact y3_ok hs hf ho (Ja6 w2)
end
theorem Job(hl:ws.length<=line)(hw:∀w∈ws,w.length<=line)(hs:ss.length<=line)(hf:16*fs.length<=line)(ho:∀g∈fs,Jbt g=true):cfn G (n+2) 351 [.lst (ws.map .str),.loc (σ.length+3)] (Lt σ ms fs ss rs)=lawS (rdSym fs.length ss ws) (Lt σ ms fs ss rs) λr=>Lt σ ms fs (ss++[r]) rs:=by
 rw[w351]
 refine (bcg (klw hl)).trans ((bcg (nw3 ws.length)).trans ?_)
 by_cases hc:ws.length=3
 ·rw[beq_iff_eq.mpr hc,Bool.not_true,brf]
  obtain ⟨w0,w1,w2,rfl⟩:=len3 hc
  rw[Jky]
  unfold y1
  exact (bcg i_1).trans ((bcg (Jf2 (hw w1 (.tail _ (.head _))))).trans ((bcg (Jh5 _)).trans (Jct λ_=>y2_ok (hw w2 (.tail _ (.tail _ (.head _)))) hs hf ho)))
 ·rw[beq_eq_false_iff_ne.mpr hc,Bool.not_false,brt,no3 hc]
  rfl
section
variable{w0 w1 w2 w3:Str}
theorem jq1:item (.lst ([w0,w1,w2,w3].map .str)) (.int 1) s=.ok (.str w1) s:=by kernel_rfl
theorem jq2:item (.lst ([w0,w1,w2,w3].map .str)) (.int 2) s=.ok (.str w2) s:=by kernel_rfl
theorem jq3:item (.lst ([w0,w1,w2,w3].map .str)) (.int 3) s=.ok (.str w3) s:=by kernel_rfl
noncomputable def outZ(c:Nat)(x:List Re)(v:Nat):Bool:=decide (c<=v)||(match x.getLast? with | some u=>decide (v<=u.1) | none=>false)
theorem zO_ok(hs:rs.length<=line)(hf:16*fs.length<=line)(ho:∀g∈fs,Jbt g=true)(v:Nat):zO (.loc (σ.length+3)) (.int (v:Int)) (.loc (σ.length+2)) (Lt σ ms fs ss rs)=.ok (.bool (outZ fs.length rs v)) (Lt σ ms fs ss rs):=by
 have a0:=Lt.at2 (σ:=σ) (ms:=ms) (fs:=fs) (ss:=ss) (rs:=rs)
 have hfl:=Jd7 (σ:=Lt σ ms fs ss rs) (s:=figs fs) (by rw[Jb3 ho];exact hf)
 rw[Jb3 ho] at hfl
 have e1:=Jqv a0 (by rwa [List.length_map])
 unfold zO outZ
 refine (bcg (b_16 v)).trans ((bcg ((bcg Jjy).trans ((bcg hfl).trans (c_ge _ _)))).trans ?_)
 rw[ge16]
 cases decide (fs.length<=v) with
 |true=>rfl
 |false=>
  rw[brf,Bool.false_or]
  refine (bcg (a:=D.bool _) (s:=Lt σ ms fs ss rs) ((bcg e1).trans ?_)).trans rfl
  cases el:rs.getLast? with
  |none=>
   obtain rfl:=List.getLast?_eq_none_iff.mp el
   rfl
  |some u=>
   rw[Jhw el]
   exact (bcg (last_rel a0 hs el v)).trans rfl
theorem z5_ok(hs:rs.length<=line)(v:Nat):z5 n (.lst ([w0,w1,w2,w3].map .str)) (.int (v:Int)) (.loc (σ.length+2)) (Lt σ ms fs ss rs)=.ok (.str "") (Lt σ ms fs ss (rs++[(v,w2,w3)])):=by
 have a0:=Lt.at2 (σ:=σ) (ms:=ms) (fs:=fs) (ss:=ss) (rs:=rs)
 unfold z5
 rw[if_pos (Jch a0)]
 refine (bcg jq2).trans ((bcg jq3).trans ?_)
 rw[Jjr a0 (by rwa [List.length_map])]
 exact congrArg (Out.ok (D.str "")) (Lt.set2 (v,w2,w3))
theorem z2_ok(hs:rs.length<=line)(hf:16*fs.length<=line)(ho:∀g∈fs,Jbt g=true)(v:Nat):z2 n (.lst ([w0,w1,w2,w3].map .str)) (.loc (σ.length+3)) (.int (v:Int)) (.loc (σ.length+2)) (Lt σ ms fs ss rs)=lawS (if ([("map":Str),"call"]).any (·==w2)=true then (if outZ fs.length rs v=true then .error "relocation out of order" else .ok (v,w2,w3)) else .error "relocation") (Lt σ ms fs ss rs) λr=>Lt σ ms fs ss (rs++[r]):=by
 unfold z2
 refine (bcg jq2).trans ((bcg (c_nint (a:=w2) (l:=["map","call"]) (by decide))).trans (Jct λ_=>?_))
 unfold z4
 exact (bcg (zO_ok hs hf ho v)).trans (Jf3 λ_=>z5_ok hs v)
theorem z0_ok(h1:w1.length<=line)(h3:w3.length<=line)(hs:rs.length<=line)(hf:16*fs.length<=line)(ho:∀g∈fs,Jbt g=true):z0 (n+1) (.lst ([w0,w1,w2,w3].map .str)) (.loc (σ.length+3)) (Lt σ ms fs ss rs)=lawS (rdRel fs.length rs [w0,w1,w2,w3]) (Lt σ ms fs ss rs) λr=>Lt σ ms fs ss (rs++[r]):=by
 unfold z0
 refine (bcg jq1).trans ((bcg (Jca h1)).trans ((bcg h_rels).trans ((bcg (c_lt _ _)).trans ?_)))
 change brD (.bool (decide (lnum w1<0))) _ (z1 (n+1) _ _ (.int (lnum w1)) _ _)=_
 rw[Jdk w1,Jn1]
 refine Jct λe=>?_
 rw[Jgo e]
 unfold z1
 exact (bcg jq3).trans ((bcg (Jf2 h3)).trans ((bcg (Jh5 _)).trans (Jct λ_=>z2_ok hs hf ho (Ja6 w1))))
end
theorem Jg1(hl:ws.length<=line)(hw:∀w∈ws,w.length<=line)(hs:rs.length<=line)(hf:16*fs.length<=line)(ho:∀g∈fs,Jbt g=true):cfn G (n+2) 358 [.lst (ws.map .str),.loc (σ.length+3)] (Lt σ ms fs ss rs)=lawS (rdRel fs.length rs ws) (Lt σ ms fs ss rs) λr=>Lt σ ms fs ss (rs++[r]):=by
 rw[w358]
 refine (bcg (klw hl)).trans ((bcg (nw4 ws.length)).trans ?_)
 by_cases hc:ws.length=4
 ·rw[beq_iff_eq.mpr hc,Bool.not_true,brf]
  obtain ⟨w0,w1,w2,w3,rfl⟩:=len4 hc
  exact z0_ok (hw w1 (.tail _ (.head _))) (hw w3 (.tail _ (.tail _ (.tail _ (.head _))))) hs hf ho
 ·rw[beq_eq_false_iff_ne.mpr hc,Bool.not_false,brt,no4 hc]
  rfl
end
end
section
open PySem.NumText
noncomputable def Jce(l:Str):Option Str:=match Wd l with
 |[w,g]=>if (w=="slot"&&Jbt g)=true then some g else none
 |_=>none
theorem Jhb{l g:Str}(h:Jce l=some g):∃w,Wd l=[w,g]/\Jbt g=true:=by
 unfold Jce at h
 generalize Wd l=ws at h
 rcases ws with _ | ⟨w,_ | ⟨g',_ | ⟨_,_⟩⟩⟩
 ·exact nomatch h
 ·exact nomatch h
 ·have h:(if (w=="slot"&&Jbt g')=true then some g' else none)=some g:=h
  by_cases k:(w=="slot"&&Jbt g')=true
  ·rw[if_pos k] at h;cases h;exact ⟨w,rfl,(Bool.and_eq_true_iff.mp k).2⟩
  ·rw[if_neg k] at h;exact nomatch h
 ·exact nomatch h
theorem Jpr{l g:Str}(h:Jce l=some g):Jbt g=true:=by
 obtain ⟨_,_,h⟩:=Jhb h
 exact h
section
variable{n:Nat}{s:Jaa}
theorem b_mod32(x:Nat):Jae .Mod (.int (x:Int)) (.int 4294967296) s=.ok (.int ((x % 4294967296:Nat):Int)) s:=by
 rw[b_mod (by decide)]
 congr 2
 rw[Int.fmod_eq_emod_of_nonneg _ (by decide)]
 exact ar328
theorem pow32:Jae .Pow (.int 2) (.int 32) s=.ok (.int 4294967296) s:=by kernel_rfl
theorem octs_at{g:Str}(h:Jbt g=true){j:Nat}(hj:j<8):(octs g)[j]?=some ((16*hv ((Cs g).getD (2*j) 0)+hv ((Cs g).getD (2*j+1) 0)).toUInt8):=by
 unfold octs u8s
 rw[Jc8 8 (Cs g) (Jcf h),List.map_map,List.getElem?_map,List.getElem?_range hj]
 rfl
theorem Jfo{g:Str}{k:Nat}(hl:g.length<=line)(hk:k<(Cs g).length):item (.str g) (.int (k:Int)) s=.ok (.str (sg ((Cs g).getD k 0))) s:=by
 show Out.of ((seqIndex? (k:Int) g.length).bind λk=>(g.cps[k]?).bind λc=>if g.length<=line then some (D.str ⟨#[c]⟩) else none) s=_
 have hk':k<g.length:=by rwa [Jbv] at hk
 have e:g.cps[k]?=some ((Cs g).getD k 0):=by
  rw[<-Array.getElem?_toList,List.getD_eq_getElem?_getD]
  show (Cs g)[k]?=_
  rw[List.getElem?_eq_getElem hk];rfl
 rw[Jhh hk']
 show Out.of ((g.cps[k]?).bind λc=>if g.length<=line then some (D.str ⟨#[c]⟩) else none) s=_
 rw[e]
 show Out.of (if g.length<=line then some (D.str (sg ((Cs g).getD k 0))) else none) s=_
 rw[if_pos hl];rfl
theorem u8_nat{k:Nat}(h:k<256):(k.toUInt8).toNat=k:=by
 show (UInt8.ofNat k).toNat=k
 rw[UInt8.toNat_ofNat',Nat.mod_eq_of_lt h]
structure SS(w g:Str)(pre:List UInt8)(V:Jac):Prop where
 words:V "words"=some (.lst ([w,g].map .str))
 place:V "place"=some (.int (pre.length:Nat))
 total:V "total"=some (.int (wsum 0 pre % 4294967296:Nat))
variable{w g:Str}{V:Jac}{pre:List UInt8}
theorem pC_ok{o:Nat}(ho:o<256)(hp:pre.length+1<=line)(ht:V "total"=some (.int (wsum 0 pre % 4294967296:Nat))):pC V (.int ((pre.length+1:Nat):Int)) (.int (o:Int)) s=.ok (V.set "total" (.int (wsum 0 (pre++[o.toUInt8]) % 4294967296:Nat)),.next) s:=by
 have hm:Jae .Mult (.int ((pre.length+1:Nat):Int)) (.int (o:Int)) s=.ok (.int (((pre.length+1)*o:Nat):Int)) s:=by
  rw[Jg4 (.inl (by show (pre.length+1)<2^64;exact Nat.lt_of_le_of_lt hp (by decide)))];rfl
 have et:wsum 0 (pre++[o.toUInt8])=wsum 0 pre+(pre.length+1)*o:=by rw[Jja,u8_nat ho]
 unfold pC
 rw[ht,Jad]
 refine (bcg hm).trans ((bcg (Jcq _ _)).trans ((bcg pow32).trans ?_))
 rw[show (((wsum 0 pre % 4294967296:Nat):Int)+(((pre.length+1)*o:Nat):Int))=((wsum 0 pre % 4294967296+(pre.length+1)*o:Nat):Int) from rfl,b_mod32,Nat.mod_add_mod,<-et]
 rfl
theorem pD_ok{j:Nat}{x:D}(hl:g.length<=line)(h:Jbt g=true)(hjl:j<8)(hw:V "words"=some (.lst ([w,g].map .str))):pD (.int ((2*j:Nat):Int)) V x s=pC (V.set "octet" (.int ((16*hv ((Cs g).getD (2*j) 0)+hv ((Cs g).getD (2*j+1) 0):Nat):Int))) x (.int ((16*hv ((Cs g).getD (2*j) 0)+hv ((Cs g).getD (2*j+1) 0):Nat):Int)) s:=by
 have hn:=Jcf h
 have ha:=Jgh h
 have c1:=Jcv ha (k:=2*j) (by exact ar169 hjl hn)
 have c2:=Jcv ha (k:=2*j+1) (by exact ar211 hjl hn)
 have e1:=Jfo (s:=s) hl (k:=2*j) (by exact ar169 hjl hn)
 have e2:=Jfo (s:=s) hl (k:=2*j+1) (by exact ar211 hjl hn)
 have i1:item (.lst ([w,g].map .str)) (.int 1) s=.ok (.str g) s:=by kernel_rfl
 have ef1:(Jae .Mult (.int 16) (.int (Txt.find Hex (sg ((Cs g).getD (2*j) 0)))) s)=.ok (.int ((16*hv ((Cs g).getD (2*j) 0):Nat):Int)) s:=by
  rw[Jf6 c1,Jg4 (.inl (by decide))];rfl
 have ef2:(Jae .Add (.int ((16*hv ((Cs g).getD (2*j) 0):Nat):Int)) (.int (Txt.find Hex (sg ((Cs g).getD (2*j+1) 0)))) s)=.ok (.int ((16*hv ((Cs g).getD (2*j) 0)+hv ((Cs g).getD (2*j+1) 0):Nat):Int)) s:=by
  rw[Jf6 c2,Jcq];rfl
 have ej:Jae .Add (.int ((2*j:Nat):Int)) (.int 1) s=.ok (.int ((2*j+1:Nat):Int)) s:=by rw[Jcq];rfl
 unfold pD
 rw[hw,Jad]
 refine (bcg i1).trans ((bcg e1).trans ((bcg (Jqt _ _ _)).trans ((bcg ef1).trans ?_)))
 rw[Jad]
 exact (bcg i1).trans ((bcg ej).trans ((bcg e2).trans ((bcg (Jqt _ _ _)).trans (bcg ef2))))
theorem pB_ok{j:Nat}(hl:g.length<=line)(h:Jbt g=true)(hjl:j<8)(S:SS w g pre V)(hp:pre.length+1<=line){b:UInt8}(hb:(octs g)[j]?=some b):∃V',pB (.int ((2*j:Nat):Int)) V s=.ok (V',.next) s/\SS w g (pre++[b]) V':=by
 have hn:=Jcf h
 have ha:=Jgh h
 have hv1:=Joe (Jcv ha (k:=2*j) (by exact ar169 hjl hn))
 have hv2:=Joe (Jcv ha (k:=2*j+1) (by exact ar211 hjl hn))
 have eo:=octs_at h hjl
 rw[hb] at eo
 have eb:=Option.some.inj eo
 generalize ho:(16*hv ((Cs g).getD (2*j) 0)+hv ((Cs g).getD (2*j+1) 0))=o at eb
 have ho2:=ar338 hv1 hv2 ho
 refine ⟨((((V.set "spot" (.int ((2*j:Nat):Int))).set "place" (.int ((pre.length+1:Nat):Int))).set "octet" (.int (o:Int))).set "total" (.int (wsum 0 (pre++[o.toUInt8]) % 4294967296:Nat))),?_,?_⟩
 ·unfold pB
  rw[Jab (by decide:("place":Str)≠"spot"),S.place,Jad]
  refine (bcg (Jcq _ _)).trans ?_
  refine (pD_ok (x:=.int ((pre.length+1:Nat):Int)) hl h hjl ((Jab (by decide)).trans ((Jab (by decide)).trans S.words))).trans ?_
  rw[ho]
  exact (pC_ok ho2 hp ((Jab (by decide)).trans ((Jab (by decide)).trans ((Jab (by decide)).trans S.total))))
 ·rw[eb]
  exact ⟨(Jab (by decide)).trans ((Jab (by decide)).trans ((Jab (by decide)).trans ((Jab (by decide)).trans S.words))),(Jab (by decide)).trans ((Jab (by decide)).trans ((Jao _ _ _).trans (by rw[List.length_append];rfl))),Jao _ _ _⟩
theorem sum_slot(hl:g.length<=line)(h:Jbt g=true)(hp:pre.length+8<=line)(S:SS w g pre V):∃V',Jfg (.rng 0 ((2*8:Nat):Int) 2) pB V s=.ok (V',.next) s/\SS w g (pre++octs g) V':=by
 have key:=Jcu (d:=.rng 0 ((2*8:Nat):Int) 2) (step:=pB) (ds:=(List.range 8).map λi:Nat=>.int ((2*i:Nat):Int)) (V:=V) (s:=s)
  (λj V s'=>s'=s/\SS w g (pre++(octs g).take j) V) (by decide) (λ_ _ _ _=>Jhr (by decide))
  (λj d V s' hj ⟨hs,hS⟩=>by
   obtain ⟨hjl,hd⟩:=List.getElem?_eq_some_iff.mp hj
   rw[List.length_map,List.length_range] at hjl
   rw[List.getElem_map,List.getElem_range] at hd
   have hb:=List.getElem?_eq_getElem (l:=octs g) (i:=j) (by rw[Jef h];exact hjl)
   obtain ⟨V',e,S'⟩:=pB_ok (s:=s) hl h hjl hS (by rw[List.length_append,List.length_take];exact Nat.le_trans (Nat.add_le_add_right (Nat.add_le_add_left (Nat.min_le_left j _) pre.length) 1) (Nat.le_trans (Nat.add_le_add_left hjl pre.length) hp)) hb
   refine ⟨V',s,by rw[<-hd,hs];exact e,rfl,?_⟩
   rw[List.append_assoc] at S'
   rw[List.take_add_one,hb]
   exact S') ⟨rfl,by rw[List.take_zero,List.append_nil];exact S⟩
 rw[List.length_map,List.length_range,List.take_of_length_le (by rw[Jef h];decide)] at key
 obtain ⟨V',s',e,rfl,S'⟩:=key
 exact ⟨V',e,S'⟩
end
end
section
open PySem.NumText
section
variable{n:Nat}{s:Jaa}
noncomputable def Ja0(L:List Str):List UInt8:=Jam (L.filterMap Jce)
theorem Jk6(L:List Str)(l:Str):Ja0 (L++[l])=Ja0 L++(match Jce l with | some g=>octs g | none=>[]):=by
 unfold Ja0 Jam
 rw[List.filterMap_append,List.flatMap_append]
 cases e:Jce l with
 |none=>rw[List.filterMap_cons_none e];rfl
 |some g=>rw[List.filterMap_cons_some e];simp
theorem Jn7(L:List Str):(Ja0 L).length<=8*L.length:=by
 unfold Ja0
 rw[Jea λg hg=>by obtain ⟨l,_,hl⟩:=List.mem_filterMap.mp hg;exact Jpr hl]
 have:=List.length_filterMap_le Jce L
 exact ar124 this
theorem Jpq{l:Str}(hl:l.length<line):pT (n+1) (.lst ((Wd l).map .str)) s=.ok (.bool (Jce l).isSome) s:=by
 have hk:(Wd l).length<=line:=Nat.le_trans (Jnl l) hl
 have hw:=λw (h:w∈Wd l)=>Nat.le_trans (Wd_mem h) (Nat.le_of_lt hl)
 unfold Jce pT
 cases e:Wd l with
 |nil=>exact absurd e (Wd_ne l)
 |cons w r=>
  rw[e] at hk hw
  have i0:=Jbc (s:=s) (l:=w::r) (a:=0) hk rfl
  have hlen:Jai (.builtin "len") [.lst ((w::r).map .str)] s=.ok (.int ((w::r).length:Int)) s:=klw hk
  rw[show (0:Int)=((0:Nat):Int) from rfl,i0,bok,Jkf,bok]
  have h2:Jag .Eq (.int ((w::r).length:Int)) (.int 2) s=.ok (.bool ((w::r).length==2)) s:=by
   rw[Jsd];exact congrArg (λb=>Out.ok (D.bool b) s) (Jd4 _ 2)
  rw[hlen,bok,h2,bok]
  cases ew:(w==("slot":Str)) with
  |false=>
   cases r with
   |nil=>rfl
   |cons g r=>cases r with
    |nil=>show _=Out.ok (D.bool (if ((w==("slot":Str))&&Jbt g)=true then some g else none).isSome) s;rw[ew];rfl
    |cons _ _=>rfl
  |true=>
   rw[brt]
   cases r with
   |nil=>rfl
   |cons g r=>cases r with
    |nil=>
     have i1:=Jbc (s:=s) (l:=[w,g]) (a:=1) hk rfl
     have ho:=Jho (n:=n) (s:=s) (hw g (by simp))
     rw[show ([w,g].length==2)=true from rfl,brt,show (1:Int)=((1:Nat):Int) from rfl,i1,bok,ho,bok]
     show Out.ok (D.bool (Jbt g)) s=Out.ok (D.bool (if ((w==("slot":Str))&&Jbt g)=true then some g else none).isSome) s
     rw[ew]
     cases Jbt g<;>rfl
    |cons _ _=>rfl
inductive SumAt(P:List Str)(s:Jaa)(o:Out (Jac×Fl)):Prop
 |mk (V:Jac) (e:o=.ok (V,.next) s) (t:V "total"=some (.int (wsum 0 (Ja0 P) % 4294967296:Nat))) (p:V "place"=some (.int (Ja0 P).length))
theorem pA_ok{P:List Str}{l:Str}{V:Jac}(hl:l.length<line)(h8:(Ja0 P).length+8<=line)(ht:V "total"=some (.int (wsum 0 (Ja0 P) % 4294967296:Nat)))(hp:V "place"=some (.int (Ja0 P).length)):SumAt (P++[l]) s (pA (n+1) (.str l) V s):=by
 have eo:=Jk6 P l
 have e1:pA (n+1) (.str l) V s=brD (.bool (Jce l).isSome) (pE ((V.set "line" (.str l)).set "words" (.lst ((Wd l).map .str))) s) (.ok (((V.set "line" (.str l)).set "words" (.lst ((Wd l).map .str))),.next) s):=by
  unfold pA
  exact (Jji Ja1 (Nat.le_of_lt hl) (by kernel_rfl) _).trans (bcg (Jpq hl))
 rw[e1]
 cases e:Jce l with
 |none=>
  rw[e,List.append_nil] at eo
  exact ⟨_,rfl,by rw[eo];exact (Jab (by decide)).trans ((Jab (by decide)).trans ht),by rw[eo];exact (Jab (by decide)).trans ((Jab (by decide)).trans hp)⟩
 |some g=>
  rw[e] at eo
  obtain ⟨w,ew,hg⟩:=Jhb e
  have hgl:g.length<=line:=by rw[<-Jbv,Jcf hg];decide
  rw[ew]
  obtain ⟨V2,e2,S2⟩:=sum_slot (s:=s) (w:=w) (V:=(V.set "line" (.str l)).set "words" (.lst ([w,g].map .str))) hgl hg h8 ⟨Jao _ _ _,(Jab (by decide)).trans ((Jab (by decide)).trans hp),(Jab (by decide)).trans ((Jab (by decide)).trans ht)⟩
  refine ⟨V2,?_,by rw[eo];exact S2.total,by rw[eo];exact S2.place⟩
  show pE _ _=_
  unfold pE
  exact (bcg (a:=D.rng 0 ((2*8:Nat):Int) 2) (s:=s) rfl).trans ((bcg e2).trans rfl)
theorem Jq0{d:D}{L:List Str}(hd:Jal s d=some (L.map .str))(hL:8*L.length+8<=line)(hl:∀l∈L,l.length<line):cfn G (n+2) 310 [d] s=.ok (.int ((wsum 0 (Ja0 L) % 4294967296:Nat):Int)) s:=by
 obtain ⟨V',s',e,hs,ht,hp⟩:=Jcu (d:=d) (ds:=L.map .str) (V:=(((V0.set "lines" d).set "total" (.int 0)).set "place" (.int 0))) (s:=s)
  (λj V s'=>s'=s/\V "total"=some (.int (wsum 0 (Ja0 (L.take j)) % 4294967296:Nat))/\V "place"=some (.int (Ja0 (L.take j)).length)) (by rw[List.length_map];exact ar117 hL) (λj V s' h=>by rw[h.1];exact hd)
  (step:=pA (n+1)) (λj d2 V s' hj ⟨hs,ht,hp⟩=>by
   have hjl:=(List.getElem?_eq_some_iff.mp hj).1
   rw[List.length_map] at hjl
   have el:=List.getElem?_eq_getElem hjl
   rw[List.getElem?_map,el] at hj
   cases hj
   have h8:(Ja0 (L.take j)).length+8<=line:=ar372 hL (Jn7 (L.take j)) (by rw[List.length_take];exact Nat.min_le_right _ _)
   obtain ⟨V',e,t,p⟩:=pA_ok (n:=n) (s:=s') (hl _ (List.getElem_mem hjl)) h8 ht hp
   rw[show L.take j++[L[j]]=L.take (j+1) by rw[List.take_add_one,el];rfl] at t p
   exact ⟨V',s',e,hs,t,p⟩)
  ⟨rfl,(Jab (by decide)).trans (Jao _ _ _),Jao _ _ _⟩
 subst hs
 rw[List.length_map,List.take_length] at ht
 refine (w310 (n+1) _ _).trans ((bcg e).trans ?_)
 rw[Jcz,ht,Jad]
end
end
section
open PySem.NumText
noncomputable def EndL{α:Type}(S:α->Jaa)(r:Except (Str×Nat) (Nat×α))(o:Out (Jac×Fl))(Q:Nat->α->Out (Jac×Fl)->Prop):Prop:=match r with
 |.error e=>∃V' x',o=.ok (V',.ret (.tup [.str e.1,.int (e.2:Int)])) (S x')
 |.ok p=>Q p.1 p.2 o
noncomputable def StpL{α:Type}(r:Except Str α)(m:Nat)(S:α->Jaa)(o:Out (Jac×Fl))(Q:α->Out (Jac×Fl)->Prop):Prop:=match r with
 |.error w=>∃V' x',o=.ok (V',.ret (.tup [.str w,.int (m:Int)])) (S x')
 |.ok x=>Q x o
noncomputable def hitB(L:List Str)(word:Str)(a:Nat):Bool:=match L[a]? with
 |none=>false
 |some l=>(Wd l).head?==some word
theorem loopL{α:Type}{L:List Str}{word:Str}{step:α->List Str->Except Str α}{S:α->Jaa}{VI:Nat->α->Jac->Prop}{test:Jac->Jaa->Out D}{body:Jac->Jaa->Out (Jac×Fl)}{aft:Jac->Jaa->Out (Jac×Fl)}
  (ht:∀a x V,VI a x V->test V (S x)=.ok (.bool (hitB L word a)) (S x))
  (hb:∀a x V l,VI a x V->L[a]?=some l->StpL (step x (Wd l)) (a+1) S (body V (S x)) λx' o=>∃V',o=.ok (V',.next) (S x')/\VI (a+1) x' V')
  (ha:∀a x V,VI a x V->aft V (S x)=if (a==L.length)=true then .ok (V,.ret (.tup [.str "a line lacks",.int ((a+1:Nat):Int)])) (S x) else .ok (V,.next) (S x)) :
  ∀(rem:List Str) (a:Nat) (x:α) (V:Jac) (k:Nat),L.drop a=rem->a<=L.length->rem.length<k->VI a x V->EndL S (secs word step rem a x) ((Jbh test body k V (S x)).bind (kv aft okR)) λa' x' o=>∃V',o=.ok (V',.next) (S x')/\VI a' x' V'/\a'<L.length
 |_,_,_,_,0,_,_,hk,_=>absurd hk (by exact ar12)
 |[],a,x,V,k+1,hd,hle,_,hV=>by
  have hge:=List.drop_eq_nil_iff.mp hd
  obtain rfl:a=L.length:=by exact ar147 hle hge
  have hh:hitB L word L.length=false:=by unfold hitB;rw[List.getElem?_eq_none_iff.mpr hge]
  refine ⟨V,x,?_⟩
  rw[Jec,ht _ x V hV,hh,bok,brf,bok,Jcz,ha _ x V hV,beq_self_eq_true]
  rfl
 |l::r,a,x,V,k+1,hd,hle,hk,hV=>by
  have hlt:a<L.length:=by
   refine Nat.lt_of_not_le λh=>?_
   rw[List.drop_eq_nil_of_le h] at hd
   cases hd
  have hd2:=List.drop_eq_getElem_cons hlt
  rw[hd] at hd2
  injection hd2 with e1 e2
  have el:L[a]?=some l:=by rw[List.getElem?_eq_getElem hlt,<-e1]
  have hh:hitB L word a=((Wd l).head?==some word):=by unfold hitB;rw[el]
  unfold secs
  rw[Jec,ht a x V hV,hh,bok]
  cases hq:((Wd l).head?==some word) with
  |false=>
   refine ⟨V,?_,hV,hlt⟩
   rw[brf,bok,Jcz,ha a x V hV,if_neg (by rw[beq_iff_eq];exact ar76 hlt)]
  |true=>
   rw[if_pos rfl,brt]
   have hbb:=hb a x V l hV el
   cases es:step x (Wd l) with
   |error w=>
    rw[es] at hbb
    obtain ⟨V',x',eb⟩:=hbb
    exact ⟨V',x',by rw[eb];rfl⟩
   |ok x'=>
    rw[es] at hbb
    obtain ⟨V',eb,hV'⟩:=hbb
    rw[eb]
    exact loopL ht hb ha r (a+1) x' V' k e2.symm (by exact ar100 hlt) (by simp at hk;exact ar68 hk) hV'
noncomputable def erB{α:Type}:Except Str α->Bool
 |.error w=>!(w=="")
 |.ok _=>true
theorem Jcc{α:Type}{c:Bool}{a b:Except Str α}(h1:erB a=true)(h2:erB b=true):erB (if c=true then a else b)=true:=by
 cases c with
 |true=>exact h1
 |false=>exact h2
theorem Jm2{α:Type}{x:Except Str α}{w:Str}(h:erB x=true)(e:x=.error w):(w=="")=false:=by
 rw[e] at h
 exact (Bool.not_eq_true' _).mp h
theorem err_map{names:List Str}{ws:List Str}{w:Str}(h:rdMap names ws=.error w):(w=="")=false:=by
 refine Jm2 ?_ h
 by_cases hl:ws.length=6
 ·obtain ⟨_,_,_,_,_,_,rfl⟩:=len6 hl
  exact Jcc (Jcc (by decide) (Jcc (Jcc rfl (by decide)) (by decide))) (by decide)
 ·rw[no6 hl];decide
theorem err_slot{ws:List Str}{w:Str}(h:Jco ws=.error w):(w=="")=false:=by
 refine Jm2 ?_ h
 by_cases hl:ws.length=2
 ·obtain ⟨_,_,rfl⟩:=len2 hl
  exact Jcc rfl (by decide)
 ·rw[no2 hl];decide
theorem err_sym{c:Nat}{x:List Sy}{ws:List Str}{w:Str}(h:rdSym c x ws=.error w):(w=="")=false:=by
 refine Jm2 ?_ h
 by_cases hl:ws.length=3
 ·obtain ⟨_,_,_,rfl⟩:=len3 hl
  exact Jcc (Jcc (Jcc (by decide) (Jcc (by decide) rfl)) (by decide)) (by decide)
 ·rw[no3 hl];decide
theorem err_rel{c:Nat}{x:List Re}{ws:List Str}{w:Str}(h:rdRel c x ws=.error w):(w=="")=false:=by
 refine Jm2 ?_ h
 by_cases hl:ws.length=4
 ·obtain ⟨_,_,_,_,rfl⟩:=len4 hl
  exact Jcc (Jcc (Jcc (Jcc (by decide) rfl) (by decide)) (by decide)) (by decide)
 ·rw[no4 hl];decide
structure VL0(σ:Jaa)(L:List Str)(a:Nat)(V:Jac):Prop where
 li:V "lines"=some (.lst (L.map .str))
 he:V "held"=some (.loc (σ.length+3))
 at_:V "at"=some (.int (a:Int))
structure VL(σ:Jaa)(L:List Str)(w:Str)(ad:Nat)(a:Nat)(V:Jac):Prop where
 li:V "lines"=some (.lst (L.map .str))
 he:V "held"=some (.loc (σ.length+3))
 at_:V "at"=some (.int (a:Int))
 so:V "sort"=some (.str w)
 de:V "deed"=some (.val (.ref ad))
theorem VL.z{σ:Jaa}{L:List Str}{w:Str}{ad a:Nat}{V:Jac}(h:VL σ L w ad a V):VL0 σ L a V:=⟨h.li,h.he,h.at_⟩
section
variable{σ:Jaa}{L:List Str}{w:Str}{ad a n:Nat}{V:Jac}{s:Jaa}
theorem lenL(B:Bd L):Jai (.builtin "len") [.lst (L.map .str)] s=.ok (.int (L.length:Int)) s:=klw (Nat.le_of_lt B.n)
theorem Jfw(B:Bd L)(h:VL σ L w ad a V):vT n V s=.ok (.bool (hitB L w a)) s:=by
 unfold vT
 simp only[h.li,h.at_,h.so,Jad,lenL B,bok,c_lt]
 unfold hitB
 cases e:L[a]? with
 |none=>
  have:=List.getElem?_eq_none_iff.mp e
  rw[decide_eq_false (by exact ar237 this)]
  rfl
 |some l=>
  have hlt:=(List.getElem?_eq_some_iff.mp e).1
  have hm:=List.mem_of_getElem? e
  rw[decide_eq_true (by exact ar226 hlt),brt,Jbc (Nat.le_of_lt B.n) e,bok,Jji Ja1 (Nat.le_of_lt (B.l l hm)) (by kernel_rfl)]
  show ((item (.lst ((Wd l).map .str)) (.int ((0:Nat):Int)) s).bind _).bind _=Out.ok (D.bool ((Wd l).head?==some w)) s
  cases ew:Wd l with
  |nil=>exact absurd ew (Wd_ne l)
  |cons x r=>
   rw[Jbc (l:=x::r) (a:=0) (by rw[<-ew];exact B.k hm) rfl]
   rfl
theorem Ji8(B:Bd L)(h:VL σ L w ad a V):vA V s=if (a==L.length)=true then Out.ok (V,Fl.ret (.tup [.str "a line lacks",.int ((a+1:Nat):Int)])) s else .ok (V,.next) s:=by
 unfold vA
 simp only[h.li,h.at_,Jad,lenL B,bok,Jsd,Jd4,Jcq]
 cases (a==L.length)<;>rfl
end
end
section
open PySem.NumText
noncomputable def lawB{β:Type}(V:Jac)(a:Nat)(s:Jaa)(k:β->Jaa)(r:Except Str β):Out (Jac×Fl):=match r with
 |.error u=>.ok (V.set "wrong" (.str u),.ret (.tup [.str u,.int ((a+1:Nat):Int)])) s
 |.ok y=>.ok ((V.set "wrong" (.str "")).set "at" (.int ((a+1:Nat):Int)),.next) (k y)
section
variable{σ:Jaa}{L:List Str}{w:Str}{ad a n:Nat}{V:Jac}{s:Jaa}{ms:List Row}{fs:List Str}{ss:List Sy}{rs:List Re}
theorem Jf8{β:Type}(B:Bd L)(h:VL σ L w ad a V){l:Str}(el:L[a]?=some l){r:Except Str β}{k:β->Jaa}(hd:cfn G (n+2) ad [.lst ((Wd l).map .str),.loc (σ.length+3)] s=lawS r s k)(he:∀u,r=.error u->(u=="")=false) :
  vB (n+2) V s=lawB V a s k r:=by
 have hm:=List.mem_of_getElem? el
 have hat:∀d,(V.set "wrong" d) "at"=some (.int (a:Int)):=λd=>(Jab (by decide)).trans h.at_
 unfold vB
 simp only[h.li,h.at_,h.de,h.he,Jad,Jbc (Nat.le_of_lt B.n) el,bok,Jji Ja1 (Nat.le_of_lt (B.l l hm)) (show G.lasts ⟨319,25,319,45⟩=false by kernel_rfl),hat,Jcq]
 have hd':Jlu (cfn G (n+2)) (.val (.ref ad)) [.lst ((Txt.split l " ").map .str),.loc (σ.length+3)] s=lawS r s k:=hd
 rw[hd']
 cases r with
 |error u=>
  refine Eq.trans (bcg (a:=D.str u) (s:=s) rfl) ?_
  rw[Jot,he u rfl]
  rfl
 |ok y=>rfl
theorem VL0.next{w':Str}{ad' a:Nat}(h:VL0 σ L a V):VL σ L w' ad' a ((V.set "sort" (.str w')).set "deed" (.val (.ref ad'))):=
 ⟨(Jab (by decide)).trans ((Jab (by decide)).trans h.li),(Jab (by decide)).trans ((Jab (by decide)).trans h.he),(Jab (by decide)).trans ((Jab (by decide)).trans h.at_),(Jab (by decide)).trans (Jao _ _ _),Jao _ _ _⟩
theorem VL.on(h:VL σ L w ad a V)(d:D):VL σ L w ad (a+1) ((V.set "wrong" d).set "at" (.int ((a+1:Nat):Int))):=
 ⟨(Jab (by decide)).trans ((Jab (by decide)).trans h.li),(Jab (by decide)).trans ((Jab (by decide)).trans h.he),Jao _ _ _,(Jab (by decide)).trans ((Jab (by decide)).trans h.so),(Jab (by decide)).trans ((Jab (by decide)).trans h.de)⟩
theorem Jqi{x:List Str}{y:Str}(h:∀g∈x,Jbt g=true)(hy:Jbt y=true):∀g∈x++[y],Jbt g=true:=λg hg=>by
 rcases List.mem_append.mp hg with hg | hg
 ·exact h g hg
 ·rw[List.mem_singleton.mp hg];exact hy
theorem map_law(B:Bd L)(hV:VL0 σ L a V){rem:List Str}(hd:L.drop a=rem)(hle:a<=L.length):EndL (λx=>Lt σ x [] [] []) (secs "map" Jdi rem a []) (vL (n+2) ((V.set "sort" (.str "map")).set "deed" (.val (.ref 339))) (Lt σ [] [] [] [])) λa' x' o=>∃V',o=.ok (V',Fl.next) (Lt σ x' [] [] [])/\(VL σ L "map" 339 a' V'/\x'.length<=a')/\a'<L.length:=by
 unfold vL
 refine loopL (L:=L) (word:="map") (step:=Jdi) (S:=λx=>Lt σ x [] [] []) (VI:=λa x V=>VL σ L "map" 339 a V/\x.length<=a) ?_ ?_ ?_ rem a [] _ G.turns hd hle (by rw[<-hd,List.length_drop];have:=B.n;show _<line+2;exact ar161 this) ⟨hV.next,Nat.zero_le _⟩
 ·intro a x V h
  exact Jfw B h.1
 ·intro a x V l h el
  have ha:=(List.getElem?_eq_some_iff.mp el).1
  have hn:=B.n
  have hn16:=B.n16
  have hm:=List.mem_of_getElem? el
  have b:=Jf8 B h.1 el (law_map (n:=n) (σ:=σ) (ms:=x) (fs:=[]) (ss:=[]) (rs:=[]) (B.k hm) (λw hw=>B.w hm hw) (by have:=h.2;exact ar317 ha hn16 this)) (λu hu=>err_map hu)
  unfold Jdi snoc
  revert b
  cases er:rdMap (x.map (·.1)) (Wd l) with
  |error u=>intro b;exact ⟨_,_,b⟩
  |ok y=>intro b;exact ⟨_,b,h.1.on _,by rw[List.length_append];have:=h.2;show _+1<=_;exact ar125 this⟩
 ·intro a x V h
  exact Ji8 B h.1
theorem slot_law(B:Bd L)(hV:VL0 σ L a V){rem:List Str}(hd:L.drop a=rem)(hle:a<=L.length):EndL (λx=>Lt σ ms x [] []) (secs "slot" Jbi rem a []) (vL (n+2) ((V.set "sort" (.str "slot")).set "deed" (.val (.ref 346))) (Lt σ ms [] [] [])) λa' x' o=>∃V',o=.ok (V',Fl.next) (Lt σ ms x' [] [])/\(VL σ L "slot" 346 a' V'/\(x'.length<=a'/\∀g∈x',Jbt g=true))/\a'<L.length:=by
 unfold vL
 refine loopL (L:=L) (word:="slot") (step:=Jbi) (S:=λx=>Lt σ ms x [] []) (VI:=λa x V=>VL σ L "slot" 346 a V/\(x.length<=a/\∀g∈x,Jbt g=true)) ?_ ?_ ?_ rem a [] _ G.turns hd hle (by rw[<-hd,List.length_drop];have:=B.n;show _<line+2;exact ar161 this) ⟨hV.next,⟨Nat.zero_le _,λg hg=>by cases hg⟩⟩
 ·intro a x V h
  exact Jfw B h.1
 ·intro a x V l h el
  have ha:=(List.getElem?_eq_some_iff.mp el).1
  have hn:=B.n
  have hn16:=B.n16
  have hm:=List.mem_of_getElem? el
  have b:=Jf8 B h.1 el (law_slot (n:=n) (σ:=σ) (ms:=ms) (fs:=x) (ss:=[]) (rs:=[]) (B.k hm) (λw hw=>B.w hm hw) (by rw[Jb3 h.2.2];have:=h.2.1;exact ar369 ha hn16 this)) (λu hu=>err_slot hu)
  unfold Jbi snoc
  revert b
  cases er:Jco (Wd l) with
  |error u=>intro b;exact ⟨_,_,b⟩
  |ok y=>intro b;exact ⟨_,b,h.1.on _,by rw[List.length_append];have:=h.2.1;show _+1<=_;exact ar125 this,Jqi h.2.2 (Jkr er)⟩
 ·intro a x V h
  exact Ji8 B h.1
theorem sym_law(B:Bd L)(hf:16*fs.length<=line)(ho:∀g∈fs,Jbt g=true)(hV:VL0 σ L a V){rem:List Str}(hd:L.drop a=rem)(hle:a<=L.length):EndL (λx=>Lt σ ms fs x []) (secs "symbol" (Jb8 fs.length) rem a []) (vL (n+2) ((V.set "sort" (.str "symbol")).set "deed" (.val (.ref 351))) (Lt σ ms fs [] [])) λa' x' o=>∃V',o=.ok (V',Fl.next) (Lt σ ms fs x' [])/\(VL σ L "symbol" 351 a' V'/\x'.length<=a')/\a'<L.length:=by
 unfold vL
 refine loopL (L:=L) (word:="symbol") (step:=(Jb8 fs.length)) (S:=λx=>Lt σ ms fs x []) (VI:=λa x V=>VL σ L "symbol" 351 a V/\x.length<=a) ?_ ?_ ?_ rem a [] _ G.turns hd hle (by rw[<-hd,List.length_drop];have:=B.n;show _<line+2;exact ar161 this) ⟨hV.next,Nat.zero_le _⟩
 ·intro a x V h
  exact Jfw B h.1
 ·intro a x V l h el
  have ha:=(List.getElem?_eq_some_iff.mp el).1
  have hn:=B.n
  have hn16:=B.n16
  have hm:=List.mem_of_getElem? el
  have b:=Jf8 B h.1 el (Job (n:=n) (σ:=σ) (ms:=ms) (fs:=fs) (ss:=x) (rs:=[]) (B.k hm) (λw hw=>B.w hm hw) (by have:=h.2;exact ar317 ha hn16 this) hf ho) (λu hu=>err_sym hu)
  unfold Jb8 snoc
  revert b
  cases er:rdSym fs.length x (Wd l) with
  |error u=>intro b;exact ⟨_,_,b⟩
  |ok y=>intro b;exact ⟨_,b,h.1.on _,by rw[List.length_append];have:=h.2;show _+1<=_;exact ar125 this⟩
 ·intro a x V h
  exact Ji8 B h.1
theorem rel_law(B:Bd L)(hf:16*fs.length<=line)(ho:∀g∈fs,Jbt g=true)(hV:VL0 σ L a V){rem:List Str}(hd:L.drop a=rem)(hle:a<=L.length):EndL (λx=>Lt σ ms fs ss x) (secs "relocation" (Jbw fs.length) rem a []) (vL (n+2) ((V.set "sort" (.str "relocation")).set "deed" (.val (.ref 358))) (Lt σ ms fs ss [])) λa' x' o=>∃V',o=.ok (V',Fl.next) (Lt σ ms fs ss x')/\(VL σ L "relocation" 358 a' V'/\x'.length<=a')/\a'<L.length:=by
 unfold vL
 refine loopL (L:=L) (word:="relocation") (step:=(Jbw fs.length)) (S:=λx=>Lt σ ms fs ss x) (VI:=λa x V=>VL σ L "relocation" 358 a V/\x.length<=a) ?_ ?_ ?_ rem a [] _ G.turns hd hle (by rw[<-hd,List.length_drop];have:=B.n;show _<line+2;exact ar161 this) ⟨hV.next,Nat.zero_le _⟩
 ·intro a x V h
  exact Jfw B h.1
 ·intro a x V l h el
  have ha:=(List.getElem?_eq_some_iff.mp el).1
  have hn:=B.n
  have hn16:=B.n16
  have hm:=List.mem_of_getElem? el
  have b:=Jf8 B h.1 el (Jg1 (n:=n) (σ:=σ) (ms:=ms) (fs:=fs) (ss:=ss) (rs:=x) (B.k hm) (λw hw=>B.w hm hw) (by have:=h.2;exact ar317 ha hn16 this) hf ho) (λu hu=>err_rel hu)
  unfold Jbw snoc
  revert b
  cases er:rdRel fs.length x (Wd l) with
  |error u=>intro b;exact ⟨_,_,b⟩
  |ok y=>intro b;exact ⟨_,b,h.1.on _,by rw[List.length_append];have:=h.2;show _+1<=_;exact ar125 this⟩
 ·intro a x V h
  exact Ji8 B h.1
end
end
section
open PySem.NumText
noncomputable def endD(r:Except (Str×Nat) Unit):D:=match r with
 |.error e=>.tup [.str e.1,.int (e.2:Int)]
 |.ok _=>.none
section
variable{L:List Str}{d n:Nat}{s:Jaa}{fs:List Str}
theorem slice_to{l:List Str}(h:l.length<=line)(k:Nat):slice (.lst (l.map .str)) D.none (.int (k:Int)) D.none s=.ok (.lst ((l.take k).map .str)) s:=by
 show Out.of (if (l.map D.str).length<=line then some (D.lst (cut (l.map D.str) none (some (k:Int)))) else none) s=_
 rw[if_pos (by rwa [List.length_map]),Jm6,List.map_take]
 rfl
theorem tail_eq{l:List Str}(h:l.length<=line):Jag .Eq (.lst (l.map .str)) (.lst [(.str "")]) s=.ok (.bool (l==[("":Str)])) s:=c_eql (b:=[("":Str)]) h (by decide)
theorem Jqy(w:Str):lerr w (.int (d:Int)) s=.ok (endD (.error (w,d+1))) s:=bcg (Jcq _ _)
theorem ends{b:Bool}{x:Except (Str×Nat) Unit}{w:Str}{o:Out D}(h:b=true->o=.ok (endD x) s):brD (.bool (!b)) (lerr w (.int (d:Int)) s) o=.ok (endD (if b=true then x else .error (w,d+1))) s:=by
 cases b with
 |true=>exact h rfl
 |false=>exact Jqy w
section
variable{w0 w1 w2:Str}
theorem u6_ok(hl:L.length<=line):u6 (.lst (L.map .str)) (.int (d:Int)) s=.ok (endD (if (L.drop (d+1)==[("":Str)])=true then .ok () else .error ("more behind the end",d+2))) s:=by
 have hd1:(L.drop (d+1)).length<=line:=Nat.le_trans (by rw[List.length_drop];exact ar75) hl
 unfold u6
 refine (bcg (Jcq d 1)).trans ((bcg (Jhc hl (d+1))).trans ((bcg (tail_eq hd1)).trans ?_))
 cases (L.drop (d+1)==[("":Str)]) with
 |true=>rfl
 |false=>rfl
theorem u4_ok(hl:L.length<=line)(h2:w2.length<=line)(hs:cfn G (n+2) 310 [.lst ((L.take d).map .str)] s=.ok (.int ((wsum 0 (Jam fs) % 4294967296:Nat):Int)) s):u4 (n+2) (.lst ([w0,w1,w2].map .str)) (.lst (L.map .str)) (.int (d:Int)) s=.ok (endD (if Jbj w2=true then (if (Ja6 w2==wsum 0 (Jam fs) % 4294967296)=true then (if (L.drop (d+1)==[("":Str)])=true then .ok () else .error ("more behind the end",d+2)) else .error ("sum",d+1)) else .error ("number",d+1))) s:=by
 unfold u4
 refine (bcg i_2).trans ((bcg (Jca h2)).trans ((bcg (c_lt _ _)).trans ?_))
 change brD (.bool (decide (lnum w2<0))) _ _=_
 rw[Jdk w2]
 refine ends λe=>?_
 unfold u5
 refine (bcg i_2).trans ((bcg (Jca h2)).trans ((bcg ((bcg (slice_to hl d)).trans ((bcg hs).trans (Jou _ _)))).trans ?_))
 rw[if_pos e,Jd4]
 exact ends λ_=>u6_ok hl
theorem u1_ok(hl:L.length<=line)(h1:w1.length<=line)(h2:w2.length<=line)(hs:cfn G (n+2) 310 [.lst ((L.take d).map .str)] s=.ok (.int ((wsum 0 (Jam fs) % 4294967296:Nat):Int)) s):u1 (n+2) (.lst ([w0,w1,w2].map .str)) (.lst (L.map .str)) (.int (d:Int)) s=.ok (endD (if (w0=="end")=true then (if Jbj w1=true then (if (Ja6 w1==d)=true then (if Jbj w2=true then (if (Ja6 w2==wsum 0 (Jam fs) % 4294967296)=true then (if (L.drop (d+1)==[("":Str)])=true then .ok () else .error ("more behind the end",d+2)) else .error ("sum",d+1)) else .error ("number",d+1)) else .error ("end",d+1)) else .error ("number",d+1)) else .error ("end",d+1))) s:=by
 unfold u1
 refine (bcg i_0).trans ((bcg (Jot _ _)).trans (ends λ_=>?_))
 unfold u2
 refine (bcg i_1).trans ((bcg (Jca h1)).trans ((bcg (c_lt _ _)).trans ?_))
 change brD (.bool (decide (lnum w1<0))) _ _=_
 rw[Jdk w1]
 refine ends λe=>?_
 unfold u3
 refine (bcg i_1).trans ((bcg (Jca h1)).trans ((bcg (Jou _ _)).trans ?_))
 rw[if_pos e,Jd4]
 exact ends λ_=>u4_ok hl h2 hs
end
theorem law_end(B:Bd L){l:Str}(el:L[d]?=some l)(hs:Ja0 (L.take d)=Jam fs):cfn G (n+3) 365 [.lst ((Wd l).map .str),.lst (L.map .str),.int (d:Int)] s=.ok (endD (endO L d fs ())) s:=by
 have hm:=List.mem_of_getElem? el
 have hlt:=(List.getElem?_eq_some_iff.mp el).1
 have hw:=λw (h:w∈Wd l)=>B.w hm h
 rw[w365]
 refine (bcg (klw (B.k hm))).trans ((bcg (nw3 (Wd l).length)).trans ?_)
 by_cases hc:(Wd l).length=3
 ·rw[beq_iff_eq.mpr hc,Bool.not_true,brf]
  obtain ⟨w0,w1,w2,ew⟩:=len3 hc
  rw[Jc9 el ew]
  rw[ew] at hw ⊢
  have hsum:=Jq0 (n:=n) (s:=s) (d:=.lst ((L.take d).map .str)) (L:=L.take d) rfl (by rw[List.length_take];exact ar332 B.n16 hlt) (λx hx=>B.l x (List.mem_of_mem_take hx))
  rw[hs] at hsum
  exact u1_ok (Nat.le_of_lt B.n) (hw w1 (.tail _ (.head _))) (hw w2 (.tail _ (.tail _ (.head _)))) hsum
 ·rw[beq_eq_false_iff_ne.mpr hc,Bool.not_false,brt,Jfb el hc]
  exact Jqy _
end
theorem Je2{α:Type}{word:Str}{step:α->List Str->Except Str α}:∀{rem:List Str} {a:Nat} {x:α} {p:Nat×α},secs word step rem a x=.ok p->∃mid,rem=mid++rem.drop mid.length/\p.1=a+mid.length/\(∀l∈mid,(Wd l).head?=some word)/\mid.foldlM (λx l=>step x (Wd l)) x=.ok p.2
 |[],_,_,_,h=>by cases h
 |l::r,a,x,p,h=>by
  unfold secs at h
  split at h
  ·rename_i hh
   cases es:step x (Wd l) with
   |error w=>rw[es] at h;cases h
   |ok x'=>
    rw[es] at h
    obtain ⟨mid,h1,h2,h3,h4⟩:=Je2 h
    refine ⟨l::mid,by rw[List.cons_append,List.length_cons,List.drop_succ_cons,<-h1],by rw[h2,List.length_cons];exact ar144,?_,?_⟩
    ·intro y hy
     rcases List.mem_cons.mp hy with rfl | hy
     ·exact beq_iff_eq.mp hh
     ·exact h3 y hy
    ·rw[List.foldlM_cons,es];exact h4
  ·cases h
   exact ⟨[],rfl,rfl,⟨λl hl=>(by cases hl),rfl⟩⟩
end
section
open PySem.NumText
theorem Jhj(A B:List Str):Ja0 (A++B)=Ja0 A++Ja0 B:=by
 unfold Ja0 Jam
 rw[List.filterMap_append,List.flatMap_append]
set_option tactic.hygienic true in
theorem Jks{l:Str}{w:Str}(h:(Wd l).head?=some w)(hw:(w=="slot")=false):Jce l=none:=by
 unfold Jce
 split
 ·rename_i x g e
  rw[e] at h
  cases h
  rw[hw];rfl
 ·rfl
theorem Jgg{L:List Str}(h:∀l∈L,Jce l=none):Ja0 L=[]:=by
 unfold Ja0
 rw[List.filterMap_eq_nil_iff.mpr h];rfl
theorem Jha:∀{mid:List Str} {x y:List Str},(∀l∈mid,(Wd l).head?=some "slot")->mid.foldlM (λx l=>Jbi x (Wd l)) x=.ok y->y=x++mid.filterMap Jce
 |[],x,y,_,h=>by cases h;simp
 |l::r,x,y,hh,h=>by
  rw[List.foldlM_cons] at h
  have h1:=hh l (List.mem_cons_self ..)
  unfold Jbi snoc at h
  cases e:Jco (Wd l) with
  |error w=>rw[e] at h;cases h
  |ok g=>
   rw[e] at h
   have h2:=Jha (mid:=r) (x:=x++[g]) (λl hl=>hh l (List.mem_cons_of_mem _ hl)) h
   have hg:Jce l=some g:=by
    obtain ⟨w,ew,hb⟩:=of2 e
    rw[ew] at h1
    cases h1
    unfold Jce
    rw[ew]
    show (if (("slot":Str)=="slot"&&Jbt g)=true then some g else none)=some g
    rw[beq_self_eq_true,hb]
    rfl
   rw[h2,List.filterMap_cons_some hg,List.append_assoc]
   rfl
theorem Jh7{L mid:List Str}{a:Nat}(h:L.drop a=mid++(L.drop a).drop mid.length):L.take (a+mid.length)=L.take a++mid:=by
 rw[List.take_add,h,List.take_left' rfl]
theorem Jid{α:Type}{L:List Str}{word:Str}{step:α->List Str->Except Str α}{a:Nat}{x:α}{p:Nat×α}(hw:(word=="slot")=false)(h:secs word step (L.drop a) a x=.ok p):Ja0 (L.take p.1)=Ja0 (L.take a):=by
 obtain ⟨mid,h1,h2,h3,_⟩:=Je2 h
 rw[h2,Jh7 h1,Jhj,Jgg λl hl=>Jks (h3 l hl) hw,List.append_nil]
theorem Jpx{L:List Str}{a:Nat}{p:Nat×List Str}(h:secs "slot" Jbi (L.drop a) a []=.ok p):Ja0 (L.take p.1)=Ja0 (L.take a)++Jam p.2:=by
 obtain ⟨mid,h1,h2,h3,h4⟩:=Je2 h
 rw[h2,Jh7 h1,Jhj,Jha h3 h4]
 rfl
theorem Jis:∀{fs:List Str},(∀g∈fs,Jbt g=true)->(Cs (figs fs)).all (inS Hex)=true
 |[],_=>rfl
 |g::r,h=>by
  show (Cs g++r.flatMap λg=>Cs g).all (inS Hex)=true
  rw[List.all_append,Jgh (h g (List.mem_cons_self ..))]
  exact Jis (fs:=r) λx hx=>h x (List.mem_cons_of_mem _ hx)
theorem Jj1:∀{fs:List Str},(∀g∈fs,Jbt g=true)->u8s (hexN (Cs (figs fs)))=Jam fs
 |[],_=>rfl
 |g::r,h=>by
  have hg:=h g (List.mem_cons_self ..)
  have ih:=Jj1 (fs:=r) λx hx=>h x (List.mem_cons_of_mem _ hx)
  show u8s (hexN (Cs g++r.flatMap λg=>Cs g))=octs g++Jam r
  rw[Jmx 8 _ _ (Jcf hg),<-ih]
  unfold u8s
  rw[List.map_append]
  rfl
noncomputable def resD(r:Except (Str×Nat) Got):D:=match r with
 |.error e=>.tup [.str e.1,.int (e.2:Int)]
 |.ok g=>.tup [.tup (g.1.map rowT),.bytes (Jam g.2.1).toArray,.tup (g.2.2.1.map symD),.tup (g.2.2.2.map relD)]
section
variable{σ:Jaa}{L:List Str}{n:Nat}{t:Str}{s:Jaa}{ms:List Row}{fs:List Str}{ss:List Sy}{rs:List Re}
theorem Jrk(a b c d:D)(step:D->Jac->Jaa->Out (Jac×Fl))(V:Jac)(s:Jaa):Jfg (.lst [a,b,c,d]) step V s=(step a V s).bind (kv (λV s=>(step b V s).bind (kv (λV s=>(step c V s).bind (kv (λV s=>(step d V s).bind (kv okN okR)) okR)) okR)) okR):=by kernel_rfl
theorem Jlb{j:Nat}{ds:List D}(h:Ls j ds s)(hl:ds.length<=line):Jai (.type "tuple") [.loc j] s=.ok (.tup ds) s:=by
 show Out.of ((Jau s (.loc j)).bind λds=>if ds.length<=line then some (D.tup ds) else none) s=_
 rw[Jbk h]
 show Out.of (if ds.length<=line then some (D.tup ds) else none) s=_
 rw[if_pos hl];rfl
theorem law_octs(ho:∀g∈fs,Jbt g=true)(hf:16*fs.length<=line){V:Jac}(hV:V "held"=some (.loc (σ.length+3))):(Ja5 (.rng 0 ((16*fs.length:Nat):Int) 2) (cE V) (Lt σ ms fs ss rs))=.ok (.lst (((hexN (Cs (figs fs))).map λx:Nat=>(x:Int)).map .int)) (Lt σ ms fs ss rs):=by
 have hn:(Cs (figs fs)).length=2*(8*fs.length):=by rw[Jbv,Jb3 ho];exact ar78
 have hl:(figs fs).length<=line:=by rw[Jb3 ho];exact hf
 have ha:=Jis ho
 have hh:=Jjy (σ:=σ) (ms:=ms) (fs:=fs) (ss:=ss) (rs:=rs)
 generalize Lt σ ms fs ss rs=s at hh ⊢
 rw[Jc8 _ _ hn,List.map_map,List.map_map,show 16*fs.length=2*(8*fs.length) by exact ar78]
 refine Jka (by exact ar194 hf) (λj hj=>?_)
 have c1:=Jcv ha (k:=2*j) (by exact ar313 hn hj)
 have c2:=Jcv ha (k:=2*j+1) (by exact ar345 hn hj)
 have e1:=Jfo (s:=s) hl (k:=2*j) (by exact ar313 hn hj)
 have e2:=Jfo (s:=s) hl (k:=2*j+1) (by exact ar345 hn hj)
 have ef1:(Jae .Mult (.int 16) (.int (Txt.find Hex (sg ((Cs (figs fs)).getD (2*j) 0)))) s)=.ok (.int ((16*hv ((Cs (figs fs)).getD (2*j) 0):Nat):Int)) s:=by
  rw[Jf6 c1,Jg4 (.inl (by decide))];rfl
 have ef2:(Jae .Add (.int ((16*hv ((Cs (figs fs)).getD (2*j) 0):Nat):Int)) (.int (Txt.find Hex (sg ((Cs (figs fs)).getD (2*j+1) 0)))) s)=.ok (.int ((16*hv ((Cs (figs fs)).getD (2*j) 0)+hv ((Cs (figs fs)).getD (2*j+1) 0):Nat):Int)) s:=by
  rw[Jf6 c2,Jcq];rfl
 have ej:Jae .Add (.int ((2*j:Nat):Int)) (.int 1) s=.ok (.int ((2*j+1:Nat):Int)) s:=by rw[Jcq];rfl
 unfold cE
 simp only[hV,Jad,hh,bok,e1,Jqt,ef1,ej,e2,ef2]
 rfl
end
end
section
open PySem.NumText
theorem ch{α:Type}{σ:Jaa}{S:α->Jaa}{r:Except (Str×Nat) (Nat×α)}{o:Out (Jac×Fl)}{Q:Nat->α->Out (Jac×Fl)->Prop}{A:Jac->Jaa->Out (Jac×Fl)}{K:Jac->Jaa->Out D}{q:Nat×α->Except (Str×Nat) Got}(h:EndL S r o Q)(hS:∀x,∃τ,S x=σ++τ)
  (hk:∀p,r=.ok p->Q p.1 p.2 o->∃τ,(o.bind (kv A okR)).bind (kv K λ_ d s=>.ok d s)=.ok (resD (q p)) (σ++τ)):∃τ,(o.bind (kv A okR)).bind (kv K λ_ d s=>.ok d s)=.ok (resD (eb r q)) (σ++τ):=by
 cases r with
 |error e=>
  obtain ⟨V',x',rfl⟩:=h
  obtain ⟨τ,hτ⟩:=hS x'
  exact ⟨τ,by rw[<-hτ];rfl⟩
 |ok p=>exact hk p rfl h
theorem Jfm{σ:Jaa}(ms:List Row)(fs:List Str)(ss:List Sy)(rs:List Re):∃τ,Lt σ ms fs ss rs=σ++τ:=⟨_,rfl⟩
theorem Jhx{β:Type}{c:Bool}{r:β}{e:Str×Nat}{x:Except (Str×Nat) Unit}{y:Except (Str×Nat) β}(h:y=(match x with | .error e=>.error e | .ok _=>.ok r)):(if c=true then y else .error e)=(match (if c=true then x else .error e) with | .error e=>.error e | .ok _=>.ok r):=by
 cases c with
 |true=>exact h
 |false=>rfl
theorem endO_map{β:Type}{L:List Str}{d:Nat}{fs:List Str}{r:β}:endO L d fs r=(match endO L d fs () with | .error e=>.error e | .ok _=>.ok r):=by
 cases el:L[d]? with
 |none=>rw[Jfc el,Jfc el]
 |some l=>
  by_cases hc:(Wd l).length=3
  ·obtain ⟨w0,w1,w2,ew⟩:=len3 hc
   rw[Jc9 el ew,Jc9 el ew]
   exact Jhx (Jhx (Jhx (Jhx (Jhx (Jhx rfl)))))
  ·rw[Jfb el hc,Jfb el hc]
section
variable{σ:Jaa}{L:List Str}{n:Nat}{t:Str}{s:Jaa}
variable{V:Jac}{fs:List Str}{ms:List Row}{ss:List Sy}{rs:List Re}{a d:Nat}
theorem c4_ok(hV:V "held"=some (.loc (σ.length+3)))(ho:∀g∈fs,Jbt g=true)(hf:16*fs.length<=line)(h1:ms.length<=line)(h2:ss.length<=line)(h3:rs.length<=line):c4 V (.lst (((hexN (Cs (figs fs))).map λx:Nat=>(x:Int)).map .int)) (Lt σ ms fs ss rs)=.ok (resD (.ok (ms,fs,ss,rs))) (Lt σ ms fs ss rs):=by
 have hnl:(hexN (Cs (figs fs))).length=8*fs.length:=Jip _ _ (by rw[Jbv,Jb3 ho];exact ar78)
 have hby:=Jq6 (s:=Lt σ ms fs ss rs) (l:=hexN (Cs (figs fs))) (by rw[hnl];exact ar135 hf) (Jlg _ (Jis ho))
 rw[Jj1 ho] at hby
 unfold c4
 rw[hV,Jad]
 refine (bcg Jrg).trans ((bcg (Jlb Lt.at0 (by rwa [List.length_map]))).trans ((bcg hby).trans ?_))
 rw[Jad]
 refine (bcg h_syms).trans ((bcg (Jlb Lt.at1 (by rwa [List.length_map]))).trans ?_)
 rw[Jad]
 exact (bcg h_rels).trans (bcg (Jlb Lt.at2 (by rwa [List.length_map])))
theorem c3_ok(hV:V "held"=some (.loc (σ.length+3)))(ho:∀g∈fs,Jbt g=true)(hf:16*fs.length<=line)(h1:ms.length<=line)(h2:ss.length<=line)(h3:rs.length<=line):c3 V (Lt σ ms fs ss rs)=.ok (resD (.ok (ms,fs,ss,rs))) (Lt σ ms fs ss rs):=by
 have hfl:=Jd7 (σ:=Lt σ ms fs ss rs) (s:=figs fs) (by rw[Jb3 ho];exact hf)
 rw[Jb3 ho] at hfl
 have hoc:=law_octs (σ:=σ) (ms:=ms) (fs:=fs) (ss:=ss) (rs:=rs) ho hf hV
 unfold c3
 rw[hV,Jad]
 exact (bcg Jjy).trans ((bcg hfl).trans ((bcg (k_rng2 hf)).trans ((bcg hoc).trans (c4_ok ((Jab (by decide)).trans hV) ho hf h1 h2 h3))))
theorem c2_ok(r:Except (Str×Nat) Unit)(h:c3 (V.set "wrong" D.none) s=.ok (resD (.ok (ms,fs,ss,rs))) s):c2 n V (endD r) s=.ok (resD (match r with | .error e=>.error e | .ok _=>.ok (ms,fs,ss,rs))) s:=by
 cases r with
 |error e=>rfl
 |ok u=>exact h
theorem c1_ok(B:Bd L)(hV:VL0 σ L d V)(hd:d<L.length)(hs:Ja0 (L.take d)=Jam fs)(ho:∀g∈fs,Jbt g=true)(hf:16*fs.length<=line)(h1:ms.length<=line)(h2:ss.length<=line)(h3:rs.length<=line):c1 (n+3) V (Lt σ ms fs ss rs)=.ok (resD (endO L d fs (ms,fs,ss,rs))) (Lt σ ms fs ss rs):=by
 have el:=List.getElem?_eq_getElem hd
 have hml:=List.mem_of_getElem? el
 unfold c1
 rw[hV.li,Jad,hV.at_,Jad]
 refine (bcg (Jbc (Nat.le_of_lt B.n) el)).trans ?_
 rw[Jji Ja1 (Nat.le_of_lt (B.l _ hml)) (by kernel_rfl),Jad,Jad]
 refine (bcg (law_end (n:=n) B el hs)).trans ?_
 rw[endO_map (r:=(ms,fs,ss,rs))]
 exact c2_ok _ (c3_ok ((Jab (by decide)).trans hV.he) ho hf h1 h2 h3)
noncomputable def rD:Jac->D->Jaa->Out D:=λ_ d s=>.ok d s
noncomputable def v4(n:Nat)(V:Jac)(s:Jaa):Out (Jac×Fl):=(vS n (.tup [.str "relocation",.val (.ref 358)]) V s).bind (kv okN okR)
noncomputable def v3(n:Nat)(V:Jac)(s:Jaa):Out (Jac×Fl):=(vS n (.tup [.str "symbol",.val (.ref 351)]) V s).bind (kv (v4 n) okR)
noncomputable def v2(n:Nat)(V:Jac)(s:Jaa):Out (Jac×Fl):=(vS n (.tup [.str "slot",.val (.ref 346)]) V s).bind (kv (v3 n) okR)
noncomputable def v1(n:Nat)(V:Jac)(s:Jaa):Out (Jac×Fl):=(vS n (.tup [.str "map",.val (.ref 339)]) V s).bind (kv (v2 n) okR)
theorem le16(B:Bd L){k:Nat}(h:k<=a)(ha:a<=L.length):16*k<=line:=Nat.le_trans (Nat.mul_le_mul_left 16 (Nat.le_trans h ha)) (Nat.le_of_lt B.n16)
theorem le1(B:Bd L){k:Nat}(h:k<=a)(ha:a<=L.length):k<=line:=Nat.le_trans h (Nat.le_trans ha (Nat.le_of_lt B.n))
theorem v4_ok(B:Bd L)(hV:VL0 σ L a V)(hle:a<=L.length)(hs:Ja0 (L.take a)=Jam fs)(ho:∀g∈fs,Jbt g=true)(hf:16*fs.length<=line)(h1:ms.length<=line)(h2:ss.length<=line):∃τ,(v4 (n+3) V (Lt σ ms fs ss [])).bind (kv (c1 (n+3)) rD)=.ok (resD (eb (secs "relocation" (Jbw fs.length) (L.drop a) a []) λd=>endO L d.1 fs (ms,fs,ss,d.2))) (σ++τ):=
 ch (rel_law (n:=n+1) B hf ho hV rfl hle) (λx=>Jfm _ _ _ _) λd hd ⟨V4,o4,⟨hV4,l4⟩,d4⟩=>by
  rw[o4]
  obtain ⟨τ,hτ⟩:=Jfm (σ:=σ) ms fs ss d.2
  exact ⟨τ,(c1_ok B hV4.z d4 ((Jid (by decide) hd).trans hs) ho hf h1 h2 (le1 B l4 (Nat.le_of_lt d4))).trans (by rw[hτ])⟩
theorem v3_ok(B:Bd L)(hV:VL0 σ L a V)(hle:a<=L.length)(hs:Ja0 (L.take a)=Jam fs)(ho:∀g∈fs,Jbt g=true)(hf:16*fs.length<=line)(h1:ms.length<=line):∃τ,(v3 (n+3) V (Lt σ ms fs [] [])).bind (kv (c1 (n+3)) rD)=.ok (resD (eb (secs "symbol" (Jb8 fs.length) (L.drop a) a []) λc=>eb (secs "relocation" (Jbw fs.length) (L.drop c.1) c.1 []) λd=>endO L d.1 fs (ms,fs,c.2,d.2))) (σ++τ):=
 ch (sym_law (n:=n+1) B hf ho hV rfl hle) (λx=>Jfm _ _ _ _) λc hc ⟨V3,o3,⟨hV3,l3⟩,d3⟩=>by
  rw[o3]
  exact v4_ok B hV3.z (Nat.le_of_lt d3) ((Jid (by decide) hc).trans hs) ho hf h1 (le1 B l3 (Nat.le_of_lt d3))
theorem v2_ok(B:Bd L)(hV:VL0 σ L a V)(hle:a<=L.length)(hs:Ja0 (L.take a)=[])(h1:ms.length<=line):∃τ,(v2 (n+3) V (Lt σ ms [] [] [])).bind (kv (c1 (n+3)) rD)=.ok (resD (eb (secs "slot" Jbi (L.drop a) a []) λb=>eb (secs "symbol" (Jb8 b.2.length) (L.drop b.1) b.1 []) λc=>eb (secs "relocation" (Jbw b.2.length) (L.drop c.1) c.1 []) λd=>endO L d.1 b.2 (ms,b.2,c.2,d.2))) (σ++τ):=
 ch (slot_law (n:=n+1) B hV rfl hle) (λx=>Jfm _ _ _ _) λb hb ⟨V2,o2,⟨hV2,l2,ho2⟩,d2⟩=>by
  rw[o2]
  exact v3_ok B hV2.z (Nat.le_of_lt d2) ((Jpx hb).trans (by rw[hs];rfl)) ho2 (le16 B l2 (Nat.le_of_lt d2)) h1
theorem v1_ok(B:Bd L)(hV:VL0 σ L 1 V)(hle:1<=L.length)(hs:Ja0 (L.take 1)=[]):∃τ,cF (n+3) V (Lt σ [] [] [] [])=.ok (resD (eb (secs "map" Jdi (L.drop 1) 1 []) λa=>eb (secs "slot" Jbi (L.drop a.1) a.1 []) λb=>eb (secs "symbol" (Jb8 b.2.length) (L.drop b.1) b.1 []) λc=>eb (secs "relocation" (Jbw b.2.length) (L.drop c.1) c.1 []) λd=>endO L d.1 b.2 (a.2,b.2,c.2,d.2))) (σ++τ):=by
 have e:cF (n+3) V (Lt σ [] [] [] [])=(v1 (n+3) V (Lt σ [] [] [] [])).bind (kv (c1 (n+3)) rD):=congrArg (λo=>Out.bind o (kv (c1 (n+3)) rD)) (Jrk _ _ _ _ (vS (n+3)) V _)
 rw[e]
 exact ch (map_law (n:=n+1) B hV rfl hle) (λx=>Jfm _ _ _ _) λa ha ⟨V1,o1,⟨hV1,l1⟩,d1⟩=>by
  rw[o1]
  exact v2_ok B hV1.z (Nat.le_of_lt d1) ((Jid (by decide) ha).trans hs) (le1 B l1 (Nat.le_of_lt d1))
theorem cW_ok(B:Bd L){h:Str}(e0:L[0]?=some h):cW n (.lst (L.map .str)) s=.ok (.tup [.str (if (Wd h).length=3 then "head" else "words"),.int 1]) s:=by
 have hm:=List.mem_of_getElem? e0
 unfold cW
 refine (bcg (Jbc (a:=0) (Nat.le_of_lt B.n) e0)).trans ?_
 rw[Jji Ja1 (Nat.le_of_lt (B.l h hm)) (by kernel_rfl)]
 refine (bcg (klw (B.k hm))).trans ((bcg (Jsd _ _)).trans ?_)
 rw[show (3:Int)=((3:Nat):Int) from rfl,Jd4]
 by_cases hc:(Wd h).length=3
 ·rw[beq_iff_eq.mpr hc,if_pos hc];rfl
 ·rw[beq_eq_false_iff_ne.mpr hc,if_neg hc];rfl
theorem cH_ok(B:Bd L){h:Str}{L':List Str}(hL:L=h::L'):∃τ,cH (n+3) t (.lst (L.map .str)) (.loc (σ.length+3)) (Lt σ [] [] [] [])=.ok (resD (readH L h)) (σ++τ):=by
 have e0:L[0]?=some h:=by rw[hL];rfl
 have e:cH (n+3) t (.lst (L.map .str)) (.loc (σ.length+3)) (Lt σ [] [] [] [])=brD (.bool !(h==Head)) (cW (n+3) (.lst (L.map .str)) (Lt σ [] [] [] [])) (cF (n+3) ((((V0.set "text" (.str t)).set "lines" (.lst (L.map .str))).set "held" (.loc (σ.length+3))).set "at" (.int 1)) (Lt σ [] [] [] [])):=(bcg (Jbc (a:=0) (Nat.le_of_lt B.n) e0)).trans (bcg (Jot _ _))
 rw[e]
 unfold readH
 cases eh:(h==Head) with
 |false=>
  have hne:(Wd h==Wd Head)=false:=beq_eq_false_iff_ne.mpr λe=>(beq_eq_false_iff_ne.mp eh) (Wd_inj e)
  obtain ⟨τ,hτ⟩:=Jfm (σ:=σ) [] [] [] []
  refine ⟨τ,?_⟩
  rw[<-hτ,hne,Bool.not_false,brt,cW_ok B e0]
  by_cases hc:(Wd h).length=3
  ·rw[if_pos hc,if_pos hc];rfl
  ·rw[if_neg hc,if_neg hc];rfl
 |true=>
  have hh:h=Head:=beq_iff_eq.mp eh
  have h3:(Wd h).length=3:=by rw[hh];decide +kernel
  have ho1:Ja0 (L.take 1)=[]:=by
   rw[hL,hh]
   exact Jgg λl hl=>by
    rw[List.mem_singleton.mp (show l∈[Head] from hl)]
    decide +kernel
  rw[if_pos h3,if_pos (by rw[hh];exact beq_self_eq_true _)]
  exact v1_ok B ⟨(Jab (by decide)).trans ((Jab (by decide)).trans (Jao _ _ _)),(Jab (by decide)).trans (Jao _ _ _),Jao _ _ _⟩ (by rw[hL];exact Nat.succ_le_succ (Nat.zero_le _)) ho1
theorem w370_eq(ht:t.length<=line):cfn G (n+1) 370 [.str t] σ=cH n t (.lst ((Txt.split t "\n").map .str)) (.loc (σ.length+3)) (Lt σ [] [] [] []):=by
 have s1:(σ++[M.list []]).length=σ.length+1:=List.length_append
 have s2:(σ++[M.list []]++[M.list []]).length=σ.length+2:=by rw[List.length_append,s1];rfl
 have s3:(σ++[M.list []]++[M.list []]++[M.list []]).length=σ.length+3:=by rw[List.length_append,s2];rfl
 have s4:σ++[M.list []]++[M.list []]++[M.list []]++[M.dict ["maps","figures","symbols","relocations"] [.loc σ.length,.str "",.loc (σ.length+1),.loc (σ.length+2)]]=Lt σ [] [] [] []:=by
  unfold Lt
  rw[show figs []=("":Str) by decide +kernel,List.append_assoc,List.append_assoc,List.append_assoc];rfl
 rw[w370,Jji Je3 ht (by kernel_rfl),bok,bok,bok,bok,s1,s2,s3,s4]
theorem law_read(B:Bd L)(hL:Txt.split t "\n"=L)(ht:t.length<=line):∃τ,cfn G (n+4) 370 [.str t] σ=.ok (resD (readO L)) (σ++τ):=by
 rw[w370_eq ht,hL]
 cases hL2:L with
 |nil=>exact absurd (hL.trans hL2) (Jfx _ _)
 |cons h L'=>exact cH_ok (hL2▸B) rfl
end
end
section
open PySem.NumText
theorem dig_char:∀d:Fin 10,(Nat.digitChar d.val).toNat=48+d.val:=by decide +kernel
theorem Jr1{c:Nat}(h:48<=c/\c<=57):(Nat.toDigits 10 (c - 48)).map Char.toNat=[c]:=by
 rw[Nat.toDigits_of_lt_base (by exact ar81 h.2)]
 have:=dig_char ⟨c - 48,by exact ar81 h.2⟩
 show [(Nat.digitChar (c - 48)).toNat]=[c]
 rw[this]
 congr 1
 show 48+(c - 48)=c
 exact ar131 h.1
theorem Jm5:∀(k:Nat) (cs:List Nat) (c:Nat),cs.length=k->(∀x∈c::cs,48<=x/\x<=57)->c≠48->0<digitsVal (c::cs)/\(Nat.toDigits 10 (digitsVal (c::cs))).map Char.toNat=c::cs
 |0,[],c,_,h,hc=>by
  have h:=h c (List.mem_cons_self ..)
  have e:digitsVal [c]=c - 48:=by unfold digitsVal;simp
  rw[e]
  exact ⟨by exact ar150 hc h.1,Jr1 h⟩
 |k+1,cs,c,hk,h,hc=>by
  have hne:cs≠[]:=by rintro rfl;simp at hk
  have e:=(List.dropLast_concat_getLast hne).symm
  have hx:=h (cs.getLast hne) (List.mem_cons_of_mem _ (List.getLast_mem hne))
  obtain ⟨ih1,ih2⟩:=Jm5 k cs.dropLast c (by rw[List.length_dropLast,hk];rfl) (λx hx=>h x (by
   rcases List.mem_cons.mp hx with rfl | hx
   ·exact List.mem_cons_self ..
   ·exact List.mem_cons_of_mem _ (List.dropLast_subset _ hx))) hc
  generalize cs.getLast hne=l at e hx
  generalize cs.dropLast=b at e ih1 ih2
  subst e
  have ev:digitsVal (c::(b++[l]))=10*digitsVal (c::b)+(l - 48):=by
   rw[<-List.cons_append,Jew];exact ar271
  rw[ev]
  refine ⟨by exact ar193 ih1,?_⟩
  rw[<-Nat.toDigits_append_toDigits (by decide) ih1 (by exact ar81 hx.2),List.map_append,ih2,Jr1 hx]
  rfl
 |0,_::_,_,hk,_,_=>by simp at hk
noncomputable def num(k:Nat):Str:=Str.ofString (toString ((k:Nat):Int))
theorem cs_num(k:Nat):Cs (num k)=(Nat.toDigits 10 k).map Char.toNat:=by
 unfold num Cs
 rw[Str.ofString_eq_toList]
 show (Nat.repr k).toList.map Char.toNat=_
 rw[Nat.toList_repr]
theorem Jcs{t:Str}(h:Jbj t=true):num (Ja6 t)=t:=by
 apply Jdx
 rw[cs_num]
 unfold Jbj at h
 unfold Ja6
 cases e:Cs t with
 |nil=>rw[e] at h;cases h
 |cons c r=>
  rw[e] at h
  simp only[Bool.and_eq_true,Bool.not_eq_true',Bool.and_eq_false_iff,beq_eq_false_iff_ne,Bool.not_eq_false',beq_iff_eq] at h
  have hd:∀x∈c::r,48<=x/\x<=57:=λx hx=>Jio (List.all_eq_true.mp h.1.2 x hx)
  rcases h.2 with hc | h0
  ·exact (Jm5 r.length r c rfl hd hc).2
  ·rw[h0] at e
   have e2:Cs ("0":Str)=[48]:=by decide +kernel
   rw[e2] at e
   cases e
   decide +kernel
end
section
open PySem.NumText
theorem val_lt:∀(k:Nat) (cs:List Nat),cs.length=k->(∀x∈cs,48<=x/\x<=57)->digitsVal cs<10^k
 |0,[],_,_=>by decide
 |k+1,cs,hk,h=>by
  have hne:cs≠[]:=by rintro rfl;simp at hk
  have e:=(List.dropLast_concat_getLast hne).symm
  have hx:=h (cs.getLast hne) (List.getLast_mem hne)
  have ih:=val_lt k cs.dropLast (by rw[List.length_dropLast,hk];rfl) (λx hx=>h x (List.dropLast_subset _ hx))
  rw[e,Jew,Nat.pow_succ]
  exact ar347 hx.2 ih
 |0,_::_,hk,_=>by simp at hk
theorem Jqm{t:Str}(h:Jbj t=true):Ja6 t<10000000000:=by
 unfold Jbj at h
 unfold Ja6
 cases e:Cs t with
 |nil=>rw[e] at h;cases h
 |cons c r=>
  rw[e] at h
  simp only[Bool.and_eq_true,decide_eq_true_eq] at h
  have hd:∀x∈c::r,48<=x/\x<=57:=λx hx=>Jio (List.all_eq_true.mp h.1.2 x hx)
  have h1:=val_lt _ (c::r) rfl hd
  have h2:(c::r).length<=10:=by rw[<-e,Jbv];exact h.1.1
  exact Nat.lt_of_lt_of_le h1 (Nat.pow_le_pow_right (by decide) h2)
noncomputable def hd16(k:Nat):Nat:=(Cs Hex).getD k 0
theorem hd_hv{c:Nat}(h:inS Hex c=true):hd16 (hv c)=c:=by
 have h1:∀d:Fin 10,hd16 d.val=48+d.val:=by decide +kernel
 have h2:∀d:Fin 6,hd16 (10+d.val)=97+d.val:=by decide +kernel
 unfold hv
 rcases Jin h with h | h
 ·rw[if_pos h.2]
  have:=h1 ⟨c - 48,by exact ar81 h.2⟩
  simp only at this
  rw[this];exact ar131 h.1
 ·rw[if_neg (by exact ar55 h.1)]
  have:=h2 ⟨c - 97,by exact ar80 h.2⟩
  simp only at this
  rw[show c - 87=10+(c - 97) by exact ar179 h.1,this];exact ar132 h.1
noncomputable def twos:List Nat->List Str
 |a::b::r=>⟨#[a,b]⟩::twos r
 |_=>[]
theorem Jil(a:Str)(r:List Str):Str.join "" (a::r)=a++Str.join "" r:=by
 cases r with
 |nil=>apply Jdx;show a.cps.toList=(a.cps++#[]).toList;rw[Array.append_empty]
 |cons b r=>
  show a++""++Str.join "" (b::r)=_
  have e:a++("":Str)=a:=by
   apply Jdx
   show (a.cps++(Str.ofString "").cps).toList=a.cps.toList
   rw[show (Str.ofString "").cps=#[] by decide +kernel,Array.append_empty]
  rw[e]
theorem Jjd:∀(m:Nat) (l:List Nat),l.length=2*m->Str.join "" (twos l)=⟨l.toArray⟩
 |0,[],_=>rfl
 |m+1,a::b::r,h=>by
  show Str.join "" (⟨#[a,b]⟩::twos r)=_
  rw[Jil,Jjd m r (by simp at h;exact ar258 h)]
  apply Jdx
  show (#[a,b]++r.toArray).toList=_
  simp
 |0,_::_,h=>by simp at h
 |m+1,[],h=>by simp at h
 |m+1,[_],h=>by simp at h;exact (ar92 h).elim
theorem Jl3:∀(l:List Nat),((twos l).map (·.length)).sum<=l.length
 |a::b::r=>by
  have:=Jl3 r
  show (2:Nat)+((twos r).map (·.length)).sum<=r.length+1+1
  exact ar159 this
 |[]=>Nat.le_refl _
 |[_]=>Nat.zero_le _
section
variable{n:Nat}{s:Jaa}
theorem Jjq{x:Str}{ys:List Str}(h:(ys.map (·.length)).sum+ys.length*x.length<=line):Jbu false (.str x) "join" [.lst (ys.map .str)] s=.ok (.str (Str.join x ys)) s:=by
 have e:Jbu false (.str x) "join" [.lst (ys.map .str)] s=Out.of ((Jb5 (ys.map .str)).bind λys=>if (ys.map (·.length)).sum+ys.length*x.length<=line then some (D.str (Txt.join x ys)) else none) s:=by kernel_rfl
 rw[e,Jed]
 show Out.of (if (ys.map (·.length)).sum+ys.length*x.length<=line then some (D.str (Txt.join x ys)) else none) s=_
 rw[if_pos h]
 show Out.ok (D.str (Txt.join x ys)) s=_
 unfold Txt.join
 rw[StrLaws.glued_eq_join]
noncomputable def hexG:D->Option D
 |.int k=>some (.str ⟨#[hd16 (k.toNat / 16),hd16 (k.toNat % 16)]⟩)
 |_=>none
theorem Jjw:∀(l:List Nat),l.all (inS Hex)=true->((u8s (hexN l)).map λc=>D.int (c.toNat:Int)).filterMap hexG=(twos l).map .str
 |[],_=>rfl
 |[_],_=>rfl
 |a::b::r,hl=>by
  simp only[List.all_cons,Bool.and_eq_true] at hl
  have ha:=Joe hl.1
  have hb:=Joe hl.2.1
  have ih:=Jjw r hl.2.2
  have e:hexG (D.int (((16*hv a+hv b).toUInt8.toNat:Nat):Int))=some (.str ⟨#[a,b]⟩):=by
   rw[u8_nat (by exact ar250 ha hb)]
   show some (D.str ⟨#[hd16 (((16*hv a+hv b:Nat):Int).toNat / 16),hd16 (((16*hv a+hv b:Nat):Int).toNat % 16)]⟩)=_
   rw[Int.toNat_natCast,show (16*hv a+hv b) / 16=hv a by exact ar209 hb,show (16*hv a+hv b) % 16=hv b by exact ar208 hb,hd_hv hl.1,hd_hv hl.2.1]
  exact (List.filterMap_cons_some e).trans (congrArg (D.str ⟨#[a,b]⟩::·) ih)
theorem Jf4{k:Nat}(hk:k<16):item (.str "0123456789abcdef") (.int (k:Int)) s=.ok (.str (sg (hd16 k))) s:=
 Jfo (g:=Hex) (by decide +kernel) (by have:(Cs Hex).length=16:=(by decide +kernel);exact ar145 hk this)
theorem hex_of{g:Str}(h:Jbt g=true):cfn G (n+1) 167 [.bytes (octs g).toArray] s=.ok (.str g) s:=by
 have hn:=Jcf h
 have ha:=Jgh h
 rw[w167,Jba (g:=hexG) (ds:=(octs g).map λc=>.int (c.toNat:Int)) rfl (by rw[List.length_map,Jef h];decide) (λd hd=>?_)]
 ·have e:=Jjw (Cs g) ha
  show ((Out.ok (D.lst (((u8s (hexN (Cs g))).map λc=>D.int (c.toNat:Int)).filterMap hexG)) s).bind _)=_
  rw[e,bok,Jjq]
  ·rw[Jjd 8 _ hn];rfl
  ·have h1:=Jl3 (Cs g)
   have h0:("":Str).length=0:=by decide +kernel
   rw[h0,Nat.mul_zero]
   have:16<=line:=by decide
   exact ar290 hn h1 this
 ·obtain ⟨c,hc,rfl⟩:=List.mem_map.mp hd
  have hlt:c.toNat<256:=c.toNat_lt
  generalize c.toNat=k at hlt
  have e1:Jae .RShift (.int (k:Int)) (.int 4) s=.ok (.int ((k / 16:Nat):Int)) s:=by
   rw[b_shr (by decide)]
   congr 2
   rw[Int.fdiv_eq_ediv_of_nonneg _ (by decide)]
   rfl
  have e2:Jae .BitAnd (.int (k:Int)) (.int 15) s=.ok (.int ((k % 16:Nat):Int)) s:=by
   rw[b_and,bitAnd_m4];rfl
  refine Eq.trans (bcg e1) (Eq.trans (bcg (Jf4 (by exact ar84 hlt))) (Eq.trans (bcg e2) (Eq.trans (bcg (Jf4 (by exact ar23))) ?_)))
  refine Eq.trans (bcg (Jbm (by show 1+1<=line;decide))) ?_
  rfl
end
end
section
open PySem.NumText
noncomputable def Wt(σ:Jaa)(ls:List Str):Jaa:=σ++[.list (ls.map .str)]
theorem Wt.at{σ:Jaa}{ls:List Str}:Ls σ.length (ls.map .str) (Wt σ ls):=by
 unfold Ls Wt
 rw[List.getElem?_append_right (Nat.le_refl _),Nat.sub_self]
 rfl
theorem Wt.set{σ:Jaa}{ls:List Str}(x:Str):(Wt σ ls).set σ.length (.list (ls.map .str++[.str x]))=Wt σ (ls++[x]):=by
 unfold Wt
 rw[List.set_append_right _ _ (Nat.le_refl _),Nat.sub_self,List.map_append]
 rfl
structure RowOk(r:Row):Prop where
 n:r.1.length<=15
 k:r.2.1.length<=15
 a:r.2.2.1<10000000000/\(num r.2.2.1).length<=10
 b:r.2.2.2.1<10000000000/\(num r.2.2.2.1).length<=10
 c:r.2.2.2.2<10000000000/\(num r.2.2.2.2).length<=10
structure SyOk(r:Sy):Prop where
 n:r.1.length<=15
 a:r.2<10000000000/\(num r.2).length<=10
structure ReOk(r:Re):Prop where
 a:r.1<10000000000/\(num r.1).length<=10
 w:r.2.1.length<=4
 n:r.2.2.length<=15
noncomputable def wrMap(r:Row):Str:=("map ":Str)++Str.join " " [r.1,r.2.1,num r.2.2.1,num r.2.2.2.1,num r.2.2.2.2]
noncomputable def wrSlot(g:Str):Str:=("slot ":Str)++g
noncomputable def wrSym(r:Sy):Str:=((("symbol ":Str)++r.1)++(" ":Str))++num r.2
noncomputable def wrRel(r:Re):Str:=((((("relocation ":Str)++num r.1)++(" ":Str))++r.2.1)++(" ":Str))++r.2.2
section
variable{σ:Jaa}{n:Nat}{s:Jaa}{ms:List Row}{fs:List Str}{ss:List Sy}{rs:List Re}
theorem Je6{k:Nat}(h:k<10000000000):Jai (.type "str") [.int (k:Int)] s=.ok (.str (num k)) s:=Jel (by show (k:Int).natAbs<2^64;omega)
theorem k_strs{t:Str}(h:t.length<=line):Jai (.type "str") [.str t] s=.ok (.str t) s:=Jel h
theorem Jl7(r:Row):cfn G (n+1) 82 [rowD r] s=.ok (rowT r) s:=(w82 n (.str r.1) (.str r.2.1) (.int r.2.2.1) (.int r.2.2.2.1) (.int r.2.2.2.2) s).trans (by kernel_rfl)
theorem Jqe(r:Row):Jah G (rowD r) "told" s=true:=by kernel_rfl
theorem m_told(r:Row){cf:Addr->List D->Jaa->Out D}{p:Pos}:Jak G cf p (rowD r) "told" [] s=cf 82 [rowD r] s:=by kernel_rfl
theorem l15:15<=line:=by decide
theorem str_row{r:Row}(h:RowOk r):Ja5 (rowT r) (λe7 s=>(Jai (.type "str") [e7] s).bind λx8 s=>.ok (some x8) s) s=.ok (.lst ([r.1,r.2.1,num r.2.2.1,num r.2.2.2.1,num r.2.2.2.2].map .str)) s:=by
 refine (Jba (ds:=[.str r.1,.str r.2.1,.int r.2.2.1,.int r.2.2.2.1,.int r.2.2.2.2]) (g:=λd=>match d with | .str t=>some (.str t) | .int i=>some (.str (Str.ofString (toString i))) | _=>none) rfl (by show 5<=line;decide) ?_).trans rfl
 intro d hd
 simp only[List.mem_cons,List.not_mem_nil,or_false] at hd
 rcases hd with rfl | rfl | rfl | rfl | rfl
 ·exact bcg (k_strs (Nat.le_trans h.n l15))
 ·exact bcg (k_strs (Nat.le_trans h.k l15))
 ·exact bcg (Je6 h.a.1)
 ·exact bcg (Je6 h.b.1)
 ·exact bcg (Je6 h.c.1)
theorem join_row{r:Row}(h:RowOk r):Jbu false (.str " ") "join" [.lst ([r.1,r.2.1,num r.2.2.1,num r.2.2.2.1,num r.2.2.2.2].map .str)] s=.ok (.str (Str.join " " [r.1,r.2.1,num r.2.2.1,num r.2.2.2.1,num r.2.2.2.2])) s:=by
 refine Jjq ?_
 have:=h.n;have:=h.k;have:=h.a.2;have:=h.b.2;have:=h.c.2
 have hl:65<=line:=by decide
 simp only[List.map_cons,List.map_nil,List.sum_cons,List.sum_nil,List.length_cons,List.length_nil,Ja1]
 exact ar447 (by assumption) (by assumption) (by assumption) (by assumption) this hl
theorem Jjs{r:Row}(h:RowOk r):(Str.join " " [r.1,r.2.1,num r.2.2.1,num r.2.2.2.1,num r.2.2.2.2]).length<=100:=by
 have h0:=Jeh " " Ja1 r.1 [r.2.1,num r.2.2.1,num r.2.2.2.1,num r.2.2.2.2]
 have:=h.n;have:=h.k;have:=h.a.2;have:=h.b.2;have:=h.c.2
 simp only[Jas] at h0
 have:tot []=0:=rfl
 exact ar448 h0 (by assumption) (by assumption) (by assumption) (by assumption) (by assumption) this
theorem Jp7{ls:List Str}{x:Str}{p:Pos}{cf:Addr->List D->Jaa->Out D}(hl:ls.length<=line):Jak G cf p (.loc σ.length) "append" [.str x] (Wt σ ls)=.ok .none (Wt σ (ls++[x])):=by
 rw[Jjr Wt.at (by rwa [List.length_map]),Wt.set]
inductive Wrote(md:D)(σ:Jaa)(ls:List Str)(o:Out (Jac×Fl)):Prop
 |mk (V:Jac) (e:o=.ok (V,.next) (Wt σ ls)) (m:V "made"=some md) (v:V "lines"=some (.loc σ.length))
theorem Jh3{α:Type}{xs:List α}{d md:D}{ds:List D}{w:α->Str}{step:D->Jac->Jaa->Out (Jac×Fl)}{ls:List Str}(hl:ls.length+xs.length<=line)(hd:ds.length=xs.length)(hi:∀s,Jal s d=some ds)
  (h:∀(j:Nat) (r:α) (e:D) (V:Jac) (ls:List Str),xs[j]?=some r->ds[j]?=some e->ls.length<=line->V "made"=some md->V "lines"=some (.loc σ.length)->Wrote md σ (ls++[w r]) (step e V (Wt σ ls))) {V:Jac} (hm:V "made"=some md) (hV:V "lines"=some (.loc σ.length)):Wrote md σ (ls++xs.map w) (Jfg d step V (Wt σ ls)):=by
 obtain ⟨V',s',e,hs,h1,h2⟩:=Jcu (d:=d) (ds:=ds) (V:=V) (s:=Wt σ ls) (λj V s=>s=Wt σ (ls++(xs.take j).map w)/\V "made"=some md/\V "lines"=some (.loc σ.length)) (by rw[hd];exact ar128 hl) (λ_ _ s _=>hi s)
  (step:=step) (λj e V s hj ⟨hs,hm,hv⟩=>by
   have hlt:=(List.getElem?_eq_some_iff.mp hj).1
   rw[hd] at hlt
   have er:=List.getElem?_eq_getElem hlt
   have hlen:(ls++(xs.take j).map w).length<=line:=by
    rw[List.length_append,List.length_map,List.length_take];exact ar269 hl
   obtain ⟨V',e1,m,v⟩:=h j _ _ V _ er hj hlen hm hv
   refine ⟨V',_,hs▸e1,?_,m,v⟩
   rw[List.take_add_one,er,List.map_append,List.append_assoc];rfl)
  ⟨by rw[List.take_zero,List.map_nil,List.append_nil],hm,hV⟩
 rw[hd,List.take_length] at hs
 exact ⟨V',by rw[e,hs],h1,h2⟩
theorem Jml{α:Type}{xs:List α}{f:α->D}{j:Nat}{r:α}{e:D}(h:xs[j]?=some r)(k:(xs.map f)[j]?=some e):e=f r:=by
 rw[List.getElem?_map,h] at k
 exact (Option.some.inj k).symm
section
variable{V:Jac}{md:D}{ls:List Str}
theorem kM_ok{r:Row}(ro:RowOk r)(hlen:ls.length<=line)(hm:V "made"=some md)(hv:V "lines"=some (.loc σ.length)):Wrote md σ (ls++[wrMap r]) (kM (n+1) (rowD r) V (Wt σ ls)):=by
 have hadd:∀s,Jae .Add (.str "map ") (.str (Str.join " " [r.1,r.2.1,num r.2.2.1,num r.2.2.2.1,num r.2.2.2.2])) s=.ok (.str (wrMap r)) s:=λs=>Jbm (by
  have h2:("map ":Str).length=4:=by decide +kernel
  have h3:200<=line:=by decide
  exact ar304 (Jjs ro) h2 h3)
 refine ⟨V.set "row" (rowD r),?_,(Jab (by decide)).trans hm,(Jab (by decide)).trans hv⟩
 unfold kM
 rw[Jab (by decide:("lines":Str)≠"row"),hv,Jad,if_pos (Jch Wt.at)]
 exact (if_pos (Jqe r)).trans ((bcg ((m_told r).trans (Jl7 r))).trans ((bcg (str_row ro)).trans ((bcg (join_row ro)).trans ((bcg (hadd _)).trans (bcg (Jp7 hlen))))))
end
theorem wr_maps(hr:∀r∈ms,RowOk r){ls:List Str}(hl:ls.length+ms.length<=line){V:Jac}{md:D}(hm:V "made"=some md)(hV:V "lines"=some (.loc σ.length)):Wrote md σ (ls++ms.map wrMap) (Jfg (.lst (ms.map rowD)) (kM (n+1)) V (Wt σ ls)):=
 Jh3 hl (List.length_map _) (λ_=>rfl) (λj r e V ls h k hl hm hv=>by
  cases Jml h k
  exact kM_ok (hr r (List.mem_of_getElem? h)) hl hm hv) hm hV
end
end
section
open PySem.NumText
section
variable{σ:Jaa}{n:Nat}{s:Jaa}{ms:List Row}{fs:List Str}{ss:List Sy}{rs:List Re}
section
variable{V:Jac}{md:D}{ls:List Str}
theorem h100:100<=line:=by decide
theorem kS2_ok{r:Sy}(ro:SyOk r)(hlen:ls.length<=line)(a2:V "name"=some (.str r.1))(a3:V "slot"=some (.int (r.2:Int))):kS2 (n+1) V (.loc σ.length) (Wt σ ls)=.ok (V,.next) (Wt σ (ls++[wrSym r])):=by
 have q1:("symbol ":Str).length=7:=by decide +kernel
 have e1:∀s,Jae .Add (.str "symbol ") (.str r.1) s=.ok (.str (("symbol ":Str)++r.1)) s:=λs=>Jbm (ar296 h100 q1 ro.n)
 have e2:∀s,Jae .Add (.str (("symbol ":Str)++r.1)) (.str " ") s=.ok (.str ((("symbol ":Str)++r.1)++(" ":Str))) s:=λs=>Jbm (by rw[Jav,Ja1];exact ar320 h100 q1 ro.n)
 have e3:∀s,Jae .Add (.str ((("symbol ":Str)++r.1)++(" ":Str))) (.str (num r.2)) s=.ok (.str (wrSym r)) s:=λs=>Jbm (by rw[Jav,Jav,Ja1];exact ar393 h100 q1 ro.n ro.a.2)
 unfold kS2
 rw[a2,Jad]
 refine (bcg (e1 _)).trans ((bcg (e2 _)).trans ?_)
 rw[a3,Jad]
 exact (bcg (Je6 ro.a.1)).trans ((bcg (e3 _)).trans (bcg (Jp7 hlen)))
theorem kS_ok{r:Sy}(ro:SyOk r)(hlen:ls.length<=line)(hm:V "made"=some md)(hv:V "lines"=some (.loc σ.length)):Wrote md σ (ls++[wrSym r]) (kS (n+1) (symD r) V (Wt σ ls)):=by
 have a1:((V.set "name" (.str r.1)).set "slot" (.int (r.2:Int))) "lines"=some (.loc σ.length):=(Jab (by decide)).trans ((Jab (by decide)).trans hv)
 refine ⟨(V.set "name" (.str r.1)).set "slot" (.int (r.2:Int)),?_,(Jab (by decide)).trans ((Jab (by decide)).trans hm),a1⟩
 unfold kS
 rw[show tupT ["name","slot"] (symD r) V=some ((V.set "name" (.str r.1)).set "slot" (.int (r.2:Int))) from rfl,Jl2,a1,Jad,if_pos (Jch Wt.at)]
 exact kS2_ok ro hlen ((Jab (by decide)).trans (Jao _ _ _)) (Jao _ _ _)
theorem kR2_ok{r:Re}(ro:ReOk r)(hlen:ls.length<=line)(a1:V "slot"=some (.int (r.1:Int)))(a2:V "way"=some (.str r.2.1))(a3:V "name"=some (.str r.2.2)):kR2 (n+1) V (.loc σ.length) (Wt σ ls)=.ok (V,.next) (Wt σ (ls++[wrRel r])):=by
 have q1:("relocation ":Str).length=11:=by decide +kernel
 have g2:=ro.a.2
 have e1:∀s,Jae .Add (.str "relocation ") (.str (num r.1)) s=.ok (.str (("relocation ":Str)++num r.1)) s:=λs=>Jbm (ar302 h100 q1 g2)
 have e2:∀s,Jae .Add (.str (("relocation ":Str)++num r.1)) (.str " ") s=.ok (.str ((("relocation ":Str)++num r.1)++(" ":Str))) s:=λs=>Jbm (by rw[Jav,Ja1];exact ar330 h100 q1 g2)
 have e3:∀s,Jae .Add (.str ((("relocation ":Str)++num r.1)++(" ":Str))) (.str r.2.1) s=.ok (.str (((("relocation ":Str)++num r.1)++(" ":Str))++r.2.1)) s:=λs=>Jbm (by rw[Jav,Jav,Ja1];exact ar392 h100 q1 g2 ro.w)
 have e4:∀s,Jae .Add (.str (((("relocation ":Str)++num r.1)++(" ":Str))++r.2.1)) (.str " ") s=.ok (.str ((((("relocation ":Str)++num r.1)++(" ":Str))++r.2.1)++(" ":Str))) s:=λs=>Jbm (by rw[Jav,Jav,Jav,Ja1];exact ar407 h100 q1 g2 ro.w)
 have e5:∀s,Jae .Add (.str ((((("relocation ":Str)++num r.1)++(" ":Str))++r.2.1)++(" ":Str))) (.str r.2.2) s=.ok (.str (wrRel r)) s:=λs=>Jbm (by rw[Jav,Jav,Jav,Jav,Ja1];exact ar431 h100 q1 ro.n g2 ro.w)
 unfold kR2
 rw[a1,Jad]
 refine (bcg (Je6 ro.a.1)).trans ((bcg (e1 _)).trans ((bcg (e2 _)).trans ?_))
 rw[a2,Jad]
 refine (bcg (e3 _)).trans ((bcg (e4 _)).trans ?_)
 rw[a3,Jad]
 exact (bcg (e5 _)).trans (bcg (Jp7 hlen))
theorem kR_ok{r:Re}(ro:ReOk r)(hlen:ls.length<=line)(hm:V "made"=some md)(hv:V "lines"=some (.loc σ.length)):Wrote md σ (ls++[wrRel r]) (kR (n+1) (relD r) V (Wt σ ls)):=by
 have a1:(((V.set "slot" (.int (r.1:Int))).set "way" (.str r.2.1)).set "name" (.str r.2.2)) "lines"=some (.loc σ.length):=(Jab (by decide)).trans ((Jab (by decide)).trans ((Jab (by decide)).trans hv))
 refine ⟨((V.set "slot" (.int (r.1:Int))).set "way" (.str r.2.1)).set "name" (.str r.2.2),?_,(Jab (by decide)).trans ((Jab (by decide)).trans ((Jab (by decide)).trans hm)),a1⟩
 unfold kR
 rw[show tupT ["slot","way","name"] (relD r) V=some (((V.set "slot" (.int (r.1:Int))).set "way" (.str r.2.1)).set "name" (.str r.2.2)) from rfl,Jl2,a1,Jad,if_pos (Jch Wt.at)]
 exact kR2_ok ro hlen ((Jab (by decide)).trans ((Jab (by decide)).trans (Jao _ _ _))) ((Jab (by decide)).trans (Jao _ _ _)) (Jao _ _ _)
end
theorem wr_syms{xs:List Sy}(hr:∀r∈xs,SyOk r){ls:List Str}(hl:ls.length+xs.length<=line){V:Jac}{md:D}(hm:V "made"=some md)(hV:V "lines"=some (.loc σ.length)):Wrote md σ (ls++xs.map wrSym) (Jfg (.lst (xs.map symD)) (kS (n+1)) V (Wt σ ls)):=
 Jh3 hl (List.length_map _) (λ_=>rfl) (λj r e V ls h k hl hm hv=>by
  cases Jml h k
  exact kS_ok (hr r (List.mem_of_getElem? h)) hl hm hv) hm hV
theorem wr_rels{xs:List Re}(hr:∀r∈xs,ReOk r){ls:List Str}(hl:ls.length+xs.length<=line){V:Jac}{md:D}(hm:V "made"=some md)(hV:V "lines"=some (.loc σ.length)):Wrote md σ (ls++xs.map wrRel) (Jfg (.lst (xs.map relD)) (kR (n+1)) V (Wt σ ls)):=
 Jh3 hl (List.length_map _) (λ_=>rfl) (λj r e V ls h k hl hm hv=>by
  cases Jml h k
  exact kR_ok (hr r (List.mem_of_getElem? h)) hl hm hv) hm hV
theorem Jj7:∀{fs:List Str},(∀g∈fs,Jbt g=true)->∀(j:Nat) (g:Str),fs[j]?=some g->((Jam fs).drop (8*j)).take 8=octs g
 |[],_,j,g,h=>by cases h
 |f::r,ho,0,g,h=>by
  cases h
  have h8:=Jef (ho f (List.mem_cons_self ..))
  show ((octs f++Jam r).drop 0).take 8=octs f
  rw[List.drop_zero,List.take_left' h8]
 |f::r,ho,j+1,g,h=>by
  have h8:=Jef (ho f (List.mem_cons_self ..))
  have ih:=Jj7 (fs:=r) (λx hx=>ho x (List.mem_cons_of_mem _ hx)) j g h
  show ((octs f++Jam r).drop (8*(j+1))).take 8=octs g
  rw[show 8*(j+1)=(octs f).length+8*j by rw[h8];exact ar106,List.drop_append]
  simp only[Nat.add_sub_cancel_left]
  rw[List.drop_eq_nil_of_le (by exact ar63),List.nil_append]
  exact ih
theorem Jih:attr G.fld (objD ms fs ss rs) "octets" s=.ok (.bytes (Jam fs).toArray) s:=by kernel_rfl
theorem Jql:attr G.fld (objD ms fs ss rs) "maps" s=.ok (.lst (ms.map rowD)) s:=by kernel_rfl
theorem Jqj:attr G.fld (objD ms fs ss rs) "symbols" s=.ok (.lst (ss.map symD)) s:=by kernel_rfl
theorem Jqk:attr G.fld (objD ms fs ss rs) "relocations" s=.ok (.lst (rs.map relD)) s:=by kernel_rfl
theorem ok_cnt:Jah G (objD ms fs ss rs) "count" s=true:=by kernel_rfl
theorem ok_slot:Jah G (objD ms fs ss rs) "slot" s=true:=by kernel_rfl
theorem ok_otold:Jah G (objD ms fs ss rs) "told" s=true:=by kernel_rfl
theorem m_cnt{cf:Addr->List D->Jaa->Out D}{p:Pos}{as:List D}:Jak G cf p (objD ms fs ss rs) "count" as s=cf 115 (objD ms fs ss rs::as) s:=by kernel_rfl
theorem m_slot{cf:Addr->List D->Jaa->Out D}{p:Pos}{as:List D}:Jak G cf p (objD ms fs ss rs) "slot" as s=cf 143 (objD ms fs ss rs::as) s:=by kernel_rfl
theorem m_otold{cf:Addr->List D->Jaa->Out D}{p:Pos}{as:List D}:Jak G cf p (objD ms fs ss rs) "told" as s=cf 108 (objD ms fs ss rs::as) s:=by kernel_rfl
theorem ob_count(ho:∀g∈fs,Jbt g=true)(hf:8*fs.length<=line):cfn G (n+1) 115 [objD ms fs ss rs] s=.ok (.int (fs.length:Int)) s:=by
 refine (w115 n _ _ _ _ s).trans ?_
 refine Eq.trans (bcg Jih) (Eq.trans (bcg (k_cnt ho hf)) (Eq.trans (bcg (div8 _)) rfl))
theorem ob_slot(ho:∀g∈fs,Jbt g=true)(hf:8*fs.length<=line){j:Nat}{g:Str}(hj:fs[j]?=some g):cfn G (n+1) 143 [objD ms fs ss rs,.int (j:Int)] s=.ok (.bytes (octs g).toArray) s:=by
 refine (w143 n _ _ _ _ _ s).trans ?_
 have hlt:=(List.getElem?_eq_some_iff.mp hj).1
 have e8:Jae .Mult (.int 8) (.int (j:Int)) s=.ok (.int ((8*j:Nat):Int)) s:=by rw[Jg4 (.inl (by decide))];rfl
 refine Eq.trans (bcg Jih) (Eq.trans (bcg e8) (Eq.trans (bcg e8) (Eq.trans (bcg (Jcq _ _)) ?_)))
 have hl:=Jea ho
 have es:slice (.bytes (Jam fs).toArray) (.int ((8*j:Nat):Int)) (.int (((8*j:Nat):Int)+8)) D.none s=.ok (.bytes (octs g).toArray) s:=by
  refine Eq.trans (Jel (a:=D.bytes (cut (Jam fs).toArray.toList (some ((8*j:Nat):Int)) (some (((8*j:Nat):Int)+8))).toArray) (by rw[List.size_toArray,hl];exact hf)) ?_
  rw[show (((8*j:Nat):Int)+8)=((8*j+8:Nat):Int) from rfl]
  show Out.ok (D.bytes (cut (Jam fs) (some ((8*j:Nat):Int)) (some ((8*j+8:Nat):Int))).toArray) s=_
  rw[Jr4 _ (by exact ar58) (by rw[hl];exact ar157 hlt),show 8*j+8 - 8*j=8 by exact ar83,Jj7 ho j g hj]
 exact bcg es
theorem kO_ok(ho:∀g∈fs,Jbt g=true)(hf:8*fs.length<=line){V:Jac}{ls:List Str}{j:Nat}{g:Str}(hj:fs[j]?=some g)(hlen:ls.length<=line)(hm:V "made"=some (objD ms fs ss rs))(hv:V "lines"=some (.loc σ.length)):Wrote (objD ms fs ss rs) σ (ls++[wrSlot g]) (kO (n+1) (.int (j:Int)) V (Wt σ ls)):=by
 have og:=ho g (List.mem_of_getElem? hj)
 have hadd:∀s,Jae .Add (.str "slot ") (.str g) s=.ok (.str (wrSlot g)) s:=λs=>Jbm (by
  have h1:g.length=16:=by rw[<-Jbv];exact Jcf og
  have h2:("slot ":Str).length=5:=by decide +kernel
  have h3:200<=line:=by decide
  exact ar297 h1 h2 h3)
 have a1:(V.set "at" (.int (j:Int))) "lines"=some (.loc σ.length):=(Jab (by decide)).trans hv
 have a2:(V.set "at" (.int (j:Int))) "made"=some (objD ms fs ss rs):=(Jab (by decide)).trans hm
 refine ⟨V.set "at" (.int (j:Int)),?_,a2,a1⟩
 unfold kO
 rw[a1,Jad,if_pos (Jch Wt.at)]
 unfold kO2
 rw[a2,Jad,if_pos ok_slot]
 exact (bcg (m_slot.trans (ob_slot ho hf hj))).trans ((bcg (hex_of og)).trans ((bcg (hadd _)).trans (bcg (Jp7 hlen))))
theorem wr_slots(ho:∀g∈fs,Jbt g=true)(hf:8*fs.length<=line){ls:List Str}(hl:ls.length+fs.length<=line){V:Jac}(hm:V "made"=some (objD ms fs ss rs))(hV:V "lines"=some (.loc σ.length)):Wrote (objD ms fs ss rs) σ (ls++fs.map wrSlot) (Jfg (.rng 0 (fs.length:Int) 1) (kO (n+1)) V (Wt σ ls)):=
 Jh3 (ds:=(List.range fs.length).map λi:Nat=>.int (i:Int)) hl (by rw[List.length_map,List.length_range]) (λ_=>Jc6 (by exact ar128 hl)) (λj r e V ls h k hl hm hv=>by
  cases Jml (List.getElem?_range (List.getElem?_eq_some_iff.mp h).1) k
  exact kO_ok ho hf h hl hm hv) hm hV
end
end
section
open PySem.NumText
structure GotOk(ms:List Row)(fs:List Str)(ss:List Sy)(rs:List Re):Prop where
 m:∀r∈ms,RowOk r
 o:∀g∈fs,Jbt g=true
 s:∀r∈ss,SyOk r
 r:∀r∈rs,ReOk r
 n:8*(ms.length+fs.length+ss.length+rs.length+2)<=line
noncomputable def Jcw(ms:List Row)(fs:List Str)(ss:List Sy)(rs:List Re):List Str:=[Head]++ms.map wrMap++fs.map wrSlot++ss.map wrSym++rs.map wrRel
noncomputable def Jet(k m:Nat):Str:=((("end ":Str)++num k)++(" ":Str))++num m
section
variable{σ:Jaa}{n:Nat}{s:Jaa}{ms:List Row}{fs:List Str}{ss:List Sy}{rs:List Re}
theorem Jjc:(Jcw ms fs ss rs).length=1+ms.length+fs.length+ss.length+rs.length:=by
 unfold Jcw
 simp only[List.length_append,List.length_map,List.length_cons,List.length_nil]
section
variable{V:Jac}{ls:List Str}
theorem t3_ok(hr:∀r∈rs,ReOk r)(hl:ls.length+rs.length<=line)(hm:V "made"=some (objD ms fs ss rs))(hV:V "lines"=some (.loc σ.length)):t3 (n+1) V (Wt σ ls)=.ok (.loc σ.length) (Wt σ (ls++rs.map wrRel)):=by
 obtain ⟨V4,e4,m4,v4⟩:=wr_rels (n:=n) hr hl hm hV
 unfold t3
 rw[hm,Jad]
 refine (bcg Jqk).trans ((bcg e4).trans ?_)
 show t4 V4 _=_
 unfold t4
 rw[v4,Jad]
theorem t2_ok(hs:∀r∈ss,SyOk r)(hr:∀r∈rs,ReOk r)(hl:ls.length+ss.length<=line)(hl2:(ls++ss.map wrSym).length+rs.length<=line)(hm:V "made"=some (objD ms fs ss rs))(hV:V "lines"=some (.loc σ.length)):t2 (n+1) V (Wt σ ls)=.ok (.loc σ.length) (Wt σ (ls++ss.map wrSym++rs.map wrRel)):=by
 obtain ⟨V4,e4,m4,v4⟩:=wr_syms (n:=n) hs hl hm hV
 unfold t2
 rw[hm,Jad]
 exact (bcg Jqj).trans ((bcg e4).trans (t3_ok hr hl2 m4 v4))
end
theorem Jjk(O:GotOk ms fs ss rs):cfn G (n+2) 172 [objD ms fs ss rs] σ=.ok (.loc σ.length) (Wt σ (Jcw ms fs ss rs)):=by
 have hn:=O.n
 obtain ⟨V1,e1,m1,v1⟩:=wr_maps (n:=n) (σ:=σ) (ls:=[Head]) O.m (by simp only[List.length_cons,List.length_nil];exact ar374 hn) (V:=(V0.set "made" (objD ms fs ss rs)).set "lines" (.loc σ.length)) ((Jab (by decide)).trans (Jao _ _ _)) (Jao _ _ _)
 obtain ⟨V2,e2,m2,v2⟩:=wr_slots (n:=n) (σ:=σ) (ms:=ms) (ss:=ss) (rs:=rs) O.o (by exact ar359 hn) (ls:=[Head]++ms.map wrMap) (by simp only[List.length_append,List.length_map,List.length_cons,List.length_nil];exact ar382 hn) m1 v1
 refine (w172 (n+1) _ _ _ _ σ).trans ((bcg (a:=D.loc σ.length) (s:=Wt σ [Head]) rfl).trans ((bcg Jql).trans ((bcg e1).trans ?_)))
 show t1 (n+1) V1 _=_
 unfold t1
 rw[m1,Jad,if_pos ok_cnt]
 exact (bcg (m_cnt.trans (ob_count O.o (ar359 hn)))).trans ((bcg (Jmn (ar340 hn))).trans ((bcg e2).trans (t2_ok O.s O.r (by simp only[List.length_append,List.length_map,List.length_cons,List.length_nil];exact ar400 hn) (by simp only[List.length_append,List.length_map,List.length_cons,List.length_nil];exact ar418 hn) m2 v2)))
theorem Jfl{x:Str}{j:Nat}{ys:List Str}(hj:Ls j (ys.map .str) s)(h:(ys.map (·.length)).sum+ys.length*x.length<=line):Jbu false (.str x) "join" [.loc j] s=.ok (.str (Str.join x ys)) s:=by
 have e:Jbu false (.str x) "join" [.loc j] s=Out.of ((Jau s (.loc j)).bind λds=>(Jb5 ds).bind λys=>if (ys.map (·.length)).sum+ys.length*x.length<=line then some (D.str (Txt.join x ys)) else none) s:=by kernel_rfl
 rw[e,Jbk hj]
 show Out.of ((Jb5 (ys.map .str)).bind λys=>if (ys.map (·.length)).sum+ys.length*x.length<=line then some (D.str (Txt.join x ys)) else none) s=_
 rw[Jed]
 show Out.of (if (ys.map (·.length)).sum+ys.length*x.length<=line then some (D.str (Txt.join x ys)) else none) s=_
 rw[if_pos h]
 show Out.ok (D.str (Txt.join x ys)) s=_
 unfold Txt.join
 rw[StrLaws.glued_eq_join]
theorem Jk8{j:Nat}{ds:List D}(hj:Ls j ds s)(h:ds.length<=line):Jai (.builtin "len") [.loc j] s=.ok (.int (ds.length:Int)) s:=by
 refine k_len ?_ h
 show (Jau s (.loc j)).map (·.length)=_
 rw[Jbk hj];rfl
theorem Jo9(ys:List Str):(ys.map (·.length)).sum+ys.length=tot ys:=by
 induction ys with
 |nil=>rfl
 |cons a r ih=>rw[Jas,<-ih,List.map_cons,List.sum_cons,List.length_cons];exact ar278
theorem Jjb(O:GotOk ms fs ss rs){c m:Nat}(hc:(Jcw ms fs ss rs).length=c)(hc2:c<10000000000)(hm:wsum 0 (Jam fs) % 4294967296=m)(hk:(num c).length<=10)(hk2:(num m).length<=10)(ht:tot (Jcw ms fs ss rs++[Jet c m])<=line) :
  cfn G (n+3) 179 [objD ms fs ss rs] σ=.ok (.str (Str.join "\n" (Jcw ms fs ss rs++[Jet c m])++("\n":Str))) (Wt σ (Jcw ms fs ss rs++[Jet c m])):=by
 refine (w179 (n+2) _ _ _ _ σ).trans ?_
 refine Eq.trans (bcg (Jjk (n:=n) O)) ?_
 have hn:=O.n
 have hlen:(Jcw ms fs ss rs).length<=line:=by rw[Jjc];exact ar406 hn
 have h9:100<=line:=by decide
 rw[if_pos (Jch Wt.at),Jk8 Wt.at (by rwa [List.length_map]),List.length_map,hc,bok,Je6 hc2,bok]
 have q:("end ":Str).length=4:=by decide +kernel
 have e1:∀s,Jae .Add (.str "end ") (.str (num c)) s=.ok (.str (("end ":Str)++num c)) s:=λs=>Jbm (by exact ar298 hk h9 q)
 have e2:∀s,Jae .Add (.str (("end ":Str)++num c)) (.str " ") s=.ok (.str ((("end ":Str)++num c)++(" ":Str))) s:=λs=>Jbm (by rw[Jav,Ja1];exact ar326 hk h9 q)
 have e3:∀s,Jae .Add (.str ((("end ":Str)++num c)++(" ":Str))) (.str (num m)) s=.ok (.str (Jet c m)) s:=λs=>Jbm (by rw[Jav,Jav,Ja1];exact ar395 hk hk2 h9 q)
 rw[e1,bok,e2,bok]
 refine Eq.trans (bcg Jih) ?_
 have hcs:=Jke (n:=n+1) (s:=Wt σ (Jcw ms fs ss rs)) (l:=Jam fs) (by rw[Jea O.o];exact ar359 hn)
 rw[hm] at hcs
 have hm2:m<10000000000:=by exact ar256 hm
 rw[hcs,bok,Je6 hm2,bok,e3,bok,Jp7 hlen,bok]
 have hj:=Jfl (s:=Wt σ (Jcw ms fs ss rs++[Jet c m])) (x:="\n") Wt.at (by rw[Je3,Nat.mul_one,Jo9];exact ht)
 rw[hj,bok]
 have hne:Jcw ms fs ss rs++[Jet c m]≠[]:=by simp
 have hjl:(Str.join "\n" (Jcw ms fs ss rs++[Jet c m])).length+1<=line:=by
  cases e:Jcw ms fs ss rs++[Jet c m] with
  |nil=>exact absurd e hne
  |cons a r=>rw[Jeh _ Je3,<-e];exact ht
 rw[Jbm (by rw[Je3];exact hjl)]
 rfl
end
end
section
open PySem.NumText
theorem Jdc(a b c:Str):(a++b)++c=a++(b++c):=by
 apply Jdx
 show ((a.cps++b.cps)++c.cps).toList=(a.cps++(b.cps++c.cps)).toList
 rw[Array.append_assoc]
theorem Jfz{t:Str}(h:Jc4 t=true):t.length<=15:=by
 unfold Jc4 at h
 split at h
 ·cases h
 ·simp only[Bool.and_eq_true,decide_eq_true_eq] at h;exact h.1.1
theorem num_len{t:Str}(h:Jbj t=true):t.length<=10:=by
 unfold Jbj at h
 split at h
 ·cases h
 ·simp only[Bool.and_eq_true,decide_eq_true_eq] at h;exact h.1.1
theorem Jgi{t:Str}(h:Jbj t=true):Ja6 t<10000000000/\(num (Ja6 t)).length<=10:=⟨Jqm h,by rw[Jcs h];exact num_len h⟩
theorem map_sp:("map ":Str)=("map":Str)++(" ":Str):=by decide +kernel
theorem slot_sp:("slot ":Str)=("slot":Str)++(" ":Str):=by decide +kernel
theorem sym_sp:("symbol ":Str)=("symbol":Str)++(" ":Str):=by decide +kernel
theorem rel_sp:("relocation ":Str)=("relocation":Str)++(" ":Str):=by decide +kernel
theorem end_sp:("end ":Str)=("end":Str)++(" ":Str):=by decide +kernel
theorem one_map{names:List Str}{l:Str}{r:Row}(hh:(Wd l).head?=some "map")(h:rdMap names (Wd l)=.ok r):wrMap r=l/\RowOk r:=by
 have hj:=Jey l
 obtain ⟨w0,n,kd,x,y,z,e⟩:=len6 (of6 h)
 rw[e] at hh hj h
 cases hh
 obtain ⟨hn,h⟩:=ok_t h
 obtain ⟨h3,h⟩:=ok_t (ok_f h)
 obtain ⟨hk,h⟩:=ok_t h
 cases h
 simp only[Bool.and_eq_true] at h3
 refine ⟨?_,⟨Jfz hn,Jfz hk,Jgi h3.1.1,Jgi h3.1.2,Jgi h3.2⟩⟩
 show ("map ":Str)++Str.join " " [n,kd,num (Ja6 x),num (Ja6 y),num (Ja6 z)]=l
 rw[Jcs h3.1.1,Jcs h3.1.2,Jcs h3.2,map_sp]
 exact hj
theorem one_slot{l g:Str}(hh:(Wd l).head?=some "slot")(h:Jco (Wd l)=.ok g):wrSlot g=l:=by
 have hj:=Jey l
 obtain ⟨w0,e,_⟩:=of2 h
 rw[e] at hh hj
 cases hh
 show ("slot ":Str)++g=l
 rw[slot_sp];exact hj
theorem one_sym{c:Nat}{x:List Sy}{l:Str}{r:Sy}(hh:(Wd l).head?=some "symbol")(h:rdSym c x (Wd l)=.ok r):wrSym r=l/\SyOk r:=by
 have hj:=Jey l
 obtain ⟨w0,n,w,e⟩:=len3 (of3 h)
 rw[e] at hh hj h
 cases hh
 obtain ⟨hn,h⟩:=ok_t h
 obtain ⟨hw,h⟩:=ok_t h
 cases ok_f (ok_f h)
 refine ⟨?_,⟨Jfz hn,Jgi hw⟩⟩
 show ((("symbol ":Str)++n)++(" ":Str))++num (Ja6 w)=l
 rw[Jcs hw,sym_sp,Jdc,Jdc,<-Jdc n]
 exact hj
theorem one_rel{c:Nat}{x:List Re}{l:Str}{r:Re}(hh:(Wd l).head?=some "relocation")(h:rdRel c x (Wd l)=.ok r):wrRel r=l/\ReOk r:=by
 have hj:=Jey l
 obtain ⟨w0,w,way,n,e⟩:=len4 (of4 h)
 rw[e] at hh hj h
 cases hh
 obtain ⟨hw,h⟩:=ok_t h
 obtain ⟨hn,h⟩:=ok_t h
 obtain ⟨hy,h⟩:=ok_t h
 cases ok_f h
 have hwl:way.length<=4:=by
  simp only[List.any_cons,List.any_nil,Bool.or_false,Bool.or_eq_true,beq_iff_eq] at hy
  rcases hy with rfl | rfl<;>decide +kernel
 refine ⟨?_,⟨Jgi hw,hwl,Jfz hn⟩⟩
 show ((((("relocation ":Str)++num (Ja6 w))++(" ":Str))++way)++(" ":Str))++n=l
 rw[Jcs hw,rel_sp,<-hj]
 show _=("relocation":Str)++(" ":Str)++(w++(" ":Str)++(way++(" ":Str)++n))
 simp only[Jdc]
theorem back{β:Type}{rd:List β->List Str->Except Str β}{wr:β->Str}{P:β->Prop}{word:Str}(one:∀x l r,(Wd l).head?=some word->rd x (Wd l)=.ok r->wr r=l/\P r):∀{mid:List Str} {x y:List β},(∀l∈mid,(Wd l).head?=some word)->mid.foldlM (λx l=>snoc (rd x (Wd l)) x) x=.ok y->∃ys,y=x++ys/\ys.map wr=mid/\∀r∈ys,P r
 |[],x,y,_,h=>by cases h;exact ⟨[],by simp,rfl,λr hr=>(by cases hr)⟩
 |l::r,x,y,hh,h=>by
  rw[List.foldlM_cons] at h
  have h1:=hh l (List.mem_cons_self ..)
  cases e:rd x (Wd l) with
  |error w=>rw[e] at h;cases h
  |ok g=>
   rw[e] at h
   obtain ⟨ys,e1,e2,e3⟩:=back one (mid:=r) (x:=x++[g]) (λl hl=>hh l (List.mem_cons_of_mem _ hl)) h
   obtain ⟨o1,o2⟩:=one x l g h1 e
   refine ⟨g::ys,by rw[e1,List.append_assoc];rfl,by rw[List.map_cons,o1,e2],λr hr=>?_⟩
   rcases List.mem_cons.mp hr with rfl | hr
   ·exact o2
   ·exact e3 r hr
theorem Jjt(y:Str):∀(x:Str) (r:List Str),Str.join y ((x::r)++[("":Str)])=Str.join y (x::r)++y
 |x,[]=>by
  show x++y++("":Str)=x++y
  apply Jdx
  show ((x.cps++y.cps)++(Str.ofString "").cps).toList=(x.cps++y.cps).toList
  rw[show (Str.ofString "").cps=#[] by decide +kernel,Array.append_empty]
 |x,z::r=>by
  show x++y++Str.join y ((z::r)++[("":Str)])=x++y++Str.join y (z::r)++y
  rw[Jjt y z r,Jdc (x++y)]
end
section
open PySem.NumText
inductive EbOk{α β:Type}(r:Except (Str×Nat) α)(q:α->Except (Str×Nat) β)(g:β):Prop
 |mk (p:α) (h:r=.ok p) (k:q p=.ok g)
theorem eb_ok{α β:Type}{r:Except (Str×Nat) α}{q:α->Except (Str×Nat) β}{g:β}(h:eb r q=.ok g):EbOk r q g:=by
 cases r with
 |error e=>exact nomatch h
 |ok p=>exact ⟨p,rfl,h⟩
inductive EndOk(L:List Str)(d:Nat)(fs:List Str):Prop
 |mk (m:Nat) (h1:wsum 0 (Jam fs) % 4294967296=m) (h2:(num m).length<=10) (h3:L=L.take d++[Jet d m]++[("":Str)]) (h4:(num d).length<=10) (h5:d<10000000000) (h6:d<L.length)
theorem end_line{d:Nat}{l w0 w1 w2:Str}(hj:Str.join " " (Wd l)=l)(e:Wd l=[w0,w1,w2])(h0:(w0=="end")=true)(h1:Jbj w1=true)(h2:Jbj w2=true)(hd:(Ja6 w1==d)=true):Jet d (Ja6 w2)=l:=by
 rw[e] at hj
 unfold Jet
 rw[<-beq_iff_eq.mp hd,Jcs h1,Jcs h2,end_sp,<-hj,beq_iff_eq.mp h0]
 show _=("end":Str)++(" ":Str)++(w1++(" ":Str)++w2)
 simp only[Jdc]
theorem end_back{β:Type}{L:List Str}{d:Nat}{fs:List Str}{r g:β}(h:endO L d fs r=.ok g):EndOk L d fs:=by
 cases el:L[d]? with
 |none=>rw[Jfc el] at h;exact nomatch h
 |some l=>
  by_cases hc:(Wd l).length=3
  ·obtain ⟨w0,w1,w2,e⟩:=len3 hc
   rw[Jc9 el e] at h
   obtain ⟨h0,h⟩:=ok_e h
   obtain ⟨h1,h⟩:=ok_e h
   obtain ⟨hd,h⟩:=ok_e h
   obtain ⟨h2,h⟩:=ok_e h
   obtain ⟨hs,h⟩:=ok_e h
   have hr:=beq_iff_eq.mp (ok_e h).1
   have n1:=Jgi h1
   rw[beq_iff_eq.mp hd] at n1
   obtain ⟨hlt,hl⟩:=List.getElem?_eq_some_iff.mp el
   refine ⟨Ja6 w2,(beq_iff_eq.mp hs).symm,(Jgi h2).2,?_,n1.2,n1.1,hlt⟩
   rw[end_line (Jey l) e h0 h1 h2 hd,<-hr,List.append_assoc,<-hl,List.singleton_append,<-List.drop_eq_getElem_cons hlt,List.take_append_drop]
  ·rw[Jfb el hc] at h;exact nomatch h
inductive SecBack{β:Type}(L:List Str)(a:Nat)(wr:β->Str)(P:β->Prop)(p:Nat×List β):Prop
 |mk (t:L.take p.1=L.take a++p.2.map wr) (o:∀r∈p.2,P r)
theorem Jfy{β:Type}{L:List Str}{a:Nat}{rd:List β->List Str->Except Str β}{wr:β->Str}{P:β->Prop}{word:Str}{p:Nat×List β}(one:∀x l r,(Wd l).head?=some word->rd x (Wd l)=.ok r->wr r=l/\P r)(h:secs word (λx ws=>snoc (rd x ws) x) (L.drop a) a []=.ok p):SecBack L a wr P p:=by
 obtain ⟨m,p1,q,r,f⟩:=Je2 h
 obtain ⟨ys,e,w,o⟩:=back one r f
 rw[List.nil_append] at e
 have t:=Jh7 p1
 rw[<-q,<-w,<-e] at t
 exact ⟨t,λr hr=>o r (e▸hr)⟩
inductive AllBack(L:List Str)(g:Got):Prop
 |mk (c m:Nat) (h1:GotOk g.1 g.2.1 g.2.2.1 g.2.2.2) (h2:(Jcw g.1 g.2.1 g.2.2.1 g.2.2.2).length=c) (h3:c<10000000000) (h4:wsum 0 (Jam g.2.1) % 4294967296=m) (h5:(num c).length<=10) (h6:(num m).length<=10) (h7:L=Jcw g.1 g.2.1 g.2.2.1 g.2.2.2++[Jet c m]++[("":Str)])
theorem Jri{L:List Str}{a:Nat×List Row}{b:Nat×List Str}{c:Nat×List Sy}{d:Nat×List Re}(B:Bd L)(t0:L.take 1=[Head])(A:SecBack L 1 wrMap RowOk a)(S:SecBack L a.1 wrSlot (λg=>Jbt g=true) b)(Y:SecBack L b.1 wrSym SyOk c)(R:SecBack L c.1 wrRel ReOk d)(E:EndOk L d.1 b.2):AllBack L (a.2,b.2,c.2,d.2):=by
 obtain ⟨t1,o1⟩:=A
 obtain ⟨t2,o2⟩:=S
 obtain ⟨t3,o3⟩:=Y
 obtain ⟨t4,o4⟩:=R
 obtain ⟨m,h1,h2,h3,h4,h5,h6⟩:=E
 have hall:L.take d.1=Jcw a.2 b.2 c.2 d.2:=by
  unfold Jcw
  rw[t4,t3,t2,t1,t0]
 have hlen:(Jcw a.2 b.2 c.2 d.2).length=d.1:=by rw[<-hall,List.length_take];exact ar115 h6
 have hLl:L.length=d.1+1+1:=by
  have:=congrArg List.length h3
  simp only[List.length_append,List.length_cons,List.length_nil,List.length_take] at this
  exact ar343 this
 rw[hall] at h3
 exact ⟨d.1,m,⟨o1,o2,o3,o4,by rw[Jjc] at hlen;exact ar442 hlen B.n16 hLl⟩,hlen,h5,h1,h4,h2,h3⟩
theorem all_back{L:List Str}{g:Got}(B:Bd L)(h:readO L=.ok g):AllBack L g:=by
 cases hL:L with
 |nil=>rw[hL] at h;exact nomatch h
 |cons hd L'=>
  have er:readO L=readH L hd:=by rw[hL];rfl
  rw[er] at h
  rw[<-hL]
  unfold readH at h
  obtain ⟨_,h⟩:=ok_e h
  obtain ⟨hw,h⟩:=ok_e h
  have hh:hd=Head:=Wd_inj (beq_iff_eq.mp hw)
  obtain ⟨a,ha,h⟩:=eb_ok h
  obtain ⟨b,hb,h⟩:=eb_ok h
  obtain ⟨c,hc,h⟩:=eb_ok h
  obtain ⟨d,hd4,h⟩:=eb_ok h
  rw[Jr0 h]
  exact Jri B (by rw[hL,hh];rfl) (Jfy (rd:=λ(x:List Row) ws=>rdMap (x.map λr:Row=>r.1) ws) (λx l r u v=>one_map u v) ha) (Jfy (rd:=λx ws=>Jco ws) (λx l r u v=>⟨one_slot u v,Jkr v⟩) hb) (Jfy (rd:=λx ws=>rdSym b.2.length x ws) (λx l r u v=>one_sym u v) hc) (Jfy (rd:=λx ws=>rdRel b.2.length x ws) (λx l r u v=>one_rel u v) hd4) (end_back h)
section
variable{σ:Jaa}{L:List Str}{n:Nat}{t:Str}{s:Jaa}{ms:List Row}{fs:List Str}{ss:List Sy}{rs:List Re}
noncomputable def instT:D->Option D
 |.inst _ _ ds=>some (.tup ds)
 |_=>none
theorem Jrm:∀x:List Row,(x.map rowD).filterMap instT=x.map rowT
 |[]=>rfl
 |a::r=>congrArg (rowT a::·) (Jrm r)
theorem Jq4{ds:List D}(hl:ds.length<=line):Jai (.type "tuple") [.lst ds] s=.ok (.tup ds) s:=by
 show Out.of (if ds.length<=line then some (D.tup ds) else none) s=_
 rw[if_pos hl];rfl
theorem told_obj(O:GotOk ms fs ss rs):cfn G (n+2) 108 [objD ms fs ss rs] s=.ok (resD (.ok (ms,fs,ss,rs))) s:=by
 refine (w108 (n+1) _ _ _ _ s).trans ?_
 have hn:=O.n
 have hc:Ja5 (.lst (ms.map rowD)) (λe2 s=>if Jah G e2 "told" s=true then ((Jak G (cfn G (n+1)) ⟨42,22,42,32⟩ e2 "told" [] s).bind λx3 s=>.ok (some x3) s) else .bad) s=.ok (.lst (ms.map rowT)) s:=by
  refine (Jba (g:=instT) (ds:=ms.map rowD) rfl (by rw[List.length_map];exact ar339 hn) ?_).trans (congrArg (λl=>Out.ok (D.lst l) s) (Jrm ms))
  intro d hd
  obtain ⟨r,_,rfl⟩:=List.mem_map.mp hd
  refine (if_pos (Jqe r)).trans ?_
  rw[m_told,Jl7]
  rfl
 refine Eq.trans (bcg Jql) (Eq.trans (bcg hc) (Eq.trans (bcg (Jq4 (by rw[List.length_map];exact ar339 hn))) (Eq.trans (bcg Jih) (Eq.trans (bcg Jqj) (Eq.trans (bcg (Jq4 (by rw[List.length_map];exact ar341 hn))) (Eq.trans (bcg Jqk) (Eq.trans (bcg (Jq4 (by rw[List.length_map];exact ar342 hn))) ?_)))))))
 rfl
theorem Jbz(a b:List Str):tot (a++b)=tot a+tot b:=by
 unfold tot;rw[List.map_append,List.sum_append]
theorem Jq1(B:Bd L)(hL:Txt.split t "\n"=L)(ht:t.length<line):∃τ,cfn G (n+5) 377 [.str t] σ=.ok (resD (readO L)) (σ++τ):=by
 rw[w377]
 have hr:=Jkx (n:=n) (σ:=σ) B hL (Nat.le_of_lt ht)
 cases er:readO L with
 |error e=>
  rw[er] at hr
  obtain ⟨τ,eo⟩:=hr
  exact ⟨τ,by rw[eo];rfl⟩
 |ok g=>
  rw[er] at hr
  obtain ⟨τ,eo⟩:=hr
  obtain ⟨c,m,O,h1,h2,h3,h4,h5,h6⟩:=all_back B er
  have htt:=Jdu t "\n" Je3
  rw[hL,h6,Jbz] at htt
  have ho:=Jjb (n:=n+1) (σ:=σ++τ) O h1 h2 h3 h4 h5 (by exact ar280 ht htt)
  have hjt:Str.join "\n" (Jcw g.1 g.2.1 g.2.2.1 g.2.2.2++[Jet c m])++("\n":Str)=t:=by
   have hj:=StrLaws.join_split t "\n"
   rw[hL,h6] at hj
   cases e:Jcw g.1 g.2.1 g.2.2.1 g.2.2.2++[Jet c m] with
   |nil=>simp at e
   |cons x r=>rw[e,Jjt] at hj;exact hj
  rw[hjt] at ho
  refine ⟨τ++[.list ((Jcw g.1 g.2.1 g.2.2.1 g.2.2.2++[Jet c m]).map .str)],?_⟩
  have hV1:((V0.set "text" (.str t)).set "one" (objD g.1 g.2.1 g.2.2.1 g.2.2.2)) "text"=some (.str t):=(Jab (by decide)).trans (Jao _ _ _)
  have hc:caught "one" "error" (V0.set "text" (.str t)) (cfn G (n+4) 267 [.str t] σ)=.ok ((V0.set "text" (.str t)).set "one" (objD g.1 g.2.1 g.2.2.1 g.2.2.2),.next) (σ++τ):=by rw[eo];rfl
  rw[hc,bok,Jcz,Jao,Jad,ho,bok,hV1,Jad,Jkf,beq_self_eq_true,bok,brt,Jad,if_pos ok_otold,m_otold,told_obj (n:=n+2) O,bok]
  show Out.ok (resD (.ok g)) (Wt (σ++τ) _)=_
  unfold Wt
  rw[List.append_assoc]
end
end
section
open PySem.NumText
inductive Pen(p K:Nat)(s:Jaa):Prop
 |mk (x:Int) (c:Nat) (h:Ls p [.int x,.int (c:Int)] s) (k:c<=K)
noncomputable def Fr(p:Nat)(s s':Jaa):Prop:=s.length<=s'.length/\∀j,j≠p->j<s.length->s'[j]?=s[j]?
theorem Fr.refl(p:Nat)(s:Jaa):Fr p s s:=⟨Nat.le_refl _,λ_ _ _=>rfl⟩
theorem Fr.trans{p:Nat}{a b c:Jaa}(h:Fr p a b)(k:Fr p b c):Fr p a c:=⟨Nat.le_trans h.1 k.1,λj hj hl=>(k.2 j hj (Nat.lt_of_lt_of_le hl h.1)).trans (h.2 j hj hl)⟩
theorem Fr.set{p:Nat}{s:Jaa}(m:M):Fr p s (s.set p m):=⟨by rw[List.length_set];exact Nat.le_refl _,λj hj _=>by rw[List.getElem?_set_ne (Ne.symm hj)]⟩
theorem Fr.app{p:Nat}{s:Jaa}(τ:Jaa):Fr p s (s++τ):=⟨by rw[List.length_append];exact ar36,λj _ hl=>List.getElem?_append_left hl⟩
theorem Pen.app{p K:Nat}{s:Jaa}(h:Pen p K s)(τ:Jaa):Pen p K (s++τ):=by
 obtain ⟨x,c,h1,h2⟩:=h
 refine ⟨x,c,?_,h2⟩
 unfold Ls at h1 ⊢
 rw[List.getElem?_append_left (List.getElem?_eq_some_iff.mp h1).1]
 exact h1
theorem Pen.le{p K K':Nat}{s:Jaa}(h:Pen p K s)(hk:K<=K'):Pen p K' s:=by
 obtain ⟨x,c,h1,h2⟩:=h
 exact ⟨x,c,h1,by exact ar176 hk h2⟩
theorem Pen.lt{p K:Nat}{s:Jaa}(h:Pen p K s):p<s.length:=by
 obtain ⟨x,c,h1,h2⟩:=h
 exact (List.getElem?_eq_some_iff.mp h1).1
theorem Pen.off{p K j:Nat}{s:Jaa}(h:Pen p K s)(hj:j≠p)(m:M):Pen p K (s.set j m):=by
 obtain ⟨x,c,h1,h2⟩:=h
 refine ⟨x,c,?_,h2⟩
 unfold Ls at h1 ⊢
 rw[List.getElem?_set_ne hj];exact h1
theorem Ls.fr{p j:Nat}{s s':Jaa}{ds:List D}(h:Ls j ds s)(hj:j≠p)(f:Fr p s s'):Ls j ds s':=by
 unfold Ls at h ⊢
 rw[f.2 j hj (List.getElem?_eq_some_iff.mp h).1];exact h
section
variable{n p K:Nat}{s:Jaa}
theorem item2{x y:D}(h:Ls p [x,y] s):item (.loc p) (.int 0) s=.ok x s/\item (.loc p) (.int 1) s=.ok y s:=by
 rw[Jms h,Jms h]
 exact ⟨by kernel_rfl,by kernel_rfl⟩
theorem put2{x y:D}(h:Ls p [x,y] s)(z:D):Ja7 (.loc p) (.int 0) z s=.ok () (s.set p (.list [z,y]))/\Ja7 (.loc p) (.int 1) z s=.ok () (s.set p (.list [x,z])):=by
 rw[Jev h,Jev h]
 exact ⟨by kernel_rfl,by kernel_rfl⟩
theorem Jhd{ds es:List D}(h:Ls p ds s):Ls p es (s.set p (.list es)):=by
 unfold Ls
 rw[List.getElem?_set_self (List.getElem?_eq_some_iff.mp h).1]
inductive Drew(p K many:Nat)(s:Jaa)(o:Out D):Prop
 |mk (d:Nat) (s':Jaa) (h:d<many) (e:o=.ok (.int (d:Int)) s') (k:Pen p (K+1) s') (f:Fr p s s')
inductive Picked{α:Type}(g:α->D)(p K:Nat)(l:List α)(s:Jaa)(o:Out D):Prop
 |mk (x:α) (s':Jaa) (h:x∈l) (e:o=.ok (g x) s') (k:Pen p (K+1) s') (f:Fr p s s')
theorem dT_ok{x:Int}{c many:Nat}(h:Ls p [.int x,.int (c:Int)] s)(hc:c<=K+1)(hm:0<many)(hb:many<2^30):Drew p K many s (dT (.loc p) (.int (many:Int)) s):=by
 have hne:(many:Int)≠0:=ar90 hm
 have h1:=Int.emod_nonneg x hne
 have hf:x.fmod many=x % many:=Int.fmod_eq_emod_of_nonneg _ ar25
 have e1:Jae .Mod (.int x) (.int (many:Int)) s=.ok (.int ((x % many).toNat:Int)) s:=by rw[b_mod hne,hf,Int.toNat_of_nonneg h1]
 exact ⟨(x % many).toNat,_,ar354 h1 (Int.emod_lt_of_pos x (ar163 hne)),(bcg (item2 h).1).trans ((bcg e1).trans ((bcg (item2 h).1).trans ((bcg (b_div ⟨hne,by show ((many:Nat):Int).natAbs<2^30;exact ar242 hb⟩)).trans (bcg (put2 h _).1)))),⟨_,c,Jhd h,hc⟩,Fr.set _⟩
theorem Drew.on{many:Nat}{s0:Jaa}{o:Out D}(h:Drew p K many s o)(f:Fr p s0 s):Drew p K many s0 o:=by
 cases h with
 |mk d s' h e k g=>exact ⟨d,s',h,e,k,f.trans g⟩
theorem dQ_ok{x:Int}{c many:Nat}(h:Ls p [.int x,.int ((c+1:Nat):Int)] s)(hc:c<=K)(hK:K<1000000)(hm:0<many)(hb:many<2^30):Drew p K many s (dQ (.loc p) (.int (many:Int)) s):=by
 have e2:Jae .Mult (.int 2038) (.int ((c+1:Nat):Int)) s=.ok (.int ((2038*(c+1):Nat):Int)) s:=Jg4 (.inl (by decide))
 have hp:2038*(c+1)+7013<2^64:=Nat.lt_of_le_of_lt (Nat.add_le_add_right (Nat.mul_le_mul_left 2038 (Nat.succ_le_succ (Nat.le_trans hc (Nat.le_of_lt hK)))) 7013) (by decide)
 have e:dQ (.loc p) (.int (many:Int)) s=dT (.loc p) (.int (many:Int)) _:=(bcg (item2 h).2).trans ((bcg e2).trans ((bcg (Jcq _ _)).trans ((bcg (b_pow (a:=((2038*(c+1)+7013:Nat):Int)) (b:=9) ⟨hp,by decide,by decide⟩)).trans (bcg (put2 h _).1))))
 rw[e]
 exact (dT_ok (Jhd h) (Nat.succ_le_succ hc) hm hb).on (Fr.set _)
theorem draw(h:Pen p K s)(hK:K<1000000){many:Nat}(hm:0<many)(hb:many<2^30):Drew p K many s (cfn G (n+1) 281 [.loc p,.int (many:Int)] s):=by
 obtain ⟨x,c,h1,h2⟩:=h
 rw[show cfn G (n+1) 281 [.loc p,.int (many:Int)] s=_ from (w281 n _ _ s).trans ((bcg (item2 h1).1).trans (bcg (Jsd _ _)))]
 cases (x==0) with
 |false=>exact dT_ok h1 (Nat.le_succ_of_le h2) hm hb
 |true=>
  have e:dP (.loc p) (.int (many:Int)) s=dQ (.loc p) (.int (many:Int)) _:=(bcg (item2 h1).2).trans ((bcg (Jcq _ _)).trans (bcg (put2 h1 _).2))
  rw[brt,e]
  exact (dQ_ok (c:=c) (Jhd h1) h2 hK hm hb).on (Fr.set _)
theorem pick(h:Pen p K s)(hK:K<1000000){ds:List D}(hm:0<ds.length)(hb:ds.length<=line):Picked id p K ds s (cfn G (n+2) 288 [.loc p,.lst ds] s):=by
 obtain ⟨k,s',hk,e,h',f⟩:=draw (n:=n) h hK hm (Nat.lt_of_le_of_lt hb (by decide))
 exact ⟨ds[k],s',List.getElem_mem hk,(w288 _ _ _ _).trans ((bcg (Jmo hb)).trans ((bcg e).trans (bcg (Jmr (s:=s') hb (List.getElem?_eq_getElem hk))))),h',f⟩
end
end
section
open PySem.NumText
noncomputable def LsD(p:Nat)(d:D)(ls:List Str)(s:Jaa):Prop:=d=.lst (ls.map .str)\/∃j,j≠p/\d=.loc j/\Ls j (ls.map .str) s
theorem LsD.fr{p:Nat}{d:D}{ls:List Str}{s s':Jaa}(h:LsD p d ls s)(f:Fr p s s'):LsD p d ls s':=by
 rcases h with h | ⟨j,hj,e,h⟩
 ·exact .inl h
 ·exact .inr ⟨j,hj,e,h.fr hj f⟩
section
variable{n p K:Nat}{s:Jaa}{d:D}{ls:List Str}
theorem LsD.list(h:LsD p d ls s):Jau s d=some (ls.map .str):=by
 rcases h with rfl | ⟨j,hj,rfl,h⟩
 ·rfl
 ·exact Jbk h
theorem LsD.items(h:LsD p d ls s):Jal s d=some (ls.map .str):=by
 rcases h with rfl | ⟨j,hj,rfl,h⟩
 ·rfl
 ·exact Jbk h
theorem LsD.len(h:LsD p d ls s)(hl:ls.length<=line):Jai (.builtin "len") [d] s=.ok (.int (ls.length:Int)) s:=by
 rcases h with rfl | ⟨j,hj,rfl,h⟩
 ·exact klw hl
 ·rw[Jk8 h (by rwa [List.length_map]),List.length_map]
theorem LsD.item(h:LsD p d ls s)(hl:ls.length<=line){k:Nat}{x:Str}(hk:ls[k]?=some x):Ok.item d (.int (k:Int)) s=.ok (.str x) s:=by
 rcases h with rfl | ⟨j,hj,rfl,h⟩
 ·exact Jbc hl hk
 ·show Out.of ((Jau s (.loc j)).bind λds=>(seqIndex? (k:Int) ds.length).bind λk=>if ds.length<=line then ds[k]? else none) s=_
  rw[Jbk h]
  show Out.of ((seqIndex? (k:Int) (ls.map D.str).length).bind λk=>if (ls.map D.str).length<=line then (ls.map D.str)[k]? else none) s=_
  rw[Jhh (by rw[List.length_map];exact (List.getElem?_eq_some_iff.mp hk).1)]
  show Out.of (if (ls.map D.str).length<=line then (ls.map D.str)[k]? else none) s=_
  rw[if_pos (by rwa [List.length_map]),List.getElem?_map,hk];rfl
theorem LsD.cut(h:LsD p d ls s)(hl:ls.length<=line)(lo hi:D)(a b:Option Int)(ha:part lo=some a)(hb:part hi=some b):slice d lo hi D.none s=.ok (.lst ((Ok.cut ls a b).map .str)) s:=by
 have e:slice d lo hi D.none s=Out.of ((Jau s d).bind λds=>if ds.length<=line then some (D.lst (Ok.cut ds a b)) else none) s:=by
  rcases h with rfl | ⟨j,hj,rfl,h⟩
  ·show Out.of ((part lo).bind _) s=_
   rw[ha]
   show Out.of ((part hi).bind _) s=_
   rw[hb];rfl
  ·show Out.of ((part lo).bind _) s=_
   rw[ha]
   show Out.of ((part hi).bind _) s=_
   rw[hb];rfl
 rw[e,h.list]
 show Out.of (if (ls.map D.str).length<=line then some (D.lst (Ok.cut (ls.map D.str) a b)) else none) s=_
 rw[if_pos (by rwa [List.length_map])]
 unfold Ok.cut
 rw[List.length_map,List.map_take,List.map_drop]
 rfl
theorem LsD.to(h:LsD p d ls s)(hl:ls.length<=line)(k:Nat):slice d D.none (.int (k:Int)) D.none s=.ok (.lst ((ls.take k).map .str)) s:=by
 rw[h.cut hl _ _ none (some (k:Int)) rfl rfl,Jm6]
theorem LsD.from(h:LsD p d ls s)(hl:ls.length<=line)(k:Nat):slice d (.int (k:Int)) D.none D.none s=.ok (.lst ((ls.drop k).map .str)) s:=by
 rw[h.cut hl _ _ (some (k:Int)) none rfl rfl,Jm7]
theorem Jer{a b:List Str}(h:a.length+b.length<=line):Jae .Add (.lst (a.map .str)) (.lst (b.map .str)) s=.ok (.lst ((a++b).map .str)) s:=by
 show Out.of (opt ((a.map D.str).length+(b.map D.str).length<=line) (D.lst (a.map D.str++b.map D.str))) s=_
 rw[Jel (by rw[List.length_map,List.length_map];exact h),List.map_append]
theorem Jep{k:Nat}(h:k<10000000000):(num k).length<=10:=by
 rw[<-Jbv,cs_num,List.length_map]
 exact (Nat.length_toDigits_le_iff (by decide) (by decide)).mpr h
theorem tot_le{l:List Str}{k:Nat}(h:tot l<=k):(∀x∈l,x.length<k)/\l.length<=k:=⟨λx hx=>by have:=Jc5 hx;exact ar213 h this,Nat.le_trans (Ja9 l) h⟩
theorem Jmm(h:LsD p d ls s)(ht:tot ls<=100000):∃t:Str,t.length<=40/\cfn G (n+3) 317 [d] s=.ok (.str t) s:=by
 obtain ⟨h1,h2⟩:=tot_le ht
 have hline:1000000<=line:=by decide
 have hk:ls.length<10000000000:=by exact ar142 h2
 have hm:wsum 0 (Ja0 ls) % 4294967296<10000000000:=by exact ar133
 have hs:=Jq0 (n:=n) h.items (by exact ar287 h2 hline) (λl hl=>by have:=h1 l hl;exact ar234 hline this)
 generalize wsum 0 (Ja0 ls) % 4294967296=m at hm hs
 have q:("end ":Str).length=4:=by decide +kernel
 have l1:=Jep hk
 have l2:=Jep hm
 refine ⟨((("end ":Str)++num ls.length)++(" ":Str))++num m,by rw[Jav,Jav,Jav,Ja1];exact ar352 q l1 l2,?_⟩
 have e1:Jae .Add (.str "end ") (.str (num ls.length)) s=.ok (.str (("end ":Str)++num ls.length)) s:=Jbm (by exact ar321 hline q l1)
 have e2:Jae .Add (.str (("end ":Str)++num ls.length)) (.str " ") s=.ok (.str ((("end ":Str)++num ls.length)++(" ":Str))) s:=Jbm (by rw[Jav,Ja1];exact ar350 hline q l1)
 have e3:Jae .Add (.str ((("end ":Str)++num ls.length)++(" ":Str))) (.str (num m)) s=.ok (.str (((("end ":Str)++num ls.length)++(" ":Str))++num m)) s:=Jbm (by rw[Jav,Jav,Ja1];exact ar408 hline q l1 l2)
 rw[w317,h.len (by exact ar236 h2 hline),bok,Je6 hk,bok,e1,bok,e2,bok,hs,bok,Je6 hm,bok,e3,bok]
theorem nP_ok{V:Jac}{x:Int}(hx:V "number"=some (.int x))(i:Int):∃y:Int,nP (.int i) V s=.ok ((V.set "cell" (.int i)).set "number" (.int y),.next) s:=by
 have e7:∀b:Bool,Jai (.type "int") [.bool b] s=.ok (.int (if b then 1 else 0)) s:=λ_=>rfl
 unfold nP
 rw[Jab (by decide:("number":Str)≠"cell"),hx,Jad]
 exact ⟨_,(bcg (Jg4 (.inr (by decide)))).trans ((bcg (a:=D.int i) (s:=s) rfl).trans ((bcg (a:=D.int (i.natAbs:Int)) (s:=s) rfl).trans ((bcg (Jg4 (.inl (by decide)))).trans ((bcg (c_lt _ _)).trans ((bcg (e7 _)).trans ((bcg (Jcq _ _)).trans ((bcg (b_pow (a:=10) (b:=40) ⟨by decide,by decide,by decide⟩)).trans ((bcg (b_mod (by decide))).trans (bcg (Jcq _ _))))))))))⟩
theorem new_pen{is:List Int}(hl:is.length<=63):∃x:Int,cfn G (n+1) 274 [.lst (is.map .int)] s=.ok (.loc s.length) (s++[.list [.int x,.int 0]]):=by
 have hline:1000000<=line:=by decide
 have e0:slice (.lst (is.map .int)) D.none (.int ((24:Nat):Int)) D.none s=.ok (.lst ((is.take 24).map .int)) s:=by
  show Out.of (if (is.map D.int).length<=line then some (D.lst (Ok.cut (is.map D.int) none (some ((24:Nat):Int)))) else none) s=_
  rw[if_pos (by rw[List.length_map];exact ar195 hl hline),Jm6,List.map_take];rfl
 obtain ⟨V',s',e,hs,x,hx⟩:=Jcu (d:=.lst ((is.take 24).map .int)) (ds:=(is.take 24).map .int) (V:=(V0.set "script" (.lst (is.map .int))).set "number" (.int 13)) (s:=s) (λj V s'=>s'=s/\∃x:Int,V "number"=some (.int x)) (by rw[List.length_map,List.length_take];exact ar155 hline) (λ_ _ _ _=>rfl)
  (step:=nP) (λj d V s' hj ⟨hs,x,hx⟩=>by
   obtain ⟨i,_,rfl⟩:=List.mem_map.mp (List.mem_of_getElem? hj)
   obtain ⟨y,e⟩:=nP_ok (s:=s') hx i
   exact ⟨_,s',e,hs,y,Jao _ _ _⟩)
  ⟨rfl,13,Jao _ _ _⟩
 subst hs
 refine ⟨x,(w274 n _ _).trans ((bcg e0).trans ((bcg e).trans ?_))⟩
 rw[Jcz,hx,Jad]
 rfl
end
end
section
open PySem.NumText
theorem Jdv(l:List Str)(k:Nat):tot (l.take k)+tot (l.drop k)=tot l:=by
 rw[<-Jbz,List.take_append_drop]
theorem Jl5(l:List Str)(k:Nat):tot (l.take k)<=tot l:=by have:=Jdv l k;exact ar126 this
theorem Jl6(l:List Str)(k:Nat):tot (l.drop k)<=tot l:=by have:=Jdv l k;exact ar127 this
theorem Jpb:∀(l:List Str) (i:Nat) (x:Str),tot (l.insertIdx i x)<=tot l+x.length+1
 |[],0,x=>by show tot [x]<=_;rw[Jas];have:tot []=0:=rfl;exact ar118
 |[],i+1,x=>by show tot []<=_;exact ar64
 |a::r,0,x=>by show tot (x::a::r)<=_;rw[Jas x];exact ar118
 |a::r,i+1,x=>by
  have:=Jpb r i x
  show tot (a::r.insertIdx i x)<=_
  rw[Jas,Jas];exact ar373 this
theorem Jpc:∀(l:List Str) (i:Nat),tot (l.eraseIdx i)<=tot l
 |[],_=>Nat.le_refl _
 |a::r,0=>by show tot r<=_;rw[Jas];exact ar65
 |a::r,i+1=>by
  have:=Jpc r i
  show tot (a::r.eraseIdx i)<=_
  rw[Jas,Jas];exact ar254 this
theorem tot_rev(l:List Str):tot l.reverse=tot l:=by
 unfold tot;rw[List.map_reverse,List.sum_reverse]
theorem Jmp(l:List Str):(Str.join " " l).length<=tot l:=by
 cases l with
 |nil=>exact Nat.le_refl _
 |cons a r=>have:=Jeh " " Ja1 a r;exact ar98 this
theorem Jqp{α β:Type}(f:α->β):∀(l:List α) (k:Nat) (y:α),(l.insertIdx k y).map f=(l.map f).insertIdx k (f y)
 |[],0,_=>rfl
 |[],_+1,_=>rfl
 |_::_,0,_=>rfl
 |a::r,k+1,y=>congrArg (f a::·) (Jqp f r k y)
theorem Jqq{α β:Type}(f:α->β):∀(l:List α) (k:Nat),(l.eraseIdx k).map f=(l.map f).eraseIdx k
 |[],_=>rfl
 |_::_,0=>rfl
 |a::r,k+1=>congrArg (f a::·) (Jqq f r k)
section
variable{n p K w:Nat}{s:Jaa}{b:D}{ls ws:List Str}{at_:Nat}
theorem Jpo{x:Str}{ps:Pos}{cf:Addr->List D->Jaa->Out D}(hx:x.length<=line)(hp:G.lasts ps=true):Jak G cf ps (.str x) "split" [.str " "] s=.ok (.loc s.length) (s++[.list ((Wd x).map .str)]):=by
 have e:Jak G cf ps (.str x) "split" [.str " "] s=if ("split":Str)="split"/\(" ":Str).length≠0/\x.length<=line then (if G.lasts ps=true then Out.ok (D.loc s.length) (s++[M.list ((Txt.split x " ").map .str)]) else .ok (.lst ((Txt.split x " ").map .str)) s) else .bad:=by kernel_rfl
 rw[e,if_pos ⟨rfl,by rw[Ja1];decide,hx⟩,hp]
 rfl
theorem put_ls(h:Ls w (ws.map .str) s)(hl:ws.length<=line){k:Nat}(hk:k<ws.length)(y:Str):Ja7 (.loc w) (.int (k:Int)) (.str y) s=.ok () (s.set w (.list ((ws.set k y).map .str))):=by
 rw[Jev h,Jhh (by rwa [List.length_map]),List.map_set]
 exact congrArg Out.upd (if_pos ⟨by rwa [List.length_map],Int.natCast_nonneg k⟩)
theorem ok_ls(h:Ls w (ws.map .str) s){y:Str}(hy:(decide (y="append")||decide (y="pop")||decide (y="insert"))=true):Jah G (.loc w) y s=true:=(Jhk h).trans hy
theorem ins_ls(h:Ls w (ws.map .str) s)(hl:ws.length<=line){k:Nat}(hk:k<=ws.length)(y:Str){ps:Pos}{cf:Addr->List D->Jaa->Out D}{β:Type}(q:D->Jaa->Out β):(if Jah G (.loc w) "insert" s=true then ((Jak G cf ps (.loc w) "insert" [.int (k:Int),.str y] s).bind q) else .bad)=q .none (s.set w (.list ((ws.insertIdx k y).map .str))):=by
 rw[if_pos (ok_ls h (by decide))]
 show (Jbu (G.lasts ps) (.loc w) "insert" [.int (k:Int),.str y] s).bind q=_
 rw[Jgl h,Jqp]
 have hz:(ws.map D.str).length<=line:=by rwa [List.length_map]
 have e:methsL w "insert" [.int (k:Int),.str y] s (ws.map .str)=.ok .none (s.set w (.list ((ws.map D.str).insertIdx k (.str y)))):=
  (if_pos hz).trans (if_pos (show 0<=(k:Int)/\(k:Int)<=((ws.map D.str).length:Int) from ⟨Int.natCast_nonneg k,by rw[List.length_map];exact ar229 hk⟩))
 rw[e]
 rfl
theorem pop_ls(h:Ls w (ws.map .str) s)(hl:ws.length<=line){k:Nat}(hk:k<ws.length){ps:Pos}{cf:Addr->List D->Jaa->Out D}{β:Type}(q:D->Jaa->Out β):(if Jah G (.loc w) "pop" s=true then ((Jak G cf ps (.loc w) "pop" [.int (k:Int)] s).bind q) else .bad)=q (.str ws[k]) (s.set w (.list ((ws.eraseIdx k).map .str))):=by
 rw[if_pos (ok_ls h (by decide))]
 show (Jbu (G.lasts ps) (.loc w) "pop" [.int (k:Int)] s).bind q=_
 rw[Jgl h,Jqq]
 have hz:(ws.map D.str).length<=line:=by rwa [List.length_map]
 have e:methsL w "pop" [.int (k:Int)] s (ws.map .str)=(seqIndex? (k:Int) (ws.map D.str).length).elim .bad λm=>.of ((ws.map D.str)[m]?) (s.set w (.list ((ws.map D.str).eraseIdx m))):=if_pos hz
 rw[e,Jhh (by rwa [List.length_map])]
 show (Out.of ((ws.map D.str)[k]?) _).bind q=_
 rw[List.getElem?_map,List.getElem?_eq_getElem hk]
 rfl
theorem tail_w(hb:LsD p b ls s)(hw:Ls w (ws.map .str) s)(h1:tot ls<=50000)(h2:tot ws<=100000):bT b (.int (at_:Int)) (.loc w) s=.ok (.lst ((ls.take at_++[Str.join " " ws]++ls.drop (at_+1)).map .str)) s:=by
 have hline:1000000<=line:=by decide
 have hl:ls.length<=50000:=Nat.le_trans (Ja9 ls) h1
 have hll:ls.length<=line:=Nat.le_trans hl (by decide)
 have ej:=Jfl (x:=" ") hw (by have:=Ja9 ws;rw[Ja1,Nat.mul_one,Jo9];exact ar236 h2 hline)
 have e1:Jae .Add (.lst ((ls.take at_).map .str)) (.lst [.str (Str.join " " ws)]) s=.ok (.lst ((ls.take at_++[Str.join " " ws]).map .str)) s:=Jer (b:=[Str.join " " ws]) (by rw[List.length_take,List.length_cons,List.length_nil];exact ar358 hline hl)
 have e2:Jae .Add (.int (at_:Int)) (.int 1) s=.ok (.int ((at_+1:Nat):Int)) s:=Jcq _ _
 clear h1 h2
 rw[bT,hb.to hll,bok,ej,bok,e1,bok,e2,bok,hb.from hll,bok,Jer (by rw[List.length_append,List.length_take,List.length_drop,List.length_cons,List.length_nil];exact ar415 hline hl),bok]
theorem tail_tot(h:tot ws<=tot ls+40):tot (ls.take at_++[Str.join " " ws]++ls.drop (at_+1))<=2*tot ls+100:=by
 have h1:=Jdv ls at_
 have h2:=Jdv (ls.drop at_) 1
 rw[List.drop_drop] at h2
 have h3:=Jmp ws
 rw[Jbz,Jbz,Jas]
 have:tot []=0:=rfl
 exact ar445 h h1 h2 h3 this
end
end
section
open PySem.NumText
noncomputable def strangeL:List Str:=["","0","00","7","12345678901","9999999999","end","map","slot","symbol","call","A",Txt.mul "x" 16,Txt.mul "x" 15,"9a","_",Txt.mul "ff" 8,"-1","mainu"]
theorem Jh9:∀x∈strangeL,x.length<=20:=by decide +kernel
noncomputable def pickL:List Str:=["map q hash 1 1 1","slot 0000000000000001","symbol w 2","relocation 2 map q","end 1 0",""]
theorem Jn6:∀x∈pickL,x.length<=30:=by decide +kernel
noncomputable def signL:List Str:=["0","1","f","g","_","Z"]
theorem Jnx:∀x∈signL,x.length<=1:=by decide +kernel
theorem Jg6:∀(l:List Str) (i:Nat) (x:Str) (h:i<l.length),tot (l.set i x)+l[i].length=tot l+x.length
 |[],_,_,h=>absurd h (Nat.not_lt_zero _)
 |a::r,0,x,_=>by
  show tot (x::r)+a.length=_
  rw[Jas,Jas];exact ar252
 |a::r,i+1,x,h=>by
  have hi:i<r.length:=Nat.lt_of_succ_lt_succ h
  have:=Jg6 r i x hi
  show tot (a::r.set i x)+(r[i]'hi).length=_
  rw[Jas,Jas];exact ar383 this
theorem off_fr{p w:Nat}{s s5:Jaa}{m:M}(f:Fr p s s5)(hw:s.length<=w):Fr p s (s5.set w m):=⟨by rw[List.length_set];exact f.1,λj hj hl=>by rw[List.getElem?_set_ne (by exact ar175 hw hl)];exact f.2 j hj hl⟩
section
variable{n p K w:Nat}{s s0:Jaa}{b:D}{ls ws:List Str}{at_:Nat}{l:Str}
theorem pickS(h:Pen p K s)(hK:K<1000000){l:List Str}(hm:0<l.length)(hb:l.length<=line):Picked D.str p K l s (cfn G (n+2) 288 [.loc p,.lst (l.map .str)] s):=by
 obtain ⟨d,s',hd,e,h',f⟩:=pick (n:=n) h hK (ds:=l.map .str) (by rwa [List.length_map]) (by rwa [List.length_map])
 obtain ⟨x,hx,rfl⟩:=List.mem_map.mp hd
 exact ⟨x,s',hx,e,h',f⟩
noncomputable def Jb6(p K:Nat)(s0:Jaa)(T:Nat)(o:Out D):Prop:=∃d ls' s',o=.ok d s'/\Pen p K s'/\Fr p s0 s'/\LsD p d ls' s'/\ls'≠[]/\tot ls'<=T
theorem Jb6.le{p K K' T:Nat}{s0:Jaa}{o:Out D}(h:Jb6 p K s0 T o)(hk:K<=K'):Jb6 p K' s0 T o:=by
 obtain ⟨d,l,s,h1,h2,h3⟩:=h
 exact ⟨d,l,s,h1,h2.le hk,h3⟩
theorem Jpt{l:List Str}(h:l.length<=line):slice (.lst (l.map .str)) D.none D.none (.int (-1)) s=.ok (.lst (l.reverse.map .str)) s:=by
 have e:slice (.lst (l.map .str)) D.none D.none (.int (-1)) s=Out.of ((some (l.map D.str)).bind λds=>if ds.length<=line then some (.lst ds.reverse) else none) s:=by kernel_rfl
 rw[e]
 show Out.of (if (l.map D.str).length<=line then some (D.lst (l.map D.str).reverse) else none) s=_
 rw[if_pos (by rwa [List.length_map]),List.map_reverse]
 rfl
theorem Jnw{x:Str}(h:x.length<=line):∃y:Str,y.length<=x.length/\slice (.str x) D.none (.int (-1)) D.none s=.ok (.str y) s:=by
 refine ⟨⟨(Ok.cut (Cs x) none (some (-1))).toArray⟩,?_,Jel h⟩
 show (Ok.cut (Cs x) none (some (-1))).toArray.size<=_
 rw[List.size_toArray,<-Jbv]
 unfold Ok.cut
 exact Nat.le_trans (List.length_take_le' _ _) (by rw[List.length_drop];exact ar35)
structure BS(p K:Nat)(s0 s:Jaa)(b:D)(ls ws:List Str)(w at_:Nat)(l:Str):Prop where
 h:Pen p K s
 f:Fr p s0 s
 h0:LsD p b ls s0
 hb:LsD p b ls s
 hw:Ls w (ws.map .str) s
 hwp:w≠p
 hwn:s0.length<=w
 el:ls[at_]?=some l
 ht:tot ls<=20000
 hws:tot ws=l.length+1
theorem Jpd:∀{ls:List Str} {k:Nat} {l:Str},ls[k]?=some l->tot (ls.take k)+(l.length+1)+tot (ls.drop (k+1))=tot ls
 |a::r,0,_,h=>by
  cases h
  show tot []+(a.length+1)+tot r=_
  have:tot []=0:=rfl
  rw[Jas,this];exact ar181
 |a::r,k+1,l,h=>by
  have:=Jpd (ls:=r) h
  show tot (a::r.take k)+(l.length+1)+tot (r.drop (k+1))=_
  rw[Jas,Jas];exact ar423 this
namespace BS
theorem lt(B:BS p K s0 s b ls ws w at_ l):l.length<tot ls:=by have:=Jpd B.el;exact ar263 this
theorem len(B:BS p K s0 s b ls ws w at_ l):ls.length<=20000:=Nat.le_trans (Ja9 ls) B.ht
theorem line(B:BS p K s0 s b ls ws w at_ l):ls.length<=Ok.line:=Nat.le_trans B.len (by decide)
theorem wlen(B:BS p K s0 s b ls ws w at_ l):ws.length<=20000:=by have:=Ja9 ws;have:=B.hws;have:=B.lt;have:=B.ht;exact ar380 (by assumption) (by assumption) (by assumption) this
theorem wline(B:BS p K s0 s b ls ws w at_ l):ws.length<=Ok.line:=Nat.le_trans B.wlen (by decide)
theorem take_ne(B:BS p K s0 s b ls ws w at_ l):ls≠[]:=by rintro rfl;exact no B.el
theorem done(B:BS p K s0 s b ls ws w at_ l){r:List Str}{K':Nat}(hK:K<=K')(hr:r≠[])(ht:tot r<=2*tot ls+200):Jb6 p K' s0 (2*tot ls+200) (.ok (.lst (r.map .str)) s):=
 ⟨_,_,s,rfl,B.h.le hK,B.f,.inl rfl,hr,ht⟩
theorem words(B:BS p K s0 s b ls ws w at_ l){us:List Str}{K':Nat}(hK:K<=K')(ht:tot us<=tot ls+40):Jb6 p K' s0 (2*tot ls+200) (bT b (.int (at_:Int)) (.loc w) (s.set w (.list (us.map .str)))):=
 ⟨_,_,_,tail_w (B.h0.fr (off_fr B.f B.hwn)) (Jhd B.hw) (Nat.le_trans B.ht (by decide)) (by have:=B.ht;exact ar260 ht this),(B.h.off B.hwp _).le hK,off_fr B.f B.hwn,.inl rfl,by simp,Nat.le_trans (tail_tot ht) (Nat.add_le_add_left (by decide) _)⟩
theorem put(B:BS p K s0 s b ls ws w at_ l){K' spot:Nat}(hK:K<=K')(hs:spot<ws.length){y:Str}(hy:y.length<=ws[spot].length+21):Jb6 p K' s0 (2*tot ls+200) ((Ja7 (.loc w) (.int (spot:Int)) (.str y) s).bind λ_ s=>bT b (.int (at_:Int)) (.loc w) s):=by
 rw[put_ls B.hw B.wline hs,bok]
 exact B.words hK (by have:=Jg6 ws spot y hs;have:=B.hws;have:=B.lt;exact ar427 hy (by assumption) (by assumption) this)
theorem one(B:BS p K s0 s b ls ws w at_ l){z:Str}:(ls.take at_).length+[z].length<=Ok.line:=by
 rw[List.length_take];exact Nat.le_trans (Nat.add_le_add_right (Nat.min_le_right _ _) 1) (Nat.le_trans (Nat.succ_le_succ B.len) (by decide))
theorem two(B:BS p K s0 s b ls ws w at_ l){z:Str}{k:Nat}:(ls.take at_++[z]).length+(ls.drop k).length<=Ok.line:=by
 rw[List.length_append,List.length_take,List.length_drop,List.length_singleton]
 have:=B.len
 exact Nat.le_trans (by exact ar327 this:_<=50000) (by decide)
theorem b0(B:BS p K s0 s b ls ws w at_ l):Jb6 p (K+3) s0 (2*tot ls+200) (fb0 b (.int (at_:Int)) s):=by
 have e:fb0 b (.int (at_:Int)) s=.ok (.lst ((ls.take at_++[l]++ls.drop at_).map .str)) s:=
  (bcg (B.hb.to B.line _)).trans ((bcg (B.hb.item B.line B.el)).trans ((bcg (Jer (b:=[l]) B.one)).trans ((bcg (B.hb.from B.line _)).trans (bcg (Jer B.two)))))
 rw[e]
 refine B.done (Nat.le_add_right _ _) (by simp) ?_
 rw[Jbz,Jbz,Jas]
 have h1:=Jl5 ls at_
 have h2:=Jl6 ls at_
 have h3:=B.lt
 have:tot []=0:=rfl
 have:=Jdv ls at_
 exact ar424 h3 (by assumption) this
theorem b1(B:BS p K s0 s b ls ws w at_ l):Jb6 p (K+3) s0 (2*tot ls+200) (fb1 b (.int (at_:Int)) s):=by
 rw[fb1,B.hb.len B.line,bok,c_gt,bok]
 by_cases h1:1<ls.length
 ·have e:((slice b D.none (.int (at_:Int)) D.none s).bind λx21 s=>(Jae .Add (.int (at_:Int)) (.int 1) s).bind λx22 s=>(slice b x22 D.none D.none s).bind λx23 s=>(Jae .Add x21 x23 s).bind λx24 s=>Out.ok x24 s)=.ok (.lst ((ls.take at_++ls.drop (at_+1)).map .str)) s:=
   (bcg (B.hb.to B.line _)).trans ((bcg (Jcq _ _)).trans ((bcg (B.hb.from B.line (at_+1))).trans (bcg (Jer (by rw[List.length_take,List.length_drop];have:=B.line;exact ar299 this)))))
  rw[decide_eq_true (by exact ar91 h1:(1:Int)<(ls.length:Int)),brt,e,bok]
  refine B.done (Nat.le_add_right _ _) (λe=>?_) (by rw[Jbz];have:=Jpd B.el;exact ar357 this)
  have:=congrArg List.length e
  rw[List.length_append,List.length_take,List.length_drop,List.length_nil] at this
  exact ar310 h1 this
 ·rw[decide_eq_false (by exact ar112 h1:¬ (1:Int)<(ls.length:Int)),brf,bok]
  exact ⟨_,_,s,rfl,B.h.le (Nat.le_add_right _ _),B.f,B.hb,B.take_ne,by exact ar51⟩
theorem b2(B:BS p K s0 s b ls ws w at_ l):Jb6 p (K+3) s0 (2*tot ls+200) (fb2 b (.int (at_:Int)) s):=by
 have c1:slice b (.int (at_:Int)) (.int ((at_+2:Nat):Int)) D.none s=.ok (.lst (((ls.drop at_).take 2).map .str)) s:=by
  rw[B.hb.cut B.line _ _ (some (at_:Int)) (some ((at_+2:Nat):Int)) rfl rfl]
  have e:Ok.cut ls (some (at_:Int)) (some ((at_+2:Nat):Int))=(ls.drop at_).take 2:=by
   have hlt:=(List.getElem?_eq_some_iff.mp B.el).1
   show (ls.drop (clipAt ls.length (at_:Int))).take (clipAt ls.length ((at_+2:Nat):Int) - clipAt ls.length (at_:Int))=_
   rw[Jek,Jek,Nat.min_eq_left (Nat.le_of_lt hlt)]
   by_cases h2:at_+2<=ls.length
   ·rw[Nat.min_eq_left h2,Nat.add_sub_cancel_left]
   ·rw[Nat.min_eq_right (by exact ar137 h2),List.take_of_length_le (by rw[List.length_drop];exact Nat.le_refl _),List.take_of_length_le (by rw[List.length_drop];exact ar136 h2)]
  rw[e]
 have hl3:((ls.drop at_).take 2).length<=Ok.line:=Nat.le_trans (List.length_take_le _ _) (by decide)
 have e:fb2 b (.int (at_:Int)) s=.ok (.lst ((ls.take at_++((ls.drop at_).take 2).reverse++ls.drop (at_+2)).map .str)) s:=
  (bcg (B.hb.to B.line _)).trans ((bcg (Jcq _ _)).trans ((bcg c1).trans ((bcg (Jo4 _)).trans ((bcg (Jpt hl3)).trans ((bcg (Jer (by rw[List.length_take,List.length_reverse,List.length_take];have:=B.len;exact Nat.le_trans (by exact ar291 this:_<=20002) (by decide)))).trans ((bcg (Jcq _ _)).trans ((bcg (B.hb.from B.line (at_+2))).trans (bcg (Jer (by simp only[List.length_append,List.length_reverse,List.length_take,List.length_drop];have:=B.len;exact Nat.le_trans (by exact ar388 this:_<=50002) (by decide)))))))))))
 rw[e]
 refine B.done (Nat.le_add_right _ _) (λe=>?_) ?_
 ·have:=congrArg List.length e
  have hlt:=(List.getElem?_eq_some_iff.mp B.el).1
  rw[List.length_append,List.length_append,List.length_reverse,List.length_take,List.length_take,List.length_drop,List.length_nil] at this
  exact ar365 this hlt
 ·rw[Jbz,Jbz,tot_rev]
  have h1:=Jdv ls at_
  have h2:=Jdv (ls.drop at_) 2
  rw[List.drop_drop] at h2
  exact ar391 h1 h2
theorem b4(B:BS p K s0 s b ls ws w at_ l){spot:Nat}(hs:spot<ws.length){y:Str}(hy:y.length<=20):Jb6 p (K+3) s0 (2*tot ls+200) (fb4 n (.loc w) (.int (spot:Int)) (.str y) b (.int (at_:Int)) s):=by
 rw[fb4,ins_ls B.hw B.wline (Nat.le_of_lt hs) y]
 exact B.words (Nat.le_add_right _ _) (by have:=Jpb ws spot y;have:=B.hws;have:=B.lt;exact ar419 hy (by assumption) (by assumption) this)
theorem b5(B:BS p K s0 s b ls ws w at_ l){spot:Nat}(hs:spot<ws.length):Jb6 p (K+3) s0 (2*tot ls+200) (fb5 n (.loc w) (.int (spot:Int)) b (.int (at_:Int)) s):=by
 rw[fb5,pop_ls B.hw B.wline hs]
 exact B.words (Nat.le_add_right _ _) (by have:=Jpc ws spot;have:=B.hws;have:=B.lt;exact ar349 (by assumption) (by assumption) this)
theorem it(B:BS p K s0 s b ls ws w at_ l){spot:Nat}(hs:spot<ws.length):Ok.item (.loc w) (.int (spot:Int)) s=.ok (.str ws[spot]) s:=
 (show LsD p (.loc w) ws s from .inr ⟨w,B.hwp,rfl,B.hw⟩).item B.wline (List.getElem?_eq_getElem hs)
theorem word_le(B:BS p K s0 s b ls ws w at_ l){spot:Nat}(hs:spot<ws.length):(ws[spot]).length<=20000:=by
 have:=Jc5 (List.getElem_mem hs);have:=B.hws;have:=B.lt;have:=B.ht;exact ar394 (by assumption) (by assumption) (by assumption) this
theorem b6(B:BS p K s0 s b ls ws w at_ l){spot:Nat}(hs:spot<ws.length):Jb6 p (K+3) s0 (2*tot ls+200) (fb6 (.loc w) (.int (spot:Int)) b (.int (at_:Int)) s):=by
 rw[fb6,B.it hs,bok,Jbm (by rw[Ja1];exact Nat.le_trans (Nat.succ_le_succ (B.word_le hs)) (by decide)),bok]
 exact B.put (Nat.le_add_right _ _) hs (by rw[Jav,Ja1];exact ar39)
theorem b7(B:BS p K s0 s b ls ws w at_ l)(hK:K<1000000){spot:Nat}(hs:spot<ws.length):Jb6 p (K+3) s0 (2*tot ls+200) (fb7 (n+2) (.loc w) (.int (spot:Int)) (.loc p) b (.int (at_:Int)) s):=by
 have hwl:=B.word_le hs
 obtain ⟨y,hy,ey⟩:=Jnw (s:=s) (x:=ws[spot]) (Nat.le_trans hwl (by decide))
 obtain ⟨z,s6,hz,e6,h6,f6⟩:=pickS (n:=n) B.h hK (l:=signL) (by decide) (by decide)
 have hz1:=Jnx z hz
 have e6:cfn G (n+2) 288 [.loc p,(.lst [(.str "0"),(.str "1"),(.str "f"),(.str "g"),(.str "_"),(.str "Z")])] s=.ok (.str z) s6:=e6
 rw[fb7,B.it hs,bok,Jo4,bok,ey,bok,e6,bok,Jbm (Nat.le_trans (Nat.add_le_add (Nat.le_trans hy hwl) hz1) (by decide)),bok]
 obtain ⟨d',ls',s',r1,r2,r3,r4⟩:=BS.put (K':=K+1) ⟨h6,B.f.trans f6,B.h0,B.hb.fr f6,B.hw.fr B.hwp f6,B.hwp,B.hwn,B.el,B.ht,B.hws⟩ (Nat.le_refl _) hs (y:=y++z) (by rw[Jav];exact ar262 hy hz1)
 exact ⟨d',ls',s',r1,r2.le (by exact ar27),r3,r4⟩
theorem b8(B:BS p K s0 s b ls ws w at_ l)(hK:K<1000000):Jb6 p (K+3) s0 (2*tot ls+200) (fb8 (n+2) b (.int (at_:Int)) (.loc p) s):=by
 obtain ⟨z,s6,hz,e6,h6,f6⟩:=pickS (n:=n) B.h hK (l:=pickL) (by decide) (by decide)
 have hz1:=Jn6 z hz
 have e6:cfn G (n+2) 288 [.loc p,(.lst [(.str "map q hash 1 1 1"),(.str "slot 0000000000000001"),(.str "symbol w 2"),(.str "relocation 2 map q"),(.str "end 1 0"),(.str "")])] s=.ok (.str z) s6:=e6
 have e:fb8 (n+2) b (.int (at_:Int)) (.loc p) s=.ok (.lst ((ls.take at_++[z]++ls.drop at_).map .str)) s6:=
  (bcg (B.hb.to B.line _)).trans ((bcg e6).trans ((bcg (Jer (b:=[z]) B.one)).trans ((bcg ((B.hb.fr f6).from B.line _)).trans (bcg (Jer B.two)))))
 refine ⟨_,_,s6,e,h6.le (by exact ar27),B.f.trans f6,.inl rfl,by simp,?_⟩
 rw[Jbz,Jbz,Jas]
 have:tot []=0:=rfl
 have:=Jdv ls at_
 exact ar425 hz1 (by assumption) this
end BS
theorem Jnb{s:Jaa}{f:Jaa->Out D}:∀{l:List (Jaa->Out D)} {j k:Nat},l[k]?=some f->chain (.int ((j+k:Nat):Int)) s j l=f s
 |[g],_,0,h=>by cases h;rfl
 |g::g2::r,j,0,h=>by
  cases h
  show Out.bind (.ok (D.bool ((((j+0:Nat)):Int)==(j:Int))) s) (λc s=>brD c (f s) (chain (.int ((j+0:Nat):Int)) s (j+1) (g2::r)))=f s
  rw[bok,show ((((j+0:Nat)):Int)==(j:Int))=true from beq_self_eq_true _,brt]
 |g::g2::r,j,k+1,h=>by
  show Out.bind (.ok (D.bool ((((j+(k+1):Nat)):Int)==(j:Int))) s) (λc s=>brD c (g s) (chain (.int ((j+(k+1):Nat):Int)) s (j+1) (g2::r)))=_
  rw[bok,show ((((j+(k+1):Nat)):Int)==(j:Int))=false from beq_eq_false_iff_ne.mpr (by exact ar248),brf]
  have:=Jnb (s:=s) (l:=g2::r) (j:=j+1) (k:=k) h
  rwa [show j+1+k=j+(k+1) by exact ar144] at this
theorem bent_all(B:BS p K s0 s b ls ws w at_ l)(hK:K<1000000){spot kd:Nat}(hs:spot<ws.length){word:Str}(hy:word.length<=20)(hk:kd<9):Jb6 p (K+3) s0 (2*tot ls+200) (chain (.int (kd:Int)) s 0 [fb0 b (.int (at_:Int)),fb1 b (.int (at_:Int)),fb2 b (.int (at_:Int)),fb3 (.loc w) (.int (spot:Int)) (.str word) b (.int (at_:Int)),fb4 (n+2) (.loc w) (.int (spot:Int)) (.str word) b (.int (at_:Int)),fb5 (n+2) (.loc w) (.int (spot:Int)) b (.int (at_:Int)),fb6 (.loc w) (.int (spot:Int)) b (.int (at_:Int)),fb7 (n+2) (.loc w) (.int (spot:Int)) (.loc p) b (.int (at_:Int)),fb8 (n+2) b (.int (at_:Int)) (.loc p)]):=by
 have at':∀{l:List (Jaa->Out D)} {k:Nat} {f:Jaa->Out D},l[k]?=some f->Jb6 p (K+3) s0 (2*tot ls+200) (f s)->Jb6 p (K+3) s0 (2*tot ls+200) (chain (.int (k:Int)) s 0 l):=λh hf=>by
  have:=Jnb (s:=s) (j:=0) h
  rw[Nat.zero_add] at this
  rw[this];exact hf
 match kd,hk with
 |0,_=>exact at' rfl B.b0
 |1,_=>exact at' rfl B.b1
 |2,_=>exact at' rfl B.b2
 |3,_=>exact at' rfl (B.put (Nat.le_add_right _ _) hs (by exact ar109 hy))
 |4,_=>exact at' rfl (B.b4 hs hy)
 |5,_=>exact at' rfl (B.b5 hs)
 |6,_=>exact at' rfl (B.b6 hs)
 |7,_=>exact at' rfl (B.b7 hK hs)
 |8,_=>exact at' rfl (B.b8 hK)
theorem law_bent(h:Pen p K s)(hK:K+10<1000000)(hb:LsD p b ls s)(hne:ls≠[])(ht:tot ls<=20000):Jb6 p (K+8) s (2*tot ls+200) (cfn G (n+3) 324 [.loc p,b] s):=by
 obtain ⟨t1,t2⟩:=tot_le ht
 have hline:ls.length<=line:=Nat.le_trans t2 (by decide)
 have hpos:0<ls.length:=List.length_pos_iff.mpr hne
 obtain ⟨at_,s1,ha,e1,h1,f1⟩:=draw (n:=n+1) h (by exact ar154 hK) hpos (Nat.lt_of_le_of_lt t2 (by decide))
 obtain ⟨kd,s2,hkd,e2,h2,f2⟩:=draw (n:=n+1) h1 (by exact ar199 hK) (many:=9) (by decide) (by decide)
 have e2:cfn G (n+2) 281 [.loc p,.int 9] s1=.ok (.int (kd:Int)) s2:=e2
 have m1:Jae .Mult (.str "x") (.int 16) s2=.ok (.str (Txt.mul "x" 16)) s2:=by kernel_rfl
 have m2:Jae .Mult (.str "x") (.int 15) s2=.ok (.str (Txt.mul "x" 15)) s2:=by kernel_rfl
 have m3:Jae .Mult (.str "ff") (.int 8) s2=.ok (.str (Txt.mul "ff" 8)) s2:=by kernel_rfl
 have hb2:=hb.fr (f1.trans f2)
 have el:=List.getElem?_eq_getElem ha
 have hml:=List.getElem_mem ha
 generalize hl:ls[at_]=l at el hml
 have hll:l.length<=20000:=Nat.le_of_lt (t1 l hml)
 rw[w324,hb.len hline,bok,e1,bok,e2,bok,m1,bok,m2,bok,m3,bok,hb2.item hline el,bok,if_pos (Jig l),Jpo (Nat.le_trans hll (by decide)) (by kernel_rfl),bok]
 clear e1 e2 m1 m2 m3 h1
 have hwp:s2.length≠p:=Nat.ne_of_gt h2.lt
 have hwn:s.length<=s2.length:=(f1.trans f2).1
 have h3:=h2.app [.list ((Wd l).map .str)]
 have f3:Fr p s2 (s2++[.list ((Wd l).map .str)]):=Fr.app _
 have hw3:Ls s2.length ((Wd l).map .str) (s2++[.list ((Wd l).map .str)]):=by
  unfold Ls;rw[List.getElem?_append_right (Nat.le_refl _),Nat.sub_self];rfl
 have hwl:(Wd l).length<=20001:=Nat.le_trans (Jnl l) (Nat.succ_le_succ hll)
 have hwpos:0<(Wd l).length:=List.length_pos_iff.mpr (Wd_ne l)
 generalize s2.length=w at hwp hwn hw3 ⊢
 generalize s2++[M.list ((Wd l).map .str)]=s3 at h3 f3 hw3 ⊢
 obtain ⟨spot,s4,hsp,e4,h4,f4⟩:=draw (n:=n+1) h3 (by exact ar241 hK) hwpos (Nat.lt_of_le_of_lt hwl (by decide))
 obtain ⟨word,s5,hword,e5,h5,f5⟩:=pickS (n:=n) h4 (by exact ar270 hK) (l:=strangeL) (by decide) (by decide)
 have e5:cfn G (n+2) 288 [.loc p,(.lst [(.str ""),(.str "0"),(.str "00"),(.str "7"),(.str "12345678901"),(.str "9999999999"),(.str "end"),(.str "map"),(.str "slot"),(.str "symbol"),(.str "call"),(.str "A"),(.str (Txt.mul "x" 16)),(.str (Txt.mul "x" 15)),(.str "9a"),(.str "_"),(.str (Txt.mul "ff" 8)),(.str "-1"),(.str "mainu")])] s4=.ok (.str word) s5:=e5
 rw[Jk8 hw3 (by rw[List.length_map];exact Nat.le_trans hwl (by decide)),List.length_map,bok,e4,bok,e5,bok]
 exact (bent_all ⟨h5,f1.trans (f2.trans (f3.trans (f4.trans f5))),hb,hb2.fr (f3.trans (f4.trans f5)),hw3.fr hwp (f4.trans f5),hwp,hwn,el,ht,Jdu l " " Ja1⟩ (by exact ar295 hK) hsp (Jh9 word hword) hkd).le (by exact ar149)
end
end
section
open PySem.NumText
theorem Jm8{its:Jaa->Option (List D)}{step:D->Jaa->Out (Option D)}{ds:List D}{I:Nat->Jaa->Prop}{P:D->Prop}(hi:∀j s,I j s->its s=some ds)
  (h:∀j d s,ds[j]?=some d->I j s->∃e s',step d s=.ok (some e) s'/\P e/\I (j+1) s'):∀k j s,ds.length - j<k->j<=ds.length->I j s->∃es s',Jda its step k j s=.ok es s'/\es.length=ds.length - j/\(∀e∈es,P e)/\I ds.length s'
 |0,j,s,hk,_,_=>absurd hk (by exact ar37)
 |k+1,j,s,hk,hj,hI=>by
  have e:Jda its step (k+1) j s=(match its s with
   |none=>Out.bad
   |some ds=>match ds[j]? with
    |none=>.ok [] s
    |some d=>(step d s).bind λe σ=>match e with
     |some e=>(Jda its step k (j+1) σ).bind λes σ=>.ok (e::es) σ
     |none=>Jda its step k (j+1) σ):=rfl
  rw[e,hi j s hI]
  show ∃es s',(match ds[j]? with
    |none=>Out.ok [] s
    |some d=>(step d s).bind λe σ=>match e with
     |some e=>(Jda its step k (j+1) σ).bind λes σ=>.ok (e::es) σ
     |none=>Jda its step k (j+1) σ)=_/\_
  cases ed:ds[j]? with
  |none=>
   have:=List.getElem?_eq_none_iff.mp ed
   obtain rfl:j=ds.length:=by exact ar147 hj this
   exact ⟨[],s,rfl,by simp,λe he=>(by cases he),hI⟩
  |some d=>
   obtain ⟨x,s',e1,hp,hI'⟩:=h j d s ed hI
   have hlt:=(List.getElem?_eq_some_iff.mp ed).1
   obtain ⟨es,s2,e2,h1,h2,h3⟩:=Jm8 hi h k (j+1) s' (by exact ar333 hk hlt) (by exact ar100 hlt) hI'
   refine ⟨x::es,s2,?_,by rw[List.length_cons,h1];exact ar243 hlt,λe he=>?_,h3⟩
   ·show (step d s).bind _=_
    rw[e1]
    show (Jda its step k (j+1) s').bind _=_
    rw[e2]
    rfl
   ·rcases List.mem_cons.mp he with rfl | he
    ·exact hp
    ·exact h2 e he
theorem Jm9{d:D}{step:D->Jaa->Out (Option D)}{ds:List D}(I:Nat->Jaa->Prop)(P:D->Prop)(hl:ds.length<=line)(hi:∀j s,I j s->Jal s d=some ds)
  (h:∀j d s,ds[j]?=some d->I j s->∃e s',step d s=.ok (some e) s'/\P e/\I (j+1) s') {s:Jaa} (h0:I 0 s):∃es s',Ja5 d step s=.ok (.lst es) s'/\es.length=ds.length/\(∀e∈es,P e)/\I ds.length s':=by
 obtain ⟨es,s',e,h1,h2,h3⟩:=Jm8 (its:=λs=>Jal s d) hi h (ds.length+1) 0 s (by exact ar29) (by exact ar11) h0
 refine ⟨es,s',?_,by rw[h1];rfl,h2,h3⟩
 unfold Ja5
 rw[hi 0 s h0]
 show (if ds.length<=line then _ else _)=_
 rw[if_pos hl,e]
 rfl
theorem l100:100<=line:=by decide
theorem sg_len(c:Nat):(sg c).length=1:=rfl
noncomputable def IsOct(d:D):Prop:=∃k:Nat,k<256/\d=.int (k:Int)
noncomputable def IsTwo(d:D):Prop:=∃t:Str,t.length=2/\d=.str t
theorem strs_of{ds:List D}(h:∀e∈ds,IsTwo e):∃l:List Str,ds=l.map .str/\∀x∈l,x.length=2:=by
 induction ds with
 |nil=>exact ⟨[],rfl,λx hx=>(by cases hx)⟩
 |cons a r ih=>
  obtain ⟨l,e,hl⟩:=ih λe he=>h e (List.mem_cons_of_mem _ he)
  obtain ⟨t,ht,rfl⟩:=h a (List.mem_cons_self ..)
  refine ⟨t::l,by rw[e];rfl,λx hx=>?_⟩
  rcases List.mem_cons.mp hx with rfl | hx
  ·exact ht
  ·exact hl x hx
theorem Jo5:∀{l:List Str},(∀x∈l,x.length=2)->(l.map (·.length)).sum=2*l.length
 |[],_=>rfl
 |a::r,h=>by
  rw[List.map_cons,List.sum_cons,h a (List.mem_cons_self ..),Jo5 (l:=r) λx hx=>h x (List.mem_cons_of_mem _ hx),List.length_cons];exact ar105
theorem Jl0:("":Str).length=0:=by decide +kernel
section
variable{n p q K:Nat}{s:Jaa}
theorem Jla{ds:List D}(h:∀e∈ds,IsOct e)(h8:ds.length=8):∃t:Str,t.length<=16/\cfn G (n+1) 293 [.lst ds] s=.ok (.str t) s:=by
 obtain ⟨es,s',e,h1,h2,h3⟩:=Jm9 (d:=.lst ds) (ds:=ds) (λ_ s'=>s'=s) IsTwo (by rw[h8];decide) (λ_ _ _=>rfl)
  (step:=λe1 s=>(Jae .FloorDiv e1 (.int 16) s).bind λx2 s=>(item (.str "0123456789abcdef") x2 s).bind λx3 s=>(Jae .Mod e1 (.int 16) s).bind λx4 s=>(item (.str "0123456789abcdef") x4 s).bind λx5 s=>(Jae .Add x3 x5 s).bind λx6 s=>.ok (some x6) s)
  (λj d s' hj hs=>by
   subst hs
   obtain ⟨k,hk,rfl⟩:=h d (List.mem_of_getElem? hj)
   have e1:Jae .FloorDiv (.int (k:Int)) (.int 16) s'=.ok (.int ((k / 16:Nat):Int)) s':=by
    rw[b_div (by decide)]
    congr 2
    rw[Int.fdiv_eq_ediv_of_nonneg _ (by decide)]
    rfl
   have e2:Jae .Mod (.int (k:Int)) (.int 16) s'=.ok (.int ((k % 16:Nat):Int)) s':=by
    rw[b_mod (by decide)]
    congr 2
    rw[Int.fmod_eq_emod_of_nonneg _ (by decide)]
    rfl
   refine ⟨.str (sg (hd16 (k / 16))++sg (hd16 (k % 16))),s',?_,⟨_,rfl,rfl⟩,rfl⟩
   rw[e1,bok,Jf4 (by exact ar84 hk),bok,e2,bok,Jf4 (by exact ar23),bok,Jbm (by show 1+1<=line;decide),bok])
  rfl
 subst h3
 obtain ⟨l,rfl,hl⟩:=strs_of h2
 rw[List.length_map] at h1
 have hs:=Jo5 hl
 refine ⟨Str.join "" l,?_,?_⟩
 ·have:=StrLaws.join_length_le "" l
  rw[Jl0] at this
  exact ar386 h8 h1 hs this
 ·rw[w293,e,bok,Jjq (by rw[Jl0,hs,Nat.mul_zero];have:=l100;exact ar314 h8 h1 this)]
  rfl
theorem drawI(h:Pen p K s)(hK:K<1000000){m:Int}{many:Nat}(e:m=(many:Int))(hm:0<many)(hb:many<2^30):Drew p K many s (cfn G (n+1) 281 [.loc p,.int m] s):=by
 subst e;exact draw h hK hm hb
theorem Jnk(hqp:q≠p){ls:List Str}(h:Ls q (ls.map .str) s)(hl:ls.length<=line)(x:Str){cf:Addr->List D->Jaa->Out D}{ps:Pos}:Jak G cf ps (.loc q) "append" [.str x] s=.ok .none (s.set q (.list ((ls++[x]).map .str))):=by
 rw[Jjr h (by rwa [List.length_map]),List.map_append];rfl
noncomputable def nameL:List Str:=["a","b_1","_",Txt.mul "z" 14]
theorem Jn9:∀x∈nameL,x.length<=14:=by decide +kernel
noncomputable def kindL:List Str:=["hash","array","odd"]
theorem Joc:∀x∈kindL,x.length<=14:=by decide +kernel
theorem Jmq{x:Str}(hx:x.length=2){k:Nat}(hk:k<2):∃c,item (.str x) (.int (k:Int)) s=.ok (.str (sg c)) s:=⟨_,Jfo (by rw[hx];decide) (by rw[Jbv,hx];exact hk)⟩
structure TL(p q K:Nat)(ls:List Str)(s:Jaa):Prop where
 pen:Pen p K s
 hq:q≠p
 ll:Ls q (ls.map .str) s
inductive Yes{α:Type}(P:α->Prop)(f:α->D)(T:Jaa->Prop)(o:Out D):Prop
 |mk (a:α) (s:Jaa) (h:P a) (e:o=.ok (f a) s) (t:T s)
theorem Yes.go{α β:Type}{P:α->Prop}{f:α->D}{T:Jaa->Prop}{o:Out D}{k:D->Jaa->Out β}{Q:Out β->Prop}(y:Yes P f T o)(h:∀a s,P a->T s->Q (k (f a) s)):Q (o.bind k):=by
 cases y with
 |mk a s hp e t=>rw[e];exact h a s hp t
theorem run{α β:Type}{x:Out α}{a:α}{s:Jaa}{f:α->Jaa->Out β}{Q:Out β->Prop}(e:x=.ok a s)(h:Q (f a s)):Q (x.bind f):=by rw[e];exact h
variable{ls:List Str}{C:Option D}{V:Jac}{T:Nat}
theorem TL.pick(h:TL p q K ls s)(hK:K<1000000){l:List Str}(hm:0<l.length)(hb:l.length<=line):Yes (·∈l) D.str (TL p q (K+1) ls) (cfn G (n+2) 288 [.loc p,.lst (l.map .str)] s):=by
 obtain ⟨x,s',m,e,p',f⟩:=pickS (n:=n) h.pen hK hm hb
 exact ⟨x,s',m,e,p',h.hq,h.ll.fr h.hq f⟩
theorem TL.draw(h:TL p q K ls s)(hK:K<1000000){m:Int}{many:Nat}(e:m=(many:Int))(hm:0<many)(hb:many<2^30):Yes (·<many) (λd:Nat=>D.int (d:Int)) (TL p q (K+1) ls) (cfn G (n+1) 281 [.loc p,.int m] s):=by
 obtain ⟨x,s',m,e,p',f⟩:=drawI (n:=n) h.pen hK e hm hb
 exact ⟨x,s',m,e,p',h.hq,h.ll.fr h.hq f⟩
structure VN(p q:Nat)(C:Option D)(V:Jac):Prop where
 pen:V "pen"=some (.loc p)
 lines:V "lines"=some (.loc q)
 count:V "count"=C
theorem VN.at_(v:VN p q C V)(d:D):VN p q C (V.set "at" d):=⟨(Jab (by decide)).trans v.pen,(Jab (by decide)).trans v.lines,(Jab (by decide)).trans v.count⟩
theorem VN.word(v:VN p q C V)(d:D):VN p q C (V.set "word" d):=⟨(Jab (by decide)).trans v.pen,(Jab (by decide)).trans v.lines,(Jab (by decide)).trans v.count⟩
theorem VN.count_(v:VN p q C V)(d:D):VN p q (some d) (V.set "count" d):=⟨(Jab (by decide)).trans v.pen,(Jab (by decide)).trans v.lines,Jao _ _ _⟩
inductive RL(p q K T:Nat)(C:Option D)(V:Jac)(s:Jaa):Prop
 |mk (ls:List Str) (t:TL p q K ls s) (v:VN p q C V) (ne:ls≠[]) (ht:tot ls<=T)
theorem RL.le{K' T':Nat}(h:RL p q K T C V s)(hK:K<=K')(hT:T<=T'):RL p q K' T' C V s:=by
 cases h with
 |mk ls t v ne ht=>exact ⟨ls,⟨t.pen.le hK,t.hq,t.ll⟩,v,ne,Nat.le_trans ht hT⟩
inductive Turn(p q K T:Nat)(C:Option D)(o:Out (Jac×Fl)):Prop
 |mk (V:Jac) (s:Jaa) (e:o=.ok (V,.next) s) (h:RL p q (K+10) (T+100) C V s)
theorem TL.add{K':Nat}(t:TL p q K' ls s)(v:VN p q C V)(hK:K'<=K+10)(hT:T<=7000)(ht:tot ls<=T){x:Str}(hx:x.length<=99){cf:Addr->List D->Jaa->Out D}{ps:Pos}:Turn p q K T C ((Jak G cf ps (.loc q) "append" [.str x] s).bind λ_ s=>.ok (V,.next) s):=
 ⟨V,s.set q (.list ((ls++[x]).map .str)),by rw[Jnk t.hq t.ll (Nat.le_trans (Ja9 ls) (Nat.le_trans ht (Nat.le_trans hT (by decide))))];rfl,ls++[x],⟨(t.pen.off t.hq _).le hK,t.hq,Jhd t.ll⟩,v,List.append_ne_nil_of_right_ne_nil _ (List.cons_ne_nil _ _),by rw[Jbz];exact Nat.add_le_add ht (Nat.succ_le_succ hx)⟩
theorem lt6{K c:Nat}(hK:K<=2000)(h:2000+c<1000000):K+c<1000000:=Nat.lt_of_le_of_lt (Nat.add_le_add_right hK c) h
theorem addS{a b:Str}{A B:Nat}(ha:a.length<=A)(hb:b.length<=B)(h:A+B<=1000):Jae .Add (.str a) (.str b) s=.ok (.str (a++b)) s:=Jbm (Nat.le_trans (Nat.add_le_add ha hb) (Nat.le_trans h (by decide)))
theorem appL{a b:Str}{A B:Nat}(ha:a.length<=A)(hb:b.length<=B):(a++b).length<=A+B:=by rw[Jav];exact Nat.add_le_add ha hb
theorem Jpa{M:Nat}:∀{l:List Str},(∀x∈l,x.length<=M)->tot l<=(M+1)*l.length
 |[],_=>Nat.le_refl _
 |a::r,h=>by
  rw[Jas,List.length_cons,Nat.mul_succ,Nat.add_comm]
  exact Nat.add_le_add (Jpa λx hx=>h x (.tail _ hx)) (Nat.succ_le_succ (h a (.head _)))
theorem Jg7(l:List Str):(l.map (·.length)).sum+l.length=tot l:=by
 induction l with
 |nil=>rfl
 |cons a r ih=>rw[Jas,<-ih,List.map_cons,List.sum_cons,List.length_cons];exact Nat.add_add_add_comm _ _ _ 1 |>.symm▸by simp only[Nat.add_assoc,Nat.add_comm,Nat.add_left_comm]
inductive Turns(p q K T:Nat)(C:Option D)(o:Out (Jac×Fl)):Prop
 |mk (V:Jac) (s:Jaa) (e:o=.ok (V,.next) s) (h:RL p q (K+40) (T+400) C V s)
theorem Turns.go{o:Out (Jac×Fl)}{kn:Jac->Jaa->Out D}{kr:Jac->D->Jaa->Out D}{Q:Out D->Prop}(y:Turns p q K T C o)(h:∀V s,RL p q (K+40) (T+400) C V s->Q (kn V s)):Q (o.bind (kv kn kr)):=by
 cases y with
 |mk V s e t=>rw[e];exact h V s t
theorem turns{step:D->Jac->Jaa->Out (Jac×Fl)}{M m:Nat}(hm:m<M)(hM:M<=5)(hK:K<=1000)(hT:T<=6000)(ht:∀(j:Nat) V s K T,j<m->K<=2000->T<=7000->RL p q K T C V s->Turn p q K T C (step (.int (j:Int)) V s))(h:RL p q K T C V s):Turns p q K T C (Jfg (.rng 0 (m:Int) 1) step V s):=by
 have hm4:m<=4:=Nat.le_of_lt_succ (Nat.lt_of_lt_of_le hm hM)
 have hl:m<=line:=Nat.le_trans hm4 (by decide)
 have key:=Jcu (d:=.rng 0 (m:Int) 1) (step:=step) (ds:=(List.range m).map λi:Nat=>.int (i:Int)) (V:=V) (s:=s) (λj V s=>RL p q (K+10*j) (T+100*j) C V s) (by rw[List.length_map,List.length_range];exact hl) (λ_ _ _ _=>Jc6 hl) (λj d V s hj hI=>by
  obtain ⟨hjl,hd⟩:=List.getElem?_eq_some_iff.mp hj
  rw[List.length_map,List.length_range] at hjl
  rw[List.getElem_map,List.getElem_range] at hd
  have hj4:=Nat.le_trans (Nat.le_of_lt hjl) hm4
  cases hd
  cases ht j V s _ _ hjl (Nat.le_trans (Nat.add_le_add hK (Nat.mul_le_mul_left 10 hj4)) (by decide)) (Nat.le_trans (Nat.add_le_add hT (Nat.mul_le_mul_left 100 hj4)) (by decide)) hI with
  |mk V' s' e r=>exact ⟨V',s',e,r⟩) h
 rw[List.length_map,List.length_range] at key
 obtain ⟨V',s',e,r⟩:=key
 exact ⟨V',s',e,r.le (Nat.add_le_add_left (Nat.mul_le_mul_left 10 hm4) K) (Nat.add_le_add_left (Nat.mul_le_mul_left 100 hm4) T)⟩
variable{K':Nat}{x1 x2 x3 x4:Str}
theorem lM4_turn(t:TL p q K' ls s)(v:VN p q C V)(h6:K'<1000000)(hK:K'+1<=K+10)(hT:T<=7000)(ht:tot ls<=T)(h1:x1.length<=15)(h2:x2.length<=15)(h3:x3.length<=15)(h4:x4.length<=15):Turn p q K T C (lM4 (n+2) V (.str x1) (.loc q) (.str x2) (.str x3) (.str x4) s):=by
 unfold lM4
 rw[v.pen,Jad]
 refine run (a:=D.int 1000000000) (s:=s) (by kernel_rfl) ?_
 refine (t.draw (n:=n+1) h6 (many:=1000000000) rfl (by decide) (by decide)).go λd s hd t=>?_
 have h5:=Jep (k:=d) (Nat.lt_trans hd (by decide))
 have hl:=Jpa (M:=15) (l:=["map",x1,x2,x3,x4,num d]) (λx hx=>by
  rcases List.mem_cons.mp hx with rfl | hx
  ·decide +kernel
  rcases List.mem_cons.mp hx with rfl | hx
  ·exact h1
  rcases List.mem_cons.mp hx with rfl | hx
  ·exact h2
  rcases List.mem_cons.mp hx with rfl | hx
  ·exact h3
  rcases List.mem_cons.mp hx with rfl | hx
  ·exact h4
  ·rw[List.mem_singleton.mp hx];exact Nat.le_trans h5 (by decide))
 refine run (Je6 (Nat.lt_trans hd (by decide))) (run (Jjq (ys:=["map",x1,x2,x3,x4,num d]) (by rw[Ja1,Nat.mul_one,Jg7];exact Nat.le_trans hl (show 16*6<=line by decide))) ?_)
 exact t.add v hK hT ht (Nat.le_trans (Nat.le_trans (Jmp _) hl) (show 16*6<=99 by decide))
theorem lM3_turn(t:TL p q K' ls s)(v:VN p q C V)(h6:K'+2<1000000)(hK:K'+3<=K+10)(hT:T<=7000)(ht:tot ls<=T)(h1:x1.length<=15)(h2:x2.length<=15):Turn p q K T C (lM3 (n+2) V (.str x1) (.loc q) (.str x2) s):=by
 unfold lM3
 rw[v.pen,Jad]
 refine (t.draw (n:=n+1) (Nat.lt_of_le_of_lt (Nat.le_add_right _ 2) h6) (many:=21) rfl (by decide) (by decide)).go λd s hd t=>?_
 refine run (Je6 (Nat.lt_trans hd (by decide))) ?_
 rw[Jad]
 refine (t.draw (n:=n+1) (Nat.lt_of_le_of_lt (Nat.le_add_right _ 1) h6) (many:=400) rfl (by decide) (by decide)).go λe s he t=>?_
 refine run (Je6 (Nat.lt_trans he (by decide))) ?_
 exact lM4_turn t v h6 hK hT ht h1 h2 (Nat.le_trans (Jep (Nat.lt_trans hd (by decide))) (by decide)) (Nat.le_trans (Jep (Nat.lt_trans he (by decide))) (by decide))
theorem lM2_turn(t:TL p q K' ls s)(v:VN p q C V)(h6:K'+3<1000000)(hK:K'+4<=K+10)(hT:T<=7000)(ht:tot ls<=T)(h1:x1.length<=15):Turn p q K T C (lM2 (n+2) V (.str x1) s):=by
 unfold lM2
 rw[v.lines,Jad,if_pos (Jch t.ll),v.pen,Jad]
 refine (t.pick (n:=n) (Nat.lt_of_le_of_lt (Nat.le_add_right _ 3) h6) (l:=kindL) (by decide) (by decide)).go λx s hx t=>?_
 exact lM3_turn t v h6 hK hT ht h1 (Nat.le_trans (Joc x hx) (by decide))
theorem lM_turn{j:Nat}(hj:j<2)(hK:K<=2000)(hT:T<=7000)(h:RL p q K T C V s):Turn p q K T C (lM (n+2) (.int (j:Int)) V s):=by
 cases h with
 |mk ls t v ne ht=>
  have v:=v.at_ (.int (j:Int))
  unfold lM
  rw[v.pen,Jad]
  refine run (a:=D.str (Txt.mul "z" 14)) (s:=s) (by kernel_rfl) ?_
  refine (t.pick (n:=n) (lt6 (c:=0) hK (by decide)) (l:=nameL) (by decide) (by decide)).go λx s hx t=>?_
  obtain ⟨c,ec⟩:=Jmq (s:=s) (x:="xy") (by decide +kernel) hj
  have k1:=Jn9 x hx
  have k2:=Nat.le_of_eq (sg_len c)
  refine run ec (run (addS k1 k2 (by decide)) ?_)
  exact lM2_turn t (v.word _) (lt6 (c:=4) hK (by decide)) (Nat.add_le_add_left (by decide:5<=10) K) hT ht (appL k1 k2)
end
end
section
open PySem.NumText
noncomputable def symL:List Str:=["main","f","g9"]
theorem Jph:∀x∈symL,x.length<=14:=by decide +kernel
noncomputable def wayL:List Str:=["map","call"]
theorem Jo3:∀x∈wayL,x.length<=5:=by decide +kernel
noncomputable def axL:List Str:=["ax","mainu","none"]
theorem ax_short:∀x∈axL,x.length<=5:=by decide +kernel
section
variable{n p q K:Nat}{s:Jaa}
variable{ls:List Str}{C:Option D}{V:Jac}{T K':Nat}{x1:Str}
theorem lS1_all(v:VN p q C V)(t:TL p q K ls s)(hK:K<=2000):∃es s',Ja5 (.rng 0 ((8:Nat):Int) 1) (lS1 (n+2) V) s=.ok (.lst es) s'/\es.length=8/\(∀e∈es,IsOct e)/\TL p q (K+8) ls s':=by
 have r:=Jm9 (d:=.rng 0 ((8:Nat):Int) 1) (step:=lS1 (n+2) V) (ds:=(List.range 8).map λi:Nat=>.int (i:Int)) (λj s=>TL p q (K+j) ls s) IsOct (by decide) (λ_ _ _=>Jc6 (by decide)) (λj d s hj t=>by
  have hj8:=(List.getElem?_eq_some_iff.mp hj).1
  rw[List.length_map,List.length_range] at hj8
  cases t.draw (n:=n+1) (Nat.lt_of_le_of_lt (Nat.add_le_add hK (Nat.le_of_lt hj8)) (by decide)) (m:=256) (many:=256) rfl (by decide) (by decide) with
  |mk k s' hk e t'=>exact ⟨.int (k:Int),s',by unfold lS1;rw[v.pen,Jad,e,bok],⟨k,hk,rfl⟩,t'⟩) t
 rw[List.length_map,List.length_range] at r
 exact r
theorem lS_turn{j:Nat}(hK:K<=2000)(hT:T<=7000)(h:RL p q K T C V s):Turn p q K T C (lS (n+2) (.int (j:Int)) V s):=by
 cases h with
 |mk ls t v ne ht=>
  have v:=v.at_ (.int (j:Int))
  obtain ⟨es,s1,e1,h1,h2,t1⟩:=lS1_all (n:=n) v t hK
  obtain ⟨x,hx,e2⟩:=Jla (n:=n+1) (s:=s1) h2 h1
  unfold lS
  rw[v.lines,Jad,if_pos (Jch t.ll)]
  refine run (a:=D.rng 0 ((8:Nat):Int) 1) (s:=s) (Jmn (m:=8) (by decide)) (run e1 ?_)
  unfold lS2
  refine run e2 (run (addS (A:=5) (by decide +kernel) hx (by decide)) ?_)
  exact t1.add v (Nat.add_le_add_left (by decide:8<=10) K) hT ht (Nat.le_trans (appL (A:=5) (by decide +kernel) hx) (by decide))
theorem lY_turn{j:Nat}(hj:j<2)(hK:K<=2000)(hT:T<=7000)(h:RL p q K T C V s):Turn p q K T C (lY (n+2) (.int (j:Int)) V s):=by
 cases h with
 |mk ls t v ne ht=>
  have v:=v.at_ (.int (j:Int))
  unfold lY
  rw[v.lines,Jad,if_pos (Jch t.ll),v.pen,Jad]
  refine (t.pick (n:=n) (lt6 (c:=0) hK (by decide)) (l:=symL) (by decide) (by decide)).go λx s hx t=>?_
  have k1:=Jph x hx
  have lsl:("symbol ":Str).length<=7:=by decide +kernel
  have a1:=appL lsl k1
  refine run (addS lsl k1 (by decide)) ?_
  generalize ("symbol ":Str)++x=x1 at a1 ⊢
  obtain ⟨c,ec⟩:=Jmq (s:=s) (x:="uv") (by decide +kernel) hj
  have k2:=Nat.le_of_eq (sg_len c)
  have k3:=Nat.le_of_eq Ja1
  have hj2:=Nat.lt_trans hj (by decide:2<10000000000)
  unfold lY2
  refine run ec (run (addS a1 k2 (by decide)) (run (addS (appL a1 k2) k3 (by decide)) (run (Je6 hj2) (run (addS (appL (appL a1 k2) k3) (Jep hj2) (by decide)) ?_))))
  exact t.add v (Nat.add_le_add_left (by decide:1<=10) K) hT ht (Nat.le_trans (appL (appL (appL a1 k2) k3) (Jep hj2)) (by decide))
theorem lR3_turn(t:TL p q K' ls s)(v:VN p q C V)(h6:K'<1000000)(hK:K'+1<=K+10)(hT:T<=7000)(ht:tot ls<=T)(h1:x1.length<=50):Turn p q K T C (lR3 (n+2) V (.loc q) (.str x1) s):=by
 unfold lR3
 rw[v.pen,Jad]
 refine (t.pick (n:=n) h6 (l:=axL) (by decide) (by decide)).go λx s hx t=>?_
 have k1:=ax_short x hx
 exact run (addS h1 k1 (by decide)) (t.add v hK hT ht (Nat.le_trans (appL h1 k1) (by decide)))
theorem lR2_turn(t:TL p q K ls s)(v:VN p q C V)(hK:K<=2000)(hT:T<=7000)(ht:tot ls<=T)(h1:x1.length<=22):Turn p q K T C (lR2 (n+2) V (.loc q) (.str x1) s):=by
 unfold lR2
 rw[v.pen,Jad]
 refine (t.pick (n:=n) (lt6 (c:=0) hK (by decide)) (l:=wayL) (by decide) (by decide)).go λx s hx t=>?_
 have k1:=Jo3 x hx
 have k3:=Nat.le_of_eq Ja1
 refine run (addS h1 k1 (by decide)) (run (addS (appL h1 k1) k3 (by decide)) ?_)
 exact lR3_turn t v (lt6 (c:=1) hK (by decide)) (Nat.add_le_add_left (by decide:2<=10) K) hT ht (Nat.le_trans (appL (appL h1 k1) k3) (by decide))
theorem lR_turn{j:Nat}(hj:j<2)(hK:K<=2000)(hT:T<=7000)(h:RL p q K T C V s):Turn p q K T C (lR (n+2) (.int (j:Int)) V s):=by
 cases h with
 |mk ls t v ne ht=>
  have v:=v.at_ (.int (j:Int))
  have hj2:=Nat.lt_trans hj (by decide:2<10000000000)
  have lsl:("relocation ":Str).length<=11:=by decide +kernel
  have k3:=Nat.le_of_eq Ja1
  unfold lR
  rw[v.lines,Jad,if_pos (Jch t.ll)]
  refine run (Je6 hj2) (run (addS lsl (Jep hj2) (by decide)) (run (addS (appL lsl (Jep hj2)) k3 (by decide)) ?_))
  exact lR2_turn t v hK hT ht (appL (appL lsl (Jep hj2)) k3)
theorem k_min2(a b:Nat):∃c:Nat,c<=a/\Jai (.builtin "min") [.int (a:Int),.int (b:Int)] s=.ok (.int (c:Int)) s:=by
 by_cases h:(b:Int)<(a:Int)
 ·exact ⟨b,by exact ar215 h,by show Out.ok (D.int (if (b:Int)<(a:Int) then (b:Int) else (a:Int))) s=_;rw[if_pos h]⟩
 ·exact ⟨a,Nat.le_refl _,by show Out.ok (D.int (if (b:Int)<(a:Int) then (b:Int) else (a:Int))) s=_;rw[if_neg h]⟩
inductive RLs(p q:Nat)(o:Out D):Prop
 |mk (ls:List Str) (s:Jaa) (e:o=.ok (.loc q) s) (h:Pen p 1000 s) (l:Ls q (ls.map .str) s) (ne:ls≠[]) (ht:tot ls<=2000)
theorem l5_ok(h:RL p q K T C V s)(hK:K<=1000)(hT:T<=2000):RLs p q (l5 V s):=by
 cases h with
 |mk ls t v ne ht=>exact ⟨ls,s,by unfold l5;rw[v.lines];rfl,t.pen.le hK,t.ll,ne,Nat.le_trans ht hT⟩
theorem rng3{d m:Nat}(hd:d<4)(hm:m<=d):Jai (.type "range") [.int (m:Int)] s=.ok (.rng 0 (m:Int) 1) s:=Jmn (Nat.le_trans hm (Nat.le_trans (Nat.le_of_lt hd) (by decide)))
theorem l4_ok{c:Nat}(h:RL p q K T (some (.int (c:Int))) V s)(hK:K<=123)(hT:T<=1230):RLs p q (l4 (n+2) V s):=by
 cases h with
 |mk ls t v ne ht=>
  unfold l4
  rw[v.pen,Jad]
  refine (t.draw (n:=n+1) (Nat.lt_of_le_of_lt hK (by decide)) (many:=3) rfl (by decide) (by decide)).go λd s hd t=>?_
  obtain ⟨m,hm,em⟩:=k_min2 (s:=s) d c
  rw[v.count,Jad]
  refine run em (run (rng3 (Nat.lt_trans hd (by decide)) hm) ?_)
  exact (turns (Nat.lt_of_le_of_lt hm hd) (by decide) (Nat.le_trans (Nat.add_le_add_right hK 1) (by decide)) (Nat.le_trans hT (by decide)) (λj V s K T hj hK hT h=>lR_turn (Nat.lt_of_lt_of_le hj (Nat.le_of_lt_succ (Nat.lt_of_le_of_lt hm hd))) hK hT h) ⟨ls,t,v,ne,ht⟩).go λV s h=>l5_ok h (Nat.le_trans (Nat.add_le_add_right hK 41) (by decide)) (Nat.le_trans (Nat.add_le_add_right hT 400) (by decide))
theorem l3_ok{c:Nat}(h:RL p q K T (some (.int (c:Int))) V s)(hK:K<=82)(hT:T<=830):RLs p q (l3 (n+2) V s):=by
 cases h with
 |mk ls t v ne ht=>
  unfold l3
  rw[v.pen,Jad]
  refine (t.draw (n:=n+1) (Nat.lt_of_le_of_lt hK (by decide)) (many:=3) rfl (by decide) (by decide)).go λd s hd t=>?_
  obtain ⟨m,hm,em⟩:=k_min2 (s:=s) d c
  rw[v.count,Jad]
  refine run em (run (rng3 (Nat.lt_trans hd (by decide)) hm) ?_)
  exact (turns (Nat.lt_of_le_of_lt hm hd) (by decide) (Nat.le_trans (Nat.add_le_add_right hK 1) (by decide)) (Nat.le_trans hT (by decide)) (λj V s K T hj hK hT h=>lY_turn (Nat.lt_of_lt_of_le hj (Nat.le_of_lt_succ (Nat.lt_of_le_of_lt hm hd))) hK hT h) ⟨ls,t,v,ne,ht⟩).go λV s h=>l4_ok h (Nat.add_le_add_right hK 41) (Nat.add_le_add_right hT 400)
theorem l2_ok(h:RL p q K T C V s)(hK:K<=41)(hT:T<=430):RLs p q (l2 (n+2) V s):=by
 cases h with
 |mk ls t v ne ht=>
  unfold l2
  rw[v.pen,Jad]
  refine (t.draw (n:=n+1) (Nat.lt_of_le_of_lt hK (by decide)) (many:=4) rfl (by decide) (by decide)).go λd s hd t=>?_
  refine run (rng3 hd (Nat.le_refl _)) ?_
  exact (turns hd (by decide) (Nat.le_trans (Nat.add_le_add_right hK 1) (by decide)) (Nat.le_trans hT (by decide)) (λj V s K T hj hK hT h=>lS_turn hK hT h) ⟨ls,t,v.count_ _,ne,ht⟩).go λV s h=>l3_ok h (Nat.add_le_add_right hK 41) (Nat.add_le_add_right hT 400)
theorem l1_ok(t:TL p q 0 ls s)(v:VN p q C V)(ne:ls≠[])(ht:tot ls<=30):RLs p q (l1 (n+2) V (.loc p) s):=by
 unfold l1
 refine (t.draw (n:=n+1) (by decide) (many:=3) rfl (by decide) (by decide)).go λd s hd t=>?_
 refine run (rng3 (Nat.lt_trans hd (by decide)) (Nat.le_refl _)) ?_
 exact (turns hd (by decide) (by decide) (by decide) (λj V s K T hj hK hT h=>lM_turn (Nat.lt_of_lt_of_le hj (Nat.le_of_lt_succ hd)) hK hT h) ⟨ls,t,v,ne,ht⟩).go λV s h=>l2_ok h (by decide) (by decide)
theorem Jkt(h:Pen p 0 s):s.length≠p/\RLs p s.length (cfn G (n+3) 298 [.loc p] s):=by
 have hqp:s.length≠p:=Nat.ne_of_gt h.lt
 have hl0:Ls s.length ([("ringgate object 1":Str)].map .str) (s++[M.list [.str "ringgate object 1"]]):=by
  unfold Ls;rw[List.getElem?_append_right (Nat.le_refl _),Nat.sub_self];rfl
 refine ⟨hqp,?_⟩
 rw[w298,bok]
 exact l1_ok (C:=none) ⟨h.app _,hqp,hl0⟩ ⟨(Jab (by decide)).trans (Jao _ _ _),Jao _ _ _,rfl⟩ (List.cons_ne_nil _ _) (by decide +kernel)
end
end
section
open PySem.NumText
theorem Jlq(r:Except (Str×Nat) Got):∃xs,resD r=.tup xs/\Jem 6 (.tup xs)=true:=by
 cases r with
 |error e=>exact ⟨_,rfl,rfl⟩
 |ok g=>
  refine ⟨_,rfl,?_⟩
  have h1:∀l:List Row,(l.map rowT).all (Jem 4)=true:=λl=>by
   rw[List.all_eq_true];intro d hd;obtain ⟨r,_,rfl⟩:=List.mem_map.mp hd;rfl
  have h2:∀l:List Sy,(l.map symD).all (Jem 4)=true:=λl=>by
   rw[List.all_eq_true];intro d hd;obtain ⟨r,_,rfl⟩:=List.mem_map.mp hd;rfl
  have h3:∀l:List Re,(l.map relD).all (Jem 4)=true:=λl=>by
   rw[List.all_eq_true];intro d hd;obtain ⟨r,_,rfl⟩:=List.mem_map.mp hd;rfl
  show ((g.1.map rowT).all (Jem 4)&&(true&&((g.2.2.1.map symD).all (Jem 4)&&((g.2.2.2.map relD).all (Jem 4)&&true))))=true
  rw[h1,h2,h3];rfl
section
variable{n p K:Nat}{s:Jaa}{d:D}{ls:List Str}
theorem Jry(r:Except (Str×Nat) Got):eqv s (resD r) (resD r)=some true:=by
 obtain ⟨xs,e,hc⟩:=Jlq r
 rw[e]
 classical
 show (if xs=xs/\Jem 6 (.tup xs)=true then some true else none)=some true
 exact if_pos ⟨rfl,hc⟩
theorem ne_res(r:Except (Str×Nat) Got):Jag .NotEq (resD r) (resD r) s=.ok (.bool false) s:=by
 have e:Jag .NotEq (resD r) (resD r) s=Out.of ((eqv s (resD r) (resD r)).map λc=>D.bool !c) s:=by
  obtain ⟨xs,e,_⟩:=Jlq r
  rw[e];rfl
 rw[e,Jry];rfl
theorem eq_res(r:Except (Str×Nat) Got):Jag .Eq (resD r) (resD r) s=.ok (.bool true) s:=by
 have e:Jag .Eq (resD r) (resD r) s=Out.of ((eqv s (resD r) (resD r)).map λc=>D.bool c) s:=by
  obtain ⟨xs,e,_⟩:=Jlq r
  rw[e];rfl
 rw[e,Jry];rfl
theorem bd_of{t:Str}(h:t.length<=30000):Bd (Txt.split t "\n"):=by
 have hline:1000000<=line:=by decide
 have e:=Jdu t "\n" Je3
 have h1:=Ja9 (Txt.split t "\n")
 exact ⟨by exact ar387 h hline e h1,by exact ar405 h hline e h1,λl hl=>by have:=Jc5 hl;exact ar398 h hline e this⟩
theorem both{t:Str}(h:t.length<=30000):∃τ τ',cfn G (n+5) 377 [.str t] s=.ok (resD (readO (Txt.split t "\n"))) (s++τ)/\cfn G (n+5) 370 [.str t] (s++τ)=.ok (resD (readO (Txt.split t "\n"))) (s++τ++τ'):=by
 have hline:1000000<=line:=by decide
 obtain ⟨τ,e1⟩:=Jq1 (n:=n) (σ:=s) (bd_of h) rfl (by exact ar227 h hline)
 obtain ⟨τ',e2⟩:=law_read (n:=n+1) (σ:=s++τ) (bd_of h) rfl (by exact ar228 h hline)
 exact ⟨τ,τ',e1,e2⟩
theorem LsD.last(h:LsD p d ls s)(hl:ls.length<=line)(hne:ls≠[]):∃x,x∈ls/\Ok.item d (.int (-1)) s=.ok (.str x) s:=by
 have e:Ok.item d (.int (-1)) s=Out.of ((Jau s d).bind λds=>(seqIndex? (-1) ds.length).bind λk=>if ds.length<=line then ds[k]? else none) s:=by
  rcases h with rfl | ⟨j,hj,rfl,h⟩<;>rfl
 have hpos:=List.length_pos_iff.mpr hne
 have hk:ls.length - 1<ls.length:=by exact ar66 hpos
 refine ⟨ls[ls.length - 1],List.getElem_mem hk,?_⟩
 rw[e,h.list]
 show Out.of ((seqIndex? (-1) (ls.map D.str).length).bind λk=>if (ls.map D.str).length<=line then (ls.map D.str)[k]? else none) s=_
 rw[Jmc (by rw[List.length_map];exact hpos)]
 show Out.of (if (ls.map D.str).length<=line then (ls.map D.str)[(ls.map D.str).length - 1]? else none) s=_
 rw[if_pos (by rwa [List.length_map]),List.length_map,List.getElem?_map,List.getElem?_eq_getElem hk]
 rfl
theorem LsD.join(h:LsD p d ls s){x:Str}(hx:(ls.map (·.length)).sum+ls.length*x.length<=line):Jbu false (.str x) "join" [d] s=.ok (.str (Str.join x ls)) s:=by
 rcases h with rfl | ⟨j,hj,rfl,h⟩
 ·exact Jjq hx
 ·exact Jfl h hx
inductive LI(p K T:Nat)(V:Jac)(s:Jaa):Prop
 |mk (d:D) (ls:List Str) (pen:Pen p K s) (vp:V "pen"=some (.loc p)) (vl:V "lines"=some d) (hl:LsD p d ls s) (ne:ls≠[]) (ht:tot ls<=T)
inductive GT(p K T:Nat)(o:Out (Jac×Fl)):Prop
 |mk (V:Jac) (s:Jaa) (e:o=.ok (V,.next) s) (h:LI p K T V s)
variable{V:Jac}{T:Nat}
theorem len20(ht:tot ls<=20000):ls.length<=line:=Nat.le_trans (Ja9 ls) (Nat.le_trans ht (by decide))
theorem gT_ok(h:LsD p d ls s)(ne:ls≠[])(ht:tot ls<=20000)(c:Bool):∃b:Bool,gT (n+5) d (.bool c) s=.ok (.bool b) s:=by
 unfold gT
 cases c with
 |false=>exact ⟨false,rfl⟩
 |true=>
  obtain ⟨x,hx,ex⟩:=h.last (len20 ht) ne
  have hxl:x.length+1<=20000:=Nat.le_trans (Jc5 hx) ht
  rw[brt,Jo4,bok,ex,bok,Jji Ja1 (Nat.le_trans (Nat.le_of_succ_le hxl) (by decide)) (by kernel_rfl)]
  have hk:=Jnl x
  cases ew:Txt.split x " " with
  |nil=>exact absurd ew (Jfx _ _)
  |cons w r=>
   have hwl:(w::r).length<=line:=by rw[<-ew];exact Nat.le_trans hk (Nat.le_trans hxl (by decide))
   have i0:=Jbc (s:=s) (l:=w::r) (a:=0) hwl rfl
   rw[show (0:Int)=((0:Nat):Int) from rfl,i0,bok,Jkf,bok]
   exact ⟨_,rfl⟩
theorem g3_ok(hl:LsD p d ls s)(ht:tot ls<=20000):∃l2:List Str,l2≠[]/\tot l2<=tot ls+41/\g3 (n+5) V d s=.ok (V.set "lines" (.lst (l2.map .str)),.next) s:=by
 have c1:slice d D.none (.int (-1)) D.none s=.ok (.lst ((Ok.cut ls none (some (-1))).map .str)) s:=hl.cut (len20 ht) _ _ _ _ rfl rfl
 have ct:tot (Ok.cut ls none (some (-1)))<=tot ls:=by unfold Ok.cut;exact Nat.le_trans (Jl5 _ _) (Jl6 _ _)
 generalize Ok.cut ls none (some (-1))=cc at c1 ct
 obtain ⟨u,hu,eu⟩:=Jmm (n:=n+2) (s:=s) (p:=p) (d:=.lst (cc.map .str)) (ls:=cc) (.inl rfl) (Nat.le_trans ct (Nat.le_trans ht (by decide)))
 refine ⟨cc++[u],List.append_ne_nil_of_right_ne_nil _ (List.cons_ne_nil _ _),by rw[Jbz];exact Nat.add_le_add ct (Nat.succ_le_succ hu),?_⟩
 have hcl:cc.length+1<=line:=Nat.le_trans (Nat.succ_le_succ (Nat.le_trans (Ja9 cc) (Nat.le_trans ct ht))) (by decide)
 unfold g3
 exact (bcg (Jo4 1)).trans ((bcg c1).trans ((bcg (Jo4 1)).trans ((bcg c1).trans ((bcg eu).trans (bcg (Jer (b:=[u]) hcl))))))
theorem g2_ok(h:Pen p K s)(hK:K<1000000)(vp:V "pen"=some (.loc p))(vl:V "lines"=some d)(hl:LsD p d ls s)(ne:ls≠[])(ht:tot ls<=20000):GT p (K+1) (tot ls+41) (g2 (n+5) V d s):=by
 obtain ⟨c,s2,hc,e2,p2,f2⟩:=drawI (n:=n+4) h hK (m:=3) (many:=3) rfl (by decide) (by decide)
 have hl2:=hl.fr f2
 obtain ⟨b,eb⟩:=gT_ok (n:=n) hl2 ne ht (decide ((0:Int)<(c:Int)))
 unfold g2
 refine run (a:=D.bool b) (s:=s2) (by rw[vp,Jad];exact (bcg e2).trans ((bcg (c_gt _ _)).trans eb)) ?_
 cases b with
 |false=>exact ⟨V,s2,rfl,d,ls,p2,vp,vl,hl2,ne,Nat.le_add_right _ _⟩
 |true=>
  obtain ⟨l2,n2,t2,e3⟩:=g3_ok (n:=n) (V:=V) hl2 ht
  exact ⟨_,s2,e3,_,l2,p2,(Jab (by decide)).trans vp,Jao _ _ _,.inl rfl,n2,t2⟩
theorem b3{a b c:Nat}(h1:a<=b+41)(h2:b<=2*c+200)(h3:c<=T)(h4:2100<=T):a<=3*T:=by omega
theorem g1_ok(h:LI p K T V s)(hK:K+10<1000000)(hT:T<=6300)(hT2:2100<=T)(d8:D):GT p (K+20) (3*T) (g1 (n+5) d8 V s):=by
 cases h with
 |mk d ls pen vp vl hl ne ht=>
  obtain ⟨d1,l1,s1,e1,p1,f1,hl1,n1,t1⟩:=law_bent (n:=n+2) pen hK hl ne (Nat.le_trans ht (Nat.le_trans hT (by decide)))
  have v1:(V.set "turn" d8) "pen"=some (.loc p):=(Jab (by decide)).trans vp
  have v2:(V.set "turn" d8) "lines"=some d:=(Jab (by decide)).trans vl
  unfold g1
  rw[v1,Jad,v2,Jad]
  refine run e1 ?_
  cases g2_ok (n:=n) (V:=(V.set "turn" d8).set "lines" d1) p1 (Nat.lt_of_le_of_lt (Nat.add_le_add_left (by decide:8<=10) K) hK) ((Jab (by decide)).trans v1) (Jao _ _ _) hl1 n1 (Nat.le_trans t1 (Nat.le_trans (Nat.add_le_add_right (Nat.mul_le_mul_left 2 (Nat.le_trans ht hT)) 200) (by decide))) with
  |mk V' s' e h=>
   cases h with
   |mk d ls' pen vp vl hl ne ht'=>exact ⟨V',s',e,d,ls',pen.le (Nat.add_le_add_left (by decide:9<=20) K),vp,vl,hl,ne,b3 ht' t1 ht hT2⟩
theorem law_loop{m:Nat}(hm:m<3)(hK:K<=2000)(h:LI p K 2100 V s):GT p (K+40) 18900 (Jfg (.rng 0 (m:Int) 1) (g1 (n+5)) V s):=by
 have hm2:m<=2:=Nat.le_of_lt_succ hm
 have hl:m<=line:=Nat.le_trans hm2 (by decide)
 have key:=Jcu (d:=.rng 0 (m:Int) 1) (step:=g1 (n+5)) (ds:=(List.range m).map λi:Nat=>.int (i:Int)) (V:=V) (s:=s) (λj V s=>LI p (K+20*j) (2100*3^j) V s) (by rw[List.length_map,List.length_range];exact hl) (λ_ _ _ _=>Jc6 hl) (λj d V s hj hI=>by
  have hjl:=(List.getElem?_eq_some_iff.mp hj).1
  rw[List.length_map,List.length_range] at hjl
  have hj1:j<=1:=Nat.le_of_lt_succ (Nat.lt_of_lt_of_le hjl hm2)
  cases g1_ok (n:=n) hI (Nat.lt_of_le_of_lt (Nat.add_le_add_right (Nat.add_le_add hK (Nat.mul_le_mul_left 20 hj1)) 10) (by decide)) (Nat.mul_le_mul_left 2100 (Nat.pow_le_pow_right (by decide) hj1)) (Nat.mul_le_mul_left 2100 (Nat.pow_le_pow_right (n:=3) (by decide) (Nat.zero_le j))) d with
  |mk V' s' e r=>exact ⟨V',s',e,by rw[Nat.pow_succ,<-Nat.mul_assoc,Nat.mul_comm _ 3];exact r⟩) h
 rw[List.length_map,List.length_range] at key
 obtain ⟨V',s',e,r⟩:=key
 cases r with
 |mk d ls pen vp vl hl ne ht=>exact ⟨V',s',e,d,ls,pen.le (Nat.add_le_add_left (Nat.mul_le_mul_left 20 hm2) K),vp,vl,hl,ne,Nat.le_trans ht (Nat.mul_le_mul_left 2100 (Nat.pow_le_pow_right (n:=3) (by decide) hm2))⟩
end
end
section
open PySem.NumText
open Hd
noncomputable def tailL:List Str:=["\n","\n","\n","","\n\n"," \n"]
theorem Jnp:∀x∈tailL,x.length<=2:=by decide +kernel
theorem Jpu{t:Str}{s:Jaa}(h:t.length<=line)(k:Nat):∃u:Str,u.length<=t.length/\slice (.str t) D.none (.int (k:Int)) D.none s=.ok (.str u) s:=by
 refine ⟨⟨(Ok.cut (Cs t) none (some (k:Int))).toArray⟩,?_,Jel h⟩
 show (Ok.cut (Cs t) none (some (k:Int))).toArray.size<=_
 rw[List.size_toArray,<-Jbv,Jm6]
 exact List.length_take_le' _ _
theorem join_nl(l:List Str):(Str.join "\n" l).length<=tot l:=by
 cases l with
 |nil=>exact Nat.le_refl _
 |cons a r=>have:=Jeh "\n" Je3 a r;exact ar98 this
inductive TrueEnd(o:Out (Jac×Fl)):Prop
 |mk (V:Jac) (s:Jaa) (e:o=.ok (V,.ret (.bool true)) s)
section
variable{n p q K:Nat}{s:Jaa}{V:Jac}{t:Str}
theorem h4_ok(ht:t.length<=30000):TrueEnd (h4 (n+5) V (.str t) s):=by
 obtain ⟨τ,τ',a1,a2⟩:=both (n:=n) (s:=s) ht
 unfold h4
 exact ⟨_,_,(bcg a1).trans (bcg ((bcg a2).trans (eq_res _)))⟩
theorem h3_ok(h:Pen p K s)(hK:K<1000000)(vp:V "pen"=some (.loc p))(ht:t.length<=20000):TrueEnd (h3 (n+5) V (.str t) s):=by
 obtain ⟨k,s8,hk,e8,p8,f8⟩:=drawI (n:=n+4) h hK (m:=((t.length+1:Nat):Int)) (many:=t.length+1) rfl (Nat.succ_pos _) (Nat.lt_of_le_of_lt (Nat.succ_le_succ ht) (by decide))
 have tl:t.length<=line:=Nat.le_trans ht (by decide)
 obtain ⟨w,hw,e9⟩:=Jpu (t:=t) (s:=s8) tl k
 have el:Jae .Add (.int (t.length:Int)) (.int 1) s=.ok (.int ((t.length+1:Nat):Int)) s:=Jcq _ _
 unfold h3
 rw[vp,Jad]
 exact run (Jd7 tl) (run el (run e8 (run e9 (h4_ok (Nat.le_trans hw (Nat.le_trans ht (by decide)))))))
theorem h2_ok(h:Pen p K s)(hK:K<1000000)(vp:V "pen"=some (.loc p))(ht:t.length<=20000):TrueEnd (h2 (n+5) V (.str t) s):=by
 obtain ⟨τ,τ',a1,a2⟩:=both (n:=n) (s:=s) (Nat.le_trans ht (by decide))
 unfold h2
 exact run a1 (run ((bcg a2).trans (ne_res _)) (h3_ok ((h.app τ).app τ') hK ((Jab (by decide)).trans vp) ht))
theorem h1_ok(hK:K<900000)(h:LI p K 18900 V s):TrueEnd (h1 (n+5) V s):=by
 cases h with
 |mk d ls pen vp vl hl ne ht=>
  have hjl:=join_nl ls
  have ej:=hl.join (x:="\n") (by rw[Je3,Nat.mul_one,Jg7];exact Nat.le_trans ht (by decide))
  obtain ⟨y,s6,hy,e6,p6,f6⟩:=pickS (n:=n+3) pen (Nat.lt_trans hK (by decide)) (l:=tailL) (by decide) (by decide)
  have hb:=Nat.add_le_add (Nat.le_trans hjl ht) (Jnp y hy)
  unfold h1
  rw[vl,Jad]
  refine run ej ?_
  rw[vp,Jad]
  exact run e6 (run (Jbm (Nat.le_trans hb (by decide))) (h2_ok p6 (Nat.lt_of_lt_of_le (Nat.succ_lt_succ hK) (by decide)) vp (by rw[Jav];exact Nat.le_trans hb (by decide))))
theorem h0_ok(h:LI p K 2100 V s)(hK:K<=1000):TrueEnd (h0 (n+5) V (.loc p) s):=by
 cases h with
 |mk d ls pen vp vl hl ne ht=>
  obtain ⟨c,s4,hc,e4,p4,f4⟩:=drawI (n:=n+4) pen (Nat.lt_of_le_of_lt hK (by decide)) (m:=3) (many:=3) rfl (by decide) (by decide)
  unfold h0
  refine run e4 (run (rng3 (Nat.lt_trans hc (by decide)) (Nat.le_refl _)) ?_)
  cases law_loop (n:=n) hc (Nat.le_trans (Nat.succ_le_succ hK) (by decide)) ⟨d,ls,p4,vp,vl,hl.fr f4,ne,ht⟩ with
  |mk V' s' e r=>exact run e (h1_ok (Nat.lt_of_le_of_lt (Nat.add_le_add_right (Nat.succ_le_succ hK) 40) (by decide)) r)
theorem hS_ok{ls:List Str}(pen:Pen p 1000 s)(vp:V "pen"=some (.loc p))(vl:V "lines"=some (.loc q))(hq:q≠p)(hl:Ls q (ls.map .str) s)(ht:tot ls<=2000):TrueEnd (hS (n+5) V (.loc p) (.loc q) s):=by
 obtain ⟨u,hu,e3⟩:=Jmm (n:=n+2) (.inr ⟨q,hq,rfl,hl⟩:LsD p (.loc q) ls s) (Nat.le_trans ht (by decide))
 unfold hS
 rw[if_pos (Jch hl)]
 refine run e3 (run (Jnk hq hl (Nat.le_trans (Ja9 ls) (Nat.le_trans ht (by decide))) u) ?_)
 exact h0_ok ⟨.loc q,ls++[u],pen.off hq _,vp,vl,.inr ⟨q,hq,rfl,Jhd hl⟩,List.append_ne_nil_of_right_ne_nil _ (List.cons_ne_nil _ _),by rw[Jbz];exact Nat.le_trans (Nat.add_le_add ht (Nat.succ_le_succ hu)) (by decide)⟩ (Nat.le_refl _)
end
theorem law_true(n:Nat)(is:List Int)(hl:is.length<=63):∃vars σ,evSs G (cfn G (n+5)) (fnn 42).2.2 (fnn 42).2.1.names (Jbg ["script"] [.lst (is.map .int)]) []=.ok (vars,.ret (.bool true)) σ:=by
 rw[wlaw]
 obtain ⟨x,e1⟩:=new_pen (n:=n+4) (s:=[]) hl
 have p1:Pen 0 0 [M.list [.int x,.int 0]]:=⟨x,0,rfl,Nat.le_refl _⟩
 obtain ⟨hq,r⟩:=Jkt (n:=n+2) p1
 cases r with
 |mk ls s2 e2 p2 l2 n2 t2=>
  cases hS_ok (n:=n) (V:=((V0.set "script" (.lst (is.map .int))).set "pen" (.loc 0)).set "lines" (.loc 1)) p2 ((Jab (by decide)).trans (Jao _ _ _)) (Jao _ _ _) hq l2 t2 with
  |mk V s e=>exact ⟨V,s,(bcg e1).trans ((bcg e2).trans e)⟩
end
end Ok
theorem PySem.Challenge.cw_ok0159_01_holds : PySem.Challenge.rw_ok0159_01.Holds :=
 Ok.law_holds λis h=>Ok.law_true 14 is h
