import PyProof.Rows.All
import Wide.All
import OpenK.AllK
import Wide.FinOn
import PySem.Challenge.RW_nn0379_01
set_option Elab.async false
set_option genSizeOf false
set_option genInjectivity false
set_option genCtorIdx false
set_option maxRecDepth 100000
set_option maxHeartbeats 0
set_option linter.all false
open PySem PySem.W PyProof.Rows PySem.SeqAt
namespace Mine
namespace H
noncomputable section
noncomputable abbrev s(x:String):Str:=Str.ofString x
noncomputable abbrev S(x:String)(t:Nat):Value:= .str (Str.ofString x) t
noncomputable abbrev J(i:Int)(t:Nat):Value:= .int i t
noncomputable abbrev r(n:Nat):Value:= .ref n
noncomputable abbrev B(x:String):Value:= .builtin x
noncomputable abbrev Y(x:String):Value:= .type x
noncomputable abbrev V:Value:= .none
noncomputable abbrev T:Value:= .bool true
noncomputable abbrev F:Value:= .bool false
noncomputable abbrev N{α:Type}:Option α:=none
noncomputable def e(P:Params)(x:String)(t:Nat)(v:Value):DictEntry:=⟨PyData.keyHash P (Str.ofString x), .str (Str.ofString x) t,v⟩
noncomputable def tup(xs:Array Value):Obj:={cls:= .type "tuple",data:= .seq xs}
noncomputable def fl(t:String)(xs:Array Value):Obj:={cls:= .type t,data:= .fields xs}
noncomputable abbrev pw:Program:=PySem.Challenge.pw_nn0379_01
noncomputable def nth:List Stmt→Nat→Stmt
 | [],_=> .Pass default
 |x::_,0=>x
 |_::r,n+1=>nth r n
noncomputable def st(i:Nat):Stmt:=nth pw.main.body i
noncomputable def sti(i j:Nat):Stmt:=match st i with
 | .ClassDef _ _ _ b _ _ _ _ _ _ _=>nth b j
 |x=>x
noncomputable def fn(st:Stmt)(cls:Value)(qual:Str)(globals:Addr)(closure:List (Str×Addr))(dv kv doc pm:Value)(ann:Option Addr)(code ct:Value)(bl:Addr)(dict:Option Addr)(slots:Array (Option Value)):Obj:=
 match st with
 | .FunctionDef name params body _ _ _ scope _ _ _=>⟨cls,dict, .func {name,qualname:=qual,params,body:= .stmts body,scope,globals,closure,defaults:=dv,kwdefaults:=kv,doc,pyModule:=pm,annotations:=ann,code,closureTuple:=ct,builtins:=bl},slots⟩
 |_=>default
noncomputable def cd(n m:String)(t:Nat)(a b c:Int)(x:Nat)(y:Value)(z:Nat)(u v w:Value)(k:Nat):Obj:=fl "code" #[S n t,S m (t+1),S "/claim/cut.py" (t+2),J a 0,J b 0,J 0 0,J 0 0,J c 0,r x,y,J 181 0,r z,V,u,v,w,J k 0,J a 0,S "/claim/cut.py" (k+1)]
noncomputable def ss:Nat→List String→List Value
 |_,[]=> []
 |t,x::l=>S x t::ss (t+1) l
noncomputable def u:Obj:=tup #[]
noncomputable def ts(t:Nat)(l:List String):Obj:=tup ⟨ss t l⟩
noncomputable def m:Obj:= .mk V N (.fields #[]) #[]
noncomputable def tv:List Nat→List Value
 |a::b::c::l=>J a 0::J b 0::r c::tv l
 |_=> []
noncomputable def tl(l:List Nat):Obj:= .mk V N (.fields ⟨tv l⟩) #[]
noncomputable def dc(l:Array DictEntry)(n:Nat):Obj:= .mk (Y "dict") N (.dict l n) #[]
noncomputable def f0(x:Stmt)(n:String):Obj:=fn x V (s n) 0 [] V V V V N V V 0 N #[]
noncomputable def f1(x:Stmt)(n:String)(d:Value)(p:String)(t k:Nat):Obj:=fn x (Y "function") (s n) 3 [] d V V (S p t) N (r k) V 0 N #[]
noncomputable def o13:Obj:=cd "<module>" "<module>" 182 1 0 0 11 F 12 V V V 185
noncomputable def o14:Obj:=Obj.mk (Y "frame") N Data.plain #[some (r 13),some (r 3),some (r 3),N,some (S "__main__" 164),N,some (r 0)]
noncomputable def ob(P:Params)(e:String→Nat→Value→DictEntry):List Obj:=[boot_o_0 P,
 boot_o_1 P,
 Obj.mk V N (Data.dict #[e "type.__subclasses__.Exception.0" 322 (J 82 0),e "type.__subclasses__.Exception.n" 323 (J 1 0)] 2) #[],
 dc #[e "__name__" 165 (S "law_nn0379_01" 904),e "__doc__" 166 V,e "__package__" 167 V,e "__loader__" 168 (B "__main__.__loader__#opaque"),e "__spec__" 169 V,e "__annotations__" 170 (r 6),e "__builtins__" 171 (r 4),e "__file__" 173 (S "/claim/cut.py" 172),e "__cached__" 174 V,e "_wall" 193 (r 21),e "SMALL" 197 (S "abcdefghijklmnopqrstuvwxyz" 196),e "LETTERS" 200 (S "abcdefghijklmnopqrstuvwxyzABCDEFGHIJKLMNOPQRSTUVWXYZ" 199),e "FIGURES" 202 (S "0123456789" 201),e "NAME_SIGNS" 206 (S "abcdefghijklmnopqrstuvwxyzABCDEFGHIJKLMNOPQRSTUVWXYZ_0123456789" 205),e "HEX_SIGNS" 209 (S "0123456789abcdefABCDEF" 208),e "OCTAL_SIGNS" 211 (S "01234567" 210),e "MOST_FIGURES" 213 (J 4000 212),e "PLAIN_ESCAPES" 235 (r 22),e "Position" 275 (r 46),e "position_of" 287 (r 57),e "ToolError" 325 (r 82),e "ActionError" 341 (r 95),e "Cursor" 501 (r 222),e "hex_escape" 509 (r 233),e "escaped_sign" 518 (r 240),e "escaped" 524 (r 245),e "WORDS" 532 (r 246),e "RESERVED" 536 (r 248),e "LEVELS" 576 (r 249),e "SIGNS_OF_TWO" 583 (r 250),e "SIGNS_OF_ONE" 585 (S "+-*/%!<>=;,(){}[]" 584),e "BLANKS" 587 (S " \t\n\x0d" 586),e "MOST_BITS" 589 (J 512 588),e "Part" 622 (r 267),e "refused" 631 (r 278),e "scan_dollar" 641 (r 285),e "scan_sign" 652 (r 292),e "scan_action" 665 (r 299),e "ActionReader" 843 (r 436),e "joined" 852 (r 447),e "parse_action" 859 (r 454),e "level_of" 866 (r 461),e "show_within" 875 (r 468),e "show_expression" 881 (r 473),e "show_block" 888 (r 480),e "show_statement" 897 (r 487),e "show_action" 903 (r 492),e "_law_signs" 911 (r 499),e "_law_sizes" 917 (r 506),e "_law_words" 923 (r 513),e "_law_draw" 932 (r 520),e "_law_leaf" 938 (r 525),e "_law_tree" 944 (r 530),e "_law_statement" 950 (r 535),e "_law_groups" 965 (r 542),e "_law_read" 973 (r 549),e "_law_bent_right" 985 (r 556),e "law" 991 (r 561)] 58,
 boot_o_4 P,
 boot_o_5 P,
 boot_o_6 P,
 boot_o_7 P,
 boot_o_8 P,
 boot_o_9 P,
 boot_o_10 P,
 u,
 tl [1,0,20,13,0,28,22,0,56,31,0,63,40,0,91,42,0,103,139,0,232,142,0,239,153,0,244,163,0,256,169,0,277,171,0,284,178,0,291,187,0,298,212,0,305,352,0,446,358,0,453,360,0,460,368,0,467,371,0,472,394,0,479,396,0,486,410,0,491,413,0,498,415,0,505,417,0,512,419,0,519,425,0,524,434,0,529,452,0,534,467,0,541,484,0,548,489,0,555,496,0,560],
 o13,
 o14,
 u,
 m,
 tup #[S "k" 190],
 u,
 f0 (st 0) "_wall",
 cd "_wall" "_wall" 187 1 1 3 15 T 16 (r 17) (r 18) (r 19) 191,
 f1 (st 0) "_wall" V "__main__" 164 20,
 dc #[e "n" 214 (J 10 215),e "t" 216 (J 9 217),e "r" 218 (J 13 219),e "f" 220 (J 12 221),e "v" 222 (J 11 223),e "a" 224 (J 7 225),e "b" 226 (J 8 227)] 7,
 u,
 fl "builtin_function_or_method" #[B "type.__prepare__",Y "type"],
 dc #[e "__module__" 243 (S "grammarmill.source" 194),e "__qualname__" 245 (S "Position" 244),e "__firstlineno__" 247 (J 13 246),e "__init__" 257 (r 36),e "told" 264 (r 43),e "__static_attributes__" 268 (r 44)] 6,
 u,
 tl [15,4,35,20,4,42],
 cd "Position" "Position" 238 13 0 0 26 F 27 V V V 241,
 Obj.mk (Y "frame") N Data.plain #[some (r 28),some (r 3),some (r 25),N,some (S "grammarmill.source" 194),N,some (r 0)],
 u,
 m,
 ts 251 ["self","offset","line","column"],
 u,
 f0 (sti 10 0) "Position.__init__",
 cd "__init__" "Position.__init__" 248 15 4 3 30 T 31 (r 32) (r 33) (r 34) 255,
 f1 (sti 10 0) "Position.__init__" V "grammarmill.source" 194 35,
 u,
 m,
 tup #[S "self" 261],
 u,
 f0 (sti 10 1) "Position.told",
 cd "told" "Position.told" 258 20 1 3 37 T 38 (r 39) (r 40) (r 41) 262,
 f1 (sti 10 1) "Position.told" V "grammarmill.source" 194 42,
 ts 265 ["column","line","offset"],
 dc #[e "__module__" 243 (S "grammarmill.source" 194),e "__firstlineno__" 247 (J 13 246),e "__init__" 257 (r 36),e "told" 264 (r 43),e "__static_attributes__" 268 (r 44),e "__dict__" 270 (r 47),e "__weakref__" 272 (r 48),e "__doc__" 273 V] 4,
 Obj.mk (Y "type") N (Data.cls (ClassData.mk (s "Position") [Y "object"] [r 46,Y "object"] 45 (s "Position") true [] [] false N false)) #[N,N,some (S "Position" 236),some (S "Position" 244),some (B "object.__new__"),some T],
 fl "getset_descriptor" #[S "__dict__" 269,r 46,B "function.__dict__",B "function.__dict__#set"],
 fl "getset_descriptor" #[S "__weakref__" 271,r 46,B "ExceptionGroup.__weakref__",V],
 fl "super" #[r 46,r 46,r 46],
 fl "builtin_function_or_method" #[B "object.__init_subclass__",r 46],
 u,
 m,
 ts 279 ["text","offset","at","line","begun","here"],
 u,
 f0 (st 11) "position_of",
 cd "position_of" "position_of" 276 22 2 3 51 T 52 (r 53) (r 54) (r 55) 285,
 f1 (st 11) "position_of" V "grammarmill.source" 194 56,
 tup #[Y "Exception"],
 fl "builtin_function_or_method" #[B "type.__prepare__",Y "type"],
 dc #[e "__module__" 295 (S "grammarmill.source" 194),e "__qualname__" 297 (S "ToolError" 296),e "__firstlineno__" 299 (J 31 298),e "__init__" 308 (r 72),e "told" 315 (r 79),e "__static_attributes__" 318 (r 80)] 6,
 u,
 tl [33,4,71,38,4,78],
 cd "ToolError" "ToolError" 290 31 0 0 61 F 62 V V V 293,
 Obj.mk (Y "frame") N Data.plain #[some (r 63),some (r 3),some (r 60),N,some (S "grammarmill.source" 194),N,some (r 0)],
 tup #[V],
 u,
 m,
 ts 303 ["self","what","at"],
 u,
 f0 (sti 12 0) "ToolError.__init__",
 cd "__init__" "ToolError.__init__" 300 33 3 3 66 T 67 (r 68) (r 69) (r 70) 306,
 f1 (sti 12 0) "ToolError.__init__" (r 65) "grammarmill.source" 194 71,
 u,
 m,
 tup #[S "self" 312],
 u,
 f0 (sti 12 1) "ToolError.told",
 cd "told" "ToolError.told" 309 38 1 3 73 T 74 (r 75) (r 76) (r 77) 313,
 f1 (sti 12 1) "ToolError.told" V "grammarmill.source" 194 78,
 ts 316 ["at","what"],
 dc #[e "__module__" 295 (S "grammarmill.source" 194),e "__firstlineno__" 299 (J 31 298),e "__init__" 308 (r 72),e "told" 315 (r 79),e "__static_attributes__" 318 (r 80),e "__weakref__" 320 (r 83),e "__doc__" 321 V] 3,
 Obj.mk (Y "type") N (Data.cls (ClassData.mk (s "ToolError") [Y "Exception"] [r 82,Y "Exception",Y "BaseException",Y "object"] 81 (s "ToolError") true [] [r 95] false N false)) #[some (r 58),N,some (S "ToolError" 288),some (S "ToolError" 296),some (B "Exception.__new__"),some T],
 fl "getset_descriptor" #[S "__weakref__" 319,r 82,B "ExceptionGroup.__weakref__",V],
 fl "super" #[r 82,r 82,r 82],
 fl "builtin_function_or_method" #[B "object.__init_subclass__",r 82],
 tup #[r 82],
 fl "builtin_function_or_method" #[B "type.__prepare__",Y "type"],
 dc #[e "__module__" 333 (S "grammarmill.source" 194),e "__qualname__" 335 (S "ActionError" 334),e "__firstlineno__" 337 (J 40 336),e "__static_attributes__" 338 (r 93)] 4,
 u,
 m,
 cd "ActionError" "ActionError" 328 40 0 0 89 F 90 V V V 331,
 Obj.mk (Y "frame") N Data.plain #[some (r 91),some (r 3),some (r 88),N,some (S "grammarmill.source" 194),N,some (r 0)],
 u,
 dc #[e "__module__" 333 (S "grammarmill.source" 194),e "__firstlineno__" 337 (J 40 336),e "__static_attributes__" 338 (r 93),e "__doc__" 339 V] 2,
 Obj.mk (Y "type") N (Data.cls (ClassData.mk (s "ActionError") [r 82] [r 95,r 82,Y "Exception",Y "BaseException",Y "object"] 94 (s "ActionError") true [] [] false N false)) #[some (r 86),N,some (S "ActionError" 326),some (S "ActionError" 334),some (B "Exception.__new__"),some T],
 fl "super" #[r 95,r 95,r 95],
 fl "builtin_function_or_method" #[B "object.__init_subclass__",r 95],
 u,
 fl "builtin_function_or_method" #[B "type.__prepare__",Y "type"],
 dc #[e "__module__" 349 (S "grammarmill.source" 194),e "__qualname__" 351 (S "Cursor" 350),e "__firstlineno__" 353 (J 42 352),e "__init__" 363 (r 112),e "is_done" 370 (r 119),e "peek" 380 (r 127),e "starts" 388 (r 134),e "take" 396 (r 141),e "skip" 404 (r 148),e "take_while" 413 (r 155),e "take_line" 420 (r 162),e "skip_blanks" 429 (r 170),e "name" 437 (r 177),e "number" 446 (r 184),e "position" 453 (r 191),e "position_at" 461 (r 198),e "coded" 473 (r 205),e "escape" 481 (r 212),e "quoted" 491 (r 219),e "__static_attributes__" 494 (r 220)] 20,
 u,
 tl [44,4,111,48,4,118,51,4,126,57,4,133,60,4,140,67,4,147,73,4,154,79,4,161,82,4,169,85,4,176,91,4,183,99,4,190,102,4,197,105,4,204,113,4,211,127,4,218],
 cd "Cursor" "Cursor" 344 42 0 0 101 F 102 V V V 347,
 Obj.mk (Y "frame") N Data.plain #[some (r 103),some (r 3),some (r 100),N,some (S "grammarmill.source" 194),N,some (r 0)],
 tup #[J 0 354],
 u,
 m,
 ts 358 ["self","text","at"],
 u,
 f0 (sti 14 0) "Cursor.__init__",
 cd "__init__" "Cursor.__init__" 355 44 3 3 106 T 107 (r 108) (r 109) (r 110) 361,
 f1 (sti 14 0) "Cursor.__init__" (r 105) "grammarmill.source" 194 111,
 u,
 m,
 tup #[S "self" 367],
 u,
 f0 (sti 14 1) "Cursor.is_done",
 cd "is_done" "Cursor.is_done" 364 48 1 3 113 T 114 (r 115) (r 116) (r 117) 368,
 f1 (sti 14 1) "Cursor.is_done" V "grammarmill.source" 194 118,
 tup #[J 0 371],
 u,
 m,
 ts 375 ["self","ahead","at"],
 u,
 f0 (sti 14 2) "Cursor.peek",
 cd "peek" "Cursor.peek" 372 51 2 3 121 T 122 (r 123) (r 124) (r 125) 378,
 f1 (sti 14 2) "Cursor.peek" (r 120) "grammarmill.source" 194 126,
 u,
 m,
 ts 384 ["self","word"],
 u,
 f0 (sti 14 3) "Cursor.starts",
 cd "starts" "Cursor.starts" 381 57 2 3 128 T 129 (r 130) (r 131) (r 132) 386,
 f1 (sti 14 3) "Cursor.starts" V "grammarmill.source" 194 133,
 u,
 m,
 ts 392 ["self","sign"],
 u,
 f0 (sti 14 4) "Cursor.take",
 cd "take" "Cursor.take" 389 60 1 3 135 T 136 (r 137) (r 138) (r 139) 394,
 f1 (sti 14 4) "Cursor.take" V "grammarmill.source" 194 140,
 u,
 m,
 ts 400 ["self","word"],
 u,
 f0 (sti 14 5) "Cursor.skip",
 cd "skip" "Cursor.skip" 397 67 2 3 142 T 143 (r 144) (r 145) (r 146) 402,
 f1 (sti 14 5) "Cursor.skip" V "grammarmill.source" 194 147,
 u,
 m,
 ts 408 ["self","signs","begun"],
 u,
 f0 (sti 14 6) "Cursor.take_while",
 cd "take_while" "Cursor.take_while" 405 73 2 3 149 T 150 (r 151) (r 152) (r 153) 411,
 f1 (sti 14 6) "Cursor.take_while" V "grammarmill.source" 194 154,
 u,
 m,
 tup #[S "self" 417],
 u,
 f0 (sti 14 7) "Cursor.take_line",
 cd "take_line" "Cursor.take_line" 414 79 1 3 156 T 157 (r 158) (r 159) (r 160) 418,
 f1 (sti 14 7) "Cursor.take_line" V "grammarmill.source" 194 161,
 tup #[S " \t" 421],
 u,
 m,
 ts 425 ["self","signs"],
 u,
 f0 (sti 14 8) "Cursor.skip_blanks",
 cd "skip_blanks" "Cursor.skip_blanks" 422 82 2 3 164 T 165 (r 166) (r 167) (r 168) 427,
 f1 (sti 14 8) "Cursor.skip_blanks" (r 163) "grammarmill.source" 194 169,
 u,
 m,
 ts 433 ["self","here"],
 u,
 f0 (sti 14 9) "Cursor.name",
 cd "name" "Cursor.name" 430 85 1 3 171 T 172 (r 173) (r 174) (r 175) 435,
 f1 (sti 14 9) "Cursor.name" V "grammarmill.source" 194 176,
 u,
 m,
 ts 441 ["self","begun","figures"],
 u,
 f0 (sti 14 10) "Cursor.number",
 cd "number" "Cursor.number" 438 91 1 3 178 T 179 (r 180) (r 181) (r 182) 444,
 f1 (sti 14 10) "Cursor.number" V "grammarmill.source" 194 183,
 u,
 m,
 tup #[S "self" 450],
 u,
 f0 (sti 14 11) "Cursor.position",
 cd "position" "Cursor.position" 447 99 1 3 185 T 186 (r 187) (r 188) (r 189) 451,
 f1 (sti 14 11) "Cursor.position" V "grammarmill.source" 194 190,
 u,
 m,
 ts 457 ["self","offset"],
 u,
 f0 (sti 14 12) "Cursor.position_at",
 cd "position_at" "Cursor.position_at" 454 102 2 3 192 T 193 (r 194) (r 195) (r 196) 459,
 f1 (sti 14 12) "Cursor.position_at" V "grammarmill.source" 194 197,
 u,
 m,
 ts 465 ["self","signs","most","base","code","taken"],
 u,
 f0 (sti 14 13) "Cursor.coded",
 cd "coded" "Cursor.coded" 462 105 4 3 199 T 200 (r 201) (r 202) (r 203) 471,
 f1 (sti 14 13) "Cursor.coded" V "grammarmill.source" 194 204,
 u,
 m,
 ts 477 ["self","sign"],
 u,
 f0 (sti 14 14) "Cursor.escape",
 cd "escape" "Cursor.escape" 474 113 1 3 206 T 207 (r 208) (r 209) (r 210) 479,
 f1 (sti 14 14) "Cursor.escape" V "grammarmill.source" 194 211,
 u,
 m,
 ts 485 ["self","end","signs","sign"],
 u,
 f0 (sti 14 15) "Cursor.quoted",
 cd "quoted" "Cursor.quoted" 482 127 2 3 213 T 214 (r 215) (r 216) (r 217) 489,
 f1 (sti 14 15) "Cursor.quoted" V "grammarmill.source" 194 218,
 ts 492 ["at","text"],
 dc #[e "__module__" 349 (S "grammarmill.source" 194),e "__firstlineno__" 353 (J 42 352),e "__init__" 363 (r 112),e "is_done" 370 (r 119),e "peek" 380 (r 127),e "starts" 388 (r 134),e "take" 396 (r 141),e "skip" 404 (r 148),e "take_while" 413 (r 155),e "take_line" 420 (r 162),e "skip_blanks" 429 (r 170),e "name" 437 (r 177),e "number" 446 (r 184),e "position" 453 (r 191),e "position_at" 461 (r 198),e "coded" 473 (r 205),e "escape" 481 (r 212),e "quoted" 491 (r 219),e "__static_attributes__" 494 (r 220),e "__dict__" 496 (r 223),e "__weakref__" 498 (r 224),e "__doc__" 499 V] 4,
 Obj.mk (Y "type") N (Data.cls (ClassData.mk (s "Cursor") [Y "object"] [r 222,Y "object"] 221 (s "Cursor") true [] [] false N false)) #[N,N,some (S "Cursor" 342),some (S "Cursor" 350),some (B "object.__new__"),some T],
 fl "getset_descriptor" #[S "__dict__" 495,r 222,B "function.__dict__",B "function.__dict__#set"],
 fl "getset_descriptor" #[S "__weakref__" 497,r 222,B "ExceptionGroup.__weakref__",V],
 fl "super" #[r 222,r 222,r 222],
 fl "builtin_function_or_method" #[B "object.__init_subclass__",r 222],
 u,
 m,
 ts 505 ["code","figures"],
 u,
 f0 (st 15) "hex_escape",
 cd "hex_escape" "hex_escape" 502 139 1 3 227 T 228 (r 229) (r 230) (r 231) 507,
 f1 (st 15) "hex_escape" V "grammarmill.source" 194 232,
 u,
 m,
 ts 513 ["sign","marks","code"],
 u,
 f0 (st 16) "escaped_sign",
 cd "escaped_sign" "escaped_sign" 510 142 2 3 234 T 235 (r 236) (r 237) (r 238) 516,
 f1 (st 16) "escaped_sign" V "grammarmill.source" 194 239,
 u,
 m,
 f0 (st 17) "escaped",
 cd "escaped" "escaped" 519 153 2 3 241 T 242 V V (r 243) 522,
 f1 (st 17) "escaped" V "grammarmill.source" 194 244,
 ts 527 ["yyerrok","yyclearin","YYERROR","YYABORT","YYACCEPT"],
 ts 533 ["if","else","while"],
 tup #[S "if" 533,S "else" 534,S "while" 535,S "yyerrok" 527,S "yyclearin" 528,S "YYERROR" 529,S "YYABORT" 530,S "YYACCEPT" 531],
 dc #[e "||" 537 (J 1 538),e "&&" 539 (J 2 540),e "==" 541 (J 3 542),e "!=" 543 (J 3 544),e "<" 545 (J 3 546),e "<=" 547 (J 3 548),e ">" 549 (J 3 550),e ">=" 551 (J 3 552),e "+" 553 (J 4 554),e "-" 555 (J 4 556),e "*" 557 (J 5 558),e "/" 559 (J 5 560),e "%" 561 (J 5 562)] 13,
 ts 577 ["||","&&","==","!=","<=",">="],
 u,
 fl "builtin_function_or_method" #[B "type.__prepare__",Y "type"],
 dc #[e "__module__" 597 (S "grammarmill.actions" 525),e "__qualname__" 599 (S "Part" 598),e "__firstlineno__" 601 (J 163 600),e "__init__" 611 (r 264),e "__static_attributes__" 615 (r 265)] 5,
 u,
 tl [165,4,263],
 cd "Part" "Part" 592 163 0 0 254 F 255 V V V 595,
 Obj.mk (Y "frame") N Data.plain #[some (r 256),some (r 3),some (r 253),N,some (S "grammarmill.actions" 525),N,some (r 0)],
 u,
 m,
 ts 605 ["self","kind","worth","offset"],
 u,
 f0 (sti 26 0) "Part.__init__",
 cd "__init__" "Part.__init__" 602 165 4 3 258 T 259 (r 260) (r 261) (r 262) 609,
 f1 (sti 26 0) "Part.__init__" V "grammarmill.actions" 525 263,
 ts 612 ["kind","offset","worth"],
 dc #[e "__module__" 597 (S "grammarmill.actions" 525),e "__firstlineno__" 601 (J 163 600),e "__init__" 611 (r 264),e "__static_attributes__" 615 (r 265),e "__dict__" 617 (r 268),e "__weakref__" 619 (r 269),e "__doc__" 620 V] 4,
 Obj.mk (Y "type") N (Data.cls (ClassData.mk (s "Part") [Y "object"] [r 267,Y "object"] 266 (s "Part") true [] [] false N false)) #[N,N,some (S "Part" 590),some (S "Part" 598),some (B "object.__new__"),some T],
 fl "getset_descriptor" #[S "__dict__" 616,r 267,B "function.__dict__",B "function.__dict__#set"],
 fl "getset_descriptor" #[S "__weakref__" 618,r 267,B "ExceptionGroup.__weakref__",V],
 fl "super" #[r 267,r 267,r 267],
 fl "builtin_function_or_method" #[B "object.__init_subclass__",r 267],
 u,
 m,
 ts 626 ["what","text","offset"],
 u,
 f0 (st 27) "refused",
 cd "refused" "refused" 623 169 3 3 272 T 273 (r 274) (r 275) (r 276) 629,
 f1 (st 27) "refused" V "grammarmill.actions" 525 277,
 u,
 m,
 ts 635 ["text","cursor","start","number"],
 u,
 f0 (st 28) "scan_dollar",
 cd "scan_dollar" "scan_dollar" 632 171 3 3 279 T 280 (r 281) (r 282) (r 283) 639,
 f1 (st 28) "scan_dollar" V "grammarmill.actions" 525 284,
 u,
 m,
 ts 645 ["text","cursor","start","word","sign"],
 u,
 f0 (st 29) "scan_sign",
 cd "scan_sign" "scan_sign" 642 178 3 3 286 T 287 (r 288) (r 289) (r 290) 650,
 f1 (st 29) "scan_sign" V "grammarmill.actions" 525 291,
 u,
 m,
 ts 656 ["text","cursor","parts","start","name","number","found"],
 u,
 f0 (st 30) "scan_action",
 cd "scan_action" "scan_action" 653 187 1 3 293 T 294 (r 295) (r 296) (r 297) 663,
 f1 (st 30) "scan_action" V "grammarmill.actions" 525 298,
 u,
 fl "builtin_function_or_method" #[B "type.__prepare__",Y "type"],
 dc #[e "__module__" 673 (S "grammarmill.actions" 525),e "__qualname__" 675 (S "ActionReader" 674),e "__firstlineno__" 677 (J 212 676),e "__init__" 685 (r 313),e "here" 692 (r 320),e "refuse" 700 (r 327),e "is_sign" 711 (r 335),e "skip" 719 (r 342),e "need" 727 (r 349),e "take" 735 (r 356),e "whole" 743 (r 363),e "is_closed" 750 (r 370),e "statements" 758 (r 377),e "block" 766 (r 384),e "condition" 774 (r 391),e "choice" 784 (r 398),e "statement" 793 (r 405),e "expression" 806 (r 412),e "unary" 814 (r 419),e "atom" 823 (r 426),e "items" 832 (r 433),e "__static_attributes__" 836 (r 434)] 22,
 u,
 tl [214,4,312,219,4,319,222,4,326,225,4,334,229,4,341,235,4,348,239,4,355,244,4,362,250,4,369,253,4,376,261,4,383,267,4,390,273,4,397,280,4,404,302,4,411,316,4,418,322,4,425,343,4,432],
 cd "ActionReader" "ActionReader" 668 212 0 0 303 F 304 V V V 671,
 Obj.mk (Y "frame") N Data.plain #[some (r 305),some (r 3),some (r 302),N,some (S "grammarmill.actions" 525),N,some (r 0)],
 u,
 m,
 ts 681 ["self","text"],
 u,
 f0 (sti 31 0) "ActionReader.__init__",
 cd "__init__" "ActionReader.__init__" 678 214 2 3 307 T 308 (r 309) (r 310) (r 311) 683,
 f1 (sti 31 0) "ActionReader.__init__" V "grammarmill.actions" 525 312,
 u,
 m,
 tup #[S "self" 689],
 u,
 f0 (sti 31 1) "ActionReader.here",
 cd "here" "ActionReader.here" 686 219 1 3 314 T 315 (r 316) (r 317) (r 318) 690,
 f1 (sti 31 1) "ActionReader.here" V "grammarmill.actions" 525 319,
 u,
 m,
 ts 696 ["self","what"],
 u,
 f0 (sti 31 2) "ActionReader.refuse",
 cd "refuse" "ActionReader.refuse" 693 222 2 3 321 T 322 (r 323) (r 324) (r 325) 698,
 f1 (sti 31 2) "ActionReader.refuse" V "grammarmill.actions" 525 326,
 tup #[J 0 701],
 u,
 m,
 ts 705 ["self","sign","ahead","at"],
 u,
 f0 (sti 31 3) "ActionReader.is_sign",
 cd "is_sign" "ActionReader.is_sign" 702 225 3 3 329 T 330 (r 331) (r 332) (r 333) 709,
 f1 (sti 31 3) "ActionReader.is_sign" (r 328) "grammarmill.actions" 525 334,
 u,
 m,
 ts 715 ["self","sign"],
 u,
 f0 (sti 31 4) "ActionReader.skip",
 cd "skip" "ActionReader.skip" 712 229 2 3 336 T 337 (r 338) (r 339) (r 340) 717,
 f1 (sti 31 4) "ActionReader.skip" V "grammarmill.actions" 525 341,
 u,
 m,
 ts 723 ["self","sign"],
 u,
 f0 (sti 31 5) "ActionReader.need",
 cd "need" "ActionReader.need" 720 235 2 3 343 T 344 (r 345) (r 346) (r 347) 725,
 f1 (sti 31 5) "ActionReader.need" V "grammarmill.actions" 525 348,
 u,
 m,
 ts 731 ["self","part"],
 u,
 f0 (sti 31 6) "ActionReader.take",
 cd "take" "ActionReader.take" 728 239 1 3 350 T 351 (r 352) (r 353) (r 354) 733,
 f1 (sti 31 6) "ActionReader.take" V "grammarmill.actions" 525 355,
 u,
 m,
 ts 739 ["self","found"],
 u,
 f0 (sti 31 7) "ActionReader.whole",
 cd "whole" "ActionReader.whole" 736 244 1 3 357 T 358 (r 359) (r 360) (r 361) 741,
 f1 (sti 31 7) "ActionReader.whole" V "grammarmill.actions" 525 362,
 u,
 m,
 tup #[S "self" 747],
 u,
 f0 (sti 31 8) "ActionReader.is_closed",
 cd "is_closed" "ActionReader.is_closed" 744 250 1 3 364 T 365 (r 366) (r 367) (r 368) 748,
 f1 (sti 31 8) "ActionReader.is_closed" V "grammarmill.actions" 525 369,
 u,
 m,
 ts 754 ["self","found"],
 u,
 f0 (sti 31 9) "ActionReader.statements",
 cd "statements" "ActionReader.statements" 751 253 1 3 371 T 372 (r 373) (r 374) (r 375) 756,
 f1 (sti 31 9) "ActionReader.statements" V "grammarmill.actions" 525 376,
 u,
 m,
 ts 762 ["self","found"],
 u,
 f0 (sti 31 10) "ActionReader.block",
 cd "block" "ActionReader.block" 759 261 1 3 378 T 379 (r 380) (r 381) (r 382) 764,
 f1 (sti 31 10) "ActionReader.block" V "grammarmill.actions" 525 383,
 u,
 m,
 ts 770 ["self","found"],
 u,
 f0 (sti 31 11) "ActionReader.condition",
 cd "condition" "ActionReader.condition" 767 267 1 3 385 T 386 (r 387) (r 388) (r 389) 772,
 f1 (sti 31 11) "ActionReader.condition" V "grammarmill.actions" 525 390,
 u,
 m,
 ts 778 ["self","test","yes","no"],
 u,
 f0 (sti 31 12) "ActionReader.choice",
 cd "choice" "ActionReader.choice" 775 273 1 3 392 T 393 (r 394) (r 395) (r 396) 782,
 f1 (sti 31 12) "ActionReader.choice" V "grammarmill.actions" 525 397,
 u,
 m,
 ts 788 ["self","part","test"],
 u,
 f0 (sti 31 13) "ActionReader.statement",
 cd "statement" "ActionReader.statement" 785 280 1 3 399 T 400 (r 401) (r 402) (r 403) 791,
 f1 (sti 31 13) "ActionReader.statement" V "grammarmill.actions" 525 404,
 u,
 m,
 ts 797 ["self","least","left","is_compared","sign","level","right"],
 u,
 f0 (sti 31 14) "ActionReader.expression",
 cd "expression" "ActionReader.expression" 794 302 2 3 406 T 407 (r 408) (r 409) (r 410) 804,
 f1 (sti 31 14) "ActionReader.expression" V "grammarmill.actions" 525 411,
 u,
 m,
 ts 810 ["self","sign"],
 u,
 f0 (sti 31 15) "ActionReader.unary",
 cd "unary" "ActionReader.unary" 807 316 1 3 413 T 414 (r 415) (r 416) (r 417) 812,
 f1 (sti 31 15) "ActionReader.unary" V "grammarmill.actions" 525 418,
 u,
 m,
 ts 818 ["self","part","found"],
 u,
 f0 (sti 31 16) "ActionReader.atom",
 cd "atom" "ActionReader.atom" 815 322 1 3 420 T 421 (r 422) (r 423) (r 424) 821,
 f1 (sti 31 16) "ActionReader.atom" V "grammarmill.actions" 525 425,
 u,
 m,
 ts 827 ["self","end","found"],
 u,
 f0 (sti 31 17) "ActionReader.items",
 cd "items" "ActionReader.items" 824 343 2 3 427 T 428 (r 429) (r 430) (r 431) 830,
 f1 (sti 31 17) "ActionReader.items" V "grammarmill.actions" 525 432,
 ts 833 ["parts","spot","text"],
 dc #[e "__module__" 673 (S "grammarmill.actions" 525),e "__firstlineno__" 677 (J 212 676),e "__init__" 685 (r 313),e "here" 692 (r 320),e "refuse" 700 (r 327),e "is_sign" 711 (r 335),e "skip" 719 (r 342),e "need" 727 (r 349),e "take" 735 (r 356),e "whole" 743 (r 363),e "is_closed" 750 (r 370),e "statements" 758 (r 377),e "block" 766 (r 384),e "condition" 774 (r 391),e "choice" 784 (r 398),e "statement" 793 (r 405),e "expression" 806 (r 412),e "unary" 814 (r 419),e "atom" 823 (r 426),e "items" 832 (r 433),e "__static_attributes__" 836 (r 434),e "__dict__" 838 (r 437),e "__weakref__" 840 (r 438),e "__doc__" 841 V] 4,
 Obj.mk (Y "type") N (Data.cls (ClassData.mk (s "ActionReader") [Y "object"] [r 436,Y "object"] 435 (s "ActionReader") true [] [] false N false)) #[N,N,some (S "ActionReader" 666),some (S "ActionReader" 674),some (B "object.__new__"),some T],
 fl "getset_descriptor" #[S "__dict__" 837,r 436,B "function.__dict__",B "function.__dict__#set"],
 fl "getset_descriptor" #[S "__weakref__" 839,r 436,B "ExceptionGroup.__weakref__",V],
 fl "super" #[r 436,r 436,r 436],
 fl "builtin_function_or_method" #[B "object.__init_subclass__",r 436],
 u,
 m,
 ts 847 ["sign","left","right"],
 u,
 f0 (st 32) "joined",
 cd "joined" "joined" 844 352 3 3 441 T 442 (r 443) (r 444) (r 445) 850,
 f1 (st 32) "joined" V "grammarmill.actions" 525 446,
 u,
 m,
 tup #[S "text" 856],
 u,
 f0 (st 33) "parse_action",
 cd "parse_action" "parse_action" 853 358 1 3 448 T 449 (r 450) (r 451) (r 452) 857,
 f1 (st 33) "parse_action" V "grammarmill.actions" 525 453,
 u,
 m,
 tup #[S "node" 863],
 u,
 f0 (st 34) "level_of",
 cd "level_of" "level_of" 860 360 1 3 455 T 456 (r 457) (r 458) (r 459) 864,
 f1 (st 34) "level_of" V "grammarmill.actions" 525 460,
 u,
 m,
 ts 870 ["node","least","found"],
 u,
 f0 (st 35) "show_within",
 cd "show_within" "show_within" 867 368 2 3 462 T 463 (r 464) (r 465) (r 466) 873,
 f1 (st 35) "show_within" V "grammarmill.actions" 525 467,
 u,
 m,
 f0 (st 36) "show_expression",
 cd "show_expression" "show_expression" 876 371 1 3 469 T 470 V V (r 471) 879,
 f1 (st 36) "show_expression" V "grammarmill.actions" 525 472,
 u,
 m,
 tup #[S "nodes" 885],
 u,
 f0 (st 37) "show_block",
 cd "show_block" "show_block" 882 394 1 3 474 T 475 (r 476) (r 477) (r 478) 886,
 f1 (st 37) "show_block" V "grammarmill.actions" 525 479,
 u,
 m,
 ts 892 ["node","kind","found"],
 u,
 f0 (st 38) "show_statement",
 cd "show_statement" "show_statement" 889 396 1 3 481 T 482 (r 483) (r 484) (r 485) 895,
 f1 (st 38) "show_statement" V "grammarmill.actions" 525 486,
 u,
 m,
 f0 (st 39) "show_action",
 cd "show_action" "show_action" 898 410 1 3 488 T 489 V V (r 490) 901,
 f1 (st 39) "show_action" V "grammarmill.actions" 525 491,
 u,
 m,
 u,
 u,
 f0 (st 41) "_law_signs",
 cd "_law_signs" "_law_signs" 906 413 0 3 493 T 494 (r 495) (r 496) (r 497) 909,
 f1 (st 41) "_law_signs" V "law_nn0379_01" 904 498,
 u,
 m,
 u,
 u,
 f0 (st 42) "_law_sizes",
 cd "_law_sizes" "_law_sizes" 912 415 0 3 500 T 501 (r 502) (r 503) (r 504) 915,
 f1 (st 42) "_law_sizes" V "law_nn0379_01" 904 505,
 u,
 m,
 u,
 u,
 f0 (st 43) "_law_words",
 cd "_law_words" "_law_words" 918 417 0 3 507 T 508 (r 509) (r 510) (r 511) 921,
 f1 (st 43) "_law_words" V "law_nn0379_01" 904 512,
 u,
 m,
 ts 927 ["pen","many","spot"],
 u,
 f0 (st 44) "_law_draw",
 cd "_law_draw" "_law_draw" 924 419 2 3 514 T 515 (r 516) (r 517) (r 518) 930,
 f1 (st 44) "_law_draw" V "law_nn0379_01" 904 519,
 u,
 m,
 f0 (st 45) "_law_leaf",
 cd "_law_leaf" "_law_leaf" 933 425 1 3 521 T 522 V V (r 523) 936,
 f1 (st 45) "_law_leaf" V "law_nn0379_01" 904 524,
 u,
 m,
 f0 (st 46) "_law_tree",
 cd "_law_tree" "_law_tree" 939 434 2 3 526 T 527 V V (r 528) 942,
 f1 (st 46) "_law_tree" V "law_nn0379_01" 904 529,
 u,
 m,
 f0 (st 47) "_law_statement",
 cd "_law_statement" "_law_statement" 945 452 2 3 531 T 532 V V (r 533) 948,
 f1 (st 47) "_law_statement" V "law_nn0379_01" 904 534,
 u,
 m,
 ts 954 ["page","found","open_at","is_text","at","sign","is_call","begun","is_group"],
 u,
 f0 (st 48) "_law_groups",
 cd "_law_groups" "_law_groups" 951 467 1 3 536 T 537 (r 538) (r 539) (r 540) 963,
 f1 (st 48) "_law_groups" V "law_nn0379_01" 904 541,
 u,
 m,
 ts 969 ["page","error"],
 u,
 f0 (st 49) "_law_read",
 cd "_law_read" "_law_read" 966 484 1 3 543 T 544 (r 545) (r 546) (r 547) 971,
 f1 (st 49) "_law_read" V "law_nn0379_01" 904 548,
 u,
 m,
 ts 977 ["pen","page","at","sign","bent","found"],
 u,
 f0 (st 50) "_law_bent_right",
 cd "_law_bent_right" "_law_bent_right" 974 489 2 3 550 T 551 (r 552) (r 553) (r 554) 983,
 f1 (st 50) "_law_bent_right" V "law_nn0379_01" 904 555,
 u,
 m,
 f0 (st 51) "law",
 cd "law" "law" 986 496 1 3 557 T 558 V V (r 559) 989,
 f1 (st 51) "law" V "law_nn0379_01" 904 560]
noncomputable def obs(P:Params):List Obj:=ob P (e P)
noncomputable def ob0(P:Params):List Obj:=[boot_o_0 P,boot_o_1 P,boot_o_2 P,boot_o_3 P,boot_o_4 P,boot_o_5 P,boot_o_6 P,boot_o_7 P,boot_o_8 P,boot_o_9 P,boot_o_10 P,u,m,o13,o14]
noncomputable def od:List Obj→List Obj
 | []=> []
 | [x]=> [x]
 |x::_::l=>x::od l
noncomputable def bt:Nat→List Obj→BT
 |0,_=> .nil
 |_,[]=> .nil
 |n+1,x::l=> .node x (bt n (od l)) (bt n (od l.tail))
noncomputable def heap0(P:Params):Heap:=⟨⟨ob0 P⟩,{}⟩
noncomputable def heap1(P:Params):Heap:=⟨⟨obs P⟩,{}⟩
noncomputable def tree0(P:Params):BT:=bt 5 (ob0 P)
noncomputable def tree1(P:Params):BT:=bt 11 (obs P)
noncomputable def keys:List Addr:=[2,3,15,17,18,20,21,22,30,32,33,35,36,37,39,40,42,43,44,45,46,47,48,51,53,54,56,57,58,65,66,68,69,71,72,73,75,76,78,79,80,81,82,83,86,93,94,95,105,106,108,109,111,112,113,115,116,118,119,120,121,123,124,126,127,128,130,131,133,134,135,137,138,140,141,142,144,145,147,148,149,151,152,154,155,156,158,159,161,162,163,164,166,167,169,170,171,173,174,176,177,178,180,181,183,184,185,187,188,190,191,192,194,195,197,198,199,201,202,204,205,206,208,209,211,212,213,215,216,218,219,220,221,222,223,224,227,229,230,232,233,234,236,237,239,240,241,244,245,246,248,249,250,258,260,261,263,264,265,266,267,268,269,272,274,275,277,278,279,281,282,284,285,286,288,289,291,292,293,295,296,298,299,307,309,310,312,313,314,316,317,319,320,321,323,324,326,327,328,329,331,332,334,335,336,338,339,341,342,343,345,346,348,349,350,352,353,355,356,357,359,360,362,363,364,366,367,369,370,371,373,374,376,377,378,380,381,383,384,385,387,388,390,391,392,394,395,397,398,399,401,402,404,405,406,408,409,411,412,413,415,416,418,419,420,422,423,425,426,427,429,430,432,433,434,435,436,437,438,441,443,444,446,447,448,450,451,453,454,455,457,458,460,461,462,464,465,467,468,469,472,473,474,476,477,479,480,481,483,484,486,487,488,491,492,493,495,496,498,499,500,502,503,505,506,507,509,510,512,513,514,516,517,519,520,521,524,525,526,529,530,531,534,535,536,538,539,541,542,543,545,546,548,549,550,552,553,555,556,557,560,561]
noncomputable def pick:List Addr→List Obj→Nat→Frag
 |k::l,x::r,n=>bif Nat.beq k n then(k,x)::pick l r (n+1)else pick (k::l) r (n+1)
 |_,_,_=> []
noncomputable def K(P:Params):Frag:=pick keys (obs P) 0
end
end H
namespace H
noncomputable section
noncomputable def env0:Env:={scope:=pw.main.scope,locals:=mainNs,globals:=mainNs,cells:=[],code:= .ref 13,frame:=some 14}
noncomputable def B0:List Frame:=[topFrame ⟨0,0,0,0⟩]
noncomputable def c0:Code:= .body (behindTheImports pw) env0
noncomputable abbrev SR:String:="special-get-raises"
theorem h_pre:∀w:World,(fun os=>topGo treeTable pw w 11 (some (.ref 6)) 12 ⟨boot_heap w.params,#[],boot_drawn,boot_toks,os⟩ (topStub pw))=
  fun os=>some (⟨heap0 w.params,#[],{},187,os⟩,⟨denote treeTable c0,c0,⟨0,0,0,0⟩,B0⟩):=by
 intro w
 kernel_rfl
end
end H
namespace H
noncomputable section
theorem h_block:∀w:World,(fun os=>segRunT treeTable pw w 11 (some (.ref 6)) 1 1 ⟨tree0 w.params,15,{},#[],{},187,os⟩ (blockOf (behindTheImports pw) env0 c0 ⟨0,0,0,0⟩ B0))=
  fun os=>some (.next,⟨tree0 w.params,15,{},#[],{},187,os⟩,c0,⟨0,0,0,0⟩):=by
 intro w
 kernel_rfl
theorem h_abs:∀w:World,absHeap (tree0 w.params) 15 {}=heap0 w.params:=by
 intro w
 kernel_rfl
theorem h_abs1:∀w:World,absHeap (tree1 w.params) 562 {}=heap1 w.params:=by
 intro w
 kernel_rfl
theorem h_fin:∀w:World,(fun os=>topRun treeTable pw w 11 (some (.ref 6)) 2 ⟨heap1 w.params,#[],{},992,os⟩ ⟨doneF .next,c0,⟨496,0,506,37⟩,B0⟩)=fun os=>some ⟨heap1 w.params,#[],{},992,os⟩:=by
 intro w
 kernel_rfl
end
end H
namespace H
noncomputable section
theorem h_run0:∀w:World,(fun os=>segRunT treeTable pw (w.withFollow SR false) 11 (some (.ref 6)) 1 3819 ⟨tree0 (w.withFollow SR false).params,15,{},#[],{},187,os⟩ (piecesOf pw.main.body env0 c0 ⟨0,0,0,0⟩ B0))=
  fun os=>some (.next,⟨tree1 (w.withFollow SR false).params,562,{},#[],{},992,os⟩,c0,⟨496,0,506,37⟩):=by
 rw[Fast.te10110043849684766642,Fast.te14364793385576792824]
 intro w
 kernel_rfl
end
end H
namespace H
noncomputable section
noncomputable def vw:Program:={pw with main:={pw.main with body:=[st 51]}}
noncomputable def loose:List Str:=[s "_wall",s "SMALL",s "LETTERS",s "FIGURES",s "NAME_SIGNS",s "HEX_SIGNS",s "OCTAL_SIGNS",s "MOST_FIGURES",s "PLAIN_ESCAPES",s "Position",s "position_of",s "ToolError",s "ActionError",s "Cursor",s "hex_escape",s "escaped_sign",s "escaped",s "WORDS",s "RESERVED",s "LEVELS",s "SIGNS_OF_TWO",s "SIGNS_OF_ONE",s "BLANKS",s "MOST_BITS",s "Part",s "refused",s "scan_dollar",s "scan_sign",s "scan_action",s "ActionReader",s "joined",s "parse_action",s "level_of",s "show_within",s "show_expression",s "show_block",s "show_statement",s "show_action",s "_law_signs",s "_law_sizes",s "_law_words",s "_law_draw",s "_law_leaf",s "_law_tree",s "_law_statement",s "_law_groups",s "_law_read",s "_law_bent_right"]
noncomputable abbrev RW:RowW:=PySem.Challenge.rw_nn0379_01.row.toRowW
noncomputable def Xt:Shared→Bool:=fun s=>xlAt vw [] s&&recOk RW.records s
noncomputable def hook:Hook:=kHook K keys (fun _=>by kernel_rfl)
theorem l1:∀(w:World)(os:OsState),(staticsOk (importedModules pw.main.body) (boot_heap w.params) (heap1 w.params)&&namesBound pw (heap1 w.params)&&gensDone ⟨heap1 w.params,#[],{},992,os⟩&&laidKept (boot_heap w.params) (heap1 w.params))=true:=by
 intro w os
 kernel_rfl
theorem l3:∀(w:World)(os:OsState),hook.obs ⟨heap1 w.params,#[],{},992,os⟩=hook.val w:=by
 intro w os
 kernel_rfl
theorem l2:∀(w:World)(os:OsState),openSeen vw loose (importedModules pw.main.body) Xt true ⟨heap1 w.params,#[],{},992,os⟩=openGood vw loose:=by
 intro w os
 kernel_rfl
end
end H
namespace H
noncomputable section
theorem h_run1:∀w:World,(fun os=>segRunT treeTable pw (w.withFollow SR true) 11 (some (.ref 6)) 1 3819 ⟨tree0 (w.withFollow SR true).params,15,{},#[],{},187,os⟩ (piecesOf pw.main.body env0 c0 ⟨0,0,0,0⟩ B0))=
  fun os=>some (.next,⟨tree1 (w.withFollow SR true).params,562,{},#[],{},992,os⟩,c0,⟨496,0,506,37⟩):=by
 rw[Fast.te10110043849684766642,Fast.te14364793385576792824]
 intro w
 kernel_rfl
theorem h_run:∀w:World,(fun os=>segRunT treeTable pw w 11 (some (.ref 6)) 1 3819 ⟨tree0 w.params,15,{},#[],{},187,os⟩ (piecesOf pw.main.body env0 c0 ⟨0,0,0,0⟩ B0))=
  fun os=>some (.next,⟨tree1 w.params,562,{},#[],{},992,os⟩,c0,⟨496,0,506,37⟩):=
 byRow2 SR (P:=fun w:World=>(fun os=>segRunT treeTable pw w 11 (some (.ref 6)) 1 3819 ⟨tree0 w.params,15,{},#[],{},187,os⟩ (piecesOf pw.main.body env0 c0 ⟨0,0,0,0⟩ B0))=
  fun os=>some (.next,⟨tree1 w.params,562,{},#[],{},992,os⟩,c0,⟨496,0,506,37⟩)) h_run0 h_run1
theorem run:∀(w:World)(os:OsState),topRun treeTable pw w 11 (some (.ref 6)) (12+(1+(3819+2))) ⟨boot_heap w.params,#[],boot_drawn,boot_toks,os⟩ (topStub pw)=some ⟨heap1 w.params,#[],{},992,os⟩:=by
 intro w os
 refine go_top (congrFun (h_pre w) os) ?_
 have e1:=segRun_of (congrFun (h_block w) os)
 have e2:=segRun_of (congrFun (h_run w) os)
 have e3:=congrFun (h_fin w) os
 unfold SharedT.abs at e1 e2
 dsimp only at e1 e2 e3
 rw[h_abs]at e1 e2
 rw[h_abs1]at e2
 refine piece_block e1 ?_
 have e4:=piece_app (rest:=[]) e2 (piece_nil e3)
 rw[List.append_nil]at e4
 exact e4
theorem size:∀w:World,((boot_heap w.params).isNs mainGlobals&&(#[]:Array GenState).size==0,(boot_heap w.params).objs.size,(boot_heap w.params).nsMap mainGlobals "__annotations__")=(true,11,some (.ref 6)):=by
 intro w
 kernel_rfl
theorem left:LeftO pw vw loose Xt hook.obs hook.val 4000 true:=
 LeftO.of_pieces (H₀:=boot_heap) (H₁:=heap1) (gs₀:=#[]) (gs₁:=#[]) (d₀:=boot_drawn) (d₁:={}) (k₀:=boot_toks) (k₁:=992) (m₀:=11) (ann:=some (.ref 6)) (M:=12+(1+(3819+2)))
  (boot_open (by kernel_rfl) (by kernel_rfl) (fun s=>by kernel_rfl)) size run (by kernel_rfl)
  (fun w=>funext fun os=>looks_pair (l1 w os) (looks_pair (l2 w os) (l3 w os)))
end
end H
namespace H
noncomputable section
noncomputable abbrev RR:OpenLaw:=PySem.Challenge.rw_nn0379_01
theorem said:RR.wellSaid=true:=by
 rw[Fast.te9446332074065402090]
 kernel_rfl
noncomputable def lawD:DefRec:=match st 51 with
 | .FunctionDef name params body _ _ _ scope _ _ pos=>⟨name,params,body,scope,pos⟩
 |_=>⟨s "",default,[],default,default⟩
theorem hdef:defOf vw RR.row.name=some (lawD,[]):=by kernel_rfl
theorem hprog:RR.row.prog.theDef RR.row.name=some (lawD.params,lawD.body,lawD.scope):=by kernel_rfl
theorem hkw:kwWritten? lawD.params.kwonlyargs lawD.params.kw_defaults=some []:=by kernel_rfl
theorem hok:(chainsOk vw&&opensWell RR.row.prog&&(frees RR.row.toRowW&&RR.row.within.isEmpty))=true:=by kernel_rfl
theorem htab:RR.row.prog.tablesWhole=true:=by kernel_rfl
noncomputable abbrev Walk:Prop:=WalkO vw loose (XL vw []) hook.says RR.row.toRowW lawD [] (fun f vs=>PySem.call f vs)
theorem hd(walk:Walk):RR.Holds:=
 holds_law said fun sd=>holds_open (r:=RR.row) (q:=vw) (loose:=loose) (Xt:=Xt) (XP:=XL vw []) (Yf:=hook.obs) (Ya:=hook.val) (YP:=hook.says) (N:=4000) left hook.of hook.keeps
  (fun s e=>xl_of s (Bool.and_eq_true_iff.mp e).1) XL.keeps hdef hprog hkw (fun s e=>recFacts_of (Bool.and_eq_true_iff.mp e).2) (by kernel_rfl) sd hok ⟨rfl,rfl,rfl,rfl,rfl,htab⟩
  ⟨[WData.list []],by decide+kernel,by decide+kernel⟩ walk
end
end H
end Mine
namespace Mine
open H (K vw loose pw)
theorem nS{α:Type}{x:α}{P:Prop}(e:(none:Option α)=some x):P:=by cases e
abbrev G:=Addr→Obj→Prop
mutual
inductive Rd(g:G):Value→PyData→Prop
 |none:Rd g .none .none
 |bool (b):Rd g (.bool b) (.bool b)
 |int (i t):Rd g (.int i t) (.int i)
 |str (x t):Rd g (.str x t) (.str x)
 |list {a o vs n xs}:g a o→o.cls= .type "list"→o.data= .seq vs n→RdAll g vs.toList xs→Rd g (.ref a) (.list xs)
 |tuple {a o vs n xs}:g a o→o.cls= .type "tuple"→o.data= .seq vs n→RdAll g vs.toList xs→Rd g (.ref a) (.tuple xs)
inductive RdAll(g:G):List Value→List PyData→Prop
 |nil:RdAll g [] []
 |cons {v vs x xs}:Rd g v x→RdAll g vs xs→RdAll g (v::vs) (x::xs)
end
inductive SeqR(g:G)(T:String)(v:Value)(l:List PyData):Prop
 |mk (a:Addr) (o:Obj) (vs:Array Value) (n:Nat) (e:v= .ref a) (h:g a o) (c:o.cls= .type T) (d:o.data= .seq vs n) (r:RdAll g vs.toList l)
noncomputable def RdI(g:G)(v:Value)(x:PyData):Prop:=match x with
 | .none=>v= .none
 | .bool b=>v= .bool b
 | .int i=>∃t,v= .int i t
 | .str s=>∃t,v= .str s t
 | .list l=>SeqR g "list" v l
 | .tuple l=>SeqR g "tuple" v l
 |_=>False
theorem Rd.inv{g:G}{v x}(h:Rd g v x):RdI g v x:=
 @Rd.casesOn g (fun v x _=>RdI g v x) _ _ h rfl (fun _=>rfl) (fun _ t=>⟨t,rfl⟩) (fun _ t=>⟨t,rfl⟩) (fun a b c d=>⟨_,_,_,_,rfl,a,b,c,d⟩) fun a b c d=>⟨_,_,_,_,rfl,a,b,c,d⟩
theorem Rd.mono{g g':G}(k:∀b o,g b o→g' b o){v x}(h:Rd g v x):Rd g' v x:=
 @Rd.rec g (fun v x _=>Rd g' v x) (fun v x _=>RdAll g' v x) .none .bool .int .str (fun a b c _ d=> .list (k _ _ a) b c d) (fun a b c _ d=> .tuple (k _ _ a) b c d) .nil (fun _ _ a b=> .cons a b) _ _ h
theorem RdAll.ind{g:G}{P:List Value→List PyData→Prop}(n:P [] [])(c:∀{v vs x xs},Rd g v x→RdAll g vs xs→P vs xs→P (v::vs) (x::xs)){vs xs}(h:RdAll g vs xs):P vs xs:=
 @RdAll.rec g (fun _ _ _=>True) (fun v x _=>P v x) trivial (fun _=>trivial) (fun _ _=>trivial) (fun _ _=>trivial) (fun _ _ _ _ _=>trivial) (fun _ _ _ _ _=>trivial) n (fun a b _ p=>c a b p) _ _ h
theorem RdAll.mono{g g':G}(k:∀b o,g b o→g' b o){v x}(h:RdAll g v x):RdAll g' v x:=h.ind .nil fun a _ p=> .cons (a.mono k) p
theorem RdAll.length{g:G}{vs xs}(h:RdAll g vs xs):vs.length=xs.length:=h.ind (P:=fun vs xs=>vs.length=xs.length) rfl fun _ _ p=>congrArg (· +1) p
theorem RdAll.get{g:G}{vs xs}(h:RdAll g vs xs):∀(i:Nat)(x:PyData),xs[i]?=some x→∃v,vs[i]?=some v∧Rd g v x:=
 h.ind (P:=fun vs xs=>∀(i:Nat)(x:PyData),xs[i]?=some x→∃v,vs[i]?=some v∧Rd g v x) (fun _ _ e=>nS e) fun a _ p i x e=>by
  cases i with
  |zero=>exact⟨_,rfl,Option.some.inj e▸a⟩
  |succ i=>exact p i x e
theorem RdAll.append{g:G}{vs xs vs' xs'}(h:RdAll g vs xs)(h':RdAll g vs' xs'):RdAll g (vs++vs') (xs++xs'):=
 h.ind (P:=fun vs xs=>RdAll g (vs++vs') (xs++xs')) h' fun a _ p=> .cons a p
inductive AV where
 |d(x:PyData)
 |fi(C:Addr)(fs:List (Nat×PyData))
 |fl(l:List (Addr×List (Nat×PyData)))
 |rng(n:Nat)
 |err(o:Int)
 |ref(i:Nat)
 |tab(n:Nat)
 |no
noncomputable def AV.plain:AV→Bool
 | .ref _=>false
 |_=>true
noncomputable def okF(C:Addr)(f:Nat):Bool:=match C with
 |46=>Nat.beq f 2||Nat.beq f 4||Nat.beq f 56
 |222=>Nat.beq f 1||Nat.beq f 3
 |267=>Nat.beq f 19||Nat.beq f 20||Nat.beq f 2
 |436=>Nat.beq f 1||Nat.beq f 24||Nat.beq f 40
 |_=>false
inductive AO where
 |list(l:List AV)
 |inst(C:Addr)(fs:List (Nat×AV))
 |dead
noncomputable def nms:List String:=["self","text","offset","at","line","begun","here","what","ahead","word","sign","signs","figures","most","base","code","taken","end","marks","kind","worth","cursor","start","number","parts","name","found","part","test","yes","no","least","left","is_compared","level","right","node","nodes","pen","many","spot","way","deep","turn","size","page","open_at","is_text","is_call","is_group","error","bent","script","cells","cell","sign_","column"]
noncomputable def nm(i:Nat):Str:=Str.ofString (nms.getD i "?")
noncomputable def CPos:Addr:=46
noncomputable def CErr:Addr:=95
noncomputable def CCur:Addr:=222
noncomputable def CPart:Addr:=267
noncomputable def CRdr:Addr:=436
noncomputable def Flds(g:G)(es:List DictEntry)(fs:List (Nat×PyData)):Prop:=∀p∈fs,∃v,getL (nm p.1) es=some (some v)∧Rd g v p.2
inductive FI(g:G)(C:Addr)(fs:List (Nat×PyData))(v:Value):Prop
 |mk (x dx:Addr) (sl:Array (Option Value)) (es:List DictEntry) (n:Nat) (e:v= .ref x) (a:g x ⟨.ref C,some dx, .plain,sl⟩) (b:g dx (dictOf es n)) (c:Flds g es fs)
inductive ErrDict(g:G)(de:Addr)(o:Int):Prop
 |mk (es:List DictEntry) (n:Nat) (vp:Value) (a:g de (dictOf es n)) (b:getL (Str.ofString "at") es=some (some vp)) (c:FI g CPos [(2, .int o)] vp)
inductive ErrR(g:G)(o:Int)(v:Value):Prop
 |mk (e de:Addr) (oe:Obj) (t:Addr) (q:v= .ref e) (a:g e oe) (b:oe.cls= .ref CErr) (c:oe.dict=some de) (d:oe.data= .fields #[.ref t, .none, .none, .none, .bool false, .none]) (f:ErrDict g de o)
noncomputable def RngR(g:G)(a:Addr)(n:Nat):Prop:=∃t0 t1 t2,g a {cls:= .type "range",dict:=none,data:= .fields #[.int 0 t0, .int n t1, .int 1 t2],slots:=#[]}
inductive FIAll(g:G):List (Addr×List (Nat×PyData))→List Value→Prop
 |nil:FIAll g [] []
 |cons {p l v vs}:FI g p.1 p.2 v→FIAll g l vs→FIAll g (p::l) (v::vs)
inductive FlR(g:G)(l:List (Addr×List (Nat×PyData)))(v:Value):Prop
 |mk (a:Addr) (o:Obj) (vs:Array Value) (n:Nat) (e:v= .ref a) (h:g a o) (c:o.cls= .type "list") (d:o.data= .seq vs n) (r:FIAll g l vs.toList)
noncomputable def VR(g:G)(r:List (Addr×Addr)):AV→Value→Prop
 | .d x,v=>Rd g v x
 | .fi C fs,v=>FI g C fs v
 | .fl l,v=>FlR g l v
 | .rng n,v=>∃a,v= .ref a∧RngR g a n
 | .err o,v=>ErrR g o v
 | .ref i,v=>∃p,r[i]?=some p∧v= .ref p.1
 | .tab n,v=>v= .ref n∧(n=22∨n=249)
 | .no,_=>False
inductive VRs(g:G)(r:List (Addr×Addr)):List AV→List Value→Prop
 |nil:VRs g r [] []
 |cons {a l v vs}:VR g r a v→VRs g r l vs→VRs g r (a::l) (v::vs)
section
variable{g g':G}(k:∀b o,g b o→g' b o)
include k
theorem Flds.mono{es fs}(h:Flds g es fs):Flds g' es fs:=fun p hp=>let⟨v,a,b⟩:=h p hp;⟨v,a,b.mono k⟩
theorem FI.mono{C fs v}(h:FI g C fs v):FI g' C fs v:=by
 obtain⟨x,dx,sl,es,n,a,b,c,d⟩:=h
 exact⟨x,dx,sl,es,n,a,k _ _ b,k _ _ c,d.mono k⟩
theorem ErrDict.mono{de o}(h:ErrDict g de o):ErrDict g' de o:=by
 obtain⟨es,n,vp,a,b,c⟩:=h
 exact⟨es,n,vp,k _ _ a,b,c.mono k⟩
theorem ErrR.mono{o v}(h:ErrR g o v):ErrR g' o v:=by
 obtain⟨e,de,oe,t,q,a,b,c,d,f⟩:=h
 exact⟨e,de,oe,t,q,k _ _ a,b,c,d,f.mono k⟩
theorem FIAll.mono{l vs}(h:FIAll g l vs):FIAll g' l vs:=by
 induction h with
 |nil=>exact .nil
 |cons a _ ih=>exact .cons (a.mono k) ih
theorem VR.mono{r r':List (Addr×Addr)}(hr:r<+:r'){a v}(h:VR g r a v):VR g' r' a v:=by
 cases a with
 |d x=>exact Rd.mono k h
 |fi C fs=>exact FI.mono k h
 |fl l=>
  obtain⟨a,o,vs,n,e,h,c,d,r⟩:=h
  exact⟨a,o,vs,n,e,k _ _ h,c,d,r.mono k⟩
 |rng n=>
  obtain⟨a,x1,t0,t1,t2,x2⟩:=h
  exact⟨a,x1,t0,t1,t2,k _ _ x2⟩
 |err o=>exact ErrR.mono k h
 |ref i=>
  obtain⟨p,e,q⟩:=h
  obtain⟨t,rfl⟩:=hr
  exact⟨p,(List.getElem?_append_left (List.getElem?_eq_some_iff.mp e).1).trans e,q⟩
 |tab n=>exact h
 |no=>exact h
theorem VRs.mono{r r':List (Addr×Addr)}(hr:r<+:r'){a v}(h:VRs g r a v):VRs g' r' a v:=by
 induction h with
 |nil=>exact .nil
 |cons a _ ih=>exact .cons (VR.mono k hr a) ih
end
theorem VR.plain{g:G}{r r':List (Addr×Addr)}{a v}(p:AV.plain a=true)(h:VR g r a v):VR g r' a v:=by
 cases a<;>first|exact h|exact Bool.noConfusion p
theorem VRs.plain{g:G}{r r':List (Addr×Addr)}{a v}(h:VRs g r a v)(p:∀x∈a,AV.plain x=true):VRs g r' a v:=by
 induction h with
 |nil=>exact .nil
 |cons x _ ih=>exact .cons (VR.plain (p _ List.mem_cons_self) x) (ih fun y hy=>p y (List.mem_cons_of_mem _ hy))
theorem VRs.length{g r}{l:List AV}{vs:List Value}(h:VRs g r l vs):l.length=vs.length:=by
 induction h with
 |nil=>rfl
 |cons _ _ ih=>exact congrArg (· +1) ih
theorem VRs.get{g r}{l:List AV}{vs:List Value}(h:VRs g r l vs):∀(i:Nat)(a:AV),l[i]?=some a→∃v,vs[i]?=some v∧VR g r a v:=by
 induction h with
 |nil=>exact fun _ _ e=>nS e
 |cons x _ ih=>
  intro i a e
  cases i with
  |zero=>exact⟨_,rfl,Option.some.inj e▸x⟩
  |succ i=>exact ih i a e
theorem VRs.append{g r}{l l':List AV}{vs vs':List Value}(h:VRs g r l vs)(h':VRs g r l' vs'):VRs g r (l++l') (vs++vs'):=by
 induction h with
 |nil=>exact h'
 |cons x _ ih=>exact .cons x ih
structure Cs where
 Z:Addr→Prop
 r:List (Addr×Addr)
 s:Shared
noncomputable def Cs.g(k:Cs):G:=fun b o=>k.s.heap.get? b=some o∧¬k.Z b
structure Nx(k k':Cs):Prop where
 g:∀b o,k.g b o→k'.g b o
 r:k.r<+:k'.r
theorem Nx.refl(k:Cs):Nx k k:=⟨fun _ _ h=>h,List.prefix_refl _⟩
theorem Nx.trans{a b c:Cs}(x:Nx a b)(y:Nx b c):Nx a c:=⟨fun _ _ h=>y.g _ _ (x.g _ _ h),x.r.trans y.r⟩
theorem Nx.vr{k k':Cs}(x:Nx k k'){a v}(h:VR k.g k.r a v):VR k'.g k'.r a v:=VR.mono x.g x.r h
theorem Nx.vrs{k k':Cs}(x:Nx k k'){a v}(h:VRs k.g k.r a v):VRs k'.g k'.r a v:=VRs.mono x.g x.r h
inductive ERel(g:G)(r:List (Addr×Addr))(C:Addr):List (Nat×AV)→List DictEntry→Prop
 |nil:ERel g r C [] []
 |cons {p e fs es}:okF C p.1=true∧AV.plain p.2=true→(∃t,e.key= .str (nm p.1) t)→VR g r p.2 e.val→ERel g r C fs es→ERel g r C (p::fs) (e::es)
theorem ERel.nx{k k':Cs}(x:Nx k k'){C fs es}(h:ERel k.g k.r C fs es):ERel k'.g k'.r C fs es:=by
 induction h with
 |nil=>exact .nil
 |cons a b c _ ih=>exact .cons a b (x.vr c) ih
inductive ListR(k:Cs)(p:Addr×Addr)(l:List AV):Prop
 |mk (z:k.Z p.2) (e:p.1=p.2) (vs:Array Value) (n:Nat) (h:k.s.heap.get? p.2=some {cls:= .type "list",dict:=none,data:= .seq vs n,slots:=#[]}) (r:VRs k.g k.r l vs.toList) (q:∀a∈l,AV.plain a=true)
inductive InstR(k:Cs)(p:Addr×Addr)(C:Addr)(fs:List (Nat×AV)):Prop
 |mk (z:k.Z p.2) (sl:Array (Option Value)) (g:k.g p.1 ⟨.ref C,some p.2, .plain,sl⟩) (es:List DictEntry) (n:Nat) (h:k.s.heap.get? p.2=some (dictOf es n)) (r:ERel k.g k.r C fs es)
noncomputable def ORel(k:Cs)(p:Addr×Addr):AO→Prop
 | .list l=>ListR k p l
 | .inst C fs=>InstR k p C fs
 | .dead=>True
structure St where
 loc:List (Nat×AV)
 obj:List AO
noncomputable def AV.opt(a:AV):Option AV:=match a with
 | .no=>none
 |a=>some a
noncomputable def lkA(i:Nat):List (Nat×AV)→Option AV
 | []=>none
 |(j,b)::r=>match Nat.beq i j with
  |true=>b.opt
  |false=>lkA i r
noncomputable def putA(i:Nat)(a:AV):List (Nat×AV)→List (Nat×AV)
 | []=> [(i,a)]
 |(j,b)::r=>match Nat.beq i j with
  |true=>(j,a)::r
  |false=>(j,b)::putA i a r
noncomputable def St.get(σ:St)(i:Nat):Option AV:=lkA i σ.loc
noncomputable def St.set(σ:St)(i:Nat)(a:AV):St:=⟨putA i a σ.loc,σ.obj⟩
noncomputable def lay(zs:List (Nat×AV)):List Nat→List (Nat×AV)
 | []=> []
 |i::r=>match lkA i zs with
  |some a=>(i,a)::lay zs r
  |none=>(i, .no)::lay zs r
theorem AV.opt_some{a b:AV}(h:a.opt=some b):a=b:=by
 cases a<;>first|(injection h)|cases h
theorem look_self(i:Nat)(a:AV):∀l:List (Nat×AV),lkA i (putA i a l)=a.opt
 | []=>by show(match Nat.beq i i with|true=>a.opt|false=>none)=_;rw[Nat.beq_refl]
 |(j,b)::r=>by
  unfold putA
  cases e:Nat.beq i j with
  |true=>show(match Nat.beq i j with|true=>a.opt|false=>lkA i r)=_;rw[e]
  |false=>show(match Nat.beq i j with|true=>b.opt|false=>lkA i (putA i a r))=_;rw[e];exact look_self i a r
theorem beq_no{i j:Nat}(h:j≠i):Nat.beq j i=false:=by
 cases e:Nat.beq j i with
 |false=>rfl
 |true=>exact absurd (Nat.eq_of_beq_eq_true e) h
theorem look_other{i j:Nat}(a:AV)(h:j≠i):∀l:List (Nat×AV),lkA j (putA i a l)=lkA j l
 | []=>by show(match Nat.beq j i with|true=>a.opt|false=>none)=_;rw[beq_no h];rfl
 |(x,b)::r=>by
  unfold putA
  cases e:Nat.beq i x with
  |true=>
   have hx:j≠x:=fun q=>h (q.trans (Nat.eq_of_beq_eq_true e).symm)
   show(match Nat.beq j x with|true=>a.opt|false=>lkA j r)=(match Nat.beq j x with|true=>b.opt|false=>lkA j r)
   rw[beq_no hx]
  |false=>
   show(match Nat.beq j x with|true=>b.opt|false=>lkA j (putA i a r))=(match Nat.beq j x with|true=>b.opt|false=>lkA j r)
   rw[look_other a h r]
theorem zel{i:Nat}{a:AV}:∀{l:List (Nat×AV)},lkA i l=some a→l.lookup i=some a
 |(j,b)::r,h=>by
  have h:(match Nat.beq i j with|true=>b.opt|false=>lkA i r)=some a:=h
  rw[List.lookup_cons]
  cases e:Nat.beq i j with
  |true=>
   rw[e]at h
   rw[Nat.eq_of_beq_eq_true e,beq_self_eq_true,AV.opt_some h]
  |false=>
   rw[e]at h
   have:(i==j)=false:=beq_eq_false_iff_ne.mpr (Nat.ne_of_beq_eq_false e)
   rw[this]
   exact zel h
theorem look_lay{i:Nat}{a:AV}{zs:List (Nat×AV)}:∀{ks:List Nat},lkA i (lay zs ks)=some a→lkA i zs=some a
 |k::r,h=>by
  unfold lay at h
  cases e:lkA k zs with
  |some b=>
   rw[e]at h
   have h:(match Nat.beq i k with|true=>b.opt|false=>lkA i (lay zs r))=some a:=h
   cases q:Nat.beq i k with
   |true=>
    rw[q]at h
    rw[Nat.eq_of_beq_eq_true q,e,AV.opt_some h]
   |false=>rw[q]at h;exact look_lay h
  |none=>
   rw[e]at h
   have h:(match Nat.beq i k with|true=>none|false=>lkA i (lay zs r))=some a:=h
   cases q:Nat.beq i k with
   |true=>rw[q]at h;cases h
   |false=>rw[q]at h;exact look_lay h
structure FC where
 w:World
 hb:Heap
 A:Around
 env:Env
 fe:Env
 outs:List Env
 k0:Cs
 F:List Addr
 m0:Addr→Prop
 n0:Nat
 cw:Prop
structure FC.Ok(c:FC):Prop where
 kin:(K c.w.params).In c.hb
 top:∃mg mb,TopRead vw loose mg mb c.hb
 base:∀b o,c.hb.get? b=some o→c.k0.s.heap.get? b=some o∧¬c.k0.Z b∧b∉c.F∧¬c.m0 b
 hd:c.A.handled=none
 units:c.A.units+1000<cLine
 depth:c.A.depth<recursionLimit
 kind:c.env.scope.kind= .function
 glob:c.env.globals=mainGlobals
 blt:c.env.builtins=builtinsNs
 frames:c.A.frames=some (c.fe::c.outs)
 fo:c.fe.locals=c.env.locals∨c.fe.locals∈c.F
 fframe:c.fe.frame=some c.fe.locals
 fkind:c.fe.scope.kind= .function
 outs:∀e∈c.outs,e.scope.kind≠ .module∧∃L o,e.frame=some L∧L∈c.F∧c.k0.s.heap.get? L=some o∧∀vs,o.data≠ .fields vs
 fz:∀b∈c.F,c.k0.Z b
 fm:∀b∈c.F,¬c.m0 b
 zx:∀b,c.k0.Z b→∃o,c.k0.s.heap.get? b=some o
 mz:∀b,c.m0 b→c.k0.Z b
 guards:c.A.guards=some []
 cfresh:c.cw→∀q∈c.env.cells,c.k0.s.heap.get? q.2=none∧¬c.k0.Z q.2
 cellx:∀n,c.env.kindOf n=some .cell→∃a,c.env.cells.lookup n=some a
 fok:∀b∈c.F,∃ob,c.k0.s.heap.get? b=some ob∧∀vs,ob.data≠ .fields vs
noncomputable def own(c:FC)(k:Cs):List Addr:=c.env.locals::(c.env.cells.map (·.2)++k.r.map (·.2))
noncomputable def mown(c:FC)(k:Cs):List Addr:=c.env.locals::k.r.map (·.2)
noncomputable def LocR(n:Env)(k:Cs)(mm:Str→Option Value)(i:Nat)(v:Value):Prop:=
 (n.kindOf (nm i)=some .local∧mm (nm i)=some v)∨(n.kindOf (nm i)=some .cell∧∃a,n.cells.lookup (nm i)=some a∧k.s.heap.IsCell a (some v))
inductive LV(n:Env)(k:Cs)(mm:Str→Option Value)(i:Nat)(a:AV):Prop
 |mk (lt:i<nms.length) (v:Value) (h:VR k.g k.r a v) (r:LocR n k mm i v)
structure Rel(c:FC)(σ:St)(k:Cs):Prop where
 rest:k.s={c.k0.s with heap:=k.s.heap,toks:=k.s.toks}
 keep:∀b o,¬c.m0 b→b∉c.F→c.k0.s.heap.get? b=some o→k.s.heap.get? b=some o
 fr:∀b o,b∈c.F→c.k0.s.heap.get? b=some o→∃sl,k.s.heap.get? b=some {o with slots:=sl}
 z0:∀b,c.k0.Z b→k.Z b
 zx:∀b,k.Z b→∃o,k.s.heap.get? b=some o
 zup:∀b,k.Z b→c.k0.Z b∨c.k0.s.heap.get? b=none
 ns:∃mm,k.s.heap.Ns c.env.locals mm∧∀i a,σ.get i=some a→LV c.env k mm i a
 lz:k.Z c.env.locals
 cz:∀p∈c.env.cells,k.Z p.2
 obj:∀(i:Nat)(o:AO),σ.obj[i]?=some o→∃p:Addr×Addr,k.r[i]?=some p∧ORel k p o
 objn:σ.obj.length=k.r.length
 rx:∀p∈k.r,∃o,k.s.heap.get? p.2=some o
 nodup:(own c k).Nodup
 mine:∀b∈mown c k,k.Z b→(c.m0 b∨c.k0.s.heap.get? b=none)∧b∉c.F
 floc:∃o,k.s.heap.get? c.fe.locals=some o∧∀vs,o.data≠ .fields vs
 new:∀(i:Nat)(p:Addr×Addr),c.n0≤i→k.r[i]?=some p→c.k0.s.heap.get? p.2=none
theorem Rel.base{c:FC}{σ:St}{k:Cs}(ok:c.Ok)(R:Rel c σ k):∀b o,c.hb.get? b=some o→k.s.heap.get? b=some o∧¬k.Z b:=fun b o e=>by
 obtain⟨e1,e2,e3,e4⟩:=ok.base b o e
 refine⟨R.keep b o e4 e3 e1,fun z=>?_⟩
 rcases R.zup b z with q|q
 ·exact e2 q
 ·rw[e1]at q;cases q
theorem Rel.kin{c:FC}{σ:St}{k:Cs}(ok:c.Ok)(R:Rel c σ k):(K c.w.params).In k.s.heap:=ok.kin.keeps fun b o e=>(R.base ok b o e).1
theorem Rel.top{c:FC}{σ:St}{k:Cs}(ok:c.Ok)(R:Rel c σ k):∃mg mb,TopRead vw loose mg mb k.s.heap:=by
 obtain⟨mg,mb,T⟩:=ok.top
 exact⟨mg,mb,T.keeps fun b o e=>(R.base ok b o e).1⟩
theorem nm_inj:∀i<nms.length,∀j<nms.length,nm i=nm j→i=j:=by decide+kernel
theorem nm_debug:∀i<nms.length,(nm i==("__debug__":Str))=false:=by decide+kernel
noncomputable def Cs.at(k:Cs)(h:Heap)(t:Nat):Cs:={k with s:={k.s with heap:=h,toks:=t}}
@[simp] theorem Cs.at_Z(k:Cs)(h t):(k.at h t).Z=k.Z:=rfl
@[simp] theorem Cs.at_r(k:Cs)(h t):(k.at h t).r=k.r:=rfl
@[simp] theorem Cs.at_heap(k:Cs)(h t):(k.at h t).s.heap=h:=rfl
@[simp] theorem Cs.at_toks(k:Cs)(h t):(k.at h t).s.toks=t:=rfl
theorem St.get_set_self(σ:St)(i:Nat)(a:AV):(σ.set i a).get i=a.opt:=look_self i a σ.loc
theorem St.get_set_ne(σ:St){i j:Nat}(a:AV)(h:j≠i):(σ.set i a).get j=σ.get j:=look_other a h σ.loc
theorem Rel.lay{c:FC}{zs:List (Nat×AV)}{o:List AO}{k:Cs}(R:Rel c ⟨zs,o⟩ k)(ks:List Nat):Rel c ⟨Mine.lay zs ks,o⟩ k:=
 ⟨R.rest,R.keep,R.fr,R.z0,R.zx,R.zup,let⟨mm,h1,h2⟩:=R.ns;⟨mm,h1,fun i a e=>h2 i a (look_lay e)⟩,R.lz,R.cz,R.obj,R.objn,R.rx,R.nodup,R.mine,R.floc,R.new⟩
theorem zck{h h':Heap}{a:Addr}{v:Option Value}(k:∀o,h.get? a=some o→h'.get? a=some o)(x:h.IsCell a v):h'.IsCell a v:=x.imp fun o h=>⟨k o h.1,h.2⟩
structure Grow(k:Cs)(h':Heap):Prop where
 keep:∀b o,k.s.heap.get? b=some o→h'.get? b=some o
theorem Grow.refl(k:Cs):Grow k k.s.heap:=⟨fun _ _ e=>e⟩
theorem Grow.push(k:Cs)(o:Obj):Grow k (k.s.heap.push o):=⟨fun _ _ e=>Heap.get?_push_of_some o e⟩
theorem Grow.nx{k:Cs}{h'}(x:Grow k h')(t:Nat):Nx k (k.at h' t):=⟨fun b o e=>⟨x.keep b o e.1,e.2⟩,List.prefix_refl _⟩
theorem ORel.nxZ{k k':Cs}(x:Nx k k'){p:Addr×Addr}{o:AO}(h:ORel k p o)(hz:k.Z p.2→k'.Z p.2)(hk:k.Z p.2→∀o,k.s.heap.get? p.2=some o→k'.s.heap.get? p.2=some o):ORel k' p o:=by
 cases o with
 |list l=>
  obtain⟨z,e,vs,n,h,r,q⟩:=h
  exact⟨hz z,e,vs,n,hk z _ h,x.vrs r,q⟩
 |inst C fs=>
  obtain⟨z,sl,g,es,n,h,r⟩:=h
  exact⟨hz z,sl,x.g _ _ g,es,n,hk z _ h,r.nx x⟩
 |dead=>trivial
theorem ORel.nx{k k':Cs}(x:Nx k k'){p:Addr×Addr}{o:AO}(h:ORel k p o)(hz:k.Z p.2→k'.Z p.2)(hk:∀o,k.s.heap.get? p.2=some o→k'.s.heap.get? p.2=some o):ORel k' p o:=h.nxZ x hz fun _=>hk
theorem LV.nx{n:Env}{k k':Cs}{mm:Str→Option Value}{i:Nat}{a:AV}(h:LV n k mm i a)(x:Nx k k')(hc:∀b v,n.cells.lookup (nm i)=some b→k.s.heap.IsCell b v→k'.s.heap.IsCell b v):LV n k' mm i a:=by
 obtain⟨hi,v,hv,hr⟩:=h
 exact⟨hi,v,x.vr hv,hr.imp id fun h=>⟨h.1,h.2.imp fun b h=>⟨h.1,hc b _ h.1 h.2⟩⟩⟩
theorem isEx{h h':Heap}{a:Addr}(k:∀o,h.get? a=some o→h'.get? a=some o)(x:∃o,h.get? a=some o):∃o,h'.get? a=some o:=x.imp k
theorem Rel.grow{c:FC}{σ:St}{k:Cs}(R:Rel c σ k){h':Heap}(x:Grow k h')(t:Nat):Rel c σ (k.at h' t) where
 rest:=congrArg (fun s:Shared=>{s with heap:=h',toks:=t}) R.rest
 keep:=fun b o a1 a2 e=>x.keep b o (R.keep b o a1 a2 e)
 fr:=fun b o a e=>(R.fr b o a e).imp fun _=>x.keep _ _
 z0:=R.z0
 zx:=fun b z=>isEx (x.keep b) (R.zx b z)
 zup:=R.zup
 ns:=R.ns.imp fun mm h=>⟨h.1.keeps x.keep,fun i a e=>(h.2 i a e).nx (x.nx t) fun b _ _=>zck (x.keep b)⟩
 lz:=R.lz
 cz:=R.cz
 obj:=fun i o e=>(R.obj i o e).imp fun p h=>⟨h.1,h.2.nx (x.nx t) id (x.keep _)⟩
 objn:=R.objn
 rx:=fun p hp=>isEx (x.keep _) (R.rx p hp)
 nodup:=R.nodup
 mine:=R.mine
 floc:=R.floc.imp fun o h=>⟨x.keep _ _ h.1,h.2⟩
 new:=R.new
theorem Rel.toks{c:FC}{σ:St}{k:Cs}(R:Rel c σ k)(t:Nat):Rel c σ (k.at k.s.heap t):=R.grow (Grow.refl k) t
theorem Nx.toks(k:Cs)(t:Nat):Nx k (k.at k.s.heap t):=(Grow.refl k).nx t
structure But(k:Cs)(z:Addr)(h':Heap):Prop where
 keep:∀b o,b≠z→k.s.heap.get? b=some o→h'.get? b=some o
theorem But.of{k:Cs}{z:Addr}{h':Heap}(x:Heap.SameBut z k.s.heap h'):But k z h':=⟨fun b o n e=>x.extBut b o n e⟩
theorem But.ex{k:Cs}{z:Addr}{h':Heap}(x:But k z h')(hz:∃o,h'.get? z=some o){b:Addr}(e:∃o,k.s.heap.get? b=some o):∃o,h'.get? b=some o:=by
 by_cases q:b=z
 ·rw[q];exact hz
 ·obtain⟨o,e⟩:=e;exact⟨o,x.keep _ _ q e⟩
theorem But.nx{k:Cs}{z:Addr}{h':Heap}(x:But k z h')(hz:k.Z z)(t:Nat):Nx k (k.at h' t):=
 ⟨fun b o e=>⟨x.keep b o (fun q=>e.2 (q▸hz)) e.1,e.2⟩,List.prefix_refl _⟩
theorem zef{c:FC}{k:Cs}:c.env.locals∈own c k:=List.mem_cons_self
theorem own_cell{c:FC}{k:Cs}{p:Str×Addr}(h:p∈c.env.cells):p.2∈own c k:=List.mem_cons_of_mem _ (List.mem_append_left _ (List.mem_map_of_mem h))
theorem own_obj{c:FC}{k:Cs}{p:Addr×Addr}(h:p∈k.r):p.2∈own c k:=List.mem_cons_of_mem _ (List.mem_append_right _ (List.mem_map_of_mem h))
theorem zbv{c:FC}{k:Cs}:c.env.locals∈mown c k:=List.mem_cons_self
theorem zex{c:FC}{k:Cs}{p:Addr×Addr}(h:p∈k.r):p.2∈mown c k:=List.mem_cons_of_mem _ (List.mem_map_of_mem h)
theorem mown_own{c:FC}{k:Cs}{b:Addr}(h:b∈mown c k):b∈own c k:=by
 rcases List.mem_cons.mp h with rfl|h
 ·exact zef
 ·exact List.mem_cons_of_mem _ (List.mem_append_right _ h)
theorem Rel.but_base{c:FC}{σ:St}{k:Cs}(ok:c.Ok)(R:Rel c σ k){z:Addr}{h':Heap}(x:But k z h')(hz:z∈mown c k)(hZ:k.Z z):
  (∀b o,¬c.m0 b→b∉c.F→c.k0.s.heap.get? b=some o→h'.get? b=some o)∧(∀b o,b∈c.F→c.k0.s.heap.get? b=some o→∃sl,h'.get? b=some {o with slots:=sl}):=by
 obtain⟨h1,h2⟩:=R.mine z hz hZ
 refine⟨fun b o a1 a2 e=>x.keep b o (fun q=>?_) (R.keep b o a1 a2 e),fun b o a e=>?_⟩
 ·subst q
  rcases h1 with h1|h1
  ·exact a1 h1
  ·rw[e]at h1;cases h1
 ·obtain⟨sl,q⟩:=R.fr b o a e
  exact⟨sl,x.keep _ _ (fun q=>h2 (q▸a)) q⟩
theorem zak{α β:Type} [BEq α] [LawfulBEq α]{l:List (α×β)}{a:α}{b:β}(h:l.lookup a=some b):(a,b)∈l:=by
 induction l with
 |nil=>cases h
 |cons p r ih=>
  obtain⟨x,y⟩:=p
  rw[List.lookup_cons]at h
  cases q:a==x with
  |true=>rw[q]at h;cases h;rw[beq_iff_eq.mp q];exact List.mem_cons_self
  |false=>rw[q]at h;exact List.mem_cons_of_mem _ (ih h)
theorem Rel.setLoc{c:FC}{σ:St}{k:Cs}(ok:c.Ok)(R:Rel c σ k){i:Nat}{a:AV}{v:Value}{h':Heap}{t:Nat}{mm:Str→Option Value}
  (hmm:∀j b,σ.get j=some b→LV c.env k mm j b)
  (hn:h'.Ns c.env.locals (fun y=>if y=nm i then some v else mm y))(hs:Heap.SameBut c.env.locals k.s.heap h')(hi:i<nms.length)(hk:c.env.kindOf (nm i)=some .local)(hv:VR k.g k.r a v):
  Rel c (σ.set i a) (k.at h' t):=by
 have x:=But.of hs
 have nx:=x.nx R.lz t
 obtain⟨b1,b2⟩:=R.but_base ok x zbv R.lz
 have nd':=List.nodup_cons.mp R.nodup
 have hzx:∃o,h'.get? c.env.locals=some o:=hn.imp fun o h=>h.elim fun _ h=>h.elim fun _ h=>h.1
 refine⟨congrArg (fun s:Shared=>{s with heap:=h',toks:=t}) R.rest,b1,b2,R.z0,fun b z=>x.ex hzx (R.zx b z),R.zup,⟨_,hn,fun j b e=>?_⟩,R.lz,R.cz,fun j o e=>(R.obj j o e).imp fun p h=>⟨h.1,h.2.nx nx id fun o=>x.keep _ o fun q=>nd'.1 (q▸List.mem_append_right _ (List.mem_map_of_mem (List.mem_of_getElem? h.1)))⟩,R.objn,fun p hp=>x.ex hzx (R.rx p hp),R.nodup,R.mine,?_,R.new⟩
 ·by_cases hj:j=i
  ·subst hj
   cases AV.opt_some ((St.get_set_self σ j a).symm.trans e)
   exact⟨hi,v,nx.vr hv, .inl ⟨hk,if_pos rfl⟩⟩
  ·obtain⟨lt,v',hv',hr⟩:=hmm j b ((St.get_set_ne σ a hj).symm.trans e)
   refine LV.nx (k:=k) ⟨lt,v',hv',hr.imp_left fun q=>⟨q.1,(if_neg fun z=>hj (nm_inj j lt i hi z)).trans q.2⟩⟩ nx fun b _ q=>zck fun o e=>x.keep _ o (fun z=>?_) e
   exact nd'.1 (z▸List.mem_append_left _ (List.mem_map_of_mem (f:=(·.2)) (zak q)))
 ·rcases ok.fo with hf|hf
  ·obtain⟨o',es,ep,ho,hd,_⟩:=hn
   exact⟨o',hf▸ho,fun vs z=>by rw[hd]at z;cases z⟩
  ·exact R.floc.imp fun o h=>⟨x.keep _ _ (fun q=>(R.mine _ zbv R.lz).2 (q▸hf)) h.1,h.2⟩
theorem nodup_idx{c:FC}{k:Cs}(nd:(own c k).Nodup){i j:Nat}{p q:Addr×Addr}(hi:k.r[i]?=some p)(hj:k.r[j]?=some q)(h:p.2=q.2):i=j:=by
 unfold own at nd
 have n2:=(List.nodup_append.mp (List.nodup_cons.mp nd).2).2.1
 have li:=(List.getElem?_eq_some_iff.mp hi)
 have lj:=(List.getElem?_eq_some_iff.mp hj)
 obtain⟨li,ei⟩:=li
 obtain⟨lj,ej⟩:=lj
 refine(List.getElem_inj (h₀:=by simpa using li) (h₁:=by simpa using lj) n2).mp ?_
 rw[List.getElem_map,List.getElem_map,ei,ej]
 exact h
theorem Rel.obj_ne{c:FC}{σ:St}{k:Cs}(ok:c.Ok)(R:Rel c σ k){i:Nat}{p:Addr×Addr}(hi:k.r[i]?=some p)(hz:k.Z p.2):
  p.2≠c.env.locals∧(∀q∈c.env.cells,p.2≠q.2)∧p.2≠c.fe.locals:=by
 have nd:=R.nodup
 unfold own at nd
 have nd':=List.nodup_cons.mp nd
 have hm:p∈k.r:=List.mem_of_getElem? hi
 have h1:p.2≠c.env.locals:=fun q=>nd'.1 (q▸List.mem_append_right _ (List.mem_map_of_mem hm))
 refine⟨h1,fun q hq e=>?_,?_⟩
 ·exact(List.nodup_append.mp nd'.2).2.2 _ (List.mem_map_of_mem hq) _ (List.mem_map_of_mem hm) e.symm
 ·rcases ok.fo with hf|hf
  ·rw[hf];exact h1
  ·exact fun q=>(R.mine _ (zex hm) hz).2 (q▸hf)
theorem Rel.ownx{c:FC}{σ:St}{k:Cs}(R:Rel c σ k):∀b∈own c k,∃o,k.s.heap.get? b=some o:=by
 intro b hb
 rcases List.mem_cons.mp hb with rfl|hb
 ·exact R.zx _ R.lz
 ·rcases List.mem_append.mp hb with hb|hb
  ·obtain⟨q,hq,rfl⟩:=List.mem_map.mp hb
   exact R.zx _ (R.cz q hq)
  ·obtain⟨q,hq,rfl⟩:=List.mem_map.mp hb
   exact R.rx q hq
noncomputable def Cs.add(k:Cs)(p:Addr×Addr)(h:Heap)(t:Nat):Cs:=⟨fun b=>k.Z b∨b=p.2,k.r++[p],{k.s with heap:=h,toks:=t}⟩
theorem Cs.add_nx{k:Cs}{h':Heap}(x:Grow k h'){p:Addr×Addr}(hd:k.s.heap.get? p.2=none)(t:Nat):Nx k (k.add p h' t):=
 ⟨fun b o e=>⟨x.keep b o e.1,fun z=>z.elim e.2 fun q=>by have e1:=e.1;rw[q,hd]at e1;cases e1⟩,List.prefix_append _ _⟩
theorem Rel.fresh{c:FC}{σ:St}{k:Cs}(ok:c.Ok)(R:Rel c σ k){b:Addr}(hd:k.s.heap.get? b=none):c.k0.s.heap.get? b=none:=by
 cases q:c.k0.s.heap.get? b with
 |none=>rfl
 |some o=>
  by_cases h1:c.m0 b
  ·obtain⟨o,e⟩:=R.zx b (R.z0 b (ok.mz b h1));rw[hd]at e;cases e
  ·by_cases h2:b∈c.F
   ·obtain⟨sl,e⟩:=R.fr b o h2 q;rw[hd]at e;cases e
   ·have:=R.keep b o h1 h2 q;rw[hd]at this;cases this
theorem Rel.newObj{c:FC}{σ:St}{k:Cs}(ok:c.Ok)(R:Rel c σ k){h':Heap}(x:Grow k h'){p:Addr×Addr}(hd:k.s.heap.get? p.2=none)(hlt:∃o,h'.get? p.2=some o){t:Nat}{o':AO}(ho':ORel (k.add p h' t) p o'):Rel c {σ with obj:=σ.obj++[o']} (k.add p h' t):=by
 have nx:=Cs.add_nx x hd t
 have R':=R.grow x t
 have hlen:σ.obj.length=k.r.length:=R.objn
 have hd0:=R.fresh ok hd
 have ne:∀b∈own c k,b≠p.2:=fun b hb q=>by
  obtain⟨o,e⟩:=R.ownx b hb
  rw[q,hd]at e;cases e
 refine⟨R'.rest,R'.keep,R'.fr,fun b z=> .inl (R.z0 b z),fun b z=>z.elim (R'.zx b) fun q=>q▸hlt,fun b z=>z.elim (R.zup b) fun q=> .inr (q▸hd0),R.ns.imp fun mm h=>⟨h.1.keeps x.keep,fun i a e=>(h.2 i a e).nx nx fun b _ _=>zck (x.keep b)⟩, .inl R.lz,fun q hq=> .inl (R.cz q hq),fun i o e=>?_,?_,fun q hq=>(List.mem_append.mp hq).elim (R'.rx q) fun e=>(List.mem_singleton.mp e).symm▸hlt,?_,fun b hb hbZ=>?_,R'.floc,fun i q hi hq=>?_⟩
 ·have e:(σ.obj++[o'])[i]?=some o:=e
  show∃q,(k.r++[p])[i]?=some q∧_
  rcases Nat.lt_trichotomy i σ.obj.length with hi|hi|hi
  ·rw[List.getElem?_append_left hi]at e
   exact(R.obj i o e).imp fun q h=>⟨(List.getElem?_append_left (hlen▸hi)).trans h.1,h.2.nx nx .inl (x.keep _)⟩
  ·rw[hi,List.getElem?_concat_length]at e
   exact⟨p,by rw[hi,hlen];exact List.getElem?_concat_length,Option.some.inj e▸ho'⟩
  ·rw[List.getElem?_eq_none (List.length_append▸hi)]at e
   exact nS e
 ·show(σ.obj++[o']).length=(k.r++[p]).length
  rw[List.length_append,List.length_append,hlen];rfl
 ·show(c.env.locals::(c.env.cells.map (·.2)++(k.r++[p]).map (·.2))).Nodup
  rw[List.map_append,←List.append_assoc,←List.cons_append]
  exact List.nodup_append.mpr ⟨R.nodup,List.nodup_cons.mpr ⟨List.not_mem_nil,List.nodup_nil⟩,fun a ha b hb=>(List.mem_singleton.mp hb).symm▸ne a ha⟩
 ·have hb':b∈mown c k++[p.2]:=by
   have:b∈c.env.locals::(k.r++[p]).map (·.2):=hb
   rw[List.map_append]at this
   exact this
  rcases List.mem_append.mp hb' with hb|hb
  ·exact R.mine b hb (hbZ.elim id fun q=>absurd q (ne b (mown_own hb)))
  ·cases List.mem_singleton.mp hb
   exact⟨.inr hd0,fun hF=>(ok.zx _ (ok.fz _ hF)).elim fun o e=>nS (hd0.symm.trans e)⟩
 ·have hq:(k.r++[p])[i]?=some q:=hq
  by_cases h:i<k.r.length
  ·rw[List.getElem?_append_left h]at hq;exact R.new i q hi hq
  ·rw[List.getElem?_append_right (Nat.not_lt.mp h)]at hq
   exact List.mem_singleton.mp (List.mem_of_getElem? hq)▸hd0
noncomputable def Cs.drop(k:Cs)(d:Addr):Cs:=⟨fun b=>k.Z b∧b≠d,k.r,k.s⟩
theorem Cs.drop_nx(k:Cs)(d:Addr):Nx k (k.drop d):=⟨fun _ _ e=>⟨e.1,fun z=>e.2 z.1⟩,List.prefix_refl _⟩
theorem Rel.freeze{c:FC}{σ:St}{k:Cs}(ok:c.Ok)(R:Rel c σ k){i:Nat}{p:Addr×Addr}(hi:k.r[i]?=some p)(hz:k.Z p.2)(hn:c.n0≤i):Rel c {σ with obj:=σ.obj.set i .dead} (k.drop p.2):=by
 have nx:=k.drop_nx p.2
 have hm:p∈k.r:=List.mem_of_getElem? hi
 obtain⟨n1,n2,n3⟩:=R.obj_ne ok hi hz
 have hsz:=R.new i p hn hi
 refine⟨R.rest,R.keep,R.fr,fun b z=>⟨R.z0 b z,fun q=>by
   obtain⟨o,e⟩:=ok.zx b z
   rw[q,hsz]at e;cases e⟩,fun b z=>R.zx b z.1,fun b z=>R.zup b z.1,?_,⟨R.lz,Ne.symm n1⟩,fun q hq=>⟨R.cz q hq,Ne.symm (n2 q hq)⟩,?_,?_,R.rx,R.nodup,fun b hb hz=>R.mine b hb hz.1,R.floc,R.new⟩
 ·exact R.ns.imp fun mm h=>⟨h.1,fun j b e=>(h.2 j b e).nx nx fun _ _ _ h=>h⟩
 ·intro j o e
  have e:(σ.obj.set i .dead)[j]?=some o:=e
  by_cases hj:j=i
  ·subst hj
   rw[List.getElem?_set_self (R.objn▸(List.getElem?_eq_some_iff.mp hi).1)]at e
   cases e
   exact⟨p,hi,trivial⟩
  ·rw[List.getElem?_set_ne (Ne.symm hj)]at e
   exact(R.obj j o e).imp fun q h=>⟨h.1,h.2.nx nx (fun z=>⟨z,fun z=>hj (nodup_idx R.nodup h.1 hi z)⟩) fun _ e=>e⟩
 ·exact List.length_set.trans R.objn
theorem ns_slots{h h':Heap}{a:Addr}{m:Str→Option Value}(hn:h.Ns a m)(x:∀o,h.get? a=some o→∃sl,h'.get? a=some {o with slots:=sl}):h'.Ns a m:=by
 obtain⟨o,es,ep,ho,hd,r⟩:=hn
 obtain⟨sl,hs⟩:=x o ho
 exact⟨_,es,ep,hs,hd,r⟩
theorem Rel.locZ{c:FC}{σ:St}{k:Cs}(ok:c.Ok)(R:Rel c σ k):k.Z c.fe.locals:=by
 rcases ok.fo with h|h
 ·rw[h];exact R.lz
 ·exact R.z0 _ (ok.fz _ h)
structure After(c:FC)(k k':Cs)(m:Addr→Prop)(F':List Addr):Prop where
 r:k'.r=k.r
 rest:k'.s={k.s with heap:=k'.s.heap,toks:=k'.s.toks}
 hF:∀b∈F',b∈c.F∨(b=c.fe.locals∧c.fe.locals=c.env.locals)
 hm:∀b,m b→k.Z b∧b≠c.env.locals∧(∀q∈c.env.cells,b≠q.2)∧(c.m0 b∨c.k0.s.heap.get? b=none)∧b∉c.F
 keep:∀b o,¬m b→b∉F'→k.s.heap.get? b=some o→k'.s.heap.get? b=some o
 fr:∀b o,b∈F'→k.s.heap.get? b=some o→∃sl,k'.s.heap.get? b=some {o with slots:=sl}
 z0:∀b,k.Z b→k'.Z b
 zx:∀b,k'.Z b→∃o,k'.s.heap.get? b=some o
 zup:∀b,k'.Z b→k.Z b∨k.s.heap.get? b=none
theorem After.slots{c:FC}{k k':Cs}{m:Addr→Prop}{F':List Addr}(x:After c k k' m F'){b:Addr}{o:Obj}(h:¬m b)(e:k.s.heap.get? b=some o):∃sl,k'.s.heap.get? b=some {o with slots:=sl}:=by
 by_cases q:b∈F'
 ·exact x.fr b o q e
 ·exact⟨o.slots,x.keep b o h q e⟩
theorem After.nx{c:FC}{σ:St}{k k':Cs}{m:Addr→Prop}{F':List Addr}(ok:c.Ok)(R:Rel c σ k)(x:After c k k' m F'):Nx k k':=by
 refine⟨fun b o e=>⟨x.keep b o (fun q=>e.2 (x.hm b q).1) (fun q=>e.2 ?_) e.1,fun z=>?_⟩,by rw[x.r];exact List.prefix_refl _⟩
 ·rcases x.hF b q with q|q
  ·exact R.z0 _ (ok.fz _ q)
  ·rw[q.1];exact R.locZ ok
 ·rcases x.zup b z with q|q
  ·exact e.2 q
  ·rw[e.1]at q;cases q
theorem Rel.after{c:FC}{σ:St}{k k':Cs}{m:Addr→Prop}{F':List Addr}{H:List AO}(ok:c.Ok)(R:Rel c σ k)(x:After c k k' m F')
  (obj:∀(i:Nat)(o:AO),H[i]?=some o→∃p:Addr×Addr,k.r[i]?=some p∧ORel k' p o)(hl:H.length=σ.obj.length):Rel c {σ with obj:=H} k':=by
 have nx:=x.nx ok R
 have mF:∀b,m b→∀o,c.k0.s.heap.get? b=some o→c.m0 b:=fun b q o e=>by
  rcases(x.hm b q).2.2.2.1 with h|h
  ·exact h
  ·rw[e]at h;cases h
 refine⟨?_,fun b o a1 a2 e=>?_,fun b o a e=>?_,fun b z=>x.z0 b (R.z0 b z),x.zx,fun b z=>?_,?_,x.z0 _ R.lz,fun q hq=>x.z0 _ (R.cz q hq),fun i o e=>?_,?_,fun p hp=>?_,?_,fun b hb hz=>?_,?_,fun i p hi hp=>?_⟩
 ·have h1:=R.rest
  have h2:=x.rest
  rw[h1]at h2
  exact h2
 ·refine x.keep b o (fun q=>a1 (mF b q o e)) (fun q=>?_) (R.keep b o a1 a2 e)
  rcases x.hF b q with q|q
  ·exact a2 q
  ·rw[q.1,q.2]at a1 e
   rcases(R.mine _ zbv R.lz).1 with h|h
   ·exact a1 h
   ·rw[e]at h;cases h
 ·obtain⟨sl,q⟩:=R.fr b o a e
  obtain⟨sl',q'⟩:=x.slots (fun z=>(x.hm b z).2.2.2.2 a) q
  exact⟨sl',q'⟩
 ·rcases x.zup b z with q|q
  ·exact R.zup b q
  ·exact .inr (R.fresh ok q)
 ·refine R.ns.imp fun mm h=>⟨ns_slots h.1 fun o e=>x.slots (fun z=>(x.hm _ z).2.1 rfl) e,fun i a e=>(h.2 i a e).nx nx fun b v q hc=>?_⟩
  obtain⟨o,e3,e4⟩:=hc
  exact(x.slots (fun z=>(x.hm _ z).2.2.1 _ (zak q) rfl) e3).elim fun sl e5=>⟨_,e5,e4⟩
 ·exact(obj i o e).imp fun p h=>⟨x.r.symm▸h.1,h.2⟩
 ·rw[x.r];exact hl.trans R.objn
 ·rw[x.r]at hp
  obtain⟨o,e⟩:=R.rx p hp
  by_cases q:m p.2
  ·exact x.zx _ (x.z0 _ (x.hm _ q).1)
  ·obtain⟨sl,e⟩:=x.slots q e;exact⟨_,e⟩
 ·unfold own;rw[x.r];exact R.nodup
 ·have hb':b∈mown c k:=by unfold mown at hb ⊢;rw[x.r]at hb;exact hb
  rcases x.zup b hz with q|q
  ·exact R.mine b hb' q
  ·obtain⟨o,e⟩:=R.ownx b (mown_own hb')
   rw[q]at e;cases e
 ·obtain⟨o,e,q⟩:=R.floc
  have hnm:¬m c.fe.locals:=fun z=>by
   rcases ok.fo with h|h
   ·exact(x.hm _ z).2.1 h
   ·exact(x.hm _ z).2.2.2.2 h
  obtain⟨sl,e'⟩:=x.slots hnm e
  exact⟨_,e',q⟩
 ·rw[x.r]at hp;exact R.new i p hi hp
theorem After.orel{c:FC}{σ:St}{k k':Cs}{m:Addr→Prop}{F':List Addr}{i:Nat}{p:Addr×Addr}{o:AO}(ok:c.Ok)(R:Rel c σ k)(x:After c k k' m F')(hp:k.r[i]?=some p)(ho:ORel k p o)(hm:k.Z p.2→¬m p.2):ORel k' p o:=
 ho.nxZ (x.nx ok R) (x.z0 _) fun z o=>x.keep _ o (hm z) fun hF=>(x.hF _ hF).elim (R.mine _ (zex (List.mem_of_getElem? hp)) z).2 fun q=>(R.obj_ne ok hp z).1 (q.1.trans q.2)
theorem Rel.after0{c:FC}{σ:St}{k k':Cs}{m:Addr→Prop}{F':List Addr}(ok:c.Ok)(R:Rel c σ k)(x:After c k k' m F')(hm:∀p∈k.r,¬m p.2):Rel c σ k':=
 R.after ok x (H:=σ.obj) (fun i o e=>(R.obj i o e).imp fun p h=>⟨h.1,x.orel ok R h.1 h.2 fun _=>hm p (List.mem_of_getElem? h.1)⟩) rfl
theorem Rel.after1{c:FC}{σ:St}{k k':Cs}{m:Addr→Prop}{F':List Addr}{i:Nat}{p:Addr×Addr}{o':AO}(ok:c.Ok)(R:Rel c σ k)(x:After c k k' m F')(hi:k.r[i]?=some p)(hm:∀b,m b→b=p.2)(ho:ORel k' p o'):Rel c {σ with obj:=σ.obj.set i o'} k':=by
 refine R.after ok x (fun j o e=>?_) List.length_set
 by_cases hj:j=i
 ·subst hj
  rw[List.getElem?_set_self (R.objn▸(List.getElem?_eq_some_iff.mp hi).1)]at e
  exact⟨p,hi,Option.some.inj e▸ho⟩
 ·rw[List.getElem?_set_ne (Ne.symm hj)]at e
  exact(R.obj j o e).imp fun q h=>⟨h.1,x.orel ok R h.1 h.2 fun _ z=>hj (nodup_idx R.nodup h.1 hi (hm _ z))⟩
noncomputable def Cs.hide(k:Cs)(L:List Addr)(h:Heap)(t:Nat):Cs:=⟨fun b=>k.Z b∨b∈L,k.r,{k.s with heap:=h,toks:=t}⟩
theorem Rel.hide{c:FC}{σ:St}{k:Cs}(ok:c.Ok)(R:Rel c σ k){L:List Addr}{h':Heap}(x:Grow k h')(hd:∀b∈L,k.s.heap.get? b=none)(hx:∀b∈L,∃o,h'.get? b=some o)(t:Nat):
  After c k (k.hide L h' t) (fun _=>False) []∧Rel c σ (k.hide L h' t):=by
 have A:After c k (k.hide L h' t) (fun _=>False) []:=⟨rfl,rfl,fun _ h=>(nomatch h),fun _ h=>h.elim,fun b o _ _ e=>x.keep b o e,fun _ _ h=>(nomatch h),fun _ z=> .inl z,
  fun b z=>z.elim (fun z=>let⟨o,e⟩:=R.zx b z;⟨o,x.keep _ _ e⟩) (hx b),fun b z=>z.imp id (hd b)⟩
 exact⟨A,R.after0 ok A fun _ _ h=>h⟩
theorem Rel.setObj{c:FC}{σ:St}{k:Cs}(ok:c.Ok)(R:Rel c σ k){i:Nat}{p:Addr×Addr}(hi:k.r[i]?=some p)(hz:k.Z p.2){h':Heap}{t:Nat}(x:But k p.2 h')(hzx:∃o,h'.get? p.2=some o){o':AO}(ho':ORel (k.at h' t) p o'):
  Rel c {σ with obj:=σ.obj.set i o'} (k.at h' t):=by
 obtain⟨n1,n2,n3⟩:=R.obj_ne ok hi hz
 have hm:=R.mine _ (zex (List.mem_of_getElem? hi)) hz
 exact R.after1 ok (m:=(· =p.2)) (F':=[]) ⟨rfl,rfl,fun _ h=>(nomatch h),fun b q=>q▸⟨hz,n1,n2,hm⟩,fun b o q _ e=>x.keep b o q e,fun _ _ h=>(nomatch h),fun _ z=>z,fun b z=>x.ex hzx (R.zx b z),fun _=> .inl⟩ hi (fun _ q=>q) ho'
noncomputable def FC.re(c:FC)(k:Cs):FC:={c with k0:=k,m0:=fun b=>b∈mown c k∧k.Z b,n0:=k.r.length,cw:=False}
theorem FC.re_ok{c:FC}{σ:St}{k:Cs}(ok:c.Ok)(R:Rel c σ k):(c.re k).Ok where
 kin:=ok.kin
 top:=ok.top
 base:=fun b o e=>by
  obtain⟨h1,h2⟩:=R.base ok b o e
  obtain⟨e1,e2,e3,e4⟩:=ok.base b o e
  exact⟨h1,h2,e3,fun q=>h2 q.2⟩
 hd:=ok.hd
 units:=ok.units
 depth:=ok.depth
 kind:=ok.kind
 glob:=ok.glob
 blt:=ok.blt
 frames:=ok.frames
 fo:=ok.fo
 fframe:=ok.fframe
 fkind:=ok.fkind
 outs:=fun e he=>by
  obtain⟨h1,L,o,h2,h3,h4,h5⟩:=ok.outs e he
  obtain⟨sl,q⟩:=R.fr L o h3 h4
  exact⟨h1,L,_,h2,h3,q,h5⟩
 fz:=fun b hb=>R.z0 _ (ok.fz b hb)
 fm:=fun b hb q=>(R.mine b q.1 q.2).2 hb
 zx:=R.zx
 mz:=fun b q=>q.2
 guards:=ok.guards
 cfresh:=fun h=>h.elim
 cellx:=ok.cellx
 fok:=fun b hb=>by
  obtain⟨ob,h1,h2⟩:=ok.fok b hb
  obtain⟨sl,q⟩:=R.fr b ob hb h1
  exact⟨_,q,h2⟩
theorem Rel.re{c:FC}{σ:St}{k:Cs}(ok:c.Ok)(R:Rel c σ k):Rel (c.re k) σ k where
 rest:=rfl
 keep:=fun _ _ _ _ e=>e
 fr:=fun _ o _ e=>⟨o.slots,e⟩
 z0:=fun _ z=>z
 zx:=R.zx
 zup:=fun _ z=> .inl z
 ns:=R.ns
 lz:=R.lz
 cz:=R.cz
 obj:=R.obj
 objn:=R.objn
 rx:=R.rx
 nodup:=R.nodup
 mine:=fun b hb hz=>⟨.inl ⟨hb,hz⟩,(R.mine b hb hz).2⟩
 floc:=R.floc
 new:=fun i p hi hp=>by
  have:=(List.getElem?_eq_some_iff.mp hp).1
  exact absurd this (Nat.not_lt.mpr hi)
theorem Rel.back{c:FC}{σ σ':St}{k k':Cs}(ok:c.Ok)(R:Rel c σ k)(R':Rel (c.re k) σ' k')(x:Nx k k'):Rel c σ' k' where
 rest:=by
  have h1:=R.rest
  have h2:=R'.rest
  have e:(c.re k).k0.s=k.s:=rfl
  rw[e,h1]at h2
  exact h2
 keep:=fun b o a1 a2 e=>R'.keep b o (fun q=>by
  rcases(R.mine b q.1 q.2).1 with h|h
  ·exact a1 h
  ·rw[e]at h;cases h) a2 (R.keep b o a1 a2 e)
 fr:=fun b o a e=>let⟨_,q⟩:=R.fr b o a e;let⟨sl,q'⟩:=R'.fr b _ a q;⟨sl,q'⟩
 z0:=fun b z=>R'.z0 b (R.z0 b z)
 zx:=R'.zx
 zup:=fun b z=>(R'.zup b z).elim (R.zup b) fun q=> .inr (R.fresh ok q)
 ns:=R'.ns
 lz:=R'.lz
 cz:=R'.cz
 obj:=R'.obj
 objn:=R'.objn
 rx:=R'.rx
 nodup:=R'.nodup
 mine:=fun b hb hz=>by
  obtain⟨h1,h2⟩:=R'.mine b hb hz
  refine⟨?_,h2⟩
  rcases h1 with h|h
  ·exact(R.mine b h.1 h.2).1
  ·exact .inr (R.fresh ok h)
 floc:=R'.floc
 new:=fun i p hi hp=>by
  by_cases h:i<k.r.length
  ·obtain⟨t,e⟩:=x.r
   refine R.new i p hi ?_
   rw[←e,List.getElem?_append_left h]at hp
   exact hp
  ·exact R.fresh ok (R'.new i p (Nat.not_lt.mp h) hp)
set_option genCtorIdx true in
inductive BI where
 |len|min|max|int|chr|ord|str|repr|sum|range
set_option genCtorIdx true in
inductive SM where
 |join|isalnum|endswith|append|pop|get|bit_length
noncomputable def BI.name:BI→String
 | .len=>"len"| .min=>"min"| .max=>"max"| .int=>"int"| .chr=>"chr"| .ord=>"ord"| .str=>"str"| .repr=>"repr"| .sum=>"sum"| .range=>"range"
noncomputable def SM.name:SM→String
 | .join=>"join"| .isalnum=>"isalnum"| .endswith=>"endswith"| .append=>"append"| .pop=>"pop"| .get=>"get"| .bit_length=>"bit_length"
mutual
inductive X where
 |loc(i:Nat)(p:Pos)
 |const(c:Const)(p:Pos)
 |glob(i:Nat)(p:Pos)
 |attr(e:X)(f:Nat)(p:Pos)
 |bin(op:Operator)(a b:X)(p:Pos)
 |cmp(op:CmpOp)(a b:X)(p:Pos)
 |cmp2(o1 o2:CmpOp)(a b c:X)(p:Pos)
 |and(l:Xs)(p:Pos)
 |or(l:Xs)(p:Pos)
 |not(a:X)(p:Pos)
 |ite(t a b:X)(p:Pos)
 |sub(e i:X)(p:Pos)
 |sl(e lo hi:X)(ps p:Pos)
 |slTo(e hi:X)(ps p:Pos)
 |slFrom(e lo:X)(ps p:Pos)
 |tup(l:Xs)(p:Pos)
 |list(l:Xs)(p:Pos)
 |listM(l:Xs)(p:Pos)
 |opsGet(e1 e2:X)(q1 q2 q3 q4 pd pa p:Pos)
 |call(f:Nat)(l:Xs)(pn p:Pos)
 |ctor(c:Addr)(l:Xs)(pn p:Pos)
 |err(a b:X)(pn p:Pos)
 |meth(o:X)(m:Nat)(l:Xs)(pa p:Pos)
 |bi(b:BI)(l:Xs)(pn p:Pos)
 |sm(o:X)(m:SM)(l:Xs)(pa p:Pos)
 |comp(elt:X)(i:Nat)(pi:Pos)(it:X)(cap:List Nat)(sc:Scope)(p:Pos)
 |frz(n:Nat)(e:X)
inductive Xs where
 |nil
 |cons(x:X)(r:Xs)
end
inductive S where
 |set(i:Nat)(pi:Pos)(e:X)(p:Pos)
 |setT(is:List (Nat×Pos))(pt:Pos)(l:Xs)(pe p:Pos)
 |setU(is:List (Nat×Pos))(pt:Pos)(e:X)(p:Pos)
 |seta(o:X)(f:Nat)(e:X)(pt p:Pos)
 |seti(o i e:X)(pt p:Pos)
 |exp(e:X)(p:Pos)
 |ret(e:X)(p:Pos)
 |raise(e:X)(p:Pos)
mutual
inductive B where
 |s(x:S)
 |ifs(t:X)(a b:Bs)(p:Pos)
 |whl(t:X)(b:Bs)(p:Pos)
 |for_(i:Nat)(pi:Pos)(it:X)(b:Bs)(p:Pos)
 |for2(i j:Nat)(pi pj pt:Pos)(it:X)(b:Bs)(p:Pos)
inductive Bs where
 |nil
 |cons(x:B)(r:Bs)
end
noncomputable def Xs.nilB:Xs→Bool
 | .nil=>true
 | .cons _ _=>false
theorem Xs.cnn{x:X}{r:Xs}:Xs.cons x r≠ .nil:=fun e=>Bool.noConfusion (congrArg Xs.nilB e)
noncomputable def fnames:List String:=["position_of","hex_escape","escaped_sign","escaped","refused","scan_dollar","scan_sign","scan_action","joined","parse_action","level_of","show_within","show_expression","show_block","show_statement","show_action","_law_signs","_law_sizes","_law_words","_law_draw","_law_leaf","_law_tree","_law_statement","_law_groups","_law_read","_law_bent_right","law"]
noncomputable def fname(f:Nat):String:=fnames.getD f "?"
noncomputable def cname(c:Addr):String:=if c=46 then "Position" else if c=222 then "Cursor" else if c=267 then "Part" else if c=436 then "ActionReader" else "?"
noncomputable def mnames:List (Addr×String):=[(222,"is_done"),(222,"peek"),(222,"starts"),(222,"take"),(222,"skip"),(222,"take_while"),(222,"skip_blanks"),(222,"name"),(222,"number"),(222,"coded"),(222,"escape"),(222,"quoted"),
 (436,"here"),(436,"refuse"),(436,"is_sign"),(436,"skip"),(436,"need"),(436,"take"),(436,"whole"),(436,"is_closed"),(436,"statements"),(436,"block"),(436,"condition"),(436,"choice"),(436,"statement"),(436,"expression"),(436,"unary"),(436,"atom"),(436,"items")]
noncomputable def mname(m:Nat):String:=(mnames.getD m (0,"?")).2
noncomputable def mcls(m:Nat):Addr:=(mnames.getD m (0,"?")).1
noncomputable def gtab:List (String×AV):=[("FIGURES", .d (.str (Str.ofString "0123456789"))),
 ("NAME_SIGNS", .d (.str (Str.ofString "abcdefghijklmnopqrstuvwxyzABCDEFGHIJKLMNOPQRSTUVWXYZ_0123456789"))),
 ("HEX_SIGNS", .d (.str (Str.ofString "0123456789abcdefABCDEF"))),
 ("OCTAL_SIGNS", .d (.str (Str.ofString "01234567"))),
 ("MOST_FIGURES", .d (.int 4000)),
 ("MOST_BITS", .d (.int 512)),
 ("SIGNS_OF_ONE", .d (.str (Str.ofString "+-*/%!<>=;,(){}[]"))),
 ("BLANKS", .d (.str (Str.ofString " \t\n\r"))),
 ("WORDS", .d (.tuple [(.str (Str.ofString "yyerrok")),(.str (Str.ofString "yyclearin")),(.str (Str.ofString "YYERROR")),(.str (Str.ofString "YYABORT")),(.str (Str.ofString "YYACCEPT"))])),
 ("SIGNS_OF_TWO", .d (.tuple [(.str (Str.ofString "||")),(.str (Str.ofString "&&")),(.str (Str.ofString "==")),(.str (Str.ofString "!=")),(.str (Str.ofString "<=")),(.str (Str.ofString ">="))])),
 ("RESERVED", .d (.tuple [(.str (Str.ofString "if")),(.str (Str.ofString "else")),(.str (Str.ofString "while")),(.str (Str.ofString "yyerrok")),(.str (Str.ofString "yyclearin")),(.str (Str.ofString "YYERROR")),(.str (Str.ofString "YYABORT")),(.str (Str.ofString "YYACCEPT"))])),
 ("PLAIN_ESCAPES", .tab 22),
 ("LEVELS", .tab 249)]
noncomputable def gname(i:Nat):String:=(gtab.getD i ("?", .rng 0)).1
noncomputable def gval(i:Nat):AV:=(gtab.getD i ("?", .rng 0)).2
noncomputable def faddrs:List Addr:=[57,233,240,245,278,285,292,299,447,454,461,468,473,480,487,492,499,506,513,520,525,530,535,542,549,556,561]
noncomputable def maddrs:List Addr:=[119,127,134,141,148,155,170,177,184,205,212,219,320,327,335,342,349,356,363,370,377,384,391,398,405,412,419,426,433]
noncomputable def iaddrs:List Addr:=[36,112,264,313]
noncomputable def fadr(f:Nat):Addr:=if f<100 then faddrs.getD f 0 else if f<200 then maddrs.getD (f-100) 0 else iaddrs.getD (f-200) 0
mutual
noncomputable def X.py:X→Expr
 | .loc i p=> .Name (nm i) p
 | .const c p=> .Constant c 0 p
 | .glob i p=> .Name (Str.ofString (gname i)) p
 | .attr e f p=> .Attribute e.py (nm f) p
 | .bin op a b p=> .BinOp a.py op b.py p
 | .cmp op a b p=> .Compare a.py [op] [b.py] p
 | .cmp2 o1 o2 a b c p=> .Compare a.py [o1,o2] [b.py,c.py] p
 | .and l p=> .BoolOp .And l.py p
 | .or l p=> .BoolOp .Or l.py p
 | .not a p=> .UnaryOp .Not a.py p
 | .ite t a b p=> .IfExp t.py a.py b.py p
 | .sub e i p=> .Subscript e.py i.py p
 | .sl e lo hi ps p=> .Subscript e.py (.Slice (some lo.py) (some hi.py) none ps) p
 | .slTo e hi ps p=> .Subscript e.py (.Slice none (some hi.py) none ps) p
 | .slFrom e lo ps p=> .Subscript e.py (.Slice (some lo.py) none none ps) p
 | .tup l p=> .Tuple l.py 0 p
 | .list l p=> .List l.py p
 | .listM l p=> .List l.py p
 | .opsGet e1 e2 q1 q2 q3 q4 pd pa p=> .Call (.Attribute (.Dict [some (.Constant (.str (Str.ofString "either")) 0 q1),some (.Constant (.str (Str.ofString "both")) 0 q3)] [.Constant (.str (Str.ofString "||")) 0 q2, .Constant (.str (Str.ofString "&&")) 0 q4] pd) (Str.ofString "get") pa) [e1.py,e2.py] [] p
 | .call f l pn p=> .Call (.Name (Str.ofString (fname f)) pn) l.py [] p
 | .ctor c l pn p=> .Call (.Name (Str.ofString (cname c)) pn) l.py [] p
 | .err a b pn p=> .Call (.Name (Str.ofString "ActionError") pn) [a.py,b.py] [] p
 | .meth o m l pa p=> .Call (.Attribute o.py (Str.ofString (mname m)) pa) l.py [] p
 | .bi b l pn p=> .Call (.Name (Str.ofString b.name) pn) l.py [] p
 | .sm o m l pa p=> .Call (.Attribute o.py (Str.ofString m.name) pa) l.py [] p
 | .comp elt i pi it _ sc p=> .ListComp elt.py [⟨.Name (nm i) pi,it.py,[],0⟩] sc p
 | .frz _ e=>e.py
noncomputable def Xs.py:Xs→List Expr
 | .nil=> []
 | .cons x r=>x.py::r.py
end
noncomputable def names(is:List (Nat×Pos)):List Expr:=is.map fun q=> .Name (nm q.1) q.2
noncomputable def S.py:S→Stmt
 | .set i pi e p=> .Assign [.Name (nm i) pi] e.py p
 | .setT is pt l pe p=> .Assign [.Tuple (names is) 0 pt] (.Tuple l.py 0 pe) p
 | .setU is pt e p=> .Assign [.Tuple (names is) 0 pt] e.py p
 | .seta o f e pt p=> .Assign [.Attribute o.py (nm f) pt] e.py p
 | .seti o i e pt p=> .Assign [.Subscript o.py i.py pt] e.py p
 | .exp e p=> .Expr e.py p
 | .ret e p=> .Return (some e.py) p
 | .raise e p=> .Raise (some e.py) none p
mutual
noncomputable def B.py:B→Stmt
 | .s x=>x.py
 | .ifs t a b p=> .If t.py a.py b.py p
 | .whl t b p=> .While t.py b.py [] p
 | .for_ i pi it b p=> .For (.Name (nm i) pi) it.py b.py [] p
 | .for2 i j pi pj pt it b p=> .For (.Tuple [.Name (nm i) pi, .Name (nm j) pj] 0 pt) it.py b.py [] p
noncomputable def Bs.py:Bs→List Stmt
 | .nil=> []
 | .cons x r=>x.py::r.py
end
end Mine
namespace Mine
open H (K vw loose pw st sti)
noncomputable def zad:Stmt→List Stmt
 | .FunctionDef _ _ b _ _ _ _ _ _ _=>b
 |_=> []
noncomputable section
namespace Y
noncomputable abbrev p(l a b:Nat):Pos:=⟨l,a,l,b⟩
noncomputable abbrev ks(x:String)(l a b:Nat):X:= .const (.str (Str.ofString x)) (p l a b)
noncomputable abbrev ki(i:Int)(l a b:Nat):X:= .const (.int i) (p l a b)
noncomputable abbrev v(i l a b:Nat):X:= .loc i (p l a b)
noncomputable abbrev l1(a:X):Xs:= .cons a .nil
noncomputable abbrev l2(a b:X):Xs:= .cons a (.cons b .nil)
noncomputable abbrev l3(a b c:X):Xs:= .cons a (.cons b (.cons c .nil))
noncomputable abbrev l4(a b c d:X):Xs:= .cons a (.cons b (.cons c (.cons d .nil)))
noncomputable abbrev bc(x:B)(r:Bs):Bs:= .cons x r
noncomputable abbrev st(x:S)(r:Bs):Bs:= .cons (.s x) r
end Y
open Y (p ks ki v l1 l2 l3 l4 bc)
noncomputable def zc6:Bs:=(Y.st (.seta (v 0 16 8 12) 2 (v 2 16 22 28) (p 16 8 19) (p 16 8 28)) (Y.st (.seta (v 0 17 8 12) 4 (v 4 17 20 24) (p 17 8 17) (p 17 8 24)) (Y.st (.seta (v 0 18 8 12) 56 (v 56 18 22 28) (p 18 8 19) (p 18 8 28)) .nil)))
noncomputable def zer:Bs:=(Y.st (.set 3 (p 23 4 6) (.bi .min (l2 (.bi .max (l2 (v 2 23 17 23) (ki 0 23 25 26)) (p 23 13 16) (p 23 13 27)) (.bi .len (l1 (v 1 23 33 37)) (p 23 29 32) (p 23 29 38))) (p 23 9 12) (p 23 9 39)) (p 23 4 39)) (Y.st (.set 4 (p 24 4 8) (ki 1 24 11 12) (p 24 4 12)) (Y.st (.set 5 (p 25 4 9) (ki 0 25 12 13) (p 25 4 13)) (bc (.for_ 6 (p 26 8 12) (.bi .range (l1 (v 3 26 22 24)) (p 26 16 21) (p 26 16 25)) (bc (.ifs (.cmp .Eq (.sub (v 1 27 11 15) (v 6 27 16 20) (p 27 11 21)) (ks "\n" 27 25 29) (p 27 11 29)) (Y.st (.set 4 (p 28 12 16) (.bin .Add (v 4 28 19 23) (ki 1 28 26 27) (p 28 19 27)) (p 28 12 27)) (Y.st (.set 5 (p 29 12 17) (.bin .Add (v 6 29 20 24) (ki 1 29 27 28) (p 29 20 28)) (p 29 12 28)) .nil)) .nil ⟨27,8,29,28⟩) .nil) ⟨26,4,29,28⟩) (Y.st (.ret (.ctor 46 (l3 (v 3 30 20 22) (v 4 30 24 28) (.bin .Add (.bin .Sub (v 3 30 30 32) (v 5 30 35 40) (p 30 30 40)) (ki 1 30 43 44) (p 30 30 44))) (p 30 11 19) (p 30 11 45)) (p 30 4 45)) .nil)))))
noncomputable def ze5:Bs:=(Y.st (.seta (v 0 45 8 12) 1 (v 1 45 20 24) (p 45 8 17) (p 45 8 24)) (Y.st (.seta (v 0 46 8 12) 3 (v 3 46 18 20) (p 46 8 15) (p 46 8 20)) .nil))
noncomputable def zc3:Bs:=(Y.st (.ret (.cmp .GtE (.attr (v 0 49 15 19) 3 (p 49 15 22)) (.bi .len (l1 (.attr (v 0 49 30 34) 1 (p 49 30 39))) (p 49 26 29) (p 49 26 40)) (p 49 15 40)) (p 49 8 40)) .nil)
noncomputable def zen:Bs:=(Y.st (.set 3 (p 52 8 10) (.bin .Add (.attr (v 0 52 13 17) 3 (p 52 13 20)) (v 8 52 23 28) (p 52 13 28)) (p 52 8 28)) (bc (.ifs (.cmp .Lt (v 3 53 11 13) (.bi .len (l1 (.attr (v 0 53 20 24) 1 (p 53 20 29))) (p 53 16 19) (p 53 16 30)) (p 53 11 30)) (Y.st (.ret (.sub (.attr (v 0 54 19 23) 1 (p 54 19 28)) (v 3 54 29 31) (p 54 19 32)) (p 54 12 32)) .nil) .nil ⟨53,8,54,32⟩) (Y.st (.ret (ks "" 55 15 17) (p 55 8 17)) .nil)))
noncomputable def zdg:Bs:=(Y.st (.ret (.cmp .Eq (.sl (.attr (v 0 58 15 19) 1 (p 58 15 24)) (.attr (v 0 58 25 29) 3 (p 58 25 32)) (.bin .Add (.attr (v 0 58 33 37) 3 (p 58 33 40)) (.bi .len (l1 (v 9 58 47 51)) (p 58 43 46) (p 58 43 52)) (p 58 33 52)) (p 58 25 52) (p 58 15 53)) (v 9 58 57 61) (p 58 15 61)) (p 58 8 61)) .nil)
noncomputable def zev:Bs:=(bc (.ifs (.meth (v 0 61 11 15) 0 .nil (p 61 11 23) (p 61 11 25)) (Y.st (.ret (ks "" 62 19 21) (p 62 12 21)) .nil) .nil ⟨61,8,62,21⟩) (Y.st (.set 10 (p 63 8 12) (.sub (.attr (v 0 63 15 19) 1 (p 63 15 24)) (.attr (v 0 63 25 29) 3 (p 63 25 32)) (p 63 15 33)) (p 63 8 33)) (Y.st (.seta (v 0 64 8 12) 3 (.bin .Add (.attr (v 0 64 18 22) 3 (p 64 18 25)) (ki 1 64 28 29) (p 64 18 29)) (p 64 8 15) (p 64 8 29)) (Y.st (.ret (v 10 65 15 19) (p 65 8 19)) .nil))))
noncomputable def zeu:Bs:=(bc (.ifs (.not (.meth (v 0 68 15 19) 2 (l1 (v 9 68 27 31)) (p 68 15 26) (p 68 15 32)) (p 68 11 32)) (Y.st (.ret (.const (.bool false) (p 69 19 24)) (p 69 12 24)) .nil) .nil ⟨68,8,69,24⟩) (Y.st (.seta (v 0 70 8 12) 3 (.bin .Add (.attr (v 0 70 18 22) 3 (p 70 18 25)) (.bi .len (l1 (v 9 70 32 36)) (p 70 28 31) (p 70 28 37)) (p 70 18 37)) (p 70 8 15) (p 70 8 37)) (Y.st (.ret (.const (.bool true) (p 71 15 19)) (p 71 8 19)) .nil)))
noncomputable def zbz:Bs:=(Y.st (.set 5 (p 74 8 13) (.attr (v 0 74 16 20) 3 (p 74 16 23)) (p 74 8 23)) (bc (.whl (.and (l2 (.cmp .Lt (.attr (v 0 75 14 18) 3 (p 75 14 21)) (.bi .len (l1 (.attr (v 0 75 28 32) 1 (p 75 28 37))) (p 75 24 27) (p 75 24 38)) (p 75 14 38)) (.cmp .In (.sub (.attr (v 0 75 43 47) 1 (p 75 43 52)) (.attr (v 0 75 53 57) 3 (p 75 53 60)) (p 75 43 61)) (v 11 75 65 70) (p 75 43 70))) (p 75 14 70)) (Y.st (.seta (v 0 76 12 16) 3 (.bin .Add (.attr (v 0 76 22 26) 3 (p 76 22 29)) (ki 1 76 32 33) (p 76 22 33)) (p 76 12 19) (p 76 12 33)) .nil) ⟨75,8,76,33⟩) (Y.st (.ret (.sl (.attr (v 0 77 15 19) 1 (p 77 15 24)) (v 5 77 25 30) (.attr (v 0 77 31 35) 3 (p 77 31 38)) (p 77 25 38) (p 77 15 39)) (p 77 8 39)) .nil)))
noncomputable def zbu:Bs:=(Y.st (.exp (.meth (v 0 83 8 12) 5 (l1 (v 11 83 24 29)) (p 83 8 23) (p 83 8 30)) (p 83 8 30)) .nil)
noncomputable def zem:Bs:=(Y.st (.set 6 (p 86 8 12) (.meth (v 0 86 15 19) 1 .nil (p 86 15 24) (p 86 15 26)) (p 86 8 26)) (bc (.ifs (.or (l3 (.cmp .Eq (v 6 87 11 15) (ks "" 87 19 21) (p 87 11 21)) (.cmp .NotIn (v 6 87 25 29) (.glob 1 (p 87 37 47)) (p 87 25 47)) (.cmp .In (v 6 87 51 55) (.glob 0 (p 87 59 66)) (p 87 51 66))) (p 87 11 66)) (Y.st (.ret (ks "" 88 19 21) (p 88 12 21)) .nil) .nil ⟨87,8,88,21⟩) (Y.st (.ret (.meth (v 0 89 15 19) 5 (l1 (.glob 1 (p 89 31 41))) (p 89 15 30) (p 89 15 42)) (p 89 8 42)) .nil)))
noncomputable def zde:Bs:=(Y.st (.set 5 (p 92 8 13) (.attr (v 0 92 16 20) 3 (p 92 16 23)) (p 92 8 23)) (Y.st (.set 12 (p 93 8 15) (.meth (v 0 93 18 22) 5 (l1 (.glob 0 (p 93 34 41))) (p 93 18 33) (p 93 18 42)) (p 93 8 42)) (bc (.ifs (.or (l2 (.cmp .Eq (v 12 94 11 18) (ks "" 94 22 24) (p 94 11 24)) (.cmp .Gt (.bi .len (l1 (v 12 94 32 39)) (p 94 28 31) (p 94 28 40)) (.glob 4 (p 94 43 55)) (p 94 28 55))) (p 94 11 55)) (Y.st (.seta (v 0 95 12 16) 3 (v 5 95 22 27) (p 95 12 19) (p 95 12 27)) (Y.st (.ret (.const .none (p 96 19 23)) (p 96 12 23)) .nil)) .nil ⟨94,8,96,23⟩) (Y.st (.ret (.bi .int (l1 (v 12 97 19 26)) (p 97 15 18) (p 97 15 27)) (p 97 8 27)) .nil))))
noncomputable def zd9:Bs:=(Y.st (.set 15 (p 106 8 12) (ki 0 106 15 16) (p 106 8 16)) (Y.st (.set 16 (p 107 8 13) (ki 0 107 16 17) (p 107 8 17)) (bc (.whl (.and (l3 (.cmp .Lt (v 16 108 14 19) (v 13 108 22 26) (p 108 14 26)) (.cmp .NotEq (.meth (v 0 108 31 35) 1 .nil (p 108 31 40) (p 108 31 42)) (ks "" 108 46 48) (p 108 31 48)) (.cmp .In (.meth (v 0 108 54 58) 1 .nil (p 108 54 63) (p 108 54 65)) (v 11 108 69 74) (p 108 54 74))) (p 108 14 75)) (Y.st (.set 15 (p 109 12 16) (.bin .Add (.bin .Mult (v 15 109 19 23) (v 14 109 26 30) (p 109 19 30)) (.bi .int (l2 (.meth (v 0 109 37 41) 3 .nil (p 109 37 46) (p 109 37 48)) (ki 16 109 50 52)) (p 109 33 36) (p 109 33 53)) (p 109 19 53)) (p 109 12 53)) (Y.st (.set 16 (p 110 12 17) (.bin .Add (v 16 110 20 25) (ki 1 110 28 29) (p 110 20 29)) (p 110 12 29)) .nil)) ⟨108,8,110,29⟩) (Y.st (.ret (.bi .chr (l1 (v 15 111 19 23)) (p 111 15 18) (p 111 15 24)) (p 111 8 24)) .nil))))
noncomputable def zc8:Bs:=(Y.st (.set 10 (p 114 8 12) (.meth (v 0 114 15 19) 1 .nil (p 114 15 24) (p 114 15 26)) (p 114 8 26)) (bc (.ifs (.cmp .Eq (v 10 115 11 15) (ks "" 115 19 21) (p 115 11 21)) (Y.st (.ret (ks "" 116 19 21) (p 116 12 21)) .nil) .nil ⟨115,8,116,21⟩) (bc (.ifs (.cmp .In (v 10 117 11 15) (.glob 11 (p 117 19 32)) (p 117 11 32)) (Y.st (.exp (.meth (v 0 118 12 16) 3 .nil (p 118 12 21) (p 118 12 23)) (p 118 12 23)) (Y.st (.ret (.bi .chr (l1 (.sub (.glob 11 (p 119 23 36)) (v 10 119 37 41) (p 119 23 42))) (p 119 19 22) (p 119 19 43)) (p 119 12 43)) .nil)) .nil ⟨117,8,119,43⟩) (bc (.ifs (.cmp .In (v 10 120 11 15) (.glob 3 (p 120 19 30)) (p 120 11 30)) (Y.st (.ret (.meth (v 0 121 19 23) 9 (l3 (.glob 3 (p 121 30 41)) (ki 3 121 43 44) (ki 8 121 46 47)) (p 121 19 29) (p 121 19 48)) (p 121 12 48)) .nil) .nil ⟨120,8,121,48⟩) (bc (.ifs (.and (l3 (.cmp .Eq (v 10 122 11 15) (ks "x" 122 19 22) (p 122 11 22)) (.cmp .NotEq (.meth (v 0 122 27 31) 1 (l1 (ki 1 122 37 38)) (p 122 27 36) (p 122 27 39)) (ks "" 122 43 45) (p 122 27 45)) (.cmp .In (.meth (v 0 122 51 55) 1 (l1 (ki 1 122 61 62)) (p 122 51 60) (p 122 51 63)) (.glob 2 (p 122 67 76)) (p 122 51 76))) (p 122 11 77)) (Y.st (.exp (.meth (v 0 123 12 16) 3 .nil (p 123 12 21) (p 123 12 23)) (p 123 12 23)) (Y.st (.ret (.meth (v 0 124 19 23) 9 (l3 (.glob 2 (p 124 30 39)) (ki 2 124 41 42) (ki 16 124 44 46)) (p 124 19 29) (p 124 19 47)) (p 124 12 47)) .nil)) .nil ⟨122,8,124,47⟩) (Y.st (.ret (.meth (v 0 125 15 19) 3 .nil (p 125 15 24) (p 125 15 26)) (p 125 8 26)) .nil))))))
noncomputable def zdp:Bs:=(Y.st (.set 11 (p 128 8 13) (.listM .nil (p 128 16 18)) (p 128 8 18)) (bc (.whl (.not (.meth (v 0 129 18 22) 0 .nil (p 129 18 30) (p 129 18 32)) (p 129 14 32)) (Y.st (.set 10 (p 130 12 16) (.meth (v 0 130 19 23) 3 .nil (p 130 19 28) (p 130 19 30)) (p 130 12 30)) (bc (.ifs (.cmp .Eq (v 10 131 15 19) (v 17 131 23 26) (p 131 15 26)) (Y.st (.ret (.sm (ks "" 132 23 25) .join (l1 (v 11 132 31 36)) (p 132 23 30) (p 132 23 37)) (p 132 16 37)) .nil) .nil ⟨131,12,132,37⟩) (bc (.ifs (.cmp .Eq (v 10 133 15 19) (ks "\\" 133 23 27) (p 133 15 27)) (Y.st (.set 10 (p 134 16 20) (.meth (v 0 134 23 27) 10 .nil (p 134 23 34) (p 134 23 36)) (p 134 16 36)) (bc (.ifs (.cmp .Eq (v 10 135 19 23) (ks "" 135 27 29) (p 135 19 29)) (Y.st (.ret (.const .none (p 136 27 31)) (p 136 20 31)) .nil) .nil ⟨135,16,136,31⟩) .nil)) .nil ⟨133,12,136,31⟩) (Y.st (.exp (.sm (v 11 137 12 17) .append (l1 (v 10 137 25 29)) (p 137 12 24) (p 137 12 30)) (p 137 12 30)) .nil)))) ⟨129,8,137,30⟩) (Y.st (.ret (.const .none (p 138 15 19)) (p 138 8 19)) .nil)))
noncomputable def zfl:Bs:=(Y.st (.set 12 (p 140 4 11) (ks "0123456789abcdef" 140 14 32) (p 140 4 32)) (Y.st (.ret (.bin .Add (.bin .Add (ks "\\x" 141 11 16) (.sub (v 12 141 19 26) (.bin .FloorDiv (v 15 141 27 31) (ki 16 141 35 37) (p 141 27 37)) (p 141 19 38)) (p 141 11 38)) (.sub (v 12 141 41 48) (.bin .Mod (v 15 141 49 53) (ki 16 141 56 58) (p 141 49 58)) (p 141 41 59)) (p 141 11 59)) (p 141 4 59)) .nil))
noncomputable def zeb:Bs:=(bc (.ifs (.cmp .Eq (v 10 143 7 11) (ks "\n" 143 15 19) (p 143 7 19)) (Y.st (.ret (ks "\\n" 144 15 20) (p 144 8 20)) .nil) .nil ⟨143,4,144,20⟩) (bc (.ifs (.cmp .Eq (v 10 145 7 11) (ks "\t" 145 15 19) (p 145 7 19)) (Y.st (.ret (ks "\\t" 146 15 20) (p 146 8 20)) .nil) .nil ⟨145,4,146,20⟩) (bc (.ifs (.or (l2 (.cmp .In (v 10 147 7 11) (v 18 147 15 20) (p 147 7 20)) (.cmp .Eq (v 10 147 24 28) (ks "\\" 147 32 36) (p 147 24 36))) (p 147 7 36)) (Y.st (.ret (.bin .Add (ks "\\" 148 15 19) (v 10 148 22 26) (p 148 15 26)) (p 148 8 26)) .nil) .nil ⟨147,4,148,26⟩) (Y.st (.set 15 (p 149 4 8) (.bi .ord (l1 (v 10 149 15 19)) (p 149 11 14) (p 149 11 20)) (p 149 4 20)) (bc (.ifs (.and (l2 (.or (l2 (.cmp .Lt (v 15 150 8 12) (ki 32 150 15 17) (p 150 8 17)) (.cmp .Gt (v 15 150 21 25) (ki 126 150 28 31) (p 150 21 31))) (p 150 8 31)) (.cmp .Lt (v 15 150 37 41) (ki 256 150 44 47) (p 150 37 47))) (p 150 7 47)) (Y.st (.ret (.call 1 (l1 (v 15 151 26 30)) (p 151 15 25) (p 151 15 31)) (p 151 8 31)) .nil) .nil ⟨150,4,151,31⟩) (Y.st (.ret (v 10 152 11 15) (p 152 4 15)) .nil))))))
noncomputable def b_escaped:Bs:=(Y.st (.ret (.sm (ks "" 154 11 13) .join (l1 (.comp (.call 2 (l2 (v 10 154 33 37) (v 17 154 39 42)) (p 154 20 32) (p 154 20 43)) 10 (p 154 48 52) (v 1 154 56 60) [17] {kind:= .function,names:=[(Str.ofString ".0", .local),(Str.ofString "sign", .local),(Str.ofString "escaped_sign", .globalImplicit),(Str.ofString "end", .free)],isGenerator:=false,isCoroutine:=false,more:=[]} (p 154 19 61))) (p 154 11 18) (p 154 11 62)) (p 154 4 62)) .nil)
noncomputable def zgt:Bs:=(Y.st (.seta (v 0 166 8 12) 19 (v 19 166 20 24) (p 166 8 17) (p 166 8 24)) (Y.st (.seta (v 0 167 8 12) 20 (v 20 167 21 26) (p 167 8 18) (p 167 8 26)) (Y.st (.seta (v 0 168 8 12) 2 (v 2 168 22 28) (p 168 8 19) (p 168 8 28)) .nil)))
noncomputable def b_refused:Bs:=(Y.st (.ret (.err (v 7 170 23 27) (.call 0 (l2 (v 1 170 41 45) (v 2 170 47 53)) (p 170 29 40) (p 170 29 54)) (p 170 11 22) (p 170 11 55)) (p 170 4 55)) .nil)
noncomputable def zew:Bs:=(bc (.ifs (.meth (v 21 172 7 13) 4 (l1 (ks "$" 172 19 22)) (p 172 7 18) (p 172 7 23)) (Y.st (.ret (.ctor 267 (l3 (ks "own" 173 20 25) (.const .none (p 173 27 31)) (v 22 173 33 38)) (p 173 15 19) (p 173 15 39)) (p 173 8 39)) .nil) .nil ⟨172,4,173,39⟩) (Y.st (.set 23 (p 174 4 10) (.meth (v 21 174 13 19) 8 .nil (p 174 13 26) (p 174 13 28)) (p 174 4 28)) (bc (.ifs (.cmp .Is (v 23 175 7 13) (.const .none (p 175 17 21)) (p 175 7 21)) (Y.st (.raise (.call 4 (l3 (ks "a dollar sign without a number" 176 22 54) (v 1 176 56 60) (v 22 176 62 67)) (p 176 14 21) (p 176 14 68)) (p 176 8 68)) .nil) .nil ⟨175,4,176,68⟩) (Y.st (.ret (.ctor 267 (l3 (ks "arg" 177 16 21) (v 23 177 23 29) (v 22 177 31 36)) (p 177 11 15) (p 177 11 37)) (p 177 4 37)) .nil))))
noncomputable def zg0:Bs:=(bc (.for_ 9 (p 179 8 12) (.glob 9 (p 179 16 28)) (bc (.ifs (.meth (v 21 180 11 17) 4 (l1 (v 9 180 23 27)) (p 180 11 22) (p 180 11 28)) (Y.st (.ret (.ctor 267 (l3 (ks "sign" 181 24 30) (v 9 181 32 36) (v 22 181 38 43)) (p 181 19 23) (p 181 19 44)) (p 181 12 44)) .nil) .nil ⟨180,8,181,44⟩) .nil) ⟨179,4,181,44⟩) (Y.st (.set 10 (p 182 4 8) (.meth (v 21 182 11 17) 1 .nil (p 182 11 22) (p 182 11 24)) (p 182 4 24)) (bc (.ifs (.or (l2 (.cmp .Eq (v 10 183 7 11) (ks "" 183 15 17) (p 183 7 17)) (.cmp .NotIn (v 10 183 21 25) (.glob 6 (p 183 33 45)) (p 183 21 45))) (p 183 7 45)) (Y.st (.raise (.call 4 (l3 (ks "a sign that means nothing in an action" 184 22 62) (v 1 184 64 68) (v 22 184 70 75)) (p 184 14 21) (p 184 14 76)) (p 184 8 76)) .nil) .nil ⟨183,4,184,76⟩) (Y.st (.exp (.meth (v 21 185 4 10) 3 .nil (p 185 4 15) (p 185 4 17)) (p 185 4 17)) (Y.st (.ret (.ctor 267 (l3 (ks "sign" 186 16 22) (v 10 186 24 28) (v 22 186 30 35)) (p 186 11 15) (p 186 11 36)) (p 186 4 36)) .nil)))))
noncomputable def zeq:Bs:=(Y.st (.setT [(21,(p 188 4 10)),(24,(p 188 12 17))] (p 188 4 17) (l2 (.ctor 222 (l1 (v 1 188 28 32)) (p 188 21 27) (p 188 21 33)) (.listM .nil (p 188 35 37))) (p 188 20 38) (p 188 4 38)) (Y.st (.exp (.meth (v 21 189 4 10) 6 (l1 (.glob 7 (p 189 23 29))) (p 189 4 22) (p 189 4 30)) (p 189 4 30)) (bc (.whl (.not (.meth (v 21 190 14 20) 0 .nil (p 190 14 28) (p 190 14 30)) (p 190 10 30)) (Y.st (.set 22 (p 191 8 13) (.attr (v 21 191 16 22) 3 (p 191 16 25)) (p 191 8 25)) (Y.st (.set 25 (p 192 8 12) (.meth (v 21 192 15 21) 7 .nil (p 192 15 26) (p 192 15 28)) (p 192 8 28)) (Y.st (.set 23 (p 193 8 14) (.ite (.cmp .Eq (v 25 193 36 40) (ks "" 193 44 46) (p 193 36 46)) (.meth (v 21 193 17 23) 8 .nil (p 193 17 30) (p 193 17 32)) (.const .none (p 193 52 56)) (p 193 17 56)) (p 193 8 56)) (bc (.ifs (.cmp .NotEq (v 25 194 11 15) (ks "" 194 19 21) (p 194 11 21)) (Y.st (.exp (.sm (v 24 195 12 17) .append (l1 (.ctor 267 (l3 (ks "name" 195 30 36) (v 25 195 38 42) (v 22 195 44 49)) (p 195 25 29) (p 195 25 50))) (p 195 12 24) (p 195 12 51)) (p 195 12 51)) .nil) (bc (.ifs (.cmp .IsNot (v 23 196 13 19) (.const .none (p 196 27 31)) (p 196 13 31)) (bc (.ifs (.cmp .Gt (.sm (v 23 197 15 21) .bit_length .nil (p 197 15 32) (p 197 15 34)) (.glob 5 (p 197 37 46)) (p 197 15 46)) (Y.st (.raise (.call 4 (l3 (ks "a number that is too great" 198 30 58) (v 1 198 60 64) (v 22 198 66 71)) (p 198 22 29) (p 198 22 72)) (p 198 16 72)) .nil) .nil ⟨197,12,198,72⟩) (Y.st (.exp (.sm (v 24 199 12 17) .append (l1 (.ctor 267 (l3 (ks "number" 199 30 38) (v 23 199 40 46) (v 22 199 48 53)) (p 199 25 29) (p 199 25 54))) (p 199 12 24) (p 199 12 55)) (p 199 12 55)) .nil)) (bc (.ifs (.meth (v 21 200 13 19) 4 (l1 (ks "\"" 200 25 28)) (p 200 13 24) (p 200 13 29)) (Y.st (.set 26 (p 201 12 17) (.meth (v 21 201 20 26) 11 (l1 (ks "\"" 201 34 37)) (p 201 20 33) (p 201 20 38)) (p 201 12 38)) (bc (.ifs (.cmp .Is (v 26 202 15 20) (.const .none (p 202 24 28)) (p 202 15 28)) (Y.st (.raise (.call 4 (l3 (ks "a text without an end" 203 30 53) (v 1 203 55 59) (v 22 203 61 66)) (p 203 22 29) (p 203 22 67)) (p 203 16 67)) .nil) .nil ⟨202,12,203,67⟩) (Y.st (.exp (.sm (v 24 204 12 17) .append (l1 (.ctor 267 (l3 (ks "text" 204 30 36) (v 26 204 38 43) (v 22 204 45 50)) (p 204 25 29) (p 204 25 51))) (p 204 12 24) (p 204 12 52)) (p 204 12 52)) .nil))) (bc (.ifs (.meth (v 21 205 13 19) 4 (l1 (ks "$" 205 25 28)) (p 205 13 24) (p 205 13 29)) (Y.st (.exp (.sm (v 24 206 12 17) .append (l1 (.call 5 (l3 (v 1 206 37 41) (v 21 206 43 49) (v 22 206 51 56)) (p 206 25 36) (p 206 25 57))) (p 206 12 24) (p 206 12 58)) (p 206 12 58)) .nil) (Y.st (.exp (.sm (v 24 208 12 17) .append (l1 (.call 6 (l3 (v 1 208 35 39) (v 21 208 41 47) (v 22 208 49 54)) (p 208 25 34) (p 208 25 55))) (p 208 12 24) (p 208 12 56)) (p 208 12 56)) .nil) ⟨205,8,208,56⟩) .nil) ⟨200,8,208,56⟩) .nil) ⟨196,8,208,56⟩) .nil) ⟨194,8,208,56⟩) (Y.st (.exp (.meth (v 21 209 8 14) 6 (l1 (.glob 7 (p 209 27 33))) (p 209 8 26) (p 209 8 34)) (p 209 8 34)) .nil))))) ⟨190,4,209,34⟩) (Y.st (.exp (.sm (v 24 210 4 9) .append (l1 (.ctor 267 (l3 (ks "end" 210 22 27) (.const .none (p 210 29 33)) (.bi .len (l1 (v 1 210 39 43)) (p 210 35 38) (p 210 35 44))) (p 210 17 21) (p 210 17 45))) (p 210 4 16) (p 210 4 46)) (p 210 4 46)) (Y.st (.ret (.frz 0 (v 24 211 11 16)) (p 211 4 16)) .nil)))))
noncomputable def zb4:Bs:=(Y.st (.seta (v 0 215 8 12) 1 (v 1 215 20 24) (p 215 8 17) (p 215 8 24)) (Y.st (.seta (v 0 216 8 12) 24 (.call 7 (l1 (v 1 216 33 37)) (p 216 21 32) (p 216 21 38)) (p 216 8 18) (p 216 8 38)) (Y.st (.seta (v 0 217 8 12) 40 (ki 0 217 20 21) (p 217 8 17) (p 217 8 21)) .nil)))
noncomputable def zby:Bs:=(Y.st (.ret (.sub (.attr (v 0 220 15 19) 24 (p 220 15 25)) (.attr (v 0 220 26 30) 40 (p 220 26 35)) (p 220 15 36)) (p 220 8 36)) .nil)
noncomputable def zbn:Bs:=(Y.st (.raise (.call 4 (l3 (v 7 223 22 26) (.attr (v 0 223 28 32) 1 (p 223 28 37)) (.attr (.meth (v 0 223 39 43) 12 .nil (p 223 39 48) (p 223 39 50)) 2 (p 223 39 57))) (p 223 14 21) (p 223 14 58)) (p 223 8 58)) .nil)
noncomputable def zbf:Bs:=(Y.st (.set 3 (p 226 8 10) (.bin .Add (.attr (v 0 226 13 17) 40 (p 226 13 22)) (v 8 226 25 30) (p 226 13 30)) (p 226 8 30)) (Y.st (.ret (.and (l3 (.cmp .Lt (v 3 227 15 17) (.bi .len (l1 (.attr (v 0 227 24 28) 24 (p 227 24 34))) (p 227 20 23) (p 227 20 35)) (p 227 15 35)) (.cmp .Eq (.attr (.sub (.attr (v 0 227 40 44) 24 (p 227 40 50)) (v 3 227 51 53) (p 227 40 54)) 19 (p 227 40 59)) (ks "sign" 227 63 69) (p 227 40 69)) (.cmp .Eq (.attr (.sub (.attr (v 0 227 75 79) 24 (p 227 75 85)) (v 3 227 86 88) (p 227 75 89)) 20 (p 227 75 95)) (v 10 227 99 103) (p 227 75 103))) (p 227 15 104)) (p 227 8 104)) .nil))
noncomputable def zb5:Bs:=(bc (.ifs (.not (.meth (v 0 230 15 19) 14 (l1 (v 10 230 28 32)) (p 230 15 27) (p 230 15 33)) (p 230 11 33)) (Y.st (.ret (.const (.bool false) (p 231 19 24)) (p 231 12 24)) .nil) .nil ⟨230,8,231,24⟩) (Y.st (.seta (v 0 232 8 12) 40 (.bin .Add (.attr (v 0 232 20 24) 40 (p 232 20 29)) (ki 1 232 32 33) (p 232 20 33)) (p 232 8 17) (p 232 8 33)) (Y.st (.ret (.const (.bool true) (p 233 15 19)) (p 233 8 19)) .nil)))
noncomputable def zb2:Bs:=(bc (.ifs (.not (.meth (v 0 236 15 19) 15 (l1 (v 10 236 25 29)) (p 236 15 24) (p 236 15 30)) (p 236 11 30)) (Y.st (.exp (.meth (v 0 237 12 16) 13 (l1 (.bin .Add (ks "missing " 237 24 34) (v 10 237 37 41) (p 237 24 41))) (p 237 12 23) (p 237 12 42)) (p 237 12 42)) .nil) .nil ⟨236,8,237,42⟩) .nil)
noncomputable def zb7:Bs:=(Y.st (.set 27 (p 240 8 12) (.meth (v 0 240 15 19) 12 .nil (p 240 15 24) (p 240 15 26)) (p 240 8 26)) (Y.st (.seta (v 0 241 8 12) 40 (.bin .Add (.attr (v 0 241 20 24) 40 (p 241 20 29)) (ki 1 241 32 33) (p 241 20 33)) (p 241 8 17) (p 241 8 33)) (Y.st (.ret (v 27 242 15 19) (p 242 8 19)) .nil)))
noncomputable def zbs:Bs:=(Y.st (.set 26 (p 245 8 13) (.meth (v 0 245 16 20) 20 .nil (p 245 16 31) (p 245 16 33)) (p 245 8 33)) (bc (.ifs (.cmp .NotEq (.attr (.meth (v 0 246 11 15) 12 .nil (p 246 11 20) (p 246 11 22)) 19 (p 246 11 27)) (ks "end" 246 31 36) (p 246 11 36)) (Y.st (.exp (.meth (v 0 247 12 16) 13 (l1 (ks "a semicolon is missing, or a bracket is too many" 247 24 74)) (p 247 12 23) (p 247 12 75)) (p 247 12 75)) .nil) .nil ⟨246,8,247,75⟩) (Y.st (.ret (v 26 248 15 20) (p 248 8 20)) .nil)))
noncomputable def zba:Bs:=(Y.st (.ret (.or (l2 (.cmp .Eq (.attr (.meth (v 0 251 15 19) 12 .nil (p 251 15 24) (p 251 15 26)) 19 (p 251 15 31)) (ks "end" 251 35 40) (p 251 15 40)) (.meth (v 0 251 44 48) 14 (l1 (ks "}" 251 57 60)) (p 251 44 56) (p 251 44 61))) (p 251 15 61)) (p 251 8 61)) .nil)
noncomputable def za3:Bs:=(Y.st (.set 26 (p 254 8 13) (.listM .nil (p 254 16 18)) (p 254 8 18)) (bc (.whl (.not (.meth (v 0 255 18 22) 19 .nil (p 255 18 32) (p 255 18 34)) (p 255 14 34)) (Y.st (.exp (.sm (v 26 256 12 17) .append (l1 (.meth (v 0 256 25 29) 24 .nil (p 256 25 39) (p 256 25 41))) (p 256 12 24) (p 256 12 42)) (p 256 12 42)) (bc (.ifs (.not (.meth (v 0 257 19 23) 15 (l1 (ks ";" 257 29 32)) (p 257 19 28) (p 257 19 33)) (p 257 15 33)) (Y.st (.ret (.frz 1 (v 26 258 23 28)) (p 258 16 28)) .nil) .nil ⟨257,12,258,28⟩) .nil)) ⟨255,8,258,28⟩) (Y.st (.ret (.frz 1 (v 26 259 15 20)) (p 259 8 20)) .nil)))
noncomputable def zbq:Bs:=(Y.st (.exp (.meth (v 0 262 8 12) 16 (l1 (ks "{" 262 18 21)) (p 262 8 17) (p 262 8 22)) (p 262 8 22)) (Y.st (.set 26 (p 263 8 13) (.meth (v 0 263 16 20) 20 .nil (p 263 16 31) (p 263 16 33)) (p 263 8 33)) (Y.st (.exp (.meth (v 0 264 8 12) 16 (l1 (ks "}" 264 18 21)) (p 264 8 17) (p 264 8 22)) (p 264 8 22)) (Y.st (.ret (v 26 265 15 20) (p 265 8 20)) .nil))))
noncomputable def za6:Bs:=(Y.st (.exp (.meth (v 0 268 8 12) 16 (l1 (ks "(" 268 18 21)) (p 268 8 17) (p 268 8 22)) (p 268 8 22)) (Y.st (.set 26 (p 269 8 13) (.meth (v 0 269 16 20) 25 (l1 (ki 1 269 32 33)) (p 269 16 31) (p 269 16 34)) (p 269 8 34)) (Y.st (.exp (.meth (v 0 270 8 12) 16 (l1 (ks ")" 270 18 21)) (p 270 8 17) (p 270 8 22)) (p 270 8 22)) (Y.st (.ret (v 26 271 15 20) (p 271 8 20)) .nil))))
noncomputable def zbm:Bs:=(Y.st (.setT [(28,(p 274 8 12)),(29,(p 274 14 17)),(30,(p 274 19 21))] (p 274 8 21) (l3 (.meth (v 0 274 25 29) 22 .nil (p 274 25 39) (p 274 25 41)) (.meth (v 0 274 43 47) 21 .nil (p 274 43 53) (p 274 43 55)) (.list .nil (p 274 57 59))) (p 274 24 60) (p 274 8 60)) (bc (.ifs (.and (l2 (.cmp .Eq (.attr (.meth (v 0 275 11 15) 12 .nil (p 275 11 20) (p 275 11 22)) 19 (p 275 11 27)) (ks "name" 275 31 37) (p 275 11 37)) (.cmp .Eq (.attr (.meth (v 0 275 42 46) 12 .nil (p 275 42 51) (p 275 42 53)) 20 (p 275 42 59)) (ks "else" 275 63 69) (p 275 42 69))) (p 275 11 69)) (Y.st (.exp (.meth (v 0 276 12 16) 17 .nil (p 276 12 21) (p 276 12 23)) (p 276 12 23)) (Y.st (.set 30 (p 277 12 14) (.meth (v 0 277 17 21) 21 .nil (p 277 17 27) (p 277 17 29)) (p 277 12 29)) .nil)) .nil ⟨275,8,277,29⟩) (Y.st (.ret (.tup (l4 (ks "if" 278 16 20) (v 28 278 22 26) (v 29 278 28 31) (v 30 278 33 35)) (p 278 15 36)) (p 278 8 36)) .nil)))
noncomputable def za9:Bs:=(Y.st (.set 27 (p 281 8 12) (.meth (v 0 281 15 19) 12 .nil (p 281 15 24) (p 281 15 26)) (p 281 8 26)) (bc (.ifs (.and (l2 (.cmp .Eq (.attr (v 27 282 11 15) 19 (p 282 11 20)) (ks "own" 282 24 29) (p 282 11 29)) (.meth (v 0 282 34 38) 14 (l2 (ks "=" 282 47 50) (ki 1 282 52 53)) (p 282 34 46) (p 282 34 54))) (p 282 11 54)) (Y.st (.seta (v 0 283 12 16) 40 (.bin .Add (.attr (v 0 283 24 28) 40 (p 283 24 33)) (ki 2 283 36 37) (p 283 24 37)) (p 283 12 21) (p 283 12 37)) (Y.st (.ret (.tup (l2 (ks "set" 284 20 25) (.meth (v 0 284 27 31) 25 (l1 (ki 1 284 43 44)) (p 284 27 42) (p 284 27 45))) (p 284 19 46)) (p 284 12 46)) .nil)) .nil ⟨282,8,284,46⟩) (bc (.ifs (.cmp .NotEq (.attr (v 27 285 11 15) 19 (p 285 11 20)) (ks "name" 285 24 30) (p 285 11 30)) (Y.st (.ret (.tup (l2 (ks "call" 286 20 26) (.meth (v 0 286 28 32) 25 (l1 (ki 1 286 44 45)) (p 286 28 43) (p 286 28 46))) (p 286 19 47)) (p 286 12 47)) .nil) .nil ⟨285,8,286,47⟩) (bc (.ifs (.cmp .In (.attr (v 27 287 11 15) 20 (p 287 11 21)) (.glob 8 (p 287 25 30)) (p 287 11 30)) (Y.st (.exp (.meth (v 0 288 12 16) 17 .nil (p 288 12 21) (p 288 12 23)) (p 288 12 23)) (Y.st (.ret (.tup (l2 (ks "word" 289 20 26) (.attr (v 27 289 28 32) 20 (p 289 28 38))) (p 289 19 39)) (p 289 12 39)) .nil)) .nil ⟨287,8,289,39⟩) (bc (.ifs (.cmp .Eq (.attr (v 27 290 11 15) 20 (p 290 11 21)) (ks "if" 290 25 29) (p 290 11 29)) (Y.st (.exp (.meth (v 0 291 12 16) 17 .nil (p 291 12 21) (p 291 12 23)) (p 291 12 23)) (Y.st (.ret (.meth (v 0 292 19 23) 23 .nil (p 292 19 30) (p 292 19 32)) (p 292 12 32)) .nil)) .nil ⟨290,8,292,32⟩) (bc (.ifs (.cmp .Eq (.attr (v 27 293 11 15) 20 (p 293 11 21)) (ks "while" 293 25 32) (p 293 11 32)) (Y.st (.exp (.meth (v 0 294 12 16) 17 .nil (p 294 12 21) (p 294 12 23)) (p 294 12 23)) (Y.st (.set 28 (p 295 12 16) (.meth (v 0 295 19 23) 22 .nil (p 295 19 33) (p 295 19 35)) (p 295 12 35)) (Y.st (.ret (.tup (l3 (ks "while" 296 20 27) (v 28 296 29 33) (.meth (v 0 296 35 39) 21 .nil (p 296 35 45) (p 296 35 47))) (p 296 19 48)) (p 296 12 48)) .nil))) .nil ⟨293,8,296,48⟩) (bc (.ifs (.and (l2 (.cmp .NotIn (.attr (v 27 297 11 15) 20 (p 297 11 21)) (.glob 10 (p 297 29 37)) (p 297 11 37)) (.meth (v 0 297 42 46) 14 (l2 (ks "=" 297 55 58) (ki 1 297 60 61)) (p 297 42 54) (p 297 42 62))) (p 297 11 62)) (Y.st (.seta (v 0 298 12 16) 40 (.bin .Add (.attr (v 0 298 24 28) 40 (p 298 24 33)) (ki 2 298 36 37) (p 298 24 37)) (p 298 12 21) (p 298 12 37)) (Y.st (.ret (.tup (l3 (ks "name" 299 20 26) (.attr (v 27 299 28 32) 20 (p 299 28 38)) (.meth (v 0 299 40 44) 25 (l1 (ki 1 299 56 57)) (p 299 40 55) (p 299 40 58))) (p 299 19 59)) (p 299 12 59)) .nil)) .nil ⟨297,8,299,59⟩) (Y.st (.ret (.tup (l2 (ks "call" 300 16 22) (.meth (v 0 300 24 28) 25 (l1 (ki 1 300 40 41)) (p 300 24 39) (p 300 24 42))) (p 300 15 43)) (p 300 8 43)) .nil))))))))
noncomputable def za2:Bs:=(Y.st (.setT [(32,(p 303 8 12)),(33,(p 303 14 25))] (p 303 8 25) (l2 (.meth (v 0 303 29 33) 26 .nil (p 303 29 39) (p 303 29 41)) (.const (.bool false) (p 303 43 48))) (p 303 28 49) (p 303 8 49)) (bc (.whl (.const (.bool true) (p 304 14 18)) (Y.st (.set 10 (p 305 12 16) (.ite (.cmp .Eq (.attr (.meth (v 0 305 40 44) 12 .nil (p 305 40 49) (p 305 40 51)) 19 (p 305 40 56)) (ks "sign" 305 60 66) (p 305 40 66)) (.attr (.meth (v 0 305 19 23) 12 .nil (p 305 19 28) (p 305 19 30)) 20 (p 305 19 36)) (ks "" 305 72 74) (p 305 19 74)) (p 305 12 74)) (Y.st (.set 34 (p 306 12 17) (.sm (.glob 12 (p 306 20 26)) .get (l2 (v 10 306 31 35) (ki 0 306 37 38)) (p 306 20 30) (p 306 20 39)) (p 306 12 39)) (bc (.ifs (.or (l2 (.cmp .Eq (v 34 307 15 20) (ki 0 307 24 25) (p 307 15 25)) (.cmp .Lt (v 34 307 29 34) (v 31 307 37 42) (p 307 29 42))) (p 307 15 42)) (Y.st (.ret (v 32 308 23 27) (p 308 16 27)) .nil) .nil ⟨307,12,308,27⟩) (bc (.ifs (.and (l2 (.cmp .Eq (v 34 309 15 20) (ki 3 309 24 25) (p 309 15 25)) (v 33 309 30 41)) (p 309 15 41)) (Y.st (.exp (.meth (v 0 310 16 20) 13 (l1 (ks "a comparison behind a comparison" 310 28 62)) (p 310 16 27) (p 310 16 63)) (p 310 16 63)) .nil) .nil ⟨309,12,310,63⟩) (Y.st (.exp (.meth (v 0 311 12 16) 17 .nil (p 311 12 21) (p 311 12 23)) (p 311 12 23)) (Y.st (.set 35 (p 312 12 17) (.meth (v 0 312 20 24) 25 (l1 (.bin .Add (v 34 312 36 41) (ki 1 312 44 45) (p 312 36 45))) (p 312 20 35) (p 312 20 46)) (p 312 12 46)) (Y.st (.set 33 (p 313 12 23) (.cmp .Eq (v 34 313 26 31) (ki 3 313 35 36) (p 313 26 36)) (p 313 12 36)) (Y.st (.set 32 (p 314 12 16) (.call 8 (l3 (v 10 314 26 30) (v 32 314 32 36) (v 35 314 38 43)) (p 314 19 25) (p 314 19 44)) (p 314 12 44)) .nil)))))))) ⟨304,8,314,44⟩) .nil))
noncomputable def zbt:Bs:=(bc (.ifs (.or (l2 (.meth (v 0 317 11 15) 14 (l1 (ks "-" 317 24 27)) (p 317 11 23) (p 317 11 28)) (.meth (v 0 317 32 36) 14 (l1 (ks "!" 317 45 48)) (p 317 32 44) (p 317 32 49))) (p 317 11 49)) (Y.st (.set 10 (p 318 12 16) (.attr (.meth (v 0 318 19 23) 17 .nil (p 318 19 28) (p 318 19 30)) 20 (p 318 19 36)) (p 318 12 36)) (Y.st (.ret (.tup (l3 (ks "one" 319 20 25) (v 10 319 27 31) (.meth (v 0 319 33 37) 26 .nil (p 319 33 43) (p 319 33 45))) (p 319 19 46)) (p 319 12 46)) .nil)) .nil ⟨317,8,319,46⟩) (Y.st (.ret (.meth (v 0 320 15 19) 27 .nil (p 320 15 24) (p 320 15 26)) (p 320 8 26)) .nil))
noncomputable def zb6:Bs:=(Y.st (.set 27 (p 323 8 12) (.meth (v 0 323 15 19) 12 .nil (p 323 15 24) (p 323 15 26)) (p 323 8 26)) (bc (.ifs (.cmp .In (.attr (v 27 324 11 15) 19 (p 324 11 20)) (.tup (l3 (ks "number" 324 25 33) (ks "text" 324 35 41) (ks "arg" 324 43 48)) (p 324 24 49)) (p 324 11 49)) (Y.st (.exp (.meth (v 0 325 12 16) 17 .nil (p 325 12 21) (p 325 12 23)) (p 325 12 23)) (Y.st (.ret (.tup (l2 (.attr (v 27 326 20 24) 19 (p 326 20 29)) (.attr (v 27 326 31 35) 20 (p 326 31 41))) (p 326 19 42)) (p 326 12 42)) .nil)) .nil ⟨324,8,326,42⟩) (bc (.ifs (.cmp .Eq (.attr (v 27 327 11 15) 19 (p 327 11 20)) (ks "own" 327 24 29) (p 327 11 29)) (Y.st (.exp (.meth (v 0 328 12 16) 17 .nil (p 328 12 21) (p 328 12 23)) (p 328 12 23)) (Y.st (.ret (.tup (l1 (ks "own" 329 20 25)) (p 329 19 27)) (p 329 12 27)) .nil)) .nil ⟨327,8,329,27⟩) (bc (.ifs (.and (l2 (.cmp .Eq (.attr (v 27 330 11 15) 19 (p 330 11 20)) (ks "name" 330 24 30) (p 330 11 30)) (.cmp .NotIn (.attr (v 27 330 35 39) 20 (p 330 35 45)) (.glob 10 (p 330 53 61)) (p 330 35 61))) (p 330 11 61)) (Y.st (.exp (.meth (v 0 331 12 16) 17 .nil (p 331 12 21) (p 331 12 23)) (p 331 12 23)) (bc (.ifs (.meth (v 0 332 15 19) 15 (l1 (ks "(" 332 25 28)) (p 332 15 24) (p 332 15 29)) (Y.st (.ret (.tup (l3 (ks "apply" 333 24 31) (.attr (v 27 333 33 37) 20 (p 333 33 43)) (.meth (v 0 333 45 49) 28 (l1 (ks ")" 333 56 59)) (p 333 45 55) (p 333 45 60))) (p 333 23 61)) (p 333 16 61)) .nil) .nil ⟨332,12,333,61⟩) (Y.st (.ret (.tup (l2 (ks "name" 334 20 26) (.attr (v 27 334 28 32) 20 (p 334 28 38))) (p 334 19 39)) (p 334 12 39)) .nil))) .nil ⟨330,8,334,39⟩) (bc (.ifs (.meth (v 0 335 11 15) 15 (l1 (ks "[" 335 21 24)) (p 335 11 20) (p 335 11 25)) (Y.st (.ret (.tup (l2 (ks "list" 336 20 26) (.meth (v 0 336 28 32) 28 (l1 (ks "]" 336 39 42)) (p 336 28 38) (p 336 28 43))) (p 336 19 44)) (p 336 12 44)) .nil) .nil ⟨335,8,336,44⟩) (bc (.ifs (.meth (v 0 337 11 15) 15 (l1 (ks "(" 337 21 24)) (p 337 11 20) (p 337 11 25)) (Y.st (.set 26 (p 338 12 17) (.meth (v 0 338 20 24) 25 (l1 (ki 1 338 36 37)) (p 338 20 35) (p 338 20 38)) (p 338 12 38)) (Y.st (.exp (.meth (v 0 339 12 16) 16 (l1 (ks ")" 339 22 25)) (p 339 12 21) (p 339 12 26)) (p 339 12 26)) (Y.st (.ret (v 26 340 19 24) (p 340 12 24)) .nil))) .nil ⟨337,8,340,24⟩) (Y.st (.exp (.meth (v 0 341 8 12) 13 (l1 (ks "a value is missing" 341 20 40)) (p 341 8 19) (p 341 8 41)) (p 341 8 41)) .nil)))))))
noncomputable def zbr:Bs:=(Y.st (.set 26 (p 344 8 13) (.listM .nil (p 344 16 18)) (p 344 8 18)) (bc (.ifs (.meth (v 0 345 11 15) 15 (l1 (v 17 345 21 24)) (p 345 11 20) (p 345 11 25)) (Y.st (.ret (.frz 1 (v 26 346 19 24)) (p 346 12 24)) .nil) .nil ⟨345,8,346,24⟩) (bc (.whl (.const (.bool true) (p 347 14 18)) (Y.st (.exp (.sm (v 26 348 12 17) .append (l1 (.meth (v 0 348 25 29) 25 (l1 (ki 1 348 41 42)) (p 348 25 40) (p 348 25 43))) (p 348 12 24) (p 348 12 44)) (p 348 12 44)) (bc (.ifs (.meth (v 0 349 15 19) 15 (l1 (v 17 349 25 28)) (p 349 15 24) (p 349 15 29)) (Y.st (.ret (.frz 1 (v 26 350 23 28)) (p 350 16 28)) .nil) .nil ⟨349,12,350,28⟩) (Y.st (.exp (.meth (v 0 351 12 16) 16 (l1 (ks "," 351 22 25)) (p 351 12 21) (p 351 12 26)) (p 351 12 26)) .nil))) ⟨347,8,351,26⟩) .nil)))
noncomputable def b_joined:Bs:=(bc (.ifs (.cmp .Eq (v 10 353 7 11) (ks "||" 353 15 19) (p 353 7 19)) (Y.st (.ret (.tup (l3 (ks "either" 354 16 24) (v 32 354 26 30) (v 35 354 32 37)) (p 354 15 38)) (p 354 8 38)) .nil) .nil ⟨353,4,354,38⟩) (bc (.ifs (.cmp .Eq (v 10 355 7 11) (ks "&&" 355 15 19) (p 355 7 19)) (Y.st (.ret (.tup (l3 (ks "both" 356 16 22) (v 32 356 24 28) (v 35 356 30 35)) (p 356 15 36)) (p 356 8 36)) .nil) .nil ⟨355,4,356,36⟩) (Y.st (.ret (.tup (l4 (ks "two" 357 12 17) (v 10 357 19 23) (v 32 357 25 29) (v 35 357 31 36)) (p 357 11 37)) (p 357 4 37)) .nil)))
noncomputable def zea:Bs:=(Y.st (.ret (.meth (.ctor 436 (l1 (v 1 359 24 28)) (p 359 11 23) (p 359 11 29)) 18 .nil (p 359 11 35) (p 359 11 37)) (p 359 4 37)) .nil)
noncomputable def b_level_of:Bs:=(bc (.ifs (.cmp .Eq (.sub (v 36 361 7 11) (ki 0 361 12 13) (p 361 7 14)) (ks "either" 361 18 26) (p 361 7 26)) (Y.st (.ret (ki 1 362 15 16) (p 362 8 16)) .nil) .nil ⟨361,4,362,16⟩) (bc (.ifs (.cmp .Eq (.sub (v 36 363 7 11) (ki 0 363 12 13) (p 363 7 14)) (ks "both" 363 18 24) (p 363 7 24)) (Y.st (.ret (ki 2 364 15 16) (p 364 8 16)) .nil) .nil ⟨363,4,364,16⟩) (bc (.ifs (.cmp .Eq (.sub (v 36 365 7 11) (ki 0 365 12 13) (p 365 7 14)) (ks "two" 365 18 23) (p 365 7 23)) (Y.st (.ret (.sub (.glob 12 (p 366 15 21)) (.sub (v 36 366 22 26) (ki 1 366 27 28) (p 366 22 29)) (p 366 15 30)) (p 366 8 30)) .nil) .nil ⟨365,4,366,30⟩) (Y.st (.ret (.ite (.cmp .Eq (.sub (v 36 367 16 20) (ki 0 367 21 22) (p 367 16 23)) (ks "one" 367 27 32) (p 367 16 32)) (ki 6 367 11 12) (ki 7 367 38 39) (p 367 11 39)) (p 367 4 39)) .nil))))
noncomputable def zep:Bs:=(Y.st (.set 26 (p 369 4 9) (.call 12 (l1 (v 36 369 28 32)) (p 369 12 27) (p 369 12 33)) (p 369 4 33)) (Y.st (.ret (.ite (.cmp .GtE (.call 10 (l1 (v 36 370 29 33)) (p 370 20 28) (p 370 20 34)) (v 31 370 38 43) (p 370 20 43)) (v 26 370 11 16) (.bin .Add (.bin .Add (ks "(" 370 49 52) (v 26 370 55 60) (p 370 49 60)) (ks ")" 370 63 66) (p 370 49 66)) (p 370 11 66)) (p 370 4 66)) .nil))
noncomputable def zch:Bs:=(Y.st (.set 19 (p 372 4 8) (.sub (v 36 372 11 15) (ki 0 372 16 17) (p 372 11 18)) (p 372 4 18)) (bc (.ifs (.cmp .Eq (v 19 373 7 11) (ks "number" 373 15 23) (p 373 7 23)) (Y.st (.ret (.bi .str (l1 (.sub (v 36 374 19 23) (ki 1 374 24 25) (p 374 19 26))) (p 374 15 18) (p 374 15 27)) (p 374 8 27)) .nil) .nil ⟨373,4,374,27⟩) (bc (.ifs (.cmp .Eq (v 19 375 7 11) (ks "text" 375 15 21) (p 375 7 21)) (Y.st (.ret (.bin .Add (.bin .Add (ks "\"" 376 15 18) (.call 3 (l2 (.sub (v 36 376 29 33) (ki 1 376 34 35) (p 376 29 36)) (ks "\"" 376 38 41)) (p 376 21 28) (p 376 21 42)) (p 376 15 42)) (ks "\"" 376 45 48) (p 376 15 48)) (p 376 8 48)) .nil) .nil ⟨375,4,376,48⟩) (bc (.ifs (.cmp .Eq (v 19 377 7 11) (ks "arg" 377 15 20) (p 377 7 20)) (Y.st (.ret (.bin .Add (ks "$" 378 15 18) (.bi .str (l1 (.sub (v 36 378 25 29) (ki 1 378 30 31) (p 378 25 32))) (p 378 21 24) (p 378 21 33)) (p 378 15 33)) (p 378 8 33)) .nil) .nil ⟨377,4,378,33⟩) (bc (.ifs (.cmp .Eq (v 19 379 7 11) (ks "own" 379 15 20) (p 379 7 20)) (Y.st (.ret (ks "$$" 380 15 19) (p 380 8 19)) .nil) .nil ⟨379,4,380,19⟩) (bc (.ifs (.cmp .Eq (v 19 381 7 11) (ks "name" 381 15 21) (p 381 7 21)) (Y.st (.ret (.sub (v 36 382 15 19) (ki 1 382 20 21) (p 382 15 22)) (p 382 8 22)) .nil) .nil ⟨381,4,382,22⟩) (bc (.ifs (.cmp .Eq (v 19 383 7 11) (ks "apply" 383 15 22) (p 383 7 22)) (Y.st (.ret (.bin .Add (.bin .Add (.bin .Add (.sub (v 36 384 15 19) (ki 1 384 20 21) (p 384 15 22)) (ks "(" 384 25 28) (p 384 15 28)) (.sm (ks ", " 384 31 35) .join (l1 (.comp (.call 12 (l1 (v 27 384 58 62)) (p 384 42 57) (p 384 42 63)) 27 (p 384 68 72) (.sub (v 36 384 76 80) (ki 2 384 81 82) (p 384 76 83)) [] {kind:= .function,names:=[(Str.ofString ".0", .local),(Str.ofString "part", .local),(Str.ofString "show_expression", .globalImplicit)],isGenerator:=false,isCoroutine:=false,more:=[]} (p 384 41 84))) (p 384 31 40) (p 384 31 85)) (p 384 15 85)) (ks ")" 384 88 91) (p 384 15 91)) (p 384 8 91)) .nil) .nil ⟨383,4,384,91⟩) (bc (.ifs (.cmp .Eq (v 19 385 7 11) (ks "list" 385 15 21) (p 385 7 21)) (Y.st (.ret (.bin .Add (.bin .Add (ks "[" 386 15 18) (.sm (ks ", " 386 21 25) .join (l1 (.comp (.call 12 (l1 (v 27 386 48 52)) (p 386 32 47) (p 386 32 53)) 27 (p 386 58 62) (.sub (v 36 386 66 70) (ki 1 386 71 72) (p 386 66 73)) [] {kind:= .function,names:=[(Str.ofString ".0", .local),(Str.ofString "part", .local),(Str.ofString "show_expression", .globalImplicit)],isGenerator:=false,isCoroutine:=false,more:=[]} (p 386 31 74))) (p 386 21 30) (p 386 21 75)) (p 386 15 75)) (ks "]" 386 78 81) (p 386 15 81)) (p 386 8 81)) .nil) .nil ⟨385,4,386,81⟩) (bc (.ifs (.cmp .Eq (v 19 387 7 11) (ks "one" 387 15 20) (p 387 7 20)) (Y.st (.ret (.bin .Add (.sub (v 36 388 15 19) (ki 1 388 20 21) (p 388 15 22)) (.call 11 (l2 (.sub (v 36 388 37 41) (ki 2 388 42 43) (p 388 37 44)) (ki 6 388 46 47)) (p 388 25 36) (p 388 25 48)) (p 388 15 48)) (p 388 8 48)) .nil) .nil ⟨387,4,388,48⟩) (Y.st (.set 34 (p 389 4 9) (.call 10 (l1 (v 36 389 21 25)) (p 389 12 20) (p 389 12 26)) (p 389 4 26)) (Y.st (.set 10 (p 390 4 8) (.opsGet (v 19 390 46 50) (.sub (v 36 390 52 56) (ki 1 390 57 58) (p 390 52 59)) (p 390 12 20) (p 390 22 26) (p 390 28 34) (p 390 36 40) (p 390 11 41) (p 390 11 45) (p 390 11 60)) (p 390 4 60)) (Y.st (.setU [(32,(p 391 4 8)),(35,(p 391 10 15))] (p 391 4 15) (.ite (.cmp .Eq (v 19 391 40 44) (ks "two" 391 48 53) (p 391 40 53)) (.tup (l2 (.sub (v 36 391 19 23) (ki 2 391 24 25) (p 391 19 26)) (.sub (v 36 391 28 32) (ki 3 391 33 34) (p 391 28 35))) (p 391 18 36)) (.tup (l2 (.sub (v 36 391 60 64) (ki 1 391 65 66) (p 391 60 67)) (.sub (v 36 391 69 73) (ki 2 391 74 75) (p 391 69 76))) (p 391 59 77)) (p 391 18 77)) (p 391 4 77)) (Y.st (.set 13 (p 392 4 8) (.ite (.cmp .Eq (v 34 392 24 29) (ki 3 392 33 34) (p 392 24 34)) (.bin .Add (v 34 392 11 16) (ki 1 392 19 20) (p 392 11 20)) (v 34 392 40 45) (p 392 11 45)) (p 392 4 45)) (Y.st (.ret (.bin .Add (.bin .Add (.bin .Add (.bin .Add (.call 11 (l2 (v 32 393 23 27) (v 13 393 29 33)) (p 393 11 22) (p 393 11 34)) (ks " " 393 37 40) (p 393 11 40)) (v 10 393 43 47) (p 393 11 47)) (ks " " 393 50 53) (p 393 11 53)) (.call 11 (l2 (v 35 393 68 73) (.bin .Add (v 34 393 75 80) (ki 1 393 83 84) (p 393 75 84))) (p 393 56 67) (p 393 56 85)) (p 393 11 85)) (p 393 4 85)) .nil))))))))))))))
noncomputable def zfo:Bs:=(Y.st (.ret (.ite (.cmp .NotEq (v 37 395 47 52) (.list .nil (p 395 56 58)) (p 395 47 58)) (.bin .Add (.bin .Add (ks "{ " 395 11 15) (.call 15 (l1 (v 37 395 30 35)) (p 395 18 29) (p 395 18 36)) (p 395 11 36)) (ks " }" 395 39 43) (p 395 11 43)) (ks "{ }" 395 64 69) (p 395 11 69)) (p 395 4 69)) .nil)
noncomputable def zc0:Bs:=(Y.st (.set 19 (p 397 4 8) (.sub (v 36 397 11 15) (ki 0 397 16 17) (p 397 11 18)) (p 397 4 18)) (bc (.ifs (.cmp .Eq (v 19 398 7 11) (ks "set" 398 15 20) (p 398 7 20)) (Y.st (.ret (.bin .Add (ks "$$ = " 399 15 22) (.call 12 (l1 (.sub (v 36 399 41 45) (ki 1 399 46 47) (p 399 41 48))) (p 399 25 40) (p 399 25 49)) (p 399 15 49)) (p 399 8 49)) .nil) .nil ⟨398,4,399,49⟩) (bc (.ifs (.cmp .Eq (v 19 400 7 11) (ks "name" 400 15 21) (p 400 7 21)) (Y.st (.ret (.bin .Add (.bin .Add (.sub (v 36 401 15 19) (ki 1 401 20 21) (p 401 15 22)) (ks " = " 401 25 30) (p 401 15 30)) (.call 12 (l1 (.sub (v 36 401 49 53) (ki 2 401 54 55) (p 401 49 56))) (p 401 33 48) (p 401 33 57)) (p 401 15 57)) (p 401 8 57)) .nil) .nil ⟨400,4,401,57⟩) (bc (.ifs (.cmp .Eq (v 19 402 7 11) (ks "word" 402 15 21) (p 402 7 21)) (Y.st (.ret (.sub (v 36 403 15 19) (ki 1 403 20 21) (p 403 15 22)) (p 403 8 22)) .nil) .nil ⟨402,4,403,22⟩) (bc (.ifs (.cmp .Eq (v 19 404 7 11) (ks "while" 404 15 22) (p 404 7 22)) (Y.st (.ret (.bin .Add (.bin .Add (.bin .Add (ks "while (" 405 15 24) (.call 12 (l1 (.sub (v 36 405 43 47) (ki 1 405 48 49) (p 405 43 50))) (p 405 27 42) (p 405 27 51)) (p 405 15 51)) (ks ") " 405 54 58) (p 405 15 58)) (.call 13 (l1 (.sub (v 36 405 72 76) (ki 2 405 77 78) (p 405 72 79))) (p 405 61 71) (p 405 61 80)) (p 405 15 80)) (p 405 8 80)) .nil) .nil ⟨404,4,405,80⟩) (bc (.ifs (.cmp .Eq (v 19 406 7 11) (ks "if" 406 15 19) (p 406 7 19)) (Y.st (.set 26 (p 407 8 13) (.bin .Add (.bin .Add (.bin .Add (ks "if (" 407 16 22) (.call 12 (l1 (.sub (v 36 407 41 45) (ki 1 407 46 47) (p 407 41 48))) (p 407 25 40) (p 407 25 49)) (p 407 16 49)) (ks ") " 407 52 56) (p 407 16 56)) (.call 13 (l1 (.sub (v 36 407 70 74) (ki 2 407 75 76) (p 407 70 77))) (p 407 59 69) (p 407 59 78)) (p 407 16 78)) (p 407 8 78)) (Y.st (.ret (.ite (.cmp .NotEq (.sub (v 36 408 57 61) (ki 3 408 62 63) (p 408 57 64)) (.list .nil (p 408 68 70)) (p 408 57 70)) (.bin .Add (.bin .Add (v 26 408 15 20) (ks " else " 408 23 31) (p 408 15 31)) (.call 13 (l1 (.sub (v 36 408 45 49) (ki 3 408 50 51) (p 408 45 52))) (p 408 34 44) (p 408 34 53)) (p 408 15 53)) (v 26 408 76 81) (p 408 15 81)) (p 408 8 81)) .nil)) .nil ⟨406,4,408,81⟩) (Y.st (.ret (.call 12 (l1 (.sub (v 36 409 27 31) (ki 1 409 32 33) (p 409 27 34))) (p 409 11 26) (p 409 11 35)) (p 409 4 35)) .nil)))))))
noncomputable def ze3:Bs:=(Y.st (.ret (.sm (ks "; " 411 11 15) .join (l1 (.comp (.call 14 (l1 (v 36 411 37 41)) (p 411 22 36) (p 411 22 42)) 36 (p 411 47 51) (v 37 411 55 60) [] {kind:= .function,names:=[(Str.ofString ".0", .local),(Str.ofString "node", .local),(Str.ofString "show_statement", .globalImplicit)],isGenerator:=false,isCoroutine:=false,more:=[]} (p 411 21 61))) (p 411 11 20) (p 411 11 62)) (p 411 4 62)) .nil)
noncomputable def zgc:Bs:=(Y.st (.ret (.list (.cons (ks "==" 414 12 16) (.cons (ks "!=" 414 18 22) (.cons (ks "<" 414 24 27) (.cons (ks "<=" 414 29 33) (.cons (ks ">" 414 35 38) (.cons (ks ">=" 414 40 44) (.cons (ks "+" 414 46 49) (l4 (ks "-" 414 51 54) (ks "*" 414 56 59) (ks "/" 414 61 64) (ks "%" 414 66 69))))))))) (p 414 11 70)) (p 414 4 70)) .nil)
noncomputable def zhi:Bs:=(Y.st (.ret (.list (.cons (.tup (l2 (ks "back" 416 13 19) (ki 1 416 21 22)) (p 416 12 23)) (l4 (.tup (l2 (ks "cut" 416 26 31) (ki 3 416 33 34)) (p 416 25 35)) (.tup (l2 (ks "glue" 416 38 44) (ki 2 416 46 47)) (p 416 37 48)) (.tup (l2 (ks "len" 416 51 56) (ki 1 416 58 59)) (p 416 50 60)) (.tup (l2 (ks "text" 416 63 69) (ki 1 416 71 72)) (p 416 62 73)))) (p 416 11 74)) (p 416 4 74)) .nil)
noncomputable def zgh:Bs:=(Y.st (.ret (.list (.cons (ks "yyerrok" 418 12 21) (l4 (ks "yyclearin" 418 23 34) (ks "YYERROR" 418 36 45) (ks "YYABORT" 418 47 56) (ks "YYACCEPT" 418 58 68))) (p 418 11 69)) (p 418 4 69)) .nil)
noncomputable def b_law_draw:Bs:=(Y.st (.set 40 (p 420 4 8) (.sub (v 38 420 11 14) (ki 1 420 15 16) (p 420 11 17)) (p 420 4 17)) (Y.st (.seti (v 38 421 4 7) (ki 1 421 8 9) (.bin .Add (v 40 421 13 17) (ki 1 421 20 21) (p 421 13 21)) (p 421 4 10) (p 421 4 21)) (bc (.ifs (.cmp .Lt (v 40 422 7 11) (.bi .len (l1 (.sub (v 38 422 18 21) (ki 0 422 22 23) (p 422 18 24))) (p 422 14 17) (p 422 14 25)) (p 422 7 25)) (Y.st (.ret (.bin .Mod (.sub (.sub (v 38 423 15 18) (ki 0 423 19 20) (p 423 15 21)) (v 40 423 22 26) (p 423 15 27)) (v 39 423 30 34) (p 423 15 34)) (p 423 8 34)) .nil) .nil ⟨422,4,423,34⟩) (Y.st (.ret (.bin .Mod (.bin .Add (.bin .Add (.sub (v 38 424 12 15) (ki 2 424 16 17) (p 424 12 18)) (.bin .Mult (ki 11 424 21 23) (v 40 424 26 30) (p 424 21 30)) (p 424 12 30)) (.bin .FloorDiv (.bin .Mult (v 40 424 33 37) (v 40 424 40 44) (p 424 33 44)) (ki 5 424 48 49) (p 424 33 49)) (p 424 12 49)) (v 39 424 53 57) (p 424 11 57)) (p 424 4 57)) .nil))))
noncomputable def b_law_leaf:Bs:=(Y.st (.set 41 (p 426 4 7) (.call 19 (l2 (v 38 426 20 23) (ki 5 426 25 26)) (p 426 10 19) (p 426 10 27)) (p 426 4 27)) (bc (.ifs (.cmp .Eq (v 41 427 7 10) (ki 0 427 14 15) (p 427 7 15)) (Y.st (.ret (.tup (l2 (ks "number" 428 16 24) (.call 19 (l2 (v 38 428 36 39) (ki 300 428 41 44)) (p 428 26 35) (p 428 26 45))) (p 428 15 46)) (p 428 8 46)) .nil) .nil ⟨427,4,428,46⟩) (bc (.ifs (.cmp .Eq (v 41 429 7 10) (ki 1 429 14 15) (p 429 7 15)) (Y.st (.ret (.tup (l2 (ks "text" 430 16 22) (.sm (ks "" 430 24 26) .join (l1 (.comp (.bi .chr (l1 (.call 19 (l2 (v 38 430 47 50) (ki 256 430 52 55)) (p 430 37 46) (p 430 37 56))) (p 430 33 36) (p 430 33 57)) 43 (p 430 62 66) (.bi .range (l1 (.call 19 (l2 (v 38 430 86 89) (ki 4 430 91 92)) (p 430 76 85) (p 430 76 93))) (p 430 70 75) (p 430 70 94)) [38] {kind:= .function,names:=[(Str.ofString ".0", .local),(Str.ofString "turn", .local),(Str.ofString "chr", .globalImplicit),(Str.ofString "_law_draw", .globalImplicit),(Str.ofString "pen", .free)],isGenerator:=false,isCoroutine:=false,more:=[]} (p 430 32 95))) (p 430 24 31) (p 430 24 96))) (p 430 15 97)) (p 430 8 97)) .nil) .nil ⟨429,4,430,97⟩) (bc (.ifs (.cmp .Eq (v 41 431 7 10) (ki 2 431 14 15) (p 431 7 15)) (Y.st (.ret (.tup (l2 (ks "arg" 432 16 21) (.call 19 (l2 (v 38 432 33 36) (ki 12 432 38 40)) (p 432 23 32) (p 432 23 41))) (p 432 15 42)) (p 432 8 42)) .nil) .nil ⟨431,4,432,42⟩) (Y.st (.ret (.ite (.cmp .Eq (v 41 433 23 26) (ki 3 433 30 31) (p 433 23 31)) (.tup (l1 (ks "own" 433 12 17)) (p 433 11 19)) (.tup (l2 (ks "name" 433 38 44) (.sub (.list (l3 (ks "u" 433 47 50) (ks "v2" 433 52 56) (ks "_x" 433 58 62)) (p 433 46 63)) (.call 19 (l2 (v 38 433 74 77) (ki 3 433 79 80)) (p 433 64 73) (p 433 64 81)) (p 433 46 82))) (p 433 37 83)) (p 433 11 83)) (p 433 4 83)) .nil)))))
noncomputable def b_law_tree:Bs:=(Y.st (.set 41 (p 435 4 7) (.ite (.cmp .Gt (v 42 435 31 35) (ki 0 435 38 39) (p 435 31 39)) (.call 19 (l2 (v 38 435 20 23) (ki 8 435 25 26)) (p 435 10 19) (p 435 10 27)) (ki 0 435 45 46) (p 435 10 46)) (p 435 4 46)) (bc (.ifs (.cmp .Lt (v 41 436 7 10) (ki 2 436 13 14) (p 436 7 14)) (Y.st (.ret (.call 20 (l1 (v 38 437 25 28)) (p 437 15 24) (p 437 15 29)) (p 437 8 29)) .nil) .nil ⟨436,4,437,29⟩) (bc (.ifs (.cmp .Eq (v 41 438 7 10) (ki 2 438 14 15) (p 438 7 15)) (Y.st (.ret (.tup (l3 (ks "one" 439 16 21) (.sub (ks "-!" 439 23 27) (.call 19 (l2 (v 38 439 38 41) (ki 2 439 43 44)) (p 439 28 37) (p 439 28 45)) (p 439 23 46)) (.call 21 (l2 (v 38 439 58 61) (.bin .Sub (v 42 439 63 67) (ki 1 439 70 71) (p 439 63 71))) (p 439 48 57) (p 439 48 72))) (p 439 15 73)) (p 439 8 73)) .nil) .nil ⟨438,4,439,73⟩) (bc (.ifs (.cmp .Eq (v 41 440 7 10) (ki 3 440 14 15) (p 440 7 15)) (Y.st (.ret (.tup (l2 (ks "list" 441 16 22) (.comp (.call 21 (l2 (v 38 441 35 38) (.bin .Sub (v 42 441 40 44) (ki 1 441 47 48) (p 441 40 48))) (p 441 25 34) (p 441 25 49)) 43 (p 441 54 58) (.bi .range (l1 (.call 19 (l2 (v 38 441 78 81) (ki 3 441 83 84)) (p 441 68 77) (p 441 68 85))) (p 441 62 67) (p 441 62 86)) [42,38] {kind:= .function,names:=[(Str.ofString ".0", .local),(Str.ofString "turn", .local),(Str.ofString "_law_tree", .globalImplicit),(Str.ofString "deep", .free),(Str.ofString "pen", .free)],isGenerator:=false,isCoroutine:=false,more:=[]} (p 441 24 87))) (p 441 15 88)) (p 441 8 88)) .nil) .nil ⟨440,4,441,88⟩) (bc (.ifs (.cmp .Eq (v 41 442 7 10) (ki 4 442 14 15) (p 442 7 15)) (Y.st (.setU [(9,(p 443 8 12)),(44,(p 443 14 18))] (p 443 8 18) (.sub (.call 17 .nil (p 443 21 31) (p 443 21 33)) (.call 19 (l2 (v 38 443 44 47) (ki 5 443 49 50)) (p 443 34 43) (p 443 34 51)) (p 443 21 52)) (p 443 8 52)) (Y.st (.ret (.tup (l3 (ks "apply" 444 16 23) (v 9 444 25 29) (.comp (.call 21 (l2 (v 38 444 42 45) (.bin .Sub (v 42 444 47 51) (ki 1 444 54 55) (p 444 47 55))) (p 444 32 41) (p 444 32 56)) 43 (p 444 61 65) (.bi .range (l1 (v 44 444 75 79)) (p 444 69 74) (p 444 69 80)) [42,38] {kind:= .function,names:=[(Str.ofString ".0", .local),(Str.ofString "turn", .local),(Str.ofString "_law_tree", .globalImplicit),(Str.ofString "deep", .free),(Str.ofString "pen", .free)],isGenerator:=false,isCoroutine:=false,more:=[]} (p 444 31 81))) (p 444 15 82)) (p 444 8 82)) .nil)) .nil ⟨442,4,444,82⟩) (bc (.ifs (.cmp .Eq (v 41 445 7 10) (ki 5 445 14 15) (p 445 7 15)) (Y.st (.set 19 (p 446 8 12) (.sub (.list (l2 (ks "both" 446 16 22) (ks "either" 446 24 32)) (p 446 15 33)) (.call 19 (l2 (v 38 446 44 47) (ki 2 446 49 50)) (p 446 34 43) (p 446 34 51)) (p 446 15 52)) (p 446 8 52)) (Y.st (.set 32 (p 447 8 12) (.call 21 (l2 (v 38 447 25 28) (.bin .Sub (v 42 447 30 34) (ki 1 447 37 38) (p 447 30 38))) (p 447 15 24) (p 447 15 39)) (p 447 8 39)) (Y.st (.ret (.tup (l3 (v 19 448 16 20) (v 32 448 22 26) (.call 21 (l2 (v 38 448 38 41) (.bin .Sub (v 42 448 43 47) (ki 1 448 50 51) (p 448 43 51))) (p 448 28 37) (p 448 28 52))) (p 448 15 53)) (p 448 8 53)) .nil))) .nil ⟨445,4,448,53⟩) (Y.st (.set 10 (p 449 4 8) (.ite (.cmp .Eq (v 41 449 47 50) (ki 7 449 54 55) (p 449 47 55)) (.sub (.call 16 .nil (p 449 11 21) (p 449 11 23)) (.call 19 (l2 (v 38 449 34 37) (ki 11 449 39 41)) (p 449 24 33) (p 449 24 42)) (p 449 11 43)) (.sub (ks "+-*<" 449 61 67) (.call 19 (l2 (v 38 449 78 81) (ki 4 449 83 84)) (p 449 68 77) (p 449 68 85)) (p 449 61 86)) (p 449 11 86)) (p 449 4 86)) (Y.st (.set 32 (p 450 4 8) (.call 21 (l2 (v 38 450 21 24) (.bin .Sub (v 42 450 26 30) (ki 1 450 33 34) (p 450 26 34))) (p 450 11 20) (p 450 11 35)) (p 450 4 35)) (Y.st (.ret (.tup (l4 (ks "two" 451 12 17) (v 10 451 19 23) (v 32 451 25 29) (.call 21 (l2 (v 38 451 41 44) (.bin .Sub (v 42 451 46 50) (ki 1 451 53 54) (p 451 46 54))) (p 451 31 40) (p 451 31 55))) (p 451 11 56)) (p 451 4 56)) .nil)))))))))
noncomputable def zdt:Bs:=(Y.st (.set 41 (p 453 4 7) (.call 19 (l2 (v 38 453 20 23) (.ite (.cmp .Gt (v 42 453 30 34) (ki 0 453 37 38) (p 453 30 38)) (ki 7 453 25 26) (ki 5 453 44 45) (p 453 25 45))) (p 453 10 19) (p 453 10 46)) (p 453 4 46)) (bc (.ifs (.cmp .Lt (v 41 454 7 10) (ki 2 454 13 14) (p 454 7 14)) (Y.st (.ret (.tup (l2 (ks "set" 455 16 21) (.call 21 (l2 (v 38 455 33 36) (.bin .Add (ki 1 455 38 39) (v 42 455 42 46) (p 455 38 46))) (p 455 23 32) (p 455 23 47))) (p 455 15 48)) (p 455 8 48)) .nil) .nil ⟨454,4,455,48⟩) (bc (.ifs (.cmp .Eq (v 41 456 7 10) (ki 2 456 14 15) (p 456 7 15)) (Y.st (.ret (.tup (l3 (ks "name" 457 16 22) (.sub (.list (l2 (ks "u" 457 25 28) (ks "v2" 457 30 34)) (p 457 24 35)) (.call 19 (l2 (v 38 457 46 49) (ki 2 457 51 52)) (p 457 36 45) (p 457 36 53)) (p 457 24 54)) (.call 21 (l2 (v 38 457 66 69) (.bin .Add (ki 1 457 71 72) (v 42 457 75 79) (p 457 71 79))) (p 457 56 65) (p 457 56 80))) (p 457 15 81)) (p 457 8 81)) .nil) .nil ⟨456,4,457,81⟩) (bc (.ifs (.cmp .Eq (v 41 458 7 10) (ki 3 458 14 15) (p 458 7 15)) (Y.st (.ret (.tup (l2 (ks "call" 459 16 22) (.call 21 (l2 (v 38 459 34 37) (.bin .Add (ki 1 459 39 40) (v 42 459 43 47) (p 459 39 47))) (p 459 24 33) (p 459 24 48))) (p 459 15 49)) (p 459 8 49)) .nil) .nil ⟨458,4,459,49⟩) (bc (.ifs (.cmp .Eq (v 41 460 7 10) (ki 4 460 14 15) (p 460 7 15)) (Y.st (.ret (.tup (l2 (ks "word" 461 16 22) (.sub (.call 18 .nil (p 461 24 34) (p 461 24 36)) (.call 19 (l2 (v 38 461 47 50) (ki 5 461 52 53)) (p 461 37 46) (p 461 37 54)) (p 461 24 55))) (p 461 15 56)) (p 461 8 56)) .nil) .nil ⟨460,4,461,56⟩) (Y.st (.set 28 (p 462 4 8) (.call 21 (l2 (v 38 462 21 24) (ki 1 462 26 27)) (p 462 11 20) (p 462 11 28)) (p 462 4 28)) (Y.st (.set 29 (p 463 4 7) (.comp (.call 22 (l2 (v 38 463 26 29) (.bin .Sub (v 42 463 31 35) (ki 1 463 38 39) (p 463 31 39))) (p 463 11 25) (p 463 11 40)) 43 (p 463 45 49) (.bi .range (l1 (.call 19 (l2 (v 38 463 69 72) (ki 3 463 74 75)) (p 463 59 68) (p 463 59 76))) (p 463 53 58) (p 463 53 77)) [42,38] {kind:= .function,names:=[(Str.ofString ".0", .local),(Str.ofString "turn", .local),(Str.ofString "_law_statement", .globalImplicit),(Str.ofString "deep", .free),(Str.ofString "pen", .free)],isGenerator:=false,isCoroutine:=false,more:=[]} (p 463 10 78)) (p 463 4 78)) (bc (.ifs (.cmp .Eq (v 41 464 7 10) (ki 6 464 14 15) (p 464 7 15)) (Y.st (.ret (.tup (l3 (ks "while" 465 16 23) (v 28 465 25 29) (v 29 465 31 34)) (p 465 15 35)) (p 465 8 35)) .nil) .nil ⟨464,4,465,35⟩) (Y.st (.ret (.tup (l4 (ks "if" 466 12 16) (v 28 466 18 22) (v 29 466 24 27) (.comp (.call 22 (l2 (v 38 466 45 48) (.bin .Sub (v 42 466 50 54) (ki 1 466 57 58) (p 466 50 58))) (p 466 30 44) (p 466 30 59)) 43 (p 466 64 68) (.bi .range (l1 (.call 19 (l2 (v 38 466 88 91) (ki 2 466 93 94)) (p 466 78 87) (p 466 78 95))) (p 466 72 77) (p 466 72 96)) [42,38] {kind:= .function,names:=[(Str.ofString ".0", .local),(Str.ofString "turn", .local),(Str.ofString "_law_statement", .globalImplicit),(Str.ofString "deep", .free),(Str.ofString "pen", .free)],isGenerator:=false,isCoroutine:=false,more:=[]} (p 466 29 97))) (p 466 11 98)) (p 466 4 98)) .nil)))))))))
noncomputable def zfn:Bs:=(Y.st (.setT [(26,(p 468 4 9)),(46,(p 468 11 18)),(47,(p 468 20 27)),(3,(p 468 29 31))] (p 468 4 31) (l4 (.listM .nil (p 468 35 37)) (.listM .nil (p 468 39 41)) (.const (.bool false) (p 468 43 48)) (ki 0 468 50 51)) (p 468 34 52) (p 468 4 52)) (bc (.whl (.cmp .Lt (v 3 469 10 12) (.bi .len (l1 (v 45 469 19 23)) (p 469 15 18) (p 469 15 24)) (p 469 10 24)) (Y.st (.set 10 (p 470 8 12) (.sub (v 45 470 15 19) (v 3 470 20 22) (p 470 15 23)) (p 470 8 23)) (bc (.ifs (.and (l2 (v 47 471 11 18) (.cmp .Eq (v 10 471 23 27) (ks "\\" 471 31 35) (p 471 23 35))) (p 471 11 35)) (Y.st (.set 3 (p 472 12 14) (.bin .Add (v 3 472 17 19) (ki 1 472 22 23) (p 472 17 23)) (p 472 12 23)) .nil) (bc (.ifs (.cmp .Eq (v 10 473 13 17) (ks "\"" 473 21 24) (p 473 13 24)) (Y.st (.set 47 (p 474 12 19) (.not (v 47 474 26 33) (p 474 22 33)) (p 474 12 33)) .nil) (bc (.ifs (.and (l2 (.cmp .Eq (v 10 475 13 17) (ks "(" 475 21 24) (p 475 13 24)) (.not (v 47 475 34 41) (p 475 30 41))) (p 475 13 42)) (Y.st (.set 48 (p 476 12 19) (.and (l2 (.cmp .Gt (v 3 476 22 24) (ki 0 476 27 28) (p 476 22 28)) (.or (l2 (.sm (.sub (v 45 476 34 38) (.bin .Sub (v 3 476 39 41) (ki 1 476 44 45) (p 476 39 45)) (p 476 34 46)) .isalnum .nil (p 476 34 54) (p 476 34 56)) (.cmp .Eq (.sub (v 45 476 60 64) (.bin .Sub (v 3 476 65 67) (ki 1 476 70 71) (p 476 65 71)) (p 476 60 72)) (ks "_" 476 76 79) (p 476 60 79))) (p 476 34 79))) (p 476 22 80)) (p 476 12 80)) (Y.st (.exp (.sm (v 46 477 12 19) .append (l1 (.tup (l2 (v 3 477 28 30) (.and (l3 (.not (v 48 477 36 43) (p 477 32 43)) (.not (.sm (.slTo (v 45 477 53 57) (v 3 477 59 61) (p 477 58 61) (p 477 53 62)) .endswith (l1 (ks "if " 477 72 77)) (p 477 53 71) (p 477 53 78)) (p 477 49 78)) (.not (.sm (.slTo (v 45 477 89 93) (v 3 477 95 97) (p 477 94 97) (p 477 89 98)) .endswith (l1 (ks "while " 477 108 116)) (p 477 89 107) (p 477 89 117)) (p 477 85 117))) (p 477 32 118))) (p 477 27 119))) (p 477 12 26) (p 477 12 120)) (p 477 12 120)) .nil)) (bc (.ifs (.and (l2 (.cmp .Eq (v 10 478 13 17) (ks ")" 478 21 24) (p 478 13 24)) (.not (v 47 478 34 41) (p 478 30 41))) (p 478 13 42)) (Y.st (.setU [(5,(p 479 12 17)),(49,(p 479 19 27))] (p 479 12 27) (.sm (v 46 479 30 37) .pop .nil (p 479 30 41) (p 479 30 43)) (p 479 12 43)) (bc (.ifs (v 49 480 15 23) (Y.st (.exp (.sm (v 26 481 16 21) .append (l1 (.tup (l2 (v 5 481 30 35) (v 3 481 37 39)) (p 481 29 40))) (p 481 16 28) (p 481 16 41)) (p 481 16 41)) .nil) .nil ⟨480,12,481,41⟩) .nil)) .nil ⟨478,8,481,41⟩) .nil) ⟨475,8,481,41⟩) .nil) ⟨473,8,481,41⟩) .nil) ⟨471,8,481,41⟩) (Y.st (.set 3 (p 482 8 10) (.bin .Add (v 3 482 13 15) (ki 1 482 18 19) (p 482 13 19)) (p 482 8 19)) .nil))) ⟨469,4,482,19⟩) (Y.st (.ret (.frz 0 (v 26 483 11 16)) (p 483 4 16)) .nil)))
noncomputable def zc1:Bs:=(Y.st (.setT [(3,(p 490 4 6)),(10,(p 490 8 12))] (p 490 4 12) (l2 (.call 19 (l2 (v 38 490 26 29) (.bin .Add (.bi .len (l1 (v 45 490 35 39)) (p 490 31 34) (p 490 31 40)) (ki 1 490 43 44) (p 490 31 44))) (p 490 16 25) (p 490 16 45)) (.sub (.list (.cons (ks "" 490 48 50) (.cons (ks "(" 490 52 55) (.cons (ks ")" 490 57 60) (.cons (ks ";" 490 62 65) (.cons (ks "-" 490 67 70) (.cons (ks "=" 490 72 75) (.cons (ks "{" 490 77 80) (.cons (ks "\"" 490 82 85) (.cons (ks "$" 490 87 90) (.cons (ks " " 490 92 95) (l4 (ks "u" 490 97 100) (ks "7" 490 102 105) (ks "&" 490 107 110) (ks "else" 490 112 118)))))))))))) (p 490 47 119)) (.call 19 (l2 (v 38 490 130 133) (ki 14 490 135 137)) (p 490 120 129) (p 490 120 138)) (p 490 47 139))) (p 490 15 140) (p 490 4 140)) (Y.st (.set 51 (p 491 4 8) (.bin .Add (.bin .Add (.slTo (v 45 491 11 15) (v 3 491 17 19) (p 491 16 19) (p 491 11 20)) (v 10 491 23 27) (p 491 11 27)) (.slFrom (v 45 491 30 34) (.bin .Add (v 3 491 35 37) (.bi .int (l1 (.cmp .Eq (v 10 491 44 48) (ks "" 491 52 54) (p 491 44 54))) (p 491 40 43) (p 491 40 55)) (p 491 35 55)) (p 491 35 56) (p 491 30 57)) (p 491 11 57)) (p 491 4 57)) (Y.st (.set 26 (p 492 4 9) (.call 24 (l1 (v 51 492 22 26)) (p 492 12 21) (p 492 12 27)) (p 492 4 27)) (bc (.ifs (.cmp .Eq (v 26 493 7 12) (.list (l1 (ks "odd" 493 17 22)) (p 493 16 23)) (p 493 7 23)) (Y.st (.ret (.const (.bool false) (p 494 15 20)) (p 494 8 20)) .nil) .nil ⟨493,4,494,20⟩) (Y.st (.ret (.or (l2 (.cmp .Eq (v 26 495 11 16) (.list .nil (p 495 20 22)) (p 495 11 22)) (.cmp .Eq (.bi .repr (l1 (.call 24 (l1 (.call 15 (l1 (.sub (v 26 495 53 58) (ki 0 495 59 60) (p 495 53 61))) (p 495 41 52) (p 495 41 62))) (p 495 31 40) (p 495 31 63))) (p 495 26 30) (p 495 26 64)) (.bi .repr (l1 (v 26 495 73 78)) (p 495 68 72) (p 495 68 79)) (p 495 26 79))) (p 495 11 79)) (p 495 4 79)) .nil)))))
noncomputable def b_law:Bs:=(.cons (.s (.set 53 (p 497 4 9) (.comp (.bin .Mod (.bi .int (.cons (v 54 497 17 21) .nil) (p 497 13 16) (p 497 13 22)) (ki 1000003 497 25 32) (p 497 13 32)) 54 (p 497 37 41) (.slTo (v 52 497 45 51) (ki 60 497 53 55) (p 497 52 55) (p 497 45 56)) [] {kind:= .function,names:=[(Str.ofString ".0", .local),(Str.ofString "cell", .local),(Str.ofString "int", .globalImplicit)],isGenerator:=false,isCoroutine:=false,more:=[]} (p 497 12 57)) (p 497 4 57)))
  (.cons (.s (.set 38 (p 498 4 7) (.listM (.cons (v 53 498 11 16) (.cons (ki 0 498 18 19) (.cons (.bin .Mod (.bi .sum (.cons (v 53 498 25 30) .nil) (p 498 21 24) (p 498 21 31)) (ki 997 498 34 37) (p 498 21 37)) .nil))) (p 498 10 38)) (p 498 4 38)))
  (.cons (.s (.set 37 (p 499 4 9) (.comp (.call 22 (.cons (v 38 499 28 31) (.cons (ki 1 499 33 34) .nil)) (p 499 13 27) (p 499 13 35)) 43 (p 499 40 44) (.bi .range (.cons (.bin .Add (ki 1 499 54 55) (.call 19 (.cons (v 38 499 68 71) (.cons (ki 2 499 73 74) .nil)) (p 499 58 67) (p 499 58 75)) (p 499 54 75)) .nil) (p 499 48 53) (p 499 48 76)) [38] {kind:= .function,names:=[(Str.ofString ".0", .local),(Str.ofString "turn", .local),(Str.ofString "_law_statement", .globalImplicit),(Str.ofString "pen", .free)],isGenerator:=false,isCoroutine:=false,more:=[]} (p 499 12 77)) (p 499 4 77)))
  (.cons (.s (.set 45 (p 500 4 8) (.call 15 (.cons (v 37 500 23 28) .nil) (p 500 11 22) (p 500 11 29)) (p 500 4 29)))
  (.cons (.ifs (.cmp .NotEq (.bi .repr (.cons (.call 9 (.cons (v 45 501 25 29) .nil) (p 501 12 24) (p 501 12 30)) .nil) (p 501 7 11) (p 501 7 31)) (.bi .repr (.cons (v 37 501 40 45) .nil) (p 501 35 39) (p 501 35 46)) (p 501 7 46)) (.cons (.s (.ret (.const (.bool false) (p 502 15 20)) (p 502 8 20)))
  .nil) .nil ⟨501,4,502,20⟩)
  (.cons (.for2 5 17 (p 503 8 13) (p 503 15 18) (p 503 8 18) (.slTo (.call 23 (.cons (v 45 503 34 38) .nil) (p 503 22 33) (p 503 22 39)) (ki 2 503 41 42) (p 503 40 42) (p 503 22 43)) (.cons (.ifs (.cmp .In (.bi .repr (.cons (.call 24 (.cons (.bin .Add (.bin .Add (.slTo (v 45 504 26 30) (v 5 504 32 37) (p 504 31 37) (p 504 26 38)) (.sl (v 45 504 41 45) (.bin .Add (v 5 504 46 51) (ki 1 504 54 55) (p 504 46 55)) (v 17 504 56 59) (p 504 46 59) (p 504 41 60)) (p 504 26 60)) (.slFrom (v 45 504 63 67) (.bin .Add (v 17 504 68 71) (ki 1 504 74 75) (p 504 68 75)) (p 504 68 76) (p 504 63 77)) (p 504 26 77)) .nil) (p 504 16 25) (p 504 16 78)) .nil) (p 504 11 15) (p 504 11 79)) (.tup (.cons (.bi .repr (.cons (.list (.cons (v 37 504 90 95) .nil) (p 504 89 96)) .nil) (p 504 84 88) (p 504 84 97)) (.cons (.bi .repr (.cons (.list (.cons (ks "odd" 504 105 110) .nil) (p 504 104 111)) .nil) (p 504 99 103) (p 504 99 112)) .nil)) (p 504 83 113)) (p 504 11 113)) (.cons (.s (.ret (.const (.bool false) (p 505 19 24)) (p 505 12 24)))
  .nil) .nil ⟨504,8,505,24⟩)
  .nil) ⟨503,4,505,24⟩)
  (.cons (.s (.ret (.call 25 (.cons (v 38 506 27 30) (.cons (v 45 506 32 36) .nil)) (p 506 11 26) (p 506 11 37)) (p 506 4 37)))
  .nil)))))))
end
theorem b_Position_init_ok:zc6.py=zad (sti 10 0):=by kernel_rfl
theorem b_position_of_ok:zer.py=zad (st 11):=by kernel_rfl
theorem b_Cursor_init_ok:ze5.py=zad (sti 14 0):=by kernel_rfl
theorem b_Cursor_is_done_ok:zc3.py=zad (sti 14 1):=by kernel_rfl
theorem b_Cursor_peek_ok:zen.py=zad (sti 14 2):=by kernel_rfl
theorem b_Cursor_starts_ok:zdg.py=zad (sti 14 3):=by kernel_rfl
theorem b_Cursor_take_ok:zev.py=zad (sti 14 4):=by kernel_rfl
theorem b_Cursor_skip_ok:zeu.py=zad (sti 14 5):=by kernel_rfl
theorem b_Cursor_take_while_ok:zbz.py=zad (sti 14 6):=by kernel_rfl
theorem b_Cursor_skip_blanks_ok:zbu.py=zad (sti 14 8):=by kernel_rfl
theorem b_Cursor_name_ok:zem.py=zad (sti 14 9):=by kernel_rfl
theorem b_Cursor_number_ok:zde.py=zad (sti 14 10):=by kernel_rfl
theorem b_Cursor_coded_ok:zd9.py=zad (sti 14 13):=by kernel_rfl
theorem b_Cursor_escape_ok:zc8.py=zad (sti 14 14):=by kernel_rfl
theorem b_Cursor_quoted_ok:zdp.py=zad (sti 14 15):=by kernel_rfl
theorem b_hex_escape_ok:zfl.py=zad (st 15):=by kernel_rfl
theorem b_escaped_sign_ok:zeb.py=zad (st 16):=by kernel_rfl
theorem b_escaped_ok:b_escaped.py=zad (st 17):=by kernel_rfl
theorem b_Part_init_ok:zgt.py=zad (sti 26 0):=by kernel_rfl
theorem b_refused_ok:b_refused.py=zad (st 27):=by kernel_rfl
theorem b_scan_dollar_ok:zew.py=zad (st 28):=by kernel_rfl
theorem b_scan_sign_ok:zg0.py=zad (st 29):=by kernel_rfl
theorem b_scan_action_ok:zeq.py=zad (st 30):=by kernel_rfl
theorem b_ActionReader_init_ok:zb4.py=zad (sti 31 0):=by kernel_rfl
theorem b_ActionReader_here_ok:zby.py=zad (sti 31 1):=by kernel_rfl
theorem b_ActionReader_refuse_ok:zbn.py=zad (sti 31 2):=by kernel_rfl
theorem b_ActionReader_is_sign_ok:zbf.py=zad (sti 31 3):=by kernel_rfl
theorem b_ActionReader_skip_ok:zb5.py=zad (sti 31 4):=by kernel_rfl
theorem b_ActionReader_need_ok:zb2.py=zad (sti 31 5):=by kernel_rfl
theorem b_ActionReader_take_ok:zb7.py=zad (sti 31 6):=by kernel_rfl
theorem b_ActionReader_whole_ok:zbs.py=zad (sti 31 7):=by kernel_rfl
theorem zgr:zba.py=zad (sti 31 8):=by kernel_rfl
theorem zfw:za3.py=zad (sti 31 9):=by kernel_rfl
theorem b_ActionReader_block_ok:zbq.py=zad (sti 31 10):=by kernel_rfl
theorem zf9:za6.py=zad (sti 31 11):=by kernel_rfl
theorem b_ActionReader_choice_ok:zbm.py=zad (sti 31 12):=by kernel_rfl
theorem zhb:za9.py=zad (sti 31 13):=by kernel_rfl
theorem zf3:za2.py=zad (sti 31 14):=by kernel_rfl
theorem b_ActionReader_unary_ok:zbt.py=zad (sti 31 15):=by kernel_rfl
theorem b_ActionReader_atom_ok:zb6.py=zad (sti 31 16):=by kernel_rfl
theorem b_ActionReader_items_ok:zbr.py=zad (sti 31 17):=by kernel_rfl
theorem b_joined_ok:b_joined.py=zad (st 32):=by kernel_rfl
theorem b_parse_action_ok:zea.py=zad (st 33):=by kernel_rfl
theorem b_level_of_ok:b_level_of.py=zad (st 34):=by kernel_rfl
theorem b_show_within_ok:zep.py=zad (st 35):=by kernel_rfl
theorem b_show_expression_ok:zch.py=zad (st 36):=by kernel_rfl
theorem b_show_block_ok:zfo.py=zad (st 37):=by kernel_rfl
theorem b_show_statement_ok:zc0.py=zad (st 38):=by kernel_rfl
theorem b_show_action_ok:ze3.py=zad (st 39):=by kernel_rfl
theorem b_law_signs_ok:zgc.py=zad (st 41):=by kernel_rfl
theorem b_law_sizes_ok:zhi.py=zad (st 42):=by kernel_rfl
theorem b_law_words_ok:zgh.py=zad (st 43):=by kernel_rfl
theorem b_law_draw_ok:b_law_draw.py=zad (st 44):=by kernel_rfl
theorem b_law_leaf_ok:b_law_leaf.py=zad (st 45):=by kernel_rfl
theorem b_law_tree_ok:b_law_tree.py=zad (st 46):=by kernel_rfl
theorem b_law_statement_ok:zdt.py=zad (st 47):=by kernel_rfl
theorem b_law_groups_ok:zfn.py=zad (st 48):=by kernel_rfl
theorem b_law_bent_right_ok:zc1.py=zad (st 50):=by kernel_rfl
theorem b_law_ok:b_law.py=zad (st 51):=by kernel_rfl
end Mine
namespace Mine
open H (K vw loose pw)
noncomputable abbrev CS:=Nat→List AV→Option AO→(AV→Option AO→Prop)→(Int→Prop)→Prop
noncomputable def AV.isD:AV→Option PyData
 | .d x=>some x
 |_=>none
noncomputable def AV.isF:AV→Option (Addr×List (Nat×PyData))
 | .fi c fs=>some (c,fs)
 |_=>none
noncomputable def allD:List AV→Option (List PyData)
 | []=>some []
 | .d x::r=>(allD r).map (x:: ·)
 |_=>none
noncomputable def allF:List AV→Option (List (Addr×List (Nat×PyData)))
 | []=>some []
 | .fi c fs::r=>(allF r).map ((c,fs):: ·)
 |_=>none
noncomputable def zdj:List PyData→Option (List Str)
 | []=>some []
 | .str x::r=>(zdj r).map (x:: ·)
 |_=>none
noncomputable def allInt:List PyData→Option (List Int)
 | []=>some []
 | .int x::r=>(allInt r).map (x:: ·)
 |_=>none
noncomputable def zca(l:List AV):Option AV:=match allD l with
 |some xs=>some (.d (.list xs))
 |none=>(allF l).map .fl
noncomputable def tab22:List (Str×Int):=[(Str.ofString "n",10),(Str.ofString "t",9),(Str.ofString "r",13),(Str.ofString "f",12),(Str.ofString "v",11),(Str.ofString "a",7),(Str.ofString "b",8)]
noncomputable def zdd:List (Str×Int):=[(Str.ofString "||",1),(Str.ofString "&&",2),(Str.ofString "==",3),(Str.ofString "!=",3),(Str.ofString "<",3),(Str.ofString "<=",3),(Str.ofString ">",3),(Str.ofString ">=",3),(Str.ofString "+",4),(Str.ofString "-",4),(Str.ofString "*",5),(Str.ofString "/",5),(Str.ofString "%",5)]
noncomputable def tabOf(n:Nat):List (Str×Int):=if n=22 then tab22 else zdd
noncomputable def onD(a:AV)(f:PyData→Prop):Prop:=match a with
 | .d x=>f x
 |_=>False
noncomputable def onR(a:AV)(f:Nat→Prop):Prop:=match a with
 | .ref k=>f k
 |_=>False
noncomputable def onTb(a:AV)(f:Nat→Prop):Prop:=match a with
 | .tab n=>f n
 |_=>False
noncomputable def onDI(x:PyData)(f:Int→Prop):Prop:=match x with
 | .int x=>f x
 |_=>False
noncomputable def onDT(x:PyData)(f:Str→Prop):Prop:=match x with
 | .str x=>f x
 |_=>False
noncomputable def onDL(x:PyData)(f:List PyData→Prop):Prop:=match x with
 | .list x=>f x
 |_=>False
noncomputable def onI(a:AV)(f:Int→Prop):Prop:=onD a fun x=>onDI x f
noncomputable def onT(a:AV)(f:Str→Prop):Prop:=onD a fun x=>onDT x f
noncomputable def onL(a:AV)(f:List PyData→Prop):Prop:=onD a fun x=>onDL x f
noncomputable def onS{α:Type}(o:Option α)(f:α→Prop):Prop:=match o with
 |some x=>f x
 |none=>False
noncomputable def onB(b:Bool)(p:Prop):Prop:=match b with
 |true=>p
 |false=>False
noncomputable def on0(as:List AV)(p:Prop):Prop:=match as with
 | []=>p
 |_::_=>False
noncomputable def on1(as:List AV)(f:AV→Prop):Prop:=match as with
 | []=>False
 |a::r=>on0 r (f a)
noncomputable def on2(as:List AV)(f:AV→AV→Prop):Prop:=match as with
 | []=>False
 |a::r=>on1 r (f a)
noncomputable def onC(x:Str)(f:Nat→Prop):Prop:=match x.cps.toList with
 | []=>False
 |c::r=>match r with
  | []=>f c
  |_::_=>False
noncomputable def onAL(o:AO)(f:List AV→Prop):Prop:=match o with
 | .list l=>f l
 |_=>False
noncomputable def onAI(o:AO)(f:Addr→List (Nat×AV)→Prop):Prop:=match o with
 | .inst c l=>f c l
 |_=>False
noncomputable def onFi(a:AV)(f:Addr→List (Nat×PyData)→Prop):Prop:=match a with
 | .fi c l=>f c l
 |_=>False
theorem onFi.inv{a:AV}{f:Addr→List (Nat×PyData)→Prop}(h:onFi a f):∃c l,a= .fi c l∧f c l:=by
 cases a<;>first|exact⟨_,_,rfl,h⟩|exact False.elim h
theorem onD.inv{a:AV}{f:PyData→Prop}(h:onD a f):∃x,a= .d x∧f x:=by
 cases a<;>first|exact⟨_,rfl,h⟩|exact False.elim h
theorem onR.inv{a:AV}{f:Nat→Prop}(h:onR a f):∃x,a= .ref x∧f x:=by
 cases a<;>first|exact⟨_,rfl,h⟩|exact False.elim h
theorem onTb.inv{a:AV}{f:Nat→Prop}(h:onTb a f):∃x,a= .tab x∧f x:=by
 cases a<;>first|exact⟨_,rfl,h⟩|exact False.elim h
theorem onDI.inv{a:PyData}{f:Int→Prop}(h:onDI a f):∃x,a= .int x∧f x:=by
 cases a<;>first|exact⟨_,rfl,h⟩|exact False.elim h
theorem onDT.inv{a:PyData}{f:Str→Prop}(h:onDT a f):∃x,a= .str x∧f x:=by
 cases a<;>first|exact⟨_,rfl,h⟩|exact False.elim h
theorem onI.inv{a:AV}{f:Int→Prop}(h:onI a f):∃x,a= .d (.int x)∧f x:=by
 obtain⟨x,rfl,h⟩:=onD.inv h
 obtain⟨x,rfl,h⟩:=onDI.inv h
 exact⟨x,rfl,h⟩
theorem onT.inv{a:AV}{f:Str→Prop}(h:onT a f):∃x,a= .d (.str x)∧f x:=by
 obtain⟨x,rfl,h⟩:=onD.inv h
 obtain⟨x,rfl,h⟩:=onDT.inv h
 exact⟨x,rfl,h⟩
theorem onS.inv{α:Type}{o:Option α}{f:α→Prop}(h:onS o f):∃x,o=some x∧f x:=by
 cases o with
 |some x=>exact⟨x,rfl,h⟩
 |none=>exact False.elim h
theorem onB.inv{b:Bool}{p:Prop}(h:onB b p):b=true∧p:=by
 cases b with
 |true=>exact⟨rfl,h⟩
 |false=>exact False.elim h
theorem on0.inv{as:List AV}{p:Prop}(h:on0 as p):as=[]∧p:=by
 cases as with
 |nil=>exact⟨rfl,h⟩
 |cons a r=>exact False.elim h
theorem on1.inv{as:List AV}{f:AV→Prop}(h:on1 as f):∃a,as=[a]∧f a:=by
 cases as with
 |nil=>exact False.elim h
 |cons a r=>
  obtain⟨rfl,h⟩:=on0.inv h
  exact⟨a,rfl,h⟩
theorem onC.inv{x:Str}{f:Nat→Prop}(h:onC x f):∃c,x.cps.toList=[c]∧f c:=by
 unfold onC at h
 generalize x.cps.toList=l at h
 cases l with
 |nil=>exact False.elim h
 |cons c r=>
  cases r with
  |nil=>exact⟨c,rfl,h⟩
  |cons d r=>exact False.elim h
theorem onAL.inv{o:AO}{f:List AV→Prop}(h:onAL o f):∃l,o= .list l∧f l:=by
 cases o<;>first|exact⟨_,rfl,h⟩|exact False.elim h
theorem onAI.inv{o:AO}{f:Addr→List (Nat×AV)→Prop}(h:onAI o f):∃c l,o= .inst c l∧f c l:=by
 cases o<;>first|exact⟨_,_,rfl,h⟩|exact False.elim h
noncomputable def fc{α:Type}:List α→(List α→Prop)→Prop
 | [],k=>k []
 |x::r,k=>fc r fun y=>k (x::y)
theorem fc_eq{α:Type}:∀(l:List α)(k:List α→Prop),fc l k=k l
 | [],_=>rfl
 |x::r,k=>fc_eq r fun y=>k (x::y)
noncomputable def fcn{α:Type}:List α→(Nat→Prop)→Prop
 | [],k=>k 0
 |_::r,k=>fcn r fun n=>k (n+1)
theorem fcn_eq{α:Type}:∀(l:List α)(k:Nat→Prop),fcn l k=k l.length
 | [],_=>rfl
 |_::r,k=>fcn_eq r fun n=>k (n+1)
noncomputable def AV.isRef:AV→Bool
 | .ref _=>true
 |_=>false
noncomputable def AV.zero(a:AV):AV:=match a.isRef with
 |true=> .ref 0
 |false=>a
noncomputable def fcz:List AV→(List AV→Prop)→Prop
 | [],k=>k []
 |x::r,k=>match x.isRef with
  |true=>fcz r fun y=>k (.ref 0::y)
  |false=>fcz r fun y=>k (x::y)
theorem fcz_eq:∀(l:List AV)(k:List AV→Prop),fcz l k=k (l.map AV.zero)
 | [],_=>rfl
 |x::r,k=>by
  show(match x.isRef with
   |true=>fcz r fun y=>k (.ref 0::y)
   |false=>fcz r fun y=>k (x::y))=k ((match x.isRef with
   |true=>AV.ref 0
   |false=>x)::r.map AV.zero)
  cases x.isRef with
  |true=>exact fcz_eq r fun y=>k (.ref 0::y)
  |false=>exact fcz_eq r fun y=>k (x::y)
noncomputable def St.fc(σ:St)(Φ:St→Prop):Prop:=Mine.fc σ.loc fun l=>Mine.fc σ.obj fun o=>Φ ⟨l,o⟩
theorem St.fc_eq(σ:St)(Φ:St→Prop):σ.fc Φ=Φ σ:=by unfold St.fc;rw[Mine.fc_eq,Mine.fc_eq]
noncomputable def aadd(a b:AV)(P:AV→Prop):Prop:=onD a fun x=>match x with
 | .int x=>onI b fun y=>P (.d (.int (x+y)))
 | .str x=>onT b fun y=>x.length+y.length≤sizeLine∧P (.d (.str (x++y)))
 |_=>False
noncomputable def abin(op:Operator)(a b:AV)(P:AV→Prop):Prop:=match op with
 | .Add=>aadd a b P
 | .Sub=>onI a fun x=>onI b fun y=>P (.d (.int (x-y)))
 | .Mult=>onI a fun x=>onI b fun y=>(-(2^62:Int)<x∧x<2^62)∧P (.d (.int (x*y)))
 | .FloorDiv=>onI a fun x=>onI b fun y=>(0≤x∧0<y∧y<2^30)∧P (.d (.int (x/y)))
 | .Mod=>onI a fun x=>onI b fun y=>0<y∧P (.d (.int (x % y)))
 |_=>False
noncomputable def peq1(a b:PyData):Option Bool:=match a with
 | .list _=>match b with
  | .str _=>some false
  |_=>none
 |_=>none
noncomputable def peqL(l m:List PyData):Option Bool:=match l with
 | []=>match m with
  | []=>some true
  |_::_=>some false
 |a::r=>match m with
  | []=>some false
  |b::s=>match r with
   | []=>match s with
    | []=>peq1 a b
    |_::_=>none
   |_::_=>none
noncomputable def peq(x y:PyData):Option Bool:=match x with
 | .int x=>match y with
  | .int y=>some (x==y)
  |_=>none
 | .str x=>match y with
  | .str y=>some (x==y)
  |_=>none
 | .list l=>match y with
  | .list m=>peqL l m
  |_=>none
 |_=>none
noncomputable def ain(x:Str)(b:AV)(P:Bool→Prop):Prop:=match b with
 | .d b=>match b with
  | .str y=>onC x fun c=>P (y.cps.toList.contains c)
  | .tuple ys=>onS (zdj ys) fun l=>P (l.contains x)
  |_=>False
 | .tab n=>P ((tabOf n).lookup x).isSome
 |_=>False
noncomputable def anin(x:Str)(b:AV)(P:Bool→Prop):Prop:=onD b fun b=>match b with
 | .str y=>onC x fun c=>P (!y.cps.toList.contains c)
 | .tuple ys=>onS (zdj ys) fun l=>P (!l.contains x)
 |_=>False
noncomputable def aisn(x:PyData)(P:Bool→Prop):Prop:=match x with
 | .none=>P true
 | .int _=>P false
 | .str _=>P false
 |_=>False
noncomputable def aisnn(x:PyData)(P:Bool→Prop):Prop:=match x with
 | .none=>P false
 | .int _=>P true
 |_=>False
noncomputable def onN(x:PyData)(p:Prop):Prop:=match x with
 | .none=>p
 |_=>False
theorem onN.inv{x:PyData}{p:Prop}(h:onN x p):x= .none∧p:=by
 cases x<;>first|exact⟨rfl,h⟩|exact False.elim h
noncomputable def acmp(op:CmpOp)(a b:AV)(P:Bool→Prop):Prop:=match op with
 | .Eq=>onD a fun x=>onD b fun y=>onS (peq x y) P
 | .NotEq=>onD a fun x=>onD b fun y=>onS (peq x y) fun r=>P (!r)
 | .Lt=>onI a fun x=>onI b fun y=>P (decide (x<y))
 | .LtE=>onI a fun x=>onI b fun y=>P (decide (x≤y))
 | .Gt=>onI a fun x=>onI b fun y=>P (decide (y<x))
 | .GtE=>onI a fun x=>onI b fun y=>P (decide (y≤x))
 | .In=>onT a fun x=>ain x b P
 | .NotIn=>onT a fun x=>anin x b P
 | .Is=>onD a fun x=>onD b fun y=>onN y (aisn x P)
 | .IsNot=>onD a fun x=>onD b fun y=>onN y (aisnn x P)
noncomputable def aidxD(x:PyData)(i:AV)(P:AV→Prop):Prop:=match x with
 | .str x=>onI i fun i=>∃c,(0≤i∧i<2^62∧x.cps.toList[i.toNat]?=some c)∧P (.d (.str ⟨#[c]⟩))
 | .list xs=>onI i fun i=>∃x,(0≤i∧i<2^62∧xs[i.toNat]?=some x)∧P (.d x)
 | .tuple xs=>onI i fun i=>onS xs[i.toNat]? fun x=>0≤i∧i<2^62∧P (.d x)
 |_=>False
noncomputable def aidx(σ:St)(a i:AV)(P:AV→Prop):Prop:=match a with
 | .d x=>aidxD x i P
 | .fl l=>onI i fun i=>∃p:Addr×List (Nat×PyData),(0≤i∧i<2^62∧l[i.toNat]?=some p)∧P (.fi p.1 p.2)
 | .ref k=>onI i fun i=>onS σ.obj[k]? fun o=>onAL o fun l=>onS l[i.toNat]? fun a=>0≤i∧i<2^62∧onB (AV.plain a) (P a)
 | .tab n=>onT i fun x=>∃v,(tabOf n).lookup x=some v∧P (.d (.int v))
 |_=>False
noncomputable def asl(a lo hi:AV)(P:AV→Prop):Prop:=onT a fun x=>onI lo fun i=>onI hi fun j=>(0≤i∧0≤j∧x.length≤sizeLine)∧P (.d (.str ⟨((x.cps.toList.take j.toNat).drop i.toNat).toArray⟩))
noncomputable def aslTo(a hi:AV)(P:AV→Prop):Prop:=onD a fun x=>match x with
 | .str x=>onI hi fun j=>(0≤j∧x.length≤sizeLine)∧P (.d (.str ⟨(x.cps.toList.take j.toNat).toArray⟩))
 | .list xs=>onI hi fun j=>(0≤j∧xs.length≤sizeLine)∧P (.d (.list (xs.take j.toNat)))
 |_=>False
noncomputable def aslFrom(a lo:AV)(P:AV→Prop):Prop:=onT a fun x=>onI lo fun i=>(0≤i∧x.length≤sizeLine)∧P (.d (.str ⟨(x.cps.toList.drop i.toNat).toArray⟩))
noncomputable def aattr(σ:St)(a:AV)(f:Nat)(P:AV→Prop):Prop:=match a with
 | .fi C fs=>onB (okF C f) (onS (fs.lookup f) fun x=>P (.d x))
 | .ref k=>onS σ.obj[k]? fun o=>onAI o fun C fs=>onB (okF C f) (onS (fs.lookup f) fun a=>onB (AV.plain a) (P a))
 |_=>False
noncomputable def digits(l:List Nat):Bool:=!l.isEmpty&&l.all fun c=>48≤c&&c≤57
noncomputable def decOf(l:List Nat):Int:=l.foldl (fun(n:Int)(c:Nat)=>n*10+((c:Int)-48)) 0
noncomputable def zc4(c:Nat):Option Nat:=if 48≤c&&c≤57 then some (c-48)else if 97≤c&&c≤102 then some (c-87)else if 65≤c&&c≤70 then some (c-55)else none
noncomputable def joinL(sep:List Nat):List (List Nat)→List Nat
 | []=> []
 | [x]=>x
 |x::y::r=>x++sep++joinL sep (y::r)
noncomputable def alen(a:AV)(k:Nat→Prop):Prop:=match a with
 | .d x=>match x with
  | .str x=>k x.length
  | .list xs=>k xs.length
  |_=>False
 | .fl l=>k l.length
 |_=>False
noncomputable def aint(a:AV)(P:AV→Prop):Prop:=onD a fun x=>match x with
 | .int x=>P (.d (.int x))
 | .bool x=>P (.d (.int (if x then 1 else 0)))
 | .str x=>∃n,(PySem.intText? x=some n∧x.length≤640)∧P (.d (.int n))
 |_=>False
noncomputable def abi(b:BI)(as:List AV)(P:AV→Prop):Prop:=match b with
 | .len=>on1 as fun a=>alen a fun n=>n<2^62∧P (.d (.int n))
 | .min=>on2 as fun a b=>onI a fun x=>onI b fun y=>P (.d (.int (if y<x then y else x)))
 | .max=>on2 as fun a b=>onI a fun x=>onI b fun y=>P (.d (.int (if x<y then y else x)))
 | .int=>match as with
  | []=>False
  |a::r=>match r with
   | []=>aint a P
   |b::r=>on0 r (onT a fun x=>onI b fun b=>b=16∧∃c v,(x=⟨#[c]⟩∧zc4 c=some v)∧P (.d (.int v)))
 | .chr=>on1 as fun a=>onI a fun x=>(0≤x∧x<1114112)∧P (.d (.str ⟨#[x.toNat]⟩))
 | .ord=>on1 as fun a=>onT a fun x=>onC x fun c=>P (.d (.int c))
 | .str=>on1 as fun a=>onI a fun x=>x.natAbs.log2<1920∧P (.d (.str (Str.ofString (toString x))))
 | .repr=>on1 as fun a=>onL a fun xs=>(PyData.showable (.list xs)=true∧PyData.hasDict (.list xs)=false∧(PyData.list xs).depth<700∧(PyData.shown (.list xs)).length≤sizeLine)∧P (.d (.str (PyData.shown (.list xs))))
 | .sum=>on1 as fun a=>onL a fun xs=>∃l,(allInt xs=some l∧l.length≤1000∧∀x∈l,0≤x∧x<2^30)∧P (.d (.int l.sum))
 | .range=>on1 as fun a=>onI a fun n=>(0≤n∧n<2^62∧n≤sizeLine)∧P (.rng n.toNat)
noncomputable def strsOf(σ:St):AV→Option (List Str)
 | .d x=>match x with
  | .list xs=>zdj xs
  |_=>none
 | .ref k=>match σ.obj[k]? with
  |some o=>match o with
   | .list l=>(allD l).bind zdj
   |_=>none
  |none=>none
 |_=>none
noncomputable def alnum(c:Nat):Bool:=(48≤c&&c≤57)||(65≤c&&c≤90)||(97≤c&&c≤122)
noncomputable def isTB(o:AV):Bool:=match o with
 | .d x=>match x with
  | .str _=>true
  |_=>false
 |_=>false
noncomputable def isIB(o:AV):Bool:=match o with
 | .d x=>match x with
  | .int _=>true
  |_=>false
 |_=>false
noncomputable def isTab(o:AV):Bool:=match o with
 | .tab _=>true
 |_=>false
noncomputable def isLB(σ:St)(o:AV):Bool:=match o with
 | .ref k=>match σ.obj[k]? with
  |some o=>match o with
   | .list _=>true
   |_=>false
  |none=>false
 |_=>false
noncomputable def smPre(m:SM)(o:AV)(σ:St):Bool:=match m with
 | .join=>isTB o
 | .isalnum=>isTB o
 | .endswith=>isTB o
 | .bit_length=>isIB o
 | .get=>isTab o
 | .append=>isLB σ o
 | .pop=>isLB σ o
noncomputable def asm(m:SM)(o:AV)(as:List AV)(σ:St)(Φ:AV→St→Prop):Prop:=match m with
 | .join=>onT o fun x=>on1 as fun a=>∃l,(strsOf σ a=some l∧(joinL x.cps.toList (l.map (·.cps.toList))).length+x.length≤sizeLine)∧Φ (.d (.str ⟨(joinL x.cps.toList (l.map (·.cps.toList))).toArray⟩)) σ
 | .isalnum=>onT o fun x=>on0 as (Φ (.d (.bool (Txt.isalnum x))) σ)
 | .endswith=>onT o fun x=>on1 as fun a=>onT a fun y=>Φ (.d (.bool (Txt.endswith x y))) σ
 | .bit_length=>onI o fun x=>on0 as (Φ (.d (.int (if x=0 then 0 else x.natAbs.log2+1))) σ)
 | .append=>onR o fun k=>on1 as fun a=>onB (AV.plain a) (onS σ.obj[k]? fun o=>onAL o fun l=>l.length<sizeLine∧fc (σ.obj.set k (.list (l++[a]))) fun H=>Φ (.d .none) ⟨σ.loc,H⟩)
 | .pop=>onR o fun k=>on0 as (onS σ.obj[k]? fun o=>onAL o fun l=>∃l' a,(l=l'++[a]∧l.length≤sizeLine∧AV.plain a=true)∧fc (σ.obj.set k (.list l')) fun H=>Φ a ⟨σ.loc,H⟩)
 | .get=>onTb o fun n=>on2 as fun a b=>onT a fun x=>onD b fun y=>Φ (.d (match(tabOf n).lookup x with|some v=> .int v|none=>y)) σ
noncomputable def za1:List AV→List Nat
 | []=> []
 | .ref i::r=>i::za1 r
 |_::r=>za1 r
noncomputable def zd0(i:Nat)(σ:St)(Φ:AV→St→Prop)(a:AV)(o':Option AO):Prop:=onS o' fun o=>fc (σ.obj.set i o) fun H=>Φ a ⟨σ.loc,H⟩
theorem zd0.inv{i:Nat}{σ:St}{Φ:AV→St→Prop}{a:AV}{o':Option AO}(h:zd0 i σ Φ a o'):∃o,o'=some o∧Φ a ⟨σ.loc,σ.obj.set i o⟩:=by
 obtain⟨o,e,h⟩:=onS.inv h
 rw[fc_eq]at h
 exact⟨o,e,h⟩
noncomputable def acall(C:CS)(f:Nat)(as:List AV)(σ:St)(Φ:AV→St→Prop)(Ξ:Int→Prop):Prop:=match za1 as with
 | []=>C f as none (fun a _=>Φ a σ) Ξ
 |i::r=>match r with
  | []=>onS σ.obj[i]? fun o=>fcz as fun bs=>C f bs (some o) (zd0 i σ Φ) Ξ
  |_::_=>False
theorem zda{C:CS}{f:Nat}{as:List AV}{σ:St}{Φ:AV→St→Prop}{Ξ:Int→Prop}(h:acall C f as σ Φ Ξ):
  (za1 as=[]∧C f as none (fun a _=>Φ a σ) Ξ)∨∃i o,za1 as=[i]∧σ.obj[i]?=some o∧C f (as.map AV.zero) (some o) (zd0 i σ Φ) Ξ:=by
 unfold acall at h
 generalize hr:za1 as=r at h
 cases r with
 |nil=>exact .inl ⟨rfl,h⟩
 |cons i r=>
  cases r with
  |nil=>
   obtain⟨o,e,h⟩:=onS.inv h
   rw[fcz_eq]at h
   exact .inr ⟨i,o,rfl,e,h⟩
  |cons _ _=>exact False.elim h
noncomputable def clsOf(σ:St):AV→Option Addr
 | .ref k=>match σ.obj[k]? with
  |some (.inst C _)=>some C
  |_=>none
 |_=>none
noncomputable def zc9:List (Nat×AV)→Option (List (Nat×PyData))
 | []=>some []
 |(f, .d x)::r=>match r.any fun q=>Nat.beq q.1 f with
  |true=>none
  |false=>(zc9 r).map ((f,x):: ·)
 |_=>none
noncomputable def zdr(c:Addr):Nat:=if c=46 then 200 else if c=222 then 201 else if c=267 then 202 else 203
noncomputable def onNone(a:AV)(p:Prop):Prop:=onD a fun x=>onN x p
noncomputable def zcq(cl:Addr)(σ:St)(Φ:AV→St→Prop)(a:AV)(o':Option AO):Prop:=onNone a (onS o' fun o=>onAI o fun c' fs=>onB (Nat.beq c' cl) (match(Nat.beq cl 46||Nat.beq cl 267)with
  |true=>onS (zc9 fs) fun ds=>Φ (.fi cl ds) σ
  |false=>fcn σ.obj fun n=>fc (σ.obj++[.inst cl fs]) fun H=>Φ (.ref n) ⟨σ.loc,H⟩))
theorem zcq.inv{cl:Addr}{σ:St}{Φ:AV→St→Prop}{a:AV}{o':Option AO}(h:zcq cl σ Φ a o'):∃fs,a= .d .none∧o'=some (.inst cl fs)∧
  ((∃ds,zc9 fs=some ds∧Φ (.fi cl ds) σ)∨Φ (.ref σ.obj.length) ⟨σ.loc,σ.obj++[.inst cl fs]⟩):=by
 obtain⟨x,e,h1⟩:=onD.inv h
 obtain⟨e1,h2⟩:=onN.inv h1
 obtain⟨o,e2,h3⟩:=onS.inv h2
 obtain⟨c',fs,e3,h4⟩:=onAI.inv h3
 obtain⟨e4,h5⟩:=onB.inv h4
 have e4:=Nat.eq_of_beq_eq_true e4
 clear h h1 h2 h3 h4
 subst e1 e3 e4
 refine⟨fs,e,e2,?_⟩
 generalize(Nat.beq c' 46||Nat.beq c' 267)=b at h5
 cases b with
 |true=>
  obtain⟨ds,e5,h⟩:=onS.inv h5
  exact .inl ⟨ds,e5,h⟩
 |false=>
  dsimp only at h5
  rw[fcn_eq,fc_eq]at h5
  exact .inr h5
noncomputable def actor(C:CS)(c:Addr)(as:List AV)(σ:St)(Φ:AV→St→Prop)(Ξ:Int→Prop):Prop:=
 match za1 as with
 | []=>C (zdr c) (.ref 0::as) (some (.inst c [])) (zcq c σ Φ) Ξ
 |_::_=>False
theorem actor_inv{C:CS}{c:Addr}{as:List AV}{σ:St}{Φ:AV→St→Prop}{Ξ:Int→Prop}(h:actor C c as σ Φ Ξ):za1 as=[]∧C (zdr c) (.ref 0::as) (some (.inst c [])) (zcq c σ Φ) Ξ:=by
 unfold actor at h
 generalize hr:za1 as=r at h
 cases r with
 |nil=>exact⟨rfl,h⟩
 |cons _ _=>exact False.elim h
noncomputable def aiter:AV→Option (List AV)
 | .d (.str x)=>some (x.cps.toList.map fun c=> .d (.str ⟨#[c]⟩))
 | .d (.list xs)=>some (xs.map .d)
 | .d (.tuple xs)=>some (xs.map .d)
 | .rng n=>some ((List.range n).map fun(i:Nat)=> .d (.int i))
 |_=>none
noncomputable def iters(σ:St)(a:AV):Option (List AV):=let _:=σ;aiter a
noncomputable def br(c:Bool)(A B:Prop):Prop:=match c with
 |true=>A
 |false=>B
theorem br_i{c:Bool}{A B:Prop}(h1:c=true→A)(h2:c=false→B):br c A B:=by
 cases c
 ·exact h2 rfl
 ·exact h1 rfl
noncomputable def asB(a:AV)(P:Bool→Prop):Prop:=onD a fun x=>match x with
 | .bool b=>P b
 |_=>False
mutual
noncomputable def awp(C:CS):X→St→(AV→St→Prop)→(Int→Prop)→Prop
 | .loc i _,σ,Φ,_=>onS (σ.get i) fun a=>Φ a σ
 | .const c _,σ,Φ,_=>match c with
  | .none=>Φ (.d .none) σ
  | .bool b=>Φ (.d (.bool b)) σ
  | .int i=>Φ (.d (.int i)) σ
  | .str x=>Φ (.d (.str x)) σ
  |_=>False
 | .glob i _,σ,Φ,_=>Φ (gval i) σ
 | .attr e f _,σ,Φ,Ξ=>awp C e σ (fun a σ'=>aattr σ' a f fun b=>Φ b σ') Ξ
 | .bin op a b _,σ,Φ,Ξ=>awp C a σ (fun x σ'=>awp C b σ' (fun y σ''=>abin op x y fun z=>Φ z σ'') Ξ) Ξ
 | .cmp op a b _,σ,Φ,Ξ=>awp C a σ (fun x σ'=>awp C b σ' (fun y σ''=>acmp op x y fun z=>Φ (.d (.bool z)) σ'') Ξ) Ξ
 | .cmp2 _ _ _ _ _ _,_,_,_=>False
 | .and l _,σ,Φ,Ξ=>awand C l σ Φ Ξ
 | .or l _,σ,Φ,Ξ=>awor C l σ Φ Ξ
 | .not a _,σ,Φ,Ξ=>awp C a σ (fun x σ'=>asB x fun b=>Φ (.d (.bool (!b))) σ') Ξ
 | .ite t a b _,σ,Φ,Ξ=>awt C t σ (fun c σ'=>br c (awp C a σ' Φ Ξ) (awp C b σ' Φ Ξ)) Ξ
 | .sub e i _,σ,Φ,Ξ=>awp C e σ (fun x σ'=>awp C i σ' (fun y σ''=>aidx σ'' x y fun z=>Φ z σ'') Ξ) Ξ
 | .sl e lo hi _ _,σ,Φ,Ξ=>awp C e σ (fun x σ'=>awp C lo σ' (fun y σ''=>awp C hi σ'' (fun z σ3=>asl x y z fun r=>Φ r σ3) Ξ) Ξ) Ξ
 | .slTo e hi _ _,σ,Φ,Ξ=>awp C e σ (fun x σ'=>awp C hi σ' (fun z σ3=>aslTo x z fun r=>Φ r σ3) Ξ) Ξ
 | .slFrom e lo _ _,σ,Φ,Ξ=>awp C e σ (fun x σ'=>awp C lo σ' (fun z σ3=>aslFrom x z fun r=>Φ r σ3) Ξ) Ξ
 | .tup l _,σ,Φ,Ξ=>awps C l σ (fun as σ'=>onS (allD as) fun xs=>Φ (.d (.tuple xs)) σ') Ξ
 | .list l _,σ,Φ,Ξ=>awps C l σ (fun as σ'=>onS (allD as) fun xs=>Φ (.d (.list xs)) σ') Ξ
 | .listM l _,σ,Φ,Ξ=>awps C l σ (fun as σ'=>match za1 as with
  | []=>fcn σ'.obj fun n=>fc (σ'.obj++[.list as]) fun H=>Φ (.ref n) ⟨σ'.loc,H⟩
  |_::_=>False) Ξ
 | .opsGet e1 e2 _ _ _ _ _ _ _,σ,Φ,Ξ=>awp C e1 σ (fun x σ'=>awp C e2 σ' (fun y σ''=>onT x fun s=>onD y fun y=>Φ (.d (if s=Str.ofString "either" then .str (Str.ofString "||")else if s=Str.ofString "both" then .str (Str.ofString "&&")else y)) σ'') Ξ) Ξ
 | .call f l _ _,σ,Φ,Ξ=>awps C l σ (fun as σ'=>acall C f as σ' Φ Ξ) Ξ
 | .ctor c l _ _,σ,Φ,Ξ=>awps C l σ (fun as σ'=>actor C c as σ' Φ Ξ) Ξ
 | .err a b _ _,σ,Φ,Ξ=>awp C a σ (fun x σ'=>awp C b σ' (fun y σ''=>onT x fun _=>onFi y fun c fs=>onB (Nat.beq c CPos) (onS (fs.lookup 2) fun q=>onDI q fun o=>Φ (.err o) σ'')) Ξ) Ξ
 | .meth o m l _ _,σ,Φ,Ξ=>awp C o σ (fun x σ'=>onS (clsOf σ' x) fun c=>onB (Nat.beq c (mcls m)) (awps C l σ' (fun as σ''=>match za1 as with
    | []=>acall C (100+m) (x::as) σ'' Φ Ξ
    |_::_=>False) Ξ)) Ξ
 | .bi b l _ _,σ,Φ,Ξ=>awps C l σ (fun as σ'=>abi b as fun z=>Φ z σ') Ξ
 | .sm o m l _ _,σ,Φ,Ξ=>awp C o σ (fun x σ'=>onB (smPre m x σ') (awps C l σ' (fun as σ''=>asm m x as σ'' Φ) Ξ)) Ξ
 | .comp elt i _ it cap _ _,σ,Φ,Ξ=>awp C it σ (fun x σ'=>onS (aiter x) fun items=>items.length≤sizeLine∧∃I:List AV→List PyData→List AO→Prop,I items [] σ'.obj∧
   (∀y r acc H,I (y::r) acc H→fc ((i,y)::σ'.loc.filter (fun p=>cap.contains p.1)) fun L=>awp C elt ⟨L,H⟩ (fun z σ''=>onD z fun d=>σ''.obj.length=H.length∧I r (acc++[d]) σ''.obj) (fun _=>False))∧
   (∀acc H,I [] acc H→Φ (.d (.list acc)) ⟨σ'.loc,H⟩)) Ξ
 | .frz n e,σ,Φ,Ξ=>awp C e σ (fun x σ'=>onR x fun k=>onB (Nat.ble n k) (onS σ'.obj[k]? fun o=>onAL o fun l=>∃a,zca l=some a∧fc (σ'.obj.set k .dead) fun H=>Φ a ⟨σ'.loc,H⟩)) Ξ
noncomputable def awps(C:CS):Xs→St→(List AV→St→Prop)→(Int→Prop)→Prop
 | .nil,σ,Φ,_=>Φ [] σ
 | .cons x r,σ,Φ,Ξ=>awp C x σ (fun a σ'=>awps C r σ' (fun as σ''=>Φ (a::as) σ'') Ξ) Ξ
noncomputable def awand(C:CS):Xs→St→(AV→St→Prop)→(Int→Prop)→Prop
 | .nil,_,_,_=>False
 | .cons x .nil,σ,Φ,Ξ=>awp C x σ Φ Ξ
 | .cons x (.cons y r),σ,Φ,Ξ=>awp C x σ (fun a σ'=>asB a fun b=>br b (awand C (.cons y r) σ' Φ Ξ) (Φ (.d (.bool false)) σ')) Ξ
noncomputable def awor(C:CS):Xs→St→(AV→St→Prop)→(Int→Prop)→Prop
 | .nil,_,_,_=>False
 | .cons x .nil,σ,Φ,Ξ=>awp C x σ Φ Ξ
 | .cons x (.cons y r),σ,Φ,Ξ=>awp C x σ (fun a σ'=>asB a fun b=>br b (Φ (.d (.bool true)) σ') (awor C (.cons y r) σ' Φ Ξ)) Ξ
noncomputable def awt(C:CS):X→St→(Bool→St→Prop)→(Int→Prop)→Prop
 | .not a _,σ,Φ,Ξ=>awt C a σ (fun b σ'=>Φ (!b) σ') Ξ
 | .and l _,σ,Φ,Ξ=>awtand C l σ Φ Ξ
 | .or l _,σ,Φ,Ξ=>awtor C l σ Φ Ξ
 | .cmp op a b _,σ,Φ,Ξ=>awp C a σ (fun x σ'=>awp C b σ' (fun y σ''=>acmp op x y fun z=>Φ z σ'') Ξ) Ξ
 | .cmp2 _ _ _ _ _ _,_,_,_=>False
 | .ite _ _ _ _,_,_,_=>False
 | .loc i _,σ,Φ,_=>onS (σ.get i) fun a=>asB a fun b=>Φ b σ
 | .call f l _ _,σ,Φ,Ξ=>awps C l σ (fun as σ'=>acall C f as σ' (fun a σ''=>asB a fun b=>Φ b σ'') Ξ) Ξ
 | .meth o m l _ _,σ,Φ,Ξ=>awp C o σ (fun x σ'=>onS (clsOf σ' x) fun c=>onB (Nat.beq c (mcls m)) (awps C l σ' (fun as σ''=>match za1 as with
    | []=>acall C (100+m) (x::as) σ'' (fun a σ3=>asB a fun b=>Φ b σ3) Ξ
    |_::_=>False) Ξ)) Ξ
 | .sm o m l _ _,σ,Φ,Ξ=>awp C o σ (fun x σ'=>onB (smPre m x σ') (awps C l σ' (fun as σ''=>asm m x as σ'' (fun a σ3=>asB a fun b=>Φ b σ3)) Ξ)) Ξ
 | .const c _,σ,Φ,_=>match c with
  | .bool b=>Φ b σ
  |_=>False
 | .glob _ _,_,_,_=>False
 | .attr _ _ _,_,_,_=>False
 | .bin _ _ _ _,_,_,_=>False
 | .sub _ _ _,_,_,_=>False
 | .sl _ _ _ _ _,_,_,_=>False
 | .slTo _ _ _ _,_,_,_=>False
 | .slFrom _ _ _ _,_,_,_=>False
 | .tup _ _,_,_,_=>False
 | .list _ _,_,_,_=>False
 | .listM _ _,_,_,_=>False
 | .opsGet _ _ _ _ _ _ _ _ _,_,_,_=>False
 | .ctor _ _ _ _,_,_,_=>False
 | .err _ _ _ _,_,_,_=>False
 | .bi _ _ _ _,_,_,_=>False
 | .comp _ _ _ _ _ _ _,_,_,_=>False
 | .frz _ _,_,_,_=>False
noncomputable def awtand(C:CS):Xs→St→(Bool→St→Prop)→(Int→Prop)→Prop
 | .nil,σ,Φ,_=>Φ true σ
 | .cons x r,σ,Φ,Ξ=>awt C x σ (fun b σ'=>br b (awtand C r σ' Φ Ξ) (Φ false σ')) Ξ
noncomputable def awtor(C:CS):Xs→St→(Bool→St→Prop)→(Int→Prop)→Prop
 | .nil,σ,Φ,_=>Φ false σ
 | .cons x r,σ,Φ,Ξ=>awt C x σ (fun b σ'=>br b (Φ true σ') (awtor C r σ' Φ Ξ)) Ξ
end
noncomputable def St.sets(σ:St):List (Nat×Pos)→List AV→St
 |(i,_)::r,a::as=>(σ.set i a).sets r as
 |_,_=>σ
noncomputable def fput(f:Nat)(a:AV):List (Nat×AV)→List (Nat×AV)
 | []=> [(f,a)]
 |p::r=>if p.1=f then(f,a)::r else p::fput f a r
noncomputable def onTu(x:PyData)(f:List PyData→Prop):Prop:=match x with
 | .tuple l=>f l
 |_=>False
theorem onTu.inv{x:PyData}{f:List PyData→Prop}(h:onTu x f):∃l,x= .tuple l∧f l:=by
 cases x<;>first|exact⟨_,rfl,h⟩|exact False.elim h
noncomputable def onErr(a:AV)(f:Int→Prop):Prop:=match a with
 | .err o=>f o
 |_=>False
theorem onErr.inv{a:AV}{f:Int→Prop}(h:onErr a f):∃o,a= .err o∧f o:=by
 cases a<;>first|exact⟨_,rfl,h⟩|exact False.elim h
noncomputable def on2d(y:AV)(f:PyData→PyData→Prop):Prop:=onD y fun x=>onTu x fun l=>match l with
 | []=>False
 |u::r=>match r with
  | []=>False
  |v::r=>match r with
   | []=>f u v
   |_::_=>False
theorem on2d.inv{y:AV}{f:PyData→PyData→Prop}(h:on2d y f):∃u v,y= .d (.tuple [u,v])∧f u v:=by
 obtain⟨x,rfl,h⟩:=onD.inv h
 obtain⟨l,rfl,h⟩:=onTu.inv h
 cases l with
 |nil=>exact False.elim h
 |cons u r=>
  cases r with
  |nil=>exact False.elim h
  |cons v r=>
   cases r with
   |nil=>exact⟨u,v,rfl,h⟩
   |cons w r=>exact False.elim h
noncomputable def awS(C:CS):S→St→(St→Prop)→(AV→St→Prop)→(Int→Prop)→Prop
 | .set i _ e _,σ,Φ,_,Ξ=>awp C e σ (fun a σ'=>(σ'.set i a).fc Φ) Ξ
 | .setT is _ l _ _,σ,Φ,_,Ξ=>awps C l σ (fun as σ'=>onB (Nat.beq as.length is.length) (match(Nat.beq is.length 2||Nat.beq is.length 3)with
   |true=>(σ'.sets is.reverse as.reverse).fc Φ
   |false=>(σ'.sets is as).fc Φ)) Ξ
 | .setU is _ e _,σ,Φ,_,Ξ=>awp C e σ (fun a σ'=>onD a fun x=>onTu x fun xs=>onB (Nat.beq xs.length is.length) ((σ'.sets is (xs.map .d)).fc Φ)) Ξ
 | .seta o f e _ _,σ,Φ,_,Ξ=>awp C e σ (fun a σ'=>awp C o σ' (fun x σ''=>onR x fun k=>onB (AV.plain a) (onS σ''.obj[k]? fun o=>onAI o fun c fs=>onB (okF c f&&Nat.ble fs.length 100) (fc (fput f a fs) fun fs'=>fc (σ''.obj.set k (.inst c fs')) fun H=>Φ ⟨σ''.loc,H⟩))) Ξ) Ξ
 | .seti o i e _ _,σ,Φ,_,Ξ=>awp C e σ (fun a σ'=>awp C o σ' (fun x σ''=>awp C i σ'' (fun y σ3=>onR x fun k=>onI y fun n=>onB (AV.plain a) (onS σ3.obj[k]? fun o=>onAL o fun l=>(0≤n∧n.toNat<l.length∧l.length≤sizeLine)∧fc (l.set n.toNat a) fun l'=>fc (σ3.obj.set k (.list l')) fun H=>Φ ⟨σ3.loc,H⟩)) Ξ) Ξ) Ξ
 | .exp e _,σ,Φ,_,Ξ=>awp C e σ (fun _ σ'=>Φ σ') Ξ
 | .ret e _,σ,_,Ρ,Ξ=>awp C e σ Ρ Ξ
 | .raise e _,σ,_,_,Ξ=>awp C e σ (fun a _=>onErr a Ξ) Ξ
mutual
noncomputable def awB(C:CS):B→St→(St→Prop)→(AV→St→Prop)→(Int→Prop)→Prop
 | .s x,σ,Φ,Ρ,Ξ=>awS C x σ Φ Ρ Ξ
 | .ifs t a b _,σ,Φ,Ρ,Ξ=>awt C t σ (fun c σ'=>br c (awBs C a σ' Φ Ρ Ξ) (awBs C b σ' Φ Ρ Ξ)) Ξ
 | .whl t b _,σ,Φ,Ρ,Ξ=>∃(I:St→Prop)(m:St→Nat),I σ∧∀σ',I σ'→awt C t σ' (fun c σ''=>br c (awBs C b σ'' (fun σ3=>I σ3∧m σ3<m σ') Ρ Ξ) (Φ σ'')) Ξ
 | .for_ i _ it b _,σ,Φ,Ρ,Ξ=>awp C it σ (fun x σ'=>onS (aiter x) fun items=>items.length≤sizeLine∧∃I:List AV→St→Prop,I items σ'∧(∀y r σ2,I (y::r) σ2→(σ2.set i y).fc fun τ=>awBs C b τ (I r) Ρ Ξ)∧∀σ2,I [] σ2→Φ σ2) Ξ
 | .for2 i j _ _ _ it b _,σ,Φ,Ρ,Ξ=>awp C it σ (fun x σ'=>onS (aiter x) fun items=>items.length≤sizeLine∧∃I:List AV→St→Prop,I items σ'∧
   (∀y r σ2,I (y::r) σ2→on2d y fun u v=>((σ2.set i (.d u)).set j (.d v)).fc fun τ=>awBs C b τ (I r) Ρ Ξ)∧∀σ2,I [] σ2→Φ σ2) Ξ
noncomputable def awBs(C:CS):Bs→St→(St→Prop)→(AV→St→Prop)→(Int→Prop)→Prop
 | .nil,σ,Φ,_,_=>Φ σ
 | .cons x r,σ,Φ,Ρ,Ξ=>awB C x σ (fun σ'=>awBs C r σ' Φ Ρ Ξ) Ρ Ξ
end
noncomputable def Out(c:FC)(σ:St)(k:Cs)(P:AV→Prop)(Q:Value→Shared→Prop):Prop:=∀r v k',P r→Nx k k'→Rel c σ k'→VR k'.g k'.r r v→Q v k'.s
section
variable{c:FC}{σ:St}{k:Cs}{P:AV→Prop}{Q:Value→Shared→Prop}
theorem Out.same(R:Rel c σ k)(o:Out c σ k P Q){r:AV}(p:P r){v:Value}(hv:VR k.g k.r r v):Q v k.s:=o r v k p (Nx.refl k) R hv
theorem Out.tok(R:Rel c σ k)(o:Out c σ k P Q){r:AV}(p:P r){v:Value}(t:Nat)(hv:VR k.g k.r r v):Q v {k.s with toks:=t}:=o r v (k.at k.s.heap t) p (Nx.toks k t) (R.toks t) ((Nx.toks k t).vr hv)
theorem Out.grow(R:Rel c σ k)(o:Out c σ k P Q){r:AV}(p:P r){v:Value}{h':Heap}(x:Grow k h')(t:Nat)(hv:VR (k.at h' t).g k.r r v):Q v {k.s with heap:=h',toks:=t}:=o r v (k.at h' t) p (x.nx t) (R.grow x t) hv
end
section
variable{g:G}{r:List (Addr×Addr)}{a:AV}{x:PyData}{v:Value}{as:List AV}{vs:List Value}
@[elab_as_elim] theorem Rd.elI{G:Value→Prop}{i:Int}(h:Rd g v (.int i))(k:∀t,G (.int i t)):G v:=h.inv.elim fun t e=>e▸k t
@[elab_as_elim] theorem Rd.elT{G:Value→Prop}{s:Str}(h:Rd g v (.str s))(k:∀t,G (.str s t)):G v:=h.inv.elim fun t e=>e▸k t
@[elab_as_elim] theorem Rd.elB{G:Value→Prop}{b:Bool}(h:Rd g v (.bool b))(k:G (.bool b)):G v:=h.inv▸k
@[elab_as_elim] theorem Rd.elN{G:Value→Prop}(h:Rd g v .none)(k:G .none):G v:=h.inv▸k
@[elab_as_elim] theorem Rd.elL{G:Value→Prop}{k:Cs}{l:List PyData}(h:Rd k.g v (.list l))(n:∀b it,k.s.heap.IsList b it→RdAll k.g it.toList l→G (.ref b)):G v:=by
 obtain⟨a,o,vs,m,rfl,y,c,d,z⟩:=h.inv
 exact n a vs ⟨o,y.1,c,m,d⟩ z
@[elab_as_elim] theorem Rd.elTu{G:Value→Prop}{k:Cs}{l:List PyData}(h:Rd k.g v (.tuple l))(n:∀b it,IsTup k.s.heap b it→RdAll k.g it.toList l→G (.ref b)):G v:=by
 obtain⟨a,o,vs,m,rfl,y,c,d,z⟩:=h.inv
 exact n a vs ⟨o,y.1,c,m,d⟩ z
@[elab_as_elim] theorem RdAll.el0{G:List Value→Prop}(h:RdAll g vs [])(k:G []):G vs:=by cases h;exact k
@[elab_as_elim] theorem RdAll.el{G:List Value→Prop}{l:List PyData}(h:RdAll g vs (x::l))(k:∀v vs,Rd g v x→RdAll g vs l→G (v::vs)):G vs:=by cases h with|cons a b=>exact k _ _ a b
theorem onD.el{f:PyData→Prop}{P:Prop}(h:onD a f)(hv:VR g r a v)(k:∀x,f x→Rd g v x→P):P:=by
 cases a<;>first|exact k _ h hv|exact False.elim h
@[elab_as_elim] theorem onDI.el{f:Int→Prop}{G:Value→Prop}(h:onDI x f)(hv:Rd g v x)(k:∀i t,f i→G (.int i t)):G v:=by
 cases x<;>first|exact hv.elI fun _=>k _ _ h|exact False.elim h
@[elab_as_elim] theorem onDT.el{f:Str→Prop}{G:Value→Prop}(h:onDT x f)(hv:Rd g v x)(k:∀i t,f i→G (.str i t)):G v:=by
 cases x<;>first|exact hv.elT fun _=>k _ _ h|exact False.elim h
@[elab_as_elim] theorem onI.el{f:Int→Prop}{G:Value→Prop}(h:onI a f)(hv:VR g r a v)(k:∀i t,f i→G (.int i t)):G v:=onD.el h hv fun _ h hv=>onDI.el h hv k
@[elab_as_elim] theorem onT.el{f:Str→Prop}{G:Value→Prop}(h:onT a f)(hv:VR g r a v)(k:∀i t,f i→G (.str i t)):G v:=onD.el h hv fun _ h hv=>onDT.el h hv k
theorem onL.el{f:List PyData→Prop}{P:Prop}(h:onL a f)(hv:VR g r a v)(k:∀l,f l→Rd g v (.list l)→P):P:=onD.el h hv fun x h hv=>by
 cases x<;>first|exact k _ h hv|exact False.elim h
@[elab_as_elim] theorem onII.el{f:Int→Int→Prop}{b:AV}{u:Value}{G:Value→Value→Prop}(h:onI a fun x=>onI b fun y=>f x y)(ha:VR g r a v)(hb:VR g r b u)(k:∀x t y s,f x y→G (.int x t) (.int y s)):G v u:=
 onI.el h ha fun x t h=>onI.el h hb fun y s h=>k x t y s h
@[elab_as_elim] theorem VR.elFl{k:Cs}{l:List (Addr×List (Nat×PyData))}{G:Value→Prop}(h:VR k.g r (.fl l) v)(n:∀b it,k.s.heap.IsList b it→FIAll k.g l it.toList→G (.ref b)):G v:=by
 obtain⟨a,o,vs,m,rfl,y,c,d,z⟩:=h
 exact n a vs ⟨o,y.1,c,m,d⟩ z
theorem onAL.el{o:AO}{f:List AV→Prop}{P:Prop}(h:onAL o f)(k:∀l,o= .list l→f l→P):P:=by
 cases o<;>first|exact k _ rfl h|exact False.elim h
@[elab_as_elim] theorem Rel.elL{c:FC}{σ:St}{k:Cs}{i:Nat}{ob:AO}{f:List AV→Prop}{G:Value→Prop}(R:Rel c σ k)(h:VR k.g k.r (.ref i) v)(e:σ.obj[i]?=some ob)(h2:onAL ob f)
  (n:∀b l it m,k.r[i]?=some (b,b)→ORel k (b,b) (.list l)→ob= .list l→f l→k.Z b→k.s.heap.get? b=some {cls:= .type "list",dict:=none,data:= .seq it m,slots:=#[]}→VRs k.g k.r l it.toList→(∀a∈l,AV.plain a=true)→G (.ref b)):G v:=by
 obtain⟨⟨p1,p2⟩,hp,rfl⟩:=h
 obtain⟨p',hp',ho⟩:=R.obj _ _ e
 cases hp.symm.trans hp'
 refine h2.el fun l q h2=>?_
 subst q
 obtain⟨z,q,vs,m,x,r,pl⟩:=id ho
 cases q
 exact n _ _ _ _ hp ho rfl h2 z x r pl
theorem onS.el{α:Type}{f:α→Prop}{o:Option α}{P:Prop}(h:onS o f)(k:∀x,o=some x→f x→P):P:=by
 cases o with
 |none=>exact False.elim h
 |some x=>exact k x rfl h
theorem onB.el{b:Bool}{p P:Prop}(h:onB b p)(k:b=true→p→P):P:=by
 cases b
 ·exact False.elim h
 ·exact k rfl h
@[elab_as_elim] theorem asB.el{P:Bool→Prop}{G:Value→Prop}(h:asB a P)(hv:VR g r a v)(k:∀b,P b→G (.bool b)):G v:=onD.el h hv fun x h hv=>by
 cases x<;>first|exact hv.elB (k _ h)|exact False.elim h
@[elab_as_elim] theorem VRs.el0{G:List Value→Prop}(hv:VRs g r [] vs)(k:G []):G vs:=by cases hv;exact k
@[elab_as_elim] theorem VRs.el{G:List Value→Prop}(hv:VRs g r (a::as) vs)(k:∀v vs,VR g r a v→VRs g r as vs→G (v::vs)):G vs:=by cases hv with|cons a b=>exact k _ _ a b
@[elab_as_elim] theorem on0.el{p:Prop}{G:List Value→Prop}(h:on0 as p)(hv:VRs g r as vs)(k:p→G []):G vs:=by
 cases as with
 |nil=>exact hv.el0 (k h)
 |cons=>exact False.elim h
@[elab_as_elim] theorem on1.el{f:AV→Prop}{G:List Value→Prop}(h:on1 as f)(hv:VRs g r as vs)(k:∀a v,f a→VR g r a v→G [v]):G vs:=by
 cases as with
 |nil=>exact False.elim h
 |cons a as=>exact hv.el fun v _ hv hs=>on0.el (G:=fun vs=>G (v::vs)) h hs fun h=>k a v h hv
@[elab_as_elim] theorem on2.el{f:AV→AV→Prop}{G:List Value→Prop}(h:on2 as f)(hv:VRs g r as vs)(k:∀a b v u,f a b→VR g r a v→VR g r b u→G [v,u]):G vs:=by
 cases as with
 |nil=>exact False.elim h
 |cons a as=>exact hv.el fun v _ hv hs=>on1.el (G:=fun vs=>G (v::vs)) h hs fun b u h hu=>k a b v u h hv hu
end
theorem RdAll.strs{g:G}{vs xs}(h:RdAll g vs xs):∀{l},zdj xs=some l→StrsAre vs l:=
 h.ind (P:=fun vs xs=>∀{l},zdj xs=some l→StrsAre vs l) (fun h=>Option.some.inj h▸ .nil) fun{v vs x xs} a _ p l h=>by
  cases x with
  |str x=>
   obtain⟨l',e,rfl⟩:=Option.map_eq_some_iff.mp h
   exact a.elT (G:=fun v=>StrsAre (v::vs) _) fun t=> .cons x t (p e)
  |_=>exact nS h
section
variable{prog:Program}{w:World}{E:Value→Shared→Prop}{c:FC}{σ:St}{k:Cs}{Q:Value→Shared→Prop}
theorem bin_ok{P:AV→Prop}(R:Rel c σ k){op:Operator}{a b:AV}{va vb:Value}(h:abin op a b P)(ha:VR k.g k.r a va)(hb:VR k.g k.r b vb)(o:Out c σ k P Q):
  wpAny (model prog w) c.A (binaryOp op va vb) Q E k.s:=by
 induction op with
 |Add=>
  exact onD.el h ha fun x h ha=>by
   induction x using PyData.casesOn with
   |int x=>exact ha.elI fun _=>onI.el h hb fun _ _ h=>add_int (o.tok R h _ (.int _ _))
   |str x=>exact ha.elT fun _=>onT.el h hb fun _ _ h=>add_str (fun t tk=>o.tok R h.2 _ (.str _ _)) h.1
   |_=>exact False.elim h
 |Sub=>exact onII.el h ha hb fun _ _ _ _ h=>sub_int (o.tok R h _ (.int _ _))
 |Mult=>exact onII.el h ha hb fun _ _ _ _ h=>mul_int (o.tok R h.2 _ (.int _ _)) (IntMulOk.of_left (intBits_le_64 (Int.lt_trans (by decide) h.1.1) (Int.lt_trans h.1.2 (by decide))))
 |FloorDiv=>
  exact onII.el h ha hb fun _ _ _ _ h=>by
   have h2:=h.2
   rw[←Int.fdiv_eq_ediv_of_nonneg _ (Int.le_of_lt h.1.2.1)]at h2
   exact floordiv_int (Int.ne_of_gt h.1.2.1) (o.tok R h2 _ (.int _ _)) (Or.inl (PyProof.noPylong_small (by lia)))
 |Mod=>
  exact onII.el h ha hb fun _ _ _ _ h=>by
   have h2:=h.2
   rw[←Int.fmod_eq_emod_of_nonneg _ (Int.le_of_lt h.1)]at h2
   exact mod_int' (Int.ne_of_gt h.1) (o.tok R h2 _ (.int _ _))
 |_=>exact False.elim h
noncomputable def OutB(c:FC)(σ:St)(k:Cs)(P:Bool→Prop)(Q:Value→Shared→Prop):Prop:=∀b,P b→Q (.bool b) k.s
theorem one_cp{x:Str}{c:Nat}(h:x.cps.toList=[c]):x=⟨#[c]⟩:=by
 obtain⟨⟨l⟩⟩:=x
 exact congrArg (fun l:List Nat=>(⟨⟨l⟩⟩:Str)) h
@[elab_as_elim] theorem onC.el{x:Str}{f:Nat→Prop}{G:Str→Prop}(h:onC x f)(k:∀c,f c→G ⟨#[c]⟩):G x:=by
 obtain⟨c,e,h⟩:=h.inv
 exact one_cp e▸k c h
theorem occ_one(y:Str)(c:Nat):(!(Builtin.Str.occurrences y ⟨#[c]⟩ 0 y.length 1).isEmpty)=y.cps.toList.contains c:=by
 rw[StrLaws.found_one]
 simp
theorem zfp(l:List Str)(x:Str):(l.any fun y=>y==x)=l.contains x:=by
 induction l with
 |nil=>rfl
 |cons a l ih=>rw[List.any_cons,List.contains_cons,ih,Bool.beq_comm]
noncomputable def EqB(prog:Program)(w:World)(E Q:Value→Shared→Prop)(c:FC)(k:Cs)(va vb:Value)(r:Bool):Prop:=
 (Q (.bool r) k.s→wpAny (model prog w) c.A (compareOp .Eq va vb) Q E k.s)∧(Q (.bool !r) k.s→wpAny (model prog w) c.A (compareOp .NotEq va vb) Q E k.s)
theorem eq_same{a b:Addr}{i1 i2:Array Value}(l1:k.s.heap.IsList a i1)(l2:k.s.heap.IsList b i2)(hs:i1.size=i2.size)(hu:c.A.units<cLine){e:Nat→Bool}(he:∀j(h1:j<i1.size)(h2:j<i2.size),EqAt c.A.in1 k.s i1[j] i2[j] (e j)):
  EqB prog w E Q c k (.ref a) (.ref b) ((List.range i1.size).all e):=⟨eq_listAt l1 l2 hs hu he,RcNeAt.lists l1 l2 hs hu he prog w E Q⟩
theorem RdAll.zero{g:G}{it:Array Value}(h:RdAll g it.toList []):it=#[]:=by
 obtain⟨l⟩:=it
 exact h.el0 (G:=fun l=>(⟨l⟩:Array Value)=#[]) rfl
theorem RdAll.one{g:G}{it:Array Value}{x:PyData}(h:RdAll g it.toList [x]):∃v,it=#[v]∧Rd g v x:=by
 obtain⟨l⟩:=it
 exact h.el (G:=fun l=>∃v,(⟨l⟩:Array Value)=#[v]∧Rd g v x) fun v vs a b=>b.el0 (G:=fun vs=>∃u,(⟨v::vs⟩:Array Value)=#[u]∧Rd g u x) ⟨v,rfl,a⟩
theorem eqL_len{l m:List PyData}{va vb:Value}(hu:c.A.units<cLine)(ha:Rd k.g va (.list l))(hb:Rd k.g vb (.list m))(q:l.length≠m.length):EqB prog w E Q c k va vb false:=
 ha.elL fun a i1 l1 r1=>hb.elL fun b i2 l2 r2=>
  have q:(i1.size !=i2.size)=true:=bne_iff_ne.mpr fun z=>q (r1.length.symm.trans (z.trans r2.length))
  ⟨eq_list_lengthsAt l1 l2 q hu,RcNeAt.lists_lengths l1 l2 q hu prog w E Q⟩
theorem eqL_nil{va vb:Value}(hu:c.A.units<cLine)(ha:Rd k.g va (.list []))(hb:Rd k.g vb (.list [])):EqB prog w E Q c k va vb true:=
 ha.elL fun a i1 l1 r1=>hb.elL fun b i2 l2 r2=>eq_same (i1:=#[]) (i2:=#[]) (e:=fun _=>true) (r1.zero▸l1) (r2.zero▸l2) rfl hu fun j h1=>absurd h1 (Nat.not_lt_zero _)
theorem eqL_one{va vb:Value}{xs:List PyData}{y:Str}(hu:c.A.units+1<cLine)(ha:Rd k.g va (.list [.list xs]))(hb:Rd k.g vb (.list [.str y])):EqB prog w E Q c k va vb false:=
 ha.elL fun a i1 l1 r1=>hb.elL fun b i2 l2 r2=>r1.one.elim fun v1 p1=>r2.one.elim fun v2 p2=>
  eq_same (i1:=#[v1]) (i2:=#[v2]) (e:=fun _=>false) (p1.1▸l1) (p2.1▸l2) rfl (Nat.lt_of_succ_lt hu) fun j h1 _=>by
   cases Nat.lt_one_iff.mp h1
   exact p1.2.elL (G:=fun v=>EqAt c.A.in1 k.s v v2 false) fun z it lz _=>p2.2.elT (G:=fun v=>EqAt c.A.in1 k.s (.ref z) v false) fun t=>EqAt.list_str y t lz hu
theorem peqL_ok{l m:List PyData}{r:Bool}(h:peqL l m=some r)(hu:c.A.units+1000<cLine){va vb:Value}(ha:Rd k.g va (.list l))(hb:Rd k.g vb (.list m)):EqB prog w E Q c k va vb r:=by
 have hu1:c.A.units+1<cLine:=Nat.lt_of_le_of_lt (Nat.add_le_add_left (by decide) _) hu
 have hu0:=Nat.lt_of_succ_lt hu1
 clear hu
 cases l with
 |nil=>
  cases m with
  |nil=>exact Option.some.inj h▸eqL_nil hu0 ha hb
  |cons y m=>exact Option.some.inj h▸eqL_len hu0 ha hb nofun
 |cons x l=>
  cases m with
  |nil=>exact Option.some.inj h▸eqL_len hu0 ha hb nofun
  |cons y m=>
   cases l with
   |cons=>exact nS h
   |nil=>
    cases m with
    |cons=>exact nS h
    |nil=>
     cases x with
     |list xs=>
      cases y with
      |str y=>exact Option.some.inj h▸eqL_one hu1 ha hb
      |_=>exact nS h
     |_=>exact nS h
theorem peq_ok{x y:PyData}{r:Bool}(h:peq x y=some r)(hu:c.A.units+1000<cLine){va vb:Value}(ha:Rd k.g va x)(hb:Rd k.g vb y):EqB prog w E Q c k va vb r:=by
 cases x with
 |int x=>
  cases y with
  |int y=>exact ha.elI fun _=>hb.elI fun _=>Option.some.inj h▸⟨eq_int,ne_int⟩
  |_=>exact nS h
 |str x=>
  cases y with
  |str y=>exact ha.elT fun _=>hb.elT fun _=>Option.some.inj h▸⟨eq_str,ne_str⟩
  |_=>exact nS h
 |list x=>
  cases y with
  |list y=>exact peqL_ok h hu ha hb
  |_=>exact nS h
 |_=>exact nS h
end
noncomputable def zdk:List (Addr×Nat):=[(46,2),(46,4),(46,56),(222,1),(222,3),(267,19),(267,20),(267,2),(436,1),(436,24),(436,40)]
noncomputable def fieldChk(F:Frag)(p:Addr×Nat):Bool:=plainGet F p.1 (nm p.2)&&hasDictIn F p.1&&(findIn F (.ref p.1) (nm p.2)==some none)&&(findIn F (.ref p.1) "__setattr__"==some (some (.builtin "object.__setattr__")))&&plainOver F p.1
theorem field_facts:∀P:Params,(zdk.all (fieldChk (K P)))=true:=by
 intro P
 kernel_rfl
theorem okF_mem{C:Addr}{f:Nat}(h:okF C f=true):(C,f)∈zdk:=by
 unfold okF at h
 split at h
 ·rcases Bool.or_eq_true_iff.mp h with h|h
  ·rcases Bool.or_eq_true_iff.mp h with h|h<;>(rw[Nat.eq_of_beq_eq_true h];decide)
  ·rw[Nat.eq_of_beq_eq_true h];decide
 ·rcases Bool.or_eq_true_iff.mp h with h|h<;>(rw[Nat.eq_of_beq_eq_true h];decide)
 ·rcases Bool.or_eq_true_iff.mp h with h|h
  ·rcases Bool.or_eq_true_iff.mp h with h|h<;>(rw[Nat.eq_of_beq_eq_true h];decide)
  ·rw[Nat.eq_of_beq_eq_true h];decide
 ·rcases Bool.or_eq_true_iff.mp h with h|h
  ·rcases Bool.or_eq_true_iff.mp h with h|h<;>(rw[Nat.eq_of_beq_eq_true h];decide)
  ·rw[Nat.eq_of_beq_eq_true h];decide
 ·cases h
structure FieldOk(F:Frag)(C:Addr)(f:Nat):Prop where
 get:plainGet F C (nm f)=true
 dict:hasDictIn F C=true
 find:findIn F (.ref C) (nm f)=some none
 set:findIn F (.ref C) "__setattr__"=some (some (.builtin "object.__setattr__"))
 over:plainOver F C=true
theorem zdm{P:Params}{C:Addr}{f:Nat}(h:okF C f=true):FieldOk (K P) C f:=by
 have:=List.all_eq_true.mp (field_facts P) _ (okF_mem h)
 unfold fieldChk at this
 simp only[Bool.and_eq_true,beq_iff_eq]at this
 obtain⟨⟨⟨⟨a,b⟩,c⟩,d⟩,e⟩:=this
 exact⟨a,b,c,d,e⟩
theorem zdm.found{F:Frag}{C:Addr}{f:Nat}(X:FieldOk F C f){es:List DictEntry}{n:Nat}{v:Value}(hl:getL (nm f) es=some (some v)):findObj F C (some (dictOf es n)) (nm f)=some (.value v):=
 findObj_own X.dict X.find rfl hl
theorem Rd.handed{g:G}{v:Value}{x:PyData}(h:Rd g v x):handedIn v=true:= @Rd.casesOn g (fun v _ _=>handedIn v=true) _ _ h rfl (fun _=>rfl) (fun _ _=>rfl) (fun _ _=>rfl) (fun _ _ _ _=>rfl) fun _ _ _ _=>rfl
theorem VR.handed{g:G}{r}{a:AV}{v:Value}(h:VR g r a v):handedIn v=true:=by
 cases a with
 |d x=>exact Rd.handed h
 |fi C fs=>obtain⟨_,_,_,_,_,rfl,_⟩:=h;rfl
 |fl l=>obtain⟨_,_,_,_,rfl,_⟩:=h;rfl
 |rng n=>obtain⟨_,rfl,_⟩:=h;rfl
 |err o=>obtain⟨_,_,_,_,rfl,_⟩:=h;rfl
 |ref i=>obtain⟨_,_,rfl⟩:=h;rfl
 |tab n=>obtain⟨rfl,_⟩:=h;rfl
 |no=>exact h.elim
theorem okF_lt{C:Addr}{f:Nat}(h:okF C f=true):f<nms.length:=by
 have:f∈zdk.map (·.2):=List.mem_map_of_mem (f:=(·.2)) (okF_mem h)
 revert this
 have:∀f∈zdk.map (·.2),f<nms.length:=by decide
 exact this f
theorem getL_hit{x:Str}{e:DictEntry}{es:List DictEntry}(h:∃t,e.key= .str x t):getL x (e::es)=some (some e.val):=by
 obtain⟨t,h⟩:=h
 have h1:e.key.isStr x=true:=by rw[h];exact beq_self_eq_true x
 unfold getL
 rw[List.find?_cons_of_pos (p:=fun e:DictEntry=>e.key.isStr x) h1]
theorem zhn{x y:Str}{e:DictEntry}{es:List DictEntry}(h:∃t,e.key= .str y t)(n:y≠x):getL x (e::es)=getL x es:=by
 obtain⟨t,h⟩:=h
 have h1:¬e.key.isStr x=true:=by rw[h];exact fun q=>n (beq_iff_eq.mp q)
 have h2:e.refKey=false:=by unfold DictEntry.refKey;rw[h]
 unfold getL
 rw[List.find?_cons_of_neg (p:=fun e:DictEntry=>e.key.isStr x) h1,List.any_cons,h2,Bool.false_or]
theorem ERel.get{g:G}{r}{C:Addr}{fs es}(h:ERel g r C fs es){f:Nat}{a:AV}(hf:fs.lookup f=some a)(hlt:f<nms.length):∃v,getL (nm f) es=some (some v)∧VR g r a v:=by
 induction h with
 |nil=>exact nS hf
 | @cons p e fs es x b v _ ih=>
  obtain⟨i,y⟩:=p
  rw[List.lookup_cons]at hf
  by_cases q:f=i
  ·subst q
   rw[beq_self_eq_true]at hf
   exact⟨_,getL_hit b,Option.some.inj hf▸v⟩
  ·rw[beq_eq_false_iff_ne.mpr q]at hf
   exact(ih hf).imp fun _ z=>⟨(zhn b fun w=>q (nm_inj _ (okF_lt x.1) _ hlt w).symm).trans z.1,z.2⟩
theorem ERel.none{g:G}{r}{C:Addr}{fs es}(h:ERel g r C fs es){x:Str}(n:∀p∈fs,nm p.1≠x):getL x es=some none:=by
 induction h with
 |nil=>rfl
 |cons _ b _ _ ih=>exact(zhn b (n _ (.head _))).trans (ih fun p hp=>n p (.tail _ hp))
section
variable{w:World}{E:Value→Shared→Prop}{c:FC}{σ:St}{k:Cs}{Q:Value→Shared→Prop}
theorem inst_get{k:Cs}{p:Addr×Addr}{C:Addr}{fs:List (Nat×AV)}(ho:InstR k p C fs){f:Nat}{a:AV}(hf:fs.lookup f=some a)(hlt:f<nms.length):
  ∃sl es n v,k.g p.1 ⟨.ref C,some p.2, .plain,sl⟩∧k.s.heap.get? p.2=some (dictOf es n)∧getL (nm f) es=some (some v)∧VR k.g k.r a v:=by
 obtain⟨z,sl,g1,es,n,d1,d2⟩:=ho
 exact(d2.get hf hlt).elim fun v l=>⟨sl,es,n,v,g1,d1,l⟩
theorem attr_ok{P:AV→Prop}(ok:c.Ok)(R:Rel c σ k){f:Nat}{a:AV}{va:Value}{expr:Bool}(h:aattr σ a f P)(ha:VR k.g k.r a va)(o:Out c σ k P Q):
  wpAny (model pw c.w) c.A (getAttr va (nm f) expr) Q E k.s:=by
 have X:=R.kin ok
 cases a with
 |fi C fs=>
  refine onB.el h fun e1 h=>onS.el h fun x e2 h=>?_
  have F:=zdm (P:=c.w.params) e1
  obtain⟨x',dx,sl,es,n,rfl,g1,g2,g3⟩:=ha
  exact(g3 _ (zak e2)).elim fun v l=>get_value X ⟨g1.1,rfl,rfl,g2.1⟩ (plainGet_of F.get).1 (zdm.found F l.1) l.2.handed (o.tok R h _ l.2)
 |ref i=>
  refine onS.el h fun ob e0 h=>?_
  obtain⟨C,fs,rfl,h1⟩:=onAI.inv h
  refine onB.el h1 fun e1 h=>onS.el h fun x e2 h=>?_
  have F:=zdm (P:=c.w.params) e1
  obtain⟨p,hp,rfl⟩:=ha
  obtain⟨p',hp',ho⟩:=R.obj _ _ e0
  cases hp.symm.trans hp'
  obtain⟨sl,es,n,v,l⟩:=inst_get ho e2 (okF_lt e1)
  exact get_value X ⟨l.1.1,rfl,rfl,l.2.1⟩ (plainGet_of F.get).1 (zdm.found F l.2.2.1) l.2.2.2.handed (o.tok R (onB.inv h).2 _ l.2.2.2)
 |_=>exact False.elim h
end
noncomputable def tabD(n:Nat):List (Str×KTD.Dat):=(tabOf n).map fun p=>(p.1,KTD.Dat.flat (.int p.2))
theorem tab_facts:∀P:Params,(KTD.tabLook (KTD.datLooks fun b=>(K P).lookup b) (fun b=>(K P).lookup b) 22 (tabD 22)&&KTD.tabLook (KTD.datLooks fun b=>(K P).lookup b) (fun b=>(K P).lookup b) 249 (tabD 249))=true:=by
 intro P
 kernel_rfl
theorem zfz{P:Params}{h:Heap}(X:(K P).In h){n:Nat}(hn:n=22∨n=249):KTD.TextTab h n (tabD n):=by
 have:=Bool.and_eq_true_iff.mp (tab_facts P)
 rcases hn with rfl|rfl
 ·exact kt_text_in X this.1
 ·exact kt_text_in X this.2
theorem inKeys_map(l:List (Str×Int))(x:Str):KTD.inKeys x (l.map fun p=>(p.1,KTD.Dat.flat (.int p.2)))=(l.lookup x).isSome:=by
 induction l with
 |nil=>rfl
 |cons p r ih=>
  obtain⟨a,b⟩:=p
  rw[List.lookup_cons]
  show(decide (x=a)||KTD.inKeys x (r.map _))=_
  by_cases h:x=a
  ·subst h;simp
  ·have:(x==a)=false:=by simpa using h
   rw[this,ih];simp[h]
theorem each_map{h:Heap}{P:Value→Prop}{els:Prop}(x:Str):∀l:List (Str×Int),(match l.lookup x with|some v=>∀t,P (.int v t)|none=>els)→KTD.Each h x P els (l.map fun p=>(p.1,KTD.Dat.flat (.int p.2)))
 | [],q=>q
 |(a,b)::r,q=>by
  rw[List.lookup_cons]at q
  show if decide (x=a)=true then _ else _
  by_cases hx:x=a
  ·subst hx
   simp only[beq_self_eq_true]at q
   rw[if_pos (by simp)]
   exact q
  ·have:(x==a)=false:=by simpa using hx
   rw[this]at q
   rw[if_neg (by simpa using hx)]
   exact each_map x r q
theorem FIAll.get{g:G}{l vs}(h:FIAll g l vs):∀(i:Nat) p,l[i]?=some p→∃v,vs[i]?=some v∧FI g p.1 p.2 v:=by
 induction h with
 |nil=>exact fun _ _ e=>nS e
 |cons a _ ih=>
  intro i p e
  induction i with
  |zero=>exact⟨_,rfl,Option.some.inj e▸a⟩
  |succ i=>exact ih i p e
theorem FIAll.length{g:G}{l vs}(h:FIAll g l vs):vs.length=l.length:=by
 induction h with
 |nil=>rfl
 |cons _ _ ih=>exact congrArg (· +1) ih
section
variable{prog:Program}{w:World}{E:Value→Shared→Prop}{c:FC}{σ:St}{k:Cs}{Q:Value→Shared→Prop}
theorem cmp_ok{P:Bool→Prop}(ok:c.Ok)(R:Rel c σ k){op:CmpOp}{a b:AV}{va vb:Value}(h:acmp op a b P)(ha:VR k.g k.r a va)(hb:VR k.g k.r b vb)(q:∀b t,P b→Q (.bool b) {k.s with toks:=t}):
  wpAny (model prog w) c.A (compareOp op va vb) Q E k.s:=by
 have q0:=q
 have q:∀{b},P b→Q (.bool b) k.s:=fun h=>q _ k.s.toks h
 induction op with
 |Eq=>exact onD.el h ha fun x h ra=>onD.el h hb fun y h rb=>onS.el h fun r e h=>(peq_ok e ok.units ra rb).1 (q h)
 |NotEq=>exact onD.el h ha fun x h ra=>onD.el h hb fun y h rb=>onS.el h fun r e h=>(peq_ok e ok.units ra rb).2 (q h)
 |Lt=>exact onII.el h ha hb fun _ _ _ _ h=>lt_int (q h)
 |LtE=>exact onII.el h ha hb fun _ _ _ _ h=>le_int (q h)
 |Gt=>exact onII.el h ha hb fun _ _ _ _ h=>gt_int (q h)
 |GtE=>exact onII.el h ha hb fun _ _ _ _ h=>ge_int (q h)
 |In=>
  refine onT.el h ha fun x t h=>?_
  cases b with
  |d y=>
   have hb:Rd k.g vb y:=hb
   cases y with
   |str y=>exact onC.el h fun ch h=>hb.elT fun _=>in_str (occ_one y ch▸q h)
   |tuple ys=>exact onS.el h fun l e h=>hb.elTu fun b it l2 r2=>in_tuple_strs l2 (r2.strs e) (zfp l x▸q h)
   |_=>exact False.elim h
  |tab n=>
   obtain⟨rfl,hn⟩:=hb
   refine KTD.in_text (h₀:=k.s.heap) ⟨zfz (R.kin ok) hn,fun _ _ e=>e⟩ ?_
   unfold tabD
   exact inKeys_map (tabOf n) x▸q0 _ _ h
  |_=>exact False.elim h
 |NotIn=>
  refine onT.el h ha fun x t h=>onD.el h hb fun y h hb=>?_
  cases y with
  |str y=>exact onC.el h fun ch h=>hb.elT fun _=>notIn_str (occ_one y ch▸q h)
  |tuple ys=>exact onS.el h fun l e h=>hb.elTu fun b it l2 r2=>notin_tuple_strs l2 (r2.strs e) (zfp l x▸q h)
  |_=>exact False.elim h
 |Is=>
  refine onD.el h ha fun x h ha=>onD.el h hb fun y h hb=>?_
  obtain⟨rfl,h⟩:=onN.inv h
  refine hb.elN ?_
  cases x with
  |none=>exact ha.elN (wpAny_is_self rfl (q h))
  |int x=>exact ha.elI fun _=>is_int_none (q h)
  |str x=>exact ha.elT fun _=>is_str_none (q h)
  |_=>exact False.elim h
 |IsNot=>
  refine onD.el h ha fun x h ha=>onD.el h hb fun y h hb=>?_
  obtain⟨rfl,h⟩:=onN.inv h
  refine hb.elN ?_
  cases x with
  |none=>exact ha.elN (isnot_none_none (q h))
  |int x=>exact ha.elI fun _=>isnot_int_none (q h)
  |_=>exact False.elim h
noncomputable def SubE(slice:Expr):Prop:=∀o i,subscripted slice false o i=operate [o,i] (getItem o i)
theorem sub_tail{A:Around}{s:Shared}{value slice:Expr}{o i:Value}{T id:String}(hT:s.TypeIs o T)(hl:typeLookup (.type T) "__getitem__"=pure (some (.builtin id)))
  (hs:SubE slice)(h:wpAny (model prog w) A (getItem o i) Q E s):wpAny (model prog w) A (subscriptTail value slice o i) Q E s:=by
 unfold subscriptTail
 refine wpAny_bind ?_
 rw[getitemInPython_of_ne hT.not_modules]
 refine wpAny_bind (wpAny_specialOf hT hl ?_)
 have fin:wpAny (model prog w) A (subscripted slice false o i) (fun r s₃=>wpAny (model prog w) A (letTemporaryGo value o r>>=fun _=>pure r) Q E s₃) E s:=by
  rw[hs]
  exact wpAny_operating (wpAny_mono h (fun r s₃ h₃=>wpAny_bind (wpAny_letTemporaryGo (wpAny_pure h₃))) fun _ _ x=>x)
 first
  |exact wpAny_pure (wpAny_bind fin)
  |exact wpAny_bind (wpAny_pure (wpAny_bind fin))
  |exact wpAny_bind fin
theorem lt63{i:Int}(h:i<2^62):i<2^63:=Int.lt_trans h (by decide)
theorem rng63{i:Int}(h0:0≤i)(h:i<2^62):(decide (i< -(2^63:Int))||decide (i≥2^63))=false:=
 Bool.or_eq_false_iff.mpr ⟨decide_eq_false (Int.not_lt.mpr (Int.le_trans (by decide) h0)),decide_eq_false (Int.not_le.mpr (lt63 h))⟩
theorem zg2{α:Type}{l:Array α}{i:Nat}{x:α}(h:l.toList[i]?=some x):l[i]?=some x:=Array.getElem?_toList.symm.trans h
theorem idx_list{A:Around}{l:Addr}{it:Array Value}{v:Value}{i:Int}{t:Tok}{value slice:Expr}(hs:SubE slice)(l2:k.s.heap.IsList l it)(h0:0≤i)(h1:i<2^62)(hv:it.toList[i.toNat]?=some v)(q:Q v k.s):
  wpAny (model prog w) A (subscriptTail value slice (.ref l) (.int i t)) Q E k.s:=
 sub_tail l2.typeIs slot_list_getitem.lookup hs (wpAny_getItem_list l2 h0 (lt63 h1) (zg2 hv) q)
theorem idx_ok{P:AV→Prop}(ok:c.Ok)(R:Rel c σ k){a i:AV}{va vi:Value}{value slice:Expr}(hs:SubE slice)(h:aidx σ a i P)(ha:VR k.g k.r a va)(hi:VR k.g k.r i vi)(o:Out c σ k P Q):
  wpAny (model prog w) c.A (subscriptTail value slice va vi) Q E k.s:=by
 induction a with
 |d x=>
  have ha:Rd k.g va x:=ha
  cases x with
  |str x=>
   refine ha.elT fun _=>onI.el h hi fun i t h=>?_
   obtain⟨ch,h,hp⟩:=h
   exact sub_tail (typeIs_str _ _ _) slot_str_getitem.lookup hs (getItem_str (rng63 h.1 h.2.1) (StrLaws.at_nonneg h.1 (zg2 h.2.2)) (o.tok R hp _ (.str _ _)))
  |list xs=>
   refine ha.elL fun b it l2 r2=>onI.el h hi fun i t h=>?_
   obtain⟨x,h,hp⟩:=h
   exact(r2.get _ _ h.2.2).elim fun v rv=>idx_list hs l2 h.1 h.2.1 rv.1 (o.same R hp rv.2)
  |tuple xs=>
   refine ha.elTu fun b it l2 r2=>onI.el h hi fun i t h=>onS.el h fun x e h=>(r2.get _ _ e).elim fun v rv=>?_
   have hl:i.toNat<it.size:=(List.getElem?_eq_some_iff.mp rv.1).1
   have hlt:i<it.size:=(Int.toNat_lt h.1).mp hl
   exact sub_tail l2.typeIs slot_tuple_getitem.lookup hs (getItem_tuple l2 (Int.le_trans (by decide) h.1) (lt63 h.2.1) (StrLaws.seqIndex_nonneg h.1 hlt) (zg2 rv.1) (o.same R h.2.2 rv.2))
  |_=>exact False.elim h
 |fl l=>
  refine ha.elFl fun b it l2 g=>onI.el h hi fun i t h=>?_
  obtain⟨x,h,hp⟩:=h
  exact(FIAll.get g _ _ h.2.2).elim fun v rv=>idx_list hs l2 h.1 h.2.1 rv.1 (o.same R hp rv.2)
 |ref j=>exact onI.el h hi fun i t h=>onS.el h fun ob e0 h=>R.elL ha e0 h fun b l it m _ _ _ h _ hg r2 _=>onS.el h fun x e1 h=>onB.el h.2.2 fun _ hp=>(r2.get _ _ e1).elim fun v rv=>idx_list hs ⟨_,hg,rfl,_,rfl⟩ h.1 h.2.1 rv.1 (o.same R hp rv.2)
 |tab n=>
  obtain⟨rfl,hn⟩:=ha
  refine onT.el h hi fun x t h=>?_
  obtain⟨v,h1,hp⟩:=h
  refine KTD.item_text2A (h₀:=k.s.heap) (D:=tabD n) ⟨zfz (R.kin ok) hn,fun _ _ e=>e⟩ ?_ ok.hd ?_ (hs _ _)
  ·unfold tabD
   rw[List.all_map]
   exact List.all_eq_true.mpr fun _ _=>rfl
  ·refine each_map _ _ ?_
   rw[h1]
   exact fun u=>o.tok R hp _ (.int _ _)
 |_=>exact False.elim h
end
theorem sr_nat(p q:Nat):sliceRange (p:Int) (q:Int) 1=(List.range (q-p)).map (fun k=>p+k):=by
 unfold sliceRange
 rcases Nat.lt_or_ge p q with h|h
 ·have e:(((q:Int)-p+1-1)/1).toNat=q-p:=by rw[Int.ediv_one,Int.add_sub_cancel];exact Int.toNat_sub q p
  rw[if_pos (by decide),if_pos (Int.ofNat_lt.mpr h)]
  show(List.range (((q:Int)-p+1-1)/1).toNat).map _=_
  rw[e]
  exact List.map_congr_left fun k _=>by rw[Int.one_mul];rfl
 ·rw[if_pos (by decide),if_neg (Int.not_lt.mpr (Int.ofNat_le.mpr h)),Nat.sub_eq_zero_of_le h];rfl
theorem clip_nat(a n:Nat):(if(1:Int)>0 then max (0:Int) (min (if(a:Int)<0 then(a:Int)+n else a) n)else max (-1) (min (if(a:Int)<0 then(a:Int)+n else a) ((n:Int)-1)))=((min a n:Nat):Int):=by
 rw[if_pos (by decide),if_neg (Int.not_lt.mpr (Int.natCast_nonneg a))]
 rcases Nat.le_total a n with h|h
 ·rw[Int.min_eq_left (Int.ofNat_le.mpr h),Nat.min_eq_left h];exact Int.max_eq_right (Int.natCast_nonneg _)
 ·rw[Int.min_eq_right (Int.ofNat_le.mpr h),Nat.min_eq_right h];exact Int.max_eq_right (Int.natCast_nonneg _)
theorem slice_idx{i j:Int}(hi:0≤i)(hj:0≤j)(n:Nat):Builtin.Str.strSliceIndices (some i) (some j) 1 n=(List.range (min j.toNat n-i.toNat)).map (fun k=>i.toNat+k):=by
 obtain⟨a,rfl⟩:=Int.eq_ofNat_of_zero_le hi
 obtain⟨b,rfl⟩:=Int.eq_ofNat_of_zero_le hj
 have e:Builtin.Str.strSliceIndices (some (a:Int)) (some (b:Int)) 1 n=sliceRange ((min a n:Nat):Int) ((min b n:Nat):Int) 1:=by
  rw[←clip_nat,←clip_nat];rfl
 rw[e,sr_nat]
 show _=(List.range (min b n-a)).map fun k=>a+k
 rcases Nat.le_total a n with h|h
 ·rw[Nat.min_eq_left h]
 ·rw[Nat.min_eq_right h,Nat.sub_eq_zero_of_le (Nat.min_le_right _ _),Nat.sub_eq_zero_of_le (Nat.le_trans (Nat.min_le_right _ _) h)];rfl
theorem pick_list{α:Type}(l:List α)(a b:Nat):((List.range (min b l.length-a)).map (fun k=>a+k)).filterMap (l[·]?)=(l.take b).drop a:=by
 rcases Nat.le_total a (min b l.length)with h|h
 ·have h2:=Nat.min_le_right b l.length
  rw[StrLaws.picks l _ a (by rw[Nat.add_sub_cancel' h];exact h2),List.drop_take,List.take_eq_take_iff,List.length_drop,Nat.sub_min_sub_right,Nat.min_assoc,Nat.min_self,Nat.sub_min_sub_right]
 ·rw[Nat.sub_eq_zero_of_le h,List.drop_eq_nil_of_le (by rw[List.length_take];exact h)];rfl
theorem pick_str(x:Str){i j:Int}(hi:0≤i)(hj:0≤j):(Builtin.Str.strSliceIndices (some i) (some j) 1 x.length).filterMap (x.cps[·]?)=(x.cps.toList.take j.toNat).drop i.toNat:=by
 rw[slice_idx hi hj]
 have:=pick_list x.cps.toList i.toNat j.toNat
 rw[Array.length_toList]at this
 simpa [Str.length]using this
theorem sliceMade_post{x:Str}{t:Tok}{l u:Option (Int×Tok)}{Q:Value→Shared→Prop}{s:Shared}{r:List Nat}(hz:x.length≤sizeLine)
  (hr:(slicePicked x l u none).filterMap (x.cps[·]?)=r)(hw:(slicePicked x l u none).length=x.length→x=⟨r.toArray⟩)(hl:r.length≤x.length)(q:∀t tk,Q (.str ⟨r.toArray⟩ t) {s with toks:=tk}):(sliceMade x t l u none).post Q s:=by
 unfold sliceMade
 split
 ·rename_i h
  have:(slicePicked x l u none).length=x.length:=by simpa using h
  have e:=hw this
  show Q (.str x t) s
  rw[e]
  exact q t s.toks
 ·rw[hr]
  exact⟨Nat.le_trans (by simpa [Str.length]using hl) hz,q _ _⟩
theorem zfc(x:Str){i j:Int}(hi:0≤i)(hj:0≤j)(h:(Builtin.Str.strSliceIndices (some i) (some j) 1 x.length).length=x.length):x=⟨((x.cps.toList.take j.toNat).drop i.toNat).toArray⟩:=by
 have e:x=⟨x.cps.toList.toArray⟩:=rfl
 have h0:x.cps.toList.length=x.length:=Array.length_toList
 rw[slice_idx hi hj,List.length_map,List.length_range]at h
 by_cases hx:x.length=0
 ·rw[List.eq_nil_of_length_eq_zero (h0.trans hx)]at e
  rw[List.eq_nil_of_length_eq_zero (h0.trans hx),List.take_nil,List.drop_nil];exact e
 ·have h1:x.length≤min j.toNat x.length:=Nat.le_trans (Nat.le_of_eq h.symm) (Nat.sub_le _ _)
  have hj0:x.length≤j.toNat:=Nat.le_trans h1 (Nat.min_le_left _ _)
  have hi0:i.toNat=0:=by
   rw[Nat.min_eq_right hj0]at h
   exact Classical.byContradiction fun q=>absurd h (Nat.ne_of_lt (Nat.sub_lt (Nat.pos_of_ne_zero hx) (Nat.pos_of_ne_zero q)))
  rw[hi0,List.drop_zero,List.take_of_length_le (h0▸hj0)]
theorem pick_len(x:Str)(a b:Nat):((x.cps.toList.take b).drop a).length≤x.length:=by
 rw[List.length_drop,List.length_take,Array.length_toList]
 exact Nat.le_trans (Nat.sub_le _ _) (Nat.min_le_right _ _)
section
variable{prog:Program}{w:World}{E:Value→Shared→Prop}{c:FC}{σ:St}{k:Cs}{Q:Value→Shared→Prop}
theorem zf6{A:Around}{s:Shared}{env:Env}{value:Expr}{lower upper:Option Expr}{p pos:Pos}{Q:Value→Shared→Prop}
  (h:wpAny (model prog w) A (eval value env) (fun o s₁=>wpAny (model prog w) A (evalPart lower env) (fun vl s₂=>wpAny (model prog w) A (evalPart upper env) (fun vu s₃=>
   (∃T id,typeLookup (.type T) "__getitem__"=pure (some (.builtin id))∧Shared.TypeIs {s₃ with heap:=s₃.heap.push {cls:= .type "slice",data:= .fields #[vl,vu, .none]}} o T)∧
   wpAny (model prog w) A (getItem o (.ref s₃.heap.objs.size)) Q E {s₃ with heap:=s₃.heap.push {cls:= .type "slice",data:= .fields #[vl,vu, .none]}}) E s₂) E s₁) E s):
  wpAny (model prog w) A (eval (.Subscript value (.Slice lower upper none p) pos) env) Q E s:=by
 refine Subscript_ (wpAny_mono h (fun o s₁ h₁=>wpAny_Slice (wpAny_mono h₁ (fun vl s₂ h₂=>wpAny_mono h₂ (fun vu s₃ h₃=>?_) fun _ _ e=>e) fun _ _ e=>e)) fun _ _ e=>e)
 rw[evalPart_none]
 refine wpAny_pure ?_
 obtain⟨⟨T,id,hl,hT⟩,h4⟩:=h₃
 unfold subscriptTail
 refine wpAny_bind ?_
 rw[getitemInPython_of_ne hT.not_modules]
 refine wpAny_bind (wpAny_specialOf hT hl ?_)
 have fin:wpAny (model prog w) A (subscripted (.Slice lower upper none p) false o (.ref s₃.heap.objs.size)) (fun r s₃=>wpAny (model prog w) A (letTemporaryGo value o r>>=fun _=>pure r) Q E s₃) E
   {s₃ with heap:=s₃.heap.push {cls:= .type "slice",data:= .fields #[vl,vu, .none]}}:=by
  show wpAny _ _ (operate _ _) _ _ _
  exact wpAny_operating (wpAny_mono h4 (fun r s₃ h₃=>wpAny_bind (wpAny_letTemporaryGo (wpAny_pure h₃))) fun _ _ x=>x)
 first
  |exact wpAny_pure (wpAny_bind fin)
  |exact wpAny_bind (wpAny_pure (wpAny_bind fin))
  |exact wpAny_bind fin
noncomputable def zbl(prog:Program)(w:World)(A:Around)(o vl vu:Value)(Q:Value→Shared→Prop)(E:Value→Shared→Prop)(s₃:Shared):Prop:=
 (∃T id,typeLookup (.type T) "__getitem__"=pure (some (.builtin id))∧Shared.TypeIs {s₃ with heap:=s₃.heap.push {cls:= .type "slice",data:= .fields #[vl,vu, .none]}} o T)∧
   wpAny (model prog w) A (getItem o (.ref s₃.heap.objs.size)) Q E {s₃ with heap:=s₃.heap.push {cls:= .type "slice",data:= .fields #[vl,vu, .none]}}
theorem zg1{A:Around}{P:AV→Prop}(R:Rel c σ k){x:Str}{t:Tok}{l u:Option (Int×Tok)}{vl vu:Value}(hl:vl=partValue l)(hu:vu=partValue u){r:List Nat}(hz:x.length≤sizeLine)
  (hr:(slicePicked x l u none).filterMap (x.cps[·]?)=r)(hw:(slicePicked x l u none).length=x.length→x=⟨r.toArray⟩)(hlen:r.length≤x.length)(hp:P (.d (.str ⟨r.toArray⟩)))(o:Out c σ k P Q):
  zbl prog w A (.str x t) vl vu Q E k.s:=by
 subst hl hu
 refine⟨⟨"str",_,F.slot_str_getitem.lookup,typeIs_str _ _ _⟩,?_⟩
 refine wpAny_getItem_str_slice (l:=l) (u:=u) (st:=none) ⟨_,Heap.get?_push_size _ rfl,rfl,rfl⟩ rfl (sliceMade_post hz hr hw hlen fun t tk=>?_)
 exact o.grow R hp (Grow.push k _) tk (.str _ _)
theorem sl_ok{A:Around}{P:AV→Prop}(R:Rel c σ k){a lo hi:AV}{va vl vu:Value}(h:asl a lo hi P)(ha:VR k.g k.r a va)(hl:VR k.g k.r lo vl)(hu:VR k.g k.r hi vu)(o:Out c σ k P Q):zbl prog w A va vl vu Q E k.s:=
 onT.el h ha fun x t h=>onII.el h hl hu fun i t1 j t2 h=>zg1 (l:=some (i,t1)) (u:=some (j,t2)) R rfl rfl h.1.2.2 (pick_str x h.1.1 h.1.2.1) (zfc x h.1.1 h.1.2.1) (pick_len x _ _) h.2 o
theorem slFrom_ok{A:Around}{P:AV→Prop}(R:Rel c σ k){a lo:AV}{va vl:Value}(h:aslFrom a lo P)(ha:VR k.g k.r a va)(hl:VR k.g k.r lo vl)(o:Out c σ k P Q):zbl prog w A va vl .none Q E k.s:=
 onT.el h ha fun x t h=>onI.el h hl fun i t1 h=>by
  have e:x.cps.toList.take ((x.length:Int)).toNat=x.cps.toList:=List.take_of_length_le (Nat.le_of_eq Array.length_toList)
  have hn:=Int.natCast_nonneg x.length
  refine zg1 (l:=some (i,t1)) (u:=none) R rfl rfl h.1.2 ?_ ?_ (pick_len x _ _) (e.symm▸h.2) o
  ·show(Builtin.Str.strSliceIndices (some i) none 1 x.length).filterMap _=_
   rw[StrLaws.sliceIdx_none_hi]
   exact pick_str x h.1.1 hn
  ·show(Builtin.Str.strSliceIndices (some i) none 1 x.length).length=_→_
   rw[StrLaws.sliceIdx_none_hi]
   exact zfc x h.1.1 hn
theorem RdAll.take{g:G}{vs xs}(n:Nat)(h:RdAll g vs xs):RdAll g (vs.take n) (xs.take n):=
 h.ind (P:=fun vs xs=>∀n,RdAll g (vs.take n) (xs.take n)) (fun n=>by rw[List.take_nil,List.take_nil];exact .nil) (fun a _ p n=>by
  induction n with
  |zero=>exact .nil
  |succ n=>exact .cons a (p n)) n
theorem slicePick_to(items:Array Value){j:Int}(hj:0≤j):(slicePick items none (some j) none).toList=items.toList.take j.toNat:=by
 obtain⟨b,rfl⟩:=Int.eq_ofNat_of_zero_le hj
 have e:slicePick items none (some (b:Int)) none=((sliceRange ((0:Nat):Int) ((min b items.size:Nat):Int) 1).filterMap (items[·]?)).toArray:=by
  rw[←clip_nat];rfl
 rw[e,sr_nat]
 have:=pick_list items.toList 0 b
 rw[Array.length_toList]at this
 simpa using this
theorem slTo_ok{A:Around}{P:AV→Prop}(R:Rel c σ k){a hi:AV}{va vu:Value}(h:aslTo a hi P)(ha:VR k.g k.r a va)(hu:VR k.g k.r hi vu)(o:Out c σ k P Q):zbl prog w A va .none vu Q E k.s:=
 onD.el h ha fun x h ha=>by
  cases x with
  |str x=>
   refine ha.elT fun t=>onI.el h hu fun j t1 h=>zg1 (l:=none) (u:=some (j,t1)) R rfl rfl h.1.2 ?_ ?_ (pick_len x 0 _) h.2 o
   ·show(Builtin.Str.strSliceIndices none (some j) 1 x.length).filterMap _=_
    rw[StrLaws.sliceIdx_none_lo]
    exact pick_str x (Int.le_refl 0) h.1.1
   ·show(Builtin.Str.strSliceIndices none (some j) 1 x.length).length=_→_
    rw[StrLaws.sliceIdx_none_lo]
    exact zfc x (Int.le_refl 0) h.1.1
  |list xs=>
   refine ha.elL fun b it l2 r2=>onI.el h hu fun j t1 h=>?_
   have e2:it.size=xs.length:=r2.length
   have l3:(k.s.heap.push {cls:= .type "slice",data:= .fields #[.none, .int j t1, .none]}).IsList b it:=l2.imp fun o e=>⟨Heap.get?_push_of_some _ e.1,e.2⟩
   refine⟨⟨"list",_,slot_list_getitem.lookup,l3.typeIs⟩,?_⟩
   refine wpAny_getItem_list_slice (s:={k.s with heap:=k.s.heap.push {cls:= .type "slice",data:= .fields #[.none, .int j t1, .none]}}) l3 ⟨_,Heap.get?_push_size _ rfl,rfl,rfl⟩ .none (.int _ _) .none (by simp) ?_ (by rw[e2];exact h.1.2)
   have x:Grow k ((k.s.heap.push {cls:= .type "slice",data:= .fields #[.none, .int j t1, .none]}).push {cls:= .type "list",data:= .seq (slicePick it none (some j) none)}):=⟨fun b o e=>Heap.get?_push_of_some _ (Heap.get?_push_of_some _ e)⟩
   refine o.grow R h.2 x k.s.toks (Rd.list (n:=0) ⟨Heap.get?_push_size _ rfl,fun z=>?_⟩ rfl rfl ?_)
   ·exact(R.zx _ z).elim fun o e=>absurd (Heap.lt_size e) (Nat.not_lt.mpr (Heap.size_push .. ▸Nat.le_succ _))
   ·rw[slicePick_to _ h.1.1]
    exact RdAll.take _ (r2.mono (x.nx k.s.toks).g)
  |_=>exact False.elim h
end
noncomputable def BI.val:BI→Value
 | .len=> .builtin "len"| .min=> .builtin "min"| .max=> .builtin "max"| .int=> .type "int"| .chr=> .builtin "chr"| .ord=> .builtin "ord"| .str=> .type "str"| .repr=> .builtin "repr"| .sum=> .builtin "sum"| .range=> .type "range"
theorem typeCall_int_2(a b:Value):checkTypeCall "int" ⟨[a,b],[]⟩=pure ():=by kernel_rfl
theorem newCall_int_2(a b:Value):checkBuiltinCall "int.__new__" ⟨[.type "int",a,b],[]⟩=pure ():=by kernel_rfl
theorem args_oi_3(obj a b:Value):argsOk "object.__init__" ⟨[obj,a,b],[]⟩:=by unfold argsOk;kernel_rfl
noncomputable def zez:List (Nat×Nat):=[(48,0),(49,1),(50,2),(51,3),(52,4),(53,5),(54,6),(55,7),(56,8),(57,9),(97,10),(98,11),(99,12),(100,13),(101,14),(102,15),(65,10),(66,11),(67,12),(68,13),(69,14),(70,15)]
theorem hex_mem{c v:Nat}(h:zc4 c=some v):(c,v)∈zez:=by
 have key:∀c,c<128→∀v,zc4 c=some v→(c,v)∈zez:=by
  intro c hc
  have:∀c,c<128→((zc4 c).all fun v=>zez.contains (c,v))=true:=by decide+kernel
  have:=this c hc
  intro v hv
  rw[hv]at this
  simpa using this
 refine key c ?_ v h
 unfold zc4 at h
 split at h
 ·rename_i q;simp at q;lia
 ·split at h
  ·rename_i q;simp at q;lia
  ·split at h
   ·rename_i q;simp at q;lia
   ·cases h
noncomputable def zaq(p:Nat×Nat):Prop:=∀u t,Builtin.«int.__new__» ⟨[.type "int", .str ⟨#[p.1]⟩ u, .int 16 t],[]⟩=(mkInt p.2>>=fun i=>ret i)
theorem int16_all:∀p∈zez,zaq p:=by
 have h:zaq (48,0)∧zaq (49,1)∧zaq (50,2)∧zaq (51,3)∧zaq (52,4)∧zaq (53,5)∧zaq (54,6)∧zaq (55,7)∧zaq (56,8)∧zaq (57,9)∧zaq (97,10)∧zaq (98,11)∧zaq (99,12)∧zaq (100,13)∧zaq (101,14)∧zaq (102,15)∧zaq (65,10)∧zaq (66,11)∧zaq (67,12)∧zaq (68,13)∧zaq (69,14)∧zaq (70,15):=by
  refine⟨?_,?_,?_,?_,?_,?_,?_,?_,?_,?_,?_,?_,?_,?_,?_,?_,?_,?_,?_,?_,?_,?_⟩<;>(intro u t;kernel_rfl)
 exact List.forall_mem_cons.mpr ⟨h.1,by simpa using h.2⟩
theorem allInt_ints{g:G}{vs xs}(h:RdAll g vs xs):∀{l},allInt xs=some l→∃ys:List (Int×Tok),vs=ys.map (fun p=>Value.int p.1 p.2)∧ys.map (·.1)=l:=
 h.ind (P:=fun vs xs=>∀{l},allInt xs=some l→∃ys:List (Int×Tok),vs=ys.map (fun p=>Value.int p.1 p.2)∧ys.map (·.1)=l) (fun h=>⟨[],rfl,Option.some.inj h⟩) fun{v vs x xs} a _ p l h=>by
  cases x with
  |int x=>
   obtain⟨l',e,rfl⟩:=Option.map_eq_some_iff.mp h
   obtain⟨ys,e1,e2⟩:=p e
   exact a.elI (G:=fun v=>∃ys:List (Int×Tok),v::vs=ys.map (fun p=>Value.int p.1 p.2)∧ys.map (·.1)=x::l') fun t=>⟨(x,t)::ys,congrArg _ e1,congrArg _ e2⟩
  |_=>exact nS h
theorem Rd.reads{k:Cs}{v x}(h:Rd k.g v x):∃as,Reads k.s.heap v x as:=
 @Rd.rec k.g (fun v x _=>∃as,Reads k.s.heap v x as) (fun v x _=>∃as,ReadsAll k.s.heap v x as) ⟨_, .none⟩ (fun b=>⟨_, .bool b⟩) (fun i t=>⟨_, .int i t⟩) (fun i t=>⟨_, .str i t⟩) (fun a b c _ d=>d.elim fun _ r=>⟨_, .list a.1 b c r⟩) (fun a b c _ d=>d.elim fun _ r=>⟨_, .tuple a.1 b c r⟩) ⟨_, .nil⟩ (fun _ _ q p=>q.elim fun _ q=>p.elim fun _ p=>⟨_, .cons q p⟩) _ _ h
theorem sum_bound:∀(l:List Int),(∀x∈l,0≤x∧x<2^30)→0≤l.sum∧l.sum≤l.length*2^30
 | [],_=>by simp
 |a::r,h=>by
  have:=sum_bound r fun x hx=>h x (List.mem_cons_of_mem _ hx)
  have h1:=h a List.mem_cons_self
  simp only[List.sum_cons,List.length_cons]
  lia
section
variable{prog:Program}{w:World}{E:Value→Shared→Prop}{c:FC}{σ:St}{k:Cs}{Q:Value→Shared→Prop}
theorem int16_ok{A:Around}{s:Shared}{ch v:Nat}{u t:Tok}(h:zc4 ch=some v)(q:Q (.int v s.toks) {s with toks:=s.toks+1}):wpAny (model prog w) A (call (.type "int") [.str ⟨#[ch]⟩ u, .int 16 t]) Q E s:=by
 refine callType_new (S:=(Made.int v).spec) F.called_int F.newNe_int (typeCall_int_2 _ _) (newCall_int_2 _ _) (fun obj=>args_oi_3 obj _ _) F.entry_int_new ?_ ?_
 ·refine Gives.meets (Gives.of_eq ?_)
  exact int16_all _ (hex_mem h) u t
 ·exact⟨rfl,q⟩
theorem sum_ok{P:AV→Prop}(ok:c.Ok)(R:Rel c σ k){va:Value}{xs:List PyData}{l:List Int}(g1:allInt xs=some l)(g2:l.length≤1000)(g3:∀x∈l,0≤x∧x<2^30)(ra:Rd k.g va (.list xs))(hp:P (.d (.int l.sum)))(o:Out c σ k P Q):
  wpAny (model prog w) c.A (call (.builtin "sum") [va]) Q E k.s:=
 ra.elL fun b it l2 r2=>by
  obtain⟨ys,e1,rfl⟩:=allInt_ints r2 g1
  have e3:it=intItems ys.toArray:=by
   obtain⟨it⟩:=it
   simpa [intItems]using e1
  subst e3
  refine sum_intList ok.hd l2 (fun j hj=>?_) fun h' tk t' hk=>?_
  ·have hj':j<(ys.map (·.1)).length:=by rw[List.length_map];exact hj
   have b1:=g3 _ (getD_mem hj')
   have b2:=sum_bound ((ys.map (·.1)).take (j+1)) fun x hx=>g3 x (List.mem_of_mem_take hx)
   have b3:((((ys.map (·.1)).take (j+1)).length:Nat):Int)*2^30≤1000*2^30:=Int.mul_le_mul_of_nonneg_right (Int.ofNat_le.mpr (Nat.le_trans (List.length_take_le' _ _) g2)) (by decide)
   rw[numAt_eq,preSum_eq]
   exact⟨⟨Int.le_trans (by decide) b1.1,Int.lt_trans b1.2 (by decide)⟩,Int.le_trans (by decide) b2.1,Int.lt_of_le_of_lt (Int.le_trans b2.2 b3) (by decide)⟩
  ·rw[preSum_eq,List.take_of_length_le (by simp)]
   exact o.grow R hp ⟨hk⟩ tk (.int _ _)
theorem len_ok{P:AV→Prop}(R:Rel c σ k){a:AV}{va:Value}(h:alen a fun n=>n<2^62∧P (.d (.int n)))(hv:VR k.g k.r a va)(o:Out c σ k P Q):
  wpAny (model prog w) c.A (call (.builtin "len") [va]) Q E k.s:=by
 have lt:∀{n:Nat},n<2^62→(n:Int)<2^63:=fun h=>Int.ofNat_lt.mpr (Nat.lt_trans h (by decide))
 cases a with
 |d x=>
  have hv:Rd k.g va x:=hv
  cases x with
  |str x=>exact hv.elT fun _=>len_str (Int.not_le.mpr (lt h.1)) (o.tok R h.2 _ (.int _ _))
  |list xs=>exact hv.elL fun b it l2 r2=>have e:it.size=xs.length:=r2.length;len_list l2 (e.symm▸lt h.1) (e.symm▸o.tok R h.2 _ (.int _ _))
  |_=>exact False.elim h
 |fl l=>exact hv.elFl fun b it l2 r2=>have e:it.size=l.length:=FIAll.length r2;len_list l2 (e.symm▸lt h.1) (e.symm▸o.tok R h.2 _ (.int _ _))
 |_=>exact False.elim h
theorem ite_el{p:Prop} [Decidable p]{α β:Type}{x y:α}{z u:β}{F:α→Prop}{G:β→Prop}(h:F (if p then x else y))(h1:F x→G z)(h2:F y→G u):G (if p then z else u):=by
 by_cases q:p
 ·rw[if_pos q]at h ⊢;exact h1 h
 ·rw[if_neg q]at h ⊢;exact h2 h
theorem bi_ok{P:AV→Prop}(ok:c.Ok)(R:Rel c σ k){b:BI}{as:List AV}{vs:List Value}(h:abi b as P)(hv:VRs k.g k.r as vs)(o:Out c σ k P Q):
  wpAny (model prog w) c.A (call b.val vs) Q E k.s:=by
 induction b with
 |len=>exact on1.el h hv fun a v h hv=>len_ok R h hv o
 |min=>
  exact on2.el h hv fun a b u v h ha hb=>onII.el h ha hb fun x t y s h=>min_two_ints ok.hd fun h' tk hk=>
   ite_el (F:=fun i:Int=>P (.d (.int i))) (G:=fun v=>Q v {k.s with heap:=h',toks:=tk}) h (fun h=>o.grow R h ⟨hk⟩ tk (.int _ _)) fun h=>o.grow R h ⟨hk⟩ tk (.int _ _)
 |max=>
  exact on2.el h hv fun a b u v h ha hb=>onII.el h ha hb fun x t y s h=>max_two_ints ok.hd fun h' tk hk=>
   ite_el (F:=fun i:Int=>P (.d (.int i))) (G:=fun v=>Q v {k.s with heap:=h',toks:=tk}) h (fun h=>o.grow R h ⟨hk⟩ tk (.int _ _)) fun h=>o.grow R h ⟨hk⟩ tk (.int _ _)
 |int=>
  cases as with
  |nil=>exact False.elim h
  |cons a r=>
   refine hv.el fun v us hv1 hs=>?_
   clear hv
   cases r with
   |nil=>
    refine hs.el0 (onD.el h hv1 fun x h hv=>?_)
    cases x with
    |int x=>exact hv.elI fun _=>call_int_int (o.same R h (.int _ _))
    |bool x=>exact hv.elB (call_int_bool (o.tok R h _ (.int _ _)))
    |str x=>exact h.elim fun n h=>hv.elT fun _=>KIN.call_text h.1.1 h.1.2 (o.tok R h.2 _ (.int _ _))
    |_=>exact False.elim h
   |cons b r=>
    obtain⟨rfl,h⟩:=on0.inv h
    refine hs.el fun u us hu hs=>hs.el0 (onT.el h hv1 fun x t h=>onI.el h hu fun y s h=>?_)
    obtain⟨rfl,ch,n,⟨rfl,e⟩,hp⟩:=h
    exact int16_ok e (o.tok R hp _ (.int _ _))
 |chr=>
  exact on1.el h hv fun a v h hv=>onI.el h hv fun x t h=>PySem.P.chr_of_int (Bool.or_eq_false_iff.mpr ⟨decide_eq_false (Int.not_lt.mpr h.1.1),decide_eq_false (Int.not_lt.mpr (Int.le_of_lt_add_one h.1.2))⟩) (o.tok R h.2 _ (.str _ _))
 |ord=>exact on1.el h hv fun a v h hv=>onT.el h hv fun x t h=>onC.el h fun ch h=>PySem.P.ord_of_char (o.tok R h _ (.int _ _))
 |str=>exact on1.el h hv fun a v h hv=>onI.el h hv fun x t h=>PySem.P.str_of_int h.1 (o.tok R h.2 _ (.str _ _))
 |repr=>
  exact on1.el h hv fun a v h hv=>onL.el h hv fun xs h hv=>hv.reads.elim fun as r=>hv.elL (G:=fun v=>Reads k.s.heap v (.list xs) as→wpAny (model prog w) c.A (call (.builtin "repr") [v]) Q E k.s)
   (fun b it _ _ r=>repr_of_reads' r h.1.1 (fun z=>Bool.noConfusion (h.1.2.1.symm.trans z)) ok.guards (Nat.lt_of_le_of_lt (Nat.add_le_add_left (Nat.le_trans h.1.2.2.1 (by decide)) _) ok.units) (fun _ _ e=>e) (fun h' u tk hk=>o.grow R h.2 ⟨hk⟩ tk (.str _ _)) h.1.2.2.2) r
 |sum=>exact on1.el h hv fun a v h hv=>onL.el h hv fun xs h hv=>h.elim fun l h=>sum_ok ok R h.1.1 h.1.2.1 h.1.2.2 hv h.2 o
 |range=>
  exact on1.el h hv fun a v h hv=>onI.el h hv fun x t h=>call_range_1 (o.grow R h.2 (Grow.push k _) (k.s.toks+1+1) ⟨k.s.heap.objs.size,rfl,k.s.toks,t,k.s.toks+1,⟨(Int.toNat_of_nonneg h.1.1).symm▸Heap.get?_push_size _ rfl,fun z=>
   (R.zx _ z).elim fun o e=>absurd (Heap.lt_size e) (Nat.lt_irrefl _)⟩⟩)
end
inductive Post(c:FC)(k:Cs)(Φ:AV→St→Prop)(v:Value)(s':Shared):Prop
 |mk (a:AV) (σ':St) (k':Cs) (e:k'.s=s') (p:Φ a σ') (x:Nx k k') (R:Rel c σ' k') (h:VR k'.g k'.r a v)
theorem Post.mono{c:FC}{k:Cs}{Φ Ψ:AV→St→Prop}(h:∀a σ,Φ a σ→Ψ a σ){v s}(q:Post c k Φ v s):Post c k Ψ v s:=by
 obtain⟨a,σ',k',e,p,x,R,r⟩:=q
 exact⟨a,σ',k',e,h _ _ p,x,R,r⟩
theorem Post.out{c:FC}{σ:St}{k:Cs}{Φ:AV→St→Prop}:Out c σ k (fun a=>Φ a σ) (Post c k Φ):=fun _ _ _ p x R r=>⟨_,_,_,rfl,p,x,R,r⟩
noncomputable def SM.val:SM→Value
 | .join=> .builtin "str.join"| .isalnum=> .builtin "str.isalnum"| .endswith=> .builtin "str.endswith"| .append=> .builtin "list.append"| .pop=> .builtin "list.pop"| .get=> .builtin "dict.get"| .bit_length=> .builtin "int.bit_length"
theorem VRs.pop{g:G}{r:List (Addr×Addr)}{l:List AV}{a:AV}{vs:List Value}(h:VRs g r (l++[a]) vs):∃vs' v,vs=vs'++[v]∧VRs g r l vs'∧VR g r a v:=by
 induction l generalizing vs with
 |nil=>exact h.el fun v _ hv hs=>hs.el0 (G:=fun vs=>∃vs' u,v::vs=vs'++[u]∧VRs g r [] vs'∧VR g r a u) ⟨[],v,rfl, .nil,hv⟩
 |cons b l ih=>
  refine h.el fun v vs hv hs=>?_
  obtain⟨vs',u,rfl,h⟩:=ih hs
  exact⟨v::vs',u,rfl, .cons hv h.1,h.2⟩
theorem glued_fold(sep:Str):∀(rest:List Str)(a:Array Nat),(rest.foldl (fun acc p=>acc++sep.cps++p.cps) a).toList=a.toList++(rest.map fun p=>sep.cps.toList++p.cps.toList).flatten
 | [],a=>by simp
 |x::r,a=>by
  rw[List.foldl_cons,glued_fold sep r]
  simp
theorem zfb(sep:List Nat)(x:List Nat):∀r:List (List Nat),joinL sep (x::r)=x++(r.map fun p=>sep++p).flatten
 | []=>by simp[joinL]
 |y::r=>by
  rw[joinL,zfb sep y r]
  simp
theorem txt_join(x:Str)(l:List Str):Txt.join x l=⟨(joinL x.cps.toList (l.map (·.cps.toList))).toArray⟩:=by
 cases l with
 |nil=>rfl
 |cons y r=>
  show(⟨_⟩:Str)=_
  congr 1
  apply Array.ext'
  rw[List.map_cons,zfb]
  show(r.foldl _ y.cps).toList=_
  rw[glued_fold]
  simp[List.map_map,Function.comp_def]
theorem joinL_len(sep:List Nat):∀l:List (List Nat),(l.map (·.length)).sum+l.length*sep.length≤(joinL sep l).length+sep.length
 | []=>by simp[joinL]
 | [x]=>by simp[joinL]
 |x::y::r=>by
  have:=joinL_len sep (y::r)
  rw[joinL]
  simp only[List.map_cons,List.sum_cons,List.length_cons,List.length_append]at this ⊢
  have e1:(r.length+1+1)*sep.length=(r.length+1)*sep.length+sep.length:=by rw[Nat.add_mul (r.length+1)];lia
  rw[e1]
  lia
theorem VRs.strs{g:G}{r}{l:List AV}{vs}(h:VRs g r l vs):∀{ys},(allD l).bind zdj=some ys→StrsAre vs ys:=by
 induction h with
 |nil=>exact fun e=>Option.some.inj e▸ .nil
 | @cons a l v vs x _ ih=>
  intro ys e
  cases a with
  |d q=>
   obtain⟨xs,e1,e2⟩:=Option.bind_eq_some_iff.mp e
   obtain⟨xs',e3,rfl⟩:=Option.map_eq_some_iff.mp e1
   cases q with
   |str z=>
    obtain⟨ys',e4,rfl⟩:=Option.map_eq_some_iff.mp e2
    exact Rd.elT (G:=fun v=>StrsAre (v::vs) (z::ys')) x fun t=> .cons z t (ih (by rw[e3];exact e4))
   |_=>exact nS e2
  |_=>exact nS e
section
variable{w:World}{E:Value→Shared→Prop}{c:FC}{σ:St}{k:Cs}{Q:Value→Shared→Prop}
theorem isLB.inv{x:AV}(h:isLB σ x=true):∃i l,x= .ref i∧σ.obj[i]?=some (.list l):=by
 cases x with
 |ref i=>
  revert h
  show(match σ.obj[i]? with|some o=>(match o with| .list _=>true|_=>false)|none=>false)=true→_
  cases e:σ.obj[i]? with
  |none=>exact fun h=>Bool.noConfusion h
  |some o=>cases o with
   |list l=>exact fun _=>⟨i,l,rfl,e⟩
   |_=>exact fun h=>Bool.noConfusion h
 |_=>exact Bool.noConfusion h
@[elab_as_elim] theorem isTB.el{x:AV}{v:Value}{G:Value→Prop}(h:isTB x=true)(hx:VR k.g k.r x v)(n:∀s t,G (.str s t)):G v:=by
 cases x with
 |d x=>cases x with
  |str x=>exact Rd.elT hx fun t=>n x t
  |_=>exact Bool.noConfusion h
 |_=>exact Bool.noConfusion h
theorem list_get{i:Nat}{l:List AV}{v:Value}(R:Rel c σ k)(e:σ.obj[i]?=some (.list l))(hv:VR k.g k.r (.ref i) v):∃p vs n,v= .ref p∧k.s.heap.get? p=some {cls:= .type "list",dict:=none,data:= .seq vs n,slots:=#[]}∧VRs k.g k.r l vs.toList:=
 R.elL (f:=fun m=>m=l) (G:=fun v=>∃p vs n,v= .ref p∧k.s.heap.get? p=some {cls:= .type "list",dict:=none,data:= .seq vs n,slots:=#[]}∧VRs k.g k.r l vs.toList) hv e rfl fun b m it n _ _ _ q _ hg r2 _=>⟨b,it,n,rfl,hg,q▸r2⟩
theorem sm_get{M:Model}{pl:Sem Bool}{Q:Value×List Value→Shared→Prop}(ok:c.Ok)(R:Rel c σ k){m:SM}{x:AV}{vx:Value}(h:smPre m x σ=true)(hx:VR k.g k.r x vx)(q:Q (m.val,[vx]) k.s):
  wpAny (model pw c.w) c.A (getMethod vx (Str.ofString m.name) pl) Q E k.s:=by
 induction m with
 |join=>exact isTB.el (G:=fun v=>Q (_,[v]) k.s→wpAny (model pw c.w) c.A (getMethod v _ pl) Q E k.s) h hx (fun _ _=>GM.join) q
 |isalnum=>exact isTB.el (G:=fun v=>Q (_,[v]) k.s→wpAny (model pw c.w) c.A (getMethod v _ pl) Q E k.s) h hx (fun _ _=>GM.isalnum) q
 |endswith=>exact isTB.el (G:=fun v=>Q (_,[v]) k.s→wpAny (model pw c.w) c.A (getMethod v _ pl) Q E k.s) h hx (fun _ _=>GM.endswith) q
 |bit_length=>
  cases x with
  |d x=>
   cases x with
   |int x=>exact Rd.elI (G:=fun v=>Q (_,[v]) k.s→wpAny (model pw c.w) c.A (getMethod v _ pl) Q E k.s) hx (fun _=>getMethod_int_bit_length) q
   |_=>exact Bool.noConfusion h
  |_=>exact Bool.noConfusion h
 |get=>
  cases x with
  |tab n=>
   obtain⟨rfl,hn⟩:=hx
   exact KTD.getMethod_text (h₀:=k.s.heap) ⟨zfz (R.kin ok) hn,fun _ _ e=>e⟩ q
  |_=>exact Bool.noConfusion h
 |append=>
  obtain⟨i,l,rfl,e⟩:=isLB.inv h
  obtain⟨p,vs,n,rfl,h1⟩:=list_get R e hx
  exact Calls.getMethod_list_append h1.1 rfl rfl q
 |pop=>
  obtain⟨i,l,rfl,e⟩:=isLB.inv h
  obtain⟨p,vs,n,rfl,h1⟩:=list_get R e hx
  exact getMethod_builtin (T:="list") ⟨_,h1.1,rfl⟩ PySem.F.plainAttrs_list PySem.F.slot_list_pop PySem.F.type_list_pop (fun a e=>by cases e;exact⟨_,h1.1,rfl⟩) q
theorem zci{z:Addr}{o:Obj}{f:Obj→Obj}:But k z (k.s.heap.update z f):=⟨fun b o n e=>by rw[Heap.get?_update_other _ _ (Ne.symm n)];exact e⟩
theorem strs_at(R:Rel c σ k){a:AV}{v:Value}{l:List Str}(h:strsOf σ a=some l)(hv:VR k.g k.r a v):∃D items,v= .ref D∧k.s.heap.IsList D items∧StrsAre items.toList l:=by
 cases a with
 |d y=>
  cases y with
  |list xs=>exact Rd.elL (G:=fun v=>∃D items,v= .ref D∧k.s.heap.IsList D items∧StrsAre items.toList l) hv fun b it l2 r2=>⟨b,it,rfl,l2,r2.strs h⟩
  |_=>exact nS h
 |ref i=>
  revert h
  show(match σ.obj[i]? with|some o=>(match o with| .list l=>(allD l).bind zdj|_=>none)|none=>none)=some l→_
  cases e:σ.obj[i]? with
  |none=>exact fun h=>nS h
  |some o=>cases o with
   |list l=>
    obtain⟨p,vs,n,rfl,h1⟩:=list_get R e hv
    exact fun h=>⟨p,vs,rfl,⟨_,h1.1,rfl,_,rfl⟩,h1.2.strs h⟩
   |_=>exact fun h=>nS h
 |_=>exact nS h
theorem join_call(R:Rel c σ k){P:AV→Prop}{x:Str}{t:Tok}{a:AV}{v:Value}{l:List Str}(h1:strsOf σ a=some l)(h2:(joinL x.cps.toList (l.map (·.cps.toList))).length+x.length≤sizeLine)(hp:P (.d (.str ⟨(joinL x.cps.toList (l.map (·.cps.toList))).toArray⟩)))(hv:VR k.g k.r a v)(o:Out c σ k P Q):
  wpAny (model pw c.w) c.A (call (.builtin "str.join") [.str x t,v]) Q E k.s:=by
 obtain⟨D,items,rfl,l2,r2⟩:=strs_at R h1 hv
 refine join_list l2 r2 ?_ fun t' tk=>txt_join x l▸o.tok R hp tk (.str _ _)
 have:=joinL_len x.cps.toList (l.map (·.cps.toList))
 rw[List.map_map,List.length_map]at this
 exact Nat.le_trans this h2
theorem append_call{Φ:AV→St→Prop}(ok:c.Ok)(R:Rel c σ k){i:Nat}{ob:AO}{a:AV}{vx v:Value}(e:σ.obj[i]?=some ob)(hx:VR k.g k.r (.ref i) vx)(pl:AV.plain a=true)(hv:VR k.g k.r a v)
  (h:onAL ob fun l=>l.length<sizeLine∧fc (σ.obj.set i (.list (l++[a]))) fun H=>Φ (.d .none) ⟨σ.loc,H⟩):wpAny (model pw c.w) c.A (call (.builtin "list.append") [vx,v]) (Post c k Φ) E k.s:=
 R.elL hx e h fun b l vs n hi _ _ h hz h1 h2 h3=>by
  have hsz:vs.size=l.length:=h2.length.symm
  refine call_meets PySem.F.slot_list_append ⟨_,h1,rfl⟩ PySem.F.entry_list_append (PySem.F.args_list_append_2 _ _) (list_append b vs n v (hsz▸Nat.le_of_lt h.1)) ⟨h1,?_⟩
  have hself:=Heap.get?_update_self (Obj.mapSeq fun y=>y.push v) h1 rfl
  have B:But k b (k.s.heap.update b (Obj.mapSeq fun y=>y.push v)):=zci (o:=default)
  have nx:=B.nx hz k.s.toks
  have hp:Φ (.d .none) ⟨σ.loc,σ.obj.set i (.list (l++[a]))⟩:=Eq.mp (fc_eq _ _) h.2
  exact⟨_,_,_,rfl,hp,nx,R.setObj ok hi hz B ⟨_,hself⟩ ⟨hz,rfl,_,_,hself,by rw[Array.toList_push];exact(nx.vrs h2).append (.cons (nx.vr hv) .nil),List.forall_mem_append.mpr ⟨h3,List.forall_mem_singleton.mpr pl⟩⟩, .none⟩
theorem pop_call{Φ:AV→St→Prop}(ok:c.Ok)(R:Rel c σ k){i:Nat}{ob:AO}{vx:Value}(e:σ.obj[i]?=some ob)(hx:VR k.g k.r (.ref i) vx)
  (h:onAL ob fun l=>∃l' a,(l=l'++[a]∧l.length≤sizeLine∧AV.plain a=true)∧fc (σ.obj.set i (.list l')) fun H=>Φ a ⟨σ.loc,H⟩):wpAny (model pw c.w) c.A (call (.builtin "list.pop") [vx]) (Post c k Φ) E k.s:=
 R.elL hx e h fun b l vs n hi _ _ h hz h1 h2 h3=>by
  obtain⟨l',a,⟨rfl,hlen,hpl⟩,hp⟩:=h
  obtain⟨vs',v,ev,h4,h5⟩:=h2.pop
  obtain rfl:vs=(vs'++[v]).toArray:=by rw[←ev]
  have hsz:(vs'++[v]).toArray.size≤sizeLine:=Nat.le_trans (Nat.le_of_eq h2.length.symm) hlen
  refine call_meets PySem.F.slot_list_pop ⟨_,h1,rfl⟩ PySem.F.entry_list_pop (PySem.F.args_list_pop_1 _) (MeetsSeq.list_pop_last b _ n v (by simp) hsz) ⟨h1,?_⟩
  have hself:=Heap.get?_update_self (Obj.mapSeq fun xs=>xs.eraseIdxIfInBounds ((vs'++[v]).toArray.size-1)) h1 rfl
  have B:But k b (k.s.heap.update b (Obj.mapSeq fun xs=>xs.eraseIdxIfInBounds ((vs'++[v]).toArray.size-1))):=zci (o:=default)
  have nx:=B.nx hz k.s.toks
  have e:((vs'++[v]).toArray.eraseIdxIfInBounds ((vs'++[v]).toArray.size-1)).toList=vs':=by
   simp[Array.eraseIdxIfInBounds,List.eraseIdx_append_of_length_le]
  have hp:Φ a ⟨σ.loc,σ.obj.set i (.list l')⟩:=Eq.mp (fc_eq _ _) hp
  exact⟨_,_,_,rfl,hp,nx,R.setObj ok hi hz B ⟨_,hself⟩ ⟨hz,rfl,_,_,hself,by rw[e];exact nx.vrs h4,fun b hb=>h3 b (List.mem_append_left _ hb)⟩,nx.vr h5⟩
theorem sm_call{Φ:AV→St→Prop}(ok:c.Ok)(R:Rel c σ k){m:SM}{x:AV}{as:List AV}{vx:Value}{vs:List Value}(h:asm m x as σ Φ)(hx:VR k.g k.r x vx)(hv:VRs k.g k.r as vs):
  wpAny (model pw c.w) c.A (call m.val (vx::vs)) (Post c k Φ) E k.s:=by
 induction m with
 |join=>exact onT.el h hx fun x t h=>on1.el h hv fun a v h hv=>h.elim fun l h=>join_call R h.1.1 h.1.2 h.2 hv Post.out
 |isalnum=>exact onT.el h hx fun x t h=>on0.el h hv fun h=>SC.isalnum (Out.same R Post.out h (.bool _))
 |endswith=>exact onT.el h hx fun x t h=>on1.el h hv fun a v h hv=>onT.el h hv fun y s h=>SC.endswith (Out.same R Post.out h (.bool _))
 |bit_length=>
  refine onI.el h hx fun x t h=>on0.el h hv fun h=>call_int_bit_length (Out.tok R Post.out (r:= .d (.int _)) ?_ _ (.int _ _))
  unfold Builtin.Int.intBits
  by_cases q:x=0
  ·rw[if_pos q]at h;rw[if_pos (beq_iff_eq.mpr q)];exact h
  ·rw[if_neg q]at h;rw[if_neg fun z=>q (beq_iff_eq.mp z)];exact h
 |append=>
  obtain⟨kk,rfl,h⟩:=onR.inv h
  exact on1.el h hv fun a v h hv=>onB.el h fun pl h=>onS.el h fun ob e h=>append_call ok R e hx pl hv h
 |pop=>
  obtain⟨kk,rfl,h⟩:=onR.inv h
  exact on0.el h hv fun h=>onS.el h fun ob e h=>pop_call ok R e hx h
 |get=>
  obtain⟨n,rfl,h⟩:=onTb.inv h
  obtain⟨rfl,hn⟩:=hx
  refine on2.el h hv fun a b u v h ha hb=>onT.el h ha fun x t h=>onD.el h hb fun y h hb=>KTD.get2_text (h₀:=k.s.heap) (D:=tabD _) ⟨zfz (R.kin ok) hn,fun _ _ e=>e⟩ (each_map _ _ ?_)
  generalize(tabOf n).lookup x=z at h
  cases z with
  |some z=>exact fun u=>Out.tok R Post.out h _ (.int _ _)
  |none=>exact Out.tok R Post.out h _ hb
end
theorem putL_len{name:Str}{hsh:Int}{key v:Value}:∀{es:List DictEntry},(putL name hsh key v es).length=if es.any (·.key.isStr name)then es.length else es.length+1
 | []=>rfl
 |a::r=>by
  unfold putL
  rw[List.any_cons]
  cases q:a.key.isStr name with
  |true=>simp
  |false=>simp only[Bool.false_eq_true,if_false,Bool.false_or,List.length_cons,putL_len (es:=r)];split<;>rfl
theorem ERel.put{g:G}{r}{C:Addr}{fs es}(h:ERel g r C fs es){f:Nat}{a:AV}{v:Value}(hf:okF C f=true)(hp:AV.plain a=true)(hv:VR g r a v)(hsh:Int)(tk:Tok):ERel g r C (fput f a fs) (putL (nm f) hsh (.str (nm f) tk) v es):=by
 induction h with
 |nil=>exact .cons ⟨hf,hp⟩ ⟨tk,rfl⟩ hv .nil
 | @cons p e fs es x b w h ih=>
  obtain⟨t,b⟩:=b
  unfold fput putL
  by_cases q:p.1=f
  ·rw[if_pos q,if_pos (show e.key.isStr (nm f)=true by rw[b,q];exact beq_self_eq_true _)]
   exact .cons ⟨hf,hp⟩ ⟨t,b.trans (q▸rfl)⟩ hv h
  ·rw[if_neg q,if_neg (show¬e.key.isStr (nm f)=true by rw[b];exact fun z=>q (nm_inj _ (okF_lt x.1) _ (okF_lt hf) (beq_iff_eq.mp z)))]
   exact .cons x ⟨t,b⟩ w ih
theorem ERel.len{g:G}{r}{C:Addr}{fs es}(h:ERel g r C fs es):es.length=fs.length:=by
 induction h with
 |nil=>rfl
 |cons _ _ _ _ ih=>exact congrArg (· +1) ih
theorem ERel.refKey{g:G}{r}{C:Addr}{fs es}(h:ERel g r C fs es):∀e∈es,e.refKey=false:=by
 induction h with
 |nil=>exact fun _ h=>nomatch h
 | @cons _ e _ _ _ b _ _ ih=>exact List.forall_mem_cons.mpr ⟨by obtain⟨t,b⟩:=b;unfold DictEntry.refKey;rw[b],ih⟩
inductive Pst(c:FC)(k:Cs)(Φ:St→Prop)(s':Shared):Prop
 |mk (σ':St) (k':Cs) (e:k'.s=s') (p:Φ σ') (x:Nx k k') (R:Rel c σ' k')
theorem Pst.ext{c:FC}{k k':Cs}{Φ:St→Prop}{s:Shared}(x:Nx k k')(h:Pst c k' Φ s):Pst c k Φ s:=by
 obtain⟨σ',k2,e,p,y,R⟩:=h
 exact⟨σ',k2,e,p,x.trans y,R⟩
section
variable{w:World}{E:Value→Shared→Prop}{c:FC}{σ:St}{k:Cs}
theorem set_core{x C dx:Addr}{es:List DictEntry}{n:Nat}{sl:Array (Option Value)}{f:Nat}{v:Value}{s:Shared}{A:Around}{Q:Unit→Shared→Prop}(X:(K w.params).In s.heap)(hf:okF C f=true)
  (hx:s.heap.get? x=some ⟨.ref C,some dx, .plain,sl⟩)(hd:s.heap.get? dx=some (dictOf es n))(hr:∀e∈es,e.refKey=false)(hz:es.length≤500)
  (h:∀hsh tk,Q () {s with heap:=s.heap.update dx (Obj.putName (nm f) hsh (.str (nm f) tk) v),toks:=s.toks+2}):
  wpAny (model pw w) A (setAttr (.ref x) (nm f) v) Q E s:=by
 have F:=zdm (P:=w.params) hf
 have I:InstAt s.heap x ⟨.ref C,some dx, .plain,sl⟩ C (some (dictOf es n)):=⟨hx,rfl,rfl,hd⟩
 have ht:takerIn (K w.params) C (nm f)=some none:=by unfold takerIn;rw[F.find];rfl
 refine set_plain X I F.set (osa_open (s:={s with toks:=s.toks+1}) X I F.over ht fun b=>?_)
 obtain⟨cd,hc,hd'⟩:=any_some F.dict
 refine wpAny_bind (wpAny_pure (wpAny_bind (wpAny_bind (wpAny_loadPart hx (wpAny_bind (Looks.here (s:={s with toks:=s.toks+1}) (looks_clsIn X hc) ?_))))))
 rw[hd']
 refine wpAny_pure (a:=some dx) (wpAny_bind (wpAny_pure (wpAny_bind ?_)))
 unfold nsSet
 refine wpAny_bind (wpAny_bind (wpAny_askSetting (wpAny_pure (wpAny_bind (wpAny_mkText (wpAny_bind (wpAny_loadPart hd ?_)))))))
 dsimp only
 have c:(!es.toArray.any (·.key.isStr (nm f))&&es.toArray.any (·.refKey))=false:=by
  have:es.toArray.any (·.refKey)=false:=by
   rw[List.any_toArray,List.any_eq_false];intro e he;rw[hr e he];simp
  rw[this,Bool.and_false]
 rw[aRefKeyMayBeTheName_at,c]
 refine wpAny_updatePart hd ?_
 have hself:∀hsh tk,(s.heap.update dx (Obj.putName (nm f) hsh (.str (nm f) tk) v)).get? dx=some (dictOf (putL (nm f) hsh (.str (nm f) tk) v es) (putN (nm f) es n)):=fun hsh tk=>by
  rw[←putName_dict]
  exact Heap.get?_update_self _ hd (by rw[putName_dict];rfl)
 refine wpAny_bind (wpAny_lookBehind (hself _ _) (pastItsLine_dict ?_) ?_)
 ·rw[List.size_toArray,putL_len,sizeLine_eq]
  have h1:=Nat.succ_le_succ hz
  split
  ·exact Nat.le_trans hz (by decide)
  ·exact Nat.le_trans h1 (by decide)
 ·exact wpAny_pure (h _ _)
theorem set_ok{Φ:St→Prop}(ok:c.Ok)(R:Rel c σ k){i f:Nat}{C:Addr}{fs:List (Nat×AV)}{a:AV}{va vx:Value}(hp:AV.plain a=true)(ho:σ.obj[i]?=some (.inst C fs))(hf:(okF C f&&Nat.ble fs.length 100)=true)
  (hx:VR k.g k.r (.ref i) vx)(ha:VR k.g k.r a va)(h:Φ {σ with obj:=σ.obj.set i (.inst C (fput f a fs))}):
  wpAny (model pw c.w) c.A (setAttr vx (nm f) va) (fun _=>Pst c k Φ) E k.s:=by
 have hf:=Bool.and_eq_true_iff.mp hf
 obtain⟨p,hp1,rfl⟩:=hx
 obtain⟨p',hp',ho⟩:=R.obj _ _ ho
 cases hp1.symm.trans hp'
 obtain⟨z,sl,g1,es,n,d1,d2⟩:=ho
 refine set_core (R.kin ok) hf.1 g1.1 d1 d2.refKey (Nat.le_trans (d2.len▸Nat.le_of_ble_eq_true hf.2) (by decide)) fun hsh tk=>?_
 have hself:(k.s.heap.update p.2 (Obj.putName (nm f) hsh (.str (nm f) tk) va)).get? p.2=some (dictOf (putL (nm f) hsh (.str (nm f) tk) va es) (putN (nm f) es n)):=
  putName_dict .. ▸Heap.get?_update_self _ d1 (by rw[putName_dict];rfl)
 have B:But k p.2 (k.s.heap.update p.2 (Obj.putName (nm f) hsh (.str (nm f) tk) va)):=zci (o:=default)
 have nx:=B.nx z (k.s.toks+2)
 exact⟨_,_,rfl,h,nx,R.setObj ok hp1 z B ⟨_,hself⟩ ⟨z,sl,nx.g _ _ g1,_,_,hself,(d2.nx nx).put hf.1 hp (nx.vr ha) hsh tk⟩⟩
theorem VRs.set{g:G}{r}{l:List AV}{vs:List Value}{a:AV}{v:Value}(h:VRs g r l vs)(hv:VR g r a v):∀j,VRs g r (l.set j a) (vs.set j v):=by
 induction h with
 |nil=>exact fun _=> .nil
 |cons x y ih=>
  intro j
  induction j with
  |zero=>exact .cons hv y
  |succ j=>exact .cons x (ih j)
theorem seti_ok{Φ:St→Prop}(ok:c.Ok)(R:Rel c σ k){i:Nat}{n:Int}{l:List AV}{a:AV}{va vx vi:Value}(hp:AV.plain a=true)(ho:σ.obj[i]?=some (.list l))(hn:0≤n∧n.toNat<l.length)(hl:l.length≤sizeLine)
  (hx:VR k.g k.r (.ref i) vx)(hi:VR k.g k.r (.d (.int n)) vi)(ha:VR k.g k.r a va)(h:Φ {σ with obj:=σ.obj.set i (.list (l.set n.toNat a))}):
  wpAny (model pw c.w) c.A (setItem vx vi va) (fun _=>Pst c k Φ) E k.s:=
 Rd.elI (G:=fun vi=>wpAny (model pw c.w) c.A (setItem vx vi va) (fun _=>Pst c k Φ) E k.s) hi fun t=>R.elL (f:=fun m=>m=l) hx ho rfl fun b l' vs m hi1 _ _ q hz h1 h2 h3=>by
  subst q
  have hsz:vs.size=l'.length:=h2.length.symm
  have hlt:n<vs.size:=hsz▸(Int.toNat_lt hn.1).mp hn.2
  refine ki_setAt (n:=m) h1 hn.1 (Int.lt_trans (Int.lt_of_lt_of_le hlt (Int.ofNat_le.mpr (hsz▸hl))) (by rw[sizeLine_eq];decide)) hlt ?_
  have hself:=Heap.get?_update_self (Obj.mapSeq fun x=>x.setIfInBounds n.toNat va) h1 rfl
  have B:But k b (k.s.heap.update b (Obj.mapSeq fun x=>x.setIfInBounds n.toNat va)):=zci (o:=default)
  have nx:=B.nx hz k.s.toks
  have e:(vs.setIfInBounds n.toNat va).toList=vs.toList.set n.toNat va:=Array.toList_setIfInBounds
  exact⟨_,_,rfl,h,nx,R.setObj ok hi1 hz B ⟨_,hself⟩ ⟨hz,rfl,_,_,hself,e▸(nx.vrs h2).set (nx.vr ha) _,fun b hb=>(List.mem_or_eq_of_mem_set hb).elim (h3 b) fun q=>q▸hp⟩⟩
theorem store_ok{Φ:St→Prop}(ok:c.Ok)(R:Rel c σ k){i:Nat}{a:AV}{va:Value}(hi:i<nms.length)(hk:c.env.kindOf (nm i)=some .local)(ha:VR k.g k.r a va)(h:Φ (σ.set i a)):
  wpAny (model pw c.w) c.A (storeName c.env (nm i) va) (fun _=>Pst c k Φ) E k.s:=by
 obtain⟨mm,hn,hl⟩:=R.ns
 refine wpAny_storeName_local hk hn (fun h' hn' hs'=>?_) (by rw[ok.kind];rfl)
 exact⟨_,k.at h' (k.s.toks+1),rfl,h,(But.of hs').nx R.lz _,R.setLoc ok hl hn' hs' hi hk ha⟩
theorem name_ok{Φ:AV→St→Prop}(ok:c.Ok)(R:Rel c σ k){i:Nat}{a:AV}{p:Pos}(h:σ.get i=some a)(q:Φ a σ):wpAny (model pw c.w) c.A (eval (.Name (nm i) p) c.env) (Post c k Φ) E k.s:=by
 obtain⟨mm,hn,hl⟩:=R.ns
 obtain⟨hi,v,hv,hr⟩:=hl i a h
 refine wpAny_Name ?_ (nm_debug i hi)
 rcases hr with⟨h1,h2⟩|⟨h1,ad,h2,h3⟩
 ·exact wpAny_loadName_local ok.kind h1 hn h2 (Out.same R Post.out q hv)
 ·exact wpAny_loadName_cell ok.kind h1 h2 h3 (Out.same R Post.out q hv)
end
noncomputable def emptyH:Heap:={}
theorem emptyH_get(a:Addr):emptyH.get? a=none:=by simp[emptyH,Heap.get?]
noncomputable def frs(c:FC):List Addr:=c.fe.locals::c.F
noncomputable def ErrG(c:FC)(h:Heap):G:=fun b ob=>h.get? b=some ob∧(∀vs,ob.data≠ .fields vs)∧b∉frs c
noncomputable def New(c:FC)(b:Addr):Prop:=c.k0.s.heap.get? b=none∨c.m0 b
inductive TrR(c:FC)(fl:Value)(ea:Addr)(vs:Array Value)(h:Heap):Prop
 |mk (T:Addr) (oT:Obj) (ts:Array Value) (a:vs[1]?=some (.ref T)) (n:New c T) (ne:T≠ea) (b:h.get? T=some oT) (d:oT.data= .fields ts) (f:ts[3]?=some fl)
noncomputable def TrAt(c:FC)(m:Option Value)(ea:Addr)(vs:Array Value)(h:Heap):Prop:=match m with
 |none=>vs[1]?=some .none
 |some fl=>TrR c fl ea vs h
inductive Exc(c:FC)(m:Option Value)(o:Int)(e:Value)(h:Heap):Prop
 |mk (ea:Addr) (oe:Obj) (vs:Array Value) (de:Addr) (q:e= .ref ea) (n:New c ea) (a:h.get? ea=some oe) (k:oe.cls= .ref CErr) (y:oe.dict=some de) (d:oe.data= .fields vs) (z:6≤vs.size) (r:ErrDict (ErrG c h) de o) (t:TrAt c m ea vs h)
theorem Exc.map{c c':FC}{m:Option Value}{o:Int}{e:Value}{h:Heap}(n:∀b,New c b→New c' b)(f:∀b ob,ErrG c h b ob→ErrG c' h b ob)(x:Exc c m o e h):Exc c' m o e h:=by
 obtain⟨ea,oe,vs,de,h0,h1,h2,h3,h4,h5,h6,h7,h8⟩:=x
 refine⟨ea,oe,vs,de,h0,n _ h1,h2,h3,h4,h5,h6,h7.mono f,?_⟩
 cases m with
 |none=>exact h8
 |some fl=>
  obtain⟨T,oT,ts,t1,t2,t3,t4,t5,t6⟩:=h8
  exact⟨T,oT,ts,t1,n _ t2,t3,t4,t5,t6⟩
structure Fly(c:FC)(m:Option Value)(o:Int)(e:Value)(s:Shared):Prop where
 rest:s={c.k0.s with heap:=s.heap,toks:=s.toks}
 keep:∀b ob,¬c.m0 b→b∉c.F→c.k0.s.heap.get? b=some ob→s.heap.get? b=some ob
 fr:∀b ob,b∈c.F→c.k0.s.heap.get? b=some ob→∃sl,s.heap.get? b=some {ob with slots:=sl}
 floc:∃ob,s.heap.get? c.fe.locals=some ob∧∀vs,ob.data≠ .fields vs
 lfresh:c.fe.locals∈c.F∨c.m0 c.fe.locals∨c.k0.s.heap.get? c.fe.locals=none
 exc:Exc c m o e s.heap
structure Stp(c:FC)(h h':Heap):Prop where
 nf:∀b ob,h.get? b=some ob→(∀vs,ob.data≠ .fields vs)→b∉frs c→h'.get? b=some ob
 sl:∀b ob,b∈frs c→h.get? b=some ob→(∀vs,ob.data≠ .fields vs)→∃sl,h'.get? b=some {ob with slots:=sl}
 old:∀b ob,¬New c b→b∉frs c→h.get? b=some ob→h'.get? b=some ob
theorem Stp.errG{c:FC}{h h':Heap}(x:Stp c h h'):∀b o,ErrG c h b o→ErrG c h' b o:=fun b o q=>⟨x.nf b o q.1 q.2.1 q.2.2,q.2⟩
theorem Stp.trans{c:FC}{h h' h'':Heap}(x:Stp c h h')(y:Stp c h' h''):Stp c h h'':=
 ⟨fun b ob e n f=>y.nf b ob (x.nf b ob e n f) n f,fun b ob f e n=>(x.sl b ob f e n).elim fun sl q=>y.sl b {ob with slots:=sl} f q n,fun b ob k f e=>y.old b ob k f (x.old b ob k f e)⟩
noncomputable def FrsOk(c:FC)(s:Shared):Prop:=∀b∈frs c,∃ob,s.heap.get? b=some ob∧∀vs,ob.data≠ .fields vs
theorem Fly.frsOk{c:FC}{m o e s}(ok:c.Ok)(hF:∀b∈c.F,∃ob,c.k0.s.heap.get? b=some ob∧∀vs,ob.data≠ .fields vs)(f:Fly c m o e s):FrsOk c s:=fun b hb=>by
 rcases List.mem_cons.mp hb with rfl|hb
 ·exact f.floc
 ·obtain⟨ob,e1,e2⟩:=hF b hb
  obtain⟨sl,e3⟩:=f.fr b ob hb e1
  exact⟨_,e3,e2⟩
theorem Fly.step{c:FC}{m m' o e s}{h':Heap}{t:Nat}(f:Fly c m o e s)(hF:∀b∈c.F,∃ob,c.k0.s.heap.get? b=some ob∧∀vs,ob.data≠ .fields vs)(x:Stp c s.heap h')
  (exc:Exc c m' o e h'):
  Fly c m' o e {s with heap:=h',toks:=t}:=by
 refine⟨?_,fun b ob a1 a2 q=>x.old b ob (fun z=>z.elim (fun z=>by rw[q]at z;cases z) a1) (fun hb=>?_) (f.keep b ob a1 a2 q),fun b ob a q=>?_,?_,f.lfresh,exc⟩
 ·have:=f.rest;rw[this]
 ·rcases List.mem_cons.mp hb with rfl|hb
  ·rcases f.lfresh with h|h|h
   ·exact a2 h
   ·exact a1 h
   ·rw[q]at h;cases h
  ·exact a2 hb
 ·obtain⟨sl,q'⟩:=f.fr b ob a q
  obtain⟨ob2,q2,q3⟩:=hF b a
  rw[q]at q2;cases q2
  obtain⟨sl2,q4⟩:=x.sl b _ (List.mem_cons_of_mem _ a) q' q3
  exact⟨sl2,q4⟩
 ·obtain⟨ob,q,q'⟩:=f.floc
  obtain⟨sl,q2⟩:=x.sl _ ob List.mem_cons_self q q'
  exact⟨_,q2,q'⟩
section
variable{w:World}{M:Model}{E:Value→Shared→Prop}{c:FC}{s:Shared}{o:Int}{e:Value}
theorem upd_fields{h:Heap}{a:Addr}{ob:Obj}{vs:Array Value}(f:Array Value→Array Value)(he:h.get? a=some ob)(hd:ob.data= .fields vs):
  (h.update a (Obj.mapFields f)).get? a=some (ob.mapFields f)∧(ob.mapFields f).data= .fields (f vs)∧(ob.mapFields f).cls=ob.cls∧(ob.mapFields f).dict=ob.dict:=by
 have hd':=Obj.data_mapFields hd f
 refine⟨Heap.get?_update_self _ he (Obj.isFreed_of_fields hd'),hd',Obj.cls_mapFields _ _,?_⟩
 obtain⟨cl,d,dt,sl⟩:=ob;cases dt<;>rfl
theorem Stp.record{h:Heap}{a:Addr}{ob:Obj}{vs:Array Value}(f:Obj→Obj)(he:h.get? a=some ob)(hd:ob.data= .fields vs)(hn:New c a):Stp c h (h.update a f):=by
 have ne:∀b o',h.get? b=some o'→(∀vs,o'.data≠ .fields vs)→b≠a:=fun b o' e n q=>by rw[q,he]at e;cases e;exact n _ hd
 refine⟨fun b o' e n _=>?_,fun b o' _ e n=>⟨o'.slots,?_⟩,fun b o' k _ e=>?_⟩
 ·rw[Heap.get?_update_other _ _ (Ne.symm (ne b o' e n))];exact e
 ·rw[Heap.get?_update_other _ _ (Ne.symm (ne b o' e n))];exact e
 ·rw[Heap.get?_update_other _ _ (fun q:a=b=>k (q▸hn))];exact e
theorem Stp.push{h:Heap}(ob:Obj):Stp c h (h.push ob):=
 ⟨fun _ _ e _ _=>Heap.get?_push_of_some _ e,fun _ o' _ e _=>⟨o'.slots,Heap.get?_push_of_some _ e⟩,fun _ _ _ _ e=>Heap.get?_push_of_some _ e⟩
theorem Stp.slots{h h':Heap}(x:Heap.SlotsOnly (frs c) h h'):Stp c h h':=
 ⟨fun b _ e _ n=>(x.2.1 b n).trans e,fun b ob _ e _=>x.2.2 b ob e,fun b _ _ n e=>(x.2.1 b n).trans e⟩
theorem funFrames_of{c:FC}(ok:c.Ok){s:Shared}(h:FrsOk c s):s.heap.FunFrames emptyH (c.fe::c.outs):=by
 have key:∀l:List Env,(∀e∈l,e.scope.kind≠ .module∧∃L,e.frame=some L∧L∈frs c)→s.heap.FunFrames emptyH l:=by
  intro l
  induction l with
  |nil=>intro _;trivial
  |cons e l ih=>
   intro hl
   obtain⟨h1,L,h2,h3⟩:=hl e List.mem_cons_self
   obtain⟨ob,h4,h5⟩:=h L h3
   exact⟨h1,⟨L,ob,h2,emptyH_get _,h4,h5⟩,ih fun e he=>hl e (List.mem_cons_of_mem _ he)⟩
 refine key _ fun e he=>?_
 rcases List.mem_cons.mp he with rfl|he
 ·exact⟨(by rw[ok.fkind];intro q;cases q),c.fe.locals,ok.fframe,List.mem_cons_self⟩
 ·obtain⟨h1,L,_,h2,h3,_⟩:=ok.outs e he
  exact⟨h1,L,h2,List.mem_cons_of_mem _ h3⟩
theorem frames_sub{c:FC}(ok:c.Ok):∀b∈(c.fe::c.outs).filterMap (·.frame),b∈frs c:=by
 intro b hb
 obtain⟨e,he,hf⟩:=List.mem_filterMap.mp hb
 rcases List.mem_cons.mp he with rfl|he
 ·rw[ok.fframe]at hf;cases hf;exact List.mem_cons_self
 ·obtain⟨_,L,_,h2,h3,_⟩:=ok.outs e he
  rw[h2]at hf;cases hf
  exact List.mem_cons_of_mem _ h3
noncomputable def FOk(c:FC):Prop:=∀b∈c.F,∃ob,c.k0.s.heap.get? b=some ob∧∀vs,ob.data≠ .fields vs
theorem entry_ok{m:Option Value}{head:Value}{hadNext:Bool}{Q:Unit→Shared→Prop}(ok:c.Ok)(hF:FOk c)(f:Fly c m o e s)(hQ:∀s',Fly c (some (rawInt c.fe.locals)) o e s'→Q () s'):
  wpAny M c.A (do let a←frameOf c.fe;let pl←entryPlaceOf c.fe.locals hadNext;let b←EntryCells.newEntry head a .none (rawInt c.fe.locals) .none pl;setField e 1 b) Q E s:=by
 have fok:=f.frsOk ok hF
 obtain⟨ea,oe,vs,de,rfl,h1,h2,h3,h4,h5,h6,h7,h8⟩:=f.exc
 refine wpAny_bind (wpAny_frameOf_fun ok.frames (funFrames_of ok fok) ok.fframe fun h₁ hs₁=>?_)
 refine wpAny_bind (wpAny_entryPlaceOf fun pl hpl=>?_)
 have s1:Stp c s.heap h₁:=Stp.slots (hs₁.mono (frames_sub ok))
 have ne:ea∉frs c:=fun hb=>by
  obtain⟨ob,q,q'⟩:=fok _ hb
  rw[h2]at q;cases q;exact q' _ h5
 have he₁:h₁.get? ea=some oe:=(hs₁.2.1 ea fun hb=>ne (frames_sub ok _ hb)).trans h2
 unfold EntryCells.newEntry newFields
 refine wpAny_bind (wpAny_newObj_type ?_ (hpl.sizeOk5 _ _ _ _ _))
 generalize hT:({cls:= .type "traceback",dict:=none,data:= .fields ([head, .ref c.fe.locals, .none,rawInt c.fe.locals, .none]++(if pl.isEmpty then List.replicate 6 Value.none else pl)).toArray}:Obj)=oT
 have he₂:=Heap.get?_push_of_some (h:=h₁) oT he₁
 refine wpAny_setField he₂ h5 (by lia) (hQ _ ?_)
 have hnew:New c h₁.objs.size:=by
  by_cases a2:c.m0 h₁.objs.size
  ·exact .inr a2
  ·refine .inl ?_
   cases q:c.k0.s.heap.get? h₁.objs.size with
   |none=>rfl
   |some ob=>
    have:∃x,h₁.get? h₁.objs.size=some x:=by
     by_cases a1:h₁.objs.size∈frs c
     ·obtain⟨ob,q,q'⟩:=fok _ a1
      obtain⟨sl,q2⟩:=s1.sl _ ob a1 q q'
      exact⟨_,q2⟩
     ·exact⟨_,s1.old _ _ (fun z=>z.elim (fun z=>by rw[q]at z;cases z) a2) a1 (f.keep _ ob a2 (fun z=>a1 (List.mem_cons_of_mem _ z)) q)⟩
    obtain⟨x,hx⟩:=this
    exact absurd (Heap.lt_size hx) (Nat.lt_irrefl _)
 obtain⟨u1,u2,u3,u4⟩:=upd_fields (·.setIfInBounds 1 (Value.ref h₁.objs.size)) he₂ h5
 have hTe:h₁.objs.size≠ea:=Nat.ne_of_gt (Heap.lt_size he₁)
 have S:Stp c s.heap ((h₁.push oT).update ea (Obj.mapFields (·.setIfInBounds 1 (Value.ref h₁.objs.size)))):=(s1.trans (Stp.push oT)).trans (Stp.record _ he₂ h5 h1)
 refine f.step hF S ⟨ea,_,_,de,rfl,h1,u1,u3.trans h3,u4.trans h4,u2,by rw[Array.size_setIfInBounds];exact h6,h7.mono S.errG,?_⟩
 refine⟨h₁.objs.size,oT,_,by rw[Array.getElem?_setIfInBounds_self,if_pos (by lia)],hnew,hTe,?_,by rw[←hT],?_⟩
 ·rw[Heap.get?_update_other _ _ (Ne.symm hTe)]
  refine Heap.get?_push_size _ ?_
  rw[←hT];rfl
 ·simp
inductive Opn(c:FC)(fl:Value)(o:Int)(e:Value)(s:Shared):Prop
 |mk (ea T:Addr) (oe:Obj) (vs:Array Value) (oT:Obj) (ts:Array Value) (q:e= .ref ea) (a:s.heap.get? ea=some oe) (d:oe.data= .fields vs) (v:vs[1]?=some (.ref T)) (b:s.heap.get? T=some oT) (f:oT.data= .fields ts) (w:ts[3]?=some fl)
  (n:∀x,Fly c (some x) o e {s with heap:=s.heap.update T (Obj.mapFields (·.setIfInBounds 3 x))})
theorem Fly.opn{fl:Value}(hF:FOk c)(f:Fly c (some fl) o e s):Opn c fl o e s:=by
 obtain⟨ea,oe,vs,de,rfl,h1,h2,h3,h4,h5,h6,h7,T,oT,ts,t1,t2,t3,t4,t5,t6⟩:=f.exc
 refine⟨ea,T,oe,vs,oT,ts,rfl,h2,h5,t1,t4,t5,t6,fun x=>?_⟩
 have u:=upd_fields (·.setIfInBounds 3 x) t4 t5
 have S:Stp c s.heap (s.heap.update T (Obj.mapFields (·.setIfInBounds 3 x))):=Stp.record _ t4 t5 t2
 exact f.step (t:=s.toks) hF S ⟨ea,oe,vs,de,rfl,h1,(Heap.get?_update_other _ _ t3).trans h2,h3,h4,h5,h6,h7.mono S.errG,T,_,_,t1,t2,t3,u.1,u.2.1,by simp[(Array.getElem?_eq_some_iff.mp t6).1]⟩
theorem ref_no{T:Addr}:(Value.ref T !=Value.none)=true:=rfl
theorem note_ok{m:Option Value}{Q:Unit→Shared→Prop}(ok:c.Ok)(hF:FOk c)(hm:m=none∨m=some .none∨m=some (rawInt c.fe.locals))(f:Fly c m o e s)(hQ:∀s',Fly c (some (rawInt c.fe.locals)) o e s'→Q () s'):
  wpAny M c.A (noteFrame e c.fe) Q E s:=by
 unfold noteFrame
 simp only[ok.fframe]
 rcases hm with rfl|hm
 ·obtain⟨ea,oe,vs,de,rfl,_,h2,_,_,h5,_,_,h8⟩:=id f.exc
  refine wpAny_bind (wpAny_field h2 h5 h8 ?_)
  rw[if_neg (by decide)]
  exact entry_ok ok hF f hQ
 ·obtain⟨fl,rfl,hx⟩:∃fl,m=some fl∧(fl= .none∨fl=rawInt c.fe.locals):=hm.elim (fun h=>⟨_,h, .inl rfl⟩) fun h=>⟨_,h, .inr rfl⟩
  obtain⟨ea,T,oe,vs,oT,ts,rfl,a,d,v,b,y,w,n⟩:=f.opn hF
  refine wpAny_bind (wpAny_field a d v ?_)
  rw[if_pos ref_no]
  refine wpAny_bind (wpAny_field b y w ?_)
  rcases hx with rfl|rfl
  ·rw[if_neg (show¬((Value.none==rawInt c.fe.locals)=true)from Bool.noConfusion)]
   exact wpAny_bind (wpAny_setField b y (Array.getElem?_eq_some_iff.mp w).1 (entry_ok ok hF (n .none) hQ))
  ·rw[if_pos (beq_self_eq_true _)]
   exact wpAny_pure (hQ _ f)
theorem zdn{fl:Value}{fr:Option Addr}{Q:Unit→Shared→Prop}(hF:FOk c)(f:Fly c (some fl) o e s)(hQ:∀s',Fly c (some (fr.elim .none fun f=>rawInt f)) o e s'→Q () s'):
  wpAny M c.A (setFlight e fr) Q E s:=by
 obtain⟨ea,T,oe,vs,oT,ts,rfl,a,d,v,b,y,w,n⟩:=f.opn hF
 unfold setFlight
 refine wpAny_bind (wpAny_field a d v ?_)
 rw[if_pos ref_no]
 exact wpAny_setField b y (Array.getElem?_eq_some_iff.mp w).1 (hQ _ (n _))
noncomputable def EX(c:FC)(Ξ:Int→Prop)(e:Value)(s:Shared):Prop:=∃o m,Ξ o∧(m=none∨m=some .none∨m=some (rawInt c.fe.locals))∧Fly c m o e s
noncomputable def EXn(c:FC)(Ξ:Int→Prop)(e:Value)(s:Shared):Prop:=∃o,Ξ o∧Fly c (some (rawInt c.fe.locals)) o e s
noncomputable def EXl(c:FC)(Ξ:Int→Prop)(e:Value)(s:Shared):Prop:=∃o,Ξ o∧Fly c (some .none) o e s
theorem noted_ok{Ξ:Int→Prop}{E:Value→Shared→Prop}(ok:c.Ok)(hF:FOk c)(h:EX c Ξ e s)(hE:∀s',EXn c Ξ e s'→E e s'):notedBy M c.A c.fe E e s:=by
 obtain⟨o,m,hx,hm,f⟩:=h
 exact note_ok ok hF hm f fun s' f'=>hE s' ⟨o,hx,f'⟩
theorem back_ok{Ξ:Int→Prop}{E:Value→Shared→Prop}(ok:c.Ok)(hF:FOk c)(h:EXn c Ξ e s)(hE:∀s',EX c Ξ e s'→E e s'):cameBackBy M c.A c.fe E e s:=by
 obtain⟨o,hx,f⟩:=h
 obtain⟨ea,T,oe,vs,oT,ts,rfl,a,d,v,_⟩:=f.opn hF
 unfold cameBackBy
 refine wpAny_bind (wpAny_field a d v ?_)
 rw[if_neg (show¬((Value.ref T==Value.none)=true)from Bool.noConfusion)]
 first
  |(refine wpAny_bind (wpAny_pure ?_);rw[ok.fframe];exact zdn hF f fun s' f'=>hE s' ⟨o,_,hx, .inr (.inr rfl),f'⟩)
  |(rw[ok.fframe];exact zdn hF f fun s' f'=>hE s' ⟨o,_,hx, .inr (.inr rfl),f'⟩)
theorem leave_ok{Ξ:Int→Prop}{Q:Unit→Shared→Prop}(ok:c.Ok)(hF:FOk c)(h:EX c Ξ e s)(hQ:∀s',EXl c Ξ e s'→Q () s'):wpAny M c.A (leaving c.fe e) Q E s:=by
 obtain⟨o,m,hx,hm,f⟩:=h
 unfold leaving
 exact wpAny_bind (note_ok ok hF hm f fun s' f'=>zdn hF f' fun s'' f''=>hQ s'' ⟨o,hx,f''⟩)
theorem zgx:∀P:Params,typeIn (K P) (.ref CErr)=some (.type "type")∧mroIn (K P) CErr (.type "BaseException")=some true:=by
 intro P
 exact⟨by kernel_rfl,by kernel_rfl⟩
theorem raise_stmt{w:World}{A:Around}{x:Sem Value}{env:Env}{Q:Flow→Shared→Prop}(hh:A.handled=none)
  (h:wpAny (model pw w) A x (fun v s₁=>∃ea oe vs,v= .ref ea∧(K w.params).In s₁.heap∧s₁.heap.get? ea=some oe∧oe.cls= .ref CErr∧oe.data= .fields vs∧vs[1]?=some .none∧E v s₁) E s):
  wpAny (model pw w) A (raiseStmt env (some x) none) Q E s:=by
 unfold raiseStmt
 refine wpAny_bind (wpAny_mono h (fun v s₁ h₁=>?_) fun _ _ x=>x)
 obtain⟨ea,oe,vs,rfl,X,he,hc,hd,h1,hE⟩:=h₁
 have hty:typeIn (K w.params) (.ref CErr)=some (.type "type"):=zgx w.params|>.1
 have hmr:mroIn (K w.params) CErr (.type "BaseException")=some true:=(zgx w.params).2
 have L0:Looks (model pw w) s₁.heap (typeOf (.ref ea)) (.ref CErr):=hc▸(Looks.ld he).andThen .now
 have L1:Looks (model pw w) s₁.heap (isType (.ref ea)) false:=(Looks.ld he).andThen (by rw[hd];exact .now)
 have L2:Looks (model pw w) s₁.heap (isExcClass (.ref ea)) false:=L1.andThen .now
 have L3:Looks (model pw w) s₁.heap (isInstance (.ref ea) (.type "BaseException")) true:=L0.andThen (looks_mroIn X hmr)
 have L4:Looks (model pw w) s₁.heap (excFromValue (.ref ea) "exceptions must derive from BaseException") (.ref ea):=L2.andThen (L3.andThen .now)
 have L5:Looks (model pw w) s₁.heap (raisedInstance (.ref ea)) (.ref ea):=L0.andThen ((looks_typeIn X hty).andThen .now)
 refine wpAny_bind (wpAny_pure (wpAny_bind (wpAny_holding (L4.here ?_))))
 refine wpAny_bind (L1.here ?_)
 dsimp only
 rw[if_neg (by decide)]
 refine wpAny_bind (L5.here ?_)
 unfold setFlight
 refine wpAny_bind (wpAny_bind (wpAny_field he hd h1 ?_))
 rw[if_neg (by decide)]
 exact wpAny_pure (wpAny_raiseNew_none hh hE)
end
noncomputable def rdA(v:Value)(x:PyData):Bool:=match x with
 | .int j=>(match v with| .int i _=>i==j|_=>false)
 | .str y=>v.isStr y
 |_=>false
noncomputable def rdKs:List PyData→List Value→Bool
 | [],vs=>vs.isEmpty
 |x::xs,vs=>match vs with
  | []=>false
  |v::vs=>rdA v x&&rdKs xs vs
noncomputable def rdO(xs:List PyData)(o:Obj):Bool:=match o.data with
 | .seq vs _=>o.cls== .type "tuple"&&rdKs xs vs.toList
 |_=>false
noncomputable def rdK(F:Frag)(v:Value)(x:PyData):Bool:=match x with
 | .tuple xs=>(match v with| .ref a=>(F.lookup a).any (rdO xs)|_=>false)
 |_=>rdA v x
theorem rdA_ok{g:G}{v:Value}{x:PyData}(h:rdA v x=true):Rd g v x:=by
 cases x with
 |int j=>cases v with
  |int i t=>exact beq_iff_eq.mp h▸ .int i t
  |_=>exact Bool.noConfusion h
 |str y=>
  obtain⟨t,rfl⟩:=KTD.kt_isStr h
  exact .str y t
 |_=>exact Bool.noConfusion h
theorem rdKs_ok{g:G}{xs:List PyData}:∀{vs:List Value},rdKs xs vs=true→RdAll g vs xs:=by
 induction xs with
 |nil=>intro vs h;exact List.isEmpty_iff.mp h▸ .nil
 |cons x xs ih=>
  intro vs h
  cases vs with
  |nil=>exact Bool.noConfusion h
  |cons v vs=>exact .cons (rdA_ok (Bool.and_eq_true_iff.mp h).1) (ih (Bool.and_eq_true_iff.mp h).2)
theorem rdK_ok{F:Frag}{g:G}(X:∀b o,F.lookup b=some o→g b o){v:Value}{x:PyData}(h:rdK F v x=true):Rd g v x:=by
 cases x with
 |tuple xs=>
  cases v with
  |ref a=>
   obtain⟨o,e,h⟩:=any_some h
   revert h
   unfold rdO
   cases d:o.data with
   |seq vs n=>exact fun h=> .tuple (X _ _ e) (beq_iff_eq.mp (Bool.and_eq_true_iff.mp h).1) d (rdKs_ok (Bool.and_eq_true_iff.mp h).2)
   |_=>exact fun h=>Bool.noConfusion h
  |_=>exact Bool.noConfusion h
 |_=>exact rdA_ok h
noncomputable def globChk(F:Frag)(i:Nat):Bool:=match nsIn F mainGlobals (Str.ofString (gname i))with
 |some (some v)=>match gval i with
  | .d x=>rdK F v x
  | .tab n=>(v== .ref n)&&(n==22||n==249)
  |_=>false
 |_=>false
theorem glob_facts:∀P:Params,((List.range 13).all (globChk (K P)))=true:=by
 intro P;kernel_rfl
noncomputable def fnChk(F:Frag)(f:Nat):Bool:=nsIn F mainGlobals (Str.ofString (fname f))==some (some (.ref (fadr f)))&&keepIn F (.ref (fadr f))
theorem fn_facts:∀P:Params,((List.range 27).all (fnChk (K P)))=true:=by
 intro P;kernel_rfl
noncomputable def ctors:List Addr:=[46,222,267,436]
noncomputable def ctorChk(F:Frag)(C:Addr):Bool:=nsIn F mainGlobals (Str.ofString (cname C))==some (some (.ref C))&&keepIn F (.ref C)&&makesIn F C&&findIn F (.ref C) "__init__"==some (some (.ref (fadr (zdr C))))&&isFn F (.ref (fadr (zdr C)))
theorem ctor_facts:∀P:Params,(ctors.all (ctorChk (K P)))=true:=by
 intro P;kernel_rfl
noncomputable def methChk(F:Frag)(m:Nat):Bool:=plainGet F (mcls m) ""&&findIn F (.ref (mcls m)) (Str.ofString (mname m))==some (some (.ref (fadr (100+m))))&&isFn F (.ref (fadr (100+m)))&&keepIn F (.ref (fadr (100+m)))
theorem meth_facts:∀P:Params,((List.range 29).all (methChk (K P)))=true:=by
 intro P;kernel_rfl
noncomputable def biChk(F:Frag)(b:BI):Bool:=nsIn F mainGlobals (Str.ofString b.name)==some none&&bootBuiltins (Str.ofString b.name)==some b.val&&Str.ofString b.name !="__name__"
theorem bi_facts:∀(P:Params)(b:BI),biChk (K P) b=true:=by
 intro P b;cases b<;>kernel_rfl
theorem zg3:∀P:Params,nsIn (K P) mainGlobals "ActionError"=some (some (.ref CErr)):=by
 intro P;kernel_rfl
theorem err_keep:∀P:Params,keepIn (K P) (.ref CErr)=true:=by
 intro P;kernel_rfl
theorem g_dbg:∀i<13,(Str.ofString (gname i)==("__debug__":Str))=false:=by decide+kernel
theorem f_dbg:∀i<27,(Str.ofString (fname i)==("__debug__":Str))=false:=by decide+kernel
theorem c_dbg:∀C∈ctors,(Str.ofString (cname C)==("__debug__":Str))=false:=by decide+kernel
theorem bname_dbg(b:BI):(Str.ofString b.name==("__debug__":Str))=false:=by cases b<;>decide+kernel
noncomputable def Xs.len:Xs→Nat
 | .nil=>0
 | .cons _ r=>r.len+1
noncomputable def Xs.ne:Xs→Bool
 | .nil=>false
 | .cons _ _=>true
noncomputable def zff:X→Bool
 | .call _ l _ _=>l.ne
 | .ctor _ l _ _=>l.ne
 | .bi _ l _ _=>l.ne
 | .frz _ _=>false
 |_=>true
noncomputable def gl(sc:Scope)(x:String):Bool:=sc.names.lookup (Str.ofString x)==some .globalImplicit
noncomputable def noGen(sc:Scope):Bool:=sc.kind== .function
noncomputable def apart:List Str→Bool
 | []=>true
 |x::r=>!r.contains x&&apart r
noncomputable def zfg(sc sc':Scope)(i:Nat)(cap:List Nat):Bool:=
 (sc'.names.lookup (nm i)==some .local)&&(Nat.blt i nms.length&&(sc'.names.all (fun x=>x.2== .local||(x.2== .globalImplicit||x.2== .free))&&
 (sc'.names.all (fun x=>!(x.2== .local)||sc'.names.lookup x.1==some .local)&&(cap.all (fun j=>!(Nat.beq j i)&&(sc'.names.lookup (nm j)==some .free&&sc.names.lookup (nm j)==some .cell))&&
 (sc'.names.all (fun x=>!(x.2== .free)||sc.names.lookup x.1==some .cell)&&apart (sc'.names.map (·.1)))))))
mutual
noncomputable def zan:X→Bool
 | .comp _ _ _ _ _ _ _=>false
 | .attr e _ _=>zan e
 | .bin _ a b _=>zan a&&zan b
 | .cmp _ a b _=>zan a&&zan b
 | .and l _=>zaz l
 | .or l _=>zaz l
 | .not a _=>zan a
 | .ite a b c _=>zan a&&(zan b&&zan c)
 | .sub a b _=>zan a&&zan b
 | .sl a b c _ _=>zan a&&(zan b&&zan c)
 | .slTo a b _ _=>zan a&&zan b
 | .slFrom a b _ _=>zan a&&zan b
 | .tup l _=>zaz l
 | .list l _=>zaz l
 | .listM l _=>zaz l
 | .opsGet a b _ _ _ _ _ _ _=>zan a&&zan b
 | .call _ l _ _=>zaz l
 | .ctor _ l _ _=>zaz l
 | .err a b _ _=>zan a&&zan b
 | .meth o _ l _ _=>zan o&&zaz l
 | .bi _ l _ _=>zaz l
 | .sm o _ l _ _=>zan o&&zaz l
 | .frz _ e=>zan e
 | .loc _ _=>true
 | .const _ _=>true
 | .glob _ _=>true
 | .cmp2 _ _ _ _ _ _=>true
noncomputable def zaz:Xs→Bool
 | .nil=>true
 | .cons x r=>zan x&&zaz r
end
mutual
noncomputable def chk(fz:Option Nat)(sc:Scope):X→Bool
 | .loc _ _=>true
 | .const c _=>match c with
  | .none=>true
  | .bool _=>true
  | .int _=>true
  | .str _=>true
  |_=>false
 | .glob i _=>Nat.blt i 13&&gl sc (gname i)
 | .attr e _ _=>zff e&&chk fz sc e
 | .bin _ a b _=>chk fz sc a&&chk fz sc b
 | .cmp _ a b _=>chk fz sc a&&chk fz sc b
 | .cmp2 _ _ _ _ _ _=>false
 | .and l _=>chks fz sc l
 | .or l _=>chks fz sc l
 | .not a _=>chk fz sc a
 | .ite a b c _=>chk fz sc a&&(chk fz sc b&&chk fz sc c)
 | .sub a b _=>chk fz sc a&&chk fz sc b
 | .sl a b c _ _=>chk fz sc a&&(chk fz sc b&&chk fz sc c)
 | .slTo a b _ _=>chk fz sc a&&chk fz sc b
 | .slFrom a b _ _=>chk fz sc a&&chk fz sc b
 | .tup l _=>chks fz sc l&&Nat.blt l.len 25
 | .list l _=>chks fz sc l&&Nat.blt l.len 25
 | .listM l _=>chks fz sc l&&Nat.blt l.len 25
 | .opsGet a b _ _ _ _ _ pa p=>chk fz sc a&&(chk fz sc b&&pa.endLine==p.line)
 | .call f l _ _=>Nat.blt f 27&&(gl sc (fname f)&&chks fz sc l)
 | .ctor c l _ _=>ctors.contains c&&(gl sc (cname c)&&chks fz sc l)
 | .err a b _ _=>gl sc "ActionError"&&(chk fz sc a&&chk fz sc b)
 | .meth o m l pa p=>zff o&&(Nat.blt m 29&&(chk fz sc o&&(chks fz sc l&&(pa.endLine==p.line&&Nat.blt l.len 25))))
 | .bi b l _ _=>gl sc b.name&&chks fz sc l
 | .sm o _ l pa p=>zff o&&(chk fz sc o&&(chks fz sc l&&(pa.endLine==p.line&&Nat.blt l.len 25)))
 | .comp elt i _ it cap sc' _=>noGen sc'&&(chk fz sc it&&(chk none sc' elt&&(zan elt&&(zfg sc sc' i cap))))
 | .frz n e=>fz.any (fun m=>Nat.ble m n)&&chk fz sc e
noncomputable def chks(fz:Option Nat)(sc:Scope):Xs→Bool
 | .nil=>true
 | .cons x r=>chk fz sc x&&chks fz sc r
end
section
variable{M:Model}{w:World}{A:Around}{E:Value→Shared→Prop}{c:FC}{σ:St}{k:Cs}{env:Env}
theorem Post.el{Ψ:AV→St→Prop}{Q:Shared→Prop}{v s}(h:Post c k Ψ v s)(f:∀a σ' k',Ψ a σ'→Nx k k'→Rel c σ' k'→VR k'.g k'.r a v→Q k'.s):Q s:=by
 obtain⟨a,σ',k',rfl,p,x,R,r⟩:=h
 exact f a σ' k' p x R r
theorem Post.use{t:Sem Value}{Ψ:AV→St→Prop}{Q:Value→Shared→Prop}(h:wpAny M A t (Post c k Ψ) E k.s)(f:∀a σ' k' v,Ψ a σ'→Nx k k'→Rel c σ' k'→VR k'.g k'.r a v→Q v k'.s):wpAny M A t Q E k.s:=
 wpAny_mono h (fun v _ h=>h.el fun a σ' k' p x R r=>f a σ' k' v p x R r) fun _ _ e=>e
theorem Post.ext{k':Cs}{Φ:AV→St→Prop}(x:Nx k k'){v s}(h:Post c k' Φ v s):Post c k Φ v s:=h.el fun a σ' k'' p y R r=>⟨a,σ',k'',rfl,p,x.trans y,R,r⟩
theorem Post.wp{t:Sem Value}{k':Cs}{Φ:AV→St→Prop}{s:Shared}(x:Nx k k')(h:wpAny M A t (Post c k' Φ) E s):wpAny M A t (Post c k Φ) E s:=wpAny_mono h (fun _ _ q=>q.ext x) fun _ _ e=>e
inductive PostS(c:FC)(k:Cs)(n:Nat)(Ψ:List AV→St→Prop)(vs:List Value)(s':Shared):Prop
 |mk (as:List AV) (σ':St) (k':Cs) (e:k'.s=s') (p:Ψ as σ') (x:Nx k k') (R:Rel c σ' k') (h:VRs k'.g k'.r as vs) (l:as.length=n)
theorem PostS.use{t:Sem (List Value)}{n:Nat}{Ψ:List AV→St→Prop}{Q:List Value→Shared→Prop}(h:wpAny M A t (PostS c k n Ψ) E k.s)(f:∀as σ' k' vs,Ψ as σ'→Nx k k'→Rel c σ' k'→VRs k'.g k'.r as vs→as.length=n→Q vs k'.s):wpAny M A t Q E k.s:=
 wpAny_mono h (fun v _ h=>by obtain⟨a,σ',k',rfl,p,x,R,r,l⟩:=h;exact f a σ' k' v p x R r l) fun _ _ e=>e
inductive PostB(c:FC)(k:Cs)(Φ:Bool→St→Prop)(b:Bool)(s':Shared):Prop
 |mk (σ':St) (k':Cs) (e:k'.s=s') (p:Φ b σ') (x:Nx k k') (R:Rel c σ' k')
theorem PostB.el{Ψ:Bool→St→Prop}{Q:Shared→Prop}{v s}(h:PostB c k Ψ v s)(f:∀σ' k',Ψ v σ'→Nx k k'→Rel c σ' k'→Q k'.s):Q s:=by
 obtain⟨σ',k',rfl,p,x,R⟩:=h
 exact f σ' k' p x R
theorem PostB.use{t:Sem Bool}{Ψ:Bool→St→Prop}{Q:Bool→Shared→Prop}(h:wpAny M A t (PostB c k Ψ) E k.s)(f:∀b σ' k',Ψ b σ'→Nx k k'→Rel c σ' k'→Q b k'.s):wpAny M A t Q E k.s:=
 wpAny_mono h (fun v _ h=>h.el fun σ' k' p x R=>f v σ' k' p x R) fun _ _ e=>e
theorem PostB.ext{k':Cs}{Φ:Bool→St→Prop}(x:Nx k k'){v s}(h:PostB c k' Φ v s):PostB c k Φ v s:=h.el fun σ' k'' p y R=>⟨σ',k'',rfl,p,x.trans y,R⟩
theorem PostB.wp{t:Sem Bool}{k':Cs}{Φ:Bool→St→Prop}{s:Shared}(x:Nx k k')(h:wpAny M A t (PostB c k' Φ) E s):wpAny M A t (PostB c k Φ) E s:=wpAny_mono h (fun _ _ q=>q.ext x) fun _ _ e=>e
structure Calls1(C:CS)(c:FC):Prop where
 fn:∀{f:Nat}{as vs σ k Φ Ξ},c.Ok→Rel c σ k→VRs k.g k.r as vs→acall C f as σ Φ Ξ→wpAny (model pw c.w) c.A (call (.ref (fadr f)) vs) (Post c k Φ) (EX c Ξ) k.s
 ctor:∀{cl:Addr}{as vs σ k Φ Ξ},ctors.contains cl=true→c.Ok→Rel c σ k→VRs k.g k.r as vs→actor C cl as σ Φ Ξ→wpAny (model pw c.w) c.A (call (.ref cl) vs) (Post c k Φ) (EX c Ξ) k.s
 err:∀{x:Str}{fs:List (Nat×PyData)}{o:Int}{v1 v2:Value}{σ k}{Ξ:Int→Prop},c.Ok→Rel c σ k→Rd k.g v1 (.str x)→FI k.g CPos fs v2→fs.lookup 2=some (.int o)→
  wpAny (model pw c.w) c.A (call (.ref CErr) [v1,v2]) (fun v s'=>Post c k (fun a σ'=>a= .err o∧σ'=σ) v s'∧∃ea,v= .ref ea∧k.s.heap.get? ea=none) (EX c Ξ) k.s
 refuse:∀{as vs σ k}{Ξ:Int→Prop},c.Ok→Rel c σ k→VRs k.g k.r as vs→acall C 4 as σ (fun a _=>onErr a Ξ) Ξ→wpAny (model pw c.w) c.A (call (.ref (fadr 4)) vs) (fun v s'=>∃o k' ea,Ξ o∧k'.s=s'∧v= .ref ea∧(∃σ',Rel c σ' k')∧ErrR k'.g o v∧k.s.heap.get? ea=none) (EX c Ξ) k.s
noncomputable def zbe(C:CS)(c:FC):Prop:=∀c':FC,c'.A=c.A→c'.w=c.w→Calls1 C c'
structure PyOk(e:Expr):Prop where
 star:∀env r,starEach (e::r) env=(false,eval e env)::starEach r env
 sub:SubE e
 marks:∀op,behindInMarks op e=false
 fold:∀env v,foldedSetIterable e env v=pure v
theorem pyOk(x:X):PyOk x.py:=by
 induction x using X.rec (motive_2:=fun _=>True)<;>first|exact⟨fun _ _=>rfl,fun _ _=>rfl,fun _=>rfl,fun _ _=>rfl⟩|assumption|trivial
theorem zap(x:X)(r:List Expr):starEach (x.py::r) env=(false,eval x.py env)::starEach r env:=(pyOk x).star env r
theorem base_py{x:X}(h:zff x=true)(attr:Str)(whole:Sem Value):attributeBase x.py attr env whole=whole:=by
 revert h
 cases x with
 |call f l _ _=>cases l<;>first|exact fun h=>Bool.noConfusion h|exact fun _=>rfl
 |ctor f l _ _=>cases l<;>first|exact fun h=>Bool.noConfusion h|exact fun _=>rfl
 |bi f l _ _=>cases l<;>first|exact fun h=>Bool.noConfusion h|exact fun _=>rfl
 |frz _ _=>exact fun h=>Bool.noConfusion h
 |_=>exact fun _=>rfl
@[elab_as_elim] theorem Xs.ind{P:Xs→Prop}(n:P .nil)(k:∀x r,P r→P (.cons x r))(l:Xs):P l:=by
 induction l using Xs.rec (motive_1:=fun _=>True)<;>first|exact n|exact k _ _ ‹_› |trivial
theorem noStar{pos:Pos}(l:Xs):(backTo pos (starEach l.py env)).any (·.1)=false:=
 l.ind rfl fun x r ih=>by
  show(backTo pos (starEach (x.py::r.py) env)).any (·.1)=false
  rw[zap]
  exact ih
theorem zas{pos:Pos}{x:X}{r:Xs}{s:Shared}{Q:List Value→Shared→Prop}(h:wpAny M A (eval x.py env) (fun v s₁=>wpAny M A (spliced (backTo pos (starEach r.py env))) (fun vs s₂=>Q (v::vs) s₂) E s₁) E s):
  wpAny M A (spliced (backTo pos (starEach (Xs.cons x r).py env))) Q E s:=spliced_more h (zap x r.py)
theorem zb8{x:Str}{v:Value}{p:Pos}{Q:Value→Shared→Prop}(ok:c.Ok)(R:Rel c σ k)(e:nsIn (K c.w.params) mainGlobals x=some (some v))(hk:c.env.kindOf x=some .globalImplicit)(hd:(x==("__debug__":Str))=false)(q:Q v k.s):
  wpAny M c.A (eval (.Name x p) c.env) Q E k.s:=by
 obtain⟨mg,mb,T⟩:=R.top ok
 exact Calls.Name_function_global ok.kind hk (Calls.loadGlobal_global (by rw[ok.glob];exact T.g) (mg_of (R.kin ok) T.g e) q) hd
theorem bi_name{x:Str}{v:Value}{p:Pos}{Q:Value→Shared→Prop}(ok:c.Ok)(R:Rel c σ k)(e:nsIn (K c.w.params) mainGlobals x=some none)(hv:bootBuiltins x=some v)(hn:x≠"__name__")(hk:c.env.kindOf x=some .globalImplicit)(hd:(x==("__debug__":Str))=false)(q:Q v k.s):
  wpAny M c.A (eval (.Name x p) c.env) Q E k.s:=by
 obtain⟨mg,mb,T⟩:=R.top ok
 exact Calls.Name_function_global ok.kind hk (Calls.loadGlobal_builtin (by rw[ok.glob];exact T.g) (mg_none_of (R.kin ok) T.g e) (by rw[ok.blt];exact T.b) ((T.builtins x hn).trans hv) q) hd
theorem zeg{sc:Scope}{x:String}(h:gl sc x=true):sc.names.lookup (Str.ofString x)=some .globalImplicit:=by unfold gl at h;simpa using h
theorem za5{P:Params}{f:Value}{first:List Value}{pos:Pos}{n:Nat}{Ψ:List AV→St→Prop}{Q:Value→Shared→Prop}{l:Xs}(ok:c.Ok)(R:Rel c σ k)(hf:(∃id,f= .builtin id)∨(∃T,f= .type T)∨keepIn (K c.w.params) f=true)
  (hnil:l= .nil→Ψ [] σ)
  (h:wpAny M c.A (spliced (backTo pos (starEach l.py c.env))) (PostS c k n Ψ) E k.s)
  (q:∀as σ' k' vs,Ψ as σ'→Nx k k'→Rel c σ' k'→VRs k'.g k'.r as vs→wpAny M c.A (call f (first++vs)) Q E k'.s):
  wpAny M c.A (callWith pos f first (backTo pos (starEach l.py c.env)) []) Q E k.s:=by
 cases l with
 |nil=>
  have h0:=q [] σ k [] (hnil rfl) (Nx.refl k) R .nil
  rcases hf with⟨id,rfl⟩|⟨T,rfl⟩|hf
  ·exact callWith_method0 (by simpa using h0)
  ·exact PySem.callWith_type rfl (evalArgs_nil3 h0)
  ·exact callWith_K0 (R.kin ok) hf h0
 |cons x r=>
  have h1:wpAny M c.A (spliced (backTo pos (starEach (x.py::r.py) c.env))) (fun vs s₁=>(K c.w.params).In s₁.heap∧wpAny M c.A (call f (first++vs)) Q E s₁) E k.s:=
   PostS.use h fun as σ' k' vs p x R' hv _=>⟨R'.kin ok,q as σ' k' vs p x R' hv⟩
  rcases hf with⟨id,rfl⟩|⟨T,rfl⟩|hf
  ·exact callWith_method1 (wpAny_mono h1 (fun _ _ q=>q.2) fun _ _ e=>e) (zap x r.py) (noStar r)
  ·have e:=zap (env:=c.env) x r.py
   show wpAny M c.A (callWith pos (.type T) first (backTo pos (starEach (x.py::r.py) c.env)) []) Q E k.s
   rw[e]at h1 ⊢
   exact PySem.callWith_type (by show(false||_)=false;rw[Bool.false_or];exact noStar r) (Calls.evalArgs_plain (wpAny_mono h1 (fun _ _ q=>q.2) fun _ _ e=>e))
  ·exact callWith_K (R.kin ok) hf h1 (zap x r.py) (noStar r)
end
theorem and2{a b:Bool}(h:(a&&b)=true):a=true∧b=true:=Bool.and_eq_true_iff.mp h
theorem lt_mem{i n:Nat}(h:Nat.blt i n=true):i∈List.range n:=List.mem_range.mpr (Nat.le_of_ble_eq_true h)
theorem gname_dbg{i:Nat}(h:Nat.blt i 13=true):(Str.ofString (gname i)==("__debug__":Str))=false:=g_dbg i (Nat.le_of_ble_eq_true h)
theorem zho{i:Nat}(h:Nat.blt i 27=true):(Str.ofString (fname i)==("__debug__":Str))=false:=f_dbg i (Nat.le_of_ble_eq_true h)
theorem cname_dbg{C:Addr}(h:ctors.contains C=true):(Str.ofString (cname C)==("__debug__":Str))=false:=c_dbg C (List.contains_iff_mem.mp h)
section
variable{w:World}{E:Value→Shared→Prop}{c:FC}{σ:St}{k:Cs}
theorem gval_ok(ok:c.Ok)(R:Rel c σ k){i:Nat}(h:Nat.blt i 13=true):∃v,nsIn (K c.w.params) mainGlobals (Str.ofString (gname i))=some (some v)∧VR k.g k.r (gval i) v:=by
 have h:=List.all_eq_true.mp (glob_facts c.w.params) _ (lt_mem h)
 have X:∀b o,(K c.w.params).lookup b=some o→k.g b o:=fun b o e=>R.base ok b o (ok.kin b o e)
 revert h
 unfold globChk
 cases nsIn (K c.w.params) mainGlobals (Str.ofString (gname i))with
 |none=>exact fun h=>Bool.noConfusion h
 |some v=>cases v with
  |none=>exact fun h=>Bool.noConfusion h
  |some v=>cases gval i with
   |d x=>exact fun h=>⟨v,rfl,rdK_ok X h⟩
   |tab n=>exact fun h=>⟨v,rfl,beq_iff_eq.mp (and2 h).1,(Bool.or_eq_true_iff.mp (and2 h).2).imp beq_iff_eq.mp beq_iff_eq.mp⟩
   |_=>exact fun h=>Bool.noConfusion h
theorem allD_ok{g:G}{r}{as:List AV}{vs:List Value}(h:VRs g r as vs):∀{xs},allD as=some xs→RdAll g vs xs:=by
 induction h with
 |nil=>exact fun e=>Option.some.inj e▸ .nil
 | @cons a l v vs x _ ih=>
  intro xs e
  cases a with
  |d q=>
   obtain⟨xs',e3,rfl⟩:=Option.map_eq_some_iff.mp e
   exact .cons x (ih e3)
  |_=>exact nS e
theorem allF_ok{g:G}{r}{as:List AV}{vs:List Value}(h:VRs g r as vs):∀{fl},allF as=some fl→FIAll g fl vs:=by
 induction h with
 |nil=>exact fun e=>Option.some.inj e▸ .nil
 | @cons a l v vs x _ ih=>
  intro xs e
  cases a with
  |fi C fs=>
   obtain⟨xs',e3,rfl⟩:=Option.map_eq_some_iff.mp e
   exact .cons x (ih e3)
  |_=>exact nS e
theorem zfv{as:List AV}:za1 as=[]→∀a∈as,AV.plain a=true:=by
 induction as with
 |nil=>exact fun _ _ h=>nomatch h
 |cons a r ih=>
  intro e
  cases a with
  |ref i=>exact nomatch e
  |_=>exact List.forall_mem_cons.mpr ⟨rfl,ih e⟩
theorem zgv(R:Rel c σ k){ob:Obj}:¬k.Z k.s.heap.objs.size:=fun z=>by
 obtain⟨o,e⟩:=R.zx _ z
 exact absurd (Heap.lt_size e) (Nat.lt_irrefl _)
theorem zbc(h:Heap):h.get? h.objs.size=none:=Heap.get?_none_of_le (Nat.le_refl _)
theorem list_push{Φ:AV→St→Prop}(ok:c.Ok)(R:Rel c σ k){as:List AV}{vs:List Value}(hv:VRs k.g k.r as vs)(hp:∀a∈as,AV.plain a=true)(h:Φ (.ref σ.obj.length) {σ with obj:=σ.obj++[.list as]}):
  Post c k Φ (.ref k.s.heap.objs.size) {k.s with heap:=k.s.heap.push {cls:= .type "list",data:= .seq vs.toArray}}:=by
 have x:=Grow.push k {cls:= .type "list",data:= .seq vs.toArray}
 have hd:=zbc k.s.heap
 have nx:=Cs.add_nx (p:=(k.s.heap.objs.size,k.s.heap.objs.size)) x hd k.s.toks
 have hg:=Heap.get?_push_size k.s.heap (o:={cls:= .type "list",data:= .seq vs.toArray}) rfl
 refine⟨_,_,k.add (k.s.heap.objs.size,k.s.heap.objs.size) (k.s.heap.push {cls:= .type "list",data:= .seq vs.toArray}) k.s.toks,rfl,h,nx,R.newObj ok x hd ⟨_,hg⟩ ⟨.inr rfl,rfl,_,_,hg,nx.vrs hv,hp⟩,(k.s.heap.objs.size,k.s.heap.objs.size),R.objn▸List.getElem?_concat_length,rfl⟩
theorem freeze_ok{Φ:AV→St→Prop}(ok:c.Ok)(R:Rel c σ k){i:Nat}{l:List AV}{a:AV}{v:Value}(e:σ.obj[i]?=some (.list l))(hn:c.n0≤i)(hv:VR k.g k.r (.ref i) v)(hf:zca l=some a)(h:Φ a {σ with obj:=σ.obj.set i .dead}):Post c k Φ v k.s:=
 R.elL (f:=fun m=>m=l) hv e rfl fun b l' vs n hi _ _ q hz h1 h2 h3=>by
  subst q
  have nx:=k.drop_nx b
  have hg:(k.drop b).g b {cls:= .type "list",dict:=none,data:= .seq vs n,slots:=#[]}:=⟨h1,fun z=>z.2 rfl⟩
  refine⟨a,_,k.drop b,rfl,h,nx,R.freeze ok hi hz hn,?_⟩
  revert hf
  unfold zca
  cases ex:allD l' with
  |some xs=>exact fun hf=>Option.some.inj hf▸ .list hg rfl rfl (allD_ok (nx.vrs h2) ex)
  |none=>
   intro hf
   obtain⟨fl,e1,rfl⟩:=Option.map_eq_some_iff.mp hf
   exact⟨b,_,vs,n,rfl,hg,rfl,rfl,allF_ok (nx.vrs h2) e1⟩
end
theorem starAll{pos:Pos}{env:Env}(l:Xs):(backTo pos (starEach l.py env)).all (fun x=>!x.1)=true:=
 l.ind rfl fun x r ih=>by
  show(backTo pos (starEach (x.py::r.py) env)).all _=true
  rw[zap]
  exact ih
theorem py_len(l:Xs):l.py.length=l.len:=l.ind rfl fun _ _ ih=>congrArg (· +1) ih
theorem zfa{o:Expr}{name:Str}{apos pos:Pos}{l:Xs}{env:Env}(hb:∀attr whole,attributeBase o attr env whole=whole)(hp:(apos.endLine==pos.line)=true)(hl:Nat.blt l.len 25=true):
  eval (.Call (.Attribute o name apos) l.py [] pos) env=(do
   let ov←eval o env
   standAt apos.atName
   let(f,first)←holding [ov] (getMethod ov name (do return (←importBound o env).getD true))
   callWith pos f first (backTo pos (starEach l.py env)) []):=by
 have hl':l.len<25:=Nat.le_of_ble_eq_true hl
 have hf:methodCallForm (l.py.length+([]:List Keyword).length) (backTo pos (starEach l.py env)) (backToKw pos (keywordEach [] env))=true:=by
  have e:backToKw pos (keywordEach [] env)=[]:=rfl
  unfold methodCallForm
  rw[starAll l,py_len l,e]
  simpa using Nat.lt_trans hl' (by decide)
 rw[arm_eval_Call,hb]
 congr 1
 funext ov
 unfold methodCall
 rw[hf]
 unfold calleeOf methodCallPos
 rw[hp]
 rfl
section
variable{w:World}{E:Value→Shared→Prop}{c:FC}{σ:St}{k:Cs}
theorem tup_ok{Φ:AV→St→Prop}{isT:Bool}(ok:c.Ok)(R:Rel c σ k){as:List AV}{vs:List Value}{xs:List PyData}(hv:VRs k.g k.r as vs)(he:allD as=some xs)(h:Φ (.d (if isT then .tuple xs else .list xs)) σ):
  Post c k Φ (.ref k.s.heap.objs.size) {k.s with heap:=k.s.heap.push {cls:= .type (if isT then "tuple" else "list"),data:= .seq vs.toArray}}:=by
 have x:=Grow.push k {cls:= .type (if isT then "tuple" else "list"),data:= .seq vs.toArray}
 have hg:=Heap.get?_push_size k.s.heap (o:={cls:= .type (if isT then "tuple" else "list"),data:= .seq vs.toArray}) rfl
 have hz:=zgv R (ob:=default)
 refine Out.grow R Post.out h x k.s.toks ?_
 have hx:=(allD_ok hv he).mono (x.nx k.s.toks).g
 cases isT with
 |true=>exact Rd.tuple (n:=0) ⟨hg,hz⟩ rfl rfl hx
 |false=>exact Rd.list (n:=0) ⟨hg,hz⟩ rfl rfl hx
theorem call_case{C:CS}{f:Nat}{l:Xs}{pn p:Pos}{Φ:AV→St→Prop}{Ξ:Int→Prop}(HC:zbe C c)(ok:c.Ok)(R:Rel c σ k)(hf:Nat.blt f 27=true)(hg:gl c.env.scope (fname f)=true)
  (h:awps C l σ (fun as σ'=>acall C f as σ' Φ Ξ) Ξ)(ih:∀pos,wpAny (model pw c.w) c.A (spliced (backTo pos (starEach l.py c.env))) (PostS c k l.len (fun as σ'=>acall C f as σ' Φ Ξ)) (EX c Ξ) k.s):
  wpAny (model pw c.w) c.A (eval (X.call f l pn p).py c.env) (Post c k Φ) (EX c Ξ) k.s:=by
 have hfact:=List.all_eq_true.mp (fn_facts c.w.params) _ (lt_mem hf)
 obtain⟨h1,h2⟩:=and2 hfact
 refine wpAny_Call_ofName (zb8 ok R (beq_iff_eq.mp h1) (zeg hg) (zho hf) ?_)
 exact za5 (P:=c.w.params) ok R (.inr (.inr h2)) (fun e=>by subst e;exact h) (ih p) fun as σ' k' vs q x R' hv=>Post.wp x ((HC c rfl rfl).fn ok R' hv q)
theorem ctor_case{C:CS}{cl:Addr}{l:Xs}{pn p:Pos}{Φ:AV→St→Prop}{Ξ:Int→Prop}(HC:zbe C c)(ok:c.Ok)(R:Rel c σ k)(hf:ctors.contains cl=true)(hg:gl c.env.scope (cname cl)=true)
  (h:awps C l σ (fun as σ'=>actor C cl as σ' Φ Ξ) Ξ)(ih:∀pos,wpAny (model pw c.w) c.A (spliced (backTo pos (starEach l.py c.env))) (PostS c k l.len (fun as σ'=>actor C cl as σ' Φ Ξ)) (EX c Ξ) k.s):
  wpAny (model pw c.w) c.A (eval (X.ctor cl l pn p).py c.env) (Post c k Φ) (EX c Ξ) k.s:=by
 have h:=and2 (and2 (and2 (and2 (List.all_eq_true.mp (ctor_facts c.w.params) cl (List.contains_iff_mem.mp hf))).1).1).1
 have h2:=h.2
 refine wpAny_Call_ofName (zb8 ok R (beq_iff_eq.mp h.1) (zeg hg) (cname_dbg hf) ?_)
 exact za5 (P:=c.w.params) ok R (.inr (.inr h2)) (fun e=>by subst e;exact h) (ih p) fun as σ' k' vs q x R' hv=>Post.wp x ((HC c rfl rfl).ctor hf ok R' hv q)
theorem bi_case{C:CS}{b:BI}{l:Xs}{pn p:Pos}{Φ:AV→St→Prop}{Ξ:Int→Prop}(ok:c.Ok)(R:Rel c σ k)(hg:gl c.env.scope b.name=true)
  (h:awps C l σ (fun as σ'=>abi b as fun z=>Φ z σ') Ξ)(ih:∀pos,wpAny (model pw c.w) c.A (spliced (backTo pos (starEach l.py c.env))) (PostS c k l.len (fun as σ'=>abi b as fun z=>Φ z σ')) (EX c Ξ) k.s):
  wpAny (model pw c.w) c.A (eval (X.bi b l pn p).py c.env) (Post c k Φ) (EX c Ξ) k.s:=by
 have h1:=and2 (bi_facts c.w.params b)
 have h2:=and2 h1.1
 refine wpAny_Call_ofName (bi_name ok R (beq_iff_eq.mp h2.1) (beq_iff_eq.mp h2.2) (bne_iff_ne.mp h1.2) (zeg hg) (bname_dbg b) ?_)
 refine za5 (P:=c.w.params) ok R ?_ (fun e=>by subst e;exact h) (ih p) fun as σ' k' vs q x R' hv=>Post.wp x (bi_ok ok R' q hv Post.out)
 cases b<;>first|exact .inl ⟨_,rfl⟩|exact .inr (.inl ⟨_,rfl⟩)
theorem sm_case{C:CS}{o:X}{m:SM}{l:Xs}{pa p:Pos}{Φ:AV→St→Prop}{Ξ:Int→Prop}(ok:c.Ok)(R:Rel c σ k)(hb:zff o=true)(hp:(pa.endLine==p.line)=true)(hl:Nat.blt l.len 25=true)
  (ho:wpAny (model pw c.w) c.A (eval o.py c.env) (Post c k (fun x σ'=>onB (smPre m x σ') (awps C l σ' (fun as σ''=>asm m x as σ'' Φ) Ξ))) (EX c Ξ) k.s)
  (ih:∀σ k Ψ pos,Rel c σ k→awps C l σ Ψ Ξ→wpAny (model pw c.w) c.A (spliced (backTo pos (starEach l.py c.env))) (PostS c k l.len Ψ) (EX c Ξ) k.s):
  wpAny (model pw c.w) c.A (eval (X.sm o m l pa p).py c.env) (Post c k Φ) (EX c Ξ) k.s:=by
 refine MethodCall_ ?_ (zfa (base_py hb) hp hl)
 refine Post.use ho fun x σ' k' v q nx R' hv=>?_
 refine onB.el q fun hs q=>sm_get (M:=model pw c.w) ok R' hs hv (za5 (P:=c.w.params) (first:=[v]) ok R' (.inl (by cases m<;>exact⟨_,rfl⟩)) (fun e=>?_) (ih σ' k' _ p R' q) fun as σ'' k'' vs q' x' R'' hv'=>Post.wp (nx.trans x') (sm_call ok R'' q' (x'.vr hv) hv'))
 subst e;exact q
theorem nofield:∀m,m<29→∀f,okF (mcls m) f=true→nm f≠Str.ofString (mname m):=by
 intro m hm f hf
 have key:∀p∈zdk,∀m∈List.range 29,p.1=mcls m→nm p.2≠Str.ofString (mname m):=by decide+kernel
 exact key _ (okF_mem hf) m (List.mem_range.mpr hm) rfl
theorem clsOf.inv{x:AV}{C:Addr}(h:clsOf σ x=some C):∃i fs,x= .ref i∧σ.obj[i]?=some (.inst C fs):=by
 cases x with
 |ref i=>
  revert h
  show(match σ.obj[i]? with|some (.inst C' _)=>some C'|_=>none)=some C→_
  cases e:σ.obj[i]? with
  |none=>exact fun h=>nS h
  |some o=>cases o with
   |inst C' fs=>exact fun h=>⟨i,fs,rfl,Option.some.inj h▸e⟩
   |_=>exact fun h=>nS h
 |_=>exact nS h
theorem ERel.okF{g:G}{r}{C:Addr}{fs es}(h:ERel g r C fs es):∀p∈fs,okF C p.1=true:=by
 induction h with
 |nil=>exact fun _ h=>nomatch h
 |cons x _ _ _ ih=>exact List.forall_mem_cons.mpr ⟨x.1,ih⟩
theorem meth_case{C:CS}{o:X}{m:Nat}{l:Xs}{pa p:Pos}{Φ:AV→St→Prop}{Ξ:Int→Prop}(HC:zbe C c)(ok:c.Ok)(R:Rel c σ k)(hb:zff o=true)(hm:Nat.blt m 29=true)(hp:(pa.endLine==p.line)=true)(hl:Nat.blt l.len 25=true)
  (ho:wpAny (model pw c.w) c.A (eval o.py c.env) (Post c k (fun x σ'=>onS (clsOf σ' x) fun c=>onB (Nat.beq c (mcls m)) (awps C l σ' (fun as σ''=>match za1 as with
    | []=>acall C (100+m) (x::as) σ'' Φ Ξ
    |_::_=>False) Ξ))) (EX c Ξ) k.s)
  (ih:∀σ k Ψ pos,Rel c σ k→awps C l σ Ψ Ξ→wpAny (model pw c.w) c.A (spliced (backTo pos (starEach l.py c.env))) (PostS c k l.len Ψ) (EX c Ξ) k.s):
  wpAny (model pw c.w) c.A (eval (X.meth o m l pa p).py c.env) (Post c k Φ) (EX c Ξ) k.s:=by
 have h1:=and2 (List.all_eq_true.mp (meth_facts c.w.params) _ (lt_mem hm))
 have h2:=and2 h1.1
 have h3:=and2 h2.1
 refine MethodCall_ ?_ (zfa (base_py hb) hp hl)
 refine Post.use ho fun x σ' k' v q nx R' hv=>onS.el q fun C' hs q1=>onB.el q1 fun hc q2=>?_
 obtain rfl:=Nat.eq_of_beq_eq_true hc
 obtain⟨i,fs,rfl,e0⟩:=clsOf.inv hs
 obtain⟨pp,hpp,rfl⟩:=id hv
 obtain⟨p',hp',hO⟩:=R'.obj _ _ e0
 cases hpp.symm.trans hp'
 obtain⟨z,sl,g1,es,n,d1,d2⟩:=hO
 have hg:=plainGet_of (name:="") h3.1
 refine method_fn (R'.kin ok) (ox:=⟨.ref (mcls m),some pp.2, .plain,sl⟩) (od:=some (dictOf es n)) ⟨g1.1,rfl,rfl,d1⟩ hg.1 hg.2 (beq_iff_eq.mp h3.2) (by simpa [isFn]using h2.2) ?_ ?_
 ·show((lookIn _ (dictOf es n)).map (·.isSome))=some false
  rw[lookIn_dict,d2.none fun p hp=>nofield m (Nat.le_of_ble_eq_true hm) _ (d2.okF p hp)];rfl
 ·refine za5 (P:=c.w.params) (first:=[.ref pp.1]) ok R' (.inr (.inr h1.2)) (fun e=>by subst e;exact q2) (ih σ' k' _ p R' q2) fun as σ'' k'' vs q' x' R'' hv'=>?_
  revert q'
  cases za1 as with
  |nil=>exact fun q'=>Post.wp (nx.trans x') ((HC c rfl rfl).fn (f:=100+m) ok R'' (.cons (x'.vr hv) hv') q')
  |cons=>exact False.elim
end
noncomputable def opsTab:List (Str×KTD.Dat):=[(Str.ofString "either", .flat (.str (Str.ofString "||"))),(Str.ofString "both", .flat (.str (Str.ofString "&&")))]
inductive All2{α β:Type}(R:α→β→Prop):List α→List β→Prop
 |nil:All2 R [] []
 |cons {a b l m}:R a b→All2 R l m→All2 R (a::l) (b::m)
theorem text_of_pairs{prog:Program}{w:World}{h:Heap}{es:List DictEntry}{kvs:List (Str×Value)}(x:Pairs (strKind prog w) es kvs):∀{D:List (Str×KTD.Dat)},(All2 (fun(p:Str×Value)(q:Str×KTD.Dat)=>p.1=q.1∧KTD.Dat.At h q.2 p.2) kvs D)→KTD.Rows (KTD.Dat.At h) es D:=by
 induction x with
 |nil=>intro D hd;cases hd;exact .nil
 |cons h1 h2 h3 ih=>
  intro D hd
  cases hd with
  |cons a b=>exact(Value.isStrOf_shape h1).elim fun t ht=> .cons (by rw[ht,a.1]) (h2.symm▸a.2) (ih b)
section
variable{w:World}{E:Value→Shared→Prop}{c:FC}{σ:St}{k:Cs}
theorem big_size(ok:c.Ok)(R:Rel c σ k):561<k.s.heap.objs.size:=by
 have:∀P:Params,((K P).lookup 561).isSome=true:=by intro P;kernel_rfl
 obtain⟨o,e⟩:=Option.isSome_iff_exists.mp (this c.w.params)
 exact Heap.lt_size (R.kin ok _ _ e)
theorem ops_get{d:Addr}{Φ:AV→St→Prop}(T:KTD.TextTab k.s.heap d opsTab)(R:Rel c σ k){s:Str}{t:Tok}{y:PyData}{vb:Value}(hb:Rd k.g vb y)(q:Φ (.d (if s=Str.ofString "either" then .str (Str.ofString "||")else if s=Str.ofString "both" then .str (Str.ofString "&&")else y)) σ):
  wpAny (model pw c.w) c.A (call (.builtin "dict.get") [.ref d, .str s t,vb]) (Post c k Φ) E k.s:=by
 refine KTD.get2_text (h₀:=k.s.heap) (D:=opsTab) ⟨T,fun _ _ e=>e⟩ ?_
 show if decide (s=Str.ofString "either")=true then _ else if decide (s=Str.ofString "both")=true then _ else _
 by_cases e1:s=Str.ofString "either"
 ·rw[if_pos e1]at q
  rw[if_pos (decide_eq_true e1)]
  exact fun t=>Out.tok R Post.out q _ (.str _ _)
 ·rw[if_neg e1]at q
  rw[if_neg fun z=>e1 (of_decide_eq_true z)]
  by_cases e2:s=Str.ofString "both"
  ·rw[if_pos e2]at q
   rw[if_pos (decide_eq_true e2)]
   exact fun t=>Out.tok R Post.out q _ (.str _ _)
  ·rw[if_neg e2]at q
   rw[if_neg fun z=>e2 (of_decide_eq_true z)]
   exact Out.tok R Post.out q _ hb
theorem ops_call{a b:X}{d:Addr}{im:Sem Bool}{p:Pos}{Φ:AV→St→Prop}{Ξ:Int→Prop}{C:CS}(ok:c.Ok)(R:Rel c σ k)(T:∀k2,Nx k k2→KTD.TextTab k2.s.heap d opsTab)
  (iha:∀σ k Ψ,Rel c σ k→awp C a σ Ψ Ξ→wpAny (model pw c.w) c.A (eval a.py c.env) (Post c k Ψ) (EX c Ξ) k.s)(ihb:∀σ k Ψ,Rel c σ k→awp C b σ Ψ Ξ→wpAny (model pw c.w) c.A (eval b.py c.env) (Post c k Ψ) (EX c Ξ) k.s)
  (h:awp C a σ (fun x σ'=>awp C b σ' (fun y σ''=>onT x fun s=>onD y fun y=>Φ (.d (if s=Str.ofString "either" then .str (Str.ofString "||")else if s=Str.ofString "both" then .str (Str.ofString "&&")else y)) σ'') Ξ) Ξ):
  wpAny (model pw c.w) c.A (getMethod (.ref d) (Str.ofString "get") im) (fun fx s₂=>wpAny (model pw c.w) c.A (callWith p fx.1 fx.2 (backTo p (starEach (Xs.cons a (.cons b .nil)).py c.env)) []) (Post c k Φ) (EX c Ξ) s₂) (EX c Ξ) k.s:=by
 refine KTD.getMethod_text (h₀:=k.s.heap) (D:=opsTab) ⟨T k (Nx.refl k),fun _ _ e=>e⟩ ?_
 refine za5 (P:=c.w.params) (n:=2) (Ψ:=fun as σ''=>on2 as fun x y=>onT x fun s=>onD y fun y=>Φ (.d (if s=Str.ofString "either" then .str (Str.ofString "||")else if s=Str.ofString "both" then .str (Str.ofString "&&")else y)) σ'') (first:=[.ref d]) ok R (.inl ⟨_,rfl⟩) (fun e=>absurd e Xs.cnn) ?_ fun as σ2 k2 vs q x2 R2 hv=>?_
 ·exact zas (Post.use (iha σ k _ R h) fun a' σ' k' v q x R' hv=>zas (r:= .nil) (Post.use (ihb σ' k' _ R' q) fun b' σ'' k'' v' q' x' R'' hv'=>spliced_none ⟨[a',b'],σ'',k'',rfl,q',x.trans x',R'', .cons (x'.vr hv) (.cons hv' .nil),rfl⟩))
 ·exact on2.el q hv fun x y v u q ha hb=>onT.el q ha fun s t q=>onD.el q hb fun y q hb=>Post.wp x2 (ops_get (T k2 x2) R2 hb q)
theorem ops_tab{h:Heap}{prog:Program}{w:World}{d:Addr}{t u:Tok}{ob:Obj}{es:Array DictEntry}{ep:Nat}(hs:561<d)(e:h.get? d=some ob)(c:ob.ExactDict)(dt:ob.data= .dict es ep)
  (x:Pairs (strKind prog w) es.toList [(Str.ofString "either", .str (Str.ofString "||") t),(Str.ofString "both", .str (Str.ofString "&&") u)]):KTD.TextTab h d opsTab:=
 ⟨by simpa using(show d≠sysModules from fun q=>absurd (q▸hs) (by decide)),ob,es,ep,e,c,dt,text_of_pairs x (.cons ⟨rfl,by exact PyProof.V.Flat.str _ _⟩ (.cons ⟨rfl,by exact PyProof.V.Flat.str _ _⟩ .nil))⟩
theorem opsGet_case{a b:X}{q1 q2 q3 q4 pd pa p:Pos}{Φ:AV→St→Prop}{Ξ:Int→Prop}{C:CS}(ok:c.Ok)(R:Rel c σ k)(hp:(pa.endLine==p.line)=true)
  (iha:∀σ k Ψ,Rel c σ k→awp C a σ Ψ Ξ→wpAny (model pw c.w) c.A (eval a.py c.env) (Post c k Ψ) (EX c Ξ) k.s)(ihb:∀σ k Ψ,Rel c σ k→awp C b σ Ψ Ξ→wpAny (model pw c.w) c.A (eval b.py c.env) (Post c k Ψ) (EX c Ξ) k.s)
  (h:awp C (X.opsGet a b q1 q2 q3 q4 pd pa p) σ Φ Ξ):wpAny (model pw c.w) c.A (eval (X.opsGet a b q1 q2 q3 q4 pd pa p).py c.env) (Post c k Φ) (EX c Ξ) k.s:=by
 refine MethodCall_ ?_ (zfa (l:= .cons a (.cons b .nil)) (fun _ _=>rfl) hp rfl)
 refine wpAny_Dict_pairs (knd:=strKind pw c.w) (pairs:=[(eval (.Constant (.str (Str.ofString "either")) 0 q1) c.env,do let x←eval (.Constant (.str (Str.ofString "||")) 0 q2) c.env;standAt pd;pure x),(eval (.Constant (.str (Str.ofString "both")) 0 q3) c.env,do let x←eval (.Constant (.str (Str.ofString "&&")) 0 q4) c.env;standAt pd;pure x)]) rfl (by simp) (by simp) ?_
 have lit:∀{x:Str}{q:Pos}{s:Shared}{Q:Value→Shared→Prop},Q (.str x s.toks) {s with toks:=s.toks+1}→wpAny (model pw c.w) c.A (eval (.Constant (.str x) 0 q) c.env) Q (EX c Ξ) s:=fun h=>wpAny_mkText h
 refine evalPairs_cons (lit (wpAny_bind (lit (wpAny_bind (wpAny_standAt (wpAny_pure (evalPairs_cons (lit (wpAny_bind (lit (wpAny_bind (wpAny_standAt (wpAny_pure (evalPairs_nil ?_))))))))))))))
 refine⟨[(Str.ofString "either", .str (Str.ofString "||") (k.s.toks+1)),(Str.ofString "both", .str (Str.ofString "&&") (k.s.toks+1+1+1))],⟨by show((_:Str)==_)=true;simp,rfl,by show((_:Str)==_)=true;simp,rfl,trivial⟩,?_,fun h' hd hs=>?_⟩
 ·exact⟨_,#[],0,Heap.get?_push_size _ rfl,⟨rfl,rfl,rfl⟩,rfl,by intro e he;simp at he, .nil,by simp⟩
 have gr:Grow k h':=⟨fun b o e=>hs.extBut b o (Nat.ne_of_lt (Heap.lt_size e)) (Heap.get?_push_of_some _ e)⟩
 obtain⟨ob,es,ep,d1,d2,d3,d4,d5,d6⟩:=hd
 have x1:Nx k (k.at h' (k.s.toks+1+1+1+1+2)):=gr.nx _
 refine wpAny_mono (ops_call ok (R.grow gr _) (fun k2 x2=>ops_tab (big_size ok R) (x2.g _ ob ⟨d1,zgv R (ob:=default)⟩).1 d2 d3 d5) iha ihb h) (fun fx s q=>Post.wp x1 q) fun _ _ e=>e
end
structure Hid(c:FC)(k:Cs)(b:Addr):Prop where
 z:k.Z b
 own:b∉own c k
 new:c.k0.s.heap.get? b=none
 nF:b∉c.F
 ne:b≠c.fe.locals
section
variable{w:World}{E:Value→Shared→Prop}{c:FC}{σ:St}{k:Cs}
theorem Hid.m(h:Hid c k b):k.Z b∧b≠c.env.locals∧(∀q∈c.env.cells,b≠q.2)∧(c.m0 b∨c.k0.s.heap.get? b=none)∧b∉c.F:=
 ⟨h.z,fun e=>h.own (e▸zef),fun q hq e=>h.own (e▸own_cell hq), .inr h.new,h.nF⟩
theorem Hid.of_hide(ok:c.Ok)(R:Rel c σ k){L:List Addr}{h':Heap}{t:Nat}{b:Addr}(hb:b∈L)(hd:k.s.heap.get? b=none):Hid c (k.hide L h' t) b:=by
 exact⟨.inr hb,fun ho=>(R.ownx b ho).elim fun o e=>nS (hd.symm.trans e),R.fresh ok hd,fun hf=>(R.zx b (R.z0 b (ok.fz b hf))).elim fun o e=>nS (hd.symm.trans e),fun e=>R.floc.elim fun o q=>nS (hd.symm.trans (e▸q.1))⟩
theorem Hid.after{k':Cs}{m:Addr→Prop}{F':List Addr}{b:Addr}(h:Hid c k b)(x:After c k k' m F'):Hid c k' b:=
 ⟨x.z0 b h.z,by have:=h.own;unfold Mine.own at this ⊢;rw[x.r];exact this,h.new,h.nF,h.ne⟩
theorem Hid.get{k':Cs}{m:Addr→Prop}{F':List Addr}{b:Addr}{o:Obj}(h:Hid c k b)(x:After c k k' m F')(hm:¬m b)(e:k.s.heap.get? b=some o):k'.s.heap.get? b=some o:=
 x.keep b o hm (fun z=>(x.hF b z).elim h.nF fun z=>h.ne z.1) e
theorem Rel.hidset(ok:c.Ok)(R:Rel c σ k){z:Addr}{h':Heap}(hz:Hid c k z)(x:But k z h')(hx:∃o,h'.get? z=some o)(t:Nat):
  After c k (k.at h' t) (fun b=>b=z) []∧Rel c σ (k.at h' t):=by
 have A:After c k (k.at h' t) (fun b=>b=z) []:=⟨rfl,rfl,fun _ h=>(nomatch h),fun b e=>e▸hz.m,fun b o n _ e=>x.keep b o n e,fun _ _ h=>(nomatch h),fun _ z=>z,fun b zb=>x.ex hx (R.zx b zb),fun _ z=> .inl z⟩
 exact⟨A,R.after0 ok A fun p hp q=>hz.own (q▸own_obj hp)⟩
noncomputable def Cs.gone(k:Cs)(z:Addr)(h:Heap)(t:Nat):Cs:=⟨fun b=>k.Z b∧b≠z,k.r,{k.s with heap:=h,toks:=t}⟩
theorem Rel.gone(ok:c.Ok)(R:Rel c σ k){z:Addr}{h':Heap}(hz:Hid c k z)(x:But k z h')(t:Nat):Nx k (k.gone z h' t)∧Rel c σ (k.gone z h' t):=by
 have nx:Nx k (k.gone z h' t):=⟨fun b o e=>⟨x.keep b o (fun q=>e.2 (q▸hz.z)) e.1,fun q=>e.2 q.1⟩,List.prefix_refl _⟩
 have ne:∀b∈Mine.own c k,b≠z:=fun b hb q=>hz.own (q▸hb)
 have neF:∀b∈c.F,b≠z:=fun b hb q=>hz.nF (q▸hb)
 exact⟨nx,congrArg (fun s:Shared=>{s with heap:=h',toks:=t}) R.rest,fun b o a1 a2 e=>x.keep b o (fun q=>nS (hz.new.symm.trans (q▸e))) (R.keep b o a1 a2 e),fun b o a e=>(R.fr b o a e).imp fun _ q=>x.keep _ _ (neF b a) q,fun b zb=>⟨R.z0 b zb,fun q=>(ok.zx b zb).elim fun o e=>nS (hz.new.symm.trans (q▸e))⟩,
  fun b zb=>isEx (fun o=>x.keep b o zb.2) (R.zx b zb.1),fun b zb=>R.zup b zb.1,R.ns.imp fun mm h=>⟨h.1.at' fun o=>x.keep _ o (ne _ zef),fun i a e=>(h.2 i a e).nx nx fun b v q=>zck fun o=>x.keep _ o (ne _ (own_cell (zak q)))⟩,⟨R.lz,ne _ zef⟩,fun q hq=>⟨R.cz q hq,ne _ (own_cell hq)⟩,
  fun i o e=>(R.obj i o e).imp fun p h=>have n:=ne _ (own_obj (List.mem_of_getElem? h.1));⟨h.1,h.2.nx nx (fun z=>⟨z,n⟩) fun o=>x.keep _ o n⟩,R.objn,fun p hp=>isEx (fun o=>x.keep _ o (ne _ (own_obj hp))) (R.rx p hp),R.nodup,fun b hb zb=>R.mine b hb zb.1,R.floc.imp fun o h=>⟨x.keep _ _ (Ne.symm hz.ne) h.1,h.2⟩,R.new⟩
theorem Hid.gone{z b:Addr}{h':Heap}{t:Nat}(h:Hid c k b)(n:b≠z):Hid c (k.gone z h' t) b:=⟨⟨h.z,n⟩,h.own,h.new,h.nF,h.ne⟩
theorem But.refl(k:Cs)(z:Addr):But k z k.s.heap:=⟨fun _ _ _ e=>e⟩
theorem noFold(x:X)(env:Env)(v:Value):foldedSetIterable x.py env v=pure v:=(pyOk x).fold env v
noncomputable def ownedT:List String:=["enumerate","zip","dict_itemiterator","dict_reverseitemiterator","odict_iterator","itertools.zip_longest","itertools.pairwise"]
noncomputable def ItObj(h:Heap)(I:Addr):Prop:=∃o n,h.get? I=some o∧o.cls= .type n∧ownedT.contains n=false
theorem go_ok{prog:Program}{w:World}{A:Around}{E:Value→Shared→Prop}{es:List Expr}{m:Nat}{p:Pos}{I:Addr}{v:Value}{s:Shared}{Q:Unit→Shared→Prop}(hit:ItObj s.heap I)(hQ:Q () s):wpAny (model prog w) A (letOwnedTupleGo (.Tuple es m p) (.ref I) v) Q E s:=by
 obtain⟨⟨cls,d,data,sl⟩,n,ho,hc,hn⟩:=hit
 have hc:cls= .type n:=hc
 subst hc
 cases v with
 |ref a=>
  refine wpAny_bind (wpAny_load ho ?_)
  cases data with
  |fields vs=>
   show wpAny _ _ (if(ownedT.contains n&&_)=true then _ else pure ()) _ _ _
   rw[hn,Bool.false_and]
   exact wpAny_pure hQ
  |_=>exact wpAny_pure hQ
 |_=>exact wpAny_pure hQ
structure It(c:FC)(I:Addr)(k:Cs)(items:List AV)(St:Nat→Heap→Prop):Prop where
 walks:∃fp P,Walks pw c.w c.A I fp [I] items.length P St∧(∀b∈fp,b=I∨∃o,k.g b o)∧∀j v,P j v→∀a,items[j]?=some a→VR k.g k.r a v
 cls:∀i h,St i h→ItObj h I
theorem It.live{I:Addr}{items:List AV}{St:Nat→Heap→Prop}(x:It c I k items St):∀i h,St i h→∃o,h.get? I=some o:=fun i h s=>(x.cls i h s).imp fun _ h=>h.elim fun _ h=>h.1
noncomputable def ItQ(c:FC)(k:Cs)(items:List AV)(Q:Value→Shared→Prop):Prop:=
 ∀ob St,(k.s.heap.push ob).get? k.s.heap.objs.size=some ob→It c k.s.heap.objs.size k items St→St 0 (k.s.heap.push ob)→Q (.ref k.s.heap.objs.size) {k.s with heap:=k.s.heap.push ob}
section
variable{Q:Value→Shared→Prop}(ok:c.Ok)
include ok
theorem iter_str{x:Str}{t:Tok}(q:ItQ c k (x.cps.toList.map fun c=> .d (.str ⟨#[c]⟩)) Q):wpAny (model pw c.w) c.A (pyIter (.str x t)) Q E k.s:=by
 have key:∀j v,SignAt x j v→∀a,(x.cps.toList.map fun c=>AV.d (.str ⟨#[c]⟩))[j]?=some a→VR k.g k.r a v:=by
  intro j v h a ha
  obtain⟨ch,u,h1,rfl⟩:=h
  rw[List.getElem?_map,Array.getElem?_toList,h1]at ha
  exact Option.some.inj ha▸ .str _ _
 have hlen:x.cps.size=(x.cps.toList.map fun c=>AV.d (.str ⟨#[c]⟩)).length:=(List.length_map _).symm
 cases ha:x.cps.all (· <128)
 ·exact wpAny_pyIter_wide ha (q _ (fun i h=>h.IsStrIter k.s.heap.objs.size "str_iterator" x t i) (Heap.get?_push_size _ rfl) ⟨⟨_,_,hlen▸Walks.strWide ok.hd _ x t,fun b hb=> .inl (List.mem_singleton.mp hb),key⟩,fun i h st=>st.imp fun o e=>⟨_,e.1,e.2.1,by decide⟩⟩ ⟨_,Heap.get?_push_size _ rfl,rfl,rfl⟩)
 ·exact wpAny_pyIter_ascii ha (q _ (fun i h=>h.IsStrIter k.s.heap.objs.size "str_ascii_iterator" x t i) (Heap.get?_push_size _ rfl) ⟨⟨_,_,hlen▸Walks.strAscii ok.hd _ x t,fun b hb=> .inl (List.mem_singleton.mp hb),key⟩,fun i h st=>st.imp fun o e=>⟨_,e.1,e.2.1,by decide⟩⟩ ⟨_,Heap.get?_push_size _ rfl,rfl,rfl⟩)
omit ok
theorem seq_at{vs:Array Value}{xs:List PyData}(h:RdAll k.g vs.toList xs)(j:Nat)(v:Value)(hj:vs[j]?=some v)(a:AV)(ha:(xs.map AV.d)[j]?=some a):VR k.g k.r a v:=by
 rw[List.getElem?_map]at ha
 obtain⟨x,hx,rfl⟩:=Option.map_eq_some_iff.mp ha
 rw[←Array.getElem?_toList]at hj
 exact(h.get _ _ hx).elim fun v' r=>Option.some.inj (r.1.symm.trans hj)▸r.2
theorem two_mem{b I:Addr}{o:Obj}(g:k.g b o):∀b'∈[I,b],b'=I∨∃o,k.g b' o:=fun b' h=>(List.mem_cons.mp h).imp id fun h=>⟨o,by rw[List.mem_singleton.mp h];exact g⟩
include ok
theorem iter_list{xs:List PyData}{v:Value}(h:SeqR k.g "list" v xs)(q:ItQ c k (xs.map .d) Q):wpAny (model pw c.w) c.A (pyIter v) Q E k.s:=by
 obtain⟨b,o,vs,n,rfl,g1,g2,g3,g4⟩:=h
 have hlen:vs.size=(xs.map AV.d).length:=g4.length.trans (List.length_map _).symm
 exact wpAny_pyIter_list ⟨_,g1.1,g2,_,g3⟩ (q _ (fun i h=>h.IsListIter k.s.heap.objs.size b i∧h.IsList b vs) (Heap.get?_push_size _ rfl) ⟨⟨_,_,hlen▸Walks.list ok.hd _ b (Nat.ne_of_lt (Heap.lt_size g1.1)) vs,two_mem g1,seq_at g4⟩,fun i h st=>st.1.imp fun o e=>⟨_,e.1,e.2.1,by decide⟩⟩ ⟨⟨_,Heap.get?_push_size _ rfl,rfl,rfl⟩,_,Heap.get?_push_of_some _ g1.1,g2,_,g3⟩)
theorem iter_tuple{xs:List PyData}{v:Value}(h:SeqR k.g "tuple" v xs)(q:ItQ c k (xs.map .d) Q):wpAny (model pw c.w) c.A (pyIter v) Q E k.s:=by
 obtain⟨b,o,vs,n,rfl,g1,g2,g3,g4⟩:=h
 have hlen:vs.size=(xs.map AV.d).length:=g4.length.trans (List.length_map _).symm
 exact wpAny_pyIter_tuple ⟨_,g1.1,g2,_,g3⟩ (q _ (fun i h=>h.IsTupleIter k.s.heap.objs.size b i∧h.IsTuple b vs) (Heap.get?_push_size _ rfl) ⟨⟨_,_,hlen▸Walks.tuple ok.hd _ b (Nat.ne_of_lt (Heap.lt_size g1.1)) vs,two_mem g1,seq_at g4⟩,fun i h st=>st.1.imp fun o e=>⟨_,e.1,e.2.1,by decide⟩⟩ ⟨⟨_,Heap.get?_push_size _ rfl,rfl,rfl⟩,_,Heap.get?_push_of_some _ g1.1,g2,_,g3⟩)
theorem iter_rng{n:Nat}{v:Value}(hl:n≤sizeLine)(hv:VR k.g k.r (.rng n) v)(q:ItQ c k ((List.range n).map fun(i:Nat)=> .d (.int i)) Q):wpAny (model pw c.w) c.A (pyIter v) Q E k.s:=by
 obtain⟨b,rfl,t0,t1,t2,g1⟩:=hv
 have hsz:Builtin.Range.rangeSize 0 n 1=n:=by simp[Builtin.Range.rangeSize];lia
 have hn:(n:Int)≤33554432:=Int.le_trans (Int.ofNat_le.mpr hl) (by rw[sizeLine_eq];decide)
 have h0:(0:Int)≤n:=Int.natCast_nonneg n
 refine wpAny_pyIter_range (a:=0) (b:=n) (c:=1) g1.1 ?_ (q _ (fun i h=>IsRangeIter h k.s.heap.objs.size (0+(i:Nat)*1) ((n:Int)-(i:Nat)) 1) (Heap.get?_push_size _ rfl) ⟨⟨_,_,by simpa using Walks.range ok.hd k.s.heap.objs.size 0 1 n,fun b hb=> .inl (List.mem_singleton.mp hb),fun j v hj a ha=>?_⟩,fun i h st=>⟨_,_,st,rfl,by decide⟩⟩ ?_)
 ·unfold Builtin.Range.small
  rw[hsz]
  have fits:∀i:Int,-1≤i→i≤33554432→Builtin.Range.rangeFitsLong i=true:=fun i h1 h2=>Bool.and_eq_true_iff.mpr ⟨decide_eq_true (Int.le_trans (by decide) h1),decide_eq_true (Int.lt_of_le_of_lt h2 (by decide))⟩
  have fn:=fits n (Int.le_trans (by decide) h0) hn
  rw[fits 0 (by decide) (by decide),fn,fits 1 (by decide) (by decide),if_pos (by decide),show(n:Int)+(1-1)=n from Int.add_zero _,fn]
  simp
 ·obtain⟨t,rfl⟩:=hj
  rw[List.getElem?_map]at ha
  obtain⟨i,hi,rfl⟩:=Option.map_eq_some_iff.mp ha
  obtain⟨h1,h2⟩:=List.getElem?_eq_some_iff.mp hi
  rw[List.getElem_range]at h2
  subst h2
  exact .int _ _
 ·have:=Heap.get?_push_size k.s.heap (o:={cls:= .type "range_iterator",data:= .fields #[rawInt 0,rawInt (Builtin.Range.rangeSize 0 n 1),rawInt 1]}) rfl
  have e2:(n:Int)-((0:Nat):Int)=Builtin.Range.rangeSize 0 n 1:=(Int.sub_zero _).trans hsz.symm
  show IsRangeIter _ _ _ _ _
  rw[e2]
  exact this
theorem iter_ok{items:List AV}{a:AV}{va:Value}(R:Rel c σ k)(h:aiter a=some items)(hl:items.length≤sizeLine)(hv:VR k.g k.r a va)(q:ItQ c k items Q):wpAny (model pw c.w) c.A (pyIter va) Q E k.s:=by
 cases a with
 |d x=>
  have hv:Rd k.g va x:=hv
  cases x with
  |str x=>exact hv.elT fun t=>iter_str ok (Option.some.inj h▸q)
  |list xs=>exact iter_list ok hv.inv (Option.some.inj h▸q)
  |tuple xs=>exact iter_tuple ok hv.inv (Option.some.inj h▸q)
  |_=>exact nS h
 |rng n=>
  cases h
  rw[List.length_map,List.length_range]at hl
  exact iter_rng ok hl hv q
 |_=>exact nS h
end
end
noncomputable def clOf(env:Env):List (Str×NameKind)→List (Str×Addr)→List (Str×Addr)
 | [],acc=>acc
 |(n,kd)::r,acc=>clOf env r (if kd= .free then(match env.cells.lookup n with
  |some a=>(n,a)::acc
  |none=>acc)else acc)
theorem clos_go{env:Env}(f:Str×NameKind→List (Str×Addr)→Sem (ForInStep (List (Str×Addr))))
  (hf:∀n kd cs,f (n,kd) cs=if kd== .free then(do let a←cellOf env n;pure (.yield ((n,a)::cs)))else pure (.yield cs)):
  ∀(l:List (Str×NameKind))(acc:List (Str×Addr)),(∀x∈l,x.2= .free→∃a,env.cells.lookup x.1=some a)→forIn l acc f=pure (clOf env l acc)
 | [],acc,_=>rfl
 |(n,kd)::r,acc,h=>by
  rw[List.forIn_cons,hf]
  unfold clOf
  by_cases hk:kd= .free
  ·subst hk
   obtain⟨a,ha⟩:=h (n, .free) List.mem_cons_self rfl
   have:cellOf env n=pure a:=by unfold cellOf;rw[ha]
   simp only[beq_self_eq_true,if_true,this,pure_bind,ha]
   exact clos_go f hf r _ fun x hx=>h x (List.mem_cons_of_mem _ hx)
  ·have:(kd==NameKind.free)=false:=by simpa using hk
   simp only[this,Bool.false_eq_true,if_false,pure_bind,hk]
   exact clos_go f hf r _ fun x hx=>h x (List.mem_cons_of_mem _ hx)
theorem clos_eq{sc:Scope}{env:Env}(h:∀x∈sc.names,x.2= .free→∃a,env.cells.lookup x.1=some a):closureFor sc env=pure (clOf env sc.names []):=by
 have:=clos_go (env:=env) (fun x cs=>match x with|(name,kind)=>if(kind==NameKind.free)=true then(do let a←cellOf env name;pure (ForInStep.yield ((name,a)::cs)))else pure (ForInStep.yield cs)) (fun _ _ _=>rfl) sc.names [] h
 exact(congrArg (fun t=>t>>=fun cs=>pure cs) this).trans rfl
theorem clOf_mem{env:Env}:∀(l:List (Str×NameKind))(acc:List (Str×Addr))(p:Str×Addr),p∈clOf env l acc→p∈acc∨(env.cells.lookup p.1=some p.2∧∃k,(p.1,k)∈l)
 | [],acc,p,h=> .inl h
 |(n,kd)::r,acc,p,h=>by
  unfold clOf at h
  rcases clOf_mem r _ p h with h|⟨h1,k,h2⟩
  ·split at h
   ·split at h
    ·rename_i a ha
     rcases List.mem_cons.mp h with rfl|h
     ·exact .inr ⟨ha,kd,List.mem_cons_self⟩
     ·exact .inl h
    ·exact .inl h
   ·exact .inl h
  ·exact .inr ⟨h1,k,List.mem_cons_of_mem _ h2⟩
theorem clOf_sub{env:Env}:∀(l:List (Str×NameKind))(acc:List (Str×Addr)),∀p∈acc,p∈clOf env l acc
 | [],acc,p,h=>h
 |(n,kd)::r,acc,p,h=>by
  unfold clOf
  refine clOf_sub r _ p ?_
  split
  ·split
   ·exact List.mem_cons_of_mem _ h
   ·exact h
  ·exact h
theorem clOf_has{env:Env}:∀(l:List (Str×NameKind))(acc:List (Str×Addr))(n:Str)(a:Addr),(n,NameKind.free)∈l→env.cells.lookup n=some a→(n,a)∈clOf env l acc
 |(m,kd)::r,acc,n,a,h,e=>by
  unfold clOf
  rcases List.mem_cons.mp h with h|h
  ·cases h
   rw[if_pos rfl,e]
   exact clOf_sub r _ _ List.mem_cons_self
  ·exact clOf_has r _ n a h e
theorem zd6{env:Env}:∀(l:List (Str×NameKind))(acc:List (Str×Addr)),(acc.map (·.1)).Nodup→(∀p∈acc,∀q∈l,p.1≠q.1)→(l.map (·.1)).Nodup→((clOf env l acc).map (·.1)).Nodup
 | [],acc,h,_,_=>h
 |(n,kd)::r,acc,h,hd,hl=>by
  unfold clOf
  rw[List.map_cons]at hl
  obtain⟨h1,h2⟩:=List.nodup_cons.mp hl
  have base:∀p∈acc,∀q∈r,p.1≠q.1:=fun p hp q hq=>hd p hp q (List.mem_cons_of_mem _ hq)
  split
  ·split
   ·rename_i a ha
    refine zd6 r _ ?_ ?_ h2
    ·rw[List.map_cons]
     refine List.nodup_cons.mpr ⟨fun hm=>?_,h⟩
     obtain⟨p,hp,e⟩:=List.mem_map.mp hm
     exact hd p hp (n,kd) List.mem_cons_self e
    ·intro p hp q hq
     rcases List.mem_cons.mp hp with rfl|hp
     ·exact fun e=>h1 (e▸List.mem_map_of_mem (f:=(·.1)) hq)
     ·exact base p hp q hq
   ·exact zd6 r _ h base h2
  ·exact zd6 r _ h base h2
theorem zgw:∀{l:List Str},apart l=true→l.Nodup
 | [],_=>List.nodup_nil
 |x::r,h=>by
  unfold apart at h
  obtain⟨h1,h2⟩:=Bool.and_eq_true_iff.mp h
  exact List.nodup_cons.mpr ⟨by simpa using h1,zgw h2⟩
theorem zcz{α:Type}:∀{l:List (Str×α)}{n:Str}{a:α},(l.map (·.1)).Nodup→(n,a)∈l→l.lookup n=some a
 |(m,b)::r,n,a,hd,h=>by
  rw[List.map_cons]at hd
  obtain⟨h1,h2⟩:=List.nodup_cons.mp hd
  rw[List.lookup_cons]
  rcases List.mem_cons.mp h with h|h
  ·cases h;simp
  ·have:(n==m)=false:=by
    rw[beq_eq_false_iff_ne]
    exact fun e=>h1 (e▸List.mem_map_of_mem (f:=(·.1)) h)
   rw[this]
   exact zcz h2 h
theorem lookup_inj:∀{l:List (Str×Addr)}{n m:Str}{a:Addr},(l.map (·.2)).Nodup→l.lookup n=some a→l.lookup m=some a→n=m
 |(x,b)::r,n,m,a,hd,h1,h2=>by
  rw[List.map_cons]at hd
  obtain⟨d1,d2⟩:=List.nodup_cons.mp hd
  rw[List.lookup_cons]at h1 h2
  cases e1:n==x with
  |true=>
   rw[e1]at h1;cases h1
   cases e2:m==x with
   |true=>rw[beq_iff_eq.mp e1,beq_iff_eq.mp e2]
   |false=>
    rw[e2]at h2
    exact absurd (List.mem_map_of_mem (f:=(·.2)) (zak h2)) d1
  |false=>
   rw[e1]at h1
   cases e2:m==x with
   |true=>
    rw[e2]at h2;cases h2
    exact absurd (List.mem_map_of_mem (f:=(·.2)) (zak h1)) d1
   |false=>rw[e2]at h2;exact lookup_inj d2 h1 h2
theorem zhe{cells:List (Str×Addr)}(hd:(cells.map (·.2)).Nodup):∀{cl:List (Str×Addr)},(cl.map (·.1)).Nodup→(∀p∈cl,cells.lookup p.1=some p.2)→(cl.map (·.2)).Nodup
 | [],_,_=>List.nodup_nil
 |p::r,h,hl=>by
  rw[List.map_cons]at h ⊢
  obtain⟨h1,h2⟩:=List.nodup_cons.mp h
  refine List.nodup_cons.mpr ⟨fun hm=>?_,zhe hd h2 fun q hq=>hl q (List.mem_cons_of_mem _ hq)⟩
  obtain⟨q,hq,e⟩:=List.mem_map.mp hm
  have a1:=hl p List.mem_cons_self
  have a2:=hl q (List.mem_cons_of_mem _ hq)
  rw[e]at a2
  exact h1 ((lookup_inj hd a1 a2)▸List.mem_map_of_mem (f:=(·.1)) hq)
theorem zcy{cap:List Nat}{j:Nat}{b:AV}:∀{l:List (Nat×AV)},lkA j (l.filter fun p=>cap.contains p.1)=some b→cap.contains j=true∧lkA j l=some b
 |(x,y)::r,h=>by
  rw[List.filter_cons]at h
  show _∧(match Nat.beq j x with|true=>y.opt|false=>lkA j r)=some b
  cases hc:cap.contains x with
  |true=>
   rw[if_pos hc]at h
   have h:(match Nat.beq j x with|true=>y.opt|false=>lkA j (r.filter fun p=>cap.contains p.1))=some b:=h
   cases q:Nat.beq j x with
   |true=>rw[q]at h;exact⟨Nat.eq_of_beq_eq_true q▸hc,h⟩
   |false=>rw[q]at h;exact zcy h
  |false=>
   rw[if_neg (by rw[hc];decide)]at h
   obtain⟨h1,h2⟩:=zcy h
   have:Nat.beq j x=false:=beq_no fun q=>by rw[q,hc]at h1;cases h1
   rw[this]
   exact⟨h1,h2⟩
theorem zee{sc:Scope}{env:Env}{x:Str}(hk:env.scope.kind= .function)(hc:env.kindOf x=some .cell):sc.names.lookup x=some .free→(relabel sc env).names.lookup x=some .cell:=by
 unfold relabel
 dsimp only
 induction sc.names with
 |nil=>intro e;cases e
 |cons p r ih=>
  obtain⟨n,k⟩:=p
  intro e
  rw[List.lookup_cons]at e
  rw[List.map_cons]
  cases q:x==n with
  |true=>
   rw[q]at e
   cases e
   have hx:x=n:=beq_iff_eq.mp q
   subst hx
   simp[hk,hc,List.lookup_cons]
  |false=>
   rw[q]at e
   dsimp only
   split<;>(rw[List.lookup_cons,q];exact ih e)
theorem relabel_cell{sc:Scope}{env:Env}{x:Str}(hno:∀y∈sc.names,y.2≠ .cell):(relabel sc env).names.lookup x=some .cell→(x,NameKind.free)∈sc.names∧env.kindOf x=some .cell:=by
 unfold relabel
 dsimp only
 revert hno
 induction sc.names with
 |nil=>intro _ e;cases e
 |cons p r ih=>
  obtain⟨n,k⟩:=p
  intro hno e
  rw[List.map_cons]at e
  generalize(r.map fun(x:Str×NameKind)=>if(x.2==NameKind.free&&env.scope.kind==ScopeKind.function&&env.kindOf x.1==some NameKind.cell)=true then(x.1,NameKind.cell)else(x.1,x.2))=tl at ih e
  have key:∀(q:Str×NameKind),q.1=n→((x==n)=true→q.2= .cell→(x,NameKind.free)∈(n,k)::r∧env.kindOf x=some .cell)→List.lookup x (q::tl)=some .cell→(x,NameKind.free)∈(n,k)::r∧env.kindOf x=some .cell:=by
   rintro⟨q1,q2⟩ rfl hq e
   rw[List.lookup_cons]at e
   cases z:x==q1 with
   |true=>rw[z]at e;cases e;exact hq z rfl
   |false=>
    rw[z]at e
    obtain⟨a,b⟩:=ih (fun y hy=>hno y (List.mem_cons_of_mem _ hy)) e
    exact⟨List.mem_cons_of_mem _ a,b⟩
  split at e
  ·rename_i hc
   refine key (n, .cell) rfl (fun z _=>?_) e
   have hx:x=n:=beq_iff_eq.mp z
   subst hx
   simp only[Bool.and_eq_true,beq_iff_eq]at hc
   obtain⟨⟨h1,_⟩,h2⟩:=hc
   subst h1
   exact⟨List.mem_cons_self,h2⟩
  ·refine key (n,k) rfl (fun z hk=>?_) e
   exact absurd hk (hno (n,k) List.mem_cons_self)
noncomputable def FC.comp(c:FC)(k:Cs)(env':Env):FC:={c with env:=env',k0:=k,F:=c.fe.locals::c.F,m0:=fun b=>b∈env'.locals::k.r.map (·.2)∧k.Z b,n0:=k.r.length,cw:=False}
structure CompEnv(c:FC)(sc':Scope)(L:Addr)(env':Env):Prop where
 scope:env'.scope=relabel sc' c.env
 locals:env'.locals=L
 globals:env'.globals=c.env.globals
 builtins:env'.builtins=builtinsNs
 cells:env'.cells=clOf c.env sc'.names []
section
variable{w:World}{E:Value→Shared→Prop}{c:FC}{σ:St}{k:Cs}{sc':Scope}{env':Env}{L:Addr}{i:Nat}{cap:List Nat}
structure CC(c:FC)(sc':Scope)(i:Nat)(cap:List Nat):Prop where
 kind:sc'.kind= .function
 il:sc'.names.lookup (nm i)=some .local
 lt:i<nms.length
 kinds:∀x∈sc'.names,x.2≠ .cell
 locs:∀x∈sc'.names,x.2= .local→sc'.names.lookup x.1=some .local
 caps:∀j∈cap,j≠i∧sc'.names.lookup (nm j)=some .free∧c.env.kindOf (nm j)=some .cell
 free:∀x∈sc'.names,x.2= .free→c.env.kindOf x.1=some .cell
 nodup:(sc'.names.map (·.1)).Nodup
theorem compChk_ok(hk:noGen sc'=true)(h:zfg c.env.scope sc' i cap=true):CC c sc' i cap:=by
 unfold zfg at h
 simp only[Bool.and_eq_true]at h
 obtain⟨h1,h2,h3,h4,h5,h6,h7⟩:=h
 refine⟨by unfold noGen at hk;simpa using hk,by simpa using h1,Nat.le_of_ble_eq_true h2,fun x hx e=>?_,fun x hx e=>?_,fun j hj=>?_,fun x hx e=>?_,zgw h7⟩
 ·have:=List.all_eq_true.mp h3 x hx
  rw[e]at this
  simp at this
 ·have:=List.all_eq_true.mp h4 x hx
  rw[e]at this
  simpa using this
 ·have:=List.all_eq_true.mp h5 j hj
  simp only[Bool.and_eq_true,Bool.not_eq_true',beq_iff_eq]at this
  obtain⟨a,b,d⟩:=this
  exact⟨fun e=>by rw[e]at a;simp at a,b,d⟩
 ·have:=List.all_eq_true.mp h6 x hx
  rw[e]at this
  show c.env.scope.names.lookup x.1=_
  simpa using this
theorem comp_cl(ok:c.Ok)(X:CC c sc' i cap):(∀p∈clOf c.env sc'.names [],c.env.cells.lookup p.1=some p.2)∧((clOf c.env sc'.names []).map (·.1)).Nodup:=
 ⟨fun p hp=>(clOf_mem _ _ p hp).elim (fun h=>nomatch h) (·.1),zd6 _ _ List.nodup_nil (fun _ h=>nomatch h) X.nodup⟩
theorem comp_ok(ok:c.Ok)(R:Rel c σ k)(hfe:c.fe=c.env)(X:CC c sc' i cap)(V:CompEnv c sc' L env')(hL:Hid c k L):(c.comp k env').Ok where
 kin:=ok.kin
 top:=ok.top
 base:=fun b o e=>by
  obtain⟨h1,h2⟩:=R.base ok b o e
  refine⟨h1,h2,fun hb=>?_,fun q=>h2 q.2⟩
  rcases List.mem_cons.mp hb with rfl|hb
  ·exact h2 (R.locZ ok)
  ·exact h2 (R.z0 _ (ok.fz _ hb))
 hd:=ok.hd
 units:=ok.units
 depth:=ok.depth
 kind:=by show env'.scope.kind=_;rw[V.scope];exact X.kind
 glob:=by show env'.globals=_;rw[V.globals];exact ok.glob
 blt:=V.builtins
 frames:=ok.frames
 fo:= .inr List.mem_cons_self
 fframe:=ok.fframe
 fkind:=ok.fkind
 outs:=fun e he=>by
  obtain⟨h1,L,o,h2,h3,h4,h5⟩:=ok.outs e he
  obtain⟨sl,q⟩:=R.fr L o h3 h4
  exact⟨h1,L,_,h2,List.mem_cons_of_mem _ h3,q,h5⟩
 fz:=fun b hb=>by
  rcases List.mem_cons.mp hb with rfl|hb
  ·exact R.locZ ok
  ·exact R.z0 _ (ok.fz b hb)
 fm:=fun b hb q=>by
  have hb':b=c.fe.locals∨b∈c.F:=List.mem_cons.mp hb
  rcases List.mem_cons.mp q.1 with e|hq
  ·rw[V.locals]at e
   rcases hb' with h|h
   ·exact hL.ne (e▸h)
   ·exact hL.nF (e▸h)
  ·rcases hb' with h|h
   ·have nd:=R.nodup
    unfold own at nd
    rw[hfe]at h
    exact(List.nodup_cons.mp nd).1 (List.mem_append_right _ (h▸hq))
   ·exact(R.mine b (List.mem_cons_of_mem _ hq) q.2).2 h
 zx:=R.zx
 mz:=fun b q=>q.2
 guards:=ok.guards
 cfresh:=fun h=>h.elim
 cellx:=fun n hn=>by
  have hn':(relabel sc' c.env).names.lookup n=some .cell:=by
   have:env'.scope.names.lookup n=some .cell:=hn
   rw[V.scope]at this;exact this
  obtain⟨h1,h2⟩:=relabel_cell X.kinds hn'
  obtain⟨a,ha⟩:=ok.cellx n h2
  refine⟨a,?_⟩
  show env'.cells.lookup n=some a
  rw[V.cells]
  exact zcz (comp_cl ok X).2 (clOf_has _ _ n a h1 ha)
 fok:=fun b hb=>by
  rcases List.mem_cons.mp hb with rfl|hb
  ·exact R.floc
  ·obtain⟨ob,h1,h2⟩:=ok.fok b hb
   obtain⟨sl,q⟩:=R.fr b ob hb h1
   exact⟨_,q,h2⟩
theorem comp_rel{H:List AO}{y:AV}{v:Value}{mm:Str→Option Value}(ok:c.Ok)(R:Rel c {σ with obj:=H} k)(hfe:c.fe=c.env)(X:CC c sc' i cap)(V:CompEnv c sc' L env')(hL:Hid c k L)
  (hn:k.s.heap.Ns L mm)(hm:mm (nm i)=some v)(hv:VR k.g k.r y v):Rel (c.comp k env') ⟨(i,y)::σ.loc.filter (fun p=>cap.contains p.1),H⟩ k where
 rest:=rfl
 keep:=fun _ _ _ _ e=>e
 fr:=fun _ o _ e=>⟨o.slots,e⟩
 z0:=fun _ z=>z
 zx:=R.zx
 zup:=fun _ z=> .inl z
 ns:=by
  refine⟨mm,by show k.s.heap.Ns env'.locals mm;rw[V.locals];exact hn,fun j b e=>?_⟩
  have e':(match Nat.beq j i with|true=>y.opt|false=>lkA j (σ.loc.filter (fun p=>cap.contains p.1)))=some b:=e
  cases q:Nat.beq j i with
  |true=>
   rw[q]at e'
   cases AV.opt_some e'
   have:j=i:=Nat.eq_of_beq_eq_true q
   subst this
   refine⟨X.lt,v,hv, .inl ⟨?_,hm⟩⟩
   show env'.scope.names.lookup (nm j)=_
   rw[V.scope]
   exact lookup_relabel_local X.il
  |false=>
   rw[q]at e'
   obtain⟨hc,hlk⟩:=zcy e'
   obtain⟨_,h2,h3⟩:=X.caps j (by simpa using hc)
   obtain⟨mm',hn',hl'⟩:=R.ns
   obtain⟨hlt,v',hv',hr⟩:=hl' j b hlk
   refine⟨hlt,v',hv', .inr ?_⟩
   rcases hr with⟨q1,_⟩|⟨_,a,q2,q3⟩
   ·rw[h3]at q1;cases q1
   ·refine⟨?_,a,?_,q3⟩
    ·show env'.scope.names.lookup (nm j)=_
     rw[V.scope]
     exact zee ok.kind h3 h2
    ·show env'.cells.lookup (nm j)=_
     rw[V.cells]
     exact zcz (comp_cl ok X).2 (clOf_has _ _ _ a (zak h2) q2)
 lz:=by show k.Z env'.locals;rw[V.locals];exact hL.z
 cz:=fun p hp=>by
  have hp':p∈clOf c.env sc'.names []:=by rw[←V.cells];exact hp
  exact R.cz _ (zak ((comp_cl ok X).1 p hp'))
 obj:=R.obj
 objn:=R.objn
 rx:=R.rx
 nodup:=by
  show(env'.locals::(env'.cells.map (·.2)++k.r.map (·.2))).Nodup
  rw[V.locals,V.cells]
  have nd:=R.nodup
  unfold own at nd
  have nd1:=(List.nodup_cons.mp nd).2
  obtain⟨n1,n2,n3⟩:=List.nodup_append.mp nd1
  obtain⟨c1,c2⟩:=comp_cl ok X
  have sub:∀a∈(clOf c.env sc'.names []).map (·.2),a∈c.env.cells.map (·.2):=fun a ha=>by
   obtain⟨p,hp,rfl⟩:=List.mem_map.mp ha
   exact List.mem_map_of_mem (f:=(·.2)) (zak (c1 p hp))
  refine List.nodup_cons.mpr ⟨fun hm=>?_,List.nodup_append.mpr ⟨zhe n1 c2 c1,n2,fun a ha b hb=>n3 a (sub a ha) b hb⟩⟩
  rcases List.mem_append.mp hm with hm|hm
  ·exact hL.own (List.mem_cons_of_mem _ (List.mem_append_left _ (sub _ hm)))
  ·exact hL.own (List.mem_cons_of_mem _ (List.mem_append_right _ hm))
 mine:=fun b hb hz=>by
  refine⟨.inl ⟨hb,hz⟩,fun hF=>?_⟩
  have hF':b=c.fe.locals∨b∈c.F:=List.mem_cons.mp hF
  have hb':b=L∨b∈k.r.map (·.2):=by
   have:b∈env'.locals::k.r.map (·.2):=hb
   rw[V.locals]at this
   exact List.mem_cons.mp this
  rcases hb' with rfl|hb'
  ·rcases hF' with h|h
   ·exact hL.ne h
   ·exact hL.nF h
  ·rcases hF' with h|h
   ·have nd:=R.nodup
    unfold own at nd
    rw[hfe]at h
    exact(List.nodup_cons.mp nd).1 (List.mem_append_right _ (h▸hb'))
   ·exact(R.mine b (List.mem_cons_of_mem _ hb') hz).2 h
 floc:=R.floc
 new:=fun i p hi hp=>by
  have:=(List.getElem?_eq_some_iff.mp hp).1
  exact absurd this (Nat.not_lt.mpr hi)
theorem prefix_len{α:Type}{a b:List α}(h:a<+:b)(e:a.length=b.length):b=a:=by
 obtain⟨t,rfl⟩:=h
 have:t=[]:=List.length_eq_zero_iff.mp (by simpa using e)
 rw[this,List.append_nil]
theorem comp_after{H:List AO}{σ':St}{k':Cs}(ok:c.Ok)(R:Rel c {σ with obj:=H} k)(hfe:c.fe=c.env)(V:CompEnv c sc' L env')(hL:Hid c k L)(R':Rel (c.comp k env') σ' k')(x:Nx k k')(hlen:σ'.obj.length=H.length):
  After c k k' (fun b=>b∈L::k.r.map (·.2)∧k.Z b) (c.fe.locals::c.F)∧Rel c {σ with obj:=σ'.obj} k':=by
 have hr:k'.r=k.r:=prefix_len x.r (by rw[←R'.objn,hlen];exact R.objn.symm)
 have A:After c k k' (fun b=>b∈L::k.r.map (·.2)∧k.Z b) (c.fe.locals::c.F):=by
  refine⟨hr,R'.rest,fun b hb=>?_,fun b hb=>?_,fun b o n1 n2 e=>R'.keep b o (fun q=>n1 (by have:=q;unfold FC.comp at this;rw[V.locals]at this;exact this)) n2 e,fun b o hb e=>R'.fr b o hb e,R'.z0,R'.zx,R'.zup⟩
  ·rcases List.mem_cons.mp hb with rfl|hb
   ·exact .inr ⟨rfl,by rw[hfe]⟩
   ·exact .inl hb
  ·rcases List.mem_cons.mp hb.1 with rfl|h
   ·exact hL.m
   ·obtain⟨p,hp,rfl⟩:=List.mem_map.mp h
    obtain⟨i,hi⟩:=List.getElem?_of_mem hp
    obtain⟨n1,n2,n3⟩:=R.obj_ne ok hi hb.2
    obtain⟨m1,m2⟩:=R.mine _ (zex hp) hb.2
    exact⟨hb.2,n1,n2,m1,m2⟩
 refine⟨A,?_⟩
 have:=R.after ok A (H:=σ'.obj) (fun i o e=>?_) hlen
 ·exact this
 ·obtain⟨p,hp,ho⟩:=R'.obj i o e
  exact⟨p,by rw[←hr];exact hp,ho⟩
end
section
variable{w:World}{E:Value→Shared→Prop}{c:FC}{σ:St}{k:Cs}
structure CX(c:FC)(σ:St)(k1:Cs)(I0 D L:Addr)(St:Nat→Heap→Prop)(fp:List Addr)(P:Nat→Value→Prop)(items:List AV)(env':Env)(sc':Scope)(i:Nat)(cap:List Nat):Prop where
 ok:c.Ok
 fe:c.fe=c.env
 X:CC c sc' i cap
 V:CompEnv c sc' L env'
 W:Walks pw c.w c.A I0 fp [I0] items.length P St
 fp:∀b∈fp,b=I0∨∃o,k1.g b o
 at_:∀j v,P j v→∀a,items[j]?=some a→VR k1.g k1.r a v
 live:∀i h,St i h→∃o,h.get? I0=some o
 ID:I0≠D
 IL:I0≠L
 DL:D≠L
structure LC(c:FC)(σ:St)(k1:Cs)(I0 D L:Addr)(St:Nat→Heap→Prop)(j:Nat)(acc:List PyData)(H:List AO)(kk:Cs):Prop where
 rel:Rel c {σ with obj:=H} kk
 nx:Nx k1 kk
 hI:Hid c kk I0
 hD:Hid c kk D
 hL:Hid c kk L
 st:St j kk.s.heap
 list:∃vs m,kk.s.heap.get? D=some {cls:= .type "list",dict:=none,data:= .seq vs m,slots:=#[]}∧RdAll kk.g vs.toList acc
 ns:∃mm,kk.s.heap.Ns L mm
section
variable{σ1:Mine.St}{k1 kk k':Cs}{I0 D L:Addr}{St:Nat→Heap→Prop}{fp:List Addr}{P:Nat→Value→Prop}{items:List AV}{env':Env}{sc':Scope}{i j:Nat}{cap:List Nat}{acc:List PyData}{H H':List AO}{m:Addr→Prop}{F':List Addr}{h':Heap}{tk:Nat}
variable(x:CX c σ1 k1 I0 D L St fp P items env' sc' i cap)(v:LC c σ1 k1 I0 D L St j acc H kk)
include x v
theorem LC.frame(A:After c kk k' m F')(hm:¬m I0):St j k'.s.heap:=x.W.frame _ _ _ v.st fun b hb o e=>by
 rcases x.fp b hb with rfl|⟨o',g⟩
 ·exact v.hI.get A hm e
 ·have g:=v.nx.g _ _ g
  cases g.1.symm.trans e
  exact((A.nx x.ok v.rel).g _ _ g).1
theorem LC.keep(A:After c kk k' m F')(hI:¬m I0)(hD:¬m D)(R':Rel c {σ1 with obj:=H'} k')(ns:∃mm,k'.s.heap.Ns L mm):LC c σ1 k1 I0 D L St j acc H' k':=
 ⟨R',v.nx.trans (A.nx x.ok v.rel),v.hI.after A,v.hD.after A,v.hL.after A,v.frame x A hI,v.list.imp fun vs h=>h.imp fun m h=>⟨v.hD.get A hD h.1,h.2.mono (A.nx x.ok v.rel).g⟩,ns⟩
theorem LC.item(st':St (j+1) h')(B:But kk I0 h'):LC c σ1 k1 I0 D L St (j+1) acc H (kk.at h' tk):=
 have h:=v.rel.hidset x.ok v.hI B (x.live _ _ st') tk
 have nx:=h.1.nx x.ok v.rel
 ⟨h.2,v.nx.trans nx,v.hI.after h.1,v.hD.after h.1,v.hL.after h.1,st',v.list.imp fun vs q=>q.imp fun m q=>⟨B.keep _ _ (Ne.symm x.ID) q.1,q.2.mono nx.g⟩,v.ns.imp fun mm q=>q.at' fun o=>B.keep _ o (Ne.symm x.IL)⟩
theorem LC.loc{mm:Str→Option Value}(hn:h'.Ns L mm)(hs:Heap.SameBut L kk.s.heap h'):LC c σ1 k1 I0 D L St j acc H (kk.at h' tk):=
 have h:=v.rel.hidset x.ok v.hL (But.of hs) (hn.imp fun o h=>h.elim fun _ h=>h.elim fun _ h=>h.1) tk
 v.keep x h.1 x.IL x.DL h.2 ⟨mm,hn⟩
theorem LC.app{z:Value}{d:PyData}{Q:Value→Shared→Prop}(hl:acc.length<sizeLine)(hz:Rd kk.g z d)(q:∀u k8,LC c σ1 k1 I0 D L St j (acc++[d]) H k8→Q u k8.s):wpAny (model pw c.w) c.A (call (.builtin "list.append") [.ref D,z]) Q E kk.s:=by
 obtain⟨vs,m,hg,hr⟩:=v.list
 have hsz:vs.size=acc.length:=hr.length
 refine call_meets PySem.F.slot_list_append ⟨_,hg,rfl⟩ PySem.F.entry_list_append (PySem.F.args_list_append_2 _ _) (list_append D vs m z (hsz▸Nat.le_of_lt hl)) ⟨hg,?_⟩
 have hself:=Heap.get?_update_self (Obj.mapSeq fun y=>y.push z) hg rfl
 have B:But kk D (kk.s.heap.update D (Obj.mapSeq fun y=>y.push z)):=zci (o:=default)
 have h:=v.rel.hidset x.ok v.hD B ⟨_,hself⟩ kk.s.toks
 have nx:=h.1.nx x.ok v.rel
 exact q _ _ ⟨h.2,v.nx.trans nx,v.hI.after h.1,v.hD.after h.1,v.hL.after h.1,v.frame x h.1 x.ID,⟨_,_,hself,by rw[Array.toList_push];exact(hr.mono nx.g).append (.cons (hz.mono nx.g) .nil)⟩,v.ns.imp fun mm q=>q.at' fun o=>B.keep _ o (Ne.symm x.DL)⟩
theorem comp_turn{elt:X}{pi:Pos}{C:CS}{N:Value→Shared→Prop}{Q:Shared→Prop}{II:List PyData→List AO→Prop}{y:AV}{vy:Value}(hl:acc.length<sizeLine)
  (ihe:∀(c':FC) σ k Ψ Ξ,c'.A=c.A→c'.w=c.w→c'.Ok→c'.env.scope=relabel sc' c.env→Rel c' σ k→awp C elt σ Ψ Ξ→wpAny (model pw c'.w) c'.A (eval elt.py c'.env) (Post c' k Ψ) (EX c' Ξ) k.s)
  (hv:VR kk.g kk.r y vy)(ht:awp C elt ⟨(i,y)::σ1.loc.filter (fun p=>cap.contains p.1),H⟩ (fun z σ''=>onD z fun d=>σ''.obj.length=H.length∧II (acc++[d]) σ''.obj) (fun _=>False))
  (q:∀d H' k8,II (acc++[d]) H'→LC c σ1 k1 I0 D L St j (acc++[d]) H' k8→Q k8.s):
  wpAny (model pw c.w) c.A (assign (.Name (nm i) pi) env' vy) (fun _ s₂=>wpAny (model pw c.w) c.A (eval elt.py env') (fun z s₃=>wpAny (model pw c.w) c.A (call (.builtin "list.append") [.ref D,z]) (fun _ s₄=>Q s₄) N s₃) N s₂) N kk.s:=by
 obtain⟨mm,hmm⟩:=v.ns
 have hkl:env'.kindOf (nm i)=some .local:=by
  show env'.scope.names.lookup (nm i)=_
  rw[x.V.scope];exact lookup_relabel_local x.X.il
 refine wpAny_assign_Name (wpAny_storeName_local hkl (x.V.locals▸hmm) (fun h6 hn6 hs6=>?_) (by rw[x.V.scope];show(sc'.kind==_||(sc'.kind==_&&_))=false;rw[x.X.kind];rfl))
 rw[x.V.locals]at hn6 hs6
 have v6:LC c σ1 k1 I0 D L St j acc H (kk.at h6 (kk.s.toks+1)):=v.loc x hn6 hs6
 have nx6:Nx kk (kk.at h6 (kk.s.toks+1)):=(But.of hs6).nx v.hL.z _
 refine wpAny_mono (ihe (c.comp (kk.at h6 (kk.s.toks+1)) env') _ _ _ (fun _=>False) rfl rfl (comp_ok x.ok v6.rel x.fe x.X x.V v6.hL) x.V.scope (comp_rel (σ:=σ1) (H:=H) x.ok v6.rel x.fe x.X x.V v6.hL hn6 (if_pos rfl) (nx6.vr hv)) ht) (fun vz s3 hz=>?_) (fun e s3 hz=>hz.elim fun _ h=>h.elim fun _ h=>h.1.elim)
 obtain⟨z,σz,k7,rfl,qz,x7,R7,hvz⟩:=hz
 refine onD.el qz hvz fun d qd hvz=>?_
 have h7:=comp_after x.ok v6.rel x.fe x.V v6.hL R7 x7 qd.1
 have nm7:∀b,Hid c (kk.at h6 (kk.s.toks+1)) b→b≠L→¬(b∈L::kk.r.map (·.2)∧kk.Z b):=fun b hb hn hm=>(List.mem_cons.mp hm.1).elim hn fun hm=>hb.own (List.mem_cons_of_mem _ (List.mem_append_right _ hm))
 have v7:=v6.keep x h7.1 (nm7 _ v6.hI x.IL) (nm7 _ v6.hD x.DL) h7.2 (R7.ns.imp fun mm h=>x.V.locals▸h.1)
 exact v7.app x hl hvz fun u k8=>q d _ k8 qd.2
theorem comp_end{Ξ:Int→Prop}{use:Option (Value→Sem Unit)}{Q:Value→Shared→Prop}{Φ:AV→Mine.St→Prop}{k:Cs}(nx1:Nx k k1)(B:But kk I0 h')(hp:Φ (.d (.list acc)) {σ1 with obj:=H})
  (hend:∀a σ' kD v L,Φ a σ'→Rel c σ' kD→Nx k kD→Hid c kD L→(∃mm,kD.s.heap.Ns L mm)→VR kD.g kD.r a v→compPost (model pw c.w) c.A (EX c Ξ) use Q v L (.ok .next) kD.s):
  compPost (model pw c.w) c.A (EX c Ξ) use Q (.ref D) L (.ok .next) {kk.s with heap:=h',toks:=tk}:=by
 have h5:=v.rel.gone x.ok v.hI B tk
 have hD5:=v.hD.gone (z:=I0) (h':=h') (t:=tk) (Ne.symm x.ID)
 have hL5:=v.hL.gone (z:=I0) (h':=h') (t:=tk) (Ne.symm x.IL)
 have h7:=h5.2.gone x.ok hD5 (But.refl _ D) tk
 obtain⟨vs,m,hg,hr⟩:=v.list
 exact hend (.d (.list acc)) {σ1 with obj:=H} _ (.ref D) L hp h7.2 (nx1.trans ((v.nx.trans h5.1).trans h7.1)) (hL5.gone (Ne.symm x.DL)) (v.ns.imp fun mm q=>q.at' fun o=>B.keep _ o (Ne.symm x.IL)) (Rd.list (o:={cls:= .type "list",dict:=none,data:= .seq vs m,slots:=#[]}) (n:=m) ⟨B.keep _ _ (Ne.symm x.ID) hg,fun z=>z.2 rfl⟩ rfl rfl (hr.mono (h5.1.trans h7.1).g))
end
inductive LI(c:FC)(σ:St)(k1:Cs)(I0 D L:Addr)(St:Nat→Heap→Prop)(II:List AV→List PyData→List AO→Prop)(items:List AV)(n:Nat)(s:Shared):Prop
 |mk (rest:List AV) (acc:List PyData) (H:List AO) (kk:Cs) (e:s=kk.s) (l:n=rest.length) (v:LC c σ k1 I0 D L St acc.length acc H kk) (d:items.drop acc.length=rest) (le:acc.length≤items.length) (inv:II rest acc H)
theorem drop_cons{α:Type}{l r:List α}{j:Nat}{y:α}(h:l.drop j=y::r):l[j]?=some y∧l.drop (j+1)=r:=by
 refine⟨?_,?_⟩
 ·have:=congrArg (·[0]?) h
  rw[List.getElem?_drop]at this
  exact this
 ·rw[←List.drop_drop,h];rfl
section
variable{elt it:X}{pi:Pos}{p:Pos}{Φ:AV→Mine.St→Prop}{Ξ:Int→Prop}{C:CS}{use:Option (Value→Sem Unit)}{Q:Value→Shared→Prop}{σ1:Mine.St}{k1:Cs}{I0 D L:Addr}{St:Nat→Heap→Prop}{fp:List Addr}{P:Nat→Value→Prop}{items:List AV}{env':Env}{sc':Scope}{i:Nat}{cap:List Nat}{II:List AV→List PyData→List AO→Prop}
variable(nx1:Nx k k1)(hlen:items.length≤sizeLine)
  (ihe:∀(c':FC) σ k Ψ Ξ,c'.A=c.A→c'.w=c.w→c'.Ok→c'.env.scope=relabel sc' c.env→Rel c' σ k→awp C elt σ Ψ Ξ→wpAny (model pw c'.w) c'.A (eval elt.py c'.env) (Post c' k Ψ) (EX c' Ξ) k.s)
  (hend:∀a σ' kD v L,Φ a σ'→Rel c σ' kD→Nx k kD→Hid c kD L→(∃mm,kD.s.heap.Ns L mm)→VR kD.g kD.r a v→compPost (model pw c.w) c.A (EX c Ξ) use Q v L (.ok .next) kD.s)
  (hturn:∀y r acc H,II (y::r) acc H→fc ((i,y)::σ1.loc.filter (fun p=>cap.contains p.1)) fun L=>awp C elt ⟨L,H⟩ (fun z σ''=>onD z fun d=>σ''.obj.length=H.length∧II r (acc++[d]) σ''.obj) (fun _=>False))
  (hfin:∀acc H,II [] acc H→Φ (.d (.list acc)) ⟨σ1.loc,H⟩)
include nx1 hlen ihe hend hturn hfin
theorem comp_loop{k4:Cs}(x:CX c σ1 k1 I0 D L St fp P items env' sc' i cap)(v:LC c σ1 k1 I0 D L St 0 [] σ1.obj k4)(hI:II items [] σ1.obj):
  codeAny (model pw c.w) c.A (.compStart (.ListComp elt.py [⟨.Name (nm i) pi,it.py,[],0⟩] sc' p) 0 (.ref I0) (.ref D) env') (compPost (model pw c.w) c.A (EX c Ξ) use Q (.ref D) L) k4.s:=by
 have loop:codeAny (model pw c.w) c.A (.compLoop (.ListComp elt.py [⟨.Name (nm i) pi,it.py,[],0⟩] sc' p) 0 (.ref I0) (.ref D) env') (compPost (model pw c.w) c.A (EX c Ξ) use Q (.ref D) L) k4.s:=by
  refine codeAny_compLoop_list (I:=LI c σ1 k1 I0 D L St II items) (fun n s hI=>?_) items.length ⟨items,[],σ1.obj,k4,rfl,rfl,v,rfl,Nat.zero_le _,hI⟩
  obtain⟨rest,acc,H,kk,rfl,rfl,v,d,le,inv⟩:=hI
  have but:∀{h':Heap},(∀b o,b∉ [I0]→kk.s.heap.get? b=some o→h'.get? b=some o)→But kk I0 h':=fun h=>⟨fun b o n=>h b o fun z=>n (List.mem_singleton.mp z)⟩
  cases rest with
  |nil=>
   have hj:acc.length=items.length:=Nat.le_antisymm le (List.drop_eq_nil_iff.mp d)
   exact x.W.done kk.s _ _ (hj▸v.st) fun h' tk keep=>comp_end x v nx1 (but keep) (hfin acc H inv) hend
  |cons y r=>
   have hd:=drop_cons d
   have hj:=(List.getElem?_eq_some_iff.mp hd.1).1
   refine x.W.item _ kk.s _ _ hj v.st fun vy h' tk hPv st' keep=>?_
   have v5:=v.item x (tk:=tk) st' (but keep)
   exact comp_turn x v5 (II:=II r) (Nat.lt_of_lt_of_le hj hlen) ihe (v5.nx.vr (x.at_ _ vy hPv y hd.1)) (Eq.mp (fc_eq _ _) (hturn y r acc H inv)) fun d H' k8 q v8=>⟨r.length,Nat.lt_succ_self _,r,acc++[d],H',k8,rfl,rfl,by rw[List.length_append];exact v8,by rw[List.length_append];exact hd.2,by rw[List.length_append];exact hj,q⟩
 exact codeAny_compStart_list loop (x.W.self 0 _ _ _ v.st loop)
theorem comp_env{k3:Cs}(ok:c.Ok)(fe:c.fe=c.env)(X:CC c sc' i cap)(W:Walks pw c.w c.A I0 fp [I0] items.length P St)(hfp:∀b∈fp,b=I0∨∃o,k1.g b o)(hP:∀j v,P j v→∀a,items[j]?=some a→VR k1.g k1.r a v)(live:∀i h,St i h→∃o,h.get? I0=some o)(ID:I0≠D)
  (R3:Rel c σ1 k3)(nx3:Nx k1 k3)(hI3:Hid c k3 I0)(hD3:Hid c k3 D)(st:St 0 k3.s.heap)(hg:k3.s.heap.get? D=some {cls:= .type "list",dict:=none,data:= .seq #[],slots:=#[]})(gI:∃o,k3.s.heap.get? I0=some o)(hI:II items [] σ1.obj):
  wpAny (model pw c.w) c.A (newFunctionEnv sc' c.env.globals (clOf c.env sc'.names []) [] c.env.qual none .none (some c.env)) (fun cenv s₄=>
    codeAny (model pw c.w) c.A (.compStart (.ListComp elt.py [⟨.Name (nm i) pi,it.py,[],0⟩] sc' p) 0 (.ref I0) (.ref D) {cenv with scope:=relabel sc' c.env}) (compPost (model pw c.w) c.A (EX c Ξ) use Q (.ref D) cenv.locals) s₄) (EX c Ξ) k3.s:=by
 refine wpAny_newFunctionEnv X.kinds (fun _ h=>nomatch h) (fun h4 hn4 hs4=>?_) X.kind
 have dL:k3.s.heap.get? k3.s.heap.objs.size=none:=zbc _
 have gr:Grow k3 h4:=⟨fun b o e=>hs4.extBut b o (Nat.ne_of_lt (Heap.lt_size e)) (Heap.get?_push_of_some _ e)⟩
 have h4':=R3.hide ok (L:=[k3.s.heap.objs.size]) (h':=h4) gr (fun b hb=>List.mem_singleton.mp hb▸dL) (fun b hb=>List.mem_singleton.mp hb▸hn4.imp fun o h=>h.elim fun _ h=>h.elim fun _ h=>h.1) (k3.s.toks+0)
 have H4:Hid c _ k3.s.heap.objs.size:=Hid.of_hide (t:=k3.s.toks+0) (h':=h4) ok R3 (List.mem_singleton.mpr rfl) dL
 have IL:I0≠k3.s.heap.objs.size:=gI.elim fun o e=>Nat.ne_of_lt (Heap.lt_size e)
 have DL:D≠k3.s.heap.objs.size:=Nat.ne_of_lt (Heap.lt_size hg)
 have nx4:=nx3.trans (h4'.1.nx ok R3)
 exact comp_loop (env':={newEnv sc' k3.s.heap.objs.size c.env.globals (clOf c.env sc'.names []) c.env.qual none .none (some c.env) builtinsNs with scope:=relabel sc' c.env}) (L:=k3.s.heap.objs.size) nx1 hlen ihe hend hturn hfin ⟨ok,fe,X,⟨rfl,rfl,rfl,ok.blt,rfl⟩,W,hfp,hP,live,ID,IL,DL⟩
  ⟨h4'.2,nx4,hI3.after h4'.1,hD3.after h4'.1,H4,W.frame _ _ _ st fun b hb o e=>gr.keep b o e,⟨_,_,gr.keep _ _ hg, .nil⟩,⟨_,hn4⟩⟩ hI
end
theorem comp_core{elt it:X}{i:Nat}{pi:Pos}{cap:List Nat}{sc':Scope}{p p0:Pos}{Φ:AV→St→Prop}{Ξ:Int→Prop}{C:CS}{use:Option (Value→Sem Unit)}{Q:Value→Shared→Prop}(ok:c.Ok)(R:Rel c σ k)(hfe:c.fe=c.env)(hk:noGen sc'=true)(hc:zfg c.env.scope sc' i cap=true)
  (ihit:∀Ψ,awp C it σ Ψ Ξ→wpAny (model pw c.w) c.A (eval it.py c.env) (Post c k Ψ) (EX c Ξ) k.s)
  (ihe:∀(c':FC) σ k Ψ Ξ,c'.A=c.A→c'.w=c.w→c'.Ok→c'.env.scope=relabel sc' c.env→Rel c' σ k→awp C elt σ Ψ Ξ→wpAny (model pw c'.w) c'.A (eval elt.py c'.env) (Post c' k Ψ) (EX c' Ξ) k.s)
  (hend:∀a σ' kD v L,Φ a σ'→Rel c σ' kD→Nx k kD→Hid c kD L→(∃mm,kD.s.heap.Ns L mm)→VR kD.g kD.r a v→compPost (model pw c.w) c.A (EX c Ξ) use Q v L (.ok .next) kD.s)
  (h:awp C (X.comp elt i pi it cap sc' p) σ Φ Ξ):wpAny (model pw c.w) c.A (comprehension (.ListComp elt.py [⟨.Name (nm i) pi,it.py,[],0⟩] sc' p) sc' c.env p0 (newList []) false (eval it.py c.env) use) Q (EX c Ξ) k.s:=by
 have X:=compChk_ok hk hc
 have hclos:=clos_eq (sc:=sc') (env:=c.env) fun x hx hf=>ok.cellx _ (X.free x hx hf)
 refine wpAny_comprehension_free (use:=use) (cl:=clOf c.env sc'.names []) rfl (noFold it c.env) hclos X.kind X.locs (Post.use (ihit _ h) fun x σ1 k1 vx q nx1 R1 hv1=>onS.el q fun items hit q=>?_)
 obtain⟨hlen,II,hII,hturn,hfin⟩:=q
 refine iter_ok ok R1 hit hlen hv1 fun ob St hob itr st0=>?_
 obtain⟨fp,P,W,hfp,hP⟩:=itr.walks
 have dI:k1.s.heap.get? k1.s.heap.objs.size=none:=zbc _
 have h2:=R1.hide ok (L:=[k1.s.heap.objs.size]) (h':=k1.s.heap.push ob) (Grow.push k1 ob) (fun b hb=>List.mem_singleton.mp hb▸dI) (fun b hb=>List.mem_singleton.mp hb▸⟨_,hob⟩) k1.s.toks
 have H2:Hid c _ k1.s.heap.objs.size:=Hid.of_hide (t:=k1.s.toks) (h':=k1.s.heap.push ob) ok R1 (List.mem_singleton.mpr rfl) dI
 have nx2:=h2.1.nx ok R1
 generalize ek:k1.hide [k1.s.heap.objs.size] (k1.s.heap.push ob) k1.s.toks=k2 at h2 H2 nx2
 have hob2:k2.s.heap.get? k1.s.heap.objs.size=some ob:=ek▸hob
 have st2:St 0 k2.s.heap:=ek▸st0
 have es:({k1.s with heap:=k1.s.heap.push ob}:Shared)=k2.s:=ek▸rfl
 rw[es]
 generalize k1.s.heap.objs.size=I0 at*
 show wpAny _ _ (newObj (.type "list") (.seq #[])) _ _ _
 refine wpAny_newObj_type ?_
 have dD:k2.s.heap.get? k2.s.heap.objs.size=none:=zbc _
 have gD:=Heap.get?_push_size k2.s.heap (o:={cls:= .type "list",dict:=none,data:= .seq #[]}) rfl
 have h3:=h2.2.hide ok (L:=[k2.s.heap.objs.size]) (h':=k2.s.heap.push {cls:= .type "list",dict:=none,data:= .seq #[]}) (Grow.push k2 _) (fun b hb=>List.mem_singleton.mp hb▸dD) (fun b hb=>List.mem_singleton.mp hb▸⟨_,gD⟩) k2.s.toks
 have H3:Hid c _ k2.s.heap.objs.size:=Hid.of_hide (t:=k2.s.toks) (h':=k2.s.heap.push {cls:= .type "list",dict:=none,data:= .seq #[]}) ok h2.2 (List.mem_singleton.mpr rfl) dD
 have nx3:=h3.1.nx ok h2.2
 have hI3:=H2.after h3.1
 generalize ek3:k2.hide [k2.s.heap.objs.size] (k2.s.heap.push {cls:= .type "list",dict:=none,data:= .seq #[]}) k2.s.toks=k3 at h3 H3 nx3 hI3
 have es3:({k2.s with heap:=k2.s.heap.push {cls:= .type "list",dict:=none,data:= .seq #[]}}:Shared)=k3.s:=ek3▸rfl
 have gr:k3.s.heap=k2.s.heap.push {cls:= .type "list",dict:=none,data:= .seq #[]}:=ek3▸rfl
 rw[es3]
 exact comp_env nx1 hlen ihe hend hturn hfin ok hfe X W hfp hP itr.live (Nat.ne_of_lt (Heap.lt_size hob2)) h3.2 (nx2.trans nx3) hI3 H3 (W.frame _ _ _ st2 fun b hb o e=>gr▸Heap.get?_push_of_some _ e) (gr▸gD) ⟨_,gr▸Heap.get?_push_of_some _ hob2⟩ hII
theorem comp_case{elt it:X}{i:Nat}{pi:Pos}{cap:List Nat}{sc':Scope}{p:Pos}{Φ:AV→St→Prop}{Ξ:Int→Prop}{C:CS}(ok:c.Ok)(R:Rel c σ k)(hfe:c.fe=c.env)(hk:noGen sc'=true)(hc:zfg c.env.scope sc' i cap=true)
  (ihit:∀Ψ,awp C it σ Ψ Ξ→wpAny (model pw c.w) c.A (eval it.py c.env) (Post c k Ψ) (EX c Ξ) k.s)
  (ihe:∀(c':FC) σ k Ψ Ξ,c'.A=c.A→c'.w=c.w→c'.Ok→c'.env.scope=relabel sc' c.env→Rel c' σ k→awp C elt σ Ψ Ξ→wpAny (model pw c'.w) c'.A (eval elt.py c'.env) (Post c' k Ψ) (EX c' Ξ) k.s)
  (h:awp C (X.comp elt i pi it cap sc' p) σ Φ Ξ):wpAny (model pw c.w) c.A (eval (X.comp elt i pi it cap sc' p).py c.env) (Post c k Φ) (EX c Ξ) k.s:=by
 show wpAny _ _ (eval (.ListComp elt.py [⟨.Name (nm i) pi,it.py,[],0⟩] sc' p) c.env) _ _ _
 rw[eval_ListComp]
 refine comp_core (use:=none) ok R hfe hk hc ihit ihe (fun a σ' kD v L q R' x hL hn hv=>?_) h
 obtain⟨mm,hmm⟩:=hn
 refine⟨mm,hmm,fun h6 hs6=>?_⟩
 obtain⟨x6,R6⟩:=R'.gone ok hL (But.of hs6) kD.s.toks
 exact⟨a,σ',_,rfl,q,x.trans x6,R6,x6.vr hv⟩
theorem comp_use{elt it:X}{i t:Nat}{pi pt:Pos}{cap:List Nat}{sc':Scope}{p:Pos}{Φ:St→Prop}{Ξ:Int→Prop}{C:CS}(ok:c.Ok)(R:Rel c σ k)(hfe:c.fe=c.env)(hk:noGen sc'=true)(hc:zfg c.env.scope sc' i cap=true)
  (ihit:∀Ψ,awp C it σ Ψ Ξ→wpAny (model pw c.w) c.A (eval it.py c.env) (Post c k Ψ) (EX c Ξ) k.s)
  (ihe:∀(c':FC) σ k Ψ Ξ,c'.A=c.A→c'.w=c.w→c'.Ok→c'.env.scope=relabel sc' c.env→Rel c' σ k→awp C elt σ Ψ Ξ→wpAny (model pw c'.w) c'.A (eval elt.py c'.env) (Post c' k Ψ) (EX c' Ξ) k.s)
  (ht:t<nms.length)(hl:c.env.kindOf (nm t)=some .local)
  (h:awp C (X.comp elt i pi it cap sc' p) σ (fun a σ'=>(σ'.set t a).fc Φ) Ξ):
  wpAny (model pw c.w) c.A (evalThenUse (X.comp elt i pi it cap sc' p).py c.env (assign (.Name (nm t) pt) c.env)) (fun _=>Pst c k Φ) (EX c Ξ) k.s:=by
 show wpAny _ _ (comprehension (.ListComp elt.py [⟨.Name (nm i) pi,it.py,[],0⟩] sc' p) sc' c.env _ (newList []) false (eval it.py c.env) (some _)>>=fun _=>pure ()) _ _ _
 refine wpAny_bind (comp_core (use:=some (assign (.Name (nm t) pt) c.env)) (Q:=fun _ s'=>wpAny (model pw c.w) c.A (pure ():Sem Unit) (fun _=>Pst c k Φ) (EX c Ξ) s') ok R hfe hk hc ihit ihe (fun a σ' kD v L q R' x hL hn hv=>?_) h)
 obtain⟨mm,hmm⟩:=hn
 show wpAny _ _ (assign (.Name (nm t) pt) c.env v) _ _ _
 obtain⟨m0,hn0,hl0⟩:=R'.ns
 refine wpAny_assign_Name (wpAny_storeName_local hl hn0 (fun h' hn' hs'=>?_) (by rw[ok.kind];rfl))
 have nLl:L≠c.env.locals:=fun e=>hL.own (e▸zef)
 have R2:=R'.setLoc ok (t:=kD.s.toks+1) hl0 hn' hs' ht hl hv
 have x2:=(But.of (k:=kD) hs').nx R'.lz (kD.s.toks+1)
 have hL2:Hid c (kD.at h' (kD.s.toks+1)) L:=⟨hL.z,hL.own,hL.new,hL.nF,hL.ne⟩
 rw[St.fc_eq]at q
 refine⟨mm,hmm.at' fun o e=>hs'.extBut _ o nLl e,fun h6 hs6=>wpAny_pure ?_⟩
 obtain⟨x6,R6⟩:=R2.gone ok hL2 (But.of (k:=kD.at h' (kD.s.toks+1)) hs6) (kD.s.toks+1)
 exact⟨_,_,rfl,q,(x.trans x2).trans x6,R6⟩
end
noncomputable def Fe(c:FC)(b:Bool):Prop:=b=true∨c.fe=c.env
theorem Fe.and{c:FC}{a b:Bool}(h:Fe c (a&&b)):Fe c a∧Fe c b:=by
 rcases h with h|h
 ·obtain⟨x,y⟩:=and2 h;exact⟨.inl x, .inl y⟩
 ·exact⟨.inr h, .inr h⟩
theorem lookup_relabel{sc:Scope}{env:Env}{x:Str}{kd:NameKind}(h:kd≠ .free):sc.names.lookup x=some kd→(relabel sc env).names.lookup x=some kd:=by
 unfold relabel
 dsimp only
 induction sc.names with
 |nil=>intro e;cases e
 |cons p r ih=>
  obtain⟨n,k⟩:=p
  intro e
  rw[List.lookup_cons]at e
  rw[List.map_cons]
  cases q:x==n with
  |true=>
   rw[q]at e
   cases e
   have:(kd==NameKind.free)=false:=by simpa using h
   rw[this]
   show List.lookup x ((n,kd)::_)=_
   rw[List.lookup_cons,q]
  |false=>
   rw[q]at e
   dsimp only
   split<;>(rw[List.lookup_cons,q];exact ih e)
theorem zcj{sc:Scope}{env:Env}{x:String}(h:gl sc x=true):gl (relabel sc env) x=true:=by
 unfold gl at h ⊢
 rw[lookup_relabel (kd:= .globalImplicit) (by decide) (by simpa using h)]
 rfl
theorem and2i{a b:Bool}(h:a=true)(g:b=true):(a&&b)=true:=by rw[h,g];rfl
theorem zga{sc:Scope}{env:Env}{x:X}:zan x=true→chk none sc x=true→chk none (relabel sc env) x=true:=by
 induction x using X.rec (motive_2:=fun l=>zaz l=true→chks none sc l=true→chks none (relabel sc env) l=true)with
 |loc=>exact fun _ h=>h
 |const=>exact fun _ h=>h
 |glob=>exact fun _ h=>and2i (and2 h).1 (zcj (and2 h).2)
 |attr e _ _ ih=>exact fun n h=>and2i (and2 h).1 (ih n (and2 h).2)
 |bin _ _ _ _ a b=>exact fun n h=>and2i (a (and2 n).1 (and2 h).1) (b (and2 n).2 (and2 h).2)
 |cmp _ _ _ _ a b=>exact fun n h=>and2i (a (and2 n).1 (and2 h).1) (b (and2 n).2 (and2 h).2)
 |sub _ _ _ a b=>exact fun n h=>and2i (a (and2 n).1 (and2 h).1) (b (and2 n).2 (and2 h).2)
 |slTo _ _ _ _ a b=>exact fun n h=>and2i (a (and2 n).1 (and2 h).1) (b (and2 n).2 (and2 h).2)
 |slFrom _ _ _ _ a b=>exact fun n h=>and2i (a (and2 n).1 (and2 h).1) (b (and2 n).2 (and2 h).2)
 |cmp2=>exact fun _ h=>h
 |and _ _ ih=>exact ih
 |or _ _ ih=>exact ih
 |not _ _ ih=>exact ih
 |ite _ _ _ _ a b c=>exact fun n h=>and2i (a (and2 n).1 (and2 h).1) (and2i (b (and2 (and2 n).2).1 (and2 (and2 h).2).1) (c (and2 (and2 n).2).2 (and2 (and2 h).2).2))
 |sl _ _ _ _ _ a b c=>exact fun n h=>and2i (a (and2 n).1 (and2 h).1) (and2i (b (and2 (and2 n).2).1 (and2 (and2 h).2).1) (c (and2 (and2 n).2).2 (and2 (and2 h).2).2))
 |tup _ _ ih=>exact fun n h=>and2i (ih n (and2 h).1) (and2 h).2
 |list _ _ ih=>exact fun n h=>and2i (ih n (and2 h).1) (and2 h).2
 |listM _ _ ih=>exact fun n h=>and2i (ih n (and2 h).1) (and2 h).2
 |opsGet _ _ _ _ _ _ _ _ _ a b=>exact fun n h=>and2i (a (and2 n).1 (and2 h).1) (and2i (b (and2 n).2 (and2 (and2 h).2).1) (and2 (and2 h).2).2)
 |call _ _ _ _ ih=>exact fun n h=>and2i (and2 h).1 (and2i (zcj (and2 (and2 h).2).1) (ih n (and2 (and2 h).2).2))
 |ctor _ _ _ _ ih=>exact fun n h=>and2i (and2 h).1 (and2i (zcj (and2 (and2 h).2).1) (ih n (and2 (and2 h).2).2))
 |err _ _ _ _ a b=>exact fun n h=>and2i (zcj (and2 h).1) (and2i (a (and2 n).1 (and2 (and2 h).2).1) (b (and2 n).2 (and2 (and2 h).2).2))
 |meth _ _ _ _ _ a l=>exact fun n h=>and2i (and2 h).1 (and2i (and2 (and2 h).2).1 (and2i (a (and2 n).1 (and2 (and2 (and2 h).2).2).1) (and2i (l (and2 n).2 (and2 (and2 (and2 (and2 h).2).2).2).1) (and2 (and2 (and2 (and2 h).2).2).2).2)))
 |bi _ _ _ _ ih=>exact fun n h=>and2i (zcj (and2 h).1) (ih n (and2 h).2)
 |sm _ _ _ _ _ a l=>exact fun n h=>and2i (and2 h).1 (and2i (a (and2 n).1 (and2 (and2 h).2).1) (and2i (l (and2 n).2 (and2 (and2 (and2 h).2).2).1) (and2 (and2 (and2 h).2).2).2))
 |comp=>exact fun n _=>Bool.noConfusion n
 |frz=>exact fun _ h=>Bool.noConfusion (and2 h).1
 |nil=>rfl
 |cons _ _ a r n h=>exact and2i (a (and2 n).1 (and2 h).1) (r (and2 n).2 (and2 h).2)
theorem zgz{M:Model}{A:Around}{E:Value→Shared→Prop}{s:Shared}{p:Pos}{x y:Sem Value}{r:List (Sem Value)}{op:BoolOp}{Q:Value→Shared→Prop}
  (h:wpAny M A x (fun v s₁=>∃b,v= .bool b∧if b=(match op with| .Or=>true| .And=>false)then Q v s₁ else wpAny M A (boolOp p op (y::r)) Q E s₁) E s):wpAny M A (boolOp p op (x::y::r)) Q E s:=by
 rw[boolOp]
 ·refine wpAny_bind (wpAny_mono h (fun v s₁ h₁=>?_) fun _ _ e=>e)
  obtain⟨b,rfl,h₁⟩:=h₁
  refine wpAny_bind (wpAny_standAt (wpAny_bind (wpAny_holding (wpAny_truthy_bool ?_))))
  cases op<;>cases b<;>first|exact wpAny_pure h₁|exact h₁
 ·intro z;cases z
structure Pre(C:CS)(fz:Option Nat)(c:FC)(σ:St)(k:Cs):Prop where
 HC:zbe C c
 ok:c.Ok
 fz:∀n,fz=some n→c.n0≤n
 R:Rel c σ k
theorem Pre.to{C:CS}{fz:Option Nat}{c:FC}{σ σ':St}{k k':Cs}(P:Pre C fz c σ k)(R:Rel c σ' k'):Pre C fz c σ' k':=⟨P.HC,P.ok,P.fz,R⟩
noncomputable def AOk(C:CS)(x:X):Prop:=∀{fz:Option Nat}{c:FC}{σ:St}{k:Cs}{Φ:AV→St→Prop}{Ξ:Int→Prop},Pre C fz c σ k→chk fz c.env.scope x=true→Fe c (zan x)→awp C x σ Φ Ξ→wpAny (model pw c.w) c.A (eval x.py c.env) (Post c k Φ) (EX c Ξ) k.s
noncomputable def TOk(C:CS)(x:X):Prop:=∀{fz:Option Nat}{c:FC}{σ:St}{k:Cs}{Φ:Bool→St→Prop}{Ξ:Int→Prop},Pre C fz c σ k→chk fz c.env.scope x=true→Fe c (zan x)→awt C x σ Φ Ξ→wpAny (model pw c.w) c.A (isTrue x.py c.env (eval x.py c.env)) (PostB c k Φ) (EX c Ξ) k.s
noncomputable def LOk(C:CS)(l:Xs):Prop:=∀{fz:Option Nat}{c:FC}{σ:St}{k:Cs}{Ψ:List AV→St→Prop}{Ξ:Int→Prop},Pre C fz c σ k→chks fz c.env.scope l=true→Fe c (zaz l)→awps C l σ Ψ Ξ→∀pos:Pos,wpAny (model pw c.w) c.A (spliced (backTo pos (starEach l.py c.env))) (PostS c k l.len Ψ) (EX c Ξ) k.s
noncomputable def awbo(C:CS)(op:BoolOp)(l:Xs)(σ:St)(Φ:AV→St→Prop)(Ξ:Int→Prop):Prop:=match op with
 | .And=>awand C l σ Φ Ξ
 | .Or=>awor C l σ Φ Ξ
noncomputable def awto(C:CS)(op:BoolOp)(l:Xs)(σ:St)(Φ:Bool→St→Prop)(Ξ:Int→Prop):Prop:=match op with
 | .And=>awtand C l σ Φ Ξ
 | .Or=>awtor C l σ Φ Ξ
noncomputable def BOk(C:CS)(l:Xs):Prop:=∀(op:BoolOp){fz:Option Nat}{c:FC}{σ:St}{k:Cs}{Φ:AV→St→Prop}{Ξ:Int→Prop},Pre C fz c σ k→chks fz c.env.scope l=true→Fe c (zaz l)→awbo C op l σ Φ Ξ→∀pos:Pos,wpAny (model pw c.w) c.A (boolOp pos op (evalEach l.py c.env)) (Post c k Φ) (EX c Ξ) k.s
noncomputable def BTOk(C:CS)(l:Xs):Prop:=∀(op:BoolOp){fz:Option Nat}{c:FC}{σ:St}{k:Cs}{Φ:Bool→St→Prop}{Ξ:Int→Prop},Pre C fz c σ k→chks fz c.env.scope l=true→Fe c (zaz l)→awto C op l σ Φ Ξ→∀(pos:Pos)(whole:Sem Value),wpAny (model pw c.w) c.A (isTrue (.BoolOp op l.py pos) c.env whole) (PostB c k Φ) (EX c Ξ) k.s
section
variable{C:CS}
theorem a_const(cc:Const)(p:Pos):AOk C (.const cc p):=fun{fz c σ k Φ Ξ} P hk hfe h=>by
 show wpAny _ _ (constValue c.env cc) _ _ _
 induction cc with
 |none=>exact wpAny_pure (Out.same P.R Post.out h .none)
 |bool _=>exact wpAny_pure (Out.same P.R Post.out h (.bool _))
 |int _=>exact wpAny_mkInt (Out.tok P.R Post.out h _ (.int _ _))
 |str _=>exact wpAny_mkText (Out.tok P.R Post.out h _ (.str _ _))
 |_=>exact False.elim h
theorem a_attr{e:X}(A:AOk C e)(f:Nat)(p:Pos):AOk C (.attr e f p):=fun P hk hfe h=>Attribute_any_ (Post.use (A P (and2 hk).2 hfe h) fun a σ' k' v q x R' hv=>Post.wp x (attr_ok P.ok R' q hv Post.out)) (by rw[arm_eval_Attribute,base_py (and2 hk).1])
theorem a_bin{a b:X}(A:AOk C a)(B:AOk C b)(op:Operator)(p:Pos):AOk C (.bin op a b p):=fun P hk hfe h=>
 wpAny_BinOp (Post.use (A P (and2 hk).1 hfe.and.1 h) fun a' σ' k' v q x R' hv=>Post.use (B (P.to R') (and2 hk).2 hfe.and.2 q) fun b' σ'' k'' v' q' x' R'' hv'=>Post.wp (x.trans x') (bin_ok R'' q' (x'.vr hv) hv' Post.out))
theorem a_cmp{a b:X}(A:AOk C a)(B:AOk C b)(op:CmpOp)(p:Pos):AOk C (.cmp op a b p):=fun P hk hfe h=>
 wpAny_Compare1 (Post.use (A P (and2 hk).1 hfe.and.1 h) fun a' σ' k' v q x R' hv=>Post.use (B (P.to R') (and2 hk).2 hfe.and.2 q) fun b' σ'' k'' v' q' x' R'' hv'=>cmp_ok P.ok R'' q' (x'.vr hv) hv' fun bb t pb=>Post.ext (x.trans x') (Out.tok R'' Post.out pb t (.bool bb))) ((pyOk b).marks op)
theorem t_cmp{a b:X}(A:AOk C a)(B:AOk C b)(op:CmpOp)(p:Pos):TOk C (.cmp op a b p):=fun P hk hfe h=>
 wpAny_isTrue_Compare1 (Post.use (A P (and2 hk).1 hfe.and.1 h) fun a' σ' k' v q x R' hv=>Post.use (B (P.to R') (and2 hk).2 hfe.and.2 q) fun b' σ'' k'' v' q' x' R'' hv'=>cmp_ok P.ok R'' q' (x'.vr hv) hv' fun bb t pb=>wpAny_truthy_bool ⟨σ'',k''.at k''.s.heap t,rfl,pb,(x.trans x').trans (Nx.toks k'' t),R''.toks t⟩) ((pyOk b).marks op)
theorem a_not{a:X}(A:AOk C a)(p:Pos):AOk C (.not a p):=fun P hk hfe h=>wpAny_bind (Post.use (A P hk hfe h) fun a' σ' k' v q x R' hv=>asB.el q hv fun b q=>wpAny_bind (wpAny_standAt (wpAny_holding (wpAny_bind (wpAny_truthy_bool (wpAny_pure (Post.ext x (Out.same R' Post.out q (.bool _)))))))))
theorem a_ite{t a b:X}(T:TOk C t)(A:AOk C a)(B:AOk C b)(p:Pos):AOk C (.ite t a b p):=fun P hk hfe h=>IfExp_ (PostB.use (T P (and2 hk).1 hfe.and.1 h) fun bb σ' k' q x R'=>by
 cases bb with
 |true=>exact Post.wp x (A (P.to R') (and2 (and2 hk).2).1 hfe.and.2.and.1 q)
 |false=>exact Post.wp x (B (P.to R') (and2 (and2 hk).2).2 hfe.and.2.and.2 q))
theorem a_sub{a b:X}(A:AOk C a)(B:AOk C b)(p:Pos):AOk C (.sub a b p):=fun P hk hfe h=>
 Subscript_ (Post.use (A P (and2 hk).1 hfe.and.1 h) fun a' σ' k' v q x R' hv=>Post.use (B (P.to R') (and2 hk).2 hfe.and.2 q) fun b' σ'' k'' v' q' x' R'' hv'=>Post.wp (x.trans x') (idx_ok P.ok R'' (pyOk b).sub q' (x'.vr hv) hv' Post.out))
theorem zbl.ext{w:World}{A:Around}{c:FC}{k k':Cs}{Φ:AV→St→Prop}{E:Value→Shared→Prop}{o vl vu:Value}{s:Shared}(x:Nx k k')(h:zbl pw w A o vl vu (Post c k' Φ) E s):zbl pw w A o vl vu (Post c k Φ) E s:=⟨h.1,Post.wp x h.2⟩
theorem a_sl{a lo hi:X}(A:AOk C a)(L:AOk C lo)(H:AOk C hi)(ps p:Pos):AOk C (.sl a lo hi ps p):=fun{fz c σ k Φ Ξ} P hk hfe h=>
 zf6 (Post.use (A P (and2 hk).1 hfe.and.1 h) fun a' σ' k' v q x R' hv=>wpAny_evalPart_some (Post.use (L (P.to R') (and2 (and2 hk).2).1 hfe.and.2.and.1 q) fun b' σ'' k'' v' q' x' R'' hv'=>
  wpAny_evalPart_some (Post.use (H (P.to R'') (and2 (and2 hk).2).2 hfe.and.2.and.2 q') fun c' σ3 k3 v'' q'' x'' R3 hv''=>zbl.ext (x.trans (x'.trans x'')) (sl_ok R3 q'' ((x'.trans x'').vr hv) (x''.vr hv') hv'' Post.out))))
theorem a_slTo{a hi:X}(A:AOk C a)(H:AOk C hi)(ps p:Pos):AOk C (.slTo a hi ps p):=fun{fz c σ k Φ Ξ} P hk hfe h=>
 zf6 (Post.use (A P (and2 hk).1 hfe.and.1 h) fun a' σ' k' v q x R' hv=>by
  rw[evalPart_none]
  exact wpAny_pure (wpAny_evalPart_some (Post.use (H (P.to R') (and2 hk).2 hfe.and.2 q) fun c' σ3 k3 v'' q'' x'' R3 hv''=>zbl.ext (x.trans x'') (slTo_ok R3 q'' (x''.vr hv) hv'' Post.out))))
theorem a_slFrom{a lo:X}(A:AOk C a)(L:AOk C lo)(ps p:Pos):AOk C (.slFrom a lo ps p):=fun{fz c σ k Φ Ξ} P hk hfe h=>
 zf6 (Post.use (A P (and2 hk).1 hfe.and.1 h) fun a' σ' k' v q x R' hv=>wpAny_evalPart_some (Post.use (L (P.to R') (and2 hk).2 hfe.and.2 q) fun c' σ3 k3 v'' q'' x'' R3 hv''=>by
  rw[evalPart_none]
  exact wpAny_pure (zbl.ext (x.trans x'') (slFrom_ok R3 q'' (x''.vr hv) hv'' Post.out))))
theorem few{g r}{l:Xs}{as:List AV}{vs:List Value}(h:Nat.blt l.len 25=true)(hv:VRs g r as vs)(hl:as.length=l.len):vs.length≤sizeLine:=hv.length▸hl.symm▸Nat.le_trans (Nat.le_of_lt (Nat.le_of_ble_eq_true h)) (by rw[sizeLine_eq];decide)
theorem a_tup{l:Xs}(L:LOk C l)(p:Pos):AOk C (.tup l p):=fun P hk hfe h=>wpAny_Tuple (PostS.use (L P (and2 hk).1 hfe h p) fun as σ' k' vs q x R' hv hlen=>onS.el q fun xs e q=>⟨few (and2 hk).2 hv hlen,Post.ext x (tup_ok (isT:=true) P.ok R' hv e q)⟩)
theorem a_list{l:Xs}(L:LOk C l)(p:Pos):AOk C (.list l p):=fun P hk hfe h=>wpAny_List (PostS.use (L P (and2 hk).1 hfe h p) fun as σ' k' vs q x R' hv hlen=>onS.el q fun xs e q=>⟨few (and2 hk).2 hv hlen,Post.ext x (tup_ok (isT:=false) P.ok R' hv e q)⟩)
theorem a_listM{l:Xs}(L:LOk C l)(p:Pos):AOk C (.listM l p):=fun P hk hfe h=>wpAny_List (PostS.use (L P (and2 hk).1 hfe h p) fun as σ' k' vs q x R' hv hlen=>by
 revert q
 cases e:za1 as with
 |cons i r=>exact False.elim
 |nil=>exact fun q=>⟨few (and2 hk).2 hv hlen,Post.ext x (list_push P.ok R' hv (zfv e) (Eq.mp (fc_eq _ _) (Eq.mp (fcn_eq _ _) q)))⟩)
theorem a_err{a b:X}(A:AOk C a)(B:AOk C b)(pn p:Pos):AOk C (.err a b pn p):=fun{fz c σ k Φ Ξ} P hk hfe h=>by
 have h2:=and2 (and2 hk).2
 refine wpAny_Call_ofName (zb8 P.ok P.R (zg3 c.w.params) (zeg (and2 hk).1) (by decide) ?_)
 refine callWith_K (P.R.kin P.ok) (err_keep c.w.params) (e:=a.py) (rest:=[b.py]) ?_ (zap a [b.py]) (noStar (.cons b .nil))
 refine zas (r:= .cons b .nil) (Post.use (A P h2.1 hfe.and.1 h) fun a' σ' k' v q x R' hv=>zas (r:= .nil) (Post.use (B (P.to R') h2.2 hfe.and.2 q) fun b' σ'' k'' v' q' x' R'' hv'=>spliced_none ⟨R''.kin P.ok,?_⟩))
 obtain⟨_,rfl,q1⟩:=onT.inv q'
 obtain⟨cc,fs,rfl,q2⟩:=onFi.inv q1
 refine onB.el q2 fun e1 q3=>onS.el q3 fun _ e2 q4=>?_
 obtain⟨o,rfl,q5⟩:=onDI.inv q4
 cases Nat.eq_of_beq_eq_true e1
 exact Post.wp (x.trans x') (wpAny_mono ((P.HC c rfl rfl).err P.ok R'' (x'.vr hv) hv' e2) (fun _ _ z=>Post.mono (fun a σ z=>by obtain⟨rfl,rfl⟩:=z;exact q5) z.1) fun _ _ e=>e)
theorem a_meth{o:X}{l:Xs}(A:AOk C o)(L:LOk C l)(m:Nat)(pa p:Pos):AOk C (.meth o m l pa p):=fun P hk hfe h=>
 have h2:=and2 (and2 hk).2
 have h3:=and2 h2.2
 have h4:=and2 h3.2
 meth_case P.HC P.ok P.R (and2 hk).1 h2.1 (and2 h4.2).1 (and2 h4.2).2 (A P h3.1 hfe.and.1 h) fun σ k Ψ pos R h=>L (P.to R) h4.1 hfe.and.2 h pos
theorem a_sm{o:X}{l:Xs}(A:AOk C o)(L:LOk C l)(m:SM)(pa p:Pos):AOk C (.sm o m l pa p):=fun P hk hfe h=>
 have h2:=and2 (and2 hk).2
 have h3:=and2 h2.2
 sm_case P.ok P.R (and2 hk).1 (and2 h3.2).1 (and2 h3.2).2 (A P h2.1 hfe.and.1 h) fun σ k Ψ pos R h=>L (P.to R) h3.1 hfe.and.2 h pos
theorem a_comp{elt it:X}(A:AOk C elt)(B:AOk C it)(i:Nat)(pi:Pos)(cap:List Nat)(sc':Scope)(p:Pos):AOk C (.comp elt i pi it cap sc' p):=fun{fz c σ k Φ Ξ} P hk hfe h=>
 have h2:=and2 (and2 hk).2
 have h3:=and2 h2.2
 have h4:=and2 h3.2
 have fe:c.fe=c.env:=hfe.elim (fun z=>Bool.noConfusion z) id
 comp_case P.ok P.R fe (and2 hk).1 h4.2 (fun Ψ h=>B P h2.1 (.inr fe) h)
  (fun c' σ k Ψ Ξ e1 e2 ok' e3 R h=>A (fz:=none) ⟨fun c'' a b=>P.HC c'' (a.trans e1) (b.trans e2),ok',fun n z=>nS z,R⟩ (e3.symm▸zga h4.1 h3.1) (.inl h4.1) h) h
theorem a_frz{e:X}(A:AOk C e)(n:Nat):AOk C (.frz n e):=fun{fz c σ k Φ Ξ} P hk hfe h=>Post.use (A P (and2 hk).2 hfe h) fun a' σ' k' v q x R' hv=>by
 obtain⟨i,rfl,q1⟩:=onR.inv q
 refine onB.el q1 fun e1 q2=>onS.el q2 fun ob e2 q3=>onAL.el q3 fun l el q4=>?_
 obtain⟨a,hf,q5⟩:=q4
 subst el
 cases fz with
 |none=>exact Bool.noConfusion (and2 hk).1
 |some m=>exact Post.ext x (freeze_ok P.ok R' e2 (Nat.le_trans (P.fz m rfl) (Nat.le_trans (Nat.le_of_ble_eq_true (and2 hk).1) (Nat.le_of_ble_eq_true e1))) hv hf (Eq.mp (fc_eq _ _) q5))
theorem t_of{x:X}(A:AOk C x)(e:∀env:Env,isTrue x.py env (eval x.py env)=(do let v←eval x.py env;standAt x.py.pos;holding [v] (truthy v)))
  (h:∀{σ Φ Ξ},awt C x σ Φ Ξ→awp C x σ (fun a σ'=>asB a fun b=>Φ b σ') Ξ):TOk C x:=fun P hk hfe q=>
 isTrue_plain (Post.use (A P hk hfe (h q)) fun a' σ' k' v q x R' hv=>asB.el q hv fun b q=>wpAny_truthy_bool ⟨σ',k',rfl,q,x,R'⟩) (e _)
theorem l_cons{a:X}{r:Xs}(A:AOk C a)(R:LOk C r):LOk C (.cons a r):=fun P hk hfe h pos=>
 zas (Post.use (A P (and2 hk).1 hfe.and.1 h) fun a' σ' k' v q x R' hv=>PostS.use (R (P.to R') (and2 hk).2 hfe.and.2 q pos) fun as σ'' k'' vs q' x' R'' hv' hl=>⟨_,_,k'',rfl,q',x.trans x',R'', .cons (x'.vr hv) hv',congrArg (· +1) hl⟩)
theorem b_cons{a:X}{r:Xs}(A:AOk C a)(R:BOk C r):BOk C (.cons a r):=fun op{fz c σ k Φ Ξ} P hk hfe h pos=>by
 cases r with
 |nil=>cases op<;>exact A P (and2 hk).1 hfe.and.1 h
 |cons b r=>
  cases op with
  |And=>
   refine zgz (Post.use (A P (and2 hk).1 hfe.and.1 h) fun a' σ' k' v q x R' hv=>asB.el q hv fun bb q=>⟨bb,rfl,?_⟩)
   cases bb with
   |false=>exact Post.ext x (Out.same R' Post.out q (.bool _))
   |true=>exact Post.wp x (R .And (P.to R') (and2 hk).2 hfe.and.2 q pos)
  |Or=>
   refine zgz (Post.use (A P (and2 hk).1 hfe.and.1 h) fun a' σ' k' v q x R' hv=>asB.el q hv fun bb q=>⟨bb,rfl,?_⟩)
   cases bb with
   |true=>exact Post.ext x (Out.same R' Post.out q (.bool _))
   |false=>exact Post.wp x (R .Or (P.to R') (and2 hk).2 hfe.and.2 q pos)
theorem bt_cons{a:X}{r:Xs}(T:TOk C a)(R:BTOk C r):BTOk C (.cons a r):=fun op{fz c σ k Φ Ξ} P hk hfe h pos whole=>by
 cases op with
 |And=>
  refine isTrue_and (PostB.use (T P (and2 hk).1 hfe.and.1 h) fun b σ' k' q x R'=>?_)
  cases b with
  |true=>exact PostB.wp x (R .And (P.to R') (and2 hk).2 hfe.and.2 q pos whole)
  |false=>exact⟨σ',k',rfl,q,x,R'⟩
 |Or=>
  refine isTrue_or (PostB.use (T P (and2 hk).1 hfe.and.1 h) fun b σ' k' q x R'=>?_)
  cases b with
  |true=>exact⟨σ',k',rfl,q,x,R'⟩
  |false=>exact PostB.wp x (R .Or (P.to R') (and2 hk).2 hfe.and.2 q pos whole)
theorem t_no{x:X}(h:∀{σ Φ Ξ},awt C x σ Φ Ξ→False):TOk C x:=fun _ _ _ q=>(h q).elim
theorem zbp(x:X):AOk C x∧TOk C x:=by
 induction x using X.rec (motive_2:=fun l=>LOk C l∧BOk C l∧BTOk C l)with
 |loc i p=>
  have A:AOk C (.loc i p):=fun P hk hfe h=>onS.el h fun a e q=>name_ok P.ok P.R e q
  exact⟨A,t_of A (fun _=>rfl) id⟩
 |const cc p=>exact⟨a_const cc p,t_of (a_const cc p) (fun _=>rfl) (by cases cc<;>first|exact id|exact False.elim)⟩
 |glob i p=>exact⟨fun P hk hfe h=>(gval_ok P.ok P.R (and2 hk).1).elim fun v g=>zb8 P.ok P.R g.1 (zeg (and2 hk).2) (gname_dbg (and2 hk).1) (Out.same P.R Post.out h g.2),t_no id⟩
 |attr e f p ih=>exact⟨a_attr ih.1 f p,t_no id⟩
 |bin op a b p A B=>exact⟨a_bin A.1 B.1 op p,t_no id⟩
 |cmp op a b p A B=>exact⟨a_cmp A.1 B.1 op p,t_cmp A.1 B.1 op p⟩
 |cmp2=>exact⟨fun _ _ _ h=>False.elim h,t_no id⟩
 |and l p ih=>exact⟨fun P hk hfe h=>ih.2.1 .And P hk hfe h p,fun P hk hfe h=>ih.2.2 .And P hk hfe h p _⟩
 |or l p ih=>exact⟨fun P hk hfe h=>ih.2.1 .Or P hk hfe h p,fun P hk hfe h=>ih.2.2 .Or P hk hfe h p _⟩
 |not a p ih=>exact⟨a_not ih.1 p,fun P hk hfe h=>isTrue_not (PostB.use (ih.2 P hk hfe h) fun b σ' k' q x R'=>⟨σ',k',rfl,q,x,R'⟩)⟩
 |ite t a b p T A B=>exact⟨a_ite T.2 A.1 B.1 p,t_no id⟩
 |sub a b p A B=>exact⟨a_sub A.1 B.1 p,t_no id⟩
 |sl a lo hi ps p A L H=>exact⟨a_sl A.1 L.1 H.1 ps p,t_no id⟩
 |slTo a hi ps p A H=>exact⟨a_slTo A.1 H.1 ps p,t_no id⟩
 |slFrom a lo ps p A L=>exact⟨a_slFrom A.1 L.1 ps p,t_no id⟩
 |tup l p ih=>exact⟨a_tup ih.1 p,t_no id⟩
 |list l p ih=>exact⟨a_list ih.1 p,t_no id⟩
 |listM l p ih=>exact⟨a_listM ih.1 p,t_no id⟩
 |opsGet a b q1 q2 q3 q4 pd pa p A B=>exact⟨fun P hk hfe h=>opsGet_case P.ok P.R (and2 (and2 hk).2).2 (fun σ k Ψ R h=>A.1 (P.to R) (and2 hk).1 hfe.and.1 h) (fun σ k Ψ R h=>B.1 (P.to R) (and2 (and2 hk).2).1 hfe.and.2 h) h,t_no id⟩
 |call f l pn p ih=>
  have A:AOk C (.call f l pn p):=fun P hk hfe h=>call_case P.HC P.ok P.R (and2 hk).1 (and2 (and2 hk).2).1 h (ih.1 P (and2 (and2 hk).2).2 hfe h)
  exact⟨A,t_of A (fun _=>rfl) id⟩
 |ctor f l pn p ih=>exact⟨fun P hk hfe h=>ctor_case P.HC P.ok P.R (and2 hk).1 (and2 (and2 hk).2).1 h (ih.1 P (and2 (and2 hk).2).2 hfe h),t_no id⟩
 |err a b pn p A B=>exact⟨a_err A.1 B.1 pn p,t_no id⟩
 |meth o m l pa p A ih=>exact⟨a_meth A.1 ih.1 m pa p,t_of (a_meth A.1 ih.1 m pa p) (fun _=>rfl) id⟩
 |bi b l pn p ih=>exact⟨fun P hk hfe h=>bi_case (C:=C) P.ok P.R (and2 hk).1 h (ih.1 P (and2 hk).2 hfe h),t_no id⟩
 |sm o m l pa p A ih=>exact⟨a_sm A.1 ih.1 m pa p,t_of (a_sm A.1 ih.1 m pa p) (fun _=>rfl) id⟩
 |comp elt i pi it cap sc' p A B=>exact⟨a_comp A.1 B.1 i pi cap sc' p,t_no id⟩
 |frz n e A=>exact⟨a_frz A.1 n,t_no id⟩
 |nil=>exact⟨fun P hk hfe h pos=>spliced_none ⟨_,_,_,rfl,h,Nx.refl _,P.R, .nil,rfl⟩,fun op _ _ _ _ _ _ _ _ _ h _=>(by cases op<;>exact False.elim h),fun op _ _ _ _ _ _ P _ _ h _ _=>(by cases op<;>first|exact isTrue_and_nil ⟨_,_,rfl,h,Nx.refl _,P.R⟩|exact isTrue_or_nil ⟨_,_,rfl,h,Nx.refl _,P.R⟩)⟩
 |cons a r A ih=>exact⟨l_cons A.1 ih.1,b_cons A.1 ih.2.1,bt_cons A.2 ih.2.2⟩
end
section
variable{C:CS}{fz:Option Nat}{c:FC}{σ:St}{k:Cs}{Ξ:Int→Prop}
theorem awp_ok(x:X){Φ:AV→St→Prop}(HC:zbe C c)(ok:c.Ok)(hfz:∀n,fz=some n→c.n0≤n)(hk:chk fz c.env.scope x=true)(hfe:Fe c (zan x))(R:Rel c σ k)(h:awp C x σ Φ Ξ):
  wpAny (model pw c.w) c.A (eval x.py c.env) (Post c k Φ) (EX c Ξ) k.s:=(zbp x).1 ⟨HC,ok,hfz,R⟩ hk hfe h
theorem awps_ok(l:Xs){Ψ:List AV→St→Prop}(HC:zbe C c)(ok:c.Ok)(hfz:∀n,fz=some n→c.n0≤n)(hk:chks fz c.env.scope l=true)(hfe:Fe c (zaz l))(R:Rel c σ k)(h:awps C l σ Ψ Ξ)(pos:Pos):
  wpAny (model pw c.w) c.A (spliced (backTo pos (starEach l.py c.env))) (PostS c k l.len Ψ) (EX c Ξ) k.s:=(l.ind (P:=LOk C) (fun P hk hfe h pos=>spliced_none ⟨_,_,_,rfl,h,Nx.refl _,P.R, .nil,rfl⟩) fun x r ih=>l_cons (zbp x).1 ih) ⟨HC,ok,hfz,R⟩ hk hfe h pos
end
noncomputable def anyStar(vs:List Expr):Bool:=vs.any fun| .Starred .. =>true|_=>false
noncomputable def nmsOf(sc:Scope)(ts:List Expr):List Str:=ts.filterMap fun
 | .Name id pos=>if sc.names.lookup id==some .local&&pos.line==(ts.head?.map (·.pos.line)).getD 0 then some id else none
 |_=>none
noncomputable def swapRes(sc:Scope)(ts vs:List Expr):Option (Option (List Str)):=
 if(!(ts.length==2||ts.length==3)||vs.length !=ts.length)=true then some none
 else if anyStar vs=true then some none
 else if((nmsOf sc ts).length !=ts.length||(nmsOf sc ts).eraseDups.length !=(nmsOf sc ts).length)=true then some none
 else if vs.all (foldedForSure 8)=true then some none
 else if vs.all (constantsAlone 8)=true then none
 else some (some (nmsOf sc ts))
theorem swapRes_ok{env:Env}{ts vs:List Expr}{a b:Nat}{pt pe:Pos}{r:Option (List Str)}(hk:env.scope.kind= .function)(h:swapRes env.scope ts vs=some r):swappedStores [.Tuple ts a pt] (.Tuple vs b pe) env=pure r:=by
 have hb:(env.blockKind != .function)=false:=by unfold Env.blockKind;rw[hk];rfl
 unfold swappedStores
 unfold swapRes at h
 dsimp only
 rw[hb,Bool.or_false]
 split at h
 ·rename_i q;cases h;rw[if_pos q]
 rename_i q
 rw[if_neg q]
 show(if anyStar vs=true then _ else _)=_
 split at h
 ·rename_i q;cases h;rw[if_pos q]
 rename_i q
 rw[if_neg q]
 show(if((nmsOf env.scope ts).length !=ts.length||(nmsOf env.scope ts).eraseDups.length !=(nmsOf env.scope ts).length)=true then _ else _)=_
 split at h
 ·rename_i q;cases h;rw[if_pos q]
 rename_i q
 rw[if_neg q]
 show(if vs.all (foldedForSure 8)=true then _ else _)=_
 split at h
 ·rename_i q;cases h;rw[if_pos q]
 rename_i q
 rw[if_neg q]
 show(if vs.all (constantsAlone 8)=true then _ else _)=_
 split at h
 ·cases h
 rename_i q
 cases h
 rw[if_neg q]
 rfl
noncomputable def zbw:X→Bool
 | .comp .. =>false
 | .frz .. =>false
 |_=>true
noncomputable def plainTup:X→Bool
 | .comp .. =>false
 | .frz .. =>false
 | .tup .. =>false
 |_=>true
noncomputable def loc1(sc:Scope)(i:Nat):Bool:=Nat.blt i nms.length&&sc.names.lookup (nm i)==some .local
noncomputable def setChk(sc:Scope)(i:Nat)(pi:Pos):X→Bool
 | .comp _ _ _ _ _ sc' pc=>pi.line==pc.line&& !(sc'.names.any fun x=>x.1==nm i&&(x.2== .local||x.2== .cell))
 | .frz .. =>false
 |_=>true
noncomputable def chkS(fz:Option Nat)(sc:Scope):S→Bool
 | .set i pi e _=>loc1 sc i&&(chk fz sc e&&setChk sc i pi e)
 | .setT is _ l _ _=>is.all (fun q=>loc1 sc q.1)&&(chks fz sc l&&(Nat.beq l.len is.length&&(Nat.blt l.len 25&&(swapRes sc (names is) l.py==some (if Nat.beq is.length 2||Nat.beq is.length 3 then some (is.map fun q=>nm q.1)else none)))))
 | .setU is _ e _=>is.all (fun q=>loc1 sc q.1)&&(chk fz sc e&&plainTup e)
 | .seta o _ e _ _=>chk fz sc e&&(chk fz sc o&&zbw e)
 | .seti o i e _ _=>chk fz sc e&&(chk fz sc o&&(chk fz sc i&&zbw e))
 | .exp e _=>chk fz sc e&&zbw e
 | .ret e _=>chk fz sc e
 | .raise e _=>match e with
  | .call f l _ _=>Nat.beq f 4&&(gl sc (fname 4)&&chks fz sc l)
  |_=>false
theorem noSwap{e:X}(h:zbw e=true)(t:Option Expr)(l:Nat)(env:Env):swapsWith e.py t l env=pure false:=by
 cases e<;>first|rfl|cases h
theorem noSwapS{e:X}{ts:List Expr}(h:zbw e=true)(l:Nat)(env:Env):swapsWithSole ts e.py l env=pure false:=by
 unfold swapsWithSole
 split
 ·exact noSwap h _ _ _
 ·rfl
theorem noStores{e:X}{ts:List Expr}{a:Nat}{pt:Pos}(h:plainTup e=true)(env:Env):swappedStores [.Tuple ts a pt] e.py env=pure none:=by
 cases e<;>first|rfl|cases h
theorem plainTup_set{e:X}(h:plainTup e=true):zbw e=true:=by cases e<;>first|rfl|exact h
section
variable{w:World}{E:Value→Shared→Prop}{c:FC}{σ:St}{k:Cs}
noncomputable def PostF(c:FC)(k:Cs)(Φ:St→Prop)(Ρ:AV→St→Prop):Flow→Shared→Prop:=fun f s'=>match f with
 | .next=>Pst c k Φ s'
 | .ret v=>Post c k Ρ v s'
 |_=>False
theorem PostF.ext{k':Cs}{Φ Ρ}(x:Nx k k'){f s}:PostF c k' Φ Ρ f s→PostF c k Φ Ρ f s:=by
 cases f with
 |next=>exact Pst.ext x
 |ret v=>exact fun h=>Post.ext x h
 |_=>exact id
theorem PostF.wp{M:Model}{A:Around}{t:Sem Flow}{k':Cs}{Φ Ρ}{s:Shared}(x:Nx k k')(h:wpAny M A t (PostF c k' Φ Ρ) E s):wpAny M A t (PostF c k Φ Ρ) E s:=wpAny_mono h (fun _ _ q=>q.ext x) fun _ _ e=>e
theorem PostF.st{Φ:St→Prop}{Ρ}{M:Model}{A:Around}{t:Sem Unit}{k':Cs}{s:Shared}(x:Nx k k')(h:wpAny M A t (fun _=>Pst c k' Φ) E s):wpAny M A t (fun _=>PostF c k Φ Ρ .next) E s:=
 wpAny_mono h (fun _ _ h=>h.ext x) fun _ _ e=>e
theorem stores_ok(ok:c.Ok)(f:Nat×Pos→Value→Sem Unit)(hf:∀q v,f q v=bindName c.env (nm q.1) v∨f q v=assign (.Name (nm q.1) q.2) c.env v)(is:List (Nat×Pos)):
  ∀(as:List AV)(vs:List Value)(σ:St)(k:Cs)(Φ:St→Prop),Rel c σ k→VRs k.g k.r as vs→(∀q∈is,q.1<nms.length∧c.env.kindOf (nm q.1)=some .local)→is.length=as.length→Φ (σ.sets is as)→
  wpAny (model pw c.w) c.A (assignInOrder (is.map f) vs) (fun _=>Pst c k Φ) E k.s:=by
 induction is with
 |nil=>
  intro as vs σ k Φ R hv hk hl h
  cases as with
  |nil=>exact hv.el0 (wpAny_pure ⟨σ,k,rfl,h,Nx.refl k,R⟩)
  |cons=>exact nomatch hl
 |cons q is ih=>
  intro as vs σ k Φ R hv hk hl h
  cases as with
  |nil=>exact nomatch hl
  |cons a as=>
   refine hv.el fun v vs hv hvs=>?_
   show wpAny _ _ (holding vs (f q v)>>=fun _=>assignInOrder (is.map f) vs) _ _ _
   have h1:=hk _ List.mem_cons_self
   have step:wpAny (model pw c.w) c.A (f q v) (fun _=>Pst c k fun σ'=>σ'=σ.set q.1 a) E k.s:=by
    rcases hf q v with e|e
    ·rw[e];exact wpAny_bindName (store_ok (Φ:=fun σ'=>σ'=σ.set q.1 a) ok R h1.1 h1.2 hv rfl)
    ·rw[e];exact wpAny_assign_Name (store_ok (Φ:=fun σ'=>σ'=σ.set q.1 a) ok R h1.1 h1.2 hv rfl)
   refine wpAny_bind (wpAny_holding (wpAny_mono step (fun _ s' hh=>?_) fun _ _ e=>e))
   obtain⟨_,k',rfl,rfl,x,R'⟩:=hh
   exact wpAny_mono (ih as vs _ k' Φ R' (x.vrs hvs) (fun q hq=>hk q (List.mem_cons_of_mem _ hq)) (Nat.succ.inj hl) h) (fun _ s'' hh=>hh.ext x) fun _ _ e=>e
end
section
variable{w:World}{E:Value→Shared→Prop}{c:FC}{σ:St}{k:Cs}
theorem VRs.reverse{g:G}{r}{as:List AV}{vs:List Value}(h:VRs g r as vs):VRs g r as.reverse vs.reverse:=by
 induction h with
 |nil=>exact .nil
 |cons a _ ih=>rw[List.reverse_cons,List.reverse_cons];exact ih.append (.cons a .nil)
theorem zfd{i:Nat}(h:loc1 c.env.scope i=true):i<nms.length∧c.env.kindOf (nm i)=some .local:=by
 obtain⟨h1,h2⟩:=and2 h
 exact⟨Nat.le_of_ble_eq_true h1,by show c.env.scope.names.lookup _=_;simpa using h2⟩
theorem za4{env:Env}:∀is:List (Nat×Pos),assignEach (names is) env=is.map fun q=>(false,assign (.Name (nm q.1) q.2) env)
 | []=>rfl
 |q::r=>by
  show(false,assign (.Name (nm q.1) q.2) env)::assignEach (names r) env=_
  rw[za4 r];rfl
theorem unpack_names{env:Env}{v:Value}{is:List (Nat×Pos)}:unpack v (assignEach (names is) env)=(holding [v] (unpackItems v is.length none)>>=fun vs=>assignInOrder (is.map fun q=>assign (.Name (nm q.1) q.2) env) vs):=by
 have h1:(assignEach (names is) env).findIdx? (·.1)=none:=by
  rw[za4,List.findIdx?_eq_none_iff]
  intro x hx
  obtain⟨q,_,rfl⟩:=List.mem_map.mp hx
  rfl
 have h2:(assignEach (names is) env).length=is.length:=by rw[za4,List.length_map]
 have h3:(assignEach (names is) env).map (·.2)=is.map fun q=>assign (.Name (nm q.1) q.2) env:=by rw[za4,List.map_map];rfl
 unfold unpack
 rw[h1,h2,h3]
theorem unpack_ok{Φ:St→Prop}{is:List (Nat×Pos)}{as:List AV}{items:Array Value}{t:Addr}(ok:c.Ok)(R:Rel c σ k)(ht:IsTup k.s.heap t items)(hv:VRs k.g k.r as items.toList)(hk:∀q∈is,q.1<nms.length∧c.env.kindOf (nm q.1)=some .local)
  (hl:is.length=as.length)(h:Φ (σ.sets is as)):wpAny (model pw c.w) c.A (unpack (.ref t) (assignEach (names is) c.env)) (fun _=>Pst c k Φ) E k.s:=by
 rw[unpack_names]
 have h0:as.length=items.toList.length:=hv.length
 have h1:items.toList.length=items.size:=Array.length_toList
 have hsz:items.size=is.length:=by rw[hl,h0,h1]
 rw[←hsz]
 refine wpAny_bind (wpAny_holding (unpackItems_tuple ok.hd ht fun h' he=>?_))
 have x:Grow k h':=⟨fun b o e=>he b o (Nat.ne_of_lt (Heap.lt_size e)) e⟩
 have nx:=x.nx k.s.toks
 exact wpAny_mono (stores_ok ok _ (fun q v=> .inr rfl) is as items.toList σ (k.at h' k.s.toks) Φ (R.grow x _) (nx.vrs hv) hk hl h) (fun _ _ hh=>hh.ext nx) fun _ _ e=>e
theorem Fly.start(ok:c.Ok){o:Int}{v:Value}{ea:Addr}{k0:Cs}(R:Rel c σ k)(hv:v= .ref ea)(h:ErrR k.g o v)(hn:New c ea):Fly c none o v k.s:=by
 obtain⟨e,de,oe,t,rfl,g1,g2,g3,g4,g5⟩:=h
 cases hv
 refine⟨R.rest,R.keep,R.fr,R.floc,?_,ea,oe,_,de,rfl,hn,g1.1,g2,g3,g4,by simp,?_,by simp[TrAt]⟩
 ·rcases ok.fo with h|h
  ·rw[h];exact .inr (R.mine _ zbv R.lz).1
  ·exact .inl h
 ·have key:∀b ob,k.g b ob→(∀vs,ob.data≠ .fields vs)→ErrG c k.s.heap b ob:=fun b ob g n=>⟨g.1,n,fun hb=>by
   rcases List.mem_cons.mp hb with rfl|hb
   ·exact g.2 (R.locZ ok)
   ·exact g.2 (R.z0 _ (ok.fz _ hb))⟩
  obtain⟨es,n,vp,d1,d2,d3⟩:=g5
  obtain⟨x,dx,sl,es2,n2,rfl,f1,f2,f3⟩:=d3
  refine⟨es,n, .ref x,key _ _ d1 (by intro vs q;cases q),d2,x,dx,sl,es2,n2,rfl,key _ _ f1 (by intro vs q;cases q),key _ _ f2 (by intro vs q;cases q),fun p hp=>?_⟩
  obtain⟨v,l1,l2⟩:=f3 p hp
  rw[List.mem_singleton.mp hp]at l1 l2 ⊢
  cases l2
  exact⟨_,l1, .int _ _⟩
noncomputable def SOk(C:CS)(x:S):Prop:=∀{fz:Option Nat}{c:FC}{σ:St}{k:Cs}{Φ:St→Prop}{Ρ:AV→St→Prop}{Ξ:Int→Prop},Pre C fz c σ k→c.fe=c.env→chkS fz c.env.scope x=true→awS C x σ Φ Ρ Ξ→wpAny (model pw c.w) c.A (exec x.py c.env) (PostF c k Φ Ρ) (EX c Ξ) k.s
end
section
variable{C:CS}
theorem locs_ok{c:FC}{is:List (Nat×Pos)}(h:is.all (fun q=>loc1 c.env.scope q.1)=true):∀q∈is,q.1<nms.length∧c.env.kindOf (nm q.1)=some .local:=fun q hq=>zfd (List.all_eq_true.mp h q hq)
theorem s_comp(elt:X)(j:Nat)(pj:Pos)(it:X)(cap:List Nat)(sc':Scope)(pc:Pos)(i:Nat)(pi p:Pos):SOk C (.set i pi (.comp elt j pj it cap sc' pc) p):=fun{fz c σ k Φ Ρ Ξ} P hfe hk h=>by
 have l:=zfd (and2 hk).1
 have h2:=and2 (and2 hk).2
 have g:=and2 h2.2
 have hs:swapsWith (X.comp elt j pj it cap sc' pc).py (some (.Name (nm i) pi)) p.line c.env=pure true:=by
  show(pure (c.env.blockKind== .function&&c.env.kindOf (nm i)==some .local&&pi.line==pc.line&& !(sc'.names.any fun(n,k)=>n==nm i&&(k== .local||k== .cell))):Sem Bool)=pure true
  have b1:(c.env.blockKind== .function)=true:=by unfold Env.blockKind;rw[P.ok.kind];rfl
  rw[b1,l.2,g.1]
  simp only[beq_self_eq_true,Bool.and_self,Bool.true_and]
  congr 1
  exact g.2
 show wpAny _ _ (exec (.Assign [.Name (nm i) pi] (X.comp elt j pj it cap sc' pc).py p) c.env) _ _ _
 rw[exec_Assign_Name_used _ _ _ _ hs]
 have c1:=and2 h2.1
 have c2:=and2 c1.2
 have c3:=and2 c2.2
 have c4:=and2 c3.2
 exact wpAny_bind (wpAny_standAt (wpAny_bind (wpAny_mono (comp_use (pt:=pi) (t:=i) (Φ:=Φ) P.ok P.R hfe c1.1 c4.2 (fun Ψ h=>(zbp it).1 P c2.1 (.inr hfe) h)
  (fun c' σ k Ψ Ξ e1 e2 ok' e3 R h=>(zbp elt).1 (fz:=none) ⟨fun c'' a b=>P.HC c'' (a.trans e1) (b.trans e2),ok',fun n z=>nS z,R⟩ (e3.symm▸zga c4.1 c3.1) (.inl c4.1) h) l.1 l.2 h) (fun _ _ hh=>wpAny_pure hh) fun _ _ e=>e)))
theorem s_set(i:Nat)(pi:Pos)(e:X)(p:Pos):SOk C (.set i pi e p):=fun{fz c σ k Φ Ρ Ξ} P hfe hk h=>by
 by_cases hc:zbw e=true
 ·have l:=zfd (and2 hk).1
  exact wpAny_Assign_Name (Post.use ((zbp e).1 P (and2 (and2 hk).2).1 (.inr hfe) h) fun a σ' k' v q x R' hv=>PostF.st x (store_ok P.ok R' l.1 l.2 hv (Eq.mp (St.fc_eq _ _) q))) (noSwap hc _ _ _)
 ·cases e with
  |comp elt j pj it cap sc' pc=>exact s_comp elt j pj it cap sc' pc i pi p P hfe hk h
  |frz _ _=>exact Bool.noConfusion (and2 (and2 hk).2).2
  |_=>exact absurd rfl hc
theorem tup_at{l:Xs}{pe:Pos}{fz:Option Nat}{c:FC}{σ:St}{k:Cs}{Ξ:Int→Prop}{Ψ:List AV→St→Prop}{Q:Value→Shared→Prop}(P:Pre C fz c σ k)(hfe:c.fe=c.env)(h2:chks fz c.env.scope l=true)(h4:Nat.blt l.len 25=true)(h:awps C l σ Ψ Ξ)
  (hQ:∀as σ' k' t items,Ψ as σ'→Nx k k'→Rel c σ' k'→IsTup k'.s.heap t items→VRs k'.g k'.r as items.toList→as.length=l.len→Q (.ref t) k'.s):wpAny (model pw c.w) c.A (eval (.Tuple l.py 0 pe) c.env) Q (EX c Ξ) k.s:=
 wpAny_Tuple (PostS.use (awps_ok l P.HC P.ok P.fz h2 (.inr hfe) P.R h pe) fun as σ' k' vs q x R' hv hlen=>
  have gr:=Grow.push k' {cls:= .type "tuple",data:= .seq vs.toArray}
  have nx:=gr.nx k'.s.toks
  ⟨few h4 hv hlen,hQ as σ' (k'.at _ k'.s.toks) _ vs.toArray q (x.trans nx) (R'.grow gr _) ⟨_,Heap.get?_push_size _ rfl,rfl,_,rfl⟩ (nx.vrs hv) hlen⟩)
theorem s_setT(is:List (Nat×Pos))(pt:Pos)(l:Xs)(pe p:Pos):SOk C (.setT is pt l pe p):=fun{fz c σ k Φ Ρ Ξ} P hfe hk h=>by
 have h2:=and2 (and2 hk).2
 have h3:=and2 h2.2
 have h4:=and2 h3.2
 have hloc:=locs_ok (and2 hk).1
 have hl:l.len=is.length:=Nat.eq_of_beq_eq_true h3.1
 have hs:swapsWithSole [.Tuple (names is) 0 pt] (.Tuple l.py 0 pe) p.line c.env=pure false:=rfl
 have hw:=swapRes_ok (a:=0) (b:=0) (pt:=pt) (pe:=pe) P.ok.kind (beq_iff_eq.mp h4.2)
 show wpAny _ _ (exec (.Assign [.Tuple (names is) 0 pt] (.Tuple l.py 0 pe) p) c.env) _ _ _
 cases hr:(Nat.beq is.length 2||Nat.beq is.length 3)with
 |true=>
  rw[hr,if_pos rfl]at hw
  refine Assign_Tuple_swapped (names:=is.map fun q=>nm q.1) (tup_at P hfe h2.1 h4.1 h fun as σ' k' t items q x R' ht hv hl'=>?_) hs hw
  have q:=(onB.inv q).2
  rw[hr]at q
  have q:Φ (σ'.sets is.reverse as.reverse):=Eq.mp (St.fc_eq _ _) q
  have hla:is.length=as.length:=(hl'.trans hl).symm
  have hsz:items.size=(is.map fun q=>nm q.1).length:=(List.length_map _).symm▸hla.symm▸hv.length.symm
  rw[←hsz]
  refine unpackItems_tuple P.ok.hd ht fun h' he=>?_
  have gr:Grow k' h':=⟨fun b o e=>he b o (Nat.ne_of_lt (Heap.lt_size e)) e⟩
  have nx:=gr.nx k'.s.toks
  rw[←List.map_reverse,List.map_map]
  exact PostF.st (k':=k'.at h' k'.s.toks) (x.trans nx) (stores_ok P.ok (fun q=>bindName c.env (nm q.1)) (fun q v=> .inl rfl) is.reverse as.reverse items.toList.reverse σ' (k'.at h' k'.s.toks) Φ (R'.grow gr _) (nx.vrs hv).reverse (fun q hq=>hloc q (List.mem_reverse.mp hq)) (by rw[List.length_reverse,List.length_reverse];exact hla) q)
 |false=>
  rw[hr,if_neg (by decide)]at hw
  refine Assign_Tuple (tup_at P hfe h2.1 h4.1 h fun as σ' k' t items q x R' ht hv hl'=>?_) hs hw
  have q:=(onB.inv q).2
  rw[hr]at q
  exact wpAny_bind (wpAny_standAt (PostF.st x (unpack_ok P.ok R' ht hv hloc (hl'.trans hl).symm (Eq.mp (St.fc_eq _ _) q))))
theorem RdAll.vrs{g:G}{r vs xs}(h:RdAll g vs xs):VRs g r (xs.map AV.d) vs:=h.ind (P:=fun vs xs=>VRs g r (xs.map AV.d) vs) .nil fun a _ p=> .cons a p
theorem s_setU(is:List (Nat×Pos))(pt:Pos)(e:X)(p:Pos):SOk C (.setU is pt e p):=fun{fz c σ k Φ Ρ Ξ} P hfe hk h=>by
 have h2:=and2 (and2 hk).2
 refine Assign_Tuple (Post.use ((zbp e).1 P h2.1 (.inr hfe) h) fun a σ' k' v q x R' hv=>onD.el q hv fun y q hv=>?_) (noSwapS (plainTup_set h2.2) _ _) (noStores h2.2 _)
 obtain⟨xs,rfl,q1⟩:=onTu.inv q
 exact hv.elTu fun b items ht hr=>onB.el q1 fun hb q=>wpAny_bind (wpAny_standAt (PostF.st x (unpack_ok P.ok R' ht hr.vrs (locs_ok (and2 hk).1) ((List.length_map _).trans (Nat.eq_of_beq_eq_true hb)).symm (Eq.mp (St.fc_eq _ _) q))))
theorem s_seta(o:X)(f:Nat)(e:X)(pt p:Pos):SOk C (.seta o f e pt p):=fun{fz c σ k Φ Ρ Ξ} P hfe hk h=>
 have h2:=and2 (and2 hk).2
 plainObj_wpAny_Assign_Attribute (Post.use ((zbp e).1 P (and2 hk).1 (.inr hfe) h) fun a σ' k' v q x R' hv=>Post.use ((zbp o).1 (P.to R') h2.1 (.inr hfe) q) fun a2 σ2 k2 v2 q2 x2 R2 hv2=>by
  obtain⟨i,rfl,q3⟩:=onR.inv q2
  refine onB.el q3 fun hp q=>onS.el q fun ob ho q=>?_
  obtain⟨cc,fs,rfl,q4⟩:=onAI.inv q
  exact onB.el q4 fun hf q=>PostF.st (x.trans x2) (set_ok P.ok R2 hp ho hf hv2 (x2.vr hv) (Eq.mp (fc_eq _ _) (Eq.mp (fc_eq _ _) q)))) (noSwap h2.2 _ _ _)
theorem s_seti(o i e:X)(pt p:Pos):SOk C (.seti o i e pt p):=fun{fz c σ k Φ Ρ Ξ} P hfe hk h=>
 have h2:=and2 (and2 hk).2
 have h3:=and2 h2.2
 wpAny_Assign_Subscript (Post.use ((zbp e).1 P (and2 hk).1 (.inr hfe) h) fun a σ' k' v q x R' hv=>Post.use ((zbp o).1 (P.to R') h2.1 (.inr hfe) q) fun a2 σ2 k2 v2 q2 x2 R2 hv2=>Post.use ((zbp i).1 (P.to R2) h3.1 (.inr hfe) q2) fun a3 σ3 k3 v3 q3 x3 R3 hv3=>by
  obtain⟨j,rfl,q4⟩:=onR.inv q3
  obtain⟨n,rfl,q5⟩:=onI.inv q4
  refine onB.el q5 fun hp q=>onS.el q fun ob ho q=>?_
  obtain⟨l,rfl,b,q6⟩:=onAL.inv q
  exact PostF.st ((x.trans x2).trans x3) (seti_ok P.ok R3 hp ho ⟨b.1,b.2.1⟩ b.2.2 (x3.vr hv2) hv3 ((x2.trans x3).vr hv) (Eq.mp (fc_eq _ _) (Eq.mp (fc_eq _ _) q6)))) (noSwap h3.2 _ _ _)
theorem s_exp(e:X)(p:Pos):SOk C (.exp e p):=fun{fz c σ k Φ Ρ Ξ} P hfe hk h=>
 wpAny_Expr_any (Post.use ((zbp e).1 P (and2 hk).1 (.inr hfe) h) fun a σ' k' v q x R' hv=>⟨σ',k',rfl,q,x,R'⟩) (by unfold interactive;rw[P.ok.kind];rfl) (noSwap (and2 hk).2 _ _ _)
theorem s_raise(l:Xs)(pn pc p:Pos):SOk C (.raise (.call 4 l pn pc) p):=fun{fz c σ k Φ Ρ Ξ} P hfe hk h=>by
 have g:gl c.env.scope (fname 4)=true∧chks fz c.env.scope l=true:=and2 (a:=gl c.env.scope (fname 4)) (and2 (a:=Nat.beq 4 4) hk).2
 show wpAny _ _ (exec (.Raise (some (X.call 4 l pn pc).py) none p) c.env) _ _ _
 rw[arm_exec_Raise]
 have f:=and2 (List.all_eq_true.mp (fn_facts c.w.params) 4 (by decide))
 refine wpAny_bind (wpAny_standAt (raise_stmt P.ok.hd (wpAny_bind ?_)))
 refine wpAny_Call_ofName (zb8 P.ok P.R (beq_iff_eq.mp f.1) (zeg g.1) (zho (by decide)) ?_)
 refine za5 (P:=c.w.params) P.ok P.R (.inr (.inr f.2)) (fun e=>by subst e;exact h) (awps_ok l P.HC P.ok P.fz g.2 (.inr hfe) P.R h pc) fun as σ' k' vs q x R' hv=>?_
 refine wpAny_mono ((P.HC c rfl rfl).refuse P.ok R' hv q) (fun v s' hh=>?_) fun _ _ e=>e
 obtain⟨o,k2,ea,hx,rfl,rfl,⟨σ2,R2⟩,he,hn⟩:=hh
 refine wpAny_bind (wpAny_standAt (wpAny_pure ?_))
 have fl:=Fly.start (k0:=k) P.ok R2 rfl he (.inl (R'.fresh P.ok hn))
 obtain⟨e,de,oe,t,e1,d1,d2,d3,d4,d5⟩:=he
 cases e1
 exact⟨ea,oe,_,rfl,R2.kin P.ok,d1.1,d2,d4,rfl,o,none,hx, .inl rfl,fl⟩
theorem s_ok(x:S):SOk C x:=by
 cases x with
 |set i pi e p=>exact s_set i pi e p
 |setT is pt l pe p=>exact s_setT is pt l pe p
 |setU is pt e p=>exact s_setU is pt e p
 |seta o f e pt p=>exact s_seta o f e pt p
 |seti o i e pt p=>exact s_seti o i e pt p
 |exp e p=>exact s_exp e p
 |ret e p=>exact fun P hfe hk h=>wpAny_Return_some ((zbp e).1 P hk (.inr hfe) h)
 |raise e p=>
  intro fz c σ k Φ Ρ Ξ P hfe hk h
  cases e with
  |call f l pn pc=>
   cases Nat.eq_of_beq_eq_true (and2 hk).1
   exact s_raise l pn pc p P hfe hk h
  |_=>exact Bool.noConfusion hk
end
mutual
noncomputable def chkB(fz:Option Nat)(sc:Scope):B→Bool
 | .s x=>chkS fz sc x
 | .ifs t a b _=>chk fz sc t&&(chkBs fz sc a&&chkBs fz sc b)
 | .whl t b _=>chk fz sc t&&chkBs fz sc b
 | .for_ i _ it b _=>loc1 sc i&&(chk fz sc it&&chkBs none sc b)
 | .for2 i j _ _ _ it b _=>loc1 sc i&&(loc1 sc j&&(chk fz sc it&&chkBs none sc b))
noncomputable def chkBs(fz:Option Nat)(sc:Scope):Bs→Bool
 | .nil=>true
 | .cons x r=>chkB fz sc x&&chkBs fz sc r
end
section
variable{w:World}{E:Value→Shared→Prop}{c:FC}{σ:St}{k:Cs}
theorem New.back(ok:c.Ok)(R:Rel c σ k){b:Addr}(h:New (c.re k) b):New c b:=h.elim (fun h=> .inl (R.fresh ok h)) fun h=>(R.mine b h.1 h.2).1.symm
theorem Fly.back{σ:St}{m:Option Value}{o:Int}{e:Value}{s:Shared}(ok:c.Ok)(R:Rel c σ k)(f:Fly (c.re k) m o e s):Fly c m o e s:=by
 refine⟨?_,fun b ob a1 a2 q=>f.keep b ob (fun z=>(R.mine b z.1 z.2).1.elim a1 fun h=>nS (h.symm.trans q)) a2 (R.keep b ob a1 a2 q),fun b ob a q=>(R.fr b ob a q).elim fun sl q'=>f.fr b {ob with slots:=sl} a q',f.floc,ok.fo.elim (fun h=>h▸ .inr (R.mine _ zbv R.lz).1) .inl,f.exc.map (fun _ h=>h.back ok R) fun _ _=>id⟩
 ·have h2:s={k.s with heap:=s.heap,toks:=s.toks}:=f.rest
  rw[R.rest]at h2
  exact h2
theorem EX.back{Ξ:Int→Prop}{e:Value}{s:Shared}(ok:c.Ok)(R:Rel c σ k)(h:EX (c.re k) Ξ e s):EX c Ξ e s:=by
 obtain⟨o,m,hx,hm,f⟩:=h
 exact⟨o,m,hx,hm,f.back ok R⟩
theorem turned{Ξ:Int→Prop}{M:Model}{e:Value}{s:Shared}(ok:c.Ok)(hfe:c.fe=c.env)(h:EX c Ξ e s):notedBy M c.A c.env (fun e s'=>cameBackBy M c.A c.env (EX c Ξ) e s') e s:=by
 rw[←hfe]
 exact noted_ok ok ok.fok h fun s2 h2=>back_ok ok ok.fok h2 fun _ h=>h
noncomputable def HidK(c:FC)(k k':Cs):Prop:=∀z,Hid c k z→Hid c k' z∧∀o,k.s.heap.get? z=some o→k'.s.heap.get? z=some o
theorem HidK.trans{k' k'':Cs}(x:HidK c k k')(y:HidK c k' k''):HidK c k k'':=fun z h=>⟨(y z (x z h).1).1,fun o e=>(y z (x z h).1).2 o ((x z h).2 o e)⟩
theorem Hid.re{σ':St}{k':Cs}{z:Addr}(R:Rel c σ k)(h:Hid c k z)(R':Rel (c.re k) σ' k')(nx:Nx k k'):Hid c k' z∧∀o,k.s.heap.get? z=some o→k'.s.heap.get? z=some o:=by
 have get:∀o,k.s.heap.get? z=some o→k'.s.heap.get? z=some o:=fun o e=>R'.keep z o (fun q=>h.own (mown_own q.1)) h.nF e
 refine⟨⟨R'.z0 _ h.z,fun ho=>?_,h.new,h.nF,h.ne⟩,get⟩
 rcases List.mem_cons.mp ho with e|ho
 ·exact h.own (e▸zef)
 ·rcases List.mem_append.mp ho with ho|ho
  ·exact h.own (List.mem_cons_of_mem _ (List.mem_append_left _ ho))
  ·obtain⟨pp,hpp,e⟩:=List.mem_map.mp ho
   obtain⟨i,hi⟩:=List.getElem?_of_mem hpp
   by_cases hlt:i<k.r.length
   ·obtain⟨t,et⟩:=nx.r
    rw[←et,List.getElem?_append_left hlt]at hi
    exact h.own (e▸own_obj (List.mem_of_getElem? hi))
   ·exact(R.zx _ h.z).elim fun o q=>nS ((R'.new i pp (Nat.not_lt.mp hlt) hi).symm.trans (e.symm▸q))
inductive FL(c:FC)(k1:Cs)(I0:Addr)(St:Nat→Heap→Prop)(I:List AV→Mine.St→Prop)(items:List AV)(n:Nat)(s:Shared):Prop
 |mk (j:Nat) (rest:List AV) (σ:Mine.St) (kk:Cs) (e:s=kk.s) (l:n=rest.length) (d:items.drop j=rest) (le:j≤items.length) (R:Rel c σ kk) (nx:Nx k1 kk) (H:Hid c kk I0) (st:St j kk.s.heap) (inv:I rest σ)
section
variable{C:CS}{it:X}{tgt:Expr}{b:Bs}{p:Pos}{Φ:St→Prop}{Ρ:AV→St→Prop}{Ξ:Int→Prop}(ok:c.Ok)(hfe:c.fe=c.env)
  (Step:AV→St→(St→Prop)→Prop)
  (hasg:∀{y σ2 Ψ}{k2:Cs}{v:Value}{I0:Addr}{Q:Unit→Shared→Prop},Step y σ2 Ψ→Rel c σ2 k2→VR k2.g k2.r y v→ItObj k2.s.heap I0→(∀σ3 k3,awBs C b σ3 Ψ Ρ Ξ→k3.r=k2.r→Nx k2 k3→Rel c σ3 k3→HidK c k2 k3→Q () k3.s)→
   wpAny (model pw c.w) c.A (letOwnedTupleGo tgt (.ref I0) v) (fun _ s=>wpAny (model pw c.w) c.A (assign tgt c.env v) Q (EX c Ξ) s) (EX c Ξ) k2.s)
  (hbody:∀{σ3 Ψ}{k3:Cs},awBs C b σ3 Ψ Ρ Ξ→Rel c σ3 k3→wpAny (model pw c.w) c.A (execs b.py c.env) (PostF (c.re k3) k3 Ψ Ρ) (EX (c.re k3) Ξ) k3.s)
include ok hfe hasg hbody
theorem for_loop{k1 k2:Cs}{σ1:St}{I0:Addr}{items:List AV}{I:List AV→St→Prop}{St:Nat→Heap→Prop}{fp:List Addr}{P:Nat→Value→Prop}(W:Walks pw c.w c.A I0 fp [I0] items.length P St)(hfp:∀b∈fp,b=I0∨∃o,k1.g b o)(hP:∀j v,P j v→∀a,items[j]?=some a→VR k1.g k1.r a v)(itr:∀i h,St i h→ItObj h I0)
  (nx1:Nx k k1)(R2:Rel c σ1 k2)(nx2:Nx k1 k2)(H2:Hid c k2 I0)(st0:St 0 k2.s.heap)(hI0:I items σ1)(hstep:∀y r σ2,I (y::r) σ2→Step y σ2 (I r))(hfin:∀σ2,I [] σ2→Φ σ2):
  codeAny (model pw c.w) c.A (.forLoop tgt (.ref I0) b.py [] c.env) (fun r s'=>match r with| .ok f=>PostF c k Φ Ρ f s'| .error e=>cameBackBy (model pw c.w) c.A c.env (EX c Ξ) e s') k2.s:=by
 refine codeAny_forLoop_any (I:=FL c k1 I0 St I items) (fun n s hs=>?_) items.length ⟨0,items,σ1,_,rfl,rfl,rfl,Nat.zero_le _,R2,nx2,H2,st0,hI0⟩
 obtain⟨j,rest,σj,kk,rfl,rfl,hdrop,hle,Rk,nxk,Hk,stk,inv⟩:=hs
 have but:∀{h':Heap},(∀b o,b∉ [I0]→kk.s.heap.get? b=some o→h'.get? b=some o)→But kk I0 h':=fun h=>⟨fun b o n=>h b o fun z=>n (List.mem_singleton.mp z)⟩
 cases rest with
 |nil=>
  refine W.done kk.s _ _ (Nat.le_antisymm hle (List.drop_eq_nil_iff.mp hdrop)▸stk) fun h' tk keep=>wpAny_execs_nil ?_
  have h5:=Rk.gone ok Hk (but keep) tk
  exact⟨σj,_,rfl,hfin _ inv,(nx1.trans nxk).trans h5.1,h5.2⟩
 |cons y r=>
  have hd:=drop_cons hdrop
  have hj:=(List.getElem?_eq_some_iff.mp hd.1).1
  refine W.item j kk.s _ _ hj stk fun vy h' tk hPv st' keep=>?_
  have h5:=Rk.hidset ok Hk (but keep) ((itr _ _ st').imp fun _ h=>h.elim fun _ h=>h.1) tk
  have nx5:=nxk.trans (h5.1.nx ok Rk)
  refine wpAny_mono (hasg (k2:=kk.at h' tk) (hstep y r σj inv) h5.2 (nx5.vr (hP j vy hPv y hd.1)) (itr _ _ st') fun σ3 k3 ht hr3 nx3 R3 hh3=>?_) (fun _ s hq=>wpAny_mono hq (fun _ _ z=>z) fun _ _=>turned ok hfe) fun _ _=>turned ok hfe
  have h3:=hh3 I0 (Hk.after h5.1)
  refine wpAny_mono (hbody ht R3) (fun fl s4 hf=>?_) (fun e s hx=>turned ok hfe (hx.back ok R3))
  cases fl with
  |next=>
   obtain⟨σ4,k4,rfl,q4,nx4,R4⟩:=hf
   have s1:=h3.1.re R3 R4 nx4
   refine⟨r.length,Nat.lt_succ_self _,j+1,r,σ4,k4,rfl,rfl,hd.2,hj,R3.back ok R4 nx4,(nx5.trans nx3).trans nx4,s1.1,W.frame _ _ _ st' fun b hb o e=>?_,q4⟩
   rcases hfp b hb with rfl|⟨o',g⟩
   ·exact s1.2 o (h3.2 o e)
   ·have g:=nx5.g _ _ g
    cases g.1.symm.trans (show(kk.at h' tk).s.heap.get? b=some o from e)
    exact(nx4.g _ _ (nx3.g _ _ g)).1
  |ret v=>
   obtain⟨a,σ4,k4,rfl,q4,nx4,R4,hv4⟩:=hf
   exact⟨a,σ4,k4,rfl,q4,((nx1.trans nx5).trans nx3).trans nx4,R3.back ok R4 nx4,hv4⟩
  |brk=>exact hf.elim
  |cont=>exact hf.elim
theorem for_core(hit:∀Ψ,awp C it σ Ψ Ξ→wpAny (model pw c.w) c.A (eval it.py c.env) (Post c k Ψ) (EX c Ξ) k.s)
  (h:awp C it σ (fun x σ'=>onS (aiter x) fun items=>items.length≤sizeLine∧∃I:List AV→St→Prop,I items σ'∧(∀y r σ2,I (y::r) σ2→Step y σ2 (I r))∧(∀σ2,I [] σ2→Φ σ2)) Ξ):
  wpAny (model pw c.w) c.A (exec (.For tgt it.py b.py [] p) c.env) (PostF c k Φ Ρ) (EX c Ξ) k.s:=by
 refine wpAny_For (Post.use (hit _ h) fun x σ1 k1 vx q nx1 R1 hv1=>onS.el q fun items hi q=>?_) (noFold it c.env)
 obtain⟨hlen,I,hI0,hstep,hfin⟩:=q
 refine iter_ok ok R1 hi hlen hv1 fun ob St hob itr st0=>?_
 obtain⟨fp,P,W,hfp,hP⟩:=itr.walks
 have dI:k1.s.heap.get? k1.s.heap.objs.size=none:=zbc _
 have h2:=R1.hide ok (L:=[k1.s.heap.objs.size]) (h':=k1.s.heap.push ob) (Grow.push k1 ob) (fun b hb=>List.mem_singleton.mp hb▸dI) (fun b hb=>List.mem_singleton.mp hb▸⟨_,hob⟩) k1.s.toks
 exact for_loop ok hfe Step hasg hbody (k2:=k1.hide [k1.s.heap.objs.size] (k1.s.heap.push ob) k1.s.toks) W hfp hP itr.cls nx1 h2.2 (h2.1.nx ok R1) (Hid.of_hide (t:=k1.s.toks) (h':=k1.s.heap.push ob) ok R1 (List.mem_singleton.mpr rfl) dI) st0 hI0 hstep hfin
end
end
theorem hid_step{c:FC}{k:Cs}{h':Heap}{t:Nat}{z:Addr}(hs:Heap.SameBut c.env.locals k.s.heap h')(h:Hid c k z):Hid c (k.at h' t) z∧∀o,k.s.heap.get? z=some o→(k.at h' t).s.heap.get? z=some o:=
 ⟨⟨h.z,h.own,h.new,h.nF,h.ne⟩,fun o e=>hs.extBut z o (fun q=>h.own (q▸zef)) e⟩
theorem zhg{c:FC}{σ:St}{k:Cs}{E:Value→Shared→Prop}{i:Nat}{a:AV}{va:Value}{p:Pos}{Q:Unit→Shared→Prop}(ok:c.Ok)(R:Rel c σ k)(hi:i<nms.length)(hk:c.env.kindOf (nm i)=some .local)(ha:VR k.g k.r a va)
  (q:∀k3,k3.r=k.r→Nx k k3→Rel c (σ.set i a) k3→HidK c k k3→Q () k3.s):wpAny (model pw c.w) c.A (assign (.Name (nm i) p) c.env va) Q E k.s:=by
 obtain⟨mm,hn,hl⟩:=R.ns
 refine wpAny_assign_Name (wpAny_storeName_local hk hn (fun h' hn' hs'=>?_) (by rw[ok.kind];rfl))
 exact q (k.at h' (k.s.toks+1)) rfl ((But.of hs').nx R.lz _) (R.setLoc ok hl hn' hs' hi hk ha) fun z hz=>hid_step hs' hz
inductive WL(k:Cs)(c:FC)(I:St→Prop)(m:St→Nat)(n:Nat)(s:Shared):Prop
 |mk (σ:St) (k':Cs) (e:s=k'.s) (l:n=m σ) (h:I σ) (x:Nx k k') (R:Rel c σ k')
theorem while_ok{C:CS}{c:FC}{σ:St}{k:Cs}{t:X}{b:Bs}{p:Pos}{Φ:St→Prop}{Ρ:AV→St→Prop}{Ξ:Int→Prop}{I:St→Prop}{m:St→Nat}(ok:c.Ok)(hfe:c.fe=c.env)(R:Rel c σ k)(h0:I σ)
  (ht:∀σ' k',I σ'→Rel c σ' k'→wpAny (model pw c.w) c.A (isTrue t.py c.env (eval t.py c.env)) (PostB c k' (fun cc σ''=>br cc (awBs C b σ'' (fun σ3=>I σ3∧m σ3<m σ') Ρ Ξ) (Φ σ''))) (EX c Ξ) k'.s)
  (hb:∀σ'' k'' Ψ,awBs C b σ'' Ψ Ρ Ξ→Rel c σ'' k''→wpAny (model pw c.w) c.A (execs b.py c.env) (PostF c k'' Ψ Ρ) (EX c Ξ) k''.s):
  wpAny (model pw c.w) c.A (exec (.While t.py b.py [] p) c.env) (PostF c k Φ Ρ) (EX c Ξ) k.s:=by
 refine wpAny_While (codeAny_whileLoop (I:=WL k c I m) (fun n s hs=>?_) (m σ) ⟨σ,k,rfl,rfl,h0,Nx.refl k,R⟩)
 obtain⟨σ',k',rfl,rfl,hI,nx,R'⟩:=hs
 refine wpAny_mono (PostB.use (ht σ' k' hI R') fun bb σ2 k2 q x R2=>(?_:(fun(b:Bool) s₂=>if b then _ else _) bb k2.s)) (fun _ _ z=>z) fun _ _=>turned ok hfe
 cases bb with
 |true=>
  rw[if_pos rfl]
  refine wpAny_mono (hb σ2 k2 _ q R2) (fun fl s3 hf=>?_) fun _ _=>turned ok hfe
  cases fl with
  |next=>
   obtain⟨σ3,k3,rfl,q1,x3,R3⟩:=hf
   exact⟨m σ3,q1.2,σ3,k3,rfl,rfl,q1.1,(nx.trans x).trans x3,R3⟩
  |ret v=>exact Post.ext (nx.trans x) hf
  |brk=>exact hf.elim
  |cont=>exact hf.elim
 |false=>
  rw[if_neg (by decide)]
  exact wpAny_execs_nil ⟨σ2,k2,rfl,q,nx.trans x,R2⟩
noncomputable def BlOk(C:CS)(x:B):Prop:=∀{fz:Option Nat}{c:FC}{σ:St}{k:Cs}{Φ:St→Prop}{Ρ:AV→St→Prop}{Ξ:Int→Prop},Pre C fz c σ k→c.fe=c.env→chkB fz c.env.scope x=true→awB C x σ Φ Ρ Ξ→wpAny (model pw c.w) c.A (exec x.py c.env) (PostF c k Φ Ρ) (EX c Ξ) k.s
noncomputable def BlsOk(C:CS)(l:Bs):Prop:=∀{fz:Option Nat}{c:FC}{σ:St}{k:Cs}{Φ:St→Prop}{Ρ:AV→St→Prop}{Ξ:Int→Prop},Pre C fz c σ k→c.fe=c.env→chkBs fz c.env.scope l=true→awBs C l σ Φ Ρ Ξ→wpAny (model pw c.w) c.A (execs l.py c.env) (PostF c k Φ Ρ) (EX c Ξ) k.s
section
variable{C:CS}
theorem Pre.turn{fz:Option Nat}{c:FC}{σ σ':St}{k k':Cs}(P:Pre C fz c σ k)(R:Rel c σ' k'):Pre C none (c.re k') σ' k':=⟨fun c' a b=>P.HC c' a b,FC.re_ok P.ok R,fun n z=>nS z,R.re P.ok⟩
theorem b_for{b:Bs}(B:BlsOk C b)(i:Nat)(pi:Pos)(it:X)(p:Pos):BlOk C (.for_ i pi it b p):=fun{fz c σ k Φ Ρ Ξ} P hfe hk h=>
 have l:=zfd (and2 hk).1
 have h2:=and2 (and2 hk).2
 for_core (C:=C) P.ok hfe (fun y(σ2:St) Ψ=>(σ2.set i y).fc fun τ=>awBs C b τ Ψ Ρ Ξ) (fun{y σ2 Ψ k2 v I0 Q} hs R2 hv hI hq=>wpAny_pure (zhg P.ok R2 l.1 l.2 hv fun k3 hr nx R3 hh=>hq _ k3 (Eq.mp (St.fc_eq _ _) hs) hr nx R3 hh))
  (fun{σ3 Ψ k3} hb R3=>B (P.turn R3) hfe h2.2 hb) (fun Ψ h=>(zbp it).1 P h2.1 (.inr hfe) h) h
theorem two_at{g:G}{it:Array Value}{u w:PyData}(h:RdAll g it.toList [u,w]):∃a b,it=#[a,b]∧Rd g a u∧Rd g b w:=by
 obtain⟨l⟩:=it
 exact h.el (G:=fun l=>∃a b,(⟨l⟩:Array Value)=#[a,b]∧Rd g a u∧Rd g b w) fun a l h1 h=>h.el (G:=fun l=>∃x b,(⟨a::l⟩:Array Value)=#[x,b]∧Rd g x u∧Rd g b w) fun b l h2 h=>h.el0 (G:=fun l=>∃x y,(⟨a::b::l⟩:Array Value)=#[x,y]∧Rd g x u∧Rd g y w) ⟨a,b,rfl,h1,h2⟩
theorem b_for2{b:Bs}(B:BlsOk C b)(i j:Nat)(pi pj pt:Pos)(it:X)(p:Pos):BlOk C (.for2 i j pi pj pt it b p):=fun{fz c σ k Φ Ρ Ξ} P hfe hk h=>by
 have l1:=zfd (and2 hk).1
 have h2:=and2 (and2 hk).2
 have l2:=zfd h2.1
 have h3:=and2 h2.2
 refine for_core (C:=C) P.ok hfe (fun(y:AV)(σ2:St) Ψ=>on2d y fun u v=>((σ2.set i (.d u)).set j (.d v)).fc fun τ=>awBs C b τ Ψ Ρ Ξ) (fun{y σ2 Ψ k2 v I0 Q} hs R2 hv hI hq=>?_)
  (fun{σ3 Ψ k3} hb R3=>B (P.turn R3) hfe h3.2 hb) (fun Ψ h=>(zbp it).1 P h3.1 (.inr hfe) h) h
 obtain⟨u,w,rfl,hs1⟩:=on2d.inv hs
 refine Rd.elTu hv fun t items ht hr=>?_
 obtain⟨va,vb,rfl,r1,r2⟩:=two_at hr
 refine go_ok hI (assign_Tuple_tuple P.ok.hd ht (by rfl) rfl fun h' he=>?_)
 have gr:Grow k2 h':=⟨fun b o e=>he b o (Nat.ne_of_lt (Heap.lt_size e)) e⟩
 have nx1:=gr.nx k2.s.toks
 have hid1:HidK c k2 (k2.at h' k2.s.toks):=fun z hz=>⟨⟨hz.z,hz.own,hz.new,hz.nF,hz.ne⟩,fun o e=>gr.keep z o e⟩
 refine wpAny_bind (wpAny_holding (zhg (k:=k2.at h' k2.s.toks) P.ok (R2.grow gr k2.s.toks) l1.1 l1.2 (a:= .d u) (r1.mono nx1.g) fun k4 hr4 nx4 R4 hh4=>?_))
 refine wpAny_bind (wpAny_holding (zhg P.ok R4 l2.1 l2.2 (a:= .d w) (r2.mono (nx1.trans nx4).g) fun k5 hr5 nx5 R5 hh5=>?_))
 exact wpAny_pure (hq _ k5 (Eq.mp (St.fc_eq _ _) hs1) (hr5.trans hr4) ((nx1.trans nx4).trans nx5) R5 ((hid1.trans hh4).trans hh5))
theorem b_ifs{a b:Bs}(A:BlsOk C a)(B:BlsOk C b)(t:X)(p:Pos):BlOk C (.ifs t a b p):=fun{fz c σ k Φ Ρ Ξ} P hfe hk h=>by
 have h2:=and2 (and2 hk).2
 refine wpAny_If (PostB.use ((zbp t).2 P (and2 hk).1 (.inr hfe) h) fun bb σ' k' q x R'=>?_)
 cases bb with
 |true=>exact PostF.wp x (A (P.to R') hfe h2.1 q)
 |false=>exact PostF.wp x (B (P.to R') hfe h2.2 q)
theorem bs_cons{x:B}{r:Bs}(A:BlOk C x)(B:BlsOk C r):BlsOk C (.cons x r):=fun{fz c σ k Φ Ρ Ξ} P hfe hk h=>by
 refine wpAny_execs_cons (wpAny_mono (A P hfe (and2 hk).1 h) (fun fl s' hf=>?_) fun _ _ e=>e)
 cases fl with
 |next=>
  obtain⟨σ',k',rfl,q,x',R'⟩:=hf
  exact PostF.wp x' (B (P.to R') hfe (and2 hk).2 q)
 |_=>exact hf
theorem blocks_ok(l:Bs):BlsOk C l:=by
 induction l using Bs.rec (motive_1:=fun x=>BlOk C x)with
 |s x=>exact fun P hfe hk h=>s_ok x P hfe hk h
 |ifs t a b p A B=>exact b_ifs A B t p
 |whl t b p B=>exact fun P hfe hk h=>h.elim fun I h=>h.elim fun m h=>while_ok (C:=C) (I:=I) (m:=m) P.ok hfe P.R h.1 (fun σ' k' hi R'=>(zbp t).2 (P.to R') (and2 hk).1 (.inr hfe) (h.2 σ' hi)) fun σ'' k'' Ψ hq R''=>B (P.to R'') hfe (and2 hk).2 hq
 |for_ i pi it b p B=>exact b_for B i pi it p
 |for2 i j pi pj pt it b p B=>exact b_for2 B i j pi pj pt it p
 |nil=>exact fun P _ _ h=>wpAny_execs_nil ⟨_,_,rfl,h,Nx.refl _,P.R⟩
 |cons x r A B=>exact bs_cons A B
end
theorem Bs_ok{C:CS}(l:Bs){fz:Option Nat}{c:FC}{σ:St}{k:Cs}{Φ:St→Prop}{Ρ:AV→St→Prop}{Ξ:Int→Prop}(HC:zbe C c)(ok:c.Ok)(hfe:c.fe=c.env)(hfz:∀n,fz=some n→c.n0≤n)(hk:chkBs fz c.env.scope l=true)(R:Rel c σ k)(h:awBs C l σ Φ Ρ Ξ):
  wpAny (model pw c.w) c.A (execs l.py c.env) (PostF c k Φ Ρ) (EX c Ξ) k.s:=blocks_ok l ⟨HC,ok,hfz,R⟩ hfe hk h
end Mine
namespace Mine
open H (K vw loose pw st sti)
noncomputable def bodyF:Nat→Bs
 |0=>zer
 |1=>zfl
 |2=>zeb
 |3=>b_escaped
 |4=>b_refused
 |5=>zew
 |6=>zg0
 |7=>zeq
 |8=>b_joined
 |9=>zea
 |10=>b_level_of
 |11=>zep
 |12=>zch
 |13=>zfo
 |14=>zc0
 |15=>ze3
 |16=>zgc
 |17=>zhi
 |18=>zgh
 |19=>b_law_draw
 |20=>b_law_leaf
 |21=>b_law_tree
 |22=>zdt
 |23=>zfn
 |25=>zc1
 |26=>b_law
 |100=>zc3
 |101=>zen
 |102=>zdg
 |103=>zev
 |104=>zeu
 |105=>zbz
 |106=>zbu
 |107=>zem
 |108=>zde
 |109=>zd9
 |110=>zc8
 |111=>zdp
 |112=>zby
 |113=>zbn
 |114=>zbf
 |115=>zb5
 |116=>zb2
 |117=>zb7
 |118=>zbs
 |119=>zba
 |120=>za3
 |121=>zbq
 |122=>za6
 |123=>zbm
 |124=>za9
 |125=>za2
 |126=>zbt
 |127=>zb6
 |128=>zbr
 |200=>zc6
 |201=>ze5
 |202=>zgt
 |203=>zb4
 |_=> .nil
noncomputable def prmF:Nat→List Nat
 |0=> [1,2]
 |1=> [15]
 |2=> [10,18]
 |3=> [1,17]
 |4=> [7,1,2]
 |5=> [1,21,22]
 |6=> [1,21,22]
 |7=> [1]
 |8=> [10,32,35]
 |9=> [1]
 |10=> [36]
 |11=> [36,31]
 |12=> [36]
 |13=> [37]
 |14=> [36]
 |15=> [37]
 |16=> []
 |17=> []
 |18=> []
 |19=> [38,39]
 |20=> [38]
 |21=> [38,42]
 |22=> [38,42]
 |23=> [45]
 |24=> [45]
 |25=> [38,45]
 |26=> [52]
 |100=> [0]
 |101=> [0,8]
 |102=> [0,9]
 |103=> [0]
 |104=> [0,9]
 |105=> [0,11]
 |106=> [0,11]
 |107=> [0]
 |108=> [0]
 |109=> [0,11,13,14]
 |110=> [0]
 |111=> [0,17]
 |112=> [0]
 |113=> [0,7]
 |114=> [0,10,8]
 |115=> [0,10]
 |116=> [0,10]
 |117=> [0]
 |118=> [0]
 |119=> [0]
 |120=> [0]
 |121=> [0]
 |122=> [0]
 |123=> [0]
 |124=> [0]
 |125=> [0,31]
 |126=> [0]
 |127=> [0]
 |128=> [0,17]
 |200=> [0,2,4,56]
 |201=> [0,1,3]
 |202=> [0,19,20,2]
 |203=> [0,1]
 |_=> []
noncomputable def fids:List Nat:=[0,1,2,3,4,5,6,7,8,9,10,11,12,13,14,15,16,17,18,19,20,21,22,23,25,26,100,101,102,103,104,105,106,107,108,109,110,111,112,113,114,115,116,117,118,119,120,121,122,123,124,125,126,127,128,200,201,202,203]
noncomputable def dflF:Nat→Option PyData
 |101=>some (.int 0)
 |106=>some (.str (Str.ofString " \t"))
 |114=>some (.int 0)
 |201=>some (.int 0)
 |_=>none
noncomputable def fzF(f:Nat):Nat:=if f=7∨f=23 then 0 else 1
noncomputable def fdO(F:Frag)(f:Nat):FuncData:=match F.lookup (fadr f)with
 |some ⟨_,_, .func fd,_⟩=>fd
 |_=>default
noncomputable def codeO(q:Str)(o:Obj):Bool:=match o.data with
 | .fields vs=>(vs[1]?).any fun v=>v.isStr q
 |_=>false
noncomputable def codeChk(F:Frag)(cd:Value)(q:Str):Bool:=match cd with
 | .ref c=>(F.lookup c).any (codeO q)
 |_=>false
noncomputable def seqO(x:PyData)(o:Obj):Bool:=match o.data with
 | .seq vs _=>rdKs [x] vs.toList
 |_=>false
noncomputable def dflChk(F:Frag)(v:Value):Option PyData→Bool
 |none=>v== .none
 |some x=>match v with
  | .ref a=>(F.lookup a).any (seqO x)
  |_=>false
noncomputable def fnO(o:Obj):Option FuncData:=match o.data with
 | .func fd=>some fd
 |_=>none
noncomputable def fdChk(F:Frag)(f:Nat):Bool:=match F.lookup (fadr f)with
 |some ⟨_,_, .func fd,_⟩=>fd.closure.isEmpty&&(Nat.beq fd.globals mainGlobals&&(Nat.beq fd.builtins builtinsNs&&(fd.scope.kind== .function&&(!fd.scope.isCoroutine&&(!fd.scope.isGenerator&&
   (codeChk F fd.code fd.qualname&&((prmF f).all (fun i=>Nat.blt i nms.length&&(fd.scope.names.lookup (nm i)==some .local||fd.scope.names.lookup (nm i)==some .cell))&&
   (dflChk F fd.defaults (dflF f)&&noRep (prmF f)))))))))
 |_=>false
where noRep:List Nat→Bool
 | []=>true
 |x::r=>!r.contains x&&noRep r
theorem fd_facts:∀P:Params,(fids.all (fdChk (K P)))=true:=by
 intro P;kernel_rfl
theorem body_facts:∀P:Params,fids.map (fun f=>(fdO (K P) f).body)=fids.map fun f=> .stmts (bodyF f).py:=by
 intro P;kernel_rfl
theorem chk_facts:∀P:Params,(fids.all fun f=>f==26||chkBs (some (fzF f)) (fdO (K P) f).scope (bodyF f))=true:=by
 intro P;kernel_rfl
theorem bind_facts:∀(P:Params)(v:Nat→Value),(fids.filter fun f=>(dflF f).isNone).map (fun f=>bindArgs (fdO (K P) f) ⟨(List.range (prmF f).length).map v,[]⟩)=(fids.filter fun f=>(dflF f).isNone).map fun f=>pure (((prmF f).map nm).zip ((List.range (prmF f).length).map v)):=by
 intro P v;kernel_rfl
noncomputable def kOf(fd:FuncData)(vs:List Value):{k:Option (Array Value)→Sem (List (Str×Value))//bindArgs fd ⟨vs,[]⟩=seqItems? fd.defaults>>=k}:=⟨_,rfl⟩
noncomputable def dfids:List Nat:=[101,106,114,201]
theorem dfl_full:∀(P:Params)(v:Nat→Value)(d:Value),dfids.map (fun f=>(kOf (fdO (K P) f) ((List.range (prmF f).length).map v)).1 (some #[d]))=dfids.map fun f=>pure (((prmF f).map nm).zip ((List.range (prmF f).length).map v)):=by
 intro P v d;kernel_rfl
theorem dfl_less:∀(P:Params)(v:Nat→Value)(d:Value),dfids.map (fun f=>(kOf (fdO (K P) f) ((List.range ((prmF f).length-1)).map v)).1 (some #[d]))=dfids.map fun f=>pure (((prmF f).map nm).zip ((List.range ((prmF f).length-1)).map v++[d])):=by
 intro P v d;kernel_rfl
theorem zco(l:List Value):(List.range l.length).map (fun i=>l.getD i .none)=l:=by
 apply List.ext_getElem
 ·simp
 ·intro i h1 h2
  simp only[List.getElem_map,List.getElem_range]
  rw[List.getD_eq_getElem?_getD,List.getElem?_eq_getElem h2];rfl
theorem zdv{α β:Type}{f g:α→β}{l:List α}(h:l.map f=l.map g):∀x∈l,f x=g x:=List.map_inj_left.mp h
noncomputable def fullV(d:Value)(f:Nat)(vs:List Value):List Value:=if vs.length<(prmF f).length then vs++[d]else vs
theorem dfl_inv{F:Frag}{v:Value}{x:PyData}(h:dflChk F v (some x)=true):∃T o d n,v= .ref T∧F.lookup T=some o∧o.data= .seq #[d] n∧rdA d x=true:=by
 cases v with
 |ref T=>
  obtain⟨o,e,h⟩:=any_some h
  revert h
  unfold seqO
  cases hd:o.data with
  |seq vs n=>
   obtain⟨vl⟩:=vs
   cases vl with
   |nil=>exact fun h=>Bool.noConfusion h
   |cons d r=>cases r with
    |nil=>exact fun h=>⟨T,o,d,n,rfl,e,hd,(Bool.and_eq_true_iff.mp h).1⟩
    |cons=>exact fun h=>Bool.noConfusion (Bool.and_eq_true_iff.mp h).2
  |_=>exact fun h=>Bool.noConfusion h
 |_=>exact Bool.noConfusion h
theorem dfl_facts:∀P:Params,(fids.all fun f=>dflChk (K P) (fdO (K P) f).defaults (dflF f))=true:=by
 intro P;kernel_rfl
theorem bind_ok{P:Params}{s:Shared}{f:Nat}{vs:List Value}(hf:f∈fids)(hK:(K P).In s.heap)(hl:vs.length=(prmF f).length∨(vs.length+1=(prmF f).length∧(dflF f).isSome=true)):
  ∃d,(∀x,dflF f=some x→∀g:G,(∀b o,(K P).lookup b=some o→g b o)→Rd g d x)∧BindsTo s (fdO (K P) f) ⟨vs,[]⟩ (((prmF f).map nm).zip (fullV d f vs)):=by
 have full:∀d,vs.length=(prmF f).length→fullV d f vs=vs:=fun d e=>if_neg (e▸Nat.lt_irrefl _)
 have hdd:=List.all_eq_true.mp (dfl_facts P) f hf
 cases hd:dflF f with
 |none=>
  rw[hd]at hl
  have hl:vs.length=(prmF f).length:=hl.elim id fun h=>Bool.noConfusion h.2
  have h:=zdv (bind_facts P (fun i=>vs.getD i .none)) f (List.mem_filter.mpr ⟨hf,by rw[hd];rfl⟩)
  rw[←hl,zco]at h
  refine⟨.none,fun x h=>nS h,?_⟩
  rw[full _ hl]
  exact BindsTo.of_eq h
 |some x=>
  have hm:f∈dfids:=(show∀f∈fids,(dflF f).isSome=true→f∈dfids by decide) f hf (by rw[hd];rfl)
  rw[hd]at hdd
  obtain⟨T,o,d,n,eT,eo,ed,r⟩:=dfl_inv hdd
  refine⟨d,fun y hy g hg=>Option.some.inj hy▸rdA_ok r,?_⟩
  have bd:=BindsTo.of_defaults (n:=n) eT (hK _ _ eo) ed (kOf (fdO (K P) f) vs).2 (binds:=((prmF f).map nm).zip (fullV d f vs))
  rcases hl with hl|hl
  ·have h:=zdv (dfl_full P (fun i=>vs.getD i .none) d) f hm
   rw[←hl,zco]at h
   refine bd ?_
   rw[full d hl]
   exact h
  ·have h:=zdv (dfl_less P (fun i=>vs.getD i .none) d) f hm
   have e:fullV d f vs=vs++[d]:=if_pos (hl.1▸Nat.lt_succ_self _)
   rw[←hl.1,Nat.add_sub_cancel,zco]at h
   exact bd (e▸h)
noncomputable def FC.sub(c:FC)(k:Cs)(env:Env)(ps:List (Addr×Addr)):FC:=
 {w:=c.w,hb:=c.hb,A:=c.A.deeper env,env:=env,fe:=env,outs:=c.fe::c.outs,k0:=⟨k.Z,ps,k.s⟩,F:=c.fe.locals::c.F,m0:=fun b=>∃p∈ps,b=p.2∧k.Z b,n0:=ps.length,cw:=False}
section
variable{c:FC}{σ:St}{k:Cs}{env:Env}{ps:List (Addr×Addr)}
theorem subF_Z(ok:c.Ok)(R:Rel c σ k):∀b∈c.fe.locals::c.F,k.Z b:=fun b hb=>by
 rcases List.mem_cons.mp hb with rfl|hb
 ·exact R.locZ ok
 ·exact R.z0 _ (ok.fz b hb)
theorem sub_m0(ok:c.Ok)(R:Rel c σ k)(hps:∀p∈ps,p∈k.r){b:Addr}(h:∃p∈ps,b=p.2∧k.Z b):b≠c.env.locals∧(∀q∈c.env.cells,b≠q.2)∧(c.m0 b∨c.k0.s.heap.get? b=none)∧b∉c.F:=by
 obtain⟨p,hp,rfl,hz⟩:=h
 have hp:=hps p hp
 have hn:=R.nodup
 unfold own at hn
 obtain⟨n1,n2⟩:=List.nodup_cons.mp hn
 obtain⟨n3,n4,n5⟩:=List.nodup_append.mp n2
 obtain⟨h1,h2⟩:=R.mine p.2 (zex hp) hz
 refine⟨fun e=>n1 (e▸List.mem_append_right _ (List.mem_map_of_mem hp)),fun q hq e=>n5 q.2 (List.mem_map_of_mem hq) p.2 (List.mem_map_of_mem hp) e.symm,h1,h2⟩
theorem sub_F(ok:c.Ok)(R:Rel c σ k)(hps:∀p∈ps,p∈k.r){b:Addr}(h:∃p∈ps,b=p.2∧k.Z b):b∉c.fe.locals::c.F:=fun hb=>by
 obtain⟨h1,h2,h3,h4⟩:=sub_m0 ok R hps h
 rcases List.mem_cons.mp hb with e|hb
 ·rcases ok.fo with q|q
  ·exact h1 (e.trans q)
  ·exact h4 (e▸q)
 ·exact h4 hb
theorem sub_ok(ok:c.Ok)(R:Rel c σ k)(hps:∀p∈ps,p∈k.r)(hd:c.A.depth+1<recursionLimit)(hu:c.A.units+1003<cLine)(hk:env.scope.kind= .function)(hg:env.globals=mainGlobals)(hb:env.builtins=builtinsNs)(hf:env.frame=some env.locals)
  (hcx:∀n,env.kindOf n=some .cell→∃a,env.cells.lookup n=some a):(c.sub k env ps).Ok where
 kin:=ok.kin
 top:=ok.top
 base:=fun b o e=>by
  obtain⟨h1,h2⟩:=R.base ok b o e
  exact⟨h1,h2,fun q=>h2 (subF_Z ok R b q),fun q=>h2 (q.elim fun _ q=>q.2.2)⟩
 hd:=ok.hd
 units:=by show c.A.units+3+1000<cLine;omega
 depth:=hd
 kind:=hk
 glob:=hg
 blt:=hb
 frames:=by show c.A.frames.map (env:: ·)=_;rw[ok.frames];rfl
 fo:= .inl rfl
 fframe:=hf
 fkind:=hk
 outs:=fun e he=>by
  rcases List.mem_cons.mp he with rfl|he
  ·obtain⟨o,h1,h2⟩:=R.floc
   exact⟨(by rw[ok.fkind];intro q;cases q),c.fe.locals,o,ok.fframe,List.mem_cons_self,h1,h2⟩
  ·obtain⟨h1,L,o,h2,h3,h4,h5⟩:=ok.outs e he
   obtain⟨sl,q⟩:=R.fr L o h3 h4
   exact⟨h1,L,_,h2,List.mem_cons_of_mem _ h3,q,h5⟩
 fz:=fun b hb=>(subF_Z ok R b hb:k.Z b)
 fm:=fun b hb q=>sub_F ok R hps q hb
 zx:=R.zx
 mz:=fun b q=>q.elim fun _ q=>q.2.2
 guards:=ok.guards
 cfresh:=fun h=>h.elim
 cellx:=hcx
 fok:=fun b hb=>by
  rcases List.mem_cons.mp hb with rfl|hb
  ·exact R.floc
  ·obtain⟨ob,h1,h2⟩:=ok.fok b hb
   obtain⟨sl,q⟩:=R.fr b ob hb h1
   exact⟨_,q,h2⟩
theorem lookup_zip{g:G}{r:List (Addr×Addr)}{ps:List Nat}:∀{as:List AV}{vs:List Value}{i:Nat}{a:AV},VRs g r as vs→(ps.zip as).lookup i=some a→∃v,(i,v)∈ps.zip vs∧VR g r a v∧i∈ps:=by
 induction ps with
 |nil=>exact fun _ e=>nS e
 |cons p ps ih=>
  intro as vs i a h e
  cases as with
  |nil=>exact nS e
  |cons b as=>
   refine h.el fun v vs h1 h2=>?_
   rw[List.zip_cons_cons,List.lookup_cons]at e
   cases hb:i==p with
   |true=>
    rw[hb]at e
    cases Option.some.inj e
    exact⟨_,beq_iff_eq.mp hb▸List.mem_cons_self,h1,beq_iff_eq.mp hb▸List.mem_cons_self⟩
   |false=>
    rw[hb]at e
    exact(ih h2 e).imp fun v x=>⟨List.mem_cons_of_mem _ x.1,x.2.1,List.mem_cons_of_mem _ x.2.2⟩
theorem bindL_skip{kd:Str→Option NameKind}:∀{binds:List (Str×Value)}{m:Str→Option Value}{n:Str},n∉binds.map (·.1)→bindL kd binds m n=m n
 | [],_,_,_=>rfl
 |(x,v)::r,m,n,h=>by
  unfold bindL
  simp only[List.map_cons,List.mem_cons,not_or]at h
  rw[bindL_skip h.2]
  split
  ·show(if n=x then _ else _)=_
   rw[if_neg h.1]
  ·rfl
theorem bindC_skip{kd:Str→Option NameKind}:∀{binds:List (Str×Value)}{m:Str→Option Value}{n:Str},n∉binds.map (·.1)→bindC kd binds m n=m n
 | [],_,_,_=>rfl
 |(x,v)::r,m,n,h=>by
  unfold bindC
  simp only[List.map_cons,List.mem_cons,not_or]at h
  rw[bindC_skip h.2]
  split
  ·rfl
  ·show(if n=x then _ else _)=_
   rw[if_neg h.1]
theorem zgg{kd:Str→Option NameKind}:∀{binds:List (Str×Value)}{m:Str→Option Value}{n:Str}{v:Value},(binds.map (·.1)).Nodup→(n,v)∈binds→kd n=some .local→bindL kd binds m n=some v
 |(x,u)::r,m,n,v,hn,h,hk=>by
  unfold bindL
  simp only[List.map_cons,List.nodup_cons]at hn
  rcases List.mem_cons.mp h with e|h
  ·cases e
   rw[bindL_skip hn.1,if_pos hk]
   show(if x=x then _ else _)=_
   rw[if_pos rfl]
  ·exact zgg hn.2 h hk
theorem zgp{kd:Str→Option NameKind}:∀{binds:List (Str×Value)}{m:Str→Option Value}{n:Str}{v:Value},(binds.map (·.1)).Nodup→(n,v)∈binds→kd n=some .cell→bindC kd binds m n=some v
 |(x,u)::r,m,n,v,hn,h,hk=>by
  unfold bindC
  simp only[List.map_cons,List.nodup_cons]at hn
  rcases List.mem_cons.mp h with e|h
  ·cases e
   rw[bindC_skip hn.1,if_neg (by rw[hk];decide)]
   show(if x=x then _ else _)=_
   rw[if_pos rfl]
  ·exact zgp hn.2 h hk
theorem zbx:∀{names:List (Str×NameKind)}{n:Nat}{acc:List (Str×Addr)}{x:Str},(names.lookup x=some .cell∨(acc.lookup x).isSome=true)→((cellsFrom n names acc).lookup x).isSome=true
 | [],_,_,_,h=>h.elim (fun h=>by cases h) id
 |(y,kd)::r,n,acc,x,h=>by
  unfold cellsFrom
  split
  ·refine zbx ?_
   rcases h with h|h
   ·rw[List.lookup_cons]at h
    cases hb:x==y with
    |true=>right;rw[List.lookup_cons,hb];rfl
    |false=>rw[hb]at h;exact .inl h
   ·right
    rw[List.lookup_cons]
    split
    ·rfl
    ·exact h
  ·rename_i hk
   refine zbx ?_
   rcases h with h|h
   ·rw[List.lookup_cons]at h
    cases hb:x==y with
    |true=>rw[hb]at h;cases h;exact absurd rfl hk
    |false=>rw[hb]at h;exact .inl h
   ·exact .inr h
end
section
variable{c:FC}{σ:St}{k:Cs}{env:Env}{ps:List (Addr×Addr)}
noncomputable def Cs.enter(k:Cs)(env:Env)(ps:List (Addr×Addr))(s₁:Shared):Cs:=⟨fun b=>k.Z b∨b=env.locals∨b∈env.cells.map (·.2),ps,s₁⟩
theorem ERel.move{g g':G}{r r'}{C:Addr}{fs es}(hg:∀b o,g b o→g' b o)(h:ERel g r C fs es):ERel g' r' C fs es:=by
 induction h with
 |nil=>exact .nil
 |cons a b c _ ih=>exact .cons a b (VR.mono hg (List.prefix_refl _) (VR.plain a.2 c)) ih
theorem ORel.move{k k':Cs}{p:Addr×Addr}{o:AO}(hg:∀b o,k.g b o→k'.g b o)(hz:k.Z p.2→k'.Z p.2)(hk:∀o,k.s.heap.get? p.2=some o→k'.s.heap.get? p.2=some o)(h:ORel k p o):ORel k' p o:=by
 cases o with
 |dead=>trivial
 |list l=>
  obtain⟨h1,h2,vs,n,h3,h4,h5⟩:=h
  exact⟨hz h1,h2,vs,n,hk _ h3,(h4.plain h5).mono hg (List.prefix_refl _),h5⟩
 |inst C fs=>
  obtain⟨h1,sl,h2,es,n,h3,h4⟩:=h
  exact⟨hz h1,sl,hg _ _ h2,es,n,hk _ h3,h4.move hg⟩
theorem notL{b L:Addr}{n:Nat}(h:b<n)(hL:n≤L)(e:b=L):False:=Nat.lt_irrefl _ (Nat.lt_of_lt_of_le h (Nat.le_trans hL (Nat.le_of_eq e.symm)))
theorem notC{b L a:Addr}{n:Nat}(h:b<n)(hL:n≤L)(hC:L<a)(e:b=a):False:=Nat.lt_irrefl _ (Nat.lt_trans (Nat.lt_of_lt_of_le h hL) (Nat.lt_of_lt_of_le hC (Nat.le_of_eq e.symm)))
theorem enter_g(k:Cs){env:Env}{s₁:Shared}(keep:∀b o,k.s.heap.get? b=some o→s₁.heap.get? b=some o)(hL:k.s.heap.objs.size≤env.locals)(hC:∀n a,(n,a)∈env.cells→env.locals<a):∀b o,k.g b o→(k.enter env ps s₁).g b o:=fun b o h=>by
 have hlt:=Heap.lt_size h.1
 refine⟨keep b o h.1,fun z=>?_⟩
 rcases z with z|z|z
 ·exact h.2 z
 ·exact notL hlt hL z
 ·obtain⟨q,hq,e⟩:=List.mem_map.mp z
  exact notC hlt hL (hC q.1 q.2 hq) e.symm
theorem enter_rel{m cm:Str→Option Value}{s₁:Shared}{objs:List AO}{loc:List (Nat×AV)}(ok:c.Ok)(R:Rel c σ k)(hps:∀p∈ps,p∈k.r)(hp1:ps.length≤1)(hfr:env.frame=some env.locals)(hcl:∀q∈env.cells,env.cells.lookup q.1=some q.2)(x:InCallC k.s env.locals m env.cells cm s₁)
  (hobj:∀(i:Nat)(o:AO),objs[i]?=some o→∃p,ps[i]?=some p∧ORel k p o)(hlen:objs.length=ps.length)
  (hloc:∀i a,loc.lookup i=some a→i<nms.length∧∃v,VR (k.enter env ps s₁).g ps a v∧((env.kindOf (nm i)=some .local∧m (nm i)=some v)∨(env.kindOf (nm i)=some .cell∧∃a,env.cells.lookup (nm i)=some a∧cm (nm i)=some v))):
  Rel (c.sub k env ps) ⟨loc,objs⟩ (k.enter env ps s₁):=by
 have hL:=x.toInCall.fresh
 have keep:=x.toInCall.keep
 have gg:=enter_g (ps:=ps) k keep hL x.above
 have cellx:∀q∈env.cells,∃o,s₁.heap.get? q.2=some o:=fun q hq=>by
  obtain⟨o,e,_⟩:=x.cell _ _ (hcl q hq)
  exact⟨o,e⟩
 have fresh:∀b,(b=env.locals∨b∈env.cells.map (·.2))→k.s.heap.get? b=none:=fun b h=>by
  cases q:k.s.heap.get? b with
  |none=>rfl
  |some o=>
   have hlt:=Heap.lt_size q
   rcases h with h|h
   ·exact(notL hlt hL h).elim
   ·obtain⟨q,hq,e⟩:=List.mem_map.mp h
    exact(notC hlt hL (x.above q.1 q.2 hq) e.symm).elim
 obtain⟨ol,es,ep,hol,hdl,_⟩:=id x.toInCall.ns
 have pz:∀p∈ps,∃o,k.s.heap.get? p.2=some o:=fun p hp=>R.rx p (hps p hp)
 refine⟨?_,fun b o _ _ e=>keep b o e,fun b o _ e=>⟨o.slots,keep b o e⟩,fun b z=> .inl z,fun b z=>?_,fun b z=>?_,?_, .inr (.inl rfl),fun q hq=> .inr (.inr (List.mem_map_of_mem hq)),fun i o e=>?_,hlen,fun p hp=>?_,?_,fun b hb hz=>?_,⟨ol,hol,by intro vs e;rw[hdl]at e;cases e⟩,fun i p hi hp=>?_⟩
 ·obtain⟨h,tk,e⟩:=x.toInCall.same
  show s₁={k.s with heap:=s₁.heap,toks:=s₁.toks}
  rw[e]
 ·rcases z with z|z|z
  ·obtain⟨o,e⟩:=R.zx b z;exact⟨o,keep _ _ e⟩
  ·rw[z];exact⟨ol,hol⟩
  ·obtain⟨q,hq,e⟩:=List.mem_map.mp z
   exact e▸cellx q hq
 ·rcases z with z|z
  ·exact .inl z
  ·exact .inr (fresh b z)
 ·refine⟨m,x.toInCall.ns,fun i a e=>?_⟩
  obtain⟨h1,v,h2,h3⟩:=hloc i a (zel e)
  exact⟨h1,v,h2,h3.imp id fun q=>⟨q.1,q.2.elim fun a z=>⟨a,z.1,z.2▸x.cell _ _ z.1⟩⟩⟩
 ·exact(hobj i o e).imp fun p h=>⟨h.1,ORel.move gg .inl (fun o e=>keep _ o e) h.2⟩
 ·obtain⟨o,e⟩:=pz p hp
  exact⟨o,keep _ _ e⟩
 ·show(env.locals::(env.cells.map (·.2)++ps.map (·.2))).Nodup
  refine List.nodup_cons.mpr ⟨fun h=>?_,List.nodup_append.mpr ⟨?_,?_,fun a ha b hb e=>?_⟩⟩
  ·rcases List.mem_append.mp h with h|h
   ·obtain⟨q,hq,e⟩:=List.mem_map.mp h
    have:=x.above q.1 q.2 hq
    rw[e]at this
    exact Nat.lt_irrefl _ this
   ·obtain⟨p,hp,e⟩:=List.mem_map.mp h
    obtain⟨o,e2⟩:=pz p hp
    exact notL (Heap.lt_size e2) hL e
  ·exact(List.pairwise_map.mpr x.apart)
  ·rcases ps with _|⟨p,_|⟨p2,r⟩⟩
   ·exact List.nodup_nil
   ·simp
   ·simp at hp1
  ·subst e
   obtain⟨p,hp,e⟩:=List.mem_map.mp hb
   obtain⟨o,e2⟩:=pz p hp
   rw[e,fresh _ (.inr ha)]at e2
   cases e2
 ·rcases List.mem_cons.mp hb with rfl|hb
  ·refine⟨.inr (fresh _ (.inl rfl)),fun hF=>?_⟩
   obtain⟨o,e⟩:=R.zx _ (subF_Z ok R _ hF)
   have h:k.s.heap.get? env.locals=none:=fresh _ (.inl rfl)
   have e:k.s.heap.get? env.locals=some o:=e
   rw[h]at e;cases e
  ·obtain⟨p,hp,e⟩:=List.mem_map.mp hb
   have hz':k.Z b:=by
    rcases hz with z|z
    ·exact z
    ·obtain⟨o,e2⟩:=pz p hp
     rw[e,fresh _ z]at e2;cases e2
   have hm:∃p∈ps,b=p.2∧k.Z b:=⟨p,hp,e.symm,hz'⟩
   exact⟨.inl hm,sub_F ok R hps hm⟩
 ·have:=(List.getElem?_eq_some_iff.mp hp).1
  exact absurd this (Nat.not_lt.mpr hi)
end
section
variable{c:FC}{σ σ':St}{k k':Cs}{env:Env}{ps:List (Addr×Addr)}
noncomputable def Cs.leave(k k':Cs):Cs:=⟨k.Z,k.r,k'.s⟩
theorem zei(R':Rel (c.sub k env ps) σ' k'):∀b o,k'.g b o→(k.leave k').g b o:=fun b o h=>⟨h.1,fun z=>h.2 (R'.z0 b z)⟩
theorem zf5(ok:c.Ok)(R:Rel c σ k)(hps:∀p∈ps,p∈k.r)(R':Rel (c.sub k env ps) σ' k'):After c k (k.leave k') (fun b=>∃p∈ps,b=p.2∧k.Z b) (c.fe.locals::c.F) where
 r:=rfl
 rest:=R'.rest
 hF:=fun b hb=>by
  rcases List.mem_cons.mp hb with e|hb
  ·rcases ok.fo with q|q
   ·exact .inr ⟨e,q⟩
   ·exact .inl (e▸q)
  ·exact .inl hb
 hm:=fun b hb=>⟨hb.elim fun _ q=>q.2.2,sub_m0 ok R hps hb⟩
 keep:=fun b o h1 h2 e=>R'.keep b o h1 h2 e
 fr:=fun b o h e=>R'.fr b o h e
 z0:=fun _ z=>z
 zx:=fun b z=>R'.zx b (R'.z0 b z)
 zup:=fun _ z=> .inl z
theorem zd1(ok:c.Ok)(R:Rel c σ k)(R':Rel (c.sub k env []) σ' k'):Nx k (k.leave k')∧Rel c σ (k.leave k'):=by
 have A:=zf5 ok R (fun p hp=>by cases hp) R'
 exact⟨A.nx ok R,R.after0 ok A fun p _ h=>h.elim fun _ q=>nomatch q.1⟩
theorem zfj{i0:Nat}{p0:Addr×Addr}{o'':AO}(ok:c.Ok)(R:Rel c σ k)(hp0:k.r[i0]?=some p0)(R':Rel (c.sub k env [p0]) σ' k')(hx:([p0]:List (Addr×Addr))<+:k'.r)(ho:σ'.obj[0]?=some o''):
  Nx k (k.leave k')∧Rel c {σ with obj:=σ.obj.set i0 o''} (k.leave k'):=by
 have hps:∀p∈[p0],p∈k.r:=fun p hp=>by rw[List.mem_singleton.mp hp];exact List.mem_of_getElem? hp0
 have A:=zf5 ok R hps R'
 obtain⟨p,h1,h2⟩:=R'.obj 0 _ ho
 obtain⟨t,et⟩:=hx
 rw[←et]at h1
 cases h1
 exact⟨A.nx ok R,R.after1 ok A hp0 (fun b h=>h.elim fun q h=>List.mem_singleton.mp h.1▸h.2.1) (ORel.move (zei R') (fun z=>(R'.zup _ z).elim id fun(q:k.s.heap.get? p0.2=none)=>(R.rx p0 (List.mem_of_getElem? hp0)).elim fun o e=>nS (q.symm.trans e)) (fun _ e=>e) h2)⟩
theorem Fly.leave{o:Int}{e:Value}{s:Shared}(ok:c.Ok)(R:Rel c σ k)(hps:∀p∈ps,p∈k.r)(f:Fly (c.sub k env ps) (some .none) o e s):Fly c (some .none) o e s:=by
 have new:∀b,New (c.sub k env ps) b→New c b:=fun b h=>h.elim (fun h=> .inl (R.fresh ok h)) fun h=>(sub_m0 ok R hps h).2.2.1.symm
 have nF:∀b ob,¬c.m0 b→b∉c.F→c.k0.s.heap.get? b=some ob→b∉c.fe.locals::c.F:=fun b ob a1 a2 q hb=>(List.mem_cons.mp hb).elim (fun e=>ok.fo.elim (fun z=>(R.mine _ zbv R.lz).1.elim (fun t=>a1 (e.trans z▸t)) fun t=>nS (t.symm.trans (e.trans z▸q))) fun z=>a2 (e▸z)) a2
 refine⟨?_,fun b ob a1 a2 q=>f.keep b ob (fun z=>(sub_m0 ok R hps z).2.2.1.elim a1 fun h=>nS (h.symm.trans q)) (nF b ob a1 a2 q) (R.keep b ob a1 a2 q),fun b ob a q=>(R.fr b ob a q).elim fun sl q'=>f.fr b {ob with slots:=sl} (List.mem_cons_of_mem _ a) q',R.floc.elim fun ob q=>(f.fr c.fe.locals ob List.mem_cons_self q.1).elim fun _ q2=>⟨_,q2,q.2⟩,
  ok.fo.elim (fun h=>h▸ .inr (R.mine _ zbv R.lz).1) .inl,f.exc.map new fun b ob g=>⟨g.1,g.2.1,fun hb=>g.2.2 (List.mem_cons_of_mem _ hb)⟩⟩
 have h2:s={k.s with heap:=s.heap,toks:=s.toks}:=f.rest
 rw[R.rest]at h2
 exact h2
end
noncomputable def noRepS:List Str→Bool
 | []=>true
 |x::r=>!r.contains x&&noRepS r
theorem zhk:∀{l:List Str},noRepS l=true→l.Nodup
 | [],_=>List.nodup_nil
 |x::r,h=>by
  unfold noRepS at h
  obtain⟨h1,h2⟩:=and2 h
  exact List.nodup_cons.mpr ⟨by simpa using h1,zhk h2⟩
theorem noRep_ok:∀{l:List Nat},fdChk.noRep l=true→l.Nodup
 | [],_=>List.nodup_nil
 |x::r,h=>by
  unfold fdChk.noRep at h
  obtain⟨h1,h2⟩:=and2 h
  exact List.nodup_cons.mpr ⟨by simpa using h1,noRep_ok h2⟩
theorem names_facts:∀P:Params,(fids.all fun f=>noRepS ((fdO (K P) f).scope.names.map (·.1)))=true:=by
 intro P;kernel_rfl
structure FdAtG(P:Params)(a:Addr)(prms:List Nat)(bd:List Stmt)(o:Obj)(fd:FuncData):Prop where
 look:(K P).lookup a=some o
 data:o.data= .func fd
 clo:fd.closure=[]
 glob:fd.globals=mainGlobals
 blt:fd.builtins=builtinsNs
 kind:fd.scope.kind= .function
 co:fd.scope.isCoroutine=false
 gen:fd.scope.isGenerator=false
 code:∀h:Heap,(K P).In h→h.CodeRec fd.code fd.qualname
 prm:∀i∈prms,i<nms.length∧(fd.scope.names.lookup (nm i)=some .local∨fd.scope.names.lookup (nm i)=some .cell)
 nd:prms.Nodup
 body:fd.body= .stmts bd
 names:(fd.scope.names.map (·.1)).Nodup
structure FdAt(P:Params)(f:Nat)(o:Obj)(fd:FuncData):Prop extends FdAtG P (fadr f) (prmF f) (bodyF f).py o fd where
 eq:fdO (K P) f=fd
theorem codeChk_ok{P:Params}{cd:Value}{q:Str}(h:codeChk (K P) cd q=true):∀h:Heap,(K P).In h→h.CodeRec cd q:=by
 cases cd with
 |ref c=>
  obtain⟨o,eo,h⟩:=any_some h
  revert h
  unfold codeO
  cases hd:o.data with
  |fields vs=>
   intro h hh hK
   obtain⟨v,ev,h⟩:=any_some h
   obtain⟨t,rfl⟩:=KTD.kt_isStr h
   exact⟨c,_,vs,t,rfl,hK _ _ eo,hd,ev⟩
  |_=>exact fun h=>Bool.noConfusion h
 |_=>exact Bool.noConfusion h
theorem prm_ok{sc:Scope}{i:Nat}(h:(Nat.blt i nms.length&&(sc.names.lookup (nm i)==some .local||sc.names.lookup (nm i)==some .cell))=true):i<nms.length∧(sc.names.lookup (nm i)=some .local∨sc.names.lookup (nm i)=some .cell):=
 ⟨Nat.le_of_ble_eq_true (and2 h).1,(Bool.or_eq_true_iff.mp (and2 h).2).imp beq_iff_eq.mp beq_iff_eq.mp⟩
theorem fd_at{P:Params}{f:Nat}(hf:f∈fids):∃o fd,FdAt P f o fd:=by
 have h:=List.all_eq_true.mp (fd_facts P) f hf
 have hb:=zdv (body_facts P) f hf
 have hn:=zhk (List.all_eq_true.mp (names_facts P) f hf)
 unfold fdChk at h
 split at h
 case h_2=>exact Bool.noConfusion h
 rename_i cl d fd sl e
 have e2:fdO (K P) f=fd:=by unfold fdO;rw[e]
 rw[e2]at hb hn
 have h1:=and2 h
 have h2:=and2 h1.2
 have h3:=and2 h2.2
 have h4:=and2 h3.2
 have h5:=and2 h4.2
 have h6:=and2 h5.2
 have h7:=and2 h6.2
 have h8:=and2 h7.2
 exact⟨_,fd,⟨e,rfl,List.isEmpty_iff.mp h1.1,Nat.eq_of_beq_eq_true h2.1,Nat.eq_of_beq_eq_true h3.1,beq_iff_eq.mp h4.1,by simpa using h5.1,by simpa using h6.1,codeChk_ok h7.1,fun i hi=>prm_ok (List.all_eq_true.mp h8.1 i hi),noRep_ok (and2 h8.2).2,hb,hn⟩,e2⟩
theorem zdw:∀{names:List (Str×NameKind)}{n:Nat}{acc:List (Str×Addr)},(names.map (·.1)++acc.map (·.1)).Nodup→((cellsFrom n names acc).map (·.1)).Nodup
 | [],_,_,h=>by unfold cellsFrom;simpa using h
 |(y,kd)::r,n,acc,h=>by
  unfold cellsFrom
  split
  ·refine zdw ?_
   exact(List.perm_middle.nodup_iff).mpr h
  ·exact zdw (List.nodup_cons.mp h).2
theorem zc5:∀{l:List (Str×Addr)},(l.map (·.1)).Nodup→∀q∈l,l.lookup q.1=some q.2
 |x::r,h,q,hq=>by
  simp only[List.map_cons,List.nodup_cons]at h
  rw[List.lookup_cons]
  rcases List.mem_cons.mp hq with rfl|hq
  ·simp
  ·have:(q.1==x.1)=false:=by
    rw[beq_eq_false_iff_ne]
    intro e
    exact h.1 (e▸List.mem_map_of_mem hq)
   rw[this]
   exact zc5 h.2 q hq
noncomputable def fullA(f:Nat)(as:List AV):List AV:=if as.length<(prmF f).length then(match dflF f with
 |some x=>as++[.d x]
 |none=>as)else as
noncomputable def zcm(f n:Nat):Bool:=fids.contains f&&(!Nat.beq f 26&&(Nat.beq n (prmF f).length||(Nat.beq (n+1) (prmF f).length&&(dflF f).isSome)))
noncomputable def zdl(f:Nat)(o:Option AO):Bool:=match o with
 |none=>true
 |some .dead=>false
 |some _=>Nat.beq (fzF f) 1
noncomputable def outO(o:Option AO)(σ:St):Option AO:=match o with
 |none=>none
 |some _=>σ.obj[0]?
noncomputable def tgS:S→List Nat
 | .set i _ _ _=> [i]
 | .setT is _ _ _ _=>is.map (·.1)
 | .setU is _ _ _=>is.map (·.1)
 | .seta _ _ _ _ _=> []
 | .seti _ _ _ _ _=> []
 | .exp _ _=> []
 | .ret _ _=> []
 | .raise _ _=> []
mutual
noncomputable def tgB:B→List Nat
 | .s x=>tgS x
 | .ifs _ a b _=>tgBs a++tgBs b
 | .whl _ b _=>tgBs b
 | .for_ i _ _ b _=>i::tgBs b
 | .for2 i j _ _ _ _ b _=>i::j::tgBs b
noncomputable def tgBs:Bs→List Nat
 | .nil=> []
 | .cons x r=>tgB x++tgBs r
end
noncomputable def hasN(i:Nat):List Nat→Bool
 | []=>false
 |j::r=>Nat.beq i j||hasN i r
noncomputable def once:List Nat→List Nat
 | []=> []
 |i::r=>match hasN i (once r)with
  |true=>once r
  |false=>i::once r
noncomputable def lcF(f:Nat):List Nat:=once (prmF f++tgBs (bodyF f))
noncomputable def runB(C:CS):CS:=fun f as o Φ Ξ=>awBs C (bodyF f) ⟨lay ((prmF f).zip (fullA f as)) (lcF f),o.toList⟩ (fun σ=>Φ (.d .none) (outO o σ)) (fun a σ=>AV.plain a=true∧Φ a (outO o σ)) Ξ
noncomputable def CSn:Nat→CS
 |0=>fun _ _ _ _ _=>False
 |n+1=>fun f as o Φ Ξ=>cond (Nat.beq f 24) (on1 as fun a=>onT a fun x=>x.length<2^62∧CSn n 9 [.d (.str x)] none (fun a _=>onD a fun y=>Φ (.d (.list [y])) none) fun i=>Φ (.d (.list (if 0≤i∧i≤x.length then []else [.str (Str.ofString "odd")]))) none)
  ((zcm f as.length=true∧zdl f o=true)∧cond (Nat.ble 200 f) (match n with
    |0=>False
    |m+1=>runB (CSn m) f as o Φ Ξ)
   (runB (CSn n) f as o Φ Ξ))
noncomputable def Room(n:Nat)(A:Around):Prop:=A.depth+n+20≤recursionLimit∧A.units+5*n+1400<cLine
theorem Room.deeper{n:Nat}{A:Around}{env:Env}(h:Room (n+1) A):Room n (A.deeper env):=
 ⟨Nat.le_trans (Nat.add_le_add_right (Nat.le_of_eq (Nat.add_right_comm A.depth 1 n)) 20) h.1,Nat.lt_of_le_of_lt (Nat.add_le_add_right (Nat.le_trans (Nat.le_of_eq (Nat.add_right_comm A.units 3 (5*n))) (Nat.add_le_add_left (by decide:3≤5) _)) 1400) h.2⟩
theorem Room.less{n m:Nat}{A:Around}(h:Room n A)(l:m≤n):Room m A:=
 ⟨Nat.le_trans (Nat.add_le_add_right (Nat.add_le_add_left l _) _) h.1,Nat.lt_of_le_of_lt (Nat.add_le_add_right (Nat.add_le_add_left (Nat.mul_le_mul_left 5 l) _) _) h.2⟩
theorem Room.sub{n:Nat}{A:Around}(h:Room (n+1) A):A.depth+1+n+20≤recursionLimit∧A.units+3+5*n+1400<cLine:=h.deeper (env:=default)
theorem Room.near{n:Nat}{A:Around}(h:A.depth+1+n+20≤recursionLimit∧A.units+3+5*n+1400<cLine):A.depth+2<recursionLimit∧A.units+1010<cLine:=
 ⟨Nat.lt_of_lt_of_le (Nat.add_lt_add_left (by decide:2<1+20) _) (Nat.le_trans (by rw[←Nat.add_assoc];exact Nat.add_le_add_right (Nat.le_add_right _ _) 20) h.1),Nat.lt_of_le_of_lt (Nat.add_le_add (Nat.le_trans (Nat.le_add_right _ 3) (Nat.le_add_right _ _)) (by decide:1010≤1400)) h.2⟩
section
variable{c:FC}{σ:St}{k:Cs}
theorem zdx{f n:Nat}(h:zcm f n=true):f∈fids∧Nat.beq f 26=false∧(n=(prmF f).length∨(n+1=(prmF f).length∧(dflF f).isSome=true)):=
 have h2:=and2 (and2 h).2
 ⟨List.contains_iff_mem.mp (and2 h).1,Bool.not_eq_true' _▸h2.1,(Bool.or_eq_true_iff.mp h2.2).imp Nat.eq_of_beq_eq_true fun z=>⟨Nat.eq_of_beq_eq_true (and2 z).1,(and2 z).2⟩⟩
theorem fullA_len{f n:Nat}{as:List AV}(h:zcm f n=true)(hn:as.length=n):(fullA f as).length=(prmF f).length:=by
 subst hn
 unfold fullA
 rcases(zdx h).2.2 with h|⟨h,h2⟩
 ·rw[if_neg (h▸Nat.lt_irrefl _)];exact h
 ·rw[if_pos (h▸Nat.lt_succ_self _)]
  obtain⟨x,e⟩:=Option.isSome_iff_exists.mp h2
  rw[e]
  exact List.length_append.trans h
theorem CSn_run{n f:Nat}{as:List AV}{o:Option AO}{Φ:AV→Option AO→Prop}{Ξ:Int→Prop}(h24:Nat.beq f 24=false)(h:CSn (n+1) f as o Φ Ξ):
  ∃m,m≤n∧(Nat.ble 200 f=true→m+1=n)∧(zcm f as.length=true∧zdl f o=true)∧runB (CSn m) f as o Φ Ξ:=by
 unfold CSn at h
 rw[h24]at h
 obtain⟨h1,h2⟩:=h
 revert h2
 cases Nat.ble 200 f with
 |true=>cases n with
  |zero=>exact False.elim
  |succ m=>exact fun h2=>⟨m,Nat.le_succ m,fun _=>rfl,h1,h2⟩
 |false=>exact fun h2=>⟨n,Nat.le_refl n,fun q=>Bool.noConfusion q,h1,h2⟩
noncomputable def PsOk(k:Cs)(ps:List (Addr×Addr))(o:Option AO):Prop:=(ps=[]∧o=none)∨∃p0 o0,ps=[p0]∧o=some o0∧p0∈k.r∧ORel k p0 o0
theorem ps_in{k:Cs}{ps:List (Addr×Addr)}{o:Option AO}(hp:PsOk k ps o):∀p∈ps,p∈k.r:=by
 rcases hp with⟨rfl,_⟩|⟨p0,o0,rfl,_,hm,_⟩
 ·exact fun _ h=>nomatch h
 ·exact fun p h=>List.mem_singleton.mp h▸hm
theorem PsOk.le{k:Cs}{ps:List (Addr×Addr)}{o:Option AO}(hp:PsOk k ps o):ps.length≤1:=by
 rcases hp with⟨rfl,_⟩|⟨p0,o0,rfl,_⟩
 ·exact Nat.zero_le _
 ·exact Nat.le_refl _
theorem PsOk.at_{k:Cs}{ps:List (Addr×Addr)}{o:Option AO}(hp:PsOk k ps o):(∀(i:Nat)(x:AO),o.toList[i]?=some x→∃p,ps[i]?=some p∧ORel k p x)∧o.toList.length=ps.length:=by
 rcases hp with⟨rfl,rfl⟩|⟨p0,o0,rfl,rfl,_,h⟩
 ·exact⟨fun _ _ e=>nS e,rfl⟩
 ·refine⟨fun i x e=>?_,rfl⟩
  cases i with
  |zero=>exact⟨p0,rfl,Option.some.inj e▸h⟩
  |succ i=>exact nS e
theorem leave_E{ps:List (Addr×Addr)}{o:Option AO}{Ξ:Int→Prop}(ok:c.Ok)(R:Rel c σ k)(hp:PsOk k ps o):
  ∀env e o3 s3,Ξ o3→(c.sub k env ps).Ok→Fly (c.sub k env ps) (some .none) o3 e s3→EX c Ξ e s3:=fun _ _ o3 _ hx _ f3=>⟨o3,_,hx, .inr (.inl rfl),f3.leave ok R (ps_in hp)⟩
theorem call_start{a:Addr}{prms:List Nat}{bd:List Stmt}{ob:Obj}{fd:FuncData}{ps:List (Addr×Addr)}{o:Option AO}{asF:List AV}{vsF:List Value}{env:Env}{s':Shared}(F:FdAtG c.w.params a prms bd ob fd)(hroom:c.A.depth+2<recursionLimit∧c.A.units+1010<cLine)(ok:c.Ok)(R:Rel c σ k)
  (hp:PsOk k ps o)(hvf:VRs k.g ps asF vsF)(hl:asF.length=prms.length)(e1:env.scope=fd.scope)(e2:env.globals=mainGlobals)(e3:env.builtins=builtinsNs)(e4:env.cells=cellsFrom (k.s.heap.objs.size+1) fd.scope.names [])(e5:env.frame=some env.locals)
  (x:InCallC k.s env.locals (bindL env.kindOf ((prms.map nm).zip vsF) (fun _=>none)) env.cells (bindC env.kindOf ((prms.map nm).zip vsF) (fun _=>none)) s'):
  (c.sub k env ps).Ok∧Rel (c.sub k env ps) ⟨prms.zip asF,o.toList⟩ (k.enter env ps s'):=by
 have hk:∀n,env.kindOf n=fd.scope.names.lookup n:=fun n=>e1▸rfl
 have hcx:∀n,env.kindOf n=some .cell→∃a,env.cells.lookup n=some a:=fun n hn=>e4▸Option.isSome_iff_exists.mp (zbx (.inl ((hk n).symm.trans hn)))
 have hcl:∀q∈env.cells,env.cells.lookup q.1=some q.2:=e4▸zc5 (zdw (by simpa using F.names))
 have hnn:(((prms.map nm).zip vsF).map (·.1)).Nodup:=by
  rw[List.map_fst_zip (by rw[List.length_map,←hl,hvf.length];exact Nat.le_refl _)]
  exact List.pairwise_map.mpr (List.Pairwise.imp_of_mem (fun ha hb hne e=>hne (nm_inj _ (F.prm _ ha).1 _ (F.prm _ hb).1 e)) F.nd)
 refine⟨sub_ok ok R (ps_in hp) (Nat.lt_of_succ_lt hroom.1) (Nat.lt_of_le_of_lt (Nat.add_le_add_left (by decide) _) hroom.2) (e1▸F.kind) e2 e3 e5 hcx,enter_rel ok R (ps_in hp) hp.le e5 hcl x hp.at_.1 hp.at_.2 fun i a e=>?_⟩
 obtain⟨v,m1,m2,m3⟩:=lookup_zip hvf e
 have hm:(nm i,v)∈(prms.map nm).zip vsF:=List.zip_map_left▸List.mem_map.mpr ⟨(i,v),m1,rfl⟩
 refine⟨(F.prm i m3).1,v,VR.mono (enter_g (ps:=ps) k x.toInCall.keep x.toInCall.fresh x.above) (List.prefix_refl _) m2,(F.prm i m3).2.imp (fun g=>⟨(hk _).trans g,zgg hnn hm ((hk _).trans g)⟩) fun g=>⟨(hk _).trans g,?_⟩⟩
 exact(hcx _ ((hk _).trans g)).imp fun a' ea=>⟨ea,zgp hnn hm ((hk _).trans g)⟩
theorem run_coreGE{E:Value→Shared→Prop}{a:Addr}{prms:List Nat}{bd:List Stmt}{ob:Obj}{fd:FuncData}{ps:List (Addr×Addr)}{o:Option AO}{asF:List AV}{vs vsF:List Value}{Ξ:Int→Prop}{Q:Value→Shared→Prop}(F:FdAtG c.w.params a prms bd ob fd)(hroom:c.A.depth+2<recursionLimit∧c.A.units+1010<cLine)(ok:c.Ok)(R:Rel c σ k)
  (hp:PsOk k ps o)(hbind:BindsTo k.s fd ⟨vs,[]⟩ ((prms.map nm).zip vsF))(hvf:VRs k.g ps asF vsF)(hl:asF.length=prms.length)
  (hE:∀env e o3 s3,Ξ o3→(c.sub k env ps).Ok→Fly (c.sub k env ps) (some .none) o3 e s3→E e s3)
  (hexec:∀env s',(c.sub k env ps).Ok→Rel (c.sub k env ps) ⟨prms.zip asF,o.toList⟩ (k.enter env ps s')→env.scope=fd.scope→(∀b o,k.s.heap.get? b=some o→s'.heap.get? b=some o)→
   wpAny (model pw c.w) (c.A.deeper env) (execs bd env) (fun fl s2=>Q (match fl with| .ret v=>v|_=> .none) s2) (EX (c.sub k env ps) Ξ) s'):
  codeAny (model pw c.w) c.A (.call (.ref a) ⟨vs,[]⟩) (fun r s'=>match r with| .ok (.ret v)=>Q v s'| .ok _=>False| .error e=>E e s') k.s:=by
 have hK:=R.kin ok
 obtain⟨mg,mb,T⟩:=R.top ok
 refine codeAny_call_function (Nat.lt_of_succ_lt (Nat.lt_of_succ_lt hroom.1)) (hK _ _ F.look) F.data F.co F.gen F.body (F.code _ hK) (hbind _ _ _ _ ?_)
 rw[F.clo]
 have hkinds:∀x∈(prms.map nm).zip vsF,fd.scope.names.lookup x.1=some .local∨(fd.scope.names.lookup x.1=some .cell∧((cellsFrom (k.s.heap.objs.size+1) fd.scope.names []).lookup x.1).isSome=true):=fun x hx=>by
  obtain⟨i,hi,e⟩:=List.mem_map.mp (List.of_mem_zip hx).1
  rw[←e]
  exact(F.prm i hi).2.imp id fun z=>⟨z,zbx (.inl z)⟩
 refine wpAny_newFunctionEnv_cells F.kind hkinds fun env he s' x=>⟨T.nolimit.keeps x.toInCall.keep,?_⟩
 subst he
 have h:=call_start F hroom ok R hp hvf hl rfl F.glob F.blt rfl rfl x
 refine codeAny_func (wpAny_mono (hexec _ s' h.1 h.2 rfl x.toInCall.keep) (fun fl s2 hf2=>hf2) fun e s2 he2=>?_)
 exact leave_ok h.1 h.1.fok he2 fun s3 h3=>h3.elim fun o3 h3=>hE _ _ o3 s3 h3.1 h.1 h3.2
theorem run_coreG{a:Addr}{prms:List Nat}{bd:List Stmt}{ob:Obj}{fd:FuncData}{ps:List (Addr×Addr)}{o:Option AO}{asF:List AV}{vs vsF:List Value}{Ξ:Int→Prop}{Q:Value→Shared→Prop}(F:FdAtG c.w.params a prms bd ob fd)(hroom:c.A.depth+2<recursionLimit∧c.A.units+1010<cLine)(ok:c.Ok)(R:Rel c σ k)
  (hp:PsOk k ps o)(hbind:BindsTo k.s fd ⟨vs,[]⟩ ((prms.map nm).zip vsF))(hvf:VRs k.g ps asF vsF)(hl:asF.length=prms.length)
  (hexec:∀env s',(c.sub k env ps).Ok→Rel (c.sub k env ps) ⟨prms.zip asF,o.toList⟩ (k.enter env ps s')→env.scope=fd.scope→(∀b o,k.s.heap.get? b=some o→s'.heap.get? b=some o)→
   wpAny (model pw c.w) (c.A.deeper env) (execs bd env) (fun fl s2=>Q (match fl with| .ret v=>v|_=> .none) s2) (EX (c.sub k env ps) Ξ) s'):
  codeAny (model pw c.w) c.A (.call (.ref a) ⟨vs,[]⟩) (fun r s'=>match r with| .ok (.ret v)=>Q v s'| .ok _=>False| .error e=>EX c Ξ e s') k.s:=
 run_coreGE F hroom ok R hp hbind hvf hl (leave_E ok R hp) hexec
theorem run_coreCE{E:Value→Shared→Prop}{f:Nat}{ps:List (Addr×Addr)}{o:Option AO}{as:List AV}{vs:List Value}{Ξ:Int→Prop}{Q:Value→Shared→Prop}(hroom:c.A.depth+2<recursionLimit∧c.A.units+1010<cLine)(ok:c.Ok)(R:Rel c σ k)
  (hp:PsOk k ps o)(hv:VRs k.g ps as vs)(ha:zcm f as.length=true)(ho:zdl f o=true)
  (hE:∀env e o3 s3,Ξ o3→(c.sub k env ps).Ok→Fly (c.sub k env ps) (some .none) o3 e s3→E e s3)
  (hexec:∀env s',(c.sub k env ps).Ok→Rel (c.sub k env ps) ⟨(prmF f).zip (fullA f as),o.toList⟩ (k.enter env ps s')→env.scope=(fdO (K c.w.params) f).scope→(∀n',some (fzF f)=some n'→(c.sub k env ps).n0≤n')→
   wpAny (model pw c.w) (c.A.deeper env) (execs (bodyF f).py env) (fun fl s2=>Q (match fl with| .ret v=>v|_=> .none) s2) (EX (c.sub k env ps) Ξ) s'):
  codeAny (model pw c.w) c.A (.call (.ref (fadr f)) ⟨vs,[]⟩) (fun r s'=>match r with| .ok (.ret v)=>Q v s'| .ok _=>False| .error e=>E e s') k.s:=by
 have ha0:=zdx ha
 obtain⟨ob,fd,F⟩:=fd_at (P:=c.w.params) ha0.1
 have hK:=R.kin ok
 have hvl:=hv.length
 have harg:=hvl▸ha0.2.2
 obtain⟨d,hd,hbind⟩:=bind_ok (s:=k.s) ha0.1 hK harg
 rw[F.eq]at hbind
 have hvf:VRs k.g ps (fullA f as) (fullV d f vs):=by
  unfold fullA fullV
  rw[←hvl]
  by_cases hlt:as.length<(prmF f).length
  ·rw[if_pos hlt,if_pos hlt]
   obtain⟨x,e⟩:=Option.isSome_iff_exists.mp (ha0.2.2.elim (fun z=>absurd hlt (z▸Nat.lt_irrefl _)) (·.2))
   rw[e]
   exact hv.append (.cons (a:= .d x) (hd x e k.g fun b o eb=>R.base ok b o (ok.kin b o eb)) .nil)
  ·rw[if_neg hlt,if_neg hlt];exact hv
 have hz:∀n',some (fzF f)=some n'→ps.length≤n':=fun n' e=>Option.some.inj e▸by
  rcases hp with⟨rfl,_⟩|⟨p0,o0,rfl,rfl,_⟩
  ·exact Nat.zero_le _
  ·cases o0 with
   |dead=>exact Bool.noConfusion ho
   |_=>exact Nat.le_of_eq (Nat.eq_of_beq_eq_true ho).symm
 refine run_coreGE F.toFdAtG hroom ok R hp hbind hvf (fullA_len ha rfl) hE fun env s' ok' R' e1 _=>hexec env s' ok' R' (F.eq▸e1) hz
theorem run_coreC{f:Nat}{ps:List (Addr×Addr)}{o:Option AO}{as:List AV}{vs:List Value}{Ξ:Int→Prop}{Q:Value→Shared→Prop}(hroom:c.A.depth+2<recursionLimit∧c.A.units+1010<cLine)(ok:c.Ok)(R:Rel c σ k)
  (hp:PsOk k ps o)(hv:VRs k.g ps as vs)(ha:zcm f as.length=true)(ho:zdl f o=true)
  (hexec:∀env s',(c.sub k env ps).Ok→Rel (c.sub k env ps) ⟨(prmF f).zip (fullA f as),o.toList⟩ (k.enter env ps s')→env.scope=(fdO (K c.w.params) f).scope→(∀n',some (fzF f)=some n'→(c.sub k env ps).n0≤n')→
   wpAny (model pw c.w) (c.A.deeper env) (execs (bodyF f).py env) (fun fl s2=>Q (match fl with| .ret v=>v|_=> .none) s2) (EX (c.sub k env ps) Ξ) s'):
  codeAny (model pw c.w) c.A (.call (.ref (fadr f)) ⟨vs,[]⟩) (fun r s'=>match r with| .ok (.ret v)=>Q v s'| .ok _=>False| .error e=>EX c Ξ e s') k.s:=
 run_coreCE hroom ok R hp hv ha ho (leave_E ok R hp) hexec
theorem run_core{f:Nat}{ps:List (Addr×Addr)}{o:Option AO}{as:List AV}{vs:List Value}{Ξ:Int→Prop}{Q:Value→Shared→Prop}(hroom:c.A.depth+2<recursionLimit∧c.A.units+1010<cLine)(ok:c.Ok)(R:Rel c σ k)
  (hp:PsOk k ps o)(hv:VRs k.g ps as vs)(ha:zcm f as.length=true)(ho:zdl f o=true)
  (hexec:∀env s',(c.sub k env ps).Ok→Rel (c.sub k env ps) ⟨(prmF f).zip (fullA f as),o.toList⟩ (k.enter env ps s')→env.scope=(fdO (K c.w.params) f).scope→(∀n',some (fzF f)=some n'→(c.sub k env ps).n0≤n')→
   wpAny (model pw c.w) (c.A.deeper env) (execs (bodyF f).py env) (fun fl s2=>Q (match fl with| .ret v=>v|_=> .none) s2) (EX (c.sub k env ps) Ξ) s'):
  wpAny (model pw c.w) c.A (call (.ref (fadr f)) vs) Q (EX c Ξ) k.s:=wpAny_call (run_coreC hroom ok R hp hv ha ho hexec)
theorem run_okCE{E:Value→Shared→Prop}{n f:Nat}{ps:List (Addr×Addr)}{o:Option AO}{as:List AV}{vs:List Value}{Φ:AV→Option AO→Prop}{Ξ:Int→Prop}{Q:Value→Shared→Prop}(IH:∀c',Room n c'.A→Calls1 (CSn n) c')(hroom:c.A.depth+1+n+20≤recursionLimit∧c.A.units+3+5*n+1400<cLine)(ok:c.Ok)(R:Rel c σ k)
  (hp:PsOk k ps o)(hv:VRs k.g ps as vs)(hao:zcm f as.length=true∧zdl f o=true)(h:runB (CSn n) f as o Φ Ξ)
  (hE:∀env e o3 s3,Ξ o3→(c.sub k env ps).Ok→Fly (c.sub k env ps) (some .none) o3 e s3→E e s3)
  (hret:∀env a σ' k' v,Φ a (outO o σ')→AV.plain a=true→Rel (c.sub k env ps) σ' k'→ps<+:k'.r→VR k'.g k'.r a v→Q v k'.s):
  codeAny (model pw c.w) c.A (.call (.ref (fadr f)) ⟨vs,[]⟩) (fun r s'=>match r with| .ok (.ret v)=>Q v s'| .ok _=>False| .error e=>E e s') k.s:=by
 obtain⟨ha,ho⟩:=hao
 refine run_coreCE (Room.near hroom) ok R hp hv ha ho hE (fun env s' ok' R' hsc hz=>?_)
 have hchk:chkBs (some (fzF f)) env.scope (bodyF f)=true:=hsc▸(Bool.or_eq_true_iff.mp (List.all_eq_true.mp (chk_facts c.w.params) f (zdx ha).1)).elim (fun z=>by have:=(zdx ha).2.1;rw[beq_iff_eq.mp z]at this;exact Bool.noConfusion this) id
 have HC:zbe (CSn n) (c.sub k env ps):=fun c' hA _=>IH c' (hA▸⟨by show c.A.depth+1+n+20≤_;exact hroom.1,by show c.A.units+3+5*n+1400<_;exact hroom.2⟩)
 refine wpAny_mono (Bs_ok (bodyF f) HC ok' rfl hz hchk (R'.lay _) h) (fun fl s2 hf2=>?_) fun _ _ e=>e
 cases fl with
 |next=>
  obtain⟨σ2,k2,rfl,q,x2,R2⟩:=hf2
  exact hret env (.d .none) σ2 k2 .none q rfl R2 x2.r .none
 |ret v=>
  obtain⟨a,σ2,k2,rfl,q,x2,R2,hv2⟩:=hf2
  exact hret env a σ2 k2 v q.2 q.1 R2 x2.r hv2
 |brk=>exact hf2.elim
 |cont=>exact hf2.elim
theorem run_okC{n f:Nat}{ps:List (Addr×Addr)}{o:Option AO}{as:List AV}{vs:List Value}{Φ:AV→Option AO→Prop}{Ξ:Int→Prop}{Q:Value→Shared→Prop}(IH:∀c',Room n c'.A→Calls1 (CSn n) c')(hroom:c.A.depth+1+n+20≤recursionLimit∧c.A.units+3+5*n+1400<cLine)(ok:c.Ok)(R:Rel c σ k)
  (hp:PsOk k ps o)(hv:VRs k.g ps as vs)(hao:zcm f as.length=true∧zdl f o=true)(h:runB (CSn n) f as o Φ Ξ)
  (hret:∀env a σ' k' v,Φ a (outO o σ')→AV.plain a=true→Rel (c.sub k env ps) σ' k'→ps<+:k'.r→VR k'.g k'.r a v→Q v k'.s):
  codeAny (model pw c.w) c.A (.call (.ref (fadr f)) ⟨vs,[]⟩) (fun r s'=>match r with| .ok (.ret v)=>Q v s'| .ok _=>False| .error e=>EX c Ξ e s') k.s:=
 run_okCE IH hroom ok R hp hv hao h (leave_E ok R hp) hret
theorem run_ok{n f:Nat}{ps:List (Addr×Addr)}{o:Option AO}{as:List AV}{vs:List Value}{Φ:AV→Option AO→Prop}{Ξ:Int→Prop}{Q:Value→Shared→Prop}(IH:∀m≤n,∀c',Room m c'.A→Calls1 (CSn m) c')(hroom:Room (n+1) c.A)(hf24:Nat.beq f 24=false)(ok:c.Ok)(R:Rel c σ k)
  (hp:PsOk k ps o)(hv:VRs k.g ps as vs)(h:CSn (n+1) f as o Φ Ξ)
  (hret:∀env a σ' k' v,Φ a (outO o σ')→AV.plain a=true→Rel (c.sub k env ps) σ' k'→ps<+:k'.r→VR k'.g k'.r a v→Q v k'.s):
  wpAny (model pw c.w) c.A (call (.ref (fadr f)) vs) Q (EX c Ξ) k.s:=by
 obtain⟨m,hm,_,hao,h⟩:=CSn_run hf24 h
 exact wpAny_call (run_okC (IH m hm) (hroom.less (Nat.succ_le_succ hm)).sub ok R hp hv hao h hret)
end
section
variable{c:FC}{σ:St}{k:Cs}
theorem zd4{as:List AV}(h:za1 as=[]):∀a∈as,AV.plain a=true:=zfv h
theorem zero_plain{a:AV}(h:AV.plain a=true):a.zero=a:=by
 cases a<;>first|rfl|exact Bool.noConfusion h
theorem refs_nil_zero{g:G}{r r':List (Addr×Addr)}{as:List AV}{vs:List Value}(e:za1 as=[])(h:VRs g r as vs):VRs g r' (as.map AV.zero) vs:=by
 rw[List.map_congr_left fun a ha=>zero_plain (zd4 e a ha),List.map_id']
 exact h.plain (zd4 e)
theorem refs_one{g:G}{r:List (Addr×Addr)}{i:Nat}{p0:Addr×Addr}(hp:r[i]?=some p0){as:List AV}{vs:List Value}(e:za1 as=[i])(h:VRs g r as vs):VRs g [p0] (as.map AV.zero) vs:=by
 induction h with
 |nil=>exact nomatch e
 | @cons a l v vs h1 h2 ih=>
  cases a with
  |ref j=>
   have e:j::za1 l=[i]:=e
   injection e with e1 e2
   subst e1
   obtain⟨p,q1,q2⟩:=h1
   cases hp.symm.trans q1
   exact .cons (a:= .ref 0) ⟨p0,rfl,q2⟩ (refs_nil_zero e2 h2)
  |_=>exact .cons h1 (ih e)
theorem fn_ok{n f:Nat}{as:List AV}{vs:List Value}{Φ:AV→St→Prop}{Ξ:Int→Prop}(IH:∀m≤n,∀c',Room m c'.A→Calls1 (CSn m) c')(hroom:Room (n+1) c.A)(hf24:Nat.beq f 24=false)(ok:c.Ok)(R:Rel c σ k)
  (hv:VRs k.g k.r as vs)(h:acall (CSn (n+1)) f as σ Φ Ξ):wpAny (model pw c.w) c.A (call (.ref (fadr f)) vs) (Post c k Φ) (EX c Ξ) k.s:=by
 rcases zda h with⟨hr,h⟩|⟨i,o,hr,ho,h⟩
 ·refine run_ok IH hroom hf24 ok R (.inl ⟨rfl,rfl⟩) (hv.plain (zd4 hr)) h fun env a σ' k' v q hp R' hx hv'=>?_
  have h:=zd1 ok R R'
  exact⟨a,σ,k.leave k',rfl,q,h.1,h.2,VR.mono (zei R') (List.prefix_refl _) (VR.plain hp hv')⟩
 ·obtain⟨p0,e1,e2⟩:=R.obj i o ho
  refine run_ok IH hroom hf24 ok R (.inr ⟨p0,o,rfl,rfl,List.mem_of_getElem? e1,e2⟩) (refs_one e1 hr hv) h fun env a σ' k' v q hp R' hx hv'=>?_
  obtain⟨o'',ho'',q⟩:=zd0.inv q
  have h:=zfj ok R e1 R' hx ho''
  exact⟨a,_,k.leave k',rfl,q,h.1,h.2,VR.mono (zei R') (List.prefix_refl _) (VR.plain hp hv')⟩
end
section
variable{c:FC}{σ:St}{k:Cs}
noncomputable def FC.und(c:FC)(x:Code):FC:={c with A:=c.A.under x}
theorem und_ok{x:Code}(ok:c.Ok)(hw:x.weight≤5)(hu:x.cUnits≤50)(he:x.envs=[])(hg:x.guards=[])(hd:c.A.depth+10<recursionLimit)(hu2:c.A.units+1100<cLine):(c.und x).Ok where
 kin:=ok.kin
 top:=ok.top
 base:=ok.base
 hd:=ok.hd
 units:=Nat.lt_of_le_of_lt (Nat.le_trans (Nat.le_of_eq (Nat.add_assoc c.A.units x.cUnits 1000)) (Nat.add_le_add_left (Nat.le_trans (Nat.add_le_add_right hu 1000) (by decide)) _)) hu2
 depth:=Nat.lt_of_le_of_lt (Nat.add_le_add_left (Nat.le_trans hw (by decide)) _) hd
 kind:=ok.kind
 glob:=ok.glob
 blt:=ok.blt
 frames:=by show pushEnvs x.envs c.A.frames=_;rw[he];exact ok.frames
 fo:=ok.fo
 fframe:=ok.fframe
 fkind:=ok.fkind
 outs:=ok.outs
 fz:=ok.fz
 fm:=ok.fm
 zx:=ok.zx
 mz:=ok.mz
 guards:=by show pushGuards x.guards c.A.guards=_;rw[hg];exact ok.guards
 cfresh:=ok.cfresh
 cellx:=ok.cellx
 fok:=ok.fok
theorem Rel.und{x:Code}(R:Rel c σ k):Rel (c.und x) σ k:=⟨R.rest,R.keep,R.fr,R.z0,R.zx,R.zup,R.ns,R.lz,R.cz,R.obj,R.objn,R.rx,R.nodup,R.mine,R.floc,R.new⟩
theorem Rel.ofUnd{x:Code}(R:Rel (c.und x) σ k):Rel c σ k:=⟨R.rest,R.keep,R.fr,R.z0,R.zx,R.zup,R.ns,R.lz,R.cz,R.obj,R.objn,R.rx,R.nodup,R.mine,R.floc,R.new⟩
theorem EX.ofUnd{x:Code}{Ξ:Int→Prop}{e:Value}{s:Shared}(h:EX (c.und x) Ξ e s):EX c Ξ e s:=by
 obtain⟨o,m,hx,hm,f⟩:=h
 exact⟨o,m,hx,hm,⟨f.rest,f.keep,f.fr,f.floc,f.lfresh,f.exc.map (c:=c.und x) (c':=c) (fun _ h=>h) fun _ _ h=>h⟩⟩
theorem zfu{f:Nat}{a:AV}{r:List (Nat×AV)}{ds:List (Nat×PyData)}(h:zc9 ((f,a)::r)=some ds):∃x l,a= .d x∧(r.any fun q=>Nat.beq q.1 f)=false∧zc9 r=some l∧ds=(f,x)::l:=by
 cases a with
 |d x=>
  revert h
  show(match r.any fun q=>Nat.beq q.1 f with|true=>none|false=>(zc9 r).map ((f,x):: ·))=some ds→_
  cases hr:r.any fun q=>Nat.beq q.1 f with
  |true=>exact fun h=>nS h
  |false=>
   intro h
   obtain⟨l,e1,rfl⟩:=Option.map_eq_some_iff.mp h
   exact⟨x,l,rfl,rfl,e1,rfl⟩
 |_=>exact nS h
theorem dFields_keys{fs:List (Nat×AV)}:∀{ds:List (Nat×PyData)},zc9 fs=some ds→∀p∈ds,(p.1,AV.d p.2)∈fs:=by
 induction fs with
 |nil=>exact fun h p hp=>by cases h;cases hp
 |cons q r ih=>
  intro ds h
  obtain⟨x,l,e,_,e1,rfl⟩:=zfu h
  exact List.forall_mem_cons.mpr ⟨by rw[←e];exact .head _,fun p hp=> .tail _ (ih e1 p hp)⟩
theorem ERel.flds{g:G}{r}{C:Addr}{fs es}(h:ERel g r C fs es):∀{ds},zc9 fs=some ds→Flds g es ds:=by
 induction h with
 |nil=>exact fun h p hp=>by cases h;cases hp
 | @cons p e fs es x b w h ih=>
  intro ds hd
  obtain⟨y,l,e,hr,e1,rfl⟩:=zfu (f:=p.1) (a:=p.2) hd
  refine List.forall_mem_cons.mpr ⟨⟨_,getL_hit b,by rw[e]at w;exact w⟩,fun q hq=>?_⟩
  have hm:=dFields_keys e1 q hq
  refine(ih e1 q hq).imp fun v z=>⟨(zhn b fun en=>?_).trans z.1,z.2⟩
  have:p.1=q.1:=nm_inj _ (okF_lt x.1) _ (okF_lt (h.okF _ hm)) en
  have ha:(fs.any fun q=>Nat.beq q.1 p.1)=true:=List.any_eq_true.mpr ⟨_,hm,this▸Nat.beq_refl _⟩
  exact Bool.noConfusion (hr.symm.trans ha)
section
variable{cl x d:Addr}{h':Heap}{code:Code}{env:Env}{σ':St}{k':Cs}{Φ:AV→St→Prop}{v:Value}{a:AV}
structure Laid(c:FC)(k:Cs)(cl x d:Addr)(h':Heap):Prop where
 gr:Grow k h'
 hd:k.s.heap.get? d=none
 gd:h'.get? d=some emptyDict
 gx:h'.get? x=some (instObj cl d)
 nx:¬k.Z x
 nd:¬k.Z d
 xd:x≠d
theorem Laid.orel(L:Laid c k cl x d h'):ORel (k.add (x,d) h' k.s.toks) (x,d) (.inst cl []):=⟨.inr rfl,#[],⟨L.gx,fun z=>z.elim L.nx L.xd⟩,[],0,L.gd, .nil⟩
theorem ctor_back(ok:c.Ok)(okU:(c.und code).Ok)(R:Rel c σ k)(L:Laid c k cl x d h')(R2:Rel c {σ with obj:=σ.obj++[.inst cl []]} (k.add (x,d) h' k.s.toks))(q:zcq cl σ Φ a σ'.obj[0]?)
  (R':Rel ((c.und code).sub (k.add (x,d) h' k.s.toks) env [(x,d)]) σ' k')(hx':[(x,d)]<+:k'.r)(hv':VR k'.g k'.r a v):v= .none∧Post c k Φ (.ref x) k'.s:=by
 obtain⟨fs,rfl,ho,hq⟩:=zcq.inv q
 refine⟨Rd.elN (G:=fun v=>v= .none) hv' rfl,?_⟩
 have hr2:(k.add (x,d) h' k.s.toks).r[σ.obj.length]?=some (x,d):=R.objn▸List.getElem?_concat_length
 rcases hq with⟨ds,hds,q⟩|q
 ·have A:After c k ⟨k.Z,k.r,k'.s⟩ (fun _=>False) (c.fe.locals::c.F):=
   ⟨rfl,R'.rest,fun b hb=>(List.mem_cons.mp hb).elim (fun e=>ok.fo.elim (fun q=> .inr ⟨e,q⟩) fun q=> .inl (e▸q)) .inl,fun _ h=>h.elim,fun b o _ h2 e=>R'.keep b o (fun⟨p,h1,h3,_⟩=>nS (L.hd.symm.trans (by rw[h3,List.mem_singleton.mp h1]at e;exact e))) h2 (L.gr.keep b o e),
    fun b o h1 e=>R'.fr b o h1 (L.gr.keep b o e),fun _ z=>z,fun b z=>R'.zx b (R'.z0 b (.inl z)),fun _=> .inl⟩
  refine⟨_,σ,⟨k.Z,k.r,k'.s⟩,rfl,q,A.nx ok R,R.after0 ok A fun _ _ h=>h,?_⟩
  obtain⟨p,h1,h2⟩:=R'.obj 0 _ ho
  obtain⟨t,et⟩:=hx'
  rw[←et]at h1
  cases h1
  obtain⟨z1,sl,z2,es,m,z3,z4⟩:=h2
  exact⟨x,d,sl,es,m,rfl,⟨z2.1,L.nx⟩,⟨z3,L.nd⟩,(z4.flds hds).mono fun b o e=>⟨e.1,fun z=>e.2 (R'.z0 b (Or.inl z))⟩⟩
 ·have h:=zfj okU R2.und hr2 R' hx' ho
  have e:(σ.obj++[AO.inst cl []]).set σ.obj.length (.inst cl fs)=σ.obj++[.inst cl fs]:=by simp
  refine⟨.ref σ.obj.length,_,(k.add (x,d) h' k.s.toks).leave k',rfl,?_,(Cs.add_nx (p:=(x,d)) L.gr L.hd k.s.toks).trans h.1,h.2.ofUnd,(x,d),hr2,rfl⟩
  show Φ _ {loc:=σ.loc,obj:=(σ.obj++[AO.inst cl []]).set σ.obj.length (.inst cl fs)}
  rw[e];exact q
theorem ctor_run{n m:Nat}{as:List AV}{vs:List Value}{Ξ:Int→Prop}(IH:∀c',Room m c'.A→Calls1 (CSn m) c')(ok:c.Ok)(okU:(c.und code).Ok)(R:Rel c σ k)(L:Laid c k cl x d h')(hv:VRs k.g k.r as vs)(hr:za1 as=[])
  (room:(c.und code).A.depth+1+m+20≤recursionLimit∧(c.und code).A.units+3+5*m+1400<cLine)(hao:zcm (zdr cl) (AV.ref 0::as).length=true∧zdl (zdr cl) (some (.inst cl []))=true)
  (h:runB (CSn m) (zdr cl) (.ref 0::as) (some (.inst cl [])) (zcq cl σ Φ) Ξ):
  codeAny (model pw c.w) (c.A.under code) (.call (.ref (fadr (zdr cl))) ⟨.ref x::vs,[]⟩) (fun r s'=>match r with| .ok (.ret v)=>v= .none∧Post c k Φ (.ref x) s'| .ok _=>False| .error e=>EX (c.und code) Ξ e s') (k.add (x,d) h' k.s.toks).s:=
 have R2:=R.newObj ok L.gr L.hd ⟨_,L.gd⟩ (t:=k.s.toks) L.orel
 have nx2:=Cs.add_nx (p:=(x,d)) L.gr L.hd k.s.toks
 run_okC (c:=c.und code) (n:=m) (f:=zdr cl) (ps:=[(x,d)]) (o:=some (.inst cl [])) (as:= .ref 0::as) (vs:= .ref x::vs) (Ξ:=Ξ) (Q:=fun v s'=>v= .none∧Post c k Φ (.ref x) s') IH room
  okU R2.und (.inr ⟨_,_,rfl,rfl,List.mem_append_right _ (.head _),L.orel⟩) (.cons (a:= .ref 0) ⟨_,rfl,rfl⟩ ((VRs.mono nx2.g nx2.r hv).plain (zd4 hr))) hao h fun env a σ' k' v q hp R' hx' hv'=>ctor_back ok okU R L R2 q R' hx' hv'
end
theorem ctor_facts2:∀c∈ctors,Nat.beq (zdr c) 24=false∧Nat.ble 200 (zdr c)=true:=by decide
theorem ctor_ok{n:Nat}{cl:Addr}{as:List AV}{vs:List Value}{Φ:AV→St→Prop}{Ξ:Int→Prop}(IH:∀m≤n,∀c',Room m c'.A→Calls1 (CSn m) c')(hroom:Room (n+1) c.A)(hcl:ctors.contains cl=true)(ok:c.Ok)(R:Rel c σ k)
  (hv:VRs k.g k.r as vs)(h:actor (CSn (n+1)) cl as σ Φ Ξ):wpAny (model pw c.w) c.A (call (.ref cl) vs) (Post c k Φ) (EX c Ξ) k.s:=by
 have hcl:=List.contains_iff_mem.mp hcl
 have f1:=and2 (List.all_eq_true.mp (ctor_facts c.w.params) cl hcl)
 have f2:=and2 f1.1
 have hK:=R.kin ok
 obtain⟨hr,h⟩:=actor_inv h
 have h2:=ctor_facts2 cl hcl
 obtain⟨m,hm,hmn,hao,h3⟩:=CSn_run h2.1 h
 have hmn2:=hmn h2.2
 subst hmn2
 have L:Laid c k cl (k.s.heap.objs.size+1) k.s.heap.objs.size ((k.s.heap.push emptyDict).push (instObj cl k.s.heap.objs.size)):=
  ⟨⟨fun b o e=>Heap.get?_push_of_some _ (Heap.get?_push_of_some _ e)⟩,zbc k.s.heap,Heap.get?_push_of_some _ (Heap.get?_push_size _ rfl),Heap.size_push .. ▸Heap.get?_push_size (k.s.heap.push emptyDict) (o:=instObj cl k.s.heap.objs.size) rfl,
   fun z=>(R.zx _ z).elim fun o e=>absurd (Nat.lt_of_succ_lt (Heap.lt_size e)) (Nat.lt_irrefl _),zgv R (ob:=default),Nat.succ_ne_self _⟩
 refine wpAny_call ?_
 rw[show k.s=⟨k.s.heap,k.s.gens,k.s.drawn,k.s.toks,k.s.os⟩from rfl]
 refine make_core (makes_of hK (and2 f2.1).2) (looks_findIn hK (beq_iff_eq.mp f2.2)) (fun self=>bind_fn hK self (by simpa [isFn]using f1.2)) (.inl rfl) ?_
 generalize hcode:Code.builtin "type.__call__" ⟨.ref cl::vs,[]⟩=code
 have w1:code.weight=1:=by rw[←hcode];kernel_rfl
 have w2:code.cUnits=1:=by rw[←hcode];kernel_rfl
 have w3:code.envs=[]:=by rw[←hcode];kernel_rfl
 have w4:code.guards=[]:=by rw[←hcode];kernel_rfl
 have near:=Room.near hroom.sub
 have okU:(c.und code).Ok:=und_ok ok (by rw[w1];decide) (by rw[w2];decide) w3 w4 (Nat.lt_of_lt_of_le (Nat.add_lt_add_left (by decide:10<20) _) (Nat.le_trans (Nat.add_le_add_right (Nat.le_add_right _ _) 20) hroom.1)) (Nat.lt_of_le_of_lt (Nat.add_le_add (Nat.le_add_right _ _) (by decide:1100≤1400)) hroom.2)
 refine codeAny_mono (ctor_run (n:=m) (code:=code) (IH m hm) ok okU R L hv hr ?_ hao h3) fun r s' z=>?_
 ·show c.A.depth+code.weight+1+m+20≤_∧c.A.units+code.cUnits+3+5*m+1400<_
  have h1:=hroom.1
  have h2:=hroom.2
  rw[w1,w2]
  exact⟨by lia,by lia⟩
 ·cases r with
  |error e=>exact EX.ofUnd z
  |ok f=>cases f with
   |ret v=>exact z
   |_=>exact False.elim z
end
section
variable{c:FC}{σ:St}{k:Cs}
theorem err_fresh{C:CS}{a b:X}{pn p:Pos}{fz:Option Nat}{Φ:AV→St→Prop}{Ξ:Int→Prop}(HC:zbe C c)(ok:c.Ok)(hfz:∀n,fz=some n→c.n0≤n)(hk:chk fz c.env.scope (.err a b pn p)=true)(hfe:Fe c (zan (.err a b pn p)))(R:Rel c σ k)(h:awp C (.err a b pn p) σ Φ Ξ):
  wpAny (model pw c.w) c.A (eval (X.err a b pn p).py c.env) (fun v s'=>Post c k Φ v s'∧∃ea,v= .ref ea∧c.k0.s.heap.get? ea=none) (EX c Ξ) k.s:=by
 obtain⟨h1,h2⟩:=and2 hk
 obtain⟨h2,h3⟩:=and2 h2
 refine wpAny_Call_ofName (zb8 ok R (zg3 c.w.params) (zeg h1) (by decide) ?_)
 have hkeep:keepIn (K c.w.params) (.ref CErr)=true:=err_keep c.w.params
 refine callWith_K (R.kin ok) hkeep (e:=a.py) (rest:=[b.py]) ?_ (zap a [b.py]) (noStar (.cons b .nil))
 refine zas (r:= .cons b .nil) (Post.use (awp_ok a HC ok hfz h2 hfe.and.1 R h) fun a' σ' k' v q x R' hv=>zas (r:= .nil) (Post.use (awp_ok b HC ok hfz h3 hfe.and.2 R' q) fun b' σ'' k'' v' q' x' R'' hv'=>spliced_none ⟨R''.kin ok,?_⟩))
 obtain⟨_,rfl,q1⟩:=onT.inv q'
 obtain⟨cc,fs,rfl,q2⟩:=onFi.inv q1
 obtain⟨e1,q3⟩:=onB.inv q2
 obtain⟨_,e2,q4⟩:=onS.inv q3
 obtain⟨o,rfl,q5⟩:=onDI.inv q4
 obtain rfl:=Nat.eq_of_beq_eq_true e1
 refine wpAny_mono ((HC c rfl rfl).err ok R'' (x'.vr hv) hv' e2) (fun v s' z=>?_) fun _ _ e=>e
 obtain⟨z1,ea,z2,z3⟩:=z
 exact⟨Post.ext (x.trans x') (Post.mono (fun a σ z=>by obtain⟨rfl,rfl⟩:=z;exact q5) z1),ea,z2,R''.fresh ok z3⟩
theorem zgd{n:Nat}{ps:List (Addr×Addr)}{o:Option AO}{as:List AV}{vs:List Value}{Φ:AV→Option AO→Prop}{Ξ:Int→Prop}{Q:Value→Shared→Prop}(IH:∀m≤n,∀c',Room m c'.A→Calls1 (CSn m) c')(hroom:Room (n+1) c.A)(ok:c.Ok)(R:Rel c σ k)
  (hp:PsOk k ps o)(hv:VRs k.g ps as vs)(h:CSn (n+1) 4 as o Φ Ξ)
  (hret:∀env a σ' k' v,Φ a (outO o σ')→AV.plain a=true→Rel (c.sub k env ps) σ' k'→ps<+:k'.r→VR k'.g k'.r a v→(∃ea,v= .ref ea∧k.s.heap.get? ea=none)→Q v k'.s):
  wpAny (model pw c.w) c.A (call (.ref (fadr 4)) vs) Q (EX c Ξ) k.s:=by
 obtain⟨m,hm,_,hao,h3⟩:=CSn_run (by decide) h
 have hr:=(hroom.less (Nat.succ_le_succ hm)).sub
 refine run_core (Room.near hr) ok R hp hv hao.1 hao.2 (fun env s' ok' R' hsc hz=>?_)
 have hchk:chkBs (some (fzF 4)) env.scope (bodyF 4)=true:=by
  have:=List.all_eq_true.mp (chk_facts c.w.params) 4 (by decide)
  rw[hsc]
  exact this
 have HC:zbe (CSn m) (c.sub k env ps):=fun c' hA _=>IH m hm c' (hA▸hr)
 obtain⟨a,b,pn,p,pr,hb⟩:∃a b pn p pr,bodyF 4= .cons (.s (.ret (.err a b pn p) pr)) .nil:=⟨_,_,_,_,_,rfl⟩
 rw[hb]at hchk ⊢
 unfold runB at h3
 rw[hb]at h3
 have h4:awp (CSn m) (.err a b pn p) ⟨lay ((prmF 4).zip (fullA 4 as)) (lcF 4),o.toList⟩ (fun a σ=>AV.plain a=true∧Φ a (outO o σ)) Ξ:=h3
 obtain⟨hc1,_⟩:=and2 hchk
 refine wpAny_execs_cons (wpAny_Return_some (wpAny_mono (err_fresh HC ok' hz hc1 (.inr rfl) (R'.lay _) h4) (fun v s2 hh=>?_) fun _ _ e=>e))
 obtain⟨⟨a',σ2,k2,rfl,q,x2,R2,hv2⟩,ea,he,hn⟩:=hh
 exact hret env a' σ2 k2 v q.2 q.1 R2 x2.r hv2 ⟨ea,he,hn⟩
theorem refuse_ok{n:Nat}{as:List AV}{vs:List Value}{Ξ:Int→Prop}(IH:∀m≤n,∀c',Room m c'.A→Calls1 (CSn m) c')(hroom:Room (n+1) c.A)(ok:c.Ok)(R:Rel c σ k)(hv:VRs k.g k.r as vs)
  (h:acall (CSn (n+1)) 4 as σ (fun a _=>onErr a Ξ) Ξ):
  wpAny (model pw c.w) c.A (call (.ref (fadr 4)) vs) (fun v s'=>∃o k' ea,Ξ o∧k'.s=s'∧v= .ref ea∧(∃σ',Rel c σ' k')∧ErrR k'.g o v∧k.s.heap.get? ea=none) (EX c Ξ) k.s:=by
 rcases zda h with⟨hr,h⟩|⟨i,o,hr,ho,h⟩
 ·refine zgd IH hroom ok R (.inl ⟨rfl,rfl⟩) (hv.plain (zd4 hr)) h fun env a σ' k' v q hp R' hx hv' hn=>?_
  obtain⟨nx,R2⟩:=zd1 ok R R'
  obtain⟨ea,rfl,hn⟩:=hn
  obtain⟨oo,rfl,q1⟩:=onErr.inv q
  exact⟨_,k.leave k',ea,q1,rfl,rfl,⟨σ,R2⟩,ErrR.mono (zei R') hv',hn⟩
 ·obtain⟨p0,e1,e2⟩:=R.obj i o ho
  refine zgd IH hroom ok R (.inr ⟨p0,o,rfl,rfl,List.mem_of_getElem? e1,e2⟩) (refs_one e1 hr hv) h fun env a σ' k' v q hp R' hx hv' hn=>?_
  obtain⟨o'',ho'',q1⟩:=zd0.inv q
  obtain⟨oo,rfl,q2⟩:=onErr.inv q1
  obtain⟨nx,R2⟩:=zfj ok R e1 R' hx ho''
  obtain⟨ea,rfl,hn⟩:=hn
  exact⟨_,k.leave k',ea,q2,rfl,rfl,⟨_,R2⟩,ErrR.mono (zei R') hv',hn⟩
end
noncomputable abbrev errBm:List Value:=[.ref 82, .type "Exception", .type "BaseException", .type "object"]
theorem errObj:∀P:Params,(K P).lookup CErr=some (excClassObj (Str.ofString "ActionError") (Str.ofString "ActionError") CErr 94 [.ref 82] errBm true [] [] false none none (some (.ref 86)) none (some (.str (Str.ofString "ActionError") 326)) (some (.str (Str.ofString "ActionError") 334)) (some (.bool true)) "Exception.__new__"):=by
 intro P;kernel_rfl
theorem errInit:∀P:Params,findIn (K P) (.ref CErr) "__init__"=some (some (.ref 72)):=by
 intro P;kernel_rfl
theorem errInitFn:∀P:Params,isFn (K P) (.ref 72)=true:=by
 intro P;kernel_rfl
noncomputable abbrev zcc(rest:List Value):Obj:={cls:= .type "tuple",data:= .seq rest.toArray}
noncomputable abbrev zes(C t:Addr):Obj:={cls:= .ref C,data:= .fields #[.ref t, .none, .none, .none, .bool false, .none]}
section
variable{w:World}{A:Around}{R:Result→Shared→Prop}{E:Value→Shared→Prop}{h:Heap}{g:Array GenState}{d:Drawn}{t:Nat}{os:OsState}
theorem err_new{rest:List Value}(X:(K w.params).In h)(hrest:rest.length≤sizeLine)(hq:R (.ok (.ret (.ref (h.objs.size+1)))) ⟨(h.push (zcc rest)).push (zes CErr h.objs.size),g,d,t,os⟩):
  codeAny (model pw w) A (.builtin "Exception.__new__" ⟨.ref CErr::rest,[]⟩) R ⟨h,g,d,t,os⟩:=by
 have hC:=X _ _ (errObj w.params)
 have Fn:=PySem.F.excBase_Exception
 have hends:=Fn.ends
 have hcB:(Value.ref CErr::errBm).contains (.type "Exception")=true:=by decide+kernel
 have hcA:(Value.ref CErr::errBm).contains (.type "AttributeError")=false:=by decide+kernel
 have hcN:(Value.ref CErr::errBm).contains (.type "NameError")=false:=by decide+kernel
 refine codeAny_builtinAt Fn.entry ?_
 unfold Builtin.«BaseException.__new__»
 refine PySem.wpAt_bind ?_
 show PySem.wpAt _ _ _ (stack>>=_) _ _ _
 refine PySem.wpAt_bind (PySem.wpAt_stack fun p below=>PySem.wpAt_of_wpAny ?_)
 wp_walk
 refine PySem.wpAt_of_wpAny ?_
 rw[Fn.owner]
 repeat (first|with_reducible refine wpAny_madeHere_exc Fn.canon hC ?_|with_reducible refine wpAny_loadPart_at hC ?_|(with_reducible refine wpAny_isSubtype_exc hC ?_;first|rw[hcB]|rw[hcA]|rw[hcN])|wp_step)
 show R _ _
 rw[Heap.size_push]
 exact hq
theorem err_type_call{rest:List Value}{Q:Fin→Shared→Prop}(X:(K w.params).In h)(hrest:rest.length≤sizeLine)
  (hq:wpAny (model pw w) A (call (.ref 72) (.ref (h.objs.size+1)::rest)) (fun r s'=>r= .none∧Q (.done (.ret (.ref (h.objs.size+1)))) s') E ⟨(h.push (zcc rest)).push (zes CErr h.objs.size),g,d,t,os⟩):
  wpAny (model pw w) A (Builtin.«type.__call__» ⟨.ref CErr::rest,[]⟩) Q E ⟨h,g,d,t,os⟩:=by
 have hC:=X _ _ (errObj w.params)
 have Fn:=PySem.F.excBase_Exception
 repeat (first|with_reducible refine wpAny_loadPart_at hC ?_|with_reducible refine wpAny_madeBy_exc hC ?_|wp_step)
 refine codeAny_call_builtin_code (Code.quiet_builtin _ Fn.quiet) (wpAny_check_new_subU Fn (bmB:=errBm) (by decide+kernel) .base hC ?_)
 refine err_new X hrest ?_
 show wpAny _ _ _ _ _ _
 have X₁:(K w.params).In ((h.push (zcc rest)).push (zes CErr h.objs.size)):=X.keeps fun b o e=>Heap.get?_push_of_some _ (Heap.get?_push_of_some _ e)
 have hC₁:=X₁ _ _ (errObj w.params)
 have hget:((h.push (zcc rest)).push (zes CErr h.objs.size)).get? (h.objs.size+1)=some (zes CErr h.objs.size):=by heap_get
 have hcC:(Value.ref CErr::errBm).contains (.ref CErr)=true:=by decide+kernel
 unfold isInstance
 repeat (first|with_reducible refine wpAny_loadPart_at hget ?_|(with_reducible refine wpAny_isSubtype_exc hC₁ ?_;rw[hcC])|wp_step)
 show wpAny _ _ (typeLookup (.ref CErr) _) _ _ _
 refine(looks_findIn X₁ (errInit w.params)).here ?_
 refine wpAny_holding (wpAny_bind ((bind_fn X₁ _ (by have:=errInitFn w.params;unfold isFn at this;simpa using this)).here ?_))
 refine wpAny_bind (wpAny_mono hq (fun r s' hr=>?_) fun _ _ x=>x)
 obtain⟨rfl,hQ⟩:=hr
 wp_walk
 exact hQ
theorem err_call{rest:List Value}{Q:Value→Shared→Prop}(X:(K w.params).In h)(hrest:rest.length≤sizeLine)
  (hq:wpAny (model pw w) (A.under (.builtin "type.__call__" ⟨.ref CErr::rest,[]⟩)) (call (.ref 72) (.ref (h.objs.size+1)::rest)) (fun r s'=>r= .none∧Q (.ref (h.objs.size+1)) s') E ⟨(h.push (zcc rest)).push (zes CErr h.objs.size),g,d,t,os⟩):
  wpAny (model pw w) A (call (.ref CErr) rest) Q E ⟨h,g,d,t,os⟩:=by
 have hC:=X _ _ (errObj w.params)
 have f1:=tc_lookup
 have f2:=tc_bind (.ref CErr)
 have hT:(⟨h,g,d,t,os⟩:Shared).TypeIs (.ref CErr) "type":=⟨_,hC,rfl⟩
 refine wpAny_call (codeAny_of_tree ?_)
 show wpAny _ _ (callAny (.ref CErr) _) _ _ _
 repeat (any_goals (first|assumption|with_reducible refine wpAny_loadPart_at hC ?_|wp_step))
 refine⟨rfl,?_⟩
 exact codeAny_call_builtin_at (Code.quiet_builtin _ (by decide+kernel)) entry_typeCall (wpAny_check_type_call_sub hC (err_type_call X hrest hq))
end
theorem errSet:∀P:Params,findIn (K P) (.ref CErr) "__setattr__"=some (some (.builtin "object.__setattr__")):=by
 intro P;kernel_rfl
theorem errFind:∀P:Params,([7,3].map fun f=>findIn (K P) (.ref CErr) (nm f))=[some none,some none]:=by
 intro P;kernel_rfl
theorem errMro:∀P:Params,mroIn (K P) CErr (.type "object")=some true:=by
 intro P;kernel_rfl
theorem errCls:∀P:Params,(clsIn (K P) CErr).map (fun cd=>(cd.mro,cd.hasDict))=some (.ref CErr::errBm,true):=by
 intro P;kernel_rfl
section
variable{w:World}{M:Model}{A:Around}{E:Value→Shared→Prop}{s:Shared}
theorem storeDict{dx:Addr}{es:List DictEntry}{n:Nat}{name:Str}{tk0:Tok}{v:Value}{Q:PySem.Fin→Shared→Prop}(hd:s.heap.get? dx=some (dictOf es n))(hr:∀e∈es,e.refKey=false)(hz:es.length≤500)
  (h:∀hsh tk,Q (.done (.ret .none)) {s with heap:=s.heap.update dx (Obj.putName name hsh (.str name tk) v),toks:=s.toks+1}):
  wpAny M A (Builtin.ObjectAttr.storeInDict dx (.str name tk0) name v) Q E s:=by
 unfold Builtin.ObjectAttr.storeInDict
 refine wpAny_bind (wpAny_pure (wpAny_bind ?_))
 unfold nsSet
 refine wpAny_bind (wpAny_bind (wpAny_askSetting (wpAny_pure (wpAny_bind (wpAny_mkText (wpAny_bind (wpAny_loadPart hd ?_)))))))
 dsimp only
 have c:(!es.toArray.any (·.key.isStr name)&&es.toArray.any (·.refKey))=false:=by
  have:es.toArray.any (·.refKey)=false:=by
   rw[List.any_toArray,List.any_eq_false];intro e he;rw[hr e he];simp
  rw[this,Bool.and_false]
 rw[aRefKeyMayBeTheName_at,c]
 refine wpAny_updatePart hd ?_
 have hself:∀hsh tk,(s.heap.update dx (Obj.putName name hsh (.str name tk) v)).get? dx=some (dictOf (putL name hsh (.str name tk) v es) (putN name es n)):=fun hsh tk=>by
  rw[←putName_dict]
  exact Heap.get?_update_self _ hd (by rw[putName_dict];rfl)
 refine wpAny_bind (wpAny_lookBehind (hself _ _) (pastItsLine_dict ?_) ?_)
 ·rw[List.size_toArray,putL_len,sizeLine_eq]
  split<;>lia
 ·exact wpAny_pure (h _ _)
theorem err_osa{x:Addr}{f:Nat}{ox:Obj}{od:Option Obj}{tk:Tok}{v:Value}{R:Result→Shared→Prop}(hf:f=7∨f=3)(X:(K w.params).In s.heap)(I:InstAt s.heap x ox CErr od)
  (h:∀b,wpAny (model pw w) A.in1 (Builtin.ObjectAttr.storeInOwnDict (.ref x) (.ref CErr) (.str (nm f) tk) (nm f) v b)
   (fun fin s'=>match fin with| .done f=>R (.ok f) s'| .again c'=>c'.quiet=true∧codeAny (model pw w) A c' R s') (fun e s'=>R (.error e) s') s):
  codeAny (model pw w) A (.call (.builtin "object.__setattr__") ⟨[.ref x, .str (nm f) tk,v],[]⟩) R s:=by
 have SF:=PySem.F.store_object
 obtain⟨cd,hc,e0⟩:=Option.map_eq_some_iff.mp (errCls w.params)
 have hm0:cd.mro= .ref CErr::errBm:=congrArg (·.1) e0
 have ha:findIn (K w.params) (.ref CErr) (nm f)=some none:=by
  have:=errFind w.params
  simp only[List.map_cons,List.map_nil,List.cons.injEq,and_true]at this
  rcases hf with rfl|rfl
  ·exact this.1
  ·exact this.2
 have sub:Looks (model pw w) s.heap (isInstance (.ref x) (.type "object")) true:=I.type.andThen (looks_mroIn X (errMro w.params))
 refine codeAny_call_builtin SF.slot.plain SF.entry (@check_slot (model pw w) _ _ s "object.__setattr__" "object" "__setattr__" (.ref x) [.str (nm f) tk,v] [] _ SF.kind SF.split sub (SF.args (.ref x) (.str (nm f) tk) v) ?_)
 have hm:Looks (model pw w) s.heap (mroOf (.ref CErr)) cd.mro:=(looks_clsIn X hc).andThen .now
 have L3:Looks (model pw w) s.heap (Builtin.ObjectAttr.storeTaker? (none:Option Value)) none:= .now
 rw[osa_eq,refuse_eq]
 refine wpAny_bind (wpAny_bind (I.type.here (wpAny_bind (hm.here ?_))))
 rw[hm0,refuseLoop_ref,refuseLoop_ref,PySem.F.store_Exception.passes]
 refine wpAny_pure (wpAny_bind (I.type.here (wpAny_bind ((looks_findIn X ha).here (wpAny_bind (L3.here ?_))))))
 exact h _
theorem err_set1{x dx:Addr}{f:Nat}{vs:Array Value}{sl:Array (Option Value)}{es:List DictEntry}{n:Nat}{v:Value}{Q:Unit→Shared→Prop}(hf:f=7∨f=3)(X:(K w.params).In s.heap)
  (hx:s.heap.get? x=some ⟨.ref CErr,some dx, .fields vs,sl⟩)(hd:s.heap.get? dx=some (dictOf es n))(hr:∀e∈es,e.refKey=false)(hz:es.length≤500)
  (h:∀hsh tk,Q () {s with heap:=s.heap.update dx (Obj.putName (nm f) hsh (.str (nm f) tk) v),toks:=s.toks+2}):
  wpAny (model pw w) A (setAttr (.ref x) (nm f) v) Q E s:=by
 have I:InstAt s.heap x ⟨.ref CErr,some dx, .fields vs,sl⟩ CErr (some (dictOf es n)):=⟨hx,rfl,rfl,hd⟩
 refine set_plain X I (errSet w.params) (err_osa (s:={s with toks:=s.toks+1}) hf X I fun b=>?_)
 obtain⟨cd,hc,e0⟩:=Option.map_eq_some_iff.mp (errCls w.params)
 have hd':cd.hasDict=true:=congrArg (·.2) e0
 refine wpAny_bind (wpAny_pure (wpAny_bind (wpAny_bind (wpAny_loadPart hx (wpAny_bind (Looks.here (s:={s with toks:=s.toks+1}) (looks_clsIn X hc) ?_))))))
 rw[hd']
 refine wpAny_pure (a:=some dx) ?_
 exact storeDict (s:={s with toks:=s.toks+1}) hd hr hz fun hsh tk=>h hsh tk
theorem err_set0{x:Addr}{f:Nat}{vs:Array Value}{sl:Array (Option Value)}{v:Value}{Q:Unit→Shared→Prop}(hf:f=7∨f=3)(X:(K w.params).In s.heap)
  (hx:s.heap.get? x=some ⟨.ref CErr,none, .fields vs,sl⟩)
  (h:∀hsh tk,Q () {s with heap:=((s.heap.push (dictOf [] 0)).update x fun o=>{o with dict:=some s.heap.objs.size}).update s.heap.objs.size (Obj.putName (nm f) hsh (.str (nm f) tk) v),toks:=s.toks+2}):
  wpAny (model pw w) A (setAttr (.ref x) (nm f) v) Q E s:=by
 have I:InstAt s.heap x ⟨.ref CErr,none, .fields vs,sl⟩ CErr none:=⟨hx,rfl,rfl,trivial⟩
 refine set_plain X I (errSet w.params) (err_osa (s:={s with toks:=s.toks+1}) hf X I fun b=>?_)
 obtain⟨cd,hc,e0⟩:=Option.map_eq_some_iff.mp (errCls w.params)
 have hd':cd.hasDict=true:=congrArg (·.2) e0
 have hx₁:(s.heap.push (dictOf [] 0)).get? x=some ⟨.ref CErr,none, .fields vs,sl⟩:=Heap.get?_push_of_some _ hx
 have hxs:x≠s.heap.objs.size:=Nat.ne_of_lt (Heap.lt_size hx)
 refine wpAny_bind (wpAny_pure (wpAny_bind (wpAny_bind (wpAny_loadPart hx (wpAny_bind (Looks.here (s:={s with toks:=s.toks+1}) (looks_clsIn X hc) ?_))))))
 rw[hd']
 refine wpAny_bind (wpAny_alloc (wpAny_bind (wpAny_update hx₁ ?_)))
 refine wpAny_pure (a:=some s.heap.objs.size) ?_
 exact storeDict (s:={s with heap:=(s.heap.push (dictOf [] 0)).update x fun o=>{o with dict:=some s.heap.objs.size},toks:=s.toks+1}) (es:=[]) (n:=0)
  ((Heap.get?_update_ne _ _ _ _ hxs.symm).trans (Heap.get?_push_at rfl rfl)) (fun e he=>by cases he) (by simp) fun hsh tk=>h hsh tk
end
section
variable{w:World}{A:Around}{E:Value→Shared→Prop}
theorem exc_check{M:Model}{h:Heap}{g:Array GenState}{d:Drawn}{t:Nat}{os:OsState}{e:Addr}{oe:Obj}{rest:List Value}{Q:Unit→Shared→Prop}(X:(K w.params).In h)(he:h.get? e=some oe)(hcls:oe.cls= .ref CErr)(hq:Q () ⟨h,g,d,t,os⟩):
  wpAny M A (checkBuiltinCall "Exception.__init__" ⟨.ref e::rest,[]⟩) Q E ⟨h,g,d,t,os⟩:=by
 have hC:=X _ _ (errObj w.params)
 have F:=PySem.F.excBase_Exception
 have hcB:(Value.ref CErr::errBm).contains (.type "Exception")=true:=by decide+kernel
 have hshort:=F.noStar
 simp only[checkBuiltinCall,F.initKind,F.initSplit,F.initRow]
 repeat (first|(with_reducible refine wpAny_loadPart_at he ?_;rw[hcls])|with_reducible refine wpAny_loadPart_at hC ?_|(with_reducible refine wpAny_isSubtype_exc hC ?_;rw[hcB])|wp_step)
 refine wpAny_onRaise ?_
 rw[show∀(a b:String)(n:Nat),Bind.check ⟨.positional,"*","Exception", .self,[⟨"args", .varPos,false⟩]⟩ a b n (List.map (fun x=>x.fst) ({pos:=Value.ref e::rest}:Args).kw)=pure ()from
  fun a b n=>check_star_args _ _ _ _ _ _]
 exact wpAny_pure hq
theorem exc_base{s:Shared}{e t0:Addr}{ob:Obj}{vs:Array Value}{v:Value}{Q:PySem.Fin→Shared→Prop}(he:s.heap.get? e=some ob)(hd:ob.data= .fields vs)(h0:vs[0]?=some (.ref t0))
  (h:Q (.done (.ret .none)) {s with heap:=(s.heap.push (zcc [v])).update e (Obj.mapFields (·.setIfInBounds 0 (.ref s.heap.objs.size)))}):
  wpAny (model pw w) A (Builtin.«BaseException.__init__» ⟨[.ref e,v],[]⟩) Q E s:=by
 unfold Builtin.«BaseException.__init__»
 dsimp only
 rw[if_neg (by simp)]
 unfold newTuple Builtin.BaseException.bexcPut
 have hsz:0<vs.size:=(Array.getElem?_eq_some_iff.mp h0).1
 have he₁:=Heap.get?_push_of_some (h:=s.heap) (zcc [v]) he
 refine wpAny_bind (wpAny_newObj_type (wpAny_bind (wpAny_bind (wpAny_field he₁ hd h0 (wpAny_bind (wpAny_setField he₁ hd hsz ?_))))) (by size_fits))
 exact wpAny_letGo (wpAny_pure h)
theorem exc_init{s:Shared}{e t0:Addr}{ob:Obj}{vs:Array Value}{v:Value}{Q:Value→Shared→Prop}(X:(K w.params).In s.heap)(he:s.heap.get? e=some ob)(hc:ob.cls= .ref CErr)(hd:ob.data= .fields vs)(h0:vs[0]?=some (.ref t0))
  (h:Q .none {s with heap:=(s.heap.push (zcc [v])).update e (Obj.mapFields (·.setIfInBounds 0 (.ref s.heap.objs.size)))}):
  wpAny (model pw w) A (call (.builtin "Exception.__init__") [.ref e,v]) Q E s:=by
 have F:=PySem.F.excBase_Exception
 obtain⟨hp,g,d,tk,os⟩:=s
 exact wpAny_call (codeAny_call_builtin F.init.plain F.initEntry (exc_check X he hc (exc_base he hd h0 h)))
theorem exc_find_K:∀P:Params,findCls (K P) (.type "Exception") (.type "type") (Str.ofString "__init__")=some (.val (.builtin "Exception.__init__")):=by
 intro P;kernel_rfl
theorem exc_getm{s:Shared}{pl:Sem Bool}{Q:Value×List Value→Shared→Prop}(X:(K w.params).In s.heap)(h:Q (.builtin "Exception.__init__",[]) {s with toks:=s.toks+1}):
  wpAny (model pw w) A (getMethod (.type "Exception") (Str.ofString "__init__") pl) Q E s:=by
 have hstub:opaqueClassAbove (.type "Exception")=pure none:=by unfold opaqueClassAbove;dsimp only;rw[show Manifest.isStub "Exception"=false by decide+kernel];rfl
 have ht:typeOf (.type "Exception")=pure (.type "type"):=by first|rfl|kernel_rfl
 have L0:Looks (model pw w) s.heap (typeOf (.type "Exception")) (.type "type"):=Looks.of_pure ht
 have hg:findIn (K w.params) (.type "type") "__getattribute__"=some (some (.builtin "type.__getattribute__")):=type_tga
 unfold getMethod specialOf
 refine wpAny_bind (wpAny_bind (L0.here ((looks_findIn X hg).here ?_)))
 dsimp only
 rw[if_pos canon_tga]
 refine wpAny_bind (wpAny_mono (Q:=fun v=>Q (v,[])) (E:=E) ?_ (fun _ _ z=>wpAny_pure z) fun _ _ z=>z)
 have LO:Looks (model pw w) s.heap (opaqueClassAbove (.type "Exception")) none:=Looks.of_pure hstub
 refine cls_open X LO L0 hg (looks_hook X (r:=none) (by rfl)) (by show subIn (K w.params) _ _=_;rfl) (exc_find_K w.params) ?_
 show wpAny _ _ (ret _) _ _ _
 exact wpAny_pure (wpAny_pure h)
end
noncomputable def fdX(F:Frag)(a:Addr):FuncData:=match F.lookup a with
 |some ⟨_,_, .func fd,_⟩=>fd
 |_=>default
noncomputable def fdChkX(F:Frag)(a:Addr)(prms:List Nat):Bool:=match F.lookup a with
 |some ⟨_,_, .func fd,_⟩=>fd.closure.isEmpty&&(Nat.beq fd.globals mainGlobals&&(Nat.beq fd.builtins builtinsNs&&(fd.scope.kind== .function&&(!fd.scope.isCoroutine&&(!fd.scope.isGenerator&&
   (codeChk F fd.code fd.qualname&&((prms).all (fun i=>Nat.blt i nms.length&&(fd.scope.names.lookup (nm i)==some .local||fd.scope.names.lookup (nm i)==some .cell))&&
   (fdChk.noRep prms&&noRepS (fd.scope.names.map (·.1))))))))))
 |_=>false
theorem fd_atX{P:Params}{a:Addr}{prms:List Nat}{bd:List Stmt}(h:fdChkX (K P) a prms=true)(hb:(fdX (K P) a).body= .stmts bd):∃o,FdAtG P a prms bd o (fdX (K P) a):=by
 unfold fdChkX at h
 split at h
 case h_2=>exact Bool.noConfusion h
 rename_i cl d fd sl e
 have e2:fdX (K P) a=fd:=by unfold fdX;rw[e]
 rw[e2]at hb ⊢
 have h1:=and2 h
 have h2:=and2 h1.2
 have h3:=and2 h2.2
 have h4:=and2 h3.2
 have h5:=and2 h4.2
 have h6:=and2 h5.2
 have h7:=and2 h6.2
 have h8:=and2 h7.2
 have h9:=and2 h8.2
 exact⟨_,e,rfl,List.isEmpty_iff.mp h1.1,Nat.eq_of_beq_eq_true h2.1,Nat.eq_of_beq_eq_true h3.1,beq_iff_eq.mp h4.1,Bool.not_eq_true' _▸h5.1,Bool.not_eq_true' _▸h6.1,codeChk_ok h7.1,fun i hi=>prm_ok (List.all_eq_true.mp h8.1 i hi),noRep_ok h9.1,hb,zhk h9.2⟩
noncomputable def tiL1:Xs:= .cons (.loc 0 ⟨34,27,34,31⟩) (.cons (.loc 7 ⟨34,33,34,37⟩) .nil)
noncomputable def tiBody:List Stmt:=[.Expr (.Call (.Attribute (.Name (Str.ofString "Exception") ⟨34,8,34,17⟩) (Str.ofString "__init__") ⟨34,8,34,26⟩) tiL1.py [] ⟨34,8,34,38⟩) ⟨34,8,34,38⟩,
 .Assign [.Attribute (.Name (nm 0) ⟨35,8,35,12⟩) (nm 7) ⟨35,8,35,17⟩] (.Name (nm 7) ⟨35,20,35,24⟩) ⟨35,8,35,24⟩,
 .Assign [.Attribute (.Name (nm 0) ⟨36,8,36,12⟩) (nm 3) ⟨36,8,36,15⟩] (.Name (nm 3) ⟨36,18,36,20⟩) ⟨36,8,36,20⟩]
theorem ti_body:∀P:Params,(fdX (K P) 72).body= .stmts tiBody:=by
 intro P;kernel_rfl
theorem ti_chk:∀P:Params,fdChkX (K P) 72 [0,7,3]=true:=by
 intro P;kernel_rfl
theorem ti_bind:∀(P:Params)(v0 v1 v2 d:Value),(kOf (fdX (K P) 72) [v0,v1,v2]).1 (some #[d])=pure (([0,7,3].map nm).zip [v0,v1,v2]):=by
 intro P v0 v1 v2 d;kernel_rfl
theorem ti_dfl:∀P:Params,(fdX (K P) 72).defaults= .ref 65∧(K P).lookup 65=some {cls:= .type "tuple",dict:=none,data:= .seq #[.none]}:=by
 intro P;exact⟨by kernel_rfl,by kernel_rfl⟩
theorem ti_exc:∀P:Params,(fdX (K P) 72).scope.names.lookup (Str.ofString "Exception")=some .globalImplicit:=by
 intro P;kernel_rfl
theorem exc_global:∀P:Params,nsIn (K P) mainGlobals (Str.ofString "Exception")=some none:=by
 intro P;kernel_rfl
theorem exc_boot:bootBuiltins (Str.ofString "Exception")=some (.type "Exception"):=by decide+kernel
section
variable{c:FC}{σ:St}{k:Cs}
theorem made_back{code:Code}{x d:Addr}{h':Heap}{t:Nat}{env:Env}{σ':St}{k':Cs}(ok:c.Ok)(R:Rel c σ k)(gr:Grow k h')(hd:k.s.heap.get? d=none)(R':Rel ((c.und code).sub (k.add (x,d) h' t) env [(x,d)]) σ' k'):
  Nx k ⟨k.Z,k.r,k'.s⟩∧Rel c σ ⟨k.Z,k.r,k'.s⟩:=by
 have A:After c k ⟨k.Z,k.r,k'.s⟩ (fun _=>False) (c.fe.locals::c.F):=
   ⟨rfl,R'.rest,fun b hb=>(List.mem_cons.mp hb).elim (fun e=>ok.fo.elim (fun q=> .inr ⟨e,q⟩) fun q=> .inl (e▸q)) .inl,fun _ h=>h.elim,fun b o _ h2 e=>R'.keep b o (fun⟨p,h1,h3,_⟩=>nS (hd.symm.trans (by rw[h3,List.mem_singleton.mp h1]at e;exact e))) h2 (gr.keep b o e),
    fun b o h1 e=>R'.fr b o h1 (gr.keep b o e),fun _ z=>z,fun b z=>R'.zx b (R'.z0 b (.inl z)),fun _=> .inl⟩
 exact⟨A.nx ok R,R.after0 ok A fun _ _ h=>h⟩
noncomputable def excO(dd:Option Addr)(t:Addr)(sl:Array (Option Value)):Obj:=⟨.ref CErr,dd, .fields #[.ref t, .none, .none, .none, .bool false, .none],sl⟩
theorem upd_exc{h:Heap}{e t t':Addr}{dd:Option Addr}{sl:Array (Option Value)}(he:h.get? e=some (excO dd t sl)):(h.update e (Obj.mapFields (·.setIfInBounds 0 (.ref t')))).get? e=some (excO dd t' sl):=
 (Heap.get?_update_self _ he rfl).trans rfl
theorem but_upd{k:Cs}{z:Addr}{f:Obj→Obj}:But k z (k.s.heap.update z f):=⟨fun b o n e=>(Heap.get?_update_other _ _ (Ne.symm n)).trans e⟩
theorem zb1{E:Value→Shared→Prop}{Q:Value→Shared→Prop}{i:Nat}{a:AV}{p:Pos}(ok:c.Ok)(R:Rel c σ k)(h:σ.get i=some a)(q:∀v,VR k.g k.r a v→Q v k.s):wpAny (model pw c.w) c.A (eval (.Name (nm i) p) c.env) Q E k.s:=by
 obtain⟨mm,hn,hl⟩:=R.ns
 obtain⟨hi,v,hv,hr⟩:=hl i a h
 refine wpAny_Name ?_ (nm_debug i hi)
 rcases hr with⟨h1,h2⟩|⟨h1,ad,h2,h3⟩
 ·exact wpAny_loadName_local ok.kind h1 hn h2 (q v hv)
 ·exact wpAny_loadName_cell ok.kind h1 h2 h3 (q v hv)
theorem Hid.at_{z:Addr}{h':Heap}{t:Nat}(h:Hid c k z):Hid c (k.at h' t) z:=⟨h.z,h.own,h.new,h.nF,h.ne⟩
noncomputable def sTi(x:Str)(fs:List (Nat×PyData)):St:=⟨[(0, .ref 0),(7, .d (.str x)),(3, .fi CPos fs)],[.dead]⟩
noncomputable def es7(h:Int)(t:Tok)(v:Value):List DictEntry:=putL (nm 7) h (.str (nm 7) t) v []
theorem es7_key(h:Int)(t:Tok)(v:Value):∀e∈es7 h t v,e.refKey=false:=fun e he=>List.mem_singleton.mp (show e∈[⟨h, .str (nm 7) t,v⟩]from he)▸rfl
theorem es7_get(h h':Int)(t t':Tok)(v v':Value):getL (Str.ofString "at") (putL (nm 3) h' (.str (nm 3) t') v' (es7 h t v))=some (some v'):=by kernel_rfl
theorem ref_val{e:Addr}{v:Value}(hr:k.r[0]?=some (e,e))(h:VR k.g k.r (.ref 0) v):v= .ref e:=by
 obtain⟨p,hp,q⟩:=h
 rw[hr]at hp
 cases hp
 exact q
section
variable{x:Str}{fs:List (Nat×PyData)}{e:Addr}{sl:Array (Option Value)}{s:Shared}{E:Value→Shared→Prop}
inductive Ti1(c:FC)(k:Cs)(x:Str)(fs:List (Nat×PyData))(e:Addr)(s:Shared):Prop
 |mk (k2:Cs) (t:Addr) (sl:Array (Option Value)) (q:k2.s=s) (n:Nx k k2) (R:Rel c (sTi x fs) k2) (r:k2.r[0]?=some (e,e)) (z:k2.Z e) (a:k2.s.heap.get? e=some (excO none t sl))
inductive Ti2(c:FC)(k:Cs)(x:Str)(fs:List (Nat×PyData))(e:Addr)(s:Shared):Prop
 |mk (k2:Cs) (t:Addr) (sl:Array (Option Value)) (d:Addr) (h:Int) (tk:Tok) (v:Value) (n0:Nat) (q:k2.s=s) (n:Nx k k2) (R:Rel c (sTi x fs) k2) (r:k2.r[0]?=some (e,e)) (a:k2.s.heap.get? e=some (excO (some d) t sl)) (ed:e≠d) (H:Hid c k2 d) (b:k2.s.heap.get? d=some (dictOf (es7 h tk v) n0))
inductive Ti3(c:FC)(k:Cs)(x:Str)(fs:List (Nat×PyData))(e:Addr)(s:Shared):Prop
 |mk (k2:Cs) (t:Addr) (sl:Array (Option Value)) (de:Addr) (es:List DictEntry) (n0:Nat) (vp:Value) (q:k2.s=s) (n:Nx k k2) (R:Rel c (sTi x fs) k2) (a:k2.s.heap.get? e=some (excO (some de) t sl)) (b:k2.s.heap.get? de=some (dictOf es n0)) (w:c.k0.s.heap.get? de=none) (l:getL (Str.ofString "at") es=some (some vp)) (f:FI k2.g CPos fs vp)
theorem ti1(ok:c.Ok)(R:Rel c (sTi x fs) k)(hr:k.r[0]?=some (e,e))(hz:k.Z e){t0:Addr}(he:k.s.heap.get? e=some (excO none t0 sl))(hk:c.env.kindOf (Str.ofString "Exception")=some .globalImplicit):
  wpAny (model pw c.w) c.A (exec (.Expr (.Call (.Attribute (.Name (Str.ofString "Exception") ⟨34,8,34,17⟩) (Str.ofString "__init__") ⟨34,8,34,26⟩) tiL1.py [] ⟨34,8,34,38⟩) ⟨34,8,34,38⟩) c.env) (fun fl s2=>fl= .next∧Ti1 c k x fs e s2) E k.s:=by
 refine wpAny_Expr_any (MethodCall_ (pl:=do return (←importBound (.Name (Str.ofString "Exception") ⟨34,8,34,17⟩) c.env).getD true) (bi_name ok R (exc_global _) exc_boot (by decide+kernel) hk (by decide+kernel) (exc_getm (R.kin ok) ?_)) ?_) ?_ ?_
 rotate_left
 ·rfl
 ·unfold interactive;rw[ok.kind];rfl
 ·rfl
 have R1:=R.toks (k.s.toks+1)
 refine callWith_method1 (zas (x:= .loc 0 _) (r:= .cons (.loc 7 _) .nil) (zb1 ok R1 rfl fun v1 hv1=>zas (x:= .loc 7 _) (r:= .nil) (zb1 ok R1 rfl fun v2 hv2=>spliced_none ?_))) (zap (.loc 0 _) _) (noStar (.cons (.loc 7 _) .nil))
 obtain rfl:=ref_val hr hv1
 refine exc_init (w:=c.w) (R1.kin ok) he rfl rfl rfl ?_
 have B:But (k.at (k.s.heap.push (zcc [v2])) (k.s.toks+1)) e _:=but_upd (f:=Obj.mapFields (·.setIfInBounds 0 (.ref k.s.heap.objs.size)))
 have he2:=upd_exc (t':=k.s.heap.objs.size) (Heap.get?_push_of_some (zcc [v2]) he)
 have g:=Grow.push k (zcc [v2])
 exact⟨rfl,_,_,_,rfl,(g.nx (k.s.toks+1)).trans (B.nx hz (k.s.toks+1)),(R.grow g (k.s.toks+1)).setObj ok (t:=k.s.toks+1) (o':= .dead) hr hz B ⟨_,he2⟩ trivial,hr,hz,he2⟩
structure Ti(c:FC)(k:Cs)(σ:St)(d e:Addr)(oe:Obj)(k':Cs):Prop where
 n:Nx k k'
 R:Rel c σ k'
 H:Hid c k' d
 r:k'.r=k.r
 a:k'.s.heap.get? e=some oe
theorem ti_put{d:Addr}{es:List DictEntry}{n f:Nat}{hsh:Int}{tk:Tok}{v:Value}{oe:Obj}(ok:c.Ok)(R:Rel c σ k)(H:Hid c k d)(b:k.s.heap.get? d=some (dictOf es n))(ed:e≠d)(a:k.s.heap.get? e=some oe):
  Ti c k σ d e oe (k.at (k.s.heap.update d (Obj.putName (nm f) hsh (.str (nm f) tk) v)) (k.s.toks+2))∧(k.s.heap.update d (Obj.putName (nm f) hsh (.str (nm f) tk) v)).get? d=some (dictOf (putL (nm f) hsh (.str (nm f) tk) v es) (putN (nm f) es n)):=by
 have hg:(k.s.heap.update d (Obj.putName (nm f) hsh (.str (nm f) tk) v)).get? d=some (dictOf (putL (nm f) hsh (.str (nm f) tk) v es) (putN (nm f) es n)):=putName_dict .. ▸Heap.get?_update_self _ b (by rw[putName_dict];rfl)
 obtain⟨A,R'⟩:=R.hidset ok H (but_upd (f:=Obj.putName (nm f) hsh (.str (nm f) tk) v)) ⟨_,hg⟩ (k.s.toks+2)
 exact⟨⟨A.nx ok R,R',H.after A,rfl,(Heap.get?_update_ne _ _ _ _ ed).trans a⟩,hg⟩
theorem ti_dict{d t:Addr}(ok:c.Ok)(R:Rel c (sTi x fs) k)(hr:k.r[0]?=some (e,e))(hz:k.Z e)(he:k.s.heap.get? e=some (excO none t sl))(hd:d=k.s.heap.objs.size):
  e≠d∧Ti c k (sTi x fs) d e (excO (some d) t sl) ((k.hide [d] (k.s.heap.push (dictOf [] 0)) k.s.toks).at ((k.s.heap.push (dictOf [] 0)).update e fun o=>{o with dict:=some d}) k.s.toks)∧((k.s.heap.push (dictOf [] 0)).update e fun o=>{o with dict:=some d}).get? d=some (dictOf [] 0):=by
 have hdn:k.s.heap.get? d=none:=hd▸zbc _
 have hgd:(k.s.heap.push (dictOf [] 0)).get? d=some (dictOf [] 0):=hd▸Heap.get?_push_size _ rfl
 have hed:e≠d:=fun q=>nS (hdn.symm.trans (q▸he))
 have H3:Hid c _ d:=Hid.of_hide (t:=k.s.toks) (h':=k.s.heap.push (dictOf [] 0)) ok R (List.mem_singleton.mpr rfl) hdn
 obtain⟨A3,R3⟩:=R.hide ok (L:=[d]) (Grow.push k (dictOf [] 0)) (fun b hb=>List.mem_singleton.mp hb▸hdn) (fun b hb=>List.mem_singleton.mp hb▸⟨_,hgd⟩) k.s.toks
 have B4:But (k.hide [d] (k.s.heap.push (dictOf [] 0)) k.s.toks) e _:=but_upd (f:=fun o=>{o with dict:=some d})
 have he4:((k.s.heap.push (dictOf [] 0)).update e fun o=>{o with dict:=some d}).get? e=some (excO (some d) t sl):=Heap.get?_update_self _ (Heap.get?_push_of_some _ he) rfl
 exact⟨hed,⟨(A3.nx ok R).trans (B4.nx (.inl hz) k.s.toks),R3.setObj ok (i:=0) (p:=(e,e)) (o':= .dead) (t:=k.s.toks) hr (.inl hz) B4 ⟨_,he4⟩ trivial,H3.at_,rfl,he4⟩,(Heap.get?_update_ne _ _ _ _ hed.symm).trans hgd⟩
theorem ti2{t:Addr}(ok:c.Ok)(R:Rel c (sTi x fs) k)(hr:k.r[0]?=some (e,e))(hz:k.Z e)(he:k.s.heap.get? e=some (excO none t sl)):
  wpAny (model pw c.w) c.A (exec (.Assign [.Attribute (.Name (nm 0) ⟨35,8,35,12⟩) (nm 7) ⟨35,8,35,17⟩] (.Name (nm 7) ⟨35,20,35,24⟩) ⟨35,8,35,24⟩) c.env) (fun fl s2=>fl= .next∧Ti2 c k x fs e s2) E k.s:=by
 refine plainObj_wpAny_Assign_Attribute (zb1 ok R rfl fun v hv=>zb1 ok R rfl fun v1 hv1=>?_) rfl
 obtain rfl:=ref_val hr hv1
 refine err_set0 (w:=c.w) (.inl rfl) (R.kin ok) he fun hsh tk=>?_
 obtain⟨ed,T,b⟩:=ti_dict ok R hr hz he rfl
 obtain⟨T2,b2⟩:=ti_put (f:=7) (hsh:=hsh) (tk:=tk) (v:=v) ok T.R T.H b ed T.a
 exact⟨rfl,_,t,sl,_,hsh,tk,v,_,rfl,T.n.trans T2.n,T2.R,hr,T2.a,ed,T2.H,b2⟩
theorem ti3{t d:Addr}{hs:Int}{tk:Tok}{v0:Value}{n0:Nat}(ok:c.Ok)(R:Rel c (sTi x fs) k)(hr:k.r[0]?=some (e,e))(he:k.s.heap.get? e=some (excO (some d) t sl))(ed:e≠d)(H:Hid c k d)(b:k.s.heap.get? d=some (dictOf (es7 hs tk v0) n0)):
  wpAny (model pw c.w) c.A (exec (.Assign [.Attribute (.Name (nm 0) ⟨36,8,36,12⟩) (nm 3) ⟨36,8,36,15⟩] (.Name (nm 3) ⟨36,18,36,20⟩) ⟨36,8,36,20⟩) c.env) (fun fl s2=>fl= .next∧Ti3 c k x fs e s2) E k.s:=by
 refine plainObj_wpAny_Assign_Attribute (zb1 ok R rfl fun v hv=>zb1 ok R rfl fun v1 hv1=>?_) rfl
 obtain rfl:=ref_val hr hv1
 refine err_set1 (w:=c.w) (.inr rfl) (R.kin ok) he b (es7_key _ _ _) (show 1≤500 by decide) fun hsh tk=>?_
 obtain⟨T,b2⟩:=ti_put (f:=3) (hsh:=hsh) (tk:=tk) (v:=v) ok R H b ed he
 exact⟨rfl,_,t,sl,d,_,_,v,rfl,T.n,T.R,T.a,b2,H.new,es7_get ..,FI.mono T.n.g hv⟩
theorem ti_run{t0:Addr}(ok:c.Ok)(R:Rel c (sTi x fs) k)(hr:k.r[0]?=some (e,e))(hz:k.Z e)(he:k.s.heap.get? e=some (excO none t0 sl))(hk:c.env.kindOf (Str.ofString "Exception")=some .globalImplicit):
  wpAny (model pw c.w) c.A (execs tiBody c.env) (fun fl s2=>fl= .next∧Ti3 c k x fs e s2) E k.s:=by
 refine wpAny_execs_cons (wpAny_mono (ti1 ok R hr hz he hk) (fun fl s2 h=>?_) fun _ _ e=>e)
 obtain⟨rfl,k2,t2,sl2,rfl,n2,R2,r2,z2,a2⟩:=h
 refine wpAny_execs_cons (wpAny_mono (ti2 ok R2 r2 z2 a2) (fun fl s2 h=>?_) fun _ _ e=>e)
 obtain⟨rfl,k3,t3,sl3,d,h3,tk,v,n0,rfl,n3,R3,r3,a3,ed,H,b⟩:=h
 refine wpAny_execs_cons (wpAny_mono (ti3 ok R3 r3 a3 ed H b) (fun fl s2 h=>?_) fun _ _ e=>e)
 obtain⟨rfl,k4,t4,sl4,de,es,n4,vp,rfl,n5,R4,a4,b4,w4,l4,f4⟩:=h
 exact wpAny_execs_nil ⟨rfl,k4,t4,sl4,de,es,n4,vp,rfl,(n2.trans n3).trans n5,R4,a4,b4,w4,l4,f4⟩
end
end
section
variable{c:FC}{σ:St}{k:Cs}
theorem fi_one{g:G}{fs:List (Nat×PyData)}{o:Int}{v:Value}(h:fs.lookup 2=some (.int o))(x:FI g CPos fs v):FI g CPos [(2, .int o)] v:=by
 obtain⟨x,dx,sl,es,n,a,b,c,d⟩:=x
 exact⟨x,dx,sl,es,n,a,b,c,fun p hp=>by rw[List.mem_singleton.mp hp];exact d _ (zak h)⟩
section
variable{x:Str}{fs:List (Nat×PyData)}{o:Int}{v1 v2:Value}{Ξ:Int→Prop}{e t:Addr}{h':Heap}{code:Code}
structure LaidE(c:FC)(k:Cs)(e t:Addr)(h':Heap):Prop where
 gr:Grow k h'
 gx:h'.get? e=some (excO none t #[])
 hd:k.s.heap.get? e=none
 nze:¬k.Z e
noncomputable def ErrP(c:FC)(k:Cs)(σ:St)(o:Int)(v:Value)(s':Shared):Prop:=Post c k (fun a σ'=>a= .err o∧σ'=σ) v s'∧∃ea,v= .ref ea∧k.s.heap.get? ea=none
theorem err_back{env:Env}{s s2:Shared}(ok:c.Ok)(R:Rel c σ k)(L:LaidE c k e t h')(hfs:fs.lookup 2=some (.int o))(h:Ti3 ((c.und code).sub (k.add (e,e) h' k.s.toks) env [(e,e)]) ((k.add (e,e) h' k.s.toks).enter env [(e,e)] s2) x fs e s):ErrP c k σ o (.ref e) s:=by
 obtain⟨k2,t2,sl,de,es,n,vp,rfl,nxx,R3,g1,g2,g3,g4,g5⟩:=h
 obtain⟨nx,R4⟩:=made_back ok R L.gr L.hd R3
 have nzd:¬k.Z de:=fun z=>(R.zx de z).elim fun o q=>nS ((show h'.get? de=none from g3).symm.trans (L.gr.keep _ _ q))
 exact⟨⟨.err o,σ,⟨k.Z,k.r,k2.s⟩,rfl,⟨rfl,rfl⟩,nx,R4,⟨e,de,_,t2,rfl,⟨g1,L.nze⟩,rfl,rfl,rfl,⟨es,n,vp,⟨g2,nzd⟩,g4,fi_one hfs (FI.mono (fun b o q=>⟨q.1,fun z=>q.2 (R3.z0 b (.inl z))⟩) g5)⟩⟩⟩,e,rfl,L.hd⟩
theorem err_run(hroom:c.A.depth+code.weight+2<recursionLimit∧c.A.units+code.cUnits+1010<cLine)(ok:c.Ok)(okU:(c.und code).Ok)(R:Rel c σ k)(L:LaidE c k e t h')(hv1:Rd k.g v1 (.str x))(hv2:FI k.g CPos fs v2)(hfs:fs.lookup 2=some (.int o)):
  codeAny (model pw c.w) (c.A.under code) (.call (.ref 72) ⟨[.ref e,v1,v2],[]⟩) (fun r s'=>match r with| .ok (.ret v)=>v= .none∧ErrP c k σ o (.ref e) s'| .ok _=>False| .error e=>EX (c.und code) Ξ e s') (k.add (e,e) h' k.s.toks).s:=by
 have nx2:=Cs.add_nx (p:=(e,e)) L.gr L.hd k.s.toks
 have R2:=R.newObj ok (p:=(e,e)) L.gr L.hd ⟨_,L.gx⟩ (t:=k.s.toks) (o':= .dead) trivial
 obtain⟨ob,F⟩:=fd_atX (ti_chk c.w.params) (ti_body c.w.params)
 obtain⟨df1,df2⟩:=ti_dfl c.w.params
 have hK2:(K c.w.params).In (k.add (e,e) h' k.s.toks).s.heap:=R2.kin ok
 have hb:=BindsTo.of_defaults (s:=(k.add (e,e) h' k.s.toks).s) df1 (hK2 _ _ df2) rfl (kOf (fdX (K c.w.params) 72) [.ref e,v1,v2]).2 (ti_bind c.w.params (.ref e) v1 v2 .none)
 exact run_coreG (c:=c.und code) (k:=k.add (e,e) h' k.s.toks) (ps:=[(e,e)]) (o:=some .dead) (asF:=[.ref 0, .d (.str x), .fi CPos fs]) (vs:=[.ref e,v1,v2]) (vsF:=[.ref e,v1,v2]) (Ξ:=Ξ)
  (Q:=fun r s'=>r= .none∧ErrP c k σ o (.ref e) s')
  F hroom okU R2.und (.inr ⟨_,_,rfl,rfl,List.mem_append_right _ (.head _),trivial⟩) hb
  (.cons (a:= .ref 0) ⟨_,rfl,rfl⟩ (.cons (a:= .d (.str x)) (hv1.mono nx2.g) (.cons (a:= .fi CPos fs) (FI.mono nx2.g hv2) .nil))) rfl
  fun env s' ok' R' hsc keep=>wpAny_mono (ti_run (c:=(c.und code).sub (k.add (e,e) h' k.s.toks) env [(e,e)]) ok' R' rfl (.inl (.inr rfl)) (keep _ _ L.gx) ((congrArg (fun sc:Scope=>sc.names.lookup (Str.ofString "Exception")) hsc).trans (ti_exc _))) (fun fl s2 hh=>⟨by rw[hh.1],err_back ok R L hfs hh.2⟩) fun _ _ e=>e
theorem err_ok(hroom:c.A.depth+20≤recursionLimit∧c.A.units+1300<cLine)(ok:c.Ok)(R:Rel c σ k)(hv1:Rd k.g v1 (.str x))(hv2:FI k.g CPos fs v2)(hfs:fs.lookup 2=some (.int o)):
  wpAny (model pw c.w) c.A (call (.ref CErr) [v1,v2]) (ErrP c k σ o) (EX c Ξ) k.s:=by
 rw[show k.s=⟨k.s.heap,k.s.gens,k.s.drawn,k.s.toks,k.s.os⟩from rfl]
 refine err_call (R.kin ok) (show 2≤sizeLine by decide+kernel) ?_
 generalize hcode:Code.builtin "type.__call__" ⟨.ref CErr::[v1,v2],[]⟩=code
 have w1:code.weight=1:=by rw[←hcode];kernel_rfl
 have w2:code.cUnits=1:=by rw[←hcode];kernel_rfl
 have w3:code.envs=[]:=by rw[←hcode];kernel_rfl
 have w4:code.guards=[]:=by rw[←hcode];kernel_rfl
 have okU:(c.und code).Ok:=und_ok ok (w1▸by decide) (w2▸by decide) w3 w4 (Nat.lt_of_lt_of_le (Nat.add_lt_add_left (by decide:10<20) _) hroom.1) (Nat.lt_of_le_of_lt (Nat.add_le_add_left (by decide:1100≤1300) _) hroom.2)
 have gx:((k.s.heap.push (zcc [v1,v2])).push (zes CErr k.s.heap.objs.size)).get? (k.s.heap.objs.size+1)=some (excO none k.s.heap.objs.size #[]):=
  Heap.size_push .. ▸Heap.get?_push_size (k.s.heap.push (zcc [v1,v2])) (o:=zes CErr k.s.heap.objs.size) rfl
 have hd:k.s.heap.get? (k.s.heap.objs.size+1)=none:=Heap.get?_none_of_le (Nat.le_succ _)
 have L:LaidE c k (k.s.heap.objs.size+1) k.s.heap.objs.size ((k.s.heap.push (zcc [v1,v2])).push (zes CErr k.s.heap.objs.size)):=
  ⟨⟨fun b o e=>Heap.get?_push_of_some _ (Heap.get?_push_of_some _ e)⟩,gx,hd,fun z=>(R.zx _ z).elim fun o q=>nS (hd.symm.trans q)⟩
 refine wpAny_call (codeAny_mono (err_run (Ξ:=Ξ) ⟨?_,?_⟩ ok okU R L hv1 hv2 hfs) fun r s' z=>?_)
 ·rw[w1];exact Nat.lt_of_lt_of_le (Nat.add_lt_add_left (by decide:1+2<20) _) hroom.1
 ·rw[w2];exact Nat.lt_of_le_of_lt (Nat.add_le_add_left (by decide:1+1010≤1300) _) hroom.2
 ·cases r with
  |error e=>exact EX.ofUnd z
  |ok f=>cases f with
   |ret v=>exact z
   |_=>exact False.elim z
end
end
noncomputable def rdTest:Expr:= .BoolOp .And [.Compare (.Attribute (.Name (nm 50) ⟨488,21,488,26⟩) (nm 3) ⟨488,21,488,29⟩) [.IsNot] [.Constant .none 0 ⟨488,37,488,41⟩] ⟨488,21,488,41⟩,
 .Compare (.Constant (.int 0) 0 ⟨488,46,488,47⟩) [.LtE, .LtE] [.Attribute (.Attribute (.Name (nm 50) ⟨488,51,488,56⟩) (nm 3) ⟨488,51,488,59⟩) (nm 2) ⟨488,51,488,66⟩, .Call (.Name (Str.ofString "len") ⟨488,70,488,73⟩) [.Name (nm 45) ⟨488,74,488,78⟩] [] ⟨488,70,488,79⟩] ⟨488,46,488,79⟩] ⟨488,21,488,79⟩
noncomputable def rdRet:Stmt:= .Return (some (.IfExp rdTest (.List [] ⟨488,15,488,17⟩) (.List [.Constant (.str (Str.ofString "odd")) 0 ⟨488,86,488,91⟩] ⟨488,85,488,92⟩) ⟨488,15,488,92⟩)) ⟨488,8,488,92⟩
noncomputable def zgn:ExceptHandler:= .ExceptHandler (some (.Name (Str.ofString "ActionError") ⟨487,11,487,22⟩)) (some (nm 50)) [rdRet] ⟨487,4,488,92⟩
noncomputable def rdCall:Expr:= .Call (.Name (Str.ofString "parse_action") ⟨486,16,486,28⟩) [.Name (nm 45) ⟨486,29,486,33⟩] [] ⟨486,16,486,34⟩
noncomputable def rdTry:Stmt:= .Try [.Return (some (.List [rdCall] ⟨486,15,486,35⟩)) ⟨486,8,486,35⟩] [zgn] [] [] ⟨485,4,488,92⟩
theorem rd_body:∀P:Params,(fdX (K P) 549).body= .stmts [rdTry]:=by
 intro P;kernel_rfl
theorem rd_chk:∀P:Params,fdChkX (K P) 549 [45]=true:=by
 intro P;kernel_rfl
theorem rd_bind:∀(P:Params)(v:Value),bindArgs (fdX (K P) 549) ⟨[v],[]⟩=pure (([45].map nm).zip [v]):=by
 intro P v;kernel_rfl
theorem rd_names:∀P:Params,(fdX (K P) 549).scope.names=[(nm 45, .local),(nm 50, .local),(Str.ofString "parse_action", .globalImplicit),(Str.ofString "ActionError", .globalImplicit),(Str.ofString "len", .globalImplicit)]:=by
 intro P;kernel_rfl
theorem err_ga:∀P:Params,findIn (K P) (.ref CErr) "__getattribute__"=some (some (.builtin "BaseException.__getattribute__")):=by
 intro P;kernel_rfl
theorem err_hasDict:∀P:Params,hasDictIn (K P) CErr=true:=by
 intro P;kernel_rfl
theorem err_gat:∀P:Params,findIn (K P) (.ref CErr) "__getattr__"=some none:=by
 intro P;kernel_rfl
theorem err_isExc:∀P:Params,mroIn (K P) CErr (.type "BaseException")=some true:=by
 intro P;kernel_rfl
section
variable{w:World}{A:Around}{E:Value→Shared→Prop}{s:Shared}
theorem err_get{x:Addr}{ox:Obj}{od:Option Obj}{name:Str}{expr:Bool}{v:Value}{Q:Value→Shared→Prop}(X:(K w.params).In s.heap)(I:InstAt s.heap x ox CErr od)
  (hf:findObj (K w.params) CErr od name=some (.value v))(hh:handedIn v=true)(h:Q v {s with toks:=s.toks+1}):wpAny (model pw w) A (getAttr (.ref x) name expr) Q E s:=by
 have ht:Looks (model pw w) s.heap (typeOf (.ref x)) (.ref CErr):=I.type
 have L2:=looks_find (M:=model pw w) X I hf
 have hb:Looks (model pw w) s.heap (hookBefore (.ref CErr)) none:=looks_hook X (by rw[if_pos (show onTheHeap (.ref CErr)=true from rfl)];exact err_gat w.params)
 have sub:Looks (model pw w) s.heap (isInstance (.ref x) (.type "BaseException")) true:=ht.andThen (looks_mroIn X (err_isExc w.params))
 refine wpAny_bind (wpAny_mkText (wpAny_holding (wpAny_bind (ht _ _ _ _ (fun _ _ e=>e) (wpAny_bind (looks_findIn X (err_ga w.params) _ _ _ _ (fun _ _ e=>e) ?_))))))
 dsimp only
 rw[show(onTheHeap (.ref CErr)&&Value.builtin "BaseException.__getattribute__"==Value.builtin "object.__getattribute__")=false from by decide+kernel,if_neg (by decide)]
 refine wpAny_bind (hb _ _ _ _ (fun _ _ e=>e) (wpAny_bind (wpAny_attempt (wpAny_holding ?_))))
 unfold callGetattribute
 rw[show(expr&&onTheHeap (Value.builtin "BaseException.__getattribute__"))=false from Bool.and_false _,if_neg (by decide)]
 unfold boundAndCalled
 rw[PySem.F.attr_Exception.ga.bind]
 refine wpAny_bind (wpAny_pure ?_)
 show wpAny _ _ (call (.builtin "BaseException.__getattribute__") [.ref x, .str name s.toks]) _ _ _
 refine wpAny_call ?_
 refine codeAny_call_builtin PySem.F.attr_Exception.ga.plain PySem.F.entry_bexc_ga ?_
 refine @check_slot (model pw w) _ _ {s with toks:=s.toks+1} "BaseException.__getattribute__" "BaseException" "__getattribute__" (.ref x) [.str name s.toks] [] _ (by decide+kernel) (by decide+kernel) sub (PySem.F.args_bexc_ga (.ref x) (.str name s.toks)) ?_
 unfold Builtin.«object.__getattribute__»
 refine wpAny_bind (wpAny_of_eq (a:=(Value.ref x,[Value.str name s.toks])) rfl ?_)
 refine wpAny_bind (wpAny_of_eq (a:=name) rfl ?_)
 refine wpAny_bind (ht.here (s:={s with toks:=s.toks+1}) (wpAny_bind (L2.here (s:={s with toks:=s.toks+1}) ?_)))
 refine wpAny_pure ?_
 show wpAny _ _ (handedOut v) _ _ _
 rw[handedOut_of hh];exact wpAny_pure h
end
section
variable{c:FC}{A:Around}{E:Value→Shared→Prop}{s:Shared}
theorem name_at{M:Model}{i:Nat}{v:Value}{mm:Str→Option Value}{p:Pos}{Q:Value→Shared→Prop}(ok:c.Ok)(hi:i<nms.length)(hk:c.env.kindOf (nm i)=some .local)(hn:s.heap.Ns c.env.locals mm)(hm:mm (nm i)=some v)(q:Q v s):wpAny M A (eval (.Name (nm i) p) c.env) Q E s:=
 wpAny_Name (wpAny_loadName_local ok.kind hk hn hm q) (nm_debug i hi)
noncomputable def HG(s:Shared):G:=fun b o=>s.heap.get? b=some o
structure RdAt(c:FC)(ea:Addr)(o:Int)(x:Str)(s:Shared):Prop where
 kin:(K c.w.params).In s.heap
 top:∃mg mb,TopRead vw loose mg mb s.heap
 ns:∃mm,s.heap.Ns c.env.locals mm∧mm (nm 50)=some (.ref ea)∧∃t,mm (nm 45)=some (.str x t)
 exc:∃de vs sl,s.heap.get? ea=some ⟨.ref CErr,some de, .fields vs,sl⟩∧ErrDict (HG s) de o
theorem RdAt.tok{ea:Addr}{o:Int}{x:Str}(h:RdAt c ea o x s)(t:Nat):RdAt c ea o x {s with toks:=t}:=⟨h.kin,h.top,h.ns,h.exc⟩
structure RdSc(c:FC):Prop where
 page:c.env.kindOf (nm 45)=some .local
 err:c.env.kindOf (nm 50)=some .local
 len:c.env.kindOf (Str.ofString "len")=some .globalImplicit
 ae:c.env.kindOf (Str.ofString "ActionError")=some .globalImplicit
 pa:c.env.kindOf (Str.ofString "parse_action")=some .globalImplicit
theorem rd_at{ea:Addr}{o:Int}{x:Str}{p1 p2:Pos}{Q:Value→Shared→Prop}(ok:c.Ok)(sc:RdSc c)(h:RdAt c ea o x s)(q:∀vp t,FI (HG s) CPos [(2, .int o)] vp→Q vp {s with toks:=t}):
  wpAny (model pw c.w) A (eval (.Attribute (.Name (nm 50) p1) (nm 3) p2) c.env) Q E s:=by
 obtain⟨mm,hn,h50,h45⟩:=h.ns
 obtain⟨de,vs,sl,he,es,n,vp,d1,d2,d3⟩:=h.exc
 refine Attribute_any_ (name_at ok (by decide) sc.err hn h50 ?_) rfl
 have I:InstAt s.heap ea ⟨.ref CErr,some de, .fields vs,sl⟩ CErr (some (dictOf es n)):=⟨he,rfl,rfl,d1⟩
 have hf:findObj (K c.w.params) CErr (some (dictOf es n)) (nm 3)=some (.value vp):=by
  exact findObj_own (err_hasDict _) (List.cons.inj (List.cons.inj (errFind c.w.params)).2).1 rfl d2
 have hh:handedIn vp=true:=by obtain⟨_,_,_,_,_,rfl,_⟩:=d3;rfl
 exact err_get h.kin I hf hh (q vp _ d3)
theorem rd_off{ea:Addr}{o:Int}{x:Str}{p1 p2 p3:Pos}{Q:Value→Shared→Prop}(ok:c.Ok)(sc:RdSc c)(h:RdAt c ea o x s)(q:∀t u,Q (.int o u) {s with toks:=t}):
  wpAny (model pw c.w) A (eval (.Attribute (.Attribute (.Name (nm 50) p1) (nm 3) p2) (nm 2) p3) c.env) Q E s:=by
 refine Attribute_any_ (rd_at ok sc h fun vp t hv=>?_) rfl
 have F:=zdm (P:=c.w.params) (C:=CPos) (f:=2) rfl
 obtain⟨x',dx,sl,es,n,rfl,g1,g2,g3⟩:=hv
 obtain⟨v,l1,l2⟩:=g3 (2, .int o) (List.mem_singleton.mpr rfl)
 exact get_value (s:={s with toks:=t}) h.kin ⟨g1,rfl,rfl,g2⟩ (plainGet_of F.get).1 (zdm.found F l1) l2.handed (Rd.elI (G:=fun v=>∀t,Q v {s with toks:=t}) l2 (fun u t=>q t u) _)
theorem rd_len{ea:Addr}{o:Int}{x:Str}{p1 p2 p3:Pos}{Q:Value→Shared→Prop}(ok:c.Ok)(sc:RdSc c)(h:RdAt c ea o x s)(hx:x.length<2^62)(q:∀t u,Q (.int x.length u) {s with toks:=t}):
  wpAny (model pw c.w) A (eval (.Call (.Name (Str.ofString "len") p1) [.Name (nm 45) p2] [] p3) c.env) Q E s:=by
 obtain⟨mm,hn,h50,t,h45⟩:=h.ns
 obtain⟨mg,mb,T⟩:=h.top
 have h1:=and2 (bi_facts c.w.params .len)
 have h2:=and2 h1.1
 refine wpAny_Call_ofName (Calls.Name_function_global ok.kind sc.len (Calls.loadGlobal_builtin (by rw[ok.glob];exact T.g) (mg_none_of h.kin T.g (beq_iff_eq.mp h2.1)) (by rw[ok.blt];exact T.b) ((T.builtins _ (bne_iff_ne.mp h1.2)).trans (beq_iff_eq.mp h2.2)) ?_) (by decide+kernel))
 refine callWith_method1 (zas (x:= .loc 45 _) (r:= .nil) (name_at ok (by decide) sc.page hn h45 (spliced_none ?_))) (zap (.loc 45 _) _) (noStar .nil)
 exact len_str (by lia) (q _ _)
noncomputable def rdOut(o:Int)(x:Str):Bool:=decide (0≤o)&&decide (o≤x.length)
theorem rd_test{ea:Addr}{o:Int}{x:Str}{Q:Bool→Shared→Prop}{whole:Sem Value}(ok:c.Ok)(sc:RdSc c)(h:RdAt c ea o x s)(hx:x.length<2^62)(q:∀t,Q (rdOut o x) {s with toks:=t}):
  wpAny (model pw c.w) A (isTrue rdTest c.env whole) Q E s:=by
 unfold rdTest
 refine isTrue_and (wpAny_isTrue_Compare1 (rd_at ok sc h fun vp t hv=>?_))
 rw[eval_Constant]
 refine wpAny_pure ?_
 obtain⟨x',dx,sl,es,n,rfl,g⟩:=hv
 show wpAny _ _ (do return Value.bool (!(←isSame (.ref x') .none))) _ _ _
 refine wpAny_bind (wpAny_pure (wpAny_pure (wpAny_truthy_bool ?_)))
 rw[if_pos (show(!Value.ref x'==Value.none)=true from rfl)]
 refine isTrue_and (isTrue_chain ?_)
 rw[eval_Constant]
 refine wpAny_mkInt (test_link (rd_off ok sc (h.tok _) fun t1 u1=>le_int (wpAny_truthy_bool ?_)))
 split
 ·rename_i h1
  refine test_last (rd_len ok sc (h.tok _) hx fun t2 u2=>le_int (wpAny_truthy_bool ?_))
  have e:rdOut o x=decide (o≤(x.length:Int)):=by unfold rdOut;rw[show decide (0≤o)=true from h1,Bool.true_and]
  cases h2:decide (o≤(x.length:Int))with
  |true=>
   rw[if_pos rfl]
   refine isTrue_and_nil ?_
   have:=q t2
   rw[e,h2]at this;exact this
  |false=>
   rw[if_neg (by decide)]
   have:=q t2
   rw[e,h2]at this;exact this
 ·rename_i h1
  rw[if_neg (by decide)]
  have:=q t1
  have e:rdOut o x=false:=by unfold rdOut;rw[show decide (0≤o)=false from by simpa using h1,Bool.false_and]
  rw[e]at this;exact this
noncomputable def zc7(o:Int)(x:Str):List PyData:=if 0≤o∧o≤x.length then []else [.str (Str.ofString "odd")]
noncomputable abbrev zg7(vs:List Value):Obj:={cls:= .type "list",data:= .seq vs.toArray}
theorem rd_ret{ea:Addr}{o:Int}{x:Str}{Q:Flow→Shared→Prop}(ok:c.Ok)(sc:RdSc c)(h:RdAt c ea o x s)(hx:x.length<2^62)
  (q:∀t vs,(∀g,RdAll g vs (zc7 o x))→Q (.ret (.ref s.heap.objs.size)) {s with heap:=s.heap.push (zg7 vs),toks:=t}):
  wpAny (model pw c.w) A (execs [rdRet] c.env) Q E s:=by
 unfold rdRet
 refine wpAny_execs_cons (wpAny_Return_some (wpAny_IfExp (rd_test ok sc h hx fun t=>?_)))
 have key:rdOut o x=decide (0≤o∧o≤x.length):=by unfold rdOut;rw[Bool.decide_and]
 split
 ·rename_i h1
  have h2:0≤o∧o≤x.length:=by rw[key]at h1;simpa using h1
  refine wpAny_List (spliced_none ⟨by rw[sizeLine_eq];simp,q t [] fun g=>?_⟩)
  unfold zc7;rw[if_pos h2];exact .nil
 ·rename_i h1
  have h2:¬(0≤o∧o≤x.length):=by rw[key]at h1;simpa using h1
  refine wpAny_List (spliced_more ?_)
  rw[eval_Constant]
  refine wpAny_mkText (spliced_none ⟨by rw[sizeLine_eq];simp,q (t+1) [.str (Str.ofString "odd") t] fun g=>?_⟩)
  unfold zc7;rw[if_neg h2];exact .cons (.str _ _) .nil
end
noncomputable def FC.rd(c:FC)(k:Cs):FC:={c with k0:=⟨k.Z,[],k.s⟩,F:=c.fe.locals::c.F,m0:=fun _=>False,n0:=0,cw:=False}
section
variable{c:FC}{σ:St}{k:Cs}
theorem rd_ok(ok:c.Ok)(R:Rel c σ k):(c.rd k).Ok where
 kin:=ok.kin
 top:=ok.top
 base:=fun b o e=>by
  obtain⟨h1,h2⟩:=R.base ok b o e
  exact⟨h1,h2,fun q=>h2 (subF_Z ok R b q),fun q=>q⟩
 hd:=ok.hd
 units:=ok.units
 depth:=ok.depth
 kind:=ok.kind
 glob:=ok.glob
 blt:=ok.blt
 frames:=ok.frames
 fo:= .inr List.mem_cons_self
 fframe:=ok.fframe
 fkind:=ok.fkind
 outs:=fun e he=>by
  obtain⟨h1,L,o,h2,h3,h4,h5⟩:=ok.outs e he
  obtain⟨sl,q⟩:=R.fr L o h3 h4
  exact⟨h1,L,_,h2,List.mem_cons_of_mem _ h3,q,h5⟩
 fz:=fun b hb=>(subF_Z ok R b hb:k.Z b)
 fm:=fun b hb q=>q
 zx:=R.zx
 mz:=fun b q=>q.elim
 guards:=ok.guards
 cfresh:=fun h=>h.elim
 cellx:=ok.cellx
 fok:=fun b hb=>by
  rcases List.mem_cons.mp hb with rfl|hb
  ·exact R.floc
  ·obtain⟨ob,h1,h2⟩:=ok.fok b hb
   obtain⟨sl,q⟩:=R.fr b ob hb h1
   exact⟨_,q,h2⟩
theorem Fly.rd{m:Option Value}{o:Int}{e:Value}{s:Shared}{env:Env}(R:Rel c σ k)(f:Fly (c.sub k env []) m o e s):Fly (c.rd k) m o e s:=by
 refine⟨f.rest,fun b ob _ h e=>f.keep b ob (fun⟨_,h,_⟩=>nomatch h) h e,f.fr,?_, .inl List.mem_cons_self,f.exc.map (c:=c.sub k env []) (c':=c.rd k) (fun b h=>h.elim .inl fun⟨_,h,_⟩=>nomatch h) fun b ob g=>⟨g.1,g.2.1,fun hb=>g.2.2 (List.mem_cons_of_mem _ ((List.mem_cons.mp hb).elim (fun e=>e▸List.mem_cons_self) id))⟩⟩
 obtain⟨o,e,q⟩:=R.floc
 exact(f.fr c.fe.locals o List.mem_cons_self e).elim fun sl e'=>⟨_,e',q⟩
theorem Fly.mark{m:Option Value}{o:Int}{e:Value}{s:Shared}{A A':Around}(f:Fly {c with A:=A} m o e s):Fly {c with A:=A'} m o e s:=⟨f.rest,f.keep,f.fr,f.floc,f.lfresh,f.exc.map (c:={c with A:=A}) (c':={c with A:=A'}) (fun _ h=>h) fun _ _ h=>h⟩
structure RdEnd(c:FC)(k:Cs)(d:List PyData)(v:Value)(s:Shared):Prop where
 rest:s={k.s with heap:=s.heap,toks:=s.toks}
 keep:∀b ob,b∉c.fe.locals::c.F→k.s.heap.get? b=some ob→s.heap.get? b=some ob
 fr:∀b ob,b∈c.F→k.s.heap.get? b=some ob→∃sl,s.heap.get? b=some {ob with slots:=sl}
 val:∃l vs,v= .ref l∧k.s.heap.get? l=none∧s.heap.get? l=some (zg7 vs)∧∀g,RdAll g vs d
section
variable{x:Str}{o:Int}{e:Value}{s:Shared}{m:Option Value}{E:Value→Shared→Prop}{Q:Flow→Shared→Prop}{ea:Addr}
theorem rd_base(ok:c.Ok)(R:Rel c σ k)(f:Fly (c.rd k) m o e s):∀b ob,c.hb.get? b=some ob→s.heap.get? b=some ob:=fun b ob q=>f.keep b ob ((rd_ok ok R).base b ob q).2.2.2 ((rd_ok ok R).base b ob q).2.2.1 ((rd_ok ok R).base b ob q).1
theorem rd_at_ok{mm:Str→Option Value}{h4:Heap}{t:Nat}(ok:c.Ok)(hfe:c.fe=c.env)(R:Rel c σ k)(f:Fly (c.rd k) m o (.ref ea) s)(hs:∀b ob,b≠c.env.locals→s.heap.get? b=some ob→h4.get? b=some ob)(hn:h4.Ns c.env.locals mm)(h50:mm (nm 50)=some (.ref ea))(h45:∃t,mm (nm 45)=some (.str x t)):
  RdAt c ea o x {s with heap:=h4,toks:=t}:=by
 obtain⟨ea',oe,vs,de,h0,h1,he,h3,h4',h5,h6,h7,h8⟩:=f.exc
 cases h0
 have heL:ea≠c.env.locals:=fun q=>by
  obtain⟨ob,q1,q2⟩:=f.floc
  have e:=(show s.heap.get? ea=some ob from q.trans (congrArg Env.locals hfe).symm▸q1).symm.trans he
  exact q2 _ (Option.some.inj e▸h5)
 have base:∀b ob,c.hb.get? b=some ob→h4.get? b=some ob:=fun b ob q=>hs b ob (fun z=>((rd_ok ok R).base b ob q).2.2.1 (by show b∈c.fe.locals::c.F;rw[z,hfe];exact List.mem_cons_self)) (rd_base ok R f b ob q)
 obtain⟨mg,mb,T0⟩:=ok.top
 obtain⟨cl,dd,dt,sl⟩:=oe
 cases h3
 cases h4'
 cases h5
 exact⟨ok.kin.keeps base,⟨mg,mb,T0.keeps base⟩,⟨mm,hn,h50,h45⟩,⟨de,vs,sl,hs ea _ heL he,h7.mono fun b ob g=>hs b ob (fun q=>g.2.2 (by show b∈c.fe.locals::(c.fe.locals::c.F);rw[q,hfe];exact List.mem_cons_self)) g.1⟩⟩
theorem rd_end{h4 h6:Heap}{vs5:List Value}{t:Nat}{d:List PyData}(hfe:c.fe=c.env)(R:Rel c σ k)(f:Fly (c.rd k) m o e s)(hlL:h4.objs.size≠c.env.locals)(k4:∀b ob,b≠c.env.locals→s.heap.get? b=some ob→h4.get? b=some ob)(k6:∀b ob,b≠c.env.locals→(h4.push (zg7 vs5)).get? b=some ob→h6.get? b=some ob)(hr:∀g,RdAll g vs5 d):
  RdEnd c k d (.ref h4.objs.size) {s with heap:=h6,toks:=t}:=by
 have k5:∀b ob,b≠c.env.locals→s.heap.get? b=some ob→h6.get? b=some ob:=fun b ob n q=>k6 b ob n (Heap.get?_push_of_some _ (k4 b ob n q))
 refine⟨congrArg (fun s:Shared=>{s with heap:=h6,toks:=t}) f.rest,fun b ob n q=>k5 b ob (fun z=>n (by rw[z,hfe];exact List.mem_cons_self)) (f.keep b ob (fun h=>h) n q),fun b ob n q=>?_,h4.objs.size,vs5,rfl,?_,k6 _ _ hlL (Heap.get?_push_size _ rfl),hr⟩
 ·obtain⟨sl,q'⟩:=f.fr b ob (List.mem_cons_of_mem _ n) q
  exact⟨sl,k5 b _ (fun z=>(R.mine _ zbv R.lz).2 (z▸n)) q'⟩
 ·cases q:k.s.heap.get? h4.objs.size with
  |none=>rfl
  |some ob=>
   have lt:∃ob',h4.get? h4.objs.size=some ob':=by
    by_cases n:h4.objs.size∈c.fe.locals::c.F
    ·exact(f.fr _ ob n q).elim fun sl q'=>⟨_,k4 _ _ hlL q'⟩
    ·exact⟨_,k4 _ _ hlL (f.keep _ ob (fun h=>h) n q)⟩
   obtain⟨ob',q'⟩:=lt
   exact nS ((zbc h4).symm.trans q')
theorem rd_catch(ok:c.Ok)(hfe:c.fe=c.env)(sc:RdSc c)(hx:x.length<2^62)(R:Rel c ⟨[(45, .d (.str x))],[]⟩ k)(hm:m=none∨m=some .none∨m=some (rawInt c.fe.locals))(f:Fly (c.rd k) m o e s)
  (hQ:∀v s2,RdEnd c k (zc7 o x) v s2→Q (.ret v) s2):
  wpAny (model pw c.w) c.A (noteFrame e c.env) (fun _ s₂=>wpAny (model pw c.w) c.A (setFlight e none) (fun _ s₃=>wpAny (model pw c.w) c.A (handleBy e c.env [zgn]) Q E s₃) E s₂) E s:=by
 have okR:=rd_ok ok R
 rw[←hfe]
 refine note_ok (c:=c.rd k) okR okR.fok hm f fun s1 f1=>zdn (c:=c.rd k) (fr:=none) okR.fok f1 fun s2 f2=>?_
 rw[hfe]
 have base:=rd_base ok R f2
 obtain⟨ea,oe,vs,de,rfl,_,he,hcls,_⟩:=f2.exc
 have X:(K c.w.params).In s2.heap:=ok.kin.keeps base
 obtain⟨mg,mb,T0⟩:=ok.top
 have T:=T0.keeps base
 refine wpAny_handleBy_cons (codeAny_handlers_test (Calls.Name_function_global ok.kind sc.ae (Calls.loadGlobal_global (by rw[ok.glob];exact T.g) (mg_of X T.g (zg3 c.w.params)) ?_) (by decide+kernel))) (fun q=>nomatch q)
 refine wpAny_excMatches_sub_self (h:=s2.heap) (X _ _ (errObj c.w.params)) he hcls (by decide+kernel) (codeAny_handlers_suite_as ?_)
 have f2':Fly {c.rd k with A:=c.A.mark (some (.ref ea))} (some .none) o (.ref ea) s2:=Fly.mark (c:=c.rd k) f2
 refine zdn (c:={c.rd k with A:=c.A.mark (some (.ref ea))}) (fr:=none) okR.fok f2' fun s3 f3'=>?_
 have f3:Fly (c.rd k) (some .none) o (.ref ea) s3:=Fly.mark (c:=c.rd k) f3'
 obtain⟨mm,hn,hl⟩:=R.ns
 have hpage:∃t,mm (nm 45)=some (.str x t):=by
  obtain⟨_,v,hv,r⟩:=hl 45 (.d (.str x)) rfl
  rcases r with⟨q1,q2⟩|⟨q1,_⟩
  ·exact Rd.elT (G:=fun v=>mm (nm 45)=some v→∃t,mm (nm 45)=some (.str x t)) hv (fun t e=>⟨t,e⟩) q2
  ·exact nomatch Option.some.inj (sc.page.symm.trans q1)
 have hn3:s3.heap.Ns c.env.locals mm:=ns_slots hn fun ob q=>f3.fr _ ob (by show c.env.locals∈c.fe.locals::c.F;rw[hfe];exact List.mem_cons_self) q
 refine wpAny_storeName_local sc.err hn3 (fun h4 hn4 hs4=>?_) (by rw[ok.kind];rfl)
 refine wpAny_mono (rd_ret (s:={s3 with heap:=h4,toks:=s3.toks+1}) (Q:=fun fl s5=>∃t vs,(∀g,RdAll g vs (zc7 o x))∧fl= .ret (.ref h4.objs.size)∧s5={s3 with heap:=h4.push (zg7 vs),toks:=t}) ok sc
  (rd_at_ok ok hfe R f3 (fun b ob n q=>hs4.extBut b ob n q) hn4 (if_pos rfl) (hpage.imp fun t e=>(if_neg (by decide+kernel)).trans e)) hx fun t vs hr=>⟨t,vs,hr,rfl,rfl⟩) (fun fl s5 hh=>?_) fun _ _ q=>q
 obtain⟨t,vs5,hr,rfl,rfl⟩:=hh
 have hlL:h4.objs.size≠c.env.locals:=fun q=>hn4.elim fun ob z=>nS ((q▸zbc h4).symm.trans z.choose_spec.choose_spec.1)
 exact wpAny_nameGoes (s:={s3 with heap:=h4.push (zg7 vs5),toks:=t}) sc.err (hn4.keeps fun b ob q=>Heap.get?_push_of_some _ q) (by rw[ok.kind];rfl) fun h6 m6 hn6 hs6=>hQ _ _ (rd_end (s:=s3) (h4:=h4) (h6:=h6) (t:=t+1) hfe R f3 hlL (fun b ob n q=>hs4.extBut b ob n q) (fun b ob n q=>hs6.extBut b ob n q) hr)
end
end
section
variable{c:FC}{σ:St}{k:Cs}
noncomputable def rdPost(Φ:AV→Prop)(a:AV)(_:Option AO):Prop:=match a with
 | .d y=>Φ (.d (.list [y]))
 |_=>False
theorem rd_fd(P:Params):∃ob fd,FdAtG P 549 [45] [rdTry] ob fd∧(∀s v,BindsTo s fd ⟨[v],[]⟩ (([45].map nm).zip [v]))∧fd.scope.names=[(nm 45, .local),(nm 50, .local),(Str.ofString "parse_action", .globalImplicit),(Str.ofString "ActionError", .globalImplicit),(Str.ofString "len", .globalImplicit)]:=by
 obtain⟨ob,F⟩:=fd_atX (rd_chk P) (rd_body P)
 exact⟨ob,fdX (K P) 549,F,fun s v=> @BindsTo.of_eq s (fdX (K P) 549) ⟨[v],[]⟩ (([45].map nm).zip [v]) (rd_bind P v),rd_names P⟩
section
variable{x:Str}{Φ:AV→Prop}{env:Env}{s' s2:Shared}{k2:Cs}{v:Value}
theorem read_loc(R':Rel (c.sub k env []) σ (k.enter env [] s')):k.s.heap.get? env.locals=none:=(R'.mine _ zbv R'.lz).1.elim (fun⟨_,q,_⟩=>nomatch q) id
theorem read_after{σ':St}{d:List PyData}(ok:c.Ok)(R:Rel c σ k)(R':Rel (c.sub k env []) σ' (k.enter env [] s'))(RE:RdEnd (c.sub k env []) (k.enter env [] s') d v s2):After c k ⟨k.Z,k.r,s2⟩ (fun _=>False) (c.fe.locals::c.F):=by
 have hl:=read_loc R'
 have keep:∀b o,b∉c.fe.locals::c.F→k.s.heap.get? b=some o→s2.heap.get? b=some o:=fun b o h2 e=>
  RE.keep b o (fun hb=>(List.mem_cons.mp hb).elim (fun q=>nS (hl.symm.trans (q▸e))) h2) (R'.keep b o (fun⟨_,q,_⟩=>nomatch q) h2 e)
 have fr:∀b o,b∈c.fe.locals::c.F→k.s.heap.get? b=some o→∃sl,s2.heap.get? b=some {o with slots:=sl}:=fun b o h1 e=>by
  obtain⟨sl,q⟩:=R'.fr b o h1 e
  exact(RE.fr b _ h1 q).elim fun sl q=>⟨sl,q⟩
 exact⟨rfl,RE.rest.trans (congrArg (fun s:Shared=>{s with heap:=s2.heap,toks:=s2.toks}) R'.rest),fun b hb=>(List.mem_cons.mp hb).elim (fun e=>ok.fo.elim (fun q=> .inr ⟨e,q⟩) fun q=> .inl (e▸q)) .inl,fun _ h=>h.elim,fun b o _=>keep b o,fr,fun _ z=>z,
  fun b z=>(R.zx b z).elim fun o e=>(Classical.em (b∈c.fe.locals::c.F)).elim (fun h=>(fr b o h e).elim fun sl q=>⟨_,q⟩) fun h=>⟨o,keep b o h e⟩,fun _=> .inl⟩
theorem read_bad{σ':St}{i:Int}(ok:c.Ok)(R:Rel c σ k)(R':Rel (c.sub k env []) σ' (k.enter env [] s'))(keep:∀b o,k.s.heap.get? b=some o→s'.heap.get? b=some o)(hi:Φ (.d (.list (zc7 i x))))(RE:RdEnd (c.sub k env []) (k.enter env [] s') (zc7 i x) v s2):Post c k (fun a σ'=>Φ a∧σ'=σ) v s2:=by
 have A:=read_after ok R R' RE
 obtain⟨l,vs,rfl,l1,l2,l3⟩:=RE.val
 exact⟨.d (.list (zc7 i x)),σ,⟨k.Z,k.r,s2⟩,rfl,⟨hi,rfl⟩,A.nx ok R,R.after0 ok A fun _ _ h=>h, .list ⟨l2,fun z=>(R.zx l z).elim fun o e=>nS ((show s'.heap.get? l=none from l1).symm.trans (keep l o e))⟩ rfl rfl (l3 _)⟩
theorem read_good{σ':St}{env2:Env}{σ2:St}{a:AV}(ok:c.Ok)(ok':(c.sub k env []).Ok)(R:Rel c σ k)(R':Rel (c.sub k env []) σ' (k.enter env [] s'))(q:rdPost Φ a (outO none σ2))(R2:Rel ((c.sub k env []).sub (k.enter env [] s') env2 []) σ2 k2)(hv2:VR k2.g k2.r a v):
  Post c k (fun a σ'=>Φ a∧σ'=σ) (.ref k2.s.heap.objs.size) {k2.s with heap:=k2.s.heap.push {cls:= .type "list",data:= .seq #[v]}}:=by
 cases a with
 |d y=>
  have R3:=(zd1 (c:=c.sub k env []) ok' R' R2).2
  have hv3:VR ((k.enter env [] s').leave k2).g ((k.enter env [] s').leave k2).r (.d y) v:=Rd.mono (zei R2) hv2
  obtain⟨a',σ4,k4,e4,rfl,nx4,R4,hv4⟩:=tup_ok (isT:=false) (Φ:=fun a _=>a= .d (.list [y])) ok' R3 (.cons hv3 .nil) rfl rfl
  obtain⟨nx5,R5⟩:=zd1 ok R R4
  exact⟨.d (.list [y]),σ,k.leave k4,e4,⟨q,rfl⟩,nx5,R5,Rd.mono (zei R4) hv4⟩
 |_=>exact False.elim q
theorem read_try{m:Nat}{Ξ:Int→Prop}(IH:∀c',Room m c'.A→Calls1 (CSn m) c')(hroom:Room (m+2) c.A)(ok:c.Ok)(ok':(c.sub k env []).Ok)(R:Rel c σ k)(R':Rel (c.sub k env []) ⟨[(45, .d (.str x))],[]⟩ (k.enter env [] s'))(sc:RdSc (c.sub k env []))(hx:x.length<2^62)(keep:∀b o,k.s.heap.get? b=some o→s'.heap.get? b=some o)
  (hao:zcm 9 [AV.d (.str x)].length=true∧zdl 9 none=true)(h:runB (CSn m) 9 [.d (.str x)] none (rdPost Φ) fun i=>Φ (.d (.list (zc7 i x)))):wpAny (model pw c.w) (c.A.deeper env) (execs [rdTry] env) (fun fl s2=>Post c k (fun a σ'=>Φ a∧σ'=σ) (match fl with| .ret v=>v|_=> .none) s2) (EX (c.sub k env []) Ξ) s':=by
 have f:=and2 (List.all_eq_true.mp (fn_facts c.w.params) 9 (by decide))
 refine wpAny_execs_cons (wpAny_Try_except (wpAny_execs_cons (wpAny_Return_some (wpAny_List (spliced_more ?_)))))
 unfold rdCall
 refine wpAny_Call_ofName (zb8 (c:=c.sub k env []) ok' R' (v:= .ref (fadr 9)) (beq_iff_eq.mp f.1) sc.pa (zho (i:=9) rfl) ?_)
 refine callWith_K (R'.kin ok') f.2 (zas (x:= .loc 45 _) (r:= .nil) (zb1 (c:=c.sub k env []) ok' R' rfl fun v hv=>spliced_none ⟨R'.kin ok',?_⟩)) (zap (.loc 45 _) _) (noStar .nil)
 refine wpAny_call (codeAny_mono (run_okCE (c:=c.sub k env []) (k:=k.enter env [] s') (f:=9) (n:=m) (ps:=[]) (o:=none) IH (hroom.deeper (env:=env)).sub ok' R' (.inl ⟨rfl,rfl⟩) (.cons (a:= .d (.str x)) hv .nil) hao (Φ:=rdPost Φ) h
  (E:=fun e s₁=>wpAny (model pw c.w) (c.A.deeper env) (noteFrame e env) (fun _ s₂=>wpAny (model pw c.w) (c.A.deeper env) (setFlight e none) (fun _ s₃=>wpAny (model pw c.w) (c.A.deeper env) (handleBy e env [zgn]) (fun fl s2=>∃v,fl= .ret v∧Post c k (fun a σ'=>Φ a∧σ'=σ) v s2) (EX (c.sub k env []) Ξ) s₃) (EX (c.sub k env []) Ξ) s₂) (EX (c.sub k env []) Ξ) s₁)
  (Q:=fun v s₁=>Post c k (fun a σ'=>Φ a∧σ'=σ) (.ref s₁.heap.objs.size) {s₁ with heap:=s₁.heap.push {cls:= .type "list",data:= .seq #[v]}})
  (fun env2 e o3 s3 hx3 ok2 f3=>rd_catch (c:=c.sub k env []) (k:=k.enter env [] s') ok' rfl sc hx R' (.inr (.inl rfl)) (f3.rd R') fun v s2 RE=>⟨v,rfl,read_bad ok R R' keep hx3 RE⟩)
  fun env2 a σ2 k2 v q hp R2 hx2 hv2=>read_good ok ok' R R' q R2 hv2) fun r s z=>?_)
 cases r with
 |error e=>exact wpAny_mono z (fun _ _ z=>wpAny_mono z (fun _ _ z=>wpAny_mono z (fun fl s hh=>by obtain⟨v,rfl,hp⟩:=hh;exact hp) fun _ _ e=>e) fun _ _ e=>e) fun _ _ e=>e
 |ok fl=>cases fl with
  |ret v=>exact spliced_none ⟨show 1≤sizeLine by decide+kernel,z⟩
  |_=>exact False.elim z
theorem one_v{g:G}{r}{a:AV}{vs:List Value}(h:VRs g r [a] vs):∃v,vs=[v]∧VR g r a v:=h.el fun v _ x n=>n.el0 ⟨v,rfl,x⟩
theorem read_core{n:Nat}{vs:List Value}{Ξ:Int→Prop}(IH:∀m≤n,∀c',Room m c'.A→Calls1 (CSn m) c')(hroom:Room (n+1) c.A)(ok:c.Ok)(R:Rel c σ k)(hv:VRs k.g [] [.d (.str x)] vs)(hx:x.length<2^62)
  (h:CSn n 9 [.d (.str x)] none (rdPost Φ) fun i=>Φ (.d (.list (zc7 i x)))):
  wpAny (model pw c.w) c.A (call (.ref 549) vs) (Post c k fun a σ'=>Φ a∧σ'=σ) (EX c Ξ) k.s:=by
 cases n with
 |zero=>exact h.elim
 |succ n=>
 obtain⟨m,hm,_,hao,h3⟩:=CSn_run (by decide) h
 obtain⟨v0,rfl,_⟩:=one_v hv
 obtain⟨ob,fd,F,hbind,nmsE⟩:=rd_fd c.w.params
 refine wpAny_call (run_coreG (c:=c) (k:=k) (ps:=[]) (o:=none) (asF:=[.d (.str x)]) (vs:=[v0]) (vsF:=[v0]) F (Room.near hroom.sub) ok R (.inl ⟨rfl,rfl⟩) (hbind _ _) hv rfl fun env s' ok' R' hsc keep=>?_)
 have kd:∀n,env.kindOf n=List.lookup n _:=fun n=>(congrArg (fun sc:Scope=>sc.names.lookup n) hsc).trans (congrArg (List.lookup n) nmsE)
 exact read_try (fun c' r=>IH m (Nat.le_trans hm (Nat.le_succ n)) c' r) (hroom.less (Nat.succ_le_succ (Nat.succ_le_succ hm))) ok ok' R R' ⟨(kd _).trans rfl,(kd _).trans rfl,(kd _).trans rfl,(kd _).trans rfl,(kd _).trans rfl⟩ hx keep hao h3
end
end
section
variable{c:FC}{σ:St}{k:Cs}
theorem CSn_read{n:Nat}{as:List AV}{o:Option AO}{Φ:AV→Option AO→Prop}{Ξ:Int→Prop}(h:CSn (n+1) 24 as o Φ Ξ):∃x,as=[.d (.str x)]∧x.length<2^62∧CSn n 9 [.d (.str x)] none (rdPost fun a=>Φ a none) fun i=>Φ (.d (.list (zc7 i x))) none:=by
 unfold CSn at h
 obtain⟨a,rfl,h1⟩:=on1.inv (show on1 as _ from h)
 obtain⟨x,rfl,h2⟩:=onT.inv h1
 exact⟨x,rfl,h2.1,h2.2⟩
theorem read_ok{n:Nat}{as:List AV}{vs:List Value}{Φ:AV→St→Prop}{Ξ:Int→Prop}(IH:∀m≤n,∀c',Room m c'.A→Calls1 (CSn m) c')(hroom:Room (n+1) c.A)(ok:c.Ok)(R:Rel c σ k)
  (hv:VRs k.g k.r as vs)(h:acall (CSn (n+1)) 24 as σ Φ Ξ):wpAny (model pw c.w) c.A (call (.ref (fadr 24)) vs) (Post c k Φ) (EX c Ξ) k.s:=by
 rcases zda h with⟨hr,h⟩|⟨i,o,hr,ho,h⟩
 ·obtain⟨x,rfl,hx,h⟩:=CSn_read h
  exact wpAny_mono (read_core (Φ:=fun a=>Φ a σ) IH hroom ok R (hv.plain (zd4 hr)) hx h) (fun v s' hh=>Post.mono (fun a σ' z=>z.2▸z.1) hh) fun _ _ e=>e
 ·obtain⟨x,e,_⟩:=CSn_read h
  obtain⟨a,rfl⟩:=List.length_eq_one_iff.mp ((List.length_map _).symm.trans (congrArg List.length e))
  have e1:=(List.cons.inj e).1
  cases a with
  |d=>exact nomatch (show([]:List Nat)=[i]from hr)
  |ref=>exact AV.noConfusion (show AV.ref 0=_ from e1)
  |_=>exact AV.noConfusion e1
theorem calls_ok:∀n,∀c,Room n c.A→Calls1 (CSn n) c:=by
 intro n
 induction n using Nat.strongRecOn with
 |_ n ih=>
 intro c hroom
 have herr:∀{x:Str}{fs:List (Nat×PyData)}{o:Int}{v1 v2:Value}{σ k}{Ξ:Int→Prop},c.Ok→Rel c σ k→Rd k.g v1 (.str x)→FI k.g CPos fs v2→fs.lookup 2=some (.int o)→
  wpAny (model pw c.w) c.A (call (.ref CErr) [v1,v2]) (fun v s'=>Post c k (fun a σ'=>a= .err o∧σ'=σ) v s'∧∃ea,v= .ref ea∧k.s.heap.get? ea=none) (EX c Ξ) k.s:=
  fun ok R h1 h2 h3=>err_ok ⟨Nat.le_trans (Nat.add_le_add_right (Nat.le_add_right _ n) 20) hroom.1,Nat.lt_of_le_of_lt (Nat.add_le_add (Nat.le_add_right _ _) (by decide:1300≤1400)) hroom.2⟩ ok R h1 h2 h3
 cases n with
 |zero=>
  refine⟨fun ok R hv h=>?_,fun hc ok R hv h=>?_,herr,fun ok R hv h=>?_⟩
  ·rcases zda h with⟨_,h⟩|⟨_,_,_,_,h⟩<;>exact False.elim h
  ·exact False.elim (actor_inv h).2
  ·rcases zda h with⟨_,h⟩|⟨_,_,_,_,h⟩<;>exact False.elim h
 |succ n=>
  have IH:∀m≤n,∀c',Room m c'.A→Calls1 (CSn m) c':=fun m hm=>ih m (Nat.lt_succ_of_le hm)
  refine⟨fun{f as vs σ k Φ Ξ} ok R hv h=>?_,fun hc ok R hv h=>ctor_ok IH hroom hc ok R hv h,herr,fun ok R hv h=>refuse_ok IH hroom ok R hv h⟩
  by_cases hf:f=24
  ·subst hf
   exact read_ok IH hroom ok R hv h
  ·exact fn_ok IH hroom (by cases q:Nat.beq f 24 with|false=>rfl|true=>exact absurd (Nat.eq_of_beq_eq_true q) hf) ok R hv h
end
theorem snd_inj{α β:Type}{l:List (α×β)}(h:(l.map (·.2)).Nodup){x y:α}{a:β}(hx:(x,a)∈l)(hy:(y,a)∈l):x=y:=by
 induction l with
 |nil=>exact nomatch hx
 |cons p r ih=>
  have n:=List.nodup_cons.mp h
  rcases List.mem_cons.mp hx with rfl|hx<;>rcases List.mem_cons.mp hy with e|hy
  ·exact(congrArg Prod.fst e).symm
  ·exact absurd (List.mem_map_of_mem (f:=(·.2)) hy) n.1
  ·exact absurd (e▸List.mem_map_of_mem (f:=(·.2)) hx) n.1
  ·exact ih n.2 hx hy
theorem Rel.setCell{c:FC}{σ:St}{k:Cs}(ok:c.Ok)(R:Rel c σ k){i:Nat}{a:AV}{v:Value}{ca:Addr}{h':Heap}{t:Nat}(hcw:c.cw)(hk:c.env.kindOf (nm i)=some .cell)(hc:c.env.cells.lookup (nm i)=some ca)(hi:i<nms.length)
  (hcell:h'.IsCell ca (some v))(hs:Heap.SameBut ca k.s.heap h')(hv:VR k.g k.r a v):Rel c (σ.set i a) (k.at h' t):=by
 have x:=But.of hs
 have hm:=zak hc
 have nx:=x.nx (R.cz _ hm) t
 have nd':=List.nodup_cons.mp R.nodup
 have nd2:=List.nodup_append.mp nd'.2
 have hmm:ca∈c.env.cells.map (·.2):=List.mem_map_of_mem (f:=(·.2)) hm
 have ncl:ca≠c.env.locals:=fun q=>nd'.1 (q▸List.mem_append_left _ hmm)
 have hzx:∃o,h'.get? ca=some o:=hcell.imp fun _ h=>h.1
 have ne:∀b o,c.k0.s.heap.get? b=some o→b≠ca:=fun b o e q=>nS ((ok.cfresh hcw _ hm).1.symm.trans (q▸e))
 have nF:∀b∈c.F,b≠ca:=fun b hb=>(ok.fok b hb).elim fun ob e=>ne b ob e.1
 refine⟨congrArg (fun s:Shared=>{s with heap:=h',toks:=t}) R.rest,fun b o a1 a2 e=>x.keep b o (ne b o e) (R.keep b o a1 a2 e),fun b o hb e=>(R.fr b o hb e).imp fun sl q=>x.keep _ _ (nF b hb) q,R.z0,fun b z=>x.ex hzx (R.zx b z),R.zup,?_,R.lz,R.cz,fun j o e=>(R.obj j o e).imp fun p h=>⟨h.1,h.2.nx nx id fun o=>x.keep _ o fun q=>nd2.2.2 ca hmm p.2 (List.mem_map_of_mem (f:=(·.2)) (List.mem_of_getElem? h.1)) q.symm⟩,R.objn,fun p hp=>x.ex hzx (R.rx p hp),R.nodup,R.mine,R.floc.imp fun o h=>⟨x.keep _ _ (fun z=>ok.fo.elim (fun hf=>ncl (z▸hf)) fun hf=>nF _ hf z) h.1,h.2⟩,R.new⟩
 obtain⟨mm,hn,hl⟩:=R.ns
 refine⟨mm,hn.at' fun o e=>x.keep _ o (Ne.symm ncl) e,fun j b e=>?_⟩
 by_cases hj:j=i
 ·subst hj
  cases AV.opt_some ((St.get_set_self σ j a).symm.trans e)
  exact⟨hi,v,nx.vr hv, .inr ⟨hk,ca,hc,hcell⟩⟩
 ·have h:=hl j b ((St.get_set_ne σ a hj).symm.trans e)
  exact h.nx nx fun b' _ q=>zck fun o e=>x.keep _ o (fun z=>hj (nm_inj j h.1 i hi (snd_inj nd2.1 (z▸zak q) hm))) e
end Mine
namespace Mine
noncomputable def tx(l:List Nat):Str:=⟨l.toArray⟩
@[simp] theorem zah(l:List Nat):(tx l).cps.toList=l:=by simp[tx]
theorem zcb(l:List Nat):(tx l).length=l.length:=by simp[tx,Str.length]
theorem tx_one(c:Nat):(⟨#[c]⟩:Str)=tx [c]:=rfl
theorem tx_arr(l:List Nat):(⟨l.toArray⟩:Str)=tx l:=rfl
theorem tx_inj{a b:List Nat}:tx a=tx b↔a=b:=⟨fun h=>by have:=congrArg (·.cps.toList) h;simpa using this,fun h=>h▸rfl⟩
theorem zhj(a b:List Nat):(tx a==tx b)=(a==b):=by
 rw[Bool.eq_iff_iff,beq_iff_eq,beq_iff_eq,tx_inj]
theorem zab(a b:List Nat):tx a++tx b=tx (a++b):=by
 show Str.append _ _=_
 simp[tx,Str.append]
noncomputable def callChk(f n:Nat)(o:Option AO):Bool:=zcm f n&&(zdl f o&&(!(Nat.beq f 24)&& !(Nat.ble 200 f)))
@[irreducible] def Cal(n:Nat):CS:=CSn n
theorem Cal_eq(n:Nat):Cal n=CSn n:=by unfold Cal;rfl
noncomputable def endP(o:Option AO)(Φ:AV→Option AO→Prop)(σ:St):Prop:=match o with
 |none=>Φ (.d .none) none
 |some _=>match σ.obj with
  | []=>Φ (.d .none) none
  |x::_=>Φ (.d .none) (some x)
noncomputable def retP(o:Option AO)(Φ:AV→Option AO→Prop)(a:AV)(σ:St):Prop:=onB (AV.plain a) (match o with
 |none=>Φ a none
 |some _=>match σ.obj with
  | []=>Φ a none
  |x::_=>Φ a (some x))
theorem endP_eq(o:Option AO)(Φ:AV→Option AO→Prop):endP o Φ=fun σ=>Φ (.d .none) (outO o σ):=by
 funext σ
 unfold endP outO
 cases o with
 |none=>rfl
 |some x=>
  obtain⟨l,ob⟩:=σ
  cases ob<;>rfl
theorem onB_eq(b:Bool)(p:Prop):onB b p=(b=true∧p):=by
 cases b
 ·exact propext ⟨False.elim,fun h=>by cases h.1⟩
 ·exact propext ⟨fun h=>⟨rfl,h⟩,fun h=>h.2⟩
theorem retP_eq(o:Option AO)(Φ:AV→Option AO→Prop):retP o Φ=fun a σ=>AV.plain a=true∧Φ a (outO o σ):=by
 funext a σ
 unfold retP outO
 rw[onB_eq]
 cases o with
 |none=>rfl
 |some x=>
  obtain⟨l,ob⟩:=σ
  cases ob<;>rfl
theorem zaa{n f:Nat}{as:List AV}{o:Option AO}{Φ:AV→Option AO→Prop}{Ξ:Int→Prop}(hc:callChk f as.length o=true)
  (h:(St.mk (lay ((prmF f).zip (fullA f as)) (lcF f)) o.toList).fc fun σ=>awBs (Cal n) (bodyF f) σ (endP o Φ) (retP o Φ) Ξ):Cal (n+1) f as o Φ Ξ:=by
 unfold callChk at hc
 simp only[Bool.and_eq_true,Bool.not_eq_true']at hc
 obtain⟨h1,h2,h3,h4⟩:=hc
 rw[St.fc_eq,endP_eq,retP_eq,Cal_eq]at h
 rw[Cal_eq]
 unfold CSn
 rw[h3,h4]
 exact⟨⟨h1,h2⟩,h⟩
noncomputable def At(t:List Nat)(j:Nat)(r:List Nat):Prop:=j≤t.length∧t.drop j=r
theorem At.cons{t r:List Nat}{i c:Nat}(h:At t i (c::r)):At t (i+1) r∧t[i]?=some c∧i<t.length:=by
 obtain⟨h1,h2⟩:=h
 have hl:i<t.length:=by
  have:=congrArg List.length h2
  rw[List.length_drop,List.length_cons]at this
  lia
 have e:=List.drop_eq_getElem_cons hl
 rw[h2]at e
 injection e with e1 e2
 exact⟨⟨hl,e2.symm⟩,by rw[List.getElem?_eq_getElem hl,e1],hl⟩
theorem At.nil{t:List Nat}{i:Nat}(h:At t i []):i=t.length:=by
 obtain⟨h1,h2⟩:=h
 have:=congrArg List.length h2
 rw[List.length_drop,List.length_nil]at this
 lia
theorem At.len{t r:List Nat}{i:Nat}(h:At t i r):i+r.length=t.length:=by
 obtain⟨h1,h2⟩:=h
 rw[←h2,List.length_drop];lia
theorem At.app{t a r:List Nat}{i:Nat}(h:At t i (a++r)):At t (i+a.length) r:=by
 have hl:=h.len
 obtain⟨h1,h2⟩:=h
 rw[List.length_append]at hl
 refine⟨by lia,?_⟩
 rw[←List.drop_drop,h2,List.drop_left]
theorem At.cut{t a r:List Nat}{i:Nat}(h:At t i (a++r)):(t.take (i+a.length)).drop i=a:=by
 rw[List.drop_take,h.2,Nat.add_sub_cancel_left,List.take_left]
theorem At.start(t:List Nat):At t 0 t:=⟨Nat.zero_le _,rfl⟩
theorem At.cut2{t r:List Nat}{i m:Nat}(h:At t i r):(t.take (i+m)).drop i=r.take m:=by
 rw[List.drop_take,h.2,Nat.add_sub_cancel_left]
noncomputable def cur(t:List Nat)(i:Nat):AO:= .inst 222 [(1, .d (.str (tx t))),(3, .d (.int i))]
section
variable{n:Nat}{t r:List Nat}{i:Nat}{Φ:AV→Option AO→Prop}{Ξ:Int→Prop}
theorem n62{a:Nat}(h:a≤2^20):a<2^62:=Nat.lt_of_le_of_lt h (by decide)
theorem i62{a m:Nat}(h:a<m)(hm:m≤2^20):(0:Int)≤a∧(a:Int)<2^62:=⟨Int.natCast_nonneg a,Int.ofNat_lt.mpr (n62 (Nat.le_trans (Nat.le_of_lt h) hm))⟩
theorem nn{a b:Nat}(h:decide ((a:Int)<(b:Int))=true):a<b:=Int.ofNat_lt.mp (of_decide_eq_true h)
theorem nl{a b:Nat}(h:decide ((a:Int)<(b:Int))=false):b≤a:=Nat.le_of_not_lt fun q=>of_decide_eq_false h (Int.ofNat_lt.mpr q)
theorem ml{a b:Nat}(h:decide ((a:Int)≤(b:Int))=true):a≤b:=Int.ofNat_le.mp (of_decide_eq_true h)
theorem mn{a b:Nat}(h:decide ((a:Int)≤(b:Int))=false):b<a:=Nat.lt_of_not_le fun q=>of_decide_eq_false h (Int.ofNat_le.mpr q)
theorem tx_at{t:List Nat}{j:Nat}(h:j<t.length):(tx t).cps.toList[((j:Int)).toNat]?=some t[j]:=by rw[zah];exact List.getElem?_eq_getElem h
theorem zgj(hl:t.length≤2^20)(h:Φ (.d (.bool (decide ((t.length:Int)≤i)))) (some (cur t i))):Cal (n+1) 100 [.ref 0] (some (cur t i)) Φ Ξ:=by
 refine zaa rfl ?_
 refine And.intro (n62 hl) ?_
 exact h
theorem c_take(hl:t.length≤2^20)(h1:t.length≤i→Φ (.d (.str (Str.ofString ""))) (some (cur t i)))(h2:∀c,t[i]?=some c→Φ (.d (.str ⟨#[c]⟩)) (some (cur t (i+1)))):Cal (n+2) 103 [.ref 0] (some (cur t i)) Φ Ξ:=by
 refine zaa rfl ?_
 refine zgj hl ?_
 refine br_i (fun e=>?_) (fun e=>?_)
 ·exact h1 (ml e)
 ·have hi:=mn e
  refine Exists.intro t[i] (And.intro ⟨(i62 hi hl).1,(i62 hi hl).2,tx_at hi⟩ ?_)
  exact h2 _ (List.getElem?_eq_getElem hi)
theorem c_peek(a:Nat)(hl:t.length≤2^20)(h1:t[i+a]?=none→Φ (.d (.str (Str.ofString ""))) (some (cur t i)))(h2:∀c,t[i+a]?=some c→Φ (.d (.str ⟨#[c]⟩)) (some (cur t i))):Cal (n+1) 101 [.ref 0, .d (.int a)] (some (cur t i)) Φ Ξ:=by
 refine zaa rfl ?_
 refine And.intro (n62 hl) ?_
 refine br_i (fun e=>?_) (fun e=>?_)
 ·have hi:i+a<t.length:=nn e
  refine Exists.intro t[i+a] (And.intro ⟨(i62 hi hl).1,(i62 hi hl).2,tx_at hi⟩ ?_)
  exact h2 _ (List.getElem?_eq_getElem hi)
 ·have hi:t.length≤i+a:=nl e
  exact h1 (List.getElem?_eq_none hi)
theorem zhh(hl:t.length≤2^20)(h1:t[i]?=none→Φ (.d (.str (Str.ofString ""))) (some (cur t i)))(h2:∀c,t[i]?=some c→Φ (.d (.str ⟨#[c]⟩)) (some (cur t i))):Cal (n+1) 101 [.ref 0] (some (cur t i)) Φ Ξ:=by
 refine zaa rfl ?_
 refine And.intro (n62 hl) ?_
 refine br_i (fun e=>?_) (fun e=>?_)
 ·have hi:i<t.length:=nn (a:=i+0) e
  refine Exists.intro t[i] (And.intro ⟨(i62 hi hl).1,(i62 hi hl).2,tx_at hi⟩ ?_)
  exact h2 _ (List.getElem?_eq_getElem hi)
 ·have hi:t.length≤i:=nl (a:=i+0) e
  exact h1 (List.getElem?_eq_none hi)
end
noncomputable def inS(s:Str)(c:Nat):Bool:=s.cps.toList.contains c
section
variable{n:Nat}{t r:List Nat}{i:Nat}{Φ:AV→Option AO→Prop}{Ξ:Int→Prop}
theorem slc{a b:Nat}{x:List Nat}(h:x.length≤2^20):(0:Int)≤a∧(0:Int)≤b∧(tx x).length≤sizeLine:=⟨Int.natCast_nonneg a,Int.natCast_nonneg b,Nat.le_trans (Nat.le_of_eq (zcb x)) (Nat.le_trans h (by rw[sizeLine_eq];decide))⟩
theorem cuts(a b:Nat):(⟨(((tx t).cps.toList.take ((b:Nat):Int).toNat).drop (a:Int).toNat).toArray⟩:Str)=tx ((t.take b).drop a):=by rw[zah];rfl
theorem c_starts(w:Str)(hl:t.length≤2^20)(hw:w.length≤2^20)(a:At t i r)(h:∀b,b=(tx (r.take w.length)==w)→Φ (.d (.bool b)) (some (cur t i))):Cal (n+1) 102 [.ref 0, .d (.str w)] (some (cur t i)) Φ Ξ:=
 zaa rfl (And.intro (n62 hw) (And.intro (slc (a:=i) (b:=i+w.length) hl) (h _ (by rw[←a.cut2,←cuts i (i+w.length)];rfl))))
theorem c_skip(w:List Nat)(hl:t.length≤2^20)(hw:w.length≤2^20)(a:At t i r)(h0:(∀r',r≠w++r')→Φ (.d (.bool false)) (some (cur t i)))(h1:∀r',r=w++r'→At t (i+w.length) r'→Φ (.d (.bool true)) (some (cur t (i+w.length)))):Cal (n+2) 104 [.ref 0, .d (.str (tx w))] (some (cur t i)) Φ Ξ:=by
 refine zaa rfl (c_starts (tx w) hl (zcb w▸hw) a fun b hb=>?_)
 rw[zcb,zhj]at hb
 refine br_i (fun e=>?_) (fun e=>?_)
 ·refine h0 fun r' hr=>?_
  rw[hr,List.take_left]at hb
  cases b
  ·exact Bool.noConfusion (hb.trans (beq_self_eq_true w))
  ·exact Bool.noConfusion e
 ·have hr:w++r.drop w.length=r:=by
   have h:=List.take_append_drop w.length r
   cases b
   ·exact Bool.noConfusion e
   ·rwa [beq_iff_eq.mp hb.symm]at h
  exact And.intro (n62 (zcb w▸hw)) (h1 _ hr.symm (At.app (a:=w) (r:=r.drop w.length) (by rw[hr];exact a)))
theorem tw_all{s:Str}{y:List Nat}(hy:∀c y',y=c::y'→inS s c=false):∀{x:List Nat},x.all (inS s)=true→(x++y).takeWhile (inS s)=x∧(x++y).dropWhile (inS s)=y
 | [],_=>match y,hy with
  | [],_=>⟨rfl,rfl⟩
  |c::y',hy=>by rw[List.nil_append,List.takeWhile_cons,List.dropWhile_cons,hy c y' rfl];exact⟨rfl,rfl⟩
 |d::x,hx=>by
  have h1:=Bool.and_eq_true_iff.mp hx
  have ih:=tw_all hy h1.2
  rw[List.cons_append,List.takeWhile_cons,List.dropWhile_cons,h1.1]
  exact⟨congrArg (d:: ·) ih.1,ih.2⟩
theorem zdh(s:Str)(hl:t.length≤2^20)(a:At t i r)(h:At t (i+(r.takeWhile (inS s)).length) (r.dropWhile (inS s))→Φ (.d (.str (tx (r.takeWhile (inS s))))) (some (cur t (i+(r.takeWhile (inS s)).length)))):Cal (n+1) 105 [.ref 0, .d (.str s)] (some (cur t i)) Φ Ξ:=by
 have last:∀{x y},r=x++y→x.all (inS s)=true→(∀c y',y=c::y'→inS s c=false)→Φ (.d (.str ⟨(((tx t).cps.toList.take ((i+x.length:Nat):Int).toNat).drop (i:Int).toNat).toArray⟩)) (some (cur t (i+x.length))):=fun hr hx hy=>by
  have e:=tw_all hy hx
  rw[←hr]at e
  rw[cuts,At.cut (r:=_) (hr▸a)]
  rw[e.1,e.2]at h
  exact h (At.app (hr▸a))
 refine zaa rfl (Exists.intro (fun σ'=>∃x y,r=x++y∧x.all (inS s)=true∧σ'=⟨[(0, .ref 0),(11, .d (.str s)),(5, .d (.int i))],[cur t (i+x.length)]⟩) (Exists.intro (fun σ'=>match σ'.obj with
  | [.inst _ [_,(_, .d (.int j))]]=>t.length-j.toNat
  |_=>0) (And.intro ⟨[],r,rfl,rfl,rfl⟩ ?_)))
 rintro σ' ⟨x,y,hr,hx,rfl⟩
 refine And.intro (n62 hl) (br_i (fun e=>?_) (fun e=>?_))
 ·have hi:i+x.length<t.length:=nn e
  have ay:=At.app (hr▸a)
  match y,ay with
  | [],ay=>exact absurd ay.nil (Nat.ne_of_lt hi)
  |c::y',ay=>
   refine Exists.intro c (And.intro ⟨(i62 hi hl).1,(i62 hi hl).2,by rw[zah];exact ay.cons.2.1⟩ (br_i (fun e2=>?_) (fun e2=>?_)))
   ·exact And.intro ⟨x++[c],y',by rw[hr,List.append_assoc];rfl,by rw[List.all_append,hx];exact(Bool.and_true _).trans e2,by rw[List.length_append];rfl⟩ (Nat.sub_lt_sub_left hi (Nat.lt_succ_self _))
   ·exact And.intro (slc (a:=i) (b:=i+x.length) hl) (last hr hx fun c' y'' q=>by cases q;exact e2)
 ·exact And.intro (slc (a:=i) (b:=i+x.length) hl) (last hr hx fun c' y'' q=>absurd (At.cons (q▸At.app (hr▸a))).2.2 (Nat.not_lt.mpr (nl e)))
end
noncomputable abbrev sFig:Str:=Str.ofString "0123456789"
noncomputable abbrev sName:Str:=Str.ofString "abcdefghijklmnopqrstuvwxyzABCDEFGHIJKLMNOPQRSTUVWXYZ_0123456789"
noncomputable abbrev sHex:Str:=Str.ofString "0123456789abcdefABCDEF"
noncomputable abbrev sOct:Str:=Str.ofString "01234567"
noncomputable abbrev sOne:Str:=Str.ofString "+-*/%!<>=;,(){}[]"
noncomputable abbrev zag:Str:=Str.ofString " \t\n\r"
theorem os_tx(s:String):Str.ofString s=tx (Str.ofString s).cps.toList:=by
 show _=(⟨(Str.ofString s).cps.toList.toArray⟩:Str)
 simp
theorem empty_empty:(Str.ofString ""==Str.ofString "")=true:=beq_self_eq_true _
theorem one_os(c d:Nat)(s:String)(h:(Str.ofString s).cps.toList=[d]):((⟨#[c]⟩:Str)==Str.ofString s)=(c==d):=by
 rw[tx_one,os_tx,zhj,h]
 rw[Bool.eq_iff_iff,beq_iff_eq,beq_iff_eq];simp
theorem zg5(c:Nat):inS sFig c=(decide (48≤c)&&decide (c≤57)):=by
 have e:sFig.cps.toList=[48,49,50,51,52,53,54,55,56,57]:=by decide+kernel
 unfold inS
 rw[e]
 by_cases h:c<58
 ·exact(by decide+kernel:∀c<58,[48,49,50,51,52,53,54,55,56,57].contains c=(decide (48≤c)&&decide (c≤57))) c h
 ·rw[show decide (c≤57)=false from decide_eq_false fun q=>h (Nat.lt_succ_of_le q),Bool.and_false]
  exact Bool.eq_false_iff.mpr fun q=>h ((by decide+kernel:∀x∈[48,49,50,51,52,53,54,55,56,57],x<58) c (List.elem_iff.mp q))
theorem l20{a:Nat}(h:a≤4000):a≤2^20:=Nat.le_trans h (by decide)
theorem At.hd{t r:List Nat}{i c:Nat}(a:At t i r)(h:t[i]?=some c):∃r',r=c::r':=by
 cases r with
 |nil=>rw[List.getElem?_eq_none (Nat.le_of_eq a.nil.symm)]at h;cases h
 |cons d r'=>rw[a.cons.2.1]at h;exact⟨r',Option.some.inj h▸rfl⟩
theorem At.hd0{t r:List Nat}{i:Nat}(a:At t i r)(h:t[i]?=none):r=[]:=by
 cases r with
 |nil=>rfl
 |cons d r'=>rw[a.cons.2.1]at h;cases h
section
variable{n:Nat}{t r:List Nat}{i:Nat}{Φ:AV→Option AO→Prop}{Ξ:Int→Prop}
theorem zau(hl:t.length≤4000)(a:At t i r)(h:At t (i+(r.takeWhile (inS zag)).length) (r.dropWhile (inS zag))→Φ (.d .none) (some (cur t (i+(r.takeWhile (inS zag)).length)))):Cal (n+2) 106 [.ref 0, .d (.str zag)] (some (cur t i)) Φ Ξ:=
 zaa rfl (zdh (t:=t) zag (l20 hl) a h)
theorem bnt{b:Bool}(h:(!b)=true):b=false:=by cases b<;>first|rfl|exact Bool.noConfusion h
theorem bnf{b:Bool}(h:(!b)=false):b=true:=by cases b<;>first|rfl|exact Bool.noConfusion h
theorem c_name(hl:t.length≤4000)(a:At t i r)(h0:(∀c r',r=c::r'→inS sName c=false∨inS sFig c=true)→Φ (.d (.str (Str.ofString ""))) (some (cur t i)))
  (h1:∀c r',r=c::r'→inS sName c=true→inS sFig c=false→At t (i+(r.takeWhile (inS sName)).length) (r.dropWhile (inS sName))→Φ (.d (.str (tx (r.takeWhile (inS sName))))) (some (cur t (i+(r.takeWhile (inS sName)).length)))):Cal (n+2) 107 [.ref 0] (some (cur t i)) Φ Ξ:=by
 refine zaa rfl (zhh (t:=t) (l20 hl) (fun e=>?_) (fun c hc=>?_))
 ·exact h0 fun c r' q=>by rw[a.hd0 e]at q;cases q
 ·obtain⟨r',rfl⟩:=a.hd hc
  refine br_i (fun e=>h0 fun c' r'' q=>?_) (fun e1=>br_i (fun e=>h0 fun c' r'' q=>?_) (fun e2=>?_))
  ·cases q;exact .inl (bnt e)
  ·cases q;exact .inr e
  ·exact zdh (t:=t) sName (l20 hl) a fun a2=>h1 c r' rfl (bnf e1) e2 a2
noncomputable def Dig(t:List Nat):Prop:=∀j r,At t j r→(r.takeWhile (inS sFig)).length≤640
theorem tw_len{f:Nat→Bool}(a:At t i r):(r.takeWhile f).length≤t.length:=Nat.le_trans (List.takeWhile_sublist f).length_le (a.len▸Nat.le_add_left _ _)
theorem c_number(hl:t.length≤4000)(hdg:Dig t)(a:At t i r)(h0:r.takeWhile (inS sFig)=[]→Φ (.d .none) (some (cur t i)))
  (h1:∀v:Int,PySem.intText? (tx (r.takeWhile (inS sFig)))=some v→r.takeWhile (inS sFig)≠ []→At t (i+(r.takeWhile (inS sFig)).length) (r.dropWhile (inS sFig))→Φ (.d (.int v)) (some (cur t (i+(r.takeWhile (inS sFig)).length)))):Cal (n+2) 108 [.ref 0] (some (cur t i)) Φ Ξ:=by
 have hlen:=Nat.le_trans (tw_len (f:=inS sFig) a) hl
 have em:(tx (r.takeWhile (inS sFig))==Str.ofString "")=(r.takeWhile (inS sFig)==[]):=by rw[os_tx,zhj];rfl
 refine zaa rfl (zdh (t:=t) sFig (l20 hl) a fun a2=>br_i (fun e=>?_) (fun e=>And.intro (n62 (l20 hlen)) (br_i (fun e2=>?_) (fun e2=>?_))))
 ·have q:=beq_iff_eq.mp (em.symm.trans e)
  rw[q]
  exact h0 q
 ·exact absurd (nn (a:=4000) e2) (Nat.not_lt.mpr hlen)
 ·have hne:r.takeWhile (inS sFig)≠ []:=fun q=>by
   rw[em,q]at e;exact Bool.noConfusion e
  have hd:∃v,PySem.intText? (tx (r.takeWhile (inS sFig)))=some v:=by
   refine⟨_,intText_digits (fun c hc=>?_) (by rw[zah];exact hne) (Nat.le_trans hlen (by decide))⟩
   rw[zah]at hc
   have h:=List.all_eq_true.mp (List.all_takeWhile (p:=inS sFig) (l:=r)) c hc
   rw[zg5]at h
   exact(Bool.and_eq_true_iff.mp h).imp of_decide_eq_true of_decide_eq_true
  obtain⟨v,hv⟩:=hd
  exact Exists.intro v (And.intro ⟨hv,hdg _ _ a⟩ (h1 v hv hne a2))
end
noncomputable def hexv(c:Nat):Nat:=(zc4 c).getD 0
noncomputable def zao(s:Str)(base:Nat):Nat→Nat→List Nat→Nat×List Nat
 |0,v,r=>(v,r)
 |_+1,v,[]=>(v,[])
 |m+1,v,c::r=>if inS s c then zao s base m (v*base+hexv c) r else(v,c::r)
noncomputable def zbi(c:Nat):Option Int:=tab22.lookup ⟨#[c]⟩
noncomputable def zar:List Nat→Option (Nat×List Nat)
 | []=>none
 |c::r=>match zbi c with
  |some v=>some (v.toNat,r)
  |none=>if inS sOct c then some (zao sOct 8 3 0 (c::r))else match r with
   |d::_=>if c=120∧inS sHex d=true then some (zao sHex 16 2 0 r)else some (c,r)
   | []=>some (c,r)
noncomputable def pQ(e:Nat):Nat→List Nat→Option (List Nat×List Nat)
 |0,_=>none
 |_+1,[]=>none
 |m+1,c::r=>if c=e then some ([],r)else if c=92 then match zar r with
   |none=>none
   |some (d,r')=>(pQ e m r').map fun q=>(d::q.1,q.2)
  else(pQ e m r).map fun q=>(c::q.1,q.2)
theorem zdo{s:Str}{base:Nat}(hb:∀c,inS s c=true→hexv c<base):∀(m v:Nat)(r:List Nat),(zao s base m v r).1<(v+1)*base^m∨base=0
 |0,v,r=>by left;unfold zao;simp
 |m+1,v,[]=>by
  by_cases h0:base=0
  ·exact .inr h0
  left;unfold zao
  have:0<base^(m+1):=Nat.pow_pos (by lia)
  have:=Nat.le_mul_of_pos_right (v+1) this
  show v<_;lia
 |m+1,v,c::r=>by
  by_cases h0:base=0
  ·exact .inr h0
  left;unfold zao
  split
  ·rename_i hc
   rcases zdo hb m (v*base+hexv c) r with h|h
   ·refine Nat.lt_of_lt_of_le h ?_
    have h1:=hb c hc
    rw[Nat.pow_succ,Nat.mul_comm (base^m) base,←Nat.mul_assoc]
    refine Nat.mul_le_mul_right _ ?_
    rw[Nat.add_mul];lia
   ·exact absurd h h0
  ·have:0<base^(m+1):=Nat.pow_pos (by lia)
   have:=Nat.le_mul_of_pos_right (v+1) this
   show v<_;lia
theorem mem_of_os{s:String}{l:List Nat}(e:(Str.ofString s).cps.toList=l){c:Nat}(h:inS (Str.ofString s) c=true):c∈l:=by
 unfold inS at h
 rw[e]at h
 simpa using h
theorem oct_hex:∀c,inS sOct c=true→hexv c<8∧(zc4 c).isSome=true:=fun c h=>by
 have e:sOct.cps.toList=[48,49,50,51,52,53,54,55]:=by decide+kernel
 have hm:=mem_of_os e h
 revert c
 have:∀c∈[48,49,50,51,52,53,54,55],hexv c<8∧(zc4 c).isSome=true:=by decide
 intro c _ hm;exact this c hm
theorem hex_hex:∀c,inS sHex c=true→hexv c<16∧(zc4 c).isSome=true:=fun c h=>by
 have e:sHex.cps.toList=[48,49,50,51,52,53,54,55,56,57,97,98,99,100,101,102,65,66,67,68,69,70]:=by decide+kernel
 have hm:=mem_of_os e h
 revert c
 have:∀c∈[48,49,50,51,52,53,54,55,56,57,97,98,99,100,101,102,65,66,67,68,69,70],hexv c<16∧(zc4 c).isSome=true:=by decide
 intro c _ hm;exact this c hm
section
variable{n:Nat}{t r:List Nat}{i:Nat}{Φ:AV→Option AO→Prop}{Ξ:Int→Prop}
theorem c_coded(s:Str)(most base:Nat)(hm:most≤3)(hb:base≤16)(hs:∀c,inS s c=true→hexv c<base∧(zc4 c).isSome=true)(hl:t.length≤4000)(a:At t i r)
  (h:∀j,At t j (zao s base most 0 r).2→Φ (.d (.str ⟨#[(zao s base most 0 r).1]⟩)) (some (cur t j))):Cal (n+3) 109 [.ref 0, .d (.str s), .d (.int most), .d (.int base)] (some (cur t i)) Φ Ξ:=by
 refine zaa rfl (Exists.intro (fun σ'=>∃k v j y,At t j y∧k≤most∧zao s base (most-k) v y=zao s base most 0 r∧v<16^k∧σ'=⟨[(0, .ref 0),(11, .d (.str s)),(13, .d (.int most)),(14, .d (.int base)),(15, .d (.int v)),(16, .d (.int k))],[cur t j]⟩)
  (Exists.intro (fun σ'=>match σ'.loc with
   | [_,_,_,_,_,(_, .d (.int k))]=>most-k.toNat
   |_=>0) (And.intro ⟨0,0,i,r,a,Nat.zero_le _,rfl,by decide,rfl⟩ ?_)))
 rintro σ' ⟨k,v,j,y,ay,hk,hp,hv,rfl⟩
 have hv2:v<16^3:=Nat.lt_of_lt_of_le hv (Nat.pow_le_pow_right (by decide) (Nat.le_trans hk hm))
 have out:(v,y)=zao s base most 0 r→((0:Int)≤v∧(v:Int)<1114112)∧Φ (.d (.str ⟨#[((v:Int)).toNat]⟩)) (some (cur t j)):=fun e=>by
  rw[←e]at h
  exact⟨⟨Int.natCast_nonneg v,Int.ofNat_lt.mpr (Nat.lt_trans hv2 (by decide))⟩,h j ay⟩
 refine br_i (fun e=>?_) (fun e=>?_)
 ·have hk:=nn e
  have hm':most-k=(most-(k+1))+1:=by lia
  rw[hm']at hp
  refine zhh (t:=t) (l20 hl) (fun q=>?_) (fun c hc=>?_)
  ·have hy:=ay.hd0 q
   subst hy
   exact out hp
  ·obtain⟨y',rfl⟩:=ay.hd hc
   have ay':=ay.cons
   rw[zao]at hp
   refine zhh (t:=t) (l20 hl) (fun q=>by rw[hc]at q;cases q) (fun c' hc'=>?_)
   cases hc.symm.trans hc'
   refine br_i (fun e2=>?_) (fun e2=>?_)
   ·rw[if_pos (c:=inS s c=true) e2]at hp
    have b1:=hs c e2
    obtain⟨hvv,hh⟩:=Option.isSome_iff_exists.mp b1.2
    have hx:hexv c=hvv:=by unfold hexv;rw[hh];rfl
    rw[hx]at hp b1
    refine And.intro ?_ (c_take (t:=t) (l20 hl) (fun q=>absurd ay'.2.2 (Nat.not_lt.mpr q)) fun c' hc'=>?_)
    ·exact⟨Int.lt_of_lt_of_le (by decide) (Int.natCast_nonneg v),Int.ofNat_lt.mpr (Nat.lt_trans hv2 (by decide))⟩
    cases hc.symm.trans hc'
    refine And.intro rfl (Exists.intro c (Exists.intro hvv (And.intro ⟨rfl,hh⟩ (And.intro ⟨k+1,v*base+hvv,j+1,y',ay'.1,hk,hp,?_,rfl⟩ (Nat.sub_lt_sub_left hk (Nat.lt_succ_self _))))))
    rw[Nat.pow_succ]
    exact Nat.lt_of_lt_of_le (Nat.add_lt_add_left b1.1 _) (Nat.le_trans (Nat.le_of_eq (Nat.succ_mul _ _).symm) (Nat.mul_le_mul hv hb))
   ·exact out (by rw[←hp,if_neg (c:=inS s c=true) (fun q=>Bool.noConfusion (q.symm.trans e2))])
 ·exact out (by rw[←hp,Nat.sub_eq_zero_of_le (nl e)];rfl)
end
theorem lookup_all{α β:Type} [BEq α] [LawfulBEq α]{P:β→Prop}{l:List (α×β)}(h:∀p∈l,P p.2){x:α}{v:β}(e:l.lookup x=some v):P v:=h _ (zak e)
theorem plainE_bound{c:Nat}{v:Int}(h:zbi c=some v):7≤v∧v≤13:=by
 have:∀p∈tab22,7≤p.2∧p.2≤13:=by
  intro p hp
  simp only[tab22,List.mem_cons,List.mem_nil_iff,or_false]at hp
  rcases hp with rfl|rfl|rfl|rfl|rfl|rfl|rfl<;>decide
 exact lookup_all (P:=fun v=>7≤v∧v≤13) this h
section
variable{n:Nat}{t r:List Nat}{i:Nat}{Φ:AV→Option AO→Prop}{Ξ:Int→Prop}
theorem tk(hl:t.length≤4000){c:Nat}(hc:t[i]?=some c)(h:Φ (.d (.str ⟨#[c]⟩)) (some (cur t (i+1)))):Cal (n+2) 103 [.ref 0] (some (cur t i)) Φ Ξ:=
 c_take (t:=t) (l20 hl) (fun q=>by rw[List.getElem?_eq_none q]at hc;cases hc) fun c' hc'=>by cases hc.symm.trans hc';exact h
theorem pk1(hl:t.length≤4000){c:Nat}(hc:t[i+1]?=some c)(h:Φ (.d (.str ⟨#[c]⟩)) (some (cur t i))):Cal (n+1) 101 [.ref 0, .d (.int 1)] (some (cur t i)) Φ Ξ:=
 c_peek (t:=t) 1 (l20 hl) (fun q=>by rw[hc]at q;cases q) fun c' hc'=>by cases hc.symm.trans hc';exact h
theorem zft{c d:Nat}{s:String}(h:(Str.ofString s).cps.toList=[d])(e:((⟨#[c]⟩:Str)==Str.ofString s)=true):c=d:=beq_iff_eq.mp ((one_os c d s h).symm.trans e)
theorem zds{c d:Nat}{s:String}(h:(Str.ofString s).cps.toList=[d])(e:((⟨#[c]⟩:Str)==Str.ofString s)=false):c≠d:=fun q=>by rw[one_os c d s h,q,beq_self_eq_true]at e;cases e
theorem esc_plain{c:Nat}{v:Int}{r:List Nat}(h:zbi c=some v):zar (c::r)=some (v.toNat,r):=by simp only[zar,h]
theorem esc_oct{c:Nat}{r:List Nat}(h:zbi c=none)(e:inS sOct c=true):zar (c::r)=some (zao sOct 8 3 0 (c::r)):=by simp only[zar,h,e,if_true]
theorem esc_hex{d:Nat}{y:List Nat}(h:zbi 120=none)(e:inS sOct 120=false)(q:inS sHex d=true):zar (120::d::y)=some (zao sHex 16 2 0 (d::y)):=by simp only[zar,h,e,q,Bool.false_eq_true,if_false,and_self,if_true]
theorem esc_own{c:Nat}(h:zbi c=none)(e:inS sOct c=false):∀{r:List Nat},(∀d y,r=d::y→¬(c=120∧inS sHex d=true))→zar (c::r)=some (c,r)
 | [],_=>by simp only[zar,h,e,Bool.false_eq_true,if_false]
 |d::y,q=>by simp only[zar,h,e,Bool.false_eq_true,if_false,if_neg (q d y rfl)]
theorem c_escape(hl:t.length≤4000)(a:At t i r)(h0:r=[]→Φ (.d (.str (Str.ofString ""))) (some (cur t i)))
  (h1:∀d r' j,zar r=some (d,r')→At t j r'→Φ (.d (.str ⟨#[d]⟩)) (some (cur t j))):Cal (n+4) 110 [.ref 0] (some (cur t i)) Φ Ξ:=by
 refine zaa rfl (zhh (t:=t) (l20 hl) (fun q=>h0 (a.hd0 q)) (fun c hc=>?_))
 obtain⟨r',rfl⟩:=a.hd hc
 have ar:=a.cons.1
 refine br_i (fun e=>?_) (fun e=>?_)
 ·obtain⟨v,hv⟩:=Option.isSome_iff_exists.mp (show(zbi c).isSome=true from e)
  have b:=plainE_bound hv
  exact tk hl hc (Exists.intro v (And.intro hv (And.intro ⟨Int.le_trans (by decide) b.1,Int.lt_of_le_of_lt b.2 (by decide)⟩ (h1 v.toNat r' (i+1) (esc_plain hv) ar))))
 have hv:zbi c=none:=Option.not_isSome_iff_eq_none.mp fun q=>Bool.noConfusion (q.symm.trans e)
 refine br_i (fun e2=>?_) (fun e2=>?_)
 ·exact c_coded (t:=t) sOct 3 8 (by decide) (by decide) oct_hex hl a fun j aj=>h1 _ _ j (esc_oct hv e2) aj
 have stop:(∀d y,r'=d::y→¬(c=120∧inS sHex d=true))→Φ (.d (.str ⟨#[c]⟩)) (some (cur t (i+1))):=fun hn=>h1 c r' (i+1) (esc_own hv e2 hn) ar
 refine br_i (fun e3=>?_) (fun e3=>?_)
 ·cases zft (d:=120) (by decide+kernel) e3
  refine c_peek (t:=t) 1 (l20 hl) (fun q=>?_) (fun d hd=>?_)
  ·exact tk hl hc (stop fun d y q'=>by rw[ar.hd0 q]at q';cases q')
  ·obtain⟨y,rfl⟩:=ar.hd hd
   refine pk1 hl hd (br_i (fun e5=>?_) (fun e5=>?_))
   ·exact tk hl hc (c_coded (t:=t) sHex 2 16 (by decide) (by decide) hex_hex hl ar fun j aj=>h1 _ _ j (esc_hex hv e2 e5) aj)
   ·exact tk hl hc (stop fun d' y' q z=>by cases q;exact Bool.noConfusion (z.2.symm.trans e5))
 ·exact tk hl hc (stop fun d y q z=>zds (d:=120) (by decide+kernel) e3 z.1)
theorem ze7:∀l:List Nat,joinL [] (l.map fun c=> [c])=l
 | []=>rfl
 | [c]=>rfl
 |c::d::l=>by
  have:=ze7 (d::l)
  simp only[List.map_cons]at this ⊢
  rw[joinL,this];rfl
theorem zbk:∀{r r':List Nat}{d:Nat},zar r=some (d,r')→r'.length<r.length:=by
 have pc:∀(s:Str)(base m v:Nat)(r:List Nat),(zao s base m v r).2.length≤r.length:=by
  intro s base m
  induction m with
  |zero=>intro v r;exact Nat.le_refl _
  |succ m ih=>
   intro v r
   cases r with
   |nil=>exact Nat.le_refl _
   |cons c r=>
    unfold zao
    split
    ·exact Nat.le_succ_of_le (ih _ _)
    ·exact Nat.le_refl _
 intro r r' d h
 cases r with
 |nil=>cases h
 |cons c r=>
  simp only[zar]at h
  cases hv:zbi c with
  |some v=>rw[hv]at h;cases h;exact Nat.lt_succ_self _
  |none=>
   rw[hv]at h
   dsimp only at h
   by_cases e:inS sOct c=true
   ·rw[if_pos e]at h
    have h2:zao sOct 8 3 0 (c::r)=(d,r'):=Option.some.inj h
    unfold zao at h2
    rw[if_pos e]at h2
    have:=pc sOct 8 2 (0*8+hexv c) r
    rw[h2]at this
    exact Nat.lt_succ_of_le this
   ·rw[if_neg e]at h
    cases r with
    |nil=>cases h;exact Nat.lt_succ_self _
    |cons d' y=>
     dsimp only at h
     split at h
     ·have h2:zao sHex 16 2 0 (d'::y)=(d,r'):=Option.some.inj h
      have:=pc sHex 16 2 0 (d'::y)
      rw[h2]at this
      exact Nat.lt_succ_of_le this
     ·cases h;exact Nat.lt_succ_self _
theorem pQ_fuel{e:Nat}:∀(m m':Nat)(r:List Nat),r.length<m→r.length<m'→pQ e m r=pQ e m' r:=by
 intro m
 induction m with
 |zero=>intro m' r h;exact absurd h (Nat.not_lt_zero _)
 |succ m ih=>
  intro m' r h h'
  cases m' with
  |zero=>exact absurd h' (Nat.not_lt_zero _)
  |succ m'=>
   cases r with
   |nil=>rfl
   |cons c r=>
    rw[List.length_cons]at h h'
    unfold pQ
    split
    ·rfl
    ·split
     ·cases he:zar r with
      |none=>rfl
      |some q=>
       obtain⟨d,r'⟩:=q
       have:=zbk he
       dsimp only
       rw[ih m' r' (by lia) (by lia)]
     ·rw[ih m' r (by lia) (by lia)]
noncomputable def zay(r:List Nat):Option (List Nat×List Nat):=pQ 34 (r.length+1) r
theorem pQuoted_nil:zay []=none:=rfl
theorem pQuoted_cons(c:Nat)(r:List Nat):zay (c::r)=if c=34 then some ([],r)else if c=92 then match zar r with
   |none=>none
   |some (d,r')=>(zay r').map fun q=>(d::q.1,q.2)
  else(zay r).map fun q=>(c::q.1,q.2):=by
 show pQ 34 (r.length+1+1) (c::r)=_
 rw[pQ]
 split
 ·rfl
 ·split
  ·cases he:zar r with
   |none=>rfl
   |some q=>
    obtain⟨d,r'⟩:=q
    have:=zbk he
    dsimp only
    rw[pQ_fuel (r.length+1) (r'.length+1) r' (by lia) (by lia)]
    rfl
  ·rfl
theorem allD_of{α:Type}(f:α→PyData):∀l:List α,allD (l.map fun x=>AV.d (f x))=some (l.map f)
 | []=>rfl
 |x::r=>congrArg (Option.map (f x:: ·)) (allD_of f r)
theorem zbj{α:Type}(f:α→Str):∀l:List α,zdj (l.map fun x=>PyData.str (f x))=some (l.map f)
 | []=>rfl
 |x::r=>congrArg (Option.map (f x:: ·)) (zbj f r)
theorem strs_one(l:List Nat):(allD (l.map fun c=>AV.d (.str ⟨#[c]⟩))).bind zdj=some (l.map fun c=>(⟨#[c]⟩:Str)):=by
 rw[allD_of];exact zbj _ l
theorem c_quoted(hl:t.length≤4000)(a:At t i r)(h0:zay r=none→∀j,Φ (.d .none) (some (cur t j)))
  (h1:∀s r' j,zay r=some (s,r')→At t j r'→Φ (.d (.str (tx s))) (some (cur t j))):Cal (n+5) 111 [.ref 0, .d (.str (Str.ofString "\""))] (some (cur t i)) Φ Ξ:=by
 have lr:r.length≤4000:=Nat.le_trans (a.len▸Nat.le_add_left _ _) hl
 have app:∀(acc:List Nat)(d:Nat),(acc.map fun c=>AV.d (.str ⟨#[c]⟩))++[AV.d (.str ⟨#[d]⟩)]=(acc++[d]).map fun c=>AV.d (.str ⟨#[c]⟩):=fun acc d=>by rw[List.map_append];rfl
 refine zaa rfl (Exists.intro (fun σ'=>∃(acc:List Nat)(j:Nat)(y:List Nat)(z:AV),At t j y∧(zay r=(zay y).map fun q=>(acc++q.1,q.2))∧acc.length+y.length≤r.length∧
   σ'=⟨[(0, .ref 0),(17, .d (.str (Str.ofString "\""))),(11, .ref 1),(10,z)],[cur t j, .list (acc.map fun c=> .d (.str ⟨#[c]⟩))]⟩) (Exists.intro (fun σ'=>match σ'.obj with
  | .inst _ [_,(_, .d (.int j))]::_=>t.length-j.toNat
  |_=>0) (And.intro ⟨[],i,r, .no,a,by cases zay r<;>rfl,Nat.le_of_eq (Nat.zero_add _),rfl⟩ ?_)))
 rintro σ' ⟨acc,j,y,z,ay,hq,hacc,rfl⟩
 refine zgj (t:=t) (l20 hl) (br_i (fun e=>?_) (fun e=>?_))
 ·have hj:=mn (bnt e)
  obtain⟨c,hc⟩:∃c,t[j]?=some c:=⟨_,List.getElem?_eq_getElem hj⟩
  obtain⟨y',rfl⟩:=ay.hd hc
  have ay':=ay.cons.1
  rw[pQuoted_cons]at hq
  have hacc:acc.length+(y'.length+1)≤r.length:=hacc
  have hac:acc.length≤4000:=Nat.le_trans (Nat.le_trans (Nat.le_add_right _ _) hacc) lr
  have hs:∀{d k r''},At t k r''→r''.length≤y'.length→zay r=Option.map (fun q=>(acc++q.1,q.2)) ((zay r'').map fun q=>(d::q.1,q.2))→∃acc' j' y'' z',At t j' y''∧(zay r=(zay y'').map fun q=>(acc'++q.1,q.2))∧acc'.length+y''.length≤r.length∧
   (⟨[(0, .ref 0),(17, .d (.str (Str.ofString "\""))),(11, .ref 1),(10, .d (.str ⟨#[d]⟩))],[cur t k, .list ((acc.map fun c=> .d (.str ⟨#[c]⟩))++[.d (.str ⟨#[d]⟩)])]⟩:St)=⟨[(0, .ref 0),(17, .d (.str (Str.ofString "\""))),(11, .ref 1),(10,z')],[cur t j', .list (acc'.map fun c=> .d (.str ⟨#[c]⟩))]⟩:=fun{d k r''} ak hl' hq'=>by
   refine⟨acc++[d],k,r'',_,ak,?_,?_,by rw[←app]⟩
   ·rw[hq',Option.map_map]
    refine congrArg (fun f=>Option.map f _) (funext fun q=>?_)
    show(acc++d::q.1,q.2)=(acc++[d]++q.1,q.2)
    rw[List.append_assoc];rfl
   ·rw[List.length_append]
    show acc.length+1+r''.length≤_
    lia
  refine tk hl hc (br_i (fun e2=>?_) (fun e2=>?_))
  ·rw[if_pos (zft (d:=34) (by decide+kernel) e2)]at hq
   refine Exists.intro (acc.map fun c=>(⟨#[c]⟩:Str)) (And.intro ⟨strs_one acc,?_⟩ ?_)
   ·rw[List.map_map]
    show(joinL [] (acc.map fun c=> [c])).length+0≤sizeLine
    rw[ze7,sizeLine_eq];exact Nat.le_trans hac (by decide)
   ·have h3:=h1 acc y' (j+1) (by rw[hq];exact congrArg (fun x=>some (x,y')) (List.append_nil acc)) ay'
    have e3:joinL (Str.ofString "").cps.toList ((acc.map fun c=>(⟨#[c]⟩:Str)).map (·.cps.toList))=acc:=by
     rw[List.map_map]
     exact ze7 acc
    show Φ (.d (.str ⟨(joinL (Str.ofString "").cps.toList ((acc.map fun c=>(⟨#[c]⟩:Str)).map (·.cps.toList))).toArray⟩)) _
    rw[e3];exact h3
  ·rw[if_neg (zds (d:=34) (by decide+kernel) e2)]at hq
   refine br_i (fun e3=>?_) (fun e3=>?_)
   ·rw[if_pos (zft (d:=92) (by decide+kernel) e3)]at hq
    refine c_escape (t:=t) hl ay' (fun hr=>?_) fun d r' k he ak=>?_
    ·rw[hr]at hq
     exact h0 hq _
    ·rw[he]at hq
     have hs2:=zbk he
     refine And.intro ?_ (And.intro (hs ak (Nat.le_of_lt hs2) hq) ?_)
     ·rw[List.length_map,sizeLine_eq];exact Nat.lt_of_le_of_lt hac (by decide)
     ·have l1:=ak.len
      have l2:=ay'.len
      show t.length-k<t.length-j
      lia
   ·rw[if_neg (zds (d:=92) (by decide+kernel) e3)]at hq
    refine And.intro ?_ (And.intro (hs ay' (Nat.le_refl _) hq) (Nat.sub_lt_sub_left hj (Nat.lt_succ_self _)))
    rw[List.length_map,sizeLine_eq];exact Nat.lt_of_le_of_lt hac (by decide)
 ·refine h0 ?_ j
  have hy:y=[]:=by
   cases y with
   |nil=>rfl
   |cons c y'=>exact absurd ay.cons.2.2 (Nat.not_lt.mpr (ml (bnf e)))
  rw[hq,hy];rfl
end
theorem zd3{n f:Nat}{as:List AV}{o:Option AO}{Φ:AV→Option AO→Prop}{Ξ:Int→Prop}(hc:(zcm f as.length&&(zdl f o&&(!(Nat.beq f 24)&&Nat.ble 200 f)))=true)
  (h:(St.mk (lay ((prmF f).zip (fullA f as)) (lcF f)) o.toList).fc fun σ=>awBs (Cal n) (bodyF f) σ (endP o Φ) (retP o Φ) Ξ):Cal (n+2) f as o Φ Ξ:=by
 simp only[Bool.and_eq_true,Bool.not_eq_true']at hc
 obtain⟨h1,h2,h3,h4⟩:=hc
 rw[St.fc_eq,endP_eq,retP_eq,Cal_eq]at h
 rw[Cal_eq]
 unfold CSn
 rw[h3,h4]
 exact⟨⟨h1,h2⟩,h⟩
section
variable{n:Nat}{t r:List Nat}{i:Nat}{Φ:AV→Option AO→Prop}{Ξ:Int→Prop}
theorem zf8{a b c:Int}(h:Φ (.d .none) (some (.inst 46 [(2, .d (.int a)),(4, .d (.int b)),(56, .d (.int c))]))):Cal (n+2) 200 [.ref 0, .d (.int a), .d (.int b), .d (.int c)] (some (.inst 46 [])) Φ Ξ:=zd3 rfl h
theorem clamp{m:Nat}{off:Int}:0≤(if(m:Int)<(if off<0 then 0 else off)then(m:Int)else(if off<0 then 0 else off))∧(if(m:Int)<(if off<0 then 0 else off)then(m:Int)else(if off<0 then 0 else off))≤m:=by
 split<;>split<;>lia
theorem c_position_of{off:Int}(hl:t.length≤4000)(h:∀o l c:Int,0≤o→o≤t.length→Φ (.fi 46 [(2, .int o),(4, .int l),(56, .int c)]) none):Cal (n+3) 0 [.d (.str (tx t)), .d (.int off)] none Φ Ξ:=by
 refine zaa rfl (And.intro (n62 (l20 hl)) ?_)
 conv=>whnf
 have h1:=clamp (m:=t.length) (off:=off)
 generalize hat:(if((tx t).length:Int)<(if off<0 then 0 else off)then((tx t).length:Int)else(if off<0 then 0 else off))=at_
 have h1:0≤at_∧at_≤(t.length:Int):=hat▸h1
 clear hat
 obtain⟨m,rfl⟩:=Int.eq_ofNat_of_zero_le h1.1
 have hm:m≤t.length:=Int.ofNat_le.mp h1.2
 have sz:m≤sizeLine:=Nat.le_trans (Nat.le_trans hm hl) (by rw[sizeLine_eq];decide)
 refine And.intro ⟨h1.1,Int.lt_of_le_of_lt h1.2 (Int.ofNat_lt.mpr (n62 (l20 hl))),Int.ofNat_le.mpr sz⟩ (And.intro ?_ (Exists.intro (fun items σ=>(∀y∈items,∃k:Nat,k<m∧y= .d (.int k))∧∃(b l:Int)(x:AV),
  σ=⟨[(1, .d (.str (tx t))),(2, .d (.int off)),(3, .d (.int m)),(6,x),(4, .d (.int l)),(5, .d (.int b))],[]⟩) (And.intro ⟨fun y hy=>?_,0,1, .no,rfl⟩ (And.intro ?_ ?_))))
 ·rw[List.length_map,List.length_range];exact sz
 ·obtain⟨k,hk,rfl⟩:=List.mem_map.mp hy
  exact⟨k,List.mem_range.mp hk,rfl⟩
 ·rintro y r _ ⟨hy,b,l,x,rfl⟩
  obtain⟨k,hk,rfl⟩:=hy y List.mem_cons_self
  have hr:∀y∈r,∃k:Nat,k<m∧y= .d (.int k):=fun z hz=>hy z (List.mem_cons_of_mem _ hz)
  have hkt:=Nat.lt_of_lt_of_le hk hm
  exact Exists.intro t[k] (And.intro ⟨(i62 hkt (l20 hl)).1,(i62 hkt (l20 hl)).2,tx_at hkt⟩ (br_i (fun _=>⟨hr,_,_,_,rfl⟩) (fun _=>⟨hr,b,l,_,rfl⟩)))
 ·rintro _ ⟨hy,b,l,x,rfl⟩
  exact zf8 (n:=n) (a:=m) (b:=l) (c:=m-b+1) (h m l _ h1.1 h1.2)
theorem zcn{w:Str}{off:Int}(hl:t.length≤4000)(h:∀o:Int,0≤o→o≤t.length→Φ (.err o) none):Cal (n+4) 4 [.d (.str w), .d (.str (tx t)), .d (.int off)] none Φ Ξ:=
 zaa rfl (c_position_of hl fun o _ _ h1 h2=>h o h1 h2)
set_option genCtorIdx true in
inductive TK where
 |name(s:List Nat)
 |num(v:Int)
 |text(s:List Nat)
 |own
 |arg(v:Int)
 |sign(s:List Nat)
 |fin
noncomputable def TK.kind:TK→Str
 | .name _=>Str.ofString "name"
 | .num _=>Str.ofString "number"
 | .text _=>Str.ofString "text"
 | .own=>Str.ofString "own"
 | .arg _=>Str.ofString "arg"
 | .sign _=>Str.ofString "sign"
 | .fin=>Str.ofString "end"
noncomputable def TK.worth:TK→PyData
 | .name s=> .str (tx s)
 | .num v=> .int v
 | .text s=> .str (tx s)
 | .own=> .none
 | .arg v=> .int v
 | .sign s=> .str (tx s)
 | .fin=> .none
noncomputable def partF(k:TK)(o:Int):List (Nat×PyData):=[(19, .str k.kind),(20,k.worth),(2, .int o)]
noncomputable def partV(p:TK×Int):AV:= .fi 267 (partF p.1 p.2)
theorem zaw{k:Str}{w:PyData}{o:Int}(h:Φ (.d .none) (some (.inst 267 [(19, .d (.str k)),(20, .d w),(2, .d (.int o))]))):Cal (n+2) 202 [.ref 0, .d (.str k), .d w, .d (.int o)] (some (.inst 267 [])) Φ Ξ:=zd3 rfl h
theorem c_Cursor_init(h:Φ (.d .none) (some (cur t 0))):Cal (n+2) 201 [.ref 0, .d (.str (tx t))] (some (.inst 222 [])) Φ Ξ:=zd3 rfl h
theorem c_scan_dollar{o:Int}(hl:t.length≤4000)(hdg:Dig t)(a:At t i r)
  (h1:∀r',r=36::r'→At t (i+1) r'→Φ (partV (.own,o)) (some (cur t (i+1))))
  (h2:(∀r',r≠36::r')→∀v:Int,PySem.intText? (tx (r.takeWhile (inS sFig)))=some v→r.takeWhile (inS sFig)≠ []→At t (i+(r.takeWhile (inS sFig)).length) (r.dropWhile (inS sFig))→Φ (partV (.arg v,o)) (some (cur t (i+(r.takeWhile (inS sFig)).length))))
  (h3:(∀r',r≠36::r')→r.takeWhile (inS sFig)=[]→∀o:Int,0≤o→o≤t.length→Ξ o):Cal (n+5) 5 [.d (.str (tx t)), .ref 0, .d (.int o)] (some (cur t i)) Φ Ξ:=
 zaa rfl (c_skip (t:=t) [36] (l20 hl) (by decide) a
  (fun hn=>c_number (t:=t) hl hdg a (fun e=>zcn hl (h3 hn e)) fun v hv hne ar=>zaw (h2 hn v hv hne ar))
  fun r' hr ar=>zaw (h1 r' hr ar))
end
noncomputable def twos:List (List Nat):=[[124,124],[38,38],[61,61],[33,61],[60,61],[62,61]]
noncomputable def pSign(r:List Nat):Option (List Nat×List Nat):=match twos.find? fun w=>w.isPrefixOf r with
 |some w=>some (w,r.drop w.length)
 |none=>match r with
  |c::r'=>if inS sOne c then some ([c],r')else none
  | []=>none
theorem twos_eq:([.d (.str (Str.ofString "||")), .d (.str (Str.ofString "&&")), .d (.str (Str.ofString "==")), .d (.str (Str.ofString "!=")), .d (.str (Str.ofString "<=")), .d (.str (Str.ofString ">="))]:List AV)=twos.map fun w=> .d (.str (tx w)):=by
 rw[os_tx "||",os_tx "&&",os_tx "==",os_tx "!=",os_tx "<=",os_tx ">="]
 rfl
noncomputable def bits(v:Int):Int:=if v=0 then 0 else v.natAbs.log2+1
noncomputable def pInt(l:List Nat):Option Int:=PySem.intText? (tx l)
noncomputable def zce:List Nat→Option (TK×List Nat)
 | []=>none
 |c::r=>if c=36 then some (.own,r)else if inS sFig c=true then(pInt ((c::r).takeWhile (inS sFig))).map fun v=>(.arg v,(c::r).dropWhile (inS sFig))else none
noncomputable def pTok(r:List Nat):Option (TK×List Nat):=match r with
 | []=>none
 |c::r'=>if inS sName c=true∧inS sFig c=false then some (.name (r.takeWhile (inS sName)),r.dropWhile (inS sName))
  else if inS sFig c=true then match pInt (r.takeWhile (inS sFig))with
   |some v=>if 512<bits v then none else some (.num v,r.dropWhile (inS sFig))
   |none=>none
  else if c=34 then(zay r').map fun q=>(.text q.1,q.2)
  else if c=36 then zce r'
  else(pSign r).map fun q=>(.sign q.1,q.2)
noncomputable def pS:Nat→List Nat→Option (List TK)
 |0,_=>none
 |_+1,[]=>some [.fin]
 |m+1,c::r=>match pTok (c::r)with
  |none=>none
  |some (k,r')=>(pS m (r'.dropWhile (inS zag))).map (k:: ·)
section
variable{n:Nat}{t r:List Nat}{i:Nat}{Φ:AV→Option AO→Prop}{Ξ:Int→Prop}
theorem psign_two{w r r':List Nat}{ws:List (List Nat)}(hf:twos.find? (fun w=>w.isPrefixOf r)=(w::ws).find? fun w=>w.isPrefixOf r)(hr:r=w++r'):pSign r=some (w,r'):=by
 unfold pSign
 rw[hf,List.find?_cons,show w.isPrefixOf r=true from List.isPrefixOf_iff_prefix.mpr ⟨r',hr.symm⟩,hr]
 exact congrArg (fun z=>some (w,z)) List.drop_left
theorem psign_one{c:Nat}{r:List Nat}(hf:twos.find? (fun w=>w.isPrefixOf (c::r))=none)(h:inS sOne c=true):pSign (c::r)=some ([c],r):=by
 unfold pSign
 rw[hf]
 exact if_pos h
theorem psign_no{c:Nat}{r:List Nat}(hf:twos.find? (fun w=>w.isPrefixOf (c::r))=none)(h:inS sOne c=false):pSign (c::r)=none:=by
 unfold pSign
 rw[hf]
 exact if_neg (Bool.eq_false_iff.mp h)
theorem c_scan_sign{o:Int}(hl:t.length≤4000)(a:At t i r)(h1:∀w r' j,pSign r=some (w,r')→At t j r'→Φ (partV (.sign w,o)) (some (cur t j)))(h0:pSign r=none→∀o:Int,0≤o→o≤t.length→Ξ o):
  Cal (n+5) 6 [.d (.str (tx t)), .ref 0, .d (.int o)] (some (cur t i)) Φ Ξ:=by
 refine zaa rfl (And.intro (by rw[sizeLine_eq];decide) (Exists.intro (fun items σ=>∃ws:List (List Nat),items=ws.map (fun w=> .d (.str (tx w)))∧(∀w∈ws,w.length≤2)∧(twos.find? (fun w=>w.isPrefixOf r))=ws.find? (fun w=>w.isPrefixOf r)∧∃x,
  σ=⟨[(1, .d (.str (tx t))),(21, .ref 0),(22, .d (.int o)),(9,x),(10, .no)],[cur t i]⟩) (And.intro ⟨twos,twos_eq,by decide,rfl, .no,rfl⟩ (And.intro (fun y ys σ2 hI=>?_) (fun σ2 hI=>?_)))))
 ·obtain⟨ws,he,hw,hf,x,rfl⟩:=hI
  cases ws with
  |nil=>cases he
  |cons w ws=>
   obtain⟨rfl,rfl⟩:=List.cons.inj he
   refine c_skip (t:=t) w (l20 hl) (Nat.le_trans (hw w List.mem_cons_self) (by decide)) a (fun hn=>⟨ws,rfl,fun w hw'=>hw w (List.mem_cons_of_mem _ hw'),?_,_,rfl⟩) fun r' hr ar=>zaw (h1 w r' _ (psign_two hf hr) ar)
   rw[hf,List.find?_cons]
   cases q:w.isPrefixOf r with
   |false=>rfl
   |true=>
    obtain⟨r',hr⟩:=List.isPrefixOf_iff_prefix.mp q
    exact absurd hr.symm (hn r')
 ·obtain⟨ws,he,hw,hf,x,rfl⟩:=hI
  have hws:=List.map_eq_nil_iff.mp he.symm
  subst hws
  refine zhh (t:=t) (l20 hl) (fun q=>zcn hl (h0 ?_)) (fun c hc=>?_)
  ·unfold pSign
   rw[hf,a.hd0 q];rfl
  ·obtain⟨r',rfl⟩:=a.hd hc
   exact br_i (fun e=>zcn hl (h0 (psign_no hf (bnt e)))) (fun e=>tk hl hc (zaw (h1 [c] r' (i+1) (psign_one hf (bnf e)) a.cons.1)))
end
theorem zb0{p:Nat→Bool}{c:Nat}{r:List Nat}(h:p c=true):(c::r).takeWhile p=c::r.takeWhile p∧(c::r).dropWhile p=r.dropWhile p:=by
 rw[List.takeWhile_cons,List.dropWhile_cons,if_pos h,if_pos h];exact⟨rfl,rfl⟩
theorem tw_stop{p:Nat→Bool}{c:Nat}{r:List Nat}(h:p c=false):(c::r).takeWhile p=[]∧(c::r).dropWhile p=c::r:=by
 rw[List.takeWhile_cons,List.dropWhile_cons,if_neg (by rw[h];decide),if_neg (by rw[h];decide)];exact⟨rfl,rfl⟩
theorem dw_le(p:Nat→Bool)(r:List Nat):(r.dropWhile p).length≤r.length:=(List.dropWhile_sublist p).length_le
theorem zcf:∀(m:Nat){r r' s:List Nat},pQ 34 m r=some (s,r')→r'.length<r.length
 |0,r,r',s,h=>by cases h
 |m+1,[],r',s,h=>by cases h
 |m+1,c::r,r',s,h=>by
  unfold pQ at h
  split at h
  ·cases h;exact Nat.lt_succ_self _
  ·split at h
   ·split at h
    ·cases h
    ·rename_i d y he
     obtain⟨q,h1,h2⟩:=Option.map_eq_some_iff.mp h
     cases h2
     have:=zbk he
     have:=zcf m (s:=q.1) (r':=q.2) h1
     rw[List.length_cons];lia
   ·obtain⟨q,h1,h2⟩:=Option.map_eq_some_iff.mp h
    cases h2
    have:=zcf m (s:=q.1) (r':=q.2) h1
    rw[List.length_cons];lia
theorem pSign_shrink{r r' w:List Nat}(h:pSign r=some (w,r')):r'.length<r.length:=by
 unfold pSign at h
 split at h
 ·rename_i w' hf
  cases h
  have hm:=List.mem_of_find?_eq_some hf
  have hp:=List.find?_some hf
  obtain⟨y,rfl⟩:=List.isPrefixOf_iff_prefix.mp hp
  have:∀w∈twos,w.length=2:=by decide
  have:=this _ hm
  simp
  lia
 ·split at h
  ·split at h
   ·cases h;exact Nat.lt_succ_self _
   ·cases h
  ·cases h
theorem pDollar_shrink{r r':List Nat}{k:TK}(h:zce r=some (k,r')):r'.length≤r.length:=by
 cases r with
 |nil=>cases h
 |cons d y=>
  unfold zce at h
  dsimp only at h
  by_cases q1:d=36
  ·rw[if_pos q1]at h;cases h;exact Nat.le_succ _
  ·rw[if_neg q1]at h
   by_cases q2:inS sFig d=true
   ·rw[if_pos q2]at h
    obtain⟨q,h1,h2⟩:=Option.map_eq_some_iff.mp h
    cases h2
    exact dw_le _ _
   ·rw[if_neg q2]at h;cases h
theorem zcr{r r':List Nat}{k:TK}(h:pTok r=some (k,r')):r'.length<r.length:=by
 cases r with
 |nil=>cases h
 |cons c r=>
  unfold pTok at h
  dsimp only at h
  by_cases q1:inS sName c=true∧inS sFig c=false
  ·rw[if_pos q1]at h
   cases h
   rw[(zb0 q1.1).2]
   exact Nat.lt_succ_of_le (dw_le _ _)
  rw[if_neg q1]at h
  by_cases q2:inS sFig c=true
  ·rw[if_pos q2]at h
   cases hp:pInt ((c::r).takeWhile (inS sFig))with
   |none=>rw[hp]at h;cases h
   |some v=>
    rw[hp]at h
    dsimp only at h
    by_cases q3:512<bits v
    ·rw[if_pos q3]at h;cases h
    ·rw[if_neg q3]at h
     cases h
     rw[(zb0 q2).2]
     exact Nat.lt_succ_of_le (dw_le _ _)
  rw[if_neg q2]at h
  by_cases q3:c=34
  ·rw[if_pos q3]at h
   obtain⟨q,h1,h2⟩:=Option.map_eq_some_iff.mp h
   cases h2
   exact Nat.lt_succ_of_lt (zcf _ h1)
  rw[if_neg q3]at h
  by_cases q4:c=36
  ·rw[if_pos q4]at h
   exact Nat.lt_succ_of_le (pDollar_shrink h)
  ·rw[if_neg q4]at h
   obtain⟨q,h1,h2⟩:=Option.map_eq_some_iff.mp h
   cases h2
   exact pSign_shrink h1
theorem pS_fuel:∀(m m':Nat)(r:List Nat),r.length<m→r.length<m'→pS m r=pS m' r:=by
 intro m
 induction m with
 |zero=>intro m' r h;exact absurd h (Nat.not_lt_zero _)
 |succ m ih=>
  intro m' r h h'
  cases m' with
  |zero=>exact absurd h' (Nat.not_lt_zero _)
  |succ m'=>
   cases r with
   |nil=>rfl
   |cons c r=>
    unfold pS
    cases he:pTok (c::r)with
    |none=>rfl
    |some q=>
     obtain⟨k,r'⟩:=q
     have h1:=zcr he
     have h2:=dw_le (inS zag) r'
     dsimp only
     rw[ih m' (r'.dropWhile (inS zag)) (by lia) (by lia)]
noncomputable def pSc(r:List Nat):Option (List TK):=pS (r.length+1) r
theorem pSc_nil:pSc []=some [.fin]:=rfl
theorem pSc_cons(c:Nat)(r:List Nat):pSc (c::r)=match pTok (c::r)with
  |none=>none
  |some (k,r')=>(pSc (r'.dropWhile (inS zag))).map (k:: ·):=by
 show pS (r.length+1+1) (c::r)=_
 rw[pS]
 cases he:pTok (c::r)with
 |none=>rfl
 |some q=>
  obtain⟨k,r'⟩:=q
  have h1:=zcr he
  have h2:=dw_le (inS zag) r'
  rw[List.length_cons]at h1
  dsimp only
  rw[pS_fuel (r.length+1) ((r'.dropWhile (inS zag)).length+1) _ (by lia) (by lia)]
  rfl
noncomputable def pScan(t:List Nat):Option (List TK):=pSc (t.dropWhile (inS zag))
noncomputable def partP(p:TK×Int):Addr×List (Nat×PyData):=(267,partF p.1 p.2)
theorem frozen_parts:∀{ps:List (TK×Int)},ps≠ []→zca (ps.map partV)=some (.fl (ps.map partP)):=by
 intro ps h
 have h1:allD (ps.map partV)=none:=by
  cases ps with
  |nil=>exact absurd rfl h
  |cons p r=>rfl
 have h2:∀ps:List (TK×Int),allF (ps.map partV)=some (ps.map partP):=by
  intro ps
  induction ps with
  |nil=>rfl
  |cons p r ih=>exact congrArg (Option.map (partP p:: ·)) ih
 unfold zca
 rw[h1,h2];rfl
theorem dollar_arg{y:List Nat}{v:Int}(h:∀r,y≠36::r)(hf:y.takeWhile (inS sFig)≠ [])(hv:PySem.intText? (tx (y.takeWhile (inS sFig)))=some v):zce y=some (.arg v,y.dropWhile (inS sFig)):=by
 cases y with
 |nil=>exact absurd rfl hf
 |cons c r=>
  have hc:inS sFig c=true:=by
   cases q:inS sFig c with
   |true=>rfl
   |false=>exact absurd (tw_stop q).1 hf
  unfold zce
  dsimp only
  rw[if_neg (fun q=>h r (by rw[q])),if_pos hc]
  unfold pInt
  rw[hv];rfl
theorem dollar_none{y:List Nat}(h:∀r,y≠36::r)(hf:y.takeWhile (inS sFig)=[]):zce y=none:=by
 cases y with
 |nil=>rfl
 |cons c r=>
  have hc:inS sFig c=false:=by
   cases q:inS sFig c with
   |false=>rfl
   |true=>rw[(zb0 q).1]at hf;cases hf
  unfold zce
  dsimp only
  rw[if_neg (fun q=>h r (by rw[q])),if_neg (by rw[hc];decide)]
theorem tok_name{c:Nat}{y:List Nat}(h1:inS sName c=true)(h2:inS sFig c=false):pTok (c::y)=some (.name ((c::y).takeWhile (inS sName)),(c::y).dropWhile (inS sName)):=if_pos ⟨h1,h2⟩
theorem tok_num{c:Nat}{y:List Nat}{v:Int}(hf:(c::y).takeWhile (inS sFig)≠ [])(hv:PySem.intText? (tx ((c::y).takeWhile (inS sFig)))=some v):pTok (c::y)=if 512<bits v then none else some (TK.num v,(c::y).dropWhile (inS sFig)):=by
 have hc:inS sFig c=true:=by
  cases q:inS sFig c with
  |true=>rfl
  |false=>exact absurd (tw_stop q).1 hf
 refine(if_neg fun z=>Bool.noConfusion (hc.symm.trans z.2)).trans ((if_pos hc).trans ?_)
 unfold pInt
 rw[hv]
theorem tok_rest{c:Nat}{y:List Nat}(hf:(c::y).takeWhile (inS sFig)=[])(hn:inS sName c=false∨inS sFig c=true):pTok (c::y)=if c=34 then(zay y).map fun q=>(TK.text q.1,q.2)else if c=36 then zce y else(pSign (c::y)).map fun q=>(.sign q.1,q.2):=by
 have hc:inS sFig c=false:=by
  cases q:inS sFig c with
  |false=>rfl
  |true=>rw[(zb0 q).1]at hf;cases hf
 refine(if_neg fun z=>?_).trans (if_neg (Bool.eq_false_iff.mp hc))
 rcases hn with q|q
 ·exact Bool.noConfusion (q.symm.trans z.1)
 ·exact Bool.noConfusion (hc.symm.trans q)
noncomputable def ScS(t:List Nat)(j:Nat)(x1 x2 x3 x4:AV)(l:List AV):St:=⟨[(1, .d (.str (tx t))),(21, .ref 0),(24, .ref 1),(22,x1),(25,x2),(23,x3),(26,x4)],[cur t j, .list l]⟩
noncomputable def ScI(t r0:List Nat)(σ':St):Prop:=∃(ps:List (TK×Int))(j:Nat)(y:List Nat)(x1 x2 x3 x4:AV),At t j y∧(pSc r0=(pSc y).map fun l=>ps.map (·.1)++l)∧ps.length+y.length≤4000∧σ'=ScS t j x1 x2 x3 x4 (ps.map partV)
noncomputable def ScM(t:List Nat)(σ':St):Nat:=match σ'.obj with
 | .inst _ [_,(_, .d (.int j))]::_=>t.length-j.toNat
 |_=>0
theorem parts_app(ps:List (TK×Int))(p:TK×Int):(ps.map partV)++[partV p]=(ps++[p]).map partV:=by rw[List.map_append];rfl
theorem sc_go{t r0 y' r':List Nat}{c j i':Nat}{k:TK}{ps:List (TK×Int)}{z1 z2 z3 z4 x1 x2 x3 x4:AV}{o:Int}(ay:At t j (c::y'))(hq:pSc r0=(pSc (c::y')).map fun l=>ps.map (·.1)++l)(hlen:ps.length+(y'.length+1)≤4000)(hk:pTok (c::y')=some (k,r'))
  (a2:At t (i'+(r'.takeWhile (inS zag)).length) (r'.dropWhile (inS zag))):
  ScI t r0 (ScS t (i'+(r'.takeWhile (inS zag)).length) x1 x2 x3 x4 (ps.map partV++[partV (k,o)]))∧ScM t (ScS t (i'+(r'.takeWhile (inS zag)).length) x1 x2 x3 x4 (ps.map partV++[partV (k,o)]))<ScM t (ScS t j z1 z2 z3 z4 (ps.map partV)):=by
 have h3:(r'.dropWhile (inS zag)).length<y'.length+1:=Nat.lt_of_le_of_lt (dw_le (inS zag) r') (zcr hk)
 have l1:j+(y'.length+1)=t.length:=ay.len
 have l2:=a2.len
 refine⟨⟨ps++[(k,o)],_,_,x1,x2,x3,x4,a2,?_,?_,by rw[parts_app]⟩,?_⟩
 ·rw[hq,pSc_cons,hk,Option.map_map]
  refine congrArg (fun f=>Option.map f _) (funext fun l=>?_)
  show ps.map (·.1)++k::l=(ps++[(k,o)]).map (·.1)++l
  rw[List.map_append,List.append_assoc];rfl
 ·rw[List.length_append]
  show ps.length+1+_≤_
  lia
 ·show t.length-(i'+(r'.takeWhile (inS zag)).length)<t.length-j
  lia
section
variable{n:Nat}{t r:List Nat}{i:Nat}{Φ:AV→Option AO→Prop}{Ξ:Int→Prop}
theorem c_scan_action(hl:t.length≤4000)(hdg:Dig t)(h1:∀ps:List (TK×Int),pScan t=some (ps.map (·.1))→Φ (.fl (ps.map partP)) none)(h0:pScan t=none→∀o:Int,0≤o→o≤t.length→Ξ o):
  Cal (n+7) 7 [.d (.str (tx t))] none Φ Ξ:=by
 refine zaa rfl (c_Cursor_init (t:=t) (zau (t:=t) (i:=0) hl (At.start t) fun a0=>?_))
 refine Exists.intro (ScI t (t.dropWhile (inS zag))) (Exists.intro (ScM t) (And.intro ⟨[],_,_, .no, .no, .no, .no,a0,by cases pSc (t.dropWhile (inS zag))<;>rfl,(Nat.zero_add _).symm▸Nat.le_trans (dw_le _ _) hl,rfl⟩ ?_))
 rintro σ' ⟨ps,j,y,x1,x2,x3,x4,ay,hq,hlen,rfl⟩
 have szp:(ps.map partV).length<sizeLine:=by rw[List.length_map,sizeLine_eq];exact Nat.lt_of_le_of_lt (Nat.le_trans (Nat.le_add_right _ _) hlen) (by decide)
 refine zgj (t:=t) (l20 hl) (br_i (fun e=>?_) (fun e=>?_))
 ·have hj:=mn (bnt e)
  obtain⟨c,hc⟩:∃c,t[j]?=some c:=⟨_,List.getElem?_eq_getElem hj⟩
  obtain⟨y',rfl⟩:=ay.hd hc
  have bad:pTok (c::y')=none→pScan t=none:=fun hk=>by
   rw[pSc_cons,hk]at hq
   exact hq
  refine c_name (t:=t) hl ay (fun hn=>?_) fun c' r' hr hc1 hc2 an=>?_
  ·refine c_number (t:=t) hl hdg ay (fun hf=>?_) fun v hv hf an=>?_
   ·have hp:=tok_rest hf (hn c y' rfl)
    refine c_skip (t:=t) [34] (l20 hl) (by decide) ay (fun hn34=>?_) fun r' hr ar=>?_
    ·have hc34:c≠34:=fun q=>hn34 y' (by rw[q];rfl)
     rw[if_neg hc34]at hp
     refine c_skip (t:=t) [36] (l20 hl) (by decide) ay (fun hn36=>?_) fun r' hr ar=>?_
     ·have hc36:c≠36:=fun q=>hn36 y' (by rw[q];rfl)
      rw[if_neg hc36]at hp
      exact c_scan_sign (t:=t) hl ay (fun w r' k hk ak=>And.intro szp (zau (t:=t) hl ak fun a2=>sc_go ay hq hlen (by rw[hp,hk];rfl) a2)) fun hk=>h0 (bad (by rw[hp,hk];rfl))
     ·obtain⟨rfl,rfl⟩:=List.cons.inj hr
      rw[if_pos rfl]at hp
      exact c_scan_dollar (t:=t) hl hdg ar
       (fun r'' hr2 a3=>And.intro szp (zau (t:=t) hl a3 fun a2=>sc_go ay hq hlen (by rw[hp,hr2];rfl) a2))
       (fun hn36 v hv hf a3=>And.intro szp (zau (t:=t) hl a3 fun a2=>sc_go ay hq hlen (hp.trans (dollar_arg hn36 hf hv)) a2))
       (fun hn36 hf=>h0 (bad (hp.trans (dollar_none hn36 hf))))
    ·obtain⟨rfl,rfl⟩:=List.cons.inj hr
     rw[if_pos rfl]at hp
     exact c_quoted (t:=t) hl ar (fun hq0 k=>zcn hl (h0 (bad (by rw[hp,hq0];rfl)))) fun s r'' k hq1 ak=>zaw (And.intro szp (zau (t:=t) hl ak fun a2=>sc_go (k:= .text s) ay hq hlen (by rw[hp,hq1];rfl) a2))
   ·have hp:=tok_num hf hv
    refine br_i (fun e=>zcn hl (h0 (bad (hp.trans (if_pos (of_decide_eq_true e)))))) (fun e=>zaw (And.intro szp (zau (t:=t) hl an fun a2=>sc_go (k:= .num v) ay hq hlen (hp.trans (if_neg (of_decide_eq_false e))) a2)))
  ·cases hr
   have hne:(tx ((c::y').takeWhile (inS sName))==Str.ofString "")=false:=by
    rw[os_tx,zhj,(zb0 hc1).1];rfl
   refine br_i (fun e=>Bool.noConfusion (hne.symm.trans e)) (fun _=>br_i (fun _=>zaw (And.intro szp (zau (t:=t) hl an fun a2=>sc_go (k:= .name ((c::y').takeWhile (inS sName))) ay hq hlen (tok_name hc1 hc2) a2))) (fun e=>Bool.noConfusion ((bnf e).symm.trans hne)))
 ·have hy:y=[]:=by
   cases y with
   |nil=>rfl
   |cons c y'=>exact absurd ay.cons.2.2 (Nat.not_lt.mpr (ml (bnf e)))
  subst hy
  refine And.intro (n62 (l20 hl)) (zaw (k:=Str.ofString "end") (w:= .none) (o:=((tx t).length:Int)) (And.intro szp (Exists.intro (.fl ((ps++[(TK.fin,((tx t).length:Int))]).map partP)) (And.intro ((congrArg zca (parts_app ps (TK.fin,((tx t).length:Int)))).trans (frozen_parts (by simp))) (h1 _ ?_)))))
  show pSc _=_
  rw[hq,pSc_nil,List.map_append];rfl
end
inductive Ex where
 |num(v:Int)
 |text(s:List Nat)
 |arg(v:Int)
 |own
 |name(s:List Nat)
 |apply(w:List Nat)(l:List Ex)
 |list(l:List Ex)
 |one(s:List Nat)(e:Ex)
 |two(s:List Nat)(a b:Ex)
 |both(a b:Ex)
 |either(a b:Ex)
inductive Stm where
 |set(e:Ex)
 |name(s:List Nat)(e:Ex)
 |call(e:Ex)
 |word(s:List Nat)
 |whl(e:Ex)(l:List Stm)
 |ifs(e:Ex)(l m:List Stm)
noncomputable def ps(s:String):PyData:= .str (Str.ofString s)
mutual
noncomputable def Ex.py:Ex→PyData
 | .num v=> .tuple [ps "number", .int v]
 | .text s=> .tuple [ps "text", .str (tx s)]
 | .arg v=> .tuple [ps "arg", .int v]
 | .own=> .tuple [ps "own"]
 | .name s=> .tuple [ps "name", .str (tx s)]
 | .apply w l=> .tuple [ps "apply", .str (tx w), .list (Ex.pys l)]
 | .list l=> .tuple [ps "list", .list (Ex.pys l)]
 | .one s e=> .tuple [ps "one", .str (tx s),e.py]
 | .two s a b=> .tuple [ps "two", .str (tx s),a.py,b.py]
 | .both a b=> .tuple [ps "both",a.py,b.py]
 | .either a b=> .tuple [ps "either",a.py,b.py]
noncomputable def Ex.pys:List Ex→List PyData
 | []=> []
 |e::r=>e.py::Ex.pys r
end
mutual
noncomputable def Stm.py:Stm→PyData
 | .set e=> .tuple [ps "set",e.py]
 | .name s e=> .tuple [ps "name", .str (tx s),e.py]
 | .call e=> .tuple [ps "call",e.py]
 | .word s=> .tuple [ps "word", .str (tx s)]
 | .whl e l=> .tuple [ps "while",e.py, .list (Stm.pys l)]
 | .ifs e l m=> .tuple [ps "if",e.py, .list (Stm.pys l), .list (Stm.pys m)]
noncomputable def Stm.pys:List Stm→List PyData
 | []=> []
 |e::r=>e.py::Stm.pys r
end
set_option genCtorIdx true in
inductive Res(α:Type) where
 |ok(a:α)(ts:List TK)
 |err
 |oof
noncomputable def lvl(s:List Nat):Int:=(zdd.lookup (tx s)).getD 0
noncomputable def lvlOf:TK→Int
 | .sign w=>lvl w
 |_=>0
noncomputable def sgOf:TK→List Nat
 | .sign w=>w
 |_=> []
noncomputable def joinE(s:List Nat)(a b:Ex):Ex:=if s=[124,124]then .either a b else if s=[38,38]then .both a b else .two s a b
noncomputable def isFin:TK→Bool
 | .fin=>true
 |_=>false
noncomputable def isSg(s:List Nat):List TK→Bool
 | .sign w::_=>w==s
 |_=>false
noncomputable def zbh:List (List Nat):=["yyerrok","yyclearin","YYERROR","YYABORT","YYACCEPT"].map fun s=>(Str.ofString s).cps.toList
noncomputable def ifL:List Nat:=(Str.ofString "if").cps.toList
noncomputable def elseL:List Nat:=(Str.ofString "else").cps.toList
noncomputable def za7:List Nat:=(Str.ofString "while").cps.toList
noncomputable def zac:List (List Nat):=[ifL,elseL,za7]++zbh
noncomputable def eLoop(pe:Int→List TK→Res Ex)(least:Int):Nat→Ex→Bool→List TK→Res Ex
 |0,_,_,_=> .oof
 |_+1,_,_,[]=> .oof
 |m+1,left,cmp,k::r=>if lvlOf k=0∨lvlOf k<least then .ok left (k::r)else if lvlOf k=3∧cmp=true then .err else match pe (lvlOf k+1) r with
  | .ok right ts'=>eLoop pe least m (joinE (sgOf k) left right) (decide (lvlOf k=3)) ts'
  | .err=> .err
  | .oof=> .oof
noncomputable def iLoop(pe:List TK→Res Ex)(e:List Nat):Nat→List Ex→List TK→Res (List Ex)
 |0,_,_=> .oof
 |m+1,acc,ts=>match pe ts with
  | .ok x ts'=>if isSg e ts' then .ok (acc++[x]) (ts'.drop 1)else match ts' with
   | []=> .oof
   |_::r=>if isSg [44] ts' then iLoop pe e m (acc++[x]) r else .err
  | .err=> .err
  | .oof=> .oof
mutual
noncomputable def pE:Nat→Int→List TK→Res Ex
 |0,_,_=> .oof
 |n+1,least,ts=>match pU n ts with
  | .ok e ts'=>eLoop (pE n) least (ts'.length+1) e false ts'
  | .err=> .err
  | .oof=> .oof
noncomputable def pU:Nat→List TK→Res Ex
 |0,_=> .oof
 |n+1,ts=>if isSg [45] ts||isSg [33] ts then match pU n (ts.drop 1)with
   | .ok e ts'=> .ok (.one (sgOf (ts.headD .fin)) e) ts'
   | .err=> .err
   | .oof=> .oof
  else pA n ts
noncomputable def pA:Nat→List TK→Res Ex
 |0,_=> .oof
 |n+1,ts=>match ts with
  | []=> .oof
  | .num v::r=> .ok (.num v) r
  | .text s::r=> .ok (.text s) r
  | .arg v::r=> .ok (.arg v) r
  | .own::r=> .ok .own r
  | .name s::r=>if zac.contains s then .err else if isSg [40] r then match pI n [41] (r.drop 1)with
    | .ok l ts'=> .ok (.apply s l) ts'
    | .err=> .err
    | .oof=> .oof
   else .ok (.name s) r
  | .sign w::r=>if w=[91]then match pI n [93] r with
    | .ok l ts'=> .ok (.list l) ts'
    | .err=> .err
    | .oof=> .oof
   else if w=[40]then match pE n 1 r with
    | .ok e ts'=>if isSg [41] ts' then .ok e (ts'.drop 1)else match ts' with
     | []=> .oof
     |_=> .err
    | .err=> .err
    | .oof=> .oof
   else .err
  | .fin::_=> .err
noncomputable def pI:Nat→List Nat→List TK→Res (List Ex)
 |0,_,_=> .oof
 |n+1,e,ts=>if isSg e ts then .ok [] (ts.drop 1)else iLoop (pE n 1) e (ts.length+1) [] ts
end
noncomputable def sLoop(psm:List TK→Res Stm):Nat→List Stm→List TK→Res (List Stm)
 |0,_,_=> .oof
 |_+1,_,[]=> .oof
 |m+1,acc,k::r=>if isFin k||isSg [125] (k::r)then .ok acc (k::r)else match psm (k::r)with
  | .ok x ts'=>if isSg [59] ts' then sLoop psm m (acc++[x]) (ts'.drop 1)else .ok (acc++[x]) ts'
  | .err=> .err
  | .oof=> .oof
noncomputable def needS(s:List Nat):List TK→Res Unit
 | []=> .oof
 |k::r=>if isSg s (k::r)then .ok () r else .err
mutual
noncomputable def pSs:Nat→List TK→Res (List Stm)
 |0,_=> .oof
 |n+1,ts=>sLoop (pStm n) (ts.length+1) [] ts
noncomputable def za0:Nat→List TK→Res (List Stm)
 |0,_=> .oof
 |n+1,ts=>match needS [123] ts with
  | .ok _ ts1=>match pSs n ts1 with
   | .ok l ts2=>match needS [125] ts2 with
    | .ok _ ts3=> .ok l ts3
    | .err=> .err
    | .oof=> .oof
   | .err=> .err
   | .oof=> .oof
  | .err=> .err
  | .oof=> .oof
noncomputable def pCond:Nat→List TK→Res Ex
 |0,_=> .oof
 |n+1,ts=>match needS [40] ts with
  | .ok _ ts1=>match pE n 1 ts1 with
   | .ok l ts2=>match needS [41] ts2 with
    | .ok _ ts3=> .ok l ts3
    | .err=> .err
    | .oof=> .oof
   | .err=> .err
   | .oof=> .oof
  | .err=> .err
  | .oof=> .oof
noncomputable def zb3:Nat→List TK→Res Stm
 |0,_=> .oof
 |n+1,ts=>match pCond n ts with
  | .ok e ts1=>match za0 n ts1 with
   | .ok l ts2=>match ts2 with
    | []=> .oof
    | .name s::r=>if s=elseL then match za0 n r with
      | .ok m ts3=> .ok (.ifs e l m) ts3
      | .err=> .err
      | .oof=> .oof
     else .ok (.ifs e l []) ts2
    |_=> .ok (.ifs e l []) ts2
   | .err=> .err
   | .oof=> .oof
  | .err=> .err
  | .oof=> .oof
noncomputable def pStm:Nat→List TK→Res Stm
 |0,_=> .oof
 |n+1,ts=>match ts with
  | []=> .oof
  | .own::r=>if isSg [61] r then match pE n 1 (r.drop 1)with
    | .ok e ts'=> .ok (.set e) ts'
    | .err=> .err
    | .oof=> .oof
   else match pE n 1 ts with
    | .ok e ts'=> .ok (.call e) ts'
    | .err=> .err
    | .oof=> .oof
  | .name s::r=>if zbh.contains s then .ok (.word s) r
   else if s=ifL then zb3 n r
   else if s=za7 then match pCond n r with
    | .ok e ts1=>match za0 n ts1 with
     | .ok l ts2=> .ok (.whl e l) ts2
     | .err=> .err
     | .oof=> .oof
    | .err=> .err
    | .oof=> .oof
   else if !zac.contains s&&isSg [61] r then match pE n 1 (r.drop 1)with
    | .ok e ts'=> .ok (.name s e) ts'
    | .err=> .err
    | .oof=> .oof
   else match pE n 1 ts with
    | .ok e ts'=> .ok (.call e) ts'
    | .err=> .err
    | .oof=> .oof
  |_=>match pE n 1 ts with
   | .ok e ts'=> .ok (.call e) ts'
   | .err=> .err
   | .oof=> .oof
end
noncomputable def zdc(n:Nat)(ts:List TK):Res (List Stm):=match pSs n ts with
 | .ok l ts'=>match ts' with
  | []=> .oof
  | .fin::_=> .ok l ts'
  |_=> .err
 | .err=> .err
 | .oof=> .oof
set_option genCtorIdx true in
inductive PRes where
 |ok(l:List Stm)
 |err
 |oof
noncomputable def zal(n:Nat)(t:List Nat):PRes:=match pScan t with
 |none=> .err
 |some ts=>match zdc n ts with
  | .ok l _=> .ok l
  | .err=> .err
  | .oof=> .oof
noncomputable def rdr(t:List Nat)(ps:List (TK×Int))(i:Nat):AO:= .inst 436 [(1, .d (.str (tx t))),(24, .fl (ps.map partP)),(40, .d (.int i))]
noncomputable def RAt(ps:List (TK×Int))(i:Nat)(ts:List TK):Prop:=i≤ps.length∧(ps.drop i).map (·.1)=ts
theorem RAt.cons{ps:List (TK×Int)}{i:Nat}{k:TK}{ts:List TK}(h:RAt ps i (k::ts)):∃o,ps[i]?=some (k,o)∧RAt ps (i+1) ts∧i<ps.length:=by
 obtain⟨h1,h2⟩:=h
 have hl:i<ps.length:=by
  have:=congrArg List.length h2
  rw[List.length_map,List.length_drop,List.length_cons]at this
  omega
 have e:=List.drop_eq_getElem_cons hl
 rw[e,List.map_cons]at h2
 injection h2 with e1 e2
 exact⟨ps[i].2,by rw[List.getElem?_eq_getElem hl,←e1],⟨hl,e2⟩,hl⟩
theorem RAt.len{ps:List (TK×Int)}{i:Nat}{ts:List TK}(h:RAt ps i ts):i+ts.length=ps.length:=by
 obtain⟨h1,h2⟩:=h
 rw[←h2,List.length_map,List.length_drop];omega
theorem RAt.get{ps:List (TK×Int)}{i:Nat}{ts:List TK}(h:RAt ps i ts)(a:Nat):(ps[i+a]?).map (·.1)=ts[a]?:=by
 rw[←h.2,List.getElem?_map,List.getElem?_drop]
theorem k_sign(k:TK):(k.kind==Str.ofString "sign")=(match k with| .sign _=>true|_=>false):=by cases k<;>first|exact beq_self_eq_true _|(refine Eq.trans (b:=false) ?_ rfl;show(Str.ofString _==Str.ofString _)=false;decide+kernel)
theorem k_end(k:TK):(k.kind==Str.ofString "end")=isFin k:=by cases k<;>first|exact beq_self_eq_true _|(refine Eq.trans (b:=false) ?_ rfl;show(Str.ofString _==Str.ofString _)=false;decide+kernel)
theorem k_name(k:TK):(k.kind==Str.ofString "name")=(match k with| .name _=>true|_=>false):=by cases k<;>first|exact beq_self_eq_true _|(refine Eq.trans (b:=false) ?_ rfl;show(Str.ofString _==Str.ofString _)=false;decide+kernel)
theorem k_own(k:TK):(k.kind==Str.ofString "own")=(match k with| .own=>true|_=>false):=by cases k<;>first|exact beq_self_eq_true _|(refine Eq.trans (b:=false) ?_ rfl;show(Str.ofString _==Str.ofString _)=false;decide+kernel)
noncomputable def Er(t:List Nat)(Ξ:Int→Prop):Prop:=∀o:Int,0≤o→o≤t.length→Ξ o
noncomputable def isAt(s:List Nat)(a:Nat)(ts:List TK):Bool:=match ts[a]? with
 |some (.sign w)=>w==s
 |_=>false
theorem isAt0(s:List Nat)(ts:List TK):isAt s 0 ts=isSg s ts:=by
 cases ts with
 |nil=>rfl
 |cons k r=>cases k<;>rfl
theorem isAt1(s:List Nat)(k:TK)(ts:List TK):isAt s 1 (k::ts)=isSg s ts:=by
 show isAt s 0 ts=_
 exact isAt0 s ts
section
variable{n:Nat}{t:List Nat}{ps:List (TK×Int)}{ts:List TK}{k:TK}{i:Nat}{Φ:AV→Option AO→Prop}{Ξ:Int→Prop}
theorem c_Reader_init(hl:t.length≤4000)(hdg:Dig t)(h1:∀ps:List (TK×Int),pScan t=some (ps.map (·.1))→Φ (.d .none) (some (rdr t ps 0)))(h0:pScan t=none→Er t Ξ):
  Cal (n+9) 203 [.ref 0, .d (.str (tx t))] (some (.inst 436 [])) Φ Ξ:=
 zd3 rfl (c_scan_action hl hdg h1 h0)
theorem p62{a m:Nat}(h:a<m)(hm:m≤4001):(0:Int)≤a∧(a:Int)<2^62:=i62 h (Nat.le_trans hm (by decide))
theorem part_at{a:Nat}{p:TK×Int}(h:ps[a]?=some p):(ps.map partP)[((a:Int)).toNat]?=some (partP p):=by
 show(ps.map partP)[a]?=_
 rw[List.getElem?_map,h];rfl
theorem zd8(hp:ps.length≤4001)(a:RAt ps i (k::ts))(h:∀o,Φ (.fi 267 (partF k o)) (some (rdr t ps i))):Cal (n+1) 112 [.ref 0] (some (rdr t ps i)) Φ Ξ:=by
 obtain⟨o,e,_,hlt⟩:=a.cons
 exact zaa rfl (Exists.intro (partP (k,o)) (And.intro ⟨(p62 hlt hp).1,(p62 hlt hp).2,part_at e⟩ (h o)))
theorem ze4{w:Str}(hl:t.length≤4000)(hp:ps.length≤4001)(a:RAt ps i (k::ts))(h:Er t Ξ):Cal (n+5) 113 [.ref 0, .d (.str w)] (some (rdr t ps i)) Φ Ξ:=
 zaa rfl (zd8 (t:=t) hp a fun o=>zcn hl h)
theorem isAt_sign{s w:List Nat}{d:Nat}(h:some (TK.sign w)=ts[d]?):isAt s d ts=(tx w==tx s):=by unfold isAt;rw[←h,zhj]
theorem isAt_no{s:List Nat}{d:Nat}(h:some k=ts[d]?)(e:(k.kind==Str.ofString "sign")=false):isAt s d ts=false:=by
 rw[k_sign]at e
 unfold isAt
 rw[←h]
 cases k<;>first|rfl|exact Bool.noConfusion e
theorem isAt_off{s:List Nat}{d:Nat}(h:none=ts[d]?):isAt s d ts=false:=by unfold isAt;rw[←h]
theorem kind_sign(e:(k.kind==Str.ofString "sign")=true):∃w,k= .sign w:=by
 rw[k_sign]at e
 cases k<;>first|exact⟨_,rfl⟩|exact Bool.noConfusion e
theorem zgk{s:List Nat}(d:Nat)(hp:ps.length≤4001)(a:RAt ps i ts)(h:Φ (.d (.bool (isAt s d ts))) (some (rdr t ps i))):
  awBs (Cal n) (bodyF 114) ⟨[(0, .ref 0),(10, .d (.str (tx s))),(8, .d (.int d)),(3, .no)],[rdr t ps i]⟩ (endP (some (rdr t ps i)) Φ) (retP (some (rdr t ps i)) Φ) Ξ:=by
 have hg:=a.get d
 refine And.intro (by rw[List.length_map];exact n62 (Nat.le_trans hp (by decide))) (br_i (fun e=>?_) (fun e=>?_))
 ·have hi:i+d<ps.length:=List.length_map (as:=ps) partP▸nn (a:=i+d) e
  obtain⟨p,hk⟩:∃p,ps[i+d]?=some p:=⟨_,List.getElem?_eq_getElem hi⟩
  have b:(0:Int)≤(i:Int)+d∧(i:Int)+d<2^62∧(ps.map partP)[((i:Int)+d).toNat]?=some (partP p):=⟨(p62 hi hp).1,(p62 hi hp).2,part_at hk⟩
  rw[hk]at hg
  refine Exists.intro (partP p) (And.intro b (br_i (fun e2=>?_) (fun e2=>?_)))
  ·obtain⟨k,o⟩:=p
   obtain⟨w,rfl⟩:=kind_sign (k:=k) e2
   rw[isAt_sign hg]at h
   exact Exists.intro (partP (.sign w,o)) (And.intro b h)
  ·rw[isAt_no hg e2]at h
   exact h
 ·have hi:ps.length≤i+d:=List.length_map (as:=ps) partP▸nl (a:=i+d) e
  rw[List.getElem?_eq_none hi]at hg
  rw[isAt_off hg]at h
  exact h
theorem c_is_sign{s:List Nat}(d:Nat)(hp:ps.length≤4001)(a:RAt ps i ts)(h:Φ (.d (.bool (isAt s d ts))) (some (rdr t ps i))):Cal (n+1) 114 [.ref 0, .d (.str (tx s)), .d (.int d)] (some (rdr t ps i)) Φ Ξ:=
 zaa rfl (zgk d hp a h)
theorem zd2{s:List Nat}(hp:ps.length≤4001)(a:RAt ps i ts)(h:Φ (.d (.bool (isSg s ts))) (some (rdr t ps i))):Cal (n+1) 114 [.ref 0, .d (.str (tx s))] (some (rdr t ps i)) Φ Ξ:=
 zaa rfl (zgk 0 hp a (by rw[isAt0];exact h))
theorem sg_is{s:List Nat}{ts:List TK}(e:isSg s ts=true):∃r,ts= .sign s::r:=by
 cases ts with
 |nil=>exact Bool.noConfusion e
 |cons k r=>cases k<;>first|exact⟨r,by rw[beq_iff_eq.mp (show(_==_)=true from e)]⟩|exact Bool.noConfusion e
theorem zcs{s:List Nat}(hp:ps.length≤4001)(a:RAt ps i ts)(h1:∀r,ts= .sign s::r→RAt ps (i+1) r→Φ (.d (.bool true)) (some (rdr t ps (i+1))))(h0:isSg s ts=false→Φ (.d (.bool false)) (some (rdr t ps i))):Cal (n+2) 115 [.ref 0, .d (.str (tx s))] (some (rdr t ps i)) Φ Ξ:=by
 refine zaa rfl (zd2 (t:=t) hp a (br_i (fun e=>h0 (bnt e)) (fun e=>?_)))
 obtain⟨r,rfl⟩:=sg_is (bnf e)
 obtain⟨o,_,a2,_⟩:=a.cons
 exact h1 r rfl a2
theorem c_need{s:List Nat}(hs:s.length≤10)(hl:t.length≤4000)(hp:ps.length≤4001)(a:RAt ps i (k::ts))(h1:∀r,k::ts= .sign s::r→RAt ps (i+1) r→Φ (.d .none) (some (rdr t ps (i+1))))(h0:isSg s (k::ts)=false→Er t Ξ):Cal (n+6) 116 [.ref 0, .d (.str (tx s))] (some (rdr t ps i)) Φ Ξ:=by
 refine zaa rfl (zcs (t:=t) hp a h1 fun e=>And.intro ?_ (ze4 (t:=t) hl hp a (h0 e)))
 rw[sizeLine_eq]
 show(Str.ofString "missing ").length+s.length≤_
 exact Nat.le_trans (Nat.add_le_add_left hs _) (by decide+kernel)
theorem zcg(hp:ps.length≤4001)(a:RAt ps i (k::ts))(h:∀o,RAt ps (i+1) ts→Φ (.fi 267 (partF k o)) (some (rdr t ps (i+1)))):Cal (n+2) 117 [.ref 0] (some (rdr t ps i)) Φ Ξ:=by
 obtain⟨_,_,a2,_⟩:=a.cons
 exact zaa rfl (zd8 (t:=t) hp a fun o=>h o a2)
theorem c_is_closed(hp:ps.length≤4001)(a:RAt ps i (k::ts))(h:Φ (.d (.bool (isFin k||isSg [125] (k::ts)))) (some (rdr t ps i))):Cal (n+2) 119 [.ref 0] (some (rdr t ps i)) Φ Ξ:=by
 rw[←k_end]at h
 refine zaa rfl (zd8 (t:=t) hp a fun o=>br_i (fun e=>?_) (fun e=>?_))
 ·rw[show(k.kind==Str.ofString "end")=true from e]at h
  exact h
 ·rw[show(k.kind==Str.ofString "end")=false from e]at h
  exact zd2 (s:=[125]) (t:=t) hp a h
end
theorem zam{s:List Nat}{ts:List TK}(h:isSg s ts=true):∃r,ts= .sign s::r:=by
 cases ts with
 |nil=>cases h
 |cons k r=>
  cases k with
  |sign w=>exact⟨r,by rw[show w=s from beq_iff_eq.mp h]⟩
  |_=>cases h
inductive J where
 |e(l:Int)(x:Ex)
 |u(x:Ex)
 |a(x:Ex)
 |i(s:List Nat)(l:List Ex)
 |lp(l:Int)(y:Ex)(c:Bool)(x:Ex)
 |it(s:List Nat)(m l:List Ex)
 |sl(m l:List Stm)
 |bl(l:List Stm)
 |co(x:Ex)
 |ch(s:Stm)
 |st(s:Stm)
noncomputable def CallT(ts:List TK):Prop:=∀n,pStm (n+1) ts=match pE n 1 ts with
 | .ok e ts'=> .ok (.call e) ts'
 | .err=> .err
 | .oof=> .oof
noncomputable def elseT:TK→Bool
 | .name s=>s==elseL
 |_=>false
structure Closed(P:J→List TK→List TK→Prop):Prop where
 e:∀{l x y ts t1 t},P (.u y) ts t1→P (.lp l y false x) t1 t→P (.e l x) ts t
 stop:∀{l x c k r},(lvlOf k=0∨lvlOf k<l)→P (.lp l x c x) (k::r) (k::r)
 go:∀{l x c y z w r t1 t},¬(lvl w=0∨lvl w<l)→¬(lvl w=3∧c=true)→P (.e (lvl w+1) y) r t1→P (.lp l (joinE w x y) (decide (lvl w=3)) z) t1 t→P (.lp l x c z) (.sign w::r) t
 one:∀{w x r t},w=[45]∨w=[33]→P (.u x) r t→P (.u (.one w x)) (.sign w::r) t
 ua:∀{x ts t},(isSg [45] ts||isSg [33] ts)=false→P (.a x) ts t→P (.u x) ts t
 num:∀{v r},P (.a (.num v)) (.num v::r) r
 text:∀{v r},P (.a (.text v)) (.text v::r) r
 arg:∀{v r},P (.a (.arg v)) (.arg v::r) r
 own:∀{r},P (.a .own) (.own::r) r
 name:∀{s r},zac.contains s=false→isSg [40] r=false→P (.a (.name s)) (.name s::r) r
 app:∀{s l r t},zac.contains s=false→P (.i [41] l) r t→P (.a (.apply s l)) (.name s:: .sign [40]::r) t
 lis:∀{l r t},P (.i [93] l) r t→P (.a (.list l)) (.sign [91]::r) t
 br:∀{x r t},P (.e 1 x) r (.sign [41]::t)→P (.a x) (.sign [40]::r) t
 nil:∀{s r},P (.i s []) (.sign s::r) r
 some:∀{s l ts t},isSg s ts=false→P (.it s [] l) ts t→P (.i s l) ts t
 last:∀{s m x ts t},P (.e 1 x) ts (.sign s::t)→P (.it s m (m++[x])) ts t
 more:∀{s m x l ts t1 t},s≠ [44]→P (.e 1 x) ts (.sign [44]::t1)→P (.it s (m++[x]) l) t1 t→P (.it s m l) ts t
 fin:∀{m k r},(isFin k||isSg [125] (k::r))=true→P (.sl m m) (k::r) (k::r)
 slast:∀{m x k r t},(isFin k||isSg [125] (k::r))=false→isSg [59] t=false→P (.st x) (k::r) t→P (.sl m (m++[x])) (k::r) t
 smore:∀{m x l k r t1 t},(isFin k||isSg [125] (k::r))=false→P (.st x) (k::r) (.sign [59]::t1)→P (.sl (m++[x]) l) t1 t→P (.sl m l) (k::r) t
 bl:∀{l r t},P (.sl [] l) r (.sign [125]::t)→P (.bl l) (.sign [123]::r) t
 co:∀{x r t},P (.e 1 x) r (.sign [41]::t)→P (.co x) (.sign [40]::r) t
 ife:∀{x l m ts t1 t2 t},P (.co x) ts t1→P (.bl l) t1 (.name elseL::t2)→P (.bl m) t2 t→P (.ch (.ifs x l m)) ts t
 ifs:∀{x l ts t1 k r},elseT k=false→P (.co x) ts t1→P (.bl l) t1 (k::r)→P (.ch (.ifs x l [])) ts (k::r)
 set:∀{x r t},P (.e 1 x) r t→P (.st (.set x)) (.own:: .sign [61]::r) t
 nm:∀{s x r t},zac.contains s=false→P (.e 1 x) r t→P (.st (.name s x)) (.name s:: .sign [61]::r) t
 word:∀{s r},zbh.contains s=true→P (.st (.word s)) (.name s::r) r
 cif:∀{s r t},P (.ch s) r t→P (.st s) (.name ifL::r) t
 whl:∀{x l r t1 t},P (.co x) r t1→P (.bl l) t1 t→P (.st (.whl x l)) (.name za7::r) t
 call:∀{x ts t},CallT ts→P (.e 1 x) ts t→P (.st (.call x)) ts t
section
variable{α β:Type}{p:Prop}
theorem rbE(x:Res Ex){f:Ex→List TK→Res β}{b:β}{t:List TK}(h:(match x with| .ok e t=>f e t| .err=> .err| .oof=> .oof)= .ok b t)(k:∀e t1,x= .ok e t1→f e t1= .ok b t→p):p:=by
 cases x with
 |ok e t1=>exact k e t1 rfl h
 |err=>exact nomatch h
 |oof=>exact nomatch h
theorem rbL(x:Res (List Ex)){f:(List Ex)→List TK→Res β}{b:β}{t:List TK}(h:(match x with| .ok e t=>f e t| .err=> .err| .oof=> .oof)= .ok b t)(k:∀e t1,x= .ok e t1→f e t1= .ok b t→p):p:=by
 cases x with
 |ok e t1=>exact k e t1 rfl h
 |err=>exact nomatch h
 |oof=>exact nomatch h
theorem rbS(x:Res Stm){f:Stm→List TK→Res β}{b:β}{t:List TK}(h:(match x with| .ok e t=>f e t| .err=> .err| .oof=> .oof)= .ok b t)(k:∀e t1,x= .ok e t1→f e t1= .ok b t→p):p:=by
 cases x with
 |ok e t1=>exact k e t1 rfl h
 |err=>exact nomatch h
 |oof=>exact nomatch h
theorem rbB(x:Res (List Stm)){f:List Stm→List TK→Res β}{b:β}{t:List TK}(h:(match x with| .ok e t=>f e t| .err=> .err| .oof=> .oof)= .ok b t)(k:∀e t1,x= .ok e t1→f e t1= .ok b t→p):p:=by
 cases x with
 |ok e t1=>exact k e t1 rfl h
 |err=>exact nomatch h
 |oof=>exact nomatch h
theorem ib{c:Prop} [Decidable c]{x y:Res α}{b:α}{t:List TK}(h:(if c then x else y)= .ok b t)(k:c→x= .ok b t→p)(q:¬c→y= .ok b t→p):p:=
 (Classical.em c).elim (fun z=>k z ((if_pos z).symm.trans h)) fun z=>q z ((if_neg z).symm.trans h)
theorem eb{x y:α}{t u:List TK}(h:Res.ok x t= .ok y u)(k:x=y→t=u→p):p:=by cases h;exact k rfl rfl
end
section
variable{P:J→List TK→List TK→Prop}(C:Closed P)
include C
theorem so_lp{pe:Int→List TK→Res Ex}(hp:∀{l ts x t},pe l ts= .ok x t→P (.e l x) ts t){l:Int}:∀(m:Nat){y c ts x t},eLoop pe l m y c ts= .ok x t→P (.lp l y c x) ts t
 |0,_,_,_,_,_,h=>nomatch h
 |m+1,y,c,[],x,t,h=>nomatch h
 |m+1,y,c,k::r,x,t,h=>ib h (fun c1 h=>eb h fun e1 e2=>e1▸e2▸C.stop c1) fun c1 h=>ib h (fun _ h=>nomatch h) fun c2 h=>rbE (pe (lvlOf k+1) r) h fun z t1 h1 h=>by
  cases k with
  |sign w=>exact C.go c1 c2 (hp h1) (so_lp hp m h)
  |_=>exact absurd (.inl rfl) c1
theorem so_it{pe:List TK→Res Ex}(hp:∀{ts x t},pe ts= .ok x t→P (.e 1 x) ts t){s:List Nat}:∀(m:Nat){a ts l t},iLoop pe s m a ts= .ok l t→P (.it s a l) ts t
 |0,_,_,_,_,h=>nomatch h
 |m+1,a,ts,l,t,h=>rbE (pe ts) h fun x t1 h1 h=>ib h (fun c1 h=>eb h fun e1 e2=>by
   obtain⟨r,rfl⟩:=zam c1
   exact e1▸e2▸C.last (hp h1)) fun c1 h=>by
  cases t1 with
  |nil=>exact nomatch h
  |cons k r=>exact ib h (fun c2 h=>by
    obtain⟨r1,e⟩:=zam c2
    obtain⟨rfl,rfl⟩:=List.cons.inj e
    exact C.more (fun q=>c1 (q▸c2)) (hp h1) (so_it hp m h)) fun _ h=>nomatch h
theorem so_sl{ps:List TK→Res Stm}(hp:∀{ts x t},ps ts= .ok x t→P (.st x) ts t):∀(m:Nat){a ts l t},sLoop ps m a ts= .ok l t→P (.sl a l) ts t
 |0,_,_,_,_,h=>nomatch h
 |m+1,a,[],l,t,h=>nomatch h
 |m+1,a,k::r,l,t,h=>ib h (fun c1 h=>eb h fun e1 e2=>e1▸e2▸C.fin c1) fun c1 h=>rbS (ps (k::r)) h fun x t1 h1 h=>ib h (fun c2 h=>by
   obtain⟨r,rfl⟩:=zam c2
   exact C.smore (Bool.eq_false_iff.mpr c1) (hp h1) (so_sl hp m h)) fun c2 h=>eb h fun e1 e2=>e1▸e2▸C.slast (Bool.eq_false_iff.mpr c1) (Bool.eq_false_iff.mpr c2) (hp h1)
omit C
structure So(P:J→List TK→List TK→Prop)(n:Nat):Prop where
 e:∀{l ts x t},pE n l ts= .ok x t→P (.e l x) ts t
 u:∀{ts x t},pU n ts= .ok x t→P (.u x) ts t
 a:∀{ts x t},pA n ts= .ok x t→P (.a x) ts t
 i:∀{s ts l t},pI n s ts= .ok l t→P (.i s l) ts t
include C
theorem so_u{n:Nat}(S:So P n){ts x t}(h:pU (n+1) ts= .ok x t):P (.u x) ts t:=
 ib h (fun c h=>rbE (pU n (ts.drop 1)) h fun y t1 h1 h=>eb h fun e1 e2=>by
  obtain⟨w,r,rfl,hw⟩:∃w r,ts= .sign w::r∧(w=[45]∨w=[33]):=(Bool.or_eq_true_iff.mp c).elim (fun c=>(zam c).elim fun r e=>⟨_,r,e, .inl rfl⟩) fun c=>(zam c).elim fun r e=>⟨_,r,e, .inr rfl⟩
  exact e1▸e2▸C.one hw (S.u h1)) fun c h=>C.ua (Bool.eq_false_iff.mpr c) (S.a h)
theorem so_a{n:Nat}(S:So P n){ts x t}(h:pA (n+1) ts= .ok x t):P (.a x) ts t:=by
 cases ts with
 |nil=>exact nomatch h
 |cons k r=>cases k with
  |num v=>exact eb h fun e1 e2=>e1▸e2▸C.num
  |text v=>exact eb h fun e1 e2=>e1▸e2▸C.text
  |arg v=>exact eb h fun e1 e2=>e1▸e2▸C.arg
  |own=>exact eb h fun e1 e2=>e1▸e2▸C.own
  |fin=>exact nomatch h
  |name s=>exact ib h (fun _ h=>nomatch h) fun c1 h=>ib h (fun c2 h=>by
    obtain⟨r1,rfl⟩:=zam c2
    exact rbL (pI n [41] r1) h fun l t1 h1 h=>eb h fun e1 e2=>e1▸e2▸C.app (Bool.eq_false_iff.mpr c1) (S.i h1)) fun c2 h=>eb h fun e1 e2=>e1▸e2▸C.name (Bool.eq_false_iff.mpr c1) (Bool.eq_false_iff.mpr c2)
  |sign w=>exact ib h (fun c1 h=>by
    subst c1
    exact rbL (pI n [93] r) h fun l t1 h1 h=>eb h fun e1 e2=>e1▸e2▸C.lis (S.i h1)) fun _ h=>ib h (fun c1 h=>by
    subst c1
    exact rbE (pE n 1 r) h fun l t1 h1 h=>ib h (fun c2 h=>by
     obtain⟨r1,rfl⟩:=zam c2
     exact eb h fun e1 e2=>e1▸e2▸C.br (S.e h1)) fun _ h=>by cases t1<;>exact nomatch h) fun _ h=>nomatch h
theorem zgi:∀n,So P n
 |0=>⟨fun h=>(nomatch h),fun h=>(nomatch h),fun h=>(nomatch h),fun h=>(nomatch h)⟩
 |n+1=>have S:=zgi n
  ⟨fun{l ts x t} h=>rbE (pU n ts) h fun y t1 h1 h=>C.e (S.u h1) (so_lp C S.e _ h),so_u C S,so_a C S,fun h=>ib h (fun c h=>by
   obtain⟨r,rfl⟩:=zam c
   exact eb h fun e1 e2=>e1▸e2▸C.nil) fun c h=>C.some (Bool.eq_false_iff.mpr c) (so_it C S.e _ h)⟩
omit C
theorem so_need{β:Type}{s:List Nat}{ts:List TK}{f:Unit→List TK→Res β}{b:β}{t:List TK}{p:Prop}(h:(match needS s ts with| .ok e t=>f e t| .err=> .err| .oof=> .oof)= .ok b t)(k:∀r,ts= .sign s::r→f () r= .ok b t→p):p:=by
 cases ts with
 |nil=>exact nomatch h
 |cons y r=>
  cases c:isSg s (y::r)with
  |true=>
   rw[show needS s (y::r)= .ok () r from if_pos c]at h
   exact(zam c).elim fun r1 e=>k r1 e ((List.cons.inj e).2▸h)
  |false=>
   rw[show needS s (y::r)= .err from if_neg (by rw[c];decide)]at h
   exact nomatch h
structure So2(P:J→List TK→List TK→Prop)(n:Nat):Prop where
 st:∀{ts x t},pStm n ts= .ok x t→P (.st x) ts t
 ss:∀{ts l t},pSs n ts= .ok l t→P (.sl [] l) ts t
 bl:∀{ts l t},za0 n ts= .ok l t→P (.bl l) ts t
 co:∀{ts x t},pCond n ts= .ok x t→P (.co x) ts t
 ch:∀{ts x t},zb3 n ts= .ok x t→P (.ch x) ts t
include C
theorem so_call{n:Nat}{ts x t}(c:CallT ts)(h:pStm (n+1) ts= .ok x t):P (.st x) ts t:=by
 rw[c n]at h
 exact rbE (pE n 1 ts) h fun y t1 h1 h=>eb h fun e1 e2=>e1▸e2▸C.call c ((zgi C n).e h1)
theorem so_st{n:Nat}(S:So2 P n){ts x t}(h:pStm (n+1) ts= .ok x t):P (.st x) ts t:=by
 cases ts with
 |nil=>exact nomatch h
 |cons k r=>cases k with
  |own=>
   cases c:isSg [61] r with
   |false=>exact so_call C (fun n=>show(if isSg [61] r=true then _ else _)=_ from if_neg (by rw[c];decide)) h
   |true=>
    obtain⟨r1,rfl⟩:=zam c
    exact rbE (pE n 1 r1) h fun y t1 h1 h=>eb h fun e1 e2=>e1▸e2▸C.set ((zgi C n).e h1)
  |name s=>exact ib h (fun c h=>eb h fun e1 e2=>e1▸e2▸C.word c) fun c1 h=>ib h (fun c h=>by
    subst c
    exact C.cif (S.ch h)) fun c2 h=>ib h (fun c h=>by
    subst c
    exact rbE (pCond n r) h fun y t1 h1 h=>rbB (za0 n t1) h fun l t2 h2 h=>eb h fun e1 e2=>e1▸e2▸C.whl (S.co h1) (S.bl h2)) fun c3 h=>ib h (fun c h=>by
    obtain⟨q1,q2⟩:=Bool.and_eq_true_iff.mp c
    obtain⟨r1,rfl⟩:=zam q2
    exact rbE (pE n 1 r1) h fun y t1 h1 h=>eb h fun e1 e2=>e1▸e2▸C.nm (Bool.not_eq_true' _▸q1) ((zgi C n).e h1)) fun c4 h=>
     so_call (n:=n) C (fun n=>show(if zbh.contains s=true then _ else if s=ifL then _ else if s=za7 then _ else if(!zac.contains s&&isSg [61] r)=true then _ else _)=_ from(if_neg c1).trans ((if_neg c2).trans ((if_neg c3).trans (if_neg c4)))) ((if_neg c1).trans ((if_neg c2).trans ((if_neg c3).trans ((if_neg c4).trans h))))
  |_=>exact so_call C (fun n=>rfl) h
theorem so_ch{n:Nat}(S:So2 P n){ts x t}(h:zb3 (n+1) ts= .ok x t):P (.ch x) ts t:=
 rbE (pCond n ts) h fun y t1 h1 h=>rbB (za0 n t1) h fun l t2 h2 h=>by
  cases t2 with
  |nil=>exact nomatch h
  |cons k r=>cases k with
   |name s=>exact ib h (fun c h=>by
     subst c
     exact rbB (za0 n r) h fun m t3 h3 h=>eb h fun e1 e2=>e1▸e2▸C.ife (S.co h1) (S.bl h2) (S.bl h3)) fun c h=>eb h fun e1 e2=>e1▸e2▸C.ifs (beq_eq_false_iff_ne.mpr c) (S.co h1) (S.bl h2)
   |_=>exact eb h fun e1 e2=>e1▸e2▸C.ifs rfl (S.co h1) (S.bl h2)
theorem so2_all:∀n,So2 P n
 |0=>⟨fun h=>(nomatch h),fun h=>(nomatch h),fun h=>(nomatch h),fun h=>(nomatch h),fun h=>(nomatch h)⟩
 |n+1=>have S:=so2_all n
  ⟨so_st C S,fun h=>so_sl C S.st _ h,fun h=>so_need h fun r e h=>rbB (pSs n r) h fun l t1 h1 h=>so_need h fun r1 e1 h=>eb h fun e2 e3=>by subst e e1 e2 e3;exact C.bl (S.ss h1),
   fun h=>so_need h fun r e h=>rbE (pE n 1 r) h fun l t1 h1 h=>so_need h fun r1 e1 h=>eb h fun e2 e3=>by subst e e1 e2 e3;exact C.co ((zgi C n).e h1),so_ch C S⟩
theorem so_whole{n:Nat}{ts:List TK}{l:List Stm}{t:List TK}(h:zdc n ts= .ok l t):P (.sl [] l) ts t:=rbB (pSs n ts) h fun y t1 h1 h=>by
 cases t1 with
 |nil=>exact nomatch h
 |cons k r=>cases k with
  |fin=>exact eb h fun e1 e2=>e1▸e2▸(so2_all C n).ss h1
  |_=>exact nomatch h
theorem so_parse{n:Nat}{t:List Nat}{l:List Stm}(h:zal n t= .ok l):∃ts t',pScan t=some ts∧P (.sl [] l) ts t':=by
 unfold zal at h
 revert h
 cases pScan t with
 |none=>exact fun h=>nomatch h
 |some ts=>
  dsimp only
  cases hw:zdc n ts with
  |ok l' t'=>exact fun h=>⟨ts,t',rfl,by cases h;exact so_whole C hw⟩
  |err=>exact fun h=>nomatch h
  |oof=>exact fun h=>nomatch h
end
structure Ms where
 k:TK→Nat
 e:Ex→Nat
 l:List Ex→Nat
 s:Stm→Nat
 b:List Stm→Nat
 join:∀s x y,lvl s≠0→e (joinE s x y)≤e x+k (.sign s)+e y
 one:∀s x,s=[45]∨s=[33]→e (.one s x)≤k (.sign s)+e x
 num:∀v,e (.num v)≤k (.num v)
 text:∀v,e (.text v)≤k (.text v)
 arg:∀v,e (.arg v)≤k (.arg v)
 own:e .own≤k .own
 name:∀w,zac.contains w=false→e (.name w)≤k (.name w)
 app:∀w x,zac.contains w=false→e (.apply w x)≤k (.name w)+k (.sign [40])+l x
 lis:∀x,e (.list x)≤k (.sign [91])+l x
 nil:l []=0
 snoc:∀x a,l (x++[a])≤l x+e a
 set:∀a,s (.set a)≤k .own+k (.sign [61])+e a
 nm:∀w a,zac.contains w=false→s (.name w a)≤k (.name w)+k (.sign [61])+e a
 call:∀a,s (.call a)≤e a
 word:∀w,w∈zbh→s (.word w)≤k (.name w)
 whl:∀a x,s (.whl a x)≤k (.name za7)+k (.sign [40])+e a+k (.sign [41])+k (.sign [123])+b x+k (.sign [125])
 ifs:∀a x,s (.ifs a x [])≤k (.name ifL)+k (.sign [40])+e a+k (.sign [41])+k (.sign [123])+b x+k (.sign [125])
 ife:∀a x y,s (.ifs a x y)≤k (.name ifL)+k (.sign [40])+e a+k (.sign [41])+k (.sign [123])+b x+k (.sign [125])+k (.name elseL)+k (.sign [123])+b y+k (.sign [125])
 bnil:b []=0
 bsnoc:∀x a,b (x++[a])≤b x+s a
section
variable{a b c k m n p q r s t x y z u v w:Nat}
theorem ar_go(h:a≤x+k+y)(g:y+t≤0+r):a+t≤x+(k+r):=by lia
theorem ar_one(h:a≤k+x)(g:x+t≤0+r):a+t≤0+(k+r):=by lia
theorem zeh(h:a≤k):a+r≤0+(k+r):=by lia
theorem ar_two(h:a≤p+q+x)(g:x+t≤0+r):a+t≤0+(p+(q+r)):=by lia
theorem ar_br(g:a+(p+t)≤0+r):a+t≤0+(q+r):=by lia
theorem ar_last(h:a≤m+x)(g:x+(p+t)≤0+s):a+t≤m+s:=by lia
theorem ar_sl(h:a≤m+x)(g:x+t≤0+s):a+t≤m+s:=by lia
theorem ar_bl(e:n=0)(g:b+(q+t)≤n+r):p+b+q+t≤0+(p+r):=by lia
theorem ar_ifs(h:a≤k+p+x+q+u+y+v)(h1:p+x+q+t≤0+s)(h2:u+y+v+r≤0+t):a+r≤k+s:=by lia
theorem ar_ife(h:a≤k+p+x+q+u+y+v+w+u+z+v)(h1:p+x+q+t≤0+s)(h2:u+y+v+(w+c)≤0+t)(h3:u+z+v+r≤0+c):a+r≤k+s:=by lia
end
section
variable(M:Ms)
noncomputable def Ms.K(ts:List TK):Nat:=(ts.map M.k).sum
theorem Ms.K_cons(t:TK)(r:List TK):M.K (t::r)=M.k t+M.K r:=by unfold Ms.K;rw[List.map_cons,List.sum_cons]
noncomputable def Ms.o:J→Nat
 | .e _ x=>M.e x
 | .u x=>M.e x
 | .a x=>M.e x
 | .i _ l=>M.l l
 | .lp _ _ _ x=>M.e x
 | .it _ _ l=>M.l l
 | .sl _ l=>M.b l
 | .bl l=>M.k (.sign [123])+M.b l+M.k (.sign [125])
 | .co x=>M.k (.sign [40])+M.e x+M.k (.sign [41])
 | .ch s=>M.s s
 | .st s=>M.s s
noncomputable def Ms.n:J→Nat
 | .lp _ y _ _=>M.e y
 | .it _ m _=>M.l m
 | .sl m _=>M.b m
 | .ch _=>M.k (.name ifL)
 |_=>0
noncomputable def Ms.P(j:J)(ts t:List TK):Prop:=M.o j+M.K t≤M.n j+M.K ts
theorem zg6:Closed M.P where
 e:=fun h1 h2=>Nat.le_trans h2 h1
 stop:=fun _=>Nat.le_refl _
 go:=fun c1 _ h1 h2=>Nat.le_trans h2 (ar_go (M.join _ _ _ fun q=>c1 (.inl q)) h1)
 one:=fun hw h=>ar_one (M.one _ _ hw) h
 ua:=fun _ h=>h
 num:=zeh (M.num _)
 text:=zeh (M.text _)
 arg:=zeh (M.arg _)
 own:=zeh M.own
 name:=fun h _=>zeh (M.name _ h)
 app:=fun c h=>ar_two (M.app _ _ c) h
 lis:=fun h=>ar_one (M.lis _) h
 br:=fun h=>ar_br h
 nil:=zeh (Nat.le_trans (Nat.le_of_eq M.nil) (Nat.zero_le _))
 some:=fun _ h=>Nat.le_trans h (Nat.add_le_add_right (Nat.le_of_eq M.nil) _)
 last:=fun h=>ar_last (M.snoc _ _) h
 more:=fun _ h1 h2=>Nat.le_trans h2 (ar_last (M.snoc _ _) h1)
 fin:=fun _=>Nat.le_refl _
 slast:=fun _ _ h=>ar_sl (M.bsnoc _ _) h
 smore:=fun _ h1 h2=>Nat.le_trans h2 (ar_last (M.bsnoc _ _) h1)
 bl:=fun h=>ar_bl M.bnil h
 co:=fun h=>ar_bl rfl h
 ife:=fun h1 h2 h3=>ar_ife (M.ife _ _ _) h1 h2 h3
 ifs:=fun _ h1 h2=>ar_ifs (M.ifs _ _) h1 h2
 set:=fun h=>ar_two (M.set _) h
 nm:=fun c h=>ar_two (M.nm _ _ c) h
 word:=fun h=>zeh (M.word _ (List.contains_iff_mem.mp h))
 cif:=fun h=>Nat.le_trans h (Nat.le_of_eq (Nat.zero_add _).symm)
 whl:=fun h1 h2=>Nat.le_trans (ar_ifs (M.whl _ _) h1 h2) (Nat.le_of_eq (Nat.zero_add _).symm)
 call:=fun _ h=>Nat.le_trans (Nat.add_le_add_right (M.call _) _) h
end
noncomputable def mLen:Ms where
 k:=fun _=>1
 e:=fun _=>1
 l:=fun _=>0
 s:=fun _=>1
 b:=fun _=>0
 join:=fun _ _ _ _=>by decide
 one:=fun _ _ _=>by decide
 num:=fun _=>by decide
 text:=fun _=>by decide
 arg:=fun _=>by decide
 own:=by decide
 name:=fun _ _=>by decide
 app:=fun _ _ _=>by decide
 lis:=fun _=>by decide
 nil:=rfl
 snoc:=fun _ _=>by decide
 set:=fun _=>by decide
 nm:=fun _ _ _=>by decide
 call:=fun _=>by decide
 word:=fun _ _=>by decide
 whl:=fun _ _=>by decide
 ifs:=fun _ _=>by decide
 ife:=fun _ _ _=>by decide
 bnil:=rfl
 bsnoc:=fun _ _=>by decide
theorem K_len(ts:List TK):mLen.K ts=ts.length:=by
 induction ts with
 |nil=>rfl
 |cons k r ih=>exact(mLen.K_cons k r).trans ((Nat.add_comm _ _).trans (congrArg (· +1) ih))
theorem len_lt{ts t:List TK}(h:1+mLen.K t≤0+mLen.K ts):t.length<ts.length:=by
 rw[K_len,K_len,Nat.add_comm,Nat.zero_add]at h
 exact h
theorem e_lt{n:Nat}{l:Int}{ts t:List TK}{x:Ex}(h:pE n l ts= .ok x t):t.length<ts.length:=len_lt ((zgi (zg6 mLen) n).e h)
theorem st_lt{n:Nat}{ts t:List TK}{x:Stm}(h:pStm n ts= .ok x t):t.length<ts.length:=len_lt ((so2_all (zg6 mLen) n).st h)
noncomputable def RP(x:Res Ex)(t:List Nat)(ps:List (TK×Int))(Φ:AV→Option AO→Prop)(Ξ:Int→Prop):Prop:=match x with
 | .ok e ts'=>∀i',RAt ps i' ts'→Φ (.d e.py) (some (rdr t ps i'))
 | .err=>Er t Ξ
 | .oof=>False
noncomputable def RPl(x:Res (List Ex))(t:List Nat)(ps:List (TK×Int))(Φ:AV→Option AO→Prop)(Ξ:Int→Prop):Prop:=match x with
 | .ok e ts'=>∀i',RAt ps i' ts'→Φ (.d (.list (Ex.pys e))) (some (rdr t ps i'))
 | .err=>Er t Ξ
 | .oof=>False
theorem os_beq(w:List Nat)(s:String)(l:List Nat)(h:(Str.ofString s).cps.toList=l):(tx w==Str.ofString s)=(w==l):=by
 rw[os_tx s,zhj,h]
section
variable{n:Nat}{t:List Nat}{ps:List (TK×Int)}{ts:List TK}{k:TK}{i:Nat}{Φ:AV→Option AO→Prop}{Ξ:Int→Prop}
theorem RP.bind{x:Res Ex}{f:Ex→List TK→Res Ex}{Ψ:AV→Option AO→Prop}(h:RP (match x with| .ok e ts'=>f e ts'| .err=> .err| .oof=> .oof) t ps Φ Ξ)(g:∀e ts',x= .ok e ts'→RP (f e ts') t ps Φ Ξ→∀i',RAt ps i' ts'→Ψ (.d e.py) (some (rdr t ps i'))):RP x t ps Ψ Ξ:=by
 cases x with
 |ok e ts'=>exact g e ts' rfl h
 |err=>exact h
 |oof=>exact h
theorem RP.binds{x:Res (List Ex)}{f:List Ex→List TK→Res Ex}{Ψ:AV→Option AO→Prop}(h:RP (match x with| .ok e ts'=>f e ts'| .err=> .err| .oof=> .oof) t ps Φ Ξ)(g:∀e ts',RP (f e ts') t ps Φ Ξ→∀i',RAt ps i' ts'→Ψ (.d (.list (Ex.pys e))) (some (rdr t ps i'))):RPl x t ps Ψ Ξ:=by
 cases x with
 |ok e ts'=>exact g e ts' h
 |err=>exact h
 |oof=>exact h
theorem RPl.bind{x:Res Ex}{f:Ex→List TK→Res (List Ex)}{Ψ:AV→Option AO→Prop}(h:RPl (match x with| .ok e ts'=>f e ts'| .err=> .err| .oof=> .oof) t ps Φ Ξ)(g:∀e ts',x= .ok e ts'→RPl (f e ts') t ps Φ Ξ→∀i',RAt ps i' ts'→Ψ (.d e.py) (some (rdr t ps i'))):RP x t ps Ψ Ξ:=by
 cases x with
 |ok e ts'=>exact g e ts' rfl h
 |err=>exact h
 |oof=>exact h
theorem os_is{w l:List Nat}{s:String}(h:(Str.ofString s).cps.toList=l)(e:(tx w==Str.ofString s)=true):w=l:=beq_iff_eq.mp ((os_beq w s l h).symm.trans e)
theorem os_not{w l:List Nat}{s:String}(h:(Str.ofString s).cps.toList=l)(e:(tx w==Str.ofString s)=false):w≠l:=fun q=>by rw[os_beq w s l h,q,beq_self_eq_true]at e;cases e
theorem c_joined{w:List Nat}{a b:Ex}(h:Φ (.d (joinE w a b).py) none):Cal (n+1) 8 [.d (.str (tx w)), .d a.py, .d b.py] none Φ Ξ:=by
 unfold joinE at h
 refine zaa rfl (br_i (fun e=>?_) (fun e=>?_))
 ·rw[if_pos (os_is (l:=[124,124]) (by decide+kernel) e)]at h
  exact h
 ·rw[if_neg (os_not (l:=[124,124]) (by decide+kernel) e)]at h
  refine br_i (fun e2=>?_) (fun e2=>?_)
  ·rw[if_pos (os_is (l:=[38,38]) (by decide+kernel) e2)]at h
   exact h
  ·rw[if_neg (os_not (l:=[38,38]) (by decide+kernel) e2)]at h
   exact h
theorem allD_map:∀(l:List Ex),allD (l.map fun x=>AV.d x.py)=some (Ex.pys l)
 | []=>rfl
 |x::r=>by
  show(allD (r.map fun x=>AV.d x.py)).map (x.py:: ·)=_
  rw[allD_map r];rfl
theorem frz_map(l:List Ex):zca (l.map fun x=>AV.d x.py)=some (.d (.list (Ex.pys l))):=by
 unfold zca;rw[allD_map]
noncomputable def rdrLeft(n:Nat)(σ:St):Nat:=match σ.obj with
 | .inst _ [_,_,(_, .d (.int i))]::_=>n-i.toNat
 |_=>0
structure PC(n:Nat)(t:List Nat)(ps:List (TK×Int)):Prop where
 e:∀{i ts least Φ Ξ},RAt ps i ts→RP (pE n least ts) t ps Φ Ξ→Cal (n+8) 125 [.ref 0, .d (.int least)] (some (rdr t ps i)) Φ Ξ
 u:∀{i ts Φ Ξ},RAt ps i ts→RP (pU n ts) t ps Φ Ξ→Cal (n+8) 126 [.ref 0] (some (rdr t ps i)) Φ Ξ
 a:∀{i ts Φ Ξ},RAt ps i ts→RP (pA n ts) t ps Φ Ξ→Cal (n+8) 127 [.ref 0] (some (rdr t ps i)) Φ Ξ
 it:∀{i ts s Φ Ξ},s.length≤10→RAt ps i ts→RPl (pI n s ts) t ps Φ Ξ→Cal (n+8) 128 [.ref 0, .d (.str (tx s))] (some (rdr t ps i)) Φ Ξ
theorem pc_u(hl:t.length≤4000)(hp:ps.length≤4001)(ih:PC n t ps)(a:RAt ps i ts)(h:RP (pU (n+1) ts) t ps Φ Ξ):Cal (n+9) 126 [.ref 0] (some (rdr t ps i)) Φ Ξ:=by
 unfold pU at h
 refine zaa rfl (zd2 (t:=t) hp a (br_i (fun e=>?_) (fun e=>?_)))
 ·rw[if_pos (by rw[show isSg [45] ts=true from e];rfl)]at h
  obtain⟨r,rfl⟩:=sg_is e
  refine zcg (t:=t) hp a fun o a2=>ih.u a2 (RP.bind (x:=pU n r) h fun e ts1 _ h i2 a3=>h i2 a3)
 ·refine zd2 (s:=[33]) (t:=t) hp a (br_i (fun e2=>?_) (fun e2=>?_))
  ·rw[if_pos (by rw[show isSg [33] ts=true from e2,Bool.or_true])]at h
   obtain⟨r,rfl⟩:=sg_is e2
   refine zcg (t:=t) hp a fun o a2=>ih.u a2 (RP.bind (x:=pU n r) h fun e ts1 _ h i2 a3=>h i2 a3)
  ·rw[if_neg (by rw[show isSg [45] ts=false from e,show isSg [33] ts=false from e2];decide)]at h
   exact ih.a a h
theorem br_and{b c:Bool}{P Q:Prop}(hp:b=true→c=true→P)(hq:¬(b=true∧c=true)→Q):br b (br c P Q) Q:=br_i (fun e1=>br_i (fun e2=>hp e1 e2) (fun e2=>hq fun z=>Bool.noConfusion (e2.symm.trans z.2))) (fun e1=>hq fun z=>Bool.noConfusion (e1.symm.trans z.1))
theorem left_lt{i i2:Nat}{ts ts1:List TK}(a:RAt ps i ts)(a2:RAt ps i2 ts1)(h:ts1.length≤ts.length):i<i2+1:=by
 have h1:=a.len
 have h2:=a2.len
 lia
theorem pc_it(hl:t.length≤4000)(hp:ps.length≤4001)(ih:PC n t ps){s:List Nat}(hs:s.length≤10)(a:RAt ps i ts)(h:RPl (pI (n+1) s ts) t ps Φ Ξ):Cal (n+9) 128 [.ref 0, .d (.str (tx s))] (some (rdr t ps i)) Φ Ξ:=by
 unfold pI at h
 refine zaa rfl (zcs (t:=t) hp a (fun r hr a2=>?_) fun e=>?_)
 ·subst hr
  rw[if_pos (show isSg s (.sign s::r)=true from beq_self_eq_true s)]at h
  exact Exists.intro _ (And.intro rfl (h _ a2))
 ·rw[if_neg (by rw[e];decide)]at h
  refine Exists.intro (fun σ'=>∃(acc:List Ex)(i':Nat)(ts':List TK)(m:Nat),σ'=⟨[(0, .ref 0),(17, .d (.str (tx s))),(26, .ref 1)],[rdr t ps i', .list (acc.map fun x=> .d x.py)]⟩∧acc.length≤i'∧RAt ps i' ts'∧RPl (iLoop (pE n 1) s m acc ts') t ps Φ Ξ) (Exists.intro (rdrLeft ps.length) (And.intro ⟨[],i,ts,_,rfl,Nat.zero_le _,a,h⟩ ?_))
  rintro σ' ⟨acc,i',ts',m,rfl,hacc,a',h'⟩
  cases m with
  |zero=>exact False.elim h'
  |succ m=>
  unfold iLoop at h'
  refine ih.e a' (RPl.bind (x:=pE n 1 ts') h' fun x ts1 hu h' i2 a2=>And.intro ?_ (zcs (t:=t) hp a2 (fun r hr a3=>?_) fun e1=>?_))
  ·rw[List.length_map,sizeLine_eq]
   exact Nat.lt_of_le_of_lt (Nat.le_trans hacc (Nat.le_trans a'.1 hp)) (by decide)
  ·subst hr
   rw[if_pos (show isSg s (.sign s::r)=true from beq_self_eq_true s)]at h'
   exact Exists.intro _ (And.intro ((congrArg zca (show _=((acc++[x]).map fun x=>AV.d x.py) by rw[List.map_append];rfl)).trans (frz_map _)) (h' _ a3))
  ·rw[if_neg (by rw[e1];decide)]at h'
   cases ts1 with
   |nil=>exact h'.elim
   |cons k r=>
   refine c_need (t:=t) (s:=[44]) (by decide) hl hp a2 (fun r2 hr a3=>?_) fun e2=>?_
   ·obtain⟨rfl,rfl⟩:=List.cons.inj hr
    dsimp only at h'
    rw[if_pos (show isSg [44] (.sign [44]::r)=true from rfl)]at h'
    have hlt:i'<i2+1:=left_lt a' a2 (Nat.le_of_lt (e_lt hu))
    exact And.intro ⟨acc++[x],i2+1,r,m,by rw[List.map_append];rfl,by rw[List.length_append];exact Nat.succ_le_succ (Nat.le_trans hacc (Nat.le_of_lt_succ hlt)),a3,h'⟩ (Nat.sub_lt_sub_left (Nat.lt_of_lt_of_le hlt a3.1) hlt)
   ·dsimp only at h'
    rw[if_neg (by rw[e2];decide)]at h'
    exact h'
theorem lk_cases(w:List Nat):((tabOf 249).lookup (tx w)=none∧lvl w=0)∨∃v,(tabOf 249).lookup (tx w)=some v∧lvl w=v∧1≤v∧v≤5:=by
 have h:∀x:Str,(zdd.lookup x=none)∨∃v,zdd.lookup x=some v∧1≤v∧v≤5:=by
  intro x
  cases q:zdd.lookup x with
  |none=>exact .inl rfl
  |some v=>
   refine .inr ⟨v,rfl,?_⟩
   unfold zdd at q
   simp only[List.lookup]at q
   repeat' split at q
   all_goals first|(injection q with q;subst q;constructor<;>decide)|cases q
 rcases h (tx w)with h|⟨v,h1,h2,h3⟩
 ·exact .inl ⟨h,by unfold lvl;rw[h];rfl⟩
 ·exact .inr ⟨v,h1,by unfold lvl;rw[h1];rfl,h2,h3⟩
theorem pc_e(hl:t.length≤4000)(hp:ps.length≤4001)(ih:PC n t ps){least:Int}(a:RAt ps i ts)(h:RP (pE (n+1) least ts) t ps Φ Ξ):Cal (n+9) 125 [.ref 0, .d (.int least)] (some (rdr t ps i)) Φ Ξ:=by
 unfold pE at h
 refine zaa rfl (ih.u a (RP.bind (x:=pU n ts) h fun x ts1 _ h i2 a2=>?_))
 refine Exists.intro (fun σ'=>∃(x:Ex)(cmp:Bool)(i':Nat)(ts':List TK)(m:Nat)(v1 v2 v3:AV),σ'=⟨[(0, .ref 0),(31, .d (.int least)),(10,v1),(34,v2),(35,v3),(33, .d (.bool cmp)),(32, .d x.py)],[rdr t ps i']⟩∧RAt ps i' ts'∧RP (eLoop (pE n) least m x cmp ts') t ps Φ Ξ) (Exists.intro (rdrLeft ps.length) (And.intro ⟨x,false,i2,ts1,_, .no, .no, .no,rfl,a2,h⟩ ?_))
 rintro σ' ⟨x,cmp,i',ts',m,v1,v2,v3,rfl,a',h'⟩
 cases m with
 |zero=>exact False.elim h'
 |succ m=>
 cases ts' with
 |nil=>exact False.elim h'
 |cons k r=>
 unfold eLoop at h'
 have stop:lvlOf k=0→Φ (.d x.py) (some (rdr t ps i')):=fun e=>by
  rw[if_pos (.inl e)]at h'
  exact h' _ a'
 refine zd8 (t:=t) hp a' fun o=>br_i (fun e=>?_) (fun e=>?_)
 ·obtain⟨w,rfl⟩:=kind_sign e
  refine zd8 (t:=t) hp a' fun o2=>?_
  rcases lk_cases w with⟨h1,h2⟩|⟨v,h1,h2,h3,h4⟩
  ·conv=>whnf
   rw[h1]
   exact stop h2
  ·conv=>whnf
   rw[h1]
   have hlv:lvlOf (.sign w)=v:=h2
   rw[hlv]at h'
   refine br_i (fun e=>absurd (show v=0 from of_decide_eq_true e) (fun q=>absurd (q▸h3) (by decide))) (fun e0=>br_i (fun e=>?_) (fun e=>br_and (fun e1 e2=>?_) (fun hc=>?_)))
   ·rw[if_pos (.inr (of_decide_eq_true e))]at h'
    exact h' _ a'
   all_goals rw[if_neg (fun z=>z.elim (of_decide_eq_false e0) (of_decide_eq_false e))]at h'
   ·rw[if_pos ⟨of_decide_eq_true e1,e2⟩]at h'
    exact ze4 (t:=t) hl hp a' h'
   ·rw[if_neg (fun z=>hc ⟨decide_eq_true z.1,z.2⟩)]at h'
    refine zcg (t:=t) hp a' fun o3 a3=>ih.e a3 (RP.bind (x:=pE n (v+1) r) h' fun y ts2 hr h' i4 a4=>c_joined (And.intro ⟨_,_,_,_,_,_,_,_,rfl,a4,h'⟩ ?_))
    have hlt:i'<i4:=Nat.lt_of_succ_lt_succ (left_lt a3 a4 (Nat.le_of_lt (e_lt hr)))
    exact Nat.sub_lt_sub_left (Nat.lt_of_lt_of_le hlt a4.1) hlt
 ·refine stop ?_
  rw[k_sign]at e
  cases k<;>first|rfl|exact Bool.noConfusion e
theorem zhf(e:(k.kind==Str.ofString "name")=true):∃w,k= .name w:=by
 rw[k_name]at e
 cases k<;>first|exact⟨_,rfl⟩|exact Bool.noConfusion e
theorem k_in3(k:TK):[Str.ofString "number",Str.ofString "text",Str.ofString "arg"].contains k.kind=(match k with| .num _=>true| .text _=>true| .arg _=>true|_=>false):=by
 cases k<;>first|(refine Eq.trans (b:=true) ?_ rfl;show List.contains _ (Str.ofString _)=true;decide+kernel)|(refine Eq.trans (b:=false) ?_ rfl;show List.contains _ (Str.ofString _)=false;decide+kernel)
theorem cps_eq(s:Str)(w:List Nat):(tx w==s)=(w==s.cps.toList):=by
 obtain⟨a⟩:=s
 have:(⟨a⟩:Str)=tx a.toList:=by simp[tx]
 rw[this,zhj,zah]
theorem zej(w:List Nat):∀(l:List Str),l.contains (tx w)=(l.map fun s=>s.cps.toList).contains w
 | []=>rfl
 |s::l=>by rw[List.contains_cons,zej w l,List.map_cons,List.contains_cons,cps_eq]
theorem zcu(w:List Nat):[Str.ofString "if",Str.ofString "else",Str.ofString "while",Str.ofString "yyerrok",Str.ofString "yyclearin",Str.ofString "YYERROR",Str.ofString "YYABORT",Str.ofString "YYACCEPT"].contains (tx w)=zac.contains w:=by
 rw[zej];rfl
theorem pc_a(hl:t.length≤4000)(hp:ps.length≤4001)(ih:PC n t ps)(a:RAt ps i ts)(h:RP (pA (n+1) ts) t ps Φ Ξ):Cal (n+9) 127 [.ref 0] (some (rdr t ps i)) Φ Ξ:=by
 unfold pA at h
 cases ts with
 |nil=>exact h.elim
 |cons k r=>
 refine zaa rfl (zd8 (t:=t) hp a fun o=>br_i (fun e=>zcg (t:=t) hp a fun o3 a3=>?_) (fun e=>br_i (fun e2=>zcg (t:=t) hp a fun o3 a3=>?_) (fun e2=>br_i (fun e3=>?_) (fun e3=>?_))))
 ·rw[k_in3]at e
  cases k<;>first|exact h _ a3|exact Bool.noConfusion e
 ·rw[k_own]at e2
  cases k<;>first|exact h _ a3|exact Bool.noConfusion e2
 ·obtain⟨w,rfl⟩:=zhf e3
  refine br_i (fun e4=>?_) (fun e4=>?_)
  ·have e4:=(zcu w).symm.trans (bnt e4)
   have h:RP (if zac.contains w then .err else if isSg [40] r then match pI n [41] (r.drop 1)with
     | .ok l ts'=> .ok (.apply w l) ts'
     | .err=> .err
     | .oof=> .oof
    else .ok (.name w) r) t ps Φ Ξ:=h
   rw[if_neg (Bool.eq_false_iff.mp e4)]at h
   refine zcg (t:=t) hp a fun o3 a3=>zcs (t:=t) (s:=[40]) hp a3 (fun r2 hr a4=>?_) fun e5=>?_
   ·subst hr
    rw[if_pos (show isSg [40] (.sign [40]::r2)=true from rfl)]at h
    exact ih.it (s:=[41]) (by decide) a4 (RP.binds (x:=pI n [41] r2) h fun l ts1 h i5 a5=>h _ a5)
   ·rw[if_neg (by rw[e5];decide)]at h
    exact h _ a3
  ·have e4:=(zcu w).symm.trans (bnf e4)
   have h:RP (if zac.contains w then .err else if isSg [40] r then match pI n [41] (r.drop 1)with
     | .ok l ts'=> .ok (.apply w l) ts'
     | .err=> .err
     | .oof=> .oof
    else .ok (.name w) r) t ps Φ Ξ:=h
   rw[if_pos e4]at h
   exact zcs (t:=t) (s:=[91]) hp a (fun r2 hr a4=>by cases hr) fun _=>zcs (t:=t) (s:=[40]) hp a (fun r2 hr a4=>by cases hr) fun _=>ze4 (t:=t) hl hp a h
 ·refine zcs (t:=t) (s:=[91]) hp a (fun r2 hr a4=>?_) fun e5=>zcs (t:=t) (s:=[40]) hp a (fun r2 hr a4=>?_) fun e6=>ze4 (t:=t) hl hp a ?_
  ·obtain⟨rfl,rfl⟩:=List.cons.inj hr
   exact ih.it (s:=[93]) (by decide) a4 (RP.binds (x:=pI n [93] r) h fun l ts1 h i5 a5=>h _ a5)
  ·obtain⟨rfl,rfl⟩:=List.cons.inj hr
   refine ih.e a4 (RP.bind (x:=pE n 1 r) h fun x ts1 _ h i5 a5=>?_)
   cases ts1 with
   |nil=>exact h.elim
   |cons k1 r1=>
   refine c_need (t:=t) (s:=[41]) (by decide) hl hp a5 (fun r3 hr a6=>?_) fun e7=>?_
   ·obtain⟨rfl,rfl⟩:=List.cons.inj hr
    exact h _ a6
   ·rw[if_neg (by rw[e7];decide)]at h
    exact h
  ·rw[k_in3]at e
   rw[k_own]at e2
   rw[k_name]at e3
   cases k with
   |fin=>exact h
   |sign w=>
    dsimp only at h
    rw[if_neg (fun q=>by subst q;cases e5),if_neg (fun q=>by subst q;cases e6)]at h
    exact h
   |_=>first|exact Bool.noConfusion e|exact Bool.noConfusion e2|exact Bool.noConfusion e3
theorem pc_all(hl:t.length≤4000)(hp:ps.length≤4001):∀n,PC n t ps
 |0=>⟨fun _ h=>by unfold pE at h;exact h.elim,fun _ h=>by unfold pU at h;exact h.elim,fun _ h=>by unfold pA at h;exact h.elim,fun _ _ h=>by unfold pI at h;exact h.elim⟩
 |n+1=>⟨fun a h=>pc_e hl hp (pc_all hl hp n) a h,fun a h=>pc_u hl hp (pc_all hl hp n) a h,fun a h=>pc_a hl hp (pc_all hl hp n) a h,fun hs a h=>pc_it hl hp (pc_all hl hp n) hs a h⟩
end
noncomputable def RQ{α:Type}(f:α→PyData)(x:Res α)(t:List Nat)(ps:List (TK×Int))(Φ:AV→Option AO→Prop)(Ξ:Int→Prop):Prop:=match x with
 | .ok e ts'=>∀i',RAt ps i' ts'→Φ (.d (f e)) (some (rdr t ps i'))
 | .err=>Er t Ξ
 | .oof=>False
theorem allD_mapS:∀(l:List Stm),allD (l.map fun x=>AV.d x.py)=some (Stm.pys l)
 | []=>rfl
 |x::r=>by
  show(allD (r.map fun x=>AV.d x.py)).map (x.py:: ·)=_
  rw[allD_mapS r];rfl
theorem frz_mapS(l:List Stm):zca (l.map fun x=>AV.d x.py)=some (.d (.list (Stm.pys l))):=by
 unfold zca;rw[allD_mapS]
theorem needS_yes(s:List Nat)(r:List TK):needS s (.sign s::r)= .ok () r:=if_pos (show isSg s (.sign s::r)=true from beq_self_eq_true s)
theorem needS_no{s:List Nat}{k:TK}{r:List TK}(h:isSg s (k::r)=false):needS s (k::r)= .err:=if_neg (by rw[h];decide)
noncomputable def lpy(l:List Stm):PyData:= .list (Stm.pys l)
structure SC(n:Nat)(t:List Nat)(ps:List (TK×Int)):Prop where
 st:∀{i ts Φ Ξ},RAt ps i ts→RQ Stm.py (pStm n ts) t ps Φ Ξ→Cal (n+8) 124 [.ref 0] (some (rdr t ps i)) Φ Ξ
 ss:∀{i ts Φ Ξ},RAt ps i ts→RQ lpy (pSs n ts) t ps Φ Ξ→Cal (n+8) 120 [.ref 0] (some (rdr t ps i)) Φ Ξ
 bl:∀{i ts Φ Ξ},RAt ps i ts→RQ lpy (za0 n ts) t ps Φ Ξ→Cal (n+8) 121 [.ref 0] (some (rdr t ps i)) Φ Ξ
 co:∀{i ts Φ Ξ},RAt ps i ts→RQ Ex.py (pCond n ts) t ps Φ Ξ→Cal (n+8) 122 [.ref 0] (some (rdr t ps i)) Φ Ξ
 ch:∀{i ts Φ Ξ},RAt ps i ts→RQ Stm.py (zb3 n ts) t ps Φ Ξ→Cal (n+8) 123 [.ref 0] (some (rdr t ps i)) Φ Ξ
section
variable{n:Nat}{t:List Nat}{ps:List (TK×Int)}{ts:List TK}{k:TK}{i:Nat}{Φ:AV→Option AO→Prop}{Ξ:Int→Prop}
theorem RQ.bindE{β:Type}{f:Ex→PyData}{g:β→PyData}{x:Res Ex}{F:Ex→List TK→Res β}{Ψ:AV→Option AO→Prop}(h:RQ g (match x with| .ok e ts'=>F e ts'| .err=> .err| .oof=> .oof) t ps Φ Ξ)(q:∀e ts',x= .ok e ts'→RQ g (F e ts') t ps Φ Ξ→∀i',RAt ps i' ts'→Ψ (.d (f e)) (some (rdr t ps i'))):RQ f x t ps Ψ Ξ:=by
 induction x with
 |ok e ts'=>exact q e ts' rfl h
 |err=>exact h
 |oof=>exact h
theorem RQ.bindS{β:Type}{f:Stm→PyData}{g:β→PyData}{x:Res Stm}{F:Stm→List TK→Res β}{Ψ:AV→Option AO→Prop}(h:RQ g (match x with| .ok e ts'=>F e ts'| .err=> .err| .oof=> .oof) t ps Φ Ξ)(q:∀e ts',x= .ok e ts'→RQ g (F e ts') t ps Φ Ξ→∀i',RAt ps i' ts'→Ψ (.d (f e)) (some (rdr t ps i'))):RQ f x t ps Ψ Ξ:=by
 induction x with
 |ok e ts'=>exact q e ts' rfl h
 |err=>exact h
 |oof=>exact h
theorem RQ.bindL{β:Type}{f:(List Stm)→PyData}{g:β→PyData}{x:Res (List Stm)}{F:(List Stm)→List TK→Res β}{Ψ:AV→Option AO→Prop}(h:RQ g (match x with| .ok e ts'=>F e ts'| .err=> .err| .oof=> .oof) t ps Φ Ξ)(q:∀e ts',x= .ok e ts'→RQ g (F e ts') t ps Φ Ξ→∀i',RAt ps i' ts'→Ψ (.d (f e)) (some (rdr t ps i'))):RQ f x t ps Ψ Ξ:=by
 induction x with
 |ok e ts'=>exact q e ts' rfl h
 |err=>exact h
 |oof=>exact h
theorem RQ.rp{x:Res Ex}(h:RQ Ex.py x t ps Φ Ξ):RP x t ps Φ Ξ:=by cases x<;>exact h
theorem RQ.need{β:Type}{g:β→PyData}{s:List Nat}{F:Unit→List TK→Res β}{Ψ:AV→Option AO→Prop}(hl:t.length≤4000)(hp:ps.length≤4001)(hs:s.length≤10)(a:RAt ps i ts)(h:RQ g (match needS s ts with| .ok u ts1=>F u ts1| .err=> .err| .oof=> .oof) t ps Φ Ξ)(q:∀r,RAt ps (i+1) r→RQ g (F () r) t ps Φ Ξ→Ψ (.d .none) (some (rdr t ps (i+1)))):Cal (n+6) 116 [.ref 0, .d (.str (tx s))] (some (rdr t ps i)) Ψ Ξ:=by
 induction ts with
 |nil=>exact False.elim h
 |cons k r=>exact c_need (t:=t) hs hl hp a (fun r2 hr a2=>by rw[hr,needS_yes]at h;exact q r2 a2 h) (fun e=>by rw[needS_no e]at h;exact h)
theorem sc_bl(hl:t.length≤4000)(hp:ps.length≤4001)(ih:SC n t ps)(a:RAt ps i ts)(h:RQ lpy (za0 (n+1) ts) t ps Φ Ξ):Cal (n+9) 121 [.ref 0] (some (rdr t ps i)) Φ Ξ:=by
 rw[za0]at h
 exact zaa rfl (RQ.need hl hp (by decide) a h fun r a2 h=>ih.ss a2 (RQ.bindL h fun l ts2 _ h i3 a3=>RQ.need hl hp (by decide) a3 h fun r3 a4 h=>h _ a4))
theorem sc_co(hl:t.length≤4000)(hp:ps.length≤4001)(a:RAt ps i ts)(h:RQ Ex.py (pCond (n+1) ts) t ps Φ Ξ):Cal (n+9) 122 [.ref 0] (some (rdr t ps i)) Φ Ξ:=by
 have ih:=pc_all (t:=t) hl hp n
 rw[pCond]at h
 exact zaa rfl (RQ.need hl hp (by decide) a h fun r a2 h=>ih.e a2 (RQ.rp (RQ.bindE h fun l ts2 _ h i3 a3=>RQ.need hl hp (by decide) a3 h fun r3 a4 h=>h _ a4)))
theorem os_elseL(w:List Nat):(tx w==Str.ofString "else")=(w==elseL):=cps_eq _ w
theorem os_ifL(w:List Nat):(tx w==Str.ofString "if")=(w==ifL):=cps_eq _ w
theorem os_whileL(w:List Nat):(tx w==Str.ofString "while")=(w==za7):=cps_eq _ w
theorem words_eq(w:List Nat):[Str.ofString "yyerrok",Str.ofString "yyclearin",Str.ofString "YYERROR",Str.ofString "YYABORT",Str.ofString "YYACCEPT"].contains (tx w)=zbh.contains w:=by
 rw[zej];rfl
theorem neq_of{w l:List Nat}{b:Bool}(e:b=(w==l))(h:b=false):¬w=l:=fun q=>by rw[h,q,beq_self_eq_true]at e;cases e
theorem sc_ch(hl:t.length≤4000)(hp:ps.length≤4001)(ih:SC n t ps)(a:RAt ps i ts)(h:RQ Stm.py (zb3 (n+1) ts) t ps Φ Ξ):Cal (n+9) 123 [.ref 0] (some (rdr t ps i)) Φ Ξ:=by
 rw[zb3]at h
 refine zaa rfl (ih.co a (RQ.bindE h fun x ts1 _ h i1 a1=>ih.bl a1 (RQ.bindL h fun l ts2 _ h i2 a2=>?_)))
 induction ts2 with
 |nil=>exact False.elim h
 |cons k r=>
 refine zd8 (t:=t) hp a2 fun o=>br_i (fun e3=>?_) (fun e3=>?_)
 ·obtain⟨w,rfl⟩:=zhf e3
  dsimp only at h
  refine zd8 (t:=t) hp a2 fun o=>br_i (fun e4=>?_) (fun e4=>?_)
  ·rw[if_pos (beq_iff_eq.mp ((os_elseL w).symm.trans e4))]at h
   exact zcg (t:=t) hp a2 fun o3 a3=>ih.bl a3 (RQ.bindL h fun l2 ts3 _ h i4 a4=>h _ a4)
  ·rw[if_neg (neq_of (os_elseL w) e4)]at h
   exact h _ a2
 ·rw[k_name]at e3
  cases k<;>first|exact h _ a2|exact Bool.noConfusion e3
theorem sc_ss(hl:t.length≤4000)(hp:ps.length≤4001)(ih:SC n t ps)(a:RAt ps i ts)(h:RQ lpy (pSs (n+1) ts) t ps Φ Ξ):Cal (n+9) 120 [.ref 0] (some (rdr t ps i)) Φ Ξ:=by
 rw[pSs]at h
 refine zaa rfl (Exists.intro (fun σ'=>∃(acc:List Stm)(i':Nat)(ts':List TK)(m:Nat),σ'=⟨[(0, .ref 0),(26, .ref 1)],[rdr t ps i', .list (acc.map fun x=> .d x.py)]⟩∧acc.length≤i'∧RAt ps i' ts'∧RQ lpy (sLoop (pStm n) m acc ts') t ps Φ Ξ) (Exists.intro (rdrLeft ps.length) (And.intro ⟨[],i,ts,_,rfl,Nat.zero_le _,a,h⟩ ?_)))
 rintro σ' ⟨acc,i',ts',m,rfl,hacc,a',h'⟩
 induction m with
 |zero=>exact False.elim h'
 |succ m=>
 induction ts' with
 |nil=>exact False.elim h'
 |cons k r=>
 rw[sLoop]at h'
 refine c_is_closed (t:=t) hp a' (br_i (fun e=>?_) (fun e=>?_))
 ·rw[if_neg (Bool.eq_false_iff.mp (bnt e))]at h'
  refine ih.st a' (RQ.bindS h' fun x ts1 hu h' i2 a2=>And.intro ?_ (zcs (t:=t) (s:=[59]) hp a2 (fun r3 hr a3=>?_) fun e1=>?_))
  ·rw[List.length_map,sizeLine_eq]
   exact Nat.lt_of_le_of_lt (Nat.le_trans hacc (Nat.le_trans a'.1 hp)) (by decide)
  ·subst hr
   rw[if_pos (show isSg [59] (.sign [59]::r3)=true from rfl)]at h'
   have hlt:i'<i2+1:=left_lt a' a2 (Nat.le_of_lt (st_lt hu))
   exact And.intro ⟨acc++[x],i2+1,r3,m,by rw[List.map_append];rfl,by rw[List.length_append];exact Nat.succ_le_succ (Nat.le_trans hacc (Nat.le_of_lt_succ hlt)),a3,h'⟩ (Nat.sub_lt_sub_left (Nat.lt_of_lt_of_le hlt a3.1) hlt)
  ·rw[if_neg (by rw[e1];decide)]at h'
   exact Exists.intro _ (And.intro ((congrArg zca (show _=((acc++[x]).map fun x=>AV.d x.py) by rw[List.map_append];rfl)).trans (frz_mapS _)) (h' _ a2))
 ·rw[if_pos (bnf e)]at h'
  exact Exists.intro _ (And.intro (frz_mapS _) (h' _ a'))
noncomputable def pCall(n:Nat)(ts:List TK):Res Stm:=match pE n 1 ts with
 | .ok e ts'=> .ok (.call e) ts'
 | .err=> .err
 | .oof=> .oof
theorem pStm_own(r:List TK):pStm (n+1) (.own::r)=if isSg [61] r then match pE n 1 (r.drop 1)with
    | .ok e ts'=> .ok (.set e) ts'
    | .err=> .err
    | .oof=> .oof
   else pCall n (.own::r):=rfl
theorem pStm_name(s:List Nat)(r:List TK):pStm (n+1) (.name s::r)=if zbh.contains s then .ok (.word s) r
   else if s=ifL then zb3 n r
   else if s=za7 then match pCond n r with
    | .ok e ts1=>match za0 n ts1 with
     | .ok l ts2=> .ok (.whl e l) ts2
     | .err=> .err
     | .oof=> .oof
    | .err=> .err
    | .oof=> .oof
   else if !zac.contains s&&isSg [61] r then match pE n 1 (r.drop 1)with
    | .ok e ts'=> .ok (.name s e) ts'
    | .err=> .err
    | .oof=> .oof
   else pCall n (.name s::r):=rfl
theorem pStm_else(k:TK)(r:List TK)(h1:k.kind≠Str.ofString "own")(h2:k.kind≠Str.ofString "name"):pStm (n+1) (k::r)=pCall n (k::r):=by
 cases k<;>first|rfl|exact absurd rfl h1|exact absurd rfl h2
theorem sg_next{s:List Nat}{r:List TK}(ar:RAt ps i r)(e:isSg s r=true):∃r1,r= .sign s::r1∧RAt ps (i+1) r1:=by
 obtain⟨r1,rfl⟩:=sg_is e
 obtain⟨_,_,ar2,_⟩:=ar.cons
 exact⟨r1,rfl,ar2⟩
theorem sc_st(hl:t.length≤4000)(hp:ps.length≤4001)(ih:SC n t ps)(a:RAt ps i ts)(h:RQ Stm.py (pStm (n+1) ts) t ps Φ Ξ):Cal (n+9) 124 [.ref 0] (some (rdr t ps i)) Φ Ξ:=by
 have ie:=pc_all (t:=t) hl hp n
 induction ts with
 |nil=>unfold pStm at h;exact h.elim
 |cons k r=>
 obtain⟨_,_,ar,_⟩:=a.cons
 refine zaa rfl (zd8 (t:=t) hp a fun o=>br_i (fun e=>?_) (fun e=>?_))
 ·have hk:k= .own:=by
   rw[k_own]at e
   cases k<;>first|rfl|exact Bool.noConfusion e
  subst hk
  rw[pStm_own]at h
  refine c_is_sign (s:=[61]) (t:=t) 1 hp a ?_
  rw[isAt1]
  refine br_i (fun e1=>?_) (fun e1=>?_)
  ·rw[if_pos e1]at h
   obtain⟨r1,rfl,a2⟩:=sg_next ar e1
   exact ie.e a2 (RQ.rp (RQ.bindE (x:=pE n 1 r1) h fun x ts1 _ h i5 a5=>h _ a5))
  ·rw[if_neg (Bool.eq_false_iff.mp e1)]at h
   exact ie.e a (RQ.rp (RQ.bindE (x:=pE n 1 (.own::r)) h fun x ts1 _ h i5 a5=>h _ a5))
 ·have e0:k.kind≠Str.ofString "own":=fun q=>by rw[q,beq_self_eq_true]at e;cases e
  refine br_i (fun z=>Bool.noConfusion z) (fun _=>br_i (fun e3=>?_) (fun e3=>?_))
  ·rw[pStm_else k r e0 (fun q=>by rw[q,beq_self_eq_true]at e3;cases e3)]at h
   exact ie.e a (RQ.rp (RQ.bindE (x:=pE n 1 (k::r)) h fun x ts1 _ h i5 a5=>h _ a5))
  ·obtain⟨w,rfl⟩:=zhf (bnf e3)
   clear e e0 e3
   rw[pStm_name]at h
   refine br_i (fun e5=>?_) (fun e5=>?_)
   ·rw[if_pos ((words_eq w).symm.trans e5)]at h
    exact zcg (t:=t) hp a fun o3 a3=>h _ ar
   rw[if_neg (Bool.eq_false_iff.mp ((words_eq w).symm.trans e5))]at h
   refine br_i (fun e6=>?_) (fun e6=>?_)
   ·rw[if_pos (beq_iff_eq.mp ((os_ifL w).symm.trans e6))]at h
    exact zcg (t:=t) hp a fun o3 a3=>ih.ch a3 h
   rw[if_neg (neq_of (os_ifL w) e6)]at h
   refine br_i (fun e7=>?_) (fun e7=>?_)
   ·rw[if_pos (beq_iff_eq.mp ((os_whileL w).symm.trans e7))]at h
    exact zcg (t:=t) hp a fun o3 a3=>ih.co a3 (RQ.bindE h fun x ts1 _ h i5 a5=>ih.bl a5 (RQ.bindL h fun l ts2 _ h i6 a6=>h _ a6))
   rw[if_neg (neq_of (os_whileL w) e7)]at h
   refine br_i (fun e8=>?_) (fun e8=>?_)
   ·rw[show(!zac.contains w)=true from(congrArg (! ·) (zcu w)).symm.trans e8,Bool.true_and]at h
    refine c_is_sign (s:=[61]) (t:=t) 1 hp a ?_
    rw[isAt1]
    refine br_i (fun e1=>?_) (fun e1=>?_)
    ·rw[if_pos e1]at h
     obtain⟨r1,rfl,a2⟩:=sg_next ar e1
     exact ie.e a2 (RQ.rp (RQ.bindE (x:=pE n 1 r1) h fun x ts1 _ h i5 a5=>h _ a5))
    ·rw[if_neg (Bool.eq_false_iff.mp e1)]at h
     exact ie.e a (RQ.rp (RQ.bindE (x:=pE n 1 (.name w::r)) h fun x ts1 _ h i5 a5=>h _ a5))
   ·rw[show(!zac.contains w)=false from(congrArg (! ·) (zcu w)).symm.trans e8,Bool.false_and,if_neg Bool.false_ne_true]at h
    exact ie.e a (RQ.rp (RQ.bindE (x:=pE n 1 (.name w::r)) h fun x ts1 _ h i5 a5=>h _ a5))
theorem sc_all(hl:t.length≤4000)(hp:ps.length≤4001):∀n,SC n t ps
 |0=>⟨fun _ h=>by unfold pStm at h;exact h.elim,fun _ h=>by unfold pSs at h;exact h.elim,fun _ h=>by unfold za0 at h;exact h.elim,fun _ h=>by unfold pCond at h;exact h.elim,fun _ h=>by unfold zb3 at h;exact h.elim⟩
 |n+1=>⟨fun a h=>sc_st hl hp (sc_all hl hp n) a h,fun a h=>sc_ss hl hp (sc_all hl hp n) a h,fun a h=>sc_bl hl hp (sc_all hl hp n) a h,fun a h=>sc_co hl hp a h,fun a h=>sc_ch hl hp (sc_all hl hp n) a h⟩
theorem c_whole(hl:t.length≤4000)(hp:ps.length≤4001)(a:RAt ps i ts)(h:RQ lpy (zdc n ts) t ps Φ Ξ):Cal (n+9) 118 [.ref 0] (some (rdr t ps i)) Φ Ξ:=by
 unfold zdc at h
 refine zaa rfl ((sc_all (t:=t) hl hp n).ss a (RQ.bindL (x:=pSs n ts) h fun l ts1 _ h i1 a1=>?_))
 induction ts1 with
 |nil=>exact False.elim h
 |cons k r=>
 refine zd8 (t:=t) hp a1 fun o=>br_i (fun e=>ze4 (t:=t) hl hp a1 ?_) (fun e=>?_)
 ·have e:=(k_end k).symm.trans (bnt e)
  cases k<;>first|exact h|exact Bool.noConfusion e
 ·have e:=(k_end k).symm.trans (bnf e)
  cases k<;>first|exact h _ a1|exact Bool.noConfusion e
theorem pS_len:∀(m:Nat)(r:List Nat)(l:List TK),pS m r=some l→l.length≤r.length+1
 |0,_,_,h=>by cases h
 |m+1,[],l,h=>by cases h;exact Nat.le_refl _
 |m+1,c::r,l,h=>by
  unfold pS at h
  cases he:pTok (c::r)with
  |none=>rw[he]at h;cases h
  |some q=>
   obtain⟨k,r'⟩:=q
   rw[he]at h
   dsimp only at h
   obtain⟨l',h1,h2⟩:=Option.map_eq_some_iff.mp h
   subst h2
   have h3:=zcr he
   have h4:=dw_le (inS zag) r'
   have h5:=pS_len m _ _ h1
   rw[List.length_cons]at h3 ⊢
   rw[List.length_cons];lia
theorem pScan_len{t:List Nat}{l:List TK}(h:pScan t=some l):l.length≤t.length+1:=by
 have h1:=pS_len _ _ _ h
 have h2:=dw_le (inS zag) t
 lia
theorem c_parse(hl:t.length≤4000)(hdg:Dig t)(h:match zal n t with
  | .ok l=>Φ (.d (lpy l)) none
  | .err=>Er t Ξ
  | .oof=>False):Cal (n+10) 9 [.d (.str (tx t))] none Φ Ξ:=by
 unfold zal at h
 refine zaa rfl (c_Reader_init (t:=t) hl hdg (fun ps hps=>?_) fun e=>?_)
 ·rw[hps]at h
  have hp:ps.length≤4001:=Nat.le_trans (Nat.le_of_eq (List.length_map (as:=ps) (·.1)).symm) (Nat.le_trans (pScan_len hps) (Nat.succ_le_succ hl))
  refine c_whole (n:=n) (t:=t) hl hp (i:=0) (ts:=ps.map (·.1)) ⟨Nat.zero_le _,rfl⟩ ?_
  dsimp only at h
  cases hu:zdc n (ps.map (·.1))with
  |err=>rw[hu]at h;exact h
  |oof=>rw[hu]at h;exact h.elim
  |ok l ts1=>
  rw[hu]at h
  exact fun i1 a1=>h
 ·rw[e]at h;exact h
theorem read_intro{x:Str}(h1:x.length<2^62)(h:Cal n 9 [.d (.str x)] none (fun a _=>match a with
    | .d y=>Φ (.d (.list [y])) none
    |_=>False) fun i=>Φ (.d (.list (if 0≤i∧i≤x.length then []else [.str (Str.ofString "odd")]))) none):Cal (n+1) 24 [.d (.str x)] none Φ Ξ:=by
 rw[Cal_eq]at h ⊢
 unfold CSn
 exact⟨h1,h⟩
theorem c_read(hl:t.length≤4000)(hdg:Dig t)(h:match zal n t with
  | .ok l=>Φ (.d (.list [lpy l])) none
  | .err=>Φ (.d (.list [])) none
  | .oof=>False):Cal (n+11) 24 [.d (.str (tx t))] none Φ Ξ:=by
 refine read_intro (by rw[zcb];lia) ?_
 rw[zcb]
 refine c_parse (t:=t) hl hdg ?_
 cases hu:zal n t with
 |ok l=>rw[hu]at h;exact h
 |err=>
  rw[hu]at h
  intro o h1 h2
  rw[if_pos ⟨h1,h2⟩]
  exact h
 |oof=>rw[hu]at h;exact h
end
noncomputable def fig(k:Nat):Nat:=if k<10 then 48+k else 87+k
noncomputable def esc(c:Nat):List Nat:=if c=10 then [92,110]else if c=9 then [92,116]else if c=34∨c=92 then [92,c]else if(c<32∨126<c)∧c<256 then [92,120,fig (c/16),fig (c % 16)]else [c]
noncomputable def escs:List Nat→List Nat
 | []=> []
 |c::r=>esc c++escs r
noncomputable def dec(v:Int):List Nat:=(Str.ofString (toString v)).cps.toList
noncomputable def lev:Ex→Int
 | .either _ _=>1
 | .both _ _=>2
 | .two s _ _=>lvl s
 | .one _ _=>6
 |_=>7
noncomputable def brk(b:Bool)(l:List Nat):List Nat:=if b then l else [40]++l++[41]
mutual
noncomputable def shE:Ex→List Nat
 | .num v=>dec v
 | .text s=> [34]++escs s++[34]
 | .arg v=> [36]++dec v
 | .own=> [36,36]
 | .name s=>s
 | .apply w l=>w++[40]++joinL [44,32] (shEs l)++[41]
 | .list l=> [91]++joinL [44,32] (shEs l)++[93]
 | .one s e=>s++brk (decide (6≤lev e)) (shE e)
 | .two s a b=>brk (decide ((if lvl s=3 then lvl s+1 else lvl s)≤lev a)) (shE a)++[32]++s++[32]++brk (decide (lvl s+1≤lev b)) (shE b)
 | .both a b=>brk (decide (2≤lev a)) (shE a)++[32]++[38,38]++[32]++brk (decide (3≤lev b)) (shE b)
 | .either a b=>brk (decide (1≤lev a)) (shE a)++[32]++[124,124]++[32]++brk (decide (2≤lev b)) (shE b)
noncomputable def shEs:List Ex→List (List Nat)
 | []=> []
 |e::r=>shE e::shEs r
end
noncomputable def shW(e:Ex)(least:Int):List Nat:=brk (decide (least≤lev e)) (shE e)
mutual
noncomputable def hgt:Ex→Nat
 | .apply _ l=>hgts l+1
 | .list l=>hgts l+1
 | .one _ e=>hgt e+1
 | .two _ a b=>max (hgt a) (hgt b)+1
 | .both a b=>max (hgt a) (hgt b)+1
 | .either a b=>max (hgt a) (hgt b)+1
 |_=>1
noncomputable def hgts:List Ex→Nat
 | []=>0
 |e::r=>max (hgt e) (hgts r)
end
noncomputable def ops:List (List Nat):=["==","!=","<","<=",">",">=","+","-","*","/","%"].map fun s=>(Str.ofString s).cps.toList
mutual
noncomputable def Ex.Ok:Ex→Prop
 | .num v=>v.natAbs.log2<1920
 | .arg v=>v.natAbs.log2<1920
 | .apply _ l=>Ex.Oks l
 | .list l=>Ex.Oks l
 | .one _ e=>e.Ok
 | .two s a b=>s∈ops∧a.Ok∧b.Ok
 | .both a b=>a.Ok∧b.Ok
 | .either a b=>a.Ok∧b.Ok
 |_=>True
noncomputable def Ex.Oks:List Ex→Prop
 | []=>True
 |e::r=>e.Ok∧Ex.Oks r
end
mutual
noncomputable def shS:Stm→List Nat
 | .set e=> [36,36,32,61,32]++shE e
 | .name s e=>s++[32,61,32]++shE e
 | .call e=>shE e
 | .word s=>s
 | .whl e l=>za7++[32,40]++shE e++[41,32]++(match l with| []=> [123,32,125]|s::r=> [123,32]++joinL [59,32] (shSs (s::r))++[32,125])
 | .ifs e l m=>ifL++[32,40]++shE e++[41,32]++(match l with| []=> [123,32,125]|s::r=> [123,32]++joinL [59,32] (shSs (s::r))++[32,125])++(match m with| []=> []|s::r=> [32]++elseL++[32]++([123,32]++joinL [59,32] (shSs (s::r))++[32,125]))
noncomputable def shSs:List Stm→List (List Nat)
 | []=> []
 |e::r=>shS e::shSs r
end
noncomputable def shA(l:List Stm):List Nat:=joinL [59,32] (shSs l)
noncomputable def shB(l:List Stm):List Nat:=match l with
 | []=> [123,32,125]
 |s::r=> [123,32]++shA (s::r)++[32,125]
mutual
noncomputable def Stm.hgt:Stm→Nat
 | .set e=>Mine.hgt e+1
 | .name _ e=>Mine.hgt e+1
 | .call e=>Mine.hgt e+1
 | .word _=>1
 | .whl e l=>max (Mine.hgt e) (Stm.hgts l)+1
 | .ifs e l m=>max (max (Mine.hgt e) (Stm.hgts l)) (Stm.hgts m)+1
noncomputable def Stm.hgts:List Stm→Nat
 | []=>0
 |e::r=>max e.hgt (Stm.hgts r)
end
mutual
noncomputable def Stm.Ok:Stm→Prop
 | .set e=>e.Ok
 | .name _ e=>e.Ok
 | .call e=>e.Ok
 | .word _=>True
 | .whl e l=>e.Ok∧Stm.Oks l
 | .ifs e l m=>e.Ok∧Stm.Oks l∧Stm.Oks m
noncomputable def Stm.Oks:List Stm→Prop
 | []=>True
 |e::r=>e.Ok∧Stm.Oks r
end
noncomputable def Sm(x:Str):Prop:=x.length+2≤2^23
theorem Sm.len{x:Str}(h:Sm x):x.length≤2^23:=Nat.le_trans (Nat.le_add_right _ _) h
theorem sm_tx{l:List Nat}(h:l.length+2≤2^23):Sm (tx l):=by unfold Sm;rw[zcb];exact h
theorem Sm.tx{l:List Nat}(h:Sm (Mine.tx l)):l.length+2≤2^23:=by unfold Sm at h;rw[zcb]at h;exact h
theorem Sm.l{x y:Str}(h:Sm (x++y)):Sm x:=Nat.le_trans (by rw[strLen_append];exact Nat.add_le_add_right (Nat.le_add_right _ _) 2) h
theorem Sm.r{x y:Str}(h:Sm (x++y)):Sm y:=Nat.le_trans (by rw[strLen_append];exact Nat.add_le_add_right (Nat.le_add_left _ _) 2) h
theorem szl:2^23+2≤sizeLine:=by rw[sizeLine_eq];decide
theorem Sm.fit{x:Str}(h:Sm x):x.length≤sizeLine:=Nat.le_trans h.len (Nat.le_trans (by decide) szl)
theorem zaf{x y:Str}(h:Sm (x++y)):x.length+y.length≤sizeLine:=by rw[←strLen_append];exact h.fit
section
variable{n:Nat}{Φ:AV→Option AO→Prop}{Ξ:Int→Prop}
theorem osx{s:String}{l:List Nat}(h:(Str.ofString s).cps.toList=l):Str.ofString s=tx l:=by rw[os_tx s,h]
theorem figs_get:∀k,k<16→(Str.ofString "0123456789abcdef").cps.toList[k]?=some (fig k):=by
 have h:(Str.ofString "0123456789abcdef").cps.toList=[48,49,50,51,52,53,54,55,56,57,97,98,99,100,101,102]:=by decide+kernel
 rw[h];decide
theorem lit_cat{x y:Str}(h:Nat.ble (x.length+y.length) 100=true):x.length+y.length≤sizeLine:=Nat.le_trans (Nat.le_of_ble_eq_true h) (Nat.le_trans (by decide) szl)
theorem fig_at{m:Nat}(h:m<16):(0:Int)≤m∧(m:Int)<2^62∧(Str.ofString "0123456789abcdef").cps.toList[((m:Nat):Int).toNat]?=some (fig m):=⟨Int.natCast_nonneg _,Int.ofNat_lt.mpr (Nat.lt_trans h (by decide)),figs_get _ h⟩
theorem hex_cat(a b:Nat):Str.ofString "\\x"++tx [a]++tx [b]=tx [92,120,a,b]:=by
 rw[osx (s:="\\x") (l:=[92,120]) (by decide+kernel),zab,zab];rfl
theorem zfm{c:Nat}(hc:c<256)(h:Φ (.d (.str (tx [92,120,fig (c/16),fig (c % 16)]))) none):Cal (n+1) 1 [.d (.int c)] none Φ Ξ:=by
 rw[←hex_cat]at h
 exact zaa rfl (And.intro ⟨Int.natCast_nonneg c,by decide,by decide⟩ (Exists.intro (fig (c/16)) (And.intro (fig_at (Nat.div_lt_of_lt_mul hc)) (And.intro (lit_cat rfl) (And.intro (by decide) (Exists.intro (fig (c % 16)) (And.intro (fig_at (Nat.mod_lt c (by decide))) (And.intro (lit_cat rfl) h))))))))
theorem one_beq(c:Nat){s:String}{d:Nat}(h:(Str.ofString s).cps.toList=[d]):(tx [c]==Str.ofString s)=(c==d):=by
 rw[os_beq _ _ _ h]
 show(c==d&&true)=_
 rw[Bool.and_true]
theorem one_y{c:Nat}{s:String}{d:Nat}(h:(Str.ofString s).cps.toList=[d])(e:(tx [c]==Str.ofString s)=true):c=d:=beq_iff_eq.mp ((one_beq c h).symm.trans e)
theorem one_n{c:Nat}{s:String}{d:Nat}(h:(Str.ofString s).cps.toList=[d])(e:(tx [c]==Str.ofString s)=false):c≠d:=beq_eq_false_iff_ne.mp ((one_beq c h).symm.trans e)
theorem bs_cat(c:Nat):Str.ofString "\\"++tx [c]=tx [92,c]:=by rw[osx (s:="\\") (l:=[92]) (by decide+kernel),zab];rfl
theorem esc_q{c:Nat}(h1:c≠10)(h2:c≠9)(h:c=34∨c=92):esc c=[92,c]:=by unfold esc;rw[if_neg h1,if_neg h2,if_pos h]
theorem esc_x{c:Nat}(h1:c≠10)(h2:c≠9)(h3:c≠34)(h4:c≠92)(h5:c<32∨126<c)(h6:c<256):esc c=[92,120,fig (c/16),fig (c % 16)]:=by unfold esc;rw[if_neg h1,if_neg h2,if_neg (fun q=>q.elim h3 h4),if_pos ⟨h5,h6⟩]
theorem esc_p{c:Nat}(h1:c≠10)(h2:c≠9)(h3:c≠34)(h4:c≠92)(h:¬((c<32∨126<c)∧c<256)):esc c=[c]:=by unfold esc;rw[if_neg h1,if_neg h2,if_neg (fun q=>q.elim h3 h4),if_neg h]
theorem br_y{b:Bool}{A B:Prop}(e:b=true)(h:A):br b A B:=br_i (fun _=>h) fun q=>Bool.noConfusion (e.symm.trans q)
theorem br_n{b:Bool}{A B:Prop}(e:b=false)(h:B):br b A B:=br_i (fun q=>Bool.noConfusion (e.symm.trans q)) fun _=>h
theorem dl{a b:Nat}(h:decide ((a:Int)<(b:Int))=true):a<b:=Int.ofNat_lt.mp (of_decide_eq_true h)
theorem c_escaped_sign{c:Nat}(h:∀x,x=tx (esc c)→Φ (.d (.str x)) none):Cal (n+2) 2 [.d (.str (tx [c])), .d (.str (Str.ofString "\""))] none Φ Ξ:=by
 refine zaa rfl (br_i (fun e=>h _ ?_) (fun e=>?_))
 ·rw[one_y (d:=10) (by decide+kernel) e];exact osx (by decide+kernel)
 have h1:=one_n (d:=10) (by decide+kernel) e
 refine br_i (fun e=>h _ ?_) (fun e=>?_)
 ·rw[one_y (d:=9) (by decide+kernel) e];exact osx (by decide+kernel)
 have h2:=one_n (d:=9) (by decide+kernel) e
 refine br_i (fun e=>?_) (fun e=>?_)
 ·have e:(Str.ofString "\"").cps.toList.contains c=true:=e
  rw[show(Str.ofString "\"").cps.toList=[34] by decide+kernel]at e
  have e:c=34:=by simpa using e
  exact And.intro (lit_cat rfl) (h _ ((bs_cat c).trans (congrArg tx (esc_q h1 h2 (.inl e)).symm)))
 have h3:c≠34:=by
  have e:(Str.ofString "\"").cps.toList.contains c=false:=e
  rw[show(Str.ofString "\"").cps.toList=[34] by decide+kernel]at e
  simpa using e
 refine br_i (fun e=>?_) (fun e=>?_)
 ·exact And.intro (lit_cat rfl) (h _ ((bs_cat c).trans (congrArg tx (esc_q h1 h2 (.inr (one_y (d:=92) (by decide+kernel) e))).symm)))
 have h4:=one_n (d:=92) (by decide+kernel) e
 have hx:(c<32∨126<c)→c<256→Φ (.d (.str (tx [92,120,fig (c/16),fig (c % 16)]))) none:=fun q z=>h _ (congrArg tx (esc_x h1 h2 h3 h4 q z).symm)
 have hp:¬((c<32∨126<c)∧c<256)→Φ (.d (.str (tx [c]))) none:=fun q=>h _ (congrArg tx (esc_p h1 h2 h3 h4 q).symm)
 refine br_i (fun e=>br_y rfl (br_i (fun e2=>zfm (dl e2) (hx (.inl (dl e)) (dl e2))) (fun e2=>?_))) (fun e=>br_i (fun e2=>br_y rfl (br_i (fun e3=>zfm (dl e3) (hx (.inr (dl e2)) (dl e3))) (fun e3=>?_))) (fun e2=>?_))
 ·exact hp fun q=>absurd q.2 (Nat.not_lt.mpr (nl e2))
 ·exact hp fun q=>absurd q.2 (Nat.not_lt.mpr (nl e3))
 ·exact hp fun q=>q.1.elim (Nat.not_lt.mpr (nl e)) (Nat.not_lt.mpr (nl e2))
theorem joinL_flat:∀(l:List (List Nat)),joinL [] l=l.flatten
 | []=>rfl
 | [x]=>by show x=_;simp
 |x::y::r=>by
  show x++[]++joinL [] (y::r)=_
  rw[joinL_flat (y::r)];simp
theorem escs_flat:∀s:List Nat,escs s=(s.map esc).flatten
 | []=>rfl
 |c::r=>by rw[escs,escs_flat r];rfl
structure LJ{α:Type}(f:α→AV)(g:α→PyData)(l:List α)(items:List AV)(acc:List PyData)(H:List AO):Prop where
 h:∃l1 l2,H=[]∧l=l1++l2∧items=l2.map f∧acc=l1.map g
theorem LJ.start{α:Type}(f:α→AV)(g:α→PyData)(l:List α):LJ f g l (l.map f) [] []:=⟨[],l,rfl,rfl,rfl,rfl⟩
theorem LJ.step{α:Type}{f:α→AV}{g:α→PyData}{l:List α}{y:AV}{r:List AV}{acc:List PyData}{H:List AO}(h:LJ f g l (y::r) acc H):∃e,y=f e∧H=[]∧e∈l∧LJ f g l r (acc++[g e]) []:=by
 obtain⟨l1,l2,h0,h1,h2,h3⟩:=h
 cases l2 with
 |nil=>cases h2
 |cons e l2=>
  injection h2 with h4 h5
  refine⟨e,h4,h0,by rw[h1];exact List.mem_append_right _ (.head _),l1++[e],l2,rfl,by rw[h1,List.append_assoc];rfl,h5,by rw[h3,List.map_append];rfl⟩
theorem LJ.done{α:Type}{f:α→AV}{g:α→PyData}{l:List α}{acc:List PyData}{H:List AO}(h:LJ f g l [] acc H):H=[]∧acc=l.map g:=by
 obtain⟨l1,l2,h0,h1,h2,h3⟩:=h
 cases l2 with
 |cons e l2=>cases h2
 |nil=>exact⟨h0,by rw[h3,h1,List.append_nil]⟩
theorem escs_join(s:List Nat):joinL (Str.ofString "").cps.toList ((s.map fun c=>tx (esc c)).map (·.cps.toList))=escs s:=by
 rw[show(Str.ofString "").cps.toList=[] by decide+kernel,joinL_flat,escs_flat,List.map_map];rfl
theorem c_escaped{s:List Nat}(hs:Sm (tx (escs s)))(hs2:s.length≤2^23)(h:Φ (.d (.str (tx (escs s)))) none):Cal (n+3) 3 [.d (.str (tx s)), .d (.str (Str.ofString "\""))] none Φ Ξ:=by
 refine zaa rfl (And.intro (by rw[List.length_map,zah];exact Nat.le_trans hs2 (Nat.le_trans (by decide) szl)) (Exists.intro (LJ (fun c=>AV.d (.str (tx [c]))) (fun c=>PyData.str (tx (esc c))) s) (And.intro (by rw[zah];exact LJ.start _ _ s) (And.intro (fun y r acc H hI=>?_) (fun acc H hI=>?_)))))
 ·obtain⟨c,rfl,rfl,_,hn⟩:=hI.step
  exact c_escaped_sign fun x hx=>And.intro rfl (hx▸hn)
 ·obtain⟨rfl,rfl⟩:=hI.done
  refine Exists.intro (s.map fun c=>tx (esc c)) (And.intro ⟨zbj _ _,?_⟩ ?_)
  ·rw[escs_join]
   exact Nat.le_trans (Nat.add_le_add_left (by decide) _) (Nat.le_trans hs.tx (Nat.le_trans (Nat.le_add_right _ _) szl))
  ·rw[←escs_join]at h
   exact h
theorem ops_lvl:∀s∈ops,∃v,(tabOf 249).lookup (tx s)=some v∧lvl s=v∧3≤v∧v≤5:=by
 intro s hs
 have:((zdd.lookup (tx s)).any fun v=>decide (3≤v∧v≤5))=true:=by
  revert s;decide+kernel
 cases q:zdd.lookup (tx s)with
 |none=>rw[q]at this;cases this
 |some v=>
  rw[q]at this
  exact⟨v,q,by unfold lvl;rw[q];rfl,of_decide_eq_true this⟩
theorem ix0{P:Prop}(h:P):(0:Int)≤0∧(0:Int)<2^62∧P:=⟨by decide,by decide,h⟩
theorem ix1{P:Prop}(h:P):(0:Int)≤1∧(1:Int)<2^62∧P:=⟨by decide,by decide,h⟩
theorem ix2{P:Prop}(h:P):(0:Int)≤2∧(2:Int)<2^62∧P:=⟨by decide,by decide,h⟩
theorem ix3{P:Prop}(h:P):(0:Int)≤3∧(3:Int)<2^62∧P:=⟨by decide,by decide,h⟩
theorem zd7{e:Ex}(ok:e.Ok)(h:Φ (.d (.int (lev e))) none):Cal (n+1) 10 [.d e.py] none Φ Ξ:=by
 refine zaa rfl ?_
 cases e with
 |two s a b=>
  obtain⟨v,h1,h2,h3,h4⟩:=ops_lvl s ok.1
  rw[show lev (.two s a b)=v from h2]at h
  exact ix0 (ix0 (ix0 (ix1 (Exists.intro v (And.intro h1 h)))))
 |either a b=>exact ix0 h
 |both a b=>exact ix0 (ix0 h)
 |_=>exact ix0 (ix0 (ix0 (ix0 h)))
theorem esc_len(c:Nat):1≤(esc c).length∧(esc c).length≤4:=by
 unfold esc
 repeat' split
 all_goals simp
theorem zfx:∀s:List Nat,s.length≤(escs s).length
 | []=>Nat.le_refl _
 |c::r=>by
  rw[escs,List.length_append,List.length_cons]
  have:=zfx r
  have:=(esc_len c).1
  lia
theorem zgq(b:Bool)(l:List Nat):l.length≤(brk b l).length∧(brk b l).length≤l.length+2:=by
 unfold brk;split
 ·lia
 ·simp;lia
theorem zec(sep:List Nat):∀(l:List (List Nat))(x:List Nat),x∈l→x.length≤(joinL sep l).length
 | [],_,h=>by cases h
 | [y],x,h=>by cases h with
  |head=>exact Nat.le_refl _
  |tail _ h=>cases h
 |y::z::r,x,h=>by
  show x.length≤(y++sep++joinL sep (z::r)).length
  rw[List.length_append,List.length_append]
  cases h with
  |head=>lia
  |tail _ h=>have:=zec sep (z::r) x h;lia
theorem shEs_mem:∀{l:List Ex}{e:Ex},e∈l→shE e∈shEs l
 |_::_,_, .head _=> .head _
 |_::_,_, .tail _ h=> .tail _ (shEs_mem h)
theorem hgts_mem:∀{l:List Ex}{e:Ex},e∈l→hgt e≤hgts l
 |_::_,_, .head _=>Nat.le_max_left _ _
 |_::_,_, .tail _ h=>Nat.le_trans (hgts_mem h) (Nat.le_max_right _ _)
theorem oks_mem:∀{l:List Ex}{e:Ex},Ex.Oks l→e∈l→e.Ok
 |_::_,_,h, .head _=>h.1
 |_::_,_,h, .tail _ q=>oks_mem h.2 q
theorem osp:Str.ofString " "=tx [32]:=osx (by decide+kernel)
theorem ob1:Str.ofString "("=tx [40]:=osx (by decide+kernel)
theorem ob2:Str.ofString ")"=tx [41]:=osx (by decide+kernel)
theorem brk_cat(x:List Nat):Str.ofString "("++tx x++Str.ofString ")"=tx (brk false x):=by
 rw[ob1,ob2,zab,zab];rfl
theorem c_within{e:Ex}{k:Nat}{least:Int}(ih:∀{Φ:AV→Option AO→Prop}{Ξ:Int→Prop},Φ (.d (.str (tx (shE e)))) none→Cal (k+1) 12 [.d e.py] none Φ Ξ)(ok:e.Ok)(hsz:Sm (tx (shW e least)))(h:Φ (.d (.str (tx (shW e least)))) none):Cal (k+2) 11 [.d e.py, .d (.int least)] none Φ Ξ:=by
 unfold shW at h hsz
 refine zaa rfl (ih (zd7 ok (br_i (fun e1=>?_) (fun e1=>?_))))
 ·rw[show decide (least≤lev e)=true from e1]at h
  exact h
 ·rw[show decide (least≤lev e)=false from e1,←brk_cat]at h hsz
  exact And.intro (zaf hsz.l) (And.intro (zaf hsz) h)
structure SE(m:Nat):Prop where
 h:∀{e:Ex}{k:Nat}{Φ:AV→Option AO→Prop}{Ξ:Int→Prop},hgt e≤m→e.Ok→Sm (tx (shE e))→2*m+6≤k→Φ (.d (.str (tx (shE e)))) none→Cal k 12 [.d e.py] none Φ Ξ
theorem zge(a b:Nat):∀(l:List (List Nat)),l.length≤(joinL [a,b] l).length+1
 | []=>Nat.zero_le _
 | [y]=>by show 1≤_;lia
 |y::z::r=>by
  show _≤(y++[a,b]++joinL [a,b] (z::r)).length+1
  have:=zge a b (z::r)
  rw[List.length_append,List.length_append,List.length_cons]
  show _≤y.length+2+_+1
  lia
theorem zhc:∀l:List Ex,Ex.pys l=l.map Ex.py
 | []=>rfl
 |e::r=>congrArg (e.py:: ·) (zhc r)
theorem zf1:∀l:List Ex,shEs l=l.map shE
 | []=>rfl
 |e::r=>congrArg (shE e:: ·) (zf1 r)
theorem strs_tx(f:Ex→List Nat)(l:List Ex):(l.map fun c=>tx (f c)).map (·.cps.toList)=l.map f:=by
 rw[List.map_map]
 apply List.map_congr_left
 intro c _
 exact zah _
theorem Sm.brk{b:Bool}{x:List Nat}(h:Sm (Mine.tx (Mine.brk b x))):Sm (Mine.tx x):=sm_tx (Nat.le_trans (Nat.add_le_add_right (zgq b x).1 2) h.tx)
theorem Sm.item{l:List (List Nat)}{x s:List Nat}(h:Sm (Mine.tx (joinL s l)))(hx:x∈l):Sm (Mine.tx x):=sm_tx (Nat.le_trans (Nat.add_le_add_right (zec s l x hx) 2) h.tx)
theorem Sm.count{α:Type}{l:List α}{f:α→List Nat}{a b:Nat}(h:Sm (Mine.tx (joinL [a,b] (l.map f)))):l.length≤sizeLine:=by
 have:=zge a b (l.map f)
 rw[List.length_map]at this
 exact Nat.le_trans (Nat.le_trans this (Nat.add_le_add_left (by decide) _)) (Nat.le_trans h.tx (Nat.le_trans (by decide) szl))
noncomputable abbrev jn(l:List Ex):List Nat:=joinL (Str.ofString ", ").cps.toList ((l.map fun c=>tx (shE c)).map (·.cps.toList))
theorem jn_eq(l:List Ex):jn l=joinL [44,32] (l.map shE):=by unfold jn;rw[show(Str.ofString ", ").cps.toList=[44,32] by decide+kernel,strs_tx shE]
theorem jn_len{l:List Ex}(h:Sm (tx (jn l))):((Ex.pys l).map AV.d).length≤sizeLine:=by
 rw[jn_eq]at h;rw[zhc,List.length_map,List.length_map];exact h.count
theorem jn_start(l:List Ex):LJ (fun e=>AV.d (Ex.py e)) (fun e=>PyData.str (tx (shE e))) l ((Ex.pys l).map AV.d) [] []:=by
 rw[zhc,List.map_map];exact LJ.start _ _ l
theorem jn_sm{l:List Ex}(h:Sm (tx (jn l))){e:Ex}(hm:e∈l):Sm (tx (shE e)):=by
 rw[jn_eq]at h;exact h.item (List.mem_map_of_mem hm)
theorem jn_fit{l:List Ex}(h:Sm (tx (jn l))):(jn l).length+(Str.ofString ", ").cps.toList.length≤sizeLine:=by
 rw[show(Str.ofString ", ").cps.toList.length=2 by decide+kernel];exact Nat.le_trans h.tx (Nat.le_trans (by decide) szl)
theorem cat_text(s:List Nat):tx (shE (.text s))=Str.ofString "\""++tx (escs s)++Str.ofString "\"":=by rw[osx (s:="\"") (l:=[34]) (by decide+kernel),zab,zab];rfl
theorem cat_arg(v:Int):tx (shE (.arg v))=Str.ofString "$"++Str.ofString (toString v):=by rw[osx (s:="$") (l:=[36]) (by decide+kernel),os_tx (toString v),zab];rfl
theorem cat_one(s:List Nat)(e:Ex):tx (shE (.one s e))=tx s++tx (shW e 6):=by rw[zab];rfl
theorem cat_list(l:List Ex):tx (shE (.list l))=Str.ofString "["++tx (jn l)++Str.ofString "]":=by rw[osx (s:="[") (l:=[91]) (by decide+kernel),osx (s:="]") (l:=[93]) (by decide+kernel),zab,zab,jn_eq,←zf1];rfl
theorem cat_apply(s:List Nat)(l:List Ex):tx (shE (.apply s l))=tx s++Str.ofString "("++tx (jn l)++Str.ofString ")":=by rw[ob1,ob2,zab,zab,zab,jn_eq,←zf1];rfl
theorem cat_two{s:List Nat}{a b:Ex}{v:Int}(h:lvl s=v):tx (shE (.two s a b))=tx (shW a (if v=3 then v+1 else v))++Str.ofString " "++tx s++Str.ofString " "++tx (shW b (v+1)):=by rw[osp,zab,zab,zab,zab,←h];rfl
theorem cat_both(a b:Ex):tx (shE (.both a b))=tx (shW a 2)++Str.ofString " "++Str.ofString "&&"++Str.ofString " "++tx (shW b (2+1)):=by rw[osp,osx (s:="&&") (l:=[38,38]) (by decide+kernel),zab,zab,zab,zab];rfl
theorem cat_either(a b:Ex):tx (shE (.either a b))=tx (shW a 1)++Str.ofString " "++Str.ofString "||"++Str.ofString " "++tx (shW b (1+1)):=by rw[osp,osx (s:="||") (l:=[124,124]) (by decide+kernel),zab,zab,zab,zab];rfl
theorem c_show_step{m:Nat}(ih:SE m):SE (m+1):=by
 refine⟨@fun e k Φ Ξ hh ok hsz hk h=>?_⟩
 obtain⟨n,rfl⟩:∃n,k=n+8:=⟨k-8,(Nat.sub_add_cancel (Nat.le_trans (Nat.le_add_left 8 (2*m)) hk)).symm⟩
 have hk6:2*m+6≤n+6:=Nat.le_of_add_le_add_right (b:=2) hk
 have hw:∀{e:Ex}{least:Int}{Φ:AV→Option AO→Prop}{Ξ:Int→Prop},hgt e≤m→e.Ok→Sm (tx (shW e least))→Φ (.d (.str (tx (shW e least)))) none→Cal (n+7) 11 [.d e.py, .d (.int least)] none Φ Ξ:=
  fun h1 h2 h3 h4=>c_within (k:=n+5) (fun h=>ih.h h1 h2 h3.brk hk6 h) h2 h3 h4
 have he:∀{e:Ex}{Φ:AV→Option AO→Prop}{Ξ:Int→Prop},hgt e≤m→e.Ok→Sm (tx (shE e))→Φ (.d (.str (tx (shE e)))) none→Cal (n+7) 12 [.d e.py] none Φ Ξ:=
  fun h1 h2 h3 h4=>ih.h h1 h2 h3 (Nat.le_succ_of_le hk6) h4
 refine zaa rfl ?_
 cases e with
 |num v=>
  rw[show tx (shE (.num v))=Str.ofString (toString v)from(os_tx _).symm]at h
  exact ix0 (ix1 (And.intro ok h))
 |text s=>
  rw[cat_text]at h hsz
  exact ix0 (ix1 (c_escaped (s:=s) hsz.l.r (Nat.le_trans (zfx s) (Nat.le_trans (Nat.le_add_right _ _) hsz.l.r.tx)) (And.intro (zaf hsz.l) (And.intro (zaf hsz) h))))
 |arg v=>
  rw[cat_arg]at h hsz
  exact ix0 (ix1 (And.intro ok (And.intro (zaf hsz) h)))
 |own=>
  rw[show tx (shE .own)=Str.ofString "$$" from(osx (by decide+kernel)).symm]at h
  exact ix0 h
 |name s=>exact ix0 (ix1 h)
 |one s e=>
  rw[cat_one]at h hsz
  exact ix0 (ix1 (ix2 (hw (Nat.le_of_succ_le_succ hh) ok hsz.r (And.intro (zaf hsz) h))))
 |list l=>
  rw[cat_list]at h hsz
  refine ix0 (ix1 (And.intro (jn_len hsz.l.r) (Exists.intro (LJ (fun e=>AV.d e.py) (fun e=>PyData.str (tx (shE e))) l) (And.intro (jn_start l) (And.intro (fun y r acc H hI=>?_) (fun acc H hI=>?_))))))
  ·obtain⟨e,rfl,rfl,hm,hn⟩:=hI.step
   exact he (Nat.le_trans (hgts_mem hm) (Nat.le_of_succ_le_succ hh)) (oks_mem ok hm) (jn_sm hsz.l.r hm) (And.intro rfl hn)
  ·obtain⟨rfl,rfl⟩:=hI.done
   exact Exists.intro (l.map fun c=>tx (shE c)) (And.intro ⟨zbj _ _,jn_fit hsz.l.r⟩ (And.intro (zaf hsz.l) (And.intro (zaf hsz) h)))
 |apply s l=>
  rw[cat_apply]at h hsz
  refine ix0 (ix1 (And.intro (zaf hsz.l.l) (ix2 (And.intro (jn_len hsz.l.r) (Exists.intro (LJ (fun e=>AV.d e.py) (fun e=>PyData.str (tx (shE e))) l) (And.intro (jn_start l) (And.intro (fun y r acc H hI=>?_) (fun acc H hI=>?_))))))))
  ·obtain⟨e,rfl,rfl,hm,hn⟩:=hI.step
   exact he (Nat.le_trans (hgts_mem hm) (Nat.le_of_succ_le_succ hh)) (oks_mem ok hm) (jn_sm hsz.l.r hm) (And.intro rfl hn)
  ·obtain⟨rfl,rfl⟩:=hI.done
   exact Exists.intro (l.map fun c=>tx (shE c)) (And.intro ⟨zbj _ _,jn_fit hsz.l.r⟩ (And.intro (zaf hsz.l) (And.intro (zaf hsz) h)))
 |two s a b=>
  obtain⟨v,h1,h2,h3,h4⟩:=ops_lvl s ok.1
  rw[cat_two h2]at h hsz
  have hh:=Nat.le_of_succ_le_succ hh
  have ha:=Nat.le_trans (Nat.le_max_left _ _) hh
  have hb:=Nat.le_trans (Nat.le_max_right _ _) hh
  refine ix0 (zd7 (e:= .two s a b) ok ?_)
  rw[show lev (.two s a b)=v from h2]
  refine ix1 (ix2 (ix3 (br_i (fun e3=>?_) (fun e3=>?_))))
  ·rw[if_pos (of_decide_eq_true e3)]at h hsz
   exact hw (least:=v+1) ha ok.2.1 hsz.l.l.l.l (And.intro (zaf hsz.l.l.l) (And.intro (zaf hsz.l.l) (And.intro (zaf hsz.l) (hw (least:=v+1) hb ok.2.2 hsz.r (And.intro (zaf hsz) h)))))
  ·rw[if_neg (of_decide_eq_false e3)]at h hsz
   exact hw (least:=v) ha ok.2.1 hsz.l.l.l.l (And.intro (zaf hsz.l.l.l) (And.intro (zaf hsz.l.l) (And.intro (zaf hsz.l) (hw (least:=v+1) hb ok.2.2 hsz.r (And.intro (zaf hsz) h)))))
 |both a b=>
  rw[cat_both]at h hsz
  have hh:=Nat.le_of_succ_le_succ hh
  refine ix0 (zd7 (e:= .both a b) ok ?_)
  rw[show lev (.both a b)=2 from rfl]
  exact ix1 (ix1 (ix2 (hw (least:=2) (Nat.le_trans (Nat.le_max_left _ _) hh) ok.1 hsz.l.l.l.l (And.intro (zaf hsz.l.l.l) (And.intro (zaf hsz.l.l) (And.intro (zaf hsz.l) (hw (least:=2+1) (Nat.le_trans (Nat.le_max_right _ _) hh) ok.2 hsz.r (And.intro (zaf hsz) h))))))))
 |either a b=>
  rw[cat_either]at h hsz
  have hh:=Nat.le_of_succ_le_succ hh
  refine ix0 (zd7 (e:= .either a b) ok ?_)
  rw[show lev (.either a b)=1 from rfl]
  exact ix1 (ix1 (ix2 (hw (least:=1) (Nat.le_trans (Nat.le_max_left _ _) hh) ok.1 hsz.l.l.l.l (And.intro (zaf hsz.l.l.l) (And.intro (zaf hsz.l.l) (And.intro (zaf hsz.l) (hw (least:=1+1) (Nat.le_trans (Nat.le_max_right _ _) hh) ok.2 hsz.r (And.intro (zaf hsz) h))))))))
end
theorem hgt_pos(e:Ex):1≤hgt e:=by cases e<;>exact Nat.le_add_left 1 _
theorem Shgt_pos(e:Stm):1≤e.hgt:=by cases e<;>exact Nat.le_add_left 1 _
theorem se_all:∀m,SE m
 |0=>⟨fun{e} _ _ _ hh=>absurd (hgt_pos e) (Nat.not_le.mpr (Nat.lt_succ_of_le hh))⟩
 |m+1=>c_show_step (se_all m)
theorem c_show_ex{e:Ex}{k:Nat}{Φ:AV→Option AO→Prop}{Ξ:Int→Prop}(ok:e.Ok)(hsz:Sm (tx (shE e)))(hk:2*hgt e+6≤k)(h:Φ (.d (.str (tx (shE e)))) none):Cal k 12 [.d e.py] none Φ Ξ:=
 (se_all (hgt e)).h (Nat.le_refl _) ok hsz hk h
theorem zhd(e:Ex)(l:List Stm):shS (.whl e l)=za7++[32,40]++shE e++[41,32]++shB l:=by cases l<;>rfl
theorem zek(e:Ex)(l m:List Stm):shS (.ifs e l m)=ifL++[32,40]++shE e++[41,32]++shB l++(match m with| []=> []|s::r=> [32]++elseL++[32]++shB (s::r)):=by cases l<;>cases m<;>rfl
theorem zct:∀l:List Stm,Stm.pys l=l.map Stm.py
 | []=>rfl
 |e::r=>congrArg (e.py:: ·) (zct r)
theorem shSs_map:∀l:List Stm,shSs l=l.map shS
 | []=>rfl
 |e::r=>congrArg (shS e:: ·) (shSs_map r)
theorem Shgts_mem:∀{l:List Stm}{e:Stm},e∈l→e.hgt≤Stm.hgts l
 |_::_,_, .head _=>Nat.le_max_left _ _
 |_::_,_, .tail _ h=>Nat.le_trans (Shgts_mem h) (Nat.le_max_right _ _)
theorem Soks_mem:∀{l:List Stm}{e:Stm},Stm.Oks l→e∈l→e.Ok
 |_::_,_,h, .head _=>h.1
 |_::_,_,h, .tail _ q=>Soks_mem h.2 q
structure SS(m:Nat):Prop where
 st:∀{e:Stm}{k:Nat}{Φ:AV→Option AO→Prop}{Ξ:Int→Prop},e.hgt≤m→e.Ok→Sm (tx (shS e))→3*m+6≤k→Φ (.d (.str (tx (shS e)))) none→Cal k 14 [.d e.py] none Φ Ξ
noncomputable abbrev jnS(l:List Stm):List Nat:=joinL (Str.ofString "; ").cps.toList ((l.map fun c=>tx (shS c)).map (·.cps.toList))
theorem jnS_eq(l:List Stm):jnS l=joinL [59,32] (l.map shS):=by
 unfold jnS;rw[show(Str.ofString "; ").cps.toList=[59,32] by decide+kernel,List.map_map];rfl
theorem jnS_len{l:List Stm}(h:Sm (tx (jnS l))):((Stm.pys l).map AV.d).length≤sizeLine:=by
 rw[jnS_eq]at h;rw[zct,List.length_map,List.length_map];exact h.count
theorem jnS_start(l:List Stm):LJ (fun e=>AV.d (Stm.py e)) (fun e=>PyData.str (tx (shS e))) l ((Stm.pys l).map AV.d) [] []:=by
 rw[zct,List.map_map];exact LJ.start _ _ l
theorem jnS_sm{l:List Stm}(h:Sm (tx (jnS l))){e:Stm}(hm:e∈l):Sm (tx (shS e)):=by
 rw[jnS_eq]at h;exact h.item (List.mem_map_of_mem hm)
theorem jnS_fit{l:List Stm}(h:Sm (tx (jnS l))):(jnS l).length+(Str.ofString "; ").cps.toList.length≤sizeLine:=by
 rw[show(Str.ofString "; ").cps.toList.length=2 by decide+kernel];exact Nat.le_trans h.tx (Nat.le_trans (by decide) szl)
theorem shA_jn(l:List Stm):tx (shA l)=tx (jnS l):=by rw[jnS_eq,←shSs_map];rfl
theorem ss_action{m:Nat}(ih:SS m){l:List Stm}{k:Nat}{Φ:AV→Option AO→Prop}{Ξ:Int→Prop}(hh:Stm.hgts l≤m)(ok:Stm.Oks l)(hsz:Sm (tx (shA l)))(hk:3*m+6≤k)(h:Φ (.d (.str (tx (shA l)))) none):Cal (k+1) 15 [.d (lpy l)] none Φ Ξ:=by
 rw[shA_jn]at h hsz
 refine zaa rfl (And.intro (jnS_len hsz) (Exists.intro (LJ (fun e=>AV.d e.py) (fun e=>PyData.str (tx (shS e))) l) (And.intro (jnS_start l) (And.intro (fun y r acc H hI=>?_) (fun acc H hI=>?_)))))
 ·obtain⟨e,rfl,rfl,hm,hn⟩:=hI.step
  exact ih.st (Nat.le_trans (Shgts_mem hm) hh) (Soks_mem ok hm) (jnS_sm hsz hm) hk (And.intro rfl hn)
 ·obtain⟨rfl,rfl⟩:=hI.done
  exact Exists.intro (l.map fun c=>tx (shS c)) (And.intro ⟨zbj _ _,jnS_fit hsz⟩ h)
theorem cat_blk(l:List Nat):tx ([123,32]++l++[32,125])=Str.ofString "{ "++tx l++Str.ofString " }":=by
 rw[osx (s:="{ ") (l:=[123,32]) (by decide+kernel),osx (s:=" }") (l:=[32,125]) (by decide+kernel),zab,zab]
theorem ss_block{m:Nat}(ih:SS m){l:List Stm}{k:Nat}{Φ:AV→Option AO→Prop}{Ξ:Int→Prop}(hh:Stm.hgts l≤m)(ok:Stm.Oks l)(hsz:Sm (tx (shB l)))(hk:3*m+6≤k)(h:Φ (.d (.str (tx (shB l)))) none):Cal (k+2) 13 [.d (lpy l)] none Φ Ξ:=by
 refine zaa rfl ?_
 cases l with
 |nil=>
  rw[show tx (shB [])=Str.ofString "{ }" from(osx (by decide+kernel)).symm]at h
  exact h
 |cons s r=>
  rw[show tx (shB (s::r))=Str.ofString "{ "++tx (shA (s::r))++Str.ofString " }" from cat_blk _]at h hsz
  exact ss_action ih hh ok hsz.l.r hk (And.intro (zaf hsz.l) (And.intro (zaf hsz) h))
theorem cat_set(e:Ex):tx (shS (.set e))=Str.ofString "$$ = "++tx (shE e):=by
 rw[osx (s:="$$ = ") (l:=[36,36,32,61,32]) (by decide+kernel),zab];rfl
theorem cat_name(s:List Nat)(e:Ex):tx (shS (.name s e))=tx s++Str.ofString " = "++tx (shE e):=by
 rw[osx (s:=" = ") (l:=[32,61,32]) (by decide+kernel),zab,zab];rfl
theorem osr:Str.ofString ") "=tx [41,32]:=osx (by decide+kernel)
theorem cat_whl(e:Ex)(l:List Stm):tx (shS (.whl e l))=Str.ofString "while ("++tx (shE e)++Str.ofString ") "++tx (shB l):=by
 rw[osx (s:="while (") (l:=za7++[32,40]) (by decide+kernel),osr,zab,zab,zab,zhd]
theorem cat_if(e:Ex)(l:List Stm):tx (shS (.ifs e l []))=Str.ofString "if ("++tx (shE e)++Str.ofString ") "++tx (shB l):=by
 rw[osx (s:="if (") (l:=ifL++[32,40]) (by decide+kernel),osr,zab,zab,zab,zek,List.append_nil]
theorem cat_ifs(e:Ex)(l:List Stm)(s:Stm)(r:List Stm):tx (shS (.ifs e l (s::r)))=Str.ofString "if ("++tx (shE e)++Str.ofString ") "++tx (shB l)++Str.ofString " else "++tx (shB (s::r)):=by
 rw[osx (s:="if (") (l:=ifL++[32,40]) (by decide+kernel),osr,osx (s:=" else ") (l:=[32]++elseL++[32]) (by decide+kernel),zab,zab,zab,zab,zab,zek]
 exact congrArg tx (List.append_assoc _ _ _).symm
theorem ss_step{m:Nat}(ih:SS m):SS (m+1):=by
 refine⟨@fun e k Φ Ξ hh ok hsz hk h=>?_⟩
 obtain⟨n,rfl⟩:∃n,k=n+9:=⟨k-9,(Nat.sub_add_cancel (Nat.le_trans (Nat.le_add_left 9 (3*m)) hk)).symm⟩
 have hk6:3*m+6≤n+6:=Nat.le_of_add_le_add_right (b:=3) hk
 have hE:∀{e:Ex}{Φ:AV→Option AO→Prop}{Ξ:Int→Prop},hgt e≤m→e.Ok→Sm (tx (shE e))→Φ (.d (.str (tx (shE e)))) none→Cal (n+8) 12 [.d e.py] none Φ Ξ:=
  fun h1 h2 h3 h4=>c_show_ex h2 h3 (Nat.le_trans (Nat.add_le_add_right (Nat.mul_le_mul (by decide) h1) 6) (Nat.le_trans hk6 (Nat.le_add_right _ 2))) h4
 have hB:∀{l:List Stm}{Φ:AV→Option AO→Prop}{Ξ:Int→Prop},Stm.hgts l≤m→Stm.Oks l→Sm (tx (shB l))→Φ (.d (.str (tx (shB l)))) none→Cal (n+8) 13 [.d (lpy l)] none Φ Ξ:=
  fun h1 h2 h3 h4=>ss_block ih h1 h2 h3 hk6 h4
 refine zaa rfl ?_
 cases e with
 |set e=>
  rw[cat_set]at h hsz
  exact ix0 (ix1 (hE (Nat.le_of_succ_le_succ hh) ok hsz.r (And.intro (zaf hsz) h)))
 |name s e=>
  rw[cat_name]at h hsz
  exact ix0 (ix1 (And.intro (zaf hsz.l) (ix2 (hE (Nat.le_of_succ_le_succ hh) ok hsz.r (And.intro (zaf hsz) h)))))
 |call e=>exact ix0 (ix1 (hE (Nat.le_of_succ_le_succ hh) ok hsz h))
 |word s=>exact ix0 (ix1 h)
 |whl e l=>
  rw[cat_whl]at h hsz
  have hh:=Nat.max_le.mp (Nat.le_of_succ_le_succ hh)
  exact ix0 (ix1 (hE hh.1 ok.1 hsz.l.l.r (And.intro (zaf hsz.l.l) (And.intro (zaf hsz.l) (ix2 (hB hh.2 ok.2 hsz.r (And.intro (zaf hsz) h)))))))
 |ifs e l m=>
  have hh:=Nat.max_le.mp (Nat.le_of_succ_le_succ hh)
  have h1:=Nat.max_le.mp hh.1
  cases m with
  |nil=>
   rw[cat_if]at h hsz
   exact ix0 (ix1 (hE h1.1 ok.1 hsz.l.l.r (And.intro (zaf hsz.l.l) (And.intro (zaf hsz.l) (ix2 (hB h1.2 ok.2.1 hsz.r (And.intro (zaf hsz) (ix3 h))))))))
  |cons s r=>
   rw[cat_ifs]at h hsz
   exact ix0 (ix1 (hE h1.1 ok.1 hsz.l.l.l.l.r (And.intro (zaf hsz.l.l.l.l) (And.intro (zaf hsz.l.l.l) (ix2 (hB h1.2 ok.2.1 hsz.l.l.r (And.intro (zaf hsz.l.l) (ix3 (And.intro (zaf hsz.l) (ix3 (hB hh.2 ok.2.2 hsz.r (And.intro (zaf hsz) h))))))))))))
theorem ss_all:∀m,SS m
 |0=>⟨fun{e} _ _ _ hh=>absurd (Shgt_pos e) (Nat.not_le.mpr (Nat.lt_succ_of_le hh))⟩
 |m+1=>ss_step (ss_all m)
theorem ze6{l:List Stm}{k:Nat}{Φ:AV→Option AO→Prop}{Ξ:Int→Prop}(ok:Stm.Oks l)(hsz:(shA l).length+2≤2^23)(hk:3*Stm.hgts l+6≤k)(h:Φ (.d (.str (tx (shA l)))) none):Cal (k+1) 15 [.d (lpy l)] none Φ Ξ:=
 ss_action (ss_all _) (Nat.le_refl _) ok (sm_tx hsz) hk h
noncomputable def pen(cs:List Int)(z:Int)(p:Nat):AO:= .list [.d (.list (cs.map .int)), .d (.int p), .d (.int z)]
theorem pwr{p a b:Nat}(hp:p+a<2^30)(h:Nat.ble b a=true):p+b<2^30:=Nat.lt_of_le_of_lt (Nat.add_le_add_left (Nat.le_of_ble_eq_true h) p) hp
theorem addw{a b:Nat}(p:Nat)(h:Nat.ble a b=true):p+a≤p+b:=Nat.add_le_add_left (Nat.le_of_ble_eq_true h) p
theorem le_w{p p' a b:Nat}(h:p'≤p+a)(g:Nat.ble a b=true):p'≤p+b:=Nat.le_trans h (Nat.add_le_add_left (Nat.le_of_ble_eq_true g) p)
theorem le_tr{p p1 p2 a b:Nat}(g:p2≤p1+b)(h:p1≤p+a):p2≤p+(a+b):=Nat.le_trans g (by rw[←Nat.add_assoc];exact Nat.add_le_add_right h b)
theorem le_pw{p p1 a b c:Nat}(h:p1≤p+a)(hp:p+c<2^30)(g:Nat.ble (a+b) c=true):p1+b<2^30:=Nat.lt_of_le_of_lt (Nat.le_trans (Nat.add_le_add_right h b) (by rw[Nat.add_assoc];exact Nat.add_le_add_left (Nat.le_of_ble_eq_true g) p)) hp
theorem lt62{v m:Nat}(h:v<m)(g:Nat.ble m 1000=true):(v:Int)<2^62:=Int.ofNat_lt.mpr (Nat.lt_of_lt_of_le h (Nat.le_trans (Nat.le_of_ble_eq_true g) (by decide)))
theorem lt_sz{v m:Nat}(h:v<m)(g:Nat.ble m 1000=true):v≤sizeLine:=Nat.le_trans (Nat.le_of_lt h) (Nat.le_trans (Nat.le_of_ble_eq_true g) (Nat.le_trans (by decide) szl))
theorem szm{v m:Nat}(h:v<m)(g:Nat.ble m 1000=true):(v:Int)≤sizeLine:=Int.ofNat_le.mpr (lt_sz h g)
theorem ze9{v m:Nat}(h:v<m)(g:Nat.ble m 1000=true):((List.range ((v:Int)).toNat).map fun(i:Nat)=>AV.d (.int i)).length≤sizeLine:=by
 rw[List.length_map,List.length_range];exact lt_sz h g
theorem zcv(l:List String){v:Nat}(hv:v<l.length):∃s∈l,(l.map fun s=>PyData.str (Str.ofString s))[((v:Int)).toNat]?=some (.str (Str.ofString s)):=by
 refine⟨l[v],List.getElem_mem hv,?_⟩
 rw[Int.toNat_natCast,List.getElem?_map,List.getElem?_eq_getElem hv,Option.map_some]
theorem sign_get{s:String}(l:List Nat){v:Nat}(e:(Str.ofString s).cps.toList=l)(hv:v<l.length):∃c∈l,(Str.ofString s).cps.toList[((v:Int)).toNat]?=some c:=by
 refine⟨l[v],List.getElem_mem hv,?_⟩
 rw[e,Int.toNat_natCast,List.getElem?_eq_getElem hv]
structure LJi{α:Type}(py:α→PyData)(Q:α→Prop)(cs:List Int)(z:Int)(v T q:Nat)(items:List AV)(acc:List PyData)(H:List AO):Prop where
 h:∃(l:List α)(p':Nat),H=[pen cs z p']∧acc=l.map py∧(∀c∈l,Q c)∧l.length+items.length=v∧p'+T*items.length≤q
section
variable{α:Type}{py:α→PyData}{Q:α→Prop}{cs:List Int}{z:Int}{v T q:Nat}{items:List AV}{acc:List PyData}{H:List AO}{y:AV}
theorem LJi.start{p0:Nat}(h:p0+T*v≤q):LJi py Q cs z v T q ((List.range ((v:Int)).toNat).map fun(i:Nat)=>AV.d (.int i)) [] [pen cs z p0]:=by
 have e:((List.range ((v:Int)).toNat).map fun(i:Nat)=>AV.d (.int i)).length=v:=by rw[List.length_map,List.length_range,Int.toNat_natCast]
 exact⟨[],p0,rfl,rfl,nofun,by rw[e];exact Nat.zero_add v,by rw[e];exact h⟩
theorem LJi.step(h:LJi py Q cs z v T q (y::items) acc H):∃p',H=[pen cs z p']∧p'+T≤q∧∀e p2,Q e→p2≤p'+T→LJi py Q cs z v T q items (acc++[py e]) [pen cs z p2]:=by
 obtain⟨l,p',h1,h2,h3,h4,h5⟩:=h
 have h5:p'+(T*items.length+T)≤q:=h5
 have h4:l.length+(items.length+1)=v:=h4
 refine⟨p',h1,Nat.le_trans (Nat.add_le_add_left (Nat.le_add_left _ _) _) h5,fun e p2 he hp=>⟨l++[e],p2,rfl,?_,?_,?_,?_⟩⟩
 ·rw[h2,List.map_append];rfl
 ·intro x hx
  rcases List.mem_append.mp hx with hx|hx
  ·exact h3 x hx
  ·rw[List.mem_singleton.mp hx];exact he
 ·rw[List.length_append,List.length_singleton,Nat.add_assoc,Nat.add_comm 1];exact h4
 ·exact Nat.le_trans (Nat.add_le_add_right hp _) (by rw[Nat.add_assoc,Nat.add_comm T];exact h5)
theorem LJi.done(h:LJi py Q cs z v T q [] acc H):∃(l:List α)(p':Nat),H=[pen cs z p']∧acc=l.map py∧(∀c∈l,Q c)∧l.length=v∧p'≤q:=by
 obtain⟨l,p',h1,h2,h3,h4,h5⟩:=h
 exact⟨l,p',h1,h2,h3,h4,h5⟩
end
section
variable{P:Nat→Prop}
theorem lt5(h0:P 0)(h1:P 1)(h2:P 2)(h3:P 3)(h4:P 4):∀v,v<5→P v
 |0,_=>h0
 |1,_=>h1
 |2,_=>h2
 |3,_=>h3
 |4,_=>h4
 |_+5,h=>absurd h (Nat.not_lt.mpr (Nat.le_add_left _ _))
theorem lt8(h0:P 0)(h1:P 1)(h2:P 2)(h3:P 3)(h4:P 4)(h5:P 5)(h6:P 6)(h7:P 7):∀v,v<8→P v
 |0,_=>h0
 |1,_=>h1
 |2,_=>h2
 |3,_=>h3
 |4,_=>h4
 |5,_=>h5
 |6,_=>h6
 |7,_=>h7
 |_+8,h=>absurd h (Nat.not_lt.mpr (Nat.le_add_left _ _))
theorem lt7(h0:P 0)(h1:P 1)(h2:P 2)(h3:P 3)(h4:P 4)(h5:P 5)(h6:P 6):∀v,v<7→P v
 |0,_=>h0
 |1,_=>h1
 |2,_=>h2
 |3,_=>h3
 |4,_=>h4
 |5,_=>h5
 |6,_=>h6
 |_+7,h=>absurd h (Nat.not_lt.mpr (Nat.le_add_left _ _))
end
section
variable{n:Nat}{cs:List Int}{z:Int}{p:Nat}{Φ:AV→Option AO→Prop}{Ξ:Int→Prop}
theorem zav{many:Nat}(hm:1≤many)(hc:cs.length<1000)(hp:p<2^30)(h:∀v:Nat,v<many→Φ (.d (.int v)) (some (pen cs z (p+1)))):Cal (n+1) 19 [.ref 0, .d (.int many)] (some (pen cs z p)) Φ Ξ:=by
 have m0:(0:Int)<many:=Int.ofNat_lt.mpr hm
 have fin:∀x:Int,Φ (.d (.int (x % many))) (some (pen cs z (p+1))):=fun x=>by
  obtain⟨v,e⟩:=Int.eq_ofNat_of_zero_le (Int.emod_nonneg x (Int.ne_of_gt m0))
  have h2:=Int.emod_lt_of_pos x m0
  rw[e]at h2 ⊢
  exact h v (Int.ofNat_lt.mp h2)
 refine zaa rfl (ix1 (And.intro ⟨by decide,by show 1<3;decide,Nat.le_trans (show 3≤2^23+2 by decide) szl⟩ (ix0 (And.intro (by rw[List.length_map];exact Nat.lt_trans hc (by decide)) (br_i (fun e=>?_) (fun e=>?_))))))
 ·have e:p<(cs.map PyData.int).length:=nn e
  refine ix0 (Exists.intro (.int (cs[p]'(by rwa [List.length_map]at e))) (And.intro ⟨Int.natCast_nonneg p,Int.ofNat_lt.mpr (Nat.lt_trans hp (by decide)),?_⟩ (And.intro m0 (fin _))))
  rw[Int.toNat_natCast,List.getElem?_eq_getElem e,List.getElem_map]
 ·exact ix2 (And.intro (by decide) (And.intro ⟨Int.lt_of_lt_of_le (by decide) (Int.natCast_nonneg p),Int.ofNat_lt.mpr (Nat.lt_trans hp (by decide))⟩ (And.intro ⟨Int.mul_nonneg (Int.natCast_nonneg p) (Int.natCast_nonneg p),by decide,by decide⟩ (And.intro m0 (fin _)))))
noncomputable def names3:List (List Nat):=["u","v2","_x"].map fun s=>(Str.ofString s).cps.toList
noncomputable def names2:List (List Nat):=["u","v2"].map fun s=>(Str.ofString s).cps.toList
theorem zfe{l:List String}{s:String}(h:s∈l):(Str.ofString s).cps.toList∈l.map fun s=>(Str.ofString s).cps.toList:=List.mem_map_of_mem (f:=fun s=>(Str.ofString s).cps.toList) h
noncomputable def Leaf:Ex→Prop
 | .num v=>0≤v∧v<300
 | .text s=>s.length≤3∧∀c∈s,c<256
 | .arg v=>0≤v∧v<12
 | .own=>True
 | .name s=>s∈names3
 |_=>False
theorem nlt{v m:Nat}(h:v<m):(0:Int)≤v∧(v:Int)<m:=⟨Int.natCast_nonneg v,Int.ofNat_lt.mpr h⟩
theorem leaf_join(l:List Nat):joinL (Str.ofString "").cps.toList ((l.map fun c=>tx [c]).map (·.cps.toList))=l:=by
 rw[show(Str.ofString "").cps.toList=[] by decide+kernel,List.map_map];exact ze7 l
theorem c_leaf(hc:cs.length<1000)(hp:p+8<2^30)(h:∀(e:Ex)(p':Nat),Leaf e→p'≤p+8→Φ (.d e.py) (some (pen cs z p'))):Cal (n+2) 20 [.ref 0] (some (pen cs z p)) Φ Ξ:=by
 refine zaa rfl (zav (many:=5) (by decide) hc (pwr hp (b:=0) rfl) (lt5 ?_ ?_ ?_ ?_ ?_))
 ·exact zav (many:=300) (by decide) hc (pwr hp (b:=1) rfl) fun v hv=>h (.num v) _ (nlt hv) (addw (a:=2) p rfl)
 ·refine zav (many:=4) (by decide) hc (pwr hp (b:=1) rfl) fun v hv=>And.intro ⟨Int.natCast_nonneg v,lt62 hv rfl,szm hv rfl⟩ (And.intro (ze9 hv rfl) (Exists.intro (LJi (fun c=>PyData.str (tx [c])) (fun c=>c<256) cs z v 1 (p+2+v)) (And.intro (LJi.start (Nat.add_le_add_left (Nat.le_of_eq (Nat.one_mul v)) _)) (And.intro (fun y r acc H hI=>?_) (fun acc H hI=>?_)))))
  ·obtain⟨p',rfl,hq,hn⟩:=hI.step
   have hq:p'+1≤p+5:=Nat.le_trans hq (Nat.add_le_add_left (Nat.le_of_lt_succ hv) (p+2))
   exact zav (many:=256) (by decide) hc (Nat.lt_of_le_of_lt (Nat.le_trans (Nat.le_succ _) hq) (pwr hp rfl)) fun c hcc=>And.intro ⟨Int.natCast_nonneg c,Int.ofNat_lt.mpr (Nat.lt_trans hcc (by decide))⟩ (And.intro rfl (hn c _ hcc (Nat.le_refl _)))
  ·obtain⟨l,p',rfl,rfl,h3,h4,h5⟩:=hI.done
   have h6:l.length≤3:=h4▸Nat.le_of_lt_succ hv
   have g:Φ (.d (.tuple [ps "text", .str (tx l)])) _:=h (.text l) _ ⟨h6,h3⟩ (Nat.le_trans h5 (Nat.le_trans (Nat.add_le_add_left (Nat.le_of_lt_succ hv) _) (addw (a:=5) p rfl)))
   have e:=leaf_join l
   refine Exists.intro (l.map fun c=>tx [c]) (And.intro ⟨zbj _ _,?_⟩ ?_)
   ·rw[e];exact lt_sz (Nat.lt_succ_of_le h6) rfl
   ·rw[←e]at g
    exact g
 ·exact zav (many:=12) (by decide) hc (pwr hp (b:=1) rfl) fun v hv=>h (.arg v) _ (nlt hv) (addw (a:=2) p rfl)
 ·exact h .own _ trivial (addw (a:=1) p rfl)
 ·refine zav (many:=3) (by decide) hc (pwr hp (b:=1) rfl) fun v hv=>?_
  obtain⟨s,hs,hx⟩:=zcv ["u","v2","_x"] hv
  have g:Φ (.d (.tuple [ps "name", .str (tx _)])) _:=h (.name _) _ (zfe hs) (addw (a:=2) p rfl)
  rw[←os_tx s]at g
  exact Exists.intro _ (And.intro ⟨Int.natCast_nonneg v,lt62 hv rfl,hx⟩ g)
noncomputable def zey:List (String×Nat):=[("back",1),("cut",3),("glue",2),("len",1),("text",1)]
noncomputable def sizesL:List (List Nat×Nat):=zey.map fun s=>((Str.ofString s.1).cps.toList,s.2)
theorem sizes_get{v:Nat}(hv:v<5):∃w m,(w,m)∈zey∧(zey.map fun s=>PyData.tuple [.str (Str.ofString s.1), .int (s.2:Nat)])[((v:Int)).toNat]?=some (.tuple [.str (Str.ofString w), .int (m:Nat)]):=by
 have hl:v<zey.length:=hv
 refine⟨zey[v].1,zey[v].2,List.getElem_mem hl,?_⟩
 rw[Int.toNat_natCast,List.getElem?_map,List.getElem?_eq_getElem hl,Option.map_some]
theorem sizes_le:∀w m,(w,m)∈zey→m<4:=by
 have:∀q∈zey,q.2<4:=by decide
 exact fun w m h=>this _ h
theorem sizes_mem{w:String}{m:Nat}(h:(w,m)∈zey):((Str.ofString w).cps.toList,m)∈sizesL:=List.mem_map_of_mem (f:=fun s:String×Nat=>((Str.ofString s.1).cps.toList,s.2)) h
noncomputable def Tree:Nat→Ex→Prop
 |0,e=>Leaf e
 |d+1,e=>Leaf e∨match e with
  | .one s x=>(s=[45]∨s=[33])∧Tree d x
  | .list l=>l.length≤2∧∀x∈l,Tree d x
  | .apply w l=>(w,l.length)∈sizesL∧∀x∈l,Tree d x
  | .both a b=>Tree d a∧Tree d b
  | .either a b=>Tree d a∧Tree d b
  | .two s a b=>s∈ops∧Tree d a∧Tree d b
  |_=>False
noncomputable def tc:Nat→Nat
 |0=>8
 |d+1=>2+tc d*3
theorem tc_pos:∀d,8≤tc d
 |0=>by decide
 |d+1=>Nat.le_trans (tc_pos d) (Nat.le_trans (Nat.le_mul_of_pos_right _ (by decide)) (Nat.le_add_left _ _))
section
variable{T p1 p2 v:Nat}
theorem q_v(hp:p+(2+T*3)<2^30)(hv:v≤3):p+2+T*v<2^30:=Nat.lt_of_le_of_lt (by rw[Nat.add_assoc];exact Nat.add_le_add_left (Nat.add_le_add_left (Nat.mul_le_mul_left T hv) 2) p) hp
theorem r_v(h:p1≤p+2+T*v)(hv:v≤3):p1≤p+(2+T*3):=Nat.le_trans h (by rw[Nat.add_assoc];exact Nat.add_le_add_left (Nat.add_le_add_left (Nat.mul_le_mul_left T hv) 2) p)
theorem q_1(hp:p+(2+T*3)<2^30):p+2+T<2^30:=by have:=q_v hp (v:=1) (by decide);rwa [Nat.mul_one]at this
theorem q_2(hp:p+(2+T*3)<2^30)(h:p1≤p+2+T):p1+T<2^30:=Nat.lt_of_le_of_lt (Nat.add_le_add_right h T) (by have:=q_v hp (v:=2) (by decide);rwa [show T*2=T+T from Nat.mul_two T,←Nat.add_assoc]at this)
theorem r_1(h:p1≤p+2+T):p1≤p+(2+T*3):=r_v (v:=1) (by rwa [Nat.mul_one]) (by decide)
theorem r_2(h:p1≤p+2+T)(g:p2≤p1+T):p2≤p+(2+T*3):=r_v (v:=2) (by rw[show T*2=T+T from Nat.mul_two T,←Nat.add_assoc];exact Nat.le_trans g (Nat.add_le_add_right h T)) (by decide)
theorem q_l(hT:8≤T)(hp:p+(2+T*3)<2^30):p+1+8<2^30:=Nat.lt_of_le_of_lt (by rw[Nat.add_assoc];exact Nat.add_le_add_left (by lia) p) hp
theorem r_l(hT:8≤T)(h:p1≤p+1+8):p1≤p+(2+T*3):=Nat.le_trans h (by rw[Nat.add_assoc];exact Nat.add_le_add_left (by lia) p)
theorem q_0{a:Nat}(ha:Nat.ble a 2=true)(hp:p+(2+T*3)<2^30):p+a<2^30:=Nat.lt_of_le_of_lt (Nat.add_le_add_left (Nat.le_trans (Nat.le_of_ble_eq_true ha) (Nat.le_add_right _ _)) p) hp
end
structure TR(cs:List Int)(z:Int)(d:Nat):Prop where
 h:∀{k p:Nat}{Φ:AV→Option AO→Prop}{Ξ:Int→Prop},3+d≤k→p+tc d<2^30→(∀(e:Ex)(p':Nat),Tree d e→p'≤p+tc d→Φ (.d e.py) (some (pen cs z p')))→Cal k 21 [.ref 0, .d (.int d)] (some (pen cs z p)) Φ Ξ
theorem one_get{v:Nat}(hv:v<2):∃c,([c]=[45]∨ [c]=[33])∧(Str.ofString "-!").cps.toList[((v:Int)).toNat]?=some c:=by
 obtain⟨c,hc,h⟩:=sign_get [45,33] (s:="-!") (by decide+kernel) hv
 refine⟨c,?_,h⟩
 have:∀c∈[45,33],[c]=[45]∨ [c]=[33]:=by decide
 exact this c hc
theorem two_get{v:Nat}(hv:v<4):∃c,[c]∈ops∧(Str.ofString "+-*<").cps.toList[((v:Int)).toNat]?=some c:=by
 obtain⟨c,hc,h⟩:=sign_get [43,45,42,60] (s:="+-*<") (by decide+kernel) hv
 refine⟨c,?_,h⟩
 have:∀c∈[43,45,42,60],[c]∈ops:=by decide+kernel
 exact this c hc
theorem tr_zero(hc:cs.length<1000):TR cs z 0:=by
 refine⟨@fun k p Φ Ξ hk hp h=>?_⟩
 obtain⟨n,rfl⟩:∃n,k=n+3:=⟨k-3,(Nat.sub_add_cancel hk).symm⟩
 exact zaa rfl (c_leaf hc hp h)
theorem tr_step(hc:cs.length<1000){d:Nat}(ih:TR cs z d):TR cs z (d+1):=by
 refine⟨@fun k p Φ Ξ hk hp h=>?_⟩
 have ht:=tc_pos d
 obtain⟨n,rfl⟩:∃n,k=n+4:=⟨k-4,(Nat.sub_add_cancel (Nat.le_trans (Nat.add_le_add_left (Nat.succ_le_succ (Nat.zero_le d)) 3) hk)).symm⟩
 have sub:∀{p:Nat}{Φ:AV→Option AO→Prop}{Ξ:Int→Prop},p+tc d<2^30→(∀(e:Ex)(p':Nat),Tree d e→p'≤p+tc d→Φ (.d e.py) (some (pen cs z p')))→Cal (n+3) 21 [.ref 0, .d (.int (((d+1:Nat):Int)-1))] (some (pen cs z p)) Φ Ξ:=fun h1 h2=>by
  rw[show((d+1:Nat):Int)-1=(d:Nat)from(show((d:Int)+1)-1=d from Int.add_sub_cancel _ _)]
  exact ih.h (Nat.le_of_succ_le_succ hk) h1 h2
 refine zaa rfl (br_y (decide_eq_true (Int.natCast_pos.mpr (Nat.succ_pos d))) (zav (many:=8) (by decide) hc (q_0 (a:=0) rfl hp) (lt8 ?_ ?_ ?_ ?_ ?_ ?_ ?_ ?_)))
 ·exact c_leaf hc (q_l ht hp) fun e p' h1 h2=>h e p' (.inl h1) (r_l ht h2)
 ·exact c_leaf hc (q_l ht hp) fun e p' h1 h2=>h e p' (.inl h1) (r_l ht h2)
 ·refine zav (many:=2) (by decide) hc (q_0 (a:=1) rfl hp) fun v hv=>?_
  obtain⟨c,hs,hx⟩:=one_get hv
  exact Exists.intro c (And.intro ⟨Int.natCast_nonneg v,lt62 hv rfl,hx⟩ (sub (q_1 hp) fun e p' h1 h2=>h (.one [c] e) p' (.inr ⟨hs,h1⟩) (r_1 h2)))
 ·refine zav (many:=3) (by decide) hc (q_0 (a:=1) rfl hp) fun v hv=>And.intro ⟨Int.natCast_nonneg v,lt62 hv rfl,szm hv rfl⟩ (And.intro (ze9 hv rfl) (Exists.intro (LJi Ex.py (Tree d) cs z v (tc d) (p+2+tc d*v)) (And.intro (LJi.start (Nat.le_refl _)) (And.intro (fun y r acc H hI=>?_) (fun acc H hI=>?_)))))
  ·obtain⟨p',rfl,hq,hn⟩:=hI.step
   exact sub (Nat.lt_of_le_of_lt hq (q_v hp (Nat.le_of_lt hv))) fun e p2 h1 h2=>And.intro rfl (hn e p2 h1 h2)
  ·obtain⟨l,p',rfl,rfl,h3,h4,h5⟩:=hI.done
   have g:Φ (.d (.tuple [ps "list", .list (Ex.pys l)])) _:=h (.list l) _ (.inr ⟨h4▸Nat.le_of_lt_succ hv,h3⟩) (r_v h5 (Nat.le_of_lt hv))
   rw[zhc]at g
   exact g
 ·refine zaa rfl (zav (many:=5) (by decide) hc (q_0 (a:=1) rfl hp) fun v hv=>?_)
  obtain⟨w,m,hm,hx⟩:=sizes_get hv
  have hm4:=sizes_le w m hm
  refine Exists.intro _ (And.intro ⟨Int.natCast_nonneg v,lt62 hv rfl,hx⟩ (And.intro ⟨Int.natCast_nonneg m,lt62 hm4 rfl,szm hm4 rfl⟩ (And.intro (ze9 hm4 rfl) (Exists.intro (LJi Ex.py (Tree d) cs z m (tc d) (p+2+tc d*m)) (And.intro (LJi.start (Nat.le_refl _)) (And.intro (fun y r acc H hI=>?_) (fun acc H hI=>?_)))))))
  ·obtain⟨p',rfl,hq,hn⟩:=hI.step
   exact sub (Nat.lt_of_le_of_lt hq (q_v hp (Nat.le_of_lt_succ hm4))) fun e p2 h1 h2=>And.intro rfl (hn e p2 h1 h2)
  ·obtain⟨l,p',rfl,rfl,h3,h4,h5⟩:=hI.done
   have g:Φ (.d (.tuple [ps "apply", .str (tx _), .list (Ex.pys l)])) _:=h (.apply _ l) _ (.inr ⟨h4▸sizes_mem hm,h3⟩) (r_v h5 (Nat.le_of_lt_succ hm4))
   rw[zhc,←os_tx w]at g
   exact g
 ·refine zav (many:=2) (by decide) hc (q_0 (a:=1) rfl hp) fun v hv=>?_
  obtain⟨s,hs,hx⟩:=zcv ["both","either"] hv
  refine Exists.intro _ (And.intro ⟨Int.natCast_nonneg v,lt62 hv rfl,hx⟩ (sub (q_1 hp) fun a p1 ha hp1=>sub (q_2 hp hp1) fun b p2 hb hp2=>?_))
  rcases List.mem_cons.mp hs with rfl|hs
  ·exact h (.both a b) p2 (.inr ⟨ha,hb⟩) (r_2 hp1 hp2)
  ·rw[List.mem_singleton.mp hs]
   exact h (.either a b) p2 (.inr ⟨ha,hb⟩) (r_2 hp1 hp2)
 ·refine zav (many:=4) (by decide) hc (q_0 (a:=1) rfl hp) fun v hv=>?_
  obtain⟨c,hs,hx⟩:=two_get hv
  exact Exists.intro c (And.intro ⟨Int.natCast_nonneg v,lt62 hv rfl,hx⟩ (sub (q_1 hp) fun a p1 ha hp1=>sub (q_2 hp hp1) fun b p2 hb hp2=>h (.two [c] a b) p2 (.inr ⟨hs,ha,hb⟩) (r_2 hp1 hp2)))
 ·refine zaa rfl (zav (many:=11) (by decide) hc (q_0 (a:=1) rfl hp) fun v hv=>?_)
  obtain⟨s,hs,hx⟩:=zcv ["==","!=","<","<=",">",">=","+","-","*","/","%"] hv
  refine Exists.intro _ (And.intro ⟨Int.natCast_nonneg v,lt62 hv rfl,hx⟩ (sub (q_1 hp) fun a p1 ha hp1=>sub (q_2 hp hp1) fun b p2 hb hp2=>?_))
  have g:Φ (.d (.tuple [ps "two", .str (tx _),a.py,b.py])) _:=h (.two _ a b) p2 (.inr ⟨zfe hs,ha,hb⟩) (r_2 hp1 hp2)
  rw[←os_tx s]at g
  exact g
theorem tr_all(hc:cs.length<1000):∀d,TR cs z d
 |0=>tr_zero hc
 |d+1=>tr_step hc (tr_all hc d)
theorem zgs{k:Nat}(hc:cs.length<1000)(hk:4≤k)(hp:p+26<2^30)(h:∀(e:Ex)(p':Nat),Tree 1 e→p'≤p+26→Φ (.d e.py) (some (pen cs z p'))):Cal k 21 [.ref 0, .d (.int 1)] (some (pen cs z p)) Φ Ξ:=(tr_all hc 1).h hk hp h
theorem c_tree2{k:Nat}(hc:cs.length<1000)(hk:5≤k)(hp:p+80<2^30)(h:∀(e:Ex)(p':Nat),Tree 2 e→p'≤p+80→Φ (.d e.py) (some (pen cs z p'))):Cal k 21 [.ref 0, .d (.int 2)] (some (pen cs z p)) Φ Ξ:=(tr_all hc 2).h hk hp h
noncomputable def Flat(d:Nat):Stm→Prop
 | .set e=>Tree (1+d) e
 | .name s e=>s∈names2∧Tree (1+d) e
 | .call e=>Tree (1+d) e
 | .word s=>s∈zbh
 |_=>False
noncomputable def St1:Stm→Prop
 | .whl e l=>Tree 1 e∧l.length≤2∧∀x∈l,Flat 0 x
 | .ifs e l m=>Tree 1 e∧(l.length≤2∧∀x∈l,Flat 0 x)∧m.length≤1∧∀x∈m,Flat 0 x
 |e=>Flat 1 e
theorem c_st0{k:Nat}(hc:cs.length<1000)(hk:6≤k)(hp:p+30<2^30)(h:∀(e:Stm)(p':Nat),Flat 0 e→p'≤p+30→Φ (.d e.py) (some (pen cs z p'))):Cal k 22 [.ref 0, .d (.int 0)] (some (pen cs z p)) Φ Ξ:=by
 obtain⟨n,rfl⟩:∃n,k=n+6:=⟨k-6,(Nat.sub_add_cancel hk).symm⟩
 have k4:4≤n+5:=Nat.le_trans (by decide) (Nat.le_add_left 5 n)
 refine zaa rfl (zav (many:=5) (by decide) hc (pwr hp (b:=0) rfl) (lt5 ?_ ?_ ?_ ?_ ?_))
 ·exact zgs hc k4 (pwr hp (b:=27) rfl) fun e p' h1 h2=>h (.set e) p' h1 (le_w (a:=27) h2 rfl)
 ·exact zgs hc k4 (pwr hp (b:=27) rfl) fun e p' h1 h2=>h (.set e) p' h1 (le_w (a:=27) h2 rfl)
 ·refine zav (many:=2) (by decide) hc (pwr hp (b:=1) rfl) fun v hv=>?_
  obtain⟨s,hs,hx⟩:=zcv ["u","v2"] hv
  refine Exists.intro _ (And.intro ⟨Int.natCast_nonneg v,lt62 hv rfl,hx⟩ (zgs hc k4 (pwr hp (b:=28) rfl) fun e p' h1 h2=>?_))
  have g:Φ (.d (.tuple [ps "name", .str (tx _),e.py])) _:=h (.name _ e) p' ⟨zfe hs,h1⟩ (le_w (a:=28) h2 rfl)
  rw[←os_tx s]at g
  exact g
 ·exact zgs hc k4 (pwr hp (b:=27) rfl) fun e p' h1 h2=>h (.call e) p' h1 (le_w (a:=27) h2 rfl)
 ·refine zaa rfl (zav (many:=5) (by decide) hc (pwr hp (b:=1) rfl) fun v hv=>?_)
  obtain⟨s,hs,hx⟩:=zcv ["yyerrok","yyclearin","YYERROR","YYABORT","YYACCEPT"] hv
  have g:Φ (.d (.tuple [ps "word", .str (tx _)])) _:=h (.word _) _ (zfe hs) (addw (a:=2) p rfl)
  rw[←os_tx s]at g
  exact Exists.intro _ (And.intro ⟨Int.natCast_nonneg v,lt62 hv rfl,hx⟩ g)
theorem lv{p1 p2 v m:Nat}(h:p2≤p1+1+30*v)(hv:v<m+1):p2≤p1+(1+30*m):=Nat.le_trans h (by rw[Nat.add_assoc];exact Nat.add_le_add_left (Nat.add_le_add_left (Nat.mul_le_mul_left 30 (Nat.le_of_lt_succ hv)) 1) p1)
theorem st_many{m v p1 q:Nat}{k:Nat}{r:List AV}{y:AV}{acc:List PyData}{H:List AO}(hc:cs.length<1000)(hk:6≤k)(hv:v<m+1)(hp1:p1≤p+q)(hq:p+(q+(1+30*m))<2^30)(hI:LJi Stm.py (Flat 0) cs z v 30 (p1+1+30*v) (y::r) acc H):∃p',H=[pen cs z p']∧∀{Φ:AV→Option AO→Prop}{Ξ:Int→Prop},(∀(e:Stm)(p2:Nat),LJi Stm.py (Flat 0) cs z v 30 (p1+1+30*v) r (acc++[e.py]) [pen cs z p2]→Φ (.d e.py) (some (pen cs z p2)))→Cal k 22 [.ref 0, .d (.int 0)] (some (pen cs z p')) Φ Ξ:=by
 obtain⟨p',e,h1,hn⟩:=hI.step
 exact⟨p',e,fun g=>c_st0 hc hk (Nat.lt_of_le_of_lt (le_tr (lv h1 hv) hp1) hq) fun e p2 h1 h2=>g e p2 (hn e p2 h1 h2)⟩
theorem c_st1{k:Nat}(hc:cs.length<1000)(hk:7≤k)(hp:p+130<2^30)(h:∀(e:Stm)(p':Nat),St1 e→p'≤p+130→Φ (.d e.py) (some (pen cs z p'))):Cal k 22 [.ref 0, .d (.int 1)] (some (pen cs z p)) Φ Ξ:=by
 obtain⟨n,rfl⟩:∃n,k=n+7:=⟨k-7,(Nat.sub_add_cancel hk).symm⟩
 have k6:6≤n+6:=Nat.le_add_left 6 n
 have k5:5≤n+6:=Nat.le_trans (by decide) k6
 have k4:4≤n+6:=Nat.le_trans (by decide) k6
 refine zaa rfl (zav (many:=7) (by decide) hc (pwr hp (b:=0) rfl) (lt7 ?_ ?_ ?_ ?_ ?_ ?_ ?_))
 ·exact c_tree2 hc k5 (pwr hp (b:=81) rfl) fun e p' h1 h2=>h (.set e) p' h1 (le_w (a:=81) h2 rfl)
 ·exact c_tree2 hc k5 (pwr hp (b:=81) rfl) fun e p' h1 h2=>h (.set e) p' h1 (le_w (a:=81) h2 rfl)
 ·refine zav (many:=2) (by decide) hc (pwr hp (b:=1) rfl) fun v hv=>?_
  obtain⟨s,hs,hx⟩:=zcv ["u","v2"] hv
  refine Exists.intro _ (And.intro ⟨Int.natCast_nonneg v,lt62 hv rfl,hx⟩ (c_tree2 hc k5 (pwr hp (b:=82) rfl) fun e p' h1 h2=>?_))
  have g:Φ (.d (.tuple [ps "name", .str (tx _),e.py])) _:=h (.name _ e) p' ⟨zfe hs,h1⟩ (le_w (a:=82) h2 rfl)
  rw[←os_tx s]at g
  exact g
 ·exact c_tree2 hc k5 (pwr hp (b:=81) rfl) fun e p' h1 h2=>h (.call e) p' h1 (le_w (a:=81) h2 rfl)
 ·refine zaa rfl (zav (many:=5) (by decide) hc (pwr hp (b:=1) rfl) fun v hv=>?_)
  obtain⟨s,hs,hx⟩:=zcv ["yyerrok","yyclearin","YYERROR","YYABORT","YYACCEPT"] hv
  have g:Φ (.d (.tuple [ps "word", .str (tx _)])) _:=h (.word _) _ (zfe hs) (addw (a:=2) p rfl)
  rw[←os_tx s]at g
  exact Exists.intro _ (And.intro ⟨Int.natCast_nonneg v,lt62 hv rfl,hx⟩ g)
 all_goals
  refine zgs hc k4 (pwr hp (b:=27) rfl) fun e p1 ht hp1=>zav (many:=3) (by decide) hc (le_pw (a:=27) (b:=0) hp1 hp rfl) fun v hv=>And.intro ⟨Int.natCast_nonneg v,lt62 hv rfl,szm hv rfl⟩ (And.intro (ze9 hv rfl) (Exists.intro (LJi Stm.py (Flat 0) cs z v 30 (p1+1+30*v)) (And.intro (LJi.start (Nat.le_refl _)) (And.intro (fun y r acc H hI=>?_) (fun acc H hI=>?_)))))
  ·obtain⟨p',rfl,hn⟩:=st_many (m:=2) hc k6 hv hp1 (pwr hp (b:=88) rfl) hI
   exact hn fun e p2 h=>And.intro rfl h
  obtain⟨yes,p2,rfl,rfl,g3,g4,g5⟩:=hI.done
  have g4:yes.length≤2:=g4▸Nat.le_of_lt_succ hv
  have g5:p2≤p+88:=le_tr (lv (m:=2) g5 hv) hp1
 ·refine zav (many:=2) (by decide) hc (le_pw (b:=0) g5 hp rfl) fun v hv=>And.intro ⟨Int.natCast_nonneg v,lt62 hv rfl,szm hv rfl⟩ (And.intro (ze9 hv rfl) (Exists.intro (LJi Stm.py (Flat 0) cs z v 30 (p2+1+30*v)) (And.intro (LJi.start (Nat.le_refl _)) (And.intro (fun y r acc H hI=>?_) (fun acc H hI=>?_)))))
  ·obtain⟨p',rfl,hn⟩:=st_many (m:=1) hc k6 hv g5 (pwr hp (b:=119) rfl) hI
   exact hn fun e p2 h=>And.intro rfl h
  ·obtain⟨no,p3,rfl,rfl,g6,g7,g8⟩:=hI.done
   have g:Φ (.d (.tuple [ps "if",e.py, .list (Stm.pys yes), .list (Stm.pys no)])) _:=h (.ifs e yes no) _ ⟨ht,⟨g4,g3⟩,g7▸Nat.le_of_lt_succ hv,g6⟩ (le_w (a:=119) (le_tr (lv (m:=1) g8 hv) g5) rfl)
   rw[zct,zct]at g
   exact g
 ·have g:Φ (.d (.tuple [ps "while",e.py, .list (Stm.pys yes)])) _:=h (.whl e yes) _ ⟨ht,g4,g3⟩ (le_w (a:=88) g5 rfl)
  rw[zct]at g
  exact g
end
noncomputable def stp(q c:Nat):Nat:=if q=0 then(if c=34 then 1 else 0)else if q=1 then(if c=92 then 2 else if c=34 then 0 else 1)else 1
noncomputable def md(q:Nat)(t:List Nat):Nat:=t.foldl stp q
noncomputable def cnt(d:Nat):Nat→List Nat→Nat
 |_,[]=>0
 |q,c::r=>(if q=0∧c=d then 1 else 0)+cnt d (stp q c) r
theorem zbd(q:Nat)(x y:List Nat):md q (x++y)=md (md q x) y:=List.foldl_append
theorem zai(d:Nat):∀(q:Nat)(x y:List Nat),cnt d q (x++y)=cnt d q x+cnt d (md q x) y
 |q,[],y=>by show _=0+_;rw[Nat.zero_add];rfl
 |q,c::x,y=>by
  show _+cnt d (stp q c) (x++y)=_+cnt d (stp q c) x+_
  rw[zai d (stp q c) x y,Nat.add_assoc];rfl
structure Cut(page:List Nat)(b e:Nat):Prop where
 h:∃x y z,page=x++[40]++y++[41]++z∧x.length=b∧(x++[40]++y).length=e∧md 0 x=0∧md 0 (x++[40]++y)=0
noncomputable def Bal(page:List Nat):Prop:=∀x y,page=x++y→cnt 41 0 x≤cnt 40 0 x
noncomputable def pairT(q:Nat×Nat):PyData:= .tuple [.int q.1, .int q.2]
section
variable{n:Nat}{page:List Nat}{Φ:AV→Option AO→Prop}{Ξ:Int→Prop}
structure GP(page:List Nat)(found:List (Nat×Nat))(opn:List (Nat×Bool))(j:Nat)(q:Bool):Prop where
 f:∀q∈found,Cut page q.1 q.2
 r:page.length<j∨∃x r,page=x++r∧x.length=j∧md 0 x=(if q then 1 else 0)∧opn.length+cnt 41 0 x=cnt 40 0 x∧∀p∈opn,∃x1 y1,x=x1++[40]++y1∧x1.length=p.1∧md 0 x1=0
noncomputable def gfl(q:Nat×Nat):AV:= .d (pairT q)
noncomputable def gop(q:Nat×Bool):AV:= .d (.tuple [.int q.1, .bool q.2])
theorem GP.at{page found opn j q}(h:GP page found opn j q)(hj:j<page.length):∃x r,page=x++page[j]::r∧x.length=j∧md 0 x=(if q then 1 else 0)∧opn.length+cnt 41 0 x=cnt 40 0 x∧∀p∈opn,∃x1 y1,x=x1++[40]++y1∧x1.length=p.1∧md 0 x1=0:=by
 rcases h.r with h1|⟨x,r,h1,h2,h3⟩
 ·lia
 ·refine⟨x,r.tail,?_,h2,h3⟩
  subst h1
  cases r with
  |nil=>simp at hj;lia
  |cons c r=>
   subst h2
   simp
theorem GP.plain{page found opn j q}(h:GP page found opn j q)(hj:j<page.length)(q':Bool)(h1:stp (if q then 1 else 0) page[j]=(if q' then 1 else 0))(h2:q=true∨(page[j]≠40∧page[j]≠41)):GP page found opn (j+1) q':=by
 obtain⟨x,r,e1,e2,e3,e4,e5⟩:=h.at hj
 refine⟨h.f, .inr ⟨x++[page[j]],r,by rw[List.append_assoc];exact e1,by simp[e2],?_,?_,?_⟩⟩
 ·rw[zbd,e3];exact h1
 ·rw[zai,zai,e3]
  have:∀d,(d=40∨d=41)→cnt d (if q then 1 else 0) [page[j]]=0:=by
   intro d hd
   show(if _ then 1 else 0)+0=0
   rw[if_neg]
   rintro⟨q1,q2⟩
   rcases h2 with h2|h2
   ·rw[h2]at q1;cases q1
   ·rcases hd with hd|hd<;>(subst hd;first|exact h2.1 q2|exact h2.2 q2)
  rw[this 40 (.inl rfl),this 41 (.inr rfl)]
  exact e4
 ·intro p hp
  obtain⟨x1,y1,g1,g2,g3⟩:=e5 p hp
  exact⟨x1,y1++[page[j]],by rw[g1];simp,g2,g3⟩
theorem GP.skip{page found opn j}(h:GP page found opn j true)(hj:j<page.length)(h1:page[j]=92):GP page found opn (j+1+1) true:=by
 obtain⟨x,r,e1,e2,e3,e4,e5⟩:=h.at hj
 refine⟨h.f,?_⟩
 rw[h1]at e1
 cases r with
 |nil=>left;rw[e1];simp;lia
 |cons c r=>
  right
  refine⟨x++[92,c],r,by rw[List.append_assoc];exact e1,by simp[e2],?_,?_,?_⟩
  ·rw[zbd,e3];rfl
  ·rw[zai,zai,e3];exact e4
  ·intro p hp
   obtain⟨x1,y1,g1,g2,g3⟩:=e5 p hp
   exact⟨x1,y1++[92,c],by rw[g1];simp,g2,g3⟩
theorem GP.open'{page found opn j}(h:GP page found opn j false)(hj:j<page.length)(h1:page[j]=40)(b:Bool):GP page found (opn++[(j,b)]) (j+1) false:=by
 obtain⟨x,r,e1,e2,e3,e4,e5⟩:=h.at hj
 rw[h1]at e1
 refine⟨h.f, .inr ⟨x++[40],r,by rw[List.append_assoc];exact e1,by simp[e2],?_,?_,?_⟩⟩
 ·rw[zbd,e3];rfl
 ·rw[zai,zai,e3,List.length_append]
  show opn.length+1+(cnt 41 0 x+0)=cnt 40 0 x+1
  lia
 ·intro p hp
  rcases List.mem_append.mp hp with hp|hp
  ·obtain⟨x1,y1,g1,g2,g3⟩:=e5 p hp
   exact⟨x1,y1++[40],by rw[g1];simp,g2,g3⟩
  ·rw[List.mem_singleton.mp hp]
   exact⟨x,[],by simp,e2,by rw[e3];rfl⟩
theorem GP.last{page found opn j}(h:GP page found opn j false)(hb:Bal page)(hj:j<page.length)(h1:page[j]=41):∃opn' b g,opn=opn'++[(b,g)]∧Cut page b j∧GP page found opn' (j+1) false:=by
 obtain⟨x,r,e1,e2,e3,e4,e5⟩:=h.at hj
 rw[h1]at e1
 have hb:=hb (x++[41]) r (by rw[List.append_assoc];exact e1)
 rw[zai,zai,e3]at hb
 have hb:cnt 41 0 x+1≤cnt 40 0 x+0:=hb
 have hne:opn≠ []:=by
  intro q;rw[q]at e4
  simp at e4;lia
 obtain⟨opn',⟨b,g⟩,rfl⟩:∃o p,opn=o++[p]:=⟨_,_,(List.dropLast_concat_getLast hne).symm⟩
 obtain⟨x1,y1,g1,g2,g3⟩:=e5 (b,g) (by simp)
 refine⟨opn',b,g,rfl,⟨x1,y1,r,?_,g2,?_,g3,?_⟩,⟨h.f, .inr ⟨x++[41],r,by rw[List.append_assoc];exact e1,by simp[e2],?_,?_,?_⟩⟩⟩
 ·rw[←g1,e1];simp
 ·rw[←g1];exact e2
 ·rw[←g1,e3];rfl
 ·rw[zbd,e3];rfl
 ·rw[zai,zai,e3]
  rw[List.length_append]at e4
  have e4:opn'.length+1+cnt 41 0 x=cnt 40 0 x:=e4
  show opn'.length+(cnt 41 0 x+1)=cnt 40 0 x+0
  lia
 ·intro p hp
  obtain⟨x1,y1,g1,g2,g3⟩:=e5 p (by simp[hp])
  exact⟨x1,y1++[41],by rw[g1];simp,g2,g3⟩
theorem GP.found{page found opn j q b e}(h:GP page found opn j q)(c:Cut page b e):GP page (found++[(b,e)]) opn j q:=by
 refine⟨?_,h.r⟩
 intro p hp
 rcases List.mem_append.mp hp with hp|hp
 ·exact h.f p hp
 ·rw[List.mem_singleton.mp hp];exact c
theorem GP.sizes{page found opn j q}(h:GP page found opn j q):opn.length≤j+600∨page.length<j:=by
 rcases h.r with h1|⟨x,r,e1,e2,e3,e4,e5⟩
 ·exact .inr h1
 ·left
  have:∀(q:Nat)(l:List Nat),cnt 40 q l≤l.length:=by
   intro q l
   induction l generalizing q with
   |nil=>exact Nat.le_refl _
   |cons c r ih=>
    show(if _ then 1 else 0)+cnt 40 (stp q c) r≤r.length+1
    have:=ih (stp q c)
    split<;>lia
  have:=this 0 x
  lia
noncomputable def gS(page:List Nat)(x1 x2 x3 x4:AV)(j:Nat)(q:Bool)(f o:List AV):St:=⟨[(45, .d (.str (tx page))),(26, .ref 0),(46, .ref 1),(10,x1),(47, .d (.bool q)),(48,x2),(5,x3),(49,x4),(3, .d (.int j))],[.list f, .list o]⟩
noncomputable def gI(page:List Nat)(σ:St):Prop:=∃(found:List (Nat×Nat))(opn:List (Nat×Bool))(j:Nat)(q:Bool)(x1 x2 x3 x4:AV),σ=gS page x1 x2 x3 x4 j q (found.map gfl) (opn.map gop)∧found.length≤j∧j≤page.length+1∧GP page found opn j q
noncomputable def gM(n:Nat)(σ:St):Nat:=match σ.loc with
 | [_,_,_,_,_,_,_,_,(_, .d (.int i))]=>n+2-i.toNat
 |_=>0
theorem g_go{f':List (Nat×Nat)}{o':List (Nat×Bool)}{j j':Nat}{q q':Bool}{x1 x2 x3 x4 z1 z2 z3 z4:AV}{f o:List AV}(gp:GP page f' o' j' q')(h1:f'.length≤j')(hj:j<page.length)(h2:j<j')(h3:j'≤j+2):
  gI page (gS page x1 x2 x3 x4 j' q' (f'.map gfl) (o'.map gop))∧gM page.length (gS page x1 x2 x3 x4 j' q' (f'.map gfl) (o'.map gop))<gM page.length (gS page z1 z2 z3 z4 j q f o):=
 ⟨⟨f',o',j',q',x1,x2,x3,x4,rfl,h1,by lia,gp⟩,by show page.length+2-j'<page.length+2-j;lia⟩
theorem frz_pairs(l:List (Nat×Nat)):zca (l.map gfl)=some (.d (.list (l.map pairT))):=by
 unfold zca;rw[show allD (l.map gfl)=_ from allD_of pairT l]
theorem parts{α:Type}(f:α→AV)(l:List α)(x:α):l.map f++[f x]=(l++[x]).map f:=by rw[List.map_append];rfl
theorem c_groups(hl:page.length≤600)(hb:Bal page)(h:∀found:List (Nat×Nat),found.length≤1000→(∀q∈found,Cut page q.1 q.2)→Φ (.d (.list (found.map pairT))) none):Cal (n+1) 23 [.d (.str (tx page))] none Φ Ξ:=by
 have hl2:page.length≤2^20:=Nat.le_trans hl (by decide)
 refine zaa rfl (Exists.intro (gI page) (Exists.intro (gM page.length) (And.intro ⟨[],[],0,false, .no, .no, .no, .no,rfl,Nat.le_refl _,Nat.zero_le _,⟨by simp, .inr ⟨[],page,rfl,rfl,rfl,rfl,by simp⟩⟩⟩ ?_)))
 rintro σ ⟨found,opn,j,q,x1,x2,x3,x4,rfl,hlen,hjl,gp⟩
 refine And.intro (n62 hl2) (br_i (fun e=>?_) (fun e=>Exists.intro _ (And.intro (frz_pairs found) (h found (by lia) gp.f))))
 have hj:j<page.length:=nn e
 refine Exists.intro page[j] (And.intro ⟨(i62 hj hl2).1,(i62 hj hl2).2,tx_at hj⟩ ?_)
 cases q
 ·refine br_i (fun e1=>?_) (fun e1=>?_)
  ·have e1:=zft (d:=34) (by decide+kernel) e1
   exact g_go (gp.plain hj true (by rw[e1];rfl) (.inr (by rw[e1];decide))) (Nat.le_succ_of_le hlen) hj (Nat.lt_succ_self _) (Nat.le_succ _)
  ·have n34:=zds (d:=34) (by decide+kernel) e1
   refine br_i (fun e2=>?_) (fun e2=>?_)
   ·have e2:=zft (d:=40) (by decide+kernel) e2
    have hop:(opn.map gop).length<sizeLine:=by
     rw[List.length_map,sizeLine_eq]
     rcases gp.sizes with h|h<;>lia
    have szp:(tx page).length≤sizeLine:=Nat.le_trans hl (by rw[sizeLine_eq];decide)
    have fo:∀{b:Bool}{y1 y2 y3 y4:AV},(opn.map gop).length<sizeLine∧(gI page (gS page y1 y2 y3 y4 (j+1) false (found.map gfl) (opn.map gop++[gop (j,b)]))∧gM page.length (gS page y1 y2 y3 y4 (j+1) false (found.map gfl) (opn.map gop++[gop (j,b)]))<gM page.length (gS page x1 x2 x3 x4 j false (found.map gfl) (opn.map gop))):=fun{b _ _ _ _}=>And.intro hop (by
     have:=parts gop opn (j,b)
     rw[this]
     exact g_go (gp.open' hj e2 b) (Nat.le_succ_of_le hlen) hj (Nat.lt_succ_self _) (Nat.le_succ _))
    conv=>whnf
    refine br_i (fun e4=>?_) (fun e4=>?_)
    ·have hj0:0<j:=Int.natCast_pos.mp (of_decide_eq_true e4)
     have hj1:j-1<page.length:=Nat.lt_of_le_of_lt (Nat.sub_le _ _) hj
     have at1:(0:Int)≤(j:Int)-1∧(j:Int)-1<2^62∧(tx page).cps.toList[((j:Int)-1).toNat]?=some page[j-1]:=⟨by lia,by lia,by rw[zah,show((j:Int)-1).toNat=j-1 by lia];exact List.getElem?_eq_getElem hj1⟩
     refine Exists.intro page[j-1] (And.intro at1 (br_i (fun e5=>?_) (fun e5=>?_)))
     ·repeat' ((try conv=>whnf);(first|exact fo|refine And.intro ⟨Int.natCast_nonneg j,szp⟩ ?_|refine br_i (fun _=>?_) (fun _=>?_)))
     ·refine Exists.intro page[j-1] (And.intro at1 ?_)
      repeat' ((try conv=>whnf);(first|exact fo|refine And.intro ⟨Int.natCast_nonneg j,szp⟩ ?_|refine br_i (fun _=>?_) (fun _=>?_)))
    ·repeat' ((try conv=>whnf);(first|exact fo|refine And.intro ⟨Int.natCast_nonneg j,szp⟩ ?_|refine br_i (fun _=>?_) (fun _=>?_)))
   ·have n40:=zds (d:=40) (by decide+kernel) e2
    conv=>whnf
    refine br_i (fun e3=>?_) (fun e3=>?_)
    ·have e3:=zft (d:=41) (by decide+kernel) e3
     obtain⟨opn',b,g,ho,cut,gp2⟩:=gp.last hb hj e3
     have hops:(opn.map gop).length≤sizeLine:=by
      rw[List.length_map,sizeLine_eq]
      rcases gp.sizes with h|h<;>lia
     have szf:(found.map gfl).length<sizeLine:=by rw[List.length_map,sizeLine_eq];lia
     refine Exists.intro (opn'.map gop) (Exists.intro (gop (b,g)) (And.intro ⟨by rw[ho,List.map_append];rfl,hops,rfl⟩ (br_i (fun eg=>?_) (fun eg=>?_))))
     ·refine And.intro szf ?_
      have:=parts gfl found (b,j)
      have r:=g_go (z1:=x1) (z2:=x2) (z3:=x3) (z4:=x4) (x1:= .d (.str (tx [page[j]]))) (x2:=x2) (x3:= .d (.int b)) (x4:= .d (.bool g)) (q:=false) (f:=found.map gfl) (o:=opn.map gop) (gp2.found cut) (by rw[List.length_append];exact Nat.succ_le_succ hlen) hj (Nat.lt_succ_self _) (Nat.le_succ _)
      rw[←this]at r
      exact r
     ·exact g_go gp2 (Nat.le_succ_of_le hlen) hj (Nat.lt_succ_self _) (Nat.le_succ _)
    ·exact g_go (gp.plain hj false (if_neg n34) (.inr ⟨n40,zds (d:=41) (by decide+kernel) e3⟩)) (Nat.le_succ_of_le hlen) hj (Nat.lt_succ_self _) (Nat.le_succ _)
 ·refine br_i (fun e1=>?_) (fun e1=>?_)
  ·have e1:=zft (d:=92) (by decide+kernel) e1
   exact g_go (gp.skip hj e1) (by lia) hj (by lia) (by lia)
  ·have n92:=zds (d:=92) (by decide+kernel) e1
   conv=>whnf
   refine br_i (fun e2=>?_) (fun e2=>?_)
   ·have e2:=zft (d:=34) (by decide+kernel) e2
    exact g_go (gp.plain hj false (by rw[e2];rfl) (.inl rfl)) (Nat.le_succ_of_le hlen) hj (Nat.lt_succ_self _) (Nat.le_succ _)
   ·have n34:=zds (d:=34) (by decide+kernel) e2
    have gp':GP page found opn (j+1) true:=gp.plain hj true ((if_neg (by decide)).trans ((if_pos rfl).trans ((if_neg n92).trans (if_neg n34)))) (.inl rfl)
    have g:= @g_go page found opn j (j+1) true true
    refine br_i (fun e3=>?_) (fun e3=>?_)
    all_goals
     conv=>whnf
     refine br_i (fun e4=>?_) (fun e4=>?_)
     all_goals exact g gp' (Nat.le_succ_of_le hlen) hj (Nat.lt_succ_self _) (Nat.le_succ _)
end
noncomputable def zc2(v:PyData):Prop:=PyData.showable v=true∧PyData.hasDict v=false∧v.depth<700∧(PyData.shown v).length≤sizeLine
noncomputable def Fit(t:List Nat):Prop:=t.length≤4000∧Dig t
noncomputable def BackOk(n:Nat)(t:List Nat):Prop:=Fit t∧match zal n t with
 | .ok l=>Stm.Oks l∧Fit (shA l)∧3*Stm.hgts l+7≤n∧zal n (shA l)= .ok l∧zc2 (.list [lpy l])
 | .err=>True
 | .oof=>False
noncomputable def OtherOk(n:Nat)(ns:List Stm)(t:List Nat):Prop:=Fit t∧match zal n t with
 | .ok l=>zc2 (.list [lpy l])∧PyData.shown (.list [lpy l])≠PyData.shown (.list [lpy ns])∧PyData.shown (.list [lpy l])≠PyData.shown (.list [.str (Str.ofString "odd")])
 | .err=>True
 | .oof=>False
noncomputable def zhl:List (List Nat):=["","(",")",";","-","=","{","\"","$"," ","u","7","&","else"].map fun s=>(Str.ofString s).cps.toList
structure Good(n:Nat)(ns:List Stm):Prop where
 len:(shA ns).length≤590
 fit:Fit (shA ns)
 ok:Stm.Oks ns
 hg:3*Stm.hgts ns+7≤n
 back:zal n (shA ns)= .ok ns
 bal:Bal (shA ns)
 rp:zc2 (lpy ns)
 rp1:zc2 (.list [lpy ns])
 ne0:PyData.shown (.list [])≠PyData.shown (.list [lpy ns])
 cut:∀x y z,shA ns=x++[40]++y++[41]++z→md 0 x=0→md 0 (x++[40]++y)=0→OtherOk n ns (x++y++z)
 put:∀(j:Nat)(s:List Nat),j≤(shA ns).length→s∈zhl→s≠ []→BackOk n ((shA ns).take j++s++(shA ns).drop j)
 del:∀(j:Nat),j≤(shA ns).length→BackOk n ((shA ns).take j++(shA ns).drop (j+1))
theorem rep_nil:zc2 (.list []):=by
 refine⟨by decide+kernel,by decide+kernel,by decide+kernel,by rw[sizeLine_eq];decide+kernel⟩
theorem rep_odd:zc2 (.list [.str (Str.ofString "odd")]):=by
 refine⟨by decide+kernel,by decide+kernel,by decide+kernel,by rw[sizeLine_eq];decide+kernel⟩
section
variable{n:Nat}{cs:List Int}{z:Int}{p:Nat}{Φ:AV→Option AO→Prop}{Ξ:Int→Prop}
noncomputable def strs14:List String:=["","(",")",";","-","=","{","\"","$"," ","u","7","&","else"]
theorem strsAtV{v:Nat}(hv:v<14):∃s∈zhl,(strs14.map fun s=>PyData.str (Str.ofString s))[((v:Int)).toNat]?=some (.str (tx s)):=by
 have hl:v<strs14.length:=hv
 refine⟨(Str.ofString strs14[v]).cps.toList,List.mem_map_of_mem (f:=fun s=>(Str.ofString s).cps.toList) (List.getElem_mem hl),?_⟩
 rw[Int.toNat_natCast,List.getElem?_map,List.getElem?_eq_getElem hl,Option.map_some,←os_tx]
theorem signs_le:∀s∈zhl,s.length≤4:=by decide+kernel
noncomputable def gone(s:List Nat):Nat:=if s=[]then 1 else 0
theorem gone_eq(s:List Nat)(j:Nat):((j:Int)+(if(tx s==Str.ofString "")=true then 1 else 0))=((j+gone s:Nat):Int):=by
 have e:(tx s==Str.ofString "")=(s==[]):=os_beq _ _ _ (by decide+kernel)
 rw[e]
 unfold gone
 cases s<;>rfl
theorem bent_ok{ns:List Stm}(g:Good n ns){j:Nat}(hj:j≤(shA ns).length){s:List Nat}(hs:s∈zhl):BackOk n ((shA ns).take j++s++(shA ns).drop (j+gone s)):=by
 cases s with
 |nil=>rw[List.append_nil];exact g.del j hj
 |cons c s=>exact g.put j _ hj hs (List.cons_ne_nil _ _)
theorem c_read_at{t:List Nat}{x:Str}(e:x=tx t)(f:Fit t)(h:match zal n t with
  | .ok l=>Φ (.d (.list [lpy l])) none
  | .err=>Φ (.d (.list [])) none
  | .oof=>False):Cal (n+11) 24 [.d (.str x)] none Φ Ξ:=e▸c_read f.1 f.2 h
theorem c_back{t:List Nat}{l:List Stm}(f:Fit t)(hp:zal n t= .ok l)(h:Φ (.d (.list [lpy l])) none):Cal (n+11) 24 [.d (.str (tx t))] none Φ Ξ:=c_read (n:=n) f.1 f.2 (by rw[hp];exact h)
theorem bent_eq(w s:List Nat)(j:Nat):(⟨((tx w).cps.toList.take ((j:Nat):Int).toNat).toArray⟩:Str)++tx s++(⟨((tx w).cps.toList.drop ((j:Int)+(if(tx s==Str.ofString "")=true then 1 else 0)).toNat).toArray⟩:Str)=tx (w.take j++s++w.drop (j+gone s)):=by
 rw[gone_eq,zah,Int.toNat_natCast,Int.toNat_natCast,tx_arr,tx_arr,zab,zab]
theorem c_bent{ns:List Stm}(g:Good n ns)(hc:cs.length<1000)(hp:p+10<2^30)(h:∀p',Φ (.d (.bool true)) (some (pen cs z p'))):Cal (n+12) 25 [.ref 0, .d (.str (tx (shA ns)))] (some (pen cs z p)) Φ Ξ:=by
 have hlen:=g.len
 have szp:(tx (shA ns)).length≤sizeLine:=by rw[zcb];exact Nat.le_trans hlen (Nat.le_trans (by decide) szl)
 have hX:∀(x:Str) p',Φ (.d (.bool (x==x))) (some (pen cs z p')):=fun x p'=>(beq_self_eq_true x).symm▸h p'
 refine zaa rfl (And.intro (by rw[zcb];exact Nat.lt_of_le_of_lt hlen (by decide)) (zav (many:=(shA ns).length+1) (Nat.le_add_left _ _) hc (Nat.lt_of_le_of_lt (Nat.le_add_right _ _) hp) fun j hj=>zav (many:=14) (by decide) hc (Nat.lt_of_le_of_lt (Nat.add_le_add_left (by decide) _) hp) fun v hv=>?_))
 obtain⟨s,hs,hx⟩:=strsAtV hv
 obtain⟨fb,hb⟩:=bent_ok g (Nat.le_of_lt_succ hj) hs
 have sm:=sm_tx (Nat.le_trans (Nat.add_le_add_right fb.1 2) (by decide))
 rw[←bent_eq]at sm
 refine Exists.intro _ (And.intro ⟨Int.natCast_nonneg v,lt62 hv rfl,hx⟩ (And.intro ⟨Int.natCast_nonneg j,szp⟩ (And.intro (zaf sm.l) (And.intro ⟨by rw[gone_eq];exact Int.natCast_nonneg _,szp⟩ (And.intro (zaf sm) (c_read_at (n:=n) (bent_eq _ _ _) fb ?_))))))
 revert hb
 cases zal n _ with
 |oof=>exact False.elim
 |err=>exact fun _=>h _
 |ok l=>exact fun hb=>Exists.intro (lpy l) (And.intro ⟨by decide,by decide,rfl⟩ (ze6 hb.1 (Nat.le_trans (Nat.add_le_add_right hb.2.1.1 2) (by decide)) (Nat.le_trans (Nat.le_of_succ_le hb.2.2.1) (Nat.le_add_right n 10)) (c_back hb.2.1 hb.2.2.2.1 (And.intro hb.2.2.2.2 (And.intro hb.2.2.2.2 (hX _ _))))))
end
noncomputable def Nodes(ns:List Stm):Prop:=1≤ns.length∧ns.length≤2∧∀x∈ns,St1 x
theorem allInt_map:∀l:List Int,allInt (l.map .int)=some l
 | []=>rfl
 |x::r=>congrArg (Option.map (x:: ·)) (allInt_map r)
theorem contains2_no{a b c:Str}(h1:c≠a)(h2:c≠b):[a,b].contains c=false:=by
 rw[List.contains_cons,List.contains_cons,beq_eq_false_iff_ne.mpr h1,beq_eq_false_iff_ne.mpr h2];rfl
theorem nil_odd:PyData.shown (.list [])≠PyData.shown (.list [.str (Str.ofString "odd")]):=by decide+kernel
noncomputable def zg4(xs:List Int):List Int:=(xs.take 60).map fun y=>y % 1000003
theorem cells_len(xs:List Int):(zg4 xs).length<1000:=by
 unfold zg4;rw[List.length_map,List.length_take];exact Nat.lt_of_le_of_lt (Nat.min_le_left _ _) (by decide)
theorem cells_in(xs:List Int):∀x∈zg4 xs,0≤x∧x<2^30:=fun x h=>by
 obtain⟨y,_,rfl⟩:=List.mem_map.mp h
 exact⟨Int.emod_nonneg _ (by decide),Int.lt_trans (Int.emod_lt_of_pos _ (by decide)) (by decide)⟩
theorem cells_map(xs:List Int):((xs.take 60).map fun y=>PyData.int (y % 1000003))=(zg4 xs).map .int:=(List.map_map).symm
theorem cells_start(xs:List Int):LJ (fun y=>AV.d (.int y)) (fun y=>PyData.int (y % 1000003)) (xs.take 60) (((xs.map PyData.int).take (60:Int).toNat).map AV.d) [] []:=by
 rw[show(xs.map PyData.int).take (60:Int).toNat=(xs.take 60).map .int from(List.map_take).symm,List.map_map];exact LJ.start _ _ _
theorem toN1(a:Nat):((a:Int)+1).toNat=a+1:=rfl
theorem len1(l:List Nat)(c:Nat):(l++[c]).length=l.length+1:=List.length_append
theorem cut_eq{w x y z:List Nat}{b e:Nat}(h:w=x++[40]++y++[41]++z)(hb:x.length=b)(he:(x++[40]++y).length=e):
  (⟨((tx w).cps.toList.take ((b:Nat):Int).toNat).toArray⟩:Str)++(⟨(((tx w).cps.toList.take ((e:Nat):Int).toNat).drop (((b:Nat):Int)+1).toNat).toArray⟩:Str)++(⟨((tx w).cps.toList.drop (((e:Nat):Int)+1).toNat).toArray⟩:Str)=tx (x++y++z):=by
 subst hb he h
 rw[zah,Int.toNat_natCast,Int.toNat_natCast,toN1,toN1,←len1 x 40,←len1 (x++[40]++y) 41,tx_arr,tx_arr,tx_arr,zab,zab,List.drop_left,List.append_assoc (x++[40]++y) [41] z,List.take_left,List.drop_left,List.append_assoc (x++[40]) y,List.append_assoc x [40],List.take_left]
theorem c_cut{n:Nat}{Φ:AV→Option AO→Prop}{Ξ:Int→Prop}{ns:List Stm}{t:List Nat}{x:Str}(e:x=tx t)(o:OtherOk n ns t)(h:∀v,zc2 (.list v)→PyData.shown (.list v)≠PyData.shown (.list [lpy ns])→PyData.shown (.list v)≠PyData.shown (.list [.str (Str.ofString "odd")])→Φ (.d (.list v)) none)(h0:PyData.shown (.list [])≠PyData.shown (.list [lpy ns])):Cal (n+11) 24 [.d (.str x)] none Φ Ξ:=by
 refine c_read_at e o.1 ?_
 have o2:=o.2
 revert o2
 cases zal n t with
 |oof=>exact False.elim
 |err=>exact fun _=>h _ rep_nil h0 nil_odd
 |ok l=>exact fun q=>h _ q.1 q.2.1 q.2.2
structure LG(page:List Nat)(f:AV→AV→St)(items:List AV)(σ:St):Prop where
 h:(∃ys:List (Nat×Nat),items=ys.map (fun q=>AV.d (pairT q))∧∀q∈ys,Cut page q.1 q.2)∧∃u v,σ=f u v
theorem LG.step{page:List Nat}{f:AV→AV→St}{y:AV}{r:List AV}{σ:St}(h:LG page f (y::r) σ):∃b e u v,y= .d (.tuple [.int (b:Nat), .int (e:Nat)])∧Cut page b e∧σ=f u v∧∀u' v',LG page f r (f u' v'):=by
 obtain⟨⟨ys,h1,h2⟩,u,v,h3⟩:=h
 cases ys with
 |nil=>cases h1
 |cons q ys=>exact⟨q.1,q.2,u,v,(List.cons.inj h1).1,h2 q (.head _),h3,fun u' v'=>⟨⟨ys,(List.cons.inj h1).2,fun q hq=>h2 q (.tail _ hq)⟩,u',v',rfl⟩⟩
theorem law_spec{n:Nat}(hn:20≤n)(G:∀ns,Nodes ns→∀m,n≤m→Good m ns)(xs:List Int)(hxs:xs.length≤63):
  awBs (Cal (n+12)) b_law ⟨[(52, .d (.list (xs.map .int))),(53, .no),(38, .no),(37, .no),(45, .no),(5, .no),(17, .no)],[]⟩ (fun _=>False) (fun a _=>a= .d (.bool true)) (fun _=>False):=by
 have hx63:∀{k:Nat},k≤63→k≤sizeLine:=fun h=>Nat.le_trans h (Nat.le_trans (by decide) szl)
 refine And.intro ⟨by decide,hx63 (by rwa [List.length_map])⟩ (And.intro (hx63 (by rw[List.length_map,List.length_take,List.length_map];exact Nat.le_trans (Nat.min_le_right _ _) hxs)) (Exists.intro (LJ (fun y=>AV.d (.int y)) (fun y=>PyData.int (y % 1000003)) (xs.take 60)) (And.intro (cells_start xs) (And.intro (fun y r acc H hI=>?_) (fun acc H hI=>?_)))))
 ·obtain⟨y,rfl,rfl,_,hn⟩:=hI.step
  exact And.intro (by decide) (And.intro rfl hn)
 obtain⟨rfl,rfl⟩:=hI.done
 rw[cells_map]
 have hc:=cells_len xs
 have hci:=cells_in xs
 generalize zg4 xs=cs at hc hci ⊢
 refine Exists.intro cs (And.intro ⟨allInt_map cs,Nat.le_of_lt hc,hci⟩ (And.intro (by decide) (zav (cs:=cs) (z:=cs.sum % 997) (p:=0) (many:=2) (by decide) hc (by decide) fun v hv=>?_)))
 have hv3:1+v<3:=Nat.add_lt_add_left hv 1
 refine And.intro ⟨Int.natCast_nonneg (1+v),lt62 hv3 rfl,szm hv3 rfl⟩ (And.intro (ze9 hv3 rfl) (Exists.intro (LJi Stm.py St1 cs (cs.sum % 997) (1+v) 130 (1+130*(1+v))) (And.intro (LJi.start (v:=1+v) (p0:=1) (Nat.le_refl _)) (And.intro (fun y r acc H hI=>?_) (fun acc H hI=>?_)))))
 ·obtain⟨p',rfl,hq,hn⟩:=hI.step
  have hq:p'+130≤1+130*2:=Nat.le_trans hq (Nat.add_le_add_left (Nat.mul_le_mul_left 130 (Nat.le_of_lt_succ hv3)) 1)
  exact c_st1 hc (Nat.le_add_left 7 (n+5)) (Nat.lt_of_le_of_lt hq (by decide)) fun e p2 h1 h2=>And.intro rfl (hn e p2 h1 h2)
 obtain⟨ns,p',rfl,rfl,g3,g4,g5⟩:=hI.done
 have nd:Nodes ns:=⟨g4▸Nat.le_add_right 1 v,g4▸Nat.le_of_lt_succ hv3,g3⟩
 have g:=G ns nd n (Nat.le_refl _)
 have hlen:=g.len
 have sz6:(tx (shA ns)).length≤sizeLine:=by rw[zcb];exact Nat.le_trans hlen (Nat.le_trans (by decide) szl)
 rw[←zct]
 refine ze6 g.ok (Nat.le_trans (Nat.add_le_add_right hlen 2) (by decide)) (Nat.le_trans (Nat.le_of_succ_le g.hg) (Nat.le_add_right n 11)) (c_parse (n:=n+2) g.fit.1 g.fit.2 ?_)
 rw[(G ns nd (n+2) (Nat.le_add_right n 2)).back]
 refine And.intro g.rp (And.intro g.rp (br_n (bne_self_eq_false _) (c_groups (Nat.le_trans hlen (by decide)) g.bal fun found hfl hf=>?_)))
 have hfl2:(found.map pairT).length≤sizeLine:=by rw[List.length_map];exact Nat.le_trans hfl (Nat.le_trans (by decide) szl)
 refine And.intro ⟨by decide,hfl2⟩ (And.intro (by rw[List.length_map];exact Nat.le_trans (List.length_take_le' _ _) hfl2) (Exists.intro (LG (shA ns) fun u v=>⟨[(52, .d (.list (xs.map .int))),(53, .d (.list (cs.map .int))),(38, .ref 0),(37, .d (lpy ns)),(45, .d (.str (tx (shA ns)))),(5,u),(17,v)],[pen cs (cs.sum % 997) p']⟩) (And.intro ⟨⟨found.take 2,by rw[show(found.map pairT).take (2:Int).toNat=(found.take 2).map pairT from(List.map_take).symm,List.map_map];rfl,fun q hq=>hf q (List.mem_of_mem_take hq)⟩,_,_,rfl⟩ (And.intro (fun y r σ hI=>?_) (fun σ hI=>?_)))))
 ·obtain⟨b,e,u,v,rfl,c,rfl,hn⟩:=hI.step
  obtain⟨x,y,w,e1,e2,e3,e4,e5⟩:=c.h
  have o:=(G ns nd (n+1) (Nat.le_succ n)).cut x y w e1 e4 e5
  have sm:=sm_tx (Nat.le_trans (Nat.add_le_add_right o.1.1 2) (by decide))
  rw[←cut_eq e1 e2 e3]at sm
  refine And.intro ⟨Int.natCast_nonneg b,sz6⟩ (And.intro ⟨Int.natCast_nonneg (b+1),Int.natCast_nonneg e,sz6⟩ (And.intro (zaf sm.l) (And.intro ⟨Int.natCast_nonneg (e+1),sz6⟩ (And.intro (zaf sm) (c_cut (n:=n+1) (cut_eq e1 e2 e3) o (fun v k1 k2 k3=>And.intro k1 (And.intro g.rp1 (And.intro rep_odd (br_n (contains2_no k2 k3) (hn _ _))))) g.ne0)))))
 ·obtain⟨_,u,v,rfl⟩:=hI.h
  exact c_bent g hc (Nat.lt_of_le_of_lt (Nat.add_le_add_right g5 10) (Nat.lt_of_le_of_lt (Nat.add_le_add_right (Nat.add_le_add_left (Nat.mul_le_mul_left 130 (Nat.le_of_lt_succ hv3)) 1) 10) (by decide))) fun p2=>rfl
noncomputable def pk(b:Bool)(l:List TK):List TK:=if b then l else .sign [40]::(l++[.sign [41]])
noncomputable def zat:List (List TK)→List TK
 | []=> []
 | [x]=>x
 |x::y::r=>x++ .sign [44]::zat (y::r)
mutual
noncomputable def tkE:Ex→List TK
 | .num v=> [.num v]
 | .text s=> [.text s]
 | .arg v=> [.arg v]
 | .own=> [.own]
 | .name s=> [.name s]
 | .apply w l=> .name w:: .sign [40]::(zat (tkEs l)++[.sign [41]])
 | .list l=> .sign [91]::(zat (tkEs l)++[.sign [93]])
 | .one s e=> .sign s::pk (decide (6≤lev e)) (tkE e)
 | .two s a b=>pk (decide ((if lvl s=3 then lvl s+1 else lvl s)≤lev a)) (tkE a)++ .sign s::pk (decide (lvl s+1≤lev b)) (tkE b)
 | .both a b=>pk (decide (2≤lev a)) (tkE a)++ .sign [38,38]::pk (decide (3≤lev b)) (tkE b)
 | .either a b=>pk (decide (1≤lev a)) (tkE a)++ .sign [124,124]::pk (decide (2≤lev b)) (tkE b)
noncomputable def tkEs:List Ex→List (List TK)
 | []=> []
 |e::r=>tkE e::tkEs r
end
noncomputable def tkW(e:Ex)(least:Int):List TK:=pk (decide (least≤lev e)) (tkE e)
noncomputable def isNm(s:List Nat):Prop:=∃c r,s=c::r∧(c::r).all (inS sName)=true∧inS sFig c=false
mutual
noncomputable def VE:Ex→Prop
 | .num v=>0≤v∧bits v≤512
 | .text _=>True
 | .arg v=>0≤v
 | .own=>True
 | .name s=>isNm s∧zac.contains s=false
 | .apply w l=>(isNm w∧zac.contains w=false)∧VEs l
 | .list l=>VEs l
 | .one s e=>(s=[45]∨s=[33])∧VE e
 | .two s a b=>s∈ops∧VE a∧VE b
 | .both a b=>VE a∧VE b
 | .either a b=>VE a∧VE b
noncomputable def VEs:List Ex→Prop
 | []=>True
 |e::r=>VE e∧VEs r
end
theorem lvl_ops:∀s∈ops,3≤lvl s∧lvl s≤5:=by
 have h:∀s∈ops,((zdd.lookup (tx s)).any fun v=>decide (3≤v∧v≤5))=true:=by decide+kernel
 intro s hs
 have:=h s hs
 unfold lvl
 cases q:zdd.lookup (tx s)with
 |none=>rw[q]at this;cases this
 |some v=>rw[q]at this;exact of_decide_eq_true this
theorem zdb:lvl [38,38]=2:=by decide+kernel
theorem zfs:lvl [124,124]=1:=by decide+kernel
theorem zb9:lvl [41]=0∧lvl [44]=0∧lvl [93]=0∧lvl [40]=0∧lvl [59]=0∧lvl [125]=0∧lvl [123]=0∧lvl [61]=0∧lvl [91]=0∧lvl [33]=0:=by decide+kernel
theorem ops_ne:∀s∈ops,s≠ [124,124]∧s≠ [38,38]∧s≠ [40]:=by decide+kernel
noncomputable def NB(k:TK):Prop:=k≠ .sign [40]
theorem pk_true(l:List TK):pk true l=l:=rfl
theorem pk_false(l:List TK):pk false l= .sign [40]::(l++[.sign [41]]):=rfl
theorem joinE_op{s:List Nat}(h:s∈ops)(a b:Ex):joinE s a b= .two s a b:=by
 have:=ops_ne s h
 unfold joinE
 rw[if_neg this.1,if_neg this.2.1]
theorem joinE_and(a b:Ex):joinE [38,38] a b= .both a b:=by unfold joinE;rw[if_neg (by decide),if_pos rfl]
theorem joinE_or(a b:Ex):joinE [124,124] a b= .either a b:=by unfold joinE;rw[if_pos rfl]
theorem zf7{e:Ex}(h:VE e):1≤lev e:=by
 cases e with
 |two s a b=>exact Int.le_trans (by decide) (lvl_ops s h.1).1
 |one=>exact(by decide:(1:Int)≤6)
 |both=>exact(by decide:(1:Int)≤2)
 |either=>exact(by decide:(1:Int)≤1)
 |_=>exact(by decide:(1:Int)≤7)
section
variable{P:J→List TK→List TK→Prop}(C:Closed P)
theorem six6:(6:Int)≤6:=by decide
theorem six7:(6:Int)≤7:=by decide
structure Sh(P:J→List TK→List TK→Prop)(e:Ex):Prop where
 u:6≤lev e→∀{k r},NB k→P (.u e) (tkE e++k::r) (k::r)
 e:∀{l k r},l≤lev e→NB k→(lvlOf k=0∨lvlOf k≤lev e)→∀{x t},P (.lp l e (decide (lev e=3)) x) (k::r) t→P (.e l x) (tkE e++k::r) t
variable{e a b:Ex}{l:Int}{s:List Nat}{k:TK}{r:List TK}
include C
theorem Sh.high(c:6≤lev e)(h:∀{k r},NB k→P (.u e) (tkE e++k::r) (k::r)):Sh P e:=⟨fun _=>h,fun{l k r} _ nb _{x t} g=>C.e (h nb) ((show decide (lev e=3)=false from decide_eq_false fun q=>absurd (q▸c) (by decide))▸g)⟩
theorem Sh.p(S:Sh P e)(hl:l≤lev e)(nb:NB k)(hk:lvlOf k=0∨lvlOf k<l):P (.e l e) (tkE e++k::r) (k::r):=S.e hl nb (hk.imp_right fun q=>Int.le_trans (Int.le_of_lt q) hl) (C.stop hk)
theorem Sh.br(S:Sh P e)(v:VE e):P (.u e) (.sign [40]::(tkE e++[.sign [41]])++r) r:=C.ua rfl (C.br (by
 show P _ ((tkE e++[.sign [41]])++r) _
 rw[List.append_assoc]
 exact S.p C (zf7 v) (fun q=>nomatch q) (.inl zb9.1)))
theorem Sh.w(S:Sh P e)(v:VE e)(nb:NB k)(hk:lvlOf k=0∨lvlOf k<l):P (.e l e) (tkW e l++k::r) (k::r):=by
 unfold tkW
 by_cases c:l≤lev e
 ·rw[decide_eq_true c]
  exact S.p C c nb hk
 ·rw[decide_eq_false c]
  exact C.e (S.br C v) (C.stop hk)
theorem Sh.wu(S:Sh P e)(v:VE e)(nb:NB k):P (.u e) (tkW e 6++k::r) (k::r):=by
 unfold tkW
 by_cases c:6≤lev e
 ·rw[decide_eq_true c]
  exact S.u c nb
 ·rw[decide_eq_false c]
  exact S.br C v
theorem Sh.two{la:Int}(A:Sh P a)(B:Sh P b)(va:VE a)(vb:VE b)(h0:lvl s≠0)(hla:lvl s≤la)(h3:lvl s=3→la=4)(hns:s≠ [40])(hl:l≤lvl s)(nb:NB k)(hk:lvlOf k=0∨lvlOf k≤lvl s){x t}(g:P (.lp l (joinE s a b) (decide (lvl s=3)) x) (k::r) t):
  P (.e l x) ((tkW a la++ .sign s::tkW b (lvl s+1))++k::r) t:=by
 have go:∀c:Bool,(lvl s=3→c=false)→P (.lp l a c x) (.sign s::(tkW b (lvl s+1)++k::r)) t:=fun c hc=>
  C.go (fun q=>q.elim h0 (Int.not_lt.mpr hl)) (fun q=>nomatch (hc q.1).symm.trans q.2) (B.w C vb nb (hk.imp_right Int.lt_add_one_of_le)) g
 rw[List.append_assoc]
 unfold tkW
 by_cases c:la≤lev a
 ·rw[decide_eq_true c]
  exact A.e (k:= .sign s) (Int.le_trans hl (Int.le_trans hla c)) (fun q=>hns (congrArg sgOf q)) (.inr (Int.le_trans hla c)) (go _ fun q=>decide_eq_false fun z=>absurd (h3 q▸z▸c) (by decide))
 ·rw[decide_eq_false c]
  exact C.e (A.br C va) (go false fun _=>rfl)
omit C
noncomputable def hk:TK→Bool
 | .name s=>!zac.contains s
 | .sign w=>w==[91]||w==[40]||w==[45]||w==[33]
 | .fin=>false
 |_=>true
structure Hx(l:List TK)(k:TK)(r:List TK):Prop where
 e:l=k::r
 h:hk k=true
 n:(∀w,k≠ .sign w)→∀{k2 q},k2≠ .sign [61]→isSg [61] (r++k2::q)=false
theorem sg61(h:k≠ .sign [61]):isSg [61] (k::r)=false:=by
 cases k with
 |sign w=>exact beq_eq_false_iff_ne.mpr fun q=>h (by rw[q])
 |_=>rfl
theorem Hx.op{m x:List TK}(h:∃k r,Hx m k r)(hs:s≠ [61])(b:Bool):∃k r,Hx (pk b m++ .sign s::x) k r:=by
 obtain⟨k,r,h⟩:=h
 cases b with
 |false=>exact⟨_,_,rfl,rfl,fun q=>absurd rfl (q _)⟩
 |true=>exact⟨k,r++ .sign s::x,by rw[h.e];rfl,h.h,fun q k2 z _=>by
   rw[List.append_assoc]
   exact h.n q fun e=>hs (congrArg sgOf e)⟩
theorem ops_ne61:∀s∈ops,s≠ [61]:=by decide+kernel
theorem zhm(h:hk k=true):∃k' r,Hx [k] k' r:=⟨k,[],rfl,h,fun _ _ _ q=>sg61 q⟩
theorem hx_all(e:Ex):VE e→∃k r,Hx (tkE e) k r:=Ex.rec (motive_1:=fun e=>VE e→∃k r,Hx (tkE e) k r) (motive_2:=fun _=>True)
 (fun _ _=>zhm rfl) (fun _ _=>zhm rfl) (fun _ _=>zhm rfl) (fun _=>zhm rfl) (fun s v=>zhm (show(!zac.contains s)=true by rw[v.2];rfl))
 (fun w l _ v=>⟨_,_,rfl,show(!zac.contains w)=true by rw[v.1.2];rfl,fun _ _ _ _=>rfl⟩) (fun l _ _=>⟨_,_,rfl,rfl,fun q=>absurd rfl (q _)⟩)
 (fun s e _ v=>⟨_,_,rfl,v.1.elim (fun q=>q▸rfl) fun q=>q▸rfl,fun q=>absurd rfl (q _)⟩)
 (fun s a b ha _ v=>Hx.op (ha v.2.1) (ops_ne61 s v.1) _) (fun a b ha _ v=>Hx.op (ha v.1) (by decide) _) (fun a b ha _ v=>Hx.op (ha v.1) (by decide) _) trivial (fun _ _ _ _=>trivial) e
theorem hk_no(h:hk k=true):isFin k=false∧∀s,s=[41]∨s=[93]∨s=[125]→isSg s (k::r)=false:=by
 cases k with
 |fin=>exact Bool.noConfusion h
 |sign w=>exact⟨rfl,fun s hs=>beq_eq_false_iff_ne.mpr fun q=>by
   subst q
   rcases hs with rfl|rfl|rfl<;>exact Bool.noConfusion h⟩
 |_=>exact⟨rfl,fun _ _=>rfl⟩
include C
structure Cl(s:List Nat):Prop where
 a:s≠ [40]
 b:lvl s=0
 c:s≠ [44]
 d:s=[41]∨s=[93]∨s=[125]
noncomputable def ShL(P:J→List TK→List TK→Prop)(l:List Ex):Prop:=VEs l→l≠ []→∀{s m r},Cl s→P (.it s m (m++l)) (zat (tkEs l)++ .sign s::r) r
theorem sh_cons{L:List Ex}(A:VE e→Sh P e)(B:ShL P L):ShL P (e::L):=fun v _{s m r} hs=>by
 have S:=A v.1
 cases L with
 |nil=>exact C.last (S.p C (zf7 v.1) (fun q=>hs.a (congrArg sgOf q)) (.inl hs.b))
 |cons e2 L=>
  have g:=B v.2 (List.cons_ne_nil _ _) (m:=m++[e]) (r:=r) hs
  rw[List.append_assoc]at g
  show P _ ((tkE e++ .sign [44]::zat (tkEs (e2::L)))++ .sign s::r) r
  rw[List.append_assoc]
  exact C.more hs.c (S.p C (zf7 v.1) (fun q=>nomatch q) (.inl zb9.2.1)) g
theorem rd_list{L:List Ex}(B:ShL P L)(v:VEs L)(hs:Cl s):P (.i s L) (zat (tkEs L)++ .sign s::r) r:=by
 cases L with
 |nil=>exact C.nil
 |cons e L=>
  obtain⟨k,q,h⟩:=hx_all e v.1
  refine C.some ?_ (B v (List.cons_ne_nil _ _) (m:=[]) hs)
  have:∃q2,zat (tkEs (e::L))=k::q2:=by
   cases L with
   |nil=>exact⟨q,h.e⟩
   |cons e2 L=>exact⟨_,(congrArg (· ++TK.sign [44]::zat (tkEs (e2::L))) h.e)⟩
  obtain⟨q2,e4⟩:=this
  rw[e4]
  exact(hk_no h.h).2 s hs.d
omit C
theorem cl41:Cl [41]:=⟨by decide,zb9.1,by decide, .inl rfl⟩
theorem cl93:Cl [93]:=⟨by decide,zb9.2.2.1,by decide, .inr (.inl rfl)⟩
theorem nb40(h:NB k):isSg [40] (k::r)=false:=by
 cases k with
 |sign w=>exact beq_eq_false_iff_ne.mpr fun q=>h (q▸rfl)
 |_=>rfl
include C
theorem sh_all(e:Ex):VE e→Sh P e:=Ex.rec (motive_1:=fun e=>VE e→Sh P e) (motive_2:=ShL P)
 (fun _ _=>Sh.high C six7 fun _=>C.ua rfl C.num) (fun _ _=>Sh.high C six7 fun _=>C.ua rfl C.text) (fun _ _=>Sh.high C six7 fun _=>C.ua rfl C.arg) (fun _=>Sh.high C six7 fun _=>C.ua rfl C.own)
 (fun _ v=>Sh.high C six7 fun nb=>C.ua rfl (C.name v.2 (nb40 nb)))
 (fun w l B v=>Sh.high C six7 fun{k r} _=>C.ua rfl (C.app v.1.2 (by
  show P _ ((zat (tkEs l)++[.sign [41]])++k::r) _
  rw[List.append_assoc]
  exact rd_list C B v.2 cl41)))
 (fun l B v=>Sh.high C six7 fun{k r} _=>C.ua rfl (C.lis (by
  show P _ ((zat (tkEs l)++[.sign [93]])++k::r) _
  rw[List.append_assoc]
  exact rd_list C B v cl93)))
 (fun s e A v=>Sh.high C six6 fun nb=>C.one v.1 (Sh.wu C (A v.2) v.2 nb))
 (fun s a b A B v=>⟨fun c=>absurd (Int.le_trans c (lvl_ops s v.1).2) (by decide),fun{l k r} hl nb hk{x t} g=>by
  have o:=lvl_ops s v.1
  refine Sh.two (la:=if lvl s=3 then lvl s+1 else lvl s) C (A v.2.1) (B v.2.2) v.2.1 v.2.2 (fun q=>absurd (q▸o.1) (by decide)) ?_ (fun q=>by rw[if_pos q,q];rfl) (ops_ne s v.1).2.2 hl nb hk (joinE_op v.1 a b▸g)
  by_cases q:lvl s=3
  ·rw[if_pos q];exact Int.le_of_lt (Int.lt_succ _)
  ·rw[if_neg q];exact Int.le_refl _⟩)
 (fun a b A B v=>⟨fun c=>absurd c (by decide:¬(6:Int)≤2),fun{l k r} hl nb hk{x t} g=>Sh.two (s:=[38,38]) (la:=2) C (A v.1) (B v.2) v.1 v.2 (zdb▸by decide) (zdb▸by decide) (zdb▸by decide) (by decide) (zdb▸hl) nb (zdb▸hk) (joinE_and a b▸zdb▸g)⟩)
 (fun a b A B v=>⟨fun c=>absurd c (by decide:¬(6:Int)≤1),fun{l k r} hl nb hk{x t} g=>Sh.two (s:=[124,124]) (la:=1) C (A v.1) (B v.2) v.1 v.2 (zfs▸by decide) (zfs▸by decide) (zfs▸by decide) (by decide) (zfs▸hl) nb (zfs▸hk) (joinE_or a b▸zfs▸g)⟩)
 (fun _ q=>absurd rfl q) (fun _ _ A B=>sh_cons C A B) e
end
noncomputable def semis:List (List TK)→List TK
 | []=> []
 | [x]=>x
 |x::y::r=>x++ .sign [59]::semis (y::r)
noncomputable def blk(l:List TK):List TK:= .sign [123]::(l++[.sign [125]])
mutual
noncomputable def tkS:Stm→List TK
 | .set e=> .own:: .sign [61]::tkE e
 | .name s e=> .name s:: .sign [61]::tkE e
 | .call e=>tkE e
 | .word s=> [.name s]
 | .whl e l=> .name za7:: .sign [40]::(tkE e++ .sign [41]::blk (semis (tkSs l)))
 | .ifs e l m=> .name ifL:: .sign [40]::(tkE e++ .sign [41]::(blk (semis (tkSs l))++(match m with| []=> []|s::r=> .name elseL::blk (semis (tkSs (s::r))))))
noncomputable def tkSs:List Stm→List (List TK)
 | []=> []
 |e::r=>tkS e::tkSs r
end
noncomputable def tkA(l:List Stm):List TK:=semis (tkSs l)
mutual
noncomputable def VS:Stm→Prop
 | .set e=>VE e
 | .name s e=>(isNm s∧zac.contains s=false)∧VE e
 | .call e=>VE e
 | .word s=>s∈zbh
 | .whl e l=>VE e∧VSs l
 | .ifs e l m=>VE e∧VSs l∧VSs m
noncomputable def VSs:List Stm→Prop
 | []=>True
 |e::r=>VS e∧VSs r
end
noncomputable def En(k:TK):Prop:=k= .sign [59]∨k= .sign [125]∨k= .fin
theorem En.nb{k:TK}(h:En k):NB k:=by rcases h with rfl|rfl|rfl<;>exact fun q=>nomatch q
theorem En.lv{k:TK}(h:En k):lvlOf k=0:=by
 rcases h with rfl|rfl|rfl
 ·exact zb9.2.2.2.2.1
 ·exact zb9.2.2.2.2.2.1
 ·rfl
theorem En.ne{k:TK}(h:En k):k≠ .sign [61]∧elseT k=false:=by rcases h with rfl|rfl|rfl<;>exact⟨fun q=>(nomatch q),rfl⟩
noncomputable def elp:List Stm→List TK
 | []=> []
 |s::r=> .name elseL::blk (tkA (s::r))
theorem tkS_if(e:Ex)(l m:List Stm):tkS (.ifs e l m)= .name ifL:: .sign [40]::(tkE e++ .sign [41]::(blk (tkA l)++elp m)):=by
 cases m<;>rfl
theorem not_res{s:List Nat}(h:zac.contains s=false):zbh.contains s=false∧s≠ifL∧s≠za7:=by
 have h1:∀x∈zac,s≠x:=fun x hx q=>nomatch h.symm.trans (List.contains_iff_mem.mpr (q▸hx))
 exact⟨Bool.eq_false_iff.mpr fun q=>h1 s (List.mem_append_right _ (List.contains_iff_mem.mp q)) rfl,h1 _ (.head _),h1 _ (.tail _ (.tail _ (.head _)))⟩
theorem not_call{s:List Nat}{r:List TK}(h:zac.contains s=false)(c:isSg [61] r=false):CallT (.name s::r):=fun n=>
 have q:=not_res h
 show(if zbh.contains s=true then _ else if s=ifL then _ else if s=za7 then _ else if(!zac.contains s&&isSg [61] r)=true then _ else _)=_ from
  (if_neg (Bool.eq_false_iff.mp q.1)).trans ((if_neg q.2.1).trans ((if_neg q.2.2).trans (if_neg (by rw[c,Bool.and_false];decide))))
theorem callT{e:Ex}(v:VE e){k:TK}{r:List TK}(hk:k≠ .sign [61]):CallT (tkE e++k::r):=by
 obtain⟨k1,r1,h⟩:=hx_all e v
 rw[h.e]
 show CallT (k1::(r1++k::r))
 have hn:=fun z=>h.n z (q:=r) hk
 cases k1 with
 |own=>exact fun n=>show(if isSg [61] (r1++k::r)=true then _ else _)=_ from if_neg (Bool.eq_false_iff.mp (hn fun _ q=>nomatch q))
 |name s=>exact not_call (Bool.not_eq_true' _▸h.h) (hn fun _ q=>nomatch q)
 |_=>exact fun _=>rfl
noncomputable def hs(k:TK)(r:List TK):Bool:=isFin k||isSg [125] (k::r)
theorem hs_all{e:Stm}(v:VS e):∃k r,tkS e=k::r∧∀r,hs k r=false:=by
 cases e with
 |call e=>
  obtain⟨k,r,h⟩:=hx_all e v
  refine⟨k,r,h.e,fun r=>?_⟩
  have q:=hk_no (r:=r) h.h
  unfold hs
  rw[q.1,q.2 _ (.inr (.inr rfl))]
  rfl
 |ifs e l m=>exact⟨_,_,tkS_if e l m,fun _=>rfl⟩
 |_=>exact⟨_,_,rfl,fun _=>rfl⟩
section
variable{P:J→List TK→List TK→Prop}(C:Closed P)
noncomputable def ShS(P:J→List TK→List TK→Prop)(e:Stm):Prop:=VS e→∀{k r},En k→P (.st e) (tkS e++k::r) (k::r)
noncomputable def ShT(P:J→List TK→List TK→Prop)(l:List Stm):Prop:=VSs l→l≠ []→∀{k r m},k= .sign [125]∨k= .fin→P (.sl m (m++l)) (semis (tkSs l)++k::r) (k::r)
variable{e:Ex}{k:TK}{r:List TK}{s:Stm}{l m:List Stm}
include C
theorem sh_e(v:VE e)(h:En k):P (.e 1 e) (tkE e++k::r) (k::r):=(sh_all C e v).p C (zf7 v) h.nb (.inl h.lv)
theorem sh_step(v:VS s)(h:P (.st s) (tkS s++k::r) (k::r))(h59:isSg [59] (k::r)=false):P (.sl m (m++[s])) (tkS s++k::r) (k::r):=by
 obtain⟨k1,r1,e1,e2⟩:=hs_all v
 rw[e1]at h ⊢
 exact C.slast (e2 _) h59 h
theorem sh_more{l2:List Stm}{t:List TK}(v:VS s)(h:P (.st s) (tkS s++ .sign [59]::r) (.sign [59]::r))(g:P (.sl (m++[s]) l2) r t):P (.sl m l2) (tkS s++ .sign [59]::r) t:=by
 obtain⟨k1,r1,e1,e2⟩:=hs_all v
 rw[e1]at h ⊢
 exact C.smore (e2 _) h g
theorem sh_consS(A:ShS P s)(B:ShT P l):ShT P (s::l):=fun v _{k r m} hk=>by
 cases l with
 |nil=>exact sh_step C v.1 (A v.1 (hk.elim (fun q=> .inr (.inl q)) fun q=> .inr (.inr q))) (hk.elim (fun q=>q▸rfl) fun q=>q▸rfl)
 |cons s2 l=>
  have g:=B v.2 (List.cons_ne_nil _ _) (m:=m++[s]) (r:=r) hk
  rw[List.append_assoc]at g
  show P _ ((tkS s++ .sign [59]::semis (tkSs (s2::l)))++k::r) _
  rw[List.append_assoc]
  exact sh_more C v.1 (A v.1 (.inl rfl)) g
theorem sh_many(B:ShT P l)(v:VSs l)(hk:k= .sign [125]∨k= .fin):P (.sl [] l) (tkA l++k::r) (k::r):=by
 cases l with
 |nil=>exact C.fin (hk.elim (fun q=>q▸rfl) fun q=>q▸rfl)
 |cons s l=>exact B v (List.cons_ne_nil _ _) (m:=[]) hk
theorem sh_blk(B:ShT P l)(v:VSs l):P (.bl l) (blk (tkA l)++r) r:=by
 show P _ (.sign [123]::((tkA l++[.sign [125]])++r)) _
 rw[List.append_assoc]
 exact C.bl (sh_many C B v (.inl rfl))
theorem sh_co(v:VE e):P (.co e) (.sign [40]::(tkE e++ .sign [41]::r)) r:=C.co ((sh_all C e v).p C (zf7 v) (fun q=>nomatch q) (.inl zb9.1))
theorem shS_all(s:Stm):ShS P s:=Stm.rec (motive_1:=ShS P) (motive_2:=ShT P)
 (fun e v _ _ h=>C.set (sh_e C v h)) (fun s e v _ _ h=>C.nm v.1.2 (sh_e C v.2 h)) (fun e v _ _ h=>C.call (callT v h.ne.1) (sh_e C v h)) (fun s v _ _ _=>C.word (List.contains_iff_mem.mpr v))
 (fun e l B v k r h=>by
  show P _ (.name za7:: .sign [40]::((tkE e++ .sign [41]::blk (tkA l))++k::r)) _
  rw[List.append_assoc]
  exact C.whl (sh_co C v.1) (sh_blk C B v.2))
 (fun e l m B D v k r h=>by
  rw[tkS_if]
  show P _ (.name ifL:: .sign [40]::((tkE e++ .sign [41]::(blk (tkA l)++elp m))++k::r)) _
  rw[List.append_assoc]
  show P _ (.name ifL:: .sign [40]::(tkE e++ .sign [41]::((blk (tkA l)++elp m)++k::r))) _
  rw[List.append_assoc]
  refine C.cif ?_
  cases m with
  |nil=>exact C.ifs h.ne.2 (sh_co C v.1) (sh_blk C B v.2.1)
  |cons s m=>exact C.ife (sh_co C v.1) (sh_blk C B v.2.1) (sh_blk C D v.2.2))
 (fun _ q=>absurd rfl q) (fun _ _ A B=>sh_consS C A B) s
theorem shT_all(l:List Stm):ShT P l:=by
 induction l with
 |nil=>exact fun _ q=>absurd rfl q
 |cons s l ih=>exact sh_consS C (shS_all C s) ih
theorem whole_read(v:VSs l):P (.sl [] l) (tkA l++[.fin]) [.fin]:=sh_many C (shT_all C l) v (.inr rfl)
end
noncomputable def wt(k:TK→Nat)(ts:List TK):Nat:=(ts.map k).sum
section
variable{k:TK→Nat}
theorem zcd(x:TK)(r:List TK):wt k (x::r)=k x+wt k r:=rfl
theorem zbb(a b:List TK):wt k (a++b)=wt k a+wt k b:=by
 unfold wt
 rw[List.map_append,List.sum_append]
noncomputable def wb(k:TK→Nat):Nat:=k (.sign [40])+k (.sign [41])
theorem wt_br(l:List TK):wt k (.sign [40]::(l++[.sign [41]]))=wt k l+wb k:=by
 show k (.sign [40])+wt k (l++[.sign [41]])=_
 rw[zbb,Nat.add_left_comm]
 rfl
theorem wt_pk(b:Bool)(l:List TK):wt k l≤wt k (pk b l)∧wt k (pk b l)≤wt k l+wb k:=by
 cases b with
 |true=>exact⟨Nat.le_refl _,Nat.le_add_right _ _⟩
 |false=>exact⟨(wt_br l).symm▸Nat.le_add_right _ _,Nat.le_of_eq (wt_br l)⟩
end
theorem lvl_cases(w:List Nat):lvl w=0∨(1≤lvl w∧lvl w≤5):=by
 rcases lk_cases w with⟨_,h⟩|⟨v,_,h,h1,h2⟩
 ·exact .inl h
 ·exact .inr ⟨by lia,by lia⟩
theorem lev_join(s:List Nat)(a b:Ex):lev (joinE s a b)=lvl s:=by
 unfold joinE
 split
 ·rename_i q;rw[q,zfs];rfl
 ·split
  ·rename_i q;rw[q,zdb];rfl
  ·rfl
noncomputable def laOf(s:List Nat):Int:=if lvl s=3 then lvl s+1 else lvl s
theorem tk_join(s:List Nat)(a b:Ex):tkE (joinE s a b)=tkW a (laOf s)++ .sign s::tkW b (lvl s+1):=by
 unfold joinE laOf
 split
 ·rename_i q;rw[q,zfs,if_neg (by decide),tkE];rfl
 ·split
  ·rename_i q;rw[q,zdb,if_neg (by decide),tkE];rfl
  ·rw[tkE];rfl
noncomputable def Hd(least:Int)(ts:List TK):Prop:=∃k r,ts=k::r∧(lvlOf k=0∨lvlOf k<least)
section
variable{k:TK→Nat}
theorem zha(h44:k (.sign [44])=0):∀(l:List (List TK))(x:List TK),wt k (zat (l++[x]))=wt k (zat l)+wt k x
 | [],x=>(Nat.zero_add _).symm
 | [y],x=>by
  show wt k (y++ .sign [44]::x)=wt k y+wt k x
  rw[zbb,zcd,h44,Nat.zero_add]
 |y::z::r,x=>by
  show wt k (y++ .sign [44]::zat ((z::r)++[x]))=wt k (y++ .sign [44]::zat (z::r))+_
  rw[zbb,zbb,zcd,zcd,zha h44 (z::r) x,←Nat.add_assoc (k (.sign [44])),←Nat.add_assoc]
theorem tkEs_append(a b:List Ex):tkEs (a++b)=tkEs a++tkEs b:=by
 induction a with
 |nil=>rfl
 |cons e a ih=>exact congrArg (tkE e:: ·) ih
theorem tkEs_snoc(h44:k (.sign [44])=0)(l:List Ex)(x:Ex):wt k (zat (tkEs (l++[x])))=wt k (zat (tkEs l))+wt k (tkE x):=by
 rw[tkEs_append]
 exact zha h44 _ _
noncomputable def FbI(k:TK→Nat)(l:Int)(y:Ex)(c:Bool)(ts:List TK)(n:Nat):Prop:=wt k (tkE y)+wb k+wt k ts≤n∨(wt k (tkE y)+wt k ts≤n∧l≤lev y∧(∀k r,ts=k::r→lvlOf k≤lev y)∧(lev y=3→c=true))
noncomputable def Fb1(k:TK→Nat)(x:Ex)(ts t:List TK):Prop:=(6≤lev x∧wt k (tkE x)+wt k t≤wt k ts)∨wt k (tkE x)+wb k+wt k t≤wt k ts
theorem pk_le(x:Ex)(l:Int):wt k (tkE x)≤wt k (tkW x l):=(wt_pk _ _).1
theorem pk_le1(x:Ex)(l:Int):wt k (tkW x l)≤wt k (tkE x)+wb k:=(wt_pk _ _).2
theorem pk_eq{x:Ex}{l:Int}(h:l≤lev x):wt k (tkW x l)=wt k (tkE x):=by unfold tkW;rw[decide_eq_true h];rfl
theorem lvl_le(k:TK):lvlOf k≤5:=by
 cases k with
 |sign s=>exact(lvl_cases s).elim (fun h=>Int.le_trans (Int.le_of_eq h) (by decide)) fun h=>h.2
 |_=>exact(by decide:(0:Int)≤5)
theorem fb_stop{l:Int}{x:Ex}{c:Bool}{y:TK}{r:List TK}{n:Nat}(c1:lvlOf y=0∨lvlOf y<l)(i:FbI k l x c (y::r) n):wt k (tkW x l)+wt k (y::r)≤n∧Hd l (y::r):=
 ⟨i.elim (fun i=>Nat.le_trans (Nat.add_le_add_right (pk_le1 x l) _) i) fun i=>Nat.le_trans (Nat.le_of_eq (congrArg (· +_) (pk_eq i.2.1))) i.1,y,r,rfl,c1⟩
theorem fb_ar{a p y t r n:Nat}(h:a+(p+r)≤n)(g:y+t≤r):a+(p+y)+t≤n:=by lia
theorem fb_go{l:Int}{x y:Ex}{c:Bool}{w:List Nat}{r t1:List TK}{n:Nat}(c1:¬(lvl w=0∨lvl w<l))(c2:¬(lvl w=3∧c=true))(h:lvl w+1≤6→wt k (tkW y (lvl w+1))+wt k t1≤wt k r∧Hd (lvl w+1) t1)(i:FbI k l x c (.sign w::r) n):FbI k l (joinE w x y) (decide (lvl w=3)) t1 n:=by
 obtain⟨g1,k2,r2,rfl,g3⟩:=h (Int.add_le_add_right (lvl_le (.sign w)) 1)
 have hw:wt k (tkW x (laOf w))+(k (.sign w)+wt k r)≤n:=by
  refine i.elim (fun i=>Nat.le_trans (Nat.add_le_add_right (pk_le1 x _) _) i) fun i=>Nat.le_trans (Nat.le_of_eq (congrArg (· +_) (pk_eq ?_))) i.1
  have hl:lvl w≤lev x:=i.2.2.1 _ _ rfl
  unfold laOf
  by_cases q:lvl w=3
  ·rw[if_pos q]
   exact Int.lt_iff_le_and_ne.mpr ⟨hl,fun q2=>c2 ⟨q,i.2.2.2 (q2.symm.trans q)⟩⟩
  ·rw[if_neg q]
   exact hl
 refine .inr ⟨?_,(lev_join w x y).symm▸Int.not_lt.mp fun q=>c1 (.inr q),fun k3 r3 q=>?_,fun q=>decide_eq_true ((lev_join w x y).symm.trans q)⟩
 ·rw[tk_join,zbb]
  exact fb_ar hw g1
 ·obtain⟨rfl,_⟩:=List.cons.inj q
  rw[lev_join]
  exact g3.elim (fun g=>g▸(lvl_cases w).elim (fun q=>absurd (.inl q) c1) fun q=>Int.le_trans (by decide) q.1) Int.le_of_lt_add_one
end
noncomputable def FbP(k:TK→Nat):J→List TK→List TK→Prop
 | .e l x,ts,t=>l≤6→wt k (tkW x l)+wt k t≤wt k ts∧Hd l t
 | .u x,ts,t=>Fb1 k x ts t
 | .a x,ts,t=>Fb1 k x ts t
 | .i s l,ts,t=>wt k (zat (tkEs l))+wt k (.sign s::t)≤wt k ts
 | .lp l y c x,ts,t=>∀n,FbI k l y c ts n→wt k (tkW x l)+wt k t≤n∧Hd l t
 | .it s m l,ts,t=>wt k (zat (tkEs l))+wt k (.sign s::t)≤wt k (zat (tkEs m))+wt k ts
 | .sl m l,ts,t=>wt k (tkA l)+wt k t≤wt k (tkA m)+wt k ts
 | .bl l,ts,t=>wt k (blk (tkA l))+wt k t≤wt k ts
 | .co x,ts,t=>wt k (tkE x)+wb k+wt k t≤wt k ts
 | .ch s,ts,t=>wt k (tkS s)+wt k t≤k (.name ifL)+wt k ts
 | .st s,ts,t=>wt k (tkS s)+wt k t≤wt k ts
section
variable{k:TK→Nat}
theorem semis_snoc(h59:k (.sign [59])=0):∀(l:List (List TK))(x:List TK),wt k (semis (l++[x]))=wt k (semis l)+wt k x
 | [],x=>(Nat.zero_add _).symm
 | [y],x=>by
  show wt k (y++ .sign [59]::x)=wt k y+wt k x
  rw[zbb,zcd,h59,Nat.zero_add]
 |y::z::r,x=>by
  show wt k (y++ .sign [59]::semis ((z::r)++[x]))=wt k (y++ .sign [59]::semis (z::r))+_
  rw[zbb,zbb,zcd,zcd,semis_snoc h59 (z::r) x,←Nat.add_assoc (k (.sign [59])),←Nat.add_assoc]
theorem tkSs_append(a b:List Stm):tkSs (a++b)=tkSs a++tkSs b:=by
 induction a with
 |nil=>rfl
 |cons e a ih=>exact congrArg (tkS e:: ·) ih
theorem tkA_snoc(h59:k (.sign [59])=0)(l:List Stm)(x:Stm):wt k (tkA (l++[x]))=wt k (tkA l)+wt k (tkS x):=by
 unfold tkA
 rw[tkSs_append]
 exact semis_snoc h59 _ _
theorem wt_le(x:TK)(r:List TK):wt k r≤wt k (x::r):=Nat.le_add_left _ _
theorem wt_up{x:TK}{a b:List TK}{n:Nat}(h:wt k a+n≤wt k b):wt k (x::a)+n≤wt k (x::b):=Nat.le_trans (Nat.le_of_eq (Nat.add_assoc _ _ _)) (Nat.add_le_add_left h _)
theorem zfh(x:TK)(r:List TK):wt k [x]+wt k r≤wt k (x::r):=Nat.le_of_eq (zbb [x] r).symm
theorem wt_in{l t r:List TK}{x:TK}(h:wt k l+wt k (x::t)≤wt k r):wt k (l++[x])+wt k t≤wt k r:=by
 rw[zbb,Nat.add_assoc]
 exact h
theorem fb_last{a b m x t p s:Nat}(e:a=m+x)(h:x≤b)(g:b+p≤s)(q:t≤p):a+t≤m+s:=by lia
theorem fb_e{x:Ex}{ts t:List TK}(h:(1:Int)≤6→wt k (tkW x 1)+wt k t≤wt k ts∧Hd 1 t):wt k (tkE x)+wt k t≤wt k ts:=Nat.le_trans (Nat.add_le_add_right (pk_le x 1) _) (h (by decide)).1
theorem fb_br{x p q t r:Nat}(h:x+(q+t)≤r):x+(p+q)+t≤p+r:=by lia
theorem fb_co{f p q x b t t1 ts:Nat}(h1:x+(p+q)+t1≤ts)(h2:b+t≤t1):f+(p+(x+(q+b)))+t≤f+ts:=by lia
theorem wt_if(x:Ex)(l m:List Stm):wt k (tkS (.ifs x l m))=k (.name ifL)+(k (.sign [40])+(wt k (tkE x)+(k (.sign [41])+(wt k (blk (tkA l))+wt k (elp m))))):=by
 rw[tkS_if,zcd,zcd,zbb,zcd,zbb]
theorem wt_elp(m:List Stm):wt k (elp m)≤k (.name elseL)+wt k (blk (tkA m)):=by
 cases m with
 |nil=>exact Nat.zero_le _
 |cons=>exact Nat.le_refl _
theorem fb_ife{b m e c t t1 t2:Nat}(g:m≤e+c)(h1:b+(e+t2)≤t1)(h2:c+t≤t2):b+m+t≤t1:=by lia
theorem fb_closed(h44:k (.sign [44])=0)(h59:k (.sign [59])=0):Closed (FbP k) where
 e:=fun h1 h2 hl=>h2 _ (h1.elim (fun g=> .inr ⟨g.2,Int.le_trans hl g.1,fun k _ _=>Int.le_trans (lvl_le k) (Int.le_trans (by decide) g.1),fun q=>absurd (q▸g.1) (by decide)⟩) .inl)
 stop:=fun c1 _ i=>fb_stop c1 i
 go:=fun c1 c2 h1 h2 n i=>h2 n (fb_go c1 c2 h1 i)
 one:=fun{w x r t} hw h=> .inl ⟨six6,wt_up (show wt k (tkW x 6)+wt k t≤wt k r from h.elim (fun g=>(pk_eq g.1).symm▸g.2) fun g=>Nat.le_trans (Nat.add_le_add_right (pk_le1 x 6) _) g)⟩
 ua:=fun _ h=>h
 num:= .inl ⟨six7,zfh _ _⟩
 text:= .inl ⟨six7,zfh _ _⟩
 arg:= .inl ⟨six7,zfh _ _⟩
 own:= .inl ⟨six7,zfh _ _⟩
 name:=fun _ _=> .inl ⟨six7,zfh _ _⟩
 app:=fun{s l r t} _ h=> .inl ⟨six7,wt_up (wt_up (wt_in (x:= .sign [41]) h))⟩
 lis:=fun h=> .inl ⟨six7,wt_up (wt_in (x:= .sign [93]) h)⟩
 br:=fun{x r t} h=> .inr (fb_br (fb_e h))
 nil:=fun{s r}=>Nat.le_of_eq (Nat.zero_add _)
 some:=fun _ h=>Nat.le_trans h (Nat.le_of_eq (Nat.zero_add _))
 last:=fun h=>fb_last (tkEs_snoc h44 _ _) (Nat.le_refl _) (fb_e h) (Nat.le_refl _)
 more:=fun _ h1 h2=>Nat.le_trans h2 (fb_last (tkEs_snoc h44 _ _) (Nat.le_refl _) (fb_e h1) (wt_le _ _))
 fin:=fun _=>Nat.le_refl _
 slast:=fun _ _ h=>fb_last (tkA_snoc h59 _ _) (Nat.le_refl _) h (Nat.le_refl _)
 smore:=fun _ h1 h2=>Nat.le_trans h2 (fb_last (tkA_snoc h59 _ _) (Nat.le_refl _) h1 (wt_le _ _))
 bl:=fun h=>wt_up (wt_in (Nat.le_trans h (Nat.le_of_eq (Nat.zero_add _))))
 co:=fun{x r t} h=>fb_br (fb_e h)
 ife:=fun{x l m ts t1 t2 t} h1 h2 h3=>by
  show wt k (tkS (.ifs x l m))+wt k t≤_
  rw[wt_if]
  exact fb_co h1 (fb_ife (wt_elp m) h2 h3)
 ifs:=fun{x l ts t1 y r} _ h1 h2=>by
  show wt k (tkS (.ifs x l []))+wt k (y::r)≤_
  rw[wt_if]
  exact fb_co h1 h2
 set:=fun h=>wt_up (wt_up (fb_e h))
 nm:=fun _ h=>wt_up (wt_up (fb_e h))
 word:=fun _=>zfh _ _
 cif:=fun h=>h
 whl:=fun{x l r t1 t} h1 h2=>by
  show k (.name za7)+(k (.sign [40])+wt k (tkE x++ .sign [41]::blk (tkA l)))+wt k t≤k (.name za7)+wt k r
  rw[zbb,zcd]
  exact fb_co h1 h2
 call:=fun _ h=>fb_e h
theorem fewest(h44:k (.sign [44])=0)(h59:k (.sign [59])=0){n:Nat}{t:List Nat}{l:List Stm}(h:zal n t= .ok l):∃ts,pScan t=some ts∧wt k (tkA l)≤wt k ts:=by
 obtain⟨ts,t',hs,h2⟩:=so_parse (fb_closed h44 h59) h
 exact⟨ts,hs,Nat.le_trans (Nat.le_add_right _ _) (Nat.le_trans h2 (Nat.le_of_eq (Nat.zero_add _)))⟩
end
noncomputable def isP:TK→Bool
 | .sign w=>w==[40]
 |_=>false
noncomputable def isPn(t:TK):Nat:=if isP t=true then 1 else 0
noncomputable def cp(ts:List TK):Nat:=wt isPn ts
theorem cp_cons(k:TK)(r:List TK):cp (k::r)=cp r+(if isP k=true then 1 else 0):=Nat.add_comm _ _
theorem cp_append(a b:List TK):cp (a++b)=cp a+cp b:=zbb a b
theorem plain_cut:∀(u:List Nat),(∀c∈u,c≠34∧c≠40)→md 0 u=0∧cnt 40 0 u=0
 | [],_=>⟨rfl,rfl⟩
 |c::u,h=>by
  have h1:=h c (.head _)
  have e:stp 0 c=0:=by unfold stp;rw[if_pos rfl,if_neg h1.1]
  have ih:=plain_cut u fun x hx=>h x (.tail _ hx)
  refine⟨?_,?_⟩
  ·show md (stp 0 c) u=0
   rw[e];exact ih.1
  ·show(if 0=0∧c=40 then 1 else 0)+cnt 40 (stp 0 c) u=0
   rw[e,ih.2,if_neg (fun q=>h1.2 q.2)]
theorem text_cut:∀(u:List Nat),(∀c∈u,c≠34∧c≠92)→md 1 u=1∧cnt 40 1 u=0
 | [],_=>⟨rfl,rfl⟩
 |c::u,h=>by
  have h1:=h c (.head _)
  have e:stp 1 c=1:=by unfold stp;rw[if_neg (by decide),if_pos rfl,if_neg h1.2,if_neg h1.1]
  have ih:=text_cut u fun x hx=>h x (.tail _ hx)
  refine⟨?_,?_⟩
  ·show md (stp 1 c) u=1
   rw[e];exact ih.1
  ·show(if 1=0∧c=40 then 1 else 0)+cnt 40 (stp 1 c) u=0
   rw[e,ih.2,if_neg (fun q=>by cases q.1)]
theorem zeo(s:Str)(base:Nat):∀(m v:Nat)(r:List Nat),∃w,r=w++(zao s base m v r).2∧∀c∈w,inS s c=true
 |0,v,r=>⟨[],rfl,by simp⟩
 |_+1,v,[]=>⟨[],rfl,by simp⟩
 |m+1,v,c::r=>by
  unfold zao
  by_cases h:inS s c=true
  ·rw[if_pos h]
   obtain⟨w,h1,h2⟩:=zeo s base m (v*base+hexv c) r
   refine⟨c::w,congrArg (c:: ·) h1,?_⟩
   intro x hx
   rcases List.mem_cons.mp hx with rfl|hx
   ·exact h
   ·exact h2 x hx
  ·rw[if_neg h]
   exact⟨[],rfl,by simp⟩
theorem hex_plain{c:Nat}(h:inS sHex c=true):c≠34∧c≠92:=by
 constructor<;>(rintro rfl;revert h;decide+kernel)
theorem oct_plain{c:Nat}(h:inS sOct c=true):c≠34∧c≠92:=by
 constructor<;>(rintro rfl;revert h;decide+kernel)
theorem za8(c:Nat)(r:List Nat):zar (c::r)=match zbi c with
  |some v=>some (v.toNat,r)
  |none=>if inS sOct c then some (zao sOct 8 3 0 (c::r))else match r with
   |d::_=>if c=120∧inS sHex d=true then some (zao sHex 16 2 0 r)else some (c,r)
   | []=>some (c,r):=rfl
theorem escape_cut{c d:Nat}{r r':List Nat}(h:zar (c::r)=some (d,r')):∃w,r=w++r'∧∀x∈w,x≠34∧x≠92:=by
 rw[za8]at h
 cases hp:zbi c with
 |some v=>rw[hp]at h;cases h;exact⟨[],rfl,by simp⟩
 |none=>
 rw[hp]at h
 dsimp only at h
 by_cases ho:inS sOct c=true
 ·rw[if_pos ho]at h
  injection h with h
  obtain⟨w,h1,h2⟩:=zeo sOct 8 3 0 (c::r)
  have e:(zao sOct 8 3 0 (c::r)).2=r':=by rw[h]
  rw[e]at h1
  have hne:w≠ []:=by
   intro q
   subst q
   have hc:(zao sOct 8 3 0 (c::r)).2=(zao sOct 8 2 (0*8+hexv c) r).2:=by
    rw[zao,if_pos ho]
   obtain⟨w2,g1,_⟩:=zeo sOct 8 2 (0*8+hexv c) r
   rw[←hc,e]at g1
   have h1:c::r=r':=h1
   have:=congrArg List.length g1
   rw[←h1,List.length_append,List.length_cons]at this
   lia
  cases w with
  |nil=>exact absurd rfl hne
  |cons x w=>
   injection h1 with h3 h4
   exact⟨w,h4,fun y hy=>oct_plain (h2 y (.tail _ hy))⟩
 ·rw[if_neg ho]at h
  cases r with
  |nil=>cases h;exact⟨[],rfl,by simp⟩
  |cons d2 r=>
   dsimp only at h
   split at h
   ·injection h with h
    obtain⟨w,h1,h2⟩:=zeo sHex 16 2 0 (d2::r)
    have e:(zao sHex 16 2 0 (d2::r)).2=r':=by rw[h]
    rw[e]at h1
    exact⟨w,h1,fun y hy=>hex_plain (h2 y hy)⟩
   ·cases h;exact⟨[],rfl,by simp⟩
theorem zfi:∀(m:Nat){r r' s:List Nat},pQ 34 m r=some (s,r')→∃v,r=v++r'∧md 1 v=0∧cnt 40 1 v=0
 |0,r,r',s,h=>by cases h
 |m+1,[],r',s,h=>by cases h
 |m+1,c::r,r',s,h=>by
  unfold pQ at h
  split at h
  ·rename_i hc
   cases h
   subst hc
   exact⟨[34],rfl,rfl,rfl⟩
  ·rename_i hc
   split at h
   ·rename_i hc2
    subst hc2
    split at h
    ·cases h
    ·rename_i d y he
     obtain⟨q,h1,h2⟩:=Option.map_eq_some_iff.mp h
     cases h2
     obtain⟨v,g1,g2,g3⟩:=zfi m (s:=q.1) (r':=q.2) h1
     cases r with
     |nil=>cases he
     |cons c2 r=>
      obtain⟨w,w1,w2⟩:=escape_cut he
      obtain⟨t1,t2⟩:=text_cut w w2
      refine⟨92::c2::(w++v),by rw[w1,g1];simp,?_,?_⟩
      ·show md 1 (w++v)=0
       rw[zbd,t1];exact g2
      ·show 0+(0+cnt 40 1 (w++v))=0
       rw[zai,t1,t2,g3]
   ·rename_i hc2
    obtain⟨q,h1,h2⟩:=Option.map_eq_some_iff.mp h
    cases h2
    obtain⟨v,g1,g2,g3⟩:=zfi m (s:=q.1) (r':=q.2) h1
    obtain⟨t1,t2⟩:=text_cut [c] (by intro x hx;rw[List.mem_singleton.mp hx];exact⟨hc,hc2⟩)
    refine⟨[c]++v,by rw[g1];rfl,?_,?_⟩
    ·rw[zbd,t1];exact g2
    ·rw[zai,t1,t2,g3]
theorem name_plain{c:Nat}(h:inS sName c=true):c≠34∧c≠40:=by
 constructor<;>(rintro rfl;revert h;decide+kernel)
theorem fig_plain{c:Nat}(h:inS sFig c=true):c≠34∧c≠40:=by
 constructor<;>(rintro rfl;revert h;decide+kernel)
theorem blank_plain{c:Nat}(h:inS zag c=true):c≠34∧c≠40:=by
 constructor<;>(rintro rfl;revert h;decide+kernel)
theorem one_plain:inS sOne 34=false:=by decide+kernel
structure TC(r r':List Nat)(k:TK):Prop where
 h:∃u,r=u++r'∧md 0 u=0∧cnt 40 0 u=(if isP k=true then 1 else 0)
theorem zf0{p:Nat→Bool}(hp:∀c,p c=true→c≠34∧c≠40)(r:List Nat){k:TK}(hk:isP k=false):TC r (r.dropWhile p) k:=by
 refine⟨r.takeWhile p,List.takeWhile_append_dropWhile.symm,?_⟩
 rw[hk]
 have h:=plain_cut (r.takeWhile p) fun c hc=>hp c (List.all_eq_true.mp (List.all_takeWhile (p:=p) (l:=r)) c hc)
 exact⟨h.1,h.2⟩
theorem tc_sign{r r' w:List Nat}(h:pSign r=some (w,r')):TC r r' (.sign w):=by
 unfold pSign at h
 split at h
 ·rename_i w' hf
  cases h
  have hm:=List.mem_of_find?_eq_some hf
  have hp:=List.find?_some hf
  obtain⟨y,rfl⟩:=List.isPrefixOf_iff_prefix.mp hp
  have:∀w∈twos,md 0 w=0∧cnt 40 0 w=0∧isP (.sign w)=false:=by decide
  obtain⟨a1,a2,a3⟩:=this _ hm
  refine⟨w,by simp,a1,by rw[a2,a3];rfl⟩
 ·cases r with
  |nil=>cases h
  |cons c r1=>
   dsimp only at h
   by_cases hc:inS sOne c=true
   ·rw[if_pos hc]at h
    have h34:c≠34:=by
     rintro rfl
     rw[one_plain]at hc;cases hc
    injection h with h
    injection h with h1 h2
    subst h1 h2
    refine⟨[c],rfl,?_,?_⟩
    ·show stp 0 c=0
     unfold stp;rw[if_pos rfl,if_neg h34]
    ·show(if 0=0∧c=40 then 1 else 0)+0=(if(([c]:List Nat)==[40])=true then 1 else 0)
     by_cases q:c=40
     ·subst q;rfl
     ·rw[if_neg (fun z=>q z.2),if_neg (by simpa using q)]
   ·rw[if_neg hc]at h;cases h
theorem tok_cut{r r':List Nat}{k:TK}(h:pTok r=some (k,r')):TC r r' k:=by
 cases r with
 |nil=>cases h
 |cons c r=>
  unfold pTok at h
  dsimp only at h
  by_cases q1:inS sName c=true∧inS sFig c=false
  ·rw[if_pos q1]at h
   cases h
   exact zf0 (fun c=>name_plain) _ rfl
  rw[if_neg q1]at h
  by_cases q2:inS sFig c=true
  ·rw[if_pos q2]at h
   cases hp:pInt ((c::r).takeWhile (inS sFig))with
   |none=>rw[hp]at h;cases h
   |some v=>
    rw[hp]at h
    dsimp only at h
    by_cases q3:512<bits v
    ·rw[if_pos q3]at h;cases h
    ·rw[if_neg q3]at h
     cases h
     exact zf0 (fun c=>fig_plain) _ rfl
  rw[if_neg q2]at h
  by_cases q3:c=34
  ·rw[if_pos q3]at h
   obtain⟨q,h1,h2⟩:=Option.map_eq_some_iff.mp h
   cases h2
   subst q3
   obtain⟨v,g1,g2,g3⟩:=zfi _ (s:=q.1) (r':=q.2) h1
   refine⟨34::v,by rw[g1];rfl,g2,?_⟩
   show 0+cnt 40 1 v=0
   rw[g3]
  rw[if_neg q3]at h
  by_cases q4:c=36
  ·rw[if_pos q4]at h
   subst q4
   cases r with
   |nil=>cases h
   |cons d y=>
    unfold zce at h
    dsimp only at h
    by_cases q5:d=36
    ·rw[if_pos q5]at h;cases h;subst q5
     exact⟨[36,36],rfl,rfl,rfl⟩
    ·rw[if_neg q5]at h
     by_cases q6:inS sFig d=true
     ·rw[if_pos q6]at h
      obtain⟨q,h1,h2⟩:=Option.map_eq_some_iff.mp h
      cases h2
      obtain⟨u,u1,u2,u3⟩:=(zf0 (p:=inS sFig) (fun c=>fig_plain) (d::y) (k:= .arg q) rfl).h
      refine⟨36::u,congrArg (36:: ·) u1,u2,?_⟩
      show 0+cnt 40 0 u=_
      rw[u3];rfl
     ·rw[if_neg q6]at h;cases h
  ·rw[if_neg q4]at h
   obtain⟨q,h1,h2⟩:=Option.map_eq_some_iff.mp h
   cases h2
   exact tc_sign h1
theorem blanks_cut(r:List Nat):cnt 40 0 (r.dropWhile (inS zag))=cnt 40 0 r:=by
 obtain⟨u,u1,u2,u3⟩:=(zf0 (p:=inS zag) (fun c=>blank_plain) r (k:= .fin) rfl).h
 have h:cnt 40 0 r=cnt 40 0 (u++r.dropWhile (inS zag)):=congrArg (cnt 40 0) u1
 rw[h,zai,u2,u3]
 show _=0+_
 rw[Nat.zero_add]
theorem scan_count:∀(m:Nat)(r:List Nat)(ts:List TK),pS m r=some ts→cp ts=cnt 40 0 r
 |0,_,_,h=>by cases h
 |m+1,[],ts,h=>by cases h;rfl
 |m+1,c::r,ts,h=>by
  rw[pS]at h
  cases he:pTok (c::r)with
  |none=>rw[he]at h;cases h
  |some q=>
   obtain⟨k,r'⟩:=q
   rw[he]at h
   dsimp only at h
   obtain⟨l',h1,h2⟩:=Option.map_eq_some_iff.mp h
   subst h2
   obtain⟨u,u1,u2,u3⟩:=(tok_cut he).h
   rw[cp_cons,scan_count m _ _ h1,blanks_cut,u1,zai,u2,u3]
   lia
theorem zg9{t:List Nat}{ts:List TK}(h:pScan t=some ts):cp ts=cnt 40 0 t:=by
 rw[scan_count _ _ _ h,blanks_cut]
theorem parse_count{n:Nat}{t:List Nat}{l:List Stm}(h:zal n t= .ok l):cp (tkA l)≤cnt 40 0 t:=by
 obtain⟨ts,hs,h2⟩:=fewest (k:=isPn) rfl rfl h
 exact zg9 hs▸h2
noncomputable def WF:List TK→Prop
 | []=>False
 | [k]=>k= .fin
 |_::k::r=>WF (k::r)
theorem WF.tail{k:TK}{r:List TK}(h:WF (k::r))(hk:k≠ .fin):WF r:=by
 cases r with
 |nil=>exact absurd h hk
 |cons k2 r=>exact h
theorem WF.ne{ts:List TK}(h:WF ts):ts≠ []:=by rintro rfl;exact h
noncomputable def nest:TK→Bool
 | .sign w=>w==[40]||w==[91]||w==[123]||w==[33]||decide (lvl w≠0)
 |_=>false
noncomputable def nestn(t:TK):Nat:=if nest t=true then 1 else 0
noncomputable def kn(ts:List TK):Nat:=wt nestn ts
theorem kn_cons(k:TK)(r:List TK):kn (k::r)=kn r+(if nest k=true then 1 else 0):=Nat.add_comm _ _
theorem kn_le(k:TK)(r:List TK):kn r≤kn (k::r):=by rw[kn_cons];lia
noncomputable def Lv(ts ts':List TK):Prop:=WF ts→WF ts'∧kn ts'≤kn ts
theorem Lv.refl(ts:List TK):Lv ts ts:=fun h=>⟨h,Nat.le_refl _⟩
theorem Lv.trans{a b c:List TK}(h1:Lv a b)(h2:Lv b c):Lv a c:=fun h=>by
 obtain⟨w1,k1⟩:=h1 h
 obtain⟨w2,k2⟩:=h2 w1
 exact⟨w2,by lia⟩
theorem Lv.cons{k:TK}(hk:k≠ .fin)(r:List TK):Lv (k::r) r:=fun h=>⟨h.tail hk,kn_le k r⟩
theorem Lv.drop{s:List Nat}{ts:List TK}(h:isSg s ts=true):Lv ts (ts.drop 1):=by
 obtain⟨r,rfl⟩:=zam h
 exact Lv.cons (k:= .sign s) (fun q=>nomatch q) r
theorem Lv.sg{s:List Nat}{r:List TK}:Lv (.sign s::r) r:=Lv.cons (k:= .sign s) (fun q=>nomatch q) r
theorem Lv.nm{s:List Nat}{r:List TK}:Lv (.name s::r) r:=Lv.cons (k:= .name s) (fun q=>nomatch q) r
theorem lv_closed:Closed fun _ ts t=>Lv ts t where
 e:=fun h1 h2=>h1.trans h2
 stop:=fun _=>Lv.refl _
 go:=fun _ _ h1 h2=>Lv.sg.trans (h1.trans h2)
 one:=fun _ h=>Lv.sg.trans h
 ua:=fun _ h=>h
 num:=fun{v r}=>Lv.cons (k:= .num v) (fun q=>nomatch q) _
 text:=fun{v r}=>Lv.cons (k:= .text v) (fun q=>nomatch q) _
 arg:=fun{v r}=>Lv.cons (k:= .arg v) (fun q=>nomatch q) _
 own:=Lv.cons (k:= .own) (fun q=>nomatch q) _
 name:=fun _ _=>Lv.nm
 app:=fun _ h=>Lv.nm.trans (Lv.sg.trans h)
 lis:=fun h=>Lv.sg.trans h
 br:=fun h=>Lv.sg.trans (h.trans Lv.sg)
 nil:=Lv.sg
 some:=fun _ h=>h
 last:=fun h=>h.trans Lv.sg
 more:=fun _ h1 h2=>h1.trans (Lv.sg.trans h2)
 fin:=fun _=>Lv.refl _
 slast:=fun _ _ h=>h
 smore:=fun _ h1 h2=>h1.trans (Lv.sg.trans h2)
 bl:=fun h=>Lv.sg.trans (h.trans Lv.sg)
 co:=fun h=>Lv.sg.trans (h.trans Lv.sg)
 ife:=fun h1 h2 h3=>h1.trans (h2.trans (Lv.nm.trans h3))
 ifs:=fun _ h1 h2=>h1.trans h2
 set:=fun h=>(Lv.cons (k:= .own) (fun q=>nomatch q) _).trans (Lv.sg.trans h)
 nm:=fun _ h=>Lv.nm.trans (Lv.sg.trans h)
 word:=fun _=>Lv.nm
 cif:=fun h=>Lv.nm.trans h
 whl:=fun h1 h2=>Lv.nm.trans (h1.trans h2)
 call:=fun _ h=>h
theorem lv_all(n:Nat):So (fun _ ts t=>Lv ts t) n:=zgi lv_closed n
theorem ls_all(n:Nat):So2 (fun _ ts t=>Lv ts t) n:=so2_all lv_closed n
theorem nest_lvl{w:List Nat}(h:lvl w≠0):nest (.sign w)=true:=by
 show(w==[40]||w==[91]||w==[123]||w==[33]||decide (lvl w≠0))=true
 rw[decide_eq_true h,Bool.or_true]
theorem kn_nest{k:TK}(h:nest k=true)(r:List TK):kn (k::r)=kn r+1:=by rw[kn_cons,if_pos h]
structure Fu(k n:Nat)(ts:List TK):Prop where
 w:WF ts
 h:4*kn ts+k≤n
section
variable{α β:Type}{k j n:Nat}{ts t:List TK}{x:TK}
theorem Fu.pred(h:Fu (k+1) (n+1) ts):Fu k n ts:=⟨h.w,Nat.le_of_succ_le_succ h.h⟩
theorem Fu.weak(h:Fu k n ts)(l:j≤k):Fu j n ts:=⟨h.w,Nat.le_trans (Nat.add_le_add_left l _) h.h⟩
theorem Fu.lv(h:Fu k n ts)(l:Lv ts t):Fu k n t:=⟨(l h.w).1,Nat.le_trans (Nat.add_le_add_right (Nat.mul_le_mul_left 4 (l h.w).2) _) h.h⟩
theorem Fu.nest(h:Fu k n (x::t))(q:nest x=true)(f:x≠ .fin):Fu (k+4) n t:=⟨h.w.tail f,by
 have:=h.h
 rw[kn_nest q,Nat.mul_succ,Nat.add_right_comm]at this
 exact this⟩
theorem Fu.zero{p:Prop}(h:Fu (k+1) 0 ts):p:=absurd h.h (Nat.not_succ_le_zero _)
theorem Fu.nil{p:Prop}(h:Fu k n []):p:=absurd rfl h.w.ne
theorem okn{a:α}:Res.ok a t≠ .oof:=fun q=>nomatch q
theorem ern:(Res.err:Res α)≠ .oof:=fun q=>nomatch q
theorem ni{c:Prop} [Decidable c]{x y:Res α}(a:c→x≠ .oof)(b:¬c→y≠ .oof):(if c then x else y)≠ .oof:=fun h=>(Classical.em c).elim (fun z=>a z ((if_pos z).symm.trans h)) fun z=>b z ((if_neg z).symm.trans h)
theorem nbE(x:Res Ex){f:Ex→List TK→Res β}(h:x≠ .oof)(k:∀e t,x= .ok e t→f e t≠ .oof):(match x with| .ok e t=>f e t| .err=> .err| .oof=> .oof)≠ .oof:=by
 cases x with
 |ok e t=>exact k e t rfl
 |err=>exact ern
 |oof=>exact absurd rfl h
theorem nbS(x:Res Stm){f:Stm→List TK→Res β}(h:x≠ .oof)(k:∀e t,x= .ok e t→f e t≠ .oof):(match x with| .ok e t=>f e t| .err=> .err| .oof=> .oof)≠ .oof:=by
 cases x with
 |ok e t=>exact k e t rfl
 |err=>exact ern
 |oof=>exact absurd rfl h
theorem nbL(x:Res (List Ex)){f:List Ex→List TK→Res β}(h:x≠ .oof)(k:∀e t,x= .ok e t→f e t≠ .oof):(match x with| .ok e t=>f e t| .err=> .err| .oof=> .oof)≠ .oof:=by
 cases x with
 |ok e t=>exact k e t rfl
 |err=>exact ern
 |oof=>exact absurd rfl h
theorem nbB(x:Res (List Stm)){f:List Stm→List TK→Res β}(h:x≠ .oof)(k:∀e t,x= .ok e t→f e t≠ .oof):(match x with| .ok e t=>f e t| .err=> .err| .oof=> .oof)≠ .oof:=by
 cases x with
 |ok e t=>exact k e t rfl
 |err=>exact ern
 |oof=>exact absurd rfl h
theorem nbU{s:List Nat}{f:Unit→List TK→Res β}(w:ts≠ [])(k:∀r,ts= .sign s::r→f () r≠ .oof):(match needS s ts with| .ok e t=>f e t| .err=> .err| .oof=> .oof)≠ .oof:=by
 cases ts with
 |nil=>exact absurd rfl w
 |cons y r=>
  cases c:isSg s (y::r)with
  |true=>
   rw[show needS s (y::r)= .ok () r from if_pos c]
   exact(zam c).elim fun r1 e=>(List.cons.inj e).2▸k r1 e
  |false=>
   rw[show needS s (y::r)= .err from if_neg (by rw[c];decide)]
   exact ern
end
structure NO(n:Nat):Prop where
 e:∀{l ts},Fu 4 n ts→pE n l ts≠ .oof
 u:∀{ts},Fu 3 n ts→pU n ts≠ .oof
 a:∀{ts},Fu 2 n ts→pA n ts≠ .oof
 i:∀{s ts},Fu 5 n ts→pI n s ts≠ .oof
theorem no_loop{n:Nat}{least:Int}(hpe:∀{l ts},Fu 4 n ts→pE n l ts≠ .oof):∀(m:Nat){left:Ex}{cmp:Bool}{ts:List TK},Fu 3 n ts→ts.length+1≤m→eLoop (pE n) least m left cmp ts≠ .oof
 |0,_,_,_,_,h=>absurd h (Nat.not_succ_le_zero _)
 |m+1,left,cmp,[],w,_=>w.nil
 |m+1,left,cmp,k::r,w,hm=>ni (fun _=>okn) fun c1=>ni (fun _=>ern) fun _=>by
  cases k with
  |sign s=>
   have w1:=(w.nest (nest_lvl fun q=>c1 (.inl q)) (fun q=>nomatch q)).weak (by decide:4≤7)
   exact nbE (pE n (lvlOf (.sign s)+1) r) (hpe w1) fun y t h=>no_loop hpe m ((w1.weak (by decide)).lv ((lv_all n).e h)) (Nat.le_trans (Nat.succ_le_succ (Nat.le_of_lt (e_lt h))) (Nat.le_of_succ_le_succ hm))
  |_=>exact absurd (.inl rfl) c1
theorem no_items{n:Nat}(hpe:∀{l ts},Fu 4 n ts→pE n l ts≠ .oof)(s:List Nat):∀(m:Nat){acc:List Ex}{ts:List TK},Fu 4 n ts→ts.length+1≤m→iLoop (pE n 1) s m acc ts≠ .oof
 |0,_,_,_,h=>absurd h (Nat.not_succ_le_zero _)
 |m+1,acc,ts,w,hm=>nbE (pE n 1 ts) (hpe w) fun x t h=>ni (fun _=>okn) fun _=>by
  have w1:=w.lv ((lv_all n).e h)
  have l:=e_lt h
  cases t with
  |nil=>exact w1.nil
  |cons k r=>exact ni (fun c=>no_items hpe s m (w1.lv (Lv.drop c)) (Nat.le_trans (Nat.le_of_lt l) (Nat.le_of_succ_le_succ hm))) fun _=>ern
theorem no_u{n:Nat}(S:NO n){ts}(w:Fu 3 (n+1) ts):pU (n+1) ts≠ .oof:=ni (fun c=>by
 have:∃s r,ts= .sign s::r∧nest (.sign s)=true:=(Bool.or_eq_true_iff.mp c).elim (fun c=>(zam c).elim fun r e=>⟨_,r,e,by decide+kernel⟩) fun c=>(zam c).elim fun r e=>⟨_,r,e,by decide+kernel⟩
 obtain⟨s,r,rfl,q⟩:=this
 exact nbE (pU n r) (S.u ((w.pred.nest q (fun q=>nomatch q)).weak (by decide))) fun _ _ _=>okn) fun _=>S.a w.pred
theorem no_a{n:Nat}(S:NO n){ts}(w:Fu 2 (n+1) ts):pA (n+1) ts≠ .oof:=by
 have w:=w.pred
 cases ts with
 |nil=>exact w.nil
 |cons k r=>cases k with
  |name s=>exact ni (fun _=>ern) fun _=>ni (fun c=>by
    obtain⟨r1,rfl⟩:=zam c
    exact nbL (pI n [41] r1) (S.i ((w.lv Lv.nm).nest (by decide+kernel) (fun q=>nomatch q))) fun _ _ _=>okn) fun _=>okn
  |sign s=>exact ni (fun c=>by
    subst c
    exact nbL (pI n [93] r) (S.i (w.nest (by decide+kernel) (fun q=>nomatch q))) fun _ _ _=>okn) fun _=>ni (fun c=>by
    subst c
    have w1:=(w.nest (by decide+kernel) (fun q=>nomatch q)).weak (by decide:4≤5)
    exact nbE (pE n 1 r) (S.e w1) fun _ t h=>ni (fun _=>okn) fun _=>by
     cases t with
     |nil=>exact(w1.lv ((lv_all n).e h)).nil
     |cons=>exact ern) fun _=>ern
  |fin=>exact ern
  |_=>exact okn
theorem zgo:∀n,NO n
 |0=>⟨Fu.zero,Fu.zero,Fu.zero,Fu.zero⟩
 |n+1=>have S:=zgo n
  ⟨fun{l ts} w=>nbE (pU n ts) (S.u w.pred) fun _ _ h=>no_loop S.e _ (w.pred.lv ((lv_all n).u h)) (Nat.le_refl _),no_u S,no_a S,fun w=>ni (fun _=>okn) fun _=>no_items S.e _ _ w.pred (Nat.le_refl _)⟩
structure NS(n:Nat):Prop where
 st:∀{ts},Fu 7 n ts→pStm n ts≠ .oof
 ss:∀{ts},Fu 8 n ts→pSs n ts≠ .oof
 bl:∀{ts},Fu 5 n ts→za0 n ts≠ .oof
 co:∀{ts},Fu 5 n ts→pCond n ts≠ .oof
 ch:∀{ts},Fu 6 n ts→zb3 n ts≠ .oof
theorem no_sloop{n:Nat}(hp:∀{ts},Fu 7 n ts→pStm n ts≠ .oof):∀(m:Nat){acc:List Stm}{ts:List TK},Fu 7 n ts→ts.length+1≤m→sLoop (pStm n) m acc ts≠ .oof
 |0,_,_,_,h=>absurd h (Nat.not_succ_le_zero _)
 |m+1,acc,[],w,_=>w.nil
 |m+1,acc,k::r,w,hm=>ni (fun _=>okn) fun _=>nbS (pStm n (k::r)) (hp w) fun x t h=>ni (fun c=>by
   have w1:=w.lv ((ls_all n).st h)
   obtain⟨r1,rfl⟩:=zam c
   exact no_sloop hp m (w1.lv Lv.sg) (Nat.le_of_succ_le_succ (Nat.le_trans (Nat.succ_le_succ (Nat.le_of_lt (st_lt h))) hm))) fun _=>okn
theorem no_call{n:Nat}{ts:List TK}(w:Fu 6 n ts)(c:CallT ts):pStm (n+1) ts≠ .oof:=by
 rw[c n]
 exact nbE (pE n 1 ts) ((zgo n).e (w.weak (by decide))) fun _ _ _=>okn
theorem no_st{n:Nat}(S:NS n){ts}(w:Fu 7 (n+1) ts):pStm (n+1) ts≠ .oof:=by
 have w:=w.pred
 cases ts with
 |nil=>exact w.nil
 |cons k r=>cases k with
  |own=>
   refine ni (fun c=>?_) fun c=>?_
   ·obtain⟨r1,rfl⟩:=zam c
    exact nbE (pE n 1 r1) ((zgo n).e ((w.lv ((Lv.cons (k:= .own) (fun q=>nomatch q) _).trans Lv.sg)).weak (by decide))) fun _ _ _=>okn
   ·exact nbE (pE n 1 (.own::r)) ((zgo n).e (w.weak (by decide))) fun _ _ _=>okn
  |name s=>
   have w1:=w.lv Lv.nm
   exact ni (fun _=>okn) fun _=>ni (fun _=>S.ch w1) fun _=>ni (fun _=>nbE (pCond n r) (S.co (w1.weak (by decide))) fun _ t h=>nbB (za0 n t) (S.bl ((w1.lv ((ls_all n).co h)).weak (by decide))) fun _ _ _=>okn) fun _=>ni (fun c=>by
    obtain⟨r1,rfl⟩:=zam (Bool.and_eq_true_iff.mp c).2
    exact nbE (pE n 1 r1) ((zgo n).e ((w1.lv Lv.sg).weak (by decide))) fun _ _ _=>okn) fun _=>nbE (pE n 1 (.name s::r)) ((zgo n).e (w.weak (by decide))) fun _ _ _=>okn
  |_=>exact no_call w fun _=>rfl
theorem no_ch{n:Nat}(S:NS n){ts}(w:Fu 6 (n+1) ts):zb3 (n+1) ts≠ .oof:=by
 have w:=w.pred
 exact nbE (pCond n ts) (S.co w) fun _ t h=>by
  have w1:=w.lv ((ls_all n).co h)
  exact nbB (za0 n t) (S.bl w1) fun _ t2 h2=>by
   have w2:=w1.lv ((ls_all n).bl h2)
   cases t2 with
   |nil=>exact w2.nil
   |cons k r=>cases k with
    |name s=>exact ni (fun _=>nbB (za0 n r) (S.bl (w2.lv Lv.nm)) fun _ _ _=>okn) fun _=>okn
    |_=>exact okn
theorem ns_all:∀n,NS n
 |0=>⟨Fu.zero,Fu.zero,Fu.zero,Fu.zero,Fu.zero⟩
 |n+1=>have S:=ns_all n
  ⟨no_st S,fun w=>no_sloop S.st _ w.pred (Nat.le_refl _),fun w=>nbU w.w.ne fun r e=>by
   subst e
   have w1:=w.pred.nest (by decide+kernel) (fun q=>nomatch q)
   exact nbB (pSs n r) (S.ss w1) fun _ t h=>nbU (w1.lv ((ls_all n).ss h)).w.ne fun _ _=>okn,fun w=>nbU w.w.ne fun r e=>by
   subst e
   have w1:=w.pred.nest (by decide+kernel) (fun q=>nomatch q)
   exact nbE (pE n 1 r) ((zgo n).e (w1.weak (by decide))) fun _ t h=>nbU (w1.lv ((lv_all n).e h)).w.ne fun _ _=>okn,no_ch S⟩
theorem whole_no{n:Nat}{ts:List TK}(w:WF ts)(hn:4*kn ts+8≤n):zdc n ts≠ .oof:=
 nbB (pSs n ts) ((ns_all n).ss ⟨w,hn⟩) fun _ t h=>by
  have w1:=((ls_all n).ss h w).1
  cases t with
  |nil=>exact absurd rfl w1.ne
  |cons k r=>cases k with
   |fin=>exact okn
   |_=>exact ern
theorem pS_ne:∀(m:Nat)(r:List Nat)(ts:List TK),pS m r=some ts→ts≠ []
 |0,_,_,h=>by cases h
 |m+1,[],ts,h=>by cases h;simp
 |m+1,c::r,ts,h=>by
  rw[pS]at h
  cases he:pTok (c::r)with
  |none=>rw[he]at h;cases h
  |some q=>
   obtain⟨k,r'⟩:=q
   rw[he]at h
   dsimp only at h
   obtain⟨l',_,h2⟩:=Option.map_eq_some_iff.mp h
   subst h2;simp
theorem scan_wf:∀(m:Nat)(r:List Nat)(ts:List TK),pS m r=some ts→WF ts
 |0,_,_,h=>by cases h
 |m+1,[],ts,h=>by cases h;rfl
 |m+1,c::r,ts,h=>by
  rw[pS]at h
  cases he:pTok (c::r)with
  |none=>rw[he]at h;cases h
  |some q=>
   obtain⟨k,r'⟩:=q
   rw[he]at h
   dsimp only at h
   obtain⟨l',h1,h2⟩:=Option.map_eq_some_iff.mp h
   subst h2
   have w:=scan_wf m _ _ h1
   cases l' with
   |nil=>exact absurd rfl (pS_ne _ _ _ h1)
   |cons k2 l2=>exact w
theorem parse_no{n:Nat}{t:List Nat}(h:∀ts,pScan t=some ts→4*kn ts+8≤n):zal n t≠ .oof:=by
 unfold zal
 cases hs:pScan t with
 |none=>intro q;cases q
 |some ts=>
  dsimp only
  cases hw:zdc n ts with
  |err=>intro q;cases q
  |oof=>exact absurd hw (whole_no (scan_wf _ _ _ hs) (h ts hs))
  |ok l ts'=>intro q;cases q
theorem cut_count{x y z:List Nat}(h1:md 0 x=0)(h2:md 0 (x++[40]++y)=0):cnt 40 0 (x++[40]++y++[41]++z)=cnt 40 0 (x++y++z)+1:=by
 have hy:md 0 y=0:=by
  rw[zbd,zbd,h1]at h2
  exact h2
 simp only[zai,zbd,h1]
 have e1:md 0 [40]=0:=rfl
 have e2:md 0 [41]=0:=rfl
 have e3:cnt 40 0 [40]=1:=rfl
 have e4:cnt 40 0 [41]=0:=rfl
 rw[e1,hy,e2,e3,e4]
 omega
noncomputable def Bd(r:List Nat):Prop:=∀c y,r=c::y→inS sName c=false∧c≠61
theorem fig_name{c:Nat}(h:inS sFig c=true):inS sName c=true:=by
 rw[zg5,Bool.and_eq_true,decide_eq_true_iff,decide_eq_true_iff]at h
 have:∀c,c<58→48≤c→inS sName c=true:=by decide+kernel
 exact this c (by lia) h.1
theorem zgu{p:Nat→Bool}{s r:List Nat}(hs:∀c∈s,p c=true)(hr:∀c y,r=c::y→p c=false):(s++r).takeWhile p=s∧(s++r).dropWhile p=r:=by
 induction s with
 |nil=>
  cases r with
  |nil=>exact⟨rfl,rfl⟩
  |cons c y=>exact tw_stop (hr c y rfl)
 |cons c s ih=>
  have ih:=ih fun x hx=>hs x (.tail _ hx)
  have:=zb0 (r:=s++r) (hs c (.head _))
  exact⟨this.1.trans (congrArg (c:: ·) ih.1),this.2.trans ih.2⟩
theorem blank_name{c:Nat}(h:inS sName c=true):inS zag c=false:=by
 have h2:∀x∈zag.cps.toList,inS sName x=false:=by decide+kernel
 cases q:inS zag c with
 |false=>rfl
 |true=>
  have hm:c∈zag.cps.toList:=by
   unfold inS at q
   rw[List.contains_eq_mem]at q
   exact of_decide_eq_true q
  rw[h2 c hm]at h;cases h
theorem zcl{c:Nat}{s r:List Nat}{k:TK}(hb:inS zag c=false)(ht:pTok (c::(s++r))=some (k,r)):pScan (c::(s++r))=(pScan r).map (k:: ·):=by
 unfold pScan
 rw[(tw_stop hb).2,pSc_cons,ht]
theorem scan_name{s r:List Nat}(h:isNm s)(hr:Bd r):pScan (s++r)=(pScan r).map (.name s:: ·):=by
 obtain⟨c,y,rfl,h1,h2⟩:=h
 have h1:=List.all_eq_true.mp h1
 have hc:=h1 c (.head _)
 refine zcl (blank_name hc) ?_
 obtain⟨t1,t2⟩:=zgu (p:=inS sName) (s:=c::y) (r:=r) h1 fun d z q=>(hr d z q).1
 have t1:(c::(y++r)).takeWhile (inS sName)=c::y:=t1
 have t2:(c::(y++r)).dropWhile (inS sName)=r:=t2
 unfold pTok
 dsimp only
 rw[if_pos ⟨hc,h2⟩,t1,t2]
theorem zd5(r:List Nat):pScan (32::r)=pScan r:=by
 unfold pScan
 rw[(zb0 (p:=inS zag) (c:=32) (by decide+kernel)).2]
theorem scan_own(r:List Nat):pScan (36::36::r)=(pScan r).map (.own:: ·):=by
 refine zcl (s:=[36]) (by decide+kernel) ?_
 show pTok (36::36::r)=_
 unfold pTok
 dsimp only
 rw[if_neg (by decide+kernel),if_neg (by decide+kernel),if_neg (by decide),if_pos rfl]
 rfl
theorem fig_hex:∀k,k<16→inS sHex (fig k)=true∧hexv (fig k)=k:=by decide+kernel
theorem esc_step{c:Nat}{r:List Nat}:∃w,esc c=92::w∧zar (w++r)=some (c,r)∨(esc c=[c]∧c≠34∧c≠92):=by
 unfold esc
 by_cases h1:c=10
 ·subst h1;exact⟨[110], .inl ⟨rfl,by rw[List.singleton_append,za8,show zbi 110=some 10 by decide+kernel];rfl⟩⟩
 rw[if_neg h1]
 by_cases h2:c=9
 ·subst h2;exact⟨[116], .inl ⟨rfl,by rw[List.singleton_append,za8,show zbi 116=some 9 by decide+kernel];rfl⟩⟩
 rw[if_neg h2]
 by_cases h3:c=34∨c=92
 ·rw[if_pos h3]
  refine⟨[c], .inl ⟨rfl,?_⟩⟩
  have hp:zbi c=none∧inS sOct c=false∧c≠120:=by
   rcases h3 with rfl|rfl<;>decide+kernel
  rw[List.singleton_append,za8,hp.1]
  dsimp only
  rw[if_neg (by rw[hp.2.1];decide)]
  cases r with
  |nil=>rfl
  |cons d r=>dsimp only;rw[if_neg (fun q=>hp.2.2 q.1)]
 rw[if_neg h3]
 by_cases h4:(c<32∨126<c)∧c<256
 ·rw[if_pos h4]
  refine⟨[120,fig (c/16),fig (c % 16)], .inl ⟨rfl,?_⟩⟩
  have a:=fig_hex (c/16) (by lia)
  have b:=fig_hex (c % 16) (by lia)
  show zar (120::fig (c/16)::fig (c % 16)::r)=_
  rw[za8,show zbi 120=none by decide+kernel]
  dsimp only
  rw[if_neg (by decide+kernel),if_pos ⟨rfl,a.1⟩,zao,if_pos a.1,zao,if_pos b.1,zao,a.2,b.2]
  congr 2
  lia
 ·rw[if_neg h4]
  exact⟨[], .inr ⟨rfl,fun q=>h3 (.inl q),fun q=>h3 (.inr q)⟩⟩
theorem pQ_escs:∀(s:List Nat)(m:Nat)(r:List Nat),s.length<m→pQ 34 m (escs s++34::r)=some (s,r)
 | [],m,r,h=>by
  obtain⟨m,rfl⟩:∃m',m=m'+1:=⟨m-1,by lia⟩
  rfl
 |c::s,m,r,h=>by
  obtain⟨m,rfl⟩:∃m',m=m'+1:=⟨m-1,by lia⟩
  rw[List.length_cons]at h
  have ih:=pQ_escs s m r (by lia)
  rw[escs,List.append_assoc]
  obtain⟨w,⟨e1,e2⟩|⟨e1,e2,e3⟩⟩:=esc_step (c:=c) (r:=escs s++34::r)
  ·rw[e1]
   show pQ 34 (m+1) (92::(w++(escs s++34::r)))=_
   rw[pQ,if_neg (by decide),if_pos rfl,e2]
   dsimp only
   rw[ih];rfl
  ·rw[e1]
   show pQ 34 (m+1) (c::(escs s++34::r))=_
   rw[pQ,if_neg e2,if_neg e3,ih];rfl
theorem scan_text(s r:List Nat):pScan (34::(escs s++34::r))=(pScan r).map (.text s:: ·):=by
 have e0:34::(escs s++34::r)=34::((escs s++[34])++r):=by simp
 rw[e0]
 refine zcl (by decide+kernel) ?_
 have e1:(escs s++[34])++r=escs s++34::r:=by simp
 rw[e1]
 unfold pTok
 dsimp only
 rw[if_neg (by decide+kernel),if_neg (by decide+kernel),if_pos rfl]
 unfold zay
 rw[pQ_escs s _ r (by have:=zfx s;rw[List.length_append];lia)]
 rfl
theorem zdy{v:Int}(h0:0≤v):PySem.NumText.AllDigits (dec v)∧dec v≠ []∧PySem.NumText.digitsVal (dec v)=v.natAbs:=by
 obtain⟨m,rfl⟩:=Int.eq_ofNat_of_zero_le h0
 unfold dec
 rw[KIN.signs_num]
 refine⟨fun c hc=>?_,fun e=>?_,KIN.val_back m⟩
 ·obtain⟨ch,hch,e⟩:=List.mem_map.mp hc
  have r:=PyProof.Rows.digit_range (Nat.isDigit_of_mem_toDigits (by decide) (by decide) hch)
  rw[←e]
  exact r
 ·have h:=toDigits_len_ge 10 m
  rw[List.map_eq_nil_iff.mp e]at h
  exact absurd h (by decide)
theorem zed{v:Int}(h0:0≤v):(∀c∈dec v,inS sFig c=true)∧∃c y,dec v=c::y:=by
 obtain⟨h1,h2,_⟩:=zdy h0
 refine⟨fun c hc=>?_,?_⟩
 ·rw[zg5,Bool.and_eq_true,decide_eq_true_iff,decide_eq_true_iff];exact h1 c hc
 ·cases q:dec v with
  |nil=>exact absurd q h2
  |cons c y=>exact⟨c,y,rfl⟩
theorem dec_int{v:Int}(h0:0≤v)(hl:(dec v).length≤4300):PySem.intText? (tx (dec v))=some v:=by
 obtain⟨h1,h2,h3⟩:=zdy h0
 have h:=PySem.intText_digits (x:=tx (dec v)) (by rw[zah];exact h1) (by rw[zah];exact h2) (by rw[zcb];exact hl)
 rw[zah,h3]at h
 rw[h]
 congr 1
 lia
theorem Bd.fig{r:List Nat}(hr:Bd r):∀c y,r=c::y→inS sFig c=false:=fun c y q=>by
 cases f:inS sFig c with
 |false=>rfl
 |true=>have:=(hr c y q).1;rw[fig_name f]at this;cases this
theorem scan_num{v:Int}{r:List Nat}(h0:0≤v)(hb:bits v≤512)(hl:(dec v).length≤4300)(hr:Bd r):pScan (dec v++r)=(pScan r).map (.num v:: ·):=by
 obtain⟨h1,c,y,e⟩:=zed h0
 have hi:=dec_int h0 hl
 rw[e]at h1 hi ⊢
 have hc:=h1 c (.head _)
 refine zcl (blank_name (fig_name hc)) ?_
 obtain⟨t1,t2⟩:=zgu (p:=inS sFig) (s:=c::y) (r:=r) h1 hr.fig
 have t1:(c::(y++r)).takeWhile (inS sFig)=c::y:=t1
 have t2:(c::(y++r)).dropWhile (inS sFig)=r:=t2
 unfold pTok
 dsimp only
 rw[if_neg (fun q=>by rw[hc]at q;cases q.2),if_pos hc,t1,t2]
 unfold pInt
 rw[hi]
 dsimp only
 rw[if_neg (by lia)]
theorem fig36{c:Nat}(h:inS sFig c=true):c≠36:=fun q=>by rw[q]at h;revert h;decide+kernel
theorem scan_arg{v:Int}{r:List Nat}(h0:0≤v)(hl:(dec v).length≤4300)(hr:Bd r):pScan (36::(dec v++r))=(pScan r).map (.arg v:: ·):=by
 obtain⟨h1,c,y,e⟩:=zed h0
 have hi:=dec_int h0 hl
 refine zcl (by decide+kernel) ?_
 obtain⟨t1,t2⟩:=zgu (p:=inS sFig) (s:=dec v) (r:=r) h1 hr.fig
 unfold pTok
 dsimp only
 rw[if_neg (by decide+kernel),if_neg (by decide+kernel),if_neg (by decide),if_pos rfl]
 refine(dollar_arg (v:=v) ?_ ?_ ?_).trans ?_
 ·intro z q
  rw[e]at q h1
  injection q with q1
  exact fig36 (h1 c (.head _)) q1
 ·rw[t1,e];intro q;cases q
 ·rw[t1];exact hi
 ·rw[t2]
theorem inS_one{c:Nat}:inS sOne c=true→c∈[43,45,42,47,37,33,60,62,61,59,44,40,41,123,125,91,93]:=by
 intro h
 have e:sOne.cps.toList=[43,45,42,47,37,33,60,62,61,59,44,40,41,123,125,91,93]:=by decide+kernel
 unfold inS at h
 rw[e]at h
 exact List.contains_iff_mem.mp h
theorem pSign_one{c:Nat}{r:List Nat}(hc:inS sOne c=true)(h:∀y,r=61::y→c∉ [61,33,60,62]):pSign (c::r)=some ([c],r):=by
 have hm:=inS_one hc
 have hn:(twos.find? fun w=>w.isPrefixOf (c::r))=none:=by
  rw[List.find?_eq_none]
  intro w hw q
  have hw:w=[124,124]∨w=[38,38]∨w=[61,61]∨w=[33,61]∨w=[60,61]∨w=[62,61]:=by simpa [twos]using hw
  have key:∀a b,List.isPrefixOf [a,b] (c::r)=true→a=c∧∃y,r=b::y:=by
   intro a b q
   have q:(a==c&&List.isPrefixOf [b] r)=true:=q
   rw[Bool.and_eq_true]at q
   refine⟨beq_iff_eq.mp q.1,?_⟩
   cases r with
   |nil=>cases q.2
   |cons d y=>
    have q2:(b==d&&List.isPrefixOf [] y)=true:=q.2
    rw[Bool.and_eq_true]at q2
    exact⟨y,by rw[beq_iff_eq.mp q2.1]⟩
  rcases hw with rfl|rfl|rfl|rfl|rfl|rfl
  ·obtain⟨rfl,_⟩:=key _ _ q;revert hm;decide
  ·obtain⟨rfl,_⟩:=key _ _ q;revert hm;decide
  all_goals (obtain⟨rfl,y,e⟩:=key _ _ q;exact absurd (h y e) (by decide))
 unfold pSign
 rw[hn]
 dsimp only
 rw[if_pos hc]
theorem zfr{c:Nat}{s r w:List Nat}(hc:c∈[43,45,42,47,37,33,60,62,61,59,44,40,41,123,125,91,93,124,38])(h:pSign (c::(s++r))=some (w,r)):pScan (c::(s++r))=(pScan r).map (.sign w:: ·):=by
 have h1:inS zag c=false∧inS sName c=false∧inS sFig c=false∧c≠34∧c≠36:=by
  have:∀c∈[43,45,42,47,37,33,60,62,61,59,44,40,41,123,125,91,93,124,38],inS zag c=false∧inS sName c=false∧inS sFig c=false∧c≠34∧c≠36:=by decide+kernel
  exact this c hc
 obtain⟨b1,b2,b3,b4,b5⟩:=h1
 refine zcl b1 ?_
 unfold pTok
 dsimp only
 rw[if_neg (by rw[b2];intro q;cases q.1),if_neg (by rw[b3];decide),if_neg b4,if_neg b5,h]
 rfl
theorem scan_one{c:Nat}{r:List Nat}(hc:inS sOne c=true)(h:∀y,r=61::y→c∉ [61,33,60,62]):pScan (c::r)=(pScan r).map (.sign [c]:: ·):=by
 have hm:=inS_one hc
 refine zfr (s:=[]) ?_ (pSign_one hc h)
 have:∀c∈[43,45,42,47,37,33,60,62,61,59,44,40,41,123,125,91,93],c∈[43,45,42,47,37,33,60,62,61,59,44,40,41,123,125,91,93,124,38]:=by decide
 exact this c hm
theorem scan_two:∀w∈twos,∀r,pScan (w++r)=(pScan r).map (.sign w:: ·):=by
 intro w hw r
 have hw:w=[124,124]∨w=[38,38]∨w=[61,61]∨w=[33,61]∨w=[60,61]∨w=[62,61]:=by simpa [twos]using hw
 rcases hw with rfl|rfl|rfl|rfl|rfl|rfl
 all_goals exact zfr (s:=[_]) (by decide) rfl
noncomputable def Sq(P:List Nat→Prop)(x:List Nat)(ts:List TK):Prop:=∀r,P r→pScan (x++r)=(pScan r).map (ts++ ·)
theorem Sq.comp{P Q:List Nat→Prop}{x y:List Nat}{ts us:List TK}(h:Sq P x ts)(g:Sq Q y us)(k:∀r,Q r→P (y++r)):Sq Q (x++y) (ts++us):=by
 intro r hr
 rw[List.append_assoc,h _ (k r hr),g r hr,Option.map_map]
 congr 1
 funext z
 show ts++(us++z)=_
 rw[List.append_assoc]
noncomputable abbrev An(_:List Nat):Prop:=True
theorem Sq.any{P:List Nat→Prop}{x:List Nat}{ts:List TK}(h:Sq An x ts):Sq P x ts:=fun r _=>h r trivial
theorem Sq.one{c:Nat}(hc:inS sOne c=true)(h:c∉ [61,33,60,62]):Sq An [c] [.sign [c]]:=fun r _=>scan_one hc fun _ _=>h
theorem Sq.blank{x:List Nat}{P:List Nat→Prop}{ts:List TK}(h:Sq P x ts):Sq P (32::x) ts:=fun r hr=>by
 rw[List.cons_append,zd5];exact h r hr
theorem Sq.nil(P:List Nat→Prop):Sq P [] []:=fun r _=>by
 show pScan r=_
 cases pScan r<;>rfl
theorem bd_of{c:Nat}(h:inS sName c=false∧c≠61)(r:List Nat):Bd (c::r):=fun d y q=>by
 injection q with q1;rw[←q1];exact h
theorem bd_32(r:List Nat):Bd (32::r):=bd_of (by decide+kernel) r
theorem bd_41(r:List Nat):Bd (41::r):=bd_of (by decide+kernel) r
theorem bd_40(r:List Nat):Bd (40::r):=bd_of (by decide+kernel) r
theorem bd_44(r:List Nat):Bd (44::r):=bd_of (by decide+kernel) r
theorem bd_59(r:List Nat):Bd (59::r):=bd_of (by decide+kernel) r
theorem bd_93(r:List Nat):Bd (93::r):=bd_of (by decide+kernel) r
theorem bd_nil:Bd []:=fun _ _ q=>nomatch q
theorem Sq.op{s:List Nat}(hs:s∈ops∨s=[38,38]∨s=[124,124]):Sq An ([32]++s++[32]) [.sign s]:=by
 intro r _
 have e:([32]++s++[32])++r=32::(s++32::r):=by simp
 rw[e,zd5]
 have key:s∈twos∨∃c,s=[c]∧inS sOne c=true:=by
  have h1:∀s∈ops,s∈twos∨(∃c∈[43,45,42,47,37,60,62],s=[c]):=by decide+kernel
  have h2:∀c∈[43,45,42,47,37,60,62],inS sOne c=true:=by decide+kernel
  rcases hs with hs|rfl|rfl
  ·rcases h1 s hs with h|⟨c,hc,h⟩
   ·exact .inl h
   ·exact .inr ⟨c,h,h2 c hc⟩
  ·exact .inl (by decide)
  ·exact .inl (by decide)
 rcases key with h|⟨c,rfl,hc⟩
 ·rw[scan_two s h,zd5];rfl
 ·show pScan (c::(32::r))=_
  rw[scan_one hc (fun y q=>by cases q),zd5];rfl
noncomputable def Hs(x:List Nat):Prop:=∃c y,x=c::y∧c≠61
theorem Hs.app{x:List Nat}(h:Hs x)(z:List Nat):Hs (x++z):=by
 obtain⟨c,y,rfl,h⟩:=h;exact⟨c,y++z,rfl,h⟩
theorem Hs.brk{x:List Nat}(h:Hs x)(b:Bool):Hs (brk b x):=by
 cases b
 ·exact⟨40,_,rfl,by decide⟩
 ·exact h
theorem name61{c:Nat}(h:inS sName c=true):c≠61:=fun q=>by rw[q]at h;revert h;decide+kernel
theorem hs_nm{s:List Nat}(h:isNm s):Hs s:=by
 obtain⟨c,y,rfl,h1,_⟩:=h
 exact⟨c,y,rfl,name61 (List.all_eq_true.mp h1 c (.head _))⟩
theorem hsE(e:Ex):VE e→Hs (shE e):=Ex.rec (motive_1:=fun e=>VE e→Hs (shE e)) (motive_2:=fun _=>True)
 (fun v h=>by
  obtain⟨h1,c,y,e⟩:=zed h.1
  exact⟨c,y,e,name61 (fig_name (h1 c (e▸ .head _)))⟩)
 (fun s _=>⟨34,_,rfl,by decide⟩) (fun v _=>⟨36,_,rfl,by decide⟩) (fun _=>⟨36,_,rfl,by decide⟩) (fun s h=>hs_nm h.1)
 (fun w l _ h=>(((hs_nm h.1.1).app _).app _).app _) (fun l _ _=>⟨91,_,rfl,by decide⟩)
 (fun s e _ h=>by
  rcases h.1 with rfl|rfl
  ·exact⟨45,_,rfl,by decide⟩
  ·exact⟨33,_,rfl,by decide⟩)
 (fun s a b A _ h=>(((((A h.2.1).brk _).app _).app _).app _).app _) (fun a b A _ h=>(((((A h.1).brk _).app _).app _).app _).app _) (fun a b A _ h=>(((((A h.1).brk _).app _).app _).app _).app _) trivial (fun _ _ _ _=>trivial) e
theorem Sq.cons{P:List Nat→Prop}{c:Nat}{x:List Nat}{ts:List TK}(hc:inS sOne c=true)(h:c∉ [61,33,60,62]∨Hs x)(g:Sq P x ts):Sq P (c::x) (.sign [c]::ts):=by
 intro r hr
 show pScan (c::(x++r))=_
 rw[scan_one hc,g r hr,Option.map_map]
 ·rfl
 ·intro y q
  rcases h with h|⟨d,z,rfl,h⟩
  ·exact h
  ·injection q with q1;exact absurd q1 h
theorem Sq.snoc{c:Nat}{x:List Nat}{ts:List TK}(g:Sq Bd x ts)(h:inS sOne c=true)(h2:c∉ [61,33,60,62])(h3:inS sName c=false):Sq An (x++[c]) (ts++[.sign [c]]):=
 g.comp (.one h h2) fun r _=>bd_of ⟨h3,fun q=>h2 (by rw[q];decide)⟩ r
theorem Sq.brk{x:List Nat}{ts:List TK}(g:Sq Bd x ts)(b:Bool):Sq Bd (brk b x) (pk b ts):=by
 cases b
 ·rw[pk_false]
  show Sq Bd ([40]++x++[41]) _
  rw[List.append_assoc]
  exact .cons (by decide+kernel) (.inl (by decide)) (g.snoc (by decide+kernel) (by decide) (by decide+kernel)).any
 ·exact g
theorem Sq.op2{x y s:List Nat}{ts us:List TK}(hs:s∈ops∨s=[38,38]∨s=[124,124])(g:Sq Bd x ts)(k:Sq Bd y us):Sq Bd (x++[32]++s++[32]++y) (ts++ .sign s::us):=by
 rw[List.append_assoc x,List.append_assoc x,List.append_assoc x]
 exact g.comp ((Sq.op hs).comp k fun _ _=>trivial) fun r _=>bd_32 _
theorem Sq.name{s:List Nat}(h:isNm s):Sq Bd s [.name s]:=fun r hr=>by rw[scan_name h hr];rfl
theorem app_l{x y:List Nat}{n:Nat}(h:(x++y).length≤n):x.length≤n:=Nat.le_trans (by rw[List.length_append];exact Nat.le_add_right _ _) h
theorem app_r{x y:List Nat}{n:Nat}(h:(x++y).length≤n):y.length≤n:=Nat.le_trans (by rw[List.length_append];exact Nat.le_add_left _ _) h
theorem brk_l{x:List Nat}{b:Bool}{n:Nat}(h:(brk b x).length≤n):x.length≤n:=Nat.le_trans (zgq b x).1 h
theorem as4(x y z u:List Nat):x++y++z++u=x++(y++(z++u)):=by rw[List.append_assoc,List.append_assoc]
theorem cl_ok{d:Nat}(hd:d=41∨d=93):inS sOne d=true∧d∉ [61,33,60,62]∧inS sName d=false:=by rcases hd with rfl|rfl<;>decide+kernel
theorem one_ok{c:Nat}{x:List Nat}{ts:List TK}{P:List Nat→Prop}(h:c=40∨c=91∨c=44∨c=45)(g:Sq P x ts):Sq P (c::x) (.sign [c]::ts):=by
 rcases h with rfl|rfl|rfl|rfl<;>exact .cons (by decide+kernel) (.inl (by decide)) g
theorem scE(e:Ex):VE e→(shE e).length≤4300→Sq Bd (shE e) (tkE e):=Ex.rec (motive_1:=fun e=>VE e→(shE e).length≤4300→Sq Bd (shE e) (tkE e)) (motive_2:=fun l=>VEs l→(joinL [44,32] (shEs l)).length≤4300→∀d,d=41∨d=93→Sq An (joinL [44,32] (shEs l)++[d]) (zat (tkEs l)++[TK.sign [d]]))
 (fun v h hl r hr=>scan_num h.1 h.2 hl hr)
 (fun s _ _ r _=>by
  show pScan (34::((escs s++[34])++r))=_
  rw[List.append_assoc]
  exact scan_text s r)
 (fun v h hl r hr=>scan_arg h (app_r (x:=[36]) hl) hr) (fun _ _ r _=>scan_own r) (fun s h _=> .name h.1)
 (fun w l A h hl=>by
  show Sq Bd (w++[40]++joinL [44,32] (shEs l)++[41]) _
  rw[as4]
  exact(Sq.name h.1.1).comp (us:= .sign [40]::(zat (tkEs l)++[.sign [41]])) (one_ok (.inl rfl) (A h.2 (app_r (app_l (y:=[41]) hl)) 41 (.inl rfl)).any) fun r _=>bd_40 _)
 (fun l A h hl=>one_ok (.inr (.inl rfl)) (A h (app_r (x:=[91]) (app_l (y:=[93]) hl)) 93 (.inr rfl)).any)
 (fun s e A h hl=>by
  have ih:=(A h.2 (brk_l (app_r (x:=s) hl))).brk (decide (6≤lev e))
  rcases h.1 with rfl|rfl
  ·exact one_ok (.inr (.inr (.inr rfl))) ih
  ·exact .cons (by decide+kernel) (.inr ((hsE e h.2).brk _)) ih)
 (fun s a b A B h hl=> .op2 (.inl h.1) ((A h.2.1 (brk_l (app_l (app_l (app_l (app_l hl)))))).brk _) ((B h.2.2 (brk_l (app_r hl))).brk _))
 (fun a b A B h hl=> .op2 (.inr (.inl rfl)) ((A h.1 (brk_l (app_l (app_l (app_l (app_l hl)))))).brk _) ((B h.2 (brk_l (app_r hl))).brk _))
 (fun a b A B h hl=> .op2 (.inr (.inr rfl)) ((A h.1 (brk_l (app_l (app_l (app_l (app_l hl)))))).brk _) ((B h.2 (brk_l (app_r hl))).brk _))
 (fun _ _ d hd=>(.one (cl_ok hd).1 (cl_ok hd).2.1:Sq An [d] [.sign [d]]))
 (fun e l A B h hl d hd=>by
  cases l with
  |nil=>exact(A h.1 hl).snoc (cl_ok hd).1 (cl_ok hd).2.1 (cl_ok hd).2.2
  |cons f r=>
   show Sq An (shE e++[44,32]++joinL [44,32] (shEs (f::r))++[d]) ((tkE e++ .sign [44]::zat (tkEs (f::r)))++[.sign [d]])
   rw[as4,List.append_assoc]
   exact(A h.1 (app_l (app_l hl))).comp (one_ok (.inr (.inr (.inl rfl))) (B h.2 (app_r hl) d hd).blank) fun r _=>bd_44 _)
 e
noncomputable def Ro{α:Type}(x:Res α)(a:α)(t:List TK):Prop:=x≠ .oof→x= .ok a t
section
variable{α β:Type}{a:α}{b:β}{ts t t1:List TK}
theorem ron{F:Nat→Res α}(z:F 0= .oof)(s:∀n,Ro (F (n+1)) a t):∀n,Ro (F n) a t:=fun n=>Nat.casesOn n (fun q=>absurd z q) s
theorem rop{c:Prop} [Decidable c]{x y:Res α}(k:c)(h:Ro x a t):Ro (if c then x else y) a t:=(if_pos k).symm▸h
theorem roq{c:Prop} [Decidable c]{x y:Res α}(k:¬c)(h:Ro y a t):Ro (if c then x else y) a t:=(if_neg k).symm▸h
theorem rok:Ro (.ok a t) a t:=fun _=>rfl
theorem ze1{p:Prop}{x:Res α}(h:Ro x a t)(o:x= .ok a t→p)(f:x= .oof→p):p:=(Classical.em (x= .oof)).elim f fun q=>o (h q)
theorem roE{a:Ex}(x:Res Ex){f:Ex→List TK→Res β}(h:Ro x a t1)(k:Ro (f a t1) b t):Ro (match x with| .ok e t=>f e t| .err=> .err| .oof=> .oof) b t:=ze1 h (fun q=>q▸k) fun q z=>absurd (q▸rfl) z
theorem roL{a:List Ex}(x:Res (List Ex)){f:List Ex→List TK→Res β}(h:Ro x a t1)(k:Ro (f a t1) b t):Ro (match x with| .ok e t=>f e t| .err=> .err| .oof=> .oof) b t:=ze1 h (fun q=>q▸k) fun q z=>absurd (q▸rfl) z
theorem roS{a:Stm}(x:Res Stm){f:Stm→List TK→Res β}(h:Ro x a t1)(k:Ro (f a t1) b t):Ro (match x with| .ok e t=>f e t| .err=> .err| .oof=> .oof) b t:=ze1 h (fun q=>q▸k) fun q z=>absurd (q▸rfl) z
theorem roB{a:List Stm}(x:Res (List Stm)){f:List Stm→List TK→Res β}(h:Ro x a t1)(k:Ro (f a t1) b t):Ro (match x with| .ok e t=>f e t| .err=> .err| .oof=> .oof) b t:=ze1 h (fun q=>q▸k) fun q z=>absurd (q▸rfl) z
end
noncomputable def RunP:J→List TK→List TK→Prop
 | .e l x,ts,t=>∀n,Ro (pE n l ts) x t
 | .u x,ts,t=>∀n,Ro (pU n ts) x t
 | .a x,ts,t=>∀n,Ro (pA n ts) x t
 | .i s l,ts,t=>∀n,Ro (pI n s ts) l t
 | .lp l y c x,ts,t=>∀n m,Ro (eLoop (pE n) l m y c ts) x t
 | .it s a l,ts,t=>∀n m,Ro (iLoop (pE n 1) s m a ts) l t
 | .sl a l,ts,t=>∀n m,Ro (sLoop (pStm n) m a ts) l t
 | .bl l,ts,t=>∀n,Ro (za0 n ts) l t
 | .co x,ts,t=>∀n,Ro (pCond n ts) x t
 | .ch s,ts,t=>∀n,Ro (zb3 n ts) s t
 | .st s,ts,t=>∀n,Ro (pStm n ts) s t
theorem sg_self(s:List Nat)(r:List TK):isSg s (.sign s::r)=true:=beq_self_eq_true s
theorem word_not:∀s∈zbh,s≠ifL∧s≠za7:=by decide+kernel
theorem kw_not:zbh.contains ifL=false∧zbh.contains za7=false∧za7≠ifL:=by decide+kernel
theorem run_closed:Closed RunP where
 e:=fun{l x y ts t1 t} h1 h2=>ron rfl fun n=>roE (pU n ts) (h1 n) (h2 n _)
 stop:=fun c n=>ron rfl fun _=>rop c rok
 go:=fun{l x c y z w r t1 t} c1 c2 h1 h2 n=>ron rfl fun m=>roq c1 (roq c2 (roE (pE n (lvl w+1) r) (h1 n) (h2 n m)))
 one:=fun{w x r t} hw h=>ron rfl fun n=>rop (Bool.or_eq_true_iff.mpr (hw.imp (fun q=>beq_iff_eq.mpr q) fun q=>beq_iff_eq.mpr q)) (roE (pU n r) (h n) rok)
 ua:=fun c h=>ron rfl fun n=>roq (Bool.eq_false_iff.mp c) (h n)
 num:=ron rfl fun _=>rok
 text:=ron rfl fun _=>rok
 arg:=ron rfl fun _=>rok
 own:=ron rfl fun _=>rok
 name:=fun c d=>ron rfl fun _=>roq (Bool.eq_false_iff.mp c) (roq (Bool.eq_false_iff.mp d) rok)
 app:=fun{s l r t} c h=>ron rfl fun n=>roq (Bool.eq_false_iff.mp c) (rop rfl (roL (pI n [41] r) (h n) rok))
 lis:=fun{l r t} h=>ron rfl fun n=>roL (pI n [93] r) (h n) rok
 br:=fun{x r t} h=>ron rfl fun n=>roE (pE n 1 r) (h n) (rop rfl rok)
 nil:=fun{s r}=>ron rfl fun _=>rop (sg_self s r) rok
 some:=fun c h=>ron rfl fun n=>roq (Bool.eq_false_iff.mp c) (h n _)
 last:=fun{s m x ts t} h n=>ron rfl fun _=>roE (pE n 1 ts) (h n) (rop (sg_self s t) rok)
 more:=fun{s m x l ts t1 t} c h1 h2 n=>ron rfl fun k=>roE (pE n 1 ts) (h1 n) (roq (fun q=>c (beq_iff_eq.mp q).symm) (rop rfl (h2 n k)))
 fin:=fun c _=>ron rfl fun _=>rop c rok
 slast:=fun{m x k r t} c d h n=>ron rfl fun _=>roq (Bool.eq_false_iff.mp c) (roS (pStm n (k::r)) (h n) (roq (Bool.eq_false_iff.mp d) rok))
 smore:=fun{m x l k r t1 t} c h1 h2 n=>ron rfl fun i=>roq (Bool.eq_false_iff.mp c) (roS (pStm n (k::r)) (h1 n) (rop rfl (h2 n i)))
 bl:=fun{l r t} h=>ron rfl fun n=>roB (pSs n r) ((ron rfl fun n=>h n _:∀n,Ro (pSs n r) l (.sign [125]::t)) n) rok
 co:=fun{x r t} h=>ron rfl fun n=>roE (pE n 1 r) (h n) rok
 ife:=fun{x l m ts t1 t2 t} h1 h2 h3=>ron rfl fun n=>roE (pCond n ts) (h1 n) (roB (za0 n t1) (h2 n) (rop rfl (roB (za0 n t2) (h3 n) rok)))
 ifs:=fun{x l ts t1 k r} c h1 h2=>ron rfl fun n=>roE (pCond n ts) (h1 n) (roB (za0 n t1) (h2 n) (by
  cases k with
  |name s=>exact roq (beq_eq_false_iff_ne.mp c) rok
  |_=>exact rok))
 set:=fun{x r t} h=>ron rfl fun n=>roE (pE n 1 r) (h n) rok
 nm:=fun{s x r t} c h=>ron rfl fun n=>have q:=not_res c
  roq (Bool.eq_false_iff.mp q.1) (roq q.2.1 (roq q.2.2 (rop (by rw[c];rfl) (roE (pE n 1 r) (h n) rok))))
 word:=fun c=>ron rfl fun _=>rop c rok
 cif:=fun{s r t} h=>ron rfl fun n=>h n
 whl:=fun{x l r t1 t} h1 h2=>ron rfl fun n=>roE (pCond n r) (h1 n) (roB (za0 n t1) (h2 n) rok)
 call:=fun{x ts t} c h=>ron (by cases ts<;>rfl) fun n=>by
  rw[c n]
  exact roE (pE n 1 ts) (h n) rok
theorem whole_back{l:List Stm}(v:VSs l)(n:Nat):Ro (zdc n (tkA l++[.fin])) l [.fin]:=by
 have h:∀n,Ro (pSs n (tkA l++[.fin])) l [.fin]:=ron rfl fun n=>whole_read run_closed v n _
 exact ze1 (h n) (fun q _=>by unfold zdc;rw[q]) fun q z=>absurd (by unfold zdc;rw[q]) z
theorem nm_of{s l:List Nat}{c:Nat}{r:List Nat}(e:s=l)(e2:l=c::r)(h:(c::r).all (inS sName)=true)(h2:inS sFig c=false):isNm s:=⟨c,r,e.trans e2,h,h2⟩
theorem nm_while:isNm za7:=nm_of (l:=[119,104,105,108,101]) (by decide+kernel) rfl (by decide+kernel) (by decide+kernel)
theorem nm_if:isNm ifL:=nm_of (l:=[105,102]) (by decide+kernel) rfl (by decide+kernel) (by decide+kernel)
theorem nm_else:isNm elseL:=nm_of (l:=[101,108,115,101]) (by decide+kernel) rfl (by decide+kernel) (by decide+kernel)
theorem nm_b{s:List Nat}(h:(match s with| []=>false|c::r=>(c::r).all (inS sName)&& !inS sFig c)=true):isNm s:=by
 cases s with
 |nil=>cases h
 |cons c r=>
  have h:((c::r).all (inS sName)&& !inS sFig c)=true:=h
  rw[Bool.and_eq_true,Bool.not_eq_true']at h
  exact⟨c,r,rfl,h.1,h.2⟩
theorem nm_words:∀s∈zbh,isNm s:=by
 have h:∀s∈zbh,(match s with| []=>false|c::r=>(c::r).all (inS sName)&& !inS sFig c)=true:=by decide+kernel
 exact fun s hs=>nm_b (h s hs)
theorem scB{l:List Stm}(h:Sq Bd (shA l) (tkA l)):Sq An (shB l) (blk (tkA l)):=by
 cases l with
 |nil=>exact .cons (by decide+kernel) (.inl (by decide)) (Sq.one (by decide+kernel) (by decide)).blank
 |cons s r=>
  show Sq An ([123,32]++shA (s::r)++[32,125]) (.sign [123]::(tkA (s::r)++[.sign [125]]))
  rw[List.append_assoc]
  exact .cons (by decide+kernel) (.inl (by decide)) (h.comp (Sq.one (by decide+kernel) (by decide)).blank fun r _=>bd_32 _).blank
theorem scEq{x:List Nat}{P:List Nat→Prop}{ts:List TK}(h:Sq P x ts):Sq P ([32,61,32]++x) (.sign [61]::ts):=by
 have g:Sq P (61::(32::x)) (.sign [61]::ts):= .cons (by decide+kernel) (.inr ⟨32,_,rfl,by decide⟩) h.blank
 exact g.blank
theorem scK{w x y:List Nat}{ts us:List TK}{P:List Nat→Prop}(hw:isNm w)(h:Sq Bd x ts)(g:Sq P y us):Sq P (w++[32,40]++x++[41,32]++y) (.name w:: .sign [40]::(ts++ .sign [41]::us)):=by
 rw[List.append_assoc _ [41,32],as4]
 have g1:Sq P (41::(32::y)) (.sign [41]::us):= .cons (by decide+kernel) (.inl (by decide)) g.blank
 exact(Sq.name hw).comp (us:= .sign [40]::(ts++ .sign [41]::us)) (one_ok (.inl rfl) (h.comp g1 fun r _=>bd_41 _)).blank fun r _=>bd_32 _
theorem shA_cons(s t:Stm)(r:List Stm):shA (s::t::r)=shS s++[59,32]++shA (t::r):=rfl
theorem tkA_cons(s t:Stm)(r:List Stm):tkA (s::t::r)=tkS s++ .sign [59]::tkA (t::r):=rfl
theorem shB_le{l:List Stm}{n:Nat}(h:(shB l).length≤n):(shA l).length≤n:=by
 cases l with
 |nil=>exact Nat.zero_le _
 |cons s r=>exact app_r (x:=[123,32]) (app_l (y:=[32,125]) h)
theorem scS(e:Stm):VS e→(shS e).length≤4300→Sq Bd (shS e) (tkS e):=Stm.rec (motive_1:=fun e=>VS e→(shS e).length≤4300→Sq Bd (shS e) (tkS e)) (motive_2:=fun l=>VSs l→(shA l).length≤4300→Sq Bd (shA l) (tkA l))
 (fun e h hl r hr=>by
  show pScan (36::36::(([32,61,32]++shE e)++r))=_
  rw[scan_own,scEq (scE e h (app_r (x:=[36,36,32,61,32]) hl)) r hr,Option.map_map];rfl)
 (fun s e h hl=>by
  show Sq Bd (s++[32,61,32]++shE e) _
  rw[List.append_assoc]
  exact(Sq.name h.1.1).comp (us:= .sign [61]::tkE e) (scEq (scE e h.2 (app_r hl))) fun r _=>bd_32 _)
 (fun e h hl=>scE e h hl) (fun s h _=> .name (nm_words s h))
 (fun e l A h hl=>by
  rw[zhd]at hl ⊢
  exact(scK nm_while (scE e h.1 (app_r (app_l (app_l hl)))) (scB (A h.2 (shB_le (app_r hl))))).any)
 (fun e l m A B h hl=>by
  rw[zek]at hl ⊢
  have g1:=scB (A h.2.1 (shB_le (app_r (app_l hl))))
  have ge:=scE e h.1 (app_r (app_l (app_l (app_l hl))))
  cases m with
  |nil=>
   rw[List.append_nil]
   exact tkS_if e l []▸(List.append_nil (blk (tkA l))).symm▸(scK nm_if ge g1).any
  |cons s r=>
   have g2:=scB (B h.2.2 (shB_le (app_r (app_r hl))))
   have g3:Sq An ([32]++elseL++[32]++shB (s::r)) (.name elseL::blk (tkA (s::r))):=by
    rw[as4]
    exact((Sq.name nm_else).comp (us:=blk (tkA (s::r))) g2.blank fun r _=>bd_32 _).blank
   rw[List.append_assoc,tkS_if]
   exact(scK nm_if ge (g1.comp g3 fun _ _=>trivial)).any)
 (fun _ _=> .nil _)
 (fun s l A B h hl=>by
  cases l with
  |nil=>exact A h.1 hl
  |cons t r=>
   rw[shA_cons]at hl ⊢
   rw[List.append_assoc,tkA_cons]
   exact(A h.1 (app_l (app_l hl))).comp (Sq.cons (by decide+kernel) (.inl (by decide)) (B h.2 (app_r hl)).blank) fun r _=>bd_59 _)
 e
theorem scA:∀(l:List Stm),VSs l→(shA l).length≤4300→Sq Bd (shA l) (tkA l)
 | [],_,_=> .nil _
 | [s],h,hl=>scS s h.1 hl
 |s::t::r,h,hl=>by
  rw[shA_cons]at hl ⊢
  rw[List.append_assoc,tkA_cons]
  exact(scS s h.1 (app_l (app_l hl))).comp (Sq.cons (by decide+kernel) (.inl (by decide)) (scA (t::r) h.2 (app_r hl)).blank) fun r _=>bd_59 _
theorem zdz{l:List Stm}(h:VSs l)(hl:(shA l).length≤4300):pScan (shA l)=some (tkA l++[.fin]):=by
 have:=scA l h hl [] bd_nil
 rw[List.append_nil]at this
 rw[this];rfl
theorem zgl{l:List Stm}(h:VSs l)(hl:(shA l).length≤4300){n:Nat}(hn:4*kn (tkA l)+8≤n):zal n (shA l)= .ok l:=by
 have hk:kn (tkA l++[.fin])=kn (tkA l):=zbb _ _
 have h1:=whole_no (scan_wf _ _ _ (zdz h hl)) (hk.symm▸hn)
 unfold zal
 rw[zdz h hl]
 dsimp only
 rw[whole_back h n h1]
theorem cp_shown{l:List Stm}(h:VSs l)(hl:(shA l).length≤4300):cp (tkA l)=cnt 40 0 (shA l):=by
 have:=zg9 (zdz h hl)
 rw[cp_append]at this
 exact this
inductive Qt:List Nat→List Nat→Prop
 |fin:Qt [] [34]
 |raw {c s q}:c≠34→c≠92→Qt s q→Qt (c::s) (c::q)
 |esc {c d w s q}:d<512∨d=c→Qt s q→Qt (d::s) (92::c::(w++q))
theorem plain_lt{c:Nat}{v:Int}(h:zbi c=some v):v.toNat<512:=by
 unfold zbi at h
 have:∀p∈tab22,p.2.toNat<512:=by decide+kernel
 generalize tab22=l at h this
 generalize(⟨#[c]⟩:Str)=x at h
 induction l with
 |nil=>cases h
 |cons p l ih=>
  obtain⟨a,b⟩:=p
  rw[List.lookup_cons]at h
  split at h
  ·cases h;exact this _ (.head _)
  ·exact ih (fun p hp=>this p (.tail _ hp)) h
theorem escape_lt{c d:Nat}{r r':List Nat}(h:zar (c::r)=some (d,r')):d<512∨d=c:=by
 rw[za8]at h
 cases hp:zbi c with
 |some v=>rw[hp]at h;cases h;exact .inl (plain_lt hp)
 |none=>
  rw[hp]at h
  dsimp only at h
  split at h
  ·injection h with h
   have:=zdo (fun c hc=>(oct_hex c hc).1) 3 0 (c::r)
   rw[h]at this
   exact .inl (by lia)
  ·cases r with
   |nil=>cases h;exact .inr rfl
   |cons e r=>
    dsimp only at h
    split at h
    ·injection h with h
     have:=zdo (fun c hc=>(hex_hex c hc).1) 2 0 (e::r)
     rw[h]at this
     exact .inl (by lia)
    ·cases h;exact .inr rfl
theorem zgy:∀(m:Nat){r r' s:List Nat},pQ 34 m r=some (s,r')→∃q,r=q++r'∧Qt s q
 |0,r,r',s,h=>by cases h
 |m+1,[],r',s,h=>by cases h
 |m+1,c::r,r',s,h=>by
  unfold pQ at h
  split at h
  ·rename_i hc
   cases h
   subst hc
   exact⟨[34],rfl, .fin⟩
  ·rename_i hc
   split at h
   ·rename_i hc2
    subst hc2
    split at h
    ·cases h
    ·rename_i d y he
     obtain⟨q,h1,h2⟩:=Option.map_eq_some_iff.mp h
     cases h2
     obtain⟨v,g1,g2⟩:=zgy m (s:=q.1) (r':=q.2) h1
     cases r with
     |nil=>cases he
     |cons c2 r=>
      obtain⟨w,w1,w2⟩:=escape_cut he
      exact⟨92::c2::(w++v),by rw[w1,g1];simp, .esc (escape_lt he) g2⟩
   ·rename_i hc2
    obtain⟨q,h1,h2⟩:=Option.map_eq_some_iff.mp h
    cases h2
    obtain⟨v,g1,g2⟩:=zgy m (s:=q.1) (r':=q.2) h1
    exact⟨c::v,by rw[g1];rfl, .raw hc hc2 g2⟩
noncomputable def TkU:TK→List Nat→Prop
 | .num v,u=>(∀c∈u,inS sFig c=true)∧u≠ []∧v=(PySem.NumText.digitsVal u:Nat)∧bits v≤512
 | .arg v,u=>∃f,u=36::f∧(∀c∈f,inS sFig c=true)∧f≠ []∧v=(PySem.NumText.digitsVal f:Nat)
 | .own,u=>u=[36,36]
 | .name s,u=>u=s∧isNm s
 | .text s,u=>∃q,u=34::q∧Qt s q
 | .sign w,u=>u=w∧(w∈twos∨∃c,w=[c]∧inS sOne c=true)
 | .fin,_=>False
theorem tw_mem{p:Nat→Bool}{r:List Nat}:∀c∈r.takeWhile p,p c=true:=fun c hc=>List.all_eq_true.mp (List.all_takeWhile (p:=p) (l:=r)) c hc
theorem int_of{u:List Nat}{v:Int}(h1:∀c∈u,inS sFig c=true)(h2:u≠ [])(hl:u.length≤4300)(h:PySem.intText? (tx u)=some v):v=(PySem.NumText.digitsVal u:Nat):=by
 have:=PySem.intText_digits (x:=tx u) (by
  rw[zah];intro c hc
  have:=h1 c hc
  rw[zg5,Bool.and_eq_true,decide_eq_true_iff,decide_eq_true_iff]at this;exact this) (by rw[zah];exact h2) (by rw[zcb];exact hl)
 rw[h,zah]at this
 injection this
theorem twq_len{p:Nat→Bool}(r:List Nat):(r.takeWhile p).length≤r.length:=(List.takeWhile_sublist p (l:=r)).length_le
theorem tok_u{r r':List Nat}{k:TK}(hl:r.length≤4300)(h:pTok r=some (k,r')):∃u,r=u++r'∧TkU k u:=by
 cases r with
 |nil=>cases h
 |cons c r=>
  unfold pTok at h
  dsimp only at h
  by_cases q1:inS sName c=true∧inS sFig c=false
  ·rw[if_pos q1]at h
   cases h
   refine⟨_,List.takeWhile_append_dropWhile.symm,rfl,c,_,(zb0 q1.1).1,?_,q1.2⟩
   rw[←(zb0 q1.1).1]
   exact List.all_takeWhile
  rw[if_neg q1]at h
  by_cases q2:inS sFig c=true
  ·rw[if_pos q2]at h
   cases hp:pInt ((c::r).takeWhile (inS sFig))with
   |none=>rw[hp]at h;cases h
   |some v=>
    rw[hp]at h
    dsimp only at h
    by_cases q3:512<bits v
    ·rw[if_pos q3]at h;cases h
    ·rw[if_neg q3]at h
     cases h
     have hne:(c::r).takeWhile (inS sFig)≠ []:=by rw[(zb0 q2).1];exact List.cons_ne_nil _ _
     exact⟨_,List.takeWhile_append_dropWhile.symm,tw_mem,hne,int_of tw_mem hne (Nat.le_trans (twq_len _) hl) hp,by lia⟩
  rw[if_neg q2]at h
  by_cases q3:c=34
  ·rw[if_pos q3]at h
   obtain⟨q,h1,h2⟩:=Option.map_eq_some_iff.mp h
   cases h2
   subst q3
   obtain⟨v,g1,g2⟩:=zgy _ (s:=q.1) (r':=q.2) h1
   exact⟨34::v,by rw[g1];rfl,v,rfl,g2⟩
  rw[if_neg q3]at h
  by_cases q4:c=36
  ·rw[if_pos q4]at h
   subst q4
   cases r with
   |nil=>cases h
   |cons d y=>
    unfold zce at h
    dsimp only at h
    by_cases q5:d=36
    ·rw[if_pos q5]at h;cases h;subst q5
     exact⟨[36,36],rfl,rfl⟩
    ·rw[if_neg q5]at h
     by_cases q6:inS sFig d=true
     ·rw[if_pos q6]at h
      obtain⟨q,h1,h2⟩:=Option.map_eq_some_iff.mp h
      cases h2
      have hne:(d::y).takeWhile (inS sFig)≠ []:=by rw[(zb0 q6).1];exact List.cons_ne_nil _ _
      refine⟨36::(d::y).takeWhile (inS sFig),congrArg (36:: ·) List.takeWhile_append_dropWhile.symm,_,rfl,tw_mem,hne,int_of tw_mem hne ?_ h1⟩
      have:=twq_len (p:=inS sFig) (d::y)
      rw[List.length_cons]at hl;lia
     ·rw[if_neg q6]at h;cases h
  ·rw[if_neg q4]at h
   obtain⟨q,h1,h2⟩:=Option.map_eq_some_iff.mp h
   cases h2
   obtain⟨w,y⟩:=q
   unfold pSign at h1
   split at h1
   ·rename_i w' hf
    cases h1
    have hm:=List.mem_of_find?_eq_some hf
    have hp:=List.find?_some hf
    obtain⟨y,hy⟩:=List.isPrefixOf_iff_prefix.mp hp
    exact⟨w,by rw[←hy];simp,rfl, .inl hm⟩
   ·dsimp only at h1
    by_cases hc:inS sOne c=true
    ·rw[if_pos hc]at h1
     cases h1
     exact⟨[c],rfl,rfl, .inr ⟨c,rfl,hc⟩⟩
    ·rw[if_neg hc]at h1;cases h1
theorem scan_ms{L:Nat}(hL:L≤4300){P:Nat→Prop}{k:TK→Nat}{w:Nat→Nat}(hf:k .fin=0)(hk:∀t u,u.length≤L→(∀c∈u,P c)→TkU t u→k t≤(u.map w).sum):∀(m:Nat)(r:List Nat)(ts:List TK),r.length≤L→(∀c∈r,P c)→pS m r=some ts→(ts.map k).sum≤(r.map w).sum
 |0,_,_,_,_,h=>by cases h
 |m+1,[],ts,_,_,h=>by
  cases h
  show k .fin+0≤_
  lia
 |m+1,c::r,ts,hl,hP,h=>by
  rw[pS]at h
  cases he:pTok (c::r)with
  |none=>rw[he]at h;cases h
  |some q=>
   obtain⟨t,r'⟩:=q
   rw[he]at h
   dsimp only at h
   obtain⟨l',h1,h2⟩:=Option.map_eq_some_iff.mp h
   subst h2
   obtain⟨u,u1,u2⟩:=tok_u (by lia) he
   have e1:(r'.takeWhile (inS zag)++r'.dropWhile (inS zag)).length=r'.length:=by rw[List.takeWhile_append_dropWhile]
   have e2:((r'.takeWhile (inS zag)++r'.dropWhile (inS zag)).map w).sum=(r'.map w).sum:=by rw[List.takeWhile_append_dropWhile]
   have e3:(c::r).length=(u++r').length:=by rw[u1]
   rw[List.length_append]at e1 e3
   rw[List.map_append,List.sum_append]at e2
   rw[u1]at hP
   have h3:=scan_ms hL hf hk m _ _ (by lia) (fun d hd=>hP d (List.mem_append_right _ ((List.dropWhile_sublist _).mem hd))) h1
   have h4:=hk t u (by lia) (fun d hd=>hP d (List.mem_append_left _ hd)) u2
   rw[u1,List.map_append,List.sum_append,List.map_cons,List.sum_cons]
   lia
theorem pScan_ms{L:Nat}(hL:L≤4300){P:Nat→Prop}{k:TK→Nat}{w:Nat→Nat}(hf:k .fin=0)(hk:∀t u,u.length≤L→(∀c∈u,P c)→TkU t u→k t≤(u.map w).sum){t:List Nat}{ts:List TK}(hl:t.length≤L)(hP:∀c∈t,P c)(h:pScan t=some ts):(ts.map k).sum≤(t.map w).sum:=by
 have e1:(t.takeWhile (inS zag)++t.dropWhile (inS zag)).length=t.length:=by rw[List.takeWhile_append_dropWhile]
 have e2:((t.takeWhile (inS zag)++t.dropWhile (inS zag)).map w).sum=(t.map w).sum:=by rw[List.takeWhile_append_dropWhile]
 rw[List.length_append]at e1
 rw[List.map_append,List.sum_append]at e2
 have:=scan_ms hL hf hk _ _ _ (by lia) (fun d hd=>hP d ((List.dropWhile_sublist _).mem hd)) h
 lia
section
variable(M:Ms)
theorem parse_ms{L:Nat}(hL:L≤4300){P:Nat→Prop}(hf:M.k .fin=0){w:Nat→Nat}(hk:∀t u,u.length≤L→(∀c∈u,P c)→TkU t u→M.k t≤(u.map w).sum){n:Nat}{t:List Nat}{l:List Stm}(hl:t.length≤L)(hP:∀c∈t,P c)(h:zal n t= .ok l):M.b l≤(t.map w).sum:=by
 obtain⟨ts,t',hs,h2⟩:=so_parse (zg6 M) h
 have h1:M.K ts≤_:=pScan_ms hL hf hk hl hP hs
 exact Nat.le_trans (Nat.le_trans (Nat.le_add_right _ _) (Nat.le_trans h2 (Nat.le_of_eq ((congrArg (· +M.K ts) M.bnil).trans (Nat.zero_add _))))) h1
end
open PySem.Builtin.Str (reprChar)
noncomputable def sh(v:PyData):List Nat:=(PyData.shown v).cps.toList
noncomputable def qt(x:Str):Nat:=reprQuote x
theorem qt_or(x:Str):qt x=34∨qt x=39:=by
 unfold qt reprQuote;split
 ·exact .inl rfl
 ·exact .inr rfl
theorem fold_repr(q:Nat):∀(l:List Nat)(a:Array Nat),(l.foldl (fun out c=>out++(reprChar q c).toArray) a).toList=a.toList++l.flatMap (reprChar q)
 | [],a=>by simp
 |c::l,a=>by
  rw[List.foldl_cons,fold_repr q l]
  simp
theorem sh_str(x:Str):sh (.str x)=qt x::(x.cps.toList.flatMap (reprChar (qt x))++[qt x]):=by
 unfold sh
 rw[PyData.shown]
 unfold reprText
 show(Array.push _ _).toList=_
 rw[Array.toList_push,←Array.foldl_toList,fold_repr]
 rfl
theorem sh_int(v:Int):sh (.int v)=dec v:=by
 unfold sh
 rw[PyData.shown];rfl
theorem zcw:∀xs:List PyData,(PyData.shownAll xs).map (·.cps.toList)=xs.map sh
 | []=>by rw[PyData.shownAll];rfl
 |x::r=>by rw[PyData.shownAll,List.map_cons,List.map_cons,zcw r];rfl
theorem zcp(x y:Str):(x++y).cps.toList=x.cps.toList++y.cps.toList:=by
 show(x.cps++y.cps).toList=_
 rw[Array.toList_append]
theorem zgm:∀(ts:List Str)(k:Nat)(acc:Str),0<k→(textFrom k acc ts).cps.toList=acc.cps.toList++((ts.map (·.cps.toList)).map ([44,32]++ ·)).flatten
 | [],k,acc,_=>by show acc.cps.toList=_;simp
 |t::r,k,acc,h=>by
  show(textFrom (k+1) (acc++(if k>0 then ", " else "":String)++t) r).cps.toList=_
  rw[zgm r _ _ (by lia),if_pos h,zcp,zcp]
  have:((", ":String):Str).cps.toList=[44,32]:=by decide+kernel
  rw[this]
  simp
theorem sh_list(xs:List PyData):sh (.list xs)=91::(joinL [44,32] (xs.map sh)++[93]):=by
 unfold sh
 rw[PyData.shown]
 unfold listText
 rw[zcp,show(("]":String):Str).cps.toList=[93] by decide+kernel]
 have h:(textFrom 0 "[" (PyData.shownAll xs)).cps.toList=91::joinL [44,32] ((PyData.shownAll xs).map (·.cps.toList)):=by
  cases PyData.shownAll xs with
  |nil=>show(("[":String):Str).cps.toList=_;decide+kernel
  |cons t r=>
   show(textFrom 1 (("[":String)++(if 0>0 then ", " else "":String)++t) r).cps.toList=_
   rw[zgm r _ _ (by lia),zcp,zcp,List.map_cons,zfb]
   have e1:(("[":String):Str).cps.toList=[91]:=by decide+kernel
   have e2:((if 0>0 then ", " else "":String):Str).cps.toList=[]:=by decide+kernel
   rw[e1,e2]
   simp
 rw[h,zcw];rfl
theorem join_cps(s:Str):∀ts:List Str,(Str.join s ts).cps.toList=joinL s.cps.toList (ts.map (·.cps.toList))
 | []=>rfl
 | [x]=>rfl
 |x::y::r=>by
  show(x++s++Str.join s (y::r)).cps.toList=_
  rw[zcp,zcp,join_cps s (y::r)];rfl
noncomputable def tend(n:Nat):List Nat:=if n=1 then [44,41]else [41]
theorem zfy(xs:List PyData):sh (.tuple xs)=40::(joinL [44,32] (xs.map sh)++tend xs.length):=by
 unfold sh
 rw[PyData.shown]
 unfold tupleText
 rw[zcp,zcp,join_cps,zcw]
 have e1:(("(":String):Str).cps.toList=[40]:=by decide+kernel
 have e2:((", ":String):Str).cps.toList=[44,32]:=by decide+kernel
 have e3:(PyData.shownAll xs).length=xs.length:=by
  have:=congrArg List.length (zcw xs)
  rwa [List.length_map,List.length_map]at this
 rw[e1,e2,e3]
 show 40::(_++_)=_
 congr 2
 unfold tend
 by_cases h:xs.length=1
 ·rw[if_pos h,if_pos (by rw[h];rfl)];decide+kernel
 ·rw[if_neg h,if_neg (by simpa using h)];decide+kernel
noncomputable def hx(c:Nat):Nat:=if c<58 then c-48 else c-87
noncomputable def hxd:Nat→Nat→List Nat→Option (Nat×List Nat)
 |0,a,l=>some (a,l)
 |_+1,_,[]=>none
 |n+1,a,c::l=>hxd n (a*16+hx c) l
noncomputable def un2:List Nat→Option (Nat×List Nat)
 | []=>none
 |d::y=>if d=120 then hxd 2 0 y else if d=117 then hxd 4 0 y else some (if d=110 then 10 else if d=114 then 13 else if d=116 then 9 else d,y)
noncomputable def undo:List Nat→Option (Nat×List Nat)
 | []=>none
 |c::r=>if c=92 then un2 r else some (c,r)
theorem hxd_app:∀(n a:Nat)(l:List Nat){c:Nat}{z:List Nat}(r:List Nat),hxd n a l=some (c,z)→hxd n a (l++r)=some (c,z++r)
 |0,a,l,_,_,r,h=>by cases h;rfl
 |n+1,a,[],_,_,r,h=>nomatch h
 |n+1,a,c::l,_,_,r,h=>hxd_app n _ l r h
theorem undo_app{c:Nat}{x z:List Nat}(r:List Nat)(h:undo x=some (c,z)):undo (x++r)=some (c,z++r):=by
 cases x with
 |nil=>cases h
 |cons a x=>
  have h:(if a=92 then un2 x else some (a,x))=_:=h
  show(if a=92 then un2 (x++r)else some (a,x++r))=_
  by_cases e:a=92
  ·rw[if_pos e]at h ⊢
   cases x with
   |nil=>cases h
   |cons d y=>
    have h:(if d=120 then hxd 2 0 y else if d=117 then hxd 4 0 y else _)=_:=h
    show(if d=120 then hxd 2 0 (y++r)else if d=117 then hxd 4 0 (y++r)else _)=_
    by_cases e1:d=120
    ·rw[if_pos e1]at h ⊢;exact hxd_app _ _ _ r h
    ·rw[if_neg e1]at h ⊢
     by_cases e2:d=117
     ·rw[if_pos e2]at h ⊢;exact hxd_app _ _ _ r h
     ·rw[if_neg e2]at h ⊢;cases h;rfl
  ·rw[if_neg e]at h ⊢;cases h;rfl
noncomputable def repB(q c:Nat):Bool:=(undo (reprChar q c)==some (c,[]))&&(match reprChar q c with| []=>false|d::_=>!Nat.beq d q)
theorem rep_all:∀c,c<512→(repB 34 c&&repB 39 c)=true:=by decide+kernel
theorem rep_ok{q c:Nat}(hq:q=34∨q=39)(hc:c<512):repB q c=true:=by
 have h:=Bool.and_eq_true_iff.mp (rep_all c hc)
 rcases hq with rfl|rfl
 ·exact h.1
 ·exact h.2
theorem undo_repr{q c:Nat}(hq:q=34∨q=39)(hc:c<512)(r:List Nat):undo (reprChar q c++r)=some (c,r):=
 undo_app (z:=[]) r (beq_iff_eq.mp (Bool.and_eq_true_iff.mp (rep_ok hq hc)).1)
theorem repr_ne{q c:Nat}(hq:q=34∨q=39)(hc:c<512):∃d y,reprChar q c=d::y∧d≠q:=by
 have h:=(Bool.and_eq_true_iff.mp (rep_ok hq hc)).2
 cases e:reprChar q c with
 |nil=>rw[e]at h;cases h
 |cons d y=>rw[e]at h;exact⟨d,y,rfl,Nat.ne_of_beq_eq_false ((Bool.not_eq_true' _).mp h)⟩
theorem flat_inj{q:Nat}(hq:q=34∨q=39):∀(s t x y:List Nat),(∀c∈s,c<512)→(∀c∈t,c<512)→s.flatMap (reprChar q)++q::x=t.flatMap (reprChar q)++q::y→s=t∧x=y
 | [],[],x,y,_,_,h=>⟨rfl,(List.cons.inj h).2⟩
 | [],d::t,x,y,_,h2,h=>by
  obtain⟨a,z,e,ne⟩:=repr_ne (c:=d) hq (h2 d (.head _))
  rw[List.flatMap_cons,e]at h
  exact absurd (List.cons.inj h).1.symm ne
 |c::s,[],x,y,h1,_,h=>by
  obtain⟨a,z,e,ne⟩:=repr_ne (c:=c) hq (h1 c (.head _))
  rw[List.flatMap_cons,e]at h
  exact absurd (List.cons.inj h).1 ne
 |c::s,d::t,x,y,h1,h2,h=>by
  rw[List.flatMap_cons,List.flatMap_cons,List.append_assoc,List.append_assoc]at h
  have e:=congrArg undo h
  rw[undo_repr hq (h1 c (.head _)),undo_repr hq (h2 d (.head _))]at e
  have e:=Prod.mk.inj (Option.some.inj e)
  obtain⟨e3,e4⟩:=flat_inj hq s t x y (fun c hc=>h1 c (.tail _ hc)) (fun c hc=>h2 c (.tail _ hc)) e.2
  exact⟨by rw[e.1,e3],e4⟩
mutual
noncomputable def Pd:PyData→Prop
 | .int v=>0≤v
 | .str s=>∀c∈s.cps.toList,c<512
 | .list l=>Pds l
 | .tuple l=>Pds l
 |_=>False
noncomputable def Pds:List PyData→Prop
 | []=>True
 |x::r=>Pd x∧Pds r
end
noncomputable def Df(x:List Nat):Prop:=∀c y,x=c::y→inS sFig c=false
noncomputable def hd1(v:PyData):Nat→Prop:=fun c=>match v with
 | .int _=>inS sFig c=true
 | .str _=>c=34∨c=39
 | .list _=>c=91
 | .tuple _=>c=40
 |_=>False
theorem sh_head:∀v,Pd v→∃c y,sh v=c::y∧hd1 v c
 | .int v,h=>by
  obtain⟨h1,c,y,e⟩:=zed h
  exact⟨c,y,(sh_int v).trans e,h1 c (by rw[e];exact .head _)⟩
 | .str s,_=>⟨_,_,sh_str s,qt_or s⟩
 | .list l,_=>⟨_,_,sh_list l,rfl⟩
 | .tuple l,_=>⟨_,_,zfy l,rfl⟩
 | .none,h=>h.elim
 | .bool _,h=>h.elim
 | .dict _,h=>h.elim
theorem nofig:inS sFig 34=false∧inS sFig 39=false∧inS sFig 91=false∧inS sFig 40=false∧inS sFig 93=false∧inS sFig 41=false∧inS sFig 44=false:=by decide+kernel
theorem Df.of{c:Nat}(h:inS sFig c=false)(y:List Nat):Df (c::y):=fun d z e=>by injection e with e _;rw[←e];exact h
theorem dec_inj{v w:Int}(hv:0≤v)(hw:0≤w){x y:List Nat}(hx:Df x)(hy:Df y)(h:dec v++x=dec w++y):v=w∧x=y:=by
 obtain⟨a1,a2⟩:=zgu (p:=inS sFig) (s:=dec v) (r:=x) (zed hv).1 hx
 obtain⟨b1,b2⟩:=zgu (p:=inS sFig) (s:=dec w) (r:=y) (zed hw).1 hy
 rw[h]at a1 a2
 have e:=a1.symm.trans b1
 have d1:=(zdy hv).2.2
 have d2:=(zdy hw).2.2
 rw[e]at d1
 exact⟨by lia,a2.symm.trans b2⟩
theorem zet{v w:PyData}(hv:Pd v)(hw:Pd w){x y:List Nat}(h:sh v++x=sh w++y):∃c,hd1 v c∧hd1 w c:=by
 obtain⟨c,z,e1,h1⟩:=sh_head v hv
 obtain⟨d,u,e2,h2⟩:=sh_head w hw
 rw[e1,e2]at h
 injection h with h _
 subst h
 exact⟨c,h1,h2⟩
noncomputable def Inj(v:PyData):Prop:=∀(w:PyData),Pd w→∀x y,Df x→Df y→sh v++x=sh w++y→v=w∧x=y
theorem hd_no{v:PyData}(h:Pd v){d:Nat}(hd:d=93∨d=41){z u:List Nat}:sh v++z=d::u→False:=by
 intro q
 obtain⟨c,y,e,k⟩:=sh_head v h
 rw[e]at q
 injection q with q _
 subst q
 have hf:inS sFig c=false:=by rcases hd with rfl|rfl<;>simp[nofig]
 cases v with
 |int b=>have k:inS sFig c=true:=k;rw[hf]at k;cases k
 |str t=>have k:c=34∨c=39:=k;lia
 |list l=>have k:c=91:=k;lia
 |tuple l=>have k:c=40:=k;lia
 |_=>exact k.elim
theorem ze2(a b:PyData)(r:List PyData)(z:List Nat):joinL [44,32] ((a::b::r).map sh)++z=sh a++44::32::(joinL [44,32] ((b::r).map sh)++z):=by
 rw[List.map_cons,List.map_cons,joinL,List.append_assoc,List.append_assoc];rfl
theorem one_sh(a:PyData):joinL [44,32] ([a].map sh)=sh a:=rfl
theorem Df.comma(y:List Nat):Df (44::y):=Df.of nofig.2.2.2.2.2.2 _
theorem zf2{a:PyData}{r:List PyData}(ha:Pd a){d:Nat}(hd:d=93∨d=41){z u:List Nat}:joinL [44,32] ((a::r).map sh)++z=d::u→False:=by
 intro q
 cases r with
 |nil=>rw[one_sh]at q;exact hd_no ha hd q
 |cons b r=>rw[ze2]at q;exact hd_no ha hd q
theorem shs_inj:∀(l:List PyData)(a:PyData),(∀v∈a::l,Inj v)→∀(m:List PyData)(b:PyData),Pds (b::m)→∀d,d=93∨d=41→∀x y,joinL [44,32] ((a::l).map sh)++d::x=joinL [44,32] ((b::m).map sh)++d::y→a::l=b::m∧x=y
 | [],a,hi,m,b,hw,d,hd,x,y,h=>by
  have hf:inS sFig d=false:=by rcases hd with rfl|rfl<;>simp[nofig]
  cases m with
  |nil=>
   obtain⟨e1,e2⟩:=hi a (.head _) b hw.1 _ _ (Df.of hf _) (Df.of hf _) h
   injection e2 with _ e2
   exact⟨by rw[e1],e2⟩
  |cons c m=>
   rw[one_sh,ze2]at h
   obtain⟨_,e2⟩:=hi a (.head _) b hw.1 _ _ (Df.of hf _) (Df.comma _) h
   injection e2 with e2 _
   lia
 |c::l,a,hi,m,b,hw,d,hd,x,y,h=>by
  have hf:inS sFig d=false:=by rcases hd with rfl|rfl<;>simp[nofig]
  cases m with
  |nil=>
   rw[one_sh,ze2]at h
   obtain⟨_,e2⟩:=hi a (.head _) b hw.1 _ _ (Df.comma _) (Df.of hf _) h
   injection e2 with e2 _
   lia
  |cons f m=>
   rw[ze2,ze2]at h
   obtain⟨e1,e2⟩:=hi a (.head _) b hw.1 _ _ (Df.comma _) (Df.comma _) h
   injection e2 with _ e2
   injection e2 with _ e2
   obtain⟨e3,e4⟩:=shs_inj l c (fun v hv=>hi v (.tail _ hv)) m f hw.2 d hd x y e2
   exact⟨by rw[e1,e3],e4⟩
theorem int_inj{a:Int}(hv:0≤a):Inj (.int a):=by
 intro w hw x y hx hy h
 have hv':Pd (.int a):=hv
 obtain⟨c,k1,k2⟩:=zet hv' hw h
 obtain⟨n1,n2,n3,n4,_⟩:=nofig
 have k1:inS sFig c=true:=k1
 cases w with
 |int b=>
  rw[sh_int,sh_int]at h
  obtain⟨e1,e2⟩:=dec_inj hv hw hx hy h
  exact⟨by rw[e1],e2⟩
 |str t=>rcases k2 with rfl|rfl;rw[n1]at k1;cases k1;rw[n2]at k1;cases k1
 |list l=>have k2:c=91:=k2;subst k2;rw[n3]at k1;cases k1
 |tuple l=>have k2:c=40:=k2;subst k2;rw[n4]at k1;cases k1
 |_=>exact k2.elim
theorem str_inj{s:Str}(hv:∀c∈s.cps.toList,c<512):Inj (.str s):=by
 intro w hw x y hx hy h
 have hv':Pd (.str s):=hv
 obtain⟨c,k1,k2⟩:=zet hv' hw h
 obtain⟨n1,n2,n3,n4,_⟩:=nofig
 have k1:c=34∨c=39:=k1
 cases w with
 |str t=>
  rw[sh_str,sh_str]at h
  simp only[List.cons_append,List.append_assoc,List.nil_append]at h
  injection h with h1 h2
  rw[h1]at h2
  obtain⟨e1,e2⟩:=flat_inj (qt_or t) _ _ _ _ hv hw h2
  refine⟨?_,e2⟩
  congr 1
  cases s;cases t
  rw[Str.mk.injEq]
  exact Array.ext' e1
 |int b=>have k2:inS sFig c=true:=k2;rcases k1 with rfl|rfl;rw[n1]at k2;cases k2;rw[n2]at k2;cases k2
 |list l=>have k2:c=91:=k2;lia
 |tuple l=>have k2:c=40:=k2;lia
 |_=>exact k2.elim
theorem list_inj{l:List PyData}(hv:Pds l)(hi:∀v∈l,Inj v):Inj (.list l):=by
 intro w hw x y hx hy h
 have hv':Pd (.list l):=hv
 obtain⟨c,k1,k2⟩:=zet hv' hw h
 have k1:c=91:=k1
 subst k1
 cases w with
 |list m=>
  rw[sh_list,sh_list]at h
  simp only[List.cons_append,List.append_assoc,List.nil_append]at h
  injection h with _ h2
  cases l with
  |nil=>
   cases m with
   |nil=>injection h2 with _ h2;exact⟨rfl,h2⟩
   |cons b m=>exact(zf2 hw.1 (.inl rfl) h2.symm).elim
  |cons a l=>
   cases m with
   |nil=>exact(zf2 hv.1 (.inl rfl) h2).elim
   |cons b m=>
    have:=shs_inj l a hi m b hw 93 (.inl rfl) x y h2
    exact⟨by rw[this.1],this.2⟩
 |str t=>rcases k2 with k2|k2<;>cases k2
 |int b=>have k2:inS sFig 91=true:=k2;rw[nofig.2.2.1]at k2;cases k2
 |tuple l=>cases k2
 |_=>exact k2.elim
theorem tuple_inj{l:List PyData}(hv:Pds l)(hi:∀v∈l,Inj v):Inj (.tuple l):=by
 intro w hw x y hx hy h
 have hv':Pd (.tuple l):=hv
 obtain⟨c,k1,k2⟩:=zet hv' hw h
 have k1:c=40:=k1
 subst k1
 cases w with
 |tuple m=>
  rw[zfy,zfy]at h
  simp only[List.cons_append,List.append_assoc,List.nil_append]at h
  injection h with _ h2
  cases l with
  |nil=>
   cases m with
   |nil=>injection h2 with _ h2;exact⟨rfl,h2⟩
   |cons b m=>exact(zf2 hw.1 (.inr rfl) h2.symm).elim
  |cons a l=>
   cases m with
   |nil=>exact(zf2 hv.1 (.inr rfl) h2).elim
   |cons b m=>
    cases l with
    |nil=>
     cases m with
     |nil=>
      obtain⟨e1,e2⟩:=hi a (.head _) b hw.1 _ _ (Df.comma _) (Df.comma _) h2
      injection e2 with _ e2
      injection e2 with _ e2
      exact⟨by rw[e1],e2⟩
     |cons b2 m=>
      rw[ze2]at h2
      obtain⟨_,e2⟩:=hi a (.head _) b hw.1 _ _ (Df.comma _) (Df.comma _) h2
      injection e2 with _ e2
      injection e2 with e2 _
      cases e2
    |cons a2 l=>
     cases m with
     |nil=>
      rw[ze2]at h2
      obtain⟨_,e2⟩:=hi a (.head _) b hw.1 _ _ (Df.comma _) (Df.comma _) h2
      injection e2 with _ e2
      injection e2 with e2 _
      cases e2
     |cons b2 m=>
      rw[ze2,ze2]at h2
      obtain⟨e1,e2⟩:=hi a (.head _) b hw.1 _ _ (Df.comma _) (Df.comma _) h2
      injection e2 with _ e2
      injection e2 with _ e2
      obtain⟨e3,e4⟩:=shs_inj l a2 (fun v hv=>hi v (.tail _ hv)) m b2 hw.2 41 (.inr rfl) x y e2
      exact⟨by rw[e1,e3],e4⟩
 |str t=>rcases k2 with k2|k2<;>cases k2
 |int b=>have k2:inS sFig 40=true:=k2;rw[nofig.2.2.2.1]at k2;cases k2
 |list l=>cases k2
 |_=>exact k2.elim
theorem Pds.mem:∀{l:List PyData}{v:PyData},Pds l→v∈l→Pd v
 |_::_,_,h, .head _=>by exact h.1
 |_::_,_,h, .tail _ q=>by exact Pds.mem h.2 q
theorem zdf:∀{l:List PyData}{v:PyData},v∈l→v.depth≤PyData.depthAll l
 |_::_,_, .head _=>by simp only[PyData.depthAll];lia
 |_::_,_, .tail _ q=>by have:=zdf q;simp only[PyData.depthAll];lia
theorem sh_inj:∀(n:Nat)(v:PyData),v.depth≤n→Pd v→Inj v
 |n, .int a,_,hv=>by exact int_inj hv
 |n, .str s,_,hv=>by exact str_inj hv
 |0, .list l,hn,hv=>by simp only[PyData.depth]at hn;lia
 |n+1, .list l,hn,hv=>by
  simp only[PyData.depth]at hn
  exact list_inj hv fun v h=>sh_inj n v (by have:=zdf h;lia) (hv.mem h)
 |0, .tuple l,hn,hv=>by simp only[PyData.depth]at hn;lia
 |n+1, .tuple l,hn,hv=>by
  simp only[PyData.depth]at hn
  exact tuple_inj hv fun v h=>sh_inj n v (by have:=zdf h;lia) (hv.mem h)
 |_, .none,_,h=>h.elim
 |_, .bool _,_,h=>h.elim
 |_, .dict _,_,h=>h.elim
theorem zgb{v w:PyData}(hv:Pd v)(hw:Pd w)(h:PyData.shown v=PyData.shown w):v=w:=by
 have:sh v++[]=sh w++[]:=by unfold sh;rw[h]
 exact(sh_inj _ v (Nat.le_refl _) hv w hw [] [] (fun _ _ q=>nomatch q) (fun _ _ q=>nomatch q) this).1
noncomputable def tg:PyData→List Nat
 | .tuple (.str s::_)=>s.cps.toList.take 2
 |_=> []
noncomputable def tagE:Ex→List Nat
 | .num _=> [110,117]
 | .text _=> [116,101]
 | .arg _=> [97,114]
 | .own=> [111,119]
 | .name _=> [110,97]
 | .apply _ _=> [97,112]
 | .list _=> [108,105]
 | .one _ _=> [111,110]
 | .two _ _ _=> [116,119]
 | .both _ _=> [98,111]
 | .either _ _=> [101,105]
theorem tg_ps{s:String}{r:List PyData}{l:List Nat}(h:(Str.ofString s).cps.toList.take 2=l):tg (.tuple (ps s::r))=l:=h
theorem tg_e(e:Ex):tg e.py=tagE e:=by
 cases e<;>exact tg_ps (by dsimp only[tagE];decide+kernel)
theorem zdq{e f:Ex}(h:e.py=f.py):tagE e=tagE f:=by rw[←tg_e,←tg_e,h]
noncomputable def fld(i:Nat):PyData→PyData
 | .tuple l=>l.getD i .none
 |v=>v
noncomputable def strOf:PyData→Str
 | .str s=>s
 |_=>default
noncomputable def intOf:PyData→Int
 | .int v=>v
 |_=>0
noncomputable def itemsOf:PyData→List PyData
 | .list l=>l
 |_=> []
theorem fs{a b:PyData}{s t:List Nat}(i:Nat)(h:a=b)(p:fld i a= .str (tx s))(q:fld i b= .str (tx t)):s=t:=tx_inj.mp (congrArg strOf (p.symm.trans ((congrArg (fld i) h).trans q)))
theorem fv{a b:PyData}{v w:Int}(i:Nat)(h:a=b)(p:fld i a= .int v)(q:fld i b= .int w):v=w:=congrArg intOf (p.symm.trans ((congrArg (fld i) h).trans q))
theorem fp{a b c d:PyData}(i:Nat)(h:a=b)(p:fld i a=c)(q:fld i b=d):c=d:=p.symm.trans ((congrArg (fld i) h).trans q)
theorem fl{a b:PyData}{l m:List PyData}(i:Nat)(h:a=b)(p:fld i a= .list l)(q:fld i b= .list m):l=m:=congrArg itemsOf (fp i h p q)
theorem zbo{a b c d:Nat}{p:Prop}(h:[a,b]=[c,d])(q:(Nat.beq a c&&Nat.beq b d)=false):p:=by
 obtain⟨rfl,e⟩:=List.cons.inj h
 obtain⟨rfl,_⟩:=List.cons.inj e
 rw[Nat.beq_refl,Nat.beq_refl]at q
 exact nomatch q
theorem py_inj(e:Ex):∀f:Ex,e.py=f.py→e=f:=Ex.rec (motive_1:=fun e=>∀f:Ex,e.py=f.py→e=f) (motive_2:=fun l=>∀m:List Ex,Ex.pys l=Ex.pys m→l=m)
 (fun v f h=>by
  have q:=zdq h
  cases f with
  |num w=>exact congrArg _ (fv 1 h rfl rfl)
  |_=>exact zbo q rfl)
 (fun v f h=>by
  have q:=zdq h
  cases f with
  |text w=>exact congrArg _ (fs 1 h rfl rfl)
  |_=>exact zbo q rfl)
 (fun v f h=>by
  have q:=zdq h
  cases f with
  |arg w=>exact congrArg _ (fv 1 h rfl rfl)
  |_=>exact zbo q rfl)
 (fun f h=>by
  have q:=zdq h
  cases f with
  |own=>rfl
  |_=>exact zbo q rfl)
 (fun v f h=>by
  have q:=zdq h
  cases f with
  |name w=>exact congrArg _ (fs 1 h rfl rfl)
  |_=>exact zbo q rfl)
 (fun w l A f h=>by
  have q:=zdq h
  cases f with
  |apply x m=>exact congr (congrArg _ (fs 1 h rfl rfl)) (A m (fl 2 h rfl rfl))
  |_=>exact zbo q rfl)
 (fun l A f h=>by
  have q:=zdq h
  cases f with
  |list m=>exact congrArg _ (A m (fl 1 h rfl rfl))
  |_=>exact zbo q rfl)
 (fun s x A f h=>by
  have q:=zdq h
  cases f with
  |one t y=>exact congr (congrArg _ (fs 1 h rfl rfl)) (A y (fp 2 h rfl rfl))
  |_=>exact zbo q rfl)
 (fun s x y A B f h=>by
  have q:=zdq h
  cases f with
  |two t u v=>exact congr (congr (congrArg _ (fs 1 h rfl rfl)) (A u (fp 2 h rfl rfl))) (B v (fp 3 h rfl rfl))
  |_=>exact zbo q rfl)
 (fun x y A B f h=>by
  have q:=zdq h
  cases f with
  |both u v=>exact congr (congrArg _ (A u (fp 1 h rfl rfl))) (B v (fp 2 h rfl rfl))
  |_=>exact zbo q rfl)
 (fun x y A B f h=>by
  have q:=zdq h
  cases f with
  |either u v=>exact congr (congrArg _ (A u (fp 1 h rfl rfl))) (B v (fp 2 h rfl rfl))
  |_=>exact zbo q rfl)
 (fun m h=>by
  cases m with
  |nil=>rfl
  |cons=>exact nomatch h)
 (fun x l A B m h=>by
  cases m with
  |nil=>exact nomatch h
  |cons y m=>exact congr (congrArg _ (A y (List.cons.inj h).1)) (B m (List.cons.inj h).2)) e
noncomputable def tagS:Stm→List Nat
 | .set _=> [115,101]
 | .name _ _=> [110,97]
 | .call _=> [99,97]
 | .word _=> [119,111]
 | .whl _ _=> [119,104]
 | .ifs _ _ _=> [105,102]
theorem tg_s(e:Stm):tg e.py=tagS e:=by
 cases e<;>exact tg_ps (by dsimp only[tagS];decide+kernel)
theorem ze8{e f:Stm}(h:e.py=f.py):tagS e=tagS f:=by rw[←tg_s,←tg_s,h]
theorem spy_inj(e:Stm):∀f:Stm,e.py=f.py→e=f:=Stm.rec (motive_1:=fun e=>∀f:Stm,e.py=f.py→e=f) (motive_2:=fun l=>∀m:List Stm,Stm.pys l=Stm.pys m→l=m)
 (fun x f h=>by
  have q:=ze8 h
  cases f with
  |set y=>exact congrArg _ (py_inj x y (fp 1 h rfl rfl))
  |_=>exact zbo q rfl)
 (fun s x f h=>by
  have q:=ze8 h
  cases f with
  |name t y=>exact congr (congrArg _ (fs 1 h rfl rfl)) (py_inj x y (fp 2 h rfl rfl))
  |_=>exact zbo q rfl)
 (fun x f h=>by
  have q:=ze8 h
  cases f with
  |call y=>exact congrArg _ (py_inj x y (fp 1 h rfl rfl))
  |_=>exact zbo q rfl)
 (fun s f h=>by
  have q:=ze8 h
  cases f with
  |word t=>exact congrArg _ (fs 1 h rfl rfl)
  |_=>exact zbo q rfl)
 (fun x l A f h=>by
  have q:=ze8 h
  cases f with
  |whl y m=>exact congr (congrArg _ (py_inj x y (fp 1 h rfl rfl))) (A m (fl 2 h rfl rfl))
  |_=>exact zbo q rfl)
 (fun x l k A B f h=>by
  have q:=ze8 h
  cases f with
  |ifs y m n=>exact congr (congr (congrArg _ (py_inj x y (fp 1 h rfl rfl))) (A m (fl 2 h rfl rfl))) (B n (fl 3 h rfl rfl))
  |_=>exact zbo q rfl)
 (fun m h=>by
  cases m with
  |nil=>rfl
  |cons=>exact nomatch h)
 (fun x l A B m h=>by
  cases m with
  |nil=>exact nomatch h
  |cons y m=>exact congr (congrArg _ (A y (List.cons.inj h).1)) (B m (List.cons.inj h).2)) e
theorem spys_inj(l:List Stm):∀m:List Stm,Stm.pys l=Stm.pys m→l=m:=by
 induction l with
 |nil=>
  intro m h
  cases m with
  |nil=>rfl
  |cons=>exact nomatch h
 |cons x l ih=>
  intro m h
  cases m with
  |nil=>exact nomatch h
  |cons y m=>exact congr (congrArg _ (spy_inj x y (List.cons.inj h).1)) (ih m (List.cons.inj h).2)
theorem lpy_inj{l m:List Stm}(h:lpy l=lpy m):l=m:=by
 unfold lpy at h
 injection h with h
 exact spys_inj _ _ h
theorem sum_snoc{α:Type}(f:α→Nat)(x:List α)(a:α):((x++[a]).map f).sum=(x.map f).sum+f a:=by
 rw[List.map_append,List.sum_append];rfl
theorem join_cases(s:List Nat)(a b:Ex):(s=[124,124]∧joinE s a b= .either a b)∨(s=[38,38]∧joinE s a b= .both a b)∨joinE s a b= .two s a b:=by
 unfold joinE
 by_cases h:s=[124,124]
 ·rw[if_pos h];exact .inl ⟨h,rfl⟩
 rw[if_neg h]
 by_cases h2:s=[38,38]
 ·rw[if_pos h2];exact .inr (.inl ⟨h2,rfl⟩)
 rw[if_neg h2];exact .inr (.inr rfl)
theorem max_wt{a b x y z:Nat}(h:a≤x+1)(g:b≤y+1)(q:1≤z):max a b+1≤x+(z+y)+1:=Nat.succ_le_succ (Nat.max_le.mpr ⟨by lia,by lia⟩)
theorem nestn1{t:TK}(h:nest t=true):1≤nestn t:=Nat.le_of_eq (if_pos h).symm
theorem kn_pk(b:Bool)(l:List TK):kn l≤kn (pk b l):=(wt_pk b l).1
theorem hgt_two{a b:Ex}{s:List Nat}{p q:Bool}(h:hgt a≤kn (tkE a)+1)(g:hgt b≤kn (tkE b)+1)(n:nest (.sign s)=true):max (hgt a) (hgt b)+1≤kn (pk p (tkE a)++ .sign s::pk q (tkE b))+1:=
 Nat.le_trans (max_wt h g (nestn1 n)) (Nat.succ_le_succ (Nat.le_trans (Nat.add_le_add (kn_pk p _) (Nat.add_le_add_left (kn_pk q _) _)) (Nat.le_of_eq (zbb (k:=nestn) (pk p (tkE a)) (.sign s::pk q (tkE b))).symm)))
theorem kn_in(x:TK){y:TK}(l:List TK)(h:nest x=true){n:Nat}(g:n≤kn l+1):n+1≤kn (x::(l++[y]))+1:=
 Nat.succ_le_succ (Nat.le_trans g (Nat.le_trans (Nat.le_of_eq (Nat.add_comm _ _)) (Nat.add_le_add (nestn1 h) (Nat.le_trans (Nat.le_add_right _ _) (Nat.le_of_eq (zbb _ _).symm)))))
theorem kn_up{n:Nat}(x:TK){l:List TK}(h:n≤kn l+1):n≤kn (x::l)+1:=Nat.le_trans h (Nat.succ_le_succ (Nat.le_add_left _ _))
theorem kn_l(l m:List TK):kn l≤kn (l++m):=Nat.le_trans (Nat.le_add_right _ _) (Nat.le_of_eq (zbb l m).symm)
theorem kn_r(l m:List TK):kn m≤kn (l++m):=Nat.le_trans (Nat.le_add_left _ _) (Nat.le_of_eq (zbb l m).symm)
theorem kn_rc(l:List TK)(x:TK)(m:List TK):kn m≤kn (l++x::m):=Nat.le_trans (Nat.le_add_left _ _) (kn_r l (x::m))
theorem ze0{n:Nat}:1≤n+1:=Nat.le_add_left _ _
theorem hgt_kn(e:Ex):VE e→hgt e≤kn (tkE e)+1:=Ex.rec (motive_1:=fun e=>VE e→hgt e≤kn (tkE e)+1) (motive_2:=fun l=>VEs l→hgts l≤kn (zat (tkEs l))+1)
 (fun _ _=>ze0) (fun _ _=>ze0) (fun _ _=>ze0) (fun _=>ze0) (fun _ _=>ze0)
 (fun w l h v=>kn_up (.name w) (kn_in (.sign [40]) (zat (tkEs l)) (by decide+kernel) (h v.2))) (fun l h v=>kn_in (.sign [91]) (zat (tkEs l)) (by decide+kernel) (h v))
 (fun s e h v=>Nat.succ_le_succ (Nat.le_trans (h v.2) (Nat.le_trans (Nat.le_of_eq (Nat.add_comm _ _)) (Nat.add_le_add (nestn1 (v.1.elim (fun q=>q▸by decide+kernel) fun q=>q▸by decide+kernel)) (kn_pk _ _)))))
 (fun s a b h g v=>hgt_two (h v.2.1) (g v.2.2) (nest_lvl fun q=>absurd (q▸(lvl_ops s v.1).1) (by decide)))
 (fun a b h g v=>hgt_two (h v.1) (g v.2) (by decide+kernel)) (fun a b h g v=>hgt_two (h v.1) (g v.2) (by decide+kernel))
 (fun _=>Nat.zero_le _) (fun e l h g v=>Nat.max_le.mpr (by
  cases l with
  |nil=>exact⟨h v.1,Nat.zero_le _⟩
  |cons e2 l=>exact⟨Nat.le_trans (h v.1) (Nat.succ_le_succ (kn_l _ _)),Nat.le_trans (g v.2) (Nat.succ_le_succ (kn_rc (tkE e) (.sign [44]) (zat (tkEs (e2::l)))))⟩)) e
theorem kn_blk{n:Nat}{l:List TK}(h:n≤kn l+2):n+1≤kn (blk l)+2:=Nat.succ_le_succ (Nat.le_trans h (Nat.succ_le_succ (Nat.le_trans (Nat.le_of_eq (Nat.add_comm _ _)) (Nat.add_le_add (show 1≤nestn (.sign [123])from nestn1 (by decide+kernel)) (kn_l _ _)))))
theorem shgt_kn(s:Stm):VS s→s.hgt≤kn (tkS s)+2:=Stm.rec (motive_1:=fun s=>VS s→s.hgt≤kn (tkS s)+2) (motive_2:=fun l=>VSs l→Stm.hgts l≤kn (tkA l)+2)
 (fun e v=>Nat.succ_le_succ (Nat.le_trans (hgt_kn e v) (Nat.succ_le_succ (Nat.le_trans (Nat.le_add_left _ _) (Nat.le_add_left _ _)))))
 (fun s e v=>Nat.succ_le_succ (Nat.le_trans (hgt_kn e v.2) (Nat.succ_le_succ (Nat.le_trans (Nat.le_add_left _ _) (Nat.le_add_left _ _)))))
 (fun e v=>Nat.succ_le_succ (hgt_kn e v)) (fun _ _=>Nat.le_add_left _ _)
 (fun e l h v=>Nat.succ_le_succ (Nat.max_le.mpr ⟨Nat.le_trans (hgt_kn e v.1) (Nat.succ_le_succ (Nat.le_trans (kn_l _ (.sign [41]::blk (tkA l))) (Nat.le_trans (Nat.le_add_left _ _) (Nat.le_add_left _ _)))),Nat.le_of_succ_le_succ (Nat.le_trans (kn_blk (h v.2)) (Nat.add_le_add_right (Nat.le_trans (kn_rc (tkE e) (.sign [41]) (blk (tkA l))) (Nat.le_trans (Nat.le_add_left _ _) (Nat.le_add_left _ _))) 2))⟩))
 (fun e l m h g v=>by
  rw[tkS_if]
  have up:∀x:List TK,kn x≤kn (.name ifL:: .sign [40]::x):=fun x=>Nat.le_trans (Nat.le_add_left _ _) (Nat.le_add_left _ _)
  refine Nat.succ_le_succ (Nat.max_le.mpr ⟨Nat.max_le.mpr ⟨Nat.le_trans (hgt_kn e v.1) (Nat.succ_le_succ (Nat.le_trans (kn_l _ _) (up _))),?_⟩,?_⟩)
  ·exact Nat.le_of_succ_le_succ (Nat.le_trans (kn_blk (h v.2.1)) (Nat.add_le_add_right (Nat.le_trans (kn_l _ (elp m)) (Nat.le_trans (kn_rc (tkE e) (.sign [41]) _) (up _))) 2))
  ·cases m with
   |nil=>exact Nat.zero_le _
   |cons s m=>exact Nat.le_of_succ_le_succ (Nat.le_trans (kn_blk (g v.2.2)) (Nat.add_le_add_right (Nat.le_trans (kn_rc (blk (tkA l)) (.name elseL) _) (Nat.le_trans (kn_rc (tkE e) (.sign [41]) _) (up _))) 2)))
 (fun _=>Nat.zero_le _) (fun s l h g v=>Nat.max_le.mpr (by
  cases l with
  |nil=>exact⟨h v.1,Nat.zero_le _⟩
  |cons s2 l=>exact⟨Nat.le_trans (h v.1) (Nat.add_le_add_right (kn_l _ _) 2),Nat.le_trans (g v.2) (Nat.add_le_add_right (kn_rc (tkS s) (.sign [59]) (tkA (s2::l))) 2)⟩)) s
theorem shgts_kn(l:List Stm)(v:VSs l):Stm.hgts l≤kn (tkA l)+2:=by
 induction l with
 |nil=>exact Nat.zero_le _
 |cons s l ih=>
  refine Nat.max_le.mpr ?_
  cases l with
  |nil=>exact⟨shgt_kn s v.1,Nat.zero_le _⟩
  |cons s2 l=>exact⟨Nat.le_trans (shgt_kn s v.1) (Nat.add_le_add_right (kn_l _ _) 2),Nat.le_trans (ih v.2) (Nat.add_le_add_right (kn_rc (tkS s) (.sign [59]) (tkA (s2::l))) 2)⟩
noncomputable def nw(c:Nat):Nat:=if [40,91,123,45,33,43,42,47,37,60,62,61,38,124].contains c=true then 1 else 0
theorem nest_nw:∀(t:TK)(u:List Nat),TkU t u→nestn t≤(u.map nw).sum:=by
 intro t u h
 show(if nest t=true then 1 else 0)≤_
 cases t with
 |sign w=>
  obtain⟨rfl,h|⟨c,rfl,h⟩⟩:=h
  ·have:∀w∈twos,1≤(w.map nw).sum:=by decide+kernel
   have:=this _ h
   split<;>lia
  ·have h1:=inS_one h
   have:∀c∈[43,45,42,47,37,33,60,62,61,59,44,40,41,123,125,91,93],(if nest (.sign [c])=true then 1 else 0)≤(([c]:List Nat).map nw).sum:=by decide+kernel
   exact this c h1
 |_=>exact Nat.zero_le _
theorem low_scan{t:List Nat}{ts:List TK}(hl:t.length≤4300)(h:pScan t=some ts):kn ts≤(t.map nw).sum:=pScan_ms (L:=4300) (Nat.le_refl _) (P:=fun _=>True) (k:=nestn) (w:=nw) rfl (fun t u _ _ h=>nest_nw t u h) hl (fun _ _=>trivial) h
theorem low_no{n:Nat}{t:List Nat}(hl:t.length≤4300)(hn:4*(t.map nw).sum+8≤n):zal n t≠ .oof:=parse_no fun _ hs=>Nat.le_trans (Nat.add_le_add_right (Nat.mul_le_mul_left 4 (low_scan hl hs)) 8) hn
theorem low_kn{n:Nat}{t:List Nat}{l:List Stm}(hl:t.length≤4300)(h:zal n t= .ok l):kn (tkA l)≤(t.map nw).sum:=by
 obtain⟨ts,hs,g⟩:=fewest (k:=nestn) (by decide+kernel) (by decide+kernel) h
 exact Nat.le_trans g (low_scan hl hs)
noncomputable def sm(g:Nat→Nat)(x:List Nat):Nat:=(x.map g).sum
theorem zaj(g:Nat→Nat)(x y:List Nat):sm g (x++y)=sm g x+sm g y:=by unfold sm;rw[List.map_append,List.sum_append]
theorem zae(g:Nat→Nat)(c:Nat)(y:List Nat):sm g (c::y)=g c+sm g y:=by unfold sm;rw[List.map_cons,List.sum_cons]
theorem zax(g:Nat→Nat):sm g []=0:=rfl
noncomputable def plains:List Nat:=[32,34,36,38,40,41,44,59,61,91,93,123,124,125]
section
variable{g:Nat→Nat}{z:Nat}(hg:∀c∈plains,g c=z)
include hg
theorem sm_brk(b:Bool)(x:List Nat):sm g (brk b x)≤sm g x+2*z:=by
 cases b
 ·show sm g ([40]++x++[41])≤_
  rw[zaj,zaj,zae,zae,zax,hg 40 (by decide),hg 41 (by decide)];lia
 ·exact Nat.le_add_right _ _
theorem sm_items:∀l:List Ex,sm g (joinL [44,32] (shEs l))≤(l.map fun x=>sm g (shE x)+2*z).sum
 | []=>Nat.zero_le _
 | [x]=>by rw[shEs,shEs,joinL,List.map_cons,List.sum_cons];lia
 |x::y::r=>by
  have ih:=sm_items (y::r)
  rw[shEs,shEs,joinL,←shEs,List.map_cons,List.sum_cons,zaj,zaj,zae,zae,zax,hg 44 (by decide),hg 32 (by decide)]
  lia
theorem sm_stms:∀l:List Stm,sm g (shA l)≤(l.map fun x=>sm g (shS x)+2*z).sum
 | []=>Nat.zero_le _
 | [x]=>by rw[List.map_cons,List.sum_cons];show sm g (shS x)≤_;lia
 |x::y::r=>by
  have ih:=sm_stms (y::r)
  rw[shA_cons,List.map_cons,List.sum_cons,zaj,zaj,zae,zae,zax,hg 59 (by decide),hg 32 (by decide)]
  lia
theorem zf4(l:List Stm):sm g (shB l)≤(l.map fun x=>sm g (shS x)+2*z).sum+4*z:=by
 cases l with
 |nil=>
  show sm g [123,32,125]≤_
  rw[zae,zae,zae,zax,hg 123 (by decide),hg 32 (by decide),hg 125 (by decide)];lia
 |cons s r=>
  have:=sm_stms hg (s::r)
  show sm g ([123,32]++shA (s::r)++[32,125])≤_
  rw[zaj,zaj,zae,zae,zae,zae,zax,hg 123 (by decide),hg 32 (by decide),hg 125 (by decide)];lia
noncomputable def mW:Ms where
 k:=fun
  | .num v=>sm g (dec v)+2*z
  | .text s=>sm g (escs s)+4*z
  | .arg v=>sm g (dec v)+3*z
  | .own=>4*z
  | .name s=>sm g s+2*z
  | .sign w=>sm g w+5*z
  | .fin=>0
 e x:=sm g (shE x)+2*z
 l x:=(x.map fun x=>sm g (shE x)+2*z).sum
 s x:=sm g (shS x)+2*z
 b x:=(x.map fun x=>sm g (shS x)+2*z).sum
 join s x y h:=by
  have h38:=hg 38 (by decide)
  have h124:=hg 124 (by decide)
  have h32:=hg 32 (by decide)
  have b1:=fun b=>sm_brk hg b (shE x)
  have b2:=fun b=>sm_brk hg b (shE y)
  rcases join_cases s x y with⟨rfl,e⟩|⟨rfl,e⟩|e
  ·rw[e,shE]
   have b1:=b1 (decide (1≤lev x))
   have b2:=b2 (decide (2≤lev y))
   simp only[zaj,zae,zax,h38,h124,h32]
   lia
  ·rw[e,shE]
   have b1:=b1 (decide (2≤lev x))
   have b2:=b2 (decide (3≤lev y))
   simp only[zaj,zae,zax,h38,h124,h32]
   lia
  ·rw[e,shE]
   have b1:=b1 (decide ((if lvl s=3 then lvl s+1 else lvl s)≤lev x))
   have b2:=b2 (decide (lvl s+1≤lev y))
   simp only[zaj,zae,zax,h32]
   lia
 one s x h:=by
  have b1:=sm_brk hg (decide (6≤lev x)) (shE x)
  rw[shE,zaj]
  dsimp only;lia
 num v:=by rw[shE];exact Nat.le_refl _
 text v:=by
  rw[shE,zaj,zaj,zae,zax,hg 34 (by decide)];dsimp only;lia
 arg v:=by rw[shE,zaj,zae,zax,hg 36 (by decide)];dsimp only;lia
 own:=by rw[shE,zae,zae,zax,hg 36 (by decide)];dsimp only;lia
 name v _:=by rw[shE];exact Nat.le_refl _
 app w x _:=by
  have:=sm_items hg x
  rw[shE,zaj,zaj,zaj,zae,zae,zax,hg 40 (by decide),hg 41 (by decide)];(try dsimp only);lia
 lis x:=by
  have:=sm_items hg x
  rw[shE,zaj,zaj,zae,zae,zax,hg 91 (by decide),hg 93 (by decide)];(try dsimp only);lia
 nil:=rfl
 snoc x a:=by rw[sum_snoc];exact Nat.le_refl _
 set a:=by
  rw[shS,zaj]
  simp only[zae,zax,hg 36 (by decide),hg 32 (by decide),hg 61 (by decide)];(try dsimp only);lia
 nm w a _:=by
  rw[shS,zaj,zaj]
  simp only[zae,zax,hg 32 (by decide),hg 61 (by decide)];(try dsimp only);lia
 call a:=by rw[shS];exact Nat.le_refl _
 word w _:=by rw[shS];exact Nat.le_refl _
 whl a x:=by
  have:=zf4 hg x
  rw[zhd]
  simp only[zaj,zae,zax,hg 32 (by decide),hg 40 (by decide),hg 41 (by decide),hg 123 (by decide),hg 125 (by decide)];(try dsimp only);lia
 ifs a x:=by
  have:=zf4 hg x
  rw[zek]
  simp only[zaj,zae,zax,hg 32 (by decide),hg 40 (by decide),hg 41 (by decide),hg 123 (by decide),hg 125 (by decide)];(try dsimp only);lia
 ife a x y:=by
  have:=zf4 hg x
  rw[zek]
  cases y with
  |nil=>simp only[zaj,zae,zax,hg 32 (by decide),hg 40 (by decide),hg 41 (by decide),hg 123 (by decide),hg 125 (by decide)];(try dsimp only);lia
  |cons s r=>
   have:=zf4 hg (s::r)
   simp only[zaj,zae,zax,hg 32 (by decide),hg 40 (by decide),hg 41 (by decide),hg 123 (by decide),hg 125 (by decide)];(try dsimp only);lia
 bnil:=rfl
 bsnoc x a:=by rw[sum_snoc];exact Nat.le_refl _
theorem zfq{w:Nat→Nat}{P:Nat→Prop}{L:Nat}(hL:L≤4300)(hk:∀t u,u.length≤L→(∀c∈u,P c)→TkU t u→(mW hg).k t≤(u.map w).sum){n:Nat}{t:List Nat}{l:List Stm}(hl:t.length≤L)(hP:∀c∈t,P c)(h:zal n t= .ok l):sm g (shA l)≤(t.map w).sum:=
 Nat.le_trans (sm_stms hg l) (parse_ms (mW hg) hL rfl hk hl hP h)
end
theorem zgf:∀(u:List Nat)(a:Nat),(∀c∈u,inS sFig c=true)→u.foldl (fun acc c=>acc*10+(c-48)) a<(a+1)*10^u.length
 | [],a,_=>by show a<(a+1)*1;lia
 |c::u,a,h=>by
  have hc:=h c (.head _)
  rw[zg5,Bool.and_eq_true,decide_eq_true_iff,decide_eq_true_iff]at hc
  have ih:=zgf u (a*10+(c-48)) fun d hd=>h d (.tail _ hd)
  rw[List.foldl_cons,List.length_cons,Nat.pow_succ]
  refine Nat.lt_of_lt_of_le ih ?_
  rw[Nat.mul_comm (10^u.length) 10,←Nat.mul_assoc]
  exact Nat.mul_le_mul_right _ (by lia)
theorem dec_len{u:List Nat}(h:∀c∈u,inS sFig c=true)(hn:u≠ []):(dec (PySem.NumText.digitsVal u:Nat)).length≤u.length:=by
 have h1:=zgf u 0 h
 unfold dec
 rw[KIN.signs_num,List.length_map]
 refine(Nat.length_toDigits_le_iff (by decide) (List.length_pos_iff.mpr hn)).mpr ?_
 unfold PySem.NumText.digitsVal
 lia
theorem log_lt{u:List Nat}(h:∀c∈u,inS sFig c=true)(hl:u.length≤570):(PySem.NumText.digitsVal u).log2<1920:=by
 have h1:=zgf u 0 h
 have h2:10^u.length≤10^570:=Nat.pow_le_pow_right (by decide) hl
 have h3:(10:Nat)^570≤2^1920:=by decide+kernel
 have h4:PySem.NumText.digitsVal u<2^1920:=by unfold PySem.NumText.digitsVal;lia
 by_cases h0:PySem.NumText.digitsVal u=0
 ·rw[h0];decide
 ·exact(Nat.log2_lt h0).mpr h4
theorem esc_len4(c:Nat):(esc c).length≤4:=by
 unfold esc
 repeat' split
 all_goals simp
theorem qt_len{s q:List Nat}(h:Qt s q):(escs s).length≤4*q.length∧s.length+1≤q.length:=by
 induction h with
 |fin=>exact⟨by show 0≤_;lia,Nat.le_refl _⟩
 | @raw c s q _ _ _ ih=>
  have:=esc_len4 c
  rw[escs,List.length_append,List.length_cons,List.length_cons];lia
 | @esc c d w s q _ _ ih=>
  have:=esc_len4 d
  rw[escs,List.length_append,List.length_cons,List.length_cons,List.length_cons,List.length_append];lia
theorem sm_one(x:List Nat):sm (fun _=>1) x=x.length:=by
 unfold sm
 induction x with
 |nil=>rfl
 |cons c x ih=>rw[List.map_cons,List.sum_cons,ih,List.length_cons];lia
theorem zdi(k:Nat)(x:List Nat):(x.map fun _=>k).sum=k*x.length:=by
 induction x with
 |nil=>rfl
 |cons c x ih=>rw[List.map_cons,List.sum_cons,ih,List.length_cons,Nat.mul_succ];lia
theorem nm_pos{s:List Nat}(h:isNm s):1≤s.length:=by
 obtain⟨c,y,rfl,_⟩:=h
 rw[List.length_cons];lia
theorem sg_pos{w:List Nat}(h:w∈twos∨∃c,w=[c]∧inS sOne c=true):1≤w.length:=by
 rcases h with h|⟨c,rfl,_⟩
 ·have:∀w∈twos,1≤w.length:=by decide
  exact this _ h
 ·exact Nat.le_refl _
theorem shown_len{n:Nat}{t:List Nat}{l:List Stm}(hl:t.length≤4300)(h:zal n t= .ok l):(shA l).length≤6*t.length:=by
 have:=zfq (g:=fun _=>1) (z:=1) (fun _ _=>rfl) (w:=fun _=>6) (P:=fun _=>True) (Nat.le_refl 4300) ?_ hl (fun _ _=>trivial) h
 ·rw[sm_one,zdi]at this;exact this
 intro t u _ _ h
 rw[zdi]
 cases t with
 |num v=>
  obtain⟨h1,h2,rfl,_⟩:=h
  have:=dec_len h1 h2
  have h3:=List.length_pos_iff.mpr h2
  show sm (fun _=>1) _+2*1≤_
  rw[sm_one];lia
 |arg v=>
  obtain⟨f,rfl,h1,h2,rfl⟩:=h
  have:=dec_len h1 h2
  show sm (fun _=>1) _+3*1≤_
  rw[sm_one,List.length_cons];lia
 |own=>
  have h:u=[36,36]:=h
  subst h
  show 4*1≤6*2;lia
 |name s=>
  obtain⟨rfl,h⟩:=h
  have:=nm_pos h
  show sm (fun _=>1) _+2*1≤_
  rw[sm_one];lia
 |text s=>
  obtain⟨q,rfl,h⟩:=h
  have:=qt_len h
  show sm (fun _=>1) _+4*1≤_
  rw[sm_one,List.length_cons];lia
 |sign w=>
  obtain⟨rfl,h⟩:=h
  have:=sg_pos h
  show sm (fun _=>1) _+5*1≤_
  rw[sm_one];lia
 |fin=>exact h.elim
noncomputable def dgw(c:Nat):Nat:=if inS sFig c=true then 1 else 0
theorem dgw_le(c:Nat):dgw c≤1:=by unfold dgw;split<;>lia
theorem sm_dgw(x:List Nat):sm dgw x≤x.length:=by
 unfold sm
 induction x with
 |nil=>exact Nat.le_refl _
 |cons c x ih=>
  have:=dgw_le c
  rw[List.map_cons,List.sum_cons,List.length_cons];lia
theorem esc_dg(c:Nat):sm dgw (esc c)≤2∧(32≤c→c≤126→sm dgw (esc c)≤1):=by
 have n92:dgw 92=0:=by decide+kernel
 have n120:dgw 120=0:=by decide+kernel
 unfold esc
 split
 ·have:sm dgw [92,110]=0:=by decide+kernel
  rw[this];exact⟨by lia,fun _ _=>by lia⟩
 split
 ·have:sm dgw [92,116]=0:=by decide+kernel
  rw[this];exact⟨by lia,fun _ _=>by lia⟩
 have hc:=dgw_le c
 split
 ·rw[zae,zae,zax,n92];exact⟨by lia,fun _ _=>by lia⟩
 split
 ·rename_i h
  have h1:=dgw_le (fig (c/16))
  have h2:=dgw_le (fig (c % 16))
  rw[zae,zae,zae,zae,zax,n92,n120]
  exact⟨by lia,fun a b=>by lia⟩
 ·rw[zae,zax];exact⟨by lia,fun _ _=>by lia⟩
theorem qt_dg{s q:List Nat}(h:Qt s q):(∀c∈q,32≤c∧c≤126)→sm dgw (escs s)+1≤q.length:=by
 induction h with
 |fin=>intro _;exact Nat.le_refl _
 | @raw c s q _ _ _ ih=>
  intro hp
  have h1:=(esc_dg c).2 (hp c (.head _)).1 (hp c (.head _)).2
  have:=ih fun d hd=>hp d (.tail _ hd)
  rw[escs,zaj,List.length_cons];lia
 | @esc c d w s q _ _ ih=>
  intro hp
  have h1:=(esc_dg d).1
  have:=ih fun e he=>hp e (.tail _ (.tail _ (List.mem_append_right _ he)))
  rw[escs,zaj,List.length_cons,List.length_cons,List.length_append];lia
theorem plain_dg:∀c∈plains,dgw c=0:=by decide+kernel
theorem shown_figs{n:Nat}{t:List Nat}{l:List Stm}(hl:t.length≤4300)(hp:∀c∈t,32≤c∧c≤126)(h:zal n t= .ok l):sm dgw (shA l)≤t.length:=by
 have:=zfq plain_dg (w:=fun _=>1) (P:=fun c=>32≤c∧c≤126) (Nat.le_refl 4300) ?_ hl hp h
 ·rw[zdi]at this;lia
 intro t u _ hp h
 rw[zdi]
 cases t with
 |num v=>
  obtain⟨h1,h2,rfl,_⟩:=h
  have:=dec_len h1 h2
  have:=sm_dgw (dec (PySem.NumText.digitsVal u:Nat))
  show sm dgw _+2*0≤_
  lia
 |arg v=>
  obtain⟨f,rfl,h1,h2,rfl⟩:=h
  have:=dec_len h1 h2
  have:=sm_dgw (dec (PySem.NumText.digitsVal f:Nat))
  show sm dgw _+3*0≤_
  rw[List.length_cons];lia
 |own=>exact Nat.zero_le _
 |name s=>
  obtain⟨rfl,h⟩:=h
  have:=sm_dgw u
  show sm dgw _+2*0≤_
  lia
 |text s=>
  obtain⟨q,rfl,h⟩:=h
  have:=qt_dg h fun c hc=>hp c (.tail _ hc)
  show sm dgw _+4*0≤_
  rw[List.length_cons];lia
 |sign w=>
  obtain⟨rfl,h⟩:=h
  have:=sm_dgw u
  show sm dgw _+5*0≤_
  lia
 |fin=>exact h.elim
theorem sm_sub{g:Nat→Nat}{x y:List Nat}(h:x.Sublist y):sm g x≤sm g y:=by
 induction h with
 |slnil=>exact Nat.le_refl _
 |cons a _ ih=>rw[zae];lia
 |cons_cons a _ ih=>rw[zae,zae];lia
theorem dig_of{t:List Nat}(h:sm dgw t≤640):Dig t:=by
 intro j r a
 have h1:r.takeWhile (inS sFig)|>.Sublist t:=by
  have:=a.2
  rw[←this]
  exact(List.takeWhile_sublist _).trans (List.drop_sublist _ _)
 have h2:=sm_sub (g:=dgw) h1
 have h3:∀x:List Nat,(∀c∈x,inS sFig c=true)→sm dgw x=x.length:=by
  intro x hx
  induction x with
  |nil=>rfl
  |cons c x ih=>
   rw[zae,ih fun d hd=>hx d (.tail _ hd),List.length_cons]
   unfold dgw
   rw[if_pos (hx c (.head _))];lia
 have:=h3 _ (tw_mem (p:=inS sFig) (r:=r))
 lia
theorem shown_fit{n:Nat}{t:List Nat}{l:List Stm}(hl:t.length≤640)(hp:∀c∈t,32≤c∧c≤126)(h:zal n t= .ok l):Fit (shA l):=by
 have h1:=shown_len (by lia) h
 have h2:=shown_figs (by lia) hp h
 exact⟨by lia,dig_of (by lia)⟩
open Classical in
noncomputable def ind(p:Prop):Nat:=if p then 0 else 1
theorem zbg{p:Prop}{n:Nat}(h:n=0→p):ind p≤n:=by
 unfold ind
 split
 ·exact Nat.zero_le _
 ·rename_i q
  exact Nat.one_le_iff_ne_zero.mpr fun z=>q (h z)
theorem ind_z{p:Prop}(h:ind p=0):p:=by
 unfold ind at h
 split at h
 ·assumption
 ·cases h
theorem ind_0{p:Prop}(h:p):ind p=0:=by unfold ind;rw[if_pos h]
structure VX(e:Ex):Prop where
 v:VE e
 k:e.Ok
 d:Pd e.py
structure VXl(l:List Ex):Prop where
 v:VEs l
 k:Ex.Oks l
 d:Pds (Ex.pys l)
structure VXs(e:Stm):Prop where
 v:VS e
 k:e.Ok
 d:Pd e.py
structure VXb(l:List Stm):Prop where
 v:VSs l
 k:Stm.Oks l
 d:Pds (Stm.pys l)
noncomputable def TV:TK→Prop
 | .num v=>0≤v∧bits v≤512
 | .text s=>∀c∈s,c<512
 | .arg v=>0≤v∧v.natAbs.log2<1920
 | .name s=>isNm s
 |_=>True
theorem pd_str{s:Str}(h:s.cps.toList.all (fun c=>decide (c<512))=true):Pd (.str s):=by
 exact fun c hc=>of_decide_eq_true (List.all_eq_true.mp h c hc)
theorem pd_tx{s:List Nat}(h:∀c∈s,c<512):Pd (.str (tx s)):=by
 exact h
theorem nm_lt{s:List Nat}(h:isNm s):∀c∈s,c<512:=by
 obtain⟨c,y,rfl,h1,_⟩:=h
 intro d hd
 have h2:=List.all_eq_true.mp h1 d hd
 have h3:∀x∈sName.cps.toList,x<512:=by decide+kernel
 unfold inS at h2
 exact h3 d (List.contains_iff_mem.mp h2)
theorem lvl_sign{w:List Nat}(h:lvl w≠0):w∈ops∨w=[124,124]∨w=[38,38]:=by
 have key:∀p∈zdd,p.1.cps.toList∈ops∨p.1.cps.toList=[124,124]∨p.1.cps.toList=[38,38]:=by decide+kernel
 unfold lvl at h
 have g:∀(l:List (Str×Int)),(l.lookup (tx w)).getD 0≠0→∃p∈l,p.1=tx w:=by
  intro l
  induction l with
  |nil=>intro h;exact absurd rfl h
  |cons p l ih=>
   intro h
   obtain⟨a,b⟩:=p
   rw[List.lookup_cons]at h
   split at h
   ·rename_i q;exact⟨_, .head _,(beq_iff_eq.mp q).symm⟩
   ·obtain⟨p,h1,h2⟩:=ih h;exact⟨p, .tail _ h1,h2⟩
 obtain⟨p,h1,h2⟩:=g _ h
 have:=key p h1
 rwa [h2,zah]at this
theorem ops_lt:∀s∈ops,∀c∈s,c<512:=by decide+kernel
theorem pds2{a b:PyData}(h1:Pd a)(h2:Pd b):Pd (.tuple [a,b]):=⟨h1,h2,trivial⟩
theorem pds3{a b c:PyData}(h1:Pd a)(h2:Pd b)(h3:Pd c):Pd (.tuple [a,b,c]):=⟨h1,h2,h3,trivial⟩
theorem pds4{a b c d:PyData}(h1:Pd a)(h2:Pd b)(h3:Pd c)(h4:Pd d):Pd (.tuple [a,b,c,d]):=⟨h1,h2,h3,h4,trivial⟩
theorem pd_ps:∀s∈["number","text","arg","own","name","apply","list","one","two","both","either","set","call","word","while","if"],Pd (ps s):=by
 have h:∀s∈["number","text","arg","own","name","apply","list","one","two","both","either","set","call","word","while","if"],(Str.ofString s).cps.toList.all (fun c=>decide (c<512))=true:=by decide+kernel
 exact fun s hs=>pd_str (h s hs)
theorem zcx{l:List PyData}(h:Pds l):Pd (.list l):=h
theorem vx_num{v:Int}(h:TV (.num v)):VX (.num v):=by
 refine⟨h,?_,pds2 (pd_ps _ (by decide)) (h.1)⟩
 show v.natAbs.log2<1920
 have h2:=h.2
 unfold bits at h2
 split at h2
 ·rename_i q;rw[q];decide
 ·lia
theorem vx_arg{v:Int}(h:TV (.arg v)):VX (.arg v):=⟨h.1,h.2,pds2 (pd_ps _ (by decide)) (h.1)⟩
theorem vx_text{s:List Nat}(h:TV (.text s)):VX (.text s):=⟨trivial,trivial,pds2 (pd_ps _ (by decide)) (pd_tx h)⟩
theorem vx_own:VX .own:=⟨trivial,trivial,⟨pd_ps _ (by decide),trivial⟩⟩
theorem vx_name{s:List Nat}(h:isNm s)(hr:zac.contains s=false):VX (.name s):=⟨⟨h,hr⟩,trivial,pds2 (pd_ps _ (by decide)) (pd_tx (nm_lt h))⟩
theorem vx_app{s:List Nat}{l:List Ex}(h:isNm s)(hr:zac.contains s=false)(hl:VXl l):VX (.apply s l):=⟨⟨⟨h,hr⟩,hl.v⟩,hl.k,pds3 (pd_ps _ (by decide)) (pd_tx (nm_lt h)) (zcx hl.d)⟩
theorem vx_list{l:List Ex}(hl:VXl l):VX (.list l):=⟨hl.v,hl.k,pds2 (pd_ps _ (by decide)) (zcx hl.d)⟩
theorem vx_one{s:List Nat}{e:Ex}(hs:s=[45]∨s=[33])(h:VX e):VX (.one s e):=⟨⟨hs,h.v⟩,h.k,pds3 (pd_ps _ (by decide)) (pd_tx (by rcases hs with rfl|rfl<;>decide)) h.d⟩
theorem vx_two{s:List Nat}{a b:Ex}(hs:s∈ops)(ha:VX a)(hb:VX b):VX (.two s a b):=⟨⟨hs,ha.v,hb.v⟩,⟨hs,ha.k,hb.k⟩,pds4 (pd_ps _ (by decide)) (pd_tx (ops_lt s hs)) ha.d hb.d⟩
theorem vx_both{a b:Ex}(ha:VX a)(hb:VX b):VX (.both a b):=⟨⟨ha.v,hb.v⟩,⟨ha.k,hb.k⟩,pds3 (pd_ps _ (by decide)) ha.d hb.d⟩
theorem vx_either{a b:Ex}(ha:VX a)(hb:VX b):VX (.either a b):=⟨⟨ha.v,hb.v⟩,⟨ha.k,hb.k⟩,pds3 (pd_ps _ (by decide)) ha.d hb.d⟩
theorem vx_nil:VXl []:=⟨trivial,trivial,trivial⟩
theorem vx_cons{e:Ex}{l:List Ex}(h:VX e)(hl:VXl l):VXl (e::l):=⟨⟨h.v,hl.v⟩,⟨h.k,hl.k⟩,⟨h.d,hl.d⟩⟩
theorem VXl.un{e:Ex}{l:List Ex}(h:VXl (e::l)):VX e∧VXl l:=by
 obtain⟨h1,h2,h3⟩:=h
 exact⟨⟨h1.1,h2.1,h3.1⟩,⟨h1.2,h2.2,h3.2⟩⟩
theorem vx_snoc{a:Ex}(h:VX a):∀l:List Ex,VXl l→VXl (l++[a])
 | [],_=>vx_cons h vx_nil
 |e::l,hl=>vx_cons hl.un.1 (vx_snoc h l hl.un.2)
theorem vs_set{e:Ex}(h:VX e):VXs (.set e):=⟨h.v,h.k,pds2 (pd_ps _ (by decide)) h.d⟩
theorem vs_call{e:Ex}(h:VX e):VXs (.call e):=⟨h.v,h.k,pds2 (pd_ps _ (by decide)) h.d⟩
theorem vs_name{s:List Nat}{e:Ex}(h:isNm s)(hr:zac.contains s=false)(he:VX e):VXs (.name s e):=⟨⟨⟨h,hr⟩,he.v⟩,he.k,pds3 (pd_ps _ (by decide)) (pd_tx (nm_lt h)) he.d⟩
theorem vs_word{s:List Nat}(h:s∈zbh):VXs (.word s):=⟨h,trivial,pds2 (pd_ps _ (by decide)) (pd_tx (nm_lt (nm_words s h)))⟩
theorem vs_whl{e:Ex}{l:List Stm}(h:VX e)(hl:VXb l):VXs (.whl e l):=⟨⟨h.v,hl.v⟩,⟨h.k,hl.k⟩,pds3 (pd_ps _ (by decide)) h.d (zcx hl.d)⟩
theorem vs_ifs{e:Ex}{l m:List Stm}(h:VX e)(hl:VXb l)(hm:VXb m):VXs (.ifs e l m):=⟨⟨h.v,hl.v,hm.v⟩,⟨h.k,hl.k,hm.k⟩,pds4 (pd_ps _ (by decide)) h.d (zcx hl.d) (zcx hm.d)⟩
theorem vb_nil:VXb []:=⟨trivial,trivial,trivial⟩
theorem vb_cons{e:Stm}{l:List Stm}(h:VXs e)(hl:VXb l):VXb (e::l):=⟨⟨h.v,hl.v⟩,⟨h.k,hl.k⟩,⟨h.d,hl.d⟩⟩
theorem VXb.un{e:Stm}{l:List Stm}(h:VXb (e::l)):VXs e∧VXb l:=by
 obtain⟨h1,h2,h3⟩:=h
 exact⟨⟨h1.1,h2.1,h3.1⟩,⟨h1.2,h2.2,h3.2⟩⟩
theorem vb_snoc{a:Stm}(h:VXs a):∀l:List Stm,VXb l→VXb (l++[a])
 | [],_=>vb_cons h vb_nil
 |e::l,hl=>vb_cons hl.un.1 (vb_snoc h l hl.un.2)
theorem z2{a b:Nat}(h:a+b=0):a=0∧b=0:=by lia
theorem z3{a b c:Nat}(h:a+b+c=0):a=0∧b=0∧c=0:=by lia
theorem z7{a b c d e f g:Nat}(h:a+b+c+d+e+f+g=0):c=0∧f=0:=by lia
theorem z11{a b c d e f g i j k l:Nat}(h:a+b+c+d+e+f+g+i+j+k+l=0):c=0∧f=0∧k=0:=by lia
noncomputable def mV:Ms where
 k t:=ind (TV t)
 e x:=ind (VX x)
 l x:=ind (VXl x)
 s x:=ind (VXs x)
 b x:=ind (VXb x)
 join s x y h:=zbg fun z=>by
  obtain⟨z1,_,z2⟩:=z3 z
  have h1:=ind_z z1
  have h2:=ind_z z2
  rcases lvl_sign h with q|rfl|rfl
  ·rw[joinE_op q];exact vx_two q h1 h2
  ·rw[joinE_or];exact vx_either h1 h2
  ·rw[joinE_and];exact vx_both h1 h2
 one s x h:=zbg fun z=>vx_one h (ind_z (z2 z).2)
 num v:=zbg fun z=>vx_num (ind_z z)
 text v:=zbg fun z=>vx_text (ind_z z)
 arg v:=zbg fun z=>vx_arg (ind_z z)
 own:=zbg fun _=>vx_own
 name w h:=zbg fun z=>vx_name (ind_z z) h
 app w x h:=zbg fun z=>vx_app (ind_z (z3 z).1) h (ind_z (z3 z).2.2)
 lis x:=zbg fun z=>vx_list (ind_z (z2 z).2)
 nil:=ind_0 vx_nil
 snoc x a:=zbg fun z=>vx_snoc (ind_z (z2 z).2) x (ind_z (z2 z).1)
 set a:=zbg fun z=>vs_set (ind_z (z3 z).2.2)
 nm w a h:=zbg fun z=>vs_name (ind_z (z3 z).1) h (ind_z (z3 z).2.2)
 call a:=zbg fun z=>vs_call (ind_z z)
 word w h:=zbg fun _=>vs_word h
 whl a x:=zbg fun z=>vs_whl (ind_z (z7 z).1) (ind_z (z7 z).2)
 ifs a x:=zbg fun z=>vs_ifs (ind_z (z7 z).1) (ind_z (z7 z).2) vb_nil
 ife a x y:=zbg fun z=>vs_ifs (ind_z (z11 z).1) (ind_z (z11 z).2.1) (ind_z (z11 z).2.2)
 bnil:=ind_0 vb_nil
 bsnoc x a:=zbg fun z=>vb_snoc (ind_z (z2 z).2) x (ind_z (z2 z).1)
theorem qt_lt{s q:List Nat}(h:Qt s q):(∀c∈q,c<512)→∀c∈s,c<512:=by
 induction h with
 |fin=>intro _ c hc;cases hc
 |raw _ _ _ ih=>
  intro hp c hc
  cases hc with
  |head=>exact hp _ (.head _)
  |tail _ hc=>exact ih (fun d hd=>hp d (.tail _ hd)) c hc
 |esc hd _ ih=>
  intro hp c hc
  cases hc with
  |head=>rcases hd with hd|hd;exact hd;rw[hd];exact hp _ (.tail _ (.head _))
  |tail _ hc=>exact ih (fun d hd=>hp d (.tail _ (.tail _ (List.mem_append_right _ hd)))) c hc
theorem tv_of{t:TK}{u:List Nat}(hl:u.length≤570)(hp:∀c∈u,c<512)(h:TkU t u):TV t:=by
 cases t with
 |num v=>obtain⟨_,_,rfl,h⟩:=h;exact⟨by lia,h⟩
 |arg v=>
  obtain⟨f,rfl,h1,_,rfl⟩:=h
  rw[List.length_cons]at hl
  exact⟨by lia,by rw[Int.natAbs_natCast];exact log_lt h1 (by lia)⟩
 |name s=>exact h.2
 |text s=>obtain⟨q,rfl,h⟩:=h;exact qt_lt h fun c hc=>hp c (.tail _ hc)
 |_=>trivial
theorem read_sound{n:Nat}{t:List Nat}{l:List Stm}(hl:t.length≤570)(hp:∀c∈t,c<512)(h:zal n t= .ok l):VXb l:=by
 have hk:∀(t:TK)(u:List Nat),u.length≤570→(∀c∈u,c<512)→TkU t u→mV.k t≤(u.map fun _=>0).sum:=fun t u hl hp h=>by
  have:mV.k t=0:=ind_0 (tv_of hl hp h)
  rw[this];exact Nat.zero_le _
 have:=parse_ms mV (by decide) (ind_0 trivial) hk hl hp h
 rw[zdi,Nat.zero_mul]at this
 exact ind_z (Nat.le_zero.mp this)
theorem txs_len{s:List Nat}(h:∀c∈s,c<512):(sh (.str (tx s))).length≤10*s.length+2:=by
 have:=StrLaws.reprText_len (tx s) fun c hc=>Nat.lt_trans (h c (zah s▸hc)) (by decide)
 rw[zcb]at this
 unfold sh
 rw[PyData.shown,Array.length_toList]
 exact this
theorem zg8:∀l:List PyData,(joinL [44,32] (l.map sh)).length≤(l.map fun v=>(sh v).length+2).sum
 | []=>Nat.zero_le _
 | [a]=>Nat.le_add_right _ 2
 |a::b::r=>by
  have e:(joinL [44,32] ((a::b::r).map sh)).length=(sh a).length+2+(joinL [44,32] ((b::r).map sh)).length:=by
   show(_++_++_:List Nat).length=_
   rw[List.length_append,List.length_append];rfl
  rw[e]
  exact Nat.add_le_add_left (zg8 (b::r)) _
theorem tup_len(l:List PyData):(sh (.tuple l)).length≤3+(l.map fun v=>(sh v).length+2).sum:=by
 have h:(tend l.length).length≤2:=by unfold tend;split<;>decide
 rw[zfy,List.length_cons,List.length_append,Nat.add_comm 3]
 exact Nat.succ_le_succ (Nat.add_le_add (zg8 l) h)
theorem lis_len(l:List PyData):(sh (.list l)).length≤2+(l.map fun v=>(sh v).length+2).sum:=by
 rw[sh_list,List.length_cons,List.length_append,Nat.add_comm 2]
 exact Nat.succ_le_succ (Nat.add_le_add_right (zg8 l) 1)
theorem tag_len:∀s∈["number","text","arg","own","name","apply","list","one","two","both","either","set","call","word","while","if"],(sh (ps s)).length≤8:=by decide+kernel
structure Tl(v:PyData)(D L:Nat):Prop where
 s:PyData.showable v=true
 d:PyData.hasDict v=false
 h:v.depth≤D
 l:(sh v).length≤L
structure Tls(l:List PyData)(D L:Nat):Prop where
 s:PyData.showableAll l=true
 d:PyData.hasDictAll l=false
 h:PyData.depthAll l≤D
 l:(l.map fun v=>(sh v).length+2).sum≤L
section
variable{v u w:PyData}{l:List PyData}{D E A B C M:Nat}
theorem zfk:Tls [] D 0:=⟨rfl,rfl,Nat.zero_le _,Nat.le_refl 0⟩
theorem Tl.cons(h:Tl v D A)(g:Tls l D M):Tls (v::l) D (A+2+M):=⟨Bool.and_eq_true_iff.mpr ⟨h.s,g.s⟩,Bool.or_eq_false_iff.mpr ⟨h.d,g.d⟩,Nat.max_le.mpr ⟨h.h,g.h⟩,by rw[List.map_cons,List.sum_cons];exact Nat.add_le_add (Nat.add_le_add_right h.l 2) g.l⟩
theorem Tls.tup(h:Tls l D M):Tl (.tuple l) (D+1) (3+M):=⟨h.s,h.d,Nat.succ_le_succ h.h,Nat.le_trans (tup_len l) (Nat.add_le_add_left h.l 3)⟩
theorem Tls.lis(h:Tls l D M):Tl (.list l) (D+1) (2+M):=⟨h.s,h.d,Nat.succ_le_succ h.h,Nat.le_trans (lis_len l) (Nat.add_le_add_left h.l 2)⟩
theorem Tl.up(h:Tl v D A)(q:D≤E):Tl v E A:=⟨h.s,h.d,Nat.le_trans h.h q,h.l⟩
theorem Tls.up(h:Tls l D A)(q:D≤E):Tls l E A:=⟨h.s,h.d,Nat.le_trans h.h q,h.l⟩
theorem tl_tag{s:String}(h:s∈["number","text","arg","own","name","apply","list","one","two","both","either","set","call","word","while","if"]):Tl (ps s) D 8:=⟨rfl,rfl,Nat.zero_le _,tag_len s h⟩
theorem tl_tx{s:List Nat}(h:∀c∈s,c<512):Tl (.str (tx s)) D (10*s.length+2):=⟨rfl,rfl,Nat.zero_le _,txs_len h⟩
theorem tl_int{v:Int}(h:v.natAbs.log2<1920):Tl (.int v) D (dec v).length:=⟨decide_eq_true h,rfl,Nat.zero_le _,Nat.le_of_eq (congrArg List.length (sh_int v))⟩
noncomputable def To(k:Nat)(v:PyData)(D n:Nat):Prop:=∃A,A+k≤100*n∧Tl v D A
variable{s:String}{n m o N:Nat}
theorem To.one{k j:Nat}(h:To k v D n)(hs:s∈["number","text","arg","own","name","apply","list","one","two","both","either","set","call","word","while","if"])(hN:n≤N)(hk:j+15≤k)(hE:D+1≤E):To j (.tuple [ps s,v]) E N:=by
 obtain⟨A,h1,h2⟩:=h
 exact⟨_,by lia,((tl_tag hs).cons (h2.cons zfk)).tup.up hE⟩
theorem To.two{k i j:Nat}(h:To k v D n)(g:To i u D m)(hs:s∈["number","text","arg","own","name","apply","list","one","two","both","either","set","call","word","while","if"])(hN:n+m≤N)(hk:j+17≤k+i)(hE:D+1≤E):To j (.tuple [ps s,v,u]) E N:=by
 obtain⟨A,h1,h2⟩:=h
 obtain⟨B,g1,g2⟩:=g
 exact⟨_,by lia,((tl_tag hs).cons (h2.cons (g2.cons zfk))).tup.up hE⟩
theorem To.three{k i j q:Nat}(h:To k v D n)(g:To i u D m)(f:To q w D o)(hs:s∈["number","text","arg","own","name","apply","list","one","two","both","either","set","call","word","while","if"])(hN:n+m+o≤N)(hk:j+19≤k+i+q)(hE:D+1≤E):To j (.tuple [ps s,v,u,w]) E N:=by
 obtain⟨A,h1,h2⟩:=h
 obtain⟨B,g1,g2⟩:=g
 obtain⟨C,f1,f2⟩:=f
 exact⟨_,by lia,((tl_tag hs).cons (h2.cons (g2.cons (f2.cons zfk)))).tup.up hE⟩
end
theorem To.up{v:PyData}{k D E n:Nat}(h:To k v D n)(q:D≤E):To k v E n:=h.elim fun _ g=>⟨_,g.1,g.2.up q⟩
theorem To.str{s:List Nat}{k D n:Nat}(h:Pd (.str (tx s)))(hn:10*s.length+2+k≤100*n):To k (.str (tx s)) D n:=⟨_,hn,tl_tx h⟩
theorem To.nm{s:List Nat}{k D:Nat}(h:Pd (.str (tx s)))(h1:1≤s.length)(hk:k≤88):To k (.str (tx s)) D s.length:= .str h (by lia)
theorem zdu(s:List Nat):∀l:List (List Nat),(l.map List.length).sum≤(joinL s l).length
 | []=>Nat.zero_le _
 | [x]=>Nat.le_refl x.length
 |x::y::r=>by
  show x.length+_≤(x++s++joinL s (y::r)).length
  rw[List.length_append,List.length_append]
  exact Nat.add_le_add (Nat.le_add_right _ _) (zdu s (y::r))
noncomputable def Tos(l:List PyData)(D n:Nat):Prop:=∃M,M≤100*n∧Tls l D M
theorem Tos.nil{D:Nat}:Tos [] D 0:=⟨0,Nat.le_refl 0,zfk⟩
theorem Tos.up{l:List PyData}{D E n:Nat}(h:Tos l D n)(q:D≤E):Tos l E n:=h.elim fun _ g=>⟨_,g.1,g.2.up q⟩
theorem Tos.cons{v:PyData}{l:List PyData}{k D n m:Nat}(h:To k v D n)(g:Tos l D m)(hk:2≤k):Tos (v::l) D (n+m):=by
 obtain⟨A,h1,h2⟩:=h
 obtain⟨M,g1,g2⟩:=g
 exact⟨_,by rw[Nat.mul_add];exact Nat.add_le_add (Nat.le_trans (Nat.add_le_add_left hk A) h1) g1,h2.cons g2⟩
theorem Tos.lis{l:List PyData}{D n N k:Nat}(h:Tos l D n)(hN:100*n+(2+k)≤100*N):To k (.list l) (D+1) N:=by
 obtain⟨M,h1,h2⟩:=h
 exact⟨_,Nat.le_trans (by rw[Nat.add_comm 2,Nat.add_assoc];exact Nat.add_le_add_right h1 _) hN,h2.lis⟩
theorem dec1{v:Int}(h:0≤v):(dec v).length+85≤100*(dec v).length:=by
 obtain⟨c,y,e⟩:=(zed h).2
 rw[e,List.length_cons];lia
theorem ln3(x y z:List Nat):(x++y++z).length=x.length+(y.length+z.length):=by rw[List.length_append,List.length_append,Nat.add_assoc]
theorem ln4(x y z w:List Nat):(x++y++z++w).length=x.length+(y.length+(z.length+w.length)):=by rw[List.append_assoc,ln3,List.length_append]
theorem txt_len(s:List Nat):s.length+2≤(shE (.text s)).length:=by
 show _≤([34]++escs s++[34]).length
 rw[ln3];exact Nat.le_trans (Nat.succ_le_succ (Nat.succ_le_succ (zfx s))) (Nat.le_of_eq (Nat.add_comm _ 1))
theorem lis_le(l:List Ex):((shEs l).map List.length).sum+1≤(shE (.list l)).length:=by
 show _≤([91]++joinL [44,32] (shEs l)++[93]).length
 rw[ln3];exact Nat.le_trans (Nat.succ_le_succ (zdu _ _)) (Nat.le_add_left _ 1)
theorem app_le(s:List Nat)(l:List Ex):s.length+(((shEs l).map List.length).sum+1)≤(shE (.apply s l)).length:=by
 show _≤(s++[40]++joinL [44,32] (shEs l)++[41]).length
 rw[ln4];exact Nat.add_le_add_left (Nat.le_trans (Nat.succ_le_succ (zdu _ _)) (Nat.le_add_left _ 1)) _
theorem one_le(s:List Nat)(e:Ex):s.length+(shE e).length≤(shE (.one s e)).length:=by
 show _≤(s++brk _ (shE e)).length
 rw[List.length_append];exact Nat.add_le_add_left (zgq _ _).1 _
theorem two_le(s x y:List Nat)(p q:Bool):s.length+x.length+y.length≤(brk p x++[32]++s++[32]++brk q y).length:=by
 rw[List.length_append,ln4,Nat.add_comm s.length]
 exact Nat.add_le_add (Nat.add_le_add (zgq p x).1 (Nat.le_trans (Nat.le_add_right _ 1) (Nat.le_add_left _ 1))) (zgq q y).1
theorem two_le'(s x y:List Nat)(p q:Bool):x.length+y.length≤(brk p x++[32]++s++[32]++brk q y).length:=Nat.le_trans (Nat.add_le_add_right (Nat.le_add_left _ _) _) (two_le s x y p q)
theorem ops1:∀s∈ops,1≤s.length:=by decide+kernel
theorem lis_n{n k:Nat}(h:2+k≤100):100*n+(2+k)≤100*(n+1):=Nat.add_le_add_left h _
theorem dbl{a b:Nat}(h:a≤b):2*a≤2*b:=Nat.mul_le_mul_left 2 h
theorem toE(e:Ex):VX e→To 70 e.py (2*hgt e) (shE e).length:=Ex.rec (motive_1:=fun e=>VX e→To 70 e.py (2*hgt e) (shE e).length) (motive_2:=fun l=>VXl l→Tos (Ex.pys l) (2*hgts l) ((shEs l).map List.length).sum)
 (fun v h=>To.one (k:=85) (D:=0) (n:=(dec v).length) ⟨_,dec1 h.v.1,tl_int h.k⟩ (by decide) (Nat.le_refl _) (by decide) (Nat.le_succ 1))
 (fun s h=>To.one (k:=85) (D:=0) (n:=s.length+2) (.str h.d.2.1 (by lia)) (by decide) (txt_len s) (by decide) (Nat.le_succ 1))
 (fun v h=>To.one (k:=85) (D:=0) (n:=(dec v).length+1) ⟨_,by lia,tl_int h.k⟩ (by decide) (Nat.le_refl _) (by decide) (Nat.le_succ 1))
 (fun h=>⟨13,by decide,(((tl_tag (by decide)).cons zfk).tup (D:=1)).up (Nat.le_refl 2)⟩)
 (fun s h=>To.one (k:=85) (D:=0) (.nm h.d.2.1 (nm_pos h.v.1) (by decide)) (by decide) (Nat.le_refl _) (by decide) (Nat.le_succ 1))
 (fun s l A h=>To.two (k:=70) (i:=70) (.nm h.d.2.1 (nm_pos h.v.1.1) (by decide)) ((A ⟨h.v.2,h.k,h.d.2.2.1⟩).lis (N:=((shEs l).map List.length).sum+1) (lis_n (by decide))) (by decide) (app_le s l) (by decide) (Nat.le_refl _))
 (fun l A h=>To.one (k:=85) ((A ⟨h.v,h.k,h.d.2.1⟩).lis (N:=((shEs l).map List.length).sum+1) (lis_n (by decide))) (by decide) (lis_le l) (by decide) (Nat.le_refl _))
 (fun s e A h=>To.two (k:=70) (i:=70) (.nm h.d.2.1 (by rcases h.v.1 with rfl|rfl<;>decide) (by decide)) (A ⟨h.v.2,h.k,h.d.2.2.1⟩) (by decide) (one_le s e) (by decide) (Nat.le_succ _))
 (fun s a b A B h=>To.three (k:=70) (i:=70) (q:=70) (D:=2*max (hgt a) (hgt b)) (.nm h.d.2.1 (ops1 s h.v.1) (by decide)) ((A ⟨h.v.2.1,h.k.2.1,h.d.2.2.1⟩).up (dbl (Nat.le_max_left _ _))) ((B ⟨h.v.2.2,h.k.2.2,h.d.2.2.2.1⟩).up (dbl (Nat.le_max_right _ _))) (by decide) (two_le s _ _ _ _) (by decide) (Nat.le_succ _))
 (fun a b A B h=>To.two (k:=70) (i:=70) (D:=2*max (hgt a) (hgt b)) ((A ⟨h.v.1,h.k.1,h.d.2.1⟩).up (dbl (Nat.le_max_left _ _))) ((B ⟨h.v.2,h.k.2,h.d.2.2.1⟩).up (dbl (Nat.le_max_right _ _))) (by decide) (two_le' _ _ _ _ _) (by decide) (Nat.le_succ _))
 (fun a b A B h=>To.two (k:=70) (i:=70) (D:=2*max (hgt a) (hgt b)) ((A ⟨h.v.1,h.k.1,h.d.2.1⟩).up (dbl (Nat.le_max_left _ _))) ((B ⟨h.v.2,h.k.2,h.d.2.2.1⟩).up (dbl (Nat.le_max_right _ _))) (by decide) (two_le' _ _ _ _ _) (by decide) (Nat.le_succ _))
 (fun _=> .nil)
 (fun e l A B h=> .cons ((A h.un.1).up (dbl (Nat.le_max_left _ _))) ((B h.un.2).up (dbl (Nat.le_max_right _ _))) (by decide))
 e
theorem blk_le(l:List Stm):((shSs l).map List.length).sum≤(shB l).length:=by
 cases l with
 |nil=>exact Nat.zero_le _
 |cons s r=>
  show _≤([123,32]++joinL [59,32] (shSs (s::r))++[32,125]).length
  rw[ln3];exact Nat.le_trans (zdu _ _) (Nat.le_trans (Nat.le_add_right _ _) (Nat.le_add_left _ _))
theorem whl_le(e:Ex)(l:List Stm):(shE e).length+(((shSs l).map List.length).sum+1)≤(shS (.whl e l)).length:=by
 rw[zhd,List.length_append,List.length_append,List.length_append,Nat.add_assoc]
 exact Nat.add_le_add (Nat.le_add_left _ _) (by rw[Nat.add_comm];exact Nat.add_le_add (by decide) (blk_le l))
theorem els_le(m:List Stm):((shSs m).map List.length).sum≤(match m with| []=> []|s::r=> [32]++elseL++[32]++shB (s::r):List Nat).length:=by
 cases m with
 |nil=>exact Nat.le_refl _
 |cons s r=>exact Nat.le_trans (blk_le (s::r)) (by rw[List.length_append];exact Nat.le_add_left _ _)
theorem ifs_le(e:Ex)(l m:List Stm):(shE e).length+(((shSs l).map List.length).sum+1)+(((shSs m).map List.length).sum+1)≤(shS (.ifs e l m)).length:=by
 rw[zek,List.length_append,List.length_append,List.length_append,List.length_append]
 have h1:=blk_le l
 have h2:=els_le m
 have h3:1≤(ifL++[32,40]).length:=by decide
 exact Nat.le_trans (Nat.le_of_eq (by ac_rfl)) (Nat.add_le_add (Nat.add_le_add (Nat.add_le_add (Nat.add_le_add_right h3 _) (show 1≤ [41,32].length by decide)) h1) h2)
theorem toS(s:Stm):VXs s→To 2 s.py (2*s.hgt) (shS s).length:=Stm.rec (motive_1:=fun s=>VXs s→To 2 s.py (2*s.hgt) (shS s).length) (motive_2:=fun l=>VXb l→Tos (Stm.pys l) (2*Stm.hgts l) ((shSs l).map List.length).sum)
 (fun e h=>To.one (toE e ⟨h.v,h.k,h.d.2.1⟩) (by decide) (by show _≤(_++shE e).length;rw[List.length_append];exact Nat.le_add_left _ _) (by decide) (Nat.le_succ _))
 (fun s e h=>To.two (k:=70) (.nm h.d.2.1 (nm_pos h.v.1.1) (by decide)) ((toE e ⟨h.v.2,h.k,h.d.2.2.1⟩).up (Nat.le_refl _)) (by decide) (by show _≤(_++_++shE e).length;rw[List.length_append,List.length_append];exact Nat.add_le_add_right (Nat.le_add_right _ _) _) (by decide) (Nat.le_succ _))
 (fun e h=>To.one (toE e ⟨h.v,h.k,h.d.2.1⟩) (by decide) (Nat.le_refl _) (by decide) (Nat.le_succ _))
 (fun s h=>To.one (k:=85) (D:=0) (.nm h.d.2.1 (nm_pos (nm_words s h.v)) (by decide)) (by decide) (Nat.le_refl _) (by decide) (Nat.le_succ 1))
 (fun e l A h=>To.two (k:=70) (i:=70) (D:=2*max (hgt e) (Stm.hgts l)+1) ((toE e ⟨h.v.1,h.k.1,h.d.2.1⟩).up (Nat.le_succ_of_le (dbl (Nat.le_max_left _ _)))) (((A ⟨h.v.2,h.k.2,h.d.2.2.1⟩).up (dbl (Nat.le_max_right _ _))).lis (lis_n (by decide))) (by decide) (whl_le e l) (by decide) (Nat.le_refl _))
 (fun e l m A B h=>To.three (k:=70) (i:=70) (q:=70) (D:=2*max (max (hgt e) (Stm.hgts l)) (Stm.hgts m)+1) ((toE e ⟨h.v.1,h.k.1,h.d.2.1⟩).up (Nat.le_succ_of_le (dbl (Nat.le_trans (Nat.le_max_left _ _) (Nat.le_max_left _ _))))) (((A ⟨h.v.2.1,h.k.2.1,h.d.2.2.1⟩).up (dbl (Nat.le_trans (Nat.le_max_right _ _) (Nat.le_max_left _ _)))).lis (lis_n (by decide))) (((B ⟨h.v.2.2,h.k.2.2,h.d.2.2.2.1⟩).up (dbl (Nat.le_max_right _ _))).lis (lis_n (by decide))) (by decide) (ifs_le e l m) (by decide) (Nat.le_refl _))
 (fun _=> .nil)
 (fun e l A B h=> .cons ((A h.un.1).up (dbl (Nat.le_max_left _ _))) ((B h.un.2).up (dbl (Nat.le_max_right _ _))) (by decide))
 s
theorem toB:∀l:List Stm,VXb l→Tos (Stm.pys l) (2*Stm.hgts l) ((shSs l).map List.length).sum
 | [],_=> .nil
 |e::l,h=> .cons ((toS e h.un.1).up (dbl (Nat.le_max_left _ _))) ((toB l h.un.2).up (dbl (Nat.le_max_right _ _))) (by decide)
theorem Tl.ok{v:PyData}{D L:Nat}(h:Tl v D L)(hD:D<700)(hL:L≤2^23):zc2 v:=⟨h.s,h.d,Nat.lt_of_le_of_lt h.h hD,Nat.le_trans (Nat.le_trans (Nat.le_of_eq Array.length_toList.symm) h.l) (Nat.le_trans hL (Nat.le_trans (by decide) szl))⟩
theorem repr_of{l:List Stm}(h:VXb l)(hh:Stm.hgts l≤300)(hl:(shA l).length≤4300):zc2 (lpy l)∧zc2 (.list [lpy l]):=by
 obtain⟨M,h1,h2⟩:=toB l h
 have h3:M≤430000:=Nat.le_trans h1 (Nat.mul_le_mul_left 100 (Nat.le_trans (zdu _ _) hl))
 have h4:Tl (lpy l) 601 (2+M):=(h2.up (dbl hh)).lis
 exact⟨h4.ok (by decide) (by lia),((h4.cons zfk).lis).ok (by decide) (by lia)⟩
noncomputable def dp(q c k:Nat):Option Nat:=if 32≤c∧c≤126 then(if q=0∧c=41 then(if k=0 then none else some (k-1))else some (k+(if q=0∧c=40 then 1 else 0)))else none
noncomputable def rn:Nat→Nat→List Nat→Option (Nat×Nat)
 |q,k,[]=>some (q,k)
 |q,k,c::r=>(dp q c k).bind fun k'=>rn (stp q c) k' r
theorem dp_ok{q c k k':Nat}(h:dp q c k=some k'):(32≤c∧c≤126)∧k'+(if q=0∧c=41 then 1 else 0)=k+(if q=0∧c=40 then 1 else 0)∧dp q c (k+1)=some (k'+1):=by
 unfold dp at h ⊢
 by_cases h1:32≤c∧c≤126
 ·rw[if_pos h1]at h ⊢
  by_cases h2:q=0∧c=41
  ·rw[if_pos h2]at h
   rw[if_pos h2,if_pos h2,if_neg (show¬(q=0∧c=40)from fun z=>absurd (h2.2.symm.trans z.2) (by decide))]
   cases k with
   |zero=>rw[if_pos rfl]at h;cases h
   |succ k=>rw[if_neg (Nat.succ_ne_zero k)]at h;cases h;exact⟨h1,rfl,rfl⟩
  ·rw[if_neg h2]at h
   cases h
   rw[if_neg h2,if_neg h2]
   exact⟨h1,rfl,congrArg some (Nat.add_right_comm _ _ _)⟩
 ·rw[if_neg h1]at h;cases h
theorem rn_app:∀(x y:List Nat)(q k:Nat),rn q k (x++y)=(rn q k x).bind fun p=>rn p.1 p.2 y
 | [],_,_,_=>rfl
 |c::x,y,q,k=>by
  show(dp q c k).bind (fun k'=>rn (stp q c) k' (x++y))=((dp q c k).bind fun k'=>rn (stp q c) k' x).bind _
  cases dp q c k with
  |none=>rfl
  |some k'=>exact rn_app x y _ k'
theorem rn_cons{c q k:Nat}{x:List Nat}{p:Nat×Nat}(h:rn q k (c::x)=some p):∃k',dp q c k=some k'∧rn (stp q c) k' x=some p:=Option.bind_eq_some_iff.mp h
theorem rn_ok:∀(x:List Nat){q k:Nat}{p:Nat×Nat},rn q k x=some p→(∀c∈x,32≤c∧c≤126)∧p.2+cnt 41 q x=k+cnt 40 q x∧rn q (k+1) x=some (p.1,p.2+1)
 | [],_,_,_,h=>by cases h;exact⟨(fun _ h=>nomatch h),rfl,rfl⟩
 |c::x,q,k,p,h=>by
  obtain⟨k',h1,h2⟩:=rn_cons h
  obtain⟨a1,a2,a3⟩:=dp_ok h1
  obtain⟨b1,b2,b3⟩:=rn_ok x h2
  refine⟨fun d hd=>(List.mem_cons.mp hd).elim (fun e=>e▸a1) (b1 d),?_,Option.bind_eq_some_iff.mpr ⟨_,a3,b3⟩⟩
  show p.2+((if q=0∧c=41 then 1 else 0)+cnt 41 (stp q c) x)=k+((if q=0∧c=40 then 1 else 0)+cnt 40 (stp q c) x)
  rw[Nat.add_left_comm,b2,←Nat.add_assoc,Nat.add_comm _ k',a2,Nat.add_assoc]
structure Pg(x:List Nat)(a b:Nat):Prop where
 len:x.length≤a
 nws:sm nw x≤b
 r:rn 0 0 x=some (0,0)
section
variable{x y s:List Nat}{a b c d:Nat}
theorem Pg.pr(h:Pg x a b):∀c∈x,32≤c∧c≤126:=(rn_ok x h.r).1
theorem Pg.bal(h:Pg x a b):Bal x:=fun y z e=>by
 obtain⟨p,h1,_⟩:=Option.bind_eq_some_iff.mp ((rn_app y z 0 0).symm.trans (e▸h.r))
 exact Nat.le_trans (Nat.le_add_left _ _) (Nat.le_of_eq ((rn_ok y h1).2.1.trans (Nat.zero_add _)))
theorem Pg.up(h:Pg x a b)(h1:a≤c)(h2:b≤d):Pg x c d:=⟨Nat.le_trans h.len h1,Nat.le_trans h.nws h2,h.r⟩
theorem Pg.app(h:Pg x a b)(g:Pg y c d):Pg (x++y) (a+c) (b+d):=
 ⟨by rw[List.length_append];exact Nat.add_le_add h.len g.len,by rw[zaj];exact Nat.add_le_add h.nws g.nws,by rw[rn_app,h.r];exact g.r⟩
theorem two_in{n a:Nat}(h:n≤a):1+(n+1)≤a+2:=Nat.le_trans (Nat.le_of_eq (Nat.add_comm 1 _)) (Nat.add_le_add_right h 2)
theorem Pg.br(h:Pg x a b):Pg ([40]++x++[41]) (a+2) (b+1):=
 ⟨by rw[ln3];exact two_in h.len,
 by rw[zaj,zaj];exact Nat.le_trans (Nat.add_le_add (Nat.add_le_add (show sm nw [40]≤1 by decide) h.nws) (show sm nw [41]≤0 by decide)) (Nat.le_of_eq (Nat.add_comm 1 b)),
 by rw[rn_app,show rn 0 0 ([40]++x)=some (0,1)from(rn_ok x h.r).2.2];rfl⟩
theorem esc_pg:∀c,c<256→(esc c).length≤4∧sm nw (esc c)≤1∧rn 1 0 (esc c)=some (1,0):=by decide+kernel
theorem escs_pg:∀s:List Nat,(∀c∈s,c<256)→(escs s).length≤4*s.length∧sm nw (escs s)≤s.length∧rn 1 0 (escs s)=some (1,0)
 | [],_=>⟨Nat.le_refl _,Nat.le_refl _,rfl⟩
 |c::s,h=>by
  obtain⟨a1,a2,a3⟩:=esc_pg c (h c (.head _))
  obtain⟨b1,b2,b3⟩:=escs_pg s fun d hd=>h d (.tail _ hd)
  show(esc c++escs s).length≤_∧sm nw (esc c++escs s)≤_∧rn 1 0 (esc c++escs s)=_
  rw[List.length_append,zaj,rn_app,a3]
  exact⟨Nat.le_trans (Nat.add_le_add a1 b1) (Nat.le_of_eq (Nat.add_comm _ _)),Nat.le_trans (Nat.add_le_add a2 b2) (Nat.le_of_eq (Nat.add_comm _ _)),b3⟩
theorem Pg.text(h:∀c∈s,c<256):Pg ([34]++escs s++[34]) (4*s.length+2) s.length:=by
 obtain⟨b1,b2,b3⟩:=escs_pg s h
 refine⟨?_,?_,?_⟩
 ·rw[ln3];exact two_in b1
 ·rw[zaj,zaj,show sm nw [34]=0 by decide,Nat.zero_add];exact b2
 ·rw[rn_app,show rn 0 0 ([34]++escs s)=some (1,0)from b3];rfl
theorem Pg.brk(h:Pg x a b)(q:Bool):Pg (brk q x) (a+2) (b+1):=by
 cases q
 ·exact h.br
 ·exact h.up (Nat.le_add_right _ _) (Nat.le_add_right _ _)
noncomputable def pgB(x:List Nat)(a b:Nat):Bool:=Nat.ble x.length a&&(Nat.ble (sm nw x) b&&decide (rn 0 0 x=some (0,0)))
theorem Pg.lit(h:pgB x a b=true):Pg x a b:=
 have h:=Bool.and_eq_true_iff.mp h
 have g:=Bool.and_eq_true_iff.mp h.2
 ⟨Nat.le_of_ble_eq_true h.1,Nat.le_of_ble_eq_true g.1,of_decide_eq_true g.2⟩
theorem Pg.join{s:Nat}(hs:s=44∨s=59):∀{l:List (List Nat)},(∀x∈l,Pg x a b)→Pg (joinL [s,32] l) (l.length*(a+2)-2) (l.length*b)
 | [],_=> .lit rfl
 | [x],h=>(h x (.head _)).up (Nat.le_of_eq (Nat.one_mul _▸rfl)) (Nat.le_of_eq (Nat.one_mul _).symm)
 |x::y::l,h=>by
  have sep:Pg [s,32] 2 0:=by rcases hs with rfl|rfl<;>exact .lit (by decide+kernel)
  refine(((h x (.head _)).app sep).app (Pg.join hs fun z hz=>h z (.tail _ hz))).up ?_ ?_
  ·have h2:2≤(l.length+1)*(a+2):=Nat.le_trans (Nat.le_add_left 2 a) (Nat.le_mul_of_pos_left _ (Nat.succ_pos _))
   show a+2+((l.length+1)*(a+2)-2)≤(l.length+1+1)*(a+2)-2
   rw[Nat.succ_mul (l.length+1),Nat.add_comm _ (a+2),Nat.add_sub_assoc h2];exact Nat.le_refl _
  ·rw[List.length_cons (as:=y::l),Nat.succ_mul,Nat.add_comm (b+0)];exact Nat.le_refl _
end
theorem dec_pg{v:Int}(h0:0≤v)(h:v<300):Pg (dec v) 3 0:=by
 obtain⟨m,rfl⟩:=Int.eq_ofNat_of_zero_le h0
 have:∀m,m<300→pgB (dec (m:Nat)) 3 0=true:=by decide+kernel
 exact .lit (this m (Int.ofNat_lt.mp h))
theorem names_ok:∀s∈names3,pgB s 2 0=true∧(match s with| []=>false|c::r=>(c::r).all (inS sName)&& !inS sFig c)=true∧zac.contains s=false:=by decide+kernel
theorem names2_3:∀s∈names2,s∈names3:=by decide+kernel
theorem sizes_ok:∀p∈sizesL,pgB p.1 4 0=true∧(match p.1 with| []=>false|c::r=>(c::r).all (inS sName)&& !inS sFig c)=true∧zac.contains p.1=false∧((p.2≤2∨p.2≤3∧p.1.length≤3)∧p.2≤3):=by decide+kernel
theorem ops_pg:∀s∈ops,pgB s 2 2=true:=by decide+kernel
theorem words_pg:∀s∈zbh,pgB s 9 0=true:=by decide+kernel
structure Dr(e:Ex)(h a b:Nat):Prop where
 x:VX e
 h:hgt e≤h
 p:Pg (shE e) a b
theorem log_le{v:Int}{m:Nat}(h0:0≤v)(h:v<(2^m:Nat)):v.natAbs.log2≤m:=by
 obtain⟨n,rfl⟩:=Int.eq_ofNat_of_zero_le h0
 by_cases q:n=0
 ·rw[q];exact Nat.zero_le _
 ·exact Nat.le_of_lt ((Nat.log2_lt q).mpr (Int.ofNat_lt.mp h))
theorem dr_leaf{e:Ex}(h:Leaf e):Dr e 1 14 3:=by
 cases e with
 |num v=>
  have g:=log_le (m:=9) h.1 (Int.lt_trans h.2 (by decide))
  refine⟨vx_num ⟨h.1,?_⟩,Nat.le_refl _,(dec_pg h.1 h.2).up (by decide) (by decide)⟩
  unfold bits
  split
  ·decide
  ·exact Int.ofNat_le.mpr (Nat.le_trans (Nat.succ_le_succ g) (show 10≤512 by decide))
 |text s=>exact⟨vx_text fun c hc=>Nat.lt_trans (h.2 c hc) (by decide),Nat.le_refl _,(Pg.text h.2).up (Nat.add_le_add_right (Nat.mul_le_mul_left 4 h.1) 2) h.1⟩
 |arg v=>exact⟨vx_arg ⟨h.1,Nat.lt_of_le_of_lt (log_le (m:=4) h.1 (Int.lt_trans h.2 (by decide))) (by decide)⟩,Nat.le_refl _,((Pg.lit (x:=[36]) (a:=1) (b:=0) (by decide+kernel)).app (dec_pg h.1 (Int.lt_trans h.2 (by decide)))).up (by decide) (by decide)⟩
 |own=>exact⟨vx_own,Nat.le_refl _, .lit (by decide+kernel)⟩
 |name s=>
  obtain⟨h1,h2,h3⟩:=names_ok s h
  exact⟨vx_name (nm_b h2) h3,Nat.le_refl _,(Pg.lit h1).up (by decide) (by decide)⟩
 |_=>exact h.elim
theorem Dr.up{e:Ex}{h a b h' a' b':Nat}(g:Dr e h a b)(h1:h≤h')(h2:a≤a')(h3:b≤b'):Dr e h' a' b':=⟨g.x,Nat.le_trans g.h h1,g.p.up h2 h3⟩
theorem dr_list{l:List Ex}{h a b:Nat}(hl:∀x∈l,Dr x h a b):VXl l∧hgts l≤h∧Pg (joinL [44,32] (shEs l)) (l.length*(a+2)-2) (l.length*b):=by
 refine⟨?_,?_,?_⟩
 ·induction l with
  |nil=>exact vx_nil
  |cons e l ih=>exact vx_cons (hl e (.head _)).x (ih fun x hx=>hl x (.tail _ hx))
 ·induction l with
  |nil=>exact Nat.zero_le _
  |cons e l ih=>exact Nat.max_le.mpr ⟨(hl e (.head _)).h,ih fun x hx=>hl x (.tail _ hx)⟩
 ·rw[zf1,show l.length=(l.map shE).length from(List.length_map _).symm]
  refine .join (.inl rfl) fun x hx=>?_
  obtain⟨y,hy,rfl⟩:=List.mem_map.mp hx
  exact(hl y hy).p
theorem sp1:Pg [32] 1 0:= .lit (by decide+kernel)
theorem op_pg{x y s:List Nat}{a b:Nat}(hb:3≤b)(h:Pg x a b)(g:Pg y a b)(k:Pg s 2 2)(p q:Bool):Pg (Mine.brk p x++[32]++s++[32]++Mine.brk q y) (3*a+9) (3*b+1):=
 (((((h.brk p).app sp1).app k).app sp1).app (g.brk q)).up (by lia) (by lia)
theorem n_in{n m a w k:Nat}(hn:n≤m)(hw:w+(m*(a+2)-2)≤k):w+(n*(a+2)-2)≤k:=Nat.le_trans (Nat.add_le_add_left (Nat.sub_le_sub_right (Nat.mul_le_mul_right _ hn) 2) w) hw
theorem dr_step{D h a b:Nat}(ha:14≤a)(hb:3≤b)(ih:∀e,Tree D e→Dr e h a b)(e:Ex)(t:Tree (D+1) e):Dr e (h+1) (3*a+9) (3*b+1):=by
 have t:Leaf e∨_:=t
 rcases t with t|t
 ·exact(dr_leaf t).up (Nat.le_add_left _ _) (by lia) (by lia)
 cases e with
 |one s x=>
  have k:Pg s 1 1:=by rcases t.1 with rfl|rfl<;>exact .lit (by decide+kernel)
  have i:=ih x t.2
  exact⟨vx_one t.1 i.x,Nat.succ_le_succ i.h,(k.app (i.p.brk _)).up (by lia) (by lia)⟩
 |list l=>
  obtain⟨i1,i2,i3⟩:=dr_list fun x hx=>ih x (t.2 x hx)
  refine⟨vx_list i1,Nat.succ_le_succ i2,(((Pg.lit (x:=[91]) (a:=1) (b:=1) (by decide+kernel)).app i3).app (Pg.lit (x:=[93]) (a:=1) (b:=0) (by decide+kernel))).up ?_ ?_⟩
  ·exact Nat.le_trans (Nat.add_le_add_right (n_in t.1 (Nat.le_refl _)) 1) (by lia)
  ·exact Nat.le_trans (Nat.add_le_add_left (Nat.mul_le_mul_right b t.1) 1) (by lia)
 |apply w l=>
  obtain⟨i1,i2,i3⟩:=dr_list fun x hx=>ih x (t.2 x hx)
  obtain⟨s1,s2,s3,s4,s5⟩:=sizes_ok _ t.1
  have k:=Pg.lit s1
  have r:=k.app i3.br
  have e:w++[40]++joinL [44,32] (shEs l)++[41]=w++([40]++joinL [44,32] (shEs l)++[41]):=by simp only[List.append_assoc]
  refine⟨vx_app (nm_b s2) s3 i1,Nat.succ_le_succ i2,?_⟩
  show Pg (w++[40]++joinL [44,32] (shEs l)++[41]) _ _
  rw[e]
  refine⟨?_,Nat.le_trans r.nws (Nat.le_trans (Nat.le_of_eq (Nat.zero_add _)) (Nat.succ_le_succ (Nat.mul_le_mul_right b s5))),r.r⟩
  have hj:=i3.br.len
  rw[List.length_append]
  rcases s4 with s4|⟨s4,s6⟩
  ·exact Nat.le_trans (Nat.add_le_add k.len (Nat.le_trans hj (Nat.add_le_add_right (Nat.sub_le_sub_right (Nat.mul_le_mul_right _ s4) 2) 2))) (by lia)
  ·exact Nat.le_trans (Nat.add_le_add s6 (Nat.le_trans hj (Nat.add_le_add_right (Nat.sub_le_sub_right (Nat.mul_le_mul_right _ s4) 2) 2))) (by lia)
 |both x y=>
  have i:=ih x t.1
  have j:=ih y t.2
  exact⟨vx_both i.x j.x,Nat.succ_le_succ (Nat.max_le.mpr ⟨i.h,j.h⟩),op_pg hb i.p j.p (.lit (by decide+kernel)) _ _⟩
 |either x y=>
  have i:=ih x t.1
  have j:=ih y t.2
  exact⟨vx_either i.x j.x,Nat.succ_le_succ (Nat.max_le.mpr ⟨i.h,j.h⟩),op_pg hb i.p j.p (.lit (by decide+kernel)) _ _⟩
 |two s x y=>
  have i:=ih x t.2.1
  have j:=ih y t.2.2
  exact⟨vx_two t.1 i.x j.x,Nat.succ_le_succ (Nat.max_le.mpr ⟨i.h,j.h⟩),op_pg hb i.p j.p (.lit (ops_pg s t.1)) _ _⟩
 |_=>exact t.elim
theorem dr_1:∀e,Tree 1 e→Dr e 2 51 10:=dr_step (D:=0) (a:=14) (b:=3) (by decide) (by decide) fun _ h=>dr_leaf h
theorem dr_2:∀e,Tree 2 e→Dr e 3 162 31:=dr_step (D:=1) (a:=51) (b:=10) (by decide) (by decide) dr_1
noncomputable def elT:List Stm→List Nat
 | []=> []
 |s::r=> [32]++elseL++[32]++shB (s::r)
theorem shS_el(e:Ex)(l m:List Stm):shS (.ifs e l m)=ifL++[32,40]++shE e++[41,32]++shB l++elT m:=by
 rw[zek];cases m<;>rfl
structure Ds(e:Stm)(h a b:Nat):Prop where
 x:VXs e
 h:e.hgt≤h
 p:Pg (shS e) a b
theorem Ds.up{e:Stm}{h a b h' a' b':Nat}(g:Ds e h a b)(h1:h≤h')(h2:a≤a')(h3:b≤b'):Ds e h' a' b':=⟨g.x,Nat.le_trans g.h h1,g.p.up h2 h3⟩
theorem ds_list{l:List Stm}{h a b:Nat}(hl:∀x∈l,Ds x h a b):VXb l∧Stm.hgts l≤h∧Pg (shA l) (l.length*(a+2)-2) (l.length*b):=by
 refine⟨?_,?_,?_⟩
 ·induction l with
  |nil=>exact vb_nil
  |cons e l ih=>exact vb_cons (hl e (.head _)).x (ih fun x hx=>hl x (.tail _ hx))
 ·induction l with
  |nil=>exact Nat.zero_le _
  |cons e l ih=>exact Nat.max_le.mpr ⟨(hl e (.head _)).h,ih fun x hx=>hl x (.tail _ hx)⟩
 ·unfold shA
  rw[shSs_map,show l.length=(l.map shS).length from(List.length_map _).symm]
  refine .join (.inr rfl) fun x hx=>?_
  obtain⟨y,hy,rfl⟩:=List.mem_map.mp hx
  exact(hl y hy).p
theorem ds_flat{d h a b:Nat}(ha:14≤a)(ih:∀e,Tree (1+d) e→Dr e h a b){e:Stm}(t:Flat d e):Ds e (h+1) (5+a) (1+b):=by
 cases e with
 |set e=>exact⟨vs_set (ih e t).x,Nat.succ_le_succ (ih e t).h,(Pg.lit (x:=[36,36,32,61,32]) (a:=5) (b:=1) (by decide+kernel)).app (ih e t).p⟩
 |name s e=>
  obtain⟨h1,h2,h3⟩:=names_ok s (names2_3 s t.1)
  exact⟨vs_name (nm_b h2) h3 (ih e t.2).x,Nat.succ_le_succ (ih e t.2).h,((Pg.lit h1).app (Pg.lit (x:=[32,61,32]) (a:=3) (b:=1) (by decide+kernel))).app (ih e t.2).p⟩
 |call e=>exact⟨vs_call (ih e t).x,Nat.succ_le_succ (ih e t).h,(ih e t).p.up (Nat.le_add_left _ _) (Nat.le_add_left _ _)⟩
 |word s=>exact⟨vs_word t,Nat.le_add_left _ _,(Pg.lit (words_pg s t)).up (Nat.le_trans (by decide) (Nat.add_le_add_left ha 5)) (Nat.zero_le _)⟩
 |_=>exact t.elim
theorem ds_0:∀e,Flat 0 e→Ds e 3 56 11:=fun _=>ds_flat (d:=0) (by decide) dr_1
theorem ds_1{e:Stm}(h:Flat 1 e):Ds e 5 246 46:=(ds_flat (d:=1) (by decide) dr_2 h).up (by decide) (by decide) (by decide)
theorem pg_block{l:List Stm}{a b:Nat}(h:Pg (shA l) a b):Pg (shB l) (2+a+2) (1+b):=by
 cases l with
 |nil=>exact(Pg.lit (x:=[123,32,125]) (a:=3) (b:=1) (by decide+kernel)).up (Nat.succ_le_succ (Nat.le_trans (Nat.le_add_right 2 a) (Nat.le_succ _))) (Nat.le_add_right _ _)
 |cons s r=>exact((Pg.lit (x:=[123,32]) (a:=2) (b:=1) (by decide+kernel)).app h).app (Pg.lit (x:=[32,125]) (a:=2) (b:=0) (by decide+kernel))
theorem ds_blk{l:List Stm}{n:Nat}(hl:l.length≤n)(h:∀x∈l,Flat 0 x):VXb l∧Stm.hgts l≤3∧Pg (shB l) (2+(n*58-2)+2) (1+n*11):=by
 obtain⟨i1,i2,i3⟩:=ds_list fun x hx=>ds_0 x (h x hx)
 exact⟨i1,i2,pg_block (i3.up (Nat.sub_le_sub_right (Nat.mul_le_mul_right 58 hl) 2) (Nat.mul_le_mul_right 11 hl))⟩
theorem kw_pg{w x y:List Nat}{a b c d:Nat}(hw:Pg w 5 0)(h:Pg x a b)(g:Pg y c d):Pg (w++[32,40]++x++[41,32]++y) (5+1+(a+2)+1+c) (0+0+(b+1)+0+d):=by
 have e:w++[32,40]++x++[41,32]++y=w++[32]++([40]++x++[41])++[32]++y:=by simp only[List.append_assoc,List.cons_append,List.nil_append]
 rw[e]
 exact(((hw.app sp1).app h.br).app sp1).app g
theorem ds_st1{e:Stm}(h:St1 e):Ds e 5 246 46:=by
 cases e with
 |whl e l=>
  have i:=dr_1 e h.1
  obtain⟨i1,i2,i3⟩:=ds_blk h.2.1 h.2.2
  refine⟨vs_whl i.x i1,Nat.le_trans (Nat.succ_le_succ (Nat.max_le.mpr ⟨Nat.le_succ_of_le i.h,i2⟩)) (by decide),?_⟩
  rw[zhd]
  exact(kw_pg (.lit (by decide+kernel)) i.p i3).up (by decide) (by decide)
 |ifs e l m=>
  have i:=dr_1 e h.1
  obtain⟨i1,i2,i3⟩:=ds_blk h.2.1.1 h.2.1.2
  obtain⟨j1,j2,j3⟩:=ds_blk h.2.2.1 h.2.2.2
  refine⟨vs_ifs i.x i1 j1,Nat.le_trans (Nat.succ_le_succ (Nat.max_le.mpr ⟨Nat.max_le.mpr ⟨Nat.le_succ_of_le i.h,i2⟩,j2⟩)) (by decide),?_⟩
  rw[shS_el]
  have k2:Pg (elT m) 66 12:=by
   cases m with
   |nil=>exact .lit (by decide+kernel)
   |cons s r=>exact(((sp1.app (.lit (x:=elseL) (a:=4) (b:=0) (by decide+kernel))).app sp1).app j3).up (by decide) (by decide)
  exact((kw_pg (.lit (by decide+kernel)) i.p i3).app k2).up (by decide) (by decide)
 |set e=>exact ds_1 h
 |name s e=>exact ds_1 h
 |call e=>exact ds_1 h
 |word s=>exact ds_1 h
theorem ds_nodes{ns:List Stm}(h:Nodes ns):VXb ns∧Stm.hgts ns≤5∧Pg (shA ns) 496 92:=by
 obtain⟨i1,i2,i3⟩:=ds_list fun x hx=>ds_st1 (h.2.2 x hx)
 exact⟨i1,i2,i3.up (Nat.le_trans (Nat.sub_le_sub_right (Nat.mul_le_mul_right 248 h.2.1) 2) (by decide)) (Nat.mul_le_mul_right 46 h.2.1)⟩
theorem fit_of{t:List Nat}(h:t.length≤640):Fit t:=⟨by lia,dig_of (Nat.le_trans (sm_dgw t) h)⟩
structure Rd2(l:List Stm):Prop where
 x:VXb l
 h:Stm.hgts l≤95
 k:kn (tkA l)≤93
 r:zc2 (lpy l)∧zc2 (.list [lpy l])
theorem read_all{n:Nat}{t:List Nat}(hn:400≤n)(hl:t.length≤500)(hp:∀c∈t,32≤c∧c≤126)(hw:sm nw t≤93):zal n t≠ .oof∧∀l,zal n t= .ok l→Rd2 l:=by
 unfold sm at hw
 refine⟨low_no (by lia) (by lia),fun l h=>?_⟩
 have hp2:∀c∈t,c<512:=fun c hc=>by have:=hp c hc;lia
 have x:=read_sound (by lia) hp2 h
 have hk:=low_kn (by lia) h
 have hh:=shgts_kn l x.v
 have f:=(shown_fit (Nat.le_trans hl (by decide)) hp h).1
 exact⟨x,by lia,by lia,repr_of x (by lia) (Nat.le_trans f (by decide))⟩
theorem bent_good{n:Nat}{t:List Nat}(hn:400≤n)(hl:t.length≤500)(hp:∀c∈t,32≤c∧c≤126)(hw:sm nw t≤93):BackOk n t:=by
 obtain⟨h1,h2⟩:=read_all hn hl hp hw
 refine⟨fit_of (by lia),?_⟩
 cases h:zal n t with
 |oof=>exact absurd h h1
 |err=>trivial
 |ok l=>
  have g:=h2 l h
  have f:=shown_fit (by lia) hp h
  have hh:=g.h
  have hk:=g.k
  exact⟨g.x.k,f,by lia,zgl g.x.v (by have:=f.1;lia) (by lia),g.r.2⟩
theorem pd_one{l:List Stm}(h:VXb l):Pd (.list [lpy l]):=by
 unfold lpy
 exact zcx ⟨zcx h.d,trivial⟩
theorem other_ok{n:Nat}{ns:List Stm}{t:List Nat}(hn:400≤n)(hl:t.length≤500)(hp:∀c∈t,32≤c∧c≤126)(hw:sm nw t≤93)(v:VXb ns)(hc:cnt 40 0 t<cp (tkA ns)):OtherOk n ns t:=by
 obtain⟨h1,h2⟩:=read_all hn hl hp hw
 refine⟨fit_of (by lia),?_⟩
 cases h:zal n t with
 |oof=>exact absurd h h1
 |err=>trivial
 |ok l=>
  have g:=h2 l h
  refine⟨g.r.2,fun q=>?_,fun q=>?_⟩
  ·have e:=zgb (pd_one g.x) (pd_one v) q
   injection e with e
   injection e with e _
   have e:=lpy_inj e
   have:=parse_count h
   rw[e]at this
   lia
  ·have e:=zgb (pd_one g.x) (zcx (l:=[.str _]) ⟨pd_str (by decide+kernel),trivial⟩) q
   injection e with e
   injection e with e _
   unfold lpy at e
   cases e
theorem sg14:∀s∈zhl,s.length≤4∧s.all (fun c=>decide (32≤c∧c≤126))=true∧sm nw s≤1:=by decide+kernel
theorem good{n:Nat}(hn:400≤n){ns:List Stm}(h:Nodes ns):Good n ns:=by
 obtain⟨v,hh,p⟩:=ds_nodes h
 have hlen:=p.len
 have hk:kn (tkA ns)≤92:=Nat.le_trans (Nat.le_trans (kn_l _ [.fin]) (low_scan (by lia) (zdz v.v (by lia)))) p.nws
 have back:zal n (shA ns)= .ok ns:=zgl v.v (by lia) (by lia)
 have sub:∀{t:List Nat},t.Sublist (shA ns)→t.length≤496∧(∀c∈t,32≤c∧c≤126)∧sm nw t≤92:=fun q=>⟨by have:=q.length_le;lia,fun c hc=>p.pr c (q.mem hc),Nat.le_trans (sm_sub q) p.nws⟩
 have me:=(read_all hn (by lia) p.pr (by have:=p.nws;lia)).2 ns back
 refine⟨by lia,fit_of (by lia),v.k,by lia,back,p.bal,me.r.1,me.r.2,fun q=>?_,fun x y z e m1 m2=>?_,fun j s hj hs hne=>?_,fun j hj=>?_⟩
 ·have e:=zgb (zcx (l:=[]) trivial) (pd_one v) q
  injection e with e
  cases e
 ·have s1:(x++y++z).Sublist (shA ns):=by
   rw[e]
   simp only[List.append_assoc]
   exact(List.Sublist.refl x).append (((List.Sublist.refl y).append ((List.sublist_append_right [41] z))).trans (List.sublist_append_right [40] _))
  obtain⟨a1,a2,a3⟩:=sub s1
  refine other_ok hn (by lia) a2 (by lia) v ?_
  have c1:=cp_shown v.v (by lia)
  have c2:=cut_count (z:=z) m1 m2
  rw[←e]at c2
  lia
 ·obtain⟨b1,b2,b3⟩:=sg14 s hs
  have s1:((shA ns).take j++(shA ns).drop j).Sublist (shA ns):=by rw[List.take_append_drop];exact List.Sublist.refl _
  obtain⟨a1,a2,a3⟩:=sub s1
  rw[List.length_append]at a1
  rw[zaj]at a3
  refine bent_good hn ?_ ?_ ?_
  ·rw[List.length_append,List.length_append];lia
  ·intro c hc
   simp only[List.mem_append]at hc
   rcases hc with(hc|hc)|hc
   ·exact a2 c (List.mem_append_left _ hc)
   ·exact of_decide_eq_true (List.all_eq_true.mp b2 c hc)
   ·exact a2 c (List.mem_append_right _ hc)
  ·rw[zaj,zaj];lia
 ·have s1:((shA ns).take j++(shA ns).drop (j+1)).Sublist (shA ns):=by
   have:((shA ns).take j++(shA ns).drop (j+1)).Sublist ((shA ns).take j++(shA ns).drop j):=(List.Sublist.refl _).append (by rw[←List.drop_drop];exact List.drop_sublist _ _)
   rwa [List.take_append_drop]at this
  obtain⟨a1,a2,a3⟩:=sub s1
  exact bent_good hn (by lia) a2 (by lia)
end Mine
namespace Mine
open H (K vw loose pw st sti)
theorem loose_eq:looseW vw loose=loose:=by kernel_rfl
noncomputable def lawS1:S:=match b_law with
 | .cons (.s x) _=>x
 |_=> .exp (.const .none ⟨0,0,0,0⟩) ⟨0,0,0,0⟩
noncomputable def lawE2:X:=match b_law with
 | .cons _ (.cons (.s (.set _ _ e _)) _)=>e
 |_=> .const .none ⟨0,0,0,0⟩
noncomputable def lawRest:Bs:=match b_law with
 | .cons _ (.cons _ r)=>r
 |_=> .nil
noncomputable def lawP2:Pos×Pos:=match b_law with
 | .cons _ (.cons (.s (.set _ p _ q)) _)=>(p,q)
 |_=>(⟨0,0,0,0⟩,⟨0,0,0,0⟩)
theorem law_parts:b_law= .cons (.s lawS1) (.cons (.s (.set 38 lawP2.1 lawE2 lawP2.2)) lawRest):=by kernel_rfl
theorem law_look:∀P:Params,nsIn (K P) mainGlobals (Str.ofString "law")=some (some (.ref 561)):=by
 intro P;kernel_rfl
theorem law_fdchk:∀P:Params,fdChkX (K P) 561 [52]=true:=by
 intro P;kernel_rfl
theorem law_body:∀P:Params,(fdX (K P) 561).body= .stmts b_law.py:=by
 intro P;kernel_rfl
theorem law_bind:∀(P:Params)(v:Value),bindArgs (fdX (K P) 561) ⟨[v],[]⟩=pure (([52].map nm).zip [v]):=by
 intro P v;kernel_rfl
noncomputable def lawChk(sc:Scope):Bool:=chkS none sc lawS1&&(chk none sc lawE2&&(zbw lawE2&&(chkBs none sc lawRest&&(sc.names.lookup (nm 38)==some .cell&&Nat.blt 38 nms.length))))
theorem law_chk:∀P:Params,lawChk (fdX (K P) 561).scope=true:=by
 intro P;kernel_rfl
theorem law_fd(P:Params):∃ob fd,FdAtG P 561 [52] b_law.py ob fd∧(∀s v,BindsTo s fd ⟨[v],[]⟩ (([52].map nm).zip [v]))∧lawChk fd.scope=true:=by
 obtain⟨ob,F⟩:=fd_atX (law_fdchk P) (law_body P)
 exact⟨ob,fdX (K P) 561,F,fun s v=> @BindsTo.of_eq s (fdX (K P) 561) ⟨[v],[]⟩ (([52].map nm).zip [v]) (law_bind P v),law_chk P⟩
noncomputable def LawSpec(N:Nat):Prop:=∀xs:List Int,xs.length≤63→awBs (CSn N) b_law ⟨[(52, .d (.list (xs.map .int))),(53, .no),(38, .no),(37, .no),(45, .no),(5, .no),(17, .no)],[]⟩ (fun _=>False) (fun a _=>a= .d (.bool true)) (fun _=>False)
noncomputable def FC.law(w:World)(s:Shared)(env:Env):FC:={w:=w,hb:=s.heap,A:=callerA.deeper env,env:=env,fe:=env,outs:=[],k0:=⟨fun _=>False,[],s⟩,F:=[],m0:=fun _=>False,n0:=0,cw:=True}
noncomputable def Cs.law(env:Env)(s':Shared):Cs:=⟨fun b=>b=env.locals∨b∈env.cells.map (·.2),[],s'⟩
section
variable{w:World}{s:Shared}{env:Env}
theorem law_ok(X:(K w.params).In s.heap)(T:∃mg mb,TopRead vw loose mg mb s.heap)(hk:env.scope.kind= .function)(hg:env.globals=mainGlobals)(hb:env.builtins=builtinsNs)(hf:env.frame=some env.locals)
  (hcx:∀n,env.kindOf n=some .cell→∃a,env.cells.lookup n=some a)(hcf:∀q∈env.cells,s.heap.get? q.2=none):(FC.law w s env).Ok where
 kin:=X
 top:=T
 base:=fun b o e=>⟨e,id,(fun h=>nomatch h),id⟩
 hd:=rfl
 units:=by show 4+3+1000<cLine;decide
 depth:=by show 1+claimMargin+1<recursionLimit;decide
 kind:=hk
 glob:=hg
 blt:=hb
 frames:=rfl
 fo:= .inl rfl
 fframe:=hf
 fkind:=hk
 outs:=fun e he=>nomatch he
 fz:=fun b hb=>nomatch hb
 fm:=fun b hb=>nomatch hb
 zx:=fun b h=>h.elim
 mz:=fun b h=>h.elim
 guards:=rfl
 cfresh:=fun _ q hq=>⟨hcf q hq,id⟩
 cellx:=hcx
 fok:=fun b hb=>nomatch hb
theorem law_fresh{m cm:Str→Option Value}{s':Shared}(x:InCallC s env.locals m env.cells cm s'):∀b,(b=env.locals∨b∈env.cells.map (·.2))→s.heap.get? b=none:=fun b h=>by
 cases q:s.heap.get? b with
 |none=>rfl
 |some o=>
  rcases h with h|h
  ·exact(notL (Heap.lt_size q) x.toInCall.fresh h).elim
  ·obtain⟨p,hp,e⟩:=List.mem_map.mp h
   exact(notC (Heap.lt_size q) x.toInCall.fresh (x.above p.1 p.2 hp) e.symm).elim
theorem law_rel{m cm:Str→Option Value}{s':Shared}{loc:List (Nat×AV)}(hcl:∀q∈env.cells,env.cells.lookup q.1=some q.2)(x:InCallC s env.locals m env.cells cm s')(hns:∀i a,loc.lookup i=some a→LV env (Cs.law env s') m i a):Rel (FC.law w s env) ⟨loc,[]⟩ (Cs.law env s'):=by
 have fresh:=law_fresh x
 have cellx:∀q∈env.cells,∃o,s'.heap.get? q.2=some o:=fun q hq=>(x.cell _ _ (hcl q hq)).imp fun _ h=>h.1
 obtain⟨ol,es,ep,hol,hdl,_⟩:=id x.toInCall.ns
 refine⟨?_,fun b o _ _ e=>x.toInCall.keep b o e,fun _ _ h _=>absurd h List.not_mem_nil,fun b z=>False.elim z,fun b z=>Or.elim z (fun z=>⟨ol,z▸hol⟩) fun z=>(List.mem_map.mp z).elim fun q h=>h.2▸cellx q h.1,fun b z=> .inr (fresh b z),⟨m,x.toInCall.ns,fun i a e=>hns i a (zel e)⟩, .inl rfl,fun q hq=> .inr (List.mem_map_of_mem hq),fun i o e=>nS e,rfl,fun _ h=>absurd h List.not_mem_nil,?_,fun b hb hz=>⟨.inr (fresh b (.inl ((List.mem_cons.mp hb).elim id fun h=>absurd h List.not_mem_nil))),List.not_mem_nil⟩,⟨ol,hol,fun vs e=>nomatch hdl.symm.trans e⟩,fun i p _ hp=>nS hp⟩
 ·obtain⟨h,tk,e⟩:=x.toInCall.same
  exact e▸rfl
 ·show(env.locals::(env.cells.map (·.2)++[])).Nodup
  rw[List.append_nil]
  refine List.nodup_cons.mpr ⟨fun h=>?_,List.pairwise_map.mpr x.apart⟩
  obtain⟨q,hq,e⟩:=List.mem_map.mp h
  exact Nat.lt_irrefl _ (e▸x.above q.1 q.2 hq)
theorem law_start{ob:Obj}{fd:FuncData}{s':Shared}{a:AV}{v0:Value}(F:FdAtG w.params 561 [52] b_law.py ob fd)(X:(K w.params).In s.heap)(T:∃mg mb,TopRead vw loose mg mb s.heap)(e1:env.scope=fd.scope)(e2:env.globals=mainGlobals)(e3:env.builtins=builtinsNs)(e4:env.cells=cellsFrom (s.heap.objs.size+1) fd.scope.names [])(e5:env.frame=some env.locals)
  (x:InCallC s env.locals (bindL env.kindOf (([52].map nm).zip [v0]) (fun _=>none)) env.cells (bindC env.kindOf (([52].map nm).zip [v0]) (fun _=>none)) s')(hv0:∀g:G,(∀b o,s.heap.get? b=some o→g b o)→VR g [] a v0):
  (FC.law w s env).Ok∧Rel (FC.law w s env) ⟨[(52,a)],[]⟩ (Cs.law env s'):=by
 have hk:∀n,env.kindOf n=fd.scope.names.lookup n:=fun n=>e1▸rfl
 have hcx:∀n,env.kindOf n=some .cell→∃a,env.cells.lookup n=some a:=fun n hn=>e4▸Option.isSome_iff_exists.mp (zbx (.inl ((hk n).symm.trans hn)))
 have hcl:∀q∈env.cells,env.cells.lookup q.1=some q.2:=e4▸zc5 (zdw (by simpa using F.names))
 have fresh:=law_fresh x
 refine⟨law_ok X T (e1▸F.kind) e2 e3 e5 hcx fun q hq=>fresh _ (.inr (List.mem_map_of_mem (f:=(·.2)) hq)),law_rel hcl x fun i b e=>?_⟩
 obtain⟨rfl,rfl⟩:i=52∧a=b:=by
  revert e
  rw[List.lookup_cons]
  cases hb:i==52 with
  |false=>exact fun e=>nS e
  |true=>exact fun e=>⟨beq_iff_eq.mp hb,Option.some.inj e⟩
 have hm:(nm 52,v0)∈([52].map nm).zip [v0]:=List.mem_cons_self
 have nd:((([52].map nm).zip [v0]).map (·.1)).Nodup:=List.nodup_cons.mpr ⟨List.not_mem_nil, .nil⟩
 refine⟨(F.prm 52 (.head _)).1,v0,hv0 _ fun b o q=>⟨x.toInCall.keep b o q,fun z=>nS ((fresh b z).symm.trans q)⟩,(F.prm 52 (.head _)).2.imp (fun g=>⟨(hk _).trans g,zgg nd hm ((hk _).trans g)⟩) fun g=>⟨(hk _).trans g,?_⟩⟩
 exact(hcx _ ((hk _).trans g)).imp fun a' ea=>⟨ea,x.cell _ _ ea|>fun h=>zgp nd hm ((hk _).trans g)▸h⟩
theorem cell_keep{σ σ':St}{k k':Cs}{n:Str}{ca:Addr}{v:Option Value}(R:Rel (FC.law w s env) σ k)(hca:env.cells.lookup n=some ca)(R2:Rel ((FC.law w s env).re k) σ' k')(hc:k.s.heap.IsCell ca v):k'.s.heap.IsCell ca v:=by
 obtain⟨o,e,d⟩:=hc
 refine⟨o,R2.keep ca o (fun z=>?_) (fun z=>nomatch z) e,d⟩
 have nd':=List.nodup_cons.mp R.nodup
 have hm:=List.mem_map_of_mem (f:=(·.2)) (zak hca)
 rcases List.mem_cons.mp z.1 with z|z
 ·exact nd'.1 ((show ca=env.locals from z)▸List.mem_append_left _ hm)
 ·exact(List.nodup_append.mp nd'.2).2.2 ca hm ca z rfl
theorem EX.no{c:FC}{e:Value}{s:Shared}{p:Prop}(h:EX c (fun _=>False) e s):p:=h.elim fun _ h=>h.elim fun _ h=>h.1.elim
section
variable{N:Nat}{σ0:St}{s':Shared}{k k2:Cs}{σ:St}{ca:Addr}{v:Option Value}
theorem law_set(HC:zbe (CSn N) ((FC.law w s env).re k))(ok:(FC.law w s env).Ok)(R:Rel (FC.law w s env) σ k)(hk38:env.kindOf (nm 38)=some .cell)(hca:env.cells.lookup (nm 38)=some ca)(hc:k.s.heap.IsCell ca v)(c2:chk none env.scope lawE2=true)(c3:zbw lawE2=true){Φ:St→Prop}{Ρ:AV→St→Prop}
  (q:awS (CSn N) (.set 38 lawP2.1 lawE2 lawP2.2) σ Φ Ρ (fun _=>False)):
  wpAny (model pw w) (callerA.deeper env) (exec (.Assign [.Name (nm 38) lawP2.1] lawE2.py lawP2.2) env) (PostF (FC.law w s env) k Φ Ρ) (EX (FC.law w s env) (fun _=>False)) k.s:=by
 unfold awS at q
 refine wpAny_Assign_Name (wpAny_mono (awp_ok (c:=(FC.law w s env).re k) lawE2 (fz:=none) HC (FC.re_ok ok R) (fun n z=>nS z) c2 (.inr rfl) (R.re ok) q) (fun v s4 hp=>?_) fun e s he=>he.no) (noSwap c3 _ _ _)
 obtain⟨a,σ4,k4,rfl,q4,x4,R4,hv4⟩:=hp
 have R5:=R.back ok R4 x4
 refine wpAny_storeName_cell ok.kind hk38 hca (cell_keep R hca R4 hc) fun h' hc' hs'=>?_
 rw[St.fc_eq]at q4
 exact⟨σ4.set 38 a,k4.at h' k4.s.toks,rfl,q4,x4.trans ((But.of hs').nx (R5.cz _ (zak hca)) _),R5.setCell ok trivial hk38 hca (by decide) hc' hs' hv4⟩
theorem law_run{cm:Str→Option Value}(hN:302+N+20≤recursionLimit)(h:awBs (CSn N) b_law σ0 (fun _=>False) (fun a _=>a= .d (.bool true)) (fun _=>False))(ok:(FC.law w s env).Ok)(R:Rel (FC.law w s env) σ0 (Cs.law env s'))
  (hcell:∀n c,env.cells.lookup n=some c→s'.heap.IsCell c (cm n))(hchk:lawChk env.scope=true):
  wpAny (model pw w) (callerA.deeper env) (execs b_law.py env) (PostF (FC.law w s env) (Cs.law env s') (fun _=>False) (fun a _=>a= .d (.bool true))) (EX (FC.law w s env) (fun _=>False)) s':=by
 have HC:∀c':FC,c'.A=callerA.deeper env→Calls1 (CSn N) c':=fun c' hA=>calls_ok N c' (hA▸⟨hN,Nat.lt_of_le_of_lt (Nat.add_le_add_right (Nat.add_le_add_left (Nat.mul_le_mul_left 5 (show N≤678 from Nat.le_of_add_le_add_left (Nat.le_of_add_le_add_right hN))) 7) 1400) (by decide:7+5*678+1400<cLine)⟩)
 have h1:=and2 hchk
 have h2:=and2 h1.2
 have h3:=and2 h2.2
 have h4:=and2 h3.2
 rw[law_parts]at h ⊢
 have hk38:env.kindOf (nm 38)=some .cell:=beq_iff_eq.mp (and2 h4.2).1
 obtain⟨ca,hca⟩:=ok.cellx (nm 38) hk38
 refine wpAny_execs_cons (wpAny_mono (s_ok lawS1 (Ρ:=fun a _=>a= .d (.bool true)) (c:=(FC.law w s env).re (Cs.law env s')) (fz:=none) ⟨fun c' a _=>HC c' a,FC.re_ok ok R,fun n z=>nS z,R.re ok⟩ rfl h1.1 h) (fun fl s2 hf=>?_) fun e s he=>he.no)
 cases fl with
 |ret v=>obtain⟨a,σ2,k2,e,q,x2,R2,hv2⟩:=hf;exact⟨a,σ2,k2,e,q,x2,R.back ok R2 x2,hv2⟩
 |brk=>exact False.elim hf
 |cont=>exact False.elim hf
 |next=>
 obtain⟨σ2,k2,rfl,q,x2,R2⟩:=hf
 refine wpAny_execs_cons (wpAny_mono (law_set (Φ:=fun σ'=>awBs (CSn N) lawRest σ' (fun _=>False) (fun a _=>a= .d (.bool true)) (fun _=>False)) (Ρ:=fun a _=>a= .d (.bool true)) (fun c' a _=>HC c' a) ok (R.back ok R2 x2) hk38 hca (cell_keep R hca R2 (hcell _ _ hca)) h2.1 h3.1 q) (fun fl s3 hf=>?_) fun e s he=>he.no)
 cases fl with
 |ret v=>exact Post.ext x2 hf
 |brk=>exact False.elim hf
 |cont=>exact False.elim hf
 |next=>
  obtain⟨σ5,k5,rfl,q5,x5,R5⟩:=hf
  exact PostF.wp (x2.trans x5) (Bs_ok (c:=FC.law w s env) lawRest (fz:=none) (fun c' a _=>HC c' a) ok rfl (fun n z=>nS z) h4.1 R5 q5)
end
end
theorem ints_of{R:WRecords}{as:List WData}:WShape.hasItems R as .int=true→∃xs:List Int,as=xs.map .int:=by
 induction as with
 |nil=>exact fun _=>⟨[],rfl⟩
 |cons a r ih=>
  unfold WShape.hasItems
  intro h
  have h1:=and2 h
  obtain⟨xs,rfl⟩:=ih h1.2
  cases a with
  |int i=>exact⟨i::xs,rfl⟩
  |_=>exact nomatch h1.1
theorem pre_len{R:WRecords}{ds:List WData}(h:WTm.holds R H.RR.row.pre {args:=[.list ds]}=true):ds.length≤63:=by
 have e:WTm.value R H.RR.row.pre {args:=[.list ds]}=some (.bool (!decide ((63:Int)<ds.length)&&true)):=by
  show WTm.value R (WTm.and (.not (.lt (.lit (.int 63)) (.len (.arg 0)))) (.lit (.bool true))) _=_
  simp only[WTm.value,List.getElem?_cons_zero,Option.bind_some]
  have hl:less? (.int 63) (.int ds.length)=some (decide ((63:Int)<ds.length)):=rfl
  simp only[hl]
  cases decide ((63:Int)<ds.length)<;>rfl
 unfold WTm.holds at h
 rw[e]at h
 exact Decidable.byContradiction fun q=>by
  rw[decide_eq_true (show(63:Int)<ds.length from Int.ofNat_lt.mpr (Nat.lt_of_not_le q))]at h
  exact nomatch h
theorem rd_ints{R:WRecords}{cl:Str→Option Addr}{h:Heap}{g:G}{xs:List Int}:∀{vs:List Value}{as:List Addr},ReadsAllW R cl h vs (xs.map .int) as→RdAll g vs (xs.map .int):=by
 induction xs with
 |nil=>exact fun r=>by cases r;exact .nil
 |cons x xs ih=>
  exact fun r=>by
   cases r with|cons a b=>?_
   cases a
   exact .cons (.int _ _) (ih b)
theorem law_post(args:List WData):H.RR.row.claim.post args (.bool true) args=true:=by
 show(WShape.has H.RR.row.records (.bool true) .bool&&WTm.holds H.RR.row.records (.eq .res (.lit (.bool true))) {args:=args,res:=some (.bool true),after:=args})=true
 kernel_rfl
theorem law_args{args:List WData}(h:H.RR.row.claim.pre args=true):∃xs:List Int,args=[.list (xs.map .int)]∧xs.length≤63:=by
 obtain⟨h1,h2⟩:=pre_splitW h
 cases args with
 |nil=>exact nomatch h1
 |cons a r=>cases r with
  |cons b r=>exact nomatch (Bool.and_false _).symm.trans (show(WShape.has H.RR.row.records a (.list .int)&&false)=true from h1)
  |nil=>
   have h1:=(and2 (show(WShape.has H.RR.row.records a (.list .int)&&true)=true from h1)).1
   cases a with
   |list ds=>
    obtain⟨xs,rfl⟩:=ints_of (R:=H.RR.row.records) (as:=ds) ((Bool.or_false _).symm.trans (show(WShape.hasItems H.RR.row.records ds .int||false)=true from h1))
    exact⟨xs,rfl,List.length_map (as:=xs) WData.int▸pre_len h2⟩
   |_=>exact nomatch h1
theorem law_vals{R:WRecords}{cl:Str→Option Addr}{h:Heap}{xs:List Int}{vals:List Value}{as:List Addr}(r:ReadsAllW R cl h vals [.list (xs.map .int)] as):∃v,vals=[v]∧∀g:G,(∀b o,h.get? b=some o→g b o)→Rd g v (.list (xs.map .int)):=by
 cases r with|cons r1 r2=>?_
 cases r2
 cases r1 with|list g1 g2 g3 g4=>?_
 exact⟨_,rfl,fun g k=> .list (k _ _ g1) g2 g3 (rd_ints g4)⟩
theorem walk_of{N:Nat}(hN:302+N+20≤recursionLimit)(h:LawSpec N):H.Walk:=by
 intro w s₀ s₁ mg mb GG Y a o pm cd doc dV kV ha ho hc hd hmg hg args vals as hpre hlay hread hwell hsys
 have X:(K w.params).In s₁.heap:=kIn_of Y
 have T:TopRead vw loose mg mb s₁.heap:=by
  have:=topRead_of GG.T
  rw[show looseW vw H.loose=loose from loose_eq]at this
  exact this
 obtain rfl:(561:Addr)=a:=Value.ref.inj (Option.some.inj ((mg_of X T.g (law_look w.params)).symm.trans hmg))
 obtain⟨xs,rfl,hxs⟩:=law_args hpre
 obtain⟨v0,rfl,hv0⟩:=law_vals hread
 obtain⟨ob,fd,F,hbind,hchk⟩:=law_fd w.params
 refine wpAny_call (codeAny_call_function (by decide) (X _ _ F.look) F.data F.co F.gen F.body (F.code _ X) (hbind _ _ _ _ _ _ ?_))
 rw[F.clo]
 have hkinds:∀x∈([52].map nm).zip [v0],fd.scope.names.lookup x.1=some .local∨(fd.scope.names.lookup x.1=some .cell∧((cellsFrom (s₁.heap.objs.size+1) fd.scope.names []).lookup x.1).isSome=true):=fun x hx=>
  List.mem_singleton.mp (show x∈[(nm 52,v0)]from hx)▸(F.prm 52 (.head _)).2.imp id fun z=>⟨z,zbx (.inl z)⟩
 refine wpAny_newFunctionEnv_cells F.kind hkinds fun env he s' x=>⟨T.nolimit.keeps x.toInCall.keep,?_⟩
 obtain⟨ok,R⟩:=law_start (env:=env) (a:= .d (.list (xs.map .int))) F X ⟨mg,mb,T⟩ (he▸rfl) (he▸F.glob) (he▸F.blt) (he▸rfl) (he▸rfl) x hv0
 refine codeAny_func (wpAny_mono (law_run hN (h xs hxs) ok (R.lay [52,53,38,37,45,5,17]) (fun n c q=>x.cell n c q) (he▸hchk)) (fun fl s2 hf=>?_) fun e s2 he=>he.no)
 cases fl with
 |next=>obtain⟨_,_,_,q,_,_⟩:=hf;exact q.elim
 |brk=>exact False.elim hf
 |cont=>exact False.elim hf
 |ret v=>
  obtain⟨a,σ2,k2,rfl,rfl,x2,R2,hv2⟩:=hf
  obtain rfl:v= .bool true:=Rd.elB (G:=fun v=>v= .bool true) hv2 rfl
  have e:=R2.rest
  exact⟨.inl ⟨.bool true, .bool true,[],rfl,fun _=>rfl, .bool _,law_post _,fun _=>⟨List.nodup_nil,fun a ha=>nomatch ha⟩⟩, .of_keep fun b o e=>R2.keep b o id (fun z=>nomatch z) e,by rw[e];rfl, .of_eq (by rw[e];exact hg)⟩
end Mine
namespace Mine
theorem law_holds:LawSpec 412:=fun xs hxs=>by
 rw[←Cal_eq]
 exact law_spec (n:=400) (by decide) (fun ns h m hm=>good hm h) xs hxs
end Mine
set_option maxRecDepth 100000 in
theorem PySem.Challenge.cw_nn0379_01_holds : PySem.Challenge.rw_nn0379_01.Holds :=
  Mine.H.hd (Mine.walk_of (N := 412) (by decide) Mine.law_holds)
